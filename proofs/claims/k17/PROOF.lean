import PyProof.Rows.All
import Wide.All
import OpenK.AllK
import Wide.FinOn
import HandS.ForMost
import HandS.Exc
import HandS.TryOnly
import HandS.ExcOwn
import HandS.WordsExc
import HandS.Deep
import HandS.IsInst
import HandS.TupAny
import HandS.TupLe
import HandS.Zip
import HandS.Flow
import HandS.Defaults
import HandS.Wide
import HandS.Dict
import HandS.Strs
import HandS.HeadHook1
import KE.SortData
import HandS.HeadEnd
import HandS.HeadHook4
import HandS.Head2
import KE.DataFind
import HandS.Set
import HandS.SetTxt0
import HandS.SetFor
import KE.GoesEnum
import KE.GoesNew
import HandS.SetBool
import HandS.TupSets
import HandS.More
import HandS.Walk
import HandS.ReplaceLit
import HandS.DictComp
import KE.KDictCopyH
import PyProof.ReprRoads
import HandS.Style
import HandS.MakeKwOnly
import PySem.Challenge.RW_rowveil_k17_whole_rules
set_option Elab.async false
set_option linter.all false
set_option maxRecDepth 100000
set_option maxHeartbeats 4000000
/-! the data of the pure part of Python, what stands for it in the heap -/
namespace M
open PySem PySem.Spec PyProof.Rows L2

inductive D where
  | non | bl (b : Bool) | int (i : Int) | str (x : Str)
  | tup (xs : List D) | lst (xs : List D)
  deriving Inhabited

/-- a changeable object of the call: a list, a dict; given away -/
inductive O where
  | lst (xs : List D) | dt (kvs : List (List Key × D)) | dk (kvs : List (Key × D)) | dead
  deriving Inhabited

/-- a value: data; an object of the state; a dict that stays (keys: atoms; tuples of atoms); a record of a class, its fields by name -/
inductive SV where
  | t (d : D) | o (i : Nat)
  | kd (kvs : List (Key × D)) | td (kvs : List (List Key × D))
  | ins (c : Str) (ns : List Str) (fs : List SV)
  deriving Inhabited

abbrev St' := List O
abbrev Ev := List (Option SV)

inductive R (α : Type) where
  | ok (a : α) (S : St') | exc (c : Nat) (p : List D) (S : St') | bad

namespace R
def bind {α β : Type} : R α → (α → St' → R β) → R β
  | .ok a S, f => f a S
  | .exc c p S, _ => .exc c p S
  | .bad, _ => .bad
@[simp] theorem bind_ok {α β : Type} (a : α) (S : St') (f : α → St' → R β) : (R.ok a S).bind f = f a S := rfl
@[simp] theorem bind_exc {α β : Type} (c : Nat) (p : List D) (S : St') (f : α → St' → R β) : (R.exc c p S : R α).bind f = .exc c p S := rfl
@[simp] theorem bind_bad {α β : Type} (f : α → St' → R β) : (R.bad : R α).bind f = .bad := rfl
theorem bind_assoc {α β γ : Type} (r : R α) (f : α → St' → R β) (g : β → St' → R γ) : (r.bind f).bind g = r.bind fun a S => (f a S).bind g := by cases r <;> rfl
def opt {α : Type} (o : Option α) (S : St') : R α := match o with
  | some a => .ok a S
  | none => .bad
@[simp] theorem opt_some {α : Type} (a : α) (S : St') : opt (some a) S = .ok a S := rfl
@[simp] theorem opt_none {α : Type} (S : St') : opt (none : Option α) S = .bad := rfl
end R

/-- the addresses of the live objects: not to be seen by data -/
def Own (m : List Addr) (S : St') (a : Addr) : Prop := ∃ i : Nat, m[i]? = some a ∧ ∃ o, S[i]? = some o ∧ o ≠ .dead

/-- as SqT, SqL, what is tracked being none of the live objects -/
def QT (K : PySem.W.Frag) (H : Hp) (N : Addr → Prop) (a : Addr) (xs : List V) : Prop :=
  (∃ o : Obj, H a = some (.frz o (.tup xs)) ∧ o.cls = .type "tuple" ∧ o.dict = none ∧ ¬ N a) ∨ ∃ (o : Obj) (its : Array Value) (n : Nat), K.lookup a = some o ∧ o.cls = .type "tuple" ∧ o.data = .seq its n ∧ its.size ≤ sizeLine ∧ Vals xs its.toList ∧ o.dict = none
def QL (H : Hp) (N : Addr → Prop) (a : Addr) (xs : List V) : Prop := Rd H a (.lst xs) ∧ ¬ N a
theorem QT.sq {K : PySem.W.Frag} {H : Hp} {N : Addr → Prop} {a : Addr} {xs : List V} (h : QT K H N a xs) : SqT K H a xs := h.elim (fun ⟨o, z, _⟩ => .inl (.inr ⟨o, z⟩)) fun ⟨o, its, n, a, b, c, d, e, _⟩ => .inr ⟨o, its, n, a, b, c, d, e⟩
theorem QL.sq {K : PySem.W.Frag} {H : Hp} {N : Addr → Prop} {a : Addr} {xs : List V} (h : QL H N a xs) : SqL K H a xs := .inl h.1

mutual
inductive Rep (K : PySem.W.Frag) (H : Hp) (N : Addr → Prop) : V → D → Prop
  | non : Rep K H N .non .non
  | bl (b : Bool) : Rep K H N (.bl b) (.bl b)
  | int (i : Int) : Rep K H N (.int i) (.int i)
  | str (x : Str) : Rep K H N (.str x) (.str x)
  | tup {a : Addr} {vs : List V} {ds : List D} : QT K H N a vs → Reps K H N vs ds → Rep K H N (.ref a) (.tup ds)
  | lst {a : Addr} {vs : List V} {ds : List D} : QL H N a vs → Reps K H N vs ds → Rep K H N (.ref a) (.lst ds)
inductive Reps (K : PySem.W.Frag) (H : Hp) (N : Addr → Prop) : List V → List D → Prop
  | nil : Reps K H N [] []
  | cons {v : V} {vs : List V} {d : D} {ds : List D} : Rep K H N v d → Reps K H N vs ds → Reps K H N (v :: vs) (d :: ds)
end

/-- what is seen stays, and stays seen -/
def Fr (H : Hp) (m : List Addr) (S : St') (H' : Hp) (m' : List Addr) (S' : St') : Prop :=
  (∀ a o, H a = some o → ¬ Own m S a → H' a = some o ∧ ¬ Own m' S' a) ∧ m <+: m'

theorem Fr.refl {H : Hp} {m : List Addr} {S : St'} : Fr H m S H m S := ⟨fun _ _ h n => ⟨h, n⟩, List.prefix_refl _⟩
theorem Fr.trans {H H1 H2 : Hp} {m m1 m2 : List Addr} {S S1 S2 : St'} (a : Fr H m S H1 m1 S1) (b : Fr H1 m1 S1 H2 m2 S2) : Fr H m S H2 m2 S2 :=
  ⟨fun c o h n => let ⟨h1, n1⟩ := a.1 c o h n; b.1 c o h1 n1, a.2.trans b.2⟩

section
variable {K : PySem.W.Frag} {H H' : Hp} {N N' : Addr → Prop}
theorem QT.mono (f : ∀ a o, H a = some o → ¬ N a → H' a = some o ∧ ¬ N' a) {a : Addr} {xs : List V} (h : QT K H N a xs) : QT K H' N' a xs := by
  rcases h with ⟨o, h, c, d, n⟩ | h
  · exact .inl ⟨o, (f _ _ h n).1, c, d, (f _ _ h n).2⟩
  · exact .inr h
theorem QL.mono (f : ∀ a o, H a = some o → ¬ N a → H' a = some o ∧ ¬ N' a) {a : Addr} {xs : List V} (h : QL H N a xs) : QL H' N' a xs := by
  rcases h with ⟨h | ⟨o, h⟩, n⟩
  · exact ⟨.inl (f _ _ h n).1, (f _ _ h n).2⟩
  · exact ⟨.inr ⟨o, (f _ _ h n).1⟩, (f _ _ h n).2⟩
mutual
theorem Rep.mono (f : ∀ a o, H a = some o → ¬ N a → H' a = some o ∧ ¬ N' a) : ∀ {v : V} {d : D}, Rep K H N v d → Rep K H' N' v d
  | _, _, .non => .non
  | _, _, .bl b => .bl b
  | _, _, .int i => .int i
  | _, _, .str x => .str x
  | _, _, .tup q r => .tup (q.mono f) (Reps.mono f r)
  | _, _, .lst q r => .lst (q.mono f) (Reps.mono f r)
theorem Reps.mono (f : ∀ a o, H a = some o → ¬ N a → H' a = some o ∧ ¬ N' a) : ∀ {v : List V} {d : List D}, Reps K H N v d → Reps K H' N' v d
  | _, _, .nil => .nil
  | _, _, .cons q r => .cons (Rep.mono f q) (Reps.mono f r)
end
end

/-- an object as it stands -/
def ORep (K : PySem.W.Frag) (H : Hp) (N : Addr → Prop) (a : Addr) : O → Prop
  | .lst xs => ∃ vs, H a = some (.lst vs) ∧ Reps K H N vs xs
  | .dt kvs => ∃ kv : List (List Key × V), H a = some (.dT kv) ∧ kv.map (·.1) = kvs.map (·.1) ∧ (kvs.map (·.1)).Nodup ∧ Reps K H N (kv.map (·.2)) (kvs.map (·.2))
  | .dk kvs => ∃ kv : List (Key × V), H a = some (.dK kv) ∧ kv.map (·.1) = kvs.map (·.1) ∧ Reps K H N (kv.map (·.2)) (kvs.map (·.2))
  | .dead => ∃ o, H a = some o

structure StOk (K : PySem.W.Frag) (H : Hp) (m : List Addr) (S : St') : Prop where
  len : m.length = S.length
  nd : m.Nodup
  at_ : ∀ (i : Nat) (a : Addr) (o : O), m[i]? = some a → S[i]? = some o → ORep K H (Own m S) a o

/-- what the text's class c, with the fields ns, must have -/
def ClsF (K : PySem.W.Frag) (c : Str) (ns : List Str) : Prop := Cls K (He.ga K c) ∧ ∀ f ∈ ns, NoAttr K (He.ga K c) f
mutual
def RepS (K : PySem.W.Frag) (H : Hp) (m : List Addr) (S : St') (v : V) : SV → Prop
  | .t d => Rep K H (Own m S) v d
  | .o i => ∃ a, m[i]? = some a ∧ v = .ref a
  | .kd kvs => ∃ (a : Addr) (kv : List (Key × V)), v = .ref a ∧ Rd H a (.dK kv) ∧ ¬ Own m S a ∧ kv.map (·.1) = kvs.map (·.1) ∧ Reps K H (Own m S) (kv.map (·.2)) (kvs.map (·.2))
  | .td kvs => ∃ (a : Addr) (kv : List (List Key × V)), v = .ref a ∧ Rd H a (.dT kv) ∧ ¬ Own m S a ∧ kv.map (·.1) = kvs.map (·.1) ∧ Reps K H (Own m S) (kv.map (·.2)) (kvs.map (·.2))
  | .ins c ns fs => ∃ (a dx : Addr) (us : List V), v = .ref a ∧ H a = some (.ins (He.ga K c) dx (ns.zip us)) ∧ ¬ Own m S a ∧ us.length = ns.length ∧ ClsF K c ns ∧ RepL K H m S us fs
def RepL (K : PySem.W.Frag) (H : Hp) (m : List Addr) (S : St') : List V → List SV → Prop
  | us, [] => us = []
  | us, d :: ds => ∃ u r, us = u :: r ∧ RepS K H m S u d ∧ RepL K H m S r ds
end
inductive RepSs (K : PySem.W.Frag) (H : Hp) (m : List Addr) (S : St') : List V → List SV → Prop
  | nil : RepSs K H m S [] []
  | cons {v : V} {vs : List V} {d : SV} {ds : List SV} : RepS K H m S v d → RepSs K H m S vs ds → RepSs K H m S (v :: vs) (d :: ds)

theorem Rd.monoF {H H' : Hp} {m m' : List Addr} {S S' : St'} (f : Fr H m S H' m' S') {a : Addr} {u : HO} (h : Rd H a u) (n : ¬ Own m S a) : Rd H' a u ∧ ¬ Own m' S' a := by
  rcases h with h | ⟨o, h⟩
  · exact ⟨.inl (f.1 _ _ h n).1, (f.1 _ _ h n).2⟩
  · exact ⟨.inr ⟨o, (f.1 _ _ h n).1⟩, (f.1 _ _ h n).2⟩
mutual
theorem RepS.mono {K : PySem.W.Frag} {H H' : Hp} {m m' : List Addr} {S S' : St'} (f : Fr H m S H' m' S') : ∀ {v : V} {d : SV}, RepS K H m S v d → RepS K H' m' S' v d
  | v, .t d, h => by rw [RepS] at h ⊢; exact Rep.mono f.1 h
  | v, .o i, h => by
    rw [RepS] at h ⊢
    obtain ⟨a, e, r⟩ := h
    refine ⟨a, ?_, r⟩
    obtain ⟨t, rfl⟩ := f.2
    have hi : i < m.length := (List.getElem?_eq_some_iff.mp e).1
    rw [List.getElem?_append_left hi]; exact e
  | v, .kd kvs, h => by
    rw [RepS] at h ⊢
    obtain ⟨a, kv, rfl, h1, h2, h3, h4⟩ := h
    exact ⟨a, kv, rfl, (Rd.monoF f h1 h2).1, (Rd.monoF f h1 h2).2, h3, h4.mono f.1⟩
  | v, .td kvs, h => by
    rw [RepS] at h ⊢
    obtain ⟨a, kv, rfl, h1, h2, h3, h4⟩ := h
    exact ⟨a, kv, rfl, (Rd.monoF f h1 h2).1, (Rd.monoF f h1 h2).2, h3, h4.mono f.1⟩
  | v, .ins c ns fs, h => by
    rw [RepS] at h ⊢
    obtain ⟨a, dx, us, rfl, h1, h2, h3, h4, h5⟩ := h
    exact ⟨a, dx, us, rfl, (f.1 _ _ h1 h2).1, (f.1 _ _ h1 h2).2, h3, h4, RepL.mono f h5⟩
theorem RepL.mono {K : PySem.W.Frag} {H H' : Hp} {m m' : List Addr} {S S' : St'} (f : Fr H m S H' m' S') : ∀ {us : List V} {ds : List SV}, RepL K H m S us ds → RepL K H' m' S' us ds
  | us, [], h => by rw [RepL] at h ⊢; exact h
  | us, d :: ds, h => by
    rw [RepL] at h ⊢
    obtain ⟨u, r, rfl, h1, h2⟩ := h
    exact ⟨u, r, rfl, RepS.mono f h1, RepL.mono f h2⟩
end
theorem RepSs.mono {K : PySem.W.Frag} {H H' : Hp} {m m' : List Addr} {S S' : St'} (f : Fr H m S H' m' S') : ∀ {vs : List V} {ds : List SV}, RepSs K H m S vs ds → RepSs K H' m' S' vs ds
  | _, _, .nil => .nil
  | _, _, .cons q r => .cons (q.mono f) (RepSs.mono f r)
theorem RepSs.length {K : PySem.W.Frag} {H : Hp} {m : List Addr} {S : St'} : ∀ {vs : List V} {ds : List SV}, RepSs K H m S vs ds → vs.length = ds.length
  | _, _, .nil => rfl
  | _, _, .cons _ r => by simp [RepSs.length r]
theorem Reps.length {K : PySem.W.Frag} {H : Hp} {N : Addr → Prop} : ∀ {vs : List V} {ds : List D}, Reps K H N vs ds → vs.length = ds.length
  | _, _, .nil => rfl
  | _, _, .cons _ r => by simp [Reps.length r]

/-- the slots -/
def RelE (K : PySem.W.Frag) (H : Hp) (m : List Addr) (S : St') (σ : L2.St) (ρ : Ev) : Prop :=
  σ.length = ρ.length ∧ ∀ (i : Nat) (d : SV), ρ[i]? = some (some d) → ∃ v, σ[i]? = some (some v) ∧ RepS K H m S v d
theorem RelE.mono {K : PySem.W.Frag} {H H' : Hp} {m m' : List Addr} {S S' : St'} {σ : L2.St} {ρ : Ev} (f : Fr H m S H' m' S') (h : RelE K H m S σ ρ) : RelE K H' m' S' σ ρ :=
  ⟨h.1, fun i d e => let ⟨v, a, b⟩ := h.2 i d e; ⟨v, a, b.mono f⟩⟩
theorem RelE.set {K : PySem.W.Frag} {H : Hp} {m : List Addr} {S : St'} {σ : L2.St} {ρ : Ev} {v : V} {d : SV} (h : RelE K H m S σ ρ) (i : Nat) (r : RepS K H m S v d) : RelE K H m S (σ.set i (some v)) (ρ.set i (some d)) := by
  refine ⟨by simp [h.1], fun j e he => ?_⟩
  by_cases hj : i = j
  · subst hj
    have hi : i < ρ.length := by
      have := (List.getElem?_eq_some_iff.mp he).1
      simpa using this
    rw [List.getElem?_set_self hi] at he
    cases he
    exact ⟨v, by rw [List.getElem?_set_self (by rw [h.1]; exact hi)], r⟩
  · rw [List.getElem?_set_ne hj] at he
    obtain ⟨u, a, b⟩ := h.2 j e he
    exact ⟨u, by rw [List.getElem?_set_ne hj]; exact a, b⟩

/-- what is wanted of an exception: its class, its fields -/
abbrev WD := Nat → List D → Hp → List Addr → St' → Prop
/-- what a run of data asks of what follows -/
def Run {α : Type} (K : PySem.W.Frag) (P : Hp → List Addr → St' → α → Prop) (W : WD) (H : Hp) (m : List Addr) (S : St') : R α → Prop
  | .ok a S' => ∀ H' m', StOk K H' m' S' → Fr H m S H' m' S' → P H' m' S' a
  | .exc c p S' => ∀ H' m', StOk K H' m' S' → Fr H m S H' m' S' → W c p H' m' S'
  | .bad => False
theorem Run.bind {α β : Type} {K : PySem.W.Frag} {P : Hp → List Addr → St' → α → Prop} {P' : Hp → List Addr → St' → β → Prop} {W : WD} {H : Hp} {m : List Addr} {S : St'} {r : R α} {f : α → St' → R β}
    (h : Run K P' W H m S (r.bind f)) (hk : ∀ a S1 H1 m1, StOk K H1 m1 S1 → Fr H m S H1 m1 S1 → Run K P' W H1 m1 S1 (f a S1) → P H1 m1 S1 a) : Run K P W H m S r := by
  cases r with
  | bad => exact h
  | exc c p S' => exact h
  | ok a S1 =>
    intro H1 m1 ok1 f1
    refine hk a S1 H1 m1 ok1 f1 ?_
    have h' : Run K P' W H m S (f a S1) := h
    revert h'
    cases f a S1 with
    | bad => exact id
    | exc c p S2 => exact fun h' H2 m2 ok2 f2 => h' H2 m2 ok2 (f1.trans f2)
    | ok b S2 => exact fun h' H2 m2 ok2 f2 => h' H2 m2 ok2 (f1.trans f2)
end M

/-! what a law's head asks of the module, by its objects -/
namespace M
open PySem PySem.Spec PyProof.Rows L2
mutual
def valB (K : PySem.W.Frag) : D → Value → Bool
  | .non, .none => true
  | .bl b, .bool c => b == c
  | .int i, .int j _ => decide (i = j)
  | .str x, .str y _ => decide (x = y)
  | .tup ds, .ref a => (match K.lookup a with
    | some ⟨.type c, od, .seq its _, _⟩ => decide (c = "tuple") && od.isNone && decide (its.size ≤ sizeLine) && valsB K ds its.toList
    | _ => false)
  | _, _ => false
def valsB (K : PySem.W.Frag) : List D → List Value → Bool
  | [], [] => true
  | d :: ds, u :: us => valB K d u && valsB K ds us
  | _, _ => false
end
def noL (K : PySem.W.Frag) : Bool := K.all fun p => match p.2.cls with
  | .type c => !decide (c = "list")
  | _ => true
def conB (K : PySem.W.Frag) (p : Str × D) : Bool := match PySem.W.nsIn K mainGlobals p.1 with
  | some (some u) => valB K p.2 u
  | _ => false
/-- the entries of a written dict -/
def entB (K : PySem.W.Frag) : List (Str × D) → List DictEntry → Bool
  | [], [] => true
  | q :: qs, e :: es => (match e.key with | .str y _ => decide (y = q.1) | _ => false) && valB K q.2 e.val && entB K qs es
  | _, _ => false
def gdB (K : PySem.W.Frag) (p : Str × List (Str × D)) : Bool := match K.lookup (He.ga K p.1) with
  | some ⟨_, _, .dict es _, _⟩ => entB K p.2 es.toList
  | _ => false
/-- a class of the text: its __init__ stores its arguments -/
structure Cn where
  name : Str
  sf : Str
  ns : List Str
  d : He.DefD
def cnFa (c : Cn) : List He.Fa := [.glo c.name, .cls c.name, .mkr c.name] ++ c.ns.map (.noat c.name ·)
end M

namespace M
open PySem PySem.Spec PyProof.Rows L2
namespace k17
abbrev pw : Program := PySem.Challenge.pw_rowveil_k17_whole_rules
abbrev rw_ : PySem.W.OpenLaw := PySem.Challenge.rw_rowveil_k17_whole_rules
def top (i : Nat) : Stmt := pw.main.body.getD i (.Pass ⟨0, 0, 0, 0⟩)
def clsIn (s : Stmt) (j : Nat) : Stmt := match s with | .ClassDef (body := b) .. => b.getD j (.Pass ⟨0, 0, 0, 0⟩) | _ => .Pass ⟨0, 0, 0, 0⟩
def cn_Scene : Cn := ⟨"Scene", "self", ["tables", "user", "views", "every"], ⟨("Scene", some "__init__"), "__init__", "Scene.__init__", defArgs (clsIn (top 3) 0), defBody (clsIn (top 3) 0), defScope (clsIn (top 3) 0), [], []⟩⟩
def free : List Str := ["tuple", "zip", "sorted", "any", "all", "len", "int", "range", "min", "enumerate", "set"]
def d_names_of : He.DefD := ⟨("names_of", none), "names_of", "names_of", defArgs (top 1), defBody (top 1), defScope (top 1), [], []⟩
def d_tables_of : He.DefD := ⟨("tables_of", none), "tables_of", "tables_of", defArgs (top 4), defBody (top 4), defScope (top 4), [], []⟩
def d_look : He.DefD := ⟨("look", none), "look", "look", defArgs (top 5), defBody (top 5), defScope (top 5), [], []⟩
def d_look_joined : He.DefD := ⟨("look_joined", none), "look_joined", "look_joined", defArgs (top 6), defBody (top 6), defScope (top 6), [], []⟩
def d_look_has : He.DefD := ⟨("look_has", none), "look_has", "look_has", defArgs (top 7), defBody (top 7), defScope (top 7), [], []⟩
def d_is_for : He.DefD := ⟨("is_for", none), "is_for", "is_for", defArgs (top 9), defBody (top 9), defScope (top 9), [], []⟩
def d_rules_for : He.DefD := ⟨("rules_for", none), "rules_for", "rules_for", defArgs (top 10), defBody (top 10), defScope (top 10), [], []⟩
def d_every_scene : He.DefD := ⟨("every_scene", none), "every_scene", "every_scene", defArgs (top 11), defBody (top 11), defScope (top 11), [], []⟩
def d_may : He.DefD := ⟨("may", none), "may", "may", defArgs (top 12), defBody (top 12), defScope (top 12), [], []⟩
def d_seen_world : He.DefD := ⟨("seen_world", none), "seen_world", "seen_world", defArgs (top 13), defBody (top 13), defScope (top 13), [], []⟩
def d__law_cell_at : He.DefD := ⟨("_law_cell_at", none), "_law_cell_at", "_law_cell_at", defArgs (top 15), defBody (top 15), defScope (top 15), [], []⟩
def d__law_draws : He.DefD := ⟨("_law_draws", none), "_law_draws", "_law_draws", defArgs (top 16), defBody (top 16), defScope (top 16), [], []⟩
def d__law_name : He.DefD := ⟨("_law_name", none), "_law_name", "_law_name", defArgs (top 17), defBody (top 17), defScope (top 17), [], []⟩
def d__law_columns : He.DefD := ⟨("_law_columns", none), "_law_columns", "_law_columns", defArgs (top 18), defBody (top 18), defScope (top 18), [], []⟩
def d__law_ground : He.DefD := ⟨("_law_ground", none), "_law_ground", "_law_ground", defArgs (top 19), defBody (top 19), defScope (top 19), [], []⟩
def d__law_world : He.DefD := ⟨("_law_world", none), "_law_world", "_law_world", defArgs (top 20), defBody (top 20), defScope (top 20), [], []⟩
def d__law_atom : He.DefD := ⟨("_law_atom", none), "_law_atom", "_law_atom", defArgs (top 21), defBody (top 21), defScope (top 21), [], []⟩
def d__law_condition : He.DefD := ⟨("_law_condition", none), "_law_condition", "_law_condition", defArgs (top 22), defBody (top 22), defScope (top 22), [], []⟩
def d__law_users : He.DefD := ⟨("_law_users", none), "_law_users", "_law_users", defArgs (top 23), defBody (top 23), defScope (top 23), [], []⟩
def d__law_rules : He.DefD := ⟨("_law_rules", none), "_law_rules", "_law_rules", defArgs (top 24), defBody (top 24), defScope (top 24), [], []⟩
def d__law_cells : He.DefD := ⟨("_law_cells", none), "_law_cells", "_law_cells", defArgs (top 25), defBody (top 25), defScope (top 25), [], []⟩
def d__law_rule_setting : He.DefD := ⟨("_law_rule_setting", none), "_law_rule_setting", "_law_rule_setting", defArgs (top 26), defBody (top 26), defScope (top 26), [], []⟩
def d__law_turned : He.DefD := ⟨("_law_turned", none), "_law_turned", "_law_turned", defArgs (top 27), defBody (top 27), defScope (top 27), [], []⟩
def d_law : He.DefD := ⟨("law", none), "law", "law", defArgs (top 28), defBody (top 28), defScope (top 28), [], []⟩
def fa0 : List He.Fa := ([.glo "names_of", .glo "tables_of", .glo "look", .glo "look_joined", .glo "look_has", .glo "is_for", .glo "rules_for", .glo "every_scene", .glo "may", .glo "seen_world", .glo "_law_cell_at", .glo "_law_draws", .glo "_law_name", .glo "_law_columns", .glo "_law_ground", .glo "_law_world", .glo "_law_atom", .glo "_law_condition", .glo "_law_users", .glo "_law_rules", .glo "_law_cells", .glo "_law_rule_setting", .glo "_law_turned", .glo "law"] : List He.Fa) ++ free.map .free ++ ([cn_Scene] : List Cn).flatMap cnFa ++ []
def ds0 : List He.DefD := ([d_names_of, d_tables_of, d_look, d_look_joined, d_look_has, d_is_for, d_rules_for, d_every_scene, d_may, d_seen_world, d__law_cell_at, d__law_draws, d__law_name, d__law_columns, d__law_ground, d__law_world, d__law_atom, d__law_condition, d__law_users, d__law_rules, d__law_cells, d__law_rule_setting, d__law_turned, d_law] : List He.DefD) ++ ([cn_Scene] : List Cn).map (·.d)
def gd0 : List (Str × List (Str × D)) := []
def cs0 : List (Str × D) := []
def ts0 : List He.Tab := gd0.map fun p => ((fun K => He.ga K p.1), p.2.map (·.1))
def ex0 (K : PySem.W.Frag) : Bool := noL K && cs0.all (conB K) && gd0.all (gdB K)
abbrev hk0 : PySem.W.Hook := He.hookX 4 fa0 ds0 ts0 [] ex0
def ob0 (s : PySem.W.SharedT) : He.AlX := He.obsX 4 fa0 ds0 ts0 [] ex0 (HandSHeadRun.getT s)
abbrev Rr : PySem.W.OpenRow := PySem.W.OpenLaw.row rw_
def loose : List Str := (["names_of", "Scene", "tables_of", "look", "look_joined", "look_has", "is_for", "rules_for", "every_scene", "may", "seen_world", "_law_cell_at", "_law_draws", "_law_name", "_law_columns", "_law_ground", "_law_world", "_law_atom", "_law_condition", "_law_users", "_law_rules", "_law_cells", "_law_rule_setting", "_law_turned"] : List Str)
theorem run0_false (w : World) : HandSHeadRun.RunEq Rr (PySem.W.view Rr.prog [28]) hk0 ob0 4000 loose (w.withFollow "special-get-raises" false) := by intro os; kernel_rfl
theorem run0_true (w : World) : HandSHeadRun.RunEq Rr (PySem.W.view Rr.prog [28]) hk0 ob0 4000 loose (w.withFollow "special-get-raises" true) := by intro os; kernel_rfl
theorem run0 (w : World) : HandSHeadRun.RunEq Rr (PySem.W.view Rr.prog [28]) hk0 ob0 4000 loose w :=
  PySem.W.byRow2 "special-get-raises" (P := fun w => HandSHeadRun.RunEq Rr (PySem.W.view Rr.prog [28]) hk0 ob0 4000 loose w) run0_false run0_true w
end k17
end M

/-! tuples that are known to the object: their methods may be called -/
namespace M
open PySem PySem.Spec PyProof.Rows L2

/-- what follows a new tuple: it stands as an object without a dict of its own -/
def NewT (Q : VK) (H : Hp) (vs : List V) : Prop := ∀ p o, H p = none → o.cls = .type "tuple" → o.dict = none → Q (.ref p) (upd H p (.frz o (.tup vs)))
section
variable {X : Cx} {pins : List (Addr × Obj)} {σ : L2.St} {H : Hp} {s : Shared}
theorem laidZ {vs : List V} {its : List Value} {Q : VK} {k n : Nat} (I : L2.Inv X pins σ H s) (r : Vals vs its) (hz : vs.length ≤ sizeLine) (h : NewT Q H vs) :
    EP X pins σ Q (.ref s.heap.objs.size) { s with toks := k, heap := s.heap.push { cls := .type "tuple", data := .seq its.toArray n } } := by
  have e : (s.heap.push { cls := .type "tuple", data := .seq its.toArray n }).get? s.heap.objs.size = some { cls := .type "tuple", data := .seq its.toArray n } := Heap.get?_push_size _ rfl
  refine ⟨.ref s.heap.objs.size, _, I.laid (o := .frz { cls := .type "tuple", data := .seq its.toArray n } (.tup vs)) (fun b u q => Heap.get?_push_of_some _ q) (Nat.le_refl _) ⟨e, hz, its, r, ⟨_, e, rfl, _, rfl⟩⟩, rfl, h _ _ (I.hok.fresh (Nat.le_refl _)) rfl rfl⟩
/-- (a, b, ..) -/
theorem pe_tupZ {es : List Expr} {t : TA} {pos : Pos} {x1 : Nat} (h : PA X es t) : PE X (.Tuple es x1 pos) (fun σ H Q => t σ H fun xs H1 => xs.length ≤ sizeLine ∧ NewT Q H1 xs) := by
  refine ⟨fun pins s σ H Q I hq => wpAny_Tuple_spliced (thn (h.run pos pins s σ H _ I hq) fun us s1 ⟨xs, H1, I1, r, z, q⟩ => ⟨by rw [← r.length]; exact z, ?_⟩)⟩
  exact laidZ (k := s1.toks) I1 r z q
/-- tuple(xs) -/
theorem call_tupleZ : CallR X (.type "tuple") (fun xs H Q => ∃ p ys, xs = [.ref p] ∧ ((SqL X.K H p ys ∧ NewT Q H ys) ∨ (SqT X.K H p ys ∧ Q (.ref p) H))) := by
  intro pins s σ H xs us Q I r h
  obtain ⟨p, ys, rfl, h⟩ := h
  rcases h with ⟨hq, q⟩ | ⟨hq, q⟩
  · obtain ⟨u, rfl, rx⟩ := vals1 r
    cases rx
    obtain ⟨its, r', pl, hz⟩ := I.list hq
    refine call_tuple_list pl.isList (fun h' kp => ?_) (by rw [List.size_toArray, ← r'.length]; exact hz)
    exact laidZ (k := s.toks) (I.kept (t' := s.toks) kp) r' hz q
  · exact call_tupleT pins s σ H _ us Q I r ⟨p, ys, rfl, hq, q⟩
/-- t + u -/
theorem op_catZ : OpR X (binaryOp .Add) (fun x y H Q => ∃ a b xs ys, x = .ref a ∧ y = .ref b ∧ SqT X.K H a xs ∧ SqT X.K H b ys ∧ xs.length + ys.length ≤ sizeLine ∧
    (xs = [] → Q (.ref b) H) ∧ (xs ≠ [] → ys = [] → Q (.ref a) H) ∧ NewT Q H (xs ++ ys)) := by
  intro pins s σ H x y v u Q I rx ry h
  obtain ⟨a, b, xs, ys, rfl, rfl, ha, hb, hz, q0, q1, q2⟩ := h
  by_cases hx : xs = []
  · exact op_catA pins s σ H _ _ v u Q I rx ry ⟨a, b, xs, ys, rfl, rfl, ha, hb, hz, q0, q1, fun z => absurd hx z⟩
  · by_cases hy : ys = []
    · exact op_catA pins s σ H _ _ v u Q I rx ry ⟨a, b, xs, ys, rfl, rfl, ha, hb, hz, q0, q1, fun _ z => absurd hy z⟩
    · cases rx
      cases ry
      obtain ⟨its, r1, p1, _⟩ := I.tuple ha
      obtain ⟨its2, r2, p2, _⟩ := I.tuple hb
      refine HT.cat_tup p1 p2 (fun z => hx (r1.nil_iff.mp z)) (fun z => absurd (r2.nil_iff.mp z) hy) (fun _ => ?_) (by rw [← r1.length, ← r2.length]; exact hz)
      exact laidZ (k := s.toks) I (r1.append r2) (by rw [List.length_append]; exact hz) q2
/-- t[lo:hi] -/
theorem sl_tupZ : SlR X (fun x lo hi H Q => ∃ a xs, x = .ref a ∧ SqT X.K H a xs ∧
    (HT.sIx xs.length 0 lo = 0 ∧ HT.sIx xs.length xs.length hi = xs.length → Q (.ref a) H) ∧ NewT Q H (cutV xs lo hi)) := by
  intro pins s σ H x v vl vu lo hi sl Q I rx hs pl pu h
  obtain ⟨a, xs, rfl, hx, q1, q2⟩ := h
  by_cases hw : HT.sIx xs.length 0 lo = 0 ∧ HT.sIx xs.length xs.length hi = xs.length
  · exact sl_tupA pins s σ H _ v vl vu lo hi sl Q I rx hs pl pu ⟨a, xs, rfl, hx, q1, fun z => absurd hw z⟩
  · cases rx
    obtain ⟨its, r, ht, hz⟩ := I.tuple hx
    have hlen : its.toArray.size = xs.length := by rw [List.size_toArray]; exact r.length.symm
    refine ⟨"tuple", _, PyProof.Rows.slot_tuple_getitem.lookup, ht.typeIs, HT.getItem_tuple_cut ht hs pl pu (by rw [hlen]; exact hw) ?_ (by rw [hlen]; exact hz)⟩
    rw [hlen]
    exact laidZ (k := s.toks) I ((r.drop _).take _) (Nat.le_trans (cutV_length xs lo hi) hz) q2
/-- of that built-in type; a tuple, known to the object -/
def tyZ (K : PySem.W.Frag) (T : String) (x : V) (H : Hp) : Prop := tyV K T x H ∨ (T = "tuple" ∧ ∃ p o xs, x = .ref p ∧ H p = some (.frz o (.tup xs)) ∧ o.cls = .type "tuple" ∧ o.dict = none)
theorem tyZ_is {T : String} {x : V} {v : Value} (I : L2.Inv X pins σ H s) (r : RelV x v) (ty : tyZ X.K T x H) : s.TypeIs v T ∧ ∀ a, v = .ref a → ∃ ob, s.heap.get? a = some ob ∧ ob.dict = none := by
  rcases ty with ty | ⟨rfl, p, o, xs, rfl, h, c, d⟩
  · exact tyV_is I r ty
  · cases r
    have e : s.heap.get? p = some o := (show ObjOk X.prog X.w H s.heap p (.frz o (.tup xs)) from I.hok p _ h).1
    exact ⟨⟨o, e, c⟩, fun a q => by cases q; exact ⟨o, e, d⟩⟩
/-- the call of a method of a built-in type -/
theorem pe_bmZ {o e : Expr} {es : List Expr} {to : TE} {t : TA} {name : Str} {apos cpos : Pos} {T id : String} {r : V → List V → Hp → VK → Prop} (pa : PlainAttrs T) (slot : Slot T name id) (hty : typeOf (.builtin id) = pure (.type "method_descriptor")) (hm : MtR X id r) (ho : PE X o to) (ha : PA X (e :: es) t)
    (hbase : attributeBase o name X.env (eval o X.env) = eval o X.env)
    (hfew : ((backTo cpos (starEach (e :: es) X.env)).all (fun x => !x.1) && (backToKw cpos (keywordEach [] X.env)).all (fun x => x.1.isSome)
      && decide ((e :: es).length + ([] : List Keyword).length + (if ([] : List Keyword).isEmpty then 0 else 1) < 30)) = true)
    (hline : (apos.endLine == cpos.line) = true) (hs : starEach (e :: es) X.env = (false, eval e X.env) :: starEach es X.env) (hplain : (backTo cpos (starEach es X.env)).any (·.1) = false) :
    PE X (.Call (.Attribute o name apos) (e :: es) [] cpos) (fun σ H Q => to σ H fun x H1 => tyZ X.K T x H1 ∧ t σ H1 fun xs H2 => r x xs H2 Q) := by
  refine ⟨fun pins s σ H Q I h => wpAny_Call_method_late hbase hfew hline rfl (thn (ho.run pins s σ H _ I h) fun v s1 ⟨x, H1, I1, r1, ty, q1⟩ => ⟨T, id, pa, slot, hty, (tyZ_is I1 r1 ty).1, (tyZ_is I1 r1 ty).2, ?_⟩)⟩
  have hA := thn (ha.run cpos pins s1 σ H1 _ I1 q1) fun us s2 ⟨vs, H2, I2, r2, q2⟩ => hm pins s2 σ H2 x vs v us Q I2 r1 r2 q2
  rw [hs] at hA ⊢
  refine Calls.callWith_builtin ?_ (Calls.evalArgs_plain hA)
  show (false || (backTo cpos (starEach es X.env)).any (·.1)) = false
  rw [hplain]; rfl
end
end M

/-! x < y of tuples where the first place that differs alone must be comparable -/
namespace M
open PySem PySem.SeqAt PySem.W PyProof.Rows
open AutoSeq1 (wpAny_loadPart')
open MeetsSeq MeetsSeq2 MeetsSeq3 SeqRoads2

/-- what the pairs come to: the first that differs decides -/
def Chain (A : Around) (s : Shared) (fin r : Bool) : List (Value × Value) → Prop
  | [] => r = fin
  | p :: ps => ∃ e, EqAt A s p.1 p.2 e ∧ (e = true → Chain A s fin r ps) ∧ (e = false → RcLt A s p.1 p.2 r)
theorem tup_chain (l b : Addr) (xs ys : Array Value) (n n2 : Nat) (dd dd2 : Option Addr) (sl sl2 : Array (Option Value)) (r : Bool) :
    Meets (Builtin.«tuple.__lt__» ⟨[.ref l, .ref b], []⟩)
      (fun A R s => s.heap.get? l = some { cls := .type "tuple", dict := dd, data := .seq xs n, slots := sl } ∧ s.heap.get? b = some { cls := .type "tuple", dict := dd2, data := .seq ys n2, slots := sl2 } ∧
        Chain A.in1 s (decide (xs.size < ys.size)) r (xs.toList.zip ys.toList) ∧ R (.ok (.ret (.bool r))) s) :=
  .of_wp fun prog w A R s h => by
    obtain ⟨h1, h2, h3, h4⟩ := h
    have sub := AutoSeq1.sub_tuple_tuple
    wp_walk using wpAny_loadPart' h1, wpAny_loadPart' h2, wpAny_forIn_list _ (fun ps b t => b.1 = none ∧ t = s ∧ Chain A.in1 s (decide (xs.size < ys.size)) r ps) _
    case turn =>
      rintro ⟨p, q⟩ ps b t ⟨_, rfl, e, he, hy, hn⟩
      refine wpAny_bind (he prog w _ _ ?_)
      cases e with
      | true =>
        have := hy rfl
        wp_walk
        exact ⟨rfl, rfl, this⟩
      | false =>
        have := hn rfl
        simp only [Bool.not_false, if_true]
        refine wpAny_bind (wpAny_rule (wpAny_bind (this prog w _ _ ?_)))
        wp_walk
        exact ⟨_, rfl, h4⟩
    case fin =>
      rintro ⟨b1, b2⟩ t ⟨hb, rfl, hr⟩
      cases hb
      have hr : r = decide (xs.size < ys.size) := hr
      subst hr
      wp_walk
      exact ⟨_, rfl, by simpa [Builtin.Tuple.tupleCompareSizes] using h4⟩
    case h => exact ⟨rfl, rfl, h3⟩
theorem rcLt_chain {A : Around} {s : Shared} {l b : Addr} {xs ys : Array Value} {r : Bool} (hl : s.heap.IsTuple l xs) (hb : s.heap.IsTuple b ys) (hu : A.units < cLine) (h : Chain A.in1 s (decide (xs.size < ys.size)) r (xs.toList.zip ys.toList)) : RcLt A s (.ref l) (.ref b) r := by
  intro prog w E Q hq
  obtain ⟨⟨c1, d1, t1, s1⟩, g1, e1, n1, f1⟩ := hl
  obtain ⟨⟨c2, d2, t2, s2⟩, g2, e2, n2, f2⟩ := hb
  cases e1; cases f1; cases e2; cases f2
  exact richCompare_meets_room (op := .Lt) ⟨_, g1, rfl⟩ ⟨_, g2, rfl⟩ F.slot_tuple_lt F.entry_tuple_lt (F.args_tuple_lt_2 _ _) (tup_chain l b xs ys n1 n2 d1 d2 s1 s2 r) ⟨g1, g2, h, (fun z => nomatch z), hq⟩ hu
mutual
/-- x < y can be asked -/
def cok : PyData → PyData → Bool
  | .bool _, .bool _ => true
  | .int _, .int _ => true
  | .str _, .str _ => true
  | .tuple xs, .tuple ys => coks xs ys
  | _, _ => false
def coks : List PyData → List PyData → Bool
  | x :: xs, y :: ys => if PyData.eqv x y = true then alike x y && coks xs ys else cok x y
  | _, _ => true
end
theorem lex_same (a : Int ⊕ List Nat) (p u v : List (Int ⊕ List Nat)) : PyProof.Rows.lexLt itemOrd (a :: (p ++ u)) (a :: (p ++ v)) = PyProof.Rows.lexLt itemOrd u v := (lex_self (O := itemOrd) _ _ _).trans (lex_pre _ _ _)
theorem coks_cons {x y : PyData} {xs ys : List PyData} (h : coks (x :: xs) (y :: ys) = true) : (PyData.eqv x y = true ∧ alike x y = true ∧ coks xs ys = true) ∨ (PyData.eqv x y = false ∧ cok x y = true) := by
  rw [coks] at h
  split at h
  · rename_i e
    rw [Bool.and_eq_true] at h
    exact .inl ⟨e, h⟩
  · rename_i e
    exact .inr ⟨by simpa using e, h⟩
mutual
theorem toks_no : ∀ (x y : PyData), cok x y = true → PyData.eqv x y = false → ∀ l m, PyProof.Rows.lexLt itemOrd (keyToks x ++ l) (keyToks y ++ m) = PyProof.Rows.lexLt itemOrd (keyToks x) (keyToks y)
  | .bool a, .bool b, _, e => (toks_eqv (.bool a) (.bool b) rfl).2 e
  | .int a, .int b, _, e => (toks_eqv (.int a) (.int b) rfl).2 e
  | .str a, .str b, _, e => (toks_eqv (.str a) (.str b) rfl).2 e
  | .tuple xs, .tuple ys, h, e => by
    rw [cok] at h
    simp only [keyToks]
    exact toksAll_no xs ys h (by simpa only [PyData.eqv] using e)
  | .none, y, h, _ => by cases y <;> simp [cok] at h
  | .list _, y, h, _ => by cases y <;> simp [cok] at h
  | .dict _, y, h, _ => by cases y <;> simp [cok] at h
  | .bool _, .none, h, _ | .bool _, .int _, h, _ | .bool _, .str _, h, _ | .bool _, .list _, h, _ | .bool _, .tuple _, h, _ | .bool _, .dict _, h, _ => by simp [cok] at h
  | .int _, .none, h, _ | .int _, .bool _, h, _ | .int _, .str _, h, _ | .int _, .list _, h, _ | .int _, .tuple _, h, _ | .int _, .dict _, h, _ => by simp [cok] at h
  | .str _, .none, h, _ | .str _, .bool _, h, _ | .str _, .int _, h, _ | .str _, .list _, h, _ | .str _, .tuple _, h, _ | .str _, .dict _, h, _ => by simp [cok] at h
  | .tuple _, .none, h, _ | .tuple _, .bool _, h, _ | .tuple _, .int _, h, _ | .tuple _, .str _, h, _ | .tuple _, .list _, h, _ | .tuple _, .dict _, h, _ => by simp [cok] at h
theorem toksAll_no : ∀ (xs ys : List PyData), coks xs ys = true → PyData.eqvAll xs ys = false → ∀ l m, PyProof.Rows.lexLt itemOrd (keyToksAll xs ++ l) (keyToksAll ys ++ m) = PyProof.Rows.lexLt itemOrd (keyToksAll xs) (keyToksAll ys)
  | [], ys, _, e => (toksAll_eqv [] ys (by rw [alikeAll])).2 e
  | x :: xs, [], _, e => (toksAll_eqv (x :: xs) [] (by rw [alikeAll])).2 e
  | x :: xs, y :: ys, h, e => by
    intro l m
    rw [eqv_all_cons] at e
    rw [toks_all_cons, toks_all_cons, List.cons_append, List.cons_append, List.append_assoc, List.append_assoc]
    rcases coks_cons h with ⟨h1, h2, h3⟩ | ⟨h1, h2⟩
    · rw [h1, Bool.true_and] at e
      rw [(toks_eqv x y h2).1 h1, lex_same, lex_same]
      exact toksAll_no xs ys h3 e l m
    · have t := toks_no x y h2 h1
      exact (lex_self (O := itemOrd) _ _ _).trans ((t _ _).trans ((t _ _).symm.trans (lex_self (O := itemOrd) _ _ _).symm))
end
/-- the first pair decides, or the rest -/
theorem lt_cons {x y : PyData} {xs ys : List PyData} (h : coks (x :: xs) (y :: ys) = true) : PyProof.Rows.lexLt itemOrd (keyToksAll (x :: xs)) (keyToksAll (y :: ys)) = if PyData.eqv x y = true then PyProof.Rows.lexLt itemOrd (keyToksAll xs) (keyToksAll ys) else dataLt x y := by
  rw [toks_all_cons, toks_all_cons]
  rcases coks_cons h with ⟨h1, h2, h3⟩ | ⟨h1, h2⟩
  · rw [if_pos h1, (toks_eqv x y h2).1 h1, lex_same]
  · rw [if_neg (by rw [h1]; decide)]
    exact (lex_self (O := itemOrd) _ _ _).trans (toks_no x y h2 h1 _ _)
theorem lt_short (ys : List PyData) (xs : List PyData) (h : xs = [] ∨ ys = []) : PyProof.Rows.lexLt itemOrd (keyToksAll xs) (keyToksAll ys) = decide (xs.length < ys.length) := by
  have hal : alikeAll xs ys = true := by
    rcases h with rfl | rfl
    · rw [alikeAll]
    · cases xs with
      | nil => rw [alikeAll]
      | cons x xs => rw [alikeAll]
  rw [← firstLt_toks xs ys hal]
  rcases h with rfl | rfl
  · simp [firstLt]
  · cases xs <;> simp [firstLt]
section
variable {A : Around} {s : Shared}
mutual
theorem rcLt_cok : ∀ (x y : PyData) (A : Around) (a b : Value) (as bs : List Addr), Reads s.heap a x as → Reads s.heap b y bs → cok x y = true → x.canLay0 = true → y.canLay0 = true → A.units + x.depth < cLine → RcLt A s a b (dataLt x y)
  | .tuple xs, .tuple ys, A, a, b, as, bs, ra, rb, h, c1, c2, hu => by
    rw [cok] at h
    rw [PyData.canLay0] at c1 c2
    rw [PyData.depth] at hu
    cases ra with
    | @tuple l o vs n _ _ g1 g2 g3 g4 =>
      cases rb with
      | @tuple l' o' ws n' _ _ k1 k2 k3 k4 =>
        have n1 : vs.size = xs.length := by simpa using ReadsAll.length _ _ _ g4
        have n2 : ws.size = ys.length := by simpa using ReadsAll.length _ _ _ k4
        rw [dataLt_tuple]
        refine rcLt_chain ⟨_, g1, g2, _, g3⟩ ⟨_, k1, k2, _, k3⟩ (by omega) ?_
        rw [n1, n2]
        exact chain_coks xs ys A.in1 _ _ _ _ g4 k4 h c1 c2 (by have : A.in1.units = A.units + 1 := rfl; omega)
  | .bool p, y, A, a, b, as, bs, ra, rb, h, c1, c2, hu => by
    have hal : alike (.bool p) y = true := by cases y <;> first | rfl | simp [cok] at h
    exact rcLt_alike _ _ A s a b as bs ra rb hal (fun z => nomatch z) (by omega)
  | .int p, y, A, a, b, as, bs, ra, rb, h, c1, c2, hu => by
    have hal : alike (.int p) y = true := by cases y <;> first | rfl | simp [cok] at h
    exact rcLt_alike _ _ A s a b as bs ra rb hal (fun z => nomatch z) (by omega)
  | .str p, y, A, a, b, as, bs, ra, rb, h, c1, c2, hu => by
    have hal : alike (.str p) y = true := by cases y <;> first | rfl | simp [cok] at h
    exact rcLt_alike _ _ A s a b as bs ra rb hal (fun z => nomatch z) (by omega)
  | .none, y, _, _, _, _, _, _, _, h, _, _, _ => by cases y <;> simp [cok] at h
  | .list _, y, _, _, _, _, _, _, _, h, _, _, _ => by cases y <;> simp [cok] at h
  | .dict _, y, _, _, _, _, _, _, _, h, _, _, _ => by cases y <;> simp [cok] at h
  | .tuple _, .none, _, _, _, _, _, _, _, h, _, _, _ | .tuple _, .bool _, _, _, _, _, _, _, _, h, _, _, _ | .tuple _, .int _, _, _, _, _, _, _, _, h, _, _, _ | .tuple _, .str _, _, _, _, _, _, _, _, h, _, _, _ | .tuple _, .list _, _, _, _, _, _, _, _, h, _, _, _ | .tuple _, .dict _, _, _, _, _, _, _, _, h, _, _, _ => by simp [cok] at h
theorem chain_coks : ∀ (xs ys : List PyData) (A : Around) (vs ws : List Value) (as bs : List Addr), ReadsAll s.heap vs xs as → ReadsAll s.heap ws ys bs → coks xs ys = true → PyData.canLayAll0 xs = true → PyData.canLayAll0 ys = true → A.units + PyData.depthAll xs < cLine →
    Chain A s (decide (xs.length < ys.length)) (PyProof.Rows.lexLt itemOrd (keyToksAll xs) (keyToksAll ys)) (vs.zip ws)
  | [], ys, A, _, ws, _, _, ra, rb, _, _, _, _ => by
    cases ra
    rw [List.zip_nil_left]
    exact lt_short ys [] (.inl rfl)
  | x :: xs, [], A, vs, _, _, _, ra, rb, _, _, _, _ => by
    cases rb
    rw [List.zip_nil_right]
    exact lt_short [] _ (.inr rfl)
  | x :: xs, y :: ys, A, _, _, _, _, ra, rb, h, c1, c2, hu => by
    rw [PyData.canLayAll0, Bool.and_eq_true] at c1 c2
    rw [PyData.depthAll] at hu
    cases ra with
    | cons r rs =>
      cases rb with
      | cons q qs =>
        rw [List.zip_cons_cons, lt_cons h]
        refine ⟨PyData.eqv x y, eqAt_reads x y A s _ _ _ _ r q c1.1 c2.1 (by omega), fun e => ?_, fun e => ?_⟩
        · rcases coks_cons h with ⟨h1, h2, h3⟩ | ⟨h1, h2⟩
          · rw [if_pos e, show decide ((x :: xs).length < (y :: ys).length) = decide (xs.length < ys.length) by simp]
            exact chain_coks xs ys A _ _ _ _ rs qs h3 c1.2 c2.2 (by omega)
          · rw [h1] at e; cases e
        · rcases coks_cons h with ⟨h1, h2, h3⟩ | ⟨h1, h2⟩
          · rw [h1] at e; cases e
          · rw [if_neg (by rw [e]; decide)]
            exact rcLt_cok x y A _ _ _ _ r q h2 c1.1 c2.1 (by omega)
end
end
section
variable {prog : Program} {w : World} {A : Around} {E : Value → Shared → Prop} {s : Shared}
theorem one_cok {f : Bool} {x y : PyData} {a b : Value} {as bs : List Addr} {Q : Bool → Shared → Prop} (hf : f = true → ∃ t, x = .str t) (ra : Reads s.heap a x as) (rb : Reads s.heap b y bs) (h : cok x y = true) (c1 : x.canLay0 = true) (c2 : y.canLay0 = true) (hu : A.units + x.depth < cLine) (hq : Q (dataLt x y) s) : wpAny (model prog w) A (oneLt' f a b) Q E s := by
  cases f with
  | false =>
    rw [oneLt'_eq]
    simp only [Bool.false_eq_true, if_false]
    exact wpAny_bind (rcLt_cok x y A a b as bs ra rb h c1 c2 hu prog w E _ (wpAny_truthy_bool hq))
  | true =>
    obtain ⟨t, rfl⟩ := hf rfl
    have hal : alike (.str t) y = true := by cases y <;> first | rfl | simp [cok] at h
    exact oneLt_alike (fun _ _ z => by cases z) ra rb hal (fun z => by cases z) (by omega) hq
theorem kat_coks {b fin : Bool} {Q : Bool → Shared → Prop} : ∀ (xs ys : List PyData) (i : Nat) (vs ws : List Value) (as bs : List Addr), ReadsAll s.heap vs xs as → ReadsAll s.heap ws ys bs → coks xs ys = true → PyData.canLayAll0 xs = true → PyData.canLayAll0 ys = true → A.units + PyData.depthAll xs < cLine →
    (b = true → i = 0 → ∀ x r, xs = x :: r → ∃ t, x = .str t) → fin = decide (xs.length < ys.length) → Q (PyProof.Rows.lexLt itemOrd (keyToksAll xs) (keyToksAll ys)) s → KatLex prog w A b fin Q (vs.zip ws) i s
  | [], ys, i, _, ws, _, _, ra, rb, _, _, _, _, _, hf, hq => by
    cases ra
    rw [lt_short ys [] (.inl rfl), ← hf] at hq
    rw [List.zip_nil_left]
    exact kat_nil hq
  | x :: xs, [], i, vs, _, _, _, ra, rb, _, _, _, _, _, hf, hq => by
    cases rb
    rw [lt_short [] _ (.inr rfl), ← hf] at hq
    rw [List.zip_nil_right]
    exact kat_nil hq
  | x :: xs, y :: ys, i, _, _, _, _, ra, rb, h, c1, c2, hu, hb, hf, hq => by
    rw [PyData.canLayAll0, Bool.and_eq_true] at c1 c2
    rw [PyData.depthAll] at hu
    rw [lt_cons h] at hq
    cases ra with
    | cons r rs =>
      cases rb with
      | cons q qs =>
        rw [List.zip_cons_cons]
        refine kat_cons (eqAt_reads x y A s _ _ _ _ r q c1.1 c2.1 (by omega) prog w _ _ ?_)
        rcases coks_cons h with ⟨h1, h2, h3⟩ | ⟨h1, h2⟩
        · rw [if_pos h1] at hq
          rw [h1]
          exact kat_yes (kat_coks xs ys (i + 1) _ _ _ _ rs qs h3 c1.2 c2.2 (by omega) (fun _ z => absurd z (Nat.succ_ne_zero i)) (by rw [hf]; simp) hq)
        · rw [if_neg (by rw [h1]; decide)] at hq
          rw [h1]
          refine kat_no (one_cok (fun hbi => ?_) r q h2 c1.1 c2.1 (by omega) hq)
          rw [Bool.and_eq_true] at hbi
          exact hb hbi.1 (by simpa using hbi.2) x xs rfl
mutual
/-- a value reads as one datum alone -/
theorem rd_one {h : Heap} : ∀ (d d' : PyData) (v : Value) (as as' : List Addr), d.canLay0 = true → d'.canLay0 = true → Reads h v d as → Reads h v d' as' → d = d'
  | .none, d', _, _, _, _, _, r, r' => by cases r; cases r'; rfl
  | .bool b, d', _, _, _, _, _, r, r' => by cases r; cases r'; rfl
  | .int b, d', _, _, _, _, _, r, r' => by cases r; cases r'; rfl
  | .str b, d', _, _, _, _, _, r, r' => by cases r; cases r'; rfl
  | .dict _, _, _, _, _, c, _, _, _ => by simp [PyData.canLay0] at c
  | .list xs, d', _, _, _, c1, c2, r, r' => by
    rw [PyData.canLay0] at c1
    cases r with
    | list g1 g2 g3 g4 =>
      cases r' with
      | list k1 k2 k3 k4 =>
        rw [g1] at k1; cases k1
        rw [g3] at k3; cases k3
        rw [PyData.canLay0] at c2
        rw [rd_all xs _ _ _ _ c1 c2 g4 k4]
      | tuple k1 k2 k3 k4 =>
        rw [g1] at k1; cases k1
        rw [g2] at k2; exact absurd k2 (by decide)
      | dict k1 k2 k3 k4 k5 =>
        rw [g1] at k1; cases k1
        rw [g2] at k2; exact absurd k2 (by decide)
  | .tuple xs, d', _, _, _, c1, c2, r, r' => by
    rw [PyData.canLay0] at c1
    cases r with
    | tuple g1 g2 g3 g4 =>
      cases r' with
      | tuple k1 k2 k3 k4 =>
        rw [g1] at k1; cases k1
        rw [g3] at k3; cases k3
        rw [PyData.canLay0] at c2
        rw [rd_all xs _ _ _ _ c1 c2 g4 k4]
      | list k1 k2 k3 k4 =>
        rw [g1] at k1; cases k1
        rw [g2] at k2; exact absurd k2 (by decide)
      | dict k1 k2 k3 k4 k5 =>
        rw [g1] at k1; cases k1
        rw [g2] at k2; exact absurd k2 (by decide)
theorem rd_all {h : Heap} : ∀ (ds ds' : List PyData) (vs : List Value) (as as' : List Addr), PyData.canLayAll0 ds = true → PyData.canLayAll0 ds' = true → ReadsAll h vs ds as → ReadsAll h vs ds' as' → ds = ds'
  | [], _, _, _, _, _, _, r, r' => by cases r; cases r'; rfl
  | d :: ds, _, _, _, _, c1, c2, r, r' => by
    cases r with
    | cons r1 r2 =>
      cases r' with
      | cons q1 q2 =>
        rw [PyData.canLayAll0, Bool.and_eq_true] at c1 c2
        rw [rd_one d _ _ _ _ c1.1 c2.1 r1 q1, rd_all ds _ _ _ _ c1.2 c2.2 r2 q2]
end
theorem key_one {h : Heap} {ds : List PyData} (hc : ∀ d ∈ ds, d.canLay0 = true) {v : Value} {d : PyData} {as : List Addr} (hd : d ∈ ds) (r : Reads h v d as) : (dataKind h ds).keyOf v = some (keyToks d) := by
  have q : ∃ d, d ∈ ds ∧ ∃ as, Reads h v d as := ⟨d, hd, as, r⟩
  have e : (dataKind h ds).keyOf v = some (keyToks q.choose) := dif_pos q
  obtain ⟨h1, as', h2⟩ := q.choose_spec
  rw [e, rd_one _ _ _ _ _ (hc _ h1) (hc _ hd) h2 r]
/-- tuples whose first is a text, comparable two by two -/
theorem sorts_coks {vs : List Value} {ds : List PyData} (e : EachIs (fun v d => ∃ as, Reads s.heap v d as) vs ds) (hk : ∀ d ∈ ds, ∀ d' ∈ ds, cok d d' = true) (hs : ∀ d ∈ ds, ∃ t r, d = .tuple (.str t :: r)) (hc : ∀ d ∈ ds, d.canLay0 = true) (hu : ∀ d ∈ ds, A.units + d.depth < cLine) : SortsAt prog w A s (dataKind s.heap ds) vs := by
  refine ⟨fun v hv => ?_, tuples' (Value.type "str" != Value.type "tuple"), ?_, fun h2 E Q hq => ?_⟩
  · obtain ⟨d, hd, as, r⟩ := e.left v hv
    exact ⟨_, key_one hc hd r⟩
  · intro E x y a b Q ha hb hq
    obtain ⟨d, as, hd, ra, rfl⟩ := dataKind_inv ha
    obtain ⟨d', as', hd', rb, rfl⟩ := dataKind_inv hb
    have hdd := hk d hd d' hd'
    have c1 := hc d hd
    have c2 := hc d' hd'
    have u1 := hu d hd
    obtain ⟨t1, r1, rfl⟩ := hs d hd
    obtain ⟨t2, r2, rfl⟩ := hs d' hd'
    have hq' : Q (dataLt (.tuple (.str t1 :: r1)) (.tuple (.str t2 :: r2))) s := hq
    rw [dataLt_tuple] at hq'
    rw [PyData.canLay0] at c1 c2
    rw [cok] at hdd
    rw [PyData.depth] at u1
    cases ra with
    | @tuple l o xs n _ _ g1 g2 g3 g4 =>
      cases rb with
      | @tuple l' o' ys n' _ _ k1 k2 k3 k4 =>
        have n1 : xs.size = (PyData.str t1 :: r1).length := by simpa using ReadsAll.length _ _ _ g4
        have n2 : ys.size = (PyData.str t2 :: r2).length := by simpa using ReadsAll.length _ _ _ k4
        exact kat_lt g1 g3 k1 k3 (kat_coks _ _ 0 _ _ _ _ g4 k4 hdd c1 c2 (by omega) (fun _ _ x r z => ⟨t1, (List.cons.inj z).1.symm⟩) (by rw [n1, n2]) hq')
  · obtain ⟨fs, t1, t2, t3⟩ := each_katTups e fun d hd => let ⟨t, r, z⟩ := hs d hd; ⟨_, _, z⟩
    refine kat_kind (T := .type "str") t1 (by omega) (fun f hf => ?_) (beq_self_eq_true _) hq
    obtain ⟨x, r, as, m1, m2⟩ := t3 f hf
    obtain ⟨t, r', z⟩ := hs _ m1
    cases z
    exact looks_reads m2
/-- sorted(xs) of such -/
theorem sorted_coks {β : Type} {R : Value → β → Prop} {enc : β → PyData} {vs : List Value} {bs : List β} {l : Addr} {Q : Value → Shared → Prop} (hl : s.heap.IsList l vs.toArray) (e : EachIs R vs bs) (er : EachIs (fun v b => ∃ as, Reads s.heap v (enc b) as) vs bs)
    (hk : ∀ b ∈ bs, ∀ b' ∈ bs, cok (enc b) (enc b') = true) (hs : ∀ b ∈ bs, ∃ t r, enc b = .tuple (.str t :: r)) (hc : ∀ b ∈ bs, (enc b).canLay0 = true) (hL : bs.length ≤ sizeLine)
    (hu : ∀ b, b ∈ bs → A.units + 2 + (enc b).depth < cLine) (h : ∀ out, out.length = bs.length → EachIs R out (bs.mergeSort (dataLe false enc)) → Q (.ref (s.heap.objs.size + 1)) { s with heap := sortedAll s.heap vs (List.toArray out) }) :
    wpAny (model prog w) A (call (.builtin "sorted") [.ref l]) Q E s := by
  have er' : EachIs (fun v b => ∃ as, Reads (sortingHeap (copyHeap s.heap vs) (s.heap.objs.size + 1) vs) v (enc b) as) vs bs := er.mono fun _ _ ⟨as, r⟩ => ⟨as, PyProof.Rows.Reads.keeps (fun _ _ => sorting_copy_old) r⟩
  have em : EachIs (fun v d => ∃ as, Reads (sortingHeap (copyHeap s.heap vs) (s.heap.objs.size + 1) vs) v d as) vs (bs.map enc) := each_map (R := fun v d => ∃ as, Reads (sortingHeap (copyHeap s.heap vs) (s.heap.objs.size + 1) vs) v d as) enc er'
  have hm : ∀ {P : PyData → Prop}, (∀ b ∈ bs, P (enc b)) → ∀ d ∈ bs.map enc, P d := fun hp d hd => by
    obtain ⟨b, hb, rfl⟩ := List.mem_map.mp hd
    exact hp b hb
  have hc' := hm (P := fun d => d.canLay0 = true) hc
  have S := sorts_coks (prog := prog) (w := w) (A := A.in1.in1) (s := { s with heap := sortingHeap (copyHeap s.heap vs) (s.heap.objs.size + 1) vs }) em (fun d hd d' hd' => by
    obtain ⟨b, hb, rfl⟩ := List.mem_map.mp hd
    obtain ⟨b', hb', rfl⟩ := List.mem_map.mp hd'
    exact hk b hb b' hb') (hm hs) hc' (hm fun b hb => by
      have := hu b hb
      have z : A.in1.in1.units = A.units + 2 := rfl
      omega)
  refine sorted_vals hl S (by rw [e.length]; exact hL) (h _ (by rw [sortVals_length false rfl]; exact e.length) ?_)
  exact sortVals_each (κ := dataKind (sortingHeap (copyHeap s.heap vs) (s.heap.objs.size + 1) vs) (bs.map enc)) (fun b => keyToks (enc b)) e (each_of_map enc ((each_mem em).mono fun _ _ ⟨⟨_, r⟩, hd⟩ => key_one hc' hd r))
end
end M

/-! a small language of expressions and statements, and what it comes to -/
namespace M
open PySem PySem.Spec PyProof.Rows L2

inductive Bn where | add | sub | mul | fdiv | mod | pow
  deriving DecidableEq
inductive Cm where | eq | ne | lt | le | gt | ge | isin | notin | is_ | isnot
  deriving DecidableEq
inductive Bi where | len | int | all | any | sum | list | tuple | sorted | repr | str | min | max
  deriving DecidableEq
inductive Ty where | int | bool | str | tuple | list
  deriving DecidableEq
inductive Mt where | index | split | count | join | countL | indexT | countT
  deriving DecidableEq
inductive Fz where | lenset | sortset | listrange | tri | lensett | sortseti | reprl | sortsett
  deriving DecidableEq
inductive Tg where | v (i : Nat) | tp (is : List Nat)
  deriving DecidableEq

mutual
inductive ME where
  | var (i : Nat) | lit (d : D) | glb (x : Str) (d : D)
  | tup (es : List ME) | lst (es : List ME)
  | bin (o : Bn) (a b : ME) | neg (a : ME)
  | cmp (o : Cm) (a b : ME) | cmp2 (o p : Cm) (a b c : ME)
  | and (a b : ME) | or (a b : ME) | not (a : ME)
  | ife (c a b : ME)
  | idx (a i : ME) | slc (a : ME) (lo hi : List ME)
  | call (f : Nat) (es : List ME)
  | bi (b : Bi) (es : List ME)
  | isi (a : ME) (t : Ty) | isit (a : ME) (ts : List Ty)
  | mth (m : Mt) (o : ME) (es : List ME)
  | lc (tg : Tg) (it : IT) (cs : List ME) (e : ME)
  | lensc (tg : Tg) (it : IT) (cs : List ME) (e : ME)
  | rev (a : ME)
  | fz (f : Fz) (es : List ME)
  | dvals (i j : Nat)
  | att (e : ME) (f : Str) | mk (c : Str) (ns : List Str) (es : List ME)
  | dget (a i : ME) | din (neg : Bool) (i a : ME)
  | gdget (x : Str) (kvs : List (Str × D)) (i : ME) | gdin (neg : Bool) (x : Str) (kvs : List (Str × D)) (i : ME)
  | obT | kd0
  | dc (tg : Tg) (it : IT) (cs : List ME) (k v : ME)
  | callR (f : Nat) (es : List ME) (w : ME) (y z : Str)
  | callK (f : Nat) (es : List ME) (e : ME) | callD (f : Nat) (es : List ME) (d : D)
inductive IT where
  | of (e : ME) | range1 (e : ME) | range2 (a b : ME) | enum (e : ME) | zip (a b : ME) | zips (a b : ME)
end

inductive MS where
  | doc | pass | any
  | asg (tg : Tg) (e : ME)
  | par (i j : Nat) (a b : ME)
  | new (i : Nat) (e : ME)
  | aug (i : Nat) (o : Bn) (e : ME)
  | app (i : Nat) (e : ME)
  | insl (i : Nat) (k e : ME)
  | seti (i : Nat) (k e : ME)
  | newd (i : Nat)
  | putd (i : Nat) (k e : ME)
  | newk (i : Nat) (ks : List Str) (es : List ME)
  | putk (i : Nat) (k e : ME)
  | putt (i : Nat) (k : List ME) (e : ME)
  | expr (e : ME)
  | ret (e : ME) | retN
  | ife (c : ME) (a b : List MS)
  | for_ (tg : Tg) (it : IT) (body : List MS)

/-! ### data -/
mutual
def toPy : D → PyData
  | .non => .none
  | .bl b => .bool b
  | .int i => .int i
  | .str x => .str x
  | .tup xs => .tuple (toPys xs)
  | .lst xs => .list (toPys xs)
def toPys : List D → List PyData
  | [] => []
  | x :: xs => toPy x :: toPys xs
end
theorem toPys_eq : ∀ xs : List D, toPys xs = xs.map toPy
  | [] => rfl
  | x :: xs => by rw [toPys, toPys_eq xs]; rfl
def okD (d : D) : Bool := SeqAt.shaped (toPy d)
mutual
def deq : D → D → Bool
  | .non, .non => true
  | .bl a, .bl b => a == b
  | .bl a, .int j => (if a then 1 else 0) == j
  | .int i, .bl b => i == (if b then 1 else 0)
  | .int i, .int j => i == j
  | .str x, .str y => x == y
  | .lst xs, .lst ys => deqs xs ys
  | .tup xs, .tup ys => deqs xs ys
  | _, _ => false
def deqs : List D → List D → Bool
  | [], [] => true
  | x :: xs, y :: ys => deq x y && deqs xs ys
  | _, _ => false
end
def dlt (a b : D) : Bool := PySem.W.dataLt (toPy a) (toPy b)
def dle (a b : D) : Bool := !dlt b a
/-- the data can be sorted -/
def sortOk (xs : List D) : Bool :=
  (xs.all fun a => xs.all fun b => PySem.W.alike (toPy a) (toPy b)) && (xs.all fun a => decide ((toPy a).depth ≤ 64)) &&
  ((xs.all fun a => match a with | .tup (_ :: _) => true | _ => false) || (xs.all fun a => match a with | .non => false | .tup _ => false | _ => true)) && decide (xs.length ≤ sizeLine)

/-- tuples whose first is a text, comparable two by two -/
def sortC (xs : List D) : Bool :=
  (xs.all fun a => xs.all fun b => cok (toPy a) (toPy b)) && (xs.all fun a => (toPy a).canLay0) && (xs.all fun a => decide ((toPy a).depth ≤ 64)) &&
  (xs.all fun a => match a with | .tup (.str _ :: _) => true | _ => false) && decide (xs.length ≤ sizeLine)

def binD : Bn → D → D → Option D
  | .add, .int i, .int j => some (.int (i + j))
  | .add, .str x, .str y => if x.length + y.length ≤ sizeLine then some (.str (x ++ y)) else none
  | .add, .lst xs, .lst ys => if xs.length + ys.length ≤ sizeLine then some (.lst (xs ++ ys)) else none
  | .add, .tup xs, .tup ys => if xs.length + ys.length ≤ sizeLine then some (.tup (xs ++ ys)) else none
  | .sub, .int i, .int j => some (.int (i - j))
  | .mul, .int i, .int j => if (i.natAbs < 2 ^ 63 ∨ j.natAbs < 2 ^ 63 ∨ i.natAbs.log2 + j.natAbs.log2 < 1000000) then some (.int (i * j)) else none
  | .mul, .lst xs, .int k => if -(2 ^ 63) ≤ k ∧ k < 2 ^ 63 ∧ xs.length * k.toNat ≤ sizeLine then some (.lst (List.replicate k.toNat xs).flatten) else none
  | .fdiv, .int i, .int j => if 0 < j ∧ j < 1073741824 then some (.int (i / j)) else none
  | .mod, .int i, .int j => if 0 < j then some (.int (i % j)) else none
  | .pow, .int i, .int j => if 0 ≤ j ∧ j ≤ 1000000 ∧ i.natAbs < 2 ^ 64 then some (.int (i ^ j.toNat)) else none
  | _, _, _ => none

def scalD : D → D → Bool
  | .int _, .int _ | .str _, .str _ | .bl _, .bl _ => true
  | _, _ => false
def strIn (x y : Str) : Bool := match x.cps.toList with
  | [c] => decide (c ∈ y.cps.toList)
  | _ => !(Builtin.Str.occurrences y x 0 y.length 1).isEmpty
def inD (x : D) : D → Option Bool
  | .str y => match x with
    | .str z => some (strIn z y)
    | _ => none
  | .lst ys => if okD x && okD (.lst ys) then some (ys.any fun z => deq z x) else none
  | .tup ys => if okD x && okD (.tup ys) then some (ys.any fun z => deq z x) else none
  | _ => none
def isD : D → D → Option Bool
  | .non, .non => some true
  | .bl _, .non | .int _, .non | .str _, .non | .tup _, .non | .lst _, .non => some false
  | .bl a, .bl b => some (a == b)
  | .non, .bl _ => some false
  | _, _ => none
def cmpD : Cm → D → D → Option Bool
  | .eq, a, b => if scalD a b || (okD a && okD b) then some (deq a b) else none
  | .ne, a, b => if scalD a b || (okD a && okD b) then some (!deq a b) else none
  | .lt, .int i, .int j => some (decide (i < j))
  | .le, .int i, .int j => some (decide (i ≤ j))
  | .gt, .int i, .int j => some (decide (j < i))
  | .ge, .int i, .int j => some (decide (j ≤ i))
  | .lt, .str x, .str y => some (decide (x.cps.toList < y.cps.toList))
  | .lt, .tup xs, .tup ys => if PySem.W.alike (toPy (.tup xs)) (toPy (.tup ys)) && decide ((toPy (.tup xs)).depth ≤ 64) then some (dlt (.tup xs) (.tup ys)) else none
  | .isin, a, b => inD a b
  | .notin, a, b => (inD a b).map (!·)
  | .is_, a, b => isD a b
  | .isnot, a, b => (isD a b).map (!·)
  | _, _, _ => none

def truD : D → Option Bool
  | .non => some false
  | .bl b => some b
  | .int i => some (i != 0)
  | .str x => if x.length ≤ sizeLine then some ((x.length : Int) != 0) else none
  | .lst xs => some (!xs.isEmpty)
  | .tup xs => some (!xs.isEmpty)

def idxD : D → D → Option D
  | .lst xs, .int i => atI xs i
  | .tup xs, .int i => atI xs i
  | .str z, .int i => if z.length ≤ sizeLine then (atI z.cps.toList i).map fun c => .str ⟨#[c]⟩ else none
  | _, _ => none
def cutD (xs : List D) (lo hi : Option Int) : List D := (xs.drop (HT.sIx xs.length 0 lo)).take (HT.sIx xs.length xs.length hi - HT.sIx xs.length 0 lo)
def slcD : D → Option Int → Option Int → Option D
  | .lst xs, lo, hi => some (.lst (cutD xs lo hi))
  | .tup xs, lo, hi => some (.tup (cutD xs lo hi))
  | .str z, lo, hi => if z.length ≤ sizeLine then some (.str (cutS z lo hi)) else none
  | _, _, _ => none

def asBls : List D → Option (List Bool)
  | [] => some []
  | .bl b :: r => (asBls r).map (b :: ·)
  | _ :: _ => none
def asInts : List D → Option (List Int)
  | [] => some []
  | .int b :: r => (asInts r).map (b :: ·)
  | _ :: _ => none
def asStrs : List D → Option (List Str)
  | [] => some []
  | .str b :: r => (asStrs r).map (b :: ·)
  | _ :: _ => none

def biD : Bi → List D → Option D
  | .len, [.lst xs] => some (.int xs.length)
  | .len, [.tup xs] => some (.int xs.length)
  | .len, [.str x] => if x.length ≤ sizeLine then some (.int x.length) else none
  | .int, [.int i] => some (.int i)
  | .int, [.bl b] => some (.int (if b then 1 else 0))
  | .all, [.lst xs] => (asBls xs).map fun bs => .bl (bs.all id)
  | .any, [.lst xs] => (asBls xs).map fun bs => .bl (bs.any id)
  | .sum, [.lst xs] => (asInts xs).map fun ns => .int ns.sum
  | .list, [.lst xs] => some (.lst xs)
  | .list, [.tup xs] => some (.lst xs)
  | .tuple, [.lst xs] => some (.tup xs)
  | .tuple, [.tup xs] => some (.tup xs)
  | .sorted, [.lst xs] => if sortOk xs || sortC xs then some (.lst (xs.mergeSort dle)) else none
  | .sorted, [.tup xs] => if sortOk xs then some (.lst (xs.mergeSort dle)) else none
  | .repr, [.bl b] => some (.str (if b then "True" else "False"))
  | .repr, [.non] => some (.str "None")
  | .min, [.lst xs] => match asInts xs with
    | some (n :: ns) => some (.int (ns.foldl min n))
    | _ => none
  | .min, [.int i, .int j] => some (.int (if j < i then j else i))
  | .max, [.int i, .int j] => some (.int (if j > i then j else i))
  | _, _ => none

/-- repr of a list -/
def reprD : D → Option D
  | .lst ys => if okD (.lst ys) && (toPy (.lst ys)).showable && decide ((toPy (.lst ys)).shown.length ≤ sizeLine) then some (.str (toPy (.lst ys)).shown) else none
  | _ => none
def isiD : D → Ty → Bool
  | .int _, .int | .bl _, .int | .bl _, .bool | .str _, .str | .tup _, .tuple | .lst _, .list => true
  | _, _ => false

def firstEq (x : D) : List D → Nat → Option Nat
  | [], _ => none
  | y :: ys, n => if deq y x then some n else firstEq x ys (n + 1)
/-- how often a text stands in a text; a text with each y struck for z (kept shut: they must not be run where the text is a letter) -/
@[irreducible] def cntT (a b : Str) : Int := Txt.count a b
@[irreducible] def repT (x y z : Str) : Str := Txt.replace x y z
def mthD : Mt → D → List D → Option D
  | .index, .lst ys, [x] => if okD x && okD (.lst ys) then (firstEq x ys 0).map fun (n : Nat) => D.int (n : Int) else none
  | .count, .str a, [.str b] => some (.int (cntT a b))
  | .split, .str a, [.str b] => if (b.length == 0) = false ∧ a.length + 2 ≤ sizeLine then some (.lst ((Txt.split a b).map .str)) else none
  | .countL, .lst ys, [x] => if okD x && okD (.lst ys) then some (.int ((ys.countP fun y => deq y x : Nat) : Int)) else none
  | .indexT, .tup ys, [.str z] => (asStrs ys).bind fun ss => (ss.findIdx? fun y => decide (y = z)).map fun (n : Nat) => D.int (n : Int)
  | .countT, .tup ys, [x] => if okD x && okD (.tup ys) then some (.int ((ys.countP fun y => deq y x : Nat) : Int)) else none
  | _, _, _ => none

/-- whose method it is -/
def mtOk : Mt → D → Bool
  | .index, .lst _ => true
  | .split, .str _ => true
  | .count, .str _ => true
  | .join, .str _ => true
  | .countL, .lst _ => true
  | .indexT, .tup _ => true
  | .countT, .tup _ => true
  | _, _ => false

/-! ### what stands at a place -/
def peek (S : St') : SV → Option D
  | .t d => some d
  | .o i => match S[i]? with
    | some (.lst xs) => some (.lst xs)
    | _ => none
  | _ => none
def grab (S : St') : SV → Option (D × St')
  | .t d => some (d, S)
  | .o i => match S[i]? with
    | some (.lst xs) => some (.lst xs, S.set i .dead)
    | _ => none
  | _ => none
def grabs (S : St') : List SV → Option (List D × St')
  | [] => some ([], S)
  | v :: vs => match grab S v with
    | some (d, S1) => (grabs S1 vs).map fun (ds, S2) => (d :: ds, S2)
    | none => none
/-! ### dicts -/
def keyD : D → Option Key
  | .int i => some (.inl i)
  | .str x => some (.inr x)
  | _ => none
def getK (kvs : List (Key × D)) (k : Key) : Option D := (kvs.find? fun kv => decide (kv.1 = k)).map (·.2)
def putKD (kvs : List (Key × D)) (k : Key) (v : D) : List (Key × D) :=
  if (kvs.any fun kv => decide (kv.1 = k)) = true then kvs.map (fun kv => if kv.1 = k then (kv.1, v) else kv) else kvs ++ [(k, v)]
def mergeD : List (Key × D) → List Str → List D → List (Key × D)
  | kvs, k :: ks, d :: ds => mergeD (putKD kvs (.inr k) d) ks ds
  | kvs, _, _ => kvs
def kdOf (S : St') : SV → Option (List (Key × D))
  | .kd kvs => some kvs
  | .o i => match S[i]? with
    | some (.dk kvs) => some kvs
    | _ => none
  | _ => none
def keyV : SV → Option Key
  | .t d => keyD d
  | _ => none
def dgetV (S : St') (x y : SV) : Option SV := (kdOf S x).bind fun kvs => (keyV y).bind fun k => (getK kvs k).map .t
def dinV (S : St') (neg : Bool) (y x : SV) : Option SV := (kdOf S x).bind fun kvs => (keyV y).bind fun k => some (.t (.bl (xor neg (getK kvs k).isSome)))
def strV : SV → Option Str
  | .t (.str z) => some z
  | _ => none
def attV (x : SV) (f : Str) : Option SV := match x with
  | .ins _ ns fs => (ns.zip fs).lookup f
  | _ => none
def triV : SV → Option SV
  | .t (.bl b) => some (.t (.bl (!b)))
  | .t .non => some (.t .non)
  | _ => none
def replV (v : SV) (y z : Str) : Option SV := match v with
  | .t (.str x) => if x.length + (x.length + 1) * z.length ≤ 16777216 then some (.t (.str (repT x y z))) else none
  | _ => none
def peeks (S : St') : List SV → Option (List D)
  | [] => some []
  | v :: vs => match peek S v with
    | some d => (peeks S vs).map (d :: ·)
    | none => none
def setTg : List Nat → List D → Ev → Option Ev
  | [], [], ρ => some ρ
  | i :: is, d :: ds, ρ => setTg is ds (ρ.set i (some (.t d)))
  | _, _, _ => none
def bindTg : Tg → D → Ev → Option Ev
  | .v i, d, ρ => some (ρ.set i (some (.t d)))
  | .tp is, .tup ds, ρ => setTg is ds ρ
  | _, _, _ => none

inductive Src where
  | fix (xs : List D) | live (i : Nat)

/-! ### the run -/
abbrev FS := Nat → List SV → St' → R SV

/-- no exception may come here -/
def R.nox {α : Type} : R α → R α
  | .exc _ _ _ => .bad
  | r => r
@[simp] theorem R.nox_ok {α : Type} (a : α) (S : St') : (R.ok a S).nox = .ok a S := rfl
@[simp] theorem R.nox_exc {α : Type} (c : Nat) (p : List D) (S : St') : (R.exc c p S : R α).nox = .bad := rfl
@[simp] theorem R.nox_bad {α : Type} : (R.bad : R α).nox = .bad := rfl
/-- the item is put behind those that the list k has -/
def lcPut (k : Nat) (v : SV) (S : St') : R Unit := match grab S v with
  | some (x, S1) => match S1[k]? with
    | some (.lst acc) => if acc.length < sizeLine then .ok () (S1.set k (.lst (acc ++ [x]))) else .bad
    | _ => .bad
  | none => .bad
/-- a comprehension's turn -/
def lcTurn (tg : Tg) (c : Ev → St' → R Bool) (e : Ev → St' → R SV) (k : Nat) (d : D) (ρ : Ev) (S : St') : R Unit := match bindTg tg d ρ with
  | none => .bad
  | some ρ' => (c ρ' S).nox.bind fun b S1 => if b then (e ρ' S1).nox.bind fun v S2 => lcPut k v S2 else .ok () S1
def lcEnd (k : Nat) (S : St') : R (List D) := match S[k]? with
  | some (.lst acc) => .ok acc (S.take k)
  | _ => .bad
/-- the list that a comprehension makes: it stands as the object k meanwhile -/
def lcFix (tg : Tg) (c : Ev → St' → R Bool) (e : Ev → St' → R SV) (k : Nat) : List D → Ev → St' → R (List D)
  | [], _, S => lcEnd k S
  | d :: ds, ρ, S => (lcTurn tg c e k d ρ S).bind fun _ S1 => lcFix tg c e k ds ρ S1
/-- .. over an object, so many turns at most -/
def lcLive (tg : Tg) (c : Ev → St' → R Bool) (e : Ev → St' → R SV) (k i : Nat) : Nat → Nat → Ev → St' → R (List D)
  | n, j, ρ, S => match S[i]? with
    | some (.lst ys) => match ys[j]?, n with
      | none, _ => lcEnd k S
      | some _, 0 => .bad
      | some d, n + 1 => (lcTurn tg c e k d ρ S).bind fun _ S1 => lcLive tg c e k i n (j + 1) ρ S1
    | _ => .bad
def lcSrc (tg : Tg) (c : Ev → St' → R Bool) (e : Ev → St' → R SV) : Src → Ev → St' → R (List D)
  | .fix xs, ρ, S => lcFix tg c e S.length xs ρ (S ++ [.lst []])
  | .live i, ρ, S => match S[i]? with
    | some (.lst ys) => lcLive tg c e S.length i ys.length 0 ρ (S ++ [.lst []])
    | _ => .bad

/-- a set comprehension of tuples of ints: what was added -/
def scAdd (acc : List (List Int)) (v : SV) (S : St') : R (List (List Int)) := match v with
  | .t (.tup xs) => match asInts xs with
    | some k => if acc.length + 1 < 64 then .ok (acc ++ [k]) S else .bad
    | none => .bad
  | _ => .bad
def scTurn (tg : Tg) (c : Ev → St' → R Bool) (e : Ev → St' → R SV) (acc : List (List Int)) (d : D) (ρ : Ev) (S : St') : R (List (List Int)) := match bindTg tg d ρ with
  | none => .bad
  | some ρ' => (c ρ' S).nox.bind fun b S1 => if b then (e ρ' S1).nox.bind fun v S2 => scAdd acc v S2 else .ok acc S1
def scFix (tg : Tg) (c : Ev → St' → R Bool) (e : Ev → St' → R SV) : List D → List (List Int) → Ev → St' → R (List (List Int))
  | [], acc, _, S => .ok acc S
  | d :: ds, acc, ρ, S => (scTurn tg c e acc d ρ S).bind fun acc1 S1 => scFix tg c e ds acc1 ρ S1
def scSrc (tg : Tg) (c : Ev → St' → R Bool) (e : Ev → St' → R SV) : Src → Ev → St' → R (List (List Int))
  | .fix xs, ρ, S => scFix tg c e xs [] ρ S
  | .live _, _, _ => .bad

/-- a dict comprehension's turn: the dict stands as the object k -/
def dcPut (k : Nat) (y : Key) (v : SV) (S : St') : R Unit := match grab S v with
  | some (x, S1) => match S1[k]? with
    | some (.dk acc) => if acc.length < sizeLine then .ok () (S1.set k (.dk (putKD acc y x))) else .bad
    | _ => .bad
  | none => .bad
def dcTurn (tg : Tg) (c : Ev → St' → R Bool) (ke ve : Ev → St' → R SV) (k : Nat) (d : D) (ρ : Ev) (S : St') : R Unit := match bindTg tg d ρ with
  | none => .bad
  | some ρ' => (c ρ' S).nox.bind fun b S1 => if b then (ke ρ' S1).nox.bind fun y S2 => (R.opt (keyV y) S2).bind fun y S2 => (ve ρ' S2).nox.bind fun v S3 => dcPut k y v S3 else .ok () S1
def dcEnd (k : Nat) (S : St') : R (List (Key × D)) := match S[k]? with
  | some (.dk acc) => .ok acc (S.take k)
  | _ => .bad
def dcFix (tg : Tg) (c : Ev → St' → R Bool) (ke ve : Ev → St' → R SV) (k : Nat) : List D → Ev → St' → R (List (Key × D))
  | [], _, S => dcEnd k S
  | d :: ds, ρ, S => (dcTurn tg c ke ve k d ρ S).bind fun _ S1 => dcFix tg c ke ve k ds ρ S1
def dcSrc (tg : Tg) (c : Ev → St' → R Bool) (ke ve : Ev → St' → R SV) : Src → Ev → St' → R (List (Key × D))
  | .fix xs, ρ, S => dcFix tg c ke ve S.length xs ρ (S ++ [.dk []])
  | .live _, _, _ => .bad

def srcOf (S : St') : SV → Option Src
  | .t (.lst xs) => some (.fix xs)
  | .t (.tup xs) => some (.fix xs)
  | .t (.str x) => some (.fix (x.cps.toList.map fun c => .str ⟨#[c]⟩))
  | .t _ => none
  | .o i => match S[i]? with
    | some (.lst _) => some (.live i)
    | _ => none
  | _ => none
def rangeD (lo hi : Int) : List D := (List.range (hi - lo).toNat).map fun (k : Nat) => D.int (lo + (k : Int))
def enumD (xs : List D) : List D := (xs.zipIdx).map fun p => D.tup [.int (p.2 : Nat), p.1]
def zipD (xs ys : List D) : List D := (xs.zip ys).map fun p => D.tup [p.1, p.2]
def rngOk (i : Int) : Bool := decide (-(2 ^ 62) ≤ i ∧ i < 2 ^ 62)

/-- each once, as first met -/
def dset {α : Type} [DecidableEq α] (xs : List α) : List α := xs.foldl (fun acc x => if x ∈ acc then acc else acc ++ [x]) []
def asKeys : List D → Option (List Key)
  | [] => some []
  | .int i :: r => (asKeys r).map (Sum.inl i :: ·)
  | .str x :: r => (asKeys r).map (Sum.inr x :: ·)
  | _ :: _ => none
def sqOf : D → Option (List D)
  | .lst xs => some xs
  | .tup xs => some xs
  | _ => none
def lensetD (d : D) : Option D := (sqOf d).bind fun xs => (asStrs xs).bind fun ks => if ks.length + 1 < scanBound then some (.int ((dset ks).length : Nat)) else none
def kD : Key → D
  | .inl i => .int i
  | .inr x => .str x
def sortsetD (d : D) : Option D := (sqOf d).bind fun xs => (asStrs xs).bind fun ks => if ks.length + 1 < scanBound then some (.lst (((dset ks).map D.str).mergeSort dle)) else none
def asTups : List D → Option (List (List Int))
  | [] => some []
  | .tup xs :: r => (asInts xs).bind fun k => (asTups r).map (k :: ·)
  | _ :: _ => none
/-- of a list of tuples of ints -/
def lensettD : D → Option D
  | .lst xs => (asTups xs).bind fun ks => if ks.length < 64 then some (.int ((dset ks).length : Nat)) else none
  | _ => none
/-- of a list or a tuple of ints -/
def sortsetiD (d : D) : Option D := (sqOf d).bind fun xs => (asInts xs).bind fun ns => if ns.length < 64 then some (.lst (((dset ns).mergeSort fun a b => decide (a ≤ b)).map D.int)) else none
def tupK (k : List Int) : D := .tup (k.map .int)
/-- of a list or a tuple of tuples of ints -/
def sortsettD (d : D) : Option D := (sqOf d).bind fun xs => (asTups xs).bind fun ks => if ks.length < 64 ∧ ∀ k ∈ ks, k ≠ [] then some (.lst (((dset ks).map tupK).mergeSort dle)) else none
def fzD : Fz → List D → Option D
  | .sortsett, [d] => sortsettD d
  | .sortseti, [d] => sortsetiD d
  | .lensett, [d] => lensettD d
  | .sortset, [d] => sortsetD d
  | .lenset, [d] => lensetD d
  | .tri, [.bl b] => some (.bl (!b))
  | .tri, [.non] => some .non
  | .reprl, [d] => reprD d
  | .listrange, [.int a, .int b] => if rngOk a && rngOk b && decide ((b - a).toNat ≤ sizeLine) then some (.lst (rangeD a b)) else none
  | _, _ => none

def revD : D → Option D
  | .lst xs => some (.lst xs.reverse)
  | _ => none
def tru (r : R SV) : R Bool := r.bind fun v S => R.opt ((peek S v).bind truD) S
def tests (cs : List (Ev → St' → R Bool)) : Ev → St' → R Bool := match cs with
  | [] => fun _ S => .ok true S
  | c :: _ => c

mutual
def evalE (F : FS) : ME → Ev → St' → R SV
  | .var i, ρ, S => match ρ[i]? with
    | some (some v) => .ok v S
    | _ => .bad
  | .lit d, _, S => .ok (.t d) S
  | .glb _ d, _, S => .ok (.t d) S
  | .tup es, ρ, S => (evalEs F es ρ S).bind fun vs S1 => match grabs S1 vs with
    | some (ds, S2) => if ds.length ≤ sizeLine then .ok (.t (.tup ds)) S2 else .bad
    | none => .bad
  | .lst es, ρ, S => (evalEs F es ρ S).bind fun vs S1 => match grabs S1 vs with
    | some (ds, S2) => if ds.length ≤ sizeLine then .ok (.t (.lst ds)) S2 else .bad
    | none => .bad
  | .bin o a b, ρ, S => (evalE F a ρ S).bind fun x S1 => (evalE F b ρ S1).bind fun y S2 =>
      R.opt ((peek S2 x).bind fun d => (peek S2 y).bind fun e => (binD o d e).map .t) S2
  | .neg a, ρ, S => (evalE F a ρ S).bind fun x S1 => match x with
    | .t (.int i) => .ok (.t (.int (-i))) S1
    | _ => .bad
  | .cmp o a b, ρ, S => (evalE F a ρ S).bind fun x S1 => (evalE F b ρ S1).bind fun y S2 =>
      R.opt ((peek S2 x).bind fun d => (peek S2 y).bind fun e => (cmpD o d e).map fun b => .t (.bl b)) S2
  | .cmp2 o p a b c, ρ, S => (evalE F a ρ S).bind fun x S1 => (evalE F b ρ S1).bind fun y S2 =>
      (R.opt ((peek S2 x).bind fun d => (peek S2 y).bind fun e => cmpD o d e) S2).bind fun k S3 =>
        if k then (evalE F c ρ S3).bind fun z S4 => R.opt ((peek S4 y).bind fun e => (peek S4 z).bind fun f => (cmpD p e f).map fun b => .t (.bl b)) S4
        else .ok (.t (.bl false)) S3
  | .and a b, ρ, S => (evalE F a ρ S).bind fun x S1 => (R.opt ((peek S1 x).bind truD) S1).bind fun k S2 => if k then evalE F b ρ S2 else .ok x S2
  | .or a b, ρ, S => (evalE F a ρ S).bind fun x S1 => (R.opt ((peek S1 x).bind truD) S1).bind fun k S2 => if k then .ok x S2 else evalE F b ρ S2
  | .not a, ρ, S => (tru (evalE F a ρ S)).bind fun k S1 => .ok (.t (.bl (!k))) S1
  | .ife c a b, ρ, S => (tru (evalE F c ρ S)).bind fun k S1 => if k then evalE F a ρ S1 else evalE F b ρ S1
  | .idx a i, ρ, S => (evalE F a ρ S).bind fun x S1 => (evalE F i ρ S1).bind fun y S2 =>
      R.opt ((peek S2 x).bind fun d => (peek S2 y).bind fun e => (idxD d e).map .t) S2
  | .slc a lo hi, ρ, S => (evalE F a ρ S).bind fun x S1 => (evalP F lo ρ S1).bind fun l S2 => (evalP F hi ρ S2).bind fun h S3 =>
      R.opt ((peek S3 x).bind fun d => (slcD d l h).map .t) S3
  | .call f es, ρ, S => (evalEs F es ρ S).bind fun vs S1 => F f vs S1
  | .bi b es, ρ, S => (evalEs F es ρ S).bind fun vs S1 => R.opt ((peeks S1 vs).bind fun ds => (biD b ds).map .t) S1
  | .isi a t, ρ, S => (evalE F a ρ S).bind fun x S1 => R.opt ((peek S1 x).map fun d => .t (.bl (isiD d t))) S1
  | .isit a ts, ρ, S => (evalE F a ρ S).bind fun x S1 => R.opt ((peek S1 x).map fun d => .t (.bl (ts.any fun t => isiD d t))) S1
  | .mth m o es, ρ, S => (evalE F o ρ S).bind fun x S1 => if ((peek S1 x).map (mtOk m)).getD false = false then .bad else (evalEs F es ρ S1).bind fun vs S2 =>
      R.opt ((peek S2 x).bind fun d => (peeks S2 vs).bind fun ds => (mthD m d ds).map .t) S2
  | .lc tg it cs e, ρ, S => (evalI F it ρ S).bind fun src S1 => (lcSrc tg (tests (evalCs F cs)) (evalE F e) src ρ S1).bind fun xs S2 => .ok (.t (.lst xs)) S2
  | .lensc tg it cs e, ρ, S => (evalI F it ρ S).bind fun src S1 => (scSrc tg (tests (evalCs F cs)) (evalE F e) src ρ S1).bind fun ks S2 => .ok (.t (.int ((dset ks).length : Nat))) S2
  | .rev a, ρ, S => (evalE F a ρ S).bind fun x S1 => R.opt ((peek S1 x).bind fun d => (revD d).map .t) S1
  | .fz f es, ρ, S => (evalEs F es ρ S).bind fun vs S1 => R.opt ((peeks S1 vs).bind fun ds => (fzD f ds).map .t) S1
  | .dvals i _, ρ, S => match ρ[i]? with
    | some (some (.o n)) => match S[n]? with
      | some (.dt kvs) => if kvs.length < sizeLine then .ok (.t (.lst (kvs.map (·.2)))) S else .bad
      | _ => .bad
    | _ => .bad
  | .att e f, ρ, S => (evalE F e ρ S).bind fun x S1 => R.opt (attV x f) S1
  | .mk c ns es, ρ, S => (evalEs F es ρ S).bind fun vs S1 => if vs.length = ns.length then .ok (.ins c ns vs) S1 else .bad
  | .dget a i, ρ, S => (evalE F a ρ S).bind fun x S1 => (evalE F i ρ S1).bind fun y S2 => R.opt (dgetV S2 x y) S2
  | .din neg i a, ρ, S => (evalE F i ρ S).bind fun y S1 => (evalE F a ρ S1).bind fun x S2 => R.opt (dinV S2 neg y x) S2
  | .gdget _ kvs i, ρ, S => (evalE F i ρ S).bind fun y S1 => R.opt ((strV y).bind fun z => (kvs.lookup z).map .t) S1
  | .gdin neg _ kvs i, ρ, S => (evalE F i ρ S).bind fun y S1 => R.opt ((strV y).map fun z => .t (.bl (xor neg (kvs.lookup z).isSome))) S1
  | .obT, _, S => .ok (.o S.length) (S ++ [.dt []])
  | .kd0, _, S => .ok (.kd []) S
  | .dc tg it cs k v, ρ, S => (evalI F it ρ S).bind fun src S1 => (dcSrc tg (tests (evalCs F cs)) (evalE F k) (evalE F v) src ρ S1).bind fun kvs S2 => .ok (.kd kvs) S2
  | .callR f es w y z, ρ, S => (evalEs F es ρ S).bind fun vs S1 => (evalE F w ρ S1).bind fun v S2 => (R.opt (replV v y z) S2).bind fun u S3 => F f (vs ++ [u]) S3
  | .callK f es e, ρ, S => (evalEs F es ρ S).bind fun vs S1 => (evalE F e ρ S1).bind fun v S2 => (F f (vs ++ [v]) S2).nox
  | .callD f es d, ρ, S => (evalEs F es ρ S).bind fun vs S1 => (F f (vs ++ [.t d]) S1).nox
def evalEs (F : FS) : List ME → Ev → St' → R (List SV)
  | [], _, S => .ok [] S
  | e :: es, ρ, S => (evalE F e ρ S).bind fun v S1 => (evalEs F es ρ S1).bind fun vs S2 => .ok (v :: vs) S2
def evalCs (F : FS) : List ME → List (Ev → St' → R Bool)
  | [] => []
  | c :: cs => (fun ρ S => tru (evalE F c ρ S)) :: evalCs F cs
def evalP (F : FS) : List ME → Ev → St' → R (Option Int)
  | [], _, S => .ok none S
  | e :: _, ρ, S => (evalE F e ρ S).bind fun v S1 => match v with
    | .t (.int i) => .ok (some i) S1
    | _ => .bad
def evalI (F : FS) : IT → Ev → St' → R Src
  | .of e, ρ, S => (evalE F e ρ S).bind fun v S1 => R.opt (srcOf S1 v) S1
  | .range1 e, ρ, S => (evalE F e ρ S).bind fun v S1 => match v with
    | .t (.int n) => if rngOk n then .ok (.fix (rangeD 0 n)) S1 else .bad
    | _ => .bad
  | .range2 a b, ρ, S => (evalE F a ρ S).bind fun v S1 => (evalE F b ρ S1).bind fun u S2 => match v, u with
    | .t (.int i), .t (.int j) => if rngOk i && rngOk j then .ok (.fix (rangeD i j)) S2 else .bad
    | _, _ => .bad
  | .enum e, ρ, S => (evalE F e ρ S).bind fun v S1 => match v with
    | .t (.lst xs) => .ok (.fix (enumD xs)) S1
    | .t (.tup xs) => .ok (.fix (enumD xs)) S1
    | _ => .bad
  | .zip a b, ρ, S => (evalE F a ρ S).bind fun v S1 => (evalE F b ρ S1).bind fun u S2 => match v, u with
    | .t (.lst xs), .t (.lst ys) => .ok (.fix (zipD xs ys)) S2
    | .t (.tup xs), .t (.tup ys) => .ok (.fix (zipD xs ys)) S2
    | _, _ => .bad
  | .zips a b, ρ, S => (evalE F a ρ S).bind fun v S1 => (evalE F b ρ S1).bind fun u S2 => match v, u with
    | .t (.str x), .t (.tup ys) => .ok (.fix (zipD (x.cps.toList.map fun c => .str ⟨#[c]⟩) ys)) S2
    | _, _ => .bad
end
/-- a list that is new -/
def evalL (F : FS) : ME → Ev → St' → R (List D)
  | .lst es, ρ, S => (evalEs F es ρ S).bind fun vs S1 => match grabs S1 vs with
    | some (ds, S2) => if ds.length ≤ sizeLine then .ok ds S2 else .bad
    | none => .bad
  | .lc tg it cs e, ρ, S => (evalI F it ρ S).bind fun src S1 => lcSrc tg (tests (evalCs F cs)) (evalE F e) src ρ S1
  | .bin .add a b, ρ, S => (evalE F a ρ S).bind fun x S1 => (evalE F b ρ S1).bind fun y S2 =>
      R.opt ((peek S2 x).bind fun d => (peek S2 y).bind fun e => match d, e with
        | .lst xs, .lst ys => if xs.length + ys.length ≤ sizeLine then some (xs ++ ys) else none
        | _, _ => none) S2
  | .bi .list [a], ρ, S => (evalE F a ρ S).bind fun x S1 => R.opt ((peek S1 x).bind fun d => match d with
      | .lst xs => some xs
      | .tup xs => some xs
      | _ => none) S1
  | _, _, _ => .bad

inductive Out where
  | nx (ρ : Ev) (S : St') | rt (v : SV) (S : St') | bk (ρ : Ev) (S : St') | ct (ρ : Ev) (S : St') | exc (c : Nat) (p : List D) (ρ : Ev) (S : St') | bad
def Out.of {α : Type} (ρ : Ev) (r : R α) (k : α → St' → Out) : Out := match r with
  | .ok a S => k a S
  | .exc c p S => .exc c p ρ S
  | .bad => .bad
@[simp] theorem Out.of_ok {α : Type} (ρ : Ev) (a : α) (S : St') (k : α → St' → Out) : Out.of ρ (.ok a S) k = k a S := rfl
@[simp] theorem Out.of_exc {α : Type} (ρ : Ev) (c : Nat) (p : List D) (S : St') (k : α → St' → Out) : Out.of ρ (.exc c p S) k = .exc c p ρ S := rfl
@[simp] theorem Out.of_bad {α : Type} (ρ : Ev) (k : α → St' → Out) : Out.of ρ .bad k = .bad := rfl
def Out.seq (o : Out) (k : Ev → St' → Out) : Out := match o with
  | .nx ρ S => k ρ S
  | o => o
@[simp] theorem Out.seq_nx (ρ : Ev) (S : St') (k : Ev → St' → Out) : (Out.nx ρ S).seq k = k ρ S := rfl
@[simp] theorem Out.seq_rt (v : SV) (S : St') (k : Ev → St' → Out) : (Out.rt v S).seq k = .rt v S := rfl
@[simp] theorem Out.seq_bk (ρ : Ev) (S : St') (k : Ev → St' → Out) : (Out.bk ρ S).seq k = .bk ρ S := rfl
@[simp] theorem Out.seq_ct (ρ : Ev) (S : St') (k : Ev → St' → Out) : (Out.ct ρ S).seq k = .ct ρ S := rfl
@[simp] theorem Out.seq_exc (c : Nat) (p : List D) (ρ : Ev) (S : St') (k : Ev → St' → Out) : (Out.exc c p ρ S).seq k = .exc c p ρ S := rfl
@[simp] theorem Out.seq_bad (k : Ev → St' → Out) : Out.bad.seq k = .bad := rfl
/-- behind a loop's turn -/
def Out.turn (o : Out) (k : Ev → St' → Out) : Out := match o with
  | .nx ρ S => k ρ S
  | .ct ρ S => k ρ S
  | .bk ρ S => .nx ρ S
  | .rt v S => .rt v S
  | .exc c p ρ S => .exc c p ρ S
  | .bad => .bad
@[simp] theorem Out.turn_nx (ρ : Ev) (S : St') (k : Ev → St' → Out) : (Out.nx ρ S).turn k = k ρ S := rfl
@[simp] theorem Out.turn_ct (ρ : Ev) (S : St') (k : Ev → St' → Out) : (Out.ct ρ S).turn k = k ρ S := rfl
@[simp] theorem Out.turn_bk (ρ : Ev) (S : St') (k : Ev → St' → Out) : (Out.bk ρ S).turn k = .nx ρ S := rfl
@[simp] theorem Out.turn_rt (v : SV) (S : St') (k : Ev → St' → Out) : (Out.rt v S).turn k = .rt v S := rfl
@[simp] theorem Out.turn_exc (c : Nat) (p : List D) (ρ : Ev) (S : St') (k : Ev → St' → Out) : (Out.exc c p ρ S).turn k = .exc c p ρ S := rfl
@[simp] theorem Out.turn_bad (k : Ev → St' → Out) : Out.bad.turn k = .bad := rfl

def forFix (tg : Tg) (body : Ev → St' → Out) : List D → Ev → St' → Out
  | [], ρ, S => .nx ρ S
  | d :: ds, ρ, S => match bindTg tg d ρ with
    | none => .bad
    | some ρ' => (body ρ' S).turn fun ρ2 S2 => forFix tg body ds ρ2 S2
def forLive (tg : Tg) (body : Ev → St' → Out) (i : Nat) : Nat → Nat → Ev → St' → Out
  | n, j, ρ, S => match S[i]? with
    | some (.lst ys) => match ys[j]?, n with
      | none, _ => .nx ρ S
      | some _, 0 => .bad
      | some d, n + 1 => match bindTg tg d ρ with
        | none => .bad
        | some ρ' => (body ρ' S).turn fun ρ2 S2 => forLive tg body i n (j + 1) ρ2 S2
    | _ => .bad
def forSrc (tg : Tg) (body : Ev → St' → Out) : Src → Ev → St' → Out
  | .fix xs, ρ, S => forFix tg body xs ρ S
  | .live i, ρ, S => match S[i]? with
    | some (.lst ys) => forLive tg body i ys.length 0 ρ S
    | _ => .bad

/-- the value is put behind what the list k has -/
def appO (ρ : Ev) (k : Nat) (v : SV) (S1 : St') : Out := match grab S1 v with
  | some (d, S2) => match S2[k]? with
    | some (.lst xs) => if xs.length < sizeLine then .nx ρ (S2.set k (.lst (xs ++ [d]))) else .bad
    | _ => .bad
  | none => .bad
/-- the value is put ahead of what stands at a place -/
def inslO (ρ : Ev) (n : Nat) (kv v : SV) (S1 : St') : Out := match kv with
  | .t (.int z) => match grab S1 v with
    | some (d, S2) => match S2[n]? with
      | some (.lst xs) => if xs.length < sizeLine ∧ 0 ≤ z ∧ z < 4611686018427387904 then .nx ρ (S2.set n (.lst (xs.take z.toNat ++ [d] ++ xs.drop z.toNat))) else .bad
      | _ => .bad
    | none => .bad
  | _ => .bad
/-- in its place, or at the end -/
def putD (kvs : List (List Key × D)) (k : List Key) (v : D) : List (List Key × D) :=
  if (kvs.any fun kv => decide (kv.1 = k)) = true then kvs.map (fun kv => if kv.1 = k then (kv.1, v) else kv) else kvs ++ [(k, v)]
def putO (ρ : Ev) (n : Nat) (d : D) (kv : SV) (S3 : St') : Out := match peek S3 kv with
  | some (.lst xs) => match asKeys xs, S3[n]? with
    | some ks, some (.dt kvs) => if kvs.length < sizeLine then .nx ρ (S3.set n (.dt (putD kvs ks d))) else .bad
    | _, _ => .bad
  | _ => .bad
def putkO (ρ : Ev) (n : Nat) (d : D) (kv : SV) (S3 : St') : Out := match keyV kv, S3[n]? with
  | some k, some (.dk kvs) => if kvs.length < sizeLine then .nx ρ (S3.set n (.dk (putKD kvs k d))) else .bad
  | _, _ => .bad
def puttO (ρ : Ev) (n : Nat) (d : D) (ks : List SV) (S3 : St') : Out := match grabs S3 ks with
  | some (xs, S4) => match asKeys xs, S4[n]? with
    | some k, some (.dt kvs) => if kvs.length < sizeLine ∧ k.length ≤ sizeLine then .nx ρ (S4.set n (.dt (putD kvs k d))) else .bad
    | _, _ => .bad
  | none => .bad
def newkO (ρ : Ev) (i n : Nat) (ks : List Str) (vs : List SV) (S1 : St') : Out := match grabs S1 vs with
  | some (ds, S2) => match S2[n]? with
    | some (.dk []) => if ks.length = ds.length ∧ ks.length ≤ 15 then .nx (ρ.set i (some (.o n))) (S2.set n (.dk (mergeD [] ks ds))) else .bad
    | _ => .bad
  | none => .bad
def setO (ρ : Ev) (n : Nat) (d : D) (kv : SV) (S3 : St') : Out := match kv with
  | .t (.int z) => match S3[n]? with
    | some (.lst xs) => match ixN xs.length z with
      | some j => .nx ρ (S3.set n (.lst (xs.set j d)))
      | none => .bad
    | _ => .bad
  | _ => .bad
def augO (ρ : Ev) (i : Nat) (o : Bn) (x y : SV) (S1 : St') : Out := match x, y with
  | .t (.int a), .t (.int b) => if o = .pow then .bad else match binD o (.int a) (.int b) with
    | some d => .nx (ρ.set i (some (.t d))) S1
    | none => .bad
  | _, _ => .bad
def tpO (ρ : Ev) (is : List Nat) (v : SV) (S1 : St') : Out := match v with
  | .t (.tup ds) => match setTg is ds ρ with
    | some ρ' => .nx ρ' S1
    | none => .bad
  | .t (.lst ds) => match setTg is ds ρ with
    | some ρ' => .nx ρ' S1
    | none => .bad
  | _ => .bad
mutual
def execS (F : FS) : MS → Ev → St' → Out
  | .doc, ρ, S => .nx ρ S
  | .pass, ρ, S => .nx ρ S
  | .any, _, _ => .bad
  | .asg (.v i) e, ρ, S => Out.of ρ (evalE F e ρ S) fun v S1 => .nx (ρ.set i (some v)) S1
  | .asg (.tp is) e, ρ, S => Out.of ρ (evalE F e ρ S) fun v S1 => tpO ρ is v S1
  | .par i j a b, ρ, S => Out.of ρ (evalE F a ρ S) fun v S1 => Out.of ρ (evalE F b ρ S1) fun u S2 => .nx ((ρ.set i (some v)).set j (some u)) S2
  | .new i e, ρ, S => Out.of ρ (evalL F e ρ S) fun xs S1 => .nx (ρ.set i (some (.o S1.length))) (S1 ++ [.lst xs])
  | .aug i o e, ρ, S => match ρ[i]? with
    | some (some x) => Out.of ρ (evalE F e ρ S) fun y S1 => augO ρ i o x y S1
    | _ => .bad
  | .app i e, ρ, S => match ρ[i]? with
    | some (some (.o k)) => match S[k]? with
      | some (.lst _) => Out.of ρ (evalE F e ρ S) fun v S1 => appO ρ k v S1
      | _ => .bad
    | _ => .bad
  | .insl i k e, ρ, S => match ρ[i]? with
    | some (some (.o n)) => match S[n]? with
      | some (.lst _) => Out.of ρ (evalE F k ρ S) fun kv S1 => Out.of ρ (evalE F e ρ S1) fun v S2 => inslO ρ n kv v S2
      | _ => .bad
    | _ => .bad
  | .seti i k e, ρ, S => Out.of ρ (evalE F e ρ S) fun v S1 => match grab S1 v with
    | some (d, S2) => match ρ[i]? with
      | some (some (.o n)) => Out.of ρ (evalE F k ρ S2) fun kv S3 => setO ρ n d kv S3
      | _ => .bad
    | none => .bad
  | .newd i, ρ, S => .nx (ρ.set i (some (.o S.length))) (S ++ [.dt []])
  | .putd i k e, ρ, S => Out.of ρ (evalE F e ρ S) fun v S1 => match grab S1 v with
    | some (d, S2) => match ρ[i]? with
      | some (some (.o n)) => Out.of ρ (evalE F k ρ S2) fun kv S3 => putO ρ n d kv S3
      | _ => .bad
    | none => .bad
  | .newk i ks es, ρ, S => Out.of ρ (evalEs F es ρ (S ++ [.dk []])) fun vs S1 => newkO ρ i S.length ks vs S1
  | .putk i k e, ρ, S => Out.of ρ (evalE F e ρ S) fun v S1 => match grab S1 v with
    | some (d, S2) => match ρ[i]? with
      | some (some (.o n)) => Out.of ρ (evalE F k ρ S2) fun kv S3 => putkO ρ n d kv S3
      | _ => .bad
    | none => .bad
  | .putt i k e, ρ, S => Out.of ρ (evalE F e ρ S) fun v S1 => match grab S1 v with
    | some (d, S2) => match ρ[i]? with
      | some (some (.o n)) => Out.of ρ (evalEs F k ρ S2) fun kv S3 => puttO ρ n d kv S3
      | _ => .bad
    | none => .bad
  | .expr e, ρ, S => Out.of ρ (evalE F e ρ S) fun _ S1 => .nx ρ S1
  | .ret e, ρ, S => Out.of ρ (evalE F e ρ S) fun v S1 => .rt v S1
  | .retN, ρ, S => .rt (.t .non) S
  | .ife c a b, ρ, S => Out.of ρ (tru (evalE F c ρ S)) fun k S1 => if k then execB F a ρ S1 else execB F b ρ S1
  | .for_ tg it body, ρ, S => Out.of ρ (evalI F it ρ S) fun src S1 => forSrc tg (execB F body) src ρ S1
def execB (F : FS) : List MS → Ev → St' → Out
  | [], ρ, S => .nx ρ S
  | s :: ss, ρ, S => (execS F s ρ S).seq fun ρ' S' => execB F ss ρ' S'
end
mutual
/-- no object but the first n within -/
def shut (n : Nat) : SV → Bool
  | .t _ | .kd _ | .td _ => true
  | .o i => decide (i < n)
  | .ins _ _ fs => shuts n fs
def shuts (n : Nat) : List SV → Bool
  | [] => true
  | v :: vs => shut n v && shuts n vs
end
/-- the end of a call that began with n objects -/
def finish (n : Nat) (v : SV) (S : St') : R SV := match v with
  | .t d => .ok (.t d) (S.take n)
  | .o i => if i < n then .ok (.o i) (S.take n) else match S[i]? with
    | some (.lst xs) => .ok (.t (.lst xs)) (S.take n)
    | some (.dk kvs) => .ok (.kd kvs) (S.take n)
    | some (.dt kvs) => .ok (.td kvs) (S.take n)
    | _ => .bad
  | .kd kvs => .ok (.kd kvs) (S.take n)
  | .td kvs => .ok (.td kvs) (S.take n)
  | .ins c ns fs => if shuts n fs then .ok (.ins c ns fs) (S.take n) else .bad
/-- a def: how many parameters, how many slots, its body -/
structure Fn where
  ar : Nat
  sl : Nat
  body : List MS
def callF (F : FS) (f : Fn) (vs : List SV) (S : St') : R SV :=
  if vs.length = f.ar then
    match execB F f.body (vs.map some ++ List.replicate (f.sl - vs.length) none) S with
    | .rt v S' => finish S.length v S'
    | .nx _ S' => .ok (.t .non) (S'.take S.length)
    | .exc c p _ S' => .exc c p (S'.take S.length)
    | _ => .bad
  else .bad
/-- the defs at depth n -/
def FT (T : List Fn) : Nat → FS
  | 0 => fun _ _ _ => .bad
  | n + 1 => fun f vs S => match T[f]? with
    | some fn => callF (FT T n) fn vs S
    | none => .bad
end M

/-! values: what stands for data is read and made -/
namespace M
open PySem PySem.Spec PyProof.Rows L2

section
variable {K : PySem.W.Frag} {H H' : Hp} {m m' : List Addr} {S S' : St'} {N N' : Addr → Prop}

theorem ORep.there {a : Addr} {o : O} (h : ORep K H N a o) : ∃ u, H a = some u := by
  cases o with
  | lst xs => obtain ⟨vs, h1, _⟩ := h; exact ⟨_, h1⟩
  | dt kvs => obtain ⟨vs, h1, _⟩ := h; exact ⟨_, h1⟩
  | dk kvs => obtain ⟨vs, h1, _⟩ := h; exact ⟨_, h1⟩
  | dead => exact h
theorem StOk.mem (ok : StOk K H m S) {a : Addr} (h : a ∈ m) : ∃ o, H a = some o := by
  obtain ⟨i, hi⟩ := List.getElem?_of_mem h
  have hl : i < S.length := by
    have := (List.getElem?_eq_some_iff.mp hi).1
    rw [← ok.len]; exact this
  exact (ok.at_ i a _ hi (List.getElem?_eq_getElem hl)).there
theorem Own.mem {a : Addr} (h : Own m S a) : a ∈ m := by
  obtain ⟨i, e, _⟩ := h
  exact List.mem_of_getElem? e
theorem StOk.own (ok : StOk K H m S) {a : Addr} (h : Own m S a) : ∃ o, H a = some o := ok.mem h.mem
theorem StOk.fresh (ok : StOk K H m S) {p : Addr} (h : H p = none) : ¬ Own m S p := fun o => by
  obtain ⟨u, e⟩ := ok.own o
  rw [h] at e; cases e
theorem ORep.mono (f : ∀ a o, H a = some o → ¬ N a → H' a = some o ∧ ¬ N' a) {a : Addr} {o : O} (g : ∀ u, H a = some u → ∃ u', H' a = some u') (g2 : ∀ u, H a = some u → o ≠ .dead → H' a = some u) (h : ORep K H N a o) : ORep K H' N' a o := by
  cases o with
  | lst xs => obtain ⟨vs, h1, h2⟩ := h; exact ⟨vs, g2 _ h1 (fun z => nomatch z), h2.mono f⟩
  | dt kvs => obtain ⟨vs, h1, h2, h4, h3⟩ := h; exact ⟨vs, g2 _ h1 (fun z => nomatch z), h2, h4, h3.mono f⟩
  | dk kvs => obtain ⟨vs, h1, h2, h3⟩ := h; exact ⟨vs, g2 _ h1 (fun z => nomatch z), h2, h3.mono f⟩
  | dead => obtain ⟨u, e⟩ := h; exact g u e
/-- a new object that is seen -/
theorem StOk.laid (ok : StOk K H m S) {p : Addr} (hp : H p = none) (o : HO) : StOk K (upd H p o) m S ∧ Fr H m S (upd H p o) m S := by
  have k : ∀ a u, H a = some u → upd H p o a = some u := fun a u e => by rw [upd_ne (ne_of_none e hp)]; exact e
  have f : ∀ a u, H a = some u → ¬ Own m S a → upd H p o a = some u ∧ ¬ Own m S a := fun a u e n => ⟨k a u e, n⟩
  exact ⟨⟨ok.len, ok.nd, fun i a u e1 e2 => (ok.at_ i a u e1 e2).mono f (fun u e => ⟨u, k _ _ e⟩) fun u e _ => k _ _ e⟩, f, List.prefix_refl _⟩
theorem own_push {p a : Addr} {o : O} (hl : m.length = S.length) (h : Own (m ++ [p]) (S ++ [o]) a) : Own m S a ∨ a = p := by
  obtain ⟨i, e1, u, e2, ne⟩ := h
  by_cases hi : i < m.length
  · rw [List.getElem?_append_left hi] at e1
    rw [List.getElem?_append_left (by omega)] at e2
    exact .inl ⟨i, e1, u, e2, ne⟩
  · rw [List.getElem?_append_right (by omega)] at e1
    have : i - m.length = 0 := by
      have := (List.getElem?_eq_some_iff.mp e1).1
      simp at this; omega
    rw [this] at e1
    simp at e1
    exact .inr e1.symm
/-- a new object that is changed later -/
theorem StOk.push (ok : StOk K H m S) {p : Addr} (hp : H p = none) {vs : List V} {xs : List D} (hv : Reps K H (Own m S) vs xs) :
    StOk K (upd H p (.lst vs)) (m ++ [p]) (S ++ [.lst xs]) ∧ Fr H m S (upd H p (.lst vs)) (m ++ [p]) (S ++ [.lst xs]) := by
  have k : ∀ a u, H a = some u → upd H p (.lst vs) a = some u := fun a u e => by rw [upd_ne (ne_of_none e hp)]; exact e
  have f : ∀ a u, H a = some u → ¬ Own m S a → upd H p (.lst vs) a = some u ∧ ¬ Own (m ++ [p]) (S ++ [.lst xs]) a := fun a u e n => by
    refine ⟨k a u e, fun z => ?_⟩
    rcases own_push ok.len z with z | z
    · exact n z
    · subst z; rw [hp] at e; cases e
  have np : p ∉ m := fun z => by
    obtain ⟨u, e⟩ := ok.mem z
    rw [hp] at e; cases e
  refine ⟨⟨by simp [ok.len], ?_, fun i a u e1 e2 => ?_⟩, f, ⟨[p], rfl⟩⟩
  · rw [List.nodup_append]
    refine ⟨ok.nd, by simp, fun a ha b hb => ?_⟩
    have : b = p := by simpa using hb
    subst this
    exact fun z => np (z ▸ ha)
  · by_cases hi : i < m.length
    · rw [List.getElem?_append_left hi] at e1
      rw [List.getElem?_append_left (by rw [← ok.len]; exact hi)] at e2
      exact (ok.at_ i a u e1 e2).mono f (fun u e => ⟨u, k _ _ e⟩) fun u e _ => k _ _ e
    · have hl := ok.len
      rw [List.getElem?_append_right (by omega)] at e1 e2
      have h0 : i - m.length = 0 := by
        have := (List.getElem?_eq_some_iff.mp e1).1
        simp at this; omega
      rw [h0] at e1
      rw [← hl, h0] at e2
      simp at e1 e2
      subst e1 e2
      exact ⟨vs, upd_same, hv.mono f⟩
/-- a new object of any kind -/
theorem StOk.pushO (ok : StOk K H m S) {p : Addr} (hp : H p = none) {uo : HO} {oo : O} (hr : (∀ a u, H a = some u → ¬ Own m S a → upd H p uo a = some u ∧ ¬ Own (m ++ [p]) (S ++ [oo]) a) → ORep K (upd H p uo) (Own (m ++ [p]) (S ++ [oo])) p oo) :
    StOk K (upd H p uo) (m ++ [p]) (S ++ [oo]) ∧ Fr H m S (upd H p uo) (m ++ [p]) (S ++ [oo]) := by
  have k : ∀ a u, H a = some u → upd H p uo a = some u := fun a u e => by rw [upd_ne (ne_of_none e hp)]; exact e
  have f : ∀ a u, H a = some u → ¬ Own m S a → upd H p uo a = some u ∧ ¬ Own (m ++ [p]) (S ++ [oo]) a := fun a u e n => by
    refine ⟨k a u e, fun z => ?_⟩
    rcases own_push ok.len z with z | z
    · exact n z
    · subst z; rw [hp] at e; cases e
  have np : p ∉ m := fun z => by
    obtain ⟨u, e⟩ := ok.mem z
    rw [hp] at e; cases e
  refine ⟨⟨by simp [ok.len], ?_, fun i a u e1 e2 => ?_⟩, f, ⟨[p], rfl⟩⟩
  · rw [List.nodup_append]
    refine ⟨ok.nd, by simp, fun a ha b hb => ?_⟩
    have : b = p := by simpa using hb
    subst this
    exact fun z => np (z ▸ ha)
  · by_cases hi : i < m.length
    · rw [List.getElem?_append_left hi] at e1
      rw [List.getElem?_append_left (by rw [← ok.len]; exact hi)] at e2
      exact (ok.at_ i a u e1 e2).mono f (fun u e => ⟨u, k _ _ e⟩) fun u e _ => k _ _ e
    · have hl := ok.len
      rw [List.getElem?_append_right (by omega)] at e1 e2
      have h0 : i - m.length = 0 := by
        have := (List.getElem?_eq_some_iff.mp e1).1
        simp at this; omega
      rw [h0] at e1
      rw [← hl, h0] at e2
      simp at e1 e2
      subst e1 e2
      exact hr f
theorem own_set {i : Nat} {o : O} {a : Addr} (h : Own m (S.set i o) a) (ho : o ≠ .dead → ∃ u, S[i]? = some u ∧ u ≠ .dead) : Own m S a := by
  obtain ⟨j, e1, u, e2, ne⟩ := h
  by_cases hj : i = j
  · subst hj
    by_cases hi : i < S.length
    · rw [List.getElem?_set_self hi] at e2
      cases e2
      obtain ⟨u, e3, ne3⟩ := ho ne
      exact ⟨i, e1, u, e3, ne3⟩
    · rw [List.getElem?_eq_none (by simpa using hi)] at e2; cases e2
  · rw [List.getElem?_set_ne hj] at e2
    exact ⟨j, e1, u, e2, ne⟩
/-- an object changed -/
theorem StOk.write (ok : StOk K H m S) {i : Nat} {a : Addr} {o : O} (hi : m[i]? = some a) (ho : S[i]? = some o) (hd : o ≠ .dead) {vs : List V} {xs : List D} (hv : Reps K H (Own m S) vs xs) :
    StOk K (upd H a (.lst vs)) m (S.set i (.lst xs)) ∧ Fr H m S (upd H a (.lst vs)) m (S.set i (.lst xs)) := by
  have ow : Own m S a := ⟨i, hi, o, ho, hd⟩
  have hl : i < S.length := (List.getElem?_eq_some_iff.mp ho).1
  have nO : ∀ b, ¬ Own m S b → ¬ Own m (S.set i (.lst xs)) b := fun b n z => n (own_set z fun _ => ⟨o, ho, hd⟩)
  have f : ∀ b u, H b = some u → ¬ Own m S b → upd H a (.lst vs) b = some u ∧ ¬ Own m (S.set i (.lst xs)) b := fun b u e n => by
    refine ⟨?_, nO b n⟩
    have nb : b ≠ a := fun z => by subst z; exact n ow
    rw [upd_ne nb]; exact e
  refine ⟨⟨by simp [ok.len], ok.nd, fun j b u e1 e2 => ?_⟩, f, List.prefix_refl _⟩
  by_cases hj : i = j
  · subst hj
    rw [List.getElem?_set_self hl] at e2
    cases e2
    rw [hi] at e1; cases e1
    exact ⟨vs, upd_same, hv.mono f⟩
  · rw [List.getElem?_set_ne hj] at e2
    have nb : b ≠ a := fun z => by
      subst z
      have h1 := (List.getElem?_eq_some_iff.mp hi)
      have h2 := (List.getElem?_eq_some_iff.mp e1)
      exact hj ((List.getElem_inj (h₀ := h1.1) (h₁ := h2.1) ok.nd).mp (h1.2.trans h2.2.symm))
    exact (ok.at_ j b u e1 e2).mono f (fun u e => ⟨u, by rw [upd_ne nb]; exact e⟩) fun u e _ => by rw [upd_ne nb]; exact e
/-- .. of any kind -/
theorem StOk.writeO (ok : StOk K H m S) {i : Nat} {a : Addr} {o : O} (hi : m[i]? = some a) (ho : S[i]? = some o) (hd : o ≠ .dead) {uo : HO} {oo : O} (hr : (∀ b u, H b = some u → ¬ Own m S b → upd H a uo b = some u ∧ ¬ Own m (S.set i oo) b) → ORep K (upd H a uo) (Own m (S.set i oo)) a oo) :
    StOk K (upd H a uo) m (S.set i oo) ∧ Fr H m S (upd H a uo) m (S.set i oo) := by
  have ow : Own m S a := ⟨i, hi, o, ho, hd⟩
  have hl : i < S.length := (List.getElem?_eq_some_iff.mp ho).1
  have nO : ∀ b, ¬ Own m S b → ¬ Own m (S.set i oo) b := fun b n z => n (own_set z fun _ => ⟨o, ho, hd⟩)
  have f : ∀ b u, H b = some u → ¬ Own m S b → upd H a uo b = some u ∧ ¬ Own m (S.set i oo) b := fun b u e n => by
    refine ⟨?_, nO b n⟩
    have nb : b ≠ a := fun z => by subst z; exact n ow
    rw [upd_ne nb]; exact e
  refine ⟨⟨by simp [ok.len], ok.nd, fun j b u e1 e2 => ?_⟩, f, List.prefix_refl _⟩
  by_cases hj : i = j
  · subst hj
    rw [List.getElem?_set_self hl] at e2
    cases e2
    rw [hi] at e1; cases e1
    exact hr f
  · rw [List.getElem?_set_ne hj] at e2
    have nb : b ≠ a := fun z => by
      subst z
      have h1 := (List.getElem?_eq_some_iff.mp hi)
      have h2 := (List.getElem?_eq_some_iff.mp e1)
      exact hj ((List.getElem_inj (h₀ := h1.1) (h₁ := h2.1) ok.nd).mp (h1.2.trans h2.2.symm))
    exact (ok.at_ j b u e1 e2).mono f (fun u e => ⟨u, by rw [upd_ne nb]; exact e⟩) fun u e _ => by rw [upd_ne nb]; exact e
/-- an object given away -/
theorem StOk.kill (ok : StOk K H m S) {i : Nat} {a : Addr} (hi : m[i]? = some a) : StOk K H m (S.set i .dead) ∧ Fr H m S H m (S.set i .dead) := by
  have nO : ∀ b, ¬ Own m S b → ¬ Own m (S.set i .dead) b := fun b n z => n (own_set z fun z => absurd rfl z)
  have f : ∀ b u, H b = some u → ¬ Own m S b → H b = some u ∧ ¬ Own m (S.set i .dead) b := fun b u e n => ⟨e, nO b n⟩
  refine ⟨⟨by simp [ok.len], ok.nd, fun j b u e1 e2 => ?_⟩, f, List.prefix_refl _⟩
  by_cases hj : i = j
  · subst hj
    have hl : i < S.length := by
      have := (List.getElem?_eq_some_iff.mp hi).1
      rw [← ok.len]; exact this
    rw [List.getElem?_set_self hl] at e2
    cases e2
    rw [hi] at e1; cases e1
    exact ok.mem (List.mem_of_getElem? hi)
  · rw [List.getElem?_set_ne hj] at e2
    exact (ok.at_ j b u e1 e2).mono f (fun u e => ⟨u, e⟩) fun u e _ => e

/-! ### read -/
/-- what may be read as data -/
inductive PR (K : PySem.W.Frag) (H : Hp) (N : Addr → Prop) : V → D → Prop
  | of {v : V} {d : D} : Rep K H N v d → PR K H N v d
  | live {a : Addr} {vs : List V} {xs : List D} : H a = some (.lst vs) → Reps K H N vs xs → PR K H N (.ref a) (.lst xs)
theorem StOk.peek (ok : StOk K H m S) {v : V} {x : SV} {d : D} (r : RepS K H m S v x) (e : M.peek S x = some d) : PR K H (Own m S) v d := by
  cases x with
  | kd _ => cases e
  | td _ => cases e
  | ins _ _ _ => cases e
  | t d' => cases e; exact .of r
  | o i =>
    obtain ⟨a, h1, rfl⟩ := r
    simp only [M.peek] at e
    split at e
    · rename_i xs hS
      cases e
      obtain ⟨vs, h2, h3⟩ := ok.at_ i a _ h1 hS
      exact .live h2 h3
    · cases e
theorem PR.lst {v : V} {xs : List D} (h : PR K H N v (.lst xs)) : ∃ a vs, v = .ref a ∧ Rd H a (.lst vs) ∧ Reps K H N vs xs := by
  cases h with
  | of h => cases h with | lst q r => exact ⟨_, _, rfl, q.1, r⟩
  | live h r => exact ⟨_, _, rfl, .inl h, r⟩
theorem PR.tup {v : V} {xs : List D} (h : PR K H N v (.tup xs)) : ∃ a vs, v = .ref a ∧ SqT K H a vs ∧ Reps K H N vs xs := by
  cases h with
  | of h => cases h with | tup q r => exact ⟨_, _, rfl, q.sq, r⟩
theorem PR.rep {v : V} {d : D} (h : PR K H N v d) (hd : ∀ xs, d ≠ .lst xs) : Rep K H N v d := by
  cases h with
  | of h => exact h
  | live h r => exact absurd rfl (hd _)
theorem PR.int {v : V} {i : Int} (h : PR K H N v (.int i)) : v = .int i := by
  cases h with | of h => cases h; rfl
theorem PR.str {v : V} {i : Str} (h : PR K H N v (.str i)) : v = .str i := by
  cases h with | of h => cases h; rfl
theorem PR.bl {v : V} {i : Bool} (h : PR K H N v (.bl i)) : v = .bl i := by
  cases h with | of h => cases h; rfl
theorem PR.non {v : V} (h : PR K H N v .non) : v = .non := by
  cases h with | of h => cases h; rfl
theorem RepS.int {v : V} {i : Int} (h : RepS K H m S v (.t (.int i))) : v = .int i := by
  cases (show Rep K H (Own m S) v (.int i) from h); rfl
mutual
theorem Rep.dp : ∀ {v : V} {d : D}, Rep K H N v d → Dp K H v (toPy d)
  | _, _, .non => by rw [toPy]; exact .non
  | _, _, .bl b => by rw [toPy]; exact .bl b
  | _, _, .int i => by rw [toPy]; exact .int i
  | _, _, .str x => by rw [toPy]; exact .str x
  | _, _, .tup q r => by rw [toPy]; exact .tup q.sq (Reps.dps r)
  | _, _, .lst q r => by rw [toPy]; exact .lst q.sq (Reps.dps r)
theorem Reps.dps : ∀ {v : List V} {d : List D}, Reps K H N v d → DpAll K H v (toPys d)
  | _, _, .nil => by rw [toPys]; exact .nil
  | _, _, .cons q r => by rw [toPys]; exact .cons (Rep.dp q) (Reps.dps r)
end
theorem PR.dp {v : V} {d : D} (h : PR K H N v d) : Dp K H v (toPy d) := by
  cases h with
  | of h => exact h.dp
  | live h r => rw [toPy]; exact .lst (SqL.of h) r.dps
theorem Reps.get {vs : List V} {xs : List D} (h : Reps K H N vs xs) : ∀ {i : Nat} {x : D}, xs[i]? = some x → ∃ v, vs[i]? = some v ∧ Rep K H N v x := by
  induction xs generalizing vs with
  | nil => intro i x e; simp at e
  | cons y ys ih =>
    cases h with
    | cons q r =>
      intro i x e
      cases i with
      | zero => simp at e; subst e; exact ⟨_, rfl, q⟩
      | succ i => simp at e; simpa using ih r e
theorem Reps.drop : ∀ {vs : List V} {xs : List D} (n : Nat), Reps K H N vs xs → Reps K H N (vs.drop n) (xs.drop n)
  | _, _, 0, h => h
  | _, _, n + 1, .nil => .nil
  | _, _, n + 1, .cons _ r => Reps.drop n r
theorem Reps.take : ∀ {vs : List V} {xs : List D} (n : Nat), Reps K H N vs xs → Reps K H N (vs.take n) (xs.take n)
  | _, _, 0, h => by simp; exact .nil
  | _, _, n + 1, .nil => .nil
  | _, _, n + 1, .cons q r => .cons q (Reps.take n r)
theorem Reps.append : ∀ {vs ws : List V} {xs ys : List D}, Reps K H N vs xs → Reps K H N ws ys → Reps K H N (vs ++ ws) (xs ++ ys)
  | _, _, _, _, .nil, h => h
  | _, _, _, _, .cons q r, h => .cons q (Reps.append r h)
theorem Reps.set : ∀ {vs : List V} {xs : List D} {v : V} {x : D} (n : Nat), Reps K H N vs xs → Rep K H N v x → Reps K H N (vs.set n v) (xs.set n x)
  | _, _, _, _, _, .nil, _ => .nil
  | _, _, _, _, 0, .cons _ r, h => .cons h r
  | _, _, _, _, n + 1, .cons q r, h => .cons q (Reps.set n r h)
theorem Reps.rep {vs : List V} {xs : List D} (h : Reps K H N vs xs) : ∀ k : Nat, Reps K H N (List.replicate k vs).flatten (List.replicate k xs).flatten
  | 0 => .nil
  | k + 1 => by
    rw [List.replicate_succ, List.replicate_succ, List.flatten_cons, List.flatten_cons]
    exact h.append (Reps.rep h k)
theorem Reps.cut {vs : List V} {xs : List D} (h : Reps K H N vs xs) (lo hi : Option Int) : Reps K H N (cutV vs lo hi) (cutD xs lo hi) := by
  unfold cutV cutD
  rw [h.length]
  exact (h.drop _).take _
theorem atI_reps {vs : List V} {xs : List D} (h : Reps K H N vs xs) {i : Int} {x : D} (e : atI xs i = some x) : ∃ v, atI vs i = some v ∧ Rep K H N v x := by
  unfold atI at e ⊢
  rw [h.length]
  cases q : ixN xs.length i with
  | none => rw [q] at e; cases e
  | some j => rw [q] at e; exact h.get e
theorem Reps.bls : ∀ {vs : List V} {xs : List D} {bs : List Bool}, Reps K H N vs xs → asBls xs = some bs → vs = bs.map V.bl
  | _, _, bs, .nil, e => by unfold asBls at e; cases e; rfl
  | _, _ :: ds, bs, .cons q r, e => by
    cases q with
    | bl b =>
      unfold asBls at e
      cases h : asBls ds with
      | none => rw [h] at e; cases e
      | some bs' => rw [h] at e; cases e; rw [List.map_cons, Reps.bls r h]
    | _ => unfold asBls at e; cases e
theorem Reps.ints : ∀ {vs : List V} {xs : List D} {bs : List Int}, Reps K H N vs xs → asInts xs = some bs → vs = bs.map V.int
  | _, _, bs, .nil, e => by unfold asInts at e; cases e; rfl
  | _, _ :: ds, bs, .cons q r, e => by
    cases q with
    | int b =>
      unfold asInts at e
      cases h : asInts ds with
      | none => rw [h] at e; cases e
      | some bs' => rw [h] at e; cases e; rw [List.map_cons, Reps.ints r h]
    | _ => unfold asInts at e; cases e
theorem reps_strs (ss : List Str) : Reps K H N (ss.map V.str) (ss.map D.str) := by
  induction ss with
  | nil => exact .nil
  | cons s r ih => exact .cons (.str s) ih
/-! ### new data -/
theorem rep_tup_new (ok : StOk K H m S) {p : Addr} {o : Obj} (hp : H p = none) (hc : o.cls = .type "tuple") (hd : o.dict = none) {vs : List V} {xs : List D} (hv : Reps K H (Own m S) vs xs) : Rep K (upd H p (.frz o (.tup vs))) (Own m S) (.ref p) (.tup xs) :=
  .tup (.inl ⟨o, upd_same, hc, hd, ok.fresh hp⟩) (hv.mono (ok.laid hp (.frz o (.tup vs))).2.1)
theorem rep_lst_new (ok : StOk K H m S) {p : Addr} (hp : H p = none) {vs : List V} {xs : List D} (hv : Reps K H (Own m S) vs xs) : Rep K (upd H p (.lst vs)) (Own m S) (.ref p) (.lst xs) :=
  .lst ⟨.inl upd_same, ok.fresh hp⟩ (hv.mono (ok.laid hp (.lst vs)).2.1)
theorem StOk.grab (ok : StOk K H m S) {v : V} {x : SV} {d : D} {S1 : St'} (r : RepS K H m S v x) (e : M.grab S x = some (d, S1)) : StOk K H m S1 ∧ Fr H m S H m S1 ∧ Rep K H (Own m S1) v d := by
  cases x with
  | kd _ => cases e
  | td _ => cases e
  | ins _ _ _ => cases e
  | t d' => cases e; exact ⟨ok, .refl, r⟩
  | o i =>
    obtain ⟨a, h1, rfl⟩ := r
    simp only [M.grab] at e
    split at e
    · rename_i xs hS
      cases e
      obtain ⟨vs, h2, h3⟩ := ok.at_ i a _ h1 hS
      obtain ⟨k1, k2⟩ := ok.kill h1
      refine ⟨k1, k2, .lst ⟨.inl h2, fun z => ?_⟩ (h3.mono k2.1)⟩
      obtain ⟨j, e1, u, e2, ne⟩ := z
      have g1 := (List.getElem?_eq_some_iff.mp h1)
      have g2 := (List.getElem?_eq_some_iff.mp e1)
      have : i = j := (List.getElem_inj (h₀ := g1.1) (h₁ := g2.1) ok.nd).mp (g1.2.trans g2.2.symm)
      subst this
      rw [List.getElem?_set_self (List.getElem?_eq_some_iff.mp hS).1] at e2
      cases e2
      exact ne rfl
    · cases e
theorem StOk.grabs (ok : StOk K H m S) : ∀ {vs : List V} {xs : List SV} {ds : List D} {S1 : St'}, RepSs K H m S vs xs → M.grabs S xs = some (ds, S1) → StOk K H m S1 ∧ Fr H m S H m S1 ∧ Reps K H (Own m S1) vs ds := by
  intro vs xs
  induction xs generalizing vs S with
  | nil => intro ds S1 r e; cases r; unfold M.grabs at e; cases e; exact ⟨ok, .refl, .nil⟩
  | cons x xs ih =>
    intro ds S1 r e
    cases r with
    | cons q r =>
      unfold M.grabs at e
      split at e
      · rename_i d S2 hg
        obtain ⟨k1, k2, k3⟩ := ok.grab q hg
        cases h : M.grabs S2 xs with
        | none => rw [h] at e; cases e
        | some p =>
          obtain ⟨ds', S3⟩ := p
          rw [h] at e; cases e
          obtain ⟨j1, j2, j3⟩ := ih k1 (r.mono k2) h
          exact ⟨j1, k2.trans j2, .cons (k3.mono j2.1) j3⟩
      · cases e
inductive PRs (K : PySem.W.Frag) (H : Hp) (N : Addr → Prop) : List V → List D → Prop
  | nil : PRs K H N [] []
  | cons {v : V} {vs : List V} {d : D} {ds : List D} : PR K H N v d → PRs K H N vs ds → PRs K H N (v :: vs) (d :: ds)
theorem StOk.peeks (ok : StOk K H m S) : ∀ {vs : List V} {xs : List SV} {ds : List D}, RepSs K H m S vs xs → M.peeks S xs = some ds → PRs K H (Own m S) vs ds := by
  intro vs xs
  induction xs generalizing vs with
  | nil => intro ds r e; cases r; unfold M.peeks at e; cases e; exact .nil
  | cons x xs ih =>
    intro ds r e
    cases r with
    | cons q r =>
      unfold M.peeks at e
      split at e
      · rename_i d hg
        cases h : M.peeks S xs with
        | none => rw [h] at e; cases e
        | some p => rw [h] at e; cases e; exact .cons (ok.peek q hg) (ih r h)
      · cases e
end
end M

/-! operations on values that stand for data -/
namespace M
open PySem PySem.Spec PyProof.Rows L2

def opOf : Bn → Operator
  | .add => .Add | .sub => .Sub | .mul => .Mult | .fdiv => .FloorDiv | .mod => .Mod | .pow => .Pow
def cmOf : Cm → CmpOp
  | .eq => .Eq | .ne => .NotEq | .lt => .Lt | .le => .LtE | .gt => .Gt | .ge => .GtE | .isin => .In | .notin => .NotIn | .is_ => .Is | .isnot => .IsNot

section
variable {X : Cx} {pins : List (Addr × Obj)} {σ : L2.St} {H : Hp} {s : Shared}
theorem lstR (I : Inv X pins σ H s) {l : Addr} {xs : List V} (hH : Rd H l (.lst xs)) : xs.length ≤ sizeLine ∧ ∃ (its : List Value) (n : Nat), Vals xs its ∧ xs.length = its.length ∧ s.heap.get? l = some { cls := .type "list", data := .seq its.toArray n } := by
  obtain ⟨z, its, n, r, e⟩ := hH.ok I.hok
  exact ⟨z, its, n, r, r.length, e⟩
end
section
variable {X : Cx}
/-- lists that may be read -/
theorem op_catR : OpR X (binaryOp .Add) (fun x y H Q => ∃ l b xs zs, x = .ref l ∧ y = .ref b ∧ Rd H l (.lst xs) ∧ Rd H b (.lst zs) ∧ xs.length + zs.length ≤ sizeLine ∧ ∀ p, H p = none → Q (.ref p) (upd H p (.lst (xs ++ zs)))) := by
  intro pins s σ H x y v u Q I rx ry h
  obtain ⟨l, b, xs, zs, rfl, rfl, hH, hB, hz, q⟩ := h
  cases rx
  cases ry
  obtain ⟨z, its, n, r, hl, e⟩ := lstR I hH
  obtain ⟨z2, its2, n2, r2, hl2, e2⟩ := lstR I hB
  refine PySem.P.add_list e e2 ?_ (by rw [List.size_toArray, List.size_toArray]; omega)
  have ea : its.toArray ++ its2.toArray = (its ++ its2).toArray := by simp
  rw [ea]
  exact ⟨.ref _, _, I.lnew (t' := s.toks) (r.append r2) (by rw [List.length_append]; omega), rfl, q _ I.fresh⟩
theorem iop_mulW' {X : Cx} : OpR X (inplaceOp .Mult) (rI CMulW fun i j => .int (i * j)) := opI fun _ _ _ _ _ _ _ hc q => imul_int q hc.ok
theorem op_repR : OpR X (binaryOp .Mult) (fun x y H Q => ∃ l k xs, x = .ref l ∧ y = .int k ∧ Rd H l (.lst xs) ∧ -(2 ^ 63) ≤ k ∧ k < 2 ^ 63 ∧ xs.length * k.toNat ≤ sizeLine ∧
    ∀ p, H p = none → Q (.ref p) (upd H p (.lst (List.replicate k.toNat xs).flatten))) := by
  intro pins s σ H x y v u Q I rx ry h
  obtain ⟨l, k, xs, rfl, rfl, hH, h1, h2, hz, q⟩ := h
  cases rx
  obtain ⟨t, rfl⟩ := ry
  obtain ⟨z, its, n, r, hl, e⟩ := lstR I hH
  have hlen : its.toArray.size * k.toNat ≤ sizeLine := by rw [List.size_toArray, ← hl]; exact hz
  have hcap : ¬ its.toArray.size * k.toNat > (2 ^ 63 - 1) / 8 := by
    have : (sizeLine : Nat) ≤ (2 ^ 63 - 1) / 8 := by decide
    omega
  have hfit : ¬ (!Builtin.List.listFitsIndex k) = true := by
    rw [fitsIndex_both h1 h2]
    exact Bool.false_ne_true
  have hlong : ¬ Builtin.List.listTooLong (its.toArray.size * k.toNat) = true := by
    rw [notLongL hlen]
    exact Bool.false_ne_true
  have hnew : List.foldl (fun x1 x2 => x1 ++ x2) #[] (List.replicate (if its.toArray.isEmpty = true then 0 else k.toNat) its.toArray) = (List.replicate k.toNat its).flatten.toArray := by
    have f0 : ∀ m : Nat, List.foldl (fun x1 x2 => x1 ++ x2) #[] (List.replicate m its.toArray) = (List.replicate m its).flatten.toArray := fun m => by
      have := foldl_rep its m []
      rw [List.nil_append] at this
      exact this
    rw [f0]
    cases its with
    | nil => simp
    | cons a r' => rw [if_neg (by simp)]
  refine wpAny_binaryOp_repeat_ref (T := "list") (U := "int") (by decide) ⟨_, e, rfl⟩ (fun s' => typeIs_int s' k t) noFill_list_mul F.fills_int_mul F.slot_int_rmul repeat_list F.slot_int_index.lookup
    (call_meets F.slot_int_rmul (typeIs_int s k t) F.entry_int_rmul (F.args_int_rmul_2 _ _) (int___rmul___int_list k t l its.toArray n)
      ⟨e, rfl, ⟨_, e, rfl⟩, call_meets F.slot_list_mul ⟨_, e, rfl⟩ F.entry_list_mul (F.args_list_mul_2 _ _) (AutoListH.list___mul___list_int_3 l its.toArray n k t hfit hcap hlong) ⟨e, ?_⟩⟩)
  rw [hnew]
  exact ⟨.ref _, _, I.lnew (t' := s.toks) (r.rep k.toNat) (by rw [PyProof.Rows.lm_len_rep_flat, Nat.mul_comm]; exact hz), rfl, q _ I.fresh⟩

/-- what follows an operation that makes data r of what may be read -/
def Fol (K : PySem.W.Frag) (H : Hp) (m : List Addr) (S : St') (r : D) (Q : VK) : Prop := ∀ H' w, StOk K H' m S → Fr H m S H' m S → Rep K H' (Own m S) w r → Q w H'
theorem Fol.here {K : PySem.W.Frag} {H : Hp} {m : List Addr} {S : St'} {r : D} {Q : VK} (f : Fol K H m S r Q) (ok : StOk K H m S) {w : V} (h : Rep K H (Own m S) w r) : Q w H := f H w ok .refl h
theorem Fol.tup {K : PySem.W.Frag} {H : Hp} {m : List Addr} {S : St'} {ds : List D} {Q : VK} (f : Fol K H m S (.tup ds) Q) (ok : StOk K H m S) {vs : List V} (h : Reps K H (Own m S) vs ds) : NewT Q H vs :=
  fun _ _ hp hc hd => f _ _ (ok.laid hp _).1 (ok.laid hp _).2 (rep_tup_new ok hp hc hd h)
theorem Fol.lst {K : PySem.W.Frag} {H : Hp} {m : List Addr} {S : St'} {ds : List D} {Q : VK} (f : Fol K H m S (.lst ds) Q) (ok : StOk K H m S) {vs : List V} (h : Reps K H (Own m S) vs ds) (p : Addr) (hp : H p = none) : Q (.ref p) (upd H p (.lst vs)) :=
  f _ _ (ok.laid hp _).1 (ok.laid hp _).2 (rep_lst_new ok hp h)

/-- a binary operation on data -/
def rBin (K : PySem.W.Frag) (o : Bn) : R2 := fun v u H Q => ∃ m S d e r, StOk K H m S ∧ PR K H (Own m S) v d ∧ PR K H (Own m S) u e ∧ binD o d e = some r ∧ Fol K H m S r Q
theorem or_bin (o : Bn) : OpR X (binaryOp (opOf o)) (rBin X.K o) := by
  intro pins s σ H x y v u Q I rx ry h
  obtain ⟨m, S, d, e, r, ok, hx, hy, hr, f⟩ := h
  unfold binD at hr
  split at hr
  · cases hx.int; cases hy.int; cases hr
    exact op_add pins s σ H _ _ v u Q I rx ry ⟨_, _, rfl, rfl, f.here ok (.int _)⟩
  · cases hx.str; cases hy.str
    split at hr
    · cases hr
      exact op_add_str pins s σ H _ _ v u Q I rx ry ⟨_, _, rfl, rfl, by assumption, f.here ok (.str _)⟩
    · cases hr
  · obtain ⟨a, vs, rfl, h1, h2⟩ := hx.lst
    obtain ⟨b, ws, rfl, h3, h4⟩ := hy.lst
    split at hr
    · cases hr
      exact op_catR pins s σ H _ _ v u Q I rx ry ⟨_, _, _, _, rfl, rfl, h1, h3, by rw [h2.length, h4.length]; assumption, f.lst ok (h2.append h4)⟩
    · cases hr
  · obtain ⟨a, vs, rfl, h1, h2⟩ := hx.tup
    obtain ⟨b, ws, rfl, h3, h4⟩ := hy.tup
    split at hr
    · cases hr
      refine op_catZ pins s σ H _ _ v u Q I rx ry ⟨_, _, _, _, rfl, rfl, h1, h3, by rw [h2.length, h4.length]; assumption, fun z => ?_, fun _ z => ?_, f.tup ok (h2.append h4)⟩
      · subst z; cases h2
        exact f.here ok (hy.rep fun _ z => nomatch z)
      · subst z; cases h4
        rw [List.append_nil] at f
        exact f.here ok (hx.rep fun _ z => nomatch z)
    · cases hr
  · cases hx.int; cases hy.int; cases hr
    exact op_sub pins s σ H _ _ v u Q I rx ry ⟨_, _, rfl, rfl, f.here ok (.int _)⟩
  · cases hx.int; cases hy.int
    split at hr
    · rename_i i j hc
      cases hr
      rcases hc with z | z | z
      · exact op_mul pins s σ H _ _ v u Q I rx ry ⟨_, _, rfl, rfl, .inl (by omega), f.here ok (.int _)⟩
      · exact op_mul pins s σ H _ _ v u Q I rx ry ⟨_, _, rfl, rfl, .inr (by omega), f.here ok (.int _)⟩
      · exact op_mulW pins s σ H _ _ v u Q I rx ry ⟨_, _, rfl, rfl, z, f.here ok (.int _)⟩
    · cases hr
  · obtain ⟨a, vs, rfl, h1, h2⟩ := hx.lst
    cases hy.int
    split at hr
    · rename_i k hc
      cases hr
      exact op_repR pins s σ H _ _ v u Q I rx ry ⟨_, _, _, rfl, rfl, h1, hc.1, hc.2.1, by rw [h2.length]; exact hc.2.2, f.lst ok (h2.rep _)⟩
    · cases hr
  · cases hx.int; cases hy.int
    split at hr
    · cases hr
      exact op_fdiv pins s σ H _ _ v u Q I rx ry ⟨_, _, rfl, rfl, by assumption, f.here ok (.int _)⟩
    · cases hr
  · cases hx.int; cases hy.int
    split at hr
    · cases hr
      exact op_mod pins s σ H _ _ v u Q I rx ry ⟨_, _, rfl, rfl, by assumption, f.here ok (.int _)⟩
    · cases hr
  · cases hx.int; cases hy.int
    split at hr
    · cases hr
      exact op_pow pins s σ H _ _ v u Q I rx ry ⟨_, _, rfl, rfl, by assumption, f.here ok (.int _)⟩
    · cases hr
  · cases hr
/-- in place, on ints -/
theorem ip_bin (o : Bn) (ho : o ≠ .pow) : PIp X (opOf o) (fun x y H Q => ∃ i j r, x = .int i ∧ y = .int j ∧ binD o (.int i) (.int j) = some (.int r) ∧ Q (.int r) H) := by
  intro pins s σ H x y v u Q I rx ry h
  obtain ⟨i, j, r, rfl, rfl, hr, q⟩ := h
  cases o with
  | add => cases hr; exact iop_add pins s σ H _ _ v u Q I rx ry ⟨_, _, rfl, rfl, q⟩
  | sub => cases hr; exact iop_sub pins s σ H _ _ v u Q I rx ry ⟨_, _, rfl, rfl, q⟩
  | mul =>
    unfold binD at hr
    simp only at hr
    split at hr
    · rename_i hc
      cases hr
      rcases hc with z | z | z
      · exact iop_mul pins s σ H _ _ v u Q I rx ry ⟨_, _, rfl, rfl, .inl (by omega), q⟩
      · exact iop_mul pins s σ H _ _ v u Q I rx ry ⟨_, _, rfl, rfl, .inr (by omega), q⟩
      · exact iop_mulW' pins s σ H _ _ v u Q I rx ry ⟨_, _, rfl, rfl, z, q⟩
    · cases hr
  | fdiv =>
    unfold binD at hr
    simp only at hr
    split at hr
    · cases hr; exact iop_fdiv pins s σ H _ _ v u Q I rx ry ⟨_, _, rfl, rfl, by assumption, q⟩
    · cases hr
  | mod =>
    unfold binD at hr
    simp only at hr
    split at hr
    · cases hr; exact iop_mod pins s σ H _ _ v u Q I rx ry ⟨_, _, rfl, rfl, by assumption, q⟩
    · cases hr
  | pow => exact absurd rfl ho

/-! ### comparisons -/
mutual
theorem eqv_deq : ∀ a b : D, (toPy a).canLay0 = true → (toPy b).canLay0 = true → PyData.eqv (toPy a) (toPy b) = deq a b
  | .non, b, _, hb => by cases b <;> simp_all [toPy, PyData.eqv, deq, PyData.canLay0]
  | .bl x, b, _, hb => by cases b <;> simp_all [toPy, PyData.eqv, deq, PyData.canLay0]
  | .int x, b, _, hb => by cases b <;> simp_all [toPy, PyData.eqv, deq, PyData.canLay0]
  | .str x, b, _, hb => by cases b <;> simp_all [toPy, PyData.eqv, deq, PyData.canLay0]
  | .tup xs, b, ha, hb => by
    cases b with
    | tup ys =>
      rw [toPy, toPy, PyData.eqv, deq]
      exact eqv_deqs xs ys (by rw [toPy, PyData.canLay0] at ha; exact ha) (by rw [toPy, PyData.canLay0] at hb; exact hb)
    | _ => simp_all [toPy, PyData.eqv, deq, PyData.canLay0]
  | .lst xs, b, ha, hb => by
    cases b with
    | lst ys =>
      rw [toPy, toPy, PyData.eqv, deq]
      exact eqv_deqs xs ys (by rw [toPy, PyData.canLay0] at ha; exact ha) (by rw [toPy, PyData.canLay0] at hb; exact hb)
    | _ => simp_all [toPy, PyData.eqv, deq, PyData.canLay0]
theorem eqv_deqs : ∀ a b : List D, PyData.canLayAll0 (toPys a) = true → PyData.canLayAll0 (toPys b) = true → PyData.eqvAll (toPys a) (toPys b) = deqs a b
  | [], [], _, _ => by rw [toPys, PyData.eqvAll, deqs]
  | [], _ :: _, _, _ => by simp [toPys, PyData.eqvAll, deqs]
  | _ :: _, [], _, _ => by simp [toPys, PyData.eqvAll, deqs]
  | x :: xs, y :: ys, ha, hb => by
    rw [toPys, PyData.canLayAll0, Bool.and_eq_true] at ha hb
    rw [toPys, toPys, PyData.eqvAll, deqs, eqv_deq x y ha.1 hb.1, eqv_deqs xs ys ha.2 hb.2]
end
theorem okD_lay {d : D} (h : okD d = true) : (toPy d).canLay0 = true := SeqAt.canLay_of_shaped h
theorem lay_mem : ∀ {xs : List D}, PyData.canLayAll0 (toPys xs) = true → ∀ x ∈ xs, (toPy x).canLay0 = true
  | x :: xs, h, y, hy => by
    rw [toPys, PyData.canLayAll0, Bool.and_eq_true] at h
    rcases List.mem_cons.mp hy with rfl | hy
    · exact h.1
    · exact lay_mem h.2 y hy
theorem any_eqv {ys : List D} {x : D} (hy : PyData.canLayAll0 (toPys ys) = true) (hx : (toPy x).canLay0 = true) : ((toPys ys).any fun z => PyData.eqv z (toPy x)) = ys.any fun z => deq z x := by
  rw [toPys_eq, List.any_map]
  have := lay_mem hy
  induction ys with
  | nil => rfl
  | cons y ys ih =>
    rw [List.any_cons, List.any_cons]
    rw [toPys, PyData.canLayAll0, Bool.and_eq_true] at hy
    rw [ih hy.2 (fun z hz => this z (List.mem_cons_of_mem _ hz))]
    simp only [Function.comp]
    rw [eqv_deq y x hy.1 hx]

theorem strIn_eq (i j : Str) : (!(Builtin.Str.occurrences j i 0 j.length 1).isEmpty) = strIn i j := by
  unfold strIn
  split
  · rename_i c hc
    have e : i = ⟨#[c]⟩ := by
      have : i.cps = #[c] := Array.toList_inj.mp hc
      cases i; simp at this; rw [this]
    rw [e]
    exact PySem.StrLaws.found_one j c
  · rfl

def rCmp (K : PySem.W.Frag) (o : Cm) : R2 := fun v u H Q => ∃ m S d e b, StOk K H m S ∧ PR K H (Own m S) v d ∧ PR K H (Own m S) u e ∧ cmpD o d e = some b ∧ Q (.bl b) H
theorem eq_scal {H : Hp} {K : PySem.W.Frag} {N : Addr → Prop} {x y : V} {d e : D} (hx : PR K H N x d) (hy : PR K H N y e) (h : scalD d e = true) : scal x y = true ∧ decide (x = y) = deq d e := by
  unfold scalD at h
  split at h
  · cases hx.int; cases hy.int; exact ⟨rfl, by rw [dec_int]; rfl⟩
  · cases hx.str; cases hy.str; exact ⟨rfl, by rw [dec_str]; rfl⟩
  · cases hx.bl; cases hy.bl; exact ⟨rfl, by rw [dec_bl]; rfl⟩
  · cases h
theorem or_cmp (o : Cm) (hu : X.A.units + 65 < cLine) : OpR X (compareOp (cmOf o)) (rCmp X.K o) := by
  intro pins s σ H x y v u Q I rx ry h
  obtain ⟨m, S, d, e, b, ok, hx, hy, hr, q⟩ := h
  unfold cmpD at hr
  split at hr
  · -- eq
    split at hr
    · rename_i hc
      cases hr
      by_cases hs : scalD d e = true
      · obtain ⟨h1, h2⟩ := eq_scal hx hy hs
        exact op_eq pins s σ H _ _ v u Q I rx ry ⟨h1, by rw [h2]; exact q⟩
      · have hc : okD d = true ∧ okD e = true := by simpa [hs] using hc
        exact op_eqD (by omega) pins s σ H _ _ v u Q I rx ry ⟨_, _, hx.dp, hy.dp, hc.1, hc.2, by rw [eqv_deq _ _ (okD_lay hc.1) (okD_lay hc.2)]; exact q⟩
    · cases hr
  · split at hr
    · rename_i hc
      cases hr
      by_cases hs : scalD d e = true
      · obtain ⟨h1, h2⟩ := eq_scal hx hy hs
        exact op_ne pins s σ H _ _ v u Q I rx ry ⟨h1, by rw [h2]; exact q⟩
      · have hc : okD d = true ∧ okD e = true := by simpa [hs] using hc
        exact op_neD (by omega) pins s σ H _ _ v u Q I rx ry ⟨_, _, hx.dp, hy.dp, hc.1, hc.2, by rw [eqv_deq _ _ (okD_lay hc.1) (okD_lay hc.2)]; exact q⟩
    · cases hr
  · cases hx.int; cases hy.int; cases hr
    exact op_lt pins s σ H _ _ v u Q I rx ry ⟨_, _, rfl, rfl, q⟩
  · cases hx.int; cases hy.int; cases hr
    exact op_le pins s σ H _ _ v u Q I rx ry ⟨_, _, rfl, rfl, q⟩
  · cases hx.int; cases hy.int; cases hr
    exact op_gt pins s σ H _ _ v u Q I rx ry ⟨_, _, rfl, rfl, q⟩
  · cases hx.int; cases hy.int; cases hr
    exact op_ge pins s σ H _ _ v u Q I rx ry ⟨_, _, rfl, rfl, q⟩
  · cases hx.str; cases hy.str; cases hr
    exact op_lt_str pins s σ H _ _ v u Q I rx ry ⟨_, _, rfl, rfl, q⟩
  · split at hr
    · rename_i xs ys hc
      cases hr
      have hc : PySem.W.alike (toPy (.tup xs)) (toPy (.tup ys)) = true ∧ (toPy (.tup xs)).depth ≤ 64 := by simpa using hc
      obtain ⟨as, r1⟩ := Dp.reads I _ x v hx.dp rx
      obtain ⟨bs, r2⟩ := Dp.reads I _ y u hy.dp ry
      exact PySem.W.rcLt_alike _ _ X.A s v u as bs r1 r2 hc.1 (by rw [toPy]; exact fun z => nomatch z) (by have := Nat.min_le_left (toPy (.tup xs)).depth (toPy (.tup ys)).depth; omega) _ _ _ _ ⟨.bl _, H, I, rfl, q⟩
    · cases hr
  · -- in
    unfold inD at hr
    split at hr
    · split at hr
      · cases hx.str; cases hy.str; cases hr
        exact op_in_str pins s σ H _ _ v u Q I rx ry ⟨_, _, rfl, rfl, by rw [strIn_eq]; exact q⟩
      · cases hr
    · split at hr
      · rename_i ys hc
        cases hr
        have hc := Bool.and_eq_true_iff.mp hc
        obtain ⟨as, r1⟩ := Dp.reads I _ x v hx.dp rx
        obtain ⟨bs, r2⟩ := Dp.reads I _ y u hy.dp ry
        rw [toPy] at r2
        have l2 := okD_lay hc.2
        rw [toPy, PyData.canLay0] at l2
        exact SeqAt.in_list_reads r2 r1 l2 (okD_lay hc.1) (room_in_shaped hc.1 hu) ⟨.bl _, H, I, rfl, by rw [any_eqv l2 (okD_lay hc.1)]; exact q⟩
      · cases hr
    · split at hr
      · rename_i ys hc
        cases hr
        have hc := Bool.and_eq_true_iff.mp hc
        obtain ⟨as, r1⟩ := Dp.reads I _ x v hx.dp rx
        obtain ⟨bs, r2⟩ := Dp.reads I _ y u hy.dp ry
        rw [toPy] at r2
        have l2 := okD_lay hc.2
        rw [toPy, PyData.canLay0] at l2
        exact SeqAt.in_tuple_reads r2 r1 l2 (okD_lay hc.1) (room_in_shaped hc.1 hu) ⟨.bl _, H, I, rfl, by rw [any_eqv l2 (okD_lay hc.1)]; exact q⟩
      · cases hr
    · cases hr
  · -- not in
    cases hn : inD d e with
    | none => rw [hn] at hr; cases hr
    | some k =>
    rw [hn] at hr
    cases hr
    unfold inD at hn
    split at hn
    · split at hn
      · cases hx.str; cases hy.str; cases hn
        exact op_notin_str pins s σ H _ _ v u Q I rx ry ⟨_, _, rfl, rfl, by rw [strIn_eq]; exact q⟩
      · cases hn
    · split at hn
      · rename_i ys hc
        cases hn
        have hc := Bool.and_eq_true_iff.mp hc
        obtain ⟨as, r1⟩ := Dp.reads I _ x v hx.dp rx
        obtain ⟨bs, r2⟩ := Dp.reads I _ y u hy.dp ry
        rw [toPy] at r2
        have l2 := okD_lay hc.2
        rw [toPy, PyData.canLay0] at l2
        exact SeqAt.notIn_list_reads r2 r1 l2 (okD_lay hc.1) (room_in_shaped hc.1 hu) ⟨.bl _, H, I, rfl, by rw [any_eqv l2 (okD_lay hc.1)]; exact q⟩
      · cases hn
    · split at hn
      · rename_i ys hc
        cases hn
        have hc := Bool.and_eq_true_iff.mp hc
        obtain ⟨as, r1⟩ := Dp.reads I _ x v hx.dp rx
        obtain ⟨bs, r2⟩ := Dp.reads I _ y u hy.dp ry
        rw [toPy] at r2
        have l2 := okD_lay hc.2
        rw [toPy, PyData.canLay0] at l2
        exact SeqAt.notIn_tuple_reads r2 r1 l2 (okD_lay hc.1) (room_in_shaped hc.1 hu) ⟨.bl _, H, I, rfl, by rw [any_eqv l2 (okD_lay hc.1)]; exact q⟩
      · cases hn
    · cases hn
  · -- is
    unfold isD at hr
    split at hr
    · cases hx.non; cases hy.non; cases hr
      exact op_isN pins s σ H _ _ v u Q I rx ry ⟨rfl, q⟩
    · cases hx.bl; cases hy.non; cases hr; exact op_isN pins s σ H _ _ v u Q I rx ry ⟨rfl, q⟩
    · cases hx.int; cases hy.non; cases hr; exact op_isN pins s σ H _ _ v u Q I rx ry ⟨rfl, q⟩
    · cases hx.str; cases hy.non; cases hr; exact op_isN pins s σ H _ _ v u Q I rx ry ⟨rfl, q⟩
    · obtain ⟨a, vs, rfl, _, _⟩ := hx.tup; cases hy.non; cases hr; exact op_isN pins s σ H _ _ v u Q I rx ry ⟨rfl, q⟩
    · obtain ⟨a, vs, rfl, _, _⟩ := hx.lst; cases hy.non; cases hr; exact op_isN pins s σ H _ _ v u Q I rx ry ⟨rfl, q⟩
    · cases hx.bl; cases hy.bl; cases hr
      exact op_is_bl pins s σ H _ _ v u Q I rx ry ⟨_, _, rfl, rfl, by rw [Bool.beq_eq_decide_eq] at q; exact q⟩
    · cases hx.non; cases hy.bl; cases hr
      cases rx; cases ry
      exact wpAny_is_other rfl (fun z => nomatch z) ⟨.bl false, H, I, rfl, q⟩
    · cases hr
  · -- is not
    cases hn : isD d e with
    | none => rw [hn] at hr; cases hr
    | some k =>
    rw [hn] at hr
    cases hr
    unfold isD at hn
    split at hn
    · cases hx.non; cases hy.non; cases hn
      exact op_notN pins s σ H _ _ v u Q I rx ry ⟨rfl, q⟩
    · cases hx.bl; cases hy.non; cases hn; exact op_notN pins s σ H _ _ v u Q I rx ry ⟨rfl, q⟩
    · cases hx.int; cases hy.non; cases hn; exact op_notN pins s σ H _ _ v u Q I rx ry ⟨rfl, q⟩
    · cases hx.str; cases hy.non; cases hn; exact op_notN pins s σ H _ _ v u Q I rx ry ⟨rfl, q⟩
    · obtain ⟨a, vs, rfl, _, _⟩ := hx.tup; cases hy.non; cases hn; exact op_notN pins s σ H _ _ v u Q I rx ry ⟨rfl, q⟩
    · obtain ⟨a, vs, rfl, _, _⟩ := hx.lst; cases hy.non; cases hn; exact op_notN pins s σ H _ _ v u Q I rx ry ⟨rfl, q⟩
    · cases hx.bl; cases hy.bl; cases hn
      exact op_isnot_bl pins s σ H _ _ v u Q I rx ry ⟨_, _, rfl, rfl, by rw [Bool.beq_eq_decide_eq] at q; exact q⟩
    · cases hx.non; cases hy.bl; cases hn
      cases rx; cases ry
      exact wpAny_isNot_other rfl (fun z => nomatch z) ⟨.bl true, H, I, rfl, q⟩
    · cases hn
  · cases hr
end
end M

/-! truth, subscripts, built-ins, methods on values that stand for data -/
namespace M
open PySem PySem.Spec PyProof.Rows L2
section
variable {X : Cx}
theorem tru_v {K : PySem.W.Frag} {H : Hp} {N : Addr → Prop} {x : V} {d : D} {k : Bool} (hx : PR K H N x d) (h : truD d = some k) : TruV K x H k := by
  unfold truD at h
  split at h
  · cases hx.non; cases h; rfl
  · cases hx.bl; cases h; rfl
  · cases hx.int; cases h; rfl
  · cases hx.str
    split at h
    · cases h; exact ⟨by assumption, rfl⟩
    · cases h
  · obtain ⟨a, vs, rfl, h1, h2⟩ := hx.lst
    cases h
    refine .inl ⟨vs, .inl h1, ?_⟩
    cases h2 <;> rfl
  · obtain ⟨a, vs, rfl, h1, h2⟩ := hx.tup
    cases h
    refine .inr (.inl ⟨vs, h1, ?_⟩)
    cases h2 <;> rfl
/-- a subscript -/
def rIxD (K : PySem.W.Frag) : R2 := fun v u H Q => ∃ m S d e r, StOk K H m S ∧ PR K H (Own m S) v d ∧ PR K H (Own m S) u e ∧ idxD d e = some r ∧ Fol K H m S r Q
theorem ix_D : IxR X (rIxD X.K) := by
  intro value slice pins s σ H x y v u Q I rx ry h hs
  obtain ⟨m, S, d, e, r, ok, hx, hy, hr, f⟩ := h
  unfold idxD at hr
  split at hr
  · obtain ⟨a, vs, rfl, h1, h2⟩ := hx.lst
    cases hy.int
    obtain ⟨w, e1, e2⟩ := atI_reps h2 hr
    exact ix_list value slice pins s σ H _ _ v u Q I rx ry ⟨_, _, _, _, rfl, rfl, .inl h1, e1, f.here ok e2⟩ hs
  · obtain ⟨a, vs, rfl, h1, h2⟩ := hx.tup
    cases hy.int
    obtain ⟨w, e1, e2⟩ := atI_reps h2 hr
    exact ix_tup value slice pins s σ H _ _ v u Q I rx ry ⟨_, _, _, _, rfl, rfl, h1, e1, f.here ok e2⟩ hs
  · cases hx.str; cases hy.int
    split at hr
    · rename_i z i hz
      cases q : atI z.cps.toList i with
      | none => rw [q] at hr; cases hr
      | some c =>
        rw [q] at hr; cases hr
        exact ix_str value slice pins s σ H _ _ v u Q I rx ry ⟨_, _, _, rfl, rfl, hz, q, f.here ok (.str _)⟩ hs
    · cases hr
  · cases hr
/-- a slice -/
def rSlD (K : PySem.W.Frag) : V → Option Int → Option Int → Hp → VK → Prop := fun v lo hi H Q => ∃ m S d r, StOk K H m S ∧ PR K H (Own m S) v d ∧ slcD d lo hi = some r ∧ Fol K H m S r Q
theorem cutD_all {xs : List D} {lo hi : Option Int} (h : HT.sIx xs.length 0 lo = 0 ∧ HT.sIx xs.length xs.length hi = xs.length) : cutD xs lo hi = xs := by
  unfold cutD
  rw [h.1, h.2]
  simp
theorem sl_D : SlR X (rSlD X.K) := by
  intro pins s σ H x v vl vu lo hi sl Q I rx hs pl pu h
  obtain ⟨m, S, d, r, ok, hx, hr, f⟩ := h
  unfold slcD at hr
  split at hr
  · obtain ⟨a, vs, rfl, h1, h2⟩ := hx.lst
    cases hr
    exact sl_list pins s σ H _ v vl vu lo hi sl Q I rx hs pl pu ⟨_, _, rfl, .inl h1, f.lst ok (h2.cut lo hi)⟩
  · obtain ⟨a, vs, rfl, h1, h2⟩ := id hx.tup
    cases hr
    refine sl_tupZ pins s σ H _ v vl vu lo hi sl Q I rx hs pl pu ⟨_, _, rfl, h1, fun z => ?_, f.tup ok (h2.cut lo hi)⟩
    rw [h2.length] at z
    rw [cutD_all z] at f
    exact f.here ok (hx.rep fun _ z => nomatch z)
  · cases hx.str
    split at hr
    · cases hr
      exact sl_str pins s σ H _ v vl vu lo hi sl Q I rx hs pl pu ⟨_, rfl, by assumption, f.here ok (.str _)⟩
    · cases hr
  · cases hr

/-! ### sorted -/
theorem eachVals : ∀ {vs : List V} {its : List Value} {ds : List D}, Vals vs its → vs.length = ds.length → PySem.W.EachIs (fun (u : Value) (b : V × D) => RelV b.1 u) its (vs.zip ds)
  | _, _, [], .nil, _ => .nil
  | _, _, d :: ds, .cons r t, h => .cons r (eachVals t (by simpa using h))
theorem eachReads {K : PySem.W.Frag} {H : Hp} {N : Addr → Prop} {h : Heap} (rd : ∀ (v : V) (u : Value) (d : D), Rep K H N v d → RelV v u → ∃ as, Reads h u (toPy d) as) : ∀ {vs : List V} {its : List Value} {ds : List D}, Vals vs its → Reps K H N vs ds → PySem.W.EachIs (fun (u : Value) (b : V × D) => ∃ as, Reads h u (toPy b.2) as) its (vs.zip ds)
  | _, _, _, .nil, .nil => .nil
  | _, _, _, .cons r t, .cons q p => .cons (rd _ _ _ q r) (eachReads rd t p)
theorem valsEach : ∀ {out : List Value} {bs : List (V × D)}, PySem.W.EachIs (fun (u : Value) (b : V × D) => RelV b.1 u) out bs → Vals (bs.map (·.1)) out
  | _, _, .nil => .nil
  | _, _, .cons r t => .cons r (valsEach t)
theorem Reps.zip {K : PySem.W.Frag} {H : Hp} {N : Addr → Prop} : ∀ {vs : List V} {ds : List D}, Reps K H N vs ds → ∀ b ∈ vs.zip ds, Rep K H N b.1 b.2
  | _, _, .nil, b, h => by simp at h
  | _, _, .cons q r, b, h => by
    rw [List.zip_cons_cons] at h
    rcases List.mem_cons.mp h with rfl | h
    · exact q
    · exact Reps.zip r b h
theorem reps_of_zip {K : PySem.W.Frag} {H : Hp} {N : Addr → Prop} : ∀ {bs : List (V × D)}, (∀ b ∈ bs, Rep K H N b.1 b.2) → Reps K H N (bs.map (·.1)) (bs.map (·.2))
  | [], _ => .nil
  | b :: bs, h => .cons (h b List.mem_cons_self) (reps_of_zip fun c hc => h c (List.mem_cons_of_mem _ hc))
/-- what a tuple has, by a new list -/
theorem collectT {prog : Program} {w : World} {A : Around} {E : Value → Shared → Prop} {s : Shared} {l : Addr} {vs : List Value} {Q : List Value → Shared → Prop} (hl : IsTup s.heap l vs.toArray) (hz : vs.length ≤ sizeLine)
    (h : ∀ h', (∀ b o, s.heap.get? b = some o → h'.get? b = some o) → s.heap.objs.size ≤ h'.objs.size → Q vs { s with heap := h' }) : wpAny (model prog w) A (collect (.ref l)) Q E s := by
  obtain ⟨o, ho, hc, n, hd⟩ := hl
  unfold collect
  refine wpAny_bind (wpAny_runValue (codeAny_builtin entry_proto_collect' ?_))
  show wpAny _ _ (newList [] >>= fun x => again (.builtin "list.__iadd__" ⟨[x, .ref l], []⟩)) _ _ s
  refine wpAny_bind (wpAny_newList (wpAny_pure ⟨Code.quiet_builtin _ (by decide +kernel), codeAny_builtin entry_list_iadd' ?_⟩))
  have hS : (s.heap.push (seqObj "list" #[] 0)).get? s.heap.objs.size = some (seqObj "list" #[] 0) := Heap.get?_push_size _ rfl
  show wpAny _ _ (Builtin.List.listExtendWith (.ref s.heap.objs.size) (.ref l) (.ref s.heap.objs.size)) _ _ { s with heap := s.heap.push (seqObj "list" #[] 0) }
  have hq : (s.heap.push (seqObj "list" #[] 0)).get? l = some o := Heap.get?_push_of_some _ ho
  unfold Builtin.List.listExtendWith
  refine wpAny_bind (wpAny_typeOf (T := "tuple") ⟨o, hq, hc⟩ ?_)
  rw [if_pos (by simp)]
  refine wpAny_bind (listItems_at hq hd (wpAny_bind (listItems_at (xs := #[]) (n := 0) hS rfl ?_)))
  rw [if_neg (by simp)]
  refine wpAny_bind (listUpdate_at (xs := #[]) (n := 0) hS rfl (wpAny_pure ?_) (Nat.zero_le _) (by simpa using Nat.le_succ_of_le hz))
  show wpAny (model prog w) A (load s.heap.objs.size >>= fun o => match o.data with
      | .seq xs _ => pure xs.toList
      | _ => unsupported "internal:collect") Q E { s with heap := (s.heap.push (seqObj "list" #[] 0)).update s.heap.objs.size (Obj.mapSeq (· ++ vs.toArray)) }
  refine wpAny_bind (wpAny_load (get?_update_seq hS _) ?_)
  show wpAny _ _ (pure ((#[] : Array Value) ++ vs.toArray).toList) Q E _
  have ev : ((#[] : Array Value) ++ vs.toArray).toList = vs := by simp
  rw [ev]
  refine wpAny_pure (h _ (fun b u z => ?_) (by rw [Heap.size_update, Heap.size_push]; exact Nat.le_succ _))
  rw [Heap.get?_update_ne _ _ _ _ (Nat.ne_of_lt (Heap.lt_size z))]
  exact Heap.get?_push_of_some _ z
theorem sorted_tupD {prog : Program} {w : World} {A : Around} {E : Value → Shared → Prop} {s : Shared} {l : Addr} {vs : List Value} {bs : List (V × D)} {Q : Value → Shared → Prop} (hl : IsTup s.heap l vs.toArray) (e : PySem.W.EachIs (fun (u : Value) (b : V × D) => RelV b.1 u) vs bs)
    (er : PySem.W.EachIs (fun (u : Value) (b : V × D) => ∃ as, Reads s.heap u (toPy b.2) as) vs bs) (hal : PySem.W.AllAlike (bs.map fun b => toPy b.2)) (hk : PySem.W.Sortable (bs.map fun b => toPy b.2)) (hL : bs.length ≤ sizeLine) (hu : ∀ b ∈ bs, A.units + 4 + (toPy b.2).depth < cLine)
    (h : ∀ h' out p c, (∀ b o, s.heap.get? b = some o → h'.get? b = some o) → s.heap.objs.size ≤ p → h'.get? p = some (seqObj "list" (List.toArray out) c) → PySem.W.EachIs (fun (u : Value) (b : V × D) => RelV b.1 u) out (bs.mergeSort (PySem.W.dataLe false fun b => toPy b.2)) → Q (.ref p) { s with heap := h' }) :
    wpAny (model prog w) A (call (.builtin "sorted") [.ref l]) Q E s := by
  refine Calls.call_function_entry PyProof.Rows.kind_sorted PyProof.Rows.plain_sorted PyProof.Rows.entry_sorted (PyProof.Rows.args_sorted1 _) ?_
  unfold Builtin.«sorted»
  have vl : vs.length ≤ sizeLine := by rw [e.length]; exact hL
  refine wpAny_bind (wpAny_pure ?_)
  refine wpAny_bind (collectT hl vl fun h1 k1 hle => ?_)
  refine wpAny_bind (wpAny_newList ?_ vl)
  have hoL : (h1.push (seqObj "list" vs.toArray 0)).get? h1.objs.size = some (seqObj "list" vs.toArray 0) := Heap.get?_push_size _ rfl
  have er1 : PySem.W.EachIs (fun (u : Value) (b : V × D) => ∃ as, Reads (PySem.W.sortingHeap (h1.push (seqObj "list" vs.toArray 0)) h1.objs.size vs) u (toPy b.2) as) vs bs := er.mono fun _ _ ⟨as, r⟩ => ⟨as, PyProof.Rows.Reads.keeps (fun b o z => PySem.W.sortingHeap_old (Nat.ne_of_lt (Heap.lt_size (k1 b o z))) (Heap.get?_push_of_some _ (k1 b o z))) r⟩
  refine wpAny_bind (wpAny_holding (wpAny_call_entry slot_list_sort ⟨_, hoL, rfl⟩ entry_list_sort (PySem.W.list_sort_vals (s := { s with heap := h1.push (seqObj "list" vs.toArray 0) }) (κ := PySem.W.dataKind (PySem.W.sortingHeap (h1.push (seqObj "list" vs.toArray 0)) h1.objs.size vs) (bs.map fun b => toPy b.2)) hoL (PySem.W.SortsAt.data (s := { s with heap := PySem.W.sortingHeap (h1.push (seqObj "list" vs.toArray 0)) h1.objs.size vs }) (PySem.W.each_map (R := fun v d => ∃ as, Reads (PySem.W.sortingHeap (h1.push (seqObj "list" vs.toArray 0)) h1.objs.size vs) v d as) (fun b : V × D => toPy b.2) er1) hal hk (PySem.W.bound_map fun b hb => ?_)) vl ⟨.none, rfl, ?_⟩) (args_list_sort _)))
  · have := hu b hb
    have h2 : ∀ A : Around, A.in1.units ≤ A.units + 1 := fun A => by simp [Around.in1]
    have h3 := h2 A
    have h4 := h2 A.in1
    omega
  · have eo := PySem.W.sortVals_data (R := fun (u : Value) (b : V × D) => RelV b.1 u) (enc := fun b : V × D => toPy b.2) false e er1 hal
    obtain ⟨c, he'⟩ := PyProof.Rows.sortedHeap_at (vs := vs) (out := (PySem.W.sortVals (PySem.W.dataKind (PySem.W.sortingHeap (h1.push (seqObj "list" vs.toArray 0)) h1.objs.size vs) (bs.map fun b => toPy b.2)) false vs vs).toArray) hoL
    refine wpAny_pure ⟨_, rfl, h _ _ _ c (fun b u q => ?_) hle he' eo⟩
    have q1 := k1 b u q
    have hlt := Heap.lt_size q1
    rw [PyProof.Rows.sortedHeap_old (Nat.ne_of_lt hlt) (by rw [size_push']; exact Nat.lt_succ_of_lt hlt)]
    exact Heap.get?_push_of_some _ q1
theorem call_sortedD (hu : X.A.units + 70 < cLine) : CallR X (.builtin "sorted") (fun vs H Q => ∃ m S xs x, vs = [x] ∧ StOk X.K H m S ∧ PR X.K H (Own m S) x (.lst xs) ∧ sortOk xs = true ∧
    ∀ ws p, Reps X.K H (Own m S) ws (xs.mergeSort dle) → H p = none → Q (.ref p) (upd H p (.lst ws))) := by
  intro pins s σ H vs us Q I r h
  obtain ⟨m, S, xs, x, rfl, ok, hx, hs, q⟩ := h
  obtain ⟨a, ws, rfl, h1, h2⟩ := hx.lst
  rw [Vals.ref1 r]
  obtain ⟨z, its, n, rv, hl, e⟩ := lstR I h1
  unfold sortOk at hs
  simp only [Bool.and_eq_true, Bool.or_eq_true, List.all_eq_true, decide_eq_true_eq] at hs
  obtain ⟨⟨⟨al, dp⟩, so⟩, sz⟩ := hs
  have hlen : ws.length = xs.length := h2.length
  have e1 := eachVals rv hlen
  have er : PySem.W.EachIs (fun (u : Value) (b : V × D) => ∃ as, Reads s.heap u (toPy b.2) as) its (ws.zip xs) := eachReads (fun v u d hr ru => Dp.reads I _ v u hr.dp ru) rv h2
  have hm : ∀ b ∈ ws.zip xs, b.2 ∈ xs := fun b hb => (List.of_mem_zip hb).2
  have hal : PySem.W.AllAlike ((ws.zip xs).map fun b => toPy b.2) := by
    intro d hd d' hd'
    obtain ⟨b, hb, rfl⟩ := List.mem_map.mp hd
    obtain ⟨b', hb', rfl⟩ := List.mem_map.mp hd'
    exact al _ (hm b hb) _ (hm b' hb')
  have hk : PySem.W.Sortable ((ws.zip xs).map fun b => toPy b.2) := by
    rcases so with so | so
    · refine .inl fun d hd => ?_
      obtain ⟨b, hb, rfl⟩ := List.mem_map.mp hd
      have := so _ (hm b hb)
      revert this
      cases b.2 with
      | tup ys => cases ys with
        | nil => exact fun z => nomatch z
        | cons y ys => exact fun _ => ⟨toPy y, toPys ys, by rw [toPy, toPys]⟩
      | _ => exact fun z => nomatch z
    · refine .inr fun d hd => ?_
      obtain ⟨b, hb, rfl⟩ := List.mem_map.mp hd
      have := so _ (hm b hb)
      revert this
      cases b.2 with
      | non => exact fun z => nomatch z
      | tup ys => exact fun z => nomatch z
      | _ => exact fun _ => ⟨(fun z => by simp [toPy] at z), (fun _ z => by simp [toPy] at z)⟩
  have hL : (ws.zip xs).length ≤ sizeLine := by rw [List.length_zip, hlen, Nat.min_self]; exact sz
  refine PySem.W.sorted_data (s := s) ⟨_, e, rfl, _, rfl⟩ e1 er hal hk hL (fun b hb => by have := dp _ (hm b hb); omega) fun out hol eo => ?_
  obtain ⟨ep, he'⟩ := PyProof.Rows.sortedAll_at s.heap its out.toArray
  have vo := valsEach eo
  have hsort : ((ws.zip xs).mergeSort (PySem.W.dataLe false fun b => toPy b.2)).map (·.2) = xs.mergeSort dle := by
    have := PySem.W.sort_maps (r := PySem.W.dataLe false fun b : V × D => toPy b.2) (s := dle) (fun b : V × D => b.2) (l := ws.zip xs) (fun a _ b _ => by rw [PySem.W.dataLe_eq]; rfl)
    rw [this, List.map_snd_zip (by omega)]
  have hreps : Reps X.K H (Own m S) (((ws.zip xs).mergeSort (PySem.W.dataLe false fun b => toPy b.2)).map (·.1)) (xs.mergeSort dle) := by
    rw [← hsort]
    exact reps_of_zip fun b hb => h2.zip b (List.mem_mergeSort.mp hb)
  have hsz : (((ws.zip xs).mergeSort (PySem.W.dataLe false fun b => toPy b.2)).map (·.1)).length ≤ sizeLine := by rw [List.length_map, List.length_mergeSort]; exact hL
  exact ⟨.ref _, upd H (s.heap.objs.size + 1) (.lst _), I.laid (t' := s.toks) (fun _ _ => PyProof.Rows.sortedAll_old) (Nat.le_succ _) ⟨hsz, out, ep, vo, he'⟩, rfl, q _ _ hreps (I.hok.fresh (Nat.le_succ _))⟩

theorem call_sortedC (hu : X.A.units + 70 < cLine) : CallR X (.builtin "sorted") (fun vs H Q => ∃ m S xs x, vs = [x] ∧ StOk X.K H m S ∧ PR X.K H (Own m S) x (.lst xs) ∧ sortC xs = true ∧
    ∀ ws p, Reps X.K H (Own m S) ws (xs.mergeSort dle) → H p = none → Q (.ref p) (upd H p (.lst ws))) := by
  intro pins s σ H vs us Q I r h
  obtain ⟨m, S, xs, x, rfl, ok, hx, hs, q⟩ := h
  obtain ⟨a, ws, rfl, h1, h2⟩ := hx.lst
  rw [Vals.ref1 r]
  obtain ⟨z, its, n, rv, hl, e⟩ := lstR I h1
  unfold sortC at hs
  simp only [Bool.and_eq_true, List.all_eq_true, decide_eq_true_eq] at hs
  obtain ⟨⟨⟨⟨al, cl⟩, dp⟩, so⟩, sz⟩ := hs
  have hlen : ws.length = xs.length := h2.length
  have e1 := eachVals rv hlen
  have er : PySem.W.EachIs (fun (u : Value) (b : V × D) => ∃ as, Reads s.heap u (toPy b.2) as) its (ws.zip xs) := eachReads (fun v u d hr ru => Dp.reads I _ v u hr.dp ru) rv h2
  have hm : ∀ b ∈ ws.zip xs, b.2 ∈ xs := fun b hb => (List.of_mem_zip hb).2
  have hs : ∀ b ∈ ws.zip xs, ∃ t r, toPy b.2 = .tuple (.str t :: r) := fun b hb => by
    have := so _ (hm b hb)
    revert this
    cases b.2 with
    | tup ys => cases ys with
      | nil => exact fun z => nomatch z
      | cons y ys => cases y with
        | str t => exact fun _ => ⟨t, toPys ys, by rw [toPy, toPys, toPy]⟩
        | _ => exact fun z => nomatch z
    | _ => exact fun z => nomatch z
  have hL : (ws.zip xs).length ≤ sizeLine := by rw [List.length_zip, hlen, Nat.min_self]; exact sz
  refine sorted_coks (s := s) ⟨_, e, rfl, _, rfl⟩ e1 er (fun b hb b' hb' => al _ (hm b hb) _ (hm b' hb')) hs (fun b hb => cl _ (hm b hb)) hL (fun b hb => by have := dp _ (hm b hb); omega) fun out hol eo => ?_
  obtain ⟨ep, he'⟩ := PyProof.Rows.sortedAll_at s.heap its out.toArray
  have vo := valsEach eo
  have hsort : ((ws.zip xs).mergeSort (PySem.W.dataLe false fun b => toPy b.2)).map (·.2) = xs.mergeSort dle := by
    have := PySem.W.sort_maps (r := PySem.W.dataLe false fun b : V × D => toPy b.2) (s := dle) (fun b : V × D => b.2) (l := ws.zip xs) (fun a _ b _ => by rw [PySem.W.dataLe_eq]; rfl)
    rw [this, List.map_snd_zip (by omega)]
  have hreps : Reps X.K H (Own m S) (((ws.zip xs).mergeSort (PySem.W.dataLe false fun b => toPy b.2)).map (·.1)) (xs.mergeSort dle) := by
    rw [← hsort]
    exact reps_of_zip fun b hb => h2.zip b (List.mem_mergeSort.mp hb)
  have hsz : (((ws.zip xs).mergeSort (PySem.W.dataLe false fun b => toPy b.2)).map (·.1)).length ≤ sizeLine := by rw [List.length_map, List.length_mergeSort]; exact hL
  exact ⟨.ref _, upd H (s.heap.objs.size + 1) (.lst _), I.laid (t' := s.toks) (fun _ _ => PyProof.Rows.sortedAll_old) (Nat.le_succ _) ⟨hsz, out, ep, vo, he'⟩, rfl, q _ _ hreps (I.hok.fresh (Nat.le_succ _))⟩

theorem call_sortedDT (hu : X.A.units + 70 < cLine) : CallR X (.builtin "sorted") (fun vs H Q => ∃ m S xs x, vs = [x] ∧ StOk X.K H m S ∧ PR X.K H (Own m S) x (.tup xs) ∧ sortOk xs = true ∧
    ∀ ws p, Reps X.K H (Own m S) ws (xs.mergeSort dle) → H p = none → Q (.ref p) (upd H p (.lst ws))) := by
  intro pins s σ H vs us Q I r h
  obtain ⟨m, S, xs, x, rfl, ok, hx, hs, q⟩ := h
  obtain ⟨a, ws, rfl, h1, h2⟩ := hx.tup
  rw [Vals.ref1 r]
  obtain ⟨its, rv, it, z⟩ := I.tuple h1
  unfold sortOk at hs
  simp only [Bool.and_eq_true, Bool.or_eq_true, List.all_eq_true, decide_eq_true_eq] at hs
  obtain ⟨⟨⟨al, dp⟩, so⟩, sz⟩ := hs
  have hlen : ws.length = xs.length := h2.length
  have e1 := eachVals rv hlen
  have er : PySem.W.EachIs (fun (u : Value) (b : V × D) => ∃ as, Reads s.heap u (toPy b.2) as) its (ws.zip xs) := eachReads (fun v u d hr ru => Dp.reads I _ v u hr.dp ru) rv h2
  have hm : ∀ b ∈ ws.zip xs, b.2 ∈ xs := fun b hb => (List.of_mem_zip hb).2
  have hal : PySem.W.AllAlike ((ws.zip xs).map fun b => toPy b.2) := by
    intro d hd d' hd'
    obtain ⟨b, hb, rfl⟩ := List.mem_map.mp hd
    obtain ⟨b', hb', rfl⟩ := List.mem_map.mp hd'
    exact al _ (hm b hb) _ (hm b' hb')
  have hk : PySem.W.Sortable ((ws.zip xs).map fun b => toPy b.2) := by
    rcases so with so | so
    · refine .inl fun d hd => ?_
      obtain ⟨b, hb, rfl⟩ := List.mem_map.mp hd
      have := so _ (hm b hb)
      revert this
      cases b.2 with
      | tup ys => cases ys with
        | nil => exact fun z => nomatch z
        | cons y ys => exact fun _ => ⟨toPy y, toPys ys, by rw [toPy, toPys]⟩
      | _ => exact fun z => nomatch z
    · refine .inr fun d hd => ?_
      obtain ⟨b, hb, rfl⟩ := List.mem_map.mp hd
      have := so _ (hm b hb)
      revert this
      cases b.2 with
      | non => exact fun z => nomatch z
      | tup ys => exact fun z => nomatch z
      | _ => exact fun _ => ⟨(fun z => by simp [toPy] at z), (fun _ z => by simp [toPy] at z)⟩
  have hL : (ws.zip xs).length ≤ sizeLine := by rw [List.length_zip, hlen, Nat.min_self]; exact sz
  refine sorted_tupD it e1 er hal hk hL (fun b hb => by have := dp _ (hm b hb); omega) fun h' out p c kp hp he' eo => ?_
  have vo := valsEach eo
  have hsort : ((ws.zip xs).mergeSort (PySem.W.dataLe false fun b => toPy b.2)).map (·.2) = xs.mergeSort dle := by
    have := PySem.W.sort_maps (r := PySem.W.dataLe false fun b : V × D => toPy b.2) (s := dle) (fun b : V × D => b.2) (l := ws.zip xs) (fun a _ b _ => by rw [PySem.W.dataLe_eq]; rfl)
    rw [this, List.map_snd_zip (by omega)]
  have hreps : Reps X.K H (Own m S) (((ws.zip xs).mergeSort (PySem.W.dataLe false fun b => toPy b.2)).map (·.1)) (xs.mergeSort dle) := by
    rw [← hsort]
    exact reps_of_zip fun b hb => h2.zip b (List.mem_mergeSort.mp hb)
  have hsz : (((ws.zip xs).mergeSort (PySem.W.dataLe false fun b => toPy b.2)).map (·.1)).length ≤ sizeLine := by rw [List.length_map, List.length_mergeSort]; exact hL
  exact ⟨.ref p, upd H p (.lst _), I.laid (t' := s.toks) kp hp ⟨hsz, out, c, vo, he'⟩, rfl, q _ _ hreps (I.hok.fresh hp)⟩

/-! ### isinstance -/
def tyN : Ty → String
  | .int => "int" | .bool => "bool" | .str => "str" | .tuple => "tuple" | .list => "list"
def kindN : D → String
  | .non => "NoneType" | .bl _ => "bool" | .int _ => "int" | .str _ => "str" | .tup _ => "tuple" | .lst _ => "list"
theorem tyX_of {K : PySem.W.Frag} {H : Hp} {N : Addr → Prop} {x : V} {d : D} (h : PR K H N x d) : TyX K H x (.type (kindN d)) := by
  cases h with
  | of h =>
    cases h with
    | non => exact .base .non
    | bl b => exact .base (.bl b)
    | int i => exact .base (.int i)
    | str x => exact .base (.str x)
    | tup q r =>
      rcases q with ⟨o, q, _⟩ | ⟨o, its, n, q, hc, _⟩
      · exact .fTuple q
      · exact .kTuple q hc
    | lst q r =>
      rcases q with ⟨q | ⟨o, q⟩, _⟩
      · exact .base (.lst q)
      · exact .base (.frz q)
  | live h r => exact .base (.lst h)
theorem kit_isi {K : PySem.W.Frag} {H : Hp} {N : Addr → Prop} {x : V} {d : D} (h : PR K H N x d) (t : Ty) : kitB (kindN d) (tyN t) = some (isiD d t) := by
  cases h with
  | of h => cases h <;> cases t <;> (simp only [kindN, tyN, isiD]; decide +kernel)
  | live h r => cases t <;> (simp only [kindN, tyN, isiD]; decide +kernel)
def rIsD (K : PySem.W.Frag) (t : Ty) : List V → Hp → VK → Prop := fun xs H Q => ∃ m S x d, xs = [x, .ty (tyN t)] ∧ StOk K H m S ∧ PR K H (Own m S) x d ∧ Q (.bl (isiD d t)) H
theorem call_isD (t : Ty) : CallR X (.builtin "isinstance") (rIsD X.K t) := by
  intro pins s σ H vs us Q I r h
  obtain ⟨m, S, x, d, rfl, ok, hx, q⟩ := h
  exact call_isi pins s σ H _ us Q I r ⟨x, _, _, _, _, rfl, .ty _, tyX_of hx, kit_ty (kit_isi hx t), q⟩
theorem kit_any {K : PySem.W.Frag} {H : Hp} {N : Addr → Prop} {x : V} {d : D} (h : PR K H N x d) : ∀ ts : List Ty, PySem.W.kitAny K (.type (kindN d)) (ts.map fun t => Value.type (tyN t)) = some (ts.any fun t => isiD d t)
  | [] => rfl
  | t :: ts => by
    refine kitAny_cons (b := isiD d t) (kit_ty (kit_isi h t)) (fun e => ?_) (fun e => ?_)
    · rw [kit_any h ts, List.any_cons, e]; rfl
    · rw [List.any_cons, e]; rfl
theorem paired_ty (ts : List Ty) : Paired ClsV (ts.map fun t => V.ty (tyN t)) (ts.map fun t => Value.type (tyN t)) := by
  induction ts with
  | nil => exact .nil
  | cons t ts ih => exact .cons (.ty _) ih
def rIsDs (K : PySem.W.Frag) (ts : List Ty) : List V → Hp → VK → Prop := fun xs H Q => ∃ m S x d p, xs = [x, .ref p] ∧ H p = some (.tup (ts.map fun t => V.ty (tyN t))) ∧ StOk K H m S ∧ PR K H (Own m S) x d ∧ Q (.bl (ts.any fun t => isiD d t)) H
theorem call_isDs (ts : List Ty) : CallR X (.builtin "isinstance") (rIsDs X.K ts) := by
  intro pins s σ H vs us Q I r h
  obtain ⟨m, S, x, d, p, rfl, hp, ok, hx, q⟩ := h
  exact call_isiT pins s σ H _ us Q I r ⟨x, p, _, _, _, _, rfl, hp, paired_ty ts, tyX_of hx, kit_any hx ts, q⟩

/-! ### other built-ins of one or two arguments -/
def bval : Bi → Value
  | .len => .builtin "len" | .int => .type "int" | .all => .builtin "all" | .any => .builtin "any" | .sum => .builtin "sum" | .list => .type "list" | .tuple => .type "tuple"
  | .sorted => .builtin "sorted" | .repr => .builtin "repr" | .str => .type "str" | .min => .builtin "min" | .max => .builtin "max"
theorem call_repr_bl : CallR X (.builtin "repr") (fun xs H Q => ∃ b, xs = [.bl b] ∧ Q (.str (if b then "True" else "False")) H) := by
  intro pins s σ H xs us Q I r h
  obtain ⟨b, rfl, q⟩ := h
  obtain ⟨u, rfl, rfl⟩ := vals1 r
  exact PySem.P.repr_of_bool ⟨.str _, H, I.tok _, ⟨_, rfl⟩, q⟩
theorem call_repr_non : CallR X (.builtin "repr") (fun xs H Q => xs = [.non] ∧ Q (.str "None") H) := by
  intro pins s σ H xs us Q I r h
  obtain ⟨rfl, q⟩ := h
  obtain ⟨u, rfl, rfl⟩ := vals1 r
  exact PySem.P.repr_of_none ⟨.str _, H, I.tok _, ⟨_, rfl⟩, q⟩
theorem foldl_min_mem : ∀ (ns : List Int) (n : Int), ns.foldl min n ∈ n :: ns
  | [], n => by simp
  | a :: ns, n => by
    have h := foldl_min_mem ns (min n a)
    rw [List.foldl_cons]
    rcases List.mem_cons.mp h with h | h
    · rw [h]
      rcases Int.le_total n a with q | q
      · rw [Int.min_eq_left q]; exact List.mem_cons_self
      · rw [Int.min_eq_right q]; exact List.mem_cons_of_mem _ List.mem_cons_self
    · exact List.mem_cons_of_mem _ (List.mem_cons_of_mem _ h)
theorem foldl_min_le : ∀ (ns : List Int) (n : Int), ∀ x ∈ n :: ns, ns.foldl min n ≤ x
  | [], n, x, h => by simp at h; subst h; exact Int.le_refl _
  | a :: ns, n, x, h => by
    have ih := foldl_min_le ns (min n a)
    rw [List.foldl_cons]
    have h0 := ih (min n a) List.mem_cons_self
    rcases List.mem_cons.mp h with rfl | h
    · exact Int.le_trans h0 (Int.min_le_left _ _)
    · rcases List.mem_cons.mp h with rfl | h
      · exact Int.le_trans h0 (Int.min_le_right _ _)
      · exact ih x (List.mem_cons_of_mem _ h)
theorem least_eq {ns : List Int} {n k : Int} (hk : k ∈ n :: ns) (hl : ∀ x ∈ n :: ns, k ≤ x) : k = ns.foldl min n :=
  Int.le_antisymm (hl _ (foldl_min_mem ns n)) (foldl_min_le ns n k hk)
def rBi (K : PySem.W.Frag) (b : Bi) : List V → Hp → VK → Prop := fun vs H Q => ∃ m S ds r, StOk K H m S ∧ PRs K H (Own m S) vs ds ∧ biD b ds = some r ∧ Fol K H m S r Q
theorem call_bi (b : Bi) (hc : X.calm = true) (hu : X.A.units + 70 < cLine) : CallR X (bval b) (rBi X.K b) := by
  intro pins s σ H vs us Q I r h
  obtain ⟨m, S, ds, d, ok, hv, hr, f⟩ := h
  unfold biD at hr
  split at hr
  · cases hv with | cons h1 h2 => cases h2; cases hr; obtain ⟨a, ws, rfl, g1, g2⟩ := h1.lst; exact call_len pins s σ H _ us Q I r ⟨_, _, rfl, .inl ⟨_, .inl g1, rfl⟩, by rw [g2.length]; exact f.here ok (.int _)⟩
  · cases hv with | cons h1 h2 => cases h2; cases hr; obtain ⟨a, ws, rfl, g1, g2⟩ := h1.tup; exact call_len pins s σ H _ us Q I r ⟨_, _, rfl, .inr ⟨_, g1, rfl⟩, by rw [g2.length]; exact f.here ok (.int _)⟩
  · cases hv with | cons h1 h2 =>
      cases h2; cases h1.str
      split at hr
      · cases hr; exact call_len_str pins s σ H _ us Q I r ⟨_, rfl, by assumption, f.here ok (.int _)⟩
      · cases hr
  · cases hv with | cons h1 h2 => cases h2; cases hr; cases h1.int; exact call_int1 pins s σ H _ us Q I r (.inl ⟨_, rfl, f.here ok (.int _)⟩)
  · cases hv with | cons h1 h2 => cases h2; cases hr; cases h1.bl; exact call_int1 pins s σ H _ us Q I r (.inr ⟨_, rfl, f.here ok (.int _)⟩)
  · cases hv with | cons h1 h2 =>
      cases h2
      obtain ⟨a, ws, rfl, g1, g2⟩ := h1.lst
      obtain ⟨bs, e, rfl⟩ := Option.map_eq_some_iff.mp hr
      cases g2.bls e; exact cr_all hc pins s σ H _ us Q I r ⟨_, _, rfl, .inl g1, f.here ok (.bl _)⟩
  · cases hv with | cons h1 h2 =>
      cases h2
      obtain ⟨a, ws, rfl, g1, g2⟩ := h1.lst
      obtain ⟨bs, e, rfl⟩ := Option.map_eq_some_iff.mp hr
      cases g2.bls e; exact cr_any hc pins s σ H _ us Q I r ⟨_, _, rfl, .inl g1, f.here ok (.bl _)⟩
  · cases hv with | cons h1 h2 =>
      cases h2
      obtain ⟨a, ws, rfl, g1, g2⟩ := h1.lst
      obtain ⟨bs, e, rfl⟩ := Option.map_eq_some_iff.mp hr
      cases g2.ints e; exact cr_sum hc pins s σ H _ us Q I r ⟨_, _, rfl, .inl g1, f.here ok (.int _)⟩
  · cases hv with | cons h1 h2 => cases h2; cases hr; obtain ⟨a, ws, rfl, g1, g2⟩ := h1.lst; exact call_list_of pins s σ H _ us Q I r ⟨_, _, rfl, .inl (.inl g1), f.lst ok g2⟩
  · cases hv with | cons h1 h2 => cases h2; cases hr; obtain ⟨a, ws, rfl, g1, g2⟩ := h1.tup; exact call_list_of pins s σ H _ us Q I r ⟨_, _, rfl, .inr g1, f.lst ok g2⟩
  · cases hv with | cons h1 h2 => cases h2; cases hr; obtain ⟨a, ws, rfl, g1, g2⟩ := h1.lst; exact call_tupleZ pins s σ H _ us Q I r ⟨_, _, rfl, .inl ⟨.inl g1, f.tup ok g2⟩⟩
  · cases hv with | cons h1 h2 => cases h2; cases hr; obtain ⟨a, ws, rfl, g1, g2⟩ := id h1.tup; exact call_tupleZ pins s σ H _ us Q I r ⟨_, _, rfl, .inr ⟨g1, f.here ok (h1.rep fun _ z => nomatch z)⟩⟩
  · cases hv with | cons h1 h2 =>
      cases h2
      split at hr
      · rename_i hso
        cases hr
        rcases Bool.or_eq_true _ _ ▸ hso with hso | hso
        · exact call_sortedD hu pins s σ H _ us Q I r ⟨m, S, _, _, rfl, ok, h1, hso, fun ws p hw hp => f.lst ok hw p hp⟩
        · exact call_sortedC hu pins s σ H _ us Q I r ⟨m, S, _, _, rfl, ok, h1, hso, fun ws p hw hp => f.lst ok hw p hp⟩
      · cases hr
  · cases hv with | cons h1 h2 =>
      cases h2
      split at hr
      · cases hr; exact call_sortedDT hu pins s σ H _ us Q I r ⟨m, S, _, _, rfl, ok, h1, by assumption, fun ws p hw hp => f.lst ok hw p hp⟩
      · cases hr
  · cases hv with | cons h1 h2 => cases h2; cases hr; cases h1.bl; exact call_repr_bl pins s σ H _ us Q I r ⟨_, rfl, f.here ok (.str _)⟩
  · cases hv with | cons h1 h2 => cases h2; cases hr; cases h1.non; exact call_repr_non pins s σ H _ us Q I r ⟨rfl, f.here ok (.str _)⟩
  · cases hv with | cons h1 h2 =>
      cases h2
      split at hr
      · rename_i n ns e
        cases hr
        obtain ⟨a, ws, rfl, g1, g2⟩ := h1.lst
        cases g2.ints e
        refine cr_min hc pins s σ H _ us Q I r ⟨_, _, rfl, .inl g1, by simp, fun k hk hl => ?_⟩
        have e2 : k = ns.foldl min n := least_eq hk hl
        subst e2
        exact f.here ok (.int _)
      · cases hr
  · cases hv with | cons h1 h2 => cases h2 with | cons h2 h3 => cases h3; cases hr; cases h1.int; cases h2.int; exact call_min2 hc pins s σ H _ us Q I r ⟨_, _, rfl, f.here ok (.int _)⟩
  · cases hv with | cons h1 h2 => cases h2 with | cons h2 h3 => cases h3; cases hr; cases h1.int; cases h2.int; exact call_max2 hc pins s σ H _ us Q I r ⟨_, _, rfl, f.here ok (.int _)⟩
  · cases hr

/-! ### methods -/
theorem firstEq_get {x : D} : ∀ {ys : List D} {k n : Nat}, firstEq x ys k = some n → k ≤ n ∧ ∃ z, ys[n - k]? = some z ∧ deq z x = true ∧ ∀ (j : Nat) (z' : D), j < n - k → ys[j]? = some z' → deq z' x = false
  | [], _, _, h => by cases h
  | y :: ys, k, n, h => by
    unfold firstEq at h
    split at h
    · cases h
      refine ⟨Nat.le_refl _, y, by simp, by assumption, fun j z' hj => by omega⟩
    · rename_i hy
      obtain ⟨h1, z, h2, h3, h4⟩ := firstEq_get h
      have e : n - k = (n - (k + 1)) + 1 := by omega
      refine ⟨by omega, z, by rw [e]; simpa using h2, h3, fun j z' hj hz => ?_⟩
      cases j with
      | zero => simp at hz; subst hz; simpa using hy
      | succ j => exact h4 j z' (by omega) (by simpa using hz)
theorem Reps.strs' {K : PySem.W.Frag} {H : Hp} {N : Addr → Prop} : ∀ {vs : List V} {xs : List D} {bs : List Str}, Reps K H N vs xs → asStrs xs = some bs → vs = bs.map V.str
  | _, _, bs, .nil, e => by unfold asStrs at e; cases e; rfl
  | _, _ :: ds, bs, .cons q r, e => by
    cases q with
    | str b =>
      unfold asStrs at e
      cases h : asStrs ds with
      | none => rw [h] at e; cases e
      | some bs' => rw [h] at e; cases e; rw [List.map_cons, Reps.strs' r h]
    | _ => unfold asStrs at e; cases e
def mid : Mt → String
  | .index => "list.index" | .split => "str.split" | .count => "str.count" | .join => "str.join" | .countL => "list.count" | .indexT => "tuple.index" | .countT => "tuple.count"
def mty : Mt → String
  | .index => "list" | .split => "str" | .count => "str" | .join => "str" | .countL => "list" | .indexT => "tuple" | .countT => "tuple"
def rMt (K : PySem.W.Frag) (k : Mt) : V → List V → Hp → VK → Prop := fun v vs H Q => ∃ m S d ds r, StOk K H m S ∧ PR K H (Own m S) v d ∧ PRs K H (Own m S) vs ds ∧ mthD k d ds = some r ∧ Fol K H m S r Q
theorem mt_D (k : Mt) (hu : X.A.units + 65 < cLine) : MtR X (mid k) (rMt X.K k) := by
  intro pins s σ H x xs v us Q I rx rs h
  obtain ⟨m, S, d, ds, r, ok, hx, hs, hr, f⟩ := h
  unfold mthD at hr
  split at hr
  · rename_i ys x'
    split at hr
    · rename_i hc
      obtain ⟨n, e, rfl⟩ := Option.map_eq_some_iff.mp hr
      have hc := Bool.and_eq_true_iff.mp hc
      cases hs with
      | cons h1 h2 =>
        cases h2
        obtain ⟨a, ws, rfl, g1, g2⟩ := id hx.lst
        obtain ⟨_, z, e1, e2, e3⟩ := firstEq_get e
        rw [Nat.sub_zero] at e1 e3
        have l2 := okD_lay hc.2
        rw [toPy, PyData.canLay0] at l2
        have hd := hx.dp
        rw [toPy] at hd
        have sh : SeqAt.shaped (PyData.list (toPys ys)) = true := by have := hc.2; unfold okD at this; rw [toPy] at this; exact this
        refine mt_indexD hu pins s σ H _ _ v us Q I rx rs ⟨a, _, _, toPys ys, n, toPy z, rfl, rfl, hd, h1.dp, sh, hc.1, ?_, ?_, fun j z' hj hz => ?_, f.here ok (.int _)⟩
        · rw [toPys_eq, List.getElem?_map, e1]; rfl
        · rw [eqv_deq _ _ (lay_mem l2 z (List.mem_of_getElem? e1)) (okD_lay hc.1)]; exact e2
        · rw [toPys_eq, List.getElem?_map] at hz
          obtain ⟨w, hw, rfl⟩ := Option.map_eq_some_iff.mp hz
          rw [eqv_deq _ _ (lay_mem l2 w (List.mem_of_getElem? hw)) (okD_lay hc.1)]
          exact e3 j w hj hw
    · cases hr
  · cases hx.str
    cases hr
    cases hs with
    | cons h1 h2 =>
      cases h2; cases h1.str
      unfold cntT at f
      exact mt_count pins s σ H _ _ v us Q I rx rs ⟨_, _, rfl, rfl, f.here ok (.int _)⟩
  · cases hx.str
    split at hr
    · rename_i hc
      cases hr
      cases hs with
      | cons h1 h2 =>
        cases h2; cases h1.str
        exact mt_split pins s σ H _ _ v us Q I rx rs ⟨_, _, rfl, rfl, hc.1, hc.2, fun p hp => f.lst ok (reps_strs _) p hp⟩
    · cases hr
  · rename_i ys x'
    split at hr
    · rename_i hc
      cases hr
      have hc := Bool.and_eq_true_iff.mp hc
      cases hs with
      | cons h1 h2 =>
        cases h2
        cases rs with
        | cons ry rt =>
          cases rt
          obtain ⟨a, ws, rfl, g1, g2⟩ := id hx.lst
          cases rx
          have sh : SeqAt.shaped (PyData.list (toPys ys)) = true := by have := hc.2; unfold okD at this; rw [toPy] at this; exact this
          have lx := okD_lay hc.1
          have ly := okD_lay hc.2
          rw [toPy, PyData.canLay0] at ly
          obtain ⟨bs, r1⟩ := Dp.reads I _ _ _ h1.dp ry
          have hxd := hx.dp
          rw [toPy] at hxd
          obtain ⟨as, r2⟩ := Dp.reads I (.list (toPys ys)) (.ref a) (.ref a) hxd rfl
          have hroom : X.A.units + 1 + min (PyData.depthAll (toPys ys)) (toPy x').depth < cLine := room_in_shaped hc.1 hu
          cases r2 with
          | list i1 i2 i3 rl =>
            refine PySem.SeqAt.count_list_data ⟨_, i1, i2, _, i3⟩ rl r1 (PySem.PyData.plainAll_of_canLay0 _ ly) (PySem.PyData.plain_of_canLay0 _ lx) hroom ⟨.int _, H, I.tok _, ⟨_, rfl⟩, ?_⟩
            have e : (toPys ys).countP (fun y => PyData.eqv y (toPy x')) = ys.countP fun y => deq y x' := by
              rw [toPys_eq, List.countP_map]
              apply List.countP_congr
              intro y hy
              simp only [Function.comp]
              rw [eqv_deq _ _ (lay_mem ly y hy) lx]
            rw [e]
            exact f.here ok (.int _)
    · cases hr
  · rename_i ys z
    obtain ⟨ss, e1, e⟩ := Option.bind_eq_some_iff.mp hr
    obtain ⟨j, e2, rfl⟩ := Option.map_eq_some_iff.mp e
    obtain ⟨hj, e3, e4⟩ := List.findIdx?_eq_some_iff_getElem.mp e2
    cases hs with
    | cons h1 h2 =>
      cases h2
      cases h1.str
      obtain ⟨a, ws, rfl, g1, g2⟩ := hx.tup
      cases g2.strs' e1
      refine mt_tup_index pins s σ H _ _ v us Q I rx rs ⟨a, ss, z, j, rfl, rfl, g1, by rw [List.getElem?_eq_getElem hj, of_decide_eq_true e3], fun k hk q => ?_, f.here ok (.int _)⟩
      have hk' : k < ss.length := Nat.lt_trans hk hj
      rw [List.getElem?_eq_getElem hk'] at q
      have := e4 k hk
      rw [Option.some.inj q] at this
      simp at this
  · rename_i ys x'
    split at hr
    · rename_i hc
      cases hr
      have hc := Bool.and_eq_true_iff.mp hc
      cases hs with
      | cons h1 h2 =>
        cases h2
        cases rs with
        | cons ry rt =>
          cases rt
          obtain ⟨a, ws, rfl, g1, g2⟩ := id hx.tup
          cases rx
          have sh : SeqAt.shaped (PyData.tuple (toPys ys)) = true := by have := hc.2; unfold okD at this; rw [toPy] at this; exact this
          have lx := okD_lay hc.1
          have ly := okD_lay hc.2
          rw [toPy, PyData.canLay0] at ly
          obtain ⟨bs, r1⟩ := Dp.reads I _ _ _ h1.dp ry
          have hxd := hx.dp
          rw [toPy] at hxd
          obtain ⟨as, r2⟩ := Dp.reads I (.tuple (toPys ys)) (.ref a) (.ref a) hxd rfl
          have hroom : X.A.units + 1 + min (PyData.depthAll (toPys ys)) (toPy x').depth < cLine := room_in_shaped hc.1 hu
          cases r2 with
          | tuple i1 i2 i3 rl =>
            refine PySem.SeqAt.count_tuple_data ⟨_, i1, i2, _, i3⟩ rl r1 (PySem.PyData.plainAll_of_canLay0 _ ly) (PySem.PyData.plain_of_canLay0 _ lx) hroom ⟨.int _, H, I.tok _, ⟨_, rfl⟩, ?_⟩
            have e : (toPys ys).countP (fun y => PyData.eqv y (toPy x')) = ys.countP fun y => deq y x' := by
              rw [toPys_eq, List.countP_map]
              apply List.countP_congr
              intro y hy
              simp only [Function.comp]
              rw [eqv_deq _ _ (lay_mem ly y hy) lx]
            rw [e]
            exact f.here ok (.int _)
    · cases hr
  · cases hr
theorem PR.tyT {K : PySem.W.Frag} {H : Hp} {N : Addr → Prop} {x : V} {ds : List D} (hx : PR K H N x (.tup ds)) : tyZ K "tuple" x H := by
  cases hx with
  | of h =>
    cases h with
    | tup q r =>
      rcases q with ⟨o, q, c, d, _⟩ | ⟨o, its, n, q, hc, _, _, _, hd⟩
      · exact .inr ⟨rfl, _, o, _, rfl, q, c, d⟩
      · exact .inl (.inr (.inl ⟨rfl, o, q, hc, hd⟩))
theorem ty_mt {K : PySem.W.Frag} {H : Hp} {N : Addr → Prop} {x : V} {d : D} {k : Mt} (hx : PR K H N x d) (h : mtOk k d = true) : tyZ K (mty k) x H := by
  unfold mtOk at h
  split at h
  · obtain ⟨a, ws, rfl, g1, g2⟩ := hx.lst
    exact .inl (.inl ⟨rfl, _, .inl g1⟩)
  · cases hx.str; exact .inl rfl
  · cases hx.str; exact .inl rfl
  · cases hx.str; exact .inl rfl
  · obtain ⟨a, ws, rfl, g1, g2⟩ := hx.lst
    exact .inl (.inl ⟨rfl, _, .inl g1⟩)
  · exact hx.tyT
  · exact hx.tyT
  · cases h
end
end M

/-! a set of texts that grows by one text at a time: named after what the library tells of one text's add (Froz.add_x) -/
namespace M
open PySem PySem.Spec PyProof.Rows L2 PySem.Froz
/-- the payload's table can be walked -/
def Wkb (w : World) (D : SD) : Prop := Ris D.2.2.place.toList ∧ (w.params.followText "set-order" = true ∨ D.2.2.led = true)
theorem Wkb.tail {w : World} {ep : Nat} {es : Array (Int × Value)} {t : SetTable} {dm : Bool} (g : Wkb w (es, ep, t)) : Wkb w (tailTx ep es t dm) := by
  unfold tailTx
  cases (!dm && t.tooFull) with
  | true => exact ⟨relayAll_ris _ _ _, g.2.imp id fun z => (relayAll_led t es _).trans z⟩
  | false => exact g
theorem Wkb.add {w : World} {D : SD} (g : Wkb w D) (hsh : Int) (v : Value) : Wkb w (addTx hsh v D) := by
  obtain ⟨es, ep, t⟩ := D
  have p1 := layNew_ris t es hsh v g.1
  have p2 : w.params.followText "set-order" = true ∨ (layNew t es hsh v).2.1.led = true := g.2.imp id fun z => (layNew_led t es hsh v).trans z
  unfold addTx
  refine Wkb.tail (ep := ep) ?_
  dsimp only
  cases (layNew t es hsh v).2.1.plain with
  | true => exact ⟨p1, p2⟩
  | false => exact ⟨p1, p2⟩
/-- at a stands a set of just these texts, each once -/
structure TxS (P : Program) (w : World) (h : Heap) (a : Addr) (l : List Str) : Prop where
  here : ∃ D, h.get? a = some (sObj "set" D) ∧ TxOk P w D l ∧ Wkb w D
  each : l.Nodup
section
variable {P : Program} {w : World} {A : Around} {E : Value → Shared → Prop} {s : Shared} {a : Addr} {l : List Str}
theorem TxS.keep {h h' : Heap} (T : TxS P w h a l) (k : ∀ o, h.get? a = some o → h'.get? a = some o) : TxS P w h' a l :=
  let ⟨D, g, r⟩ := T.here
  ⟨⟨D, k _ g, r⟩, T.each⟩
/-- a text that is there already changes nothing -/
theorem add_there {k : Str} {u : Tok} {Q : Bool → Shared → Prop} (T : TxS P w s.heap a l) (hk : k ∈ l) (hb : l.length < scanBound) (q : Q false s) : wpAny (model P w) A (setAddHashed a (.str k u) (hashStr w k)) Q E s := by
  obtain ⟨⟨es, ep, t⟩, at_, ok, -⟩ := T.here
  have small : es.size < scanBound := by rw [show es.size = l.length from ok.sz]; exact hb
  obtain ⟨e, me, ie⟩ := (ok.mem k).mp hk
  obtain ⟨j, hj⟩ : ∃ j, es.toList.findIdx? (fun e => (strKind P w).is k e.2) = some j := by
    cases c : es.toList.findIdx? (fun e => (strKind P w).is k e.2) with
    | some j => exact ⟨j, rfl⟩
    | none => exact absurd ie (by rw [List.findIdx?_eq_none_iff.mp c e me]; exact Bool.false_ne_true)
  have sees : wpAny (model P w) A (setAddByScan a (.str k u) (hashStr w k) es t) (fun r s' => r = some false ∧ s' = s) E s :=
    wpAny_bind (wpAny_rule (wpAny_bind (wpAny_setScan_of (knd := strKind P w) (is_str k u) at_ rfl ok.fit ok.el (by rw [hj]; exact wpAny_pure ⟨rfl, rfl⟩))))
  have scan : byScan (.str k u) es = true := byScan_of (knd := strKind P w) rfl small ok.el
  show wpAny _ _ (holding [.str k u] (setAddHashedIn a (.str k u) (hashStr w k) (99999 + 1))) _ _ _
  rw [setAddHashedIn]
  refine wpAny_holding (wpAny_bind (wpAny_setState_of at_ rfl ok.fit ?_))
  simp only [scan, if_true]
  exact wpAny_bind (wpAny_mono sees (fun r s' ⟨e1, e2⟩ => by subst e1; subst e2; exact wpAny_pure q) fun _ _ z => z)
/-- the set behind an add -/
def grow (l : List Str) (k : Str) : List Str := if k ∈ l then l else k :: l
theorem add_text {k : Str} {u : Tok} {Q : Bool → Shared → Prop} (T : TxS P w s.heap a l) (hb : l.length + 1 < scanBound) (q : ∀ b h', Heap.SameBut a s.heap h' → TxS P w h' a (grow l k) → Q b { s with heap := h' }) :
    wpAny (model P w) A (setAddHashed a (.str k u) (hashStr w k)) Q E s := by
  by_cases hk : k ∈ l
  · refine add_there T hk (by omega) (q false s.heap (Heap.SameBut.refl a s.heap) ?_)
    rw [grow, if_pos hk]; exact T
  · obtain ⟨D, at_, ok, wk⟩ := T.here
    refine add_x at_ ok hk hb (q true _ (Heap.SameBut.update s.heap a _) ?_)
    rw [grow, if_neg hk]
    exact ⟨⟨_, get_upd _ at_ rfl, add_ok u ok, wk.add _ _⟩, List.nodup_cons.mpr ⟨hk, T.each⟩⟩
/-- what the loop leaves: the texts one by one -/
theorem fill {R : Result → Shared → Prop} {I S : Addr} {fp wr : List Addr} {n : Nat} {Pv : Nat → Value → Prop} {St : Nat → Heap → Prop} (W : Walks P w A.in1 I fp wr n Pv St) (far : S ∉ fp) {xs : List Str} (hn : xs.length = n) (texts : ∀ i v, Pv i v → ∃ x t, xs[i]? = some x ∧ v = .str x t) (room : n + 1 < scanBound) (s : Shared) :
    ∀ (rest : List Str) (i : Nat) (l : List Str) (h : Heap) (tk : Nat), xs.drop i = rest → i ≤ n → l.length ≤ i → St i h → TxS P w h S l →
      (∀ h' tk', TxS P w h' S (rest.foldl grow l) → (∀ b o, b ≠ S → b ∉ wr → h.get? b = some o → h'.get? b = some o) → R (.ok (.ret .none)) { s with heap := h', toks := tk' }) →
      codeAny (model P w) A (.builtin "set.update.loop" ⟨[.ref S, .ref I], []⟩) R { s with heap := h, toks := tk } := by
  have nwr : S ∉ wr := fun z => far (W.sub S z)
  intro rest
  induction rest with
  | nil =>
    intro i l h tk ed hi hl st T q
    have ei : i = n := by have := congrArg List.length ed; rw [List.length_drop] at this; simp at this; omega
    subst ei
    refine codeAny_builtin PyProof.Rows.F.entry_set_update_loop ?_
    rw [Around.under_plainId PyProof.Rows.F.plain_set_update_loop _]
    refine wpAny_bind (W.done { s with heap := h, toks := tk } _ _ st fun h' tk' kp => ?_)
    exact wpAny_pure (q h' tk' (T.keep fun o e => kp S o nwr e) fun b o _ hb e => kp b o hb e)
  | cons x rest more =>
    intro i l h tk ed hi hl st T q
    have lt : i < n := by have := congrArg List.length ed; rw [List.length_drop] at this; simp at this; omega
    have hx : xs[i]? = some x := by
      have := congrArg List.head? ed
      rw [List.head?_drop] at this
      exact this
    refine codeAny_builtin PyProof.Rows.F.entry_set_update_loop ?_
    rw [Around.under_plainId PyProof.Rows.F.plain_set_update_loop _]
    refine wpAny_bind (W.item i { s with heap := h, toks := tk } _ _ lt st fun v h1 tk1 pv st1 kp => ?_)
    obtain ⟨y, t, ey, rfl⟩ := texts i v pv
    have : y = x := by rw [hx] at ey; exact (Option.some.inj ey).symm
    subst this
    have T1 : TxS P w h1 S l := T.keep fun o e => kp S o nwr e
    have lg : (grow l y).length ≤ i + 1 := by
      unfold grow
      split
      · omega
      · rw [List.length_cons]; omega
    refine wpAny_bind (wpAny_holding (wpAny_holding (wpAny_bind ((strKind P w).pyHash (is_str y t) ?_))))
    refine add_text (s := { s with heap := h1, toks := tk1 + 1 }) T1 (by omega) fun b h2 sb T2 => ?_
    refine wpAny_pure ⟨plainId_quiet PyProof.Rows.F.plain_set_update_loop _, more (i + 1) (grow l y) h2 (tk1 + 1) ?_ lt lg (W.frame _ h1 h2 st1 fun c hc o e => (sb.2 c fun z => far (z ▸ hc)).trans e) T2 fun h3 tk3 T3 kp3 => q h3 tk3 T3 fun c o c1 c2 e => kp3 c o c1 c2 ((sb.2 c c1).trans (kp c o c2 e))⟩
    have := congrArg List.tail ed
    rw [List.tail_drop] at this
    exact this
/-- a new set -/
def set0 (w : World) : Obj := sObj "set" (#[], 0, .fresh 0 0 (!w.params.followText "set-order"))
theorem txs_new (h : Heap) : TxS P w (h.push (set0 w)) h.objs.size [] := by
  refine ⟨⟨_, Heap.get?_push_size _ rfl, TxOk.nil rfl, by simp [Ris, SetTable.fresh], ?_⟩, List.nodup_nil⟩
  cases e : w.params.followText "set-order" with
  | true => exact .inl rfl
  | false => exact .inr (by simp [SetTable.fresh, e])
/-- set(x): made, then filled; as the model's type.__call__ has it (the library has this for an init whose check asks nothing of the heap: callType_codes) -/
theorem call_set1 {x : Value} {Q Q₁ : Value → Shared → Prop} (made : codeAny (model P w) A.in1 (.call (.builtin "set.__new__") ⟨[.type "set", x], []⟩) (wants Q₁ E) s)
    (filled : ∀ o s1, Q₁ o s1 → s1.TypeIs o "set" ∧ wpAny (model P w) A.in1.in1 (Builtin.«set.__init__» ⟨[o, x], []⟩) (fun r s2 => r = .done (.ret .none) ∧ Q o s2) (fun _ _ => False) s1) : wpAny (model P w) A (call (.type "set") [x]) Q E s := by
  have c := PySem.F.called_set
  obtain ⟨_, _, mro⟩ := c.mro
  have a1 := c.made
  have a2 := c.sub
  have a3 := c.notType
  have a4 := c.canCreate
  have a5 := PySem.F.typeCall_set_1 x
  refine wpAny_call (codeAny_of_tree (wpAny_pure ⟨Code.quiet_builtin _ (by decide +kernel), codeAny_builtin PySem.F.entry_type_call ?_⟩))
  rw [Around.under_plain (weight_type_call_type "set" [x] []) rfl]
  unfold Builtin.«type.__call__»
  simp only [a3, a4, Bool.false_eq_true, if_false, bind_assoc, pure_bind]
  refine wpAny_bind (wpAny_of_eq a5 ?_)
  refine wpAny_bind (wpAny_of_eq mro ?_)
  simp only [List.isEmpty_cons, Bool.false_eq_true, if_false]
  refine wpAny_bind (wpAny_of_eq a1 ?_)
  refine wpAny_bind (wpAny_holding (wpAny_call (codeAny_mono made fun r s1 q1 => ?_)))
  cases r with
  | error e => exact q1
  | ok fl =>
    cases fl with
    | ret o =>
      obtain ⟨ty, body⟩ := filled o s1 q1
      refine wpAny_bind (wpAny_isInstance ty a2 ?_)
      simp only [Bool.not_true, Bool.false_eq_true, if_false, callSpecial?]
      refine wpAny_bind (wpAny_holding (wpAny_bind (wpAny_specialOf ty c.init.lookup (wpAny_holding (wpAny_bind (wpAny_of_eq (c.init.bind o) ?_))))))
      refine wpAny_bind (wpAny_call (codeAny_call_builtin_code (plainId_quiet c.init.plain _) (check_set_init_1 ty (codeAny_builtin PySem.F.entry_set_init ?_))))
      rw [Around.under_plainId c.init.plain _]
      refine wpAny_mono body (fun r s2 ⟨e, q2⟩ => ?_) fun _ _ z => z.elim
      subst e
      exact wpAny_pure (wpAny_pure q2)
    | _ => exact q1.elim
theorem mkset_list {l : Addr} {its : Array Value} {xs : List Str} {Q : Value → Shared → Prop} (free : A.handled = none) (il : s.heap.IsList l its) (tx : Vals (xs.map V.str) its.toList) (room : xs.length + 1 < scanBound)
    (q : ∀ h' tk, TxS P w h' s.heap.objs.size (xs.foldl grow []) → (∀ b o, s.heap.get? b = some o → h'.get? b = some o) → Q (.ref s.heap.objs.size) { s with heap := h', toks := tk }) : wpAny (model P w) A (call (.type "set") [.ref l]) Q E s := by
  refine call_set1 (code_set_led1 (.ref l) (Q₁ := fun u s₁ => u = .ref s.heap.objs.size ∧ s₁ = { s with heap := s.heap.push (set0 w) }) ⟨rfl, rfl⟩) ?_
  rintro obj s1 ⟨rfl, rfl⟩
  have new : (s.heap.push (set0 w)).get? s.heap.objs.size = some (set0 w) := Heap.get?_push_size _ rfl
  have here : Shared.TypeIs { s with heap := s.heap.push (set0 w) } (.ref s.heap.objs.size) "set" := ⟨_, new, rfl⟩
  have il1 : (s.heap.push (set0 w)).IsList l its := il.push _
  have hlt : l < s.heap.objs.size := let ⟨o, e, _⟩ := il; Heap.lt_size e
  have below : ∀ b o, s.heap.get? b = some o → b ≠ s.heap.objs.size ∧ b ∉ [s.heap.objs.size + 1] := fun b o e => by
    have := Heap.lt_size e
    refine ⟨Nat.ne_of_lt this, fun z => ?_⟩
    rw [List.mem_singleton] at z
    rw [z] at this
    exact Nat.not_lt_of_le (Nat.le_succ _) this
  have len : xs.length = its.size := by have := Vals.length tx; rw [List.length_map, Array.length_toList] at this; exact this
  have upd : wpAny (model P w) A.in1.in1 (Builtin.Frozenset.updateFrom "set.__init__" s.heap.objs.size (.ref l)) (fun _ s2 => ∃ h' tk, s2 = { s with heap := h', toks := tk } ∧ TxS P w h' s.heap.objs.size (xs.foldl grow []) ∧ ∀ b o, s.heap.get? b = some o → h'.get? b = some o) (fun _ _ => False) { s with heap := s.heap.push (set0 w) } := by
    unfold Builtin.Frozenset.updateFrom Builtin.Frozenset.isAnySet
    refine wpAny_bind (wpAny_bind (wpAny_isInstance il1.typeIs PySem.F.sub_list_set ?_))
    refine wpAny_isInstance il1.typeIs PySem.F.sub_list_frozenset ?_
    simp only [Bool.false_eq_true, if_false]
    refine wpAny_bind (wpAny_typeOf il1.typeIs ?_)
    rw [if_neg (by decide)]
    refine wpAny_bind (wpAny_pyIter_list il1 (wpAny_bind (wpAny_runValue ?_)))
    have sz : (s.heap.push (set0 w)).objs.size = s.heap.objs.size + 1 := Heap.size_push _ _
    have apart : s.heap.objs.size ∉ [s.heap.objs.size + 1, l] := fun z => by
      rcases List.mem_cons.mp z with z | z
      · exact Nat.ne_of_lt (Nat.lt_succ_self _) z
      · exact Nat.ne_of_gt hlt (List.mem_singleton.mp z)
    rw [sz]
    refine fill (Walks.list (by simpa using free) (s.heap.objs.size + 1) l (Nat.ne_of_lt (Nat.lt_succ_of_lt hlt)) its) apart len (fun i v hv => ?_) (by omega) s xs 0 [] _ s.toks (by simp) (Nat.zero_le _) (Nat.le_refl _) ⟨⟨_, by rw [← sz]; exact Heap.get?_push_size _ rfl, rfl, rfl⟩, il1.push _⟩ ((txs_new s.heap).keep fun o e => Heap.get?_push_of_some _ e) fun h' tk T kp => ?_
    · have hi : i < xs.length := by rw [len]; exact (Array.getElem?_eq_some_iff.mp hv).1
      obtain ⟨v', e1, t, e2⟩ := Vals.get tx (i := i) (x := V.str xs[i]) (by simp [hi])
      rw [Array.getElem?_toList, hv] at e1
      cases e1
      exact ⟨xs[i], t, List.getElem?_eq_getElem hi, e2⟩
    · exact wpAny_pure ⟨h', tk, rfl, T, fun b o e => kp b o (below b o e).1 (below b o e).2 (Heap.get?_push_of_some _ (Heap.get?_push_of_some _ e))⟩
  refine ⟨here, ?_⟩
  unfold Builtin.«set.__init__» noKeywords
  have named : wpAny (model P w) A.in1.in1 (typeNameOfCut 200 (.ref s.heap.objs.size)) (fun _ s' => s' = { s with heap := s.heap.push (set0 w) }) (fun _ _ => False) { s with heap := s.heap.push (set0 w) } := by
    unfold typeNameOfCut shownTypeOf
    refine wpAny_bind (wpAny_bind (wpAny_typeOf here ?_))
    rw [if_neg (by decide)]
    exact wpAny_pure (wpAny_pure rfl)
  have fresh : wpAny (model P w) A.in1.in1 (setUsed s.heap.objs.size) (fun b s' => b = false ∧ s' = { s with heap := s.heap.push (set0 w) }) (fun _ _ => False) { s with heap := s.heap.push (set0 w) } :=
    wpAny_bind (wpAny_setState_of new rfl rfl (wpAny_pure ⟨rfl, rfl⟩))
  refine wpAny_bind (wpAny_pure (wpAny_bind (wpAny_mono named (fun _ s' e => ?_) fun _ _ z => z)))
  subst e
  refine wpAny_bind (wpAny_pure (wpAny_bind (wpAny_pure (wpAny_bind (wpAny_mono fresh (fun b s' ⟨e1, e2⟩ => ?_) fun _ _ z => z)))))
  subst e1; subst e2
  simp only [Bool.false_eq_true, if_false]
  refine wpAny_bind (wpAny_mono upd (fun _ s2 ⟨h', tk, e, T, kp⟩ => ?_) fun _ _ z => z)
  subst e
  exact wpAny_pure ⟨rfl, q h' tk T kp⟩
theorem mkset_tuple {l : Addr} {its : Array Value} {xs : List Str} {Q : Value → Shared → Prop} (free : A.handled = none) (il : s.heap.IsTuple l its) (tx : Vals (xs.map V.str) its.toList) (room : xs.length + 1 < scanBound)
    (q : ∀ h' tk, TxS P w h' s.heap.objs.size (xs.foldl grow []) → (∀ b o, s.heap.get? b = some o → h'.get? b = some o) → Q (.ref s.heap.objs.size) { s with heap := h', toks := tk }) : wpAny (model P w) A (call (.type "set") [.ref l]) Q E s := by
  refine call_set1 (code_set_led1 (.ref l) (Q₁ := fun u s₁ => u = .ref s.heap.objs.size ∧ s₁ = { s with heap := s.heap.push (set0 w) }) ⟨rfl, rfl⟩) ?_
  rintro obj s1 ⟨rfl, rfl⟩
  have new : (s.heap.push (set0 w)).get? s.heap.objs.size = some (set0 w) := Heap.get?_push_size _ rfl
  have here : Shared.TypeIs { s with heap := s.heap.push (set0 w) } (.ref s.heap.objs.size) "set" := ⟨_, new, rfl⟩
  have il1 : (s.heap.push (set0 w)).IsTuple l its := il.push _
  have hlt : l < s.heap.objs.size := let ⟨o, e, _⟩ := il; Heap.lt_size e
  have below : ∀ b o, s.heap.get? b = some o → b ≠ s.heap.objs.size ∧ b ∉ [s.heap.objs.size + 1] := fun b o e => by
    have := Heap.lt_size e
    refine ⟨Nat.ne_of_lt this, fun z => ?_⟩
    rw [List.mem_singleton] at z
    rw [z] at this
    exact Nat.not_lt_of_le (Nat.le_succ _) this
  have len : xs.length = its.size := by have := Vals.length tx; rw [List.length_map, Array.length_toList] at this; exact this
  have upd : wpAny (model P w) A.in1.in1 (Builtin.Frozenset.updateFrom "set.__init__" s.heap.objs.size (.ref l)) (fun _ s2 => ∃ h' tk, s2 = { s with heap := h', toks := tk } ∧ TxS P w h' s.heap.objs.size (xs.foldl grow []) ∧ ∀ b o, s.heap.get? b = some o → h'.get? b = some o) (fun _ _ => False) { s with heap := s.heap.push (set0 w) } := by
    unfold Builtin.Frozenset.updateFrom Builtin.Frozenset.isAnySet
    refine wpAny_bind (wpAny_bind (wpAny_isInstance il1.typeIs PySem.F.sub_tuple_set ?_))
    refine wpAny_isInstance il1.typeIs PySem.F.sub_tuple_frozenset ?_
    simp only [Bool.false_eq_true, if_false]
    refine wpAny_bind (wpAny_typeOf il1.typeIs ?_)
    rw [if_neg (by decide)]
    refine wpAny_bind (wpAny_pyIter_tuple il1 (wpAny_bind (wpAny_runValue ?_)))
    have sz : (s.heap.push (set0 w)).objs.size = s.heap.objs.size + 1 := Heap.size_push _ _
    have apart : s.heap.objs.size ∉ [s.heap.objs.size + 1, l] := fun z => by
      rcases List.mem_cons.mp z with z | z
      · exact Nat.ne_of_lt (Nat.lt_succ_self _) z
      · exact Nat.ne_of_gt hlt (List.mem_singleton.mp z)
    rw [sz]
    refine fill (Walks.tuple (by simpa using free) (s.heap.objs.size + 1) l (Nat.ne_of_lt (Nat.lt_succ_of_lt hlt)) its) apart len (fun i v hv => ?_) (by omega) s xs 0 [] _ s.toks (by simp) (Nat.zero_le _) (Nat.le_refl _) ⟨⟨_, by rw [← sz]; exact Heap.get?_push_size _ rfl, rfl, rfl⟩, il1.push _⟩ ((txs_new s.heap).keep fun o e => Heap.get?_push_of_some _ e) fun h' tk T kp => ?_
    · have hi : i < xs.length := by rw [len]; exact (Array.getElem?_eq_some_iff.mp hv).1
      obtain ⟨v', e1, t, e2⟩ := Vals.get tx (i := i) (x := V.str xs[i]) (by simp [hi])
      rw [Array.getElem?_toList, hv] at e1
      cases e1
      exact ⟨xs[i], t, List.getElem?_eq_getElem hi, e2⟩
    · exact wpAny_pure ⟨h', tk, rfl, T, fun b o e => kp b o (below b o e).1 (below b o e).2 (Heap.get?_push_of_some _ (Heap.get?_push_of_some _ e))⟩
  refine ⟨here, ?_⟩
  unfold Builtin.«set.__init__» noKeywords
  have named : wpAny (model P w) A.in1.in1 (typeNameOfCut 200 (.ref s.heap.objs.size)) (fun _ s' => s' = { s with heap := s.heap.push (set0 w) }) (fun _ _ => False) { s with heap := s.heap.push (set0 w) } := by
    unfold typeNameOfCut shownTypeOf
    refine wpAny_bind (wpAny_bind (wpAny_typeOf here ?_))
    rw [if_neg (by decide)]
    exact wpAny_pure (wpAny_pure rfl)
  have fresh : wpAny (model P w) A.in1.in1 (setUsed s.heap.objs.size) (fun b s' => b = false ∧ s' = { s with heap := s.heap.push (set0 w) }) (fun _ _ => False) { s with heap := s.heap.push (set0 w) } :=
    wpAny_bind (wpAny_setState_of new rfl rfl (wpAny_pure ⟨rfl, rfl⟩))
  refine wpAny_bind (wpAny_pure (wpAny_bind (wpAny_mono named (fun _ s' e => ?_) fun _ _ z => z)))
  subst e
  refine wpAny_bind (wpAny_pure (wpAny_bind (wpAny_pure (wpAny_bind (wpAny_mono fresh (fun b s' ⟨e1, e2⟩ => ?_) fun _ _ z => z)))))
  subst e1; subst e2
  simp only [Bool.false_eq_true, if_false]
  refine wpAny_bind (wpAny_mono upd (fun _ s2 ⟨h', tk, e, T, kp⟩ => ?_) fun _ _ z => z)
  subst e
  exact wpAny_pure ⟨rfl, q h' tk T kp⟩
end
end M

/-! expressions: a run of data is a reading -/
namespace M
open PySem PySem.Spec PyProof.Rows L2

abbrev WS := L2.St → WD
def tD (K : PySem.W.Frag) (W : WS) (g : Ev → St' → R SV) : TE := fun σ H Q => ∃ m S ρ, StOk K H m S ∧ RelE K H m S σ ρ ∧ Run K (fun H' m' S' d => ∀ v, RepS K H' m' S' v d → Q v H') (W σ) H m S (g ρ S)
def tDA (K : PySem.W.Frag) (W : WS) (g : Ev → St' → R (List SV)) : TA := fun σ H Q => ∃ m S ρ, StOk K H m S ∧ RelE K H m S σ ρ ∧ Run K (fun H' m' S' ds => ∀ vs, RepSs K H' m' S' vs ds → Q vs H') (W σ) H m S (g ρ S)
def tDT (K : PySem.W.Frag) (W : WS) (g : Ev → St' → R Bool) : TT := fun σ H Q => ∃ m S ρ, StOk K H m S ∧ RelE K H m S σ ρ ∧ Run K (fun H' m' S' b => Q b H') (W σ) H m S (g ρ S)
def tDO (K : PySem.W.Frag) (W : WS) (g : Ev → St' → R (Option Int)) : TO := fun σ H Q => ∃ m S ρ, StOk K H m S ∧ RelE K H m S σ ρ ∧ Run K (fun H' m' S' b => Q b H') (W σ) H m S (g ρ S)
/-- a new list: it stands as the last object -/
def RunL (K : PySem.W.Frag) (Q : VK) (W : WD) (H : Hp) (m : List Addr) (S : St') : R (List D) → Prop
  | .ok xs S' => ∀ H' m' p, StOk K H' (m' ++ [p]) (S' ++ [.lst xs]) → Fr H m S H' (m' ++ [p]) (S' ++ [.lst xs]) → m <+: m' → Q (.ref p) H'
  | .exc c p S' => ∀ H' m', StOk K H' m' S' → Fr H m S H' m' S' → W c p H' m' S'
  | .bad => False
def tDL (K : PySem.W.Frag) (W : WS) (g : Ev → St' → R (List D)) : TE := fun σ H Q => ∃ m S ρ, StOk K H m S ∧ RelE K H m S σ ρ ∧ RunL K Q (W σ) H m S (g ρ S)

theorem PE_imp {X : Cx} {e : Expr} {t t' : TE} (h : PE X e t) (i : ∀ σ H Q, t' σ H Q → t σ H Q) : PE X e t' := ⟨fun pins s σ H Q I hw => h.run pins s σ H Q I (i _ _ _ hw)⟩
theorem PA_imp {X : Cx} {e : List Expr} {t t' : TA} (h : PA X e t) (i : ∀ σ H Q, t' σ H Q → t σ H Q) : PA X e t' := ⟨fun pos pins s σ H Q I hw => h.run pos pins s σ H Q I (i _ _ _ hw)⟩
theorem PT_imp {X : Cx} {e : Expr} {t t' : TT} (h : PT X e t) (i : ∀ σ H Q, t' σ H Q → t σ H Q) : PT X e t' := ⟨fun pins s σ H Q I hw => h.run pins s σ H Q I (i _ _ _ hw)⟩
theorem PW_imp {X : Cx} {e : Expr} {t t' : TT} (h : PW X e t) (i : ∀ σ H Q, t' σ H Q → t σ H Q) : PW X e t' := ⟨fun wh pins s σ H Q I hw => h.run wh pins s σ H Q I (i _ _ _ hw)⟩
theorem PO_imp {X : Cx} {e : Option Expr} {t t' : TO} (h : PO X e t) (i : ∀ σ H Q, t' σ H Q → t σ H Q) : PO X e t' := ⟨fun pins s σ H Q I hw => h.run pins s σ H Q I (i _ _ _ hw)⟩

section
variable {K : PySem.W.Frag} {W : WS} {σ : L2.St} {H : Hp} {m : List Addr} {S : St'} {ρ : Ev}
theorem tD_bind {β : Type} {P' : Hp → List Addr → St' → β → Prop} {g : Ev → St' → R SV} {f : SV → St' → R β} {Q : VK} (ok : StOk K H m S) (re : RelE K H m S σ ρ) (h : Run K P' (W σ) H m S ((g ρ S).bind f))
    (hk : ∀ x v S1 H1 m1, StOk K H1 m1 S1 → RelE K H1 m1 S1 σ ρ → Fr H m S H1 m1 S1 → RepS K H1 m1 S1 v x → Run K P' (W σ) H1 m1 S1 (f x S1) → Q v H1) : tD K W g σ H Q :=
  ⟨m, S, ρ, ok, re, h.bind fun x S1 H1 m1 ok1 f1 r1 v rv => hk x v S1 H1 m1 ok1 (re.mono f1) f1 rv r1⟩
theorem tDA_bind {β : Type} {P' : Hp → List Addr → St' → β → Prop} {g : Ev → St' → R (List SV)} {f : List SV → St' → R β} {Q : List V → Hp → Prop} (ok : StOk K H m S) (re : RelE K H m S σ ρ) (h : Run K P' (W σ) H m S ((g ρ S).bind f))
    (hk : ∀ x v S1 H1 m1, StOk K H1 m1 S1 → RelE K H1 m1 S1 σ ρ → Fr H m S H1 m1 S1 → RepSs K H1 m1 S1 v x → Run K P' (W σ) H1 m1 S1 (f x S1) → Q v H1) : tDA K W g σ H Q :=
  ⟨m, S, ρ, ok, re, h.bind fun x S1 H1 m1 ok1 f1 r1 v rv => hk x v S1 H1 m1 ok1 (re.mono f1) f1 rv r1⟩
theorem tDT_bind {β : Type} {P' : Hp → List Addr → St' → β → Prop} {g : Ev → St' → R Bool} {f : Bool → St' → R β} {Q : Bool → Hp → Prop} (ok : StOk K H m S) (re : RelE K H m S σ ρ) (h : Run K P' (W σ) H m S ((g ρ S).bind f))
    (hk : ∀ x S1 H1 m1, StOk K H1 m1 S1 → RelE K H1 m1 S1 σ ρ → Fr H m S H1 m1 S1 → Run K P' (W σ) H1 m1 S1 (f x S1) → Q x H1) : tDT K W g σ H Q :=
  ⟨m, S, ρ, ok, re, h.bind fun x S1 H1 m1 ok1 f1 r1 => hk x S1 H1 m1 ok1 (re.mono f1) f1 r1⟩
theorem tDO_bind {β : Type} {P' : Hp → List Addr → St' → β → Prop} {g : Ev → St' → R (Option Int)} {f : Option Int → St' → R β} {Q : Option Int → Hp → Prop} (ok : StOk K H m S) (re : RelE K H m S σ ρ) (h : Run K P' (W σ) H m S ((g ρ S).bind f))
    (hk : ∀ x S1 H1 m1, StOk K H1 m1 S1 → RelE K H1 m1 S1 σ ρ → Fr H m S H1 m1 S1 → Run K P' (W σ) H1 m1 S1 (f x S1) → Q x H1) : tDO K W g σ H Q :=
  ⟨m, S, ρ, ok, re, h.bind fun x S1 H1 m1 ok1 f1 r1 => hk x S1 H1 m1 ok1 (re.mono f1) f1 r1⟩
theorem RunL.mono {Q : VK} {Wd : WD} {H1 : Hp} {m1 : List Addr} {S1 : St'} {r : R (List D)} (h : RunL K Q Wd H m S r) (f : Fr H m S H1 m1 S1) : RunL K Q Wd H1 m1 S1 r := by
  cases r with
  | ok xs S' => exact fun H' m' p ok' f' hp => h H' m' p ok' (f.trans f') (f.2.trans hp)
  | exc c p S' => exact fun H' m' ok' f' => h H' m' ok' (f.trans f')
  | bad => exact h
theorem RunL.bind {α : Type} {P : Hp → List Addr → St' → α → Prop} {Q : VK} {Wd : WD} {r : R α} {f : α → St' → R (List D)} (h : RunL K Q Wd H m S (r.bind f))
    (hk : ∀ a S1 H1 m1, StOk K H1 m1 S1 → Fr H m S H1 m1 S1 → RunL K Q Wd H1 m1 S1 (f a S1) → P H1 m1 S1 a) : Run K P Wd H m S r := by
  cases r with
  | bad => exact h
  | exc c p S' => exact h
  | ok a S1 => exact fun H1 m1 ok1 f1 => hk a S1 H1 m1 ok1 f1 (RunL.mono h f1)
theorem own_take {n : Nat} {a : Addr} (h : Own (m.take n) (S.take n) a) : Own m S a := by
  obtain ⟨i, e1, o, e2, ne⟩ := h
  by_cases hi : i < n
  · rw [List.getElem?_take_of_lt hi] at e1 e2
    exact ⟨i, e1, o, e2, ne⟩
  · rw [List.getElem?_eq_none (by simp; omega)] at e1; cases e1
theorem StOk.take (ok : StOk K H m S) (n : Nat) : StOk K H (m.take n) (S.take n) := by
  refine ⟨by simp [ok.len], ok.nd.sublist (List.take_sublist _ _), fun i a o e1 e2 => ?_⟩
  have hi : i < n := by
    apply Classical.byContradiction
    intro hi
    rw [List.getElem?_eq_none (by simp; omega)] at e1; cases e1
  rw [List.getElem?_take_of_lt hi] at e1 e2
  exact (ok.at_ i a o e1 e2).mono (fun b u h n => ⟨h, fun z => n (own_take z)⟩) (fun u e => ⟨u, e⟩) fun u e _ => e
/-- the last object is data from now on -/
theorem StOk.pop {p : Addr} {xs : List D} (ok : StOk K H (m ++ [p]) (S ++ [.lst xs])) : StOk K H m S ∧ (∀ a o, H a = some o → ¬ Own (m ++ [p]) (S ++ [.lst xs]) a → H a = some o ∧ ¬ Own m S a) ∧ Rep K H (Own m S) (.ref p) (.lst xs) := by
  have hl : m.length = S.length := by have := ok.len; simpa using this
  have t := ok.take m.length
  rw [List.take_left] at t
  rw [hl, List.take_left] at t
  have no : ∀ a, ¬ Own (m ++ [p]) (S ++ [.lst xs]) a → ¬ Own m S a := fun a n ⟨i, e1, o, e2, ne⟩ => n ⟨i, by rw [List.getElem?_append_left (List.getElem?_eq_some_iff.mp e1).1]; exact e1, o, by rw [List.getElem?_append_left (List.getElem?_eq_some_iff.mp e2).1]; exact e2, ne⟩
  refine ⟨t, fun a o e n => ⟨e, no a n⟩, ?_⟩
  obtain ⟨vs, h1, h2⟩ := ok.at_ m.length p (.lst xs) (by simp) (by rw [hl]; simp)
  refine .lst ⟨.inl h1, fun z => ?_⟩ (h2.mono fun a o e n => ⟨e, no a n⟩)
  have nd := ok.nd
  rw [List.nodup_append] at nd
  exact nd.2.2 p z.mem p (by simp) rfl
theorem Fr.pop {H0 : Hp} {m0 : List Addr} {S0 : St'} {p : Addr} {xs : List D} (ok : StOk K H (m ++ [p]) (S ++ [.lst xs])) (f : Fr H0 m0 S0 H (m ++ [p]) (S ++ [.lst xs])) (hp : m0 <+: m) : Fr H0 m0 S0 H m S :=
  ⟨fun a o e n => let ⟨e1, n1⟩ := f.1 a o e n; ok.pop.2.1 a o e1 n1, hp⟩
theorem Run.opt {α : Type} {P' : Hp → List Addr → St' → α → Prop} {Wd : WD} {o : Option α} (h : Run K P' Wd H m S (R.opt o S)) (ok : StOk K H m S) : ∃ a, o = some a ∧ ∀ H', StOk K H' m S → Fr H m S H' m S → P' H' m S a := by
  cases o with
  | none => exact h.elim
  | some a => exact ⟨a, rfl, fun H' ok' f => h H' m ok' f⟩
theorem Run.okk {α : Type} {P' : Hp → List Addr → St' → α → Prop} {Wd : WD} {a : α} {S1 : St'} (h : Run K P' Wd H m S (.ok a S1)) : ∀ H' m', StOk K H' m' S1 → Fr H m S H' m' S1 → P' H' m' S1 a := h
theorem Run.opt_bind {α β : Type} {P' : Hp → List Addr → St' → β → Prop} {Wd : WD} {o : Option α} {f : α → St' → R β} (h : Run K P' Wd H m S ((R.opt o S).bind f)) : ∃ a, o = some a ∧ Run K P' Wd H m S (f a S) := by
  cases o with
  | none => exact h.elim
  | some a => exact ⟨a, rfl, h⟩
end

section
variable {X : Cx} {W : WS} {a b c : Expr} {ga gb gc : Ev → St' → R SV} {pos : Pos}
theorem pd_var {i : Nat} {x : Str} {F : FS} (hN : X.N[i]? = some x) (hv : Vis X.env.scope x) (hd : (x == ("__debug__" : Str)) = false) (hcd : (x == ("__classdict__" : Str)) = false) : PE X (.Name x pos) (tD X.K W (evalE F (.var i))) := by
  refine PE_imp (pe_var hN hv hd hcd) fun σ H Q ⟨m, S, ρ, ok, re, h⟩ => ?_
  unfold evalE at h
  split at h
  · rename_i v hv
    obtain ⟨u, e, r⟩ := re.2 i v hv
    exact ⟨u, e, h H m ok .refl u r⟩
  · exact h.elim
theorem pd_const {d : D} {v : V} {F : FS} (h : PE X a (tC v)) (hr : ∀ H N, Rep X.K H N v d) : PE X a (tD X.K W (fun _ S => .ok (.t d) S)) :=
  PE_imp h fun σ H Q ⟨m, S, ρ, ok, re, h⟩ => h H m ok .refl v (hr H _)
theorem pd_bin (o : Bn) (ha : PE X a (tD X.K W ga)) (hb : PE X b (tD X.K W gb)) : PE X (.BinOp a (opOf o) b pos) (tD X.K W fun ρ S => (ga ρ S).bind fun x S1 => (gb ρ S1).bind fun y S2 =>
      R.opt ((peek S2 x).bind fun d => (peek S2 y).bind fun e => (binD o d e).map .t) S2) := by
  refine PE_imp (pe_op (or_bin o) ha hb) fun σ H Q ⟨m, S, ρ, ok, re, h⟩ => ?_
  refine tD_bind ok re h fun x v S1 H1 m1 ok1 re1 f1 rv h1 => ?_
  refine tD_bind ok1 re1 h1 fun y u S2 H2 m2 ok2 re2 f2 ru h2 => ?_
  obtain ⟨r, e, q⟩ := Run.opt h2 ok2
  obtain ⟨d, e1, e⟩ := Option.bind_eq_some_iff.mp e
  obtain ⟨d2, e2, e⟩ := Option.bind_eq_some_iff.mp e
  obtain ⟨r', e3, rfl⟩ := Option.map_eq_some_iff.mp e
  exact ⟨m2, S2, d, d2, r', ok2, ok2.peek (rv.mono f2) e1, ok2.peek ru e2, e3, fun H' w ok' f' hw => q H' ok' f' w hw⟩
theorem pd_cmp (o : Cm) (hu : X.A.units + 65 < cLine) (hm : behindInMarks (cmOf o) b = false) (ha : PE X a (tD X.K W ga)) (hb : PE X b (tD X.K W gb)) : PE X (.Compare a [cmOf o] [b] pos) (tD X.K W fun ρ S => (ga ρ S).bind fun x S1 => (gb ρ S1).bind fun y S2 =>
      R.opt ((peek S2 x).bind fun d => (peek S2 y).bind fun e => (cmpD o d e).map fun b => .t (.bl b)) S2) := by
  refine PE_imp (pe_cmpR (or_cmp o hu) ha hb hm) fun σ H Q ⟨m, S, ρ, ok, re, h⟩ => ?_
  refine tD_bind ok re h fun x v S1 H1 m1 ok1 re1 f1 rv h1 => ?_
  refine tD_bind ok1 re1 h1 fun y u S2 H2 m2 ok2 re2 f2 ru h2 => ?_
  obtain ⟨r, e, q⟩ := Run.opt h2 ok2
  obtain ⟨d, e1, e⟩ := Option.bind_eq_some_iff.mp e
  obtain ⟨d2, e2, e⟩ := Option.bind_eq_some_iff.mp e
  obtain ⟨r', e3, rfl⟩ := Option.map_eq_some_iff.mp e
  exact ⟨m2, S2, d, d2, r', ok2, ok2.peek (rv.mono f2) e1, ok2.peek ru e2, e3, q H2 ok2 .refl _ (.bl r')⟩
theorem pt_cmpD (o : Cm) (hu : X.A.units + 65 < cLine) (hm : behindInMarks (cmOf o) b = false) (ha : PE X a (tD X.K W ga)) (hb : PE X b (tD X.K W gb)) : PT X (.Compare a [cmOf o] [b] pos) (tDT X.K W fun ρ S => tru ((ga ρ S).bind fun x S1 => (gb ρ S1).bind fun y S2 =>
      R.opt ((peek S2 x).bind fun d => (peek S2 y).bind fun e => (cmpD o d e).map fun b => .t (.bl b)) S2)) := by
  refine PT_imp (pt_cmpR (or_cmp o hu) ha hb hm) fun σ H Q ⟨m, S, ρ, ok, re, h⟩ => ?_
  simp only [tru, R.bind_assoc] at h
  refine tD_bind ok re h fun x v S1 H1 m1 ok1 re1 f1 rv h1 => ?_
  refine tD_bind ok1 re1 h1 fun y u S2 H2 m2 ok2 re2 f2 ru h2 => ?_
  obtain ⟨r, e, q⟩ := Run.opt_bind h2
  obtain ⟨d, e1, e⟩ := Option.bind_eq_some_iff.mp e
  obtain ⟨d2, e2, e⟩ := Option.bind_eq_some_iff.mp e
  obtain ⟨r', e3, rfl⟩ := Option.map_eq_some_iff.mp e
  exact ⟨m2, S2, d, d2, r', ok2, ok2.peek (rv.mono f2) e1, ok2.peek ru e2, e3, r', rfl, q H2 m2 ok2 .refl⟩
def cmp2R (o p : Cm) (ga gb gc : Ev → St' → R SV) : Ev → St' → R SV := fun ρ S => (ga ρ S).bind fun x S1 => (gb ρ S1).bind fun y S2 =>
      (R.opt ((peek S2 x).bind fun d => (peek S2 y).bind fun e => cmpD o d e) S2).bind fun k S3 =>
        if k then (gc ρ S3).bind fun z S4 => R.opt ((peek S4 y).bind fun e => (peek S4 z).bind fun f => (cmpD p e f).map fun b => .t (.bl b)) S4
        else .ok (.t (.bl false)) S3
theorem pd_cmp2 (o p : Cm) (hu : X.A.units + 65 < cLine) (ha : PE X a (tD X.K W ga)) (hb : PE X b (tD X.K W gb)) (hc : PE X c (tD X.K W gc))
    (hm : lastMarks [cmOf o, cmOf p] [b, c] = false) : PE X (.Compare a [cmOf o, cmOf p] [b, c] pos) (tD X.K W (cmp2R o p ga gb gc)) := by
  refine PE_imp (pe_chain (or_cmp o hu) (or_cmp p hu) ha hb hc hm) fun σ H Q ⟨m, S, ρ, ok, re, h⟩ => ?_
  refine tD_bind ok re h fun x v S1 H1 m1 ok1 re1 f1 rv h1 => ?_
  refine tD_bind ok1 re1 h1 fun y u S2 H2 m2 ok2 re2 f2 ru h2 => ?_
  obtain ⟨k, e, q⟩ := Run.opt_bind h2
  obtain ⟨d, e1, e⟩ := Option.bind_eq_some_iff.mp e
  obtain ⟨d2, e2, e⟩ := Option.bind_eq_some_iff.mp e
  refine ⟨m2, S2, d, d2, k, ok2, ok2.peek (rv.mono f2) e1, ok2.peek ru e2, e, k, rfl, ?_⟩
  cases k with
  | false => exact q H2 m2 ok2 .refl _ (.bl _)
  | true =>
    refine tD_bind ok2 re2 q fun z w S4 H4 m4 ok4 re4 f4 rw h4 => ?_
    obtain ⟨r, e, q⟩ := Run.opt h4 ok4
    obtain ⟨d3, e3, e⟩ := Option.bind_eq_some_iff.mp e
    obtain ⟨d4, e4, e⟩ := Option.bind_eq_some_iff.mp e
    obtain ⟨r', e5, rfl⟩ := Option.map_eq_some_iff.mp e
    exact ⟨m4, S4, d3, d4, r', ok4, ok4.peek (ru.mono f4) e3, ok4.peek rw e4, e5, q H4 ok4 .refl _ (.bl r')⟩
theorem pt_cmp2 (o p : Cm) (hu : X.A.units + 65 < cLine) (ha : PE X a (tD X.K W ga)) (hb : PE X b (tD X.K W gb)) (hc : PE X c (tD X.K W gc))
    (hm : lastMarks [cmOf o, cmOf p] [b, c] = false) : PT X (.Compare a [cmOf o, cmOf p] [b, c] pos) (tDT X.K W fun ρ S => tru (cmp2R o p ga gb gc ρ S)) := by
  refine PT_imp (pt_chain (or_cmp o hu) (or_cmp p hu) ha hb hc hm) fun σ H Q ⟨m, S, ρ, ok, re, h⟩ => ?_
  simp only [tru, cmp2R, R.bind_assoc] at h
  refine tD_bind ok re h fun x v S1 H1 m1 ok1 re1 f1 rv h1 => ?_
  refine tD_bind ok1 re1 h1 fun y u S2 H2 m2 ok2 re2 f2 ru h2 => ?_
  obtain ⟨k, e, q⟩ := Run.opt_bind h2
  obtain ⟨d, e1, e⟩ := Option.bind_eq_some_iff.mp e
  obtain ⟨d2, e2, e⟩ := Option.bind_eq_some_iff.mp e
  refine ⟨m2, S2, d, d2, k, ok2, ok2.peek (rv.mono f2) e1, ok2.peek ru e2, e, k, rfl, ?_⟩
  cases k with
  | false => exact ⟨_, rfl, q H2 m2 ok2 .refl⟩
  | true =>
    simp only [if_true, R.bind_assoc] at q
    refine tD_bind ok2 re2 q fun z w S4 H4 m4 ok4 re4 f4 rw h4 => ?_
    obtain ⟨r, e, q⟩ := Run.opt_bind h4
    obtain ⟨d3, e3, e⟩ := Option.bind_eq_some_iff.mp e
    obtain ⟨d4, e4, e⟩ := Option.bind_eq_some_iff.mp e
    obtain ⟨r', e5, rfl⟩ := Option.map_eq_some_iff.mp e
    exact ⟨m4, S4, d3, d4, r', ok4, ok4.peek (ru.mono f4) e3, ok4.peek rw e4, e5, _, rfl, q H4 m4 ok4 .refl⟩
/-- truth of a plain expression -/
theorem pt_D (ha : PE X a (tD X.K W ga)) (he : ∀ whole, isTrue a X.env whole = (do let v ← whole; standAt a.pos; holding [v] (truthy v))) : PT X a (tDT X.K W fun ρ S => tru (ga ρ S)) := by
  refine PT_imp (pt_truth ha he) fun σ H Q ⟨m, S, ρ, ok, re, h⟩ => ?_
  refine tD_bind ok re h fun x v S1 H1 m1 ok1 re1 f1 rv h1 => ?_
  obtain ⟨k, e, q⟩ := Run.opt h1 ok1
  obtain ⟨d, e1, e⟩ := Option.bind_eq_some_iff.mp e
  exact ⟨k, tru_v (ok1.peek rv e1) e, q H1 ok1 .refl⟩
theorem pd_ife {t : Ev → St' → R Bool} (hc : PT X c (tDT X.K W t)) (ha : PE X a (tD X.K W ga)) (hb : PE X b (tD X.K W gb)) : PE X (.IfExp c a b pos) (tD X.K W fun ρ S => (t ρ S).bind fun k S1 => if k then ga ρ S1 else gb ρ S1) := by
  refine PE_imp (pe_ifExp hc ha hb) fun σ H Q ⟨m, S, ρ, ok, re, h⟩ => ?_
  refine tDT_bind ok re h fun k S1 H1 m1 ok1 re1 f1 h1 => ?_
  cases k with
  | true => exact ⟨m1, S1, ρ, ok1, re1, h1⟩
  | false => exact ⟨m1, S1, ρ, ok1, re1, h1⟩
theorem pd_not {t : Ev → St' → R Bool} (ha : PE X a (tD X.K W ga)) : PE X (.UnaryOp .Not a pos) (tD X.K W fun ρ S => (tru (ga ρ S)).bind fun k S1 => .ok (.t (.bl (!k))) S1) := by
  refine PE_imp (pe_notT ha) fun σ H Q ⟨m, S, ρ, ok, re, h⟩ => ?_
  simp only [tru, R.bind_assoc] at h
  refine tD_bind ok re h fun x v S1 H1 m1 ok1 re1 f1 rv h1 => ?_
  obtain ⟨k, e, q⟩ := Run.opt_bind h1
  obtain ⟨d, e1, e⟩ := Option.bind_eq_some_iff.mp e
  exact ⟨k, tru_v (ok1.peek rv e1) e, q H1 m1 ok1 .refl _ (.bl _)⟩
theorem pt_notD {t : Ev → St' → R Bool} (ha : PT X a (tDT X.K W t)) : PT X (.UnaryOp .Not a pos) (tDT X.K W fun ρ S => (t ρ S).bind fun k S1 => .ok (!k) S1) := by
  refine PT_imp (pt_not ha) fun σ H Q ⟨m, S, ρ, ok, re, h⟩ => ?_
  exact tDT_bind ok re h fun k S1 H1 m1 ok1 re1 f1 h1 => h1 H1 m1 ok1 .refl
variable {rest : List Expr}
theorem pd_and (ha : PE X a (tD X.K W ga)) (hb : PE X (.BoolOp .And (b :: rest) pos) (tD X.K W gb)) : PE X (.BoolOp .And (a :: b :: rest) pos) (tD X.K W fun ρ S => (ga ρ S).bind fun x S1 => (R.opt ((peek S1 x).bind truD) S1).bind fun k S2 => if k then gb ρ S2 else .ok x S2) := by
  refine PE_imp (pe_andT ha hb) fun σ H Q ⟨m, S, ρ, ok, re, h⟩ => ?_
  refine tD_bind ok re h fun x v S1 H1 m1 ok1 re1 f1 rv h1 => ?_
  obtain ⟨k, e, q⟩ := Run.opt_bind h1
  obtain ⟨d, e1, e⟩ := Option.bind_eq_some_iff.mp e
  refine ⟨k, tru_v (ok1.peek rv e1) e, ?_⟩
  cases k with
  | true => exact ⟨m1, S1, ρ, ok1, re1, q⟩
  | false => exact q H1 m1 ok1 .refl v rv
theorem pd_or (ha : PE X a (tD X.K W ga)) (hb : PE X (.BoolOp .Or (b :: rest) pos) (tD X.K W gb)) : PE X (.BoolOp .Or (a :: b :: rest) pos) (tD X.K W fun ρ S => (ga ρ S).bind fun x S1 => (R.opt ((peek S1 x).bind truD) S1).bind fun k S2 => if k then .ok x S2 else gb ρ S2) := by
  refine PE_imp (pe_orT ha hb) fun σ H Q ⟨m, S, ρ, ok, re, h⟩ => ?_
  refine tD_bind ok re h fun x v S1 H1 m1 ok1 re1 f1 rv h1 => ?_
  obtain ⟨k, e, q⟩ := Run.opt_bind h1
  obtain ⟨d, e1, e⟩ := Option.bind_eq_some_iff.mp e
  refine ⟨k, tru_v (ok1.peek rv e1) e, ?_⟩
  cases k with
  | true => exact q H1 m1 ok1 .refl v rv
  | false => exact ⟨m1, S1, ρ, ok1, re1, q⟩
theorem pd_idx (hs : PlainIx b) (ha : PE X a (tD X.K W ga)) (hb : PE X b (tD X.K W gb)) : PE X (.Subscript a b pos) (tD X.K W fun ρ S => (ga ρ S).bind fun x S1 => (gb ρ S1).bind fun y S2 =>
      R.opt ((peek S2 x).bind fun d => (peek S2 y).bind fun e => (idxD d e).map .t) S2) := by
  refine PE_imp (pe_ix ix_D ha hb hs) fun σ H Q ⟨m, S, ρ, ok, re, h⟩ => ?_
  refine tD_bind ok re h fun x v S1 H1 m1 ok1 re1 f1 rv h1 => ?_
  refine tD_bind ok1 re1 h1 fun y u S2 H2 m2 ok2 re2 f2 ru h2 => ?_
  obtain ⟨r, e, q⟩ := Run.opt h2 ok2
  obtain ⟨d, e1, e⟩ := Option.bind_eq_some_iff.mp e
  obtain ⟨d2, e2, e⟩ := Option.bind_eq_some_iff.mp e
  obtain ⟨r', e3, rfl⟩ := Option.map_eq_some_iff.mp e
  exact ⟨m2, S2, d, d2, r', ok2, ok2.peek (rv.mono f2) e1, ok2.peek ru e2, e3, fun H' w ok' f' hw => q H' ok' f' w hw⟩
theorem po_D0 : PO X none (tDO X.K W fun _ S => .ok none S) := PO_imp po_none fun σ H Q ⟨m, S, ρ, ok, re, h⟩ => h H m ok .refl
theorem po_D (ha : PE X a (tD X.K W ga)) : PO X (some a) (tDO X.K W fun ρ S => (ga ρ S).bind fun v S1 => match v with
    | .t (.int i) => .ok (some i) S1
    | _ => .bad) := by
  refine PO_imp (po_some ha) fun σ H Q ⟨m, S, ρ, ok, re, h⟩ => ?_
  refine tD_bind ok re h fun x v S1 H1 m1 ok1 re1 f1 rv h1 => ?_
  cases x with
  | t d =>
    cases d with
    | int i => exact ⟨i, RepS.int rv, h1 H1 m1 ok1 .refl⟩
    | _ => exact h1.elim
  | _ => exact h1.elim
theorem pd_slc {lo hi : Option Expr} {gl gh : Ev → St' → R (Option Int)} {p2 : Pos} (ha : PE X a (tD X.K W ga)) (hl : PO X lo (tDO X.K W gl)) (hh : PO X hi (tDO X.K W gh)) : PE X (.Subscript a (.Slice lo hi none p2) pos) (tD X.K W fun ρ S => (ga ρ S).bind fun x S1 => (gl ρ S1).bind fun l S2 => (gh ρ S2).bind fun h S3 =>
      R.opt ((peek S3 x).bind fun d => (slcD d l h).map .t) S3) := by
  refine PE_imp (pe_slice sl_D ha hl hh) fun σ H Q ⟨m, S, ρ, ok, re, h⟩ => ?_
  refine tD_bind ok re h fun x v S1 H1 m1 ok1 re1 f1 rv h1 => ?_
  refine tDO_bind ok1 re1 h1 fun l S2 H2 m2 ok2 re2 f2 h2 => ?_
  refine tDO_bind ok2 re2 h2 fun u S3 H3 m3 ok3 re3 f3 h3 => ?_
  obtain ⟨r, e, q⟩ := Run.opt h3 ok3
  obtain ⟨d, e1, e⟩ := Option.bind_eq_some_iff.mp e
  obtain ⟨r', e3, rfl⟩ := Option.map_eq_some_iff.mp e
  exact ⟨m3, S3, d, r', ok3, ok3.peek ((rv.mono f2).mono f3) e1, e3, fun H' w ok' f' hw => q H' ok' f' w hw⟩
/-! ### arguments, displays -/
variable {es : List Expr} {gs : Ev → St' → R (List SV)}
theorem pa_D0 : PA X [] (tDA X.K W fun _ S => .ok [] S) := PA_imp pa_nil fun σ H Q ⟨m, S, ρ, ok, re, h⟩ => h H m ok .refl [] .nil
theorem pa_D (ha : PE X a (tD X.K W ga)) (hs : PA X es (tDA X.K W gs)) (hst : starEach (a :: es) X.env = (false, eval a X.env) :: starEach es X.env) : PA X (a :: es) (tDA X.K W fun ρ S => (ga ρ S).bind fun v S1 => (gs ρ S1).bind fun vs S2 => .ok (v :: vs) S2) := by
  refine PA_imp (pa_cons ha hs hst) fun σ H Q ⟨m, S, ρ, ok, re, h⟩ => ?_
  refine tD_bind ok re h fun x v S1 H1 m1 ok1 re1 f1 rv h1 => ?_
  exact tDA_bind ok1 re1 h1 fun xs vs S2 H2 m2 ok2 re2 f2 rvs h2 => h2 H2 m2 ok2 .refl _ (.cons (rv.mono f2) rvs)
theorem pd_tup {k : Nat} (hs : PA X es (tDA X.K W gs)) : PE X (.Tuple es k pos) (tD X.K W fun ρ S => (gs ρ S).bind fun vs S1 => match grabs S1 vs with
    | some (ds, S2) => if ds.length ≤ sizeLine then .ok (.t (.tup ds)) S2 else .bad
    | none => .bad) := by
  refine PE_imp (pe_tupZ hs) fun σ H Q ⟨m, S, ρ, ok, re, h⟩ => ?_
  refine tDA_bind ok re h fun xs vs S1 H1 m1 ok1 re1 f1 rvs h1 => ?_
  split at h1
  · rename_i ds S2 hg
    obtain ⟨ok2, f2, r2⟩ := ok1.grabs rvs hg
    split at h1
    · rename_i hz
      refine ⟨by rw [r2.length]; exact hz, fun p o hp hc hd => ?_⟩
      exact h1 _ m1 (ok2.laid hp _).1 (f2.trans (ok2.laid hp _).2) _ (rep_tup_new ok2 hp hc hd r2)
    · exact h1.elim
  · exact h1.elim
theorem pd_lstL (hs : PA X es (tDA X.K W gs)) : PE X (.List es pos) (tDL X.K W fun ρ S => (gs ρ S).bind fun vs S1 => match grabs S1 vs with
    | some (ds, S2) => if ds.length ≤ sizeLine then .ok ds S2 else .bad
    | none => .bad) := by
  refine PE_imp (pe_lst hs) fun σ H Q ⟨m, S, ρ, ok, re, h⟩ => ?_
  refine ⟨m, S, ρ, ok, re, h.bind fun xs S1 H1 m1 ok1 f1 h1 vs rvs => ?_⟩
  split at h1
  · rename_i ds S2 hg
    obtain ⟨ok2, f2, r2⟩ := ok1.grabs rvs hg
    split at h1
    · rename_i hz
      refine ⟨by rw [r2.length]; exact hz, fun p hp => ?_⟩
      obtain ⟨ok3, f3⟩ := ok2.push hp r2
      exact h1 _ m1 p ok3 (f2.trans f3) (List.prefix_refl _)
    · exact h1.elim
  · exact h1.elim
/-- a new list as data -/
theorem pd_of_L {g : Ev → St' → R (List D)} (h : PE X a (tDL X.K W g)) : PE X a (tD X.K W fun ρ S => (g ρ S).bind fun xs S1 => .ok (.t (.lst xs)) S1) := by
  refine PE_imp h fun σ H Q ⟨m, S, ρ, ok, re, h⟩ => ⟨m, S, ρ, ok, re, ?_⟩
  dsimp only at h
  revert h
  cases g ρ S with
  | ok xs S' =>
    intro h H' m' p ok' f' hp
    exact h H' m' ok'.pop.1 (f'.pop ok' hp) _ ok'.pop.2.2
  | exc c p S' => exact id
  | bad => exact id
end
end M

/-! calls -/
namespace M
open PySem PySem.Spec PyProof.Rows L2

/-- how an exception stands: its class, its own dict -/
abbrev XR := Nat → List D → Value → Option Addr → Hp → List Addr → St' → Prop
def wOf (xr : XR) (Wx : WX) : WS := fun σ c p H m S => ∀ cls d, xr c p cls d H m S → Wx cls d σ H
/-- a call's end: as many objects as ahead -/
def RunC (K : PySem.W.Frag) (xr : XR) (Q : VK) (E : XK) (H : Hp) (m : List Addr) (S : St') : R SV → Prop
  | .ok d S' => ∀ H' v, StOk K H' m S' → Fr H m S H' m S' → RepS K H' m S' v d → Q v H'
  | .exc c p S' => ∀ H' cls d, StOk K H' m S' → Fr H m S H' m S' → xr c p cls d H' m S' → E cls d H'
  | .bad => False
/-- the promise of a def that comes to g -/
def spOf (K : PySem.W.Frag) (xr : XR) (n : Nat) (g : List SV → St' → R SV) : Sp := fun vs H Q E => vs.length = n ∧ ∃ m S ds, StOk K H m S ∧ RepSs K H m S vs ds ∧ RunC K xr Q E H m S (g ds S)

def noStar : Expr → Bool
  | .Starred _ _ => false
  | _ => true
theorem star_cons {env : Env} {e : Expr} {es : List Expr} (h : noStar e = true) : starEach (e :: es) env = (false, eval e env) :: starEach es env := by
  cases e <;> first
    | (exfalso; cases h; done)
    | (rw [starEach]; intro _ _ z; cases z)
theorem star_map (env : Env) : ∀ {es : List Expr}, es.all noStar = true → starEach es env = es.map fun e => (false, eval e env)
  | [], _ => by rw [starEach]; rfl
  | e :: es, h => by
    rw [List.all_cons, Bool.and_eq_true] at h
    rw [star_cons h.1, star_map env h.2]; rfl
theorem star_any {env : Env} {cpos : Pos} {es : List Expr} (h : es.all noStar = true) : (backTo cpos (starEach es env)).any (·.1) = false := by
  rw [star_map env h]
  simp [backTo, List.any_map]
theorem star_all {env : Env} {cpos : Pos} {es : List Expr} (h : es.all noStar = true) : (backTo cpos (starEach es env)).all (fun x => !x.1) = true := by
  rw [star_map env h]
  simp [backTo, List.all_map]
theorem few {env : Env} {cpos : Pos} {e : Expr} {es : List Expr} (h : (e :: es).all noStar = true) (hl : es.length < 20) : ((backTo cpos (starEach (e :: es) env)).all (fun x => !x.1) && (backToKw cpos (keywordEach [] env)).all (fun x => x.1.isSome)
      && decide ((e :: es).length + ([] : List Keyword).length + (if ([] : List Keyword).isEmpty then 0 else 1) < 30)) = true := by
  rw [star_all h, keywordEach]
  simp [backToKw]
  omega

section
variable {X : Cx} {W : WS} {a b c : Expr} {ga gb gc : Ev → St' → R SV} {pos p apos : Pos} {es : List Expr} {gs : Ev → St' → R (List SV)} {x : Str}
/-- a built-in by its name -/
theorem ce_bi (bi : Bi) (hc : X.calm = true) (hu : X.A.units + 70 < cLine) (hg : Gl X x) (hm : X.mg x = none) (hv : bootBuiltins x = some (bval bi)) (hn : x ≠ "__name__") (hdb : (x == ("__debug__" : Str)) = false)
    (ha : PA X (a :: es) (tDA X.K W gs)) (hst : (a :: es).all noStar = true) :
    PE X (.Call (.Name x p) (a :: es) [] pos) (tD X.K W fun ρ S => (gs ρ S).bind fun vs S1 => R.opt ((peeks S1 vs).bind fun ds => (biD bi ds).map .t) S1) := by
  have hst' := hst
  rw [List.all_cons, Bool.and_eq_true] at hst'
  have key : PE X (.Call (.Name x p) (a :: es) [] pos) (tCB (rBi X.K bi) (tDA X.K W gs)) := by
    cases bi <;> first
      | exact pe_callB (call_bi _ hc hu) hg hm hv ha hn hdb (star_cons hst'.1) (star_any hst'.2)
      | exact pe_callTy (call_bi _ hc hu) hg hm hv ha hn hdb (star_cons hst'.1) (star_any hst'.2)
  refine PE_imp key fun σ H Q ⟨m, S, ρ, ok, re, h⟩ => ?_
  refine tDA_bind ok re h fun xs vs S1 H1 m1 ok1 re1 f1 rvs h1 => ?_
  obtain ⟨r, e, q⟩ := Run.opt h1 ok1
  obtain ⟨ds, e1, e⟩ := Option.bind_eq_some_iff.mp e
  obtain ⟨r', e3, rfl⟩ := Option.map_eq_some_iff.mp e
  exact ⟨m1, S1, ds, r', ok1, ok1.peeks rvs e1, e3, fun H' w ok' f' hw => q H' ok' f' w hw⟩
/-- isinstance(a, T) -/
theorem ce_isi (t : Ty) {tx : Str} {p2 : Pos} (hg : Gl X "isinstance") (hm : X.mg "isinstance" = none) (hgt : Gl X tx) (hmt : X.mg tx = none) (hvt : bootBuiltins tx = some (.type (tyN t))) (hnt : tx ≠ "__name__") (hdt : (tx == ("__debug__" : Str)) = false)
    (ha : PE X a (tD X.K W ga)) (hst : noStar a = true) :
    PE X (.Call (.Name "isinstance" p) [a, .Name tx p2] [] pos) (tD X.K W fun ρ S => (ga ρ S).bind fun x S1 => R.opt ((peek S1 x).map fun d => .t (.bl (isiD d t))) S1) := by
  refine PE_imp (pe_callB (call_isD t) hg hm boot_isinstance (pa_cons ha (pa_cons (pe_bltn (v := .ty (tyN t)) hgt hmt hvt rfl hnt hdt) pa_nil (star_cons rfl)) (star_cons hst)) (by decide) (by decide) (star_cons hst) (star_any rfl)) fun σ H Q ⟨m, S, ρ, ok, re, h⟩ => ?_
  refine tD_bind ok re h fun x v S1 H1 m1 ok1 re1 f1 rv h1 => ?_
  obtain ⟨r, e, q⟩ := Run.opt h1 ok1
  obtain ⟨d, e1, rfl⟩ := Option.map_eq_some_iff.mp e
  exact ⟨m1, S1, v, d, rfl, ok1, ok1.peek rv e1, q H1 ok1 .refl _ (.bl _)⟩
/-- the types of a tuple of names -/
structure TysOk (X : Cx) (ts : List Ty) (es : List Expr) : Prop where
  run : PA X es (fun _ H Q => Q (ts.map fun t => V.ty (tyN t)) H)
  st : es.all noStar = true
theorem tys_nil : TysOk X [] [] := ⟨pa_nil, rfl⟩
theorem tys_cons {t : Ty} {ts : List Ty} {es : List Expr} {tx : Str} {p2 : Pos} (hgt : Gl X tx) (hmt : X.mg tx = none) (hvt : bootBuiltins tx = some (.type (tyN t))) (hnt : tx ≠ "__name__") (hdt : (tx == ("__debug__" : Str)) = false) (h : TysOk X ts es) : TysOk X (t :: ts) (.Name tx p2 :: es) :=
  ⟨PA_imp (pa_cons (pe_bltn (v := .ty (tyN t)) hgt hmt hvt rfl hnt hdt) h.run (star_cons rfl)) fun σ H Q h => h, by rw [List.all_cons, h.st]; rfl⟩
theorem ce_isit (ts : List Ty) {tes : List Expr} {k : Nat} {p2 : Pos} (hg : Gl X "isinstance") (hm : X.mg "isinstance" = none) (ht : TysOk X ts tes) (hl : ts.length ≤ 20)
    (ha : PE X a (tD X.K W ga)) (hst : noStar a = true) :
    PE X (.Call (.Name "isinstance" p) [a, .Tuple tes k p2] [] pos) (tD X.K W fun ρ S => (ga ρ S).bind fun x S1 => R.opt ((peek S1 x).map fun d => .t (.bl (ts.any fun t => isiD d t))) S1) := by
  refine PE_imp (pe_callB (call_isDs ts) hg hm boot_isinstance (pa_cons ha (pa_cons (pe_tup ht.run) pa_nil (star_cons rfl)) (star_cons hst)) (by decide) (by decide) (star_cons hst) (star_any rfl)) fun σ H Q ⟨m, S, ρ, ok, re, h⟩ => ?_
  refine tD_bind ok re h fun x v S1 H1 m1 ok1 re1 f1 rv h1 => ?_
  obtain ⟨r, e, q⟩ := Run.opt h1 ok1
  obtain ⟨d, e1, rfl⟩ := Option.map_eq_some_iff.mp e
  refine ⟨by rw [List.length_map]; exact Nat.le_trans hl (by decide), fun tp htp => ?_⟩
  have l := ok1.laid htp (.tup (ts.map fun t => V.ty (tyN t)))
  refine ⟨m1, S1, v, d, tp, rfl, upd_same, l.1, ?_, q _ l.1 l.2 _ (.bl _)⟩
  exact l.1.peek (rv.mono l.2) e1
/-- a method of a built-in type -/
theorem ce_mth (k : Mt) {name : Str} (hu : X.A.units + 65 < cLine) (pa : PlainAttrs (mty k)) (slot : Slot (mty k) name (mid k)) (hty : typeOf (.builtin (mid k)) = pure (.type "method_descriptor"))
    (ho : PE X a (tD X.K W ga)) (ha : PA X (b :: es) (tDA X.K W gs)) (hst : (b :: es).all noStar = true) (hl : es.length < 20)
    (hbase : attributeBase a name X.env (eval a X.env) = eval a X.env) (hline : (apos.endLine == pos.line) = true) :
    PE X (.Call (.Attribute a name apos) (b :: es) [] pos) (tD X.K W fun ρ S => (ga ρ S).bind fun x S1 => if ((peek S1 x).map (mtOk k)).getD false = false then .bad else (gs ρ S1).bind fun vs S2 =>
      R.opt ((peek S2 x).bind fun d => (peeks S2 vs).bind fun ds => (mthD k d ds).map .t) S2) := by
  have hst' := hst
  rw [List.all_cons, Bool.and_eq_true] at hst'
  refine PE_imp (pe_bmZ pa slot hty (mt_D k hu) ho ha hbase (few hst hl) hline (star_cons hst'.1) (star_any hst'.2)) fun σ H Q ⟨m, S, ρ, ok, re, h⟩ => ?_
  refine tD_bind ok re h fun x v S1 H1 m1 ok1 re1 f1 rv h1 => ?_
  split at h1
  · exact h1.elim
  · rename_i hk
    have hk : ((peek S1 x).map (mtOk k)).getD false = true := by simpa using hk
    cases e0 : peek S1 x with
    | none => rw [e0] at hk; cases hk
    | some d0 =>
    rw [e0] at hk
    refine ⟨ty_mt (ok1.peek rv e0) hk, ?_⟩
    refine tDA_bind ok1 re1 h1 fun xs vs S2 H2 m2 ok2 re2 f2 rvs h2 => ?_
    obtain ⟨r, e, q⟩ := Run.opt h2 ok2
    obtain ⟨d, e1, e⟩ := Option.bind_eq_some_iff.mp e
    obtain ⟨ds, e2, e⟩ := Option.bind_eq_some_iff.mp e
    obtain ⟨r', e3, rfl⟩ := Option.map_eq_some_iff.mp e
    exact ⟨m2, S2, d, ds, r', ok2, ok2.peek (rv.mono f2) e1, ok2.peeks rvs e2, e3, fun H' w ok' f' hw => q H' ok' f' w hw⟩
theorem attr_plain {env : Env} {o : Expr} {f : Str} (h : (match o with | .Call (.Name _ _) [] [] _ => false | _ => true) = true) : attributeBase o f env (eval o env) = eval o env := by
  unfold attributeBase
  split
  · exact absurd h (by simp)
  · rfl
/-- a def of the module -/
theorem ce_call {xr : XR} {Wx : WX} (tk : Takes X Wx) {k : Nat} {f : Addr} {fd : FuncData} {ps : List Str} {g : List SV → St' → R SV} (F : FnOk X.prog X.w X.K X.mg X.base (L2.CX X.prog X.w) k f fd ps (spOf X.K xr ps.length g)) (hl : ∀ ds S, g ds S ≠ .bad → ds.length = ps.length)
    (hr : Room k X.A) (hg : Gl X x) (hm : X.mg x = some (.ref f)) (hk : PySem.W.keepIn X.K (.ref f) = true) (hb : Binds X.K fd ps []) (hdb : (x == ("__debug__" : Str)) = false)
    (ha : PA X (a :: es) (tDA X.K (wOf xr Wx) gs)) (hst : (a :: es).all noStar = true) :
    PE X (.Call (.Name x p) (a :: es) [] pos) (tD X.K (wOf xr Wx) fun ρ S => (gs ρ S).bind fun vs S1 => g vs S1) := by
  have hst' := hst
  rw [List.all_cons, Bool.and_eq_true] at hst'
  refine PE_imp (pe_callS F hr hg hm hk hb (fun σ => passAt tk σ) ha hdb (star_cons hst'.1) (star_any hst'.2)) fun σ H Q ⟨m, S, ρ, ok, re, h⟩ => ?_
  refine tDA_bind ok re h fun xs vs S1 H1 m1 ok1 re1 f1 rvs h1 => ?_
  refine ⟨?_, m1, S1, xs, ok1, rvs, ?_⟩
  · rw [rvs.length]
    refine hl xs S1 fun z => ?_
    rw [z] at h1; exact h1
  · revert h1
    cases g xs S1 with
    | ok d S' => exact fun h1 H' v ok' f' rv => h1 H' m1 ok' f' v rv
    | exc c p S' => exact fun h1 H' cls d ok' f' hx => h1 H' m1 ok' f' cls d hx
    | bad => exact fun h1 => h1
end
end M

/-! len(set(xs)), sorted(set(xs)) of texts -/
namespace M
open PySem PySem.Spec PyProof.Rows L2
theorem dset_snoc {α : Type} [DecidableEq α] (xs : List α) (x : α) : dset (xs ++ [x]) = if x ∈ dset xs then dset xs else dset xs ++ [x] := by
  unfold dset; rw [List.foldl_append]; rfl
theorem dset_mem {α : Type} [DecidableEq α] (x : α) (xs : List α) : x ∈ dset xs ↔ x ∈ xs := by
  suffices h : ∀ (n : Nat) (xs : List α), xs.length = n → (x ∈ dset xs ↔ x ∈ xs) from h _ xs rfl
  intro n
  induction n with
  | zero => intro xs hl; cases xs with
    | nil => simp [dset]
    | cons => simp at hl
  | succ n ih =>
    intro xs hl
    obtain ⟨ys, y, rfl⟩ : ∃ ys y, xs = ys ++ [y] := ⟨xs.dropLast, xs.getLast (by intro e; rw [e] at hl; simp at hl), (List.dropLast_concat_getLast _).symm⟩
    have := ih ys (by simpa using hl)
    rw [dset_snoc]
    split
    · rename_i hy
      rw [this, List.mem_append, List.mem_singleton]
      constructor
      · exact .inl
      · rintro (h | rfl)
        · exact h
        · exact this.mp hy
    · rw [List.mem_append, this, List.mem_append]
theorem dset_len {α : Type} [DecidableEq α] (xs : List α) (x : α) : (dset (xs ++ [x])).length = if x ∈ xs then (dset xs).length else (dset xs).length + 1 := by
  rw [dset_snoc]
  by_cases h : x ∈ xs
  · rw [if_pos ((dset_mem x xs).mpr h), if_pos h]
  · rw [if_neg fun z => h ((dset_mem x xs).mp z), if_neg h, List.length_append]; rfl
theorem dset_le {α : Type} [DecidableEq α] : ∀ (n : Nat) (xs : List α), xs.length = n → (dset xs).length ≤ n := by
  intro n
  induction n with
  | zero => intro xs hl; cases xs with
    | nil => simp [dset]
    | cons => simp at hl
  | succ n ih =>
    intro xs hl
    obtain ⟨ys, y, rfl⟩ : ∃ ys y, xs = ys ++ [y] := ⟨xs.dropLast, xs.getLast (by intro e; rw [e] at hl; simp at hl), (List.dropLast_concat_getLast _).symm⟩
    have := ih ys (by simpa using hl)
    rw [dset_len]
    split <;> omega
theorem dset_nodup {α : Type} [DecidableEq α] (xs : List α) : (dset xs).Nodup := by
  suffices h : ∀ (n : Nat) (xs : List α), xs.length = n → (dset xs).Nodup from h _ xs rfl
  intro n
  induction n with
  | zero => intro xs hl; cases xs with
    | nil => simp [dset]
    | cons => simp at hl
  | succ n ih =>
    intro xs hl
    obtain ⟨ys, y, rfl⟩ : ∃ ys y, xs = ys ++ [y] := ⟨xs.dropLast, xs.getLast (by intro e; rw [e] at hl; simp at hl), (List.dropLast_concat_getLast _).symm⟩
    have := ih ys (by simpa using hl)
    rw [dset_snoc]
    split
    · exact this
    · rename_i hy
      rw [List.nodup_append]
      exact ⟨this, by simp, fun a ha b hb => by rw [List.mem_singleton.mp hb]; exact fun e => hy (e ▸ ha)⟩
theorem grow_mem (x : Str) : ∀ (xs l : List Str), x ∈ xs.foldl grow l ↔ x ∈ l ∨ x ∈ xs
  | [], l => by simp
  | y :: xs, l => by
    rw [List.foldl_cons, grow_mem x xs, List.mem_cons]
    unfold grow
    split
    · rename_i hy
      exact ⟨fun z => z.elim .inl fun z => .inr (.inr z), fun z => z.elim .inl fun z => z.elim (fun e => .inl (e ▸ hy)) .inr⟩
    · rw [List.mem_cons]
      exact ⟨fun z => z.elim (fun z => z.elim (fun e => .inr (.inl e)) .inl) fun z => .inr (.inr z), fun z => z.elim (fun z => .inl (.inr z)) fun z => z.elim (fun e => .inl (.inl e)) .inr⟩
theorem grow_perm {xs : List Str} (h : (xs.foldl grow []).Nodup) : (xs.foldl grow []).Perm (dset xs) :=
  (List.perm_ext_iff_of_nodup h (dset_nodup xs)).mpr fun k => by rw [dset_mem, grow_mem]; simp
theorem asStrs_vs {K : PySem.W.Frag} {H : Hp} {N : Addr → Prop} : ∀ {xs : List D} {ks : List Str} {vs : List V}, asStrs xs = some ks → Reps K H N vs xs → vs = ks.map V.str
  | [], _, _, e, .nil => by cases e; rfl
  | .str i :: r, ks, _, e, .cons q t => by
    obtain ⟨ks', e1, rfl⟩ := Option.map_eq_some_iff.mp e
    cases q
    rw [asStrs_vs e1 t]; rfl
  | .int _ :: _, _, _, e, _ => by cases e
  | .non :: _, _, _, e, _ => by cases e
  | .bl _ :: _, _, _, e, _ => by cases e
  | .tup _ :: _, _, _, e, _ => by cases e
  | .lst _ :: _, _, _, e, _ => by cases e
/-- outer(set(a)) -/
theorem pd_setof {X : Cx} {W : WS} {a : Expr} {ga : Ev → St' → R SV} {p p2 q pos : Pos} {nm : Str} {fn : String} {g : D → Option D} {F : List Str → D} (hn1 : nm ≠ "__name__") (hn2 : (nm == ("__debug__" : Str)) = false) (hc : X.calm = true) (hg : Gl X nm) (hm : X.mg nm = none) (hb : bootBuiltins nm = some (.builtin fn)) (hg2 : Gl X "set") (hm2 : X.mg "set" = none) (hst : noStar a = true) (ha : PE X a (tD X.K W ga))
    (hgd : ∀ d, g d = (sqOf d).bind fun xs => (asStrs xs).bind fun ks => if ks.length + 1 < scanBound then some (F ks) else none)
    (hout : ∀ pins s σ H (Q : VK) m S b ks, Inv X pins σ H s → StOk X.K H m S → TxS X.prog X.w s.heap b (ks.foldl grow []) → ks.length + 1 < scanBound → Fol X.K H m S (F ks) Q → wpAny (model X.prog X.w) X.A (call (.builtin fn) [.ref b]) (EP X pins σ Q) X.xe s) :
    PE X (.Call (.Name nm p) [.Call (.Name "set" p2) [a] [] q] [] pos) (tD X.K W fun ρ S => (ga ρ S).bind fun x S1 => R.opt (((peek S1 x).bind g).map .t) S1) := by
  refine ⟨fun pins s σ H Q I hw => ?_⟩
  refine Call_ (ld_blt (hn := hn1) (hd := hn2) I hg hm hb (PyProof.Rows.callWith_builtin1 (PyProof.Rows.args_cons ?_ rfl) rfl rfl))
  have na : starEach [a] X.env = (false, eval a X.env) :: starEach [] X.env := star_cons hst
  obtain ⟨m, S, ρ, ok, re, h⟩ := hw
  refine Call_ (ld_blt I hg2 hm2 boot_set (PyProof.Rows.callWith_type1 (PyProof.Rows.args_cons (thn (ha.run pins s σ H (fun x H1 => ∃ (l : Addr) (ks : List Str) (m1 : List Addr) (S1 : St'), x = .ref l ∧ (SqL X.K H1 l (ks.map V.str) ∨ SqT X.K H1 l (ks.map V.str)) ∧ ks.length + 1 < scanBound ∧ StOk X.K H1 m1 S1 ∧ Fol X.K H1 m1 S1 (F ks) Q) I ?_) fun v s1 ⟨x, H1, I1, r1, q1⟩ => PyProof.Rows.args_nil ?_) na) na rfl))
  · refine tD_bind ok re h fun x v S1 H1 m1 ok1 re1 f1 rv h1 => ?_
    obtain ⟨r, e, qq⟩ := Run.opt h1 ok1
    obtain ⟨r', e4, rfl⟩ := Option.map_eq_some_iff.mp e
    obtain ⟨d, e1, e5⟩ := Option.bind_eq_some_iff.mp e4
    rw [hgd] at e5
    obtain ⟨xs, e2, e6⟩ := Option.bind_eq_some_iff.mp e5
    obtain ⟨ks, e3, e7⟩ := Option.bind_eq_some_iff.mp e6
    split at e7
    · rename_i hb
      cases e7
      have pr := ok1.peek rv e1
      cases d <;> first | (cases e2; done) | skip
      · cases e2
        obtain ⟨l, vs, rfl, g1, g2⟩ := pr.tup
        cases asStrs_vs e3 g2
        exact ⟨l, ks, m1, S1, rfl, .inr g1, hb, ok1, fun H' v o f hv => qq H' o f v hv⟩
      · cases e2
        obtain ⟨l, vs, rfl, g1, g2⟩ := pr.lst
        cases asStrs_vs e3 g2
        exact ⟨l, ks, m1, S1, rfl, .inl (.inl g1), hb, ok1, fun H' v o f hv => qq H' o f v hv⟩
    · cases e7
  · obtain ⟨l, ks, m1, S1, rfl, hq, hb, ok1, q1⟩ := q1
    cases r1
    have fin : ∀ (h' : Heap) (tk : Nat), TxS X.prog X.w h' s1.heap.objs.size (ks.foldl grow []) → (∀ b o, s1.heap.get? b = some o → h'.get? b = some o) →
        wpAny (model X.prog X.w) X.A (spliced (backTo pos (starEach [] X.env))) (fun vs s₂ => wpAny (model X.prog X.w) X.A (call (.builtin fn) (Value.ref s1.heap.objs.size :: vs)) (EP X pins σ Q) X.xe s₂) X.xe { s1 with heap := h', toks := tk } := fun h' tk hS hk => by
      refine PyProof.Rows.args_nil ?_
      have I2 : Inv X pins σ H1 { s1 with heap := h', toks := tk } := I1.kept hk
      exact hout pins _ σ H1 Q m1 S1 _ ks I2 ok1 hS hb q1
    rcases hq with hq | hq
    · obtain ⟨its, r, pl, hz⟩ := I1.list hq
      exact mkset_list (I1.ok.hd hc) pl.isList (by simpa using r) hb fin
    · obtain ⟨its, r, pl, hz⟩ := I1.tuple hq
      exact mkset_tuple (I1.ok.hd hc) pl (by simpa using r) hb fin
theorem pd_lenset {X : Cx} {W : WS} {a : Expr} {ga : Ev → St' → R SV} {p p2 q pos : Pos} (hc : X.calm = true) (hg : Gl X "len") (hm : X.mg "len" = none) (hg2 : Gl X "set") (hm2 : X.mg "set" = none) (hst : noStar a = true) (ha : PE X a (tD X.K W ga)) :
    PE X (.Call (.Name "len" p) [.Call (.Name "set" p2) [a] [] q] [] pos) (tD X.K W fun ρ S => (ga ρ S).bind fun x S1 => R.opt (((peek S1 x).bind lensetD).map .t) S1) := by
  refine pd_setof (F := fun ks => .int ((dset ks).length : Nat)) (by decide) (by decide) hc hg hm boot_len hg2 hm2 hst ha (fun d => rfl) fun pins s σ H Q m S b ks I ok hS hb q => ?_
  obtain ⟨⟨D, at_, tx, -⟩, nd⟩ := hS
  have hn : D.1.size = (dset ks).length := tx.sz.trans (grow_perm nd).length_eq
  refine call_len_set at_ ⟨rfl, rfl, rfl⟩ rfl tx.fit ?_ ⟨.int ((dset ks).length : Nat), H, I.tok _, ⟨_, by rw [hn]⟩, q.here ok (.int _)⟩
  have := dset_le _ ks rfl
  unfold scanBound at hb
  omega
theorem dle_trans (a b c : D) (h1 : dle a b = true) (h2 : dle b c = true) : dle a c = true := by
  unfold dle dlt PySem.W.dataLt at *
  simp only [Bool.not_eq_true'] at *
  cases e : PyProof.Rows.lexLt itemOrd (PySem.W.keyToks (toPy c)) (PySem.W.keyToks (toPy a)) with
  | false => rfl
  | true =>
    rcases PyProof.Rows.lex_negTrans (O := itemOrd) _ (PySem.W.keyToks (toPy b)) _ e with z | z
    · rw [h2] at z; cases z
    · rw [h1] at z; cases z
theorem dle_total (a b : D) : (dle a b || dle b a) = true := by
  unfold dle dlt PySem.W.dataLt
  cases e : PyProof.Rows.lexLt itemOrd (PySem.W.keyToks (toPy b)) (PySem.W.keyToks (toPy a)) with
  | false => rfl
  | true =>
    cases e2 : PyProof.Rows.lexLt itemOrd (PySem.W.keyToks (toPy a)) (PySem.W.keyToks (toPy b)) with
    | false => rfl
    | true =>
      have := PyProof.Rows.lex_trans (O := itemOrd) _ _ _ e e2
      rw [PyProof.Rows.lex_irrefl] at this; cases this
theorem dle_toks (a b : D) (h1 : dle a b = true) (h2 : dle b a = true) : PySem.W.keyToks (toPy a) = PySem.W.keyToks (toPy b) := by
  unfold dle dlt PySem.W.dataLt at h1 h2
  simp only [Bool.not_eq_true'] at h1 h2
  exact PyProof.Rows.lex_total (O := itemOrd) _ _ h2 h1
theorem str_toks {a b : Str} (h : PySem.W.keyToks (toPy (.str a)) = PySem.W.keyToks (toPy (.str b))) : a = b := by
  simp [toPy, PySem.W.keyToks] at h
  exact PySem.W.str_of_cps (Array.toList_inj.mpr h)
theorem sort_strs {ys zs : List Str} (p : ys.Perm zs) : (ys.map D.str).mergeSort dle = (zs.map D.str).mergeSort dle := by
  have pp : ((ys.map D.str).mergeSort dle).Perm ((zs.map D.str).mergeSort dle) := (List.mergeSort_perm _ _).trans ((p.map D.str).trans (List.mergeSort_perm _ _).symm)
  refine List.Perm.eq_of_pairwise (le := fun a b => dle a b = true) (fun a b ha hb h1 h2 => ?_) (List.pairwise_mergeSort dle_trans dle_total _) (List.pairwise_mergeSort dle_trans dle_total _) pp
  obtain ⟨x, -, rfl⟩ := List.mem_map.mp (List.mem_mergeSort.mp ha)
  obtain ⟨y, -, rfl⟩ := List.mem_map.mp (List.mem_mergeSort.mp hb)
  rw [str_toks (dle_toks _ _ h1 h2)]
theorem eachOf {β : Type} {R : Value → β → Prop} {f : Value → β} : ∀ {vs : List Value}, (∀ v ∈ vs, R v (f v)) → PySem.W.EachIs R vs (vs.map f)
  | [], _ => .nil
  | v :: vs, h => .cons (h v List.mem_cons_self) (eachOf fun u hu => h u (List.mem_cons_of_mem _ hu))
theorem invMoved {X : Cx} {pins : List (Addr × Obj)} {σ : List (Option V)} {H : Hp} {s s1 : Shared} (I : Inv X pins σ H s) (k : ∀ b o, s.heap.get? b = some o → s1.heap.get? b = some o) (g : s1.gens = s.gens) (o : s1.os = s.os) : Inv X pins σ H s1 := by
  have I1 : Inv X pins σ H { s with heap := s1.heap, toks := s1.toks } := I.kept k
  exact ⟨I1.ok, o.trans I1.os, by rw [g]; exact I1.bare, I1.base, I1.loc, I1.cell, I1.free, I1.freeC, I1.pin, I1.hok, I1.len⟩
theorem cover_perm {α : Type} [DecidableEq α] : ∀ {l ts : List α}, l.Nodup → (∀ x ∈ l, x ∈ ts) → ts.length ≤ l.length → l.Perm ts
  | [], ts, _, _, h => by rw [List.length_eq_zero_iff.mp (Nat.le_zero.mp h)]
  | x :: l, ts, nd, sub, h => by
    obtain ⟨n1, n2⟩ := List.nodup_cons.mp nd
    have hx := sub x List.mem_cons_self
    have := cover_perm (l := l) (ts := ts.erase x) n2 (fun y hy => (List.mem_erase_of_ne (fun (e : y = x) => n1 (e ▸ hy))).mpr (sub y (List.mem_cons_of_mem _ hy))) (by rw [List.length_erase_of_mem hx]; simp at h; omega)
    exact (this.cons x).trans (List.perm_cons_erase hx).symm
/-- the text that a value is -/
def txV : Value → Str
  | .str x _ => x
  | _ => ""
theorem txs_vals {P : Program} {w : World} {D : Froz.SD} {l : List Str} (tx : Froz.TxOk P w D l) (nd : l.Nodup) {vs : List Value} (pm : vs.Perm (D.1.toList.map (·.2))) : (∀ v ∈ vs, ∃ t, v = .str (txV v) t) ∧ (vs.map txV).Perm l := by
  have sh : ∀ e ∈ D.1.toList, ∃ t, e.2 = .str (txV e.2) t := fun e he => by
    obtain ⟨⟨k, hk, -⟩, -⟩ := tx.el e he
    obtain ⟨t, ht⟩ := Value.isStrOf_shape (x := k) (v := e.2) hk
    exact ⟨t, by rw [ht]; rfl⟩
  have all : ∀ v ∈ vs, ∃ t, v = .str (txV v) t := fun v hv => by
    obtain ⟨e, he, rfl⟩ := List.mem_map.mp (pm.mem_iff.mp hv)
    exact sh e he
  refine ⟨all, ?_⟩
  have sub : ∀ k ∈ l, k ∈ vs.map txV := fun k hk => by
    obtain ⟨e, he, hk'⟩ := (tx.mem k).mp hk
    obtain ⟨t, ht⟩ := Value.isStrOf_shape (x := k) (v := e.2) hk'
    exact List.mem_map.mpr ⟨e.2, pm.mem_iff.mpr (List.mem_map.mpr ⟨e, he, rfl⟩), by rw [ht]; rfl⟩
  have len : (vs.map txV).length = l.length := by rw [List.length_map, pm.length_eq, List.length_map, Array.length_toList]; exact tx.sz
  exact (cover_perm nd sub (Nat.le_of_eq len)).symm
theorem pd_sortset {X : Cx} {W : WS} {a : Expr} {ga : Ev → St' → R SV} {p p2 q pos : Pos} (hu : X.A.units + 70 < cLine) (hc : X.calm = true) (hg : Gl X "sorted") (hm : X.mg "sorted" = none) (hg2 : Gl X "set") (hm2 : X.mg "set" = none) (hst : noStar a = true) (ha : PE X a (tD X.K W ga)) :
    PE X (.Call (.Name "sorted" p) [.Call (.Name "set" p2) [a] [] q] [] pos) (tD X.K W fun ρ S => (ga ρ S).bind fun x S1 => R.opt (((peek S1 x).bind sortsetD).map .t) S1) := by
  refine pd_setof (F := fun ks => .lst (((dset ks).map D.str).mergeSort dle)) (by decide) (by decide) hc hg hm PyProof.Rows.boot_sorted hg2 hm2 hst ha (fun d => rfl) fun pins s σ H Q m S b ks I ok hS hb q => ?_
  obtain ⟨⟨Dp, at_, tx, wk⟩, nd⟩ := hS
  have dl := dset_le _ ks rfl
  have small : Dp.1.size < scanBound := by rw [tx.sz, (grow_perm nd).length_eq]; omega
  refine Calls.call_function_entry PyProof.Rows.kind_sorted PyProof.Rows.plain_sorted PyProof.Rows.entry_sorted (PyProof.Rows.args_sorted1 _) ?_
  unfold Builtin.«sorted»
  refine wpAny_bind (wpAny_pure ?_)
  refine wpAny_bind (collect_set (A := X.A.in1) (es := Dp.1) (ep := Dp.2.1) (t := Dp.2.2) (I.ok.hd hc) ⟨_, at_, rfl, rfl⟩ tx.fit small wk.1 wk.2 fun s1 vs k1 hz g1 o1 pm => ?_)
  have I1 : Inv X pins σ H s1 := invMoved I k1 g1 o1
  obtain ⟨tv, pv⟩ := txs_vals tx nd pm
  have pd := pv.trans (grow_perm nd)
  have vl : vs.length ≤ sizeLine := by
    have := pd.length_eq
    rw [List.length_map] at this
    have e : scanBound = 4096 := by decide +kernel
    have e2 : sizeLine = 16777216 := by decide +kernel
    omega
  obtain ⟨f, hf⟩ : ∃ f : Value → V × D, f = fun v => (V.str (txV v), D.str (txV v)) := ⟨_, rfl⟩
  refine wpAny_bind (wpAny_newList ?_ vl)
  have hoL : (s1.heap.push (seqObj "list" vs.toArray 0)).get? s1.heap.objs.size = some (seqObj "list" vs.toArray 0) := Heap.get?_push_size _ rfl
  have e1 : PySem.W.EachIs (fun (u : Value) (b : V × D) => RelV b.1 u) vs (vs.map f) := eachOf fun v h => by
    obtain ⟨t, e⟩ := tv v h
    rw [hf]; exact ⟨t, e⟩
  have er : PySem.W.EachIs (fun (u : Value) (b : V × D) => ∃ as, Reads (s1.heap.push (seqObj "list" vs.toArray 0)) u (toPy b.2) as ∧ s1.heap.objs.size ∉ as) vs (vs.map f) := eachOf fun v h => by
    obtain ⟨t, e⟩ := tv v h
    rw [hf, e]; exact ⟨[], .str _ _, by simp⟩
  have shape : ∀ d ∈ (vs.map f).map fun b => toPy b.2, ∃ x, d = .str x := fun d hd => by
    obtain ⟨b, hb, rfl⟩ := List.mem_map.mp hd
    obtain ⟨v, -, rfl⟩ := List.mem_map.mp hb
    rw [hf]; exact ⟨_, rfl⟩
  have hal : PySem.W.AllAlike ((vs.map f).map fun b => toPy b.2) := fun d hd d' hd' => by
    obtain ⟨x, rfl⟩ := shape d hd
    obtain ⟨y, rfl⟩ := shape d' hd'
    simp [PySem.W.alike]
  have hk : PySem.W.Sortable ((vs.map f).map fun b => toPy b.2) := .inr fun d hd => by
    obtain ⟨x, rfl⟩ := shape d hd
    exact ⟨nofun, nofun⟩
  refine wpAny_bind (wpAny_holding (PySem.W.list_sort_data (s := { s1 with heap := s1.heap.push (seqObj "list" vs.toArray 0) }) (A := X.A.in1) hoL e1 er hal hk (by rw [List.length_map]; exact vl) (fun b hb => ?_) fun out hol eo => ?_))
  · obtain ⟨x, ex⟩ := shape (toPy b.2) (List.mem_map.mpr ⟨b, hb, rfl⟩)
    rw [ex]
    have h2 : X.A.in1.units ≤ X.A.units + 1 := by simp [Around.in1]
    have h3 : (PyData.str x).depth = 0 := by simp [PyData.depth]
    omega
  obtain ⟨c, he'⟩ := PyProof.Rows.sortedHeap_at (vs := vs) (out := out.toArray) hoL
  have hsort : ((vs.map f).mergeSort (PySem.W.dataLe false fun b => toPy b.2)).map (·.2) = ((dset ks).map D.str).mergeSort dle := by
    rw [PySem.W.sort_maps (r := PySem.W.dataLe false fun b : V × D => toPy b.2) (s := dle) (fun b : V × D => b.2) (fun a _ b _ => by rw [PySem.W.dataLe_eq]; rfl), List.map_map, ← sort_strs pd, List.map_map, hf]
    rfl
  have hreps : Reps X.K H (Own m S) (((vs.map f).mergeSort (PySem.W.dataLe false fun b => toPy b.2)).map (·.1)) (((dset ks).map D.str).mergeSort dle) := by
    rw [← hsort]
    refine reps_of_zip fun b hb => ?_
    obtain ⟨v, -, rfl⟩ := List.mem_map.mp (List.mem_mergeSort.mp hb)
    rw [hf]; exact .str _
  have hsz : (((vs.map f).mergeSort (PySem.W.dataLe false fun b => toPy b.2)).map (·.1)).length ≤ sizeLine := by rw [List.length_map, List.length_mergeSort, List.length_map]; exact vl
  refine wpAny_pure ⟨_, rfl, .ref _, upd H s1.heap.objs.size (.lst _), I1.laid (t' := s1.toks) (fun b u e => ?_) (Nat.le_refl _) ⟨hsz, out, c, valsEach eo, he'⟩, rfl, q.lst ok hreps _ (I1.hok.fresh (Nat.le_refl _))⟩
  have hlt := Heap.lt_size e
  rw [PyProof.Rows.sortedHeap_old (Nat.ne_of_lt hlt) (by rw [size_push']; exact Nat.lt_succ_of_lt hlt)]
  exact Heap.get?_push_of_some _ e
end M

/-! sorted(set(xs)) of whole numbers, a list or a tuple -/
namespace M
open PySem PySem.Spec PyProof.Rows L2 PySem.Froz
def growI (l : List Int) (k : Int) : List Int := if k ∈ l then l else k :: l
/-- at a stands a set of just these numbers, each once -/
structure SetI (w : World) (h : Heap) (a : Addr) (l : List Int) : Prop where
  here : SetR w h a (fun j => decide (j ∈ l)) l.length
  each : l.Nodup
section
variable {P : Program} {w : World} {A : Around} {E : Value → Shared → Prop} {s : Shared} {a : Addr} {l : List Int}
theorem SetI.keep {h h' : Heap} (T : SetI w h a l) (k : ∀ o, h.get? a = some o → h'.get? a = some o) : SetI w h' a l := ⟨T.here.at k, T.each⟩
theorem add_num {k : Int} {u : Tok} {Q : Bool → Shared → Prop} (T : SetI w s.heap a l) (hb : l.length + 1 < scanBound) (q : ∀ b h', Heap.SameBut a s.heap h' → SetI w h' a (growI l k) → Q b { s with heap := h' }) :
    wpAny (model P w) A (setAddHashed a (.int k u) ((intKind P w).hash k)) Q E s := by
  refine setR_add_hashed T.here hb fun h' sb R => q _ h' sb ?_
  by_cases hk : k ∈ l
  · rw [growI, if_pos hk]
    simp only [hk, decide_true, if_true] at R
    refine ⟨R.congr fun j => ?_, T.each⟩
    by_cases e : j = k
    · subst e; simp [hk]
    · simp [e]
  · rw [growI, if_neg hk]
    simp only [hk, decide_false, Bool.false_eq_true, if_false] at R
    refine ⟨R.congr fun j => ?_, List.nodup_cons.mpr ⟨hk, T.each⟩⟩
    by_cases e : j = k
    · subst e; simp
    · simp [e]
/-- what the loop leaves: the numbers one by one -/
theorem fillI {R : Result → Shared → Prop} {I S : Addr} {fp wr : List Addr} {n : Nat} {Pv : Nat → Value → Prop} {St : Nat → Heap → Prop} (W : Walks P w A.in1 I fp wr n Pv St) (far : S ∉ fp) {xs : List Int} (hn : xs.length = n) (nums : ∀ i v, Pv i v → ∃ x t, xs[i]? = some x ∧ v = .int x t) (room : n + 1 < scanBound) (s : Shared) :
    ∀ (rest : List Int) (i : Nat) (l : List Int) (h : Heap) (tk : Nat), xs.drop i = rest → i ≤ n → l.length ≤ i → St i h → SetI w h S l →
      (∀ h' tk', SetI w h' S (rest.foldl growI l) → (∀ b o, b ≠ S → b ∉ wr → h.get? b = some o → h'.get? b = some o) → R (.ok (.ret .none)) { s with heap := h', toks := tk' }) →
      codeAny (model P w) A (.builtin "set.update.loop" ⟨[.ref S, .ref I], []⟩) R { s with heap := h, toks := tk } := by
  have nwr : S ∉ wr := fun z => far (W.sub S z)
  intro rest
  induction rest with
  | nil =>
    intro i l h tk ed hi hl st T q
    have ei : i = n := by have := congrArg List.length ed; rw [List.length_drop] at this; simp at this; omega
    subst ei
    refine codeAny_builtin PyProof.Rows.F.entry_set_update_loop ?_
    rw [Around.under_plainId PyProof.Rows.F.plain_set_update_loop _]
    refine wpAny_bind (W.done { s with heap := h, toks := tk } _ _ st fun h' tk' kp => ?_)
    exact wpAny_pure (q h' tk' (T.keep fun o e => kp S o nwr e) fun b o _ hb e => kp b o hb e)
  | cons x rest more =>
    intro i l h tk ed hi hl st T q
    have lt : i < n := by have := congrArg List.length ed; rw [List.length_drop] at this; simp at this; omega
    have hx : xs[i]? = some x := by
      have := congrArg List.head? ed
      rw [List.head?_drop] at this
      exact this
    refine codeAny_builtin PyProof.Rows.F.entry_set_update_loop ?_
    rw [Around.under_plainId PyProof.Rows.F.plain_set_update_loop _]
    refine wpAny_bind (W.item i { s with heap := h, toks := tk } _ _ lt st fun v h1 tk1 pv st1 kp => ?_)
    obtain ⟨y, t, ey, rfl⟩ := nums i v pv
    have : y = x := by rw [hx] at ey; exact (Option.some.inj ey).symm
    subst this
    have T1 : SetI w h1 S l := T.keep fun o e => kp S o nwr e
    have lg : (growI l y).length ≤ i + 1 := by
      unfold growI
      split
      · omega
      · rw [List.length_cons]; omega
    refine wpAny_bind (wpAny_holding (wpAny_holding (wpAny_bind ((intKind P w).pyHash (intKind_is P w y t) ?_))))
    refine add_num (s := { s with heap := h1, toks := tk1 + 1 }) T1 (by omega) fun b h2 sb T2 => ?_
    refine wpAny_pure ⟨plainId_quiet PyProof.Rows.F.plain_set_update_loop _, more (i + 1) (growI l y) h2 (tk1 + 1) ?_ lt lg (W.frame _ h1 h2 st1 fun c hc o e => (sb.2 c fun z => far (z ▸ hc)).trans e) T2 fun h3 tk3 T3 kp3 => q h3 tk3 T3 fun c o c1 c2 e => kp3 c o c1 c2 ((sb.2 c c1).trans (kp c o c2 e))⟩
    have := congrArg List.tail ed
    rw [List.tail_drop] at this
    exact this
theorem seti_new (h : Heap) : SetI w (h.push (set0 w)) h.objs.size [] := ⟨(setR_fresh w).congr fun k => by simp, List.nodup_nil⟩
theorem mkset_listI {l : Addr} {its : Array Value} {xs : List Int} {Q : Value → Shared → Prop} (free : A.handled = none) (il : s.heap.IsList l its) (tx : Vals (xs.map V.int) its.toList) (room : xs.length + 1 < scanBound)
    (q : ∀ h' tk, SetI w h' s.heap.objs.size (xs.foldl growI []) → (∀ b o, s.heap.get? b = some o → h'.get? b = some o) → Q (.ref s.heap.objs.size) { s with heap := h', toks := tk }) : wpAny (model P w) A (call (.type "set") [.ref l]) Q E s := by
  refine call_set1 (code_set_led1 (.ref l) (Q₁ := fun u s₁ => u = .ref s.heap.objs.size ∧ s₁ = { s with heap := s.heap.push (set0 w) }) ⟨rfl, rfl⟩) ?_
  rintro obj s1 ⟨rfl, rfl⟩
  have new : (s.heap.push (set0 w)).get? s.heap.objs.size = some (set0 w) := Heap.get?_push_size _ rfl
  have here : Shared.TypeIs { s with heap := s.heap.push (set0 w) } (.ref s.heap.objs.size) "set" := ⟨_, new, rfl⟩
  have il1 : (s.heap.push (set0 w)).IsList l its := il.push _
  have hlt : l < s.heap.objs.size := let ⟨o, e, _⟩ := il; Heap.lt_size e
  have below : ∀ b o, s.heap.get? b = some o → b ≠ s.heap.objs.size ∧ b ∉ [s.heap.objs.size + 1] := fun b o e => by
    have := Heap.lt_size e
    refine ⟨Nat.ne_of_lt this, fun z => ?_⟩
    rw [List.mem_singleton] at z
    rw [z] at this
    exact Nat.not_lt_of_le (Nat.le_succ _) this
  have len : xs.length = its.size := by have := Vals.length tx; rw [List.length_map, Array.length_toList] at this; exact this
  have upd : wpAny (model P w) A.in1.in1 (Builtin.Frozenset.updateFrom "set.__init__" s.heap.objs.size (.ref l)) (fun _ s2 => ∃ h' tk, s2 = { s with heap := h', toks := tk } ∧ SetI w h' s.heap.objs.size (xs.foldl growI []) ∧ ∀ b o, s.heap.get? b = some o → h'.get? b = some o) (fun _ _ => False) { s with heap := s.heap.push (set0 w) } := by
    unfold Builtin.Frozenset.updateFrom Builtin.Frozenset.isAnySet
    refine wpAny_bind (wpAny_bind (wpAny_isInstance il1.typeIs PySem.F.sub_list_set ?_))
    refine wpAny_isInstance il1.typeIs PySem.F.sub_list_frozenset ?_
    simp only [Bool.false_eq_true, if_false]
    refine wpAny_bind (wpAny_typeOf il1.typeIs ?_)
    rw [if_neg (by decide)]
    refine wpAny_bind (wpAny_pyIter_list il1 (wpAny_bind (wpAny_runValue ?_)))
    have sz : (s.heap.push (set0 w)).objs.size = s.heap.objs.size + 1 := Heap.size_push _ _
    have apart : s.heap.objs.size ∉ [s.heap.objs.size + 1, l] := fun z => by
      rcases List.mem_cons.mp z with z | z
      · exact Nat.ne_of_lt (Nat.lt_succ_self _) z
      · exact Nat.ne_of_gt hlt (List.mem_singleton.mp z)
    rw [sz]
    refine fillI (Walks.list (by simpa using free) (s.heap.objs.size + 1) l (Nat.ne_of_lt (Nat.lt_succ_of_lt hlt)) its) apart len (fun i v hv => ?_) (by omega) s xs 0 [] _ s.toks (by simp) (Nat.zero_le _) (Nat.le_refl _) ⟨⟨_, by rw [← sz]; exact Heap.get?_push_size _ rfl, rfl, rfl⟩, il1.push _⟩ ((seti_new s.heap).keep fun o e => Heap.get?_push_of_some _ e) fun h' tk T kp => ?_
    · have hi : i < xs.length := by rw [len]; exact (Array.getElem?_eq_some_iff.mp hv).1
      obtain ⟨v', e1, t, e2⟩ := Vals.get tx (i := i) (x := V.int xs[i]) (by simp [hi])
      rw [Array.getElem?_toList, hv] at e1
      cases e1
      exact ⟨xs[i], t, List.getElem?_eq_getElem hi, e2⟩
    · exact wpAny_pure ⟨h', tk, rfl, T, fun b o e => kp b o (below b o e).1 (below b o e).2 (Heap.get?_push_of_some _ (Heap.get?_push_of_some _ e))⟩
  refine ⟨here, ?_⟩
  unfold Builtin.«set.__init__» noKeywords
  have named : wpAny (model P w) A.in1.in1 (typeNameOfCut 200 (.ref s.heap.objs.size)) (fun _ s' => s' = { s with heap := s.heap.push (set0 w) }) (fun _ _ => False) { s with heap := s.heap.push (set0 w) } := by
    unfold typeNameOfCut shownTypeOf
    refine wpAny_bind (wpAny_bind (wpAny_typeOf here ?_))
    rw [if_neg (by decide)]
    exact wpAny_pure (wpAny_pure rfl)
  have fresh : wpAny (model P w) A.in1.in1 (setUsed s.heap.objs.size) (fun b s' => b = false ∧ s' = { s with heap := s.heap.push (set0 w) }) (fun _ _ => False) { s with heap := s.heap.push (set0 w) } :=
    wpAny_bind (wpAny_setState_of new rfl rfl (wpAny_pure ⟨rfl, rfl⟩))
  refine wpAny_bind (wpAny_pure (wpAny_bind (wpAny_mono named (fun _ s' e => ?_) fun _ _ z => z)))
  subst e
  refine wpAny_bind (wpAny_pure (wpAny_bind (wpAny_pure (wpAny_bind (wpAny_mono fresh (fun b s' ⟨e1, e2⟩ => ?_) fun _ _ z => z)))))
  subst e1; subst e2
  simp only [Bool.false_eq_true, if_false]
  refine wpAny_bind (wpAny_mono upd (fun _ s2 ⟨h', tk, e, T, kp⟩ => ?_) fun _ _ z => z)
  subst e
  exact wpAny_pure ⟨rfl, q h' tk T kp⟩
end
theorem sort_uniq {ns ms : List Int} (h1 : ms.Pairwise (· < ·)) (h2 : ∀ k, k ∈ ms ↔ k ∈ ns) : ms = (dset ns).mergeSort fun a b => decide (a ≤ b) := by
  have n1 : ms.Nodup := h1.imp fun h e => by omega
  have pm : ms.Perm ((dset ns).mergeSort fun a b => decide (a ≤ b)) := ((List.perm_ext_iff_of_nodup n1 (dset_nodup ns)).mpr fun k => by rw [h2, dset_mem]).trans (List.mergeSort_perm _ _).symm
  refine List.Perm.eq_of_pairwise (le := fun (a b : Int) => a ≤ b) (fun a b _ _ h1 h2 => Int.le_antisymm h1 h2) (h1.imp fun h => by omega) ?_ pm
  exact (List.pairwise_mergeSort (le := fun a b : Int => decide (a ≤ b)) (fun a b c h1 h2 => by simp at *; omega) (fun a b => by simp; omega) (dset ns)).imp fun h => by simpa using h
theorem Reps.reverse {K : PySem.W.Frag} {H : Hp} {N : Addr → Prop} : ∀ {vs : List V} {xs : List D}, Reps K H N vs xs → Reps K H N vs.reverse xs.reverse
  | _, _, .nil => .nil
  | _, _, .cons q r => by
    rw [List.reverse_cons, List.reverse_cons]
    exact r.reverse.append (.cons q .nil)
theorem vals_ints {its : List Value} {ns : List Int} : IntsAre its ns → Vals (ns.map V.int) its := fun h => by
  induction h with
  | nil => exact .nil
  | cons h ih => rename_i a b c d; exact .cons ⟨_, rfl⟩ (by assumption)
theorem reps_ints {K : PySem.W.Frag} {H : Hp} {N : Addr → Prop} : ∀ ns : List Int, Reps K H N (ns.map V.int) (ns.map D.int)
  | [] => .nil
  | i :: ns => .cons (.int i) (reps_ints ns)
theorem pd_sortseti {X : Cx} {W : WS} {a : Expr} {ga : Ev → St' → R SV} {p p2 q pos : Pos} (hc : X.calm = true) (hg : Gl X "sorted") (hm : X.mg "sorted" = none) (hg2 : Gl X "set") (hm2 : X.mg "set" = none) (hst : noStar a = true) (ha : PE X a (tD X.K W ga)) :
    PE X (.Call (.Name "sorted" p) [.Call (.Name "set" p2) [a] [] q] [] pos) (tD X.K W fun ρ S => (ga ρ S).bind fun x S1 => R.opt (((peek S1 x).bind sortsetiD).map .t) S1) := by
  refine ⟨fun pins s σ H Q I hw => ?_⟩
  refine Call_ (ld_blt I hg hm PyProof.Rows.boot_sorted (PyProof.Rows.callWith_builtin1 (PyProof.Rows.args_cons ?_ rfl) rfl rfl))
  have na : starEach [a] X.env = (false, eval a X.env) :: starEach [] X.env := star_cons hst
  obtain ⟨m, S, ρ, ok, re, h⟩ := hw
  refine Call_ (ld_blt I hg2 hm2 boot_set (PyProof.Rows.callWith_type1 (PyProof.Rows.args_cons (thn (ha.run pins s σ H (fun x H1 => ∃ (l : Addr) (ns : List Int) (m1 : List Addr) (S1 : St'), x = .ref l ∧ (SqL X.K H1 l (ns.map V.int) ∨ SqT X.K H1 l (ns.map V.int)) ∧ ns.length < 64 ∧ StOk X.K H1 m1 S1 ∧ Fol X.K H1 m1 S1 (.lst (((dset ns).mergeSort fun a b => decide (a ≤ b)).map D.int)) Q) I ?_) fun v s1 ⟨x, H1, I1, r1, q1⟩ => PyProof.Rows.args_nil ?_) na) na rfl))
  · refine tD_bind ok re h fun x v S1 H1 m1 ok1 re1 f1 rv h1 => ?_
    obtain ⟨r, e, qq⟩ := Run.opt h1 ok1
    obtain ⟨r', e4, rfl⟩ := Option.map_eq_some_iff.mp e
    obtain ⟨d, e1, e5⟩ := Option.bind_eq_some_iff.mp e4
    obtain ⟨xs, e2, e6⟩ := Option.bind_eq_some_iff.mp e5
    obtain ⟨ns, e3, e7⟩ := Option.bind_eq_some_iff.mp e6
    split at e7
    · rename_i hb
      cases e7
      have pr := ok1.peek rv e1
      cases d <;> first | (cases e2; done) | skip
      · cases e2
        obtain ⟨l, vs, rfl, g1, g2⟩ := pr.tup
        cases g2.ints e3
        exact ⟨l, ns, m1, S1, rfl, .inr g1, hb, ok1, fun H' v o f hv => qq H' o f v hv⟩
      · cases e2
        obtain ⟨l, vs, rfl, g1, g2⟩ := pr.lst
        cases g2.ints e3
        exact ⟨l, ns, m1, S1, rfl, .inl (.inl g1), hb, ok1, fun H' v o f hv => qq H' o f v hv⟩
    · cases e7
  · obtain ⟨l, ns, m1, S1, rfl, hq, hb, ok1, q1⟩ := q1
    cases r1
    have sb : ns.length + 1 < scanBound := by unfold scanBound; omega
    have fin : ∀ (h' : Heap) (tk c : Nat) (T : Int → Bool), SetR X.w h' s1.heap.objs.size T c → (∀ k, T k = true ↔ k ∈ ns) → c < 64 → (∀ b o, s1.heap.get? b = some o → h'.get? b = some o) →
        wpAny (model X.prog X.w) X.A (spliced (backTo pos (starEach [] X.env))) (fun vs s₂ => wpAny (model X.prog X.w) X.A (call (.builtin "sorted") (Value.ref s1.heap.objs.size :: vs)) (EP X pins σ Q) X.xe s₂) X.xe { s1 with heap := h', toks := tk } := fun h' tk c T hS hT hc64 hk => by
      refine PyProof.Rows.args_nil ?_
      have I2 : Inv X pins σ H1 { s1 with heap := h', toks := tk } := I1.kept hk
      refine sorted_set (s := { s1 with heap := h', toks := tk }) hS (I2.ok.hd hc) hc64 fun s' p out c' ms k g o hp hget hms hpw hmem hlen => ?_
      have e := sort_uniq (ns := ns) hpw fun k => (hmem k).trans (hT k)
      have ml : (ms.map V.int).length ≤ sizeLine := by rw [List.length_map, hlen, sizeLine_eq]; omega
      have J : Inv X pins σ (upd H1 p (.lst (ms.map V.int))) s' := I2.call' (ch := []) o (Un.laid k hp (I2.hok.fresh hp)) (I2.hok.laid k hp ⟨ml, out.toList, c', vals_ints hms, by simpa using hget⟩) (by rw [g]; exact I2.bare) fun _ z => nomatch z
      refine ⟨.ref p, _, J, rfl, q1.lst ok1 ?_ p (I2.hok.fresh hp)⟩
      rw [← e]
      exact reps_ints ms
    rcases hq with hq | hq
    · obtain ⟨its, r, pl, hz⟩ := I1.list hq
      refine mkset_listI (I1.ok.hd hc) pl.isList (by simpa using r) sb fun h' tk T k => ?_
      have hl : (ns.foldl growI []).length ≤ ns.length := by
        have : ∀ (xs l : List Int), (xs.foldl growI l).length ≤ l.length + xs.length := fun xs => by
          induction xs with
          | nil => intro l; simp
          | cons x xs ih =>
            intro l
            have := ih (growI l x)
            have h2 : (growI l x).length ≤ l.length + 1 := by unfold growI; split <;> simp
            rw [List.foldl_cons, List.length_cons]; omega
        simpa using this ns []
      refine fin h' tk _ _ T.here (fun k => ?_) (by omega) k
      rw [decide_eq_true_eq]
      have : ∀ (xs l : List Int), k ∈ xs.foldl growI l ↔ k ∈ l ∨ k ∈ xs := fun xs => by
        induction xs with
        | nil => intro l; simp
        | cons x xs ih =>
          intro l
          rw [List.foldl_cons, ih, List.mem_cons]
          unfold growI
          split
          · rename_i hx
            exact ⟨fun z => z.elim .inl fun z => .inr (.inr z), fun z => z.elim .inl fun z => z.elim (fun e => .inl (e ▸ hx)) .inr⟩
          · rw [List.mem_cons]
            exact ⟨fun z => z.elim (fun z => z.elim (fun e => .inr (.inl e)) .inl) fun z => .inr (.inr z), fun z => z.elim (fun z => .inl (.inr z)) fun z => z.elim (fun e => .inl (.inl e)) .inr⟩
      rw [this]; simp
    · obtain ⟨its, r, pl, hz⟩ := I1.tuple hq
      refine call_set_tupI (P := X.prog) ns (I1.ok.hd hc) (by exact pl) (by simpa using r.ints) sb fun h' tk c R hcl k => ?_
      exact fin h' tk c _ R (fun k => decide_eq_true_iff) (by omega) k
end M

/-! what is walked -/
namespace M
open PySem PySem.Spec PyProof.Rows L2

/-! ### enumerate(tuple) -/
set_option maxHeartbeats 1000000 in
theorem meets_enumerate_newB1 {v : Value} {o : Obj} {H : Heap → Prop} (B : Begins v o H) :
    Meets (Builtin.«enumerate.__new__» ⟨[.type "enumerate", v], []⟩) (fun _ R s => H s.heap ∧
      R (.ok (.ret (.ref (s.heap.push o).objs.size))) { s with heap := (s.heap.push o).push { cls := .type "enumerate", data := .fields #[.none, .bool false, .ref s.heap.objs.size, rawInt 0, .none, .none] } }) :=
  .of_wp fun prog w A R s h => by
    obtain ⟨hp, g, d, tk, os⟩ := s; obtain ⟨h1, h⟩ := h
    have hsub := sub_enumerate
    have q1 : ∀ {A' : Around} {E : Value → Shared → Prop} {Q : Value → Shared → Prop}, Q (.ref hp.objs.size) ⟨hp.push o, g, d, tk, os⟩ → wpAny (model prog w) A' (pyIter v) Q E ⟨hp, g, d, tk, os⟩ :=
      fun q => B.iter prog w _ _ ⟨hp, g, d, tk, os⟩ _ h1 q
    wp_walk using q1
    refine wpAny_stack_any fun st => wpAny_pure ?_
    split
    · rename_i c _ _ _ _ _
      cases (c == Value.type "enumerate")
      · wp_walk using q1
        exact ⟨_, rfl, h⟩
      · wp_walk using q1
        exact ⟨_, rfl, h⟩
    · wp_walk using q1
      exact ⟨_, rfl, h⟩
theorem enum_begins1 {prog : Program} {w : World} {A : Around} {E : Value → Shared → Prop} {s : Shared} {v : Value} {o : Obj} {H : Heap → Prop} {Q : Value → Shared → Prop} (B : Begins v o H) (h1 : H s.heap)
    (h : ∀ h', IsEnum h' (s.heap.objs.size + 1) s.heap.objs.size 0 .none → h'.get? s.heap.objs.size = some o → h'.objs.size = s.heap.objs.size + 2 →
      (∀ b o, s.heap.get? b = some o → h'.get? b = some o) → Q (.ref (s.heap.objs.size + 1)) { s with heap := h' }) :
    wpAny (model prog w) A (call (.type "enumerate") [v]) Q E s := by
  refine callType_new F.called_enumerate (by decide) (F.typeCall_enumerate_1 _) (F.newCall_enumerate_1 _) (fun obj => F.args_object_init_2 obj _) F.entry_enumerate_new
    (meets_enumerate_newB1 B) ⟨h1, ?_⟩
  have hz : (s.heap.push o).objs.size = s.heap.objs.size + 1 := Heap.size_push ..
  show _ ∧ _
  rw [hz]
  have he : IsEnum ((s.heap.push o).push { cls := .type "enumerate", data := .fields #[.none, .bool false, .ref s.heap.objs.size, rawInt 0, .none, .none] }) (s.heap.objs.size + 1) s.heap.objs.size 0 .none := by
    have := Heap.get?_push_size (s.heap.push o) (o := { cls := .type "enumerate", data := .fields #[.none, .bool false, .ref s.heap.objs.size, rawInt 0, .none, .none] }) rfl
    rw [hz] at this; exact this
  refine ⟨⟨_, he, rfl⟩, h _ he (Heap.get?_push_of_some _ (Heap.get?_push_size _ B.free)) (by rw [Heap.size_push, hz]) fun b o x => Heap.get?_push_of_some _ (Heap.get?_push_of_some _ x)⟩

def IteT (K : PySem.W.Frag) (a : Addr) : It :=
  ⟨fun i H => ∃ (xs : List V) (x : V), SqT K H a xs ∧ xs[i]? = some x, fun i H v H' => ∃ T x, v = .ref T ∧ H T = none ∧ H' = upd H T (.tup [.int (i : Nat), x]) ∧ ∀ xs, SqT K H a xs → xs[i]? = some x, fun i H => ∃ xs : List V, SqT K H a xs ∧ xs.length = i⟩
theorem turn_enumT {P : Program} {w : World} {K : PySem.W.Frag} {elts : List Expr} {kk : Nat} {tpos : Pos} (a e it : Addr) :
    Turn P w K (.Tuple elts kk tpos) (IteT K a) [e, it] e (fun i h => (∃ old, IsEnum h e it ((i : Nat) : Int) old) ∧ h.IsTupleIter it a i ∧ e ≠ it) where
  mem := by simp
  obj := fun i h st b hb => by
    obtain ⟨⟨old, he⟩, ⟨o, ho, hc, hd⟩, _⟩ := st
    have e' : b = e ∨ b = it := by simpa using hb
    rcases e' with z | z
    · rw [z]; exact ⟨_, he, fun v q => nomatch q⟩
    · rw [z]; exact ⟨o, ho, fun v q => by rw [hd] at q; cases q⟩
  keep := fun i h h' st k => let ⟨⟨old, he⟩, hi, hne⟩ := st; ⟨⟨old, k e (by simp) _ he⟩, hi.at fun o q => k it (by simp) o q, hne⟩
  item := by
    intro X hP hw hK hc i pins s σ H E I hf st hg
    subst hP hw hK
    obtain ⟨⟨old, he⟩, hit, hne⟩ := st
    obtain ⟨xs, x, hq, hx⟩ := hg
    obtain ⟨its, rv, p, hz⟩ := I.tuple hq
    obtain ⟨u, hu, ru⟩ := rv.get hx
    have hel : e < s.heap.objs.size := Heap.lt_size he
    have hil : it < s.heap.objs.size := by obtain ⟨_, q, _⟩ := hit; exact Heap.lt_size q
    have p' : s.heap.IsTuple a its.toArray := by
      obtain ⟨o, h1, h2, n, h3⟩ := p
      exact ⟨o, h1, h2, n, h3⟩
    have hai : a ≠ it := fun z => by
      subst z
      obtain ⟨o, h1, h2, _⟩ := hit
      obtain ⟨o', h1', h2', _⟩ := p'
      rw [h1] at h1'; cases h1'
      rw [h2] at h2'; injection h2' with z; exact absurd z (by decide)
    have hae : e ≠ a := fun z => by
      subst z
      obtain ⟨o', h1', h2', _⟩ := p'
      unfold IsEnum at he
      rw [he] at h1'; cases h1'
      injection h2' with z; exact absurd z (by decide)
    have hlt : i < its.toArray.size := by
      have := (List.getElem?_eq_some_iff.mp hu).1
      simpa using this
    have D := Draws.tuple (prog := X.prog) (w := X.w) (A := X.A.in1) (I.ok.hd hc) it a hai its.toArray
    refine wpAny_pyNext_enum_itemD D he ⟨hit, p'⟩ hlt hne (by simp [hne, hae]) fun u' h' tk hu' ho hst hT hsz hk => ?_
    have : u' = u := by
      have h1 : its.toArray[i]? = some u := by simpa using hu
      rw [h1] at hu'; exact (Option.some.inj hu').symm
    subst this
    refine ⟨_, rfl, wpAny_letOwnedTupleGo_enum (s := { s with heap := h', toks := tk + 1 }) ho fun h'' he' sb => ?_⟩
    have hT2 : h''.get? s.heap.objs.size = some { cls := .type "tuple", data := .seq #[.int i tk, u'] } := (sb.2 _ (Nat.ne_of_gt hel)).trans hT
    have new : ObjOk X.prog X.w (upd H s.heap.objs.size (.tup [.int (i : Nat), x])) h'' s.heap.objs.size (.tup [.int (i : Nat), x]) :=
      ⟨by show 2 ≤ sizeLine; decide, [.int i tk, u'], .cons ⟨_, rfl⟩ (.cons ru .nil), ⟨_, hT2, rfl, _, rfl⟩⟩
    have I1 : L2.Inv X pins σ (upd H s.heap.objs.size (.tup [.int (i : Nat), x])) { s with heap := h'', toks := tk + 1 } :=
      I.turnedNew (ch := [e, it]) (fun b ob hb q => (sb.2 b (fun z => hb (by simp [z]))).trans (hk b ob (fun z => hb (by simp [z])) (fun z => hb (by simp [z])) q)) hf (Nat.le_refl _) new
    refine ⟨.ref s.heap.objs.size, _, I1, rfl, ⟨_, x, rfl, I.hok.fresh (Nat.le_refl _), rfl, fun ys hy => by rw [I.tuple_inj hy hq]; exact hx⟩, ⟨⟨u', ?_⟩, hst.1.at fun o q => (sb.2 it (Ne.symm hne)).trans q, hne⟩, fun b hb => ?_⟩
    · have e1 : ((i + 1 : Nat) : Int) = (i : Int) + 1 := by omega
      rw [e1]; exact he'
    · have hb' : b < s.heap.objs.size := by
        have e' : b = e ∨ b = it := by simpa using hb
        rcases e' with z | z
        · rw [z]; exact hel
        · rw [z]; exact hil
      rw [upd_ne (Nat.ne_of_lt hb')]
      exact (hf b hb).1
  done := by
    intro X hP hw hK hc i pins s σ H E I hf st hg
    subst hP hw hK
    obtain ⟨⟨old, he⟩, hit, hne⟩ := st
    obtain ⟨xs, hq, hx⟩ := hg
    obtain ⟨its, rv, p, hz⟩ := I.tuple hq
    obtain ⟨f0, f1, f2, f3, f4, f5⟩ := hf it (by simp)
    have hl := rv.length
    have p' : s.heap.IsTuple a its.toArray := by
      obtain ⟨o, h1, h2, n, h3⟩ := p
      exact ⟨o, h1, h2, n, h3⟩
    have hai : a ≠ it := fun z => by
      subst z
      obtain ⟨o, h1, h2, _⟩ := hit
      obtain ⟨o', h1', h2', _⟩ := p'
      rw [h1] at h1'; cases h1'
      rw [h2] at h2'; injection h2' with z; exact absurd z (by decide)
    have D := Draws.tuple (prog := X.prog) (w := X.w) (A := X.A.in1) (I.ok.hd hc) it a hai its.toArray
    have hn : its.toArray.size = i := by simp; omega
    exact wpAny_pyNext_enum_endD D he (show _ from by rw [hn]; exact ⟨hit, p'⟩) fun h' eb => ⟨rfl, I.turned (t' := s.toks) (fun b o hb q => eb b o hb q) f0 f1 f3 f4 f5⟩
  self := fun A i s Q E st h => let ⟨⟨_, he⟩, _⟩ := st; wpAny_pyIter_enum he h
def iEnumT (K : PySem.W.Frag) (ta : TA) : TI := fun σ H R => ta σ H fun vs H1 => ∃ a xs, vs = [.ref a] ∧ SqT K H1 a xs ∧ R (IteT K a) H1
theorem pi_enumA {X : Cx} {e : Expr} {ta : TA} {p pos tpos : Pos} {elts : List Expr} {kk : Nat} (hg : Gl X "enumerate") (hm : X.mg "enumerate" = none) (ha : PA X [e] ta) (hs : starEach [e] X.env = [(false, eval e X.env)]) :
    PI X (.Tuple elts kk tpos) (.Call (.Name "enumerate" p) [e] [] pos) (fun σ H R => ta σ H fun vs H1 => ∃ a, vs = [.ref a] ∧ ((∃ xs, SqL X.K H1 a xs ∧ R (Ite X.K a) H1) ∨ ∃ xs, SqT X.K H1 a xs ∧ R (IteT X.K a) H1)) := by
  refine ⟨fun pins s σ H R I h => ?_⟩
  refine Call_ (ld_blt I hg hm boot_enumerate (PyProof.Rows.callWith_type1 (thn (ha.run pos pins s σ H _ I h) fun us s1 ⟨vs, H1, I1, r1, q1⟩ => ?_) hs rfl))
  obtain ⟨a, ex, q⟩ := q1
  subst ex
  cases r1 with
  | cons r rr =>
    cases rr
    cases r
    rcases q with ⟨xs, hq, q⟩ | ⟨xs, hq, q⟩
    · obtain ⟨its, rv, p', hz⟩ := I1.list hq
      refine call_enumerate_list p'.isList fun h' he hit hsz hk => wpAny_pyIter_enum he ?_
      have I2 : L2.Inv X pins σ H1 { s1 with heap := h' } := I1.kept (t' := s1.toks) hk
      refine ⟨s1.heap.objs.size + 1, [s1.heap.objs.size + 1, s1.heap.objs.size], _, _, H1, rfl, I2, turn_enum a (s1.heap.objs.size + 1) s1.heap.objs.size, ⟨⟨.none, he⟩, hit, Nat.succ_ne_self _⟩, fun b hb => ?_, q⟩
      have e' : b = s1.heap.objs.size + 1 ∨ b = s1.heap.objs.size := by simpa using hb
      have hle : s1.heap.objs.size ≤ b := by
        rcases e' with z | z
        · rw [z]; exact Nat.le_add_right _ _
        · rw [z]; exact Nat.le_refl _
      exact I1.fpOk hle (I1.hok.fresh hle)
    · obtain ⟨its, rv, p', hz⟩ := I1.tuple hq
      have p2 : s1.heap.IsTuple a its.toArray := by
        obtain ⟨o, h1, h2, n, h3⟩ := p'
        exact ⟨o, h1, h2, n, h3⟩
      refine enum_begins1 (begins_tuple a its.toArray) p2 fun h' he hit hsz hk => wpAny_pyIter_enum he ?_
      have I2 : L2.Inv X pins σ H1 { s1 with heap := h' } := I1.kept (t' := s1.toks) hk
      refine ⟨s1.heap.objs.size + 1, [s1.heap.objs.size + 1, s1.heap.objs.size], _, _, H1, rfl, I2, turn_enumT a (s1.heap.objs.size + 1) s1.heap.objs.size, ⟨⟨.none, he⟩, ⟨_, hit, rfl, rfl⟩, Nat.succ_ne_self _⟩, fun b hb => ?_, q⟩
      have e' : b = s1.heap.objs.size + 1 ∨ b = s1.heap.objs.size := by simpa using hb
      have hle : s1.heap.objs.size ≤ b := by
        rcases e' with z | z
        · rw [z]; exact Nat.le_add_right _ _
        · rw [z]; exact Nat.le_refl _
      exact I1.fpOk hle (I1.hok.fresh hle)

/-! ### what a walk gives, as data -/
def isTp : Tg → Bool
  | .tp _ => true
  | .v _ => false
/-- what a walk gives: data; where a tuple is taken apart at once, any tuple -/
def RepI (K : PySem.W.Frag) (H : Hp) (N : Addr → Prop) (tg : Tg) (v : V) (d : D) : Prop := Rep K H N v d ∨ (isTp tg = true ∧ ∃ a vs ds, v = .ref a ∧ d = .tup ds ∧ SqT K H a vs ∧ Reps K H N vs ds)
theorem repi_new {K : PySem.W.Frag} {H : Hp} {m : List Addr} {S : St'} {tg : Tg} (ht : isTp tg = true) (ok : StOk K H m S) {p : Addr} (hp : H p = none) {vs : List V} {xs : List D} (hv : Reps K H (Own m S) vs xs) : RepI K (upd H p (.tup vs)) (Own m S) tg (.ref p) (.tup xs) :=
  .inr ⟨ht, _, _, _, rfl, rfl, .inl (.inl upd_same), hv.mono (ok.laid hp (.tup vs)).2.1⟩
structure Feeds (K : PySem.W.Frag) (tg : Tg) (J : It) (src : Src) (inv : Hp → List Addr → St' → Prop) : Prop where
  mono : ∀ H m S H' m' S', inv H m S → Fr H m S H' m' S' → inv H' m' S'
  stop : ∀ xs H m S, src = .fix xs → inv H m S → StOk K H m S → J.stop xs.length H
  item : ∀ xs i x H m S, src = .fix xs → inv H m S → StOk K H m S → xs[i]? = some x → J.go i H ∧ ∀ v H', J.yld i H v H' → StOk K H' m S ∧ Fr H m S H' m S ∧ RepI K H' (Own m S) tg v x
  stopL : ∀ k ys i H m S, src = .live k → inv H m S → StOk K H m S → S[k]? = some (.lst ys) → ys[i]? = none → J.stop i H
  itemL : ∀ k ys i x H m S, src = .live k → inv H m S → StOk K H m S → S[k]? = some (.lst ys) → ys[i]? = some x → J.go i H ∧ ∀ v H', J.yld i H v H' → StOk K H' m S ∧ Fr H m S H' m S ∧ RepI K H' (Own m S) tg v x
section
variable {K : PySem.W.Frag} {tt : Tg}
theorem feeds_list {a : Addr} {xs : List D} : Feeds K tt (Itl K a) (.fix xs) (fun H m S => ∃ vs, QL H (Own m S) a vs ∧ Reps K H (Own m S) vs xs) where
  mono := fun H m S H' m' S' ⟨vs, q, r⟩ f => ⟨vs, q.mono f.1, r.mono f.1⟩
  stop := fun ys H m S e ⟨vs, q, r⟩ ok => by cases e; exact ⟨vs, q.sq, by rw [r.length]; exact Nat.le_refl _⟩
  item := fun ys i x H m S e ⟨vs, q, r⟩ ok hx => by
    cases e
    obtain ⟨v, hv, rv⟩ := r.get hx
    refine ⟨⟨vs, v, q.sq, hv⟩, fun w H' hy => ?_⟩
    obtain ⟨rfl, hy⟩ := hy
    have := hy vs q.sq
    rw [hv] at this; cases this
    exact ⟨ok, .refl, .inl rv⟩
  stopL := fun k ys i H m S e => nomatch e
  itemL := fun k ys i x H m S e => nomatch e
theorem feeds_tup {a : Addr} {xs : List D} : Feeds K tt (Itt K a) (.fix xs) (fun H m S => ∃ vs, QT K H (Own m S) a vs ∧ Reps K H (Own m S) vs xs) where
  mono := fun H m S H' m' S' ⟨vs, q, r⟩ f => ⟨vs, q.mono f.1, r.mono f.1⟩
  stop := fun ys H m S e ⟨vs, q, r⟩ ok => by cases e; exact ⟨vs, q.sq, by rw [r.length]; exact Nat.le_refl _⟩
  item := fun ys i x H m S e ⟨vs, q, r⟩ ok hx => by
    cases e
    obtain ⟨v, hv, rv⟩ := r.get hx
    refine ⟨⟨vs, v, q.sq, hv⟩, fun w H' hy => ?_⟩
    obtain ⟨rfl, hy⟩ := hy
    have := hy vs q.sq
    rw [hv] at this; cases this
    exact ⟨ok, .refl, .inl rv⟩
  stopL := fun k ys i H m S e => nomatch e
  itemL := fun k ys i x H m S e => nomatch e
theorem feeds_str {x : Str} : Feeds K tt (Its x) (.fix (x.cps.toList.map fun c => D.str ⟨#[c]⟩)) (fun _ _ _ => True) where
  mono := fun _ _ _ _ _ _ _ _ => trivial
  stop := fun ys H m S e _ ok => by cases e; show x.cps.size ≤ _; simp
  item := fun ys i y H m S e _ ok hx => by
    cases e
    rw [List.getElem?_map] at hx
    obtain ⟨c, hc, rfl⟩ := Option.map_eq_some_iff.mp hx
    have hc' : x.cps[i]? = some c := by simpa using hc
    refine ⟨(Array.getElem?_eq_some_iff.mp hc').1, fun w H' hy => ?_⟩
    obtain ⟨rfl, c', h1, rfl⟩ := hy
    rw [hc'] at h1; cases h1
    exact ⟨ok, .refl, .inl (.str _)⟩
  stopL := fun k ys i H m S e => nomatch e
  itemL := fun k ys i x H m S e => nomatch e
theorem feeds_range {lo hi : Int} {n : Nat} (hn : n = (hi - lo).toNat) : Feeds K tt (Itr lo n) (.fix (rangeD lo hi)) (fun _ _ _ => True) where
  mono := fun _ _ _ _ _ _ _ _ => trivial
  stop := fun ys H m S e _ ok => by cases e; show n ≤ _; simp [rangeD, hn]
  item := fun ys i y H m S e _ ok hx => by
    cases e
    unfold rangeD at hx
    rw [List.getElem?_map] at hx
    obtain ⟨c, hc, rfl⟩ := Option.map_eq_some_iff.mp hx
    obtain ⟨h1, h2⟩ := List.getElem?_eq_some_iff.mp hc
    simp at h1 h2
    subst h2
    refine ⟨by show i < n; omega, fun w H' hy => ?_⟩
    obtain ⟨rfl, rfl⟩ := hy
    exact ⟨ok, .refl, .inl (.int _)⟩
  stopL := fun k ys i H m S e => nomatch e
  itemL := fun k ys i x H m S e => nomatch e
theorem enumD_get {xs : List D} {i : Nat} {y : D} (h : (enumD xs)[i]? = some y) : ∃ x, xs[i]? = some x ∧ y = .tup [.int (i : Nat), x] := by
  unfold enumD at h
  rw [List.getElem?_map] at h
  obtain ⟨p, hp, rfl⟩ := Option.map_eq_some_iff.mp h
  rw [List.getElem?_zipIdx] at hp
  obtain ⟨x, hx, rfl⟩ := Option.map_eq_some_iff.mp hp
  exact ⟨x, hx, by simp⟩
theorem feeds_enumL {a : Addr} {xs : List D} (ht : isTp tt = true) : Feeds K tt (Ite K a) (.fix (enumD xs)) (fun H m S => ∃ vs, QL H (Own m S) a vs ∧ Reps K H (Own m S) vs xs) where
  mono := fun H m S H' m' S' ⟨vs, q, r⟩ f => ⟨vs, q.mono f.1, r.mono f.1⟩
  stop := fun ys H m S e ⟨vs, q, r⟩ ok => by cases e; exact ⟨vs, q.sq, by rw [r.length]; simp [enumD]⟩
  item := fun ys i y H m S e ⟨vs, q, r⟩ ok hx => by
    cases e
    obtain ⟨x, hx', rfl⟩ := enumD_get hx
    obtain ⟨v, hv, rv⟩ := r.get hx'
    refine ⟨⟨vs, v, q.sq, hv⟩, fun w H' hy => ?_⟩
    obtain ⟨T, v', rfl, hT, rfl, hy⟩ := hy
    have := hy vs q.sq
    rw [hv] at this; cases this
    exact ⟨(ok.laid hT _).1, (ok.laid hT _).2, repi_new ht ok hT (.cons (.int _) (.cons rv .nil))⟩
  stopL := fun k ys i H m S e => nomatch e
  itemL := fun k ys i x H m S e => nomatch e
theorem feeds_enumT {a : Addr} {xs : List D} (ht : isTp tt = true) : Feeds K tt (IteT K a) (.fix (enumD xs)) (fun H m S => ∃ vs, QT K H (Own m S) a vs ∧ Reps K H (Own m S) vs xs) where
  mono := fun H m S H' m' S' ⟨vs, q, r⟩ f => ⟨vs, q.mono f.1, r.mono f.1⟩
  stop := fun ys H m S e ⟨vs, q, r⟩ ok => by cases e; exact ⟨vs, q.sq, by rw [r.length]; simp [enumD]⟩
  item := fun ys i y H m S e ⟨vs, q, r⟩ ok hx => by
    cases e
    obtain ⟨x, hx', rfl⟩ := enumD_get hx
    obtain ⟨v, hv, rv⟩ := r.get hx'
    refine ⟨⟨vs, v, q.sq, hv⟩, fun w H' hy => ?_⟩
    obtain ⟨T, v', rfl, hT, rfl, hy⟩ := hy
    have := hy vs q.sq
    rw [hv] at this; cases this
    exact ⟨(ok.laid hT _).1, (ok.laid hT _).2, repi_new ht ok hT (.cons (.int _) (.cons rv .nil))⟩
  stopL := fun k ys i H m S e => nomatch e
  itemL := fun k ys i x H m S e => nomatch e
theorem zipD_get {xs ys : List D} {i : Nat} {y : D} (h : (zipD xs ys)[i]? = some y) : ∃ x z, xs[i]? = some x ∧ ys[i]? = some z ∧ y = .tup [x, z] := by
  unfold zipD at h
  rw [List.getElem?_map] at h
  obtain ⟨p, hp, rfl⟩ := Option.map_eq_some_iff.mp h
  rw [List.getElem?_zip_eq_some] at hp
  exact ⟨_, _, hp.1, hp.2, rfl⟩
theorem feeds_zipL {a b : Addr} {xs ys : List D} (ht : isTp tt = true) : Feeds K tt (Itz K a b) (.fix (zipD xs ys)) (fun H m S => (∃ vs, QL H (Own m S) a vs ∧ Reps K H (Own m S) vs xs) ∧ ∃ vs, QL H (Own m S) b vs ∧ Reps K H (Own m S) vs ys) where
  mono := fun H m S H' m' S' ⟨⟨vs, q, r⟩, ⟨ws, q2, r2⟩⟩ f => ⟨⟨vs, q.mono f.1, r.mono f.1⟩, ⟨ws, q2.mono f.1, r2.mono f.1⟩⟩
  stop := fun zs H m S e ⟨⟨vs, q, r⟩, ⟨ws, q2, r2⟩⟩ ok => by
    cases e
    refine ⟨vs, ws, q.sq, q2.sq, ?_⟩
    rw [r.length, r2.length]; simp [zipD]; omega
  item := fun zs i y H m S e ⟨⟨vs, q, r⟩, ⟨ws, q2, r2⟩⟩ ok hx => by
    cases e
    obtain ⟨x, z, hx', hz, rfl⟩ := zipD_get hx
    obtain ⟨v, hv, rv⟩ := r.get hx'
    obtain ⟨u, hu, ru⟩ := r2.get hz
    refine ⟨⟨vs, ws, v, u, q.sq, q2.sq, hv, hu⟩, fun w H' hy => ?_⟩
    obtain ⟨T, v', u', rfl, hT, rfl, hy, hy2⟩ := hy
    have := hy vs q.sq
    rw [hv] at this; cases this
    have := hy2 ws q2.sq
    rw [hu] at this; cases this
    exact ⟨(ok.laid hT _).1, (ok.laid hT _).2, repi_new ht ok hT (.cons rv (.cons ru .nil))⟩
  stopL := fun k ys i H m S e => nomatch e
  itemL := fun k ys i x H m S e => nomatch e
theorem feeds_zipT {a b : Addr} {xs ys : List D} (ht : isTp tt = true) : Feeds K tt (RZ.ItzT K a b) (.fix (zipD xs ys)) (fun H m S => (∃ vs, QT K H (Own m S) a vs ∧ Reps K H (Own m S) vs xs) ∧ ∃ vs, QT K H (Own m S) b vs ∧ Reps K H (Own m S) vs ys) where
  mono := fun H m S H' m' S' ⟨⟨vs, q, r⟩, ⟨ws, q2, r2⟩⟩ f => ⟨⟨vs, q.mono f.1, r.mono f.1⟩, ⟨ws, q2.mono f.1, r2.mono f.1⟩⟩
  stop := fun zs H m S e ⟨⟨vs, q, r⟩, ⟨ws, q2, r2⟩⟩ ok => by
    cases e
    refine ⟨vs, ws, q.sq, q2.sq, ?_⟩
    rw [r.length, r2.length]; simp [zipD]; omega
  item := fun zs i y H m S e ⟨⟨vs, q, r⟩, ⟨ws, q2, r2⟩⟩ ok hx => by
    cases e
    obtain ⟨x, z, hx', hz, rfl⟩ := zipD_get hx
    obtain ⟨v, hv, rv⟩ := r.get hx'
    obtain ⟨u, hu, ru⟩ := r2.get hz
    refine ⟨⟨vs, ws, v, u, q.sq, q2.sq, hv, hu⟩, fun w H' hy => ?_⟩
    obtain ⟨T, v', u', rfl, hT, rfl, hy, hy2⟩ := hy
    have := hy vs q.sq
    rw [hv] at this; cases this
    have := hy2 ws q2.sq
    rw [hu] at this; cases this
    exact ⟨(ok.laid hT _).1, (ok.laid hT _).2, repi_new ht ok hT (.cons rv (.cons ru .nil))⟩
  stopL := fun k ys i H m S e => nomatch e
  itemL := fun k ys i x H m S e => nomatch e
theorem feeds_live {a : Addr} {k : Nat} : Feeds K tt (Itl K a) (.live k) (fun _ m _ => m[k]? = some a) where
  mono := fun H m S H' m' S' e f => by
    obtain ⟨t, rfl⟩ := f.2
    rw [List.getElem?_append_left (List.getElem?_eq_some_iff.mp e).1]; exact e
  stop := fun xs H m S e => nomatch e
  item := fun xs i x H m S e => nomatch e
  stopL := fun k' ys i H m S e hm ok hS hy => by
    cases e
    obtain ⟨vs, h1, h2⟩ := ok.at_ k a _ hm hS
    exact ⟨vs, SqL.of h1, by rw [h2.length]; exact List.getElem?_eq_none_iff.mp hy⟩
  itemL := fun k' ys i x H m S e hm ok hS hy => by
    cases e
    obtain ⟨vs, h1, h2⟩ := ok.at_ k a _ hm hS
    obtain ⟨v, hv, rv⟩ := h2.get hy
    refine ⟨⟨vs, v, SqL.of h1, hv⟩, fun w H' hy => ?_⟩
    obtain ⟨rfl, hy⟩ := hy
    have := hy vs (SqL.of h1)
    rw [hv] at this; cases this
    exact ⟨ok, .refl, .inl rv⟩
end

/-! ### iterables -/
def tDI (K : PySem.W.Frag) (tt : Tg) (W : WS) (g : Ev → St' → R Src) : TI := fun σ H Rr => ∃ m S ρ, StOk K H m S ∧ RelE K H m S σ ρ ∧ Run K (fun H' m' S' src => ∀ J inv, Feeds K tt J src inv → inv H' m' S' → Rr J H') (W σ) H m S (g ρ S)
theorem PI_imp {X : Cx} {tg e : Expr} {t t' : TI} (h : PI X tg e t) (i : ∀ σ H Q, t' σ H Q → t σ H Q) : PI X tg e t' := ⟨fun pins s σ H Q I hw => h.run pins s σ H Q I (i _ _ _ hw)⟩
section
variable {X : Cx} {tt : Tg} {W : WS} {tg a b : Expr} {ga gb : Ev → St' → R SV} {pos p : Pos}
/-- a list, a tuple, a text -/
theorem pi_three {t : TE} (ha : PE X a t) : PI X tg a (fun σ H Rr => t σ H fun x H1 => (∃ a, x = .ref a ∧ (∃ xs, SqL X.K H1 a xs) ∧ Rr (Itl X.K a) H1) ∨ (∃ a, x = .ref a ∧ (∃ xs, SqT X.K H1 a xs) ∧ Rr (Itt X.K a) H1) ∨ ∃ z, x = .str z ∧ Rr (Its z) H1) := by
  refine ⟨fun pins s σ H Rr I h => ?_⟩
  refine thn (ha.run pins s σ H _ I h) fun v s1 ⟨x, H1, I1, r1, q1⟩ => ?_
  rcases q1 with ⟨a, e, ⟨xs, hq⟩, q⟩ | ⟨a, e, ⟨xs, hq⟩, q⟩ | ⟨z, e, q⟩
  · subst e
    cases r1
    obtain ⟨its, rv, p, hz⟩ := I1.list hq
    refine wpAny_pyIter_list p.isList ?_
    refine ⟨s1.heap.objs.size, [s1.heap.objs.size], _, _, H1, rfl, I1.kept (t' := s1.toks) fun b o e => Heap.get?_push_of_some _ e, turn_list a _, ⟨_, Heap.get?_push_size _ rfl, rfl, rfl⟩, fun b hb => ?_, q⟩
    have e : b = s1.heap.objs.size := by simpa using hb
    subst e
    exact I1.fpOk (Nat.le_refl _) (I1.hok.fresh (Nat.le_refl _))
  · subst e
    cases r1
    obtain ⟨its, rv, p, hz⟩ := I1.tuple hq
    refine wpAny_pyIter_tuple (show s1.heap.IsTuple a its.toArray from p) ?_
    refine ⟨s1.heap.objs.size, [s1.heap.objs.size], _, _, H1, rfl, I1.kept (t' := s1.toks) fun b o e => Heap.get?_push_of_some _ e, turn_tuple a _, ⟨_, Heap.get?_push_size _ rfl, rfl, rfl⟩, fun b hb => ?_, q⟩
    have e : b = s1.heap.objs.size := by simpa using hb
    subst e
    exact I1.fpOk (Nat.le_refl _) (I1.hok.fresh (Nat.le_refl _))
  · subst e
    obtain ⟨t, rfl⟩ := r1
    cases ha : z.cps.all (· < 128)
    · exact wpAny_pyIter_wide ha (pi_one (tk := s1.toks) I1 _ (turn_str _ z t "str_iterator" (.inr rfl)) ⟨_, Heap.get?_push_size _ rfl, rfl, rfl⟩ q)
    · exact wpAny_pyIter_ascii ha (pi_one (tk := s1.toks) I1 _ (turn_str _ z t "str_ascii_iterator" (.inl rfl)) ⟨_, Heap.get?_push_size _ rfl, rfl, rfl⟩ q)
theorem pi_D (ha : PE X a (tD X.K W ga)) : PI X tg a (tDI X.K tt W fun ρ S => (ga ρ S).bind fun v S1 => R.opt (srcOf S1 v) S1) := by
  refine PI_imp (pi_three ha) fun σ H Q ⟨m, S, ρ, ok, re, h⟩ => ?_
  refine tD_bind ok re h fun x v S1 H1 m1 ok1 re1 f1 rv h1 => ?_
  obtain ⟨src, e, q⟩ := Run.opt h1 ok1
  have q := q H1 ok1 .refl
  cases x with
  | kd _ => cases e
  | td _ => cases e
  | ins _ _ _ => cases e
  | o k =>
    unfold srcOf at e
    simp only at e
    split at e
    · rename_i ys hS
      cases e
      obtain ⟨a, hm, rfl⟩ := rv
      obtain ⟨vs, h2, h3⟩ := ok1.at_ k a _ hm hS
      exact .inl ⟨a, rfl, ⟨vs, SqL.of h2⟩, q _ _ feeds_live hm⟩
    · cases e
  | t d =>
    have rv : Rep X.K H1 (Own m1 S1) v d := rv
    cases rv with
    | lst q1 r1 => cases e; exact .inl ⟨_, rfl, ⟨_, q1.sq⟩, q _ _ feeds_list ⟨_, q1, r1⟩⟩
    | tup q1 r1 => cases e; exact .inr (.inl ⟨_, rfl, ⟨_, q1.sq⟩, q _ _ feeds_tup ⟨_, q1, r1⟩⟩)
    | str z => cases e; exact .inr (.inr ⟨z, rfl, q _ _ feeds_str trivial⟩)
    | _ => cases e
theorem rngOk_of {n : Int} (h : rngOk n = true) : -(2 ^ 62) ≤ n ∧ n < 2 ^ 62 := by
  unfold rngOk at h
  exact of_decide_eq_true h
theorem pi_rng1 (hg : Gl X "range") (hm : X.mg "range" = none) (hst : noStar a = true) (ha : PE X a (tD X.K W ga)) : PI X tg (.Call (.Name "range" p) [a] [] pos) (tDI X.K tt W fun ρ S => (ga ρ S).bind fun v S1 => match v with
    | .t (.int n) => if rngOk n then .ok (.fix (rangeD 0 n)) S1 else .bad
    | _ => .bad) := by
  have hs : starEach [a] X.env = [(false, eval a X.env)] := by rw [star_cons hst, starEach]
  refine PI_imp (pi_range1 hg hm (pa_cons ha pa_nil (star_cons hst)) hs) fun σ H Q ⟨m, S, ρ, ok, re, h⟩ => ?_
  refine tD_bind ok re h fun x v S1 H1 m1 ok1 re1 f1 rv h1 => ?_
  split at h1
  · rename_i n
    split at h1
    · rename_i hr
      cases RepS.int rv
      obtain ⟨r1, r2⟩ := rngOk_of hr
      exact ⟨n, rfl, r1, r2, h1 H1 m1 ok1 .refl _ _ (feeds_range (by simp)) trivial⟩
    · exact h1.elim
  · exact h1.elim
theorem pi_rng2 (hg : Gl X "range") (hm : X.mg "range" = none) (hst : noStar a = true) (hst2 : noStar b = true) (ha : PE X a (tD X.K W ga)) (hb : PE X b (tD X.K W gb)) : PI X tg (.Call (.Name "range" p) [a, b] [] pos) (tDI X.K tt W fun ρ S => (ga ρ S).bind fun v S1 => (gb ρ S1).bind fun u S2 => match v, u with
    | .t (.int i), .t (.int j) => if rngOk i && rngOk j then .ok (.fix (rangeD i j)) S2 else .bad
    | _, _ => .bad) := by
  have hs2 : starEach [b] X.env = [(false, eval b X.env)] := by rw [star_cons hst2, starEach]
  have hs : starEach [a, b] X.env = [(false, eval a X.env), (false, eval b X.env)] := by rw [star_cons hst, hs2]
  refine PI_imp (pi_range2 hg hm (pa_cons ha (pa_cons hb pa_nil (star_cons hst2)) (star_cons hst)) hs hs2) fun σ H Q ⟨m, S, ρ, ok, re, h⟩ => ?_
  refine tD_bind ok re h fun x v S1 H1 m1 ok1 re1 f1 rv h1 => ?_
  refine tD_bind ok1 re1 h1 fun y u S2 H2 m2 ok2 re2 f2 ru h2 => ?_
  split at h2
  · rename_i i j
    split at h2
    · rename_i hr
      have hr := Bool.and_eq_true_iff.mp hr
      cases RepS.int rv
      cases RepS.int ru
      obtain ⟨r1, r2⟩ := rngOk_of hr.1
      obtain ⟨r3, r4⟩ := rngOk_of hr.2
      exact ⟨i, j, rfl, ⟨r1, r2, r3, r4⟩, h2 H2 m2 ok2 .refl _ _ (feeds_range rfl) trivial⟩
    · exact h2.elim
  · exact h2.elim
theorem pi_enumD {elts : List Expr} {kk : Nat} {tpos : Pos} (ht : isTp tt = true) (hg : Gl X "enumerate") (hm : X.mg "enumerate" = none) (hst : noStar a = true) (ha : PE X a (tD X.K W ga)) : PI X (.Tuple elts kk tpos) (.Call (.Name "enumerate" p) [a] [] pos) (tDI X.K tt W fun ρ S => (ga ρ S).bind fun v S1 => match v with
    | .t (.lst xs) => .ok (.fix (enumD xs)) S1
    | .t (.tup xs) => .ok (.fix (enumD xs)) S1
    | _ => .bad) := by
  have hs : starEach [a] X.env = [(false, eval a X.env)] := by rw [star_cons hst, starEach]
  refine PI_imp (pi_enumA hg hm (pa_cons ha pa_nil (star_cons hst)) hs) fun σ H Q ⟨m, S, ρ, ok, re, h⟩ => ?_
  refine tD_bind ok re h fun x v S1 H1 m1 ok1 re1 f1 rv h1 => ?_
  split at h1
  · cases (show Rep X.K H1 (Own m1 S1) v (.lst _) from rv) with
    | lst q1 r1 => exact ⟨_, rfl, .inl ⟨_, q1.sq, h1 H1 m1 ok1 .refl _ _ (feeds_enumL ht) ⟨_, q1, r1⟩⟩⟩
  · cases (show Rep X.K H1 (Own m1 S1) v (.tup _) from rv) with
    | tup q1 r1 => exact ⟨_, rfl, .inr ⟨_, q1.sq, h1 H1 m1 ok1 .refl _ _ (feeds_enumT ht) ⟨_, q1, r1⟩⟩⟩
  · exact h1.elim
/-! ### zip of a text and a tuple -/
/-- the sign and the item of one place, as a new tuple -/
def ItzST (K : PySem.W.Frag) (x : Str) (a : Addr) : It :=
  ⟨fun i H => ∃ (ys : List V) (y : V) (c : Nat), SqT K H a ys ∧ ys[i]? = some y ∧ x.cps[i]? = some c,
    fun i H v H' => ∃ (T : Addr) (c : Nat) (y : V), v = .ref T ∧ H T = none ∧ H' = upd H T (.tup [.str ⟨#[c]⟩, y]) ∧ x.cps[i]? = some c ∧ ∀ ys, SqT K H a ys → ys[i]? = some y,
    fun i H => ∃ ys : List V, SqT K H a ys ∧ i = min x.cps.size ys.length⟩
theorem turn_zipST {P : Program} {w : World} {K : PySem.W.Frag} {elts : List Expr} {kk : Nat} {tpos : Pos} {x : Str} {t : Tok} {a N : Nat} (haN : a < N) :
    Turn P w K (.Tuple elts kk tpos) (ItzST K x a) [N + 4, N + 2, N + 3, N, N + 1] (N + 4) (fun i h => IsZip h (N + 4) (N + 2) (N + 3) .none ∧ IsTupOf2 h (N + 2) (.ref N) (.ref (N + 1)) ∧ (∃ a1 a2, IsTupOf2 h (N + 3) a1 a2) ∧ h.IsStrIter N (strIterType x) x t i ∧ h.IsTupleIter (N + 1) a i) where
  mem := by simp
  obj := fun i h st b hb => by
    obtain ⟨hz, h1, ⟨a1, a2, h2⟩, ⟨o3, e3, c3, d3⟩, ⟨o4, e4, c4, d4⟩⟩ := st
    have e' : b = N + 4 ∨ b = N + 2 ∨ b = N + 3 ∨ b = N ∨ b = N + 1 := by simpa using hb
    rcases e' with z | z | z | z | z <;> subst z
    · exact ⟨_, hz, fun v q => nomatch q⟩
    · exact ⟨_, h1, fun v q => nomatch q⟩
    · exact ⟨_, h2, fun v q => nomatch q⟩
    · exact ⟨o3, e3, fun v q => by rw [d3] at q; cases q⟩
    · exact ⟨o4, e4, fun v q => by rw [d4] at q; cases q⟩
  keep := fun i h h' st k => by
    obtain ⟨hz, h1, ⟨a1, a2, h2⟩, ⟨o3, e3, c3, d3⟩, ⟨o4, e4, c4, d4⟩⟩ := st
    exact ⟨k _ (by simp) _ hz, k _ (by simp) _ h1, ⟨a1, a2, k _ (by simp) _ h2⟩, ⟨o3, k _ (by simp) _ e3, c3, d3⟩, ⟨o4, k _ (by simp) _ e4, c4, d4⟩⟩
  item := by
    intro X hP hw hK hc i pins s σ H E I hf st hg
    subst hP hw hK
    obtain ⟨ys, y, c, hq, hy, hx⟩ := hg
    obtain ⟨its, rv, p, hz⟩ := I.tuple hq
    obtain ⟨u, hu, ru⟩ := rv.get hy
    have p' : s.heap.IsTuple a its.toArray := p
    have hh : X.A.in1.handled = none := I.ok.hd hc
    have D1 := Draws.text (prog := X.prog) (w := X.w) hh N x t
    have D2 := Draws.tuple (prog := X.prog) (w := X.w) hh (N + 1) a (Nat.ne_of_lt (Nat.lt_succ_of_lt haN)) its.toArray
    have G := GoesN.zip2 (elts := elts) (x1 := kk) (pos := tpos) (zip_sep2 (N := N) (fp1 := []) (fp2 := [a]) (fun b hb => by simp at hb) (fun b hb => by simp at hb; subst hb; exact haN)) D1 D2
    have hi : i < min x.cps.size its.toArray.size := by
      have h1 := (Array.getElem?_eq_some_iff.mp hx).1
      have h2 := (List.getElem?_eq_some_iff.mp hu).1
      rw [List.size_toArray]
      exact Nat.lt_min.mpr ⟨h1, h2⟩
    have hN : N + 4 < s.heap.objs.size := Heap.lt_size st.1
    refine wpAny_mono (G.goes i s (fun v s2 => ∃ xx H', L2.Inv X pins σ H' s2 ∧ RelV xx v ∧ (ItzST X.K x a).yld i H xx H' ∧ (IsZip s2.heap (N + 4) (N + 2) (N + 3) .none ∧ IsTupOf2 s2.heap (N + 2) (.ref N) (.ref (N + 1)) ∧ (∃ a1 a2, IsTupOf2 s2.heap (N + 3) a1 a2) ∧ s2.heap.IsStrIter N (strIterType x) x t (i + 1) ∧ s2.heap.IsTupleIter (N + 1) a (i + 1)) ∧ ∀ b ∈ [N + 4, N + 2, N + 3, N, N + 1], H' b = none) E hi ⟨st.1, st.2.1, st.2.2.1, st.2.2.2.1, st.2.2.2.2, p'⟩ fun v h' tk hY st' hk _ => ?_) (fun r s1 h1 => h1) fun _ _ e => e
    obtain ⟨T, xv, yv, rfl, hT, ⟨c', t', hc', rfl⟩, hyv, hTt⟩ := hY
    rw [hx] at hc'; cases hc'
    have : yv = u := by
      have h1 : its.toArray[i]? = some u := by simpa using hu
      rw [h1] at hyv; exact (Option.some.inj hyv).symm
    subst this
    have new : ObjOk X.prog X.w (upd H T (.tup [.str ⟨#[c]⟩, y])) h' T (.tup [.str ⟨#[c]⟩, y]) :=
      ⟨by show 2 ≤ sizeLine; decide, [.str ⟨#[c]⟩ t', yv], .cons ⟨_, rfl⟩ (.cons ru .nil), hTt⟩
    have I1 : L2.Inv X pins σ (upd H T (.tup [.str ⟨#[c]⟩, y])) { s with heap := h', toks := tk } :=
      I.turnedNew (ch := [N + 4, N + 2, N + 3, N, N + 1]) (fun b ob hb q => hk b ob (fun z => hb (by simp at z ⊢; rcases z with z | z | z | z <;> simp [z])) q) hf hT new
    exact ⟨.ref T, _, I1, rfl, ⟨T, c, y, rfl, I.hok.fresh hT, rfl, hx, fun zs hzs => by rw [I.tuple_inj hzs hq]; exact hy⟩, ⟨st'.1, st'.2.1, st'.2.2.1, st'.2.2.2.1, st'.2.2.2.2.1⟩, fun b hb => by
      have hb' : (b : Nat) ≤ N + 4 := by
        have e' : (b : Nat) = N + 4 ∨ (b : Nat) = N + 2 ∨ (b : Nat) = N + 3 ∨ (b : Nat) = N ∨ (b : Nat) = N + 1 := by simpa using hb
        rcases e' with e' | e' | e' | e' | e' <;> rw [e'] <;> omega
      have hne : b ≠ T := Nat.ne_of_lt (Nat.lt_of_le_of_lt hb' (Nat.lt_of_lt_of_le hN hT))
      rw [upd_ne hne]
      exact (hf b hb).1⟩
  done := by
    intro X hP hw hK hc i pins s σ H E I hf st hg
    subst hP hw hK
    obtain ⟨ys, hq, hn⟩ := hg
    obtain ⟨its, rv, p, hz⟩ := I.tuple hq
    have p' : s.heap.IsTuple a its.toArray := p
    have hh : X.A.in1.handled = none := I.ok.hd hc
    have D1 := Draws.text (prog := X.prog) (w := X.w) hh N x t
    have D2 := Draws.tuple (prog := X.prog) (w := X.w) hh (N + 1) a (Nat.ne_of_lt (Nat.lt_succ_of_lt haN)) its.toArray
    have G := GoesN.zip2 (elts := elts) (x1 := kk) (pos := tpos) (zip_sep2 (N := N) (fp1 := []) (fp2 := [a]) (fun b hb => by simp at hb) (fun b hb => by simp at hb; subst hb; exact haN)) D1 D2
    have hi : i = min x.cps.size its.toArray.size := by
      have hl : its.toArray.size = ys.length := by rw [List.size_toArray]; exact rv.length.symm
      rw [hn, hl]
    subst hi
    refine G.stops s (fun s1 => L2.Inv X pins σ H s1) E ⟨st.1, st.2.1, st.2.2.1, st.2.2.2.1, st.2.2.2.2, p'⟩ fun h' tk hk _ => ?_
    exact I.turnedL (fun b ob hb q => hk b ob (fun z => hb (by simp at z ⊢; rcases z with z | z | z | z <;> simp [z])) q) hf
  self := fun A i s Q E st h => wpAny_pyIter_zip st.1 h
theorem feeds_zipST {x : Str} {a : Addr} {ys : List D} {K : PySem.W.Frag} (ht : isTp tt = true) : Feeds K tt (ItzST K x a) (.fix (zipD (x.cps.toList.map fun c => D.str ⟨#[c]⟩) ys)) (fun H m S => ∃ vs, QT K H (Own m S) a vs ∧ Reps K H (Own m S) vs ys) where
  mono := fun H m S H' m' S' ⟨vs, q, r⟩ f => ⟨vs, q.mono f.1, r.mono f.1⟩
  stop := fun zs H m S e ⟨vs, q, r⟩ ok => by
    cases e
    refine ⟨vs, q.sq, ?_⟩
    rw [r.length]; simp [zipD]
  item := fun zs i y H m S e ⟨vs, q, r⟩ ok hx => by
    cases e
    obtain ⟨d, z, hx', hz, rfl⟩ := zipD_get hx
    obtain ⟨u, hu, ru⟩ := r.get hz
    rw [List.getElem?_map] at hx'
    obtain ⟨c, hc, rfl⟩ := Option.map_eq_some_iff.mp hx'
    have hc' : x.cps[i]? = some c := by simpa using hc
    refine ⟨⟨vs, u, c, q.sq, hu, hc'⟩, fun w H' hy => ?_⟩
    obtain ⟨T, c', u', rfl, hT, rfl, h1, h2⟩ := hy
    rw [hc'] at h1; cases h1
    have := h2 vs q.sq
    rw [hu] at this; cases this
    exact ⟨(ok.laid hT _).1, (ok.laid hT _).2, repi_new ht ok hT (.cons (.str _) (.cons ru .nil))⟩
  stopL := fun k ys i H m S e => nomatch e
  itemL := fun k ys i x H m S e => nomatch e
/-- zip of a text and a tuple -/
theorem pi_zipST {elts : List Expr} {kk : Nat} {tpos : Pos} {ta : TA} (hg : Gl X "zip") (hm : X.mg "zip" = none) (ha : PA X [a, b] ta) (hst : noStar a = true) (hst2 : noStar b = true) :
    PI X (.Tuple elts kk tpos) (.Call (.Name "zip" p) [a, b] [] pos) (fun σ H R => ta σ H fun vs H1 => ∃ z r ys, vs = [.str z, .ref r] ∧ SqT X.K H1 r ys ∧ R (ItzST X.K z r) H1) := by
  have hall : [b].all noStar = true := by simp [hst2]
  refine ⟨fun pins s σ H R I h => ?_⟩
  refine Call_ (ld_blt I hg hm PyProof.Rows.boot_zip (PyProof.Rows.callWith_type1 (thn (ha.run pos pins s σ H _ I h) fun us s1 ⟨vs, H1, I1, r1, q1⟩ => ?_) (star_cons hst) (star_any hall)))
  obtain ⟨z, r, ys, rfl, hq, q⟩ := q1
  cases r1 with
  | cons r1 rr =>
    cases rr with
    | cons r2 rr =>
      cases rr
      obtain ⟨t, rfl⟩ := r1
      cases r2
      obtain ⟨its, rv, p2, _⟩ := I1.tuple hq
      have p' : s1.heap.IsTuple r its.toArray := p2
      obtain ⟨o2, ho2, _⟩ := id p2
      refine zip_begins2 (begins_text z t) (begins_tuple r its.toArray) trivial p' fun h' hz hTI hTO h1 h2 hsz hk => wpAny_pyIter_zip hz ?_
      have I2 : L2.Inv X pins σ H1 { s1 with heap := h' } := I1.kept (t' := s1.toks) hk
      refine ⟨s1.heap.objs.size + 4, [s1.heap.objs.size + 4, s1.heap.objs.size + 2, s1.heap.objs.size + 3, s1.heap.objs.size, s1.heap.objs.size + 1], _, _, H1, rfl, I2, turn_zipST (t := t) (Heap.lt_size ho2), ⟨hz, hTI, ⟨_, _, hTO⟩, ⟨_, h1, rfl, rfl⟩, ⟨_, h2, rfl, rfl⟩⟩, fun c hcm => ?_, q⟩
      have hle : s1.heap.objs.size ≤ c := by
        have e' : c = s1.heap.objs.size + 4 ∨ c = s1.heap.objs.size + 2 ∨ c = s1.heap.objs.size + 3 ∨ c = s1.heap.objs.size ∨ c = s1.heap.objs.size + 1 := by simpa using hcm
        rcases e' with z | z | z | z | z <;> rw [z] <;> first | exact Nat.le_add_right _ _ | exact Nat.le_refl _
      exact I1.fpOk hle (I1.hok.fresh hle)
theorem pi_zipsD {elts : List Expr} {kk : Nat} {tpos : Pos} (ht : isTp tt = true) (hg : Gl X "zip") (hm : X.mg "zip" = none) (hst : noStar a = true) (hst2 : noStar b = true) (ha : PE X a (tD X.K W ga)) (hb : PE X b (tD X.K W gb)) : PI X (.Tuple elts kk tpos) (.Call (.Name "zip" p) [a, b] [] pos) (tDI X.K tt W fun ρ S => (ga ρ S).bind fun v S1 => (gb ρ S1).bind fun u S2 => match v, u with
    | .t (.str x), .t (.tup ys) => .ok (.fix (zipD (x.cps.toList.map fun c => .str ⟨#[c]⟩) ys)) S2
    | _, _ => .bad) := by
  refine PI_imp (pi_zipST hg hm (pa_cons ha (pa_cons hb pa_nil (star_cons hst2)) (star_cons hst)) hst hst2) fun σ H Q ⟨m, S, ρ, ok, re, h⟩ => ?_
  refine tD_bind ok re h fun x v S1 H1 m1 ok1 re1 f1 rv h1 => ?_
  refine tD_bind ok1 re1 h1 fun y u S2 H2 m2 ok2 re2 f2 ru h2 => ?_
  split at h2
  · cases (show Rep X.K H2 (Own m2 S2) v (.str _) from rv.mono f2)
    cases (show Rep X.K H2 (Own m2 S2) u (.tup _) from ru) with
    | tup q2 r2 => exact ⟨_, _, _, rfl, q2.sq, h2 H2 m2 ok2 .refl _ _ (feeds_zipST ht) ⟨_, q2, r2⟩⟩
  · exact h2.elim
theorem pi_zipD {elts : List Expr} {kk : Nat} {tpos : Pos} (ht : isTp tt = true) (hg : Gl X "zip") (hm : X.mg "zip" = none) (hst : noStar a = true) (hst2 : noStar b = true) (ha : PE X a (tD X.K W ga)) (hb : PE X b (tD X.K W gb)) : PI X (.Tuple elts kk tpos) (.Call (.Name "zip" p) [a, b] [] pos) (tDI X.K tt W fun ρ S => (ga ρ S).bind fun v S1 => (gb ρ S1).bind fun u S2 => match v, u with
    | .t (.lst xs), .t (.lst ys) => .ok (.fix (zipD xs ys)) S2
    | .t (.tup xs), .t (.tup ys) => .ok (.fix (zipD xs ys)) S2
    | _, _ => .bad) := by
  have hall : [b].all noStar = true := by simp [hst2]
  refine PI_imp (RZ.pi_zipA hg hm (pa_cons ha (pa_cons hb pa_nil (star_cons hst2)) (star_cons hst)) (star_cons hst) (star_any hall)) fun σ H Q ⟨m, S, ρ, ok, re, h⟩ => ?_
  refine tD_bind ok re h fun x v S1 H1 m1 ok1 re1 f1 rv h1 => ?_
  refine tD_bind ok1 re1 h1 fun y u S2 H2 m2 ok2 re2 f2 ru h2 => ?_
  split at h2
  · cases (show Rep X.K H2 (Own m2 S2) v (.lst _) from rv.mono f2) with
    | lst q1 r1 => cases (show Rep X.K H2 (Own m2 S2) u (.lst _) from ru) with
      | lst q2 r2 => exact ⟨_, _, _, _, rfl, .inl ⟨q1.sq, q2.sq, h2 H2 m2 ok2 .refl _ _ (feeds_zipL ht) ⟨⟨_, q1, r1⟩, ⟨_, q2, r2⟩⟩⟩⟩
  · cases (show Rep X.K H2 (Own m2 S2) v (.tup _) from rv.mono f2) with
    | tup q1 r1 => cases (show Rep X.K H2 (Own m2 S2) u (.tup _) from ru) with
      | tup q2 r2 => exact ⟨_, _, _, _, rfl, .inr ⟨q1.sq, q2.sq, h2 H2 m2 ok2 .refl _ _ (feeds_zipT ht) ⟨⟨_, q1, r1⟩, ⟨_, q2, r2⟩⟩⟩⟩
  · exact h2.elim
end
end M

/-! targets, comprehensions -/
namespace M
open PySem PySem.Spec PyProof.Rows L2

/-! ### targets -/
def tgs : Tg → List Nat
  | .v i => [i]
  | .tp is => is
def gD (K : PySem.W.Frag) (tg : Tg) : TG := fun v σ H Q => ∃ m S ρ d ρ', StOk K H m S ∧ RelE K H m S σ ρ ∧ RepI K H (Own m S) tg v d ∧ bindTg tg d ρ = some ρ' ∧ ∀ σ', RelE K H m S σ' ρ' → σ'.length = σ.length → (∀ j, j ∉ tgs tg → σ'[j]? = σ[j]?) → Q σ' H
theorem PG_imp {X : Cx} {e : Expr} {t t' : TG} (h : PG X e t) (i : ∀ v σ H Q, t' v σ H Q → t v σ H Q) : PG X e t' := ⟨fun pins s σ H v u Q I r hw => h.run pins s σ H v u Q I r (i _ _ _ _ hw)⟩
theorem PGs_imp {X : Cx} {e : List Expr} {t t' : TGs} (h : PGs X e t) (i : ∀ v σ H Q, t' v σ H Q → t v σ H Q) : PGs X e t' := ⟨fun pins s σ H v u Q I r hw => h.run pins s σ H v u Q I r (i _ _ _ _ hw)⟩
/-- names one after the other -/
inductive TgsOk (X : Cx) : List Nat → List Expr → Prop
  | nil : TgsOk X [] []
  | cons {i : Nat} {is : List Nat} {x : Str} {p : Pos} {es : List Expr} : X.N[i]? = some x → Loc X.env.scope x → (X.fn x = true ∨ X.env.scope.names.lookup x = some .local) → TgsOk X is es → TgsOk X (i :: is) (.Name x p :: es)
def gDs (K : PySem.W.Frag) (is : List Nat) : TGs := fun vs σ H Q => ∃ m S ρ ds ρ', StOk K H m S ∧ RelE K H m S σ ρ ∧ Reps K H (Own m S) vs ds ∧ setTg is ds ρ = some ρ' ∧ ∀ σ', RelE K H m S σ' ρ' → σ'.length = σ.length → (∀ j, j ∉ is → σ'[j]? = σ[j]?) → Q σ' H
theorem setTg_len : ∀ {is : List Nat} {ds : List D} {ρ ρ' : Ev}, setTg is ds ρ = some ρ' → ds.length = is.length
  | [], [], _, _, _ => rfl
  | i :: is, d :: ds, ρ, ρ', h => by rw [List.length_cons, List.length_cons, setTg_len (is := is) h]
  | [], _ :: _, _, _, h => nomatch h
  | _ :: _, [], _, _, h => nomatch h
section
variable {X : Cx} {pos : Pos}
theorem pg_v {i : Nat} {x : Str} (hN : X.N.Nodup) (hi : X.N[i]? = some x) (hx : Loc X.env.scope x) (hf : X.fn x = true ∨ X.env.scope.names.lookup x = some .local) : PG X (.Name x pos) (gD X.K (.v i)) :=
  PG_imp (pg_name hN hi hx hf) fun v σ H Q ⟨m, S, ρ, d, ρ', ok, re, r, e, q⟩ => by
    cases e
    rcases r with r | ⟨z, _⟩
    · exact q _ (re.set i r) (by simp) fun j hj => List.getElem?_set_ne (fun z => hj (by simp [tgs, z]))
    · cases z
theorem pgs_D (hN : X.N.Nodup) : ∀ {is : List Nat} {es : List Expr}, TgsOk X is es → PGs X es (gDs X.K is) ∧ (assignEach es X.env).length = is.length ∧ (assignEach es X.env).findIdx? (·.1) = none
  | _, _, .nil => by
    refine ⟨PGs_imp pgs_nil fun vs σ H Q ⟨m, S, ρ, ds, ρ', ok, re, r, e, q⟩ => ?_, by rw [assignEach]; rfl, by rw [assignEach]; rfl⟩
    cases ds with
    | nil => cases r; cases e; exact ⟨rfl, q σ re rfl fun _ _ => rfl⟩
    | cons d ds => cases e
  | _, _, .cons (i := i) (is := is) (x := x) (p := p) (es := es) hi hx hf h => by
    obtain ⟨h1, h2, h3⟩ := pgs_D hN h
    have hs : assignEach (.Name x p :: es) X.env = (false, assign (.Name x p) X.env) :: assignEach es X.env := by rw [assignEach]; intro _ _ z; cases z
    refine ⟨PGs_imp (pgs_cons (pg_name hN hi hx hf) h1 (by rw [hs]; rfl)) fun vs σ H Q ⟨m, S, ρ, ds, ρ', ok, re, r, e, q⟩ => ?_, by rw [hs, List.length_cons, h2, List.length_cons], by rw [hs, List.findIdx?_cons]; simp [h3]⟩
    cases ds with
    | nil => cases e
    | cons d ds =>
      cases r with
      | cons r rs =>
        refine ⟨_, _, rfl, m, S, _, ds, ρ', ok, re.set i (d := .t d) r, rs, e, fun σ' re' hl hj => q σ' re' (by rw [hl]; simp) fun j hj' => ?_⟩
        rw [hj j (fun z => hj' (List.mem_cons_of_mem _ z))]
        exact List.getElem?_set_ne (fun z => hj' (by simp [z]))
theorem pg_tp {is : List Nat} {es : List Expr} {k : Nat} (hc : X.calm = true) (hN : X.N.Nodup) (h : TgsOk X is es) : PG X (.Tuple es k pos) (gD X.K (.tp is)) := by
  obtain ⟨h1, h2, h3⟩ := pgs_D hN h
  refine PG_imp (pg_tup hc h1 h2 h3) fun v σ H Q ⟨m, S, ρ, d, ρ', ok, re, r, e, q⟩ => ?_
  rcases r with r | ⟨_, b, vs, ds, rfl, rfl, q1, r1⟩
  · cases r with
    | tup q1 r1 =>
      have e : setTg is _ ρ = some ρ' := e
      exact ⟨_, _, rfl, q1.sq, by rw [r1.length]; exact setTg_len e, m, S, ρ, _, ρ', ok, re, r1, e, q⟩
    | _ => cases e
  · have e : setTg is ds ρ = some ρ' := e
    exact ⟨_, _, rfl, q1, by rw [r1.length]; exact setTg_len e, m, S, ρ, _, ρ', ok, re, r1, e, q⟩
end

/-! ### no exception within -/
section
variable {K : PySem.W.Frag} {W W' : WS} {σ : L2.St} {H : Hp} {m : List Addr} {S : St'}
theorem Run.nox {α : Type} {P : Hp → List Addr → St' → α → Prop} {Wd Wd' : WD} {r : R α} (h : Run K P Wd H m S r.nox) : Run K P Wd' H m S r := by
  cases r with
  | ok a S' => exact h
  | exc c p S' => exact h.elim
  | bad => exact h
theorem Run.imp {α : Type} {P P' : Hp → List Addr → St' → α → Prop} {Wd : WD} {r : R α} (h : Run K P Wd H m S r) (i : ∀ H' m' S' a, StOk K H' m' S' → Fr H m S H' m' S' → P H' m' S' a → P' H' m' S' a) : Run K P' Wd H m S r := by
  cases r with
  | ok a S' => exact fun H' m' ok' f' => i H' m' S' a ok' f' (h H' m' ok' f')
  | exc c p S' => exact h
  | bad => exact h
theorem Run.mono {α : Type} {P : Hp → List Addr → St' → α → Prop} {Wd : WD} {H1 : Hp} {m1 : List Addr} {S1 : St'} {r : R α} (h : Run K P Wd H m S r) (f : Fr H m S H1 m1 S1) : Run K P Wd H1 m1 S1 r := by
  cases r with
  | ok a S' => exact fun H' m' ok' f' => h H' m' ok' (f.trans f')
  | exc c p S' => exact fun H' m' ok' f' => h H' m' ok' (f.trans f')
  | bad => exact h
end

/-! ### the turn of a comprehension -/
theorem wipe_get {σ : L2.St} : ∀ {vs : List Nat} {j : Nat}, j ∉ vs → (wipe σ vs)[j]? = σ[j]?
  | [], _, _ => rfl
  | v :: vs, j, h => by
    unfold wipe
    rw [List.getElem?_set_ne (fun z => h (by simp [z]))]
    exact wipe_get fun z => h (List.mem_cons_of_mem _ z)
theorem wipe_at {σ : L2.St} : ∀ {vs : List Nat} {j : Nat}, j ∈ vs → j < σ.length → (wipe σ vs)[j]? = some none
  | v :: vs, j, h, hl => by
    unfold wipe
    by_cases hv : v = j
    · subst hv
      rw [List.getElem?_set_self (by rw [wipe_length]; exact hl)]
    · rw [List.getElem?_set_ne hv]
      exact wipe_at ((List.mem_cons.mp h).resolve_left (fun z => hv z.symm)) hl
theorem wipe_eq {σ σ' : L2.St} {vs : List Nat} (hl : σ'.length = σ.length) (h : ∀ j, j ∉ vs → σ'[j]? = σ[j]?) : wipe σ' vs = wipe σ vs := by
  apply List.ext_getElem?
  intro j
  by_cases hj : j ∈ vs
  · by_cases hlt : j < σ.length
    · rw [wipe_at hj hlt, wipe_at hj (by rw [hl]; exact hlt)]
    · rw [List.getElem?_eq_none (by rw [wipe_length]; omega), List.getElem?_eq_none (by rw [wipe_length]; omega)]
  · rw [wipe_get hj, wipe_get hj, h j hj]
/-- the targets of a comprehension are set whatever stood there -/
theorem setTg_any : ∀ {is : List Nat} {ds : List D} {ρ ρ' : Ev}, setTg is ds ρ = some ρ' → ∀ ρ2 : Ev, ρ2.length = ρ.length → ∃ ρ3, setTg is ds ρ2 = some ρ3 ∧ ρ3.length = ρ.length ∧ (∀ j, j ∈ is → ρ3[j]? = ρ'[j]?) ∧ ∀ j, j ∉ is → ρ3[j]? = ρ2[j]? ∧ ρ'[j]? = ρ[j]?
  | [], [], ρ, ρ', h, ρ2, hl => by cases h; exact ⟨ρ2, rfl, hl, (fun j hj => absurd hj (by simp)), fun j _ => ⟨rfl, rfl⟩⟩
  | i :: is, d :: ds, ρ, ρ', h, ρ2, hl => by
    obtain ⟨ρ3, h1, h2, h3, h4⟩ := setTg_any (ρ := ρ.set i (some (.t d))) h (ρ2.set i (some (.t d))) (by simp [hl])
    refine ⟨ρ3, h1, by simpa using h2, fun j hj => ?_, fun j hj => ?_⟩
    · by_cases hji : j ∈ is
      · exact h3 j hji
      · have hj : j = i := (List.mem_cons.mp hj).resolve_right hji
        subst hj
        rw [(h4 j hji).1, (h4 j hji).2]
        by_cases hlt : j < ρ.length
        · rw [List.getElem?_set_self hlt, List.getElem?_set_self (by omega)]
        · rw [List.getElem?_eq_none (by simp; omega), List.getElem?_eq_none (by simp; omega)]
    · have hji : j ∉ is := fun z => hj (List.mem_cons_of_mem _ z)
      have hi : i ≠ j := fun z => hj (by simp [z])
      rw [(h4 j hji).1, (h4 j hji).2, List.getElem?_set_ne hi, List.getElem?_set_ne hi]
      exact ⟨rfl, rfl⟩
  | [], _ :: _, _, _, h, _, _ => nomatch h
  | _ :: _, [], _, _, h, _, _ => nomatch h
def wipeE (ρ : Ev) : List Nat → Ev
  | [] => ρ
  | v :: vs => (wipeE ρ vs).set v none
theorem wipeE_length (ρ : Ev) : ∀ vs : List Nat, (wipeE ρ vs).length = ρ.length
  | [] => rfl
  | v :: vs => by unfold wipeE; rw [List.length_set, wipeE_length ρ vs]
theorem wipeE_get {ρ : Ev} : ∀ {vs : List Nat} {j : Nat}, j ∉ vs → (wipeE ρ vs)[j]? = ρ[j]?
  | [], _, _ => rfl
  | v :: vs, j, h => by
    unfold wipeE
    rw [List.getElem?_set_ne (fun z => h (by simp [z]))]
    exact wipeE_get fun z => h (List.mem_cons_of_mem _ z)
theorem RelE.wipe {K : PySem.W.Frag} {H : Hp} {m : List Addr} {S : St'} {σ : L2.St} {ρ : Ev} (h : RelE K H m S σ ρ) : ∀ vs : List Nat, RelE K H m S (L2.wipe σ vs) (wipeE ρ vs)
  | [] => h
  | v :: vs => by
    have ih := h.wipe vs
    refine ⟨by unfold L2.wipe wipeE; simp [ih.1], fun i d e => ?_⟩
    unfold wipeE at e
    unfold L2.wipe
    by_cases hi : v = i
    · subst hi
      by_cases hl : v < (wipeE ρ vs).length
      · rw [List.getElem?_set_self hl] at e; cases e
      · rw [List.getElem?_eq_none (by simp; omega)] at e; cases e
    · rw [List.getElem?_set_ne hi] at e ⊢
      exact ih.2 i d e
/-- two runs of slots that agree but for none -/
theorem RelE.of_bind {K : PySem.W.Frag} {H : Hp} {m : List Addr} {S : St'} {tg : Tg} {d : D} {ρ ρ' : Ev} (h : bindTg tg d ρ = some ρ') : ∃ ρ3, bindTg tg d (wipeE ρ (tgs tg)) = some ρ3 ∧ ∀ σ, RelE K H m S σ ρ3 → (∀ j e, j ∉ tgs tg → ρ[j]? = some (some e) → ∃ v, σ[j]? = some (some v) ∧ RepS K H m S v e) → RelE K H m S σ ρ' := by
  cases tg with
  | v i =>
    cases h
    refine ⟨_, rfl, fun σ re hj => ⟨?_, fun j e he => ?_⟩⟩
    · have := re.1; simpa [wipeE_length] using this
    · by_cases hji : i = j
      · subst hji
        have hlt : i < ρ.length := by have := (List.getElem?_eq_some_iff.mp he).1; simpa using this
        refine re.2 i e ?_
        rw [List.getElem?_set_self hlt] at he
        rw [List.getElem?_set_self (by rw [wipeE_length]; exact hlt)]; exact he
      · rw [List.getElem?_set_ne hji] at he
        exact hj j e (fun z => hji (Eq.symm (by simpa [tgs] using z))) he
  | tp is =>
    cases d with
    | tup ds =>
      obtain ⟨ρ3, h1, h2, h3, h4⟩ := setTg_any (show setTg is ds ρ = some ρ' from h) (wipeE ρ is) (wipeE_length _ _)
      refine ⟨ρ3, h1, fun σ re hj => ⟨?_, fun j e he => ?_⟩⟩
      · obtain ⟨ρ4, _, h5, _, _⟩ := setTg_any (show setTg is ds ρ = some ρ' from h) ρ rfl
        have e4 : ρ4 = ρ' := by
          rename_i hh _ _
          rw [show setTg is ds ρ = some ρ' from h] at hh
          exact (Option.some.inj hh).symm
        rw [re.1, h2, ← h5, e4]
      · by_cases hji : j ∈ is
        · exact re.2 j e (by rw [h3 j hji]; exact he)
        · rw [(h4 j hji).2] at he
          exact hj j e hji he
    | _ => cases h
end M

/-! names from a list: so many items are drawn of any walk, then it is at its end -/
namespace M
open PySem PySem.Spec PyProof.Rows L2
section
variable {prog : Program} {w : World} {A : Around} {E : Value → Shared → Prop}
theorem draw_walks {I : Addr} {fp wr : List Addr} {n : Nat} {P : Nat → Value → Prop} {St : Nat → Heap → Prop} (W : Walks prog w A I fp wr n P St) (k : Nat) :
    ∀ (i : Nat) (s : Shared) (Q : List Value → Shared → Prop), i + k ≤ n → St i s.heap →
    (∀ vs h' tk, vs.length = k → (∀ j v, vs[j]? = some v → P (i + j) v) → St (i + k) h' → (∀ b o, b ∉ wr → s.heap.get? b = some o → h'.get? b = some o) → Q vs { s with heap := h', toks := tk }) → wpAny (model prog w) A (draw (.ref I) k) Q E s := by
  induction k with
  | zero =>
    intro i s Q _ st q
    have := q [] s.heap s.toks rfl (fun j v e => by simp at e) st fun _ _ _ e => e
    exact wpAny_pure this
  | succ k ih =>
    intro i s Q hk st q
    rw [draw]
    refine wpAny_bind (W.item i s _ _ (by omega) st fun v h1 t1 p1 st1 k1 => ?_)
    dsimp only
    refine wpAny_bind (wpAny_holding (ih (i + 1) _ _ (by omega) st1 fun vs h2 t2 hl hv st2 k2 => wpAny_pure ?_))
    refine q (v :: vs) h2 t2 (by rw [List.length_cons, hl]) (fun j u e => ?_) (by rw [show i + (k + 1) = i + 1 + k by omega]; exact st2) fun b o hb e => k2 b o hb (k1 b o hb e)
    cases j with
    | zero => cases e; exact p1
    | succ j =>
      have := hv j u e
      rwa [show i + 1 + j = i + (j + 1) by omega] at this
theorem unpack_list {l : Addr} {items : Array Value} {targets : List (Bool × (Value → Sem Unit))} {s : Shared} {Q : Unit → Shared → Prop} (hh : A.handled = none) (hl : s.heap.IsList l items) (hn : targets.length = items.size) (hstar : targets.findIdx? (·.1) = none)
    (h : ∀ h' tk, (∀ b o, s.heap.get? b = some o → h'.get? b = some o) → wpAny (model prog w) A (assignInOrder (targets.map (·.2)) items.toList) Q E { s with heap := h', toks := tk }) : wpAny (model prog w) A (unpack (.ref l) targets) Q E s := by
  have hlt : l < s.heap.objs.size := by obtain ⟨_, e, _⟩ := hl; exact Heap.lt_size e
  have W := Walks.list (prog := prog) (w := w) (A := A) hh s.heap.objs.size l (Nat.ne_of_lt hlt) items
  unfold unpack
  rw [hn, hstar]
  refine wpAny_bind (wpAny_holding ?_)
  unfold unpackItems notIterableAtAll
  refine wpAny_bind (wpAny_bind (wpAny_specialOf hl.typeIs slot_list_iter.lookup ?_))
  refine wpAny_pure ?_
  simp only [Bool.false_eq_true, if_false]
  refine wpAny_bind (wpAny_holding (wpAny_pyIter_list hl ?_))
  refine wpAny_bind (wpAny_holding (draw_walks W items.size 0 _ _ (by omega) ⟨⟨_, Heap.get?_push_size _ rfl, rfl, rfl⟩, hl.push _⟩ fun vs h1 t1 hvl hvs st1 k1 => ?_))
  have hvi : vs = items.toList := by
    apply List.ext_getElem?
    intro j
    rcases Nat.lt_or_ge j vs.length with hj | hj
    · have := hvs j _ (List.getElem?_eq_getElem hj)
      rw [Nat.zero_add] at this
      rw [List.getElem?_eq_getElem hj, ← this, Array.getElem?_toList]
    · rw [List.getElem?_eq_none hj, List.getElem?_eq_none (by rw [Array.length_toList]; omega)]
  rw [if_neg (by omega)]
  rw [Nat.zero_add] at st1
  refine wpAny_bind (wpAny_holding (W.done _ _ _ st1 fun h2 t2 k2 => ?_))
  simp only [Option.isSome_none, Bool.false_eq_true, if_false]
  refine wpAny_pure ?_
  rw [hvi]
  refine h h2 t2 fun b o e => ?_
  have hb : b ∉ [s.heap.objs.size] := fun z => absurd (Heap.lt_size e) ((List.mem_singleton.mp z) ▸ Nat.lt_irrefl _)
  exact k2 b o hb (k1 b o hb (Heap.get?_push_of_some _ e))
end
def gLst (K : PySem.W.Frag) (n : Nat) (t : TGs) : TG := fun v σ H Q => ∃ a xs, v = .ref a ∧ SqL K H a xs ∧ xs.length = n ∧ t xs σ H Q
section
variable {X : Cx} {pos : Pos}
theorem pg_lst {es : List Expr} {k : Nat} {t : TGs} {n : Nat} (hc : X.calm = true) (h : PGs X es t) (hn : (assignEach es X.env).length = n) (hst : (assignEach es X.env).findIdx? (·.1) = none) : PG X (.Tuple es k pos) (gLst X.K n t) := by
  refine ⟨fun pins s σ H v u Q I r ⟨a, xs, e1, hq, hl, hw⟩ => ?_⟩
  subst e1
  cases r
  obtain ⟨its, rv, ht, _⟩ := I.list hq
  rw [assign_Tuple]
  refine wpAny_bind (wpAny_standAt (unpack_list (I.ok.hd hc) ht.isList (by simp [hn, ← hl, rv.length]) hst fun h' tk hk => ?_))
  exact h.run pins _ σ H xs _ Q (I.kept (t' := tk) hk) (by simpa using rv) hw
end
end M

/-! comprehensions -/
namespace M
open PySem PySem.Spec PyProof.Rows L2

theorem take_prefix {m1 m' : List Addr} {L : Addr} (h : (m1 ++ [L]) <+: m') : m'.take (m1.length + 1) = m1 ++ [L] := by
  obtain ⟨t, rfl⟩ := h
  rw [List.take_append_of_le_length (by simp), List.take_of_length_le (by simp)]
theorem prefix_at {m1 m' : List Addr} {L : Addr} (h : (m1 ++ [L]) <+: m') : m'[m1.length]? = some L := by
  obtain ⟨t, rfl⟩ := h
  rw [List.getElem?_append_left (by simp)]
  simp
section
variable {K : PySem.W.Frag} {W0 : WS} {Wd : WD} {σ : L2.St} {ρ : Ev} {H1 : Hp} {m1 : List Addr} {S1 : St'} {L : Addr} {Q : VK} {tg : Tg} {gc : Ev → St' → R Bool} {ge : Ev → St' → R SV}
theorem RunL.bindAt {α : Type} {P : Hp → List Addr → St' → α → Prop} {H : Hp} {m : List Addr} {S : St'} {r : R α} {f : α → St' → R (List D)} (h : RunL K Q Wd H1 m1 S1 (r.bind f)) (fr : Fr H1 m1 S1 H m S)
    (hk : ∀ a S2 H2 m2, StOk K H2 m2 S2 → Fr H m S H2 m2 S2 → RunL K Q Wd H1 m1 S1 (f a S2) → P H2 m2 S2 a) : Run K P Wd H m S r := by
  cases r with
  | bad => exact h
  | exc c p S' => exact fun H' m' ok' f' => h H' m' ok' (fr.trans f')
  | ok a S2 => exact fun H2 m2 ok2 f2 => hk a S2 H2 m2 ok2 f2 h
/-- between two turns: the new list at L is the object behind m1 -/
structure LcAt (K : PySem.W.Frag) (σ : L2.St) (ρ : Ev) (H1 : Hp) (m1 : List Addr) (S1 : St') (L : Addr) (inv : Hp → List Addr → St' → Prop) (H : Hp) (m : List Addr) (S : St') : Prop where
  ok : StOk K H m S
  pre : (m1 ++ [L]) <+: m
  re : RelE K H m S σ ρ
  iv : inv H m S
  fr : Fr H1 m1 S1 H m S
theorem LcAt.step {inv : Hp → List Addr → St' → Prop} {H H' : Hp} {m m' : List Addr} {S S' : St'} (a : LcAt K σ ρ H1 m1 S1 L inv H m S) (mono : ∀ H m S H' m' S', inv H m S → Fr H m S H' m' S' → inv H' m' S') (ok : StOk K H' m' S') (f : Fr H m S H' m' S') : LcAt K σ ρ H1 m1 S1 L inv H' m' S' :=
  ⟨ok, a.pre.trans f.2, a.re.mono f, mono _ _ _ _ _ _ a.iv f, a.fr.trans f⟩
theorem lc_end {inv : Hp → List Addr → St' → Prop} {H : Hp} {m : List Addr} {S : St'} (hk : m1.length = S1.length) (a : LcAt K σ ρ H1 m1 S1 L inv H m S) (h : RunL K Q Wd H1 m1 S1 (lcEnd S1.length S)) : Q (.ref L) H := by
  unfold lcEnd at h
  split at h
  · rename_i acc hS
    have hlt : S1.length < S.length := (List.getElem?_eq_some_iff.mp hS).1
    have e1 : S.take (S1.length + 1) = S.take S1.length ++ [.lst acc] := by rw [List.take_add_one, hS]; rfl
    have e2 : m.take (S1.length + 1) = m1 ++ [L] := by rw [← hk]; exact take_prefix a.pre
    have t := a.ok.take (S1.length + 1)
    have f : Fr H1 m1 S1 H (m1 ++ [L]) (S.take S1.length ++ [.lst acc]) := by
      refine ⟨fun b o e n => ?_, ⟨[L], rfl⟩⟩
      obtain ⟨h1, h2⟩ := a.fr.1 b o e n
      refine ⟨h1, fun z => h2 ?_⟩
      rw [← e1, ← e2] at z
      exact own_take z
    rw [e1, e2] at t
    exact h H m1 L t f (List.prefix_refl _)
  · exact h.elim
theorem lc_turn {inv : Hp → List Addr → St' → Prop} (mono : ∀ H m S H' m' S', inv H m S → Fr H m S H' m' S' → inv H' m' S') {H : Hp} {m : List Addr} {S : St'} {x : D} {v : V} {rest : Unit → St' → R (List D)} (hk : m1.length = S1.length)
    (a : LcAt K σ ρ H1 m1 S1 L inv H m S) (rv : RepI K H (Own m S) tg v x) (h : RunL K Q Wd H1 m1 S1 ((lcTurn tg gc ge S1.length x ρ S).bind rest)) :
    gD K tg v (wipe σ (tgs tg)) H fun σ2 H2 => wipe σ2 (tgs tg) = wipe σ (tgs tg) ∧ tDT K W0 gc σ2 H2 fun b H3 =>
      if b = true then tD K W0 ge σ2 H3 fun y H4 => ∃ acc, H4 L = some (.lst acc) ∧ acc.length < sizeLine ∧ (∃ m' S', LcAt K σ ρ H1 m1 S1 L inv (upd H4 L (.lst (acc ++ [y]))) m' S' ∧ RunL K Q Wd H1 m1 S1 (rest () S'))
      else ∃ m' S', LcAt K σ ρ H1 m1 S1 L inv H3 m' S' ∧ RunL K Q Wd H1 m1 S1 (rest () S') := by
  unfold lcTurn at h
  split at h
  · exact h.elim
  · rename_i ρ' hb
    obtain ⟨ρ3, hb3, hre⟩ := RelE.of_bind (K := K) (H := H) (m := m) (S := S) hb
    refine ⟨m, S, wipeE ρ (tgs tg), x, ρ3, a.ok, a.re.wipe _, rv, hb3, fun σ2 re2 hl2 hj2 => ⟨?_, ?_⟩⟩
    · have := wipe_eq (vs := tgs tg) hl2 hj2
      rw [this]
      exact wipe_eq (wipe_length _ _) fun j hj => wipe_get hj
    · have re3 : RelE K H m S σ2 ρ' := hre σ2 re2 fun j e hj he => by
        obtain ⟨u, h1, h2⟩ := a.re.2 j e he
        exact ⟨u, by rw [hj2 j hj, wipe_get hj]; exact h1, h2⟩
      rw [R.bind_assoc] at h
      refine ⟨m, S, ρ', a.ok, re3, Run.nox (Wd := Wd) (RunL.bindAt h a.fr fun b S2 H2 m2 ok2 f2 h2 => ?_)⟩
      have a2 := a.step mono ok2 f2
      cases b with
      | false => exact ⟨m2, S2, a2, h2⟩
      | true =>
        simp only [if_true, R.bind_assoc] at h2 ⊢
        refine ⟨m2, S2, ρ', ok2, re3.mono f2, Run.nox (Wd := Wd) (RunL.bindAt h2 a2.fr fun y S3 H3 m3 ok3 f3 h3 u ru => ?_)⟩
        have a3 := a2.step mono ok3 f3
        unfold lcPut at h3
        split at h3
        · rename_i xd S4 hg
          obtain ⟨ok4, f4, r4⟩ := ok3.grab ru hg
          have a4 := a3.step mono ok4 f4
          split at h3
          · rename_i acc hS
            split at h3
            · rename_i hz
              have hL : m3[S1.length]? = some L := by rw [← hk]; exact prefix_at a4.pre
              obtain ⟨vs, g1, g2⟩ := ok4.at_ _ _ _ hL hS
              obtain ⟨ok5, f5⟩ := ok4.write hL hS (fun z => nomatch z) (g2.append (.cons r4 .nil))
              exact ⟨vs, g1, by rw [g2.length]; exact hz, m3, _, a4.step mono ok5 f5, h3⟩
            · exact h3.elim
          · exact h3.elim
        · exact h3.elim
end
section
variable {X : Cx} {W W0 : WS} {pos : Pos}
theorem pd_lcL {elt tge iter : Expr} {ifs : List Expr} {scope : Scope} {own : List (Str × Nat)} {tg : Tg} {gi : Ev → St' → R Src} {gc : Ev → St' → R Bool} {ge : Ev → St' → R SV} (hc : X.calm = true) (hN : X.N.Nodup) (hi : PI X tge iter (tDI X.K tg W gi)) (ok : BlkOk X.N X.env.scope scope own) (hown : own.map (·.2) = tgs tg)
    (hg : ∀ (s : Shared) (H : Hp) (C : Addr) (cl : List (Str × Addr)) (fp : List Addr), PG (X.blk s H scope (compEnvC scope cl C X.env) fp) tge (gD X.K tg)) (ht : ∀ (s : Shared) (H : Hp) (C : Addr) (cl : List (Str × Addr)) (fp : List Addr), PTs (X.blk s H scope (compEnvC scope cl C X.env) fp) ifs (tDT X.K W0 gc))
    (he : ∀ (s : Shared) (H : Hp) (C : Addr) (cl : List (Str × Addr)) (fp : List Addr), PE (X.blk s H scope (compEnvC scope cl C X.env) fp) elt (tD X.K W0 ge)) (hs : ∀ x, foldedSetIterable iter X.env x = pure x) :
    ∀ σ H Q, tDL X.K W (fun ρ S => (gi ρ S).bind fun src S1 => lcSrc tg gc ge src ρ S1) σ H Q → tLc (tDI X.K tg W gi) (gD X.K tg) (tDT X.K W0 gc) (tD X.K W0 ge) (own.map (·.2)) σ H Q := by
  intro σ H Q ⟨m, S, ρ, ok0, re, h⟩
  rw [hown]
  refine ⟨m, S, ρ, ok0, re, RunL.bind h fun src S1 H1 m1 ok1 f1 h1 J inv fd iv L hL => ?_⟩
  have re1 := re.mono f1
  obtain ⟨ok2, f2⟩ := ok1.push hL (vs := []) (xs := []) .nil
  have a2 : LcAt X.K σ ρ H1 m1 S1 L inv (upd H1 L (.lst [])) (m1 ++ [L]) (S1 ++ [.lst []]) := ⟨ok2, List.prefix_refl _, re1.mono f2, fd.mono _ _ _ _ _ _ iv f2, f2⟩
  cases src with
  | fix xs =>
    refine ⟨fun i n H' => n = xs.length - i ∧ i ≤ xs.length ∧ ∃ m' S', LcAt X.K σ ρ H1 m1 S1 L inv H' m' S' ∧ RunL X.K Q (W σ) H1 m1 S1 (lcFix tg gc ge S1.length (xs.drop i) ρ S'), ⟨xs.length, by simp, Nat.zero_le _, _, _, a2, h1⟩, ?_⟩
    rintro i n H' ⟨rfl, hi', m', S', a', h'⟩
    by_cases hlt : i < xs.length
    · refine .inr ?_
      have hx : xs[i]? = some xs[i] := List.getElem?_eq_getElem hlt
      obtain ⟨go, yl⟩ := fd.item xs i _ H' m' S' rfl a'.iv a'.ok hx
      refine ⟨go, fun H'' => ∃ m'' S'', LcAt X.K σ ρ H1 m1 S1 L inv H'' m'' S'' ∧ RunL X.K Q (W σ) H1 m1 S1 (lcFix tg gc ge S1.length (xs.drop (i + 1)) ρ S''), fun H'' hh => ⟨xs.length - (i + 1), by omega, rfl, hlt, hh⟩, fun v H2 hy => ?_⟩
      obtain ⟨ok3, f3, rv⟩ := yl v H2 hy
      rw [List.drop_eq_getElem_cons hlt, lcFix] at h'
      exact lc_turn fd.mono ok1.len (a'.step fd.mono ok3 f3) rv h'
    · have e : i = xs.length := by omega
      subst e
      rw [List.drop_length, lcFix] at h'
      exact .inl ⟨fd.stop xs H' m' S' rfl a'.iv a'.ok, lc_end ok1.len a' h'⟩
  | live k =>
    unfold lcSrc at h1
    simp only at h1
    split at h1
    · rename_i ys hys
      refine ⟨fun i n H' => ∃ m' S', LcAt X.K σ ρ H1 m1 S1 L inv H' m' S' ∧ RunL X.K Q (W σ) H1 m1 S1 (lcLive tg gc ge S1.length k n i ρ S'), ⟨ys.length, _, _, a2, h1⟩, ?_⟩
      rintro i n H' ⟨m', S', a', h'⟩
      unfold lcLive at h'
      split at h'
      · rename_i zs hzs
        split at h'
        · rename_i hz
          exact .inl ⟨fd.stopL k zs i H' m' S' rfl a'.iv a'.ok hzs hz, lc_end ok1.len a' h'⟩
        · exact h'.elim
        · rename_i _ d n hd
          obtain ⟨go, yl⟩ := fd.itemL k zs i _ H' m' S' rfl a'.iv a'.ok hzs hd
          refine .inr ⟨go, fun H'' => ∃ m'' S'', LcAt X.K σ ρ H1 m1 S1 L inv H'' m'' S'' ∧ RunL X.K Q (W σ) H1 m1 S1 (lcLive tg gc ge S1.length k n (i + 1) ρ S''), fun H'' hh => ⟨n, by omega, hh⟩, fun v H2 hy => ?_⟩
          obtain ⟨ok3, f3, rv⟩ := yl v H2 hy
          exact lc_turn fd.mono ok1.len (a'.step fd.mono ok3 f3) rv h'
      · exact h'.elim
    · exact h1.elim
end
end M

/-! len({e for .. in ..}), len(set(xs)): the members tuples of ints -/
namespace M
open PySem PySem.Spec PyProof.Rows L2

/-- the set has all that came, and nothing else -/
def Mz (L Ls : List (Addr × List Int)) : Prop := (∀ p ∈ Ls, p ∈ L) ∧ ∀ p ∈ L, p.2 ∈ Ls.map (·.2)
theorem nd_len {α : Type} [DecidableEq α] : ∀ {l d : List α}, l.Nodup → (∀ x ∈ l, x ∈ d) → l.length ≤ d.length
  | [], d, _, _ => by simp
  | x :: l, d, n, h => by
    have h1 := List.nodup_cons.mp n
    have := nd_len (l := l) (d := d.erase x) h1.2 fun y hy => (List.mem_erase_of_ne (fun e => h1.1 (by rw [← e]; exact hy))).mpr (h y (by simp [hy]))
    have e2 := List.length_erase_of_mem (h x (by simp))
    have := List.length_pos_of_mem (h x (by simp))
    simp only [List.length_cons]
    omega
theorem Mz.keys {L Ls : List (Addr × List Int)} (h : Mz L Ls) (n : (Ls.map (·.2)).Nodup) : Ls.length = (dset (L.map (·.2))).length := by
  have p : (Ls.map (·.2)).Perm (dset (L.map (·.2))) := (List.perm_ext_iff_of_nodup n (dset_nodup _)).mpr fun k => by
    rw [dset_mem]
    constructor
    · intro hk
      obtain ⟨q, hq, rfl⟩ := List.mem_map.mp hk
      exact List.mem_map.mpr ⟨q, h.1 q hq, rfl⟩
    · intro hk
      obtain ⟨q, hq, rfl⟩ := List.mem_map.mp hk
      exact h.2 q hq
  simpa using p.length_eq
theorem Mz.le {L Ls : List (Addr × List Int)} (h : Mz L Ls) (n : (Ls.map (·.2)).Nodup) : Ls.length ≤ L.length := by
  rw [h.keys n]
  simpa using dset_le _ (L.map (·.2)) rfl
theorem Mz.nil : Mz [] [] := ⟨fun _ h => h, fun _ h => absurd h (by simp)⟩
theorem Mz.add {L Ls Ls' : List (Addr × List Int)} {a : Addr} {k : List Int} (h : Mz L Ls) (c1 : k ∈ Ls.map (·.2) → Ls' = Ls) (c2 : k ∉ Ls.map (·.2) → Ls'.Perm ((a, k) :: Ls)) : Mz (L ++ [(a, k)]) Ls' := by
  by_cases c : k ∈ Ls.map (·.2)
  · rw [c1 c]
    refine ⟨fun p hp => List.mem_append_left _ (h.1 p hp), fun p hp => ?_⟩
    rcases List.mem_append.mp hp with z | z
    · exact h.2 p z
    · rw [List.mem_singleton.mp z]; exact c
  · have pm := c2 c
    refine ⟨fun p hp => ?_, fun p hp => ?_⟩
    · rcases List.mem_cons.mp (pm.mem_iff.mp hp) with z | z
      · rw [z]; simp
      · exact List.mem_append_left _ (h.1 p z)
    · rw [(pm.map (·.2)).mem_iff, List.map_cons, List.mem_cons]
      rcases List.mem_append.mp hp with z | z
      · exact .inr (h.2 p z)
      · rw [List.mem_singleton.mp z]; exact .inl rfl
theorem st0_at {P : Program} {w : World} {h h' : Heap} {a : Addr} {L : List (Addr × List Int)} (R : SetT0 P w h a L) (k : ∀ o, h.get? a = some o → h'.get? a = some o) : SetT0 P w h' a L := by
  obtain ⟨es, ep, t, ⟨o, h1, h2⟩, r⟩ := R.ex
  exact ⟨es, ep, t, ⟨o, k o h1, h2⟩, r⟩
theorem st0_raw {P : Program} {w : World} {h : Heap} {a : Addr} {L : List (Addr × List Int)} (R : SetT0 P w h a L) : ∃ o, h.get? a = some o ∧ ∀ v, o.data ≠ .cell v := by
  obtain ⟨es, ep, t, ⟨o, h1, _, h3⟩, _⟩ := R.ex
  exact ⟨o, h1, fun v z => by rw [h3] at z; cases z⟩
theorem st0_nd {P : Program} {w : World} {h : Heap} {a : Addr} {L : List (Addr × List Int)} (R : SetT0 P w h a L) : (L.map (·.2)).Nodup := by
  obtain ⟨es, ep, t, _, _, _, n, _⟩ := R.ex
  exact n
theorem add_tup {P : Program} {w : World} {A : Around} {s : Shared} {E : Value → Shared → Prop} {Q : Value → Shared → Prop} {D x : Addr} {k : List Int} {L : List (Addr × List Int)} {es : Array (Int × Value)} {ep : Nat} {t : SetTable} (hu : A.units + 2 < cLine) (R : SetTR P w s.heap D L es ep t) (hx : IsT P w s.heap k x) (few : L.length + 1 < 64)
    (q : ∀ h' tk L', Heap.SameBut D s.heap h' → SetT0 P w h' D L' → (k ∈ L.map (·.2) → L' = L) → (k ∉ L.map (·.2) → L'.Perm ((x, k) :: L)) → Q .none { s with heap := h', toks := tk }) : wpAny (model P w) A (call (.builtin "set.add") [.ref D, .ref x]) Q E s := by
  obtain ⟨o, ho, hex, hd⟩ := R.ob
  refine wpAny_call_entry F.slot_set_add ⟨o, ho, hex.1⟩ F.entry_set_add ?_ (F.args_set_add_2 _ _)
  unfold Builtin.«set.add» Builtin.Frozenset.oneOther
  simp only [List.isEmpty_nil, bind_assoc]
  unfold Builtin.Frozenset.addrOf setAdd
  refine wpAny_bind (wpAny_pure ?_); try dsimp only
  refine wpAny_bind (wpAny_pure ?_); try dsimp only
  refine wpAny_bind (wpAny_holding (wpAny_bind (wpAny_pyHash_tuple (by first | omega | (simp [Around.in1]; omega)) hx ?_)))
  refine add_at (s := { s with toks := s.toks + (k.length + 1) }) R hx (by first | omega | (simp [Around.in1]; omega)) few fun b h' L' es' ep' t' sb R' c1 c2 => ?_
  show wpAny _ _ (ret Value.none) _ _ _
  exact wpAny_pure ⟨_, rfl, q h' _ L' sb R'.t0 c1 c2⟩
section
variable {X : Cx}
/-- W: by the turn, a measure, what was added (by address) -/
def tLsc (K : PySem.W.Frag) (wi : TI) (g : TG) (tt : TT) (te : TE) (vs : List Nat) : TE := fun σ H Q => wi σ H fun J H1 => ∃ W : Nat → Nat → List (Addr × List Int) → Hp → Prop, (∃ m, W 0 m [] H1) ∧ ∀ i m L H, W i m L H →
  (J.stop i H ∧ (∀ p ∈ L, SqT K H p.1 (p.2.map V.int)) ∧ Q (.int ((dset (L.map (·.2))).length : Nat)) H) ∨ (J.go i H ∧ ∃ Nx : List (Addr × List Int) → Hp → Prop, (∀ L' H', Nx L' H' → ∃ m', m' < m ∧ W (i + 1) m' L' H') ∧ ∀ x H', J.yld i H x H' → g x (wipe σ vs) H' fun σ2 H2 => wipe σ2 vs = wipe σ vs ∧ tt σ2 H2 fun b H3 =>
      if b = true then te σ2 H3 fun y H4 => ∃ (a : Addr) (k : List Int), y = .ref a ∧ SqT K H4 a (k.map V.int) ∧ (∀ p ∈ L, SqT K H4 p.1 (p.2.map V.int)) ∧ L.length + 1 < 64 ∧ Nx (L ++ [(a, k)]) H4 else Nx L H3)
theorem pe_lsc {elt tg iter : Expr} {ifs : List Expr} {scope : Scope} {own : List (Str × Nat)} {p pos pos2 : Pos} {wi : TI} {g : TG} {tt : TT} {te : TE} (hu : X.A.units + 70 < cLine) (hc : X.calm = true) (hN : X.N.Nodup) (hl : Gl X "len") (hlm : X.mg "len" = none) (hi : PI X tg iter wi) (ok : BlkOk X.N X.env.scope scope own)
    (hg : ∀ (s : Shared) (H : Hp) (C : Addr) (cl : List (Str × Addr)) (fp : List Addr), PG (X.blk s H scope (compEnvC scope cl C X.env) fp) tg g)
    (ht : ∀ (s : Shared) (H : Hp) (C : Addr) (cl : List (Str × Addr)) (fp : List Addr), PTs (X.blk s H scope (compEnvC scope cl C X.env) fp) ifs tt)
    (he : ∀ (s : Shared) (H : Hp) (C : Addr) (cl : List (Str × Addr)) (fp : List Addr), PE (X.blk s H scope (compEnvC scope cl C X.env) fp) elt te) (hs : ∀ x, foldedSetIterable iter X.env x = pure x) :
    PE X (.Call (.Name "len" p) [.SetComp elt [⟨tg, iter, ifs, 0⟩] scope pos2] [] pos) (tLsc X.K wi g tt te (own.map (·.2))) := by
  refine ⟨fun pins s σ H Q I h => ?_⟩
  refine Call_ (ld_blt I hl hlm PySem.boot_len (PyProof.Rows.callWith_builtin1 (PyProof.Rows.args_cons ?_ rfl) rfl rfl))
  rw [PpSet.eval_SetComp]
  refine wpAny_comprehension_free (use := none) rfl hs (closure_ok fun y hy e => (ok.free y hy e).elim (fun k => I.ok.has _ (.inl k)) fun k => I.ok.has _ (.inr k)) ok.kind (fun y hy e => by rw [ok.uniq y hy, e]) (thn (hi.run pins s σ H _ I h) fun xv s1 hx => thn hx fun itv s2 h2 => ?_)
  obtain ⟨it, fp, tn, J, H2, rfl, I2, T, st2, f2, W, ⟨m0, w0⟩, turn⟩ := h2
  refine PpSet.newSet_ok (newEnv_comp ?_)
  have hDn : H2 s2.heap.objs.size = none := I2.hok.fresh (Nat.le_refl _)
  have fD : FpOk X pins H2 s2.heap.objs.size := I2.fpOk (Nat.le_refl _) hDn
  generalize hob : ({ cls := .type "set", dict := none, data := .set #[] 0 (.fresh 0 0 (!X.w.params.followText "set-order")) } : Obj) = ob
  generalize hs3 : ({ s2 with heap := s2.heap.push ob } : Shared) = s3
  have h3 : s3.heap = s2.heap.push ob := by rw [← hs3]
  have kp : ∀ b o, s2.heap.get? b = some o → s3.heap.get? b = some o := fun b o e => by rw [h3]; exact Heap.get?_push_of_some _ e
  have I3 : Inv X pins σ H2 s3 := by rw [← hs3]; exact I2.kept (t' := s2.toks) fun b o e => Heap.get?_push_of_some _ e
  have gD3 : s3.heap.get? s2.heap.objs.size = some ob := by rw [h3]; exact Heap.get?_push_size _ (by rw [← hob]; rfl)
  have z3 : s3.heap.objs.size = s2.heap.objs.size + 1 := by rw [h3, Heap.size_push]
  have lt : ∀ b ∈ fp, b < s2.heap.objs.size := fun b hb => (T.obj _ _ st2 b hb).elim fun o z => Heap.lt_size z.1
  generalize hD : s2.heap.objs.size = D at hDn fD gD3 z3 lt ⊢
  have nD : ∀ b ∈ fp, b ≠ D := fun b hb => Nat.ne_of_lt (lt b hb)
  have f3 : ∀ b ∈ D :: fp, FpOk X pins H2 b ∧ b < s3.heap.objs.size := fun b hb => (List.mem_cons.mp hb).elim (fun e => by rw [e, z3]; exact ⟨fD, Nat.lt_succ_self _⟩) fun hb => ⟨f2 b hb, by rw [z3]; exact Nat.lt_succ_of_lt (lt b hb)⟩
  have T3 : SetT0 X.prog X.w s3.heap D [] := (setTR_fresh (by rw [gD3, ← hob])).t0
  have I4 := block_start I3 ok hN f3
  generalize hcl : cellsFrom (s3.heap.objs.size + 1) scope.names (cloFrom X.env.cells scope.names []) = cl at I4
  have pg := hg s3 H2 s3.heap.objs.size cl (D :: fp)
  have pt := ht s3 H2 s3.heap.objs.size cl (D :: fp)
  have pe := he s3 H2 s3.heap.objs.size cl (D :: fp)
  have cL : (compEnvC scope cl s3.heap.objs.size X.env).locals = s3.heap.objs.size := rfl
  generalize hQf : (fun (v : Value) (s₂ : Shared) => wpAny (model X.prog X.w) X.A (spliced (backTo pos (starEach [] X.env))) (fun vs s₃ => wpAny (model X.prog X.w) X.A (call (.builtin "len") (v :: vs)) (EP X pins σ Q) X.xe s₃) X.xe s₂) = Qf
  show codeAny (model X.prog X.w) X.A (.compStart (.SetComp elt [⟨tg, iter, ifs, 0⟩] scope pos2) 0 (.ref it) (.ref D) (compEnvC scope cl s3.heap.objs.size X.env)) (compPost (model X.prog X.w) X.A X.xe none _ (.ref D) s3.heap.objs.size) { s3 with heap := pushCells (s3.heap.push { cls := .type "dict", data := .dict #[] }) scope.names }
  generalize hce : compEnvC scope cl s3.heap.objs.size X.env = ce at I4 pg pt pe cL ⊢
  generalize hs4 : ({ s3 with heap := pushCells (s3.heap.push { cls := .type "dict", data := .dict #[] }) scope.names } : Shared) = s4 at I4 ⊢
  have kp4 : ∀ b o, s3.heap.get? b = some o → s4.heap.get? b = some o := fun b o e => by rw [← hs4]; exact pushCells_keeps _ _ _ _ (Heap.get?_push_of_some _ e)
  have st4 : tn 0 s4.heap := T.keep _ _ _ st2 fun b _ o e => kp4 b o (kp b o e)
  have n4 : ∀ b ∈ D :: fp, H2 b = none := fun b hb => (f3 b hb).1.1
  have stat : ∀ {pl : List (Addr × Obj)} {σ' : L2.St} {H' : Hp} {s' : Shared}, Inv (X.blk s3 H2 scope ce (D :: fp)) pl σ' H' s' → ∀ b ∈ D :: fp, H' b = none → (∀ p ∈ pl, p.1 ≠ b) → FpOk (X.blk s3 H2 scope ce (D :: fp)) pl H' b := fun {pl σ' H' s'} I' b hb hn hp =>
    ⟨hn, (I'.ok.exf b hb).1, I'.ok.exfs b hb, .inl hb, (I'.ok.exf b hb).2, fun p z => hp p (by simpa using (show p ∈ ([] : List (Addr × Obj)) ++ pl from z))⟩
  have loop : codeAny (model X.prog X.w) X.A (.compLoop (.SetComp elt [⟨tg, iter, ifs, 0⟩] scope pos2) 0 (.ref it) (.ref D) ce) (compPost (model X.prog X.w) X.A X.xe none Qf (.ref D) s3.heap.objs.size) s4 := by
    refine PpSet.compLoopS_any (fun n s' => ∃ i H' L Ls, Inv (X.blk s3 H2 scope ce (D :: fp)) [] (wipe σ (own.map (·.2))) H' s' ∧ tn i s'.heap ∧ (∀ b ∈ D :: fp, H' b = none) ∧ SetT0 X.prog X.w s'.heap D Ls ∧ Mz L Ls ∧ W i n L H') ?_ m0 ⟨0, H2, [], [], I4, st4, n4, st0_at T3 (kp4 D), Mz.nil, w0⟩
    rintro n s5 ⟨i, H5, L, Ls, I5, st5, n5, t5, mt, w5⟩
    obtain ⟨o5, go5, nc5⟩ := st0_raw t5
    have I5p : Inv (X.blk s3 H2 scope ce (D :: fp)) (pinsAt [D] s5.heap) (wipe σ (own.map (·.2))) H5 s5 := I5.pinned (fp := [D]) (fun b hb => by rw [List.mem_singleton.mp hb]; exact stat I5 D (by simp) (n5 D (by simp)) fun p hp => absurd hp (by simp)) fun b hb => by rw [List.mem_singleton.mp hb]; exact ⟨o5, go5, nc5⟩
    have mp : (D, o5) ∈ pinsAt [D] s5.heap := mem_pinsAt (by simp) go5
    have only : ∀ b ∈ fp, ∀ p ∈ pinsAt [D] s5.heap, p.1 ≠ b := fun b hb p hp e => nD b hb (by rw [← e]; simpa using (of_pinsAt hp).1)
    have at5 : ∀ {s' : Shared}, s'.heap.get? D = some o5 → SetT0 X.prog X.w s'.heap D Ls := fun {s'} e => st0_at t5 fun o z => by rw [go5] at z; cases z; exact e
    rcases turn i n L H5 w5 with ⟨stop, sq, qq⟩ | ⟨go, Nx, hNx, step⟩
    · refine thnF (T.done (X.blk s3 H2 scope ce (D :: fp)) rfl rfl rfl hc i _ s5 _ H5 (fun _ _ => False) I5p (fun b hb => stat I5p b (by simp [hb]) (n5 b (by simp [hb])) (only b hb)) st5 stop) fun r s6 ⟨hr, I6⟩ => ?_
      subst hr
      have I7 : Inv X pins σ H5 s6 := I3.call' (ch := D :: fp) I6.os I6.base I6.hok I6.bare fun b hb => ⟨(f3 b hb).1.2.2.2.1, (f3 b hb).1.2.1, (f3 b hb).1.2.2.2.2.1, (f3 b hb).1.2.2.2.2.2⟩
      have t6 : SetT0 X.prog X.w s6.heap D Ls := at5 (I6.pin (D, o5) (List.mem_append_right _ mp)).1
      have nC : H5 s3.heap.objs.size = none := by rw [← cL]; exact I6.free
      obtain ⟨m, hn, _⟩ := I6.loc
      obtain ⟨c0, c1, c2, c3, c4, c5⟩ : FpOk X pins H5 s3.heap.objs.size := I3.fpOk (Nat.le_refl _) nC
      refine ⟨m, by rw [← cL]; exact hn, fun h' sb => ?_⟩
      have I8 := I7.turned (t' := s6.toks) (fun b o hb e => (sb.2 b hb).trans e) c0 c1 c3 c4 c5
      have t8 : SetT0 X.prog X.w h' D Ls := st0_at t6 fun o e => (sb.2 D (by rw [z3]; exact Nat.ne_of_lt (Nat.lt_succ_self _))).trans e
      obtain ⟨es, ep, t, R⟩ := t8.full fun p hp => I8.isT (sq p (mt.1 p hp))
      rw [← hQf]
      refine PyProof.Rows.args_nil ?_
      obtain ⟨o, ho, hex, hd⟩ := R.ob
      have hn : es.size = (dset (L.map (·.2))).length := (SetTR.size (s := { s6 with heap := h' }) R).trans (mt.keys R.nd)
      have hle := R.few
      have hkk := mt.keys R.nd
      exact call_len_set ho hex hd (SetTR.fits (s := { s6 with heap := h' }) R) (by rw [hn]; first | omega | (unfold scanBound at *; omega)) ⟨.int ((dset (L.map (·.2))).length : Nat), H5, I8.tok _, ⟨_, by rw [hn]⟩, qq⟩
    · refine thnF (T.item (X.blk s3 H2 scope ce (D :: fp)) rfl rfl rfl hc i _ s5 _ H5 (fun _ _ => False) I5p (fun b hb => stat I5p b (by simp [hb]) (n5 b (by simp [hb])) (only b hb)) st5 go) fun r s6 ⟨u, hr, h6⟩ => ?_
      subst hr
      refine thnF h6 fun _ s7 ⟨x, H7, I7, r7, y7, st7, n7⟩ => ?_
      have I7' := I7.pinned (fp := fp) (fun b hb => stat I7 b (by simp [hb]) (n7 b hb) (only b hb)) (T.obj _ _ st7)
      refine thnF (pg.run _ s7 _ H7 x u _ I7' r7 (step x H7 y7)) fun _ s8 ⟨σ8, H8, I8, hw8, q8⟩ => ?_
      refine thnF (pt.run _ s8 σ8 H8 _ I8 q8) fun b s9 ⟨H9, I9, q9⟩ => ?_
      have isD : ∀ {s' : Shared} {H' : Hp}, Inv (X.blk s3 H2 scope ce (D :: fp)) (pinsAt [D] s5.heap ++ pinsAt fp s7.heap) σ8 H' s' → s'.heap.get? D = some o5 ∧ H' D = none := fun {s' H'} I' =>
        let z := I'.pin (D, o5) (List.mem_append_right _ (List.mem_append_left _ mp))
        ⟨z.1, z.2.1⟩
      have less : ∀ {s' : Shared} {H' : Hp}, Inv (X.blk s3 H2 scope ce (D :: fp)) (pinsAt [D] s5.heap ++ pinsAt fp s7.heap) σ8 H' s' → Inv (X.blk s3 H2 scope ce (D :: fp)) (pinsAt fp s7.heap) σ8 H' s' := fun {s' H'} I' => I'.pins_of fun p hp => I'.pin p (List.mem_append_right _ (List.mem_append_right _ hp))
      have fin : ∀ {s' : Shared} {H' : Hp} {L' Ls' : List (Addr × List Int)}, Inv (X.blk s3 H2 scope ce (D :: fp)) (pinsAt fp s7.heap) σ8 H' s' → H' D = none → SetT0 X.prog X.w s'.heap D Ls' → Mz L' Ls' → Nx L' H' → ∃ m, m < n ∧ ∃ i H' L Ls, Inv (X.blk s3 H2 scope ce (D :: fp)) [] (wipe σ (own.map (·.2))) H' s' ∧ tn i s'.heap ∧ (∀ b ∈ D :: fp, H' b = none) ∧ SetT0 X.prog X.w s'.heap D Ls ∧ Mz L Ls ∧ W i m L H' := fun {s' H' L' Ls'} I' hD' t' mt' nx => by
        obtain ⟨m', hm, w'⟩ := hNx L' H' nx
        have pin' : ∀ b ∈ fp, ∀ o, s7.heap.get? b = some o → s'.heap.get? b = some o ∧ H' b = none := fun b hb o e => let z := I'.pin (b, o) (List.mem_append_right _ (mem_pinsAt hb e)); ⟨z.1, z.2.1⟩
        refine ⟨m', hm, i + 1, H', L', Ls', (I'.pins_of fun p hp => absurd hp (by simp)).weak (by rw [← hw8, wipe_length]) (fun j v e => ?_), T.keep _ _ _ st7 fun b hb o e => (pin' b hb o e).1, fun b hb => ?_, t', mt', w'⟩
        · rw [← hw8] at e; exact (wipe_some e).1
        · rcases List.mem_cons.mp hb with e | hb
          · rw [e]; exact hD'
          · obtain ⟨o, e, _⟩ := T.obj _ _ st7 b hb
            exact (pin' b hb o e).2
      cases b with
      | false =>
        simp only [Bool.false_eq_true, if_false] at q9 ⊢
        exact fin (less I9) (isD I9).2 (at5 (isD I9).1) mt q9
      | true =>
        simp only [if_true] at q9 ⊢
        refine thnF (pe.run _ s9 σ8 H9 _ I9 q9) fun z s10 ⟨yv, H10, I10, r10, a, k, ey, sqa, sqL, few, nx⟩ => ?_
        subst ey
        cases r10
        obtain ⟨es, ep, t, R⟩ := (at5 (isD I10).1).full fun p hp => I10.isT (sqL p (mt.1 p hp))
        have hle := mt.le R.nd
        refine add_tup (A := X.A) (by omega) R (I10.isT sqa) (by omega) fun h' tk L' sb R' c1 c2 => ?_
        have J := less I10
        have fD' := stat J D (by simp) (isD I10).2 fun p hp e => nD p.1 (of_pinsAt hp).1 e
        exact fin (J.turned (t' := tk) (fun b o hb e => (sb.2 b hb).trans e) fD'.1 fD'.2.1 fD'.2.2.2.1 fD'.2.2.2.2.1 fD'.2.2.2.2.2) (isD I10).2 R' (mt.add c1 c2) nx
  exact PpSet.codeAny_compStart_set loop (T.self X.A 0 _ _ _ st4 loop)
end
theorem asTups_vs {K : PySem.W.Frag} {H : Hp} {N : Addr → Prop} : ∀ {xs : List D} {ks : List (List Int)} {vs : List V}, asTups xs = some ks → Reps K H N vs xs → ∃ L : List (Addr × List Int), vs = L.map (fun p => V.ref p.1) ∧ L.map (·.2) = ks ∧ ∀ p ∈ L, SqT K H p.1 (p.2.map V.int)
  | [], _, _, e, .nil => by cases e; exact ⟨[], rfl, rfl, fun p hp => absurd hp (by simp)⟩
  | .tup xs :: r, ks, _, e, .cons q t => by
    obtain ⟨k, e1, e2⟩ := Option.bind_eq_some_iff.mp e
    obtain ⟨ks', e3, rfl⟩ := Option.map_eq_some_iff.mp e2
    obtain ⟨L, rfl, rfl, h3⟩ := asTups_vs e3 t
    cases q with
    | tup q1 q2 =>
      cases q2.ints e1
      exact ⟨(_, k) :: L, rfl, rfl, fun p hp => (List.mem_cons.mp hp).elim (fun z => by rw [z]; exact q1.sq) (h3 p)⟩
  | .int _ :: _, _, _, e, _ => by cases e
  | .non :: _, _, _, e, _ => by cases e
  | .bl _ :: _, _, _, e, _ => by cases e
  | .str _ :: _, _, _, e, _ => by cases e
  | .lst _ :: _, _, _, e, _ => by cases e
theorem pd_lensett {X : Cx} {W : WS} {a : Expr} {ga : Ev → St' → R SV} {p p2 q pos : Pos} (hu : X.A.units + 70 < cLine) (hc : X.calm = true) (hg : Gl X "len") (hm : X.mg "len" = none) (hg2 : Gl X "set") (hm2 : X.mg "set" = none) (hst : noStar a = true) (ha : PE X a (tD X.K W ga)) :
    PE X (.Call (.Name "len" p) [.Call (.Name "set" p2) [a] [] q] [] pos) (tD X.K W fun ρ S => (ga ρ S).bind fun x S1 => R.opt (((peek S1 x).bind lensettD).map .t) S1) := by
  refine ⟨fun pins s σ H Q I hw => ?_⟩
  refine Call_ (ld_blt I hg hm PySem.boot_len (PyProof.Rows.callWith_builtin1 (PyProof.Rows.args_cons ?_ rfl) rfl rfl))
  have na : starEach [a] X.env = (false, eval a X.env) :: starEach [] X.env := star_cons hst
  obtain ⟨m, S, ρ, ok, re, h⟩ := hw
  refine Call_ (ld_blt I hg2 hm2 boot_set (PyProof.Rows.callWith_type1 (PyProof.Rows.args_cons (thn (ha.run pins s σ H (fun x H1 => ∃ (l : Addr) (L : List (Addr × List Int)) (m1 : List Addr) (S1 : St'), x = .ref l ∧ SqL X.K H1 l (L.map fun p => V.ref p.1) ∧ (∀ p ∈ L, SqT X.K H1 p.1 (p.2.map V.int)) ∧ L.length < 64 ∧ StOk X.K H1 m1 S1 ∧ Fol X.K H1 m1 S1 (.int ((dset (L.map (·.2))).length : Nat)) Q) I ?_) fun v s1 ⟨x, H1, I1, r1, q1⟩ => PyProof.Rows.args_nil ?_) na) na rfl))
  · refine tD_bind ok re h fun x v S1 H1 m1 ok1 re1 f1 rv h1 => ?_
    obtain ⟨r, e, qq⟩ := Run.opt h1 ok1
    obtain ⟨r', e4, rfl⟩ := Option.map_eq_some_iff.mp e
    obtain ⟨d, e1, e5⟩ := Option.bind_eq_some_iff.mp e4
    have pr := ok1.peek rv e1
    cases d <;> first | (cases e5; done) | skip
    obtain ⟨ks, e3, e7⟩ := Option.bind_eq_some_iff.mp e5
    split at e7
    · rename_i hb
      cases e7
      obtain ⟨l, vs, rfl, g1, g2⟩ := pr.lst
      obtain ⟨L, rfl, rfl, h3⟩ := asTups_vs e3 g2
      exact ⟨l, L, m1, S1, rfl, .inl g1, h3, by simpa using hb, ok1, fun H' v o f hv => qq H' o f v hv⟩
    · cases e7
  · obtain ⟨l, L, m1, S1, rfl, hq, hk, few, ok1, q1⟩ := q1
    cases r1
    obtain ⟨its, r, pl, hz⟩ := I1.list hq
    refine call_set_tups (P := X.prog) (w := X.w) L (I1.ok.hd hc) pl.isList (by simpa using refs_of_vals r) (fun p hp => I1.isT (hk p hp)) few (by omega) fun h' tk Ls es ep t R g kp => ?_
    refine PyProof.Rows.args_nil ?_
    have mt : Mz L Ls := ⟨fun p hp => List.mem_of_mem_take (g.sub p hp), fun p hp => g.all p (by rw [List.take_length]; exact hp)⟩
    have I2 : Inv X pins σ H1 { s1 with heap := h', toks := tk } := I1.kept kp
    obtain ⟨o, ho, hex, hd⟩ := R.ob
    have hn : es.size = (dset (L.map (·.2))).length := (SetTR.size (s := { s1 with heap := h', toks := tk }) R).trans (mt.keys R.nd)
    have hle := mt.le R.nd
    have hkk := mt.keys R.nd
    refine call_len_set ho hex hd (SetTR.fits (s := { s1 with heap := h', toks := tk }) R) (by rw [hn]; first | omega | (unfold scanBound at *; omega)) ⟨.int ((dset (L.map (·.2))).length : Nat), H1, I2.tok _, ⟨_, by rw [hn]⟩, q1.here ok1 (.int _)⟩
section
variable {K : PySem.W.Frag} {σ : L2.St} {ρ : Ev} {W0 : WS} {Wd : WD} {tg : Tg} {gc : Ev → St' → R Bool} {ge : Ev → St' → R SV}
/-- between two turns -/
structure ScAt (K : PySem.W.Frag) (σ : L2.St) (ρ : Ev) (inv : Hp → List Addr → St' → Prop) (L : List (Addr × List Int)) (H : Hp) (m : List Addr) (S : St') : Prop where
  ok : StOk K H m S
  re : RelE K H m S σ ρ
  iv : inv H m S
  all : ∀ p ∈ L, QT K H (Own m S) p.1 (p.2.map V.int)
theorem ScAt.step {inv : Hp → List Addr → St' → Prop} {L : List (Addr × List Int)} {H H' : Hp} {m m' : List Addr} {S S' : St'} (a : ScAt K σ ρ inv L H m S) (mono : ∀ H m S H' m' S', inv H m S → Fr H m S H' m' S' → inv H' m' S') (ok : StOk K H' m' S') (f : Fr H m S H' m' S') : ScAt K σ ρ inv L H' m' S' :=
  ⟨ok, a.re.mono f, mono _ _ _ _ _ _ a.iv f, fun p hp => (a.all p hp).mono f.1⟩
theorem sc_turn {β : Type} {P : Hp → List Addr → St' → β → Prop} {inv : Hp → List Addr → St' → Prop} (mono : ∀ H m S H' m' S', inv H m S → Fr H m S H' m' S' → inv H' m' S') {L : List (Addr × List Int)} {H : Hp} {m : List Addr} {S : St'} {x : D} {v : V} {rest : List (List Int) → St' → R β}
    (a : ScAt K σ ρ inv L H m S) (rv : RepI K H (Own m S) tg v x) (h : Run K P Wd H m S ((scTurn tg gc ge (L.map (·.2)) x ρ S).bind rest)) :
    gD K tg v (wipe σ (tgs tg)) H fun σ2 H2 => wipe σ2 (tgs tg) = wipe σ (tgs tg) ∧ tDT K W0 gc σ2 H2 fun b H3 =>
      if b = true then tD K W0 ge σ2 H3 fun y H4 => ∃ (b : Addr) (k : List Int), y = .ref b ∧ SqT K H4 b (k.map V.int) ∧ (∀ p ∈ L, SqT K H4 p.1 (p.2.map V.int)) ∧ L.length + 1 < 64 ∧ ∃ m' S', ScAt K σ ρ inv (L ++ [(b, k)]) H4 m' S' ∧ Run K P Wd H4 m' S' (rest ((L ++ [(b, k)]).map (·.2)) S')
      else ∃ m' S', ScAt K σ ρ inv L H3 m' S' ∧ Run K P Wd H3 m' S' (rest (L.map (·.2)) S') := by
  unfold scTurn at h
  split at h
  · exact h.elim
  · rename_i ρ' hb
    obtain ⟨ρ3, hb3, hre⟩ := RelE.of_bind (K := K) (H := H) (m := m) (S := S) hb
    refine ⟨m, S, wipeE ρ (tgs tg), x, ρ3, a.ok, a.re.wipe _, rv, hb3, fun σ2 re2 hl2 hj2 => ⟨?_, ?_⟩⟩
    · rw [wipe_eq (vs := tgs tg) hl2 hj2]
      exact wipe_eq (wipe_length _ _) fun j hj => wipe_get hj
    · have re3 : RelE K H m S σ2 ρ' := hre σ2 re2 fun j e hj he => by
        obtain ⟨u, h1, h2⟩ := a.re.2 j e he
        exact ⟨u, by rw [hj2 j hj, wipe_get hj]; exact h1, h2⟩
      rw [R.bind_assoc] at h
      refine ⟨m, S, ρ', a.ok, re3, Run.nox (Wd := Wd) (Run.bind h fun b S2 H2 m2 ok2 f2 h2 => ?_)⟩
      have a2 := a.step mono ok2 f2
      cases b with
      | false => exact ⟨m2, S2, a2, h2⟩
      | true =>
        simp only [if_true, R.bind_assoc] at h2 ⊢
        refine ⟨m2, S2, ρ', ok2, re3.mono f2, Run.nox (Wd := Wd) (Run.bind h2 fun y S3 H3 m3 ok3 f3 h3 u ru => ?_)⟩
        have a3 := a2.step mono ok3 f3
        unfold scAdd at h3
        split at h3
        · rename_i xs
          rw [RepS] at ru
          cases ru with
          | @tup b vs _ q r =>
            split at h3
            · rename_i k hk
              split at h3
              · rename_i hz
                cases r.ints hk
                refine ⟨b, k, rfl, q.sq, fun p hp => (a3.all p hp).sq, by simpa using hz, m3, S3, ⟨a3.ok, a3.re, a3.iv, fun p hp => ?_⟩, by simpa using h3⟩
                rcases List.mem_append.mp hp with z | z
                · exact a3.all p z
                · rw [List.mem_singleton.mp z]; exact q
              · exact h3.elim
            · exact h3.elim
        · exact h3.elim
end
section
variable {X : Cx} {W W0 : WS}
theorem pd_lsc {tg : Tg} {gi : Ev → St' → R Src} {gc : Ev → St' → R Bool} {ge : Ev → St' → R SV} :
    ∀ σ H Q, tD X.K W (fun ρ S => (gi ρ S).bind fun src S1 => (scSrc tg gc ge src ρ S1).bind fun ks S2 => .ok (.t (.int ((dset ks).length : Nat))) S2) σ H Q → tLsc X.K (tDI X.K tg W gi) (gD X.K tg) (tDT X.K W0 gc) (tD X.K W0 ge) (tgs tg) σ H Q := by
  intro σ H Q ⟨m, S, ρ, ok0, re, h⟩
  refine ⟨m, S, ρ, ok0, re, Run.bind h fun src S1 H1 m1 ok1 f1 h1 J inv fd iv => ?_⟩
  cases src with
  | live k => exact h1.elim
  | fix xs =>
    have a1 : ScAt X.K σ ρ inv [] H1 m1 S1 := ⟨ok1, re.mono f1, iv, fun p hp => absurd hp (by simp)⟩
    generalize hP : (fun (H' : Hp) (m' : List Addr) (S' : St') (d : SV) => ∀ v, RepS X.K H' m' S' v d → Q v H') = P at h1
    refine ⟨fun i n L H' => n = xs.length - i ∧ i ≤ xs.length ∧ ∃ m' S', ScAt X.K σ ρ inv L H' m' S' ∧ Run X.K P (W σ) H' m' S' ((scFix tg gc ge (xs.drop i) (L.map (·.2)) ρ S').bind fun ks S2 => .ok (.t (.int ((dset ks).length : Nat))) S2), ⟨xs.length, by simp, Nat.zero_le _, _, _, a1, h1⟩, ?_⟩
    rintro i n L H' ⟨rfl, hi', m', S', a', h'⟩
    by_cases hlt : i < xs.length
    · refine .inr ?_
      have hx : xs[i]? = some xs[i] := List.getElem?_eq_getElem hlt
      obtain ⟨go, yl⟩ := fd.item xs i _ H' m' S' rfl a'.iv a'.ok hx
      refine ⟨go, fun L' H'' => ∃ m'' S'', ScAt X.K σ ρ inv L' H'' m'' S'' ∧ Run X.K P (W σ) H'' m'' S'' ((scFix tg gc ge (xs.drop (i + 1)) (L'.map (·.2)) ρ S'').bind fun ks S2 => .ok (.t (.int ((dset ks).length : Nat))) S2), fun L' H'' hh => ⟨xs.length - (i + 1), by omega, rfl, hlt, hh⟩, fun v H2 hy => ?_⟩
      obtain ⟨ok3, f3, rv⟩ := yl v H2 hy
      rw [List.drop_eq_getElem_cons hlt, scFix, R.bind_assoc] at h'
      exact sc_turn fd.mono (a'.step fd.mono ok3 f3) rv (h'.mono f3)
    · have e : i = xs.length := by omega
      subst e
      rw [List.drop_length, scFix] at h'
      refine .inl ⟨fd.stop xs H' m' S' rfl a'.iv a'.ok, fun p hp => (a'.all p hp).sq, ?_⟩
      subst hP
      exact h' H' m' a'.ok Fr.refl _ (by rw [RepS]; exact .int _)
end
end M

/-! sorted(set(xs)), the members tuples of ints; xs a list or a tuple -/
namespace M
open PySem PySem.Spec PyProof.Rows L2
theorem asInts_is : ∀ {xs : List D} {k : List Int}, asInts xs = some k → xs = k.map D.int
  | [], _, e => by cases e; rfl
  | .int i :: r, _, e => by
    obtain ⟨k', e1, rfl⟩ := Option.map_eq_some_iff.mp e
    rw [List.map_cons, ← asInts_is e1]
  | .tup _ :: _, _, e => by cases e
  | .non :: _, _, e => by cases e
  | .bl _ :: _, _, e => by cases e
  | .str _ :: _, _, e => by cases e
  | .lst _ :: _, _, e => by cases e
section
variable {P : Program} {w : World} {A : Around} {E : Value → Shared → Prop} {s : Shared}
theorem mkset_tupT {l : Addr} {its : Array Value} (ks : List (Addr × List Int)) {Q : Value → Shared → Prop} (free : A.handled = none) (hu : A.units + 3 < cLine) (il : s.heap.IsTuple l its) (hit : its.toList = ks.map fun p => Value.ref p.1) (hk : ∀ p ∈ ks, IsT P w s.heap p.2 p.1) (few : ks.length < 64)
    (q : ∀ h' tk L es ep t, SetTR P w h' s.heap.objs.size L es ep t → Got ks ks.length L → (∀ b o, s.heap.get? b = some o → h'.get? b = some o) → Q (.ref s.heap.objs.size) { s with heap := h', toks := tk }) : wpAny (model P w) A (call (.type "set") [.ref l]) Q E s := by
  refine call_set1 (code_set_led1 (.ref l) (Q₁ := fun u s₁ => u = .ref s.heap.objs.size ∧ s₁ = { s with heap := s.heap.push (set0 w) }) ⟨rfl, rfl⟩) ?_
  rintro obj s1 ⟨rfl, rfl⟩
  have new : (s.heap.push (set0 w)).get? s.heap.objs.size = some (set0 w) := Heap.get?_push_size _ rfl
  have here : Shared.TypeIs { s with heap := s.heap.push (set0 w) } (.ref s.heap.objs.size) "set" := ⟨_, new, rfl⟩
  have il1 : (s.heap.push (set0 w)).IsTuple l its := il.push _
  have hlt : l < s.heap.objs.size := let ⟨o, e, _⟩ := il; Heap.lt_size e
  have gone : ∀ b, s.heap.objs.size ≤ b → s.heap.get? b = none := fun b hb => by
    cases e : s.heap.get? b with
    | none => rfl
    | some o => exact absurd (Heap.lt_size e) (Nat.not_lt.mpr hb)
  have len : its.size = ks.length := by have := congrArg List.length hit; rw [List.length_map, Array.length_toList] at this; exact this
  have upd : wpAny (model P w) A.in1.in1 (Builtin.Frozenset.updateFrom "set.__init__" s.heap.objs.size (.ref l)) (fun _ s2 => ∃ h' tk L es ep t, s2 = { s with heap := h', toks := tk } ∧ SetTR P w h' s.heap.objs.size L es ep t ∧ Got ks ks.length L ∧ ∀ b o, s.heap.get? b = some o → h'.get? b = some o) (fun _ _ => False) { s with heap := s.heap.push (set0 w) } := by
    unfold Builtin.Frozenset.updateFrom Builtin.Frozenset.isAnySet
    refine wpAny_bind (wpAny_bind (wpAny_isInstance il1.typeIs PySem.F.sub_tuple_set ?_))
    refine wpAny_isInstance il1.typeIs PySem.F.sub_tuple_frozenset ?_
    simp only [Bool.false_eq_true, if_false]
    refine wpAny_bind (wpAny_typeOf il1.typeIs ?_)
    rw [if_neg (by decide)]
    refine wpAny_bind (wpAny_pyIter_tuple il1 (wpAny_bind (wpAny_runValue ?_)))
    have sz : (s.heap.push (set0 w)).objs.size = s.heap.objs.size + 1 := Heap.size_push _ _
    have apart : s.heap.objs.size ∉ [s.heap.objs.size + 1, l] := fun z => by
      rcases List.mem_cons.mp z with z | z
      · exact Nat.ne_of_lt (Nat.lt_succ_self _) z
      · exact Nat.ne_of_gt hlt (List.mem_singleton.mp z)
    rw [sz]
    refine set_update_tups ((Walks.tuple (by simpa using free) (s.heap.objs.size + 1) l (Nat.ne_of_lt (Nat.lt_succ_of_lt hlt)) its).toS) s.heap.objs.size apart ks len few (fun i v hv => ?_) s.heap hk (gone _ (Nat.le_refl _)) (fun b hb => gone b (by rw [List.mem_singleton.mp hb]; exact Nat.le_succ _)) hu _ 0 _ rfl (Nat.zero_le _)
      ⟨⟨_, by rw [← sz]; exact Heap.get?_push_size _ rfl, rfl, rfl⟩, il1.push _⟩ (fun b o e => Heap.get?_push_of_some _ (Heap.get?_push_of_some _ e)) ⟨[], _, _, _, setTR_fresh (Heap.get?_push_of_some _ new), Got.zero ks⟩ fun s' L es ep t mv R g kp => ?_
    · have e : (ks.map fun p => Value.ref p.1)[i]? = some v := by rw [← hit, Array.getElem?_toList]; exact hv
      rw [List.getElem?_map] at e
      obtain ⟨p, e1, e2⟩ := Option.map_eq_some_iff.mp e
      exact ⟨p, e1, e2.symm⟩
    · rw [len] at g
      obtain ⟨h', g2, d', tk', os'⟩ := s'
      have eg : g2 = s.gens := mv.gens
      have ed : d' = s.drawn := mv.drawn
      have eo : os' = s.os := mv.os
      subst eg; subst ed; subst eo
      exact wpAny_pure ⟨h', tk', L, es, ep, t, rfl, R, g, kp⟩
  refine ⟨here, ?_⟩
  unfold Builtin.«set.__init__» noKeywords
  have named : wpAny (model P w) A.in1.in1 (typeNameOfCut 200 (.ref s.heap.objs.size)) (fun _ s' => s' = { s with heap := s.heap.push (set0 w) }) (fun _ _ => False) { s with heap := s.heap.push (set0 w) } := by
    unfold typeNameOfCut shownTypeOf
    refine wpAny_bind (wpAny_bind (wpAny_typeOf here ?_))
    rw [if_neg (by decide)]
    exact wpAny_pure (wpAny_pure rfl)
  have fresh : wpAny (model P w) A.in1.in1 (setUsed s.heap.objs.size) (fun b s' => b = false ∧ s' = { s with heap := s.heap.push (set0 w) }) (fun _ _ => False) { s with heap := s.heap.push (set0 w) } :=
    wpAny_bind (wpAny_setState_of new rfl rfl (wpAny_pure ⟨rfl, rfl⟩))
  refine wpAny_bind (wpAny_pure (wpAny_bind (wpAny_mono named (fun _ s' e => ?_) fun _ _ z => z)))
  subst e
  refine wpAny_bind (wpAny_pure (wpAny_bind (wpAny_pure (wpAny_bind (wpAny_mono fresh (fun b s' ⟨e1, e2⟩ => ?_) fun _ _ z => z)))))
  subst e1; subst e2
  simp only [Bool.false_eq_true, if_false]
  refine wpAny_bind (wpAny_mono upd (fun _ s2 ⟨h', tk, L, es, ep, t, e, R, g, kp⟩ => ?_) fun _ _ z => z)
  subst e
  exact wpAny_pure ⟨rfl, q h' tk L es ep t R g kp⟩
end
theorem perm_back {α β : Type} {f : α → β} : ∀ {l1 l2 : List β}, l1.Perm l2 → ∀ L : List α, l2 = L.map f → ∃ L1 : List α, l1 = L1.map f ∧ L1.Perm L := by
  intro l1 l2 h
  induction h with
  | nil => intro L e; exact ⟨[], rfl, by rw [List.map_eq_nil_iff.mp e.symm]⟩
  | cons x _ ih =>
    intro L e
    cases L with
    | nil => cases e
    | cons a L =>
      injection e with e1 e2
      obtain ⟨L1, e3, p⟩ := ih L e2
      exact ⟨a :: L1, by rw [List.map_cons, e1, e3], p.cons a⟩
  | swap x y l =>
    intro L e
    match L, e with
    | a :: b :: L, e =>
      injection e with e1 e2
      injection e2 with e2 e3
      exact ⟨b :: a :: L, by rw [List.map_cons, List.map_cons, e1, e2, e3], .swap a b L⟩
  | trans _ _ i1 i2 =>
    intro L e
    obtain ⟨L2, e2, p2⟩ := i2 L e
    obtain ⟨L1, e1, p1⟩ := i1 L2 e2
    exact ⟨L1, e1, p1.trans p2⟩
theorem asTups_pr {K : PySem.W.Frag} {H : Hp} {N : Addr → Prop} : ∀ {xs : List D} {ks : List (List Int)} {vs : List V}, asTups xs = some ks → Reps K H N vs xs → ∃ L : List (Addr × List Int), vs = L.map (fun p => V.ref p.1) ∧ L.map (·.2) = ks ∧ ∀ p ∈ L, SqT K H p.1 (p.2.map V.int) ∧ Rep K H N (.ref p.1) (tupK p.2)
  | [], _, _, e, .nil => by cases e; exact ⟨[], rfl, rfl, fun p hp => absurd hp (by simp)⟩
  | .tup xs :: r, ks, _, e, .cons q t => by
    obtain ⟨k, e1, e2⟩ := Option.bind_eq_some_iff.mp e
    obtain ⟨ks', e3, rfl⟩ := Option.map_eq_some_iff.mp e2
    obtain ⟨L, rfl, rfl, h3⟩ := asTups_pr e3 t
    have ex : xs = k.map D.int := asInts_is e1
    subst ex
    cases q with
    | tup q1 q2 =>
      cases q2.ints e1
      exact ⟨(_, k) :: L, rfl, rfl, fun p hp => (List.mem_cons.mp hp).elim (fun z => by rw [z]; exact ⟨q1.sq, .tup q1 q2⟩) (h3 p)⟩
  | .int _ :: _, _, _, e, _ => by cases e
  | .non :: _, _, _, e, _ => by cases e
  | .bl _ :: _, _, _, e, _ => by cases e
  | .str _ :: _, _, _, e, _ => by cases e
  | .lst _ :: _, _, _, e, _ => by cases e
theorem toPys_int' : ∀ k : List Int, toPys (k.map .int) = k.map PyData.int
  | [] => rfl
  | i :: k => by rw [List.map_cons, toPys, toPys_int' k, toPy, List.map_cons]
theorem toPy_tupK (k : List Int) : toPy (tupK k) = .tuple (k.map .int) := by unfold tupK; rw [toPy, toPys_int']
theorem dlt_tupK (a b : List Int) : dlt (tupK a) (tupK b) = decide (a < b) := by
  unfold dlt
  rw [toPy_tupK, toPy_tupK, ← PySem.W.dataLt_ints]
  rfl
theorem sort_tups' {ys zs : List (List Int)} (p : ys.Perm zs) : (ys.map tupK).mergeSort dle = (zs.map tupK).mergeSort dle := by
  have pp : ((ys.map tupK).mergeSort dle).Perm ((zs.map tupK).mergeSort dle) := (List.mergeSort_perm _ _).trans ((p.map tupK).trans (List.mergeSort_perm _ _).symm)
  refine List.Perm.eq_of_pairwise (le := fun a b => dle a b = true) (fun a b ha hb h1 h2 => ?_) (List.pairwise_mergeSort dle_trans dle_total _) (List.pairwise_mergeSort dle_trans dle_total _) pp
  obtain ⟨x, -, rfl⟩ := List.mem_map.mp (List.mem_mergeSort.mp ha)
  obtain ⟨y, -, rfl⟩ := List.mem_map.mp (List.mem_mergeSort.mp hb)
  unfold dle at h1 h2
  rw [dlt_tupK, Bool.not_eq_true', decide_eq_false_iff_not, List.not_lt] at h1 h2
  rw [List.le_antisymm h1 h2]
theorem eachL {α β : Type} {R : Value → β → Prop} {g : α → Value} {f : α → β} : ∀ {vs : List α}, (∀ v ∈ vs, R (g v) (f v)) → PySem.W.EachIs R (vs.map g) (vs.map f)
  | [], _ => .nil
  | v :: vs, h => .cons (h v List.mem_cons_self) (eachL fun u hu => h u (List.mem_cons_of_mem _ hu))
theorem pd_sortsett {X : Cx} {W : WS} {a : Expr} {ga : Ev → St' → R SV} {p p2 q pos : Pos} (hu : X.A.units + 70 < cLine) (hc : X.calm = true) (hg : Gl X "sorted") (hm : X.mg "sorted" = none) (hg2 : Gl X "set") (hm2 : X.mg "set" = none) (hst : noStar a = true) (ha : PE X a (tD X.K W ga)) :
    PE X (.Call (.Name "sorted" p) [.Call (.Name "set" p2) [a] [] q] [] pos) (tD X.K W fun ρ S => (ga ρ S).bind fun x S1 => R.opt (((peek S1 x).bind sortsettD).map .t) S1) := by
  refine ⟨fun pins s σ H Q I hw => ?_⟩
  refine Call_ (ld_blt I hg hm PyProof.Rows.boot_sorted (PyProof.Rows.callWith_builtin1 (PyProof.Rows.args_cons ?_ rfl) rfl rfl))
  have na : starEach [a] X.env = (false, eval a X.env) :: starEach [] X.env := star_cons hst
  obtain ⟨m, S, ρ, ok, re, h⟩ := hw
  refine Call_ (ld_blt I hg2 hm2 boot_set (PyProof.Rows.callWith_type1 (PyProof.Rows.args_cons (thn (ha.run pins s σ H (fun x H1 => ∃ (l : Addr) (L : List (Addr × List Int)) (m1 : List Addr) (S1 : St'), x = .ref l ∧ (SqL X.K H1 l (L.map fun p => V.ref p.1) ∨ SqT X.K H1 l (L.map fun p => V.ref p.1)) ∧ (∀ p ∈ L, SqT X.K H1 p.1 (p.2.map V.int) ∧ Rep X.K H1 (Own m1 S1) (.ref p.1) (tupK p.2)) ∧ L.length < 64 ∧ (∀ p ∈ L, p.2 ≠ []) ∧ StOk X.K H1 m1 S1 ∧ Fol X.K H1 m1 S1 (.lst (((dset (L.map (·.2))).map tupK).mergeSort dle)) Q) I ?_) fun v s1 ⟨x, H1, I1, r1, q1⟩ => PyProof.Rows.args_nil ?_) na) na rfl))
  · refine tD_bind ok re h fun x v S1 H1 m1 ok1 re1 f1 rv h1 => ?_
    obtain ⟨r, e, qq⟩ := Run.opt h1 ok1
    obtain ⟨r', e4, rfl⟩ := Option.map_eq_some_iff.mp e
    obtain ⟨d, e1, e5⟩ := Option.bind_eq_some_iff.mp e4
    obtain ⟨xs, e2, e6⟩ := Option.bind_eq_some_iff.mp e5
    obtain ⟨ks, e3, e7⟩ := Option.bind_eq_some_iff.mp e6
    split at e7
    · rename_i hb
      cases e7
      have pr := ok1.peek rv e1
      cases d <;> first | (cases e2; done) | skip
      · cases e2
        obtain ⟨l, vs, rfl, g1, g2⟩ := pr.tup
        obtain ⟨L, rfl, rfl, h3⟩ := asTups_pr e3 g2
        exact ⟨l, L, m1, S1, rfl, .inr g1, h3, by simpa using hb.1, fun p hp => hb.2 _ (List.mem_map.mpr ⟨p, hp, rfl⟩), ok1, fun H' v o f hv => qq H' o f v hv⟩
      · cases e2
        obtain ⟨l, vs, rfl, g1, g2⟩ := pr.lst
        obtain ⟨L, rfl, rfl, h3⟩ := asTups_pr e3 g2
        exact ⟨l, L, m1, S1, rfl, .inl (.inl g1), h3, by simpa using hb.1, fun p hp => hb.2 _ (List.mem_map.mpr ⟨p, hp, rfl⟩), ok1, fun H' v o f hv => qq H' o f v hv⟩
    · cases e7
  · obtain ⟨l, L, m1, S1, rfl, hq, hk, few, ne, ok1, q1⟩ := q1
    cases r1
    have fin : ∀ (h' : Heap) (tk : Nat) Ls es ep t, SetTR X.prog X.w h' s1.heap.objs.size Ls es ep t → Got L L.length Ls → (∀ b o, s1.heap.get? b = some o → h'.get? b = some o) →
        wpAny (model X.prog X.w) X.A (spliced (backTo pos (starEach [] X.env))) (fun vs s₂ => wpAny (model X.prog X.w) X.A (call (.builtin "sorted") (Value.ref s1.heap.objs.size :: vs)) (EP X pins σ Q) X.xe s₂) X.xe { s1 with heap := h', toks := tk } := fun h' tk Ls es ep t R g kp => by
      refine PyProof.Rows.args_nil ?_
      have mt : Mz L Ls := ⟨fun p hp => List.mem_of_mem_take (g.sub p hp), fun p hp => g.all p (by rw [List.take_length]; exact hp)⟩
      have I2 : Inv X pins σ H1 { s1 with heap := h', toks := tk } := I1.kept kp
      obtain ⟨o, ho, hex, hd⟩ := R.ob
      have hfew := R.few
      refine Calls.call_function_entry PyProof.Rows.kind_sorted PyProof.Rows.plain_sorted PyProof.Rows.entry_sorted (PyProof.Rows.args_sorted1 _) ?_
      unfold Builtin.«sorted»
      refine wpAny_bind (wpAny_pure ?_)
      have small : es.size < scanBound := by rw [SetTR.size (s := { s1 with heap := h', toks := tk }) R]; unfold scanBound; omega
      refine wpAny_bind (collect_set (A := X.A.in1) (s := { s1 with heap := h', toks := tk }) (I2.ok.hd hc) ⟨o, ho, hex.1, hd⟩ (SetTR.fits (s := { s1 with heap := h', toks := tk }) R) small R.tab.ris R.led fun s3 vs k3 hz g3 o3 pm => ?_)
      have I3 : Inv X pins σ H1 s3 := invMoved I2 k3 g3 o3
      have hes : es.toList.map (·.2) = Ls.map fun q => Value.ref q.1 := by
        rw [R.rows]; unfold rowsOf; rw [List.map_map]; rfl
      rw [hes] at pm
      obtain ⟨L1, rfl, p1⟩ := perm_back pm Ls rfl
      have sub : ∀ p ∈ L1, p ∈ L := fun p hp => mt.1 p (p1.mem_iff.mp hp)
      have pd : (L1.map (·.2)).Perm (dset (L.map (·.2))) := (p1.map _).trans ((List.perm_ext_iff_of_nodup R.nd (dset_nodup _)).mpr fun k => by
        rw [dset_mem]
        constructor
        · intro z
          obtain ⟨q, hq, rfl⟩ := List.mem_map.mp z
          exact List.mem_map.mpr ⟨q, mt.1 q hq, rfl⟩
        · intro z
          obtain ⟨q, hq, rfl⟩ := List.mem_map.mp z
          exact mt.2 q hq)
      have vl : (L1.map fun q => Value.ref q.1).length ≤ sizeLine := by
        rw [List.length_map, p1.length_eq, sizeLine_eq]; omega
      obtain ⟨f, hf⟩ : ∃ f : Addr × List Int → V × D, f = fun v => (V.ref v.1, tupK v.2) := ⟨_, rfl⟩
      have rp : ∀ v ∈ L1, Rep X.K H1 (Own m1 S1) (f v).1 (f v).2 := fun v hv => by rw [hf]; exact (hk v (sub v hv)).2
      refine wpAny_bind (wpAny_newList ?_ vl)
      generalize hvs : (L1.map fun q => Value.ref q.1) = vs at vl ⊢
      have hoL : (s3.heap.push (seqObj "list" vs.toArray 0)).get? s3.heap.objs.size = some (seqObj "list" vs.toArray 0) := Heap.get?_push_size _ rfl
      have e1 : PySem.W.EachIs (fun (u : Value) (b : V × D) => RelV b.1 u) vs (L1.map f) := by
        rw [← hvs]
        refine eachL fun v hv => ?_
        rw [hf]; exact rfl
      have er : PySem.W.EachIs (fun (u : Value) (b : V × D) => ∃ as, Reads (PySem.W.sortingHeap (s3.heap.push (seqObj "list" vs.toArray 0)) s3.heap.objs.size vs) u (toPy b.2) as) vs (L1.map f) := by
        have : PySem.W.EachIs (fun (u : Value) (b : V × D) => ∃ as, Reads s3.heap u (toPy b.2) as) vs (L1.map f) := by
          rw [← hvs]
          refine eachL fun v hv => ?_
          have r := rp v hv
          exact Dp.reads I3 _ _ _ r.dp (by rw [hf]; exact rfl)
        exact this.mono fun _ _ ⟨as, r⟩ => ⟨as, PyProof.Rows.Reads.keeps (fun b o z => PySem.W.sortingHeap_old (Nat.ne_of_lt (Heap.lt_size z)) (Heap.get?_push_of_some _ z)) r⟩
      have shape : ∀ d ∈ (L1.map f).map fun b => toPy b.2, ∃ k : List Int, k ≠ [] ∧ d = .tuple (k.map .int) := fun d hd => by
        obtain ⟨b, hb, rfl⟩ := List.mem_map.mp hd
        obtain ⟨v, hv, rfl⟩ := List.mem_map.mp hb
        rw [hf]; exact ⟨v.2, ne v (sub v hv), toPy_tupK _⟩
      have hal : PySem.W.AllAlike ((L1.map f).map fun b => toPy b.2) := fun d hd d' hd' => by
        obtain ⟨x, -, rfl⟩ := shape d hd
        obtain ⟨y, -, rfl⟩ := shape d' hd'
        rw [PySem.W.alike]; exact PySem.W.alike_ints x y
      have hk' : PySem.W.Sortable ((L1.map f).map fun b => toPy b.2) := .inl fun d hd => by
        obtain ⟨x, hx, rfl⟩ := shape d hd
        cases x with
        | nil => exact absurd rfl hx
        | cons i x => exact ⟨_, _, rfl⟩
      refine wpAny_bind (wpAny_holding (wpAny_call_entry slot_list_sort ⟨_, hoL, rfl⟩ entry_list_sort (PySem.W.list_sort_vals (s := { s3 with heap := s3.heap.push (seqObj "list" vs.toArray 0) }) (κ := PySem.W.dataKind (PySem.W.sortingHeap (s3.heap.push (seqObj "list" vs.toArray 0)) s3.heap.objs.size vs) ((L1.map f).map fun b => toPy b.2)) hoL (PySem.W.SortsAt.data (s := { s3 with heap := PySem.W.sortingHeap (s3.heap.push (seqObj "list" vs.toArray 0)) s3.heap.objs.size vs }) (PySem.W.each_map (R := fun v d => ∃ as, Reads (PySem.W.sortingHeap (s3.heap.push (seqObj "list" vs.toArray 0)) s3.heap.objs.size vs) v d as) (fun b : V × D => toPy b.2) er) hal hk' (PySem.W.bound_map fun b hb => ?_)) vl ⟨.none, rfl, ?_⟩) (args_list_sort _)))
      · obtain ⟨x, -, ex⟩ := shape (toPy b.2) (List.mem_map.mpr ⟨b, hb, rfl⟩)
        rw [ex]
        have h3 : (PyData.tuple (x.map .int)).depth ≤ 1 := by
          have : ∀ x : List Int, PyData.depthAll (x.map PyData.int) = 0 := fun x => by
            induction x with
            | nil => rfl
            | cons i x ih => rw [List.map_cons, PyData.depthAll, ih, PyData.depth]; rfl
          rw [PyData.depth, this]; exact Nat.le_refl _
        have h2 : ∀ A : Around, A.in1.units ≤ A.units + 1 := fun A => by simp [Around.in1]
        have h4 := h2 X.A
        have h5 := h2 X.A.in1
        omega
      · have eo := PySem.W.sortVals_data (R := fun (u : Value) (b : V × D) => RelV b.1 u) (enc := fun b : V × D => toPy b.2) false e1 er hal
        obtain ⟨c, he'⟩ := PyProof.Rows.sortedHeap_at (vs := vs) (out := (PySem.W.sortVals (PySem.W.dataKind (PySem.W.sortingHeap (s3.heap.push (seqObj "list" vs.toArray 0)) s3.heap.objs.size vs) ((L1.map f).map fun b => toPy b.2)) false vs vs).toArray) hoL
        have hsort : ((L1.map f).mergeSort (PySem.W.dataLe false fun b => toPy b.2)).map (·.2) = ((dset (L.map (·.2))).map tupK).mergeSort dle := by
          rw [PySem.W.sort_maps (r := PySem.W.dataLe false fun b : V × D => toPy b.2) (s := dle) (fun b : V × D => b.2) (fun a _ b _ => by rw [PySem.W.dataLe_eq]; rfl), List.map_map, ← sort_tups' pd, List.map_map, hf]
          rfl
        have hreps : Reps X.K H1 (Own m1 S1) (((L1.map f).mergeSort (PySem.W.dataLe false fun b => toPy b.2)).map (·.1)) (((dset (L.map (·.2))).map tupK).mergeSort dle) := by
          rw [← hsort]
          refine reps_of_zip fun b hb => ?_
          obtain ⟨v, hv, rfl⟩ := List.mem_map.mp (List.mem_mergeSort.mp hb)
          exact rp v hv
        have hsz : (((L1.map f).mergeSort (PySem.W.dataLe false fun b => toPy b.2)).map (·.1)).length ≤ sizeLine := by rw [List.length_map, List.length_mergeSort, List.length_map]; rw [← hvs, List.length_map] at vl; exact vl
        refine wpAny_pure ⟨_, rfl, .ref _, upd H1 s3.heap.objs.size (.lst _), I3.laid (t' := s3.toks) (fun b u e => ?_) (Nat.le_refl _) ⟨hsz, _, c, valsEach eo, he'⟩, rfl, q1.lst ok1 hreps _ (I3.hok.fresh (Nat.le_refl _))⟩
        have hlt := Heap.lt_size e
        rw [PyProof.Rows.sortedHeap_old (Nat.ne_of_lt hlt) (by rw [size_push']; exact Nat.lt_succ_of_lt hlt)]
        exact Heap.get?_push_of_some _ e
    rcases hq with hq | hq
    · obtain ⟨its, r, pl, hz⟩ := I1.list hq
      exact call_set_tups (P := X.prog) (w := X.w) L (I1.ok.hd hc) pl.isList (by simpa using refs_of_vals r) (fun p hp => I1.isT (hk p hp).1) few (by omega) fin
    · obtain ⟨its, r, pl, hz⟩ := I1.tuple hq
      exact mkset_tupT (P := X.prog) (w := X.w) L (I1.ok.hd hc) (by omega) (by exact pl) (by simpa using refs_of_vals r) (fun p hp => I1.isT (hk p hp).1) few fin
end M

/-! statements -/
namespace M
open PySem PySem.Spec PyProof.Rows L2

def RunO (K : PySem.W.Frag) (W : WS) (E : Ends) (H : Hp) (m : List Addr) (S : St') : Out → Prop
  | .nx ρ S' => ∀ H' m' σ', StOk K H' m' S' → Fr H m S H' m' S' → RelE K H' m' S' σ' ρ → E.nx σ' H'
  | .rt v S' => ∀ H' m' u, StOk K H' m' S' → Fr H m S H' m' S' → RepS K H' m' S' u v → E.rt u H'
  | .bk ρ S' => ∀ H' m' σ', StOk K H' m' S' → Fr H m S H' m' S' → RelE K H' m' S' σ' ρ → E.bk σ' H'
  | .ct ρ S' => ∀ H' m' σ', StOk K H' m' S' → Fr H m S H' m' S' → RelE K H' m' S' σ' ρ → E.ct σ' H'
  | .exc c p ρ S' => ∀ H' m' σ', StOk K H' m' S' → Fr H m S H' m' S' → RelE K H' m' S' σ' ρ → W σ' c p H' m' S'
  | .bad => False
def tDS (K : PySem.W.Frag) (W : WS) (g : Ev → St' → Out) : TS := fun E σ H => ∃ m S ρ, StOk K H m S ∧ RelE K H m S σ ρ ∧ RunO K W E H m S (g ρ S)
theorem PS_imp {X : Cx} {e : Stmt} {t t' : TS} (h : PS X e t) (i : ∀ E σ H, t' E σ H → t E σ H) : PS X e t' := ⟨fun pins s σ H E I hw => h.run pins s σ H E I (i _ _ _ hw)⟩
theorem PSs_imp {X : Cx} {e : List Stmt} {t t' : TS} (h : PSs X e t) (i : ∀ E σ H, t' E σ H → t E σ H) : PSs X e t' := ⟨fun pins s σ H E I hw => h.run pins s σ H E I (i _ _ _ hw)⟩
section
variable {K : PySem.W.Frag} {W : WS} {E : Ends} {σ : L2.St} {ρ : Ev} {H H1 : Hp} {m m1 : List Addr} {S S1 : St'}
theorem RunO.mono {o : Out} (h : RunO K W E H m S o) (f : Fr H m S H1 m1 S1) : RunO K W E H1 m1 S1 o := by
  cases o with
  | nx ρ S' => exact fun H' m' σ' ok' f' r' => h H' m' σ' ok' (f.trans f') r'
  | rt v S' => exact fun H' m' σ' ok' f' r' => h H' m' σ' ok' (f.trans f') r'
  | bk ρ S' => exact fun H' m' σ' ok' f' r' => h H' m' σ' ok' (f.trans f') r'
  | ct ρ S' => exact fun H' m' σ' ok' f' r' => h H' m' σ' ok' (f.trans f') r'
  | exc c p ρ S' => exact fun H' m' σ' ok' f' r' => h H' m' σ' ok' (f.trans f') r'
  | bad => exact h
/-- an expression, then the rest -/
theorem RunO.of {α : Type} {P : Hp → List Addr → St' → α → Prop} {r : R α} {k : α → St' → Out} (re : RelE K H m S σ ρ) (h : RunO K W E H m S (Out.of ρ r k))
    (hk : ∀ a S1 H1 m1, StOk K H1 m1 S1 → Fr H m S H1 m1 S1 → RunO K W E H1 m1 S1 (k a S1) → P H1 m1 S1 a) : Run K P (W σ) H m S r := by
  cases r with
  | ok a S' => exact fun H1 m1 ok1 f1 => hk a S' H1 m1 ok1 f1 (RunO.mono h f1)
  | exc c p S' => exact fun H1 m1 ok1 f1 => h H1 m1 σ ok1 f1 (re.mono f1)
  | bad => exact h
theorem RunO.ofL {r : R (List D)} {k : List D → St' → Out} {Q : VK} (re : RelE K H m S σ ρ) (h : RunO K W E H m S (Out.of ρ r k))
    (hk : ∀ xs S' H' m' p, StOk K H' (m' ++ [p]) (S' ++ [.lst xs]) → Fr H m S H' (m' ++ [p]) (S' ++ [.lst xs]) → m <+: m' → RunO K W E H m S (k xs S') → Q (.ref p) H') : RunL K Q (W σ) H m S r := by
  cases r with
  | ok a S' => exact fun H' m' p ok' f' hp => hk a S' H' m' p ok' f' hp h
  | exc c p S' => exact fun H1 m1 ok1 f1 => h H1 m1 σ ok1 f1 (re.mono f1)
  | bad => exact h
end
section
variable {X : Cx} {W : WS} {a b c : Expr} {ga gb gc : Ev → St' → R SV} {pos p : Pos} {st : Stmt} {sts sts' : List Stmt} {gs gs' : Ev → St' → Out}
theorem pss_D0 : PSs X [] (tDS X.K W fun ρ S => .nx ρ S) := PSs_imp pss_nil fun E σ H ⟨m, S, ρ, ok, re, h⟩ => h H m σ ok .refl re
theorem pss_D (h1 : PS X st (tDS X.K W gs)) (h2 : PSs X sts (tDS X.K W gs')) : PSs X (st :: sts) (tDS X.K W fun ρ S => (gs ρ S).seq fun ρ' S' => gs' ρ' S') := by
  refine PSs_imp (pss_cons h1 h2) fun E σ H ⟨m, S, ρ, ok, re, h⟩ => ⟨m, S, ρ, ok, re, ?_⟩
  dsimp only at h
  revert h
  cases gs ρ S with
  | nx ρ1 S1 => exact fun h H' m' σ' ok' f' re' => ⟨m', S1, ρ1, ok', re', RunO.mono h f'⟩
  | rt v S1 => exact fun h => h
  | bk v S1 => exact fun h => h
  | ct v S1 => exact fun h => h
  | exc c p ρ S1 => exact fun h => h
  | bad => exact fun h => h
theorem ps_passD : PS X (.Pass pos) (tDS X.K W fun ρ S => .nx ρ S) := PS_imp ps_pass fun E σ H ⟨m, S, ρ, ok, re, h⟩ => h H m σ ok .refl re
theorem ps_docD {x : Str} {j : Nat} : PS X (.Expr (.Constant (.str x) j p) pos) (tDS X.K W fun ρ S => .nx ρ S) := PS_imp ps_doc fun E σ H ⟨m, S, ρ, ok, re, h⟩ => h H m σ ok .refl re
theorem ps_exprD (ha : PE X a (tD X.K W ga)) (hs : swapsWith a none pos.line X.env = pure false) : PS X (.Expr a pos) (tDS X.K W fun ρ S => Out.of ρ (ga ρ S) fun _ S1 => .nx ρ S1) :=
  PS_imp (ps_expr ha hs) fun E σ H ⟨m, S, ρ, ok, re, h⟩ => ⟨m, S, ρ, ok, re, RunO.of re h fun v S1 H1 m1 ok1 f1 h1 u ru => h1 H1 m1 σ ok1 .refl (re.mono f1)⟩
theorem ps_retD (ha : PE X a (tD X.K W ga)) : PS X (.Return (some a) pos) (tDS X.K W fun ρ S => Out.of ρ (ga ρ S) fun v S1 => .rt v S1) :=
  PS_imp (ps_ret ha) fun E σ H ⟨m, S, ρ, ok, re, h⟩ => ⟨m, S, ρ, ok, re, RunO.of re h fun v S1 H1 m1 ok1 f1 h1 u ru => h1 H1 m1 u ok1 .refl ru⟩
theorem ps_retND : PS X (.Return none pos) (tDS X.K W fun ρ S => .rt (.t .non) S) := PS_imp ps_retN fun E σ H ⟨m, S, ρ, ok, re, h⟩ => h H m _ ok .refl .non
theorem ps_ifD {t : Ev → St' → R Bool} (hc : PT X c (tDT X.K W t)) (h1 : PSs X sts (tDS X.K W gs)) (h2 : PSs X sts' (tDS X.K W gs')) : PS X (.If c sts sts' pos) (tDS X.K W fun ρ S => Out.of ρ (t ρ S) fun k S1 => if k then gs ρ S1 else gs' ρ S1) :=
  PS_imp (ps_if hc h1 h2) fun E σ H ⟨m, S, ρ, ok, re, h⟩ => ⟨m, S, ρ, ok, re, RunO.of re h fun k S1 H1 m1 ok1 f1 h1 => by
    cases k with
    | true => exact ⟨m1, S1, ρ, ok1, re.mono f1, h1⟩
    | false => exact ⟨m1, S1, ρ, ok1, re.mono f1, h1⟩⟩
/-- x = e -/
theorem ps_setD {i : Nat} {x : Str} {p' : Pos} (hN : X.N.Nodup) (hi : X.N[i]? = some x) (hx : Loc X.env.scope x) (hf : X.fn x = true ∨ X.env.scope.names.lookup x = some .local) (hs : swapsWith a (some (.Name x p')) pos.line X.env = pure false)
    (ha : PE X a (tD X.K W ga)) : PS X (.Assign [.Name x p'] a pos) (tDS X.K W fun ρ S => Out.of ρ (ga ρ S) fun v S1 => .nx (ρ.set i (some v)) S1) :=
  PS_imp (ps_set hN hi hx ha hs hf) fun E σ H ⟨m, S, ρ, ok, re, h⟩ => ⟨m, S, ρ, ok, re, RunO.of re h fun v S1 H1 m1 ok1 f1 h1 u ru => h1 H1 m1 _ ok1 .refl ((re.mono f1).set i ru)⟩
/-- x = a new list that is changed later -/
theorem ps_newD {i : Nat} {x : Str} {p' : Pos} {gl : Ev → St' → R (List D)} (hN : X.N.Nodup) (hi : X.N[i]? = some x) (hx : Loc X.env.scope x) (hf : X.fn x = true ∨ X.env.scope.names.lookup x = some .local) (hs : swapsWith a (some (.Name x p')) pos.line X.env = pure false)
    (ha : PE X a (tDL X.K W gl)) : PS X (.Assign [.Name x p'] a pos) (tDS X.K W fun ρ S => Out.of ρ (gl ρ S) fun xs S1 => .nx (ρ.set i (some (.o S1.length))) (S1 ++ [.lst xs])) :=
  PS_imp (ps_set hN hi hx ha hs hf) fun E σ H ⟨m, S, ρ, ok, re, h⟩ => ⟨m, S, ρ, ok, re, RunO.ofL re h fun xs S' H' m' q ok' f' hp hk => by
    have hl : m'.length = S'.length := by have := ok'.len; simpa using this
    exact hk H' _ _ ok' f' ((re.mono f').set i (show RepS X.K H' (m' ++ [q]) (S' ++ [.lst xs]) (.ref q) (.o S'.length) from ⟨q, by rw [← hl]; simp, rfl⟩))⟩
/-- (a, b) = e -/
theorem pg_or {e : Expr} {t u : TG} (h1 : PG X e t) (h2 : PG X e u) : PG X e (fun v σ H Q => t v σ H Q ∨ u v σ H Q) := ⟨fun pins s σ H v x Q I r hw => hw.elim (h1.run pins s σ H v x Q I r) (h2.run pins s σ H v x Q I r)⟩
def gDl (K : PySem.W.Frag) (is : List Nat) : TG := fun v σ H Q => ∃ m S ρ ds ρ', StOk K H m S ∧ RelE K H m S σ ρ ∧ Rep K H (Own m S) v (.lst ds) ∧ setTg is ds ρ = some ρ' ∧ ∀ σ', RelE K H m S σ' ρ' → σ'.length = σ.length → (∀ j, j ∉ is → σ'[j]? = σ[j]?) → Q σ' H
theorem pg_tl {is : List Nat} {es : List Expr} {k : Nat} (hc : X.calm = true) (hN : X.N.Nodup) (h : TgsOk X is es) : PG X (.Tuple es k pos) (gDl X.K is) := by
  obtain ⟨h1, h2, h3⟩ := pgs_D hN h
  refine PG_imp (pg_lst hc h1 h2 h3) fun v σ H Q ⟨m, S, ρ, ds, ρ', ok, re, r, e, q⟩ => ?_
  cases r with
  | lst q1 r1 => exact ⟨_, _, rfl, q1.sq, by rw [r1.length]; exact setTg_len e, m, S, ρ, _, ρ', ok, re, r1, e, q⟩
theorem ps_tpD {is : List Nat} {es : List Expr} {k : Nat} {p' : Pos} (hc : X.calm = true) (hN : X.N.Nodup) (ht : TgsOk X is es) (hs : swapsWithSole [.Tuple es k p'] a pos.line X.env = pure false) (hw : swappedStores [.Tuple es k p'] a X.env = pure none)
    (ha : PE X a (tD X.K W ga)) : PS X (.Assign [.Tuple es k p'] a pos) (tDS X.K W fun ρ S => Out.of ρ (ga ρ S) fun v S1 => tpO ρ is v S1) := by
  have h1 : (assignEach [.Tuple es k p'] X.env).map (·.2) = [assign (.Tuple es k p') X.env] := by rw [assignEach, assignEach]; rfl; intro _ _ z; cases z
  refine PS_imp (ps_asg ha (pg_or (pg_tp hc hN ht) (pg_tl hc hN ht)) hs hw h1) fun E σ H ⟨m, S, ρ, ok, re, h⟩ => ⟨m, S, ρ, ok, re, RunO.of re h fun v S1 H1 m1 ok1 f1 h1 u ru => ?_⟩
  unfold tpO at h1
  cases v with
  | t d =>
    cases d with
    | tup ds =>
      simp only at h1
      split at h1
      · rename_i ρ' hb
        exact .inl ⟨m1, S1, ρ, .tup ds, ρ', ok1, re.mono f1, .inl ru, hb, fun σ' re' _ _ => h1 H1 m1 σ' ok1 .refl re'⟩
      · exact h1.elim
    | lst ds =>
      simp only at h1
      split at h1
      · rename_i ρ' hb
        exact .inr ⟨m1, S1, ρ, ds, ρ', ok1, re.mono f1, ru, hb, fun σ' re' _ _ => h1 H1 m1 σ' ok1 .refl re'⟩
      · exact h1.elim
    | _ => exact h1.elim
  | _ => exact h1.elim
/-- a, b = x, y -/
theorem ps_parD {i j : Nat} {x y : Str} {px py pt pt2 : Pos} {kt k2 : Nat} (hc : X.calm = true) (hN : X.N.Nodup) (hi : X.N[i]? = some x) (hj : X.N[j]? = some y) (hij : i ≠ j) (hx : X.env.scope.names.lookup x = some .local) (hy : X.env.scope.names.lookup y = some .local)
    (hst : noStar a = true) (hst2 : noStar b = true) (ha : PE X a (tD X.K W ga)) (hb : PE X b (tD X.K W gb)) (hw : swappedStores [.Tuple [.Name x px, .Name y py] kt pt] (.Tuple [a, b] k2 pt2) X.env = pure (some [x, y])) :
    PS X (.Assign [.Tuple [.Name x px, .Name y py] kt pt] (.Tuple [a, b] k2 pt2) pos) (tDS X.K W fun ρ S => Out.of ρ (ga ρ S) fun v S1 => Out.of ρ (gb ρ S1) fun u S2 => .nx ((ρ.set i (some v)).set j (some u)) S2) := by
  refine PS_imp (ps_par hc hN hi hj hij hx hy (pa_cons ha (pa_cons hb pa_nil (star_cons hst2)) (star_cons hst)) hw) fun E σ H ⟨m, S, ρ, ok, re, h⟩ => ?_
  refine ⟨m, S, ρ, ok, re, RunO.of re h fun v S1 H1 m1 ok1 f1 h1 u ru => ?_⟩
  refine ⟨m1, S1, ρ, ok1, re.mono f1, RunO.of (re.mono f1) h1 fun v2 S2 H2 m2 ok2 f2 h2 u2 ru2 => ?_⟩
  exact ⟨_, _, rfl, h2 H2 m2 _ ok2 .refl ((((re.mono f1).mono f2).set i (ru.mono f2)).set j ru2)⟩
/-- x op= e, ints -/
theorem ps_augD {i : Nat} {x : Str} {o : Bn} {p' : Pos} (ho : o ≠ .pow) (hN : X.N.Nodup) (hi : X.N[i]? = some x) (hx : Loc X.env.scope x) (hf : X.fn x = true ∨ X.env.scope.names.lookup x = some .local)
    (ha : PE X a (tD X.K W ga)) : PS X (.AugAssign (.Name x p') (opOf o) a pos) (tDS X.K W fun ρ S => match ρ[i]? with
    | some (some x) => Out.of ρ (ga ρ S) fun y S1 => augO ρ i o x y S1
    | _ => .bad) := by
  refine PS_imp (ps_aug hN hi hx ha (ip_bin o ho) hf) fun E σ H ⟨m, S, ρ, ok, re, h⟩ => ?_
  dsimp only at h
  split at h
  · rename_i xv hxv
    obtain ⟨v, e, r⟩ := re.2 i xv hxv
    refine ⟨v, e, m, S, ρ, ok, re, RunO.of re h fun y S1 H1 m1 ok1 f1 h1 u ru => ?_⟩
    unfold augO at h1
    split at h1
    · rename_i ia ib
      rw [if_neg ho] at h1
      split at h1
      · rename_i d hd
        cases RepS.int r
        cases RepS.int ru
        have hd' := hd
        obtain ⟨z, rfl⟩ : ∃ z, d = .int z := by
          unfold binD at hd
          cases o with
          | add => cases hd; exact ⟨_, rfl⟩
          | sub => cases hd; exact ⟨_, rfl⟩
          | mul => simp only at hd; split at hd <;> cases hd; exact ⟨_, rfl⟩
          | fdiv => simp only at hd; split at hd <;> cases hd; exact ⟨_, rfl⟩
          | mod => simp only at hd; split at hd <;> cases hd; exact ⟨_, rfl⟩
          | pow => simp only at hd; split at hd <;> cases hd; exact ⟨_, rfl⟩
        exact ⟨_, _, z, rfl, rfl, hd', h1 H1 m1 _ ok1 .refl ((re.mono f1).set i (d := .t (.int z)) (by exact Rep.int z))⟩
      · exact h1.elim
    · exact h1.elim
  · exact h.elim
/-- x.append(e), x a changeable list -/
theorem ps_appD {i : Nat} {x : Str} {p2 apos cpos : Pos} (hi : X.N[i]? = some x) (hv : Vis X.env.scope x) (hd : (x == ("__debug__" : Str)) = false) (hcd : (x == ("__classdict__" : Str)) = false) (hst : noStar a = true) (hline : (apos.endLine == cpos.line) = true)
    (ha : PE X a (tD X.K W ga)) : PS X (.Expr (.Call (.Attribute (.Name x p2) "append" apos) [a] [] cpos) pos) (tDS X.K W fun ρ S => match ρ[i]? with
    | some (some (.o k)) => match S[k]? with
      | some (.lst _) => Out.of ρ (ga ρ S) fun v S1 => appO ρ k v S1
      | _ => .bad
    | _ => .bad) := by
  have hall : [a].all noStar = true := by simp [hst]
  refine PS_imp (ps_expr (pe_bm PySem.F.plainAttrs_list PySem.F.slot_list_append PySem.F.type_list_append mt_append (pe_var hi hv hd hcd) (pa_cons ha pa_nil (star_cons hst)) (attr_plain rfl) (few hall (by simp)) hline (star_cons hst) (star_any rfl)) rfl) fun E σ H ⟨m, S, ρ, ok, re, h⟩ => ?_
  dsimp only at h
  split at h
  · rename_i k hk
    split at h
    · rename_i xs0 hS0
      obtain ⟨v, e, ad, hm, rfl⟩ := re.2 i _ hk
      obtain ⟨vs0, g0, _⟩ := ok.at_ k ad _ hm hS0
      refine ⟨_, e, .inl ⟨rfl, vs0, SqL.of g0⟩, m, S, ρ, ok, re, RunO.of re h fun y S1 H1 m1 ok1 f1 h1 u ru => ?_⟩
      unfold appO at h1
      split at h1
      · rename_i d S2 hg
        obtain ⟨ok2, f2, r2⟩ := ok1.grab ru hg
        split at h1
        · rename_i xs hS
          split at h1
          · rename_i hz
            have hm1 : m1[k]? = some ad := by
              obtain ⟨t, rfl⟩ := f1.2
              rw [List.getElem?_append_left (List.getElem?_eq_some_iff.mp hm).1]; exact hm
            obtain ⟨vs, g1, g2⟩ := ok2.at_ k ad _ hm1 hS
            obtain ⟨ok3, f3⟩ := ok2.write hm1 hS (fun z => nomatch z) (g2.append (.cons r2 .nil))
            exact ⟨ad, vs, u, rfl, rfl, g1, by rw [g2.length]; exact hz, h1 _ m1 σ ok3 (f2.trans f3) (((re.mono f1).mono f2).mono f3)⟩
          · exact h1.elim
        · exact h1.elim
      · exact h1.elim
    · exact h.elim
  · exact h.elim
/-- x.insert(k, e), x a changeable list -/
theorem ps_insD {i : Nat} {x : Str} {p2 apos cpos : Pos} (hi : X.N[i]? = some x) (hv : Vis X.env.scope x) (hd : (x == ("__debug__" : Str)) = false) (hcd : (x == ("__classdict__" : Str)) = false) (hst : noStar a = true) (hst2 : noStar b = true) (hline : (apos.endLine == cpos.line) = true)
    (ha : PE X a (tD X.K W ga)) (hb : PE X b (tD X.K W gb)) : PS X (.Expr (.Call (.Attribute (.Name x p2) "insert" apos) [a, b] [] cpos) pos) (tDS X.K W fun ρ S => match ρ[i]? with
    | some (some (.o n)) => match S[n]? with
      | some (.lst _) => Out.of ρ (ga ρ S) fun kv S1 => Out.of ρ (gb ρ S1) fun v S2 => inslO ρ n kv v S2
      | _ => .bad
    | _ => .bad) := by
  have hall : [a, b].all noStar = true := by simp [hst, hst2]
  refine PS_imp (ps_expr (pe_bm PySem.F.plainAttrs_list PySem.F.slot_list_insert PySem.F.type_list_insert mt_insert (pe_var hi hv hd hcd) (pa_cons ha (pa_cons hb pa_nil (star_cons hst2)) (star_cons hst)) (attr_plain rfl) (few hall (by simp)) hline (star_cons hst) (star_any (by simp [hst2]))) rfl) fun E σ H ⟨m, S, ρ, ok, re, h⟩ => ?_
  dsimp only at h
  split at h
  · rename_i k hk
    split at h
    · rename_i xs0 hS0
      obtain ⟨v, e, ad, hm, rfl⟩ := re.2 i _ hk
      obtain ⟨vs0, g0, _⟩ := ok.at_ k ad _ hm hS0
      refine ⟨_, e, .inl ⟨rfl, vs0, SqL.of g0⟩, m, S, ρ, ok, re, RunO.of re h fun y S1 H1 m1 ok1 f1 h1 u ru => ?_⟩
      refine ⟨m1, S1, ρ, ok1, re.mono f1, RunO.of (re.mono f1) h1 fun y2 S2 H2 m2 ok2 f2 h2 u2 ru2 => ?_⟩
      unfold inslO at h2
      split at h2
      · rename_i z
        cases PR.int (.of ru)
        split at h2
        · rename_i d S3 hg
          obtain ⟨ok3, f3, r3⟩ := ok2.grab ru2 hg
          split at h2
          · rename_i xs hS
            split at h2
            · rename_i hz
              have hm2 : m2[k]? = some ad := by
                obtain ⟨t, rfl⟩ := (f1.trans f2).2
                rw [List.getElem?_append_left (List.getElem?_eq_some_iff.mp hm).1]; exact hm
              obtain ⟨vs, g1, g2⟩ := ok3.at_ k ad _ hm2 hS
              obtain ⟨ok4, f4⟩ := ok3.write hm2 hS (fun z => nomatch z) (((g2.take z.toNat).append (.cons r3 .nil)).append (g2.drop z.toNat))
              exact ⟨ad, vs, z, u2, rfl, rfl, g1, by rw [g2.length]; exact hz.1, hz.2.1, by have := hz.2.2; omega, h2 _ m2 σ ok4 (f3.trans f4) ((((re.mono f1).mono f2).mono f3).mono f4)⟩
            · exact h2.elim
          · exact h2.elim
        · exact h2.elim
      · exact h2.elim
    · exact h.elim
  · exact h.elim
/-- x[k] = e, x a changeable list -/
theorem ps_setiD {i : Nat} {x : Str} {p2 p3 : Pos} (hi : X.N[i]? = some x) (hv : Vis X.env.scope x) (hd : (x == ("__debug__" : Str)) = false) (hcd : (x == ("__classdict__" : Str)) = false) (hs : swapsWithSole [.Subscript (.Name x p2) b p3] a pos.line X.env = pure false) (hw : swappedStores [.Subscript (.Name x p2) b p3] a X.env = pure none)
    (hasg : ∀ v, assign (.Subscript (.Name x p2) b p3) X.env v = (do
      let ov ← holding [v] (eval (.Name x p2) X.env)
      let iv ← holding [v, ov] (eval b X.env)
      standAt p3
      holding [v, ov, iv] (setItem ov iv v)
      release [v, ov, iv] []))
    (ha : PE X a (tD X.K W ga)) (hb : PE X b (tD X.K W gb)) : PS X (.Assign [.Subscript (.Name x p2) b p3] a pos) (tDS X.K W fun ρ S => Out.of ρ (ga ρ S) fun v S1 => match grab S1 v with
    | some (d, S2) => match ρ[i]? with
      | some (some (.o n)) => Out.of ρ (gb ρ S2) fun kv S3 => setO ρ n d kv S3
      | _ => .bad
    | none => .bad) := by
  have h1 : (assignEach [.Subscript (.Name x p2) b p3] X.env).map (·.2) = [assign (.Subscript (.Name x p2) b p3) X.env] := by rw [assignEach, assignEach]; rfl; intro _ _ z; cases z
  refine PS_imp (ps_asg ha (pg_sub (pe_var hi hv hd hcd) hb set_list hasg) hs hw h1) fun E σ H ⟨m, S, ρ, ok, re, h⟩ => ⟨m, S, ρ, ok, re, RunO.of re h fun v S1 H1 m1 ok1 f1 h1 u ru => ?_⟩
  split at h1
  · rename_i d S2 hg
    obtain ⟨ok2, f2, r2⟩ := ok1.grab ru hg
    have re2 := (re.mono f1).mono f2
    split at h1
    · rename_i n hn
      obtain ⟨w, e, ad, hm, rfl⟩ := re2.2 i _ hn
      refine ⟨_, e, m1, S2, ρ, ok2, re2, RunO.of re2 (RunO.mono h1 f2) fun kv S3 H3 m3 ok3 f3 h3 w3 rw3 => ?_⟩
      unfold setO at h3
      split at h3
      · rename_i z
        cases RepS.int rw3
        split at h3
        · rename_i xs hS
          split at h3
          · rename_i j hj
            have hm3 : m3[n]? = some ad := by
              obtain ⟨t, rfl⟩ := f3.2
              rw [List.getElem?_append_left (List.getElem?_eq_some_iff.mp hm).1]; exact hm
            obtain ⟨vs, g1, g2⟩ := ok3.at_ n ad _ hm3 hS
            obtain ⟨ok4, f4⟩ := ok3.write hm3 hS (fun z => nomatch z) (g2.set j (r2.mono f3.1))
            exact ⟨ad, vs, z, j, rfl, rfl, g1, by rw [g2.length]; exact hj, h3 _ m3 σ ok4 f4 ((re2.mono f3).mono f4)⟩
          · exact h3.elim
        · exact h3.elim
      · exact h3.elim
    · exact h1.elim
  · exact h1.elim
/-- the for statement -/
theorem ps_forD {tge iter : Expr} {tg : Tg} {gi : Ev → St' → R Src} {gb : Ev → St' → Out} (hp : PassesOwn (model X.prog X.w) X.A X.env X.xe) (hc : X.calm = true) (hs : ∀ x, foldedSetIterable iter X.env x = pure x)
    (hi : PI X tge iter (tDI X.K tg W gi)) (hg : PG X tge (gD X.K tg)) (hb : PSs X sts (tDS X.K W gb)) : PS X (.For tge iter sts [] pos) (tDS X.K W fun ρ S => Out.of ρ (gi ρ S) fun src S1 => forSrc tg gb src ρ S1) := by
  refine PS_imp (ps_for hp hc hi hg hb hs) fun E σ H ⟨m, S, ρ, ok, re, h⟩ => ⟨m, S, ρ, ok, re, RunO.of re h fun src S1 H1 m1 ok1 f1 h1 J inv fd iv => ?_⟩
  have re1 := re.mono f1
  -- one turn
  have turn : ∀ {ρ2 : Ev} {S2 : St'} {H2 : Hp} {m2 : List Addr} {σ2 : L2.St} {d : D} {v : V} {kont : Ev → St' → Out} {N : L2.St → Hp → Prop}, StOk X.K H2 m2 S2 → RelE X.K H2 m2 S2 σ2 ρ2 → inv H2 m2 S2 → RepI X.K H2 (Own m2 S2) tg v d →
      RunO X.K W E H2 m2 S2 (match bindTg tg d ρ2 with | none => .bad | some ρ' => (gb ρ' S2).turn kont) →
      (∀ ρ3 S3 H3 m3 σ3, StOk X.K H3 m3 S3 → RelE X.K H3 m3 S3 σ3 ρ3 → inv H3 m3 S3 → RunO X.K W E H3 m3 S3 (kont ρ3 S3) → N σ3 H3) →
      gD X.K tg v σ2 H2 fun σ3 H3 => tDS X.K W gb { E with nx := N, ct := N, bk := E.nx } σ3 H3 := by
    intro ρ2 S2 H2 m2 σ2 d v kont N ok2 re2 iv2 rv h2 hN
    split at h2
    · exact h2.elim
    · rename_i ρ' hb'
      refine ⟨m2, S2, ρ2, d, ρ', ok2, re2, rv, hb', fun σ3 re3 _ _ => ⟨m2, S2, ρ', ok2, re3, ?_⟩⟩
      revert h2
      cases gb ρ' S2 with
      | nx ρ4 S4 => exact fun h2 H' m' σ' ok' f' re' => hN _ _ _ _ _ ok' re' (fd.mono _ _ _ _ _ _ iv2 f') (RunO.mono h2 f')
      | ct ρ4 S4 => exact fun h2 H' m' σ' ok' f' re' => hN _ _ _ _ _ ok' re' (fd.mono _ _ _ _ _ _ iv2 f') (RunO.mono h2 f')
      | bk ρ4 S4 => exact fun h2 H' m' σ' ok' f' re' => h2 H' m' σ' ok' f' re'
      | rt v4 S4 => exact fun h2 H' m' σ' ok' f' re' => h2 H' m' σ' ok' f' re'
      | exc c4 p4 ρ4 S4 => exact fun h2 H' m' σ' ok' f' re' => h2 H' m' σ' ok' f' re'
      | bad => exact fun h2 => h2
  cases src with
  | fix xs =>
    refine ⟨fun i n σ' H' => n = xs.length - i ∧ i ≤ xs.length ∧ ∃ m' S' ρ', StOk X.K H' m' S' ∧ RelE X.K H' m' S' σ' ρ' ∧ inv H' m' S' ∧ RunO X.K W E H' m' S' (forFix tg gb (xs.drop i) ρ' S'), ⟨xs.length, by simp, Nat.zero_le _, m1, S1, ρ, ok1, re1, iv, h1⟩, ?_⟩
    rintro i n σ' H' ⟨rfl, hi', m', S', ρ', ok', re', iv', h'⟩
    by_cases hlt : i < xs.length
    · refine .inr ?_
      have hx : xs[i]? = some xs[i] := List.getElem?_eq_getElem hlt
      obtain ⟨go, yl⟩ := fd.item xs i _ H' m' S' rfl iv' ok' hx
      refine ⟨go, fun σ'' H'' => ∃ m' S' ρ', StOk X.K H'' m' S' ∧ RelE X.K H'' m' S' σ'' ρ' ∧ inv H'' m' S' ∧ RunO X.K W E H'' m' S' (forFix tg gb (xs.drop (i + 1)) ρ' S'), fun σ'' H'' hh => ⟨xs.length - (i + 1), by omega, rfl, hlt, hh⟩, fun v H2 hy => ?_⟩
      obtain ⟨ok3, f3, rv⟩ := yl v H2 hy
      rw [List.drop_eq_getElem_cons hlt, forFix] at h'
      exact turn ok3 (re'.mono f3) (fd.mono _ _ _ _ _ _ iv' f3) rv (RunO.mono h' f3) fun ρ3 S3 H3 m3 σ3 a b c d => ⟨m3, S3, ρ3, a, b, c, d⟩
    · have e : i = xs.length := by omega
      subst e
      rw [List.drop_length, forFix] at h'
      exact .inl ⟨fd.stop xs H' m' S' rfl iv' ok', h' H' m' σ' ok' .refl re'⟩
  | live k =>
    unfold forSrc at h1
    simp only at h1
    split at h1
    · rename_i ys hys
      refine ⟨fun i n σ' H' => ∃ m' S' ρ', StOk X.K H' m' S' ∧ RelE X.K H' m' S' σ' ρ' ∧ inv H' m' S' ∧ RunO X.K W E H' m' S' (forLive tg gb k n i ρ' S'), ⟨ys.length, m1, S1, ρ, ok1, re1, iv, h1⟩, ?_⟩
      rintro i n σ' H' ⟨m', S', ρ', ok', re', iv', h'⟩
      unfold forLive at h'
      split at h'
      · rename_i zs hzs
        split at h'
        · rename_i hz
          exact .inl ⟨fd.stopL k zs i H' m' S' rfl iv' ok' hzs hz, h' H' m' σ' ok' .refl re'⟩
        · exact h'.elim
        · rename_i _ d n hd
          obtain ⟨go, yl⟩ := fd.itemL k zs i _ H' m' S' rfl iv' ok' hzs hd
          refine .inr ⟨go, fun σ'' H'' => ∃ m' S' ρ', StOk X.K H'' m' S' ∧ RelE X.K H'' m' S' σ'' ρ' ∧ inv H'' m' S' ∧ RunO X.K W E H'' m' S' (forLive tg gb k n (i + 1) ρ' S'), fun σ'' H'' hh => ⟨n, by omega, hh⟩, fun v H2 hy => ?_⟩
          obtain ⟨ok3, f3, rv⟩ := yl v H2 hy
          exact turn ok3 (re'.mono f3) (fd.mono _ _ _ _ _ _ iv' f3) rv (RunO.mono h' f3) fun ρ3 S3 H3 m3 σ3 a b c d => ⟨m3, S3, ρ3, a, b, c, d⟩
      · exact h'.elim
    · exact h1.elim
end
end M

/-! dicts with tuple keys that are changed: made, written, walked -/
namespace M
open PySem PySem.Spec PyProof.Rows L2
theorem upd_two {H : Hp} {a : Addr} {x y : HO} : upd (upd H a x) a y = upd H a y := by
  funext b
  by_cases h : b = a
  · subst h; rw [upd_same, upd_same]
  · rw [upd_ne h, upd_ne h, upd_ne h]
theorem upd_back {H : Hp} {a : Addr} {x y : HO} (h : H a = some y) : upd (upd H a x) a y = H := by
  rw [upd_two]
  funext b
  by_cases hb : b = a
  · subst hb; rw [upd_same, h]
  · rw [upd_ne hb]
theorem upd_swap {H : Hp} {a b : Addr} {x y : HO} (h : a ≠ b) : upd (upd H a x) b y = upd (upd H b y) a x := by
  funext c
  by_cases h1 : c = a
  · subst h1; rw [upd_ne h, upd_same, upd_same]
  · by_cases h2 : c = b
    · subst h2; rw [upd_same, upd_ne h1, upd_same]
    · rw [upd_ne h2, upd_ne h1, upd_ne h1, upd_ne h2]
theorem valV_at : ∀ {kv : List (List Key × V)} {n : Nat} {k : List Key} {v : V}, (kv.map (·.1)).Nodup → kv[n]? = some (k, v) → valV kv k = some v
  | [], n, k, v, _, e => by simp at e
  | p :: kv, 0, k, v, nd, e => by
    simp at e; subst e
    exact valV_pos rfl
  | p :: kv, n + 1, k, v, nd, e => by
    rw [List.map_cons, List.nodup_cons] at nd
    have e' : kv[n]? = some (k, v) := by simpa using e
    rw [valV_neg]
    · exact valV_at nd.2 e'
    · intro z
      exact nd.1 (z ▸ List.mem_map.mpr ⟨_, List.mem_of_getElem? e', rfl⟩)
def hasK {κ : Type} [DecidableEq κ] (l : List κ) (k : κ) : Bool := l.any fun x => decide (x = k)
theorem hasK_iff {κ : Type} [DecidableEq κ] (l : List κ) (k : κ) : hasK l k = true ↔ k ∈ l := by
  unfold hasK
  rw [List.any_eq_true]
  constructor
  · rintro ⟨y, hy, e⟩; exact of_decide_eq_true e ▸ hy
  · exact fun h => ⟨k, h, decide_eq_true rfl⟩
theorem keys_any {κ α : Type} [DecidableEq κ] (kv : List (κ × α)) (k : κ) : (kv.any fun p => decide (p.1 = k)) = hasK (kv.map (·.1)) k := by
  unfold hasK; rw [List.any_map]; rfl
theorem keys_map {κ α : Type} [DecidableEq κ] (kv : List (κ × α)) (k : κ) (v : α) : (kv.map fun p => if p.1 = k then (p.1, v) else p).map (·.1) = kv.map (·.1) := by
  rw [List.map_map]
  apply List.map_congr_left
  intro p _
  simp only [Function.comp]
  split <;> rfl
theorem putD_keys (kvs : List (List Key × D)) (k : List Key) (d : D) : (putD kvs k d).map (·.1) = if hasK (kvs.map (·.1)) k = true then kvs.map (·.1) else kvs.map (·.1) ++ [k] := by
  unfold putD
  rw [keys_any]
  by_cases h : hasK (kvs.map (·.1)) k = true
  · rw [if_pos h, if_pos h, keys_map]
  · rw [if_neg h, if_neg h, List.map_append]; rfl
theorem putKD_keys (kvs : List (Key × D)) (k : Key) (d : D) : (putKD kvs k d).map (·.1) = if hasK (kvs.map (·.1)) k = true then kvs.map (·.1) else kvs.map (·.1) ++ [k] := by
  unfold putKD
  rw [keys_any]
  by_cases h : hasK (kvs.map (·.1)) k = true
  · rw [if_pos h, if_pos h, keys_map]
  · rw [if_neg h, if_neg h, List.map_append]; rfl
theorem putK_keys {κ : Type} [DecidableEq κ] (kv : List (κ × V)) (k : κ) (v : V) : (putK kv k v).map (·.1) = if hasK (kv.map (·.1)) k = true then kv.map (·.1) else kv.map (·.1) ++ [k] := by
  unfold putK
  rw [keys_any]
  by_cases h : hasK (kv.map (·.1)) k = true
  · rw [if_pos h, if_pos h, keys_map]
  · rw [if_neg h, if_neg h, List.map_append]; rfl
theorem putD_nodup {kvs : List (List Key × D)} {k : List Key} {d : D} (h : (kvs.map (·.1)).Nodup) : ((putD kvs k d).map (·.1)).Nodup := by
  rw [putD_keys]
  split
  · exact h
  · rename_i hk
    rw [List.nodup_append]
    exact ⟨h, by simp, fun a ha b hb => by rw [List.mem_singleton.mp hb]; exact fun e => hk ((hasK_iff _ _).mpr (e ▸ ha))⟩
section
variable {K : PySem.W.Frag} {H : Hp} {N : Addr → Prop}
theorem reps_put {κ : Type} [DecidableEq κ] {k : κ} {v : V} {d : D} (hv : Rep K H N v d) : ∀ {kv : List (κ × V)} {kvs : List (κ × D)}, kv.map (·.1) = kvs.map (·.1) → Reps K H N (kv.map (·.2)) (kvs.map (·.2)) →
    Reps K H N ((kv.map fun p => if p.1 = k then (p.1, v) else p).map (·.2)) ((kvs.map fun p => if p.1 = k then (p.1, d) else p).map (·.2))
  | [], [], _, h => h
  | [], _ :: _, e, _ => by simp at e
  | _ :: _, [], e, _ => by simp at e
  | p :: kv, q :: kvs, e, h => by
    simp only [List.map_cons, List.cons.injEq] at e
    cases h with
    | cons h1 h2 =>
      have ih := reps_put (k := k) hv e.2 h2
      simp only [List.map_cons]
      refine .cons ?_ ih
      rw [e.1]
      by_cases hk : q.1 = k
      · simp only [if_pos hk]; exact hv
      · simp only [if_neg hk]; exact h1
theorem reps_putK {kv : List (List Key × V)} {kvs : List (List Key × D)} {k : List Key} {v : V} {d : D} (e : kv.map (·.1) = kvs.map (·.1)) (h : Reps K H N (kv.map (·.2)) (kvs.map (·.2))) (hv : Rep K H N v d) : Reps K H N ((putK kv k v).map (·.2)) ((putD kvs k d).map (·.2)) := by
  unfold putK putD
  rw [keys_any, keys_any, e]
  split
  · exact reps_put hv e h
  · rw [List.map_append, List.map_append]
    exact h.append (.cons hv .nil)
theorem reps_putKD {kv : List (Key × V)} {kvs : List (Key × D)} {k : Key} {v : V} {d : D} (e : kv.map (·.1) = kvs.map (·.1)) (h : Reps K H N (kv.map (·.2)) (kvs.map (·.2))) (hv : Rep K H N v d) : Reps K H N ((putK kv k v).map (·.2)) ((putKD kvs k d).map (·.2)) := by
  unfold putK putKD
  rw [keys_any, keys_any, e]
  split
  · exact reps_put hv e h
  · rw [List.map_append, List.map_append]
    exact h.append (.cons hv .nil)
theorem merge_rel : ∀ {ks : List Str} {us : List V} {ds : List D} {kv : List (Key × V)} {kvs : List (Key × D)}, kv.map (·.1) = kvs.map (·.1) → Reps K H N (kv.map (·.2)) (kvs.map (·.2)) → Reps K H N us ds → ks.length = ds.length →
    (mergeK kv ((ks.map fun k => (Sum.inr k : Key)).zip us)).map (·.1) = (mergeD kvs ks ds).map (·.1) ∧ Reps K H N ((mergeK kv ((ks.map fun k => (Sum.inr k : Key)).zip us)).map (·.2)) ((mergeD kvs ks ds).map (·.2))
  | [], us, ds, kv, kvs, e, h, hu, hl => by
    cases ds with
    | nil => cases hu; exact ⟨by simpa [mergeK, mergeD] using e, by simpa [mergeK, mergeD] using h⟩
    | cons d ds => simp at hl
  | k :: ks, us, ds, kv, kvs, e, h, hu, hl => by
    cases hu with
    | nil => simp at hl
    | cons q r =>
      rw [mergeD]
      exact merge_rel (kv := putK kv (.inr k) _) (by rw [putK_keys, putKD_keys, e]) (reps_putKD e h q) r (by simpa using hl)
end
theorem walk_kt {d : Addr} {o : Obj} {kv : List (List Key × V)} : Walk (Itkt d o kv) kv.length (fun H => H d = some (.frz o (.dT kv))) (fun i H x H' => H' = H ∧ ∃ (k : List Key) (v : V) (q : Addr), kv[i]? = some (k, v) ∧ x = .ref q ∧ H q = some (.tup (k.map kV))) :=
  ⟨fun i H hi g => ⟨g, hi⟩, fun H g => ⟨g, Nat.le_refl _⟩, fun i H x H' hi g y => y⟩
/-- [x[k] for k in x], x a dict with tuple keys -/
theorem pe_dvals {X : Cx} {x kx : Str} {i j : Nat} {scope : Scope} {own : List (Str × Nat)} {p1 p2 p3 p4 p5 pos : Pos} (hc : X.calm = true) (hN : X.N.Nodup) (hu : X.A.units + 1 < cLine) (hx : PE X (.Name x p5) (tVar i)) (ok : BlkOk X.N X.env.scope scope own) (hown : own.map (·.2) = [j]) (hij : i ≠ j)
    (hg : ∀ (s : Shared) (H : Hp) (C : Addr) (cl : List (Str × Addr)) (fp : List Addr), PG (X.blk s H scope (compEnvC scope cl C X.env) fp) (.Name kx p4) (gName j))
    (he1 : ∀ (s : Shared) (H : Hp) (C : Addr) (cl : List (Str × Addr)) (fp : List Addr), PE (X.blk s H scope (compEnvC scope cl C X.env) fp) (.Name x p1) (tVar i))
    (he2 : ∀ (s : Shared) (H : Hp) (C : Addr) (cl : List (Str × Addr)) (fp : List Addr), PE (X.blk s H scope (compEnvC scope cl C X.env) fp) (.Name kx p2) (tVar j)) (hs : ∀ y, foldedSetIterable (.Name x p5) X.env y = pure y) :
    PE X (.ListComp (.Subscript (.Name x p1) (.Name kx p2) p3) [⟨.Name kx p4, .Name x p5, [], 0⟩] scope pos) (fun σ H Q => ∃ d kv, σ[i]? = some (some (.ref d)) ∧ j < σ.length ∧ H d = some (.dT kv) ∧ (kv.map (·.1)).Nodup ∧ kv.length < sizeLine ∧ ∀ p, H p = none → Q (.ref p) (upd H p (.lst (kv.map (·.2))))) := by
  have key := pe_lock (pe_lc (elt := .Subscript (.Name x p1) (.Name kx p2) p3) (tg := .Name kx p4) (iter := .Name x p5) (ifs := []) (scope := scope) (own := own) (pos := pos) (tt := tYes) (te := tDGet (tVar i) (tVar j)) hc hN (pi_keys hx) ok hg (fun _ _ _ _ _ => pts_nil) (fun s H C cl fp => pe_dget (X := X.blk s H scope (compEnvC scope cl C X.env) fp) hu (he1 s H C cl fp) (he2 s H C cl fp) fun _ _ => rfl) hs)
  refine PE_imp key fun σ H Q ⟨d, kv, h1, hj, h2, nd, hz, q⟩ => ⟨d, .dT kv, h2, trivial, fun od => ?_⟩
  rw [hown]
  refine ⟨_, h1, d, od, rfl, .inr ⟨kv, upd_same, fun Dd hD => ?_⟩⟩
  have hDd : Dd ≠ d := fun e => by subst e; rw [upd_same] at hD; cases hD
  have hDn : H Dd = none := by rw [upd_ne hDd] at hD; exact hD
  refine lc_it walk_kt (fun n H' => H' = upd (upd H d (.frz od (.dT kv))) Dd (.lst ((kv.take n).map (·.2)))) (by simp) (fun n H' _ e => by rw [e, upd_ne hDd.symm, upd_same]) ?_ ?_
  · rintro n xx H1 H2 hn rfl ⟨rfl, k, v, b, e1, rfl, e2⟩
    have hw : (wipe σ [j]).length = σ.length := wipe_length _ _
    have hset : ((wipe σ [j]).set j (some (V.ref b)))[j]? = some (some (V.ref b)) := List.getElem?_set_self (by rw [hw]; exact hj)
    have hold : ((wipe σ [j]).set j (some (V.ref b)))[i]? = some (some (.ref d)) := by
      rw [List.getElem?_set_ne (Ne.symm hij), wipe_out (show ¬ i ∈ [j] from fun z => hij (List.mem_singleton.mp z))]; exact h1
    refine ⟨?_, ?_⟩
    · show ((wipe σ [j]).set j (some (V.ref b))).set j none = _
      rw [List.set_set]
      show ((wipe σ []).set j none).set j none = _
      rw [List.set_set]
      rfl
    · simp only [tYes, if_true]
      refine ⟨_, hold, _, hset, d, v, rfl, .inr ⟨kv, k, b, .inr ⟨od, ?_⟩, rfl, e2, (valV_at nd e1).symm⟩, (kv.take n).map (·.2), upd_same, ?_, ?_⟩
      · rw [upd_ne hDd.symm, upd_same]
      · rw [List.length_map, List.length_take]; omega
      · rw [upd_two, List.take_succ, e1, List.map_append]
        rfl
  · rintro H' rfl
    rw [List.take_length]
    refine ⟨by rw [upd_ne hDd.symm, upd_same], ?_⟩
    rw [upd_swap hDd, upd_back h2]
    exact q Dd hDn
theorem keys_vs {K : PySem.W.Frag} {H : Hp} {N : Addr → Prop} : ∀ {xs : List D} {ks : List Key} {vs : List V}, asKeys xs = some ks → Reps K H N vs xs → vs = ks.map kV
  | [], _, _, e, .nil => by cases e; rfl
  | .int i :: r, ks, _, e, .cons q t => by
    obtain ⟨ks', e1, rfl⟩ := Option.map_eq_some_iff.mp e
    cases q
    rw [keys_vs e1 t]; rfl
  | .str i :: r, ks, _, e, .cons q t => by
    obtain ⟨ks', e1, rfl⟩ := Option.map_eq_some_iff.mp e
    cases q
    rw [keys_vs e1 t]; rfl
  | .non :: _, _, _, e, _ => by cases e
  | .bl _ :: _, _, _, e, _ => by cases e
  | .tup _ :: _, _, _, e, _ => by cases e
  | .lst _ :: _, _, _, e, _ => by cases e
section
variable {X : Cx} {W : WS} {F : FS}
/-- .. over the data -/
theorem pd_dvals {e : Expr} {i j : Nat} (hij : j < X.N.length) (h : PE X e (fun σ H Q => ∃ d kv, σ[i]? = some (some (.ref d)) ∧ j < σ.length ∧ H d = some (.dT kv) ∧ (kv.map (·.1)).Nodup ∧ kv.length < sizeLine ∧ ∀ p, H p = none → Q (.ref p) (upd H p (.lst (kv.map (·.2)))))) (hl : ∀ σ H m S ρ, RelE X.K H m S σ ρ → σ.length = ρ.length) :
    PE X e (fun σ H Q => j < σ.length ∧ tD X.K W (evalE F (.dvals i j)) σ H Q) := by
  refine PE_imp h fun σ H Q ⟨hj, m, S, ρ, ok, re, h⟩ => ?_
  rw [evalE] at h
  split at h
  · rename_i n hn
    split at h
    · rename_i kvs hS
      split at h
      · rename_i hz
        obtain ⟨w, e1, ad, hm, rfl⟩ := re.2 i _ hn
        obtain ⟨kv, g1, g2, g3, g4⟩ := ok.at_ n ad _ hm hS
        have hlen : kv.length = kvs.length := by have := congrArg List.length g2; simpa using this
        refine ⟨ad, kv, e1, hj, g1, by rw [g2]; exact g3, by rw [hlen]; exact hz, fun p hp => ?_⟩
        exact h _ m (ok.laid hp _).1 (ok.laid hp _).2 _ (rep_lst_new ok hp g4)
      · exact h.elim
    · exact h.elim
  · exact h.elim
theorem pd_dvals' {e : Expr} {i j : Nat} (hij : j < X.N.length) (h : PE X e (fun σ H Q => ∃ d kv, σ[i]? = some (some (.ref d)) ∧ j < σ.length ∧ H d = some (.dT kv) ∧ (kv.map (·.1)).Nodup ∧ kv.length < sizeLine ∧ ∀ p, H p = none → Q (.ref p) (upd H p (.lst (kv.map (·.2)))))) : PE X e (tD X.K W (evalE F (.dvals i j))) :=
  ⟨fun pins s σ H Q I hh => (pd_dvals (F := F) hij h fun _ _ _ _ _ r => r.1).run pins s σ H Q I ⟨by rw [I.len]; exact hij, hh⟩⟩
/-- x = {} -/
theorem ps_newdD {i : Nat} {x : Str} {p p2 pos : Pos} (hN : X.N.Nodup) (hi : X.N[i]? = some x) (hx : Loc X.env.scope x) (hf : X.fn x = true ∨ X.env.scope.names.lookup x = some .local) :
    PS X (.Assign [.Name x p] (.Dict [] [] p2) pos) (tDS X.K W fun ρ S => .nx (ρ.set i (some (.o S.length))) (S ++ [.dt []])) := by
  refine PS_imp (ps_set hN hi hx pe_dnewT (by rfl) hf) fun E σ H ⟨m, S, ρ, ok, re, h⟩ => fun p hp => ?_
  obtain ⟨ok2, f2⟩ := ok.pushO hp (uo := .dT []) (oo := .dt []) fun f => ⟨[], upd_same, rfl, by simp, .nil⟩
  refine h _ (m ++ [p]) _ ok2 f2 ?_
  refine (re.mono f2).set i (d := .o S.length) ⟨p, ?_, rfl⟩
  rw [← ok.len]; simp
/-- x[tuple(k)] = e -/
theorem ps_putdD {i : Nat} {x : Str} {a b : Expr} {ga gb : Ev → St' → R SV} {p2 p3 p4 p5 pos : Pos} (hu : X.A.units + 1 < cLine) (hi : X.N[i]? = some x) (hv : Vis X.env.scope x) (hd : (x == ("__debug__" : Str)) = false) (hcd : (x == ("__classdict__" : Str)) = false) (hgt : Gl X "tuple") (hmt : X.mg "tuple" = none) (hst : noStar b = true)
    (ha : PE X a (tD X.K W ga)) (hb : PE X b (tD X.K W gb)) (hs : swapsWith a (some (.Subscript (.Name x p2) (.Call (.Name "tuple" p4) [b] [] p5) p3)) pos.line X.env = pure false) :
    PS X (.Assign [.Subscript (.Name x p2) (.Call (.Name "tuple" p4) [b] [] p5) p3] a pos) (tDS X.K W fun ρ S => Out.of ρ (ga ρ S) fun v S1 => match grab S1 v with
    | some (d, S2) => match ρ[i]? with
      | some (some (.o n)) => Out.of ρ (gb ρ S2) fun kv S3 => putO ρ n d kv S3
      | _ => .bad
    | none => .bad) := by
  have hk : PE X (.Call (.Name "tuple" p4) [b] [] p5) (tCB _ (tDA X.K W fun ρ S => (gb ρ S).bind fun v S1 => R.bind (.ok [] S1) fun vs S2 => .ok (v :: vs) S2)) :=
    pe_callTy call_tuple_of hgt hmt (by decide +kernel) (pa_D hb pa_D0 (star_cons hst)) (by decide) (by decide) (star_cons hst) rfl
  refine PS_imp (ps_dput hu (pe_var hi hv hd hcd) hk ha hs) fun E σ H ⟨m, S, ρ, ok, re, h⟩ => ⟨m, S, ρ, ok, re, RunO.of re h fun v S1 H1 m1 ok1 f1 h1 u ru => ?_⟩
  split at h1
  · rename_i d S2 hg
    obtain ⟨ok2, f2, r2⟩ := ok1.grab ru hg
    have re2 := (re.mono f1).mono f2
    split at h1
    · rename_i n hn
      obtain ⟨w, e, ad, hm, rfl⟩ := re2.2 i _ hn
      refine ⟨_, e, m1, S2, ρ, ok2, re2, ?_⟩
      have h2 := RunO.mono h1 f2
      revert h2
      dsimp only
      cases gb ρ S2 with
      | bad => exact fun h => h
      | exc c p S' => exact fun h2 H3 m3 ok3 f3 => h2 H3 m3 σ ok3 f3 (re2.mono f3)
      | ok kv S3 =>
        intro h2 H3 m3 ok3 f3 vs rvs
        have h3 := RunO.mono h2 f3
        cases rvs with
        | cons rk rn =>
          cases rn
          rw [Out.of_ok] at h3
          unfold putO at h3
          split at h3
          · rename_i xs hp
            split at h3
            · rename_i ks kvs hks hS
              split at h3
              · rename_i hz
                obtain ⟨l, ws, rfl, g1, g2⟩ := (ok3.peek rk hp).lst
                cases keys_vs hks g2
                refine ⟨l, ks.map kV, rfl, .inl ⟨.inl g1, fun q hq => ?_⟩⟩
                obtain ⟨ok4, f4⟩ := ok3.laid hq (.tup (ks.map kV))
                have hm3 : m3[n]? = some ad := by
                  obtain ⟨t, rfl⟩ := f3.2
                  rw [List.getElem?_append_left (List.getElem?_eq_some_iff.mp hm).1]; exact hm
                obtain ⟨kv', a1, a2, a3, a4⟩ := ok4.at_ n ad _ hm3 hS
                have hlen : kv'.length = kvs.length := by have := congrArg List.length a2; simpa using this
                obtain ⟨ok5, f5⟩ := ok4.writeO hm3 hS (fun z => nomatch z) (uo := .dT (putK kv' ks u)) (oo := .dt (putD kvs ks d)) fun f => ⟨putK kv' ks u, upd_same, by rw [putK_keys, putD_keys, a2], putD_nodup a3, (reps_putK a2 a4 ((r2.mono f3.1).mono f4.1)).mono f⟩
                exact ⟨ad, _, rfl, .inr ⟨kv', ks, q, a1, rfl, upd_same, by rw [hlen]; exact hz, rfl⟩, h3 _ m3 σ ok5 (f4.trans f5) (((re2.mono f3).mono f4).mono f5)⟩
              · exact h3.elim
            · exact h3.elim
          · exact h3.elim
    · exact h1.elim
  · exact h1.elim
end
end M

/-! records and their fields; dicts that are read -/
namespace M
open PySem PySem.Spec PyProof.Rows L2
section
variable {K : PySem.W.Frag} {H : Hp} {m : List Addr} {S : St'}
theorem RepL.length : ∀ {us : List V} {ds : List SV}, RepL K H m S us ds → us.length = ds.length
  | us, [], h => by rw [RepL] at h; subst h; rfl
  | us, d :: ds, h => by
    rw [RepL] at h
    obtain ⟨u, r, rfl, _, h2⟩ := h
    simp [RepL.length h2]
theorem repL_look {f : Str} {x : SV} : ∀ {ns : List Str} {us : List V} {ds : List SV}, RepL K H m S us ds → (ns.zip ds).lookup f = some x → f ∈ ns ∧ ∃ u, (ns.zip us).lookup f = some u ∧ RepS K H m S u x
  | [], us, ds, h, e => by simp at e
  | n :: ns, us, [], h, e => by simp at e
  | n :: ns, us, d :: ds, h, e => by
    rw [RepL] at h
    obtain ⟨u, r, rfl, h1, h2⟩ := h
    rw [List.zip_cons_cons, List.lookup_cons] at e
    split at e
    · rename_i q
      cases e
      exact ⟨by rw [eq_of_beq q]; exact List.mem_cons_self, u, by rw [List.zip_cons_cons, List.lookup_cons, q], h1⟩
    · rename_i q
      obtain ⟨i1, v, i2, i3⟩ := repL_look h2 e
      exact ⟨List.mem_cons_of_mem _ i1, v, by rw [List.zip_cons_cons, List.lookup_cons, q]; exact i2, i3⟩
theorem repL_of : ∀ {us : List V} {ds : List SV}, RepSs K H m S us ds → RepL K H m S us ds
  | _, _, .nil => by rw [RepL]
  | _, _, .cons q r => by rw [RepL]; exact ⟨_, _, rfl, q, repL_of r⟩
theorem getK_val {N : Addr → Prop} {k : Key} : ∀ {kv : List (Key × V)} {kvs : List (Key × D)}, kv.map (·.1) = kvs.map (·.1) → Reps K H N (kv.map (·.2)) (kvs.map (·.2)) →
    (∀ d, getK kvs k = some d → ∃ v, valV kv k = some v ∧ Rep K H N v d) ∧ (valV kv k).isSome = (getK kvs k).isSome
  | [], [], _, _ => ⟨fun d (e : getK [] k = some d) => (nomatch e), rfl⟩
  | [], _ :: _, e, _ => by simp at e
  | _ :: _, [], e, _ => by simp at e
  | p :: kv, q :: kvs, e, h => by
    simp only [List.map_cons, List.cons.injEq] at e
    cases h with
    | cons h1 h2 =>
      obtain ⟨i1, i2⟩ := getK_val (k := k) e.2 h2
      unfold getK
      by_cases hk : q.1 = k
      · rw [List.find?_cons_of_pos (by simp [hk]), valV_pos (e.1.trans hk)]
        exact ⟨fun d z => by cases z; exact ⟨_, rfl, h1⟩, rfl⟩
      · rw [List.find?_cons_of_neg (by simp [hk]), valV_neg (fun z => hk (e.1 ▸ z))]
        exact ⟨i1, i2⟩
/-- a dict that may be read -/
theorem StOk.kd (ok : StOk K H m S) {v : V} {x : SV} {kvs : List (Key × D)} (r : RepS K H m S v x) (e : kdOf S x = some kvs) : ∃ a kv, v = .ref a ∧ Rd H a (.dK kv) ∧ kv.map (·.1) = kvs.map (·.1) ∧ Reps K H (Own m S) (kv.map (·.2)) (kvs.map (·.2)) := by
  cases x with
  | t d => cases e
  | td d => cases e
  | ins _ _ _ => cases e
  | kd kvs' =>
    cases e
    rw [RepS] at r
    obtain ⟨a, kv, rfl, h1, h2, h3, h4⟩ := r
    exact ⟨a, kv, rfl, h1, h3, h4⟩
  | o i =>
    rw [RepS] at r
    obtain ⟨a, h1, rfl⟩ := r
    simp only [kdOf] at e
    split at e
    · rename_i kvs' hS
      cases e
      obtain ⟨kv, h2, h3, h4⟩ := ok.at_ i a _ h1 hS
      exact ⟨a, kv, rfl, .inl h2, h3, h4⟩
    · cases e
theorem keyV_rep {v : V} {y : SV} {k : Key} (r : RepS K H m S v y) (e : keyV y = some k) : v = kV k := by
  cases y with
  | t d =>
    rw [RepS] at r
    simp only [keyV] at e
    cases r <;> first | (cases e; rfl) | cases e
  | _ => cases e
theorem strV_rep {v : V} {y : SV} {z : Str} (r : RepS K H m S v y) (e : strV y = some z) : v = .str z := by
  cases y with
  | t d =>
    rw [RepS] at r
    cases r <;> first | (cases e; rfl) | cases e
  | _ => cases e
end
section
variable {X : Cx} {W : WS} {a b : Expr} {ga gb : Ev → St' → R SV} {pos p : Pos}
/-- e.f -/
theorem pd_att {f : Str} (ha : PE X a (tD X.K W ga)) (hb : attributeBase a f X.env (eval a X.env) = eval a X.env) : PE X (.Attribute a f pos) (tD X.K W fun ρ S => (ga ρ S).bind fun x S1 => R.opt (attV x f) S1) := by
  refine PE_imp (pe_fld ha hb) fun σ H Q ⟨m, S, ρ, ok, re, h⟩ => ?_
  refine tD_bind ok re h fun x v S1 H1 m1 ok1 re1 f1 rv h1 => ?_
  obtain ⟨r, e, q⟩ := Run.opt h1 ok1
  cases x with
  | ins c ns fs =>
    rw [RepS] at rv
    obtain ⟨a', dx, us, rfl, g1, g2, g3, g4, g5⟩ := rv
    obtain ⟨i1, u, i2, i3⟩ := repL_look g5 e
    exact ⟨a', _, dx, _, u, rfl, g1, g4.1, g4.2 f i1, i2, q H1 ok1 .refl u i3⟩
  | _ => cases e
/-- d[k] -/
theorem pd_dget (hu : X.A.units + 1 < cLine) (hs : NoSl b) (ha : PE X a (tD X.K W ga)) (hb : PE X b (tD X.K W gb)) : PE X (.Subscript a b pos) (tD X.K W fun ρ S => (ga ρ S).bind fun x S1 => (gb ρ S1).bind fun y S2 => R.opt (dgetV S2 x y) S2) := by
  refine PE_imp (pe_dget hu ha hb hs) fun σ H Q ⟨m, S, ρ, ok, re, h⟩ => ?_
  refine tD_bind ok re h fun x v S1 H1 m1 ok1 re1 f1 rv h1 => ?_
  refine tD_bind ok1 re1 h1 fun y u S2 H2 m2 ok2 re2 f2 ru h2 => ?_
  obtain ⟨r, e, q⟩ := Run.opt h2 ok2
  obtain ⟨kvs, e1, e⟩ := Option.bind_eq_some_iff.mp e
  obtain ⟨k, e2, e⟩ := Option.bind_eq_some_iff.mp e
  obtain ⟨d, e3, rfl⟩ := Option.map_eq_some_iff.mp e
  obtain ⟨ad, kv, rfl, g1, g2, g3⟩ := ok2.kd (rv.mono f2) e1
  cases keyV_rep ru e2
  obtain ⟨w, g4, g5⟩ := (getK_val g2 g3).1 d e3
  exact ⟨ad, w, rfl, .inl ⟨kv, k, g1, rfl, g4.symm⟩, q H2 ok2 .refl w (by rw [RepS]; exact g5)⟩
theorem pc_D {op : CmpOp} {t : TE} (neg : Bool) (h : PC X op b a t) (hi : ∀ σ H Q, (tD X.K W gb σ H fun y H1 => tD X.K W ga σ H1 fun x H2 => ∃ ad o, x = .ref ad ∧ DGet H2 ad y o ∧ Q (.bl (xor neg o.isSome)) H2) → t σ H Q) :
    PC X op b a (tD X.K W fun ρ S => (gb ρ S).bind fun y S1 => (ga ρ S1).bind fun x S2 => R.opt (dinV S2 neg y x) S2) := by
  refine ⟨fun pins s σ H Q I hw => h.run pins s σ H Q I (hi _ _ _ ?_)⟩
  obtain ⟨m, S, ρ, ok, re, h⟩ := hw
  refine tD_bind ok re h fun y u S1 H1 m1 ok1 re1 f1 ru h1 => ?_
  refine tD_bind ok1 re1 h1 fun x v S2 H2 m2 ok2 re2 f2 rv h2 => ?_
  obtain ⟨r, e, q⟩ := Run.opt h2 ok2
  obtain ⟨kvs, e1, e⟩ := Option.bind_eq_some_iff.mp e
  obtain ⟨k, e2, e⟩ := Option.bind_eq_some_iff.mp e
  cases e
  obtain ⟨ad, kv, rfl, g1, g2, g3⟩ := ok2.kd rv e1
  cases keyV_rep (ru.mono f2) e2
  refine ⟨ad, _, rfl, .inl ⟨kv, k, g1, rfl, rfl⟩, ?_⟩
  rw [(getK_val g2 g3).2]
  exact q H2 ok2 .refl _ (by rw [RepS]; exact .bl _)
def diOp (neg : Bool) : CmpOp := if neg then .NotIn else .In
theorem pc_din' (neg : Bool) (hu : X.A.units + 1 < cLine) (hb : PE X b (tD X.K W gb)) (ha : PE X a (tD X.K W ga)) : PC X (diOp neg) b a (tD X.K W fun ρ S => (gb ρ S).bind fun y S1 => (ga ρ S1).bind fun x S2 => R.opt (dinV S2 neg y x) S2) := by
  cases neg with
  | false => exact pc_D false (pc_din hu hb ha) fun σ H Q h => by simpa [tDIn] using h
  | true => exact pc_D true (pc_dnotin hu hb ha) fun σ H Q h => by simpa [tDNotIn] using h
/-- SHAPES[k], k in SHAPES: a written dict -/
def gdOk (K : PySem.W.Frag) (w : World) (d : Addr) (kvs : List (Str × D)) : Prop := (∃ es n, KDict K w d es n) ∧ (∀ z, ∃ r, PySem.W.nsIn K d z = some r ∧ r.isSome = (kvs.lookup z).isSome) ∧ ∀ z x, kvs.lookup z = some x → ∃ u v, PySem.W.nsIn K d z = some (some u) ∧ RelV v u ∧ ∀ H N, Rep K H N v x
theorem pd_gdget {d : Addr} {kvs : List (Str × D)} {x : Str} (hd : gdOk X.K X.w d kvs) (hs : PlainIx b) (hx : PE X (.Name x p) (tC (.ref d))) (hb : PE X b (tD X.K W gb)) : PE X (.Subscript (.Name x p) b pos) (tD X.K W fun ρ S => (gb ρ S).bind fun y S1 => R.opt ((strV y).bind fun z => (kvs.lookup z).map .t) S1) := by
  obtain ⟨⟨es, n, kd⟩, hin, hat⟩ := hd
  refine PE_imp (pe_ix L2.ix_kdict hx hb hs) fun σ H Q ⟨m, S, ρ, ok, re, h⟩ => ?_
  refine tD_bind ok re h fun y u S1 H1 m1 ok1 re1 f1 ru h1 => ?_
  obtain ⟨r, e, q⟩ := Run.opt h1 ok1
  obtain ⟨z, e1, e⟩ := Option.bind_eq_some_iff.mp e
  obtain ⟨x', e2, rfl⟩ := Option.map_eq_some_iff.mp e
  obtain ⟨w, v, g1, g2, g3⟩ := hat z x' e2
  cases strV_rep ru e1
  exact ⟨d, z, v, rfl, rfl, ⟨es, n, w, kd.at_, kd.lit, g1, g2⟩, q H1 ok1 .refl v (by rw [RepS]; exact g3 _ _)⟩
theorem op_gd (neg : Bool) {d : Addr} {es : Array DictEntry} {n : Nat} (D : KDict X.K X.w d es n) : OpR X (compareOp (diOp neg)) (fun x y H Q => ∃ (z : Str) (r : Option Value), x = .str z ∧ y = .ref d ∧ PySem.W.nsIn X.K d z = some r ∧ Q (.bl (xor neg r.isSome)) H) := by
  cases neg with
  | false => intro pins s σ H x y v u Q I rx ry ⟨z, r, h1, h2, h3, h4⟩; exact op_in_kd D pins s σ H x y v u Q I rx ry ⟨z, r, h1, h2, h3, by simpa using h4⟩
  | true => intro pins s σ H x y v u Q I rx ry ⟨z, r, h1, h2, h3, h4⟩; exact op_notIn_kd D pins s σ H x y v u Q I rx ry ⟨z, r, h1, h2, h3, by simpa using h4⟩
theorem pc_R {op : CmpOp} {r : R2} {ta tb : TE} (ho : OpR X (compareOp op) r) (ha : PE X a ta) (hb : PE X b tb) : PC X op a b (tOp r ta tb) :=
  ⟨fun pins s σ H Q I h => thn (ha.run pins s σ H _ I h) fun v s1 ⟨x, H1, I1, r1, q1⟩ => thn (hb.run pins s1 σ H1 _ I1 q1) fun u s2 ⟨y, H2, I2, r2, q2⟩ => ho pins s2 σ H2 x y v u Q I2 r1 r2 q2⟩
theorem PC_imp {op : CmpOp} {t t' : TE} (h : PC X op a b t) (i : ∀ σ H Q, t' σ H Q → t σ H Q) : PC X op a b t' := ⟨fun pins s σ H Q I hw => h.run pins s σ H Q I (i _ _ _ hw)⟩
theorem pc_gdin (neg : Bool) {d : Addr} {kvs : List (Str × D)} {x : Str} (hd : gdOk X.K X.w d kvs) (hx : PE X (.Name x p) (tC (.ref d))) (hb : PE X b (tD X.K W gb)) :
    PC X (diOp neg) b (.Name x p) (tD X.K W fun ρ S => (gb ρ S).bind fun y S1 => R.opt ((strV y).map fun z => .t (.bl (xor neg (kvs.lookup z).isSome))) S1) := by
  obtain ⟨es, n, kd⟩ := hd.1
  refine PC_imp (pc_R (op_gd neg kd) hb hx) fun σ H Q ⟨m, S, ρ, ok, re, h⟩ => ?_
  refine tD_bind ok re h fun y u S1 H1 m1 ok1 re1 f1 ru h1 => ?_
  obtain ⟨r, e, q⟩ := Run.opt h1 ok1
  obtain ⟨z, e1, rfl⟩ := Option.map_eq_some_iff.mp e
  obtain ⟨r, g1, g2⟩ := hd.2.1 z
  cases strV_rep ru e1
  exact ⟨z, r, rfl, rfl, g1, by rw [g2]; exact q H1 ok1 .refl _ (by rw [RepS]; exact .bl _)⟩
/-- a comparison that comes to a truth, as a test -/
theorem pt_pc {op : CmpOp} {g : Ev → St' → R SV} (h : PC X op a b (tD X.K W g)) (hm : behindInMarks op b = false) (hg : ∀ ρ S v S', g ρ S = .ok v S' → ∃ k, v = .t (.bl k)) : PT X (.Compare a [op] [b] pos) (tDT X.K W fun ρ S => tru (g ρ S)) := by
  refine PT_imp (pt_cmp h hm) fun σ H Q ⟨m, S, ρ, ok, re, h⟩ => ⟨m, S, ρ, ok, re, ?_⟩
  dsimp only at h ⊢
  have hg := hg ρ S
  revert h hg
  unfold tru
  cases g ρ S with
  | bad => exact fun h _ => h
  | exc c p S' => exact fun h _ => h
  | ok v S' =>
    intro h hg
    obtain ⟨k, rfl⟩ := hg v S' rfl
    intro H' m' ok' f' u ru
    rw [RepS] at ru
    cases ru
    exact ⟨k, rfl, h H' m' ok' f'⟩
end
end M

/-! the program's own text against the small language -/
namespace M
open PySem PySem.Spec PyProof.Rows L2

mutual
/-- the very same data -/
def same : D → D → Bool
  | .non, .non => true
  | .bl a, .bl b => a == b
  | .int i, .int j => decide (i = j)
  | .str x, .str y => decide (x = y)
  | .lst xs, .lst ys => sames xs ys
  | .tup xs, .tup ys => sames xs ys
  | _, _ => false
def sames : List D → List D → Bool
  | [], [] => true
  | x :: xs, y :: ys => same x y && sames xs ys
  | _, _ => false
end
mutual
theorem same_eq : ∀ a b : D, same a b = true → a = b
  | .non, b, h => by cases b <;> simp_all [same]
  | .bl x, b, h => by cases b <;> simp_all [same]
  | .int x, b, h => by cases b <;> simp_all [same]
  | .str x, b, h => by cases b <;> simp_all [same]
  | .tup xs, b, h => by
    cases b with
    | tup ys => rw [same] at h; rw [sames_eq xs ys h]
    | _ => simp_all [same]
  | .lst xs, b, h => by
    cases b with
    | lst ys => rw [same] at h; rw [sames_eq xs ys h]
    | _ => simp_all [same]
theorem sames_eq : ∀ a b : List D, sames a b = true → a = b
  | [], [], _ => rfl
  | [], _ :: _, h => by simp [sames] at h
  | _ :: _, [], h => by simp [sames] at h
  | x :: xs, y :: ys, h => by
    rw [sames, Bool.and_eq_true] at h
    rw [same_eq x y h.1, sames_eq xs ys h.2]
end

/-- a def of the text: its name, its parameters, all its names by slot -/
structure FI where
  name : Str
  ps : List Str
  kw : Option (Str × D) := none
def FI.hasK (fi : FI) (k : Str) : Bool := match fi.kw with
  | some p => decide (p.1 = k)
  | none => false
def FI.hasD (fi : FI) (d : D) : Bool := match fi.kw with
  | some p => same p.2 d
  | none => false
structure Glo where
  fns : List FI
  free : List Str
  consts : List (Str × D)
  cls : List (Str × List Str) := []
  gds : List (Str × List (Str × D)) := []
  top : Bool := false
def sameKv : List (Str × D) → List (Str × D) → Bool
  | [], [] => true
  | p :: ps, q :: qs => decide (p.1 = q.1) && same p.2 q.2 && sameKv ps qs
  | _, _ => false
theorem sameKv_eq : ∀ a b : List (Str × D), sameKv a b = true → a = b
  | [], [], _ => rfl
  | [], _ :: _, h => by simp [sameKv] at h
  | _ :: _, [], h => by simp [sameKv] at h
  | (k, x) :: xs, (l, y) :: ys, h => by
    simp only [sameKv, Bool.and_eq_true, decide_eq_true_eq] at h
    rw [h.1.1, same_eq x y h.1.2, sameKv_eq xs ys h.2]
def diB : Bool → CmpOp → Bool
  | false, .In => true
  | true, .NotIn => true
  | _, _ => false

def biN : Bi → Str
  | .len => "len" | .int => "int" | .all => "all" | .any => "any" | .sum => "sum" | .list => "list" | .tuple => "tuple"
  | .sorted => "sorted" | .repr => "repr" | .str => "str" | .min => "min" | .max => "max"
def mtN : Mt → Str
  | .index => "index" | .split => "split" | .count => "count" | .join => "join" | .countL => "count" | .indexT => "index" | .countT => "count"
def tyS : Ty → Str
  | .int => "int" | .bool => "bool" | .str => "str" | .tuple => "tuple" | .list => "list"
def opB : Bn → Operator → Bool
  | .add, .Add | .sub, .Sub | .mul, .Mult | .fdiv, .FloorDiv | .mod, .Mod | .pow, .Pow => true
  | _, _ => false
def cmB : Cm → CmpOp → Bool
  | .eq, .Eq | .ne, .NotEq | .lt, .Lt | .le, .LtE | .gt, .Gt | .ge, .GtE | .isin, .In | .notin, .NotIn | .is_, .Is | .isnot, .IsNot => true
  | _, _ => false
theorem opB_eq {o : Bn} {op : Operator} (h : opB o op = true) : op = opOf o := by cases o <;> cases op <;> first | rfl | cases h
theorem cmB_eq {o : Cm} {op : CmpOp} (h : cmB o op = true) : op = cmOf o := by cases o <;> cases op <;> first | rfl | cases h
def isK (k : NameKind) : Option NameKind → Bool
  | some k' => match k, k' with
    | .local, .local | .cell, .cell | .free, .free | .globalImplicit, .globalImplicit => true
    | _, _ => false
  | none => false
theorem isK_eq {k : NameKind} {o : Option NameKind} (h : isK k o = true) : o = some k := by
  unfold isK at h
  split at h
  · rename_i k'
    cases k <;> cases k' <;> first | rfl | cases h
  · cases h
/-- a name that may be read -/
def visB (N : List Str) (sc : Scope) (i : Nat) (x : Str) : Bool :=
  decide (N[i]? = some x) && (isK .local (sc.names.lookup x) || isK .cell (sc.names.lookup x) || isK .free (sc.names.lookup x)) && !(x == ("__debug__" : Str)) && !(x == ("__classdict__" : Str))
/-- a module's or a built-in's name -/
def gloB (sc : Scope) (x : Str) : Bool := isK .globalImplicit (sc.names.lookup x) && !(x == ("__debug__" : Str)) && !decide (x = ("__name__" : Str))
def freeB (G : Glo) (sc : Scope) (x : Str) : Bool := gloB sc x && decide (x ∈ G.free)
def constB : D → Const → Bool
  | .non, .none => true
  | .bl b, .bool c => b == c
  | .int i, .int j => decide (i = j)
  | .str x, .str y => decide (x = y)
  | _, _ => false
def notSlice : Expr → Bool
  | .Slice _ _ _ _ => false
  | _ => true
def plainBase : Expr → Bool
  | .Call (.Name _ _) [] [] _ => false
  | _ => true
/-- names that are stored, in a block whose own cells are told by cl -/
def tgB (N : List Str) (sc : Scope) (cl : Str → Bool) (i : Nat) (x : Str) : Bool := decide (N[i]? = some x) && (isK .local (sc.names.lookup x) || (isK .cell (sc.names.lookup x) && cl x))
def tgsB (N : List Str) (sc : Scope) (cl : Str → Bool) : List Nat → List Expr → Bool
  | [], [] => true
  | i :: is, .Name x _ :: es => tgB N sc cl i x && tgsB N sc cl is es
  | _, _ => false
def tgtB (N : List Str) (sc : Scope) (cl : Str → Bool) : Tg → Expr → Bool
  | .v i, .Name x _ => tgB N sc cl i x
  | .tp is, .Tuple es _ _ => tgsB N sc cl is es
  | _, _ => false
def isTup : Expr → Bool
  | .Tuple _ _ _ => true
  | _ => false
def notSet : Expr → Bool
  | .Set _ _ _ => false
  | _ => true
def nonB : Expr → Bool
  | .Constant .none _ _ => true
  | _ => false
def blX (b : Bool) : Expr → Bool
  | .Constant (.bool c) _ _ => b == c
  | _ => false
def blO (b : Bool) : Option Expr → Bool
  | some e => blX b e
  | none => false
/-- {True: False, False: True} -/
def triB : Expr → Bool
  | .Dict [k1, k2] [v1, v2] _ => blO true k1 && blO false k2 && blX false v1 && blX true v2
  | _ => false
theorem nonB_ok {e : Expr} (h : nonB e = true) : ∃ j p, e = .Constant .none j p := by
  unfold nonB at h
  split at h
  · exact ⟨_, _, rfl⟩
  · cases h
theorem blX_ok {b : Bool} {e : Expr} (h : blX b e = true) : ∃ j p, e = .Constant (.bool b) j p := by
  unfold blX at h
  split at h
  · have := eq_of_beq h; subst this; exact ⟨_, _, rfl⟩
  · cases h
theorem blO_ok {b : Bool} {e : Option Expr} (h : blO b e = true) : ∃ j p, e = some (.Constant (.bool b) j p) := by
  cases e with
  | none => cases h
  | some e => obtain ⟨j, p, rfl⟩ := blX_ok h; exact ⟨j, p, rfl⟩
theorem triB_ok {e : Expr} (h : triB e = true) : ∃ j1 j2 j3 j4 c1 c2 c3 c4 dp, e = .Dict [some (.Constant (.bool true) j1 c1), some (.Constant (.bool false) j2 c2)] [.Constant (.bool false) j3 c3, .Constant (.bool true) j4 c4] dp := by
  unfold triB at h
  split at h
  · simp only [Bool.and_eq_true] at h
    obtain ⟨⟨⟨h1, h2⟩, h3⟩, h4⟩ := h
    obtain ⟨j1, c1, rfl⟩ := blO_ok h1
    obtain ⟨j2, c2, rfl⟩ := blO_ok h2
    obtain ⟨j3, c3, rfl⟩ := blX_ok h3
    obtain ⟨j4, c4, rfl⟩ := blX_ok h4
    exact ⟨_, _, _, _, _, _, _, _, _, rfl⟩
  · cases h
/-- w.replace(y, z), the texts written -/
def replB (y z : Str) : Expr → Option Expr
  | .Call (.Attribute w nm ap) [.Constant (.str y') _ _, .Constant (.str z') _ _] [] cp => if (decide (nm = "replace") && decide (y' = y) && decide (z' = z) && !(y == z) && plainBase w && (ap.endLine == cp.line)) = true then some w else none
  | _ => none
/-- the second one is a sum, a difference .. with a written int -/
def bumpB : List Expr → Bool
  | _ :: .BinOp _ _ (.Constant (.int _) _ _) _ :: _ => true
  | _ => false
/-- the own names of a comprehension's block, by its targets -/
def ownOf (N : List Str) : List Nat → List (Str × Nat)
  | [] => []
  | i :: is => (N.getD i "", i) :: ownOf N is
def tysB (G : Glo) (sc : Scope) : List Ty → List Expr → Bool
  | [], [] => true
  | t :: ts, .Name x _ :: es => decide (x = tyS t) && freeB G sc x && tysB G sc ts es
  | _, _ => false

mutual
def chkE (G : Glo) (N : List Str) : Scope → ME → Expr → Bool
  | sc, .var i, .Name x _ => visB N sc i x
  | sc, .lit d, .Constant c _ _ => constB d c
  | sc, .glb x d, .Name y _ => decide (x = y) && gloB sc x && (G.consts.any fun p => decide (p.1 = x) && same p.2 d)
  | sc, .tup es, .Tuple es' _ _ => chkEs G N sc es es'
  | sc, .lst es, .List es' _ => chkEs G N sc es es'
  | sc, .bin o a b, .BinOp x op y _ => opB o op && chkE G N sc a x && chkE G N sc b y
  | sc, .neg a, .UnaryOp .USub x _ => chkE G N sc a x
  | sc, .cmp o a b, .Compare x [op] [y] _ => cmB o op && !behindInMarks op y && chkE G N sc a x && chkE G N sc b y
  | sc, .cmp2 o p a b c, .Compare x [op, oq] [y, z] _ => cmB o op && cmB p oq && !lastMarks [op, oq] [y, z] && chkE G N sc a x && chkE G N sc b y && chkE G N sc c z
  | sc, .and a b, .BoolOp .And (x :: y :: r) p => chkE G N sc a x && (match r with
      | [] => chkE G N sc b y
      | z :: r' => chkE G N sc b (.BoolOp .And (y :: z :: r') p))
  | sc, .or a b, .BoolOp .Or (x :: y :: r) p => chkE G N sc a x && (match r with
      | [] => chkE G N sc b y
      | z :: r' => chkE G N sc b (.BoolOp .Or (y :: z :: r') p))
  | sc, .not a, .UnaryOp .Not x _ => chkE G N sc a x
  | sc, .ife c a b, .IfExp c' a' b' _ => chkE G N sc c c' && chkE G N sc a a' && chkE G N sc b b'
  | sc, .idx a i, .Subscript x y _ => notSlice y && chkE G N sc a x && chkE G N sc i y
  | sc, .slc a lo hi, .Subscript x (.Slice l h none _) _ => chkE G N sc a x && chkP G N sc lo l && chkP G N sc hi h
  | sc, .call f es, .Call (.Name x _) (e :: es') [] _ => (match G.fns[f]? with
      | some fi => decide (fi.name = x) && fi.kw.isNone
      | none => false) && gloB sc x && (e :: es').all noStar && chkEs G N sc es (e :: es')
  | sc, .bi b es, .Call (.Name x _) (e :: es') [] _ => decide (x = biN b) && freeB G sc x && (e :: es').all noStar && chkEs G N sc es (e :: es')
  | sc, .isi a t, .Call (.Name x _) [y, .Name z _] [] _ => decide (x = "isinstance") && freeB G sc x && decide (z = tyS t) && freeB G sc z && noStar y && chkE G N sc a y
  | sc, .isit a ts, .Call (.Name x _) [y, .Tuple es _ _] [] _ => decide (x = "isinstance") && freeB G sc x && tysB G sc ts es && decide (ts.length ≤ 20) && noStar y && chkE G N sc a y
  | sc, .mth m o es, .Call (.Attribute x name ap) (e :: es') [] cp => decide (name = mtN m) && plainBase x && (ap.endLine == cp.line) && (e :: es').all noStar && decide (es'.length < 20) && chkE G N sc o x && chkEs G N sc es (e :: es')
  | sc, .lc tg it cs e, .ListComp elt [⟨tge, iter, ifs, 0⟩] scope _ => notSet iter && blkC N sc scope (ownOf N (tgs tg)) && tgtB N (relS scope sc) (fun x => scope.names.lookup x == some .cell) tg tge && chkI G N sc it tge iter && decide (ifs.length ≤ 1) && chkEs G N (relS scope sc) cs ifs && chkE G N (relS scope sc) e elt
  | sc, .dvals i j, .ListComp (.Subscript (.Name x _) (.Name k _) _) [⟨.Name k2 p, .Name x2 _, [], 0⟩] scope _ => visB N sc i x2 && blkC N sc scope (ownOf N [j]) && tgB N (relS scope sc) (fun x => scope.names.lookup x == some .cell) j k2 && visB N (relS scope sc) i x && visB N (relS scope sc) j k && decide (x = x2) && decide (k = k2) && !decide (i = j)
  | sc, .fz .sortset [e], .Call (.Name x _) [.Call (.Name y _) [a] [] _] [] _ => decide (x = "sorted") && freeB G sc x && decide (y = "set") && freeB G sc y && noStar a && chkE G N sc e a
  | sc, .fz .lenset [e], .Call (.Name x _) [.Call (.Name y _) [a] [] _] [] _ => decide (x = "len") && freeB G sc x && decide (y = "set") && freeB G sc y && noStar a && chkE G N sc e a
  | sc, .fz .sortseti [e], .Call (.Name x _) [.Call (.Name y _) [a] [] _] [] _ => decide (x = "sorted") && freeB G sc x && decide (y = "set") && freeB G sc y && noStar a && chkE G N sc e a
  | sc, .fz .sortsett [e], .Call (.Name x _) [.Call (.Name y _) [a] [] _] [] _ => decide (x = "sorted") && freeB G sc x && decide (y = "set") && freeB G sc y && noStar a && chkE G N sc e a
  | sc, .rev a, .Subscript x (.Slice none none (some (.UnaryOp .USub (.Constant (.int i) _ _) _)) _) _ => decide (i = 1) && chkE G N sc a x
  | sc, .fz .lensett [e], .Call (.Name x _) [.Call (.Name y _) [a] [] _] [] _ => decide (x = "len") && freeB G sc x && decide (y = "set") && freeB G sc y && noStar a && chkE G N sc e a
  | sc, .lensc tg it cs e, .Call (.Name x _) [.SetComp elt [⟨tge, iter, ifs, 0⟩] scope _] [] _ => decide (x = "len") && freeB G sc x && (notSet iter && blkC N sc scope (ownOf N (tgs tg)) && tgtB N (relS scope sc) (fun x => scope.names.lookup x == some .cell) tg tge && chkI G N sc it tge iter && decide (ifs.length ≤ 1) && chkEs G N (relS scope sc) cs ifs && chkE G N (relS scope sc) e elt)
  | sc, .att e f, .Attribute x g _ => decide (f = g) && plainBase x && chkE G N sc e x
  | sc, .mk c ns es, .Call (.Name x _) (e :: es') [] _ => decide (x = c) && gloB sc x && (G.cls.any fun p => decide (p = (c, ns))) && (e :: es').all noStar && chkEs G N sc es (e :: es')
  | sc, .dget a i, .Subscript x y _ => notSlice y && chkE G N sc a x && chkE G N sc i y
  | sc, .din neg i a, .Compare y [op] [x] _ => diB neg op && !behindInMarks op x && chkE G N sc i y && chkE G N sc a x
  | sc, .gdget x kvs i, .Subscript (.Name y _) z _ => decide (y = x) && gloB sc y && (G.gds.any fun p => decide (p.1 = x) && sameKv p.2 kvs) && notSlice z && chkE G N sc i z
  | sc, .gdin neg x kvs i, .Compare z [op] [.Name y q] _ => decide (y = x) && gloB sc y && (G.gds.any fun p => decide (p.1 = x) && sameKv p.2 kvs) && diB neg op && !behindInMarks op (.Name y q) && chkE G N sc i z
  | sc, .obT, .Dict [] [] _ => true
  | sc, .kd0, .Dict [] [] _ => true
  | sc, .dc tg it cs k v, .DictComp kx vx [⟨tge, iter, ifs, 0⟩] scope _ => notSet iter && blkC N sc scope (ownOf N (tgs tg)) && tgtB N (relS scope sc) (fun x => scope.names.lookup x == some .cell) tg tge && chkI G N sc it tge iter && decide (ifs.length ≤ 1) && chkEs G N (relS scope sc) cs ifs && chkE G N (relS scope sc) k kx && chkE G N (relS scope sc) v vx
  | sc, .callK f es a, .Call (.Name x _) (e :: es') [⟨some kw, y, _⟩] _ => (match G.fns[f]? with
      | some fi => decide (fi.name = x) && fi.hasK kw
      | none => false) && gloB sc x && (e :: es').all noStar && chkEs G N sc es (e :: es') && chkE G N sc a y
  | sc, .callD f es d, .Call (.Name x _) (e :: es') [] _ => (match G.fns[f]? with
      | some fi => decide (fi.name = x) && fi.hasD d
      | none => false) && gloB sc x && (e :: es').all noStar && chkEs G N sc es (e :: es')
  | sc, .fz .tri [e], .Call (.Attribute x nm ap) [a, y] [] cp => triB x && nonB y && decide (nm = "get") && (ap.endLine == cp.line) && noStar a && chkE G N sc e a
  | sc, .fz .reprl [e], .Call (.Name x _) [a] [] _ => G.top && decide (x = "repr") && freeB G sc x && noStar a && chkE G N sc e a
  | sc, .callR f es w y z, .Call (.Name x _) (e :: es') [] _ => (match G.fns[f]? with
      | some fi => decide (fi.name = x) && fi.kw.isNone
      | none => false) && gloB sc x && (e :: es').all noStar && bumpB (e :: es') && (match es'.getLast?.bind (replB y z) with
      | some wx => chkE G N sc w wx
      | none => false) && chkEs G N sc es (e :: es').dropLast
  | _, _, _ => false
def chkEs (G : Glo) (N : List Str) : Scope → List ME → List Expr → Bool
  | _, [], [] => true
  | sc, e :: es, x :: xs => noStar x && chkE G N sc e x && chkEs G N sc es xs
  | _, _, _ => false
def chkP (G : Glo) (N : List Str) : Scope → List ME → Option Expr → Bool
  | _, [], none => true
  | sc, [e], some x => chkE G N sc e x
  | _, _, _ => false
def chkI (G : Glo) (N : List Str) : Scope → IT → Expr → Expr → Bool
  | sc, .of e, _, x => chkE G N sc e x
  | sc, .range1 e, _, .Call (.Name x _) [y] [] _ => decide (x = "range") && freeB G sc x && noStar y && chkE G N sc e y
  | sc, .range2 a b, _, .Call (.Name x _) [y, z] [] _ => decide (x = "range") && freeB G sc x && noStar y && noStar z && chkE G N sc a y && chkE G N sc b z
  | sc, .enum e, tge, .Call (.Name x _) [y] [] _ => decide (x = "enumerate") && freeB G sc x && isTup tge && noStar y && chkE G N sc e y
  | sc, .zips a b, tge, .Call (.Name x _) [y, z] [] _ => decide (x = "zip") && freeB G sc x && isTup tge && noStar y && noStar z && chkE G N sc a y && chkE G N sc b z
  | sc, .zip a b, tge, .Call (.Name x _) [y, z] [] _ => decide (x = "zip") && freeB G sc x && isTup tge && noStar y && noStar z && chkE G N sc a y && chkE G N sc b z
  | _, _, _, _ => false
end
end M

/-! records: made by an __init__ that stores its arguments -/
namespace M
open PySem PySem.Spec PyProof.Rows L2
theorem visB_ok' {X : Cx} {i : Nat} {x : Str} (h : visB X.N X.env.scope i x = true) : X.N[i]? = some x ∧ Vis X.env.scope x ∧ (x == ("__debug__" : Str)) = false ∧ (x == ("__classdict__" : Str)) = false := by
  unfold visB at h
  simp only [Bool.and_eq_true, Bool.or_eq_true, decide_eq_true_eq, Bool.not_eq_true'] at h
  obtain ⟨⟨⟨h1, h2⟩, h3⟩, h4⟩ := h
  refine ⟨h1, ?_, h3, h4⟩
  rcases h2 with (h2 | h2) | h2
  · exact .inl (isK_eq h2)
  · exact .inr (.inl (isK_eq h2))
  · exact .inr (.inr (isK_eq h2))
/-- self.f = f, field by field -/
def initB (N : List Str) (sc : Scope) : Nat → List Str → List Stmt → Bool
  | _, [], [] => true
  | j, f :: fs, .Assign [.Attribute (.Name s _) g _] (.Name v _) _ :: r => decide (g = f) && visB N sc 0 s && visB N sc j v && initB N sc (j + 1) fs r
  | _, _, _ => false
def tInit (K : PySem.W.Frag) (c : Str) (j : Nat) (fs : List Str) : TS := fun D σ H => ∃ (x dx : Addr) (done : List (Str × V)) (us : List V), σ[0]? = some (some (.ref x)) ∧ us.length = fs.length ∧ (∀ i u, us[i]? = some u → σ[j + i]? = some (some u)) ∧
  H x = some (.ins (He.ga K c) dx done) ∧ (∀ f ∈ fs, f ∉ done.map (·.1)) ∧ fs.Nodup ∧ done.length + fs.length < 1000 ∧ D.nx σ (upd H x (.ins (He.ga K c) dx (done ++ fs.zip us)))
theorem putF_new {f : Str} {v : V} : ∀ {done : List (Str × V)}, f ∉ done.map (·.1) → putF f v done = done ++ [(f, v)]
  | [], _ => rfl
  | (g, x) :: r, h => by
    simp only [List.map_cons, List.mem_cons, not_or] at h
    rw [putF, if_neg (fun z => h.1 z.symm), putF_new h.2]; rfl
theorem PSs_imp' {X : Cx} {st : List Stmt} {t t' : TS} (h : PSs X st t) (i : ∀ D σ H, t' D σ H → t D σ H) : PSs X st t' := ⟨fun pins s σ H D I hw => h.run pins s σ H D I (i _ _ _ hw)⟩
theorem pss_init {X : Cx} {c : Str} {ns : List Str} (hc : ClsF X.K c ns) : ∀ {fs : List Str} {j : Nat} {sts : List Stmt}, (∀ f ∈ fs, f ∈ ns) → initB X.N X.env.scope j fs sts = true → PSs X sts (tInit X.K c j fs)
  | [], j, sts, _, h => by
    cases sts with
    | cons s r => simp [initB] at h
    | nil =>
      refine PSs_imp' pss_nil fun D σ H ⟨x, dx, done, us, h1, h2, h3, h4, h5, h6, h7, h8⟩ => ?_
      rw [List.zip_nil_left, List.append_nil] at h8
      have e : upd H x (.ins (He.ga X.K c) dx done) = H := by
        funext b
        by_cases hb : b = x
        · subst hb; rw [upd_same, h4]
        · rw [upd_ne hb]
      rw [e] at h8
      exact h8
  | f :: fs, j, sts, hn, h => by
    unfold initB at h
    split at h
    · rename_i hq; cases hq
    · rename_i j' f' fs' sx p1 g p2 vx p3 p4 r hq
      cases hq
      simp only [Bool.and_eq_true, decide_eq_true_eq] at h
      obtain ⟨⟨⟨rfl, h2⟩, h3⟩, h4⟩ := h
      obtain ⟨a1, a2, a3, a4⟩ := visB_ok' h2
      obtain ⟨b1, b2, b3, b4⟩ := visB_ok' h3
      refine PSs_imp' (pss_cons (ps_fld (pe_var a1 a2 a3 a4) (pe_var b1 b2 b3 b4) (by rfl)) (pss_init hc (fun f hf => hn f (List.mem_cons_of_mem _ hf)) h4)) fun D σ H ⟨x, dx, done, us, g1, g2, g3, g4, g5, g6, g7, g8⟩ => ?_
      cases us with
      | nil => simp at g2
      | cons u us =>
        have hf : g ∉ done.map (·.1) := g5 g List.mem_cons_self
        have hnd := List.nodup_cons.mp g6
        simp only [List.length_cons] at g2 g7
        refine ⟨u, by simpa using g3 0 u rfl, _, g1, x, _, dx, done, rfl, g4, hc.1, hc.2 g (hn g List.mem_cons_self), by omega, ?_⟩
        rw [putF_new hf]
        refine ⟨x, dx, done ++ [(g, u)], us, g1, by omega, fun i w hw => ?_, upd_same, fun f' hf' => ?_, hnd.2, by simp; omega, ?_⟩
        · have := g3 (i + 1) w (by simpa using hw)
          rw [Nat.add_assoc, Nat.add_comm 1 i]; exact this
        · simp only [List.map_append, List.mem_append, List.map_cons, List.map_nil, List.mem_singleton, not_or]
          exact ⟨g5 f' (List.mem_cons_of_mem _ hf'), fun z => hnd.1 (z ▸ hf')⟩
        · rw [upd_two, List.append_assoc]
          rw [List.zip_cons_cons] at g8
          exact g8
    · cases h
/-- the promise of such an __init__ -/
def initSp (K : PySem.W.Frag) (c : Str) (ns : List Str) : Sp := fun vs H Q _ => ∃ (x dx : Addr) (us : List V), vs = .ref x :: us ∧ us.length = ns.length ∧ H x = some (.ins (He.ga K c) dx []) ∧ Q .non (upd H x (.ins (He.ga K c) dx (ns.zip us)))
theorem init_ok {P : Program} {w : World} {K : PySem.W.Frag} {mg : Str → Option Value} {base : Heap} {x qual : Str} {params : Arguments} {body : List Stmt} {scope : Scope} {dvs : List V} {kws : List (Str × V)} {f : Addr} {fd : FuncData} {c sf : Str} {ns : List Str}
    (FD : FunD K x qual params body scope dvs kws f fd) (Sc : FnScope (sf :: ns) (sf :: ns) scope) (hc : ClsF K c ns) (hb : initB (sf :: ns) scope 1 ns body = true) (hl : ns.length < 900) :
    FnOk P w K mg base CX0 1 f fd (sf :: ns) (initSp K c ns) := by
  refine FD.ok Sc (fun vs H Q E h => ?_) fun cdv A outer s H vs Q E hr hsp => ?_
  · obtain ⟨x, dx, us, rfl, h2, _⟩ := h
    simp [h2]
  · obtain ⟨x, dx, us, rfl, h2, h3, h4⟩ := hsp
    refine ⟨_, pss_init (X := cxOf CX0 P w K mg base (sf :: ns) qual scope f cdv A outer s H E) hc (fun f hf => hf) hb, ?_⟩
    refine ⟨x, dx, [], us, rfl, h2, fun i u hu => ?_, h3, by simp, (List.nodup_cons.mp Sc.nd).2, by simp; omega, by rw [List.nil_append]; exact h4⟩
    unfold L2.start
    have hi : i < us.length := (List.getElem?_eq_some_iff.mp hu).1
    rw [List.getElem?_append_left (by simp; omega), List.getElem?_map, Nat.add_comm, List.getElem?_cons_succ, hu]
    rfl
/-- C(..) -/
theorem pd_mk {X : Cx} {W : WS} {a : Expr} {es : List Expr} {gs : Ev → St' → R (List SV)} {p pos : Pos} {c sf : Str} {ns : List Str} {fI : Addr} {fd : FuncData} (hcl : ClsF X.K c ns) (Mc : Mk X.K (He.ga X.K c) fI) (F : FnOk X.prog X.w X.K X.mg X.base CX0 1 fI fd (sf :: ns) (initSp X.K c ns))
    (hb : Binds X.K fd (sf :: ns) []) (hr : Room 2 X.A) (hg : Gl X c) (hm : X.mg c = some (.ref (He.ga X.K c))) (hdb : (c == ("__debug__" : Str)) = false) (ha : PA X (a :: es) (tDA X.K W gs)) (hst : (a :: es).all noStar = true) :
    PE X (.Call (.Name c p) (a :: es) [] pos) (tD X.K W fun ρ S => (gs ρ S).bind fun vs S1 => if vs.length = ns.length then .ok (.ins c ns vs) S1 else .bad) := by
  have hst' := hst
  rw [List.all_cons, Bool.and_eq_true] at hst'
  refine PE_imp (pe_make (E := E0) Mc F hr hg hm hb .nil pass0 ha hdb (star_cons hst'.1) (star_any hst'.2)) fun σ H Q ⟨m, S, ρ, ok, re, h⟩ => ?_
  refine tDA_bind ok re h fun xs vs S1 H1 m1 ok1 re1 f1 rvs h1 => ?_
  intro x dx nx ndx ne
  split at h1
  · rename_i hlen
    have hlv : vs.length = ns.length := rvs.length.trans hlen
    refine ⟨x, dx, vs, by rw [List.append_nil], hlv, upd_same, rfl, ?_⟩
    rw [upd_two]
    obtain ⟨ok2, f2⟩ := ok1.laid ndx (.own x)
    have nx2 : upd H1 dx (.own x) x = none := by rw [upd_ne (Ne.symm ne)]; exact nx
    obtain ⟨ok3, f3⟩ := ok2.laid nx2 (.ins (He.ga X.K c) dx (ns.zip vs))
    refine h1 _ m1 ok3 (f2.trans f3) _ ?_
    rw [RepS]
    exact ⟨x, dx, vs, rfl, upd_same, ok2.fresh nx2, hlv, hcl, RepL.mono (f2.trans f3) (repL_of rvs)⟩
  · exact h1.elim
end M

/-! dicts with text and int keys that are changed; a text with signs struck out as the last argument of a call -/
namespace M
open PySem PySem.Spec PyProof.Rows L2
section
variable {X : Cx} {W : WS} {F : FS} {a b : Expr} {ga gb : Ev → St' → R SV} {pos p : Pos}
def trsOf (K : PySem.W.Frag) (W : WS) (F : FS) (ks : List Str) (mes : List ME) : List (TE × TE) := (ks.zip mes).map fun q => (tC (.str q.1), tD K W (evalE F q.2))
theorem tPairs_D {σ : L2.St} {ρ : Ev} {P : Hp → List Addr → St' → List SV → Prop} : ∀ {mes : List ME} {ks : List Str} {H : Hp} {m : List Addr} {S : St'} {Q : List (V × V) → Hp → Prop}, ks.length = mes.length → StOk X.K H m S → RelE X.K H m S σ ρ →
    Run X.K P (W σ) H m S (evalEs F mes ρ S) → (∀ H' m' S' vs us, StOk X.K H' m' S' → Fr H m S H' m' S' → P H' m' S' vs → RepSs X.K H' m' S' us vs → Q ((ks.map V.str).zip us) H') → tPairs (trsOf X.K W F ks mes) σ H Q
  | [], ks, H, m, S, Q, hl, ok, re, h, hq => by
    cases ks with
    | cons k ks => simp at hl
    | nil =>
      rw [evalEs] at h
      exact hq H m S [] [] ok .refl (h H m ok .refl) .nil
  | me :: mes, ks, H, m, S, Q, hl, ok, re, h, hq => by
    cases ks with
    | nil => simp at hl
    | cons k ks =>
      rw [evalEs] at h
      refine ⟨m, S, ρ, ok, re, h.bind fun x S1 H1 m1 ok1 f1 h1 v rv => ?_⟩
      refine tPairs_D (P := fun H' m' S' vs => P H' m' S' (x :: vs)) (ks := ks) (mes := mes) (by simpa using hl) ok1 (re.mono f1) ?_ fun H' m' S' vs us ok' f' hp hr => ?_
      · exact h1.bind fun vs S2 H2 m2 ok2 f2 h2 => h2 H2 m2 ok2 .refl
      · exact hq H' m' S' (x :: vs) (v :: us) ok' (f1.trans f') hp (.cons (rv.mono f') hr)
theorem zip_keys : ∀ (ks : List Str) (us : List V), ((ks.map V.str).zip us) = ((ks.map fun k => (Sum.inr k : Key)).zip us).map fun kv => (kV kv.1, kv.2)
  | [], us => by simp
  | k :: ks, [] => by simp
  | k :: ks, u :: us => by simp [zip_keys ks us, kV]
/-- x = {"a": e, ..} -/
theorem ps_newkD {i : Nat} {x : Str} {p' : Pos} {ks : List Str} {mes : List ME} {e : Expr} (hN : X.N.Nodup) (hi : X.N[i]? = some x) (hx : Loc X.env.scope x) (hf : X.fn x = true ∨ X.env.scope.names.lookup x = some .local) (hs : swapsWith e (some (.Name x p')) pos.line X.env = pure false)
    (hl : ks.length = mes.length) (he : PE X e (tDisp (trsOf X.K W F ks mes))) : PS X (.Assign [.Name x p'] e pos) (tDS X.K W (execS F (.newk i ks mes))) := by
  refine PS_imp (ps_set hN hi hx he hs hf) fun E σ H ⟨m, S, ρ, ok, re, h⟩ => fun p hp => ?_
  rw [execS] at h
  obtain ⟨ok1, f1⟩ := ok.pushO hp (uo := .dK []) (oo := .dk []) fun f => ⟨[], upd_same, rfl, .nil⟩
  have re1 := re.mono f1
  have h1 := RunO.mono h f1
  refine tPairs_D (P := fun H' m' S' vs => RunO X.K W E H' m' S' (newkO ρ i S.length ks vs S')) hl ok1 re1 (RunO.of re1 h1 fun vs S1 H1 m1 ok2 f2 h2 => h2) fun H2 m2 S2 vs us ok2 f2 h2 hr => ?_
  unfold newkO at h2
  split at h2
  · rename_i ds S3 hg
    obtain ⟨ok3, f3, r3⟩ := ok2.grabs hr hg
    split at h2
    · rename_i hS
      split at h2
      · rename_i hc
        have hm : m2[S.length]? = some p := by
          obtain ⟨t, rfl⟩ := f2.2
          rw [List.getElem?_append_left (by simp [ok.len]), ← ok.len]; simp
        obtain ⟨kv, g1, g2, g3⟩ := ok3.at_ S.length p _ hm hS
        have hkv : kv = [] := by simpa using g2
        subst hkv
        refine ⟨g1, (ks.map fun k => (Sum.inr k : Key)).zip us, zip_keys ks us, ?_, ?_⟩
        · rw [List.length_zip, List.length_map]
          exact Nat.le_trans (Nat.min_le_left _ _) hc.2
        · obtain ⟨e1, e2⟩ := merge_rel (K := X.K) (H := H2) (N := Own m2 S3) (kv := []) (kvs := []) rfl .nil r3 hc.1
          obtain ⟨ok4, f4⟩ := ok3.writeO hm hS (fun z => nomatch z) (uo := .dK (mergeK [] ((ks.map fun k => (Sum.inr k : Key)).zip us))) (oo := .dk (mergeD [] ks ds)) fun f => ⟨_, upd_same, e1, e2.mono f⟩
          refine h2 _ m2 _ ok4 (f3.trans f4) ?_
          exact (((re1.mono f2).mono f3).mono f4).set i (d := .o S.length) ⟨p, hm, rfl⟩
      · exact h2.elim
    · exact h2.elim
  · exact h2.elim
/-- x = {} -/
theorem ps_newk0 {i : Nat} {x : Str} {p' p2 : Pos} (hN : X.N.Nodup) (hi : X.N[i]? = some x) (hx : Loc X.env.scope x) (hf : X.fn x = true ∨ X.env.scope.names.lookup x = some .local) :
    PS X (.Assign [.Name x p'] (.Dict [] [] p2) pos) (tDS X.K W (execS F (.newk i [] []))) := by
  refine PS_imp (ps_set hN hi hx pe_dnewK (by rfl) hf) fun E σ H ⟨m, S, ρ, ok, re, h⟩ => fun p hp => ?_
  rw [execS, evalEs] at h
  obtain ⟨ok2, f2⟩ := ok.pushO hp (uo := .dK []) (oo := .dk []) fun f => ⟨[], upd_same, rfl, .nil⟩
  have hO : Out.of ρ (R.ok ([] : List SV) (S ++ [O.dk []])) (fun vs S1 => newkO ρ i S.length [] vs S1) = .nx (ρ.set i (some (.o S.length))) (S ++ [.dk []]) := by
    simp [Out.of, newkO, grabs, mergeD]
  rw [hO] at h
  refine h _ (m ++ [p]) _ ok2 f2 ?_
  refine (re.mono f2).set i (d := .o S.length) ⟨p, ?_, rfl⟩
  rw [← ok.len]; simp
/-- x[k] = e -/
theorem ps_putkD {i : Nat} {x : Str} {p2 p3 : Pos} (hu : X.A.units + 1 < cLine) (hi : X.N[i]? = some x) (hv : Vis X.env.scope x) (hd : (x == ("__debug__" : Str)) = false) (hcd : (x == ("__classdict__" : Str)) = false)
    (ha : PE X a (tD X.K W ga)) (hb : PE X b (tD X.K W gb)) (hs : swapsWith a (some (.Subscript (.Name x p2) b p3)) pos.line X.env = pure false) :
    PS X (.Assign [.Subscript (.Name x p2) b p3] a pos) (tDS X.K W fun ρ S => Out.of ρ (ga ρ S) fun v S1 => match grab S1 v with
    | some (d, S2) => match ρ[i]? with
      | some (some (.o n)) => Out.of ρ (gb ρ S2) fun kv S3 => putkO ρ n d kv S3
      | _ => .bad
    | none => .bad) := by
  refine PS_imp (ps_dput hu (pe_var hi hv hd hcd) hb ha hs) fun E σ H ⟨m, S, ρ, ok, re, h⟩ => ⟨m, S, ρ, ok, re, RunO.of re h fun v S1 H1 m1 ok1 f1 h1 u ru => ?_⟩
  split at h1
  · rename_i d S2 hg
    obtain ⟨ok2, f2, r2⟩ := ok1.grab ru hg
    have re2 := (re.mono f1).mono f2
    split at h1
    · rename_i n hn
      obtain ⟨w, e, ad, hm, rfl⟩ := re2.2 i _ hn
      refine ⟨_, e, m1, S2, ρ, ok2, re2, RunO.of re2 (RunO.mono h1 f2) fun kv S3 H3 m3 ok3 f3 h3 y ry => ?_⟩
      unfold putkO at h3
      split at h3
      · rename_i k kvs hk hS
        split at h3
        · rename_i hz
          have hm3 : m3[n]? = some ad := by
            obtain ⟨t, rfl⟩ := f3.2
            rw [List.getElem?_append_left (List.getElem?_eq_some_iff.mp hm).1]; exact hm
          obtain ⟨kv', a1, a2, a3⟩ := ok3.at_ n ad _ hm3 hS
          cases keyV_rep ry hk
          have hlen : kv'.length = kvs.length := by have := congrArg List.length a2; simpa using this
          obtain ⟨ok4, f4⟩ := ok3.writeO hm3 hS (fun z => nomatch z) (uo := .dK (putK kv' k u)) (oo := .dk (putKD kvs k d)) fun f => ⟨putK kv' k u, upd_same, by rw [putK_keys, putKD_keys, a2], (reps_putKD a2 a3 (r2.mono f3.1)).mono f⟩
          exact ⟨ad, _, rfl, .inl ⟨kv', k, a1, rfl, by rw [hlen]; exact hz, rfl⟩, h3 _ m3 σ ok4 f4 ((re2.mono f3).mono f4)⟩
        · exact h3.elim
      · exact h3.elim
    · exact h1.elim
  · exact h1.elim
/-! ### a token is given out ahead of the written texts of e.replace(..) -/
/-- an expression behind which a token is out -/
def PEB (X : Cx) (e : Expr) (t : TE) : Prop :=
  ∀ (pins : List (Addr × Obj)) (s : Shared) (σ : L2.St) (H : Hp) (Q : VK), L2.Inv X pins σ H s → t σ H Q → wpAny (model X.prog X.w) X.A (eval e X.env) (fun v s1 => 1 ≤ s1.toks ∧ EP X pins σ Q v s1) X.xe s
theorem peb_op {op : Operator} {r : R2} {ta : TE} {i : Int} {j : Nat} {ci : Pos} (ho : OpR X (binaryOp op) r) (ha : PE X a ta) : PEB X (.BinOp a op (.Constant (.int i) j ci) pos) (tOp r ta (tC (.int i))) := by
  intro pins s σ H Q I h
  refine wpAny_BinOp (thn (ha.run pins s σ H _ I h) fun v s1 ⟨x, H1, I1, r1, q1⟩ => ?_)
  refine wpAny_Constant_int ?_
  refine wpAny_mono (PySem.wpAny_toks (ho pins { s1 with toks := s1.toks + 1 } σ H1 x (.int i) v (.int i s1.toks) Q (I1.tok _) r1 ⟨_, rfl⟩ q1)) (fun u s2 q => ⟨?_, q.2⟩) fun _ _ z => z.2
  exact Nat.le_trans (Nat.le_add_left 1 s1.toks) q.1
/-- arguments, the second of which gives out a token -/
theorem pa_B {e1 e2 : Expr} {es : List Expr} {t1 t2 : TE} {ta : TA} (h1 : PE X e1 t1) (h2 : PEB X e2 t2) (h3 : PAT X es ta) (hs1 : noStar e1 = true) (hs2 : noStar e2 = true) : PA X (e1 :: e2 :: es) (tCons t1 (tCons t2 ta)) := by
  refine ⟨fun pos pins s σ H Q I h => ?_⟩
  rw [star_cons hs1, star_cons hs2]
  refine Calls.spliced_cons (thn (h1.run pins s σ H _ I h) fun v s1 ⟨x, H1, I1, r1, q1⟩ => ?_)
  refine Calls.spliced_cons (wpAny_mono (h2 pins s1 σ H1 _ I1 q1) (fun v2 s2 ⟨hk, y, H2, I2, r2, q2⟩ => ?_) fun _ _ z => z)
  exact thn (h3 pos pins s2 σ H2 _ hk I2 q2) fun us s3 ⟨xs, H3, I3, r3, q3⟩ => ⟨x :: y :: xs, H3, I3, .cons r1 (.cons r2 r3), q3⟩
end
end M

/-! f(.., a - 1, .., w.replace(y, z)) -/
namespace M
open PySem PySem.Spec PyProof.Rows L2
section
variable {X : Cx} {W : WS} {F : FS} {a b : Expr} {ga gb : Ev → St' → R SV} {pos p : Pos}
theorem PAT_imp {es : List Expr} {t t' : TA} (h : PAT X es t) (i : ∀ σ H Q, t' σ H Q → t σ H Q) : PAT X es t' := fun pos pins s σ H Q h0 I hw => h pos pins s σ H Q h0 I (i _ _ _ hw)
theorem PEB_imp {e : Expr} {t t' : TE} (h : PEB X e t) (i : ∀ σ H Q, t' σ H Q → t σ H Q) : PEB X e t' := fun pins s σ H Q I hw => h pins s σ H Q I (i _ _ _ hw)
/-- a o i, i written -/
theorem peb_bin (o : Bn) {i : Int} {j : Nat} {ci : Pos} (ha : PE X a (tD X.K W ga)) : PEB X (.BinOp a (opOf o) (.Constant (.int i) j ci) pos) (tD X.K W fun ρ S => (ga ρ S).bind fun x S1 =>
      R.opt ((peek S1 x).bind fun d => (binD o d (.int i)).map .t) S1) := by
  refine PEB_imp (peb_op (or_bin o) ha) fun σ H Q ⟨m, S, ρ, ok, re, h⟩ => ?_
  refine tD_bind ok re h fun x v S1 H1 m1 ok1 re1 f1 rv h1 => ?_
  obtain ⟨r, e, q⟩ := Run.opt h1 ok1
  obtain ⟨d, e1, e⟩ := Option.bind_eq_some_iff.mp e
  obtain ⟨r', e3, rfl⟩ := Option.map_eq_some_iff.mp e
  exact ⟨m1, S1, d, .int i, r', ok1, ok1.peek rv e1, .of (.int i), e3, fun H' w ok' f' hw => q H' ok' f' w hw⟩
/-- what comes behind the first arguments -/
def tailR (F : FS) (w : ME) (y z : Str) (ρ : Ev) (S1 : St') : R SV := (evalE F w ρ S1).bind fun v S2 => R.opt (replV v y z) S2
def repR (F : FS) (mes : List ME) (w : ME) (y z : Str) (ρ : Ev) (S : St') : R (List SV) := (evalEs F mes ρ S).bind fun vs S1 => (tailR F w y z ρ S1).bind fun u S3 => .ok (vs ++ [u]) S3
theorem repR_nil (w : ME) (y z : Str) (ρ : Ev) (S : St') : repR F [] w y z ρ S = (tailR F w y z ρ S).bind fun u S3 => .ok [u] S3 := by
  unfold repR; rw [evalEs, R.bind_ok]; rfl
theorem repR_cons (me : ME) (mes : List ME) (w : ME) (y z : Str) (ρ : Ev) (S : St') : repR F (me :: mes) w y z ρ S = (evalE F me ρ S).bind fun v S1 => (repR F mes w y z ρ S1).bind fun vs S2 => .ok (v :: vs) S2 := by
  unfold repR
  rw [evalEs, R.bind_assoc]
  congr 1; funext v S1
  simp only [R.bind_assoc, R.bind_ok, List.cons_append]
theorem pat_rep0 {wx : Expr} {w : ME} {y z : Str} {j k : Nat} {c0 c1 ap cp : Pos} (hw : PE X wx (tD X.K W (evalE F w))) (hyz : (y == z) = false) (hb : attributeBase wx "replace" X.env (eval wx X.env) = eval wx X.env) (hl : (ap.endLine == cp.line) = true) :
    PAT X [.Call (.Attribute wx "replace" ap) [.Constant (.str y) j c0, .Constant (.str z) k c1] [] cp] (tDA X.K W (repR F [] w y z)) := by
  refine PAT_imp (pat_cons (CwR.pet_replC hw hyz (by rw [star_cons rfl, star_cons rfl, starEach]) hb hl) pat_nil (star_cons rfl)) fun σ H Q ⟨m, S, ρ, ok, re, h⟩ => ?_
  rw [repR_nil, tailR] at h
  simp only [R.bind_assoc] at h
  refine tD_bind ok re h fun x v S1 H1 m1 ok1 re1 f1 rv h1 => ?_
  obtain ⟨u, e, q⟩ := Run.opt_bind h1
  cases x with
  | t d =>
    cases d with
    | str xs =>
      simp only [replV] at e
      split at e
      · rename_i hz
        cases e
        unfold repT at q
        rw [RepS] at rv
        cases rv
        exact ⟨xs, rfl, hz, q H1 m1 ok1 .refl _ (.cons (by rw [RepS]; exact .str _) .nil)⟩
      · cases e
    | _ => cases e
  | _ => cases e
theorem pat_repC {e : Expr} {me : ME} {es : List Expr} {mes : List ME} {w : ME} {y z : Str} (he : PE X e (tD X.K W (evalE F me))) (hs : noStar e = true) (h : PAT X es (tDA X.K W (repR F mes w y z))) : PAT X (e :: es) (tDA X.K W (repR F (me :: mes) w y z)) := by
  refine PAT_imp (pat_cons (CwR.PET.of he) h (star_cons hs)) fun σ H Q ⟨m, S, ρ, ok, re, h⟩ => ?_
  rw [repR_cons] at h
  refine tD_bind ok re h fun x v S1 H1 m1 ok1 re1 f1 rv h1 => ?_
  exact tDA_bind ok1 re1 h1 fun xs vs S2 H2 m2 ok2 re2 f2 rvs h2 => h2 H2 m2 ok2 .refl _ (.cons (rv.mono f2) rvs)
theorem pa_rep {e1 e2 : Expr} {me1 me2 : ME} {es : List Expr} {mes : List ME} {w : ME} {y z : Str} (h1 : PE X e1 (tD X.K W (evalE F me1))) (h2 : PEB X e2 (tD X.K W (evalE F me2))) (hs1 : noStar e1 = true) (hs2 : noStar e2 = true) (h3 : PAT X es (tDA X.K W (repR F mes w y z))) :
    PA X (e1 :: e2 :: es) (tDA X.K W (repR F (me1 :: me2 :: mes) w y z)) := by
  refine PA_imp (pa_B h1 h2 h3 hs1 hs2) fun σ H Q ⟨m, S, ρ, ok, re, h⟩ => ?_
  rw [repR_cons] at h
  refine tD_bind ok re h fun x v S1 H1 m1 ok1 re1 f1 rv h1 => ?_
  rw [repR_cons] at h1
  simp only [R.bind_assoc] at h1
  refine tD_bind ok1 re1 h1 fun x2 v2 S2 H2 m2 ok2 re2 f2 rv2 h2 => ?_
  exact tDA_bind ok2 re2 h2 fun xs vs S3 H3 m3 ok3 re3 f3 rvs h3 => h3 H3 m3 ok3 .refl _ (.cons ((rv.mono f2).mono f3) (.cons (rv2.mono f3) rvs))
theorem eval_callR (f : Nat) (es : List ME) (w : ME) (y z : Str) : evalE F (.callR f es w y z) = fun ρ S => (repR F es w y z ρ S).bind fun vs S1 => F f vs S1 := by
  funext ρ S
  rw [evalE, repR]
  simp only [R.bind_assoc, tailR, R.bind_ok]
end
end M

/-! new dicts that are handed on, x[(a, b)] = e -/
namespace M
open PySem PySem.Spec PyProof.Rows L2
section
variable {X : Cx} {W : WS} {p pos : Pos}
/-- {} that is changed later -/
theorem pd_obT : PE X (.Dict [] [] pos) (tD X.K W fun _ S => .ok (.o S.length) (S ++ [.dt []])) := by
  refine PE_imp pe_dnewT fun σ H Q ⟨m, S, ρ, ok, re, h⟩ => fun p hp => ?_
  obtain ⟨ok2, f2⟩ := ok.pushO hp (uo := .dT []) (oo := .dt []) fun f => ⟨[], upd_same, rfl, by simp, .nil⟩
  refine h _ (m ++ [p]) ok2 f2 _ ?_
  rw [RepS]
  refine ⟨p, ?_, rfl⟩
  rw [← ok.len]; simp
/-- {} that stays -/
theorem pd_kd0 : PE X (.Dict [] [] pos) (tD X.K W fun _ S => .ok (.kd []) S) := by
  refine PE_imp pe_dnewK fun σ H Q ⟨m, S, ρ, ok, re, h⟩ => fun p hp => ?_
  obtain ⟨ok2, f2⟩ := ok.laid hp (.dK [])
  refine h _ m ok2 f2 _ ?_
  rw [RepS]
  exact ⟨p, [], rfl, .inl upd_same, ok.fresh hp, rfl, .nil⟩
/-- x[(a, b)] = e -/
theorem ps_puttD {i : Nat} {x : Str} {a : Expr} {es : List Expr} {ga : Ev → St' → R SV} {gs : Ev → St' → R (List SV)} {p2 p3 p4 pos : Pos} {k4 : Nat} (hu : X.A.units + 1 < cLine) (hi : X.N[i]? = some x) (hv : Vis X.env.scope x) (hd : (x == ("__debug__" : Str)) = false) (hcd : (x == ("__classdict__" : Str)) = false)
    (ha : PE X a (tD X.K W ga)) (hb : PA X es (tDA X.K W gs)) (hs : swapsWith a (some (.Subscript (.Name x p2) (.Tuple es k4 p4) p3)) pos.line X.env = pure false) :
    PS X (.Assign [.Subscript (.Name x p2) (.Tuple es k4 p4) p3] a pos) (tDS X.K W fun ρ S => Out.of ρ (ga ρ S) fun v S1 => match grab S1 v with
    | some (d, S2) => match ρ[i]? with
      | some (some (.o n)) => Out.of ρ (gs ρ S2) fun kv S3 => puttO ρ n d kv S3
      | _ => .bad
    | none => .bad) := by
  refine PS_imp (ps_dput hu (pe_var hi hv hd hcd) (pe_tup hb) ha hs) fun E σ H ⟨m, S, ρ, ok, re, h⟩ => ⟨m, S, ρ, ok, re, RunO.of re h fun v S1 H1 m1 ok1 f1 h1 u ru => ?_⟩
  split at h1
  · rename_i d S2 hg
    obtain ⟨ok2, f2, r2⟩ := ok1.grab ru hg
    have re2 := (re.mono f1).mono f2
    split at h1
    · rename_i n hn
      obtain ⟨w, e, ad, hm, rfl⟩ := re2.2 i _ hn
      refine ⟨_, e, m1, S2, ρ, ok2, re2, ?_⟩
      have h2 := RunO.mono h1 f2
      revert h2
      dsimp only
      cases gs ρ S2 with
      | bad => exact fun h => h
      | exc c p S' => exact fun h2 H3 m3 ok3 f3 => h2 H3 m3 σ ok3 f3 (re2.mono f3)
      | ok kv S3 =>
        intro h2 H3 m3 ok3 f3 vs rvs
        have h3 := RunO.mono h2 f3
        rw [Out.of_ok] at h3
        unfold puttO at h3
        split at h3
        · rename_i xs S4 hp
          obtain ⟨ok4, f4, r4⟩ := ok3.grabs rvs hp
          split at h3
          · rename_i ks kvs hks hS
            split at h3
            · rename_i hz
              cases keys_vs hks r4
              have hlk : ks.length ≤ sizeLine := hz.2
              refine ⟨by rw [List.length_map]; exact hlk, fun q hq => ?_⟩
              obtain ⟨ok5, f5⟩ := ok4.laid hq (.tup (ks.map kV))
              have hm3 : m3[n]? = some ad := by
                obtain ⟨t, rfl⟩ := f3.2
                rw [List.getElem?_append_left (List.getElem?_eq_some_iff.mp hm).1]; exact hm
              obtain ⟨kv', a1, a2, a3, a4⟩ := ok5.at_ n ad _ hm3 hS
              have hlen : kv'.length = kvs.length := by have := congrArg List.length a2; simpa using this
              obtain ⟨ok6, f6⟩ := ok5.writeO hm3 hS (fun z => nomatch z) (uo := .dT (putK kv' ks u)) (oo := .dt (putD kvs ks d)) fun f => ⟨putK kv' ks u, upd_same, by rw [putK_keys, putD_keys, a2], putD_nodup a3, (reps_putK a2 a4 (((r2.mono f3.1).mono f4.1).mono f5.1)).mono f⟩
              exact ⟨ad, _, rfl, .inr ⟨kv', ks, q, a1, rfl, upd_same, by rw [hlen]; exact hz.1, rfl⟩, h3 _ m3 σ ok6 ((f4.trans f5).trans f6) ((((re2.mono f3).mono f4).mono f5).mono f6)⟩
            · exact h3.elim
          · exact h3.elim
        · exact h3.elim
    · exact h1.elim
  · exact h1.elim
end
end M

/-! dict comprehensions: the new dict stands as an object meanwhile, then it stays -/
namespace M
open PySem PySem.Spec PyProof.Rows L2
section
variable {K : PySem.W.Frag} {W0 : WS} {Wd : WD} {σ : L2.St} {ρ : Ev} {H1 : Hp} {m1 : List Addr} {S1 : St'} {L : Addr} {Q : VK} {tg : Tg} {gc : Ev → St' → R Bool} {gk gv : Ev → St' → R SV}
theorem Run.bindAt {α β : Type} {P : Hp → List Addr → St' → α → Prop} {P' : Hp → List Addr → St' → β → Prop} {H : Hp} {m : List Addr} {S : St'} {r : R α} {f : α → St' → R β} (h : Run K P' Wd H1 m1 S1 (r.bind f)) (fr : Fr H1 m1 S1 H m S)
    (hk : ∀ a S2 H2 m2, StOk K H2 m2 S2 → Fr H m S H2 m2 S2 → Run K P' Wd H1 m1 S1 (f a S2) → P H2 m2 S2 a) : Run K P Wd H m S r := by
  cases r with
  | bad => exact h
  | exc c p S' => exact fun H' m' ok' f' => h H' m' ok' (fr.trans f')
  | ok a S2 => exact fun H2 m2 ok2 f2 => hk a S2 H2 m2 ok2 f2 h
/-- what follows the whole dict -/
abbrev KdQ (K : PySem.W.Frag) (Q : VK) : Hp → List Addr → St' → List (Key × D) → Prop := fun H' m' S' kvs => ∀ u, RepS K H' m' S' u (.kd kvs) → Q u H'
theorem dc_end {inv : Hp → List Addr → St' → Prop} {H : Hp} {m : List Addr} {S : St'} (hk : m1.length = S1.length) (a : LcAt K σ ρ H1 m1 S1 L inv H m S) (h : Run K (KdQ K Q) Wd H1 m1 S1 (dcEnd S1.length S)) : Q (.ref L) H := by
  unfold dcEnd at h
  split at h
  · rename_i acc hS
    have hL : m[S1.length]? = some L := by rw [← hk]; exact prefix_at a.pre
    obtain ⟨kv, g1, g2, g3⟩ := a.ok.at_ _ _ _ hL hS
    have e2 : m.take S1.length = m1 := by
      obtain ⟨t, rfl⟩ := a.pre
      rw [← hk, List.append_assoc, List.take_left]
    have t := a.ok.take S1.length
    rw [e2] at t
    have lo : ∀ {b : Addr}, Own m1 (S.take S1.length) b → Own m S b := fun z => own_take (n := S1.length) (by rw [e2]; exact z)
    refine h H m1 t ⟨fun b o e n => ⟨(a.fr.1 b o e n).1, fun z => (a.fr.1 b o e n).2 (lo z)⟩, List.prefix_refl _⟩ _ ?_
    rw [RepS]
    refine ⟨L, kv, rfl, .inl g1, ?_, g2, g3.mono fun b o e n => ⟨e, fun z => n (lo z)⟩⟩
    rintro ⟨j, e3, o, e4, ne⟩
    have hj : j < m1.length := (List.getElem?_eq_some_iff.mp e3).1
    have e5 : m[j]? = some L := by
      obtain ⟨t, rfl⟩ := a.pre
      rw [List.append_assoc, List.getElem?_append_left hj]; exact e3
    have := (List.getElem?_inj (List.getElem?_eq_some_iff.mp e5).1 a.ok.nd).mp (e5.trans hL.symm)
    omega
  · exact h.elim
theorem dc_turn {inv : Hp → List Addr → St' → Prop} (mono : ∀ H m S H' m' S', inv H m S → Fr H m S H' m' S' → inv H' m' S') {H : Hp} {m : List Addr} {S : St'} {x : D} {v : V} {rest : Unit → St' → R (List (Key × D))} (hk : m1.length = S1.length)
    (a : LcAt K σ ρ H1 m1 S1 L inv H m S) (rv : RepI K H (Own m S) tg v x) (h : Run K (KdQ K Q) Wd H1 m1 S1 ((dcTurn tg gc gk gv S1.length x ρ S).bind rest)) :
    gD K tg v (wipe σ (tgs tg)) H fun σ2 H2 => wipe σ2 (tgs tg) = wipe σ (tgs tg) ∧ tDT K W0 gc σ2 H2 fun b H3 =>
      if b = true then tD K W0 gk σ2 H3 fun y H4 => tD K W0 gv σ2 H4 fun z H5 => ∃ kvs k, y = kV k ∧ H5 L = some (.dK kvs) ∧ kvs.length < sizeLine ∧ (∃ m' S', LcAt K σ ρ H1 m1 S1 L inv (upd H5 L (.dK (putK kvs k z))) m' S' ∧ Run K (KdQ K Q) Wd H1 m1 S1 (rest () S'))
      else ∃ m' S', LcAt K σ ρ H1 m1 S1 L inv H3 m' S' ∧ Run K (KdQ K Q) Wd H1 m1 S1 (rest () S') := by
  unfold dcTurn at h
  split at h
  · exact h.elim
  · rename_i ρ' hb
    obtain ⟨ρ3, hb3, hre⟩ := RelE.of_bind (K := K) (H := H) (m := m) (S := S) hb
    refine ⟨m, S, wipeE ρ (tgs tg), x, ρ3, a.ok, a.re.wipe _, rv, hb3, fun σ2 re2 hl2 hj2 => ⟨?_, ?_⟩⟩
    · have := wipe_eq (vs := tgs tg) hl2 hj2
      rw [this]
      exact wipe_eq (wipe_length _ _) fun j hj => wipe_get hj
    · have re3 : RelE K H m S σ2 ρ' := hre σ2 re2 fun j e hj he => by
        obtain ⟨u, h1, h2⟩ := a.re.2 j e he
        exact ⟨u, by rw [hj2 j hj, wipe_get hj]; exact h1, h2⟩
      rw [R.bind_assoc] at h
      refine ⟨m, S, ρ', a.ok, re3, Run.nox (Wd := Wd) (Run.bindAt h a.fr fun b S2 H2 m2 ok2 f2 h2 => ?_)⟩
      have a2 := a.step mono ok2 f2
      cases b with
      | false => exact ⟨m2, S2, a2, h2⟩
      | true =>
        simp only [if_true, R.bind_assoc] at h2 ⊢
        refine ⟨m2, S2, ρ', ok2, re3.mono f2, Run.nox (Wd := Wd) (Run.bindAt h2 a2.fr fun y S3 H3 m3 ok3 f3 h3 u ru => ?_)⟩
        have a3 := a2.step mono ok3 f3
        cases hy : keyV y with
        | none => rw [hy] at h3; exact h3.elim
        | some k =>
          rw [hy, R.opt_some, R.bind_ok] at h3
          cases keyV_rep ru hy
          refine ⟨m3, S3, ρ', ok3, (re3.mono f2).mono f3, Run.nox (Wd := Wd) (Run.bindAt h3 a3.fr fun z S4 H4 m4 ok4 f4 h4 w rw' => ?_)⟩
          have a4 := a3.step mono ok4 f4
          unfold dcPut at h4
          split at h4
          · rename_i xd S5 hg
            obtain ⟨ok5, f5, r5⟩ := ok4.grab rw' hg
            have a5 := a4.step mono ok5 f5
            split at h4
            · rename_i acc hS
              split at h4
              · rename_i hz
                have hL : m4[S1.length]? = some L := by rw [← hk]; exact prefix_at a5.pre
                obtain ⟨kv, g1, g2, g3⟩ := ok5.at_ _ _ _ hL hS
                obtain ⟨ok6, f6⟩ := ok5.writeO hL hS (fun z => nomatch z) (uo := .dK (putK kv k w)) (oo := .dk (putKD acc k xd)) fun f => ⟨putK kv k w, upd_same, by rw [putK_keys, putKD_keys, g2], (reps_putKD g2 g3 r5).mono f⟩
                have hlen : kv.length = acc.length := by have := congrArg List.length g2; simpa using this
                exact ⟨kv, k, rfl, g1, by rw [hlen]; exact hz, m4, _, a5.step mono ok6 f6, h4⟩
              · exact h4.elim
            · exact h4.elim
          · exact h4.elim
end
section
variable {X : Cx} {W W0 : WS} {pos : Pos}
theorem pd_dc {kx vx tge iter : Expr} {ifs : List Expr} {scope : Scope} {own : List (Str × Nat)} {tg : Tg} {gi : Ev → St' → R Src} {gc : Ev → St' → R Bool} {gk gv : Ev → St' → R SV} (hc : X.calm = true) (hN : X.N.Nodup) (hi : PI X tge iter (tDI X.K tg W gi)) (ok : BlkOk X.N X.env.scope scope own) (hown : own.map (·.2) = tgs tg)
    (hg : ∀ (s : Shared) (H : Hp) (C : Addr) (cl : List (Str × Addr)) (fp : List Addr), PG (X.blk s H scope (compEnvC scope cl C X.env) fp) tge (gD X.K tg)) (ht : ∀ (s : Shared) (H : Hp) (C : Addr) (cl : List (Str × Addr)) (fp : List Addr), PTs (X.blk s H scope (compEnvC scope cl C X.env) fp) ifs (tDT X.K W0 gc))
    (hk : ∀ (s : Shared) (H : Hp) (C : Addr) (cl : List (Str × Addr)) (fp : List Addr), PE (X.blk s H scope (compEnvC scope cl C X.env) fp) kx (tD X.K W0 gk))
    (he : ∀ (s : Shared) (H : Hp) (C : Addr) (cl : List (Str × Addr)) (fp : List Addr), PE (X.blk s H scope (compEnvC scope cl C X.env) fp) vx (tD X.K W0 gv)) (hs : ∀ x, foldedSetIterable iter X.env x = pure x) :
    PE X (.DictComp kx vx [⟨tge, iter, ifs, 0⟩] scope pos) (tD X.K W fun ρ S => (gi ρ S).bind fun src S1 => (dcSrc tg gc gk gv src ρ S1).bind fun kvs S2 => .ok (.kd kvs) S2) := by
  refine PE_imp (pe_dc hc hN hi ok hg ht hk he hs) fun σ H Q ⟨m, S, ρ, ok0, re, h⟩ => ?_
  rw [hown]
  refine ⟨m, S, ρ, ok0, re, Run.bind h fun src S1 H1 m1 ok1 f1 h1 J inv fd iv L hL => ?_⟩
  have re1 := re.mono f1
  obtain ⟨ok2, f2⟩ := ok1.pushO hL (uo := .dK []) (oo := .dk []) fun f => ⟨[], upd_same, rfl, .nil⟩
  have a2 : LcAt X.K σ ρ H1 m1 S1 L inv (upd H1 L (.dK [])) (m1 ++ [L]) (S1 ++ [.dk []]) := ⟨ok2, List.prefix_refl _, re1.mono f2, fd.mono _ _ _ _ _ _ iv f2, f2⟩
  have h1 : Run X.K (KdQ X.K Q) (W σ) H1 m1 S1 (dcSrc tg gc gk gv src ρ S1) := by
    revert h1
    cases dcSrc tg gc gk gv src ρ S1 with
    | ok kvs S' => exact fun h1 => h1
    | exc c p S' => exact fun h1 => h1
    | bad => exact fun h1 => h1
  cases src with
  | fix xs =>
    refine ⟨fun i n H' => n = xs.length - i ∧ i ≤ xs.length ∧ ∃ m' S', LcAt X.K σ ρ H1 m1 S1 L inv H' m' S' ∧ Run X.K (KdQ X.K Q) (W σ) H1 m1 S1 (dcFix tg gc gk gv S1.length (xs.drop i) ρ S'), ⟨xs.length, by simp, Nat.zero_le _, _, _, a2, h1⟩, ?_⟩
    rintro i n H' ⟨rfl, hi', m', S', a', h'⟩
    by_cases hlt : i < xs.length
    · refine .inr ?_
      have hx : xs[i]? = some xs[i] := List.getElem?_eq_getElem hlt
      obtain ⟨go, yl⟩ := fd.item xs i _ H' m' S' rfl a'.iv a'.ok hx
      refine ⟨go, fun H'' => ∃ m'' S'', LcAt X.K σ ρ H1 m1 S1 L inv H'' m'' S'' ∧ Run X.K (KdQ X.K Q) (W σ) H1 m1 S1 (dcFix tg gc gk gv S1.length (xs.drop (i + 1)) ρ S''), fun H'' hh => ⟨xs.length - (i + 1), by omega, rfl, hlt, hh⟩, fun v H2 hy => ?_⟩
      obtain ⟨ok3, f3, rv⟩ := yl v H2 hy
      rw [List.drop_eq_getElem_cons hlt, dcFix] at h'
      exact dc_turn fd.mono ok1.len (a'.step fd.mono ok3 f3) rv h'
    · have e : i = xs.length := by omega
      subst e
      rw [List.drop_length, dcFix] at h'
      exact .inl ⟨fd.stop xs H' m' S' rfl a'.iv a'.ok, dc_end ok1.len a' h'⟩
  | live k => exact h1.elim
end
end M

/-! defs with one keyword-only parameter: called with it, and without -/
namespace M
open PySem PySem.Spec PyProof.Rows L2
section
variable {K : PySem.W.Frag} {H : Hp} {m : List Addr} {S : St'}
theorem RepSs.snoc : ∀ {vs : List V} {ds : List SV} {v : V} {d : SV}, RepSs K H m S vs ds → RepS K H m S v d → RepSs K H m S (vs ++ [v]) (ds ++ [d])
  | _, _, _, _, .nil, h => .cons h .nil
  | _, _, _, _, .cons q r, h => .cons q (r.snoc h)
theorem nox_ok {α : Type} {r : R α} {P : Hp → List Addr → St' → α → Prop} {W : WD} (h : Run K P W H m S r.nox) : ∃ a S', r = .ok a S' ∧ ∀ H' m', StOk K H' m' S' → Fr H m S H' m' S' → P H' m' S' a := by
  cases r with
  | ok a S' => exact ⟨a, S', rfl, h⟩
  | exc c p S' => exact h.elim
  | bad => exact h.elim
end
section
variable {X : Cx} {W : WS} {a e : Expr} {es : List Expr} {gs : Ev → St' → R (List SV)} {ge : Ev → St' → R SV} {pos p kpos : Pos} {x kw : Str} {xr : XR} {k : Nat} {f : Addr} {fd : FuncData} {ps : List Str} {g : List SV → St' → R SV} {d : D} {v0 : V} {u0 : Value}
theorem passN : Passes (L2.CX X.prog X.w) X (fun _ _ _ => False) := fun _ _ _ _ _ _ _ ⟨_, _, _, _, _, _, _, _, _, _, _, _, z⟩ => z.elim
theorem ce_callK (F : FnOk X.prog X.w X.K X.mg X.base (L2.CX X.prog X.w) k f fd ps (spOf X.K xr ps.length g)) (hl : ∀ ds S, g ds S ≠ .bad → ds.length = ps.length)
    (hr : Room k X.A) (hg : Gl X x) (hm : X.mg x = some (.ref f)) (hk : PySem.W.keepIn X.K (.ref f) = true) (hp : 0 < ps.length) (hb : KBn X.K fd ps (ps.length - 1) [kw] (fun us ws => us ++ ws) (fun vs zs => vs ++ zs)) (hdb : (x == ("__debug__" : Str)) = false)
    (ha : PA X (a :: es) (tDA X.K W gs)) (he : PE X e (tD X.K W ge)) (hst : (a :: es).all noStar = true) :
    PE X (.Call (.Name x p) (a :: es) [⟨some kw, e, kpos⟩] pos) (tD X.K W fun ρ S => (gs ρ S).bind fun vs S1 => (ge ρ S1).bind fun v S2 => (g (vs ++ [v]) S2).nox) := by
  have hst' := hst
  rw [List.all_cons, Bool.and_eq_true] at hst'
  refine PE_imp (pe_callN F hr hg hm hk hb passN ha (pk_cons he pk_nil) rfl rfl hdb (star_cons hst'.1) (by rw [star_any hst]; rfl)) fun σ H Q ⟨m, S, ρ, ok, re, h⟩ => ?_
  refine tDA_bind ok re h fun xs vs S1 H1 m1 ok1 re1 f1 rvs h1 => ?_
  refine tD_bind ok1 re1 h1 fun y u S2 H2 m2 ok2 re2 f2 ru h2 => ?_
  obtain ⟨r, S', e1, q⟩ := nox_ok h2
  have hlen := hl _ _ (show g (xs ++ [y]) S2 ≠ .bad by rw [e1]; exact fun z => nomatch z)
  have rs : RepSs X.K H2 m2 S2 (vs ++ [u]) (xs ++ [y]) := (rvs.mono f2).snoc ru
  have hv : vs.length + 1 = ps.length := by rw [rvs.length]; simpa using hlen
  refine ⟨by omega, rfl, by rw [List.length_append]; exact hv, m2, S2, xs ++ [y], ok2, rs, ?_⟩
  rw [e1]
  exact fun H' w ok' f' rw' => q H' m2 ok' f' w rw'
theorem ce_callD (F : FnOk X.prog X.w X.K X.mg X.base (L2.CX X.prog X.w) k f fd ps (spOf X.K xr ps.length g)) (hl : ∀ ds S, g ds S ≠ .bad → ds.length = ps.length)
    (hr : Room k X.A) (hg : Gl X x) (hm : X.mg x = some (.ref f)) (hk : PySem.W.keepIn X.K (.ref f) = true) (hv0 : RelV v0 u0) (hd : ∀ H N, Rep X.K H N v0 d) (hb : Binds X.K fd ps [u0]) (hdb : (x == ("__debug__" : Str)) = false)
    (ha : PA X (a :: es) (tDA X.K W gs)) (hst : (a :: es).all noStar = true) :
    PE X (.Call (.Name x p) (a :: es) [] pos) (tD X.K W fun ρ S => (gs ρ S).bind fun vs S1 => (g (vs ++ [.t d]) S1).nox) := by
  have hst' := hst
  rw [List.all_cons, Bool.and_eq_true] at hst'
  refine PE_imp (pe_call F hr hg hm hk hb (.cons hv0 .nil) passN ha hdb (star_cons hst'.1) (star_any hst'.2)) fun σ H Q ⟨m, S, ρ, ok, re, h⟩ => ?_
  refine tDA_bind ok re h fun xs vs S1 H1 m1 ok1 re1 f1 rvs h1 => ?_
  obtain ⟨r, S', e1, q⟩ := nox_ok h1
  have hlen := hl _ _ (show g (xs ++ [.t d]) S1 ≠ .bad by rw [e1]; exact fun z => nomatch z)
  have rs : RepSs X.K H1 m1 S1 (vs ++ [v0]) (xs ++ [.t d]) := rvs.snoc (by rw [RepS]; exact hd _ _)
  refine ⟨by rw [rs.length]; exact hlen, m1, S1, xs ++ [.t d], ok1, rs, ?_⟩
  rw [e1]
  exact fun H' w ok' f' rw' => q H' m1 ok' f' w rw'
end
end M

/-! {True: False, False: True}.get(x, None) -/
namespace M
open PySem PySem.Spec PyProof.Rows L2
def triL : List (Leaf × Value) := [(.num 1, .bool false), (.num 0, .bool true)]
/-- the written dict, as it stands -/
def TriO (P : Program) (w : World) (p : Addr) : HO := .ext fun h => h.DictOf (leafKind P w) p triL ∧ (p == sysModules) = false
section
variable {X : Cx} {pins : List (Addr × Obj)} {σ : L2.St} {H : Hp} {s : Shared}
theorem tri_at {p : Addr} (I : L2.Inv X pins σ H s) (h : H p = some (TriO X.prog X.w p)) : s.heap.DictOf (leafKind X.prog X.w) p triL ∧ (p == sysModules) = false :=
  (show ObjOk X.prog X.w H s.heap p (TriO X.prog X.w p) from I.hok p _ h).1
/-- a method's call, its owner's type told by ty -/
theorem pe_bmG {o e : Expr} {es : List Expr} {to : TE} {t : TA} {name : Str} {apos cpos : Pos} {T id : String} {r : V → List V → Hp → VK → Prop} {ty : V → Hp → Prop} (pa : PlainAttrs T) (slot : Slot T name id) (hty : typeOf (.builtin id) = pure (.type "method_descriptor"))
    (hT : ∀ (pins : List (Addr × Obj)) (σ : L2.St) (H : Hp) (s : Shared) (x : V) (v : Value), L2.Inv X pins σ H s → RelV x v → ty x H → s.TypeIs v T ∧ ∀ a, v = .ref a → ∃ ob, s.heap.get? a = some ob ∧ ob.dict = none) (hm : MtR X id r) (ho : PE X o to) (ha : PA X (e :: es) t)
    (hbase : attributeBase o name X.env (eval o X.env) = eval o X.env)
    (hfew : ((backTo cpos (starEach (e :: es) X.env)).all (fun x => !x.1) && (backToKw cpos (keywordEach [] X.env)).all (fun x => x.1.isSome)
      && decide ((e :: es).length + ([] : List Keyword).length + (if ([] : List Keyword).isEmpty then 0 else 1) < 30)) = true)
    (hline : (apos.endLine == cpos.line) = true) (hs : starEach (e :: es) X.env = (false, eval e X.env) :: starEach es X.env) (hplain : (backTo cpos (starEach es X.env)).any (·.1) = false) :
    PE X (.Call (.Attribute o name apos) (e :: es) [] cpos) (fun σ H Q => to σ H fun x H1 => ty x H1 ∧ t σ H1 fun xs H2 => r x xs H2 Q) := by
  refine ⟨fun pins s σ H Q I h => wpAny_Call_method_late hbase hfew hline rfl (thn (ho.run pins s σ H _ I h) fun v s1 ⟨x, H1, I1, r1, ty, q1⟩ => ⟨T, id, pa, slot, hty, (hT _ _ _ _ _ _ I1 r1 ty).1, (hT _ _ _ _ _ _ I1 r1 ty).2, ?_⟩)⟩
  have hA := thn (ha.run cpos pins s1 σ H1 _ I1 q1) fun us s2 ⟨vs, H2, I2, r2, q2⟩ => hm pins s2 σ H2 x vs v us Q I2 r1 r2 q2
  rw [hs] at hA ⊢
  refine Calls.callWith_builtin ?_ (Calls.evalArgs_plain hA)
  show (false || (backTo cpos (starEach es X.env)).any (·.1)) = false
  rw [hplain]; rfl
variable {j1 j2 j3 j4 j5 : Nat} {c1 c2 c3 c4 c5 dp ap cp : Pos}
theorem pe_triD : PE X (.Dict [some (.Constant (.bool true) j1 c1), some (.Constant (.bool false) j2 c2)] [.Constant (.bool false) j3 c3, .Constant (.bool true) j4 c4] dp) (fun _ H Q => ∀ p, H p = none → Q (.ref p) (upd H p (TriO X.prog X.w p))) := by
  refine ⟨fun pins s σ H Q I q => ?_⟩
  have hn := I.hok.fresh (Nat.le_refl s.heap.objs.size)
  have I1 := I.laid (a := s.heap.objs.size) (o := .dK []) (h' := s.heap.push { cls := .type "dict", data := .dict #[] }) (t' := s.toks) (fun _ _ q => Heap.get?_push_of_some _ q) (Nat.le_refl _) (dk_empty s.heap I.big)
  have pp : PPs X dp [some (.Constant (.bool true) j1 c1), some (.Constant (.bool false) j2 c2)] [.Constant (.bool false) j3 c3, .Constant (.bool true) j4 c4] [(tC (.bl true), tC (.bl false)), (tC (.bl false), tC (.bl true))] := pps_cons pe_bl pe_bl (pps_cons pe_bl pe_bl pps_nil)
  refine wpAny_Dict_walk (knd := leafKind X.prog X.w) rfl rfl (by simp) (by simp) (thn (pp.run pins _ σ _ (fun ps H2 => ps = [(.bl true, .bl false), (.bl false, .bl true)] ∧ H2 = upd H s.heap.objs.size (.dK [])) I1 ⟨rfl, rfl⟩) fun ws s2 ⟨ps, H2, I2, rel, e1, e2⟩ => ?_)
  subst e1 e2
  cases rel with
  | @cons a b as bs h1 t =>
    cases t with
    | @cons a' b' as' bs' h2 t =>
      cases t
      obtain ⟨b1, b2⟩ := b
      obtain ⟨b3, b4⟩ := b'
      obtain ⟨rfl, rfl⟩ : b1 = Value.bool true ∧ b2 = Value.bool false := h1
      obtain ⟨rfl, rfl⟩ : b3 = Value.bool false ∧ b4 = Value.bool true := h2
      obtain ⟨z, hd, vs0, r0, dd⟩ := dk_of I2.hok (show upd H s.heap.objs.size (.dK []) s.heap.objs.size = some (.dK []) from upd_same)
      cases r0
      obtain ⟨o, es, ep, g1, g2, g3, g4, g5, g6⟩ := dd
      have hes : es = #[] := by
        cases hq : es.toList with
        | nil => exact Array.toList_eq_nil_iff.mp hq
        | cons x xs => rw [hq] at g5; cases g5
      subst hes
      refine ⟨triL, ⟨rfl, rfl, rfl, rfl, trivial⟩, ⟨o, #[], ep, g1, g2, g3, (by intro i hi; simp at hi), (by first | exact trivial | exact .nil), List.nodup_nil⟩, fun h' dd' hs => ⟨.ref s.heap.objs.size, _, ?_, rfl, q _ hn⟩⟩
      have he : ∃ q, h'.get? s.heap.objs.size = some q := let ⟨q, _, _, hq, _⟩ := dd'; ⟨q, hq⟩
      have I3 := d_write (t' := s2.toks + [(Value.bool true, Value.bool false), (Value.bool false, Value.bool true)].length) (ob := TriO X.prog X.w s.heap.objs.size) I2 (by rw [upd_same]; exact True.intro) hs he
        ⟨⟨dd', hd⟩, he, fun h1 h2 ⟨⟨o, es, ep, a1, a2⟩, a3⟩ k => ⟨⟨o, es, ep, k o a1, a2⟩, a3⟩⟩
      rw [upd_upd] at I3
      exact I3
/-- of a truth the other one, of None None -/
theorem mt_tri : MtR X "dict.get" (fun x xs H Q => ∃ p v, x = .ref p ∧ H p = some (TriO X.prog X.w p) ∧ xs = [v, .non] ∧ ((∃ b, v = .bl b ∧ Q (.bl (!b)) H) ∨ (v = .non ∧ Q .non H))) := by
  intro pins s σ H x xs v us Q I rx rs h
  obtain ⟨p, y, rfl, hp, rfl, h⟩ := h
  cases rx
  cases rs with
  | cons r1 rs =>
    cases rs with
    | cons r2 rs =>
      cases rs
      cases r2
      obtain ⟨dd, hd⟩ := tri_at I hp
      rcases h with ⟨b, rfl, q⟩ | ⟨rfl, q⟩
      · cases r1
        refine call_meetsIn PySem.F.slot_dict_get dd.typeIs PySem.F.entry_dict_get (PySem.F.args_dict_get_3 _ _ _) (meets_dict_get_default (leafKind X.prog X.w) p (k := .num (if b = true then 1 else 0)) (by show decide _ = true; simp) hd .none) ⟨_, dd.mapOf, .bl (!b), H, I.tok _, ?_, q⟩
        cases b <;> rfl
      · cases r1
        refine call_meetsIn PySem.F.slot_dict_get dd.typeIs PySem.F.entry_dict_get (PySem.F.args_dict_get_3 _ _ _) (meets_dict_get_default (leafKind X.prog X.w) p (k := .none) rfl hd .none) ⟨_, dd.mapOf, .non, H, I.tok _, rfl, q⟩
variable {W : WS} {a : Expr} {ga : Ev → St' → R SV}
theorem pd_tri (ha : PE X a (tD X.K W ga)) (hst : noStar a = true) (hline : (ap.endLine == cp.line) = true) :
    PE X (.Call (.Attribute (.Dict [some (.Constant (.bool true) j1 c1), some (.Constant (.bool false) j2 c2)] [.Constant (.bool false) j3 c3, .Constant (.bool true) j4 c4] dp) "get" ap) [a, .Constant .none j5 c5] [] cp) (tD X.K W fun ρ S => (ga ρ S).bind fun x S1 => R.opt (triV x) S1) := by
  have hall : [a, Expr.Constant .none j5 c5].all noStar = true := by rw [List.all_cons, hst]; rfl
  refine PE_imp (pe_bmG (ty := fun x H => ∃ p, x = .ref p ∧ H p = some (TriO X.prog X.w p)) PySem.F.plainAttrs_dict PySem.F.slot_dict_get PySem.F.type_dict_get (fun pins σ H s x v I r ⟨p, e, hp⟩ => ?_) mt_tri pe_triD (pa_cons ha (pa_cons pe_non pa_nil (star_cons rfl)) (star_cons hst)) (attr_plain rfl) (few hall (by simp)) hline (star_cons hst) (star_any rfl)) fun σ H Q ⟨m, S, ρ, ok, re, h⟩ => ?_
  · subst e
    cases r
    obtain ⟨dd, _⟩ := tri_at I hp
    refine ⟨dd.typeIs, fun a e => ?_⟩
    cases e
    obtain ⟨o, es, ep, g1, g2, _⟩ := dd
    exact ⟨o, g1, g2.2.1⟩
  · intro p hp
    refine ⟨⟨p, rfl, upd_same⟩, ?_⟩
    obtain ⟨ok2, f2⟩ := ok.laid hp (TriO X.prog X.w p)
    have np : ¬ Own m S p := ok.fresh hp
    refine tD_bind ok2 (re.mono f2) (Run.mono h f2) fun x v S1 H1 m1 ok1 re1 f1 rv h1 => ?_
    obtain ⟨r, e, q⟩ := Run.opt h1 ok1
    refine ⟨p, v, rfl, (f1.1 p _ upd_same np).1, rfl, ?_⟩
    cases x with
    | t d =>
      rw [RepS] at rv
      cases rv with
      | bl b => cases e; exact .inl ⟨b, rfl, q H1 ok1 .refl _ (by rw [RepS]; exact .bl _)⟩
      | non => cases e; exact .inr ⟨rfl, q H1 ok1 .refl _ (by rw [RepS]; exact .non)⟩
      | _ => cases e
    | _ => cases e
end
end M

/-! repr of a list, where no other repr is under way -/
namespace M
open PySem PySem.Spec PyProof.Rows L2
mutual
theorem toPy_noDict : ∀ d : D, (toPy d).hasDict = false
  | .non => rfl
  | .bl _ => rfl
  | .int _ => rfl
  | .str _ => rfl
  | .tup xs => by rw [toPy, PyData.hasDict]; exact toPys_noDict xs
  | .lst xs => by rw [toPy, PyData.hasDict]; exact toPys_noDict xs
theorem toPys_noDict : ∀ ds : List D, PyData.hasDictAll (toPys ds) = false
  | [] => rfl
  | d :: ds => by rw [toPys, PyData.hasDictAll, toPy_noDict d, toPys_noDict ds]; rfl
end
section
variable {X : Cx} {W : WS} {a : Expr} {ga : Ev → St' → R SV} {p pos : Pos}
theorem call_reprL (hgd : X.A.guards = some []) (hu : X.A.units + 70 < cLine) : CallR X (.builtin "repr") (fun xs H Q => ∃ m S v d r, xs = [v] ∧ StOk X.K H m S ∧ PR X.K H (Own m S) v d ∧ reprD d = some r ∧ Fol X.K H m S r Q) := by
  intro pins s σ H xs us Q I rr h
  obtain ⟨m, S, v, d, r, rfl, ok, hx, hr, f⟩ := h
  unfold reprD at hr
  split at hr
  · rename_i ys
    split at hr
    · rename_i hc
      cases hr
      simp only [Bool.and_eq_true, decide_eq_true_eq] at hc
      obtain ⟨⟨h1, h2⟩, h3⟩ := hc
      obtain ⟨l, ws, rfl, g1, g2⟩ := id hx.lst
      obtain ⟨u, rfl, ru⟩ := vals1 rr
      cases ru
      have hxd := hx.dp
      obtain ⟨as, rd⟩ := Dp.reads I (toPy (.lst ys)) (.ref l) (.ref l) hxd rfl
      have hdp : (toPy (.lst ys)).depth ≤ 64 := SeqAt.depth_of_shaped h1
      refine repr_of_reads' rd h2 (fun z => by rw [toPy_noDict] at z; cases z) hgd (by omega) (fun _ _ e => e) (fun h' u tk hk => ?_) h3
      exact ⟨.str _, H, I.kept (t' := tk) hk, ⟨_, rfl⟩, f.here ok (.str _)⟩
    · cases hr
  · cases hr
theorem pd_reprL (hgd : X.A.guards = some []) (hu : X.A.units + 70 < cLine) (hg : Gl X "repr") (hm : X.mg "repr" = none) (hst : noStar a = true) (ha : PE X a (tD X.K W ga)) :
    PE X (.Call (.Name "repr" p) [a] [] pos) (tD X.K W fun ρ S => (ga ρ S).bind fun x S1 => R.opt (((peek S1 x).bind reprD).map .t) S1) := by
  refine PE_imp (pe_callB (call_reprL hgd hu) hg hm (by decide +kernel) (pa_cons ha pa_nil (star_cons hst)) (by decide) (by decide) (star_cons hst) rfl) fun σ H Q ⟨m, S, ρ, ok, re, h⟩ => ?_
  refine tD_bind ok re h fun x v S1 H1 m1 ok1 re1 f1 rv h1 => ?_
  obtain ⟨r, e, q⟩ := Run.opt h1 ok1
  obtain ⟨r', e3, rfl⟩ := Option.map_eq_some_iff.mp e
  obtain ⟨d, e1, e2⟩ := Option.bind_eq_some_iff.mp e3
  exact ⟨m1, S1, v, d, r', rfl, ok1, ok1.peek rv e1, e2, fun H' w ok' f' hw => q H' ok' f' w hw⟩
end
end M

/-! what is checked is sound: expressions -/
namespace M
open PySem PySem.Spec PyProof.Rows L2

/-- how a def's arguments are bound: all are given; the keyword-only one is given, or it is not -/
def BindK (K : PySem.W.Frag) (fd : FuncData) (fi : FI) : Prop := match fi.kw with
  | none => Binds K fd fi.ps []
  | some p => 0 < fi.ps.length ∧ (∃ v u, RelV v u ∧ (∀ H N, Rep K H N v p.2) ∧ Binds K fd fi.ps [u]) ∧ KBn K fd fi.ps (fi.ps.length - 1) [p.1] (fun us ws => us ++ ws) (fun vs zs => vs ++ zs)
theorem BindK.all {K : PySem.W.Frag} {fd : FuncData} {fi : FI} (h : BindK K fd fi) (e : fi.kw.isNone = true) : Binds K fd fi.ps [] := by
  unfold BindK at h
  cases q : fi.kw with
  | none => rw [q] at h; exact h
  | some p => rw [q] at e; cases e
theorem BindK.kw {K : PySem.W.Frag} {fd : FuncData} {fi : FI} {k : Str} (h : BindK K fd fi) (e : fi.hasK k = true) : 0 < fi.ps.length ∧ KBn K fd fi.ps (fi.ps.length - 1) [k] (fun us ws => us ++ ws) (fun vs zs => vs ++ zs) := by
  unfold BindK at h
  unfold FI.hasK at e
  cases q : fi.kw with
  | none => rw [q] at e; cases e
  | some p =>
    rw [q] at h e
    cases of_decide_eq_true e
    exact ⟨h.1, h.2.2⟩
theorem BindK.dfl {K : PySem.W.Frag} {fd : FuncData} {fi : FI} {d : D} (h : BindK K fd fi) (e : fi.hasD d = true) : ∃ v u, RelV v u ∧ (∀ H N, Rep K H N v d) ∧ Binds K fd fi.ps [u] := by
  unfold BindK at h
  unfold FI.hasD at e
  cases q : fi.kw with
  | none => rw [q] at e; cases e
  | some p =>
    rw [q] at h e
    cases same_eq _ _ e
    exact h.2.1
structure Gd (G : Glo) (F : FS) (xr : XR) (k : Nat) (X : Cx) : Prop where
  nd : X.N.Nodup
  calm : X.calm = true
  room : Room k X.A
  fns : ∀ f fi, G.fns[f]? = some fi → ∃ (a : Addr) (fd : FuncData), X.mg fi.name = some (.ref a) ∧ PySem.W.keepIn X.K (.ref a) = true ∧ BindK X.K fd fi ∧ FnOk X.prog X.w X.K X.mg X.base (L2.CX X.prog X.w) k a fd fi.ps (spOf X.K xr fi.ps.length (F f)) ∧ ∀ ds S, F f ds S ≠ .bad → ds.length = fi.ps.length
  free : ∀ x ∈ G.free, X.mg x = none
  consts : ∀ p ∈ G.consts, ∃ (u : Value) (v : V), X.mg p.1 = some u ∧ RelV v u ∧ ∀ H N, Rep X.K H N v p.2
  two : 2 ≤ k
  cls : ∀ p ∈ G.cls, ∃ (sf : Str) (fI : Addr) (fd : FuncData), ClsF X.K p.1 p.2 ∧ Mk X.K (He.ga X.K p.1) fI ∧ FnOk X.prog X.w X.K X.mg X.base CX0 1 fI fd (sf :: p.2) (initSp X.K p.1 p.2) ∧ Binds X.K fd (sf :: p.2) [] ∧ X.mg p.1 = some (.ref (He.ga X.K p.1))
  gds : ∀ p ∈ G.gds, ∃ d, X.mg p.1 = some (.ref d) ∧ gdOk X.K X.w d p.2
  top : G.top = true → X.A.guards = some []
theorem Gd.blk {G : Glo} {F : FS} {xr : XR} {k : Nat} {X : Cx} (g : Gd G F xr k X) (s : Shared) (H : Hp) (scope : Scope) (cenv : Env) (fp : List Addr) : Gd G F xr k (X.blk s H scope cenv fp) :=
  ⟨g.nd, g.calm, g.room, g.fns, g.free, g.consts, g.two, g.cls, g.gds, g.top⟩
theorem Gd.u70 {G : Glo} {F : FS} {xr : XR} {k : Nat} {X : Cx} (g : Gd G F xr k X) : X.A.units + 70 < cLine := by have := g.room.un; omega
theorem Gd.u65 {G : Glo} {F : FS} {xr : XR} {k : Nat} {X : Cx} (g : Gd G F xr k X) : X.A.units + 65 < cLine := by have := g.room.un; omega

structure Snd (X : Cx) (W : WS) (F : FS) (me : ME) (e : Expr) : Prop where
  pe : PE X e (tD X.K W (evalE F me))
  pt : PT X e (tDT X.K W fun ρ S => tru (evalE F me ρ S))
  pw : ∀ op l p, e = .BoolOp op l p → PW X e (tDT X.K W fun ρ S => tru (evalE F me ρ S))
/-- a form whose test is its value's truth -/
def plainT : Expr → Bool
  | .UnaryOp .Not _ _ | .BoolOp _ _ _ | .IfExp _ _ _ _ | .Compare _ _ _ _ => false
  | _ => true
theorem plainT_is {env : Env} {a : Expr} (h : plainT a = true) : ∀ whole, isTrue a env whole = (do let v ← whole; standAt a.pos; holding [v] (truthy v)) := by
  intro whole
  unfold PySem.isTrue
  split <;> first
    | (exfalso; cases h; done)
    | rfl
theorem Snd.plain {X : Cx} {W : WS} {F : FS} {me : ME} {e : Expr} (h : PE X e (tD X.K W (evalE F me))) (hp : plainT e = true) : Snd X W F me e :=
  ⟨h, pt_D h (plainT_is hp), fun op l p z => by subst z; cases hp⟩
theorem sub_plain {b : Expr} (h : notSlice b = true) : PlainIx b := by
  intro o i
  unfold subscripted
  split <;> first
    | (exfalso; cases h; done)
    | rfl
    | (rename_i z; exact absurd z (by simp))
theorem visB_ok {X : Cx} {i : Nat} {x : Str} (h : visB X.N X.env.scope i x = true) : X.N[i]? = some x ∧ Vis X.env.scope x ∧ (x == ("__debug__" : Str)) = false ∧ (x == ("__classdict__" : Str)) = false := by
  unfold visB at h
  simp only [Bool.and_eq_true, Bool.or_eq_true, decide_eq_true_eq, Bool.not_eq_true'] at h
  obtain ⟨⟨⟨h1, h2⟩, h3⟩, h4⟩ := h
  refine ⟨h1, ?_, h3, h4⟩
  rcases h2 with (h2 | h2) | h2
  · exact .inl (isK_eq h2)
  · exact .inr (.inl (isK_eq h2))
  · exact .inr (.inr (isK_eq h2))
theorem gloB_ok {X : Cx} {x : Str} (h : gloB X.env.scope x = true) : Gl X x ∧ (x == ("__debug__" : Str)) = false ∧ x ≠ ("__name__" : Str) := by
  unfold gloB at h
  simp only [Bool.and_eq_true, Bool.not_eq_true', decide_eq_false_iff_not] at h
  exact ⟨isK_eq h.1.1, h.1.2, h.2⟩
theorem freeB_ok {G : Glo} {F : FS} {xr : XR} {k : Nat} {X : Cx} (g : Gd G F xr k X) {x : Str} (h : freeB G X.env.scope x = true) : Gl X x ∧ (x == ("__debug__" : Str)) = false ∧ x ≠ ("__name__" : Str) ∧ X.mg x = none := by
  unfold freeB at h
  simp only [Bool.and_eq_true, decide_eq_true_eq] at h
  obtain ⟨h1, h2, h3⟩ := gloB_ok h.1
  exact ⟨h1, h2, h3, g.free x h.2⟩
theorem biN_boot (b : Bi) : bootBuiltins (biN b) = some (bval b) := by cases b <;> (simp only [biN, bval]; decide +kernel)
theorem tyS_boot (t : Ty) : bootBuiltins (tyS t) = some (.type (tyN t)) := by cases t <;> (simp only [tyS, tyN]; decide +kernel)
theorem const_pe {X : Cx} {W : WS} {F : FS} {d : D} {c : Const} {j : Nat} {pos : Pos} (h : constB d c = true) : PE X (.Constant c j pos) (tD X.K W (evalE F (.lit d))) := by
  have e : (evalE F (.lit d)) = fun _ S => .ok (.t d) S := by funext ρ S; rw [evalE]
  rw [e]
  unfold constB at h
  split at h
  · exact pd_const (F := F) pe_non fun _ _ => .non
  · have := eq_of_beq h; subst this; exact pd_const (F := F) pe_bl fun _ _ => .bl _
  · have := of_decide_eq_true h; subst this; exact pd_const (F := F) pe_int fun _ _ => .int _
  · have := of_decide_eq_true h; subst this; exact pd_const (F := F) pe_str fun _ _ => .str _
  · cases h
theorem tgB_ok {X : Cx} {cl : Str → Bool} (hcl : ∀ x, cl x = true → X.fn x = true) {i : Nat} {x : Str} (h : tgB X.N X.env.scope cl i x = true) : X.N[i]? = some x ∧ Loc X.env.scope x ∧ (X.fn x = true ∨ X.env.scope.names.lookup x = some .local) := by
  unfold tgB at h
  simp only [Bool.and_eq_true, Bool.or_eq_true, decide_eq_true_eq] at h
  obtain ⟨h1, h2 | h2⟩ := h
  · exact ⟨h1, .inl (isK_eq h2), .inr (isK_eq h2)⟩
  · exact ⟨h1, .inr (isK_eq h2.1), .inl (hcl x h2.2)⟩
theorem tgsB_ok {X : Cx} {cl : Str → Bool} (hcl : ∀ x, cl x = true → X.fn x = true) : ∀ {is : List Nat} {es : List Expr}, tgsB X.N X.env.scope cl is es = true → TgsOk X is es
  | [], [], _ => .nil
  | i :: is, .Name x p :: es, h => by
    rw [tgsB, Bool.and_eq_true] at h
    obtain ⟨a, b, c⟩ := tgB_ok hcl h.1
    exact .cons a b c (tgsB_ok hcl h.2)
  | [], _ :: _, h => by simp [tgsB] at h
  | i :: is, [], h => by simp [tgsB] at h
  | i :: is, e :: es, h => by
    cases e with
    | Name x p =>
      rw [tgsB, Bool.and_eq_true] at h
      obtain ⟨a, b, c⟩ := tgB_ok hcl h.1
      exact .cons a b c (tgsB_ok hcl h.2)
    | _ => simp [tgsB] at h
theorem tgtB_ok {X : Cx} {cl : Str → Bool} (hc : X.calm = true) (hN : X.N.Nodup) (hcl : ∀ x, cl x = true → X.fn x = true) {tg : Tg} {e : Expr} (h : tgtB X.N X.env.scope cl tg e = true) : PG X e (gD X.K tg) := by
  unfold tgtB at h
  split at h
  · obtain ⟨a, b, c⟩ := tgB_ok hcl h
    exact pg_v hN a b c
  · exact pg_tp hc hN (tgsB_ok hcl h)
  · cases h
theorem tgtB_tup {N : List Str} {sc : Scope} {cl : Str → Bool} {tg : Tg} {e : Expr} (h : tgtB N sc cl tg e = true) (ht : isTup e = true) : isTp tg = true := by
  unfold tgtB at h
  split at h
  · cases ht
  · rfl
  · cases h
theorem tysB_ok {G : Glo} {F : FS} {xr : XR} {k : Nat} {X : Cx} (g : Gd G F xr k X) : ∀ {ts : List Ty} {es : List Expr}, tysB G X.env.scope ts es = true → TysOk X ts es
  | [], [], _ => tys_nil
  | [], _ :: _, h => by simp [tysB] at h
  | t :: ts, [], h => by simp [tysB] at h
  | t :: ts, e :: es, h => by
    cases e with
    | Name x p =>
      simp only [tysB, Bool.and_eq_true, decide_eq_true_eq] at h
      obtain ⟨⟨rfl, h2⟩, h3⟩ := h
      obtain ⟨a, b, c, d⟩ := freeB_ok g h2
      exact tys_cons a d (tyS_boot t) c b (tysB_ok g h3)
    | _ => simp [tysB] at h
theorem diB_eq {neg : Bool} {op : CmpOp} (h : diB neg op = true) : op = diOp neg := by
  cases neg <;> cases op <;> first | rfl | cases h
theorem replB_ok {y z : Str} {x wx : Expr} (h : replB y z x = some wx) : ∃ (j k : Nat) (c0 c1 ap cp : Pos), x = .Call (.Attribute wx "replace" ap) [.Constant (.str y) j c0, .Constant (.str z) k c1] [] cp ∧ (y == z) = false ∧ plainBase wx = true ∧ (ap.endLine == cp.line) = true := by
  unfold replB at h
  split at h
  · split at h
    · rename_i hc
      cases h
      simp only [Bool.and_eq_true, decide_eq_true_eq, Bool.not_eq_true'] at hc
      obtain ⟨⟨⟨⟨⟨rfl, rfl⟩, rfl⟩, h4⟩, h5⟩, h6⟩ := hc
      exact ⟨_, _, _, _, _, _, rfl, h4, h5, h6⟩
    · cases h
  · cases h
theorem bumpB_ok {xs : List Expr} (h : bumpB xs = true) : ∃ (e1 x : Expr) (op : Operator) (i : Int) (j : Nat) (ci p : Pos) (r : List Expr), xs = e1 :: .BinOp x op (.Constant (.int i) j ci) p :: r := by
  unfold bumpB at h
  split at h
  · exact ⟨_, _, _, _, _, _, _, _, rfl⟩
  · cases h
theorem ownOf_snd (N : List Str) : ∀ is : List Nat, (ownOf N is).map (·.2) = is
  | [] => rfl
  | i :: is => by rw [ownOf, List.map_cons, ownOf_snd N is]
theorem notSet_ok {e : Expr} {env : Env} (h : notSet e = true) : ∀ x, foldedSetIterable e env x = pure x := by
  intro x
  unfold foldedSetIterable
  split
  · cases h
  · rfl
theorem mt_facts (m : Mt) : PlainAttrs (mty m) ∧ Slot (mty m) (mtN m) (mid m) ∧ typeOf (.builtin (mid m)) = pure (.type "method_descriptor") := by
  cases m with
  | index => exact ⟨PySem.F.plainAttrs_list, PySem.F.slot_list_index, PySem.F.type_list_index⟩
  | split => exact ⟨PySem.F.plainAttrs_str, PySem.F.slot_str_split, PySem.F.type_str_split⟩
  | count => exact ⟨PySem.F.plainAttrs_str, PySem.F.slot_str_count, PySem.F.type_str_count⟩
  | join => exact ⟨PySem.F.plainAttrs_str, PySem.F.slot_str_join, PySem.F.type_str_join⟩
  | countL => exact ⟨PySem.F.plainAttrs_list, PySem.F.slot_list_count, PySem.F.type_list_count⟩
  | indexT => exact ⟨PySem.F.plainAttrs_tuple, PySem.F.slot_tuple_index, PySem.F.type_tuple_index⟩
  | countT => exact ⟨PySem.F.plainAttrs_tuple, PySem.F.slot_tuple_count, PySem.F.type_tuple_count⟩
theorem plainBase_ok {o : Expr} {f : Str} {env : Env} (h : plainBase o = true) : attributeBase o f env (eval o env) = eval o env := by
  unfold attributeBase
  split
  · exact absurd h (by simp [plainBase])
  · rfl
/-- -e -/
theorem pd_neg {X : Cx} {W : WS} {a : Expr} {ga : Ev → St' → R SV} {pos : Pos} (ha : PE X a (tD X.K W ga)) : PE X (.UnaryOp .USub a pos) (tD X.K W fun ρ S => (ga ρ S).bind fun x S1 => match x with
    | .t (.int i) => .ok (.t (.int (-i))) S1
    | _ => .bad) := by
  refine PE_imp (pe_un un_neg ha) fun σ H Q ⟨m, S, ρ, ok, re, h⟩ => ?_
  refine tD_bind ok re h fun x v S1 H1 m1 ok1 re1 f1 rv h1 => ?_
  split at h1
  · cases RepS.int rv
    exact ⟨_, rfl, h1 H1 m1 ok1 .refl _ (by exact Rep.int _)⟩
  · exact h1.elim

/-! ### and, or as tests -/
section
variable {X : Cx} {W : WS} {a b : Expr} {ga gb : Ev → St' → R SV} {pos : Pos} {rest : List Expr}
def andR (ga gb : Ev → St' → R SV) : Ev → St' → R SV := fun ρ S => (ga ρ S).bind fun x S1 => (R.opt ((peek S1 x).bind truD) S1).bind fun k S2 => if k then gb ρ S2 else .ok x S2
def orR (ga gb : Ev → St' → R SV) : Ev → St' → R SV := fun ρ S => (ga ρ S).bind fun x S1 => (R.opt ((peek S1 x).bind truD) S1).bind fun k S2 => if k then .ok x S2 else gb ρ S2
theorem tru_and (ga gb : Ev → St' → R SV) (ρ : Ev) (S : St') : tru (andR ga gb ρ S) = (tru (ga ρ S)).bind fun k S1 => if k then tru (gb ρ S1) else .ok false S1 := by
  unfold tru andR
  simp only [R.bind_assoc]
  cases ga ρ S with
  | ok x S1 =>
    simp only [R.bind_ok]
    cases e : (peek S1 x).bind truD with
    | none => rfl
    | some k =>
      simp only [R.opt_some, R.bind_ok]
      cases k with
      | true => rfl
      | false => simp [e]
  | _ => rfl
theorem tru_or (ga gb : Ev → St' → R SV) (ρ : Ev) (S : St') : tru (orR ga gb ρ S) = (tru (ga ρ S)).bind fun k S1 => if k then .ok true S1 else tru (gb ρ S1) := by
  unfold tru orR
  simp only [R.bind_assoc]
  cases ga ρ S with
  | ok x S1 =>
    simp only [R.bind_ok]
    cases e : (peek S1 x).bind truD with
    | none => rfl
    | some k =>
      simp only [R.opt_some, R.bind_ok]
      cases k with
      | true => simp [e]
      | false => rfl
  | _ => rfl
theorem pw_andD {ta tb : Ev → St' → R Bool} (ha : PT X a (tDT X.K W ta)) (hb : PW X (.BoolOp .And (b :: rest) pos) (tDT X.K W tb)) : PW X (.BoolOp .And (a :: b :: rest) pos) (tDT X.K W fun ρ S => (ta ρ S).bind fun k S1 => if k then tb ρ S1 else .ok false S1) := by
  refine PW_imp (pw_and ha hb) fun σ H Q ⟨m, S, ρ, ok, re, h⟩ => ?_
  refine tDT_bind ok re h fun k S1 H1 m1 ok1 re1 f1 h1 => ?_
  cases k with
  | true => exact ⟨m1, S1, ρ, ok1, re1, h1⟩
  | false => exact h1 H1 m1 ok1 .refl
theorem pw_orD {ta tb : Ev → St' → R Bool} (ha : PT X a (tDT X.K W ta)) (hb : PW X (.BoolOp .Or (b :: rest) pos) (tDT X.K W tb)) : PW X (.BoolOp .Or (a :: b :: rest) pos) (tDT X.K W fun ρ S => (ta ρ S).bind fun k S1 => if k then .ok true S1 else tb ρ S1) := by
  refine PW_imp (pw_or ha hb) fun σ H Q ⟨m, S, ρ, ok, re, h⟩ => ?_
  refine tDT_bind ok re h fun k S1 H1 m1 ok1 re1 f1 h1 => ?_
  cases k with
  | true => exact h1 H1 m1 ok1 .refl
  | false => exact ⟨m1, S1, ρ, ok1, re1, h1⟩
theorem snd_and {F : FS} {ma mb : ME} (ha : Snd X W F ma a) (hb1 : PE X (.BoolOp .And (b :: rest) pos) (tD X.K W (evalE F mb))) (hb2 : PW X (.BoolOp .And (b :: rest) pos) (tDT X.K W fun ρ S => tru (evalE F mb ρ S))) : Snd X W F (.and ma mb) (.BoolOp .And (a :: b :: rest) pos) := by
  have e : evalE F (.and ma mb) = andR (evalE F ma) (evalE F mb) := by funext ρ S; rw [evalE]; try rfl
  have w : PW X (.BoolOp .And (a :: b :: rest) pos) (tDT X.K W fun ρ S => tru (evalE F (.and ma mb) ρ S)) := by
    have := pw_andD ha.pt hb2
    rw [e]
    simp only [tru_and]
    exact this
  exact ⟨by rw [e]; exact pd_and ha.pe hb1, w.pt, fun op l p z => w⟩
theorem snd_or {F : FS} {ma mb : ME} (ha : Snd X W F ma a) (hb1 : PE X (.BoolOp .Or (b :: rest) pos) (tD X.K W (evalE F mb))) (hb2 : PW X (.BoolOp .Or (b :: rest) pos) (tDT X.K W fun ρ S => tru (evalE F mb ρ S))) : Snd X W F (.or ma mb) (.BoolOp .Or (a :: b :: rest) pos) := by
  have e : evalE F (.or ma mb) = orR (evalE F ma) (evalE F mb) := by funext ρ S; rw [evalE]; try rfl
  have w : PW X (.BoolOp .Or (a :: b :: rest) pos) (tDT X.K W fun ρ S => tru (evalE F (.or ma mb) ρ S)) := by
    have := pw_orD ha.pt hb2
    rw [e]
    simp only [tru_or]
    exact this
  exact ⟨by rw [e]; exact pd_or ha.pe hb1, w.pt, fun op l p z => w⟩
theorem snd_not {F : FS} {ma : ME} (ha : Snd X W F ma a) : Snd X W F (.not ma) (.UnaryOp .Not a pos) := by
  have e : evalE F (.not ma) = fun ρ S => (tru (evalE F ma ρ S)).bind fun k S1 => .ok (.t (.bl (!k))) S1 := by funext ρ S; rw [evalE]
  refine ⟨by rw [e]; exact pd_not (t := fun _ S => .bad) ha.pe, ?_, fun op l p z => by cases z⟩
  have := pt_notD (pos := pos) ha.pt
  have e2 : (fun ρ S => tru (evalE F (.not ma) ρ S)) = fun ρ S => (tru (evalE F ma ρ S)).bind fun k S1 => R.ok (!k) S1 := by
    funext ρ S
    rw [e]
    simp only [tru, R.bind_assoc]
    rfl
  rw [e2]
  exact this
theorem snd_ife {F : FS} {c : Expr} {mc ma mb : ME} (hc : Snd X W F mc c) (ha : Snd X W F ma a) (hb : Snd X W F mb b) : Snd X W F (.ife mc ma mb) (.IfExp c a b pos) := by
  have e : evalE F (.ife mc ma mb) = fun ρ S => (tru (evalE F mc ρ S)).bind fun k S1 => if k then evalE F ma ρ S1 else evalE F mb ρ S1 := by funext ρ S; rw [evalE]
  refine ⟨by rw [e]; exact pd_ife hc.pt ha.pe hb.pe, ?_, fun op l p z => by cases z⟩
  have e2 : (fun ρ S => tru (evalE F (.ife mc ma mb) ρ S)) = fun ρ S => (tru (evalE F mc ρ S)).bind fun k S1 => if k then tru (evalE F ma ρ S1) else tru (evalE F mb ρ S1) := by
    funext ρ S
    rw [e]
    simp only [tru, R.bind_assoc]
    congr 1; funext x S1; congr 1; funext k S2
    cases k <;> rfl
  rw [e2]
  refine ⟨fun pins s σ H Q I h => ?_⟩
  obtain ⟨m, S, ρ, ok, re, h⟩ := h
  show wpAny _ _ (do if ← PySem.isTrue c X.env (eval c X.env) then PySem.isTrue a X.env (eval a X.env) else PySem.isTrue b X.env (eval b X.env)) _ _ _
  refine wpAny_bind (thn (hc.pt.run pins s σ H _ I (tDT_bind ok re h fun k S1 H1 m1 ok1 re1 f1 h1 => (show (fun k H1 => ∃ m1 S1, StOk X.K H1 m1 S1 ∧ RelE X.K H1 m1 S1 σ ρ ∧ Run X.K (fun H' m' S' b => Q b H') (W σ) H1 m1 S1 (if k = true then tru (evalE F ma ρ S1) else tru (evalE F mb ρ S1))) k H1 from ⟨m1, S1, ok1, re1, h1⟩))) fun k s1 ⟨H1, I1, m1, S1, ok1, re1, h1⟩ => ?_)
  cases k with
  | true => exact ha.pt.run pins s1 σ H1 Q I1 ⟨m1, S1, ρ, ok1, re1, h1⟩
  | false => exact hb.pt.run pins s1 σ H1 Q I1 ⟨m1, S1, ρ, ok1, re1, h1⟩
def cmpR (o : Cm) (ga gb : Ev → St' → R SV) : Ev → St' → R SV := fun ρ S => (ga ρ S).bind fun x S1 => (gb ρ S1).bind fun y S2 =>
      R.opt ((peek S2 x).bind fun d => (peek S2 y).bind fun e => (cmpD o d e).map fun b => .t (.bl b)) S2
theorem snd_cmp {F : FS} {ma mb : ME} (o : Cm) (hu : X.A.units + 65 < cLine) (hm : behindInMarks (cmOf o) b = false) (ha : Snd X W F ma a) (hb : Snd X W F mb b) : Snd X W F (.cmp o ma mb) (.Compare a [cmOf o] [b] pos) := by
  have e : evalE F (.cmp o ma mb) = cmpR o (evalE F ma) (evalE F mb) := by funext ρ S; rw [evalE]; try rfl
  exact ⟨by rw [e]; exact pd_cmp o hu hm ha.pe hb.pe, by rw [e]; exact pt_cmpD o hu hm ha.pe hb.pe, fun op l p z => by cases z⟩
theorem snd_cmp2 {F : FS} {c : Expr} {ma mb mc : ME} (o p : Cm) (hu : X.A.units + 65 < cLine) (hm : lastMarks [cmOf o, cmOf p] [b, c] = false) (ha : Snd X W F ma a) (hb : Snd X W F mb b) (hc : Snd X W F mc c) : Snd X W F (.cmp2 o p ma mb mc) (.Compare a [cmOf o, cmOf p] [b, c] pos) := by
  have e : evalE F (.cmp2 o p ma mb mc) = cmp2R o p (evalE F ma) (evalE F mb) (evalE F mc) := by funext ρ S; rw [evalE]; try rfl
  refine ⟨by rw [e]; exact pd_cmp2 o p hu ha.pe hb.pe hc.pe hm, by rw [e]; exact pt_cmp2 o p hu ha.pe hb.pe hc.pe hm, fun op l p z => by cases z⟩
end
end M

/-! what is checked is sound: all expressions -/
namespace M
open PySem PySem.Spec PyProof.Rows L2
section
variable {G : Glo} {F : FS} {xr : XR} {k : Nat}
theorem ptsD {X : Cx} {W : WS} {cs : List ME} {ifs : List Expr} (hl : ifs.length ≤ 1) (h : ∀ c x, cs = [c] → ifs = [x] → PT X x (tDT X.K W fun ρ S => tru (evalE F c ρ S))) (hlen : cs.length = ifs.length) : PTs X ifs (tDT X.K W (tests (evalCs F cs))) := by
  cases ifs with
  | nil =>
    cases cs with
    | nil => exact ⟨fun pins s σ H Q I hw => pts_nil.run pins s σ H Q I (by obtain ⟨m, S, ρ, ok, re, h⟩ := hw; unfold evalCs tests at h; exact h H m ok .refl)⟩
    | cons c cs => simp at hlen
  | cons x ifs =>
    cases ifs with
    | cons y r => simp at hl
    | nil =>
      cases cs with
      | nil => simp at hlen
      | cons c cs =>
        cases cs with
        | cons d r => simp at hlen
        | nil =>
          have := h c x rfl rfl
          unfold evalCs tests
          exact pts_one this
theorem chkEs_len {N : List Str} {sc : Scope} : ∀ {es : List ME} {xs : List Expr}, chkEs G N sc es xs = true → es.length = xs.length
  | [], [], _ => rfl
  | [], _ :: _, h => by simp [chkEs] at h
  | _ :: _, [], h => by simp [chkEs] at h
  | e :: es, x :: xs, h => by
    simp only [chkEs, Bool.and_eq_true] at h
    simp [chkEs_len h.2]

theorem Snd.cast {X : Cx} {W : WS} {me : ME} {e : Expr} {g : Ev → St' → R SV} (h : PE X e (tD X.K W g)) (he : evalE F me = g) (hp : plainT e = true) : Snd X W F me e := .plain (by rw [he]; exact h) hp
theorem chk_cint {N : List Str} {sc : Scope} {b : ME} {i : Int} {j : Nat} {ci : Pos} (h : chkE G N sc b (.Constant (.int i) j ci) = true) : b = .lit (.int i) := by
  cases b <;> first | (unfold chkE at h; exact absurd h Bool.false_ne_true) | skip
  rotate_left
  · rename_i f es
    unfold chkE at h
    split at h
    all_goals first | (exact absurd h Bool.false_ne_true) | (rename_i hq2; cases hq2; done) | (rename_i hq hq2; cases hq2; done) | (rename_i hq hq2; cases hq; done)
  · rename_i d
    simp only [chkE] at h
    cases d <;> first | (simp only [constB] at h; exact absurd h Bool.false_ne_true) | skip
    simp only [constB] at h
    rw [of_decide_eq_true h]
theorem chk_bin {N : List Str} {sc : Scope} {b : ME} {x : Expr} {op : Operator} {i : Int} {j : Nat} {ci p : Pos} (h : chkE G N sc b (.BinOp x op (.Constant (.int i) j ci) p) = true) : ∃ o c, b = .bin o c (.lit (.int i)) ∧ op = opOf o ∧ chkE G N sc c x = true := by
  cases b <;> first | (unfold chkE at h; exact absurd h Bool.false_ne_true) | skip
  · rename_i o c d
    simp only [chkE, Bool.and_eq_true] at h
    exact ⟨o, c, by rw [chk_cint h.2], opB_eq h.1.1, h.1.2⟩
  · rename_i f es
    unfold chkE at h
    split at h
    all_goals first | (exact absurd h Bool.false_ne_true) | (rename_i hq2; cases hq2; done) | (rename_i hq hq2; cases hq2; done) | (rename_i hq hq2; cases hq; done)
theorem chkP_none {N : List Str} {sc : Scope} {e : ME} {es : List ME} : chkP G N sc (e :: es) none = false := by cases es <;> rfl
theorem chkP_two {N : List Str} {sc : Scope} {e e2 : ME} {es : List ME} {x : Option Expr} : chkP G N sc (e :: e2 :: es) x = false := by cases x <;> rfl
theorem chkP_one {N : List Str} {sc : Scope} {e : ME} {x : Expr} : chkP G N sc [e] (some x) = chkE G N sc e x := rfl
theorem chkP_some {N : List Str} {sc : Scope} {x : Expr} : chkP G N sc [] (some x) = false := rfl
theorem chk_lc {N : List Str} {sc : Scope} {tg : Tg} {it : IT} {cs : List ME} {e' : ME} {e : Expr} (h : chkE G N sc (.lc tg it cs e') e = true) : ∃ elt tge iter ifs scope pos, e = .ListComp elt [⟨tge, iter, ifs, 0⟩] scope pos ∧ notSet iter = true ∧ blkC N sc scope (ownOf N (tgs tg)) = true ∧ tgtB N (relS scope sc) (fun x => scope.names.lookup x == some .cell) tg tge = true ∧ chkI G N sc it tge iter = true ∧ ifs.length ≤ 1 ∧ chkEs G N (relS scope sc) cs ifs = true ∧ chkE G N (relS scope sc) e' elt = true := by
  unfold chkE at h
  split at h
  all_goals first | (exact absurd h Bool.false_ne_true) | (rename_i hq; cases hq)
  simp only [Bool.and_eq_true, decide_eq_true_eq] at h
  obtain ⟨⟨⟨⟨⟨⟨h1, h2⟩, h3⟩, h4⟩, h5⟩, h6⟩, h7⟩ := h
  exact ⟨_, _, _, _, _, _, rfl, h1, h2, h3, h4, h5, h6, h7⟩
theorem ls_pos (cs : List ME) : 0 < sizeOf cs := by cases cs <;> simp <;> omega
theorem it_pos (it : IT) : 0 < sizeOf it := by cases it <;> simp <;> omega
/-- a comprehension, in its parts -/
def LcOk (X : Cx) (W : WS) (F : FS) (tg : Tg) (it : IT) (cs : List ME) (e' : ME) (e : Expr) : Prop :=
  ∃ (elt tge iter : Expr) (ifs : List Expr) (scope : Scope) (pos : Pos) (own : List (Str × Nat)), e = .ListComp elt [⟨tge, iter, ifs, 0⟩] scope pos ∧ PI X tge iter (tDI X.K tg W (evalI F it)) ∧ BlkOk X.N X.env.scope scope own ∧ own.map (·.2) = tgs tg ∧ (∀ x, foldedSetIterable iter X.env x = pure x) ∧
    (∀ (s : Shared) (H : Hp) (C : Addr) (cl : List (Str × Addr)) (fp : List Addr), PG (X.blk s H scope (compEnvC scope cl C X.env) fp) tge (gD X.K tg)) ∧
    (∀ (s : Shared) (H : Hp) (C : Addr) (cl : List (Str × Addr)) (fp : List Addr), PTs (X.blk s H scope (compEnvC scope cl C X.env) fp) ifs (tDT X.K (wOf xr fun _ _ _ _ => False) (tests (evalCs F cs)))) ∧
    ∀ (s : Shared) (H : Hp) (C : Addr) (cl : List (Str × Addr)) (fp : List Addr), PE (X.blk s H scope (compEnvC scope cl C X.env) fp) elt (tD X.K (wOf xr fun _ _ _ _ => False) (evalE F e'))
theorem LcOk.pe {X : Cx} {W : WS} {tg : Tg} {it : IT} {cs : List ME} {e' : ME} {e : Expr} (hc : X.calm = true) (hN : X.N.Nodup) (h : LcOk (xr := xr) X W F tg it cs e' e) : PE X e (tDL X.K W (evalL F (.lc tg it cs e'))) := by
  obtain ⟨elt, tge, iter, ifs, scope, pos, own, rfl, hi, ok, ho, hs, hg, ht, he⟩ := h
  have e1 : evalL F (.lc tg it cs e') = fun ρ S => (evalI F it ρ S).bind fun src S1 => lcSrc tg (tests (evalCs F cs)) (evalE F e') src ρ S1 := by funext ρ S; rw [evalL]
  rw [e1]
  exact PE_imp (pe_lc hc hN hi ok hg ht he hs) (pd_lcL hc hN hi ok ho hg ht he hs)
theorem fz_lenset (e1 : ME) : evalE F (.fz .lenset [e1]) = fun ρ S => (evalE F e1 ρ S).bind fun x S1 => R.opt (((peek S1 x).bind lensetD).map .t) S1 := by
  funext ρ S
  rw [evalE, evalEs, R.bind_assoc]
  congr 1
  funext v S1
  rw [evalEs, R.bind_ok, R.bind_ok]
  simp only [peeks]
  cases peek S1 v with
  | none => rfl
  | some d => simp only [Option.map_some, Option.bind_some, fzD]
theorem fz_lensett (e1 : ME) : evalE F (.fz .lensett [e1]) = fun ρ S => (evalE F e1 ρ S).bind fun x S1 => R.opt (((peek S1 x).bind lensettD).map .t) S1 := by
  funext ρ S
  rw [evalE, evalEs, R.bind_assoc]
  congr 1
  funext v S1
  rw [evalEs, R.bind_ok, R.bind_ok]
  simp only [peeks]
  cases peek S1 v with
  | none => rfl
  | some d => simp only [Option.map_some, Option.bind_some, fzD]
theorem fz_sortseti (e1 : ME) : evalE F (.fz .sortseti [e1]) = fun ρ S => (evalE F e1 ρ S).bind fun x S1 => R.opt (((peek S1 x).bind sortsetiD).map .t) S1 := by
  funext ρ S
  rw [evalE, evalEs, R.bind_assoc]
  congr 1
  funext v S1
  rw [evalEs, R.bind_ok, R.bind_ok]
  simp only [peeks]
  cases peek S1 v with
  | none => rfl
  | some d => simp only [Option.map_some, Option.bind_some, fzD]
/-- xs[::-1] -/
theorem fz_sortsett (e1 : ME) : evalE F (.fz .sortsett [e1]) = fun ρ S => (evalE F e1 ρ S).bind fun x S1 => R.opt (((peek S1 x).bind sortsettD).map .t) S1 := by
  funext ρ S
  rw [evalE, evalEs, R.bind_assoc]
  congr 1
  funext v S1
  rw [evalEs, R.bind_ok, R.bind_ok]
  simp only [peeks]
  cases peek S1 v with
  | none => rfl
  | some d => simp only [Option.map_some, Option.bind_some, fzD]
/-- xs[::-1] -/
theorem pd_rev {X : Cx} {W : WS} {a : Expr} {ga : Ev → St' → R SV} {k : Nat} {p1 p2 p3 pos : Pos} (ha : PE X a (tD X.K W ga)) : PE X (.Subscript a (.Slice none none (some (.UnaryOp .USub (.Constant (.int 1) k p1) p2)) p3) pos) (tD X.K W fun ρ S => (ga ρ S).bind fun x S1 => R.opt ((peek S1 x).bind fun d => (revD d).map .t) S1) := by
  refine PE_imp (pe_revL ha) fun σ H Q ⟨m, S, ρ, ok, re, h⟩ => ?_
  refine tD_bind ok re h fun x v S1 H1 m1 ok1 re1 f1 rv h1 => ?_
  obtain ⟨r, e, qq⟩ := Run.opt h1 ok1
  obtain ⟨d, e1, e2⟩ := Option.bind_eq_some_iff.mp e
  obtain ⟨r', e3, rfl⟩ := Option.map_eq_some_iff.mp e2
  have pr := ok1.peek rv e1
  cases d <;> first | (cases e3; done) | skip
  cases e3
  obtain ⟨l, vs, rfl, g1, g2⟩ := pr.lst
  refine ⟨l, vs, rfl, .inl g1, fun p hp => ?_⟩
  have f : Fol X.K H1 m1 S1 (.lst _) Q := fun H' v o f hv => qq H' o f v hv
  exact f.lst ok1 g2.reverse p hp
theorem fz_reprl (e1 : ME) : evalE F (.fz .reprl [e1]) = fun ρ S => (evalE F e1 ρ S).bind fun x S1 => R.opt (((peek S1 x).bind reprD).map .t) S1 := by
  funext ρ S
  rw [evalE, evalEs, R.bind_assoc]
  congr 1
  funext v S1
  rw [evalEs, R.bind_ok, R.bind_ok]
  simp only [peeks]
  cases peek S1 v with
  | none => rfl
  | some d => simp only [Option.map_some, Option.bind_some, fzD]
theorem fz_tri (e1 : ME) : evalE F (.fz .tri [e1]) = fun ρ S => (evalE F e1 ρ S).bind fun x S1 => R.opt (triV x) S1 := by
  funext ρ S
  rw [evalE, evalEs, R.bind_assoc]
  congr 1
  funext v S1
  rw [evalEs, R.bind_ok, R.bind_ok]
  simp only [peeks]
  cases v with
  | t d => cases d <;> rfl
  | o i =>
    simp only [peek]
    split
    · rename_i h
      split at h
      · cases h; rfl
      · cases h
    · rfl
  | kd _ => rfl
  | td _ => rfl
  | ins _ _ _ => rfl
theorem fz_sortset (e1 : ME) : evalE F (.fz .sortset [e1]) = fun ρ S => (evalE F e1 ρ S).bind fun x S1 => R.opt (((peek S1 x).bind sortsetD).map .t) S1 := by
  funext ρ S
  rw [evalE, evalEs, R.bind_assoc]
  congr 1
  funext v S1
  rw [evalEs, R.bind_ok, R.bind_ok]
  simp only [peeks]
  cases peek S1 v with
  | none => rfl
  | some d => simp only [Option.map_some, Option.bind_some, fzD]
theorem bind_ok {α β : Type} {r : R α} {k : α → St' → R β} {v : β} {S' : St'} (h : r.bind k = .ok v S') : ∃ a S1, r = .ok a S1 ∧ k a S1 = .ok v S' := by
  cases r with
  | ok a S1 => exact ⟨a, S1, rfl, h⟩
  | exc c p S1 => cases h
  | bad => cases h
theorem opt_ok {α : Type} {o : Option α} {S S' : St'} {v : α} (h : R.opt o S = .ok v S') : o = some v := by
  cases o with
  | none => cases h
  | some a => cases h; rfl
theorem din_bl {ga gb : Ev → St' → R SV} {ρ : Ev} {S S' : St'} {neg : Bool} {v : SV} (h : ((gb ρ S).bind fun y S1 => (ga ρ S1).bind fun x S2 => R.opt (dinV S2 neg y x) S2) = .ok v S') : ∃ k, v = .t (.bl k) := by
  obtain ⟨y, S1, _, h⟩ := bind_ok h
  obtain ⟨x, S2, _, h⟩ := bind_ok h
  have h := opt_ok h
  obtain ⟨_, _, h⟩ := Option.bind_eq_some_iff.mp h
  obtain ⟨_, _, h⟩ := Option.bind_eq_some_iff.mp h
  cases h
  exact ⟨_, rfl⟩
theorem gdin_bl {gb : Ev → St' → R SV} {ρ : Ev} {S S' : St'} {neg : Bool} {kvs : List (Str × D)} {v : SV} (h : ((gb ρ S).bind fun y S1 => R.opt ((strV y).map fun z => SV.t (.bl (xor neg (kvs.lookup z).isSome))) S1) = .ok v S') : ∃ k, v = .t (.bl k) := by
  obtain ⟨y, S1, _, h⟩ := bind_ok h
  obtain ⟨_, _, h⟩ := Option.map_eq_some_iff.mp (opt_ok h)
  exact ⟨_, h.symm⟩
theorem drop_last {e : Expr} {es : List Expr} {lx : Expr} (h : es.getLast? = some lx) : (e :: es).dropLast ++ [lx] = e :: es := by
  cases es with
  | nil => cases h
  | cons x r =>
    have h2 : (e :: x :: r).getLast (by simp) = lx := by
      rw [List.getLast?_eq_some_getLast (by simp)] at h
      rw [List.getLast_cons (by simp)]
      exact Option.some.inj h
    rw [← h2]
    exact List.dropLast_concat_getLast _
theorem bump_drop {e lx : Expr} {es : List Expr} (h : bumpB (e :: es) = true) (hl : es.getLast? = some lx) (hr : ∀ x op c p, lx ≠ .BinOp x op c p := by intro _ _ _ _ z; cases z) : bumpB (e :: es).dropLast = true := by
  obtain ⟨e1, x, op, i, j, ci, p, r, hx⟩ := bumpB_ok h
  cases hx
  cases r with
  | nil => simp at hl; exact absurd hl.symm (hr _ _ _ _)
  | cons y r => rfl
mutual
theorem sndE : ∀ (me : ME) (X : Cx) (Wx : WX) (e : Expr), Gd G F xr k X → Takes X Wx → chkE G X.N X.env.scope me e = true → Snd X (wOf xr Wx) F me e
  | .var i, X, Wx, e, g, tk, h => by
    unfold chkE at h
    split at h
    all_goals first | (exact absurd h Bool.false_ne_true) | (rename_i hq; cases hq)
    obtain ⟨a, b, c, d⟩ := visB_ok h
    exact .plain (pd_var a b c d) rfl
  | .lit d, X, Wx, e, g, tk, h => by
    unfold chkE at h
    split at h
    all_goals first | (exact absurd h Bool.false_ne_true) | (rename_i hq; cases hq)
    exact .plain (const_pe h) rfl
  | .glb x d, X, Wx, e, g, tk, h => by
    unfold chkE at h
    split at h
    all_goals first | (exact absurd h Bool.false_ne_true) | (rename_i hq; cases hq)
    simp only [Bool.and_eq_true, decide_eq_true_eq, List.any_eq_true] at h
    obtain ⟨⟨rfl, h2⟩, p, hp, rfl, h4⟩ := h
    obtain ⟨u, v, h5, h6, h7⟩ := g.consts p hp
    obtain ⟨g1, g2, g3⟩ := gloB_ok h2
    rw [same_eq _ _ h4] at h7
    exact .cast (pd_const (F := F) (pe_glob g1 h5 h6 g2) h7) (by funext ρ S; rw [evalE]) rfl
  | .tup es, X, Wx, e, g, tk, h => by
    unfold chkE at h
    split at h
    all_goals first | (exact absurd h Bool.false_ne_true) | (rename_i hq; cases hq)
    exact .cast (pd_tup (sndEs es X Wx _ g tk h)) (by funext ρ S; rw [evalE]; try rfl) rfl
  | .lst es, X, Wx, e, g, tk, h => by
    unfold chkE at h
    split at h
    all_goals first | (exact absurd h Bool.false_ne_true) | (rename_i hq; cases hq)
    refine .cast (pd_of_L (pd_lstL (sndEs es X Wx _ g tk h))) ?_ rfl
    funext ρ S
    rw [evalE]
    simp only [R.bind_assoc]
    congr 1; funext vs S1
    cases grabs S1 vs with
    | none => rfl
    | some p => obtain ⟨ds, S2⟩ := p; simp only; split <;> rfl
  | .bin o a b, X, Wx, e, g, tk, h => by
    unfold chkE at h
    split at h
    all_goals first | (exact absurd h Bool.false_ne_true) | (rename_i hq; cases hq)
    simp only [Bool.and_eq_true] at h
    obtain ⟨⟨h1, h2⟩, h3⟩ := h
    rw [opB_eq h1]
    exact .cast (pd_bin o (sndE a X Wx _ g tk h2).pe (sndE b X Wx _ g tk h3).pe) (by funext ρ S; rw [evalE]) rfl
  | .neg a, X, Wx, e, g, tk, h => by
    unfold chkE at h
    split at h
    all_goals first | (exact absurd h Bool.false_ne_true) | (rename_i hq; cases hq)
    exact .cast (pd_neg (sndE a X Wx _ g tk h).pe) (by funext ρ S; rw [evalE]; try rfl) rfl
  | .cmp o a b, X, Wx, e, g, tk, h => by
    unfold chkE at h
    split at h
    all_goals first | (exact absurd h Bool.false_ne_true) | (rename_i hq; cases hq)
    simp only [Bool.and_eq_true, Bool.not_eq_true'] at h
    obtain ⟨⟨⟨h1, h0⟩, h2⟩, h3⟩ := h
    have e1 := cmB_eq h1
    subst e1
    exact snd_cmp o g.u65 h0 (sndE a X Wx _ g tk h2) (sndE b X Wx _ g tk h3)
  | .cmp2 o p a b c, X, Wx, e, g, tk, h => by
    unfold chkE at h
    split at h
    all_goals first | (exact absurd h Bool.false_ne_true) | (rename_i hq; cases hq)
    simp only [Bool.and_eq_true, Bool.not_eq_true'] at h
    obtain ⟨⟨⟨⟨⟨h1, h1'⟩, h0⟩, h2⟩, h3⟩, h4⟩ := h
    have e1 := cmB_eq h1
    have e2 := cmB_eq h1'
    subst e1 e2
    exact snd_cmp2 o p g.u65 h0 (sndE a X Wx _ g tk h2) (sndE b X Wx _ g tk h3) (sndE c X Wx _ g tk h4)
  | .and a b, X, Wx, e, g, tk, h => by
    unfold chkE at h
    split at h
    all_goals first | (exact absurd h Bool.false_ne_true) | (rename_i hq; cases hq)
    rename_i x y r p
    rw [Bool.and_eq_true] at h
    cases r with
    | nil =>
      have hb := sndE b X Wx y g tk h.2
      exact snd_and (sndE a X Wx x g tk h.1) (pe_one hb.pe) (pw_and1 hb.pt)
    | cons z r' =>
      have hb := sndE b X Wx _ g tk h.2
      exact snd_and (sndE a X Wx x g tk h.1) hb.pe (hb.pw _ _ _ rfl)
  | .or a b, X, Wx, e, g, tk, h => by
    unfold chkE at h
    split at h
    all_goals first | (exact absurd h Bool.false_ne_true) | (rename_i hq; cases hq)
    rename_i x y r p
    rw [Bool.and_eq_true] at h
    cases r with
    | nil =>
      have hb := sndE b X Wx y g tk h.2
      exact snd_or (sndE a X Wx x g tk h.1) (pe_one hb.pe) (pw_or1 hb.pt)
    | cons z r' =>
      have hb := sndE b X Wx _ g tk h.2
      exact snd_or (sndE a X Wx x g tk h.1) hb.pe (hb.pw _ _ _ rfl)
  | .not a, X, Wx, e, g, tk, h => by
    unfold chkE at h
    split at h
    all_goals first | (exact absurd h Bool.false_ne_true) | (rename_i hq; cases hq)
    exact snd_not (sndE a X Wx _ g tk h)
  | .ife c a b, X, Wx, e, g, tk, h => by
    unfold chkE at h
    split at h
    all_goals first | (exact absurd h Bool.false_ne_true) | (rename_i hq; cases hq)
    simp only [Bool.and_eq_true] at h
    exact snd_ife (sndE c X Wx _ g tk h.1.1) (sndE a X Wx _ g tk h.1.2) (sndE b X Wx _ g tk h.2)
  | .idx a i, X, Wx, e, g, tk, h => by
    unfold chkE at h
    split at h
    all_goals first | (exact absurd h Bool.false_ne_true) | (rename_i hq; cases hq)
    simp only [Bool.and_eq_true] at h
    exact .cast (pd_idx (sub_plain h.1.1) (sndE a X Wx _ g tk h.1.2).pe (sndE i X Wx _ g tk h.2).pe) (by funext ρ S; rw [evalE]) rfl
  | .slc a lo hi, X, Wx, e, g, tk, h => by
    unfold chkE at h
    split at h
    all_goals first | (exact absurd h Bool.false_ne_true) | (rename_i hq; cases hq)
    simp only [Bool.and_eq_true] at h
    exact .cast (pd_slc (sndE a X Wx _ g tk h.1.1).pe (sndP lo X Wx _ g tk h.1.2) (sndP hi X Wx _ g tk h.2)) (by funext ρ S; rw [evalE]) rfl
  | .call f es, X, Wx, e, g, tk, h => by
    unfold chkE at h
    split at h
    all_goals first | (exact absurd h Bool.false_ne_true) | (rename_i hq; cases hq)
    simp only [Bool.and_eq_true] at h
    obtain ⟨⟨⟨h1, h2⟩, h3⟩, h4⟩ := h
    split at h1
    · rename_i fi hf
      have h1 := Bool.and_eq_true_iff.mp h1
      have h1k := h1.2
      have h1 := of_decide_eq_true h1.1
      subst h1
      obtain ⟨a, fd, g1, g2, g3, g4, g5⟩ := g.fns f fi hf
      have g3 := g3.all h1k
      obtain ⟨b1, b2, b3⟩ := gloB_ok h2
      exact .cast (ce_call tk g4 g5 g.room b1 g1 g2 g3 b2 (sndEs es X Wx _ g tk h4) (by simpa using h3)) (by funext ρ S; rw [evalE]) rfl
    · cases h1
  | .bi b es, X, Wx, e, g, tk, h => by
    unfold chkE at h
    split at h
    all_goals first | (exact absurd h Bool.false_ne_true) | (rename_i hq; cases hq)
    simp only [Bool.and_eq_true, decide_eq_true_eq] at h
    obtain ⟨⟨⟨rfl, h2⟩, h3⟩, h4⟩ := h
    obtain ⟨a1, a2, a3, a4⟩ := freeB_ok g h2
    exact .cast (ce_bi b g.calm g.u70 a1 a4 (biN_boot b) a3 a2 (sndEs es X Wx _ g tk h4) (by simpa using h3)) (by funext ρ S; rw [evalE]) rfl
  | .isi a t, X, Wx, e, g, tk, h => by
    unfold chkE at h
    split at h
    all_goals first | (exact absurd h Bool.false_ne_true) | (rename_i hq; cases hq)
    simp only [Bool.and_eq_true, decide_eq_true_eq] at h
    obtain ⟨⟨⟨⟨⟨rfl, h2⟩, rfl⟩, h4⟩, h5⟩, h6⟩ := h
    obtain ⟨a1, a2, a3, a4⟩ := freeB_ok g h2
    obtain ⟨b1, b2, b3, b4⟩ := freeB_ok g h4
    exact .cast (ce_isi t a1 a4 b1 b4 (tyS_boot t) b3 b2 (sndE a X Wx _ g tk h6).pe h5) (by funext ρ S; rw [evalE]) rfl
  | .isit a ts, X, Wx, e, g, tk, h => by
    unfold chkE at h
    split at h
    all_goals first | (exact absurd h Bool.false_ne_true) | (rename_i hq; cases hq)
    simp only [Bool.and_eq_true, decide_eq_true_eq] at h
    obtain ⟨⟨⟨⟨⟨rfl, h2⟩, h3⟩, h4⟩, h5⟩, h6⟩ := h
    obtain ⟨a1, a2, a3, a4⟩ := freeB_ok g h2
    exact .cast (ce_isit ts a1 a4 (tysB_ok g h3) h4 (sndE a X Wx _ g tk h6).pe h5) (by funext ρ S; rw [evalE]) rfl
  | .mth m o es, X, Wx, e, g, tk, h => by
    unfold chkE at h
    split at h
    all_goals first | (exact absurd h Bool.false_ne_true) | (rename_i hq; cases hq)
    simp only [Bool.and_eq_true, decide_eq_true_eq] at h
    obtain ⟨⟨⟨⟨⟨⟨rfl, h2⟩, h3⟩, h4⟩, h5⟩, h6⟩, h7⟩ := h
    obtain ⟨a1, a2, a3⟩ := mt_facts m
    exact .cast (ce_mth m g.u65 a1 a2 a3 (sndE o X Wx _ g tk h6).pe (sndEs es X Wx _ g tk h7) (by simpa using h4) h5 (plainBase_ok h2) h3) (by funext ρ S; rw [evalE]) rfl
  | .lc tg it cs e', X, Wx, e, g, tk, h => by
    have key := (sndLc tg it cs e' X Wx e g tk h).pe g.calm g.nd
    obtain ⟨elt, tge, iter, ifs, scope, pos, rfl, h1, h2, h3, h4, h5, h6, h7⟩ := chk_lc h
    refine .cast (pd_of_L key) ?_ rfl
    funext ρ S
    rw [evalE, evalL]
    simp only [R.bind_assoc]
  | .dvals i j, X, Wx, e, g, tk, h => by
    unfold chkE at h
    split at h
    all_goals first | (exact absurd h Bool.false_ne_true) | (rename_i hq; cases hq; done) | skip
    rename_i x p1 kx p2 p3 k2 p4 x2 p5 scope pos hq
    cases hq
    simp only [Bool.and_eq_true, decide_eq_true_eq, Bool.not_eq_true', decide_eq_false_iff_not] at h
    obtain ⟨⟨⟨⟨⟨⟨⟨h1, h2⟩, h3⟩, h4⟩, h5⟩, rfl⟩, rfl⟩, h8⟩ := h
    obtain ⟨a1, a2, a3, a4⟩ := visB_ok h1
    have key := pe_dvals (X := X) (p1 := p1) (p2 := p2) (p3 := p3) (p4 := p4) (pos := pos) g.calm g.nd (by have := g.u70; omega) (pe_var (pos := p5) a1 a2 a3 a4) (blkOk_by h2) (ownOf_snd _ _) h8
      (fun s H C cl fp => by
        obtain ⟨b1, b2, b3⟩ := tgB_ok (X := X.blk s H scope (compEnvC scope cl C X.env) fp) (fun x hx => hx) h3
        exact pg_name g.nd b1 b2 b3)
      (fun s H C cl fp => by
        obtain ⟨b1, b2, b3, b4⟩ := visB_ok (X := X.blk s H scope (compEnvC scope cl C X.env) fp) h4
        exact pe_var b1 b2 b3 b4)
      (fun s H C cl fp => by
        obtain ⟨b1, b2, b3, b4⟩ := visB_ok (X := X.blk s H scope (compEnvC scope cl C X.env) fp) h5
        exact pe_var b1 b2 b3 b4) (fun _ => rfl)
    have hjN : X.N[j]? = some kx := by
      unfold tgB at h3
      simp only [Bool.and_eq_true, decide_eq_true_eq] at h3
      exact h3.1
    exact .cast (pd_dvals' (F := F) (List.getElem?_eq_some_iff.mp hjN).1 key) rfl rfl
  | .fz f es, X, Wx, e, g, tk, h => by
    unfold chkE at h
    split at h
    all_goals first | (exact absurd h Bool.false_ne_true) | (rename_i hq; cases hq; done) | skip
    · rename_i e1 x1 p1 x2 p2 a1 q1 q2 hq
      cases hq
      simp only [Bool.and_eq_true, decide_eq_true_eq] at h
      obtain ⟨⟨⟨⟨⟨rfl, h2⟩, rfl⟩, h4⟩, h5⟩, h6⟩ := h
      obtain ⟨a1, a2, a3, a4⟩ := freeB_ok g h2
      obtain ⟨b1, b2, b3, b4⟩ := freeB_ok g h4
      exact .cast (pd_sortset g.u70 g.calm a1 a4 b1 b4 h5 (sndE e1 X Wx _ g tk h6).pe) (fz_sortset e1) rfl
    · rename_i e1 x1 p1 x2 p2 a1 q1 q2 hq
      cases hq
      simp only [Bool.and_eq_true, decide_eq_true_eq] at h
      obtain ⟨⟨⟨⟨⟨rfl, h2⟩, rfl⟩, h4⟩, h5⟩, h6⟩ := h
      obtain ⟨a1, a2, a3, a4⟩ := freeB_ok g h2
      obtain ⟨b1, b2, b3, b4⟩ := freeB_ok g h4
      exact .cast (pd_lenset g.calm a1 a4 b1 b4 h5 (sndE e1 X Wx _ g tk h6).pe) (fz_lenset e1) rfl
    · rename_i e1 x1 p1 x2 p2 a1 q1 q2 hq
      cases hq
      simp only [Bool.and_eq_true, decide_eq_true_eq] at h
      obtain ⟨⟨⟨⟨⟨rfl, h2⟩, rfl⟩, h4⟩, h5⟩, h6⟩ := h
      obtain ⟨a1, a2, a3, a4⟩ := freeB_ok g h2
      obtain ⟨b1, b2, b3, b4⟩ := freeB_ok g h4
      exact .cast (pd_sortseti g.calm a1 a4 b1 b4 h5 (sndE e1 X Wx _ g tk h6).pe) (fz_sortseti e1) rfl
    · rename_i e1 x1 p1 x2 p2 a1 q1 q2 hq
      cases hq
      simp only [Bool.and_eq_true, decide_eq_true_eq] at h
      obtain ⟨⟨⟨⟨⟨rfl, h2⟩, rfl⟩, h4⟩, h5⟩, h6⟩ := h
      obtain ⟨a1, a2, a3, a4⟩ := freeB_ok g h2
      obtain ⟨b1, b2, b3, b4⟩ := freeB_ok g h4
      exact .cast (pd_sortsett g.u70 g.calm a1 a4 b1 b4 h5 (sndE e1 X Wx _ g tk h6).pe) (fz_sortsett e1) rfl
    · rename_i e1 x1 p1 x2 p2 a1 q1 q2 hq
      cases hq
      simp only [Bool.and_eq_true, decide_eq_true_eq] at h
      obtain ⟨⟨⟨⟨⟨rfl, h2⟩, rfl⟩, h4⟩, h5⟩, h6⟩ := h
      obtain ⟨a1, a2, a3, a4⟩ := freeB_ok g h2
      obtain ⟨b1, b2, b3, b4⟩ := freeB_ok g h4
      exact .cast (pd_lensett g.u70 g.calm a1 a4 b1 b4 h5 (sndE e1 X Wx _ g tk h6).pe) (fz_lensett e1) rfl
    · rename_i hq
      cases hq
      simp only [Bool.and_eq_true, decide_eq_true_eq] at h
      obtain ⟨⟨⟨⟨⟨h1, h2⟩, rfl⟩, h4⟩, h5⟩, h6⟩ := h
      obtain ⟨j1, j2, j3, j4, c1, c2, c3, c4, dp, rfl⟩ := triB_ok h1
      obtain ⟨j5, c5, rfl⟩ := nonB_ok h2
      exact .cast (pd_tri (sndE _ X Wx _ g tk h6).pe h5 h4) (fz_tri _) rfl
    · rename_i hq
      cases hq
      simp only [Bool.and_eq_true, decide_eq_true_eq] at h
      obtain ⟨⟨⟨⟨h1, rfl⟩, h3⟩, h4⟩, h5⟩ := h
      obtain ⟨a1, a2, a3, a4⟩ := freeB_ok g h3
      exact .cast (pd_reprL (g.top h1) g.u70 a1 a4 h4 (sndE _ X Wx _ g tk h5).pe) (fz_reprl _) rfl
  | .rev a, X, Wx, e, g, tk, h => by
    unfold chkE at h
    split at h
    all_goals first | (exact absurd h Bool.false_ne_true) | (rename_i hq; cases hq; done) | skip
    rename_i x1 i1 k1 p1 p2 p3 p4 hq
    cases hq
    rw [Bool.and_eq_true, decide_eq_true_eq] at h
    obtain ⟨rfl, h2⟩ := h
    exact .cast (pd_rev (sndE a X Wx _ g tk h2).pe) (by funext ρ S; rw [evalE]) rfl
  | .lensc tg it cs e', X, Wx, e, g, tk, h => by
    unfold chkE at h
    split at h
    all_goals first | (exact absurd h Bool.false_ne_true) | (rename_i hq; cases hq; done) | skip
    rename_i x1 p1 elt tge iter ifs scope p2 p3 hq
    cases hq
    rw [Bool.and_eq_true, Bool.and_eq_true, decide_eq_true_eq] at h
    obtain ⟨⟨rfl, h2⟩, h3⟩ := h
    obtain ⟨a1, a2, a3, a4⟩ := freeB_ok g h2
    obtain ⟨elt2, tge2, iter2, ifs2, scope2, pos2, own, e2, hi, ok, ho, hs, hg, ht, he⟩ := sndLc tg it cs e' X Wx (.ListComp elt [⟨tge, iter, ifs, 0⟩] scope p2) g tk (by rw [chkE]; exact h3)
    cases e2
    exact .cast (PE_imp (pe_lsc g.u70 g.calm g.nd a1 a4 hi ok hg ht he hs) (by rw [ho]; exact pd_lsc)) (by funext ρ S; rw [evalE]) rfl
  | .att e' f, X, Wx, e, g, tk, h => by
    unfold chkE at h
    split at h
    all_goals first | (exact absurd h Bool.false_ne_true) | (rename_i hq; cases hq)
    simp only [Bool.and_eq_true, decide_eq_true_eq] at h
    obtain ⟨⟨rfl, h2⟩, h3⟩ := h
    exact .cast (pd_att (sndE e' X Wx _ g tk h3).pe (plainBase_ok h2)) (by funext ρ S; rw [evalE]) rfl
  | .mk c ns es, X, Wx, e, g, tk, h => by
    unfold chkE at h
    split at h
    all_goals first | (exact absurd h Bool.false_ne_true) | (rename_i hq; cases hq)
    simp only [Bool.and_eq_true, decide_eq_true_eq, List.any_eq_true] at h
    obtain ⟨⟨⟨⟨rfl, h2⟩, p, hp, rfl⟩, h4⟩, h5⟩ := h
    obtain ⟨sf, fI, fd, c1, c2, c3, c4, c5⟩ := g.cls _ hp
    obtain ⟨b1, b2, b3⟩ := gloB_ok h2
    exact .cast (pd_mk c1 c2 c3 c4 (g.room.mono g.two) b1 c5 b2 (sndEs es X Wx _ g tk h5) (by simpa using h4)) (by funext ρ S; rw [evalE]) rfl
  | .dget a i, X, Wx, e, g, tk, h => by
    unfold chkE at h
    split at h
    all_goals first | (exact absurd h Bool.false_ne_true) | (rename_i hq; cases hq)
    simp only [Bool.and_eq_true] at h
    exact .cast (pd_dget (by have := g.u70; omega) (sub_plain h.1.1) (sndE a X Wx _ g tk h.1.2).pe (sndE i X Wx _ g tk h.2).pe) (by funext ρ S; rw [evalE]) rfl
  | .din neg i a, X, Wx, e, g, tk, h => by
    unfold chkE at h
    split at h
    all_goals first | (exact absurd h Bool.false_ne_true) | (rename_i hq; cases hq)
    simp only [Bool.and_eq_true, Bool.not_eq_true'] at h
    obtain ⟨⟨⟨h1, h2⟩, h3⟩, h4⟩ := h
    have e0 := diB_eq h1
    subst e0
    have hpc := pc_din' (W := wOf xr Wx) neg (by have := g.u70; omega) (sndE i X Wx _ g tk h3).pe (sndE a X Wx _ g tk h4).pe
    have e1 : evalE F (.din neg i a) = fun ρ S => (evalE F i ρ S).bind fun y S1 => (evalE F a ρ S1).bind fun x S2 => R.opt (dinV S2 neg y x) S2 := by funext ρ S; rw [evalE]
    refine ⟨by rw [e1]; exact pe_cmp hpc h2, by rw [e1]; exact pt_pc hpc h2 (fun ρ S v S' e => din_bl e), fun op l p z => by cases z⟩
  | .gdget x kvs i, X, Wx, e, g, tk, h => by
    unfold chkE at h
    split at h
    all_goals first | (exact absurd h Bool.false_ne_true) | (rename_i hq; cases hq)
    simp only [Bool.and_eq_true, decide_eq_true_eq, List.any_eq_true] at h
    obtain ⟨⟨⟨⟨rfl, h2⟩, p, hp, rfl, h3⟩, h4⟩, h5⟩ := h
    obtain ⟨d, c1, c2⟩ := g.gds _ hp
    rw [sameKv_eq _ _ h3] at c2
    obtain ⟨b1, b2, b3⟩ := gloB_ok h2
    exact .cast (pd_gdget c2 (sub_plain h4) (pe_glob b1 c1 rfl b2) (sndE i X Wx _ g tk h5).pe) (by funext ρ S; rw [evalE]) rfl
  | .gdin neg x kvs i, X, Wx, e, g, tk, h => by
    unfold chkE at h
    split at h
    all_goals first | (exact absurd h Bool.false_ne_true) | (rename_i hq; cases hq)
    simp only [Bool.and_eq_true, decide_eq_true_eq, List.any_eq_true, Bool.not_eq_true'] at h
    obtain ⟨⟨⟨⟨⟨rfl, h2⟩, p, hp, rfl, h3⟩, h4⟩, h5⟩, h6⟩ := h
    obtain ⟨d, c1, c2⟩ := g.gds _ hp
    rw [sameKv_eq _ _ h3] at c2
    obtain ⟨b1, b2, b3⟩ := gloB_ok h2
    have e0 := diB_eq h4
    subst e0
    rename_i z9 q9 p9
    have hpc := pc_gdin (W := wOf xr Wx) (p := q9) neg c2 (pe_glob b1 c1 rfl b2) (sndE i X Wx _ g tk h6).pe
    have e1 : evalE F (.gdin neg p.1 kvs i) = fun ρ S => (evalE F i ρ S).bind fun y S1 => R.opt ((strV y).map fun z => .t (.bl (xor neg (kvs.lookup z).isSome))) S1 := by funext ρ S; rw [evalE]
    refine ⟨by rw [e1]; exact pe_cmp hpc h5, by rw [e1]; exact pt_pc hpc h5 (fun ρ S v S' e => gdin_bl e), fun op l p z => by cases z⟩
  | .callR f es w y z, X, Wx, e, g, tk, h => by
    unfold chkE at h
    split at h
    all_goals first | (exact absurd h Bool.false_ne_true) | (rename_i hq; cases hq)
    rename_i e1 es' cp
    simp only [Bool.and_eq_true] at h
    obtain ⟨⟨⟨⟨⟨h1, h2⟩, h3⟩, h4⟩, h5⟩, h6⟩ := h
    split at h1
    · rename_i fi hf
      have h1 := Bool.and_eq_true_iff.mp h1
      have h1k := h1.2
      have h1 := of_decide_eq_true h1.1
      subst h1
      obtain ⟨a, fd, g1, g2, g3, g4, g5⟩ := g.fns f fi hf
      have g3 := g3.all h1k
      obtain ⟨b1, b2, b3⟩ := gloB_ok h2
      split at h5
      · rename_i wx hw
        obtain ⟨lx, hl1, hl2⟩ := Option.bind_eq_some_iff.mp hw
        obtain ⟨j, k', c0, c1, ap, cp', rfl, r1, r2, r3⟩ := replB_ok hl2
        have hbase := pat_rep0 (F := F) (W := wOf xr Wx) (j := j) (k := k') (c0 := c0) (c1 := c1) (sndE w X Wx wx g tk h5).pe r1 (plainBase_ok r2) r3
        have hpa := sndR es X Wx (e1 :: es').dropLast w y z _ g tk h6 (bump_drop h4 hl1) hbase
        rw [drop_last hl1] at hpa
        exact .cast (ce_call tk g4 g5 g.room b1 g1 g2 g3 b2 hpa (by simpa using h3)) (eval_callR f es w y z) rfl
      · cases h5
    · cases h1
  | .obT, X, Wx, e, g, tk, h => by
    unfold chkE at h
    split at h
    all_goals first | (exact absurd h Bool.false_ne_true) | (rename_i hq; cases hq; done) | skip
    exact .cast pd_obT (by funext ρ S; rw [evalE]) rfl
  | .kd0, X, Wx, e, g, tk, h => by
    unfold chkE at h
    split at h
    all_goals first | (exact absurd h Bool.false_ne_true) | (rename_i hq; cases hq; done) | skip
    exact .cast pd_kd0 (by funext ρ S; rw [evalE]) rfl
  | .dc tg it cs kk vv, X, Wx, e, g, tk, h => by
    unfold chkE at h
    split at h
    all_goals first | (exact absurd h Bool.false_ne_true) | (rename_i hq; cases hq; done) | skip
    rename_i kx vx tge iter ifs scope p2 hq
    cases hq
    simp only [Bool.and_eq_true, decide_eq_true_eq] at h
    obtain ⟨⟨⟨⟨⟨⟨⟨h1, h2⟩, h3⟩, h4⟩, h5⟩, h6⟩, h7⟩, h8⟩ := h
    obtain ⟨elt2, tge2, iter2, ifs2, scope2, pos2, own, e2, hi, ok, ho, hs, hg, ht, he⟩ := sndLc tg it cs vv X Wx (.ListComp vx [⟨tge, iter, ifs, 0⟩] scope p2) g tk (by rw [chkE]; simp only [Bool.and_eq_true, decide_eq_true_eq]; exact ⟨⟨⟨⟨⟨⟨h1, h2⟩, h3⟩, h4⟩, h5⟩, h6⟩, h8⟩)
    cases e2
    refine .cast (pd_dc g.calm g.nd hi ok ho hg ht (fun s H C cl fp => ?_) he hs) (by funext ρ S; rw [evalE]) rfl
    exact (sndE kk (X.blk s H scope (compEnvC scope cl C X.env) fp) (fun _ _ _ _ => False) kx (g.blk ..) takes0 h7).pe
  | .callK f es a', X, Wx, e, g, tk, h => by
    unfold chkE at h
    split at h
    all_goals first | (exact absurd h Bool.false_ne_true) | (rename_i hq; cases hq; done) | skip
    rename_i hq
    cases hq
    simp only [Bool.and_eq_true] at h
    obtain ⟨⟨⟨⟨h1, h2⟩, h3⟩, h4⟩, h5⟩ := h
    split at h1
    · rename_i fi hf
      have h1 := Bool.and_eq_true_iff.mp h1
      have h1k := h1.2
      have h1 := of_decide_eq_true h1.1
      subst h1
      obtain ⟨a, fd, g1, g2, g3, g4, g5⟩ := g.fns f fi hf
      obtain ⟨k1, k2⟩ := g3.kw h1k
      obtain ⟨b1, b2, b3⟩ := gloB_ok h2
      exact .cast (ce_callK g4 g5 g.room b1 g1 g2 k1 k2 b2 (sndEs es X Wx _ g tk h4) (sndE a' X Wx _ g tk h5).pe (by simpa using h3)) (by funext ρ S; rw [evalE]) rfl
    · cases h1
  | .callD f es d, X, Wx, e, g, tk, h => by
    unfold chkE at h
    split at h
    all_goals first | (exact absurd h Bool.false_ne_true) | (rename_i hq; cases hq; done) | skip
    rename_i hq
    cases hq
    simp only [Bool.and_eq_true] at h
    obtain ⟨⟨⟨h1, h2⟩, h3⟩, h4⟩ := h
    split at h1
    · rename_i fi hf
      have h1 := Bool.and_eq_true_iff.mp h1
      have h1k := h1.2
      have h1 := of_decide_eq_true h1.1
      subst h1
      obtain ⟨a, fd, g1, g2, g3, g4, g5⟩ := g.fns f fi hf
      obtain ⟨v0, u0, k1, k2, k3⟩ := g3.dfl h1k
      obtain ⟨b1, b2, b3⟩ := gloB_ok h2
      exact .cast (ce_callD g4 g5 g.room b1 g1 g2 k1 k2 k3 b2 (sndEs es X Wx _ g tk h4) (by simpa using h3)) (by funext ρ S; rw [evalE]) rfl
    · cases h1
  termination_by me => sizeOf me
theorem sndR : ∀ (es : List ME) (X : Cx) (Wx : WX) (xs : List Expr) (w : ME) (y z : Str) (lx : Expr), Gd G F xr k X → Takes X Wx → chkEs G X.N X.env.scope es xs = true → bumpB xs = true → PAT X [lx] (tDA X.K (wOf xr Wx) (repR F [] w y z)) → PA X (xs ++ [lx]) (tDA X.K (wOf xr Wx) (repR F es w y z))
  | [], X, Wx, xs, w, y, z, lx, g, tk, h, hb, h0 => by
    obtain ⟨e1, x, op, i, j, ci, p, r, rfl⟩ := bumpB_ok hb
    simp [chkEs] at h
  | [a], X, Wx, xs, w, y, z, lx, g, tk, h, hb, h0 => by
    obtain ⟨e1, x, op, i, j, ci, p, r, rfl⟩ := bumpB_ok hb
    simp [chkEs] at h
  | a :: b :: rest, X, Wx, xs, w, y, z, lx, g, tk, h, hb, h0 => by
    obtain ⟨e1, x, op, i, j, ci, p, r, rfl⟩ := bumpB_ok hb
    simp only [chkEs, Bool.and_eq_true] at h
    obtain ⟨⟨h1, h2⟩, ⟨h3, h4⟩, h5⟩ := h
    obtain ⟨o, c, hb2, rfl, h7⟩ := chk_bin h4
    have hsz : sizeOf c < sizeOf b := by rw [hb2]; simp only [ME.bin.sizeOf_spec]; omega
    have hc := sndE c X Wx x g tk h7
    have ha := sndE a X Wx e1 g tk h2
    have hr := sndR' rest X Wx r w y z lx g tk h5 h0
    have hB : PEB X (.BinOp x (opOf o) (.Constant (.int i) j ci) p) (tD X.K (wOf xr Wx) (evalE F b)) := by
      have e3 : evalE F b = fun ρ S => (evalE F c ρ S).bind fun x S1 => R.opt ((peek S1 x).bind fun d => (binD o d (.int i)).map .t) S1 := by
        funext ρ S
        rw [hb2, evalE]
        all_goals (first | rfl | (congr 1; done) | (congr 1; funext x S1; rw [evalE, R.bind_ok]; try rfl))
      rw [e3]
      exact peb_bin o hc.pe
    exact pa_rep ha.pe hB h1 rfl hr
  termination_by es => sizeOf es
  decreasing_by
    all_goals simp_wf
    all_goals (try omega)
theorem sndR' : ∀ (es : List ME) (X : Cx) (Wx : WX) (xs : List Expr) (w : ME) (y z : Str) (lx : Expr), Gd G F xr k X → Takes X Wx → chkEs G X.N X.env.scope es xs = true → PAT X [lx] (tDA X.K (wOf xr Wx) (repR F [] w y z)) → PAT X (xs ++ [lx]) (tDA X.K (wOf xr Wx) (repR F es w y z))
  | [], X, Wx, xs, w, y, z, lx, g, tk, h, h0 => by
    cases xs with
    | cons x xs => simp [chkEs] at h
    | nil => exact h0
  | e :: es, X, Wx, xs, w, y, z, lx, g, tk, h, h0 => by
    cases xs with
    | nil => simp [chkEs] at h
    | cons x xs =>
      simp only [chkEs, Bool.and_eq_true] at h
      exact pat_repC (sndE e X Wx x g tk h.1.2).pe h.1.1 (sndR' es X Wx xs w y z lx g tk h.2 h0)
  termination_by es => sizeOf es
theorem sndEs : ∀ (es : List ME) (X : Cx) (Wx : WX) (xs : List Expr), Gd G F xr k X → Takes X Wx → chkEs G X.N X.env.scope es xs = true → PA X xs (tDA X.K (wOf xr Wx) (evalEs F es))
  | [], X, Wx, xs, g, tk, h => by
    cases xs with
    | cons x xs => simp [chkEs] at h
    | nil =>
      have e : evalEs F [] = fun _ S => .ok [] S := by funext ρ S; rw [evalEs]
      rw [e]; exact pa_D0
  | e :: es, X, Wx, xs, g, tk, h => by
    cases xs with
    | nil => simp [chkEs] at h
    | cons x xs =>
      simp only [chkEs, Bool.and_eq_true] at h
      have e1 : evalEs F (e :: es) = fun ρ S => (evalE F e ρ S).bind fun v S1 => (evalEs F es ρ S1).bind fun vs S2 => .ok (v :: vs) S2 := by funext ρ S; rw [evalEs]
      rw [e1]
      exact pa_D (sndE e X Wx x g tk h.1.2).pe (sndEs es X Wx xs g tk h.2) (star_cons h.1.1)
  termination_by es => sizeOf es
theorem sndCs : ∀ (es : List ME) (X : Cx) (Wx : WX) (xs : List Expr), Gd G F xr k X → Takes X Wx → xs.length ≤ 1 → chkEs G X.N X.env.scope es xs = true → PTs X xs (tDT X.K (wOf xr Wx) (tests (evalCs F es)))
  | [], X, Wx, xs, g, tk, hl, h => ptsD hl (fun c x z => nomatch z) (chkEs_len h)
  | e :: es, X, Wx, xs, g, tk, hl, h => by
    refine ptsD hl (fun c x z1 z2 => ?_) (chkEs_len h)
    cases z1
    subst z2
    simp only [chkEs, Bool.and_eq_true] at h
    exact (sndE e X Wx x g tk h.1.2).pt
  termination_by es => sizeOf es
theorem sndP : ∀ (es : List ME) (X : Cx) (Wx : WX) (x : Option Expr), Gd G F xr k X → Takes X Wx → chkP G X.N X.env.scope es x = true → PO X x (tDO X.K (wOf xr Wx) (evalP F es))
  | [], X, Wx, x, g, tk, h => by
    cases x with
    | some x => rw [chkP_some] at h; cases h
    | none =>
      have e : evalP F [] = fun _ S => .ok none S := by funext ρ S; rw [evalP]
      rw [e]; exact po_D0
  | e :: es, X, Wx, x, g, tk, h => by
    cases x with
    | none => rw [chkP_none] at h; cases h
    | some x =>
      cases es with
      | cons e2 es => rw [chkP_two] at h; cases h
      | nil =>
        rw [chkP_one] at h
        have e1 : evalP F [e] = fun ρ S => (evalE F e ρ S).bind fun v S1 => match v with
            | .t (.int i) => .ok (some i) S1
            | _ => .bad := by funext ρ S; rw [evalP]; try rfl
        rw [e1]
        exact po_D (sndE e X Wx x g tk h).pe
  termination_by es => sizeOf es
theorem sndI : ∀ (it : IT) (X : Cx) (Wx : WX) (tt : Tg) (tge e : Expr), Gd G F xr k X → Takes X Wx → (isTup tge = true → isTp tt = true) → chkI G X.N X.env.scope it tge e = true → PI X tge e (tDI X.K tt (wOf xr Wx) (evalI F it))
  | .of e', X, Wx, tt, tge, e, g, tk, hT, h => by
    simp only [chkI] at h
    have e1 : evalI F (.of e') = fun ρ S => (evalE F e' ρ S).bind fun v S1 => R.opt (srcOf S1 v) S1 := by funext ρ S; rw [evalI]
    rw [e1]
    exact pi_D (sndE e' X Wx e g tk h).pe
  | .range1 e', X, Wx, tt, tge, e, g, tk, hT, h => by
    unfold chkI at h
    split at h
    all_goals first | (exact absurd h Bool.false_ne_true) | (rename_i hq; cases hq)
    simp only [Bool.and_eq_true, decide_eq_true_eq] at h
    obtain ⟨⟨⟨rfl, h2⟩, h3⟩, h4⟩ := h
    obtain ⟨a1, a2, a3, a4⟩ := freeB_ok g h2
    have e1 : evalI F (.range1 e') = fun ρ S => (evalE F e' ρ S).bind fun v S1 => match v with
        | .t (.int n) => if rngOk n then .ok (.fix (rangeD 0 n)) S1 else .bad
        | _ => .bad := by funext ρ S; rw [evalI]; try rfl
    rw [e1]
    exact pi_rng1 a1 a4 h3 (sndE e' X Wx _ g tk h4).pe
  | .range2 a b, X, Wx, tt, tge, e, g, tk, hT, h => by
    unfold chkI at h
    split at h
    all_goals first | (exact absurd h Bool.false_ne_true) | (rename_i hq; cases hq)
    simp only [Bool.and_eq_true, decide_eq_true_eq] at h
    obtain ⟨⟨⟨⟨⟨rfl, h2⟩, h3⟩, h4⟩, h5⟩, h6⟩ := h
    obtain ⟨a1, a2, a3, a4⟩ := freeB_ok g h2
    have e1 : evalI F (.range2 a b) = fun ρ S => (evalE F a ρ S).bind fun v S1 => (evalE F b ρ S1).bind fun u S2 => match v, u with
        | .t (.int i), .t (.int j) => if rngOk i && rngOk j then .ok (.fix (rangeD i j)) S2 else .bad
        | _, _ => .bad := by funext ρ S; rw [evalI]; try rfl
    rw [e1]
    exact pi_rng2 a1 a4 h3 h4 (sndE a X Wx _ g tk h5).pe (sndE b X Wx _ g tk h6).pe
  | .enum e', X, Wx, tt, tge, e, g, tk, hT, h => by
    unfold chkI at h
    split at h
    all_goals first | (exact absurd h Bool.false_ne_true) | (rename_i hq; cases hq)
    simp only [Bool.and_eq_true, decide_eq_true_eq] at h
    obtain ⟨⟨⟨⟨rfl, h2⟩, h3⟩, h4⟩, h5⟩ := h
    obtain ⟨a1, a2, a3, a4⟩ := freeB_ok g h2
    have e1 : evalI F (.enum e') = fun ρ S => (evalE F e' ρ S).bind fun v S1 => match v with
        | .t (.lst xs) => .ok (.fix (enumD xs)) S1
        | .t (.tup xs) => .ok (.fix (enumD xs)) S1
        | _ => .bad := by funext ρ S; rw [evalI]; try rfl
    rw [e1]
    have hTp := hT h3
    unfold isTup at h3
    split at h3
    · exact pi_enumD hTp a1 a4 h4 (sndE e' X Wx _ g tk h5).pe
    · cases h3
  | .zips a b, X, Wx, tt, tge, e, g, tk, hT, h => by
    unfold chkI at h
    split at h
    all_goals first | (exact absurd h Bool.false_ne_true) | (rename_i hq; cases hq)
    simp only [Bool.and_eq_true, decide_eq_true_eq] at h
    obtain ⟨⟨⟨⟨⟨⟨rfl, h2⟩, h0⟩, h3⟩, h4⟩, h5⟩, h6⟩ := h
    obtain ⟨a1, a2, a3, a4⟩ := freeB_ok g h2
    have e1 : evalI F (.zips a b) = fun ρ S => (evalE F a ρ S).bind fun v S1 => (evalE F b ρ S1).bind fun u S2 => match v, u with
        | .t (.str x), .t (.tup ys) => .ok (.fix (zipD (x.cps.toList.map fun c => .str ⟨#[c]⟩) ys)) S2
        | _, _ => .bad := by funext ρ S; rw [evalI]; try rfl
    rw [e1]
    have hTp := hT h0
    unfold isTup at h0
    split at h0
    · exact pi_zipsD hTp a1 a4 h3 h4 (sndE a X Wx _ g tk h5).pe (sndE b X Wx _ g tk h6).pe
    · cases h0
  | .zip a b, X, Wx, tt, tge, e, g, tk, hT, h => by
    unfold chkI at h
    split at h
    all_goals first | (exact absurd h Bool.false_ne_true) | (rename_i hq; cases hq)
    simp only [Bool.and_eq_true, decide_eq_true_eq] at h
    obtain ⟨⟨⟨⟨⟨⟨rfl, h2⟩, h0⟩, h3⟩, h4⟩, h5⟩, h6⟩ := h
    obtain ⟨a1, a2, a3, a4⟩ := freeB_ok g h2
    have e1 : evalI F (.zip a b) = fun ρ S => (evalE F a ρ S).bind fun v S1 => (evalE F b ρ S1).bind fun u S2 => match v, u with
        | .t (.lst xs), .t (.lst ys) => .ok (.fix (zipD xs ys)) S2
        | .t (.tup xs), .t (.tup ys) => .ok (.fix (zipD xs ys)) S2
        | _, _ => .bad := by funext ρ S; rw [evalI]; try rfl
    rw [e1]
    have hTp := hT h0
    unfold isTup at h0
    split at h0
    · exact pi_zipD hTp a1 a4 h3 h4 (sndE a X Wx _ g tk h5).pe (sndE b X Wx _ g tk h6).pe
    · cases h0
  termination_by it => sizeOf it
theorem sndLc : ∀ (tg : Tg) (it : IT) (cs : List ME) (e' : ME) (X : Cx) (Wx : WX) (e : Expr), Gd G F xr k X → Takes X Wx → chkE G X.N X.env.scope (.lc tg it cs e') e = true → LcOk (xr := xr) X (wOf xr Wx) F tg it cs e' e
  | tg, it, cs, e', X, Wx, e, g, tk, h => by
    obtain ⟨elt, tge, iter, ifs, scope, pos, rfl, h1, h2, h3, h4, h5, h6, h7⟩ := chk_lc h
    have hi := sndI it X Wx tg tge iter g tk (tgtB_tup h3) h4
    refine ⟨elt, tge, iter, ifs, scope, pos, ownOf X.N (tgs tg), rfl, hi, blkOk_by h2, ownOf_snd _ _, notSet_ok h1, ?_, ?_, ?_⟩
    · intro s H C cl fp
      exact tgtB_ok (X := X.blk s H scope (compEnvC scope cl C X.env) fp) g.calm g.nd (fun x hx => hx) h3
    · intro s H C cl fp
      exact sndCs cs (X.blk s H scope (compEnvC scope cl C X.env) fp) (fun _ _ _ _ => False) ifs (g.blk ..) takes0 h5 h6
    · intro s H C cl fp
      exact (sndE e' (X.blk s H scope (compEnvC scope cl C X.env) fp) (fun _ _ _ _ => False) elt (g.blk ..) takes0 h7).pe
  termination_by tg it cs e' => sizeOf it + sizeOf cs + sizeOf e'
  decreasing_by
    all_goals simp_wf
    all_goals (have hp1 := it_pos it; have hp2 := ls_pos cs; omega)
end
end
end M

/-! what is checked is sound: statements, defs -/
namespace M
open PySem PySem.Spec PyProof.Rows L2

def notComp : Expr → Bool
  | .ListComp _ _ _ _ | .SetComp _ _ _ _ | .DictComp _ _ _ _ _ => false
  | _ => true
theorem swaps_not {v : Expr} {t : Option Expr} {l : Nat} {env : Env} (h : notComp v = true) : swapsWith v t l env = pure false := by
  unfold swapsWith
  cases v <;> first
    | (exfalso; cases h; done)
    | rfl
theorem swaps_tup {v : Expr} {es : List Expr} {k : Nat} {p : Pos} {l : Nat} {env : Env} : swapsWithSole [.Tuple es k p] v l env = pure false := by
  unfold swapsWithSole swapsWith
  cases v <;> rfl
theorem swaps_sub {v o i : Expr} {p : Pos} {l : Nat} {env : Env} : swapsWithSole [.Subscript o i p] v l env = pure false := by
  unfold swapsWithSole swapsWith
  cases v <;> rfl
def foldB : Expr → Bool
  | .Tuple vs _ _ => vs.all (foldedForSure 8)
  | _ => true
theorem sw_none {es : List Expr} {k : Nat} {p : Pos} {v : Expr} {env : Env} (h : foldB v = true) : swappedStores [.Tuple es k p] v env = pure none := by
  unfold swappedStores
  cases v with
  | Tuple vs k2 p2 =>
    have h : vs.all (foldedForSure 8) = true := h
    simp only [h]
    split <;> try rfl
    split <;> try rfl
    split <;> rfl
  | _ => rfl
theorem sw_none_sub {o i : Expr} {p : Pos} {v : Expr} {env : Env} : swappedStores [.Subscript o i p] v env = pure none := by
  unfold swappedStores
  cases v <;> rfl
def parB (sc : Scope) (x y : Str) (px py : Pos) (a b : Expr) : Bool :=
  isK .local (sc.names.lookup x) && isK .local (sc.names.lookup y) && (px.line == py.line) && !decide (x = y) && noStar a && noStar b && !([a, b].all (foldedForSure 8)) && !([a, b].all (constantsAlone 8))
theorem par_ok {env : Env} {x y : Str} {px py : Pos} {a b : Expr} {kt k2 : Nat} {pt pt2 : Pos} (hk : env.scope.kind = .function) (h : parB env.scope x y px py a b = true) :
    swappedStores [.Tuple [.Name x px, .Name y py] kt pt] (.Tuple [a, b] k2 pt2) env = pure (some [x, y]) := by
  unfold parB at h
  simp only [Bool.and_eq_true, Bool.not_eq_true', decide_eq_false_iff_not] at h
  obtain ⟨⟨⟨⟨⟨⟨⟨h1, h2⟩, h3⟩, h4⟩, h5⟩, h6⟩, h7⟩, h8⟩ := h
  have k1 : env.kindOf x = some .local := isK_eq h1
  have k2 : env.kindOf y = some .local := isK_eq h2
  have hb : env.blockKind = .function := by unfold Env.blockKind; rw [hk]; rfl
  have h3 : py.line = px.line := (eq_of_beq h3).symm
  have hd : ([x, y] : List Str).eraseDups = [x, y] := by
    have h4' : (y == x) = false := by simpa using fun z => h4 z.symm
    simp [List.eraseDups_cons, List.filter_cons, h4']
  unfold swappedStores
  simp only [hb, k1, k2, List.any_cons, List.any_nil, h7, h8, Expr.pos, h3]
  simp [hb, k1, k2, Expr.pos, h3, hd]
  intro z
  rcases z with z | z
  · cases a <;> first | (exfalso; cases h5; done) | (exfalso; cases z; done)
  · cases b <;> first | (exfalso; cases h6; done) | (exfalso; cases z; done)
def seqs (a b : Nat) : Bool := a == b
/-- y = [..], the target stored within the comprehension's frame -/
def swB (sc : Scope) (x : Str) (p : Pos) : Expr → Bool
  | .ListComp _ _ scope pos => isK .local (sc.names.lookup x) && (p.line == pos.line) && !(scope.names.any fun (n, k) => n == x && (k == .local || k == .cell))
  | _ => false
theorem swB_ok {env : Env} {x : Str} {p : Pos} {e : Expr} {l : Nat} (hk : env.scope.kind = .function) (h : swB env.scope x p e = true) : swapsWith e (some (.Name x p)) l env = pure true := by
  unfold swB at h
  split at h
  · simp only [Bool.and_eq_true, Bool.not_eq_true'] at h
    exact sw_true hk (isK_eq h.1.1) h.1.2 h.2
  · cases h
theorem isK_beq (o : Option NameKind) : (o == some NameKind.local) = isK .local o := by
  cases o with
  | none => rfl
  | some k => cases k <;> rfl
theorem swB_no {env : Env} {x : Str} {p : Pos} {e : Expr} {l : Nat} (hk : env.scope.kind = .function) (hs : (match e with | .SetComp _ _ _ _ | .DictComp _ _ _ _ _ => false | _ => true) = true) (h : swB env.scope x p e = false) : swapsWith e (some (.Name x p)) l env = pure false := by
  unfold swapsWith
  have hb : env.blockKind = .function := by unfold Env.blockKind; rw [hk]; rfl
  cases e with
  | ListComp a b scope pos =>
    unfold swB at h
    simp only at h ⊢
    rw [← isK_beq] at h
    rw [hb]
    have hkk : env.kindOf x = env.scope.names.lookup x := rfl
    rw [hkk]
    show pure ((ScopeKind.function == ScopeKind.function) && (env.scope.names.lookup x == some NameKind.local) && (p.line == pos.line) && !(scope.names.any fun (n, k) => n == x && (k == .local || k == .cell))) = _
    rw [show (ScopeKind.function == ScopeKind.function) = true from rfl, Bool.true_and, h]
  | SetComp _ _ _ _ => cases hs
  | DictComp _ _ _ _ _ => cases hs
  | _ => rfl

/-! ### new lists of other forms -/
section
variable {X : Cx} {W : WS} {a b : Expr} {ga gb : Ev → St' → R SV} {pos p : Pos}
def catR (ga gb : Ev → St' → R SV) : Ev → St' → R (List D) := fun ρ S => (ga ρ S).bind fun x S1 => (gb ρ S1).bind fun y S2 =>
      R.opt ((peek S2 x).bind fun d => (peek S2 y).bind fun e => match d, e with
        | .lst xs, .lst ys => if xs.length + ys.length ≤ sizeLine then some (xs ++ ys) else none
        | _, _ => none) S2
theorem pd_catL (ha : PE X a (tD X.K W ga)) (hb : PE X b (tD X.K W gb)) : PE X (.BinOp a .Add b pos) (tDL X.K W (catR ga gb)) := by
  refine PE_imp (pe_op op_catR ha hb) fun σ H Q ⟨m, S, ρ, ok, re, h⟩ => ?_
  refine ⟨m, S, ρ, ok, re, RunL.bind h fun x S1 H1 m1 ok1 f1 h1 v rv => ?_⟩
  refine ⟨m1, S1, ρ, ok1, re.mono f1, RunL.bind h1 fun y S2 H2 m2 ok2 f2 h2 u ru => ?_⟩
  revert h2
  cases e1 : peek S2 x with
  | none => exact fun h2 => h2.elim
  | some d =>
    cases e2 : peek S2 y with
    | none => exact fun h2 => h2.elim
    | some d2 =>
      simp only [Option.bind_some]
      cases d <;> try (exact fun h2 => h2.elim)
      cases d2 <;> try (exact fun h2 => h2.elim)
      simp only
      intro h2
      split at h2
      · rename_i xs ys hz
        obtain ⟨l1, vs, rfl, g1, g2⟩ := (ok2.peek (rv.mono f2) e1).lst
        obtain ⟨l2, ws, rfl, g3, g4⟩ := (ok2.peek ru e2).lst
        refine ⟨l1, l2, vs, ws, rfl, rfl, g1, g3, by rw [g2.length, g4.length]; exact hz, fun q hq => ?_⟩
        obtain ⟨ok3, f3⟩ := ok2.push hq (g2.append g4)
        exact h2 _ m2 q ok3 f3 (List.prefix_refl _)
      · exact h2.elim
def lstR' (ga : Ev → St' → R SV) : Ev → St' → R (List D) := fun ρ S => (ga ρ S).bind fun x S1 => R.opt ((peek S1 x).bind fun d => match d with
      | .lst xs => some xs
      | .tup xs => some xs
      | _ => none) S1
theorem pd_listL (hg : Gl X "list") (hm : X.mg "list" = none) (hst : noStar a = true) (ha : PE X a (tD X.K W ga)) : PE X (.Call (.Name "list" p) [a] [] pos) (tDL X.K W (lstR' ga)) := by
  refine PE_imp (pe_callTy call_list_of hg hm (biN_boot .list) (pa_cons ha pa_nil (star_cons hst)) (by decide) (by decide) (star_cons hst) (star_any rfl)) fun σ H Q ⟨m, S, ρ, ok, re, h⟩ => ?_
  refine ⟨m, S, ρ, ok, re, RunL.bind h fun x S1 H1 m1 ok1 f1 h1 v rv => ?_⟩
  revert h1
  cases e1 : peek S1 x with
  | none => exact fun h1 => h1.elim
  | some d =>
    simp only [Option.bind_some]
    cases d <;> try (exact fun h1 => h1.elim)
    · intro h1
      obtain ⟨l1, vs, rfl, g1, g2⟩ := (ok1.peek rv e1).tup
      refine ⟨l1, vs, rfl, .inr g1, fun q hq => ?_⟩
      obtain ⟨ok3, f3⟩ := ok1.push hq g2
      exact h1 _ m1 q ok3 f3 (List.prefix_refl _)
    · intro h1
      obtain ⟨l1, vs, rfl, g1, g2⟩ := (ok1.peek rv e1).lst
      refine ⟨l1, vs, rfl, .inl (.inl g1), fun q hq => ?_⟩
      obtain ⟨ok3, f3⟩ := ok1.push hq g2
      exact h1 _ m1 q ok3 f3 (List.prefix_refl _)
end

/-! ### checks of statements -/
def noSD : Expr → Bool
  | .SetComp _ _ _ _ | .DictComp _ _ _ _ _ => false
  | _ => true
def lform : ME → Bool
  | .lst _ | .lc _ _ _ _ | .bin .add _ _ | .bi .list [_] => true
  | _ => false
def notDv : ME → Bool
  | .dvals _ _ => false
  | _ => true
def keysB : List Str → List (Option Expr) → Bool
  | [], [] => true
  | k :: ks, some (.Constant (.str x) _ _) :: es => decide (x = k) && keysB ks es
  | _, _ => false
mutual
def chkS (G : Glo) (N : List Str) (sc : Scope) : MS → Stmt → Bool
  | .doc, .Expr (.Constant (.str _) _ _) _ => true
  | .pass, .Pass _ => true
  | .any, _ => true
  | .asg (.v i) e, .Assign [.Name x _] v _ => tgB N sc (fun _ => true) i x && noSD v && notDv e && chkE G N sc e v
  | .asg (.tp is) e, .Assign [.Tuple es _ _] v _ => tgsB N sc (fun _ => true) is es && foldB v && chkE G N sc e v
  | .par i j a b, .Assign [.Tuple [.Name x px, .Name y py] _ _] (.Tuple [u, v] _ _) _ => decide (N[i]? = some x) && decide (N[j]? = some y) && !decide (i = j) && parB sc x y px py u v && chkE G N sc a u && chkE G N sc b v
  | .new i e, .Assign [.Name x _] v _ => tgB N sc (fun _ => true) i x && noSD v && lform e && chkE G N sc e v
  | .aug i o e, .AugAssign (.Name x _) op v _ => opB o op && !decide (o = .pow) && tgB N sc (fun _ => true) i x && chkE G N sc e v
  | .insl i k e, .Expr (.Call (.Attribute (.Name x _) nm ap) [u, v] [] cp) _ => decide (nm = "insert") && visB N sc i x && noStar u && noStar v && (ap.endLine == cp.line) && chkE G N sc k u && chkE G N sc e v
  | .app i e, .Expr (.Call (.Attribute (.Name x _) nm ap) [v] [] cp) _ => decide (nm = "append") && visB N sc i x && noStar v && (ap.endLine == cp.line) && chkE G N sc e v
  | .seti i k e, .Assign [.Subscript (.Name x _) y _] v _ => visB N sc i x && notSlice y && chkE G N sc k y && chkE G N sc e v
  | .newd i, .Assign [.Name x _] (.Dict [] [] _) _ => tgB N sc (fun _ => true) i x
  | .putd i k e, .Assign [.Subscript (.Name x _) (.Call (.Name t _) [y] [] _) _] v _ => visB N sc i x && decide (t = "tuple") && freeB G sc t && noStar y && chkE G N sc k y && chkE G N sc e v
  | .newk i ks es, .Assign [.Name x _] (.Dict keys vals _) _ => tgB N sc (fun _ => true) i x && decide (ks.length ≤ 15) && keysB ks keys && chkEs G N sc es vals && decide (ks.length = es.length)
  | .putt i ks e, .Assign [.Subscript (.Name x _) (.Tuple es _ _) _] v _ => visB N sc i x && chkEs G N sc ks es && chkE G N sc e v
  | .putk i k e, .Assign [.Subscript (.Name x _) y _] v _ => visB N sc i x && notSlice y && chkE G N sc k y && chkE G N sc e v
  | .expr e, .Expr v _ => notComp v && chkE G N sc e v
  | .ret e, .Return (some v) _ => chkE G N sc e v
  | .retN, .Return none _ => true
  | .ife c a b, .If c' a' b' _ => chkE G N sc c c' && chkB G N sc a a' && chkB G N sc b b'
  | .for_ tg it body, .For tge iter body' [] _ => notSet iter && tgtB N sc (fun _ => true) tg tge && chkI G N sc it tge iter && chkB G N sc body body'
  | _, _ => false
def chkB (G : Glo) (N : List Str) (sc : Scope) : List MS → List Stmt → Bool
  | [], [] => true
  | s :: ss, t :: ts => chkS G N sc s t && chkB G N sc ss ts
  | _, _ => false
end
end M

/-! what is checked is sound: statements, defs -/
namespace M
open PySem PySem.Spec PyProof.Rows L2
section
variable {G : Glo} {F : FS} {xr : XR} {k : Nat}
/-- a statement y = [..] whose store is within -/
theorem ps_lcAny {X : Cx} {W : WS} {tg : Tg} {it : IT} {cs : List ME} {e' : ME} {e : Expr} {i : Nat} {y : Str} {py spos : Pos} (hc : X.calm = true) (hN : X.N.Nodup) (hk : X.env.scope.kind = .function) (h : LcOk (xr := xr) X W F tg it cs e' e) (hy : X.N[i]? = some y) (hsw : swB X.env.scope y py e = true) :
    PS X (.Assign [.Name y py] e spos) (fun E σ H => tDL X.K W (evalL F (.lc tg it cs e')) σ H fun x H1 => E.nx (σ.set i (some x)) H1) := by
  obtain ⟨elt, tge, iter, ifs, scope, pos, own, rfl, hi, ok, ho, hs, hg, ht, he⟩ := h
  have e1 : evalL F (.lc tg it cs e') = fun ρ S => (evalI F it ρ S).bind fun src S1 => lcSrc tg (tests (evalCs F cs)) (evalE F e') src ρ S1 := by funext ρ S; rw [evalL]
  have hyl : X.env.scope.names.lookup y = some .local := by
    unfold swB at hsw
    simp only [Bool.and_eq_true] at hsw
    exact isK_eq hsw.1.1
  rw [e1]
  exact PS_imp (ps_setLc hc hN hy hyl (swB_ok hk hsw) hi ok hg ht he hs) fun E σ H h => pd_lcL hc hN hi ok ho hg ht he hs σ H _ h
theorem Run_of_L {K : PySem.W.Frag} {W : WS} {E : Ends} {σ : L2.St} {ρ : Ev} {H : Hp} {m : List Addr} {S : St'} {r : R (List D)} {i : Nat} (re : RelE K H m S σ ρ)
    (h : RunO K W E H m S (Out.of ρ (r.bind fun xs S1 => R.ok (SV.t (.lst xs)) S1) fun v S1 => .nx (ρ.set i (some v)) S1)) : RunL K (fun x H1 => E.nx (σ.set i (some x)) H1) (W σ) H m S r := by
  cases r with
  | bad => exact h
  | exc c p S' => exact fun H1 m1 ok1 f1 => h H1 m1 σ ok1 f1 (re.mono f1)
  | ok xs S' =>
    intro H' m' p ok' f' hp
    have f2 := f'.pop ok' hp
    exact h H' m' _ ok'.pop.1 f2 ((re.mono f2).set i (d := .t (.lst xs)) ok'.pop.2.2)
theorem evalE_lc (tg : Tg) (it : IT) (cs : List ME) (e' : ME) : evalE F (.lc tg it cs e') = fun ρ S => (evalL F (.lc tg it cs e') ρ S).bind fun xs S1 => .ok (.t (.lst xs)) S1 := by
  funext ρ S
  rw [evalE, evalL, R.bind_assoc]
theorem snd_new {X : Cx} {Wx : WX} {me : ME} {e : Expr} (g : Gd G F xr k X) (tk : Takes X Wx) (hl : lform me = true) (h : chkE G X.N X.env.scope me e = true) : PE X e (tDL X.K (wOf xr Wx) (evalL F me)) := by
  unfold lform at hl
  split at hl
  · rename_i es
    unfold chkE at h
    split at h
    all_goals first | (exact absurd h Bool.false_ne_true) | (rename_i hq; cases hq)
    have e1 : evalL F (.lst es) = fun ρ S => (evalEs F es ρ S).bind fun vs S1 => match grabs S1 vs with
        | some (ds, S2) => if ds.length ≤ sizeLine then R.ok ds S2 else .bad
        | none => .bad := by funext ρ S; rw [evalL]; try rfl
    rw [e1]
    exact pd_lstL (sndEs es X Wx _ g tk h)
  · rename_i tg it cs e'
    exact (sndLc tg it cs e' X Wx e g tk h).pe g.calm g.nd
  · rename_i a b
    unfold chkE at h
    split at h
    all_goals first | (exact absurd h Bool.false_ne_true) | (rename_i hq; cases hq)
    simp only [Bool.and_eq_true] at h
    obtain ⟨⟨h1, h2⟩, h3⟩ := h
    rw [opB_eq h1]
    have e1 : evalL F (.bin .add a b) = catR (evalE F a) (evalE F b) := by funext ρ S; rw [evalL]; try rfl
    rw [e1]
    exact pd_catL (sndE a X Wx _ g tk h2).pe (sndE b X Wx _ g tk h3).pe
  · rename_i a
    unfold chkE at h
    split at h
    all_goals first | (exact absurd h Bool.false_ne_true) | (rename_i hq; cases hq)
    rename_i x1 p1 y1 ys1 pos1
    simp only [Bool.and_eq_true, decide_eq_true_eq] at h
    obtain ⟨⟨⟨rfl, h2⟩, h3⟩, h4⟩ := h
    obtain ⟨a1, a2, a3, a4⟩ := freeB_ok g h2
    have hlen := chkEs_len h4
    cases ys1 with
    | cons z zs => simp at hlen
    | nil =>
      simp only [chkEs, Bool.and_eq_true] at h4
      have e1 : evalL F (.bi .list [a]) = lstR' (evalE F a) := by funext ρ S; rw [evalL]; try rfl
      rw [e1]
      exact pd_listL a1 a4 h4.1.1 (sndE a X Wx _ g tk h4.1.2).pe
  · cases hl

theorem lform_dv {me : ME} (h : lform me = true) : notDv me = true := by
  cases me <;> first | rfl | (cases h; done)

/-- what a def's own block has -/
structure Bk (X : Cx) : Prop where
  kind : X.env.scope.kind = .function
  fn : ∀ x, X.fn x = true
  pass : PassesOwn (model X.prog X.w) X.A X.env X.xe
theorem swB_lc {sc : Scope} {x : Str} {p : Pos} {v : Expr} {N : List Str} {me : ME} (h : swB sc x p v = true) (hd : notDv me = true) (hc : chkE G N sc me v = true) : ∃ tg it cs e', me = .lc tg it cs e' := by
  unfold swB at h
  split at h
  · unfold chkE at hc
    split at hc
    all_goals first | (exact absurd hc Bool.false_ne_true) | (rename_i hq; cases hq; done) | exact ⟨_, _, _, _, rfl⟩ | (cases hd; done)
  · cases h
theorem swB_no' {env : Env} {x : Str} {p : Pos} {e : Expr} {l : Nat} (hk : env.scope.kind = .function) (hs : noSD e = true) (h : swB env.scope x p e = false) : swapsWith e (some (.Name x p)) l env = pure false := by
  refine swB_no hk ?_ h
  clear h
  cases e <;> first | rfl | (exfalso; cases hs; done)
theorem assign_sub {env : Env} {o b : Expr} {p3 : Pos} (h : notSlice b = true) (v : Value) : assign (.Subscript o b p3) env v = (do
      let ov ← holding [v] (eval o env)
      let iv ← holding [v, ov] (eval b env)
      standAt p3
      holding [v, ov, iv] (setItem ov iv v)
      release [v, ov, iv] []) := by
  cases b <;> first | rfl | (exfalso; cases h; done)
theorem pps_D {X : Cx} {Wx : WX} {pos : Pos} (g : Gd G F xr k X) (tk : Takes X Wx) : ∀ {ks : List Str} {es : List ME} {keys : List (Option Expr)} {vals : List Expr}, keysB ks keys = true → chkEs G X.N X.env.scope es vals = true → ks.length = es.length → PPs X pos keys vals (trsOf X.K (wOf xr Wx) F ks es) ∧ keys.all (·.isSome) = true ∧ keys.length = vals.length ∧ keys.length = ks.length
  | [], [], keys, vals, h1, h2, _ => by
    cases keys with
    | cons a b => simp [keysB] at h1
    | nil =>
      cases vals with
      | cons a b => simp [chkEs] at h2
      | nil => exact ⟨pps_nil, rfl, rfl, rfl⟩
  | [], _ :: _, _, _, _, _, hl => by simp at hl
  | _ :: _, [], _, _, _, _, hl => by simp at hl
  | kk :: ks, e :: es, keys, vals, h1, h2, hl => by
    unfold keysB at h1
    split at h1
    · rename_i hq; cases hq
    · rename_i x j p r hq
      cases hq
      cases vals with
      | nil => simp [chkEs] at h2
      | cons v vals =>
        simp only [chkEs, Bool.and_eq_true, decide_eq_true_eq] at h1 h2
        obtain ⟨rfl, h1⟩ := h1
        obtain ⟨i1, i2, i3, i4⟩ := pps_D g tk h1 h2.2 (by simpa using hl)
        exact ⟨pps_cons pe_str (sndE e X Wx v g tk h2.1.2).pe i1, by simp [i2], by simp [i3], by simp [i4]⟩
    · cases h1
mutual
theorem sndS : ∀ (ms : MS) (X : Cx) (Wx : WX) (st : Stmt), Gd G F xr k X → Bk X → Takes X Wx → chkS G X.N X.env.scope ms st = true → PS X st (tDS X.K (wOf xr Wx) (execS F ms))
  | .doc, X, Wx, st, g, b, tk, h => by
    unfold chkS at h
    split at h
    all_goals first | (exact absurd h Bool.false_ne_true) | (rename_i hq; cases hq; done) | skip
    exact ps_docD
  | .pass, X, Wx, st, g, b, tk, h => by
    unfold chkS at h
    split at h
    all_goals first | (exact absurd h Bool.false_ne_true) | (rename_i hq; cases hq; done) | skip
    exact ps_passD
  | .any, X, Wx, st, g, b, tk, h => by
    refine ⟨fun pins s σ H D I hw => ?_⟩
    obtain ⟨m, S, ρ, ok, re, hh⟩ := hw
    rw [execS] at hh
    exact hh.elim
  | .asg (.v i) e, X, Wx, st, g, b, tk, h => by
    unfold chkS at h
    split at h
    all_goals first | (exact absurd h Bool.false_ne_true) | (rename_i hq; cases hq; done) | skip
    rename_i x px v pos hq
    cases hq
    simp only [Bool.and_eq_true] at h
    obtain ⟨⟨⟨h1, h2⟩, h0⟩, h3⟩ := h
    obtain ⟨a1, a2, a3⟩ := tgB_ok (fun x _ => b.fn x) h1
    by_cases hs : swB X.env.scope x px v = true
    · obtain ⟨tg, it, cs, e', rfl⟩ := swB_lc hs h0 h3
      refine PS_imp (ps_lcAny g.calm g.nd b.kind (sndLc tg it cs e' X Wx v g tk h3) a1 hs) fun E σ H ⟨m, S, ρ, ok, re, h⟩ => ⟨m, S, ρ, ok, re, Run_of_L re ?_⟩
      rw [execS, evalE_lc] at h
      exact h
    · exact ps_setD g.nd a1 a2 a3 (swB_no' b.kind h2 (by simpa using hs)) (sndE e X Wx v g tk h3).pe
  | .asg (.tp is) e, X, Wx, st, g, b, tk, h => by
    unfold chkS at h
    split at h
    all_goals first | (exact absurd h Bool.false_ne_true) | (rename_i hq; cases hq; done) | skip
    rename_i es k2 p2 v pos hq
    cases hq
    simp only [Bool.and_eq_true] at h
    obtain ⟨⟨h1, h2⟩, h3⟩ := h
    exact ps_tpD g.calm g.nd (tgsB_ok (fun x _ => b.fn x) h1) swaps_tup (sw_none h2) (sndE e X Wx v g tk h3).pe
  | .par i j a c, X, Wx, st, g, b, tk, h => by
    unfold chkS at h
    split at h
    all_goals first | (exact absurd h Bool.false_ne_true) | (rename_i hq; cases hq; done) | skip
    rename_i x px y py k1 p1 u v k2 p2 pos hq
    cases hq
    simp only [Bool.and_eq_true, decide_eq_true_eq, Bool.not_eq_true', decide_eq_false_iff_not] at h
    obtain ⟨⟨⟨⟨⟨h1, h2⟩, h3⟩, h4⟩, h5⟩, h6⟩ := h
    have h4' := h4
    unfold parB at h4'
    simp only [Bool.and_eq_true, Bool.not_eq_true', decide_eq_false_iff_not] at h4'
    obtain ⟨⟨⟨⟨⟨⟨⟨b1, b2⟩, b3⟩, b4⟩, b5⟩, b6⟩, b7⟩, b8⟩ := h4'
    exact ps_parD g.calm g.nd h1 h2 h3 (isK_eq b1) (isK_eq b2) b5 b6 (sndE a X Wx u g tk h5).pe (sndE c X Wx v g tk h6).pe (par_ok b.kind h4)
  | .new i e, X, Wx, st, g, b, tk, h => by
    unfold chkS at h
    split at h
    all_goals first | (exact absurd h Bool.false_ne_true) | (rename_i hq; cases hq; done) | skip
    rename_i x px v pos hq
    cases hq
    simp only [Bool.and_eq_true] at h
    obtain ⟨⟨⟨h1, h2⟩, h0⟩, h3⟩ := h
    obtain ⟨a1, a2, a3⟩ := tgB_ok (fun x _ => b.fn x) h1
    by_cases hs : swB X.env.scope x px v = true
    · obtain ⟨tg, it, cs, e', rfl⟩ := swB_lc hs (lform_dv h0) h3
      refine PS_imp (ps_lcAny g.calm g.nd b.kind (sndLc tg it cs e' X Wx v g tk h3) a1 hs) fun E σ H ⟨m, S, ρ, ok, re, h⟩ => ⟨m, S, ρ, ok, re, ?_⟩
      rw [execS] at h
      refine RunO.ofL re h fun xs S' H' m' q ok' f' hp hk => ?_
      have hl : m'.length = S'.length := by have := ok'.len; simpa using this
      exact hk H' _ _ ok' f' ((re.mono f').set i (show RepS X.K H' (m' ++ [q]) (S' ++ [.lst xs]) (.ref q) (.o S'.length) from ⟨q, by rw [← hl]; simp, rfl⟩))
    · exact ps_newD g.nd a1 a2 a3 (swB_no' b.kind h2 (by simpa using hs)) (snd_new g tk h0 h3)
  | .aug i o e, X, Wx, st, g, b, tk, h => by
    unfold chkS at h
    split at h
    all_goals first | (exact absurd h Bool.false_ne_true) | (rename_i hq; cases hq; done) | skip
    rename_i x px op v pos hq
    cases hq
    simp only [Bool.and_eq_true, Bool.not_eq_true', decide_eq_false_iff_not] at h
    obtain ⟨⟨⟨h1, h2⟩, h3⟩, h4⟩ := h
    obtain ⟨a1, a2, a3⟩ := tgB_ok (fun x _ => b.fn x) h3
    rw [opB_eq h1]
    exact ps_augD h2 g.nd a1 a2 a3 (sndE e X Wx v g tk h4).pe
  | .app i e, X, Wx, st, g, b, tk, h => by
    unfold chkS at h
    split at h
    all_goals first | (exact absurd h Bool.false_ne_true) | (rename_i hq; cases hq; done) | skip
    rename_i x px nm ap v cp pos hq
    cases hq
    simp only [Bool.and_eq_true, decide_eq_true_eq] at h
    obtain ⟨⟨⟨⟨rfl, h2⟩, h3⟩, h4⟩, h5⟩ := h
    obtain ⟨a1, a2, a3, a4⟩ := visB_ok h2
    exact ps_appD a1 a2 a3 a4 h3 h4 (sndE e X Wx v g tk h5).pe
  | .insl i kk e, X, Wx, st, g, b, tk, h => by
    unfold chkS at h
    split at h
    all_goals first | (exact absurd h Bool.false_ne_true) | (rename_i hq; cases hq; done) | skip
    rename_i x px nm ap u v cp pos hq
    cases hq
    simp only [Bool.and_eq_true, decide_eq_true_eq] at h
    obtain ⟨⟨⟨⟨⟨⟨rfl, h2⟩, h3⟩, h3'⟩, h4⟩, h5⟩, h6⟩ := h
    obtain ⟨a1, a2, a3, a4⟩ := visB_ok h2
    exact ps_insD a1 a2 a3 a4 h3 h3' h4 (sndE kk X Wx u g tk h5).pe (sndE e X Wx v g tk h6).pe
  | .seti i kk e, X, Wx, st, g, b, tk, h => by
    unfold chkS at h
    split at h
    all_goals first | (exact absurd h Bool.false_ne_true) | (rename_i hq; cases hq; done) | skip
    rename_i x px y p2 v pos hq
    cases hq
    simp only [Bool.and_eq_true] at h
    obtain ⟨⟨⟨h1, h2⟩, h3⟩, h4⟩ := h
    obtain ⟨a1, a2, a3, a4⟩ := visB_ok h1
    exact ps_setiD a1 a2 a3 a4 swaps_sub sw_none_sub (assign_sub h2) (sndE e X Wx v g tk h4).pe (sndE kk X Wx y g tk h3).pe
  | .newd i, X, Wx, st, g, b, tk, h => by
    unfold chkS at h
    split at h
    all_goals first | (exact absurd h Bool.false_ne_true) | (rename_i hq; cases hq; done) | skip
    rename_i x px p2 pos hq
    cases hq
    obtain ⟨a1, a2, a3⟩ := tgB_ok (fun x _ => b.fn x) h
    have e1 : execS F (.newd i) = fun ρ S => .nx (ρ.set i (some (.o S.length))) (S ++ [.dt []]) := by funext ρ S; rw [execS]
    rw [e1]
    exact ps_newdD g.nd a1 a2 a3
  | .putd i kk e, X, Wx, st, g, b, tk, h => by
    unfold chkS at h
    split at h
    all_goals first | (exact absurd h Bool.false_ne_true) | (rename_i hq; cases hq; done) | skip
    rename_i x px t pt y p4 p2 v pos hq
    cases hq
    simp only [Bool.and_eq_true, decide_eq_true_eq] at h
    obtain ⟨⟨⟨⟨⟨h1, rfl⟩, h2⟩, h3⟩, h4⟩, h5⟩ := h
    obtain ⟨a1, a2, a3, a4⟩ := visB_ok h1
    obtain ⟨b1, b2, b3, b4⟩ := freeB_ok g h2
    exact ps_putdD (by have := g.u70; omega) a1 a2 a3 a4 b1 b4 h3 (sndE e X Wx v g tk h5).pe (sndE kk X Wx y g tk h4).pe (by unfold swapsWith; cases v <;> rfl)
  | .newk i ks es, X, Wx, st, g, b, tk, h => by
    unfold chkS at h
    split at h
    all_goals first | (exact absurd h Bool.false_ne_true) | (rename_i hq; cases hq; done) | skip
    rename_i x px keys vals p2 pos hq
    cases hq
    simp only [Bool.and_eq_true, decide_eq_true_eq] at h
    obtain ⟨⟨⟨⟨h1, h2⟩, h3⟩, h4⟩, h5⟩ := h
    obtain ⟨a1, a2, a3⟩ := tgB_ok (fun x _ => b.fn x) h1
    obtain ⟨i1, i2, i3, i4⟩ := pps_D (pos := p2) g tk h3 h4 h5
    by_cases h0 : keys = []
    · subst h0
      have hk : ks = [] := by cases ks with
        | nil => rfl
        | cons a r => simp at i4
      subst hk
      have hv : vals = [] := by cases vals with
        | nil => rfl
        | cons a r => simp at i3
      subst hv
      have he : es = [] := by cases es with
        | nil => rfl
        | cons a r => simp at h5
      subst he
      exact ps_newk0 g.nd a1 a2 a3
    · exact ps_newkD g.nd a1 a2 a3 (by rfl) h5 (pe_disp i1 i2 i3 h0 (by rw [i4]; exact h2))
  | .putk i kk e, X, Wx, st, g, b, tk, h => by
    unfold chkS at h
    split at h
    all_goals first | (exact absurd h Bool.false_ne_true) | (rename_i hq; cases hq; done) | skip
    rename_i x px y p2 v pos hq
    cases hq
    simp only [Bool.and_eq_true] at h
    obtain ⟨⟨⟨h1, h2⟩, h3⟩, h4⟩ := h
    obtain ⟨a1, a2, a3, a4⟩ := visB_ok h1
    have e1 : execS F (.putk i kk e) = fun ρ S => Out.of ρ (evalE F e ρ S) fun v S1 => match grab S1 v with
      | some (d, S2) => match ρ[i]? with
        | some (some (.o n)) => Out.of ρ (evalE F kk ρ S2) fun kv S3 => putkO ρ n d kv S3
        | _ => .bad
      | none => .bad := by funext ρ S; rw [execS]; try rfl
    rw [e1]
    exact ps_putkD (by have := g.u70; omega) a1 a2 a3 a4 (sndE e X Wx v g tk h4).pe (sndE kk X Wx y g tk h3).pe (by unfold swapsWith; cases v <;> rfl)
  | .putt i kk e, X, Wx, st, g, b, tk, h => by
    unfold chkS at h
    split at h
    all_goals first | (exact absurd h Bool.false_ne_true) | (rename_i hq; cases hq; done) | skip
    rename_i x px es k4 p4 p3 v pos hq
    cases hq
    simp only [Bool.and_eq_true] at h
    obtain ⟨⟨h1, h2⟩, h3⟩ := h
    obtain ⟨a1, a2, a3, a4⟩ := visB_ok h1
    have e1 : execS F (.putt i kk e) = fun ρ S => Out.of ρ (evalE F e ρ S) fun v S1 => match grab S1 v with
      | some (d, S2) => match ρ[i]? with
        | some (some (.o n)) => Out.of ρ (evalEs F kk ρ S2) fun kv S3 => puttO ρ n d kv S3
        | _ => .bad
      | none => .bad := by funext ρ S; rw [execS]; try rfl
    rw [e1]
    exact ps_puttD (by have := g.u70; omega) a1 a2 a3 a4 (sndE e X Wx _ g tk h3).pe (sndEs kk X Wx _ g tk h2) (by unfold swapsWith; cases v <;> rfl)
  | .expr e, X, Wx, st, g, b, tk, h => by
    unfold chkS at h
    split at h
    all_goals first | (exact absurd h Bool.false_ne_true) | (rename_i hq; cases hq; done) | skip
    rename_i v pos hq
    cases hq
    simp only [Bool.and_eq_true] at h
    exact ps_exprD (sndE e X Wx v g tk h.2).pe (swaps_not h.1)
  | .ret e, X, Wx, st, g, b, tk, h => by
    unfold chkS at h
    split at h
    all_goals first | (exact absurd h Bool.false_ne_true) | (rename_i hq; cases hq; done) | skip
    rename_i v pos hq
    cases hq
    exact ps_retD (sndE e X Wx v g tk h).pe
  | .retN, X, Wx, st, g, b, tk, h => by
    unfold chkS at h
    split at h
    all_goals first | (exact absurd h Bool.false_ne_true) | (rename_i hq; cases hq; done) | skip
    exact ps_retND
  | .ife c a d, X, Wx, st, g, b, tk, h => by
    unfold chkS at h
    split at h
    all_goals first | (exact absurd h Bool.false_ne_true) | (rename_i hq; cases hq; done) | skip
    rename_i c' a' d' pos hq
    cases hq
    simp only [Bool.and_eq_true] at h
    obtain ⟨⟨h1, h2⟩, h3⟩ := h
    exact ps_ifD (sndE c X Wx c' g tk h1).pt (sndB a X Wx a' g b tk h2) (sndB d X Wx d' g b tk h3)
  | .for_ tg it body, X, Wx, st, g, b, tk, h => by
    unfold chkS at h
    split at h
    all_goals first | (exact absurd h Bool.false_ne_true) | (rename_i hq; cases hq; done) | skip
    rename_i tge iter body' pos hq
    cases hq
    simp only [Bool.and_eq_true] at h
    obtain ⟨⟨⟨h1, h2⟩, h3⟩, h4⟩ := h
    exact ps_forD b.pass g.calm (notSet_ok h1) (sndI it X Wx tg tge iter g tk (tgtB_tup h2) h3) (tgtB_ok g.calm g.nd (fun x _ => b.fn x) h2) (sndB body X Wx body' g b tk h4)
termination_by ms => sizeOf ms
theorem sndB : ∀ (ms : List MS) (X : Cx) (Wx : WX) (st : List Stmt), Gd G F xr k X → Bk X → Takes X Wx → chkB G X.N X.env.scope ms st = true → PSs X st (tDS X.K (wOf xr Wx) (execB F ms))
  | [], X, Wx, [], g, b, tk, h => pss_D0
  | s :: ss, X, Wx, t :: ts, g, b, tk, h => by
    rw [chkB, Bool.and_eq_true] at h
    exact pss_D (sndS s X Wx t g b tk h.1) (sndB ss X Wx ts g b tk h.2)
  | [], X, Wx, _ :: _, g, b, tk, h => by simp [chkB] at h
  | _ :: _, X, Wx, [], g, b, tk, h => by simp [chkB] at h
termination_by ms => sizeOf ms
end
end
end M

/-! defs, and all defs of a table by depth -/
namespace M
open PySem PySem.Spec PyProof.Rows L2

theorem Fr.take {H H' : Hp} {m m' : List Addr} {S S' : St'} (f : Fr H m S H' m' S') (hl : m.length = S.length) : Fr H m S H' m (S'.take S.length) := by
  refine ⟨fun a o e n => ⟨(f.1 a o e n).1, fun ⟨i, e1, o', e2, ne⟩ => (f.1 a o e n).2 ?_⟩, List.prefix_refl _⟩
  have hi : i < m.length := (List.getElem?_eq_some_iff.mp e1).1
  obtain ⟨t, rfl⟩ := f.2
  refine ⟨i, by rw [List.getElem?_append_left hi]; exact e1, o', ?_, ne⟩
  rw [List.getElem?_take_of_lt (by omega)] at e2
  exact e2
theorem StOk.take' {K : PySem.W.Frag} {H H' : Hp} {m m' : List Addr} {S S' : St'} (ok : StOk K H' m' S') (f : Fr H m S H' m' S') (hl : m.length = S.length) : StOk K H' m (S'.take S.length) := by
  obtain ⟨t, rfl⟩ := f.2
  have := ok.take S.length
  rwa [← hl, List.take_left, hl] at this
theorem Own.take {m m' : List Addr} {S' : St'} (hp : m <+: m') (n : Nat) {a : Addr} (h : Own m (S'.take n) a) : Own m' S' a := by
  obtain ⟨i, e1, o, e2, ne⟩ := h
  obtain ⟨t, rfl⟩ := hp
  refine ⟨i, by rw [List.getElem?_append_left (List.getElem?_eq_some_iff.mp e1).1]; exact e1, o, ?_, ne⟩
  by_cases hi : i < n
  · rw [List.getElem?_take_of_lt hi] at e2; exact e2
  · rw [List.getElem?_eq_none (by simp; omega)] at e2; cases e2
/-- what a module gives its defs -/
structure GdM (G : Glo) (F : FS) (xr : XR) (k : Nat) (P : Program) (w : World) (K : PySem.W.Frag) (mg : Str → Option Value) (base : Heap) : Prop where
  fns : ∀ f fi, G.fns[f]? = some fi → ∃ (a : Addr) (fd : FuncData), mg fi.name = some (.ref a) ∧ PySem.W.keepIn K (.ref a) = true ∧ BindK K fd fi ∧ FnOk P w K mg base (L2.CX P w) k a fd fi.ps (spOf K xr fi.ps.length (F f)) ∧ ∀ ds S, F f ds S ≠ .bad → ds.length = fi.ps.length
  free : ∀ x ∈ G.free, mg x = none
  consts : ∀ p ∈ G.consts, ∃ (u : Value) (v : V), mg p.1 = some u ∧ RelV v u ∧ ∀ H N, Rep K H N v p.2
  two : 2 ≤ k
  cls : ∀ p ∈ G.cls, ∃ (sf : Str) (fI : Addr) (fd : FuncData), ClsF K p.1 p.2 ∧ Mk K (He.ga K p.1) fI ∧ FnOk P w K mg base CX0 1 fI fd (sf :: p.2) (initSp K p.1 p.2) ∧ Binds K fd (sf :: p.2) [] ∧ mg p.1 = some (.ref (He.ga K p.1))
  gds : ∀ p ∈ G.gds, ∃ d, mg p.1 = some (.ref d) ∧ gdOk K w d p.2
/-- an exception's word outlives the call's own objects -/
def XrOk (xr : XR) : Prop := ∀ c p cls d H m m' S (n : Nat), m <+: m' → xr c p cls d H m' S → xr c p cls d H m (S.take n)
theorem GdM.at {G : Glo} {F : FS} {xr : XR} {k : Nat} {X : Cx} (g : GdM G F xr k X.prog X.w X.K X.mg X.base) (nd : X.N.Nodup) (calm : X.calm = true) (room : Room k X.A) (top : G.top = true → X.A.guards = some []) : Gd G F xr k X := ⟨nd, calm, room, g.fns, g.free, g.consts, g.two, g.cls, g.gds, top⟩
theorem start_rel {K : PySem.W.Frag} {H : Hp} {m : List Addr} {S : St'} {vs : List V} {ds : List SV} {N : List Str} (r : RepSs K H m S vs ds) : RelE K H m S (L2.start N vs) (ds.map some ++ List.replicate (N.length - ds.length) none) := by
  have hl := r.length
  refine ⟨by unfold L2.start; simp [hl], fun i d e => ?_⟩
  unfold L2.start
  by_cases hi : i < ds.length
  · rw [List.getElem?_append_left (by simpa using hi)] at e
    rw [List.getElem?_append_left (by simp; omega)]
    rw [List.getElem?_map] at e ⊢
    obtain ⟨d', e1, e2⟩ := Option.map_eq_some_iff.mp e
    cases e2
    clear e hl hi
    induction r generalizing i with
    | nil => simp at e1
    | cons q r ih =>
      cases i with
      | zero => cases e1; exact ⟨_, rfl, q⟩
      | succ i => exact ih i e1
  · rw [List.getElem?_append_right (by simp; omega)] at e
    rw [List.getElem?_replicate] at e
    split at e <;> cases e
mutual
/-- a value without the objects that go -/
theorem RepS.down {K : PySem.W.Frag} {H : Hp} {m m' : List Addr} {S' : St'} {n : Nat} (hp : m <+: m') (hl : m.length = n) : ∀ {u : V} {d : SV}, shut n d = true → RepS K H m' S' u d → RepS K H m (S'.take n) u d
  | u, .t d, _, h => by
    rw [RepS] at h ⊢
    exact Rep.mono (fun a o e q => ⟨e, fun (z : Own m (S'.take n) a) => q (Own.take hp _ z)⟩) h
  | u, .o i, hs, h => by
    rw [RepS] at h ⊢
    obtain ⟨a, e, r⟩ := h
    rw [shut] at hs
    obtain ⟨t, rfl⟩ := hp
    have hi : i < m.length := by rw [hl]; exact of_decide_eq_true hs
    rw [List.getElem?_append_left hi] at e
    exact ⟨a, e, r⟩
  | u, .kd kvs, _, h => by
    rw [RepS] at h ⊢
    obtain ⟨a, kv, rfl, h1, h2, h3, h4⟩ := h
    exact ⟨a, kv, rfl, h1, fun z => h2 (Own.take hp _ z), h3, Reps.mono (fun a o e q => ⟨e, fun (z : Own m (S'.take n) a) => q (Own.take hp _ z)⟩) h4⟩
  | u, .td kvs, _, h => by
    rw [RepS] at h ⊢
    obtain ⟨a, kv, rfl, h1, h2, h3, h4⟩ := h
    exact ⟨a, kv, rfl, h1, fun z => h2 (Own.take hp _ z), h3, Reps.mono (fun a o e q => ⟨e, fun (z : Own m (S'.take n) a) => q (Own.take hp _ z)⟩) h4⟩
  | u, .ins c ns fs, hs, h => by
    rw [RepS] at h ⊢
    rw [shut] at hs
    obtain ⟨a, dx, us, rfl, h1, h2, h3, h4, h5⟩ := h
    exact ⟨a, dx, us, rfl, h1, fun z => h2 (Own.take hp _ z), h3, h4, RepL.down hp hl hs h5⟩
theorem RepL.down {K : PySem.W.Frag} {H : Hp} {m m' : List Addr} {S' : St'} {n : Nat} (hp : m <+: m') (hl : m.length = n) : ∀ {us : List V} {ds : List SV}, shuts n ds = true → RepL K H m' S' us ds → RepL K H m (S'.take n) us ds
  | us, [], _, h => by rw [RepL] at h ⊢; exact h
  | us, d :: ds, hs, h => by
    rw [RepL] at h ⊢
    rw [shuts, Bool.and_eq_true] at hs
    obtain ⟨u, r, rfl, h1, h2⟩ := h
    exact ⟨u, r, rfl, RepS.down hp hl hs.1 h1, RepL.down hp hl hs.2 h2⟩
end
theorem fn_ok {G : Glo} {F : FS} {xr : XR} {k : Nat} {P : Program} {w : World} {K : PySem.W.Frag} {mg : Str → Option Value} {base : Heap} {x qual : Str} {params : Arguments} {body : List Stmt} {scope : Scope} {dvs : List V} {kws : List (Str × V)} {f : Addr} {fd : FuncData} {N ps : List Str} {fn : Fn}
    (FD : FunD K x qual params body scope dvs kws f fd) (Sc : FnScope N ps scope) (har : fn.ar = ps.length) (hsl : fn.sl = N.length) (hx : XrOk xr) (htop : G.top = false) (g : GdM G F xr k P w K mg base) (hchk : chkB G N scope fn.body body = true) :
    FnOk P w K mg base (L2.CX P w) (k + 1) f fd ps (spOf K xr ps.length (callF F fn)) := by
  refine FD.ok Sc (fun vs H Q E h => h.1) fun cdv A outer s H vs Q E hr hsp => ?_
  obtain ⟨X, hX⟩ : ∃ X, X = cxOf (L2.CX P w) P w K mg base N qual scope f cdv A outer s H E := ⟨_, rfl⟩
  have tk : Takes X (fun cls d _ H => E cls d H) := by subst hX; exact takes_of rfl rfl rfl rfl
  have bk : Bk X := by subst hX; exact ⟨Sc.kind, fun _ => rfl, passes_of rfl⟩
  have gd : Gd G F xr k X := by subst hX; exact GdM.at g Sc.nd rfl hr (fun z => by rw [htop] at z; cases z)
  have hc : chkB G X.N X.env.scope fn.body body = true := by subst hX; exact hchk
  refine ⟨_, by rw [← hX]; exact sndB fn.body X _ body gd bk tk hc, ?_⟩
  obtain ⟨hl, m, S, ds, ok, rs, h⟩ := hsp
  have hK : X.K = K := by subst hX; rfl
  rw [hK]
  refine ⟨m, S, ds.map some ++ List.replicate (N.length - ds.length) none, ok, start_rel rs, ?_⟩
  unfold callF at h
  have hdl : ds.length = fn.ar := by rw [← rs.length, hl, har]
  rw [if_pos hdl, hsl] at h
  have hml := ok.len
  revert h
  cases execB F fn.body (ds.map some ++ List.replicate (N.length - ds.length) none) S with
  | nx ρ S' => exact fun h H' m' σ' ok' f' r' => h H' .non (ok'.take' f' hml) (f'.take hml) .non
  | bk ρ S' => exact fun h => h.elim
  | ct ρ S' => exact fun h => h.elim
  | bad => exact fun h => h
  | exc c p ρ S' => exact fun h H' m' σ' ok' f' r' cls d hxr => h H' cls d (ok'.take' f' hml) (f'.take hml) (hx _ _ _ _ _ _ _ _ _ f'.2 hxr)
  | rt v S' =>
    intro h H' m' u ok' f' r'
    unfold finish at h
    have dn := fun (hs : shut S.length v = true) => RepS.down (H := H') f'.2 hml hs r'
    have gone : ∀ {a : Addr} {i : Nat}, m'[i]? = some a → ¬ i < S.length → ¬ Own m (S'.take S.length) a := by
      rintro a i e1 hi ⟨j, e2, o, e3, ne⟩
      have hj : j < m.length := (List.getElem?_eq_some_iff.mp e2).1
      obtain ⟨t, rfl⟩ := f'.2
      have e2' : (m ++ t)[j]? = some a := by rw [List.getElem?_append_left hj]; exact e2
      have hnd := ok'.nd
      have hji : j = i := (List.getElem?_inj (List.getElem?_eq_some_iff.mp e2').1 hnd).mp (e2'.trans e1.symm)
      omega
    have lower : ∀ {vs : List V} {ds : List D}, Reps K H' (Own m' S') vs ds → Reps K H' (Own m (S'.take S.length)) vs ds := fun r => Reps.mono (fun a o e n => ⟨e, fun (z : Own m (S'.take S.length) a) => n (Own.take f'.2 _ z)⟩) r
    cases v with
    | t d => exact h H' u (ok'.take' f' hml) (f'.take hml) (dn rfl)
    | kd d => exact h H' u (ok'.take' f' hml) (f'.take hml) (dn rfl)
    | td d => exact h H' u (ok'.take' f' hml) (f'.take hml) (dn rfl)
    | ins c ns fs =>
      simp only at h
      split at h
      · rename_i hs
        exact h H' u (ok'.take' f' hml) (f'.take hml) (dn (by rw [shut]; exact hs))
      · exact h.elim
    | o i =>
      simp only at h
      split at h
      · rename_i hi
        exact h H' u (ok'.take' f' hml) (f'.take hml) (dn (by rw [shut]; exact decide_eq_true hi))
      · rename_i hi
        rw [RepS] at r'
        obtain ⟨a, e1, rfl⟩ := r'
        split at h
        · rename_i xs hxs
          obtain ⟨vs, g1, g2⟩ := ok'.at_ i a _ e1 hxs
          refine h H' _ (ok'.take' f' hml) (f'.take hml) ?_
          rw [RepS]
          exact .lst ⟨.of g1, gone e1 hi⟩ (lower g2)
        · rename_i kvs hxs
          obtain ⟨kv, g1, g2, g3⟩ := ok'.at_ i a _ e1 hxs
          refine h H' _ (ok'.take' f' hml) (f'.take hml) ?_
          rw [RepS]
          exact ⟨a, kv, rfl, .inl g1, gone e1 hi, g2, lower g3⟩
        · rename_i kvs hxs
          obtain ⟨kv, g1, g2, g3, g4⟩ := ok'.at_ i a _ e1 hxs
          refine h H' _ (ok'.take' f' hml) (f'.take hml) ?_
          rw [RepS]
          exact ⟨a, kv, rfl, .inl g1, gone e1 hi, g2, lower g4⟩
        · exact h.elim
/-- a def of the table, and the text it is of -/
structure DfOk (G : Glo) (T : List Fn) (K : PySem.W.Frag) (mg : Str → Option Value) (i : Nat) (fi : FI) : Prop where
  ex : ∃ (a : Addr) (fd : FuncData) (x qual : Str) (params : Arguments) (body : List Stmt) (scope : Scope) (dvs : List V) (kws : List (Str × V)) (N : List Str) (fn : Fn),
    mg fi.name = some (.ref a) ∧ BindK K fd fi ∧ FunD K x qual params body scope dvs kws a fd ∧ FnScope N fi.ps scope ∧ T[i]? = some fn ∧ fn.ar = fi.ps.length ∧ fn.sl = N.length ∧ chkB G N scope fn.body body = true
theorem all_ok {G : Glo} {T : List Fn} {xr : XR} {P : Program} {w : World} {K : PySem.W.Frag} {mg : Str → Option Value} {base : Heap} (hx : XrOk xr) (htop : G.top = false) (hd : ∀ i fi, G.fns[i]? = some fi → DfOk G T K mg i fi) (free : ∀ x ∈ G.free, mg x = none)
    (consts : ∀ p ∈ G.consts, ∃ (u : Value) (v : V), mg p.1 = some u ∧ RelV v u ∧ ∀ H N, Rep K H N v p.2)
    (cls : ∀ p ∈ G.cls, ∃ (sf : Str) (fI : Addr) (fd : FuncData), ClsF K p.1 p.2 ∧ Mk K (He.ga K p.1) fI ∧ FnOk P w K mg base CX0 1 fI fd (sf :: p.2) (initSp K p.1 p.2) ∧ Binds K fd (sf :: p.2) [] ∧ mg p.1 = some (.ref (He.ga K p.1)))
    (gds : ∀ p ∈ G.gds, ∃ d, mg p.1 = some (.ref d) ∧ gdOk K w d p.2) : ∀ n, GdM G (FT T n) xr (n + 2) P w K mg base
  | 0 => ⟨fun i fi hi => by
      obtain ⟨a, fd, x, qual, params, body, scope, dvs, kws, N, fn, h1, h2, h3, h4, h5, h6, h7, h8⟩ := (hd i fi hi).ex
      refine ⟨a, fd, h1, h3.kp, h2, ⟨fun vs H Q E h => h.1, fun A outer s H args us vs Q E _ _ _ _ h => ?_⟩, fun ds S h => absurd rfl h⟩
      obtain ⟨_, m, S, ds, _, _, h⟩ := h
      exact h.elim, free, consts, Nat.le_refl _, cls, gds⟩
  | n + 1 => ⟨fun i fi hi => by
      have ih := all_ok (P := P) (w := w) (base := base) hx htop hd free consts cls gds n
      obtain ⟨a, fd, x, qual, params, body, scope, dvs, kws, N, fn, h1, h2, h3, h4, h5, h6, h7, h8⟩ := (hd i fi hi).ex
      have e : FT T (n + 1) i = callF (FT T n) fn := by funext ds S; simp only [FT, h5]
      refine ⟨a, fd, h1, h3.kp, h2, by rw [e]; exact fn_ok h3 h4 h6 h7 hx htop ih h8, fun ds S h => ?_⟩
      rw [e] at h
      unfold callF at h
      split at h
      · rename_i hq; rw [hq, h6]
      · exact absurd rfl h, free, consts, by omega, cls, gds⟩
end M

/-! the head: a law's defs, its module's constants -/
namespace M
open PySem PySem.Spec PyProof.Rows L2

/-! ### constants -/
mutual
theorem valB_ok {K : PySem.W.Frag} : ∀ (d : D) (u : Value), valB K d u = true → ∃ v, RelV v u ∧ ∀ H N, Rep K H N v d
  | .non, u, h => by cases u <;> first | exact ⟨.non, rfl, fun _ _ => .non⟩ | simp [valB] at h
  | .bl b, u, h => by
    cases u <;> simp [valB] at h
    subst h; exact ⟨.bl _, rfl, fun _ _ => .bl _⟩
  | .int b, u, h => by
    cases u <;> simp [valB] at h
    subst h; exact ⟨.int _, ⟨_, rfl⟩, fun _ _ => .int _⟩
  | .str b, u, h => by
    cases u <;> simp [valB] at h
    subst h; exact ⟨.str _, ⟨_, rfl⟩, fun _ _ => .str _⟩
  | .tup ds, u, h => by
    cases u with
    | ref a =>
      rw [valB] at h
      split at h
      · rename_i c od its n osl hq
        simp only [Bool.and_eq_true, decide_eq_true_eq] at h
        obtain ⟨⟨⟨rfl, hd⟩, h2⟩, h3⟩ := h
        obtain ⟨vs, h4, h5⟩ := valsB_ok ds its.toList h3
        exact ⟨.ref a, rfl, fun H N => .tup (.inr ⟨_, its, n, hq, rfl, rfl, h2, h4, Option.isNone_iff_eq_none.mp hd⟩) (h5 H N)⟩
      · cases h
    | _ => simp [valB] at h
  | .lst _, u, h => by cases u <;> simp [valB] at h
theorem valsB_ok {K : PySem.W.Frag} : ∀ (ds : List D) (us : List Value), valsB K ds us = true → ∃ vs, Vals vs us ∧ ∀ H N, Reps K H N vs ds
  | [], [], _ => ⟨[], .nil, fun _ _ => .nil⟩
  | [], _ :: _, h => by simp [valsB] at h
  | _ :: _, [], h => by simp [valsB] at h
  | d :: ds, u :: us, h => by
    rw [valsB, Bool.and_eq_true] at h
    obtain ⟨v, h1, h2⟩ := valB_ok d u h.1
    obtain ⟨vs, h3, h4⟩ := valsB_ok ds us h.2
    exact ⟨v :: vs, .cons h1 h3, fun H N => .cons (h2 H N) (h4 H N)⟩
end
theorem look_mem {a : Addr} {o : Obj} : ∀ {K : PySem.W.Frag}, K.lookup a = some o → (a, o) ∈ K
  | [], h => by cases h
  | (b, u) :: K, h => by
    rw [List.lookup_cons] at h
    split at h
    · rename_i e; cases h; rw [eq_of_beq e]; exact List.mem_cons_self
    · exact List.mem_cons_of_mem _ (look_mem h)
theorem noL_ok {K : PySem.W.Frag} (h : noL K = true) {a : Addr} {o : Obj} (e : K.lookup a = some o) : o.cls ≠ .type "list" := by
  have := List.all_eq_true.mp h _ (look_mem e)
  intro z
  simp [z] at this
theorem entB_ok {K : PySem.W.Frag} {z : Str} : ∀ {qs : List (Str × D)} {es : List DictEntry}, entB K qs es = true → es.any (·.refKey) = false ∧ (match es.find? (·.key.isStr z) with
    | some e => ∃ x, qs.lookup z = some x ∧ valB K x e.val = true
    | none => qs.lookup z = none)
  | [], [], _ => ⟨rfl, rfl⟩
  | [], _ :: _, h => by simp [entB] at h
  | _ :: _, [], h => by simp [entB] at h
  | (k, d) :: qs, e :: es, h => by
    rw [entB, Bool.and_eq_true, Bool.and_eq_true] at h
    obtain ⟨⟨h1, h2⟩, h3⟩ := h
    split at h1
    · rename_i y t hk
      have h1 := of_decide_eq_true h1
      obtain ⟨i1, i2⟩ := entB_ok (z := z) h3
      refine ⟨by rw [List.any_cons, i1]; simp [DictEntry.refKey, hk], ?_⟩
      by_cases hz : y = z
      · rw [List.find?_cons_of_pos (by rw [hk]; simp [Value.isStr, hz])]
        refine ⟨d, ?_, h2⟩
        rw [List.lookup_cons]
        have : (z == k) = true := by rw [← hz, h1]; exact beq_self_eq_true _
        rw [this]
      · rw [List.find?_cons_of_neg (by rw [hk]; simp [Value.isStr, hz])]
        have e2 : ((k, d) :: qs).lookup z = qs.lookup z := by
          rw [List.lookup_cons]
          have : (z == k) = false := beq_eq_false_iff_ne.mpr fun q => hz (by rw [h1]; exact q.symm)
          rw [this]
        rw [e2]
        exact i2
    · cases h1
theorem gdB_ok {K : PySem.W.Frag} {w : World} {p : Str × List (Str × D)} (h : gdB K p = true) (hk : ∃ es n, KDict K w (He.ga K p.1) es n) : gdOk K w (He.ga K p.1) p.2 := by
  refine ⟨hk, ?_⟩
  unfold gdB at h
  split at h
  · rename_i c o es n sl hl
    have key : ∀ z, PySem.W.nsIn K (He.ga K p.1) z = some ((es.toList.find? (·.key.isStr z)).map (·.val)) := fun z => by
      unfold PySem.W.nsIn
      rw [hl]
      simp only
      have := (entB_ok (z := z) h).1
      cases es.toList.find? (·.key.isStr z) with
      | none => simp only [this]; rfl
      | some e => rfl
    refine ⟨fun z => ⟨_, key z, ?_⟩, fun z x hx => ?_⟩
    · have := (entB_ok (z := z) h).2
      revert this
      cases es.toList.find? (·.key.isStr z) with
      | none => intro q; rw [q]; rfl
      | some e => rintro ⟨x, q, _⟩; rw [q]; rfl
    · have h2 := (entB_ok (z := z) h).2
      have h1 := key z
      revert h1 h2
      cases es.toList.find? (·.key.isStr z) with
      | none => intro q; rw [hx] at q; cases q
      | some e =>
        rintro ⟨y, q, hv⟩ h1
        rw [hx] at q; cases q
        obtain ⟨v, g1, g2⟩ := valB_ok _ _ hv
        exact ⟨e.val, v, h1, g1, g2⟩
  · cases h

/-! ### the table of a law -/
structure En where
  d : He.DefD
  fi : FI
  N : List Str
  f : Fn
  top : Bool := false
def scB (N ps : List Str) (sc : Scope) : Bool :=
  (match sc.kind with | .function => true | _ => false) && !sc.isCoroutine && !sc.isGenerator && decide N.Nodup && decide (N.take ps.length = ps) && (ps.all fun x => isK .local (sc.names.lookup x) || isK .cell (sc.names.lookup x)) && (sc.names.all fun y => !isK .free (some y.2))
theorem scB_ok {N ps : List Str} {sc : Scope} (h : scB N ps sc = true) : FnScope N ps sc := by
  unfold scB at h
  simp only [Bool.and_eq_true, Bool.not_eq_true', decide_eq_true_eq, List.all_eq_true, Bool.or_eq_true] at h
  obtain ⟨⟨⟨⟨⟨⟨h1, h2⟩, h3⟩, h4⟩, h5⟩, h6⟩, h7⟩ := h
  refine ⟨?_, h2, h3, h4, h5, fun x hx => (h6 x hx).elim (fun z => .inl (isK_eq z)) fun z => .inr (isK_eq z), fun y hy e => ?_⟩
  · split at h1
    · assumption
    · cases h1
  · have := h7 y hy
    rw [e] at this
    cases this
def dvB : He.Dv → D → Bool
  | .non, .non => true
  | .bl a, .bl b => a == b
  | .int i, .int j => decide (i = j)
  | .str x, .str y => decide (x = y)
  | _, _ => false
theorem dvB_ok {dv : He.Dv} {d : D} (h : dvB dv d = true) (K : PySem.W.Frag) : ∀ H N, Rep K H N (dv.v K) d := by
  intro H N
  unfold dvB at h
  split at h
  · exact .non
  · have := eq_of_beq h; subst this; exact .bl _
  · have := of_decide_eq_true h; subst this; exact .int _
  · have := of_decide_eq_true h; subst this; exact .str _
  · cases h
/-- a def's defaults: none, or that of its one keyword-only parameter -/
def kwB (e : En) : Bool := match e.fi.kw, e.d.kwd with
  | none, [] => true
  | some p, [(k, dv)] => decide (k = p.1) && dvB dv p.2
  | _, _ => false
def enB (G : Glo) (e : En) : Bool := e.d.dfl.isEmpty && kwB e && decide (e.d.at_ = (e.fi.name, none)) && scB e.N e.fi.ps e.d.scope && decide (e.f.ar = e.fi.ps.length) && decide (e.f.sl = e.N.length) && chkB { G with top := e.top } e.N e.d.scope e.f.body e.d.body
def BnA (e : En) : Prop := ∀ (kV doc pm : Value) (an : Option Addr) (cdv ct : Value) (us : List Value), us.length = e.fi.ps.length → bindArgs (PySem.W.fnOf e.d.name e.d.qual e.d.params e.d.body e.d.scope .none kV doc pm an cdv ct) ⟨us, []⟩ = pure (e.fi.ps.zip us)
def BnOk (e : En) : Prop := match e.fi.kw with
  | none => BnA e
  | some p => 0 < e.fi.ps.length ∧ (∀ (D : Addr) (doc pm : Value) (an : Option Addr) (cdv ct : Value) (us ks : List Value), us.length + 1 = e.fi.ps.length → ks.length = 1 →
      KwChain D ([p.1].zip ks) (bindArgs (PySem.W.fnOf e.d.name e.d.qual e.d.params e.d.body e.d.scope .none (.ref D) doc pm an cdv ct) ⟨us, []⟩) (e.fi.ps.zip (us ++ ks))) ∧
    ∀ (D : Addr) (doc pm : Value) (an : Option Addr) (cdv ct : Value) (us ws : List Value), us.length + 1 = e.fi.ps.length → ws.length = 1 →
      bindArgs (PySem.W.fnOf e.d.name e.d.qual e.d.params e.d.body e.d.scope .none (.ref D) doc pm an cdv ct) ⟨us, [p.1].zip ws⟩ = pure (e.fi.ps.zip (us ++ ws))
theorem bindK_of {K : PySem.W.Frag} {e : En} {f : Addr} {fd : FuncData} (F : FunD K e.d.name e.d.qual e.d.params e.d.body e.d.scope [] (e.d.kws K) f fd) (hk : kwB e = true) (hb : BnOk e) : BindK K fd e.fi := by
  unfold BindK
  unfold BnOk at hb
  unfold kwB at hk
  cases hq : e.fi.kw with
  | none =>
    rw [hq] at hb
    exact F.bindsN hb
  | some p =>
    rw [hq] at hb hk
    obtain ⟨h0, h1, h2⟩ := hb
    split at hk
    · rename_i z _; cases z
    · rename_i q k dv z1 z2
      cases z1
      simp only [Bool.and_eq_true, decide_eq_true_eq] at hk
      obtain ⟨rfl, h4⟩ := hk
      have hkw : e.d.kws K = [(p.1, dv.v K)] := by unfold He.DefD.kws; rw [z2]; rfl
      rw [hkw] at F
      obtain ⟨ds, r1, r2⟩ := F.binds0 (ps := e.fi.ps) (e.fi.ps.length - 1) (by simp) (by simp; omega) fun D doc pm an cdv ct us ks l1 l2 => h1 D doc pm an cdv ct us ks (by omega) l2
      obtain ⟨mv, r3⟩ := F.kbinds0 (ps := e.fi.ps) (e.fi.ps.length - 1) [p.1] [] (fun us mv ws => us ++ ws) (by simp) (by simp) (fun a _ c => a.append c) fun D doc pm an cdv ct us mv ws l1 l2 l3 => by
        cases mv with
        | nil => exact h2 D doc pm an cdv ct us ws (by omega) l3
        | cons _ _ => simp at l2
      cases r1 with
      | cons ru rn =>
        cases rn
        exact ⟨h0, ⟨_, _, ru, dvB_ok h4 K, r2⟩, r3⟩
    · cases hk
def cnB (c : Cn) : Bool := c.d.dfl.isEmpty && c.d.kwd.isEmpty && decide (c.d.at_ = (c.name, some ("__init__" : Str))) && scB (c.sf :: c.ns) (c.sf :: c.ns) c.d.scope && initB (c.sf :: c.ns) c.d.scope 1 c.ns c.d.body && decide (c.ns.length < 900)
def CnBn (c : Cn) : Prop := ∀ (kV doc pm : Value) (an : Option Addr) (cdv ct : Value) (us : List Value), us.length = (c.sf :: c.ns).length → bindArgs (PySem.W.fnOf c.d.name c.d.qual c.d.params c.d.body c.d.scope .none kV doc pm an cdv ct) ⟨us, []⟩ = pure ((c.sf :: c.ns).zip us)
/-- a module: its defs, names that are not its own, constants, classes, dicts -/
structure Md where
  es : List En
  free : List Str
  cs : List (Str × D)
  cl : List Cn := []
  gd : List (Str × List (Str × D)) := []
def Md.glo (M : Md) : Glo := ⟨(M.es.takeWhile fun e => !e.top).map (·.fi), M.free, M.cs, M.cl.map fun c => (c.name, c.ns), M.gd, false⟩
theorem tw_get {α : Type} {p : α → Bool} : ∀ {l : List α} {i : Nat} {e : α}, (l.takeWhile p)[i]? = some e → l[i]? = some e ∧ p e = true
  | [], i, e, h => by simp at h
  | a :: l, i, e, h => by
    rw [List.takeWhile_cons] at h
    split at h
    · rename_i hp
      cases i with
      | zero => simp at h; subst h; exact ⟨rfl, hp⟩
      | succ i => exact tw_get (l := l) (by simpa using h)
    · simp at h
def Md.fa (M : Md) : List He.Fa := M.es.map (fun e => .glo e.fi.name) ++ M.free.map .free ++ M.cl.flatMap cnFa ++ M.gd.map (fun p => .glo p.1)
def Md.ds (M : Md) : List He.DefD := M.es.map (·.d) ++ M.cl.map (·.d)
def Md.ts (M : Md) : List He.Tab := M.gd.map fun p => ((fun K => He.ga K p.1), p.2.map (·.1))
def Md.ex (M : Md) (K : PySem.W.Frag) : Bool := noL K && M.cs.all (conB K) && M.gd.all (gdB K)
def Md.ok (M : Md) : Bool := M.es.all (enB M.glo) && M.cl.all cnB
abbrev hkOf (n : Nat) (M : Md) : PySem.W.Hook := He.hookX n M.fa M.ds M.ts [] M.ex
theorem law_gd {M : Md} {xr : XR} {P : Program} {w : World} {h : Heap} {K : PySem.W.Frag} {mg : Str → Option Value} (hx : XrOk xr) (hB : M.ok = true) (hb : ∀ e ∈ M.es, BnOk e) (hcb : ∀ c ∈ M.cl, CnBn c)
    (X : K.In h) (Gn : h.Ns mainGlobals mg) (c : He.SaysX M.fa M.ds M.ts [] M.ex w h K) (base : Heap) (n : Nat) : GdM M.glo (FT (M.es.map (·.f)) n) xr (n + 2) P w K mg base := by
  have cd : He.SaysD M.fa M.ds K := c.t.d
  have hm := c.more
  unfold Md.ex at hm
  rw [Bool.and_eq_true, Bool.and_eq_true] at hm
  unfold Md.ok at hB
  rw [Bool.and_eq_true] at hB
  refine all_ok hx rfl (fun i fi hi => ?_) (fun x hx => ?_) (fun p hp => ?_) (fun p hp => ?_) (fun p hp => ?_) n
  · obtain ⟨e, he, htp, rfl⟩ : ∃ e, M.es[i]? = some e ∧ e.top = false ∧ e.fi = fi := by
      have : ((M.es.takeWhile fun e => !e.top).map (·.fi))[i]? = some fi := hi
      rw [List.getElem?_map] at this
      obtain ⟨e, h1, h2⟩ := Option.map_eq_some_iff.mp this
      obtain ⟨h3, h4⟩ := tw_get h1
      exact ⟨e, h3, by simpa using h4, h2⟩
    have hmem := List.mem_of_getElem? he
    have hE := List.all_eq_true.mp hB.1 e hmem
    unfold enB at hE
    simp only [Bool.and_eq_true, decide_eq_true_eq, List.isEmpty_iff] at hE
    obtain ⟨⟨⟨⟨⟨⟨h1, h2⟩, h3⟩, h4⟩, h5⟩, h6⟩, h7⟩ := hE
    rw [htp] at h7
    obtain ⟨fd, F⟩ := cd.defs (d := e.d) (List.mem_append_left _ (List.mem_map.mpr ⟨e, hmem, rfl⟩))
    have hg := He.glo_ok X Gn (cd.facts (f := .glo e.fi.name) (List.mem_append_left _ (List.mem_append_left _ (List.mem_append_left _ (List.mem_map.mpr ⟨e, hmem, rfl⟩)))))
    have ha : He.fAd K e.d.at_ = He.ga K e.fi.name := by rw [h3]; rfl
    have hd : e.d.dvs K = [] := by unfold He.DefD.dvs; rw [h1]; rfl
    rw [ha, hd] at F
    exact ⟨⟨_, fd, _, _, _, _, _, _, _, e.N, e.f, hg, bindK_of F h2 (hb e hmem), F, scB_ok h4, by rw [List.getElem?_map, he]; rfl, h5, h6, h7⟩⟩
  · exact He.free_ok X Gn (cd.facts (f := .free x) (List.mem_append_left _ (List.mem_append_left _ (List.mem_append_right _ (List.mem_map.mpr ⟨x, hx, rfl⟩)))))
  · have := List.all_eq_true.mp hm.1.2 p hp
    unfold conB at this
    split at this
    · rename_i u hu
      obtain ⟨v, h1, h2⟩ := valB_ok _ _ this
      exact ⟨u, v, PySem.W.mg_of X Gn hu, h1, h2⟩
    · cases this
  · obtain ⟨q, hq, rfl⟩ := List.mem_map.mp hp
    have hC := List.all_eq_true.mp hB.2 q hq
    unfold cnB at hC
    simp only [Bool.and_eq_true, decide_eq_true_eq, List.isEmpty_iff] at hC
    obtain ⟨⟨⟨⟨⟨h1, h2⟩, h3⟩, h4⟩, h5⟩, h6⟩ := hC
    have fa : ∀ {f : He.Fa}, f ∈ cnFa q → f.ok K = true := fun hf => cd.facts (List.mem_append_left _ (List.mem_append_right _ (List.mem_flatMap.mpr ⟨q, hq, hf⟩)))
    have hcl : ClsF K q.name q.ns := ⟨He.cls_ok (fa (by simp [cnFa])), fun f hf => He.noat_ok (fa (by simp [cnFa, hf]))⟩
    obtain ⟨fd, F⟩ := cd.defs (d := q.d) (List.mem_append_right _ (List.mem_map.mpr ⟨q, hq, rfl⟩))
    have ha : He.fAd K q.d.at_ = He.ma K (He.ga K q.name) "__init__" := by rw [h3]; rfl
    have hd : q.d.dvs K = [] := by unfold He.DefD.dvs; rw [h1]; rfl
    rw [ha, hd] at F
    exact ⟨q.sf, _, fd, hcl, He.mkr_ok (fa (by simp [cnFa])), init_ok F (scB_ok h4) hcl h5 h6, F.bindsN (hcb q hq), He.glo_ok X Gn (fa (by simp [cnFa]))⟩
  · have hp' : p ∈ M.gd := hp
    obtain ⟨i, hi, e⟩ := List.mem_iff_getElem.mp hp'
    have ht : M.ts[i]? = some ((fun K => He.ga K p.1), p.2.map (·.1)) := by
      unfold Md.ts
      rw [List.getElem?_map, List.getElem?_eq_getElem hi, e]; rfl
    exact ⟨_, He.glo_ok X Gn (cd.facts (f := .glo p.1) (List.mem_append_right _ (List.mem_map.mpr ⟨p, hp', rfl⟩))), gdB_ok (List.all_eq_true.mp hm.2 p hp') (c.t.tab i ht)⟩
def xr0 : XR := fun _ _ _ _ _ _ _ => False
theorem xr0_ok : XrOk xr0 := fun _ _ _ _ _ _ _ _ _ _ h => h
theorem reps_intl {K : PySem.W.Frag} {H : Hp} {N : Addr → Prop} : ∀ ns : List Int, Reps K H N (ns.map V.int) (ns.map D.int)
  | [] => .nil
  | n :: ns => .cons (.int n) (reps_intl ns)
/-- a def's call, at one place of the stack -/
theorem def_run {CX : CXT} {P : Program} {w : World} {K : PySem.W.Frag} {mg : Str → Option Value} {base : Heap} {k : Nat} {A : Around} {outer : List Env} {s : Shared} {H : Hp} {x qual : Str} {params : Arguments} {body : List Stmt} {scope : Scope} {dvs : List V} {kws : List (Str × V)} {f : Addr} {fd : FuncData} {N ps : List Str}
    {args : Args} {us : List Value} {vs : List V} {Q : VK} {E : XK} (FD : FunD K x qual params body scope dvs kws f fd) (S : FnScope N ps scope) (hr : Room (k + 1) A) (e0 : Env0 P w K mg base A outer s H) (hb : BindsTo s fd args (ps.zip us)) (r : Vals vs us) (hl : vs.length = ps.length)
    (ht : ∀ cdv, ∃ t, PSs (cxOf CX P w K mg base N qual scope f cdv A outer s H E) body t ∧ t { nx := fun _ H' => Q .non H', rt := Q } (L2.start N vs) H) :
    codeAny (model P w) A (.call (.ref f) args) (CR CX outer P w H s Q E) s := by
  obtain ⟨oc, od, dV, kV, doc, pm, an, cdv, ct, osl, rfl, lk, hcd, _, _⟩ := FD.ex
  obtain ⟨t, h1, h2⟩ := ht cdv
  have keep := fun b o e => (e0.bs b o e).1
  have KX : K.In s.heap := e0.mod.kin.keeps keep
  refine codeAny_call_function hr.depth (KX _ _ lk) rfl S.co S.gen rfl (PySem.W.codeRec_of KX hcd) (hb _ _ _ _ (wpAny_newFunctionEnv_cells S.kind (fun y hy => ?_) fun env he s1 x => ?_))
  · exact (S.par y.1 (List.of_mem_zip (a := y.1) (b := y.2) hy).1).imp id fun q => ⟨q, PySem.W.cellsFrom_some _ _ _ (.inl q)⟩
  · subst he
    refine ⟨(e0.mod.nolimit.keeps keep).keeps x.toInCall.keep, codeAny_func (wpAny_mono (h1.run [] s1 _ H _ (inv_start S hr.hd e0 hl r x) h2) (fun fl s' hs => ?_) fun e s' hs => hs)⟩
    cases fl with
    | ret u => obtain ⟨v, σ', H', J, rv, q⟩ := hs; exact ⟨v, H', J.os, J.bare, J.base, J.hok, rv, q⟩
    | next => obtain ⟨σ', H', J, q⟩ := hs; exact ⟨.non, H', J.os, J.bare, J.base, J.hok, rfl, q⟩
    | brk => obtain ⟨_, _, _, q⟩ := hs; exact q.elim
    | cont => obtain ⟨_, _, _, q⟩ := hs; exact q.elim
/-- the law's call at the claim's own place: no repr is under way there -/
def LawRun (P : Program) (w : World) (fa : Addr) (h : Heap) : Prop := ∀ (s₁ : Shared) (mb : Str → Option Value) (a : Addr) (vs : List Value) (ns : List Int), s₁.heap = h → h.Ns builtinsNs mb → (∀ x : Str, x ≠ "__name__" → mb x = bootBuiltins x) → h.NoLimit → s₁.gens = #[] →
  h.get? a = some { cls := .type "list", data := .seq vs.toArray } → IntsAre vs ns → ns.length ≤ 63 →
  codeAny (model P w) callerA (.call (.ref fa) ⟨[.ref a], []⟩) (fun r s' => r = .ok (.ret (.bool true)) ∧ OldK s₁.heap s'.heap ∧ s'.os = s₁.os ∧ AllBare s'.gens) s₁
theorem law_end {M : Md} {P : Program} {w : World} {h : Heap} {mg : Str → Option Value} {fa : Addr} {i n : Nat} {e : En} (hB : M.ok = true) (hb : ∀ e ∈ M.es, BnOk e) (hcb : ∀ c ∈ M.cl, CnBn c)
    (hi : M.es[i]? = some e) (hkw : e.fi.kw = none) (hps : e.fi.ps = [("script" : Str)]) (hr : Room (n + 3) callerA) (Y : (hkOf 4 M).says w h) (Gn : h.Ns mainGlobals mg) (hmg : mg e.fi.name = some (.ref fa))
    (law : ∀ ns : List Int, ns.length ≤ 63 → ∃ S', FT (M.es.map (·.f)) (n + 1) i [.t (.lst (ns.map .int))] [] = .ok (.t (.bl true)) S') : LawRun P w fa h := by
  obtain ⟨K, KX, c⟩ := Y
  have cd : He.SaysD M.fa M.ds K := c.t.d
  have hmem := List.mem_of_getElem? hi
  have hB' := hB
  unfold Md.ok at hB'
  rw [Bool.and_eq_true] at hB'
  have hE := List.all_eq_true.mp hB'.1 e hmem
  unfold enB at hE
  simp only [Bool.and_eq_true, decide_eq_true_eq, List.isEmpty_iff] at hE
  obtain ⟨⟨⟨⟨⟨⟨h1, h2⟩, h3⟩, h4⟩, h5⟩, h6⟩, h7⟩ := hE
  obtain ⟨fd, F⟩ := cd.defs (d := e.d) (List.mem_append_left _ (List.mem_map.mpr ⟨e, hmem, rfl⟩))
  have hg := He.glo_ok KX Gn (cd.facts (f := .glo e.fi.name) (List.mem_append_left _ (List.mem_append_left _ (List.mem_append_left _ (List.mem_map.mpr ⟨e, hmem, rfl⟩)))))
  have ha : He.fAd K e.d.at_ = He.ga K e.fi.name := by rw [h3]; rfl
  have hd : e.d.dvs K = [] := by unfold He.DefD.dvs; rw [h1]; rfl
  rw [ha, hd] at F
  have e1 := hmg.symm.trans hg
  cases e1
  have hbe := hb e hmem
  unfold BnOk at hbe
  rw [hkw] at hbe
  have b := FunD.bindsA (ps := e.fi.ps) F hbe
  have hT : (M.es.map (·.f))[i]? = some e.f := by rw [List.getElem?_map, hi]; rfl
  have Sc := scB_ok h4
  intro s₁ mb a vs ns hh hnb hbb hlim hgn hobj hints hlen
  subst hh
  have hm := c.more
  unfold Md.ex at hm
  rw [Bool.and_eq_true, Bool.and_eq_true] at hm
  -- the script is none of the module's own objects
  have hKa : K.lookup a = none := by
    cases q : K.lookup a with
    | none => rfl
    | some o =>
      have z := KX a o q
      rw [hobj] at z; cases z
      exact absurd rfl (noL_ok hm.1.1 q)
  obtain ⟨ob, hob⟩ : ∃ ob : Obj, ob = { cls := .type "list", data := .seq vs.toArray } := ⟨_, rfl⟩
  rw [← hob] at hobj
  obtain ⟨H, hH⟩ : ∃ H : Hp, H = upd (fun _ => none) a (.frz ob (.lst (ns.map V.int))) := ⟨_, rfl⟩
  have at_ : H a = some (.frz ob (.lst (ns.map V.int))) := by rw [hH]; exact upd_same
  have off : ∀ c, c ≠ a → H c = none := fun c hc => by rw [hH, upd_ne hc]
  have one : ∀ c u, H c = some u → c = a := fun c u z => Classical.byContradiction fun hc => by rw [off c hc] at z; cases z
  have hok : HOk P w H s₁.heap := fun c u z => by
    cases one c u z
    rw [at_] at z; cases z
    exact ⟨hobj, by rw [List.length_map]; exact Nat.le_trans hlen (by decide), vs, 0, vals_ints hints, by rw [hobj, hob]⟩
  have low : ∀ {c : Addr} {o : Obj}, s₁.heap.get? c = some o → c ≠ a → (hidT s₁.heap H).get? c = some o := fun z hc => hidT_get z (off _ hc)
  have nsK : ∀ {c : Addr} {m : Str → Option Value}, s₁.heap.Ns c m → (hidT s₁.heap H).Ns c m := fun {c m} ⟨o, es, ep, z, dt, r⟩ => ⟨o, es, ep, low z (fun hc => by
    subst hc
    rw [hobj] at z; cases z
    rw [hob] at dt; cases dt), dt, r⟩
  have hKb : K.In (hidT s₁.heap H) := fun c o z => low (KX c o z) fun hc => by subst hc; rw [hKa] at z; cases z
  have hM : Mod K mg (hidT s₁.heap H) := ⟨hKb, nsK Gn, ⟨mb, nsK hnb, hbb⟩, let ⟨mc, z1, z2⟩ := hlim; ⟨mc, nsK z1, z2⟩⟩
  have e0 : Env0 P w K mg (hidT s₁.heap H) callerA [] s₁ H := ⟨rfl, hM, fun c o z => of_hidT z, Nat.le_of_eq (hidT_size _ _), trivial, fun c hc => absurd (show c ∈ ([] : List Addr) from hc) (by simp), hok, .of_eq hgn⟩
  have gm := law_gd (P := P) xr0_ok hB hb hcb KX Gn c (hidT s₁.heap H) n
  refine codeAny_mono (def_run (CX := L2.CX P w) (k := n + 2) (Q := fun v _ => v = .bl true) (E := fun _ _ _ => False) (us := [.ref a]) (vs := [.ref a]) F Sc hr e0 (b s₁ [.ref a] (by rw [hps]; rfl)) (.cons rfl .nil) (by rw [hps]; rfl) fun cdv => ?_) fun r s' z => ?_
  · obtain ⟨X, hX⟩ : ∃ X, X = cxOf (L2.CX P w) P w K mg (hidT s₁.heap H) e.N e.d.qual e.d.scope (He.ga K e.fi.name) cdv callerA [] s₁ H (fun _ _ _ => False) := ⟨_, rfl⟩
    have tk : Takes X (fun cls d _ H => False) := by subst hX; exact takes_of rfl rfl rfl rfl
    have bk : Bk X := by subst hX; exact ⟨Sc.kind, fun _ => rfl, passes_of rfl⟩
    have gd : Gd { M.glo with top := e.top } (FT (M.es.map (·.f)) n) xr0 (n + 2) X := by
      subst hX
      exact ⟨Sc.nd, rfl, hr.deeper _, gm.fns, gm.free, gm.consts, gm.two, gm.cls, gm.gds, fun _ => rfl⟩
    have hc : chkB { M.glo with top := e.top } X.N X.env.scope e.f.body e.d.body = true := by subst hX; exact h7
    refine ⟨_, by rw [← hX]; exact sndB e.f.body X _ e.d.body gd bk tk hc, ?_⟩
    have hK : X.K = K := by subst hX; rfl
    rw [hK]
    obtain ⟨S', hS'⟩ := law ns hlen
    simp only [FT, hT] at hS'
    unfold callF at hS'
    have har : e.f.ar = 1 := by rw [h5, hps]; rfl
    rw [if_pos (by rw [har]; rfl), h6] at hS'
    have rs : RepSs K H [] [] [V.ref a] [.t (.lst (ns.map .int))] := by
      refine .cons ?_ .nil
      rw [RepS]
      exact .lst ⟨.inr ⟨ob, at_⟩, fun ⟨i, z, _⟩ => by simp at z⟩ (reps_intl ns)
    refine ⟨[], [], _, ⟨rfl, .nil, fun i a o z => by simp at z⟩, start_rel rs, ?_⟩
    revert hS'
    cases execB (FT (M.es.map (·.f)) n) e.f.body _ [] with
    | nx ρ S1 => intro z; cases z
    | bk ρ S1 => intro z; cases z
    | ct ρ S1 => intro z; cases z
    | bad => intro z; cases z
    | exc c p ρ S1 => intro z; cases z
    | rt v S1 =>
      intro z H' m' u ok' f' r'
      cases v with
      | t d =>
        cases z
        rw [RepS] at r'
        cases r'
        rfl
      | o j =>
        simp only [finish] at z
        split at z
        · cases z
        · split at z <;> cases z
      | kd _ => cases z
      | td _ => cases z
      | ins _ _ fs =>
        simp only [finish] at z
        split at z <;> cases z
  · cases r with
    | error x => obtain ⟨_, _, _, _, _, _, _, _, _, _, _, _, q⟩ := z; exact q.elim
    | ok fl =>
      cases fl with
      | next => exact z.elim
      | brk => exact z.elim
      | cont => exact z.elim
      | ret u =>
        obtain ⟨v, H', os, bare, un, hok', r', q⟩ := z
        have q' : v = .bl true := q
        subst q'
        obtain rfl : u = Value.bool true := r'
        refine ⟨rfl, OldK.of_keep fun c o z => ?_, os, bare⟩
        by_cases hc : c = a
        · subst hc
          have z2 := hok' c _ (un.frzs c ob _ at_)
          rw [hobj] at z; cases z
          exact z2.1
        · exact un.keep c o z (off c hc) (fun y => absurd (show c ∈ ([] : List Addr) from y) (by simp)) (by simp)
/-- a law's walk -/
theorem walk_ofM {l : PySem.W.OpenLaw} {q : Program} {loose : List Str} {XP : (Str → Option Value) → Heap → Prop} {YP : World → Heap → Prop} {d : DefRec}
    (hn : l.most = some 63) (hdf : d.params.defaults = [])
    (F : ∀ (w : World) (mg : Str → Option Value) (fa : Addr) (h : Heap), YP w h → h.Ns mainGlobals mg → mg d.name = some (.ref fa) → LawRun l.prog w fa h) :
    PySem.W.WalkO q loose XP YP l.row.toRowW d [] (fun f vs => PySem.call f vs) := by
  refine Att.attach_call hn hdf fun w s₀ s₁ mg mb fa o pm cd doc a vs ns G Y ho hd hcd hmg hobj hints hlen hg => ?_
  exact F w mg fa _ Y G.T.g hmg s₁ mb a vs ns rfl G.T.b G.T.builtins G.T.nolimit hg hobj hints hlen
end M

/-! runs of the small language, loops by invariants -/
namespace M
open PySem PySem.Spec PyProof.Rows L2

theorem FT_at {T : List Fn} {i : Nat} {f : Fn} (h : T[i]? = some f) (n : Nat) (vs : List SV) (S : St') : FT T (n + 1) i vs S = callF (FT T n) f vs S := by simp only [FT, h]
theorem callF_rt {F : FS} {f : Fn} {vs : List SV} {S S' : St'} {d : D} (hl : vs.length = f.ar) (h : execB F f.body (vs.map some ++ List.replicate (f.sl - vs.length) none) S = .rt (.t d) S') (hS : S'.take S.length = S) : callF F f vs S = .ok (.t d) S := by
  unfold callF
  rw [if_pos hl, h]
  simp only [finish, hS]
/-- a for over fixed data, by what holds ahead of the items left -/
theorem forFix_run {tg : Tg} {body : Ev → St' → Out} (I : List D → Ev → St' → Prop)
    (step : ∀ d ds ρ S, I (d :: ds) ρ S → ∃ ρ' ρ2 S2, bindTg tg d ρ = some ρ' ∧ (body ρ' S = .nx ρ2 S2 ∨ body ρ' S = .ct ρ2 S2) ∧ I ds ρ2 S2) :
    ∀ {xs : List D} {ρ : Ev} {S : St'}, I xs ρ S → ∃ ρ' S', forFix tg body xs ρ S = .nx ρ' S' ∧ I [] ρ' S'
  | [], ρ, S, h => ⟨ρ, S, rfl, h⟩
  | d :: ds, ρ, S, h => by
    obtain ⟨ρ', ρ2, S2, h1, h2, h3⟩ := step d ds ρ S h
    obtain ⟨ρ3, S3, h4, h5⟩ := forFix_run I step h3
    refine ⟨ρ3, S3, ?_, h5⟩
    unfold forFix
    rw [h1]
    rcases h2 with h2 | h2 <;> simp only [h2, Out.turn_nx, Out.turn_ct, h4]
/-- a comprehension over fixed data, its parts leaving the objects alone -/
theorem lcFix_map {tg : Tg} {c : Ev → St' → R Bool} {e : Ev → St' → R SV} {ρ : Ev} {S : St'} {b : D → Bool} {v : D → D} : ∀ {xs : List D} {acc : List D},
    (∀ d ∈ xs, ∀ acc, ∃ ρ', bindTg tg d ρ = some ρ' ∧ c ρ' (S ++ [.lst acc]) = .ok (b d) (S ++ [.lst acc]) ∧ (b d = true → e ρ' (S ++ [.lst acc]) = .ok (.t (v d)) (S ++ [.lst acc]))) →
    acc.length + xs.length ≤ sizeLine → lcFix tg c e S.length xs ρ (S ++ [.lst acc]) = .ok (acc ++ (xs.filter b).map v) S
  | [], acc, _, _ => by simp [lcFix, lcEnd]
  | d :: ds, acc, h, hl => by
    obtain ⟨ρ', h1, h2, h3⟩ := h d List.mem_cons_self acc
    simp only [List.length_cons] at hl
    unfold lcFix lcTurn
    rw [h1]
    simp only [h2, R.nox_ok, R.bind_ok]
    cases hb : b d with
    | true =>
      simp only [h3 hb, R.nox_ok, R.bind_ok, lcPut, grab, if_true]
      rw [show (S ++ [O.lst acc])[S.length]? = some (.lst acc) by simp]
      have hlt : acc.length < sizeLine := by omega
      simp only [hlt, if_true, R.bind_ok]
      rw [show (S ++ [O.lst acc]).set S.length (.lst (acc ++ [v d])) = S ++ [.lst (acc ++ [v d])] by simp]
      rw [lcFix_map (fun d' hd' => h d' (List.mem_cons_of_mem _ hd')) (by simp; omega)]
      simp [List.filter_cons, hb]
    | false =>
      simp only [Bool.false_eq_true, if_false, R.bind_ok]
      rw [lcFix_map (fun d' hd' => h d' (List.mem_cons_of_mem _ hd')) (by omega)]
      simp [List.filter_cons, hb]
/-- .. over an object that stays -/
theorem lcLive_map {tg : Tg} {c : Ev → St' → R Bool} {e : Ev → St' → R SV} {ρ : Ev} {S : St'} {b : D → Bool} {v : D → D} {i : Nat} {ys : List D} (hi : S[i]? = some (.lst ys))
    (h : ∀ d ∈ ys, ∀ acc, ∃ ρ', bindTg tg d ρ = some ρ' ∧ c ρ' (S ++ [.lst acc]) = .ok (b d) (S ++ [.lst acc]) ∧ (b d = true → e ρ' (S ++ [.lst acc]) = .ok (.t (v d)) (S ++ [.lst acc]))) :
    ∀ (n j : Nat) (acc : List D), j + n = ys.length → acc.length + n ≤ sizeLine → lcLive tg c e S.length i n j ρ (S ++ [.lst acc]) = .ok (acc ++ ((ys.drop j).filter b).map v) S
  | 0, j, acc, hj, hl => by
    have hlt : i < S.length := (List.getElem?_eq_some_iff.mp hi).1
    unfold lcLive
    rw [List.getElem?_append_left hlt, hi]
    simp only
    rw [List.getElem?_eq_none (by omega), List.drop_eq_nil_of_le (by omega)]
    simp [lcEnd]
  | n + 1, j, acc, hj, hl => by
    have hlt : i < S.length := (List.getElem?_eq_some_iff.mp hi).1
    have hjl : j < ys.length := by omega
    obtain ⟨ρ', h1, h2, h3⟩ := h ys[j] (List.getElem_mem hjl) acc
    unfold lcLive
    rw [List.getElem?_append_left hlt, hi]
    simp only
    rw [List.getElem?_eq_getElem hjl]
    simp only
    unfold lcTurn
    rw [h1]
    simp only [h2, R.nox_ok, R.bind_ok]
    rw [List.drop_eq_getElem_cons hjl]
    cases hb : b ys[j] with
    | true =>
      simp only [h3 hb, R.nox_ok, R.bind_ok, lcPut, grab, if_true]
      rw [show (S ++ [O.lst acc])[S.length]? = some (.lst acc) by simp]
      have hlt : acc.length < sizeLine := by omega
      simp only [hlt, if_true, R.bind_ok]
      rw [show (S ++ [O.lst acc]).set S.length (.lst (acc ++ [v ys[j]])) = S ++ [.lst (acc ++ [v ys[j]])] by simp]
      rw [lcLive_map hi h n (j + 1) _ (by omega) (by simp; omega)]
      rw [List.filter_cons_of_pos hb, List.map_cons]
      simp only [List.append_assoc, List.cons_append, List.nil_append]
    | false =>
      simp only [Bool.false_eq_true, if_false, R.bind_ok]
      rw [lcLive_map hi h n (j + 1) _ (by omega) (by omega)]
      rw [List.filter_cons_of_neg (by simp [hb])]
theorem R.bind_cong {α β : Type} {r r' : R α} {k : α → St' → R β} (h : r = r') : r.bind k = r'.bind k := by rw [h]
theorem Out.of_cong {α : Type} {ρ : Ev} {r r' : R α} {k : α → St' → Out} (h : r = r') : Out.of ρ r k = Out.of ρ r' k := by rw [h]
theorem Out.seq_cong {r r' : Out} {k : Ev → St' → Out} (h : r = r') : r.seq k = r'.seq k := by rw [h]
theorem Out.turn_cong {r r' : Out} {k : Ev → St' → Out} (h : r = r') : r.turn k = r'.turn k := by rw [h]
theorem optbind_cong {α β : Type} {r r' : Option α} {k : α → Option β} (h : r = r') : r.bind k = r'.bind k := by rw [h]
theorem st_get {S : St'} {o : O} : (S ++ [o])[List.length S]? = some o := by simp
theorem st_set {S : St'} {o o' : O} : (S ++ [o]).set (List.length S) o' = S ++ [o'] := by simp
theorem st_get2 {S : St'} {o u : O} : ((S ++ [o]) ++ [u])[List.length S]? = some o := by simp
theorem st_set2 {S : St'} {o u o' : O} : ((S ++ [o]) ++ [u]).set (List.length S) o' = (S ++ [o']) ++ [u] := by simp
theorem szl {n : Nat} : (n ≤ sizeLine) = (n ≤ 16777216) := by rw [show sizeLine = 16777216 by decide +kernel]
theorem execB_cons {F : FS} {s : MS} {ss : List MS} {ρ ρ1 : Ev} {S S1 : St'} {o : Out} (h : execS F s ρ S = .nx ρ1 S1) (h2 : execB F ss ρ1 S1 = o) : execB F (s :: ss) ρ S = o := by rw [execB, h]; exact h2
theorem execB_rt {F : FS} {s : MS} {ss : List MS} {ρ : Ev} {S S1 : St'} {v : SV} (h : execS F s ρ S = .rt v S1) : execB F (s :: ss) ρ S = .rt v S1 := by rw [execB, h]; rfl
end M

/-! what a run comes to, by what must hold behind it -/
namespace M
open PySem PySem.Spec PyProof.Rows L2

abbrev EX := Nat → List D → St' → Prop
def RP {α : Type} (r : R α) (P : α → St' → Prop) (E : EX) : Prop := match r with
  | .ok a S => P a S
  | .exc c p S => E c p S
  | .bad => False
structure Po where
  rt : SV → St' → Prop
  ex : Nat → List D → Ev → St' → Prop := fun _ _ _ _ => False
abbrev NX := Ev → St' → Prop
def noN : NX := fun _ _ => False
def OP (o : Out) (nx bk ct : NX) (P : Po) : Prop := match o with
  | .nx ρ S => nx ρ S
  | .rt v S => P.rt v S
  | .bk ρ S => bk ρ S
  | .ct ρ S => ct ρ S
  | .exc c p ρ S => P.ex c p ρ S
  | .bad => False
def noE : EX := fun _ _ _ => False
section
variable {α β : Type} {r : R α} {k : α → St' → R β} {P P' : α → St' → Prop} {Q : β → St' → Prop} {E E' : EX}
theorem RP.mono (h : RP r P E) (hp : ∀ a S, P a S → P' a S) (he : ∀ c p S, E c p S → E' c p S) : RP r P' E' := by
  cases r with
  | ok a S => exact hp a S h
  | exc c p S => exact he c p S h
  | bad => exact h
theorem RP.imp (h : RP r P E) (hp : ∀ a S, P a S → P' a S) : RP r P' E := h.mono hp fun _ _ _ h => h
theorem RP.of_no (h : RP r P noE) (hp : ∀ a S, P a S → P' a S) : RP r P' E := h.mono hp fun _ _ _ h => h.elim
theorem RP.eq {a : α} {S : St'} (h : r = .ok a S) (hp : P a S) : RP r P E := by rw [h]; exact hp
theorem RP.get (h : RP r P noE) : ∃ a S, r = .ok a S ∧ P a S := by
  cases r with
  | ok a S => exact ⟨a, S, rfl, h⟩
  | exc c p S => exact h.elim
  | bad => exact h.elim
theorem RP.bind (h : RP r (fun a S => RP (k a S) Q E) E) : RP (r.bind k) Q E := by
  cases r with
  | ok a S => exact h
  | exc c p S => exact h
  | bad => exact h
theorem RP.opt {o : Option α} {S : St'} (h : ∃ a, o = some a ∧ P a S) : RP (R.opt o S) P E := by
  obtain ⟨a, rfl, h⟩ := h
  exact h
theorem OP.of {ρ : Ev} {k : α → St' → Out} {nx bk ct : NX} {P : Po} (h : RP r (fun a S => OP (k a S) nx bk ct P) (fun c p S => P.ex c p ρ S)) : OP (Out.of ρ r k) nx bk ct P := by
  cases r with
  | ok a S => exact h
  | exc c p S => exact h
  | bad => exact h
theorem OP.seq {o : Out} {k : Ev → St' → Out} {nx bk ct : NX} {P : Po} (h : OP o (fun ρ S => OP (k ρ S) nx bk ct P) bk ct P) : OP (o.seq k) nx bk ct P := by
  cases o <;> exact h
theorem OP.imp {o : Out} {nx bk ct nx' bk' ct' : NX} {P P' : Po} (h : OP o nx bk ct P) (h1 : ∀ ρ S, nx ρ S → nx' ρ S) (h2 : ∀ v S, P.rt v S → P'.rt v S) (h3 : ∀ ρ S, bk ρ S → bk' ρ S) (h4 : ∀ ρ S, ct ρ S → ct' ρ S) (h5 : ∀ c p ρ S, P.ex c p ρ S → P'.ex c p ρ S) : OP o nx' bk' ct' P' := by
  cases o with
  | nx ρ S => exact h1 _ _ h
  | rt ρ S => exact h2 _ _ h
  | bk ρ S => exact h3 _ _ h
  | ct ρ S => exact h4 _ _ h
  | exc c p ρ S => exact h5 _ _ _ _ h
  | bad => exact h
end
section
variable {F : FS} {ρ : Ev} {S : St'} {a b c e : ME} {es : List ME} {P : SV → St' → Prop} {E : EX}
theorem rp_var {i : Nat} {v : SV} (h : ρ[i]? = some (some v)) (hp : P v S) : RP (evalE F (.var i) ρ S) P E := by rw [evalE, h]; exact hp
theorem rp_lit {d : D} (hp : P (.t d) S) : RP (evalE F (.lit d) ρ S) P E := by rw [evalE]; exact hp
theorem rp_glb {x : Str} {d : D} (hp : P (.t d) S) : RP (evalE F (.glb x d) ρ S) P E := by rw [evalE]; exact hp
theorem rp_nil {P : List SV → St' → Prop} (hp : P [] S) : RP (evalEs F [] ρ S) P E := by rw [evalEs]; exact hp
theorem rp_cons {P : List SV → St' → Prop} (hp : RP (evalE F e ρ S) (fun v S1 => RP (evalEs F es ρ S1) (fun vs S2 => P (v :: vs) S2) E) E) : RP (evalEs F (e :: es) ρ S) P E := by
  rw [evalEs]
  exact RP.bind (hp.imp fun v S1 h => RP.bind (h.imp fun vs S2 h => h))
theorem rp_tup (hp : RP (evalEs F es ρ S) (fun vs S1 => ∃ ds S2, grabs S1 vs = some (ds, S2) ∧ ds.length ≤ sizeLine ∧ P (.t (.tup ds)) S2) E) : RP (evalE F (.tup es) ρ S) P E := by
  rw [evalE]
  refine RP.bind (hp.imp fun vs S1 ⟨ds, S2, h1, h2, h3⟩ => ?_)
  rw [h1]
  simp only [h2, if_true]
  exact h3
theorem rp_lst (hp : RP (evalEs F es ρ S) (fun vs S1 => ∃ ds S2, grabs S1 vs = some (ds, S2) ∧ ds.length ≤ sizeLine ∧ P (.t (.lst ds)) S2) E) : RP (evalE F (.lst es) ρ S) P E := by
  rw [evalE]
  refine RP.bind (hp.imp fun vs S1 ⟨ds, S2, h1, h2, h3⟩ => ?_)
  rw [h1]
  simp only [h2, if_true]
  exact h3
def bin2 (o : Bn) (S : St') (x y : SV) : Option D := (peek S x).bind fun d => (peek S y).bind fun e => binD o d e
theorem rp_bin {o : Bn} (hp : RP (evalE F a ρ S) (fun x S1 => RP (evalE F b ρ S1) (fun y S2 => ∃ r, bin2 o S2 x y = some r ∧ P (.t r) S2) E) E) : RP (evalE F (.bin o a b) ρ S) P E := by
  rw [evalE]
  refine RP.bind (hp.imp fun x S1 h => RP.bind (h.imp fun y S2 ⟨r, h1, h2⟩ => RP.opt ⟨.t r, ?_, h2⟩))
  unfold bin2 at h1
  obtain ⟨d, e1, h1⟩ := Option.bind_eq_some_iff.mp h1
  obtain ⟨e, e2, h1⟩ := Option.bind_eq_some_iff.mp h1
  rw [e1, Option.bind_some, e2, Option.bind_some, h1]; rfl
theorem rp_neg (hp : RP (evalE F a ρ S) (fun x S1 => ∃ i, x = .t (.int i) ∧ P (.t (.int (-i))) S1) E) : RP (evalE F (.neg a) ρ S) P E := by
  rw [evalE]
  refine RP.bind (hp.imp fun x S1 ⟨i, h, hp⟩ => ?_)
  subst h
  exact hp
def cmp2' (o : Cm) (S : St') (x y : SV) : Option Bool := (peek S x).bind fun d => (peek S y).bind fun e => cmpD o d e
theorem rp_cmp {o : Cm} (hp : RP (evalE F a ρ S) (fun x S1 => RP (evalE F b ρ S1) (fun y S2 => ∃ r, cmp2' o S2 x y = some r ∧ P (.t (.bl r)) S2) E) E) : RP (evalE F (.cmp o a b) ρ S) P E := by
  rw [evalE]
  refine RP.bind (hp.imp fun x S1 h => RP.bind (h.imp fun y S2 ⟨r, h1, h2⟩ => RP.opt ⟨.t (.bl r), ?_, h2⟩))
  unfold cmp2' at h1
  obtain ⟨d, e1, h1⟩ := Option.bind_eq_some_iff.mp h1
  obtain ⟨e, e2, h1⟩ := Option.bind_eq_some_iff.mp h1
  rw [e1, Option.bind_some, e2, Option.bind_some, h1]; rfl
theorem rp_cmp2 {o p : Cm} (hp : RP (evalE F a ρ S) (fun x S1 => RP (evalE F b ρ S1) (fun y S2 => ∃ r, cmp2' o S2 x y = some r ∧ (r = true → RP (evalE F c ρ S2) (fun z S3 => ∃ r, cmp2' p S3 y z = some r ∧ P (.t (.bl r)) S3) E) ∧ (r = false → P (.t (.bl false)) S2)) E) E) : RP (evalE F (.cmp2 o p a b c) ρ S) P E := by
  rw [evalE]
  refine RP.bind (hp.imp fun x S1 h => RP.bind (h.imp fun y S2 ⟨r, h1, h2, h3⟩ => ?_))
  unfold cmp2' at h1
  obtain ⟨d, e1, h1⟩ := Option.bind_eq_some_iff.mp h1
  obtain ⟨e, e2, h1⟩ := Option.bind_eq_some_iff.mp h1
  rw [e1, Option.bind_some, e2, Option.bind_some, h1, R.opt_some, R.bind_ok]
  cases r with
  | false => exact h3 rfl
  | true =>
    refine RP.bind ((h2 rfl).imp fun z S3 ⟨r, h1, h2⟩ => RP.opt ⟨.t (.bl r), ?_, h2⟩)
    unfold cmp2' at h1
    obtain ⟨d, e1, h1⟩ := Option.bind_eq_some_iff.mp h1
    obtain ⟨e, e2, h1⟩ := Option.bind_eq_some_iff.mp h1
    rw [e1, Option.bind_some, e2, Option.bind_some, h1]; rfl
def truth (S : St') (x : SV) : Option Bool := (peek S x).bind truD
theorem rp_tru {P : Bool → St' → Prop} {r : R SV} (hp : RP r (fun x S1 => ∃ k, truth S1 x = some k ∧ P k S1) E) : RP (tru r) P E := by
  unfold tru
  exact RP.bind (hp.imp fun x S1 ⟨k, h1, h2⟩ => RP.opt ⟨k, h1, h2⟩)
theorem rp_and (hp : RP (evalE F a ρ S) (fun x S1 => ∃ k, truth S1 x = some k ∧ (k = true → RP (evalE F b ρ S1) P E) ∧ (k = false → P x S1)) E) : RP (evalE F (.and a b) ρ S) P E := by
  rw [evalE]
  refine RP.bind (hp.imp fun x S1 ⟨k, h1, h2, h3⟩ => ?_)
  unfold truth at h1
  rw [h1, R.opt_some, R.bind_ok]
  cases k with
  | true => exact h2 rfl
  | false => exact h3 rfl
theorem rp_or (hp : RP (evalE F a ρ S) (fun x S1 => ∃ k, truth S1 x = some k ∧ (k = true → P x S1) ∧ (k = false → RP (evalE F b ρ S1) P E)) E) : RP (evalE F (.or a b) ρ S) P E := by
  rw [evalE]
  refine RP.bind (hp.imp fun x S1 ⟨k, h1, h2, h3⟩ => ?_)
  unfold truth at h1
  rw [h1, R.opt_some, R.bind_ok]
  cases k with
  | true => exact h2 rfl
  | false => exact h3 rfl
theorem rp_not (hp : RP (evalE F a ρ S) (fun x S1 => ∃ k, truth S1 x = some k ∧ P (.t (.bl (!k))) S1) E) : RP (evalE F (.not a) ρ S) P E := by
  rw [evalE]
  exact RP.bind (rp_tru (hp.imp fun x S1 ⟨k, h1, h2⟩ => ⟨k, h1, h2⟩))
theorem rp_ife (hp : RP (evalE F c ρ S) (fun x S1 => ∃ k, truth S1 x = some k ∧ (k = true → RP (evalE F a ρ S1) P E) ∧ (k = false → RP (evalE F b ρ S1) P E)) E) : RP (evalE F (.ife c a b) ρ S) P E := by
  rw [evalE]
  refine RP.bind (rp_tru (hp.imp fun x S1 ⟨k, h1, h2, h3⟩ => ⟨k, h1, ?_⟩))
  cases k with
  | true => exact h2 rfl
  | false => exact h3 rfl
def idx2 (S : St') (x y : SV) : Option D := (peek S x).bind fun d => (peek S y).bind fun e => idxD d e
theorem rp_idx {i : ME} (hp : RP (evalE F a ρ S) (fun x S1 => RP (evalE F i ρ S1) (fun y S2 => ∃ r, idx2 S2 x y = some r ∧ P (.t r) S2) E) E) : RP (evalE F (.idx a i) ρ S) P E := by
  rw [evalE]
  refine RP.bind (hp.imp fun x S1 h => RP.bind (h.imp fun y S2 ⟨r, h1, h2⟩ => RP.opt ⟨.t r, ?_, h2⟩))
  unfold idx2 at h1
  obtain ⟨d, e1, h1⟩ := Option.bind_eq_some_iff.mp h1
  obtain ⟨e, e2, h1⟩ := Option.bind_eq_some_iff.mp h1
  rw [e1, Option.bind_some, e2, Option.bind_some, h1]; rfl
theorem rp_p0 {P : Option Int → St' → Prop} (hp : P none S) : RP (evalP F [] ρ S) P E := by rw [evalP]; exact hp
theorem rp_p1 {P : Option Int → St' → Prop} (hp : RP (evalE F e ρ S) (fun v S1 => ∃ i, v = .t (.int i) ∧ P (some i) S1) E) : RP (evalP F (e :: es) ρ S) P E := by
  rw [evalP]
  refine RP.bind (hp.imp fun x S1 ⟨i, h, hp⟩ => ?_)
  subst h
  exact hp
def slc2 (S : St') (x : SV) (l h : Option Int) : Option D := (peek S x).bind fun d => slcD d l h
theorem rp_slc {lo hi : List ME} (hp : RP (evalE F a ρ S) (fun x S1 => RP (evalP F lo ρ S1) (fun l S2 => RP (evalP F hi ρ S2) (fun h S3 => ∃ r, slc2 S3 x l h = some r ∧ P (.t r) S3) E) E) E) : RP (evalE F (.slc a lo hi) ρ S) P E := by
  rw [evalE]
  refine RP.bind (hp.imp fun x S1 h => RP.bind (h.imp fun l S2 h => RP.bind (h.imp fun h S3 ⟨r, h1, h2⟩ => RP.opt ⟨.t r, ?_, h2⟩)))
  unfold slc2 at h1
  obtain ⟨d, e1, h1⟩ := Option.bind_eq_some_iff.mp h1
  rw [e1, Option.bind_some, h1]; rfl
theorem rp_call {f : Nat} (hp : RP (evalEs F es ρ S) (fun vs S1 => RP (F f vs S1) P E) E) : RP (evalE F (.call f es) ρ S) P E := by
  rw [evalE]
  exact RP.bind hp
def bi2 (b : Bi) (S : St') (vs : List SV) : Option D := (peeks S vs).bind (biD b)
theorem rp_bi {b : Bi} (hp : RP (evalEs F es ρ S) (fun vs S1 => ∃ r, bi2 b S1 vs = some r ∧ P (.t r) S1) E) : RP (evalE F (.bi b es) ρ S) P E := by
  rw [evalE]
  refine RP.bind (hp.imp fun vs S1 ⟨r, h1, h2⟩ => RP.opt ⟨.t r, ?_, h2⟩)
  unfold bi2 at h1
  obtain ⟨d, e1, h1⟩ := Option.bind_eq_some_iff.mp h1
  rw [e1, Option.bind_some, h1]; rfl
theorem rp_isi {t : Ty} (hp : RP (evalE F a ρ S) (fun x S1 => ∃ d, peek S1 x = some d ∧ P (.t (.bl (isiD d t))) S1) E) : RP (evalE F (.isi a t) ρ S) P E := by
  rw [evalE]
  exact RP.bind (hp.imp fun x S1 ⟨d, h1, h2⟩ => RP.opt ⟨_, by rw [h1]; rfl, h2⟩)
theorem rp_isit {ts : List Ty} (hp : RP (evalE F a ρ S) (fun x S1 => ∃ d, peek S1 x = some d ∧ P (.t (.bl (ts.any fun t => isiD d t))) S1) E) : RP (evalE F (.isit a ts) ρ S) P E := by
  rw [evalE]
  exact RP.bind (hp.imp fun x S1 ⟨d, h1, h2⟩ => RP.opt ⟨_, by rw [h1]; rfl, h2⟩)
def mth2 (m : Mt) (S : St') (x : SV) (vs : List SV) : Option D := (peek S x).bind fun d => (peeks S vs).bind fun ds => mthD m d ds
theorem rp_mth {m : Mt} (hp : RP (evalE F a ρ S) (fun x S1 => ((peek S1 x).map (mtOk m)).getD false = true ∧ RP (evalEs F es ρ S1) (fun vs S2 => ∃ r, mth2 m S2 x vs = some r ∧ P (.t r) S2) E) E) : RP (evalE F (.mth m a es) ρ S) P E := by
  rw [evalE]
  refine RP.bind (hp.imp fun x S1 ⟨h0, h⟩ => ?_)
  rw [if_neg (by rw [h0]; simp)]
  refine RP.bind (h.imp fun vs S2 ⟨r, h1, h2⟩ => RP.opt ⟨.t r, ?_, h2⟩)
  unfold mth2 at h1
  obtain ⟨d, e1, h1⟩ := Option.bind_eq_some_iff.mp h1
  obtain ⟨e, e2, h1⟩ := Option.bind_eq_some_iff.mp h1
  rw [e1, Option.bind_some, e2, Option.bind_some, h1]; rfl
theorem rp_of {P : Src → St' → Prop} (hp : RP (evalE F e ρ S) (fun v S1 => ∃ s, srcOf S1 v = some s ∧ P s S1) E) : RP (evalI F (.of e) ρ S) P E := by
  rw [evalI]
  exact RP.bind (hp.imp fun v S1 ⟨s, h1, h2⟩ => RP.opt ⟨s, h1, h2⟩)
theorem rp_r1 {P : Src → St' → Prop} (hp : RP (evalE F e ρ S) (fun v S1 => ∃ n, v = .t (.int n) ∧ rngOk n = true ∧ P (.fix (rangeD 0 n)) S1) E) : RP (evalI F (.range1 e) ρ S) P E := by
  rw [evalI]
  refine RP.bind (hp.imp fun v S1 ⟨n, h1, h2, h3⟩ => ?_)
  subst h1
  simp only [h2, if_true]
  exact h3
theorem rp_r2 {P : Src → St' → Prop} (hp : RP (evalE F a ρ S) (fun v S1 => RP (evalE F b ρ S1) (fun u S2 => ∃ i j, v = .t (.int i) ∧ u = .t (.int j) ∧ (rngOk i && rngOk j) = true ∧ P (.fix (rangeD i j)) S2) E) E) : RP (evalI F (.range2 a b) ρ S) P E := by
  rw [evalI]
  refine RP.bind (hp.imp fun v S1 h => RP.bind (h.imp fun u S2 ⟨i, j, h1, h2, h3, h4⟩ => ?_))
  subst h1; subst h2
  simp only [h3, if_true]
  exact h4
def sqD : SV → Option (List D)
  | .t (.lst xs) => some xs
  | .t (.tup xs) => some xs
  | _ => none
theorem rp_enum {P : Src → St' → Prop} (hp : RP (evalE F e ρ S) (fun v S1 => ∃ xs, sqD v = some xs ∧ P (.fix (enumD xs)) S1) E) : RP (evalI F (.enum e) ρ S) P E := by
  rw [evalI]
  refine RP.bind (hp.imp fun v S1 ⟨xs, h1, h2⟩ => ?_)
  unfold sqD at h1
  split at h1 <;> cases h1 <;> exact h2
theorem rp_zip {P : Src → St' → Prop} (hp : RP (evalE F a ρ S) (fun v S1 => RP (evalE F b ρ S1) (fun u S2 => ∃ xs ys, ((v = .t (.lst xs) ∧ u = .t (.lst ys)) ∨ (v = .t (.tup xs) ∧ u = .t (.tup ys))) ∧ P (.fix (zipD xs ys)) S2) E) E) : RP (evalI F (.zip a b) ρ S) P E := by
  rw [evalI]
  refine RP.bind (hp.imp fun v S1 h => RP.bind (h.imp fun u S2 ⟨xs, ys, h1, h2⟩ => ?_))
  rcases h1 with ⟨rfl, rfl⟩ | ⟨rfl, rfl⟩ <;> exact h2
/-- a comprehension: what its source is, then what its list is -/
theorem rp_lc {tg : Tg} {it : IT} {cs : List ME} (hp : RP (evalI F it ρ S) (fun src S1 => RP (lcSrc tg (tests (evalCs F cs)) (evalE F e) src ρ S1) (fun xs S2 => P (.t (.lst xs)) S2) E) E) : RP (evalE F (.lc tg it cs e) ρ S) P E := by
  rw [evalE]
  exact RP.bind (hp.imp fun src S1 h => RP.bind (h.imp fun xs S2 h => h))
theorem rp_lcL {tg : Tg} {it : IT} {cs : List ME} {P : List D → St' → Prop} (hp : RP (evalI F it ρ S) (fun src S1 => RP (lcSrc tg (tests (evalCs F cs)) (evalE F e) src ρ S1) P E) E) : RP (evalL F (.lc tg it cs e) ρ S) P E := by
  rw [evalL]
  exact RP.bind hp
theorem rp_lstL {P : List D → St' → Prop} (hp : RP (evalEs F es ρ S) (fun vs S1 => ∃ ds S2, grabs S1 vs = some (ds, S2) ∧ ds.length ≤ sizeLine ∧ P ds S2) E) : RP (evalL F (.lst es) ρ S) P E := by
  rw [evalL]
  refine RP.bind (hp.imp fun vs S1 ⟨ds, S2, h1, h2, h3⟩ => ?_)
  rw [h1]
  simp only [h2, if_true]
  exact h3
theorem rp_catL {P : List D → St' → Prop} (hp : RP (evalE F a ρ S) (fun x S1 => RP (evalE F b ρ S1) (fun y S2 => ∃ xs ys, peek S2 x = some (.lst xs) ∧ peek S2 y = some (.lst ys) ∧ xs.length + ys.length ≤ sizeLine ∧ P (xs ++ ys) S2) E) E) : RP (evalL F (.bin .add a b) ρ S) P E := by
  rw [evalL]
  refine RP.bind (hp.imp fun x S1 h => RP.bind (h.imp fun y S2 ⟨xs, ys, h1, h2, h3, h4⟩ => RP.opt ⟨xs ++ ys, ?_, h4⟩))
  rw [h1, h2]
  simp [h3]
theorem rp_listL {P : List D → St' → Prop} (hp : RP (evalE F a ρ S) (fun x S1 => ∃ xs, (peek S1 x = some (.lst xs) ∨ peek S1 x = some (.tup xs)) ∧ P xs S1) E) : RP (evalL F (.bi .list [a]) ρ S) P E := by
  rw [evalL]
  refine RP.bind (hp.imp fun x S1 ⟨xs, h1, h2⟩ => RP.opt ⟨xs, ?_, h2⟩)
  rcases h1 with h1 | h1 <;> rw [h1] <;> rfl
end
section
variable {F : FS} {ρ : Ev} {S : St'} {a b c e : ME} {P : Po} {nx bk ct : NX} {s : MS} {ss ss' : List MS}
theorem op_nil (h : nx ρ S) : OP (execB F [] ρ S) nx bk ct P := by rw [execB]; exact h
theorem op_cons (h : OP (execS F s ρ S) (fun ρ1 S1 => OP (execB F ss ρ1 S1) nx bk ct P) bk ct P) : OP (execB F (s :: ss) ρ S) nx bk ct P := by
  rw [execB]
  exact OP.seq h
theorem op_norm {ρ' : Ev} (h : ρ = ρ') (hp : OP (execB F ss ρ' S) nx bk ct P) : OP (execB F ss ρ S) nx bk ct P := by rw [h]; exact hp
theorem op_doc (h : nx ρ S) : OP (execS F .doc ρ S) nx bk ct P := by rw [execS]; exact h
theorem op_pass (h : nx ρ S) : OP (execS F .pass ρ S) nx bk ct P := by rw [execS]; exact h
theorem op_asg {i : Nat} (h : RP (evalE F e ρ S) (fun v S1 => nx (ρ.set i (some v)) S1) fun c p S1 => P.ex c p ρ S1) : OP (execS F (.asg (.v i) e) ρ S) nx bk ct P := by
  rw [execS]
  exact OP.of (h.imp fun v S1 h => h)
theorem op_tp {is : List Nat} (h : RP (evalE F e ρ S) (fun v S1 => ∃ ds ρ', v = .t (.tup ds) ∧ setTg is ds ρ = some ρ' ∧ nx ρ' S1) fun c p S1 => P.ex c p ρ S1) : OP (execS F (.asg (.tp is) e) ρ S) nx bk ct P := by
  rw [execS]
  refine OP.of (h.imp fun v S1 ⟨ds, ρ', h1, h2, h3⟩ => ?_)
  subst h1
  unfold tpO
  simp only [h2]
  exact h3
theorem op_par {i j : Nat} (h : RP (evalE F a ρ S) (fun v S1 => RP (evalE F b ρ S1) (fun u S2 => nx ((ρ.set i (some v)).set j (some u)) S2) fun c p S1 => P.ex c p ρ S1) fun c p S1 => P.ex c p ρ S1) : OP (execS F (.par i j a b) ρ S) nx bk ct P := by
  rw [execS]
  exact OP.of (h.imp fun v S1 h => OP.of (h.imp fun u S2 h => h))
theorem op_new {i : Nat} (h : RP (evalL F e ρ S) (fun xs S1 => nx (ρ.set i (some (.o S1.length))) (S1 ++ [.lst xs])) fun c p S1 => P.ex c p ρ S1) : OP (execS F (.new i e) ρ S) nx bk ct P := by
  rw [execS]
  exact OP.of (h.imp fun v S1 h => h)
theorem op_aug {i : Nat} {o : Bn} {x : Int} (hx : ρ[i]? = some (some (.t (.int x)))) (ho : o ≠ .pow) (h : RP (evalE F e ρ S) (fun v S1 => ∃ y z, v = .t (.int y) ∧ binD o (.int x) (.int y) = some z ∧ nx (ρ.set i (some (.t z))) S1) fun c p S1 => P.ex c p ρ S1) : OP (execS F (.aug i o e) ρ S) nx bk ct P := by
  rw [execS, hx]
  refine OP.of (h.imp fun v S1 ⟨y, z, h1, h2, h3⟩ => ?_)
  subst h1
  unfold augO
  simp only [if_neg ho, h2]
  exact h3
theorem op_app {i k : Nat} {xs0 : List D} (hx : ρ[i]? = some (some (.o k))) (hS : S[k]? = some (.lst xs0)) (h : RP (evalE F e ρ S) (fun v S1 => ∃ d S2 xs S3, grab S1 v = some (d, S2) ∧ S2[k]? = some (.lst xs) ∧ xs.length < sizeLine ∧ S2.set k (.lst (xs ++ [d])) = S3 ∧ nx ρ S3) fun c p S1 => P.ex c p ρ S1) : OP (execS F (.app i e) ρ S) nx bk ct P := by
  rw [execS, hx]
  simp only [hS]
  refine OP.of (h.imp fun v S1 ⟨d, S2, xs, S3, h1, h2, h3, h5, h4⟩ => ?_)
  unfold appO
  simp only [h1, h2, h3, if_true]
  rw [h5]
  exact h4
theorem op_seti {i n : Nat} {kk : ME} (hx : ρ[i]? = some (some (.o n))) (h : RP (evalE F e ρ S) (fun v S1 => ∃ d S2, grab S1 v = some (d, S2) ∧ RP (evalE F kk ρ S2) (fun kv S3 => ∃ z xs j S4, kv = .t (.int z) ∧ S3[n]? = some (.lst xs) ∧ ixN xs.length z = some j ∧ S3.set n (.lst (xs.set j d)) = S4 ∧ nx ρ S4) fun c p S1 => P.ex c p ρ S1) fun c p S1 => P.ex c p ρ S1) : OP (execS F (.seti i kk e) ρ S) nx bk ct P := by
  rw [execS]
  refine OP.of (h.imp fun v S1 ⟨d, S2, h1, h2⟩ => ?_)
  simp only [h1, hx]
  refine OP.of (h2.imp fun kv S3 ⟨z, xs, j, S4, e1, e2, e3, e5, e4⟩ => ?_)
  subst e1
  unfold setO
  simp only [e2, e3]
  rw [e5]
  exact e4
theorem op_expr (h : RP (evalE F e ρ S) (fun v S1 => nx ρ S1) fun c p S1 => P.ex c p ρ S1) : OP (execS F (.expr e) ρ S) nx bk ct P := by
  rw [execS]
  exact OP.of (h.imp fun v S1 h => h)
theorem op_ret (h : RP (evalE F e ρ S) (fun v S1 => P.rt v S1) fun c p S1 => P.ex c p ρ S1) : OP (execS F (.ret e) ρ S) nx bk ct P := by
  rw [execS]
  exact OP.of (h.imp fun v S1 h => h)
theorem op_retN (h : P.rt (.t .non) S) : OP (execS F .retN ρ S) nx bk ct P := by rw [execS]; exact h
theorem op_ife (h : RP (evalE F c ρ S) (fun x S1 => ∃ k, truth S1 x = some k ∧ (k = true → OP (execB F ss ρ S1) nx bk ct P) ∧ (k = false → OP (execB F ss' ρ S1) nx bk ct P)) fun c p S1 => P.ex c p ρ S1) : OP (execS F (.ife c ss ss') ρ S) nx bk ct P := by
  rw [execS]
  refine OP.of (rp_tru (h.imp fun x S1 ⟨k, h1, h2, h3⟩ => ⟨k, h1, ?_⟩))
  cases k with
  | true => exact h2 rfl
  | false => exact h3 rfl
theorem op_for {tg : Tg} {it : IT} (h : RP (evalI F it ρ S) (fun src S1 => OP (forSrc tg (execB F ss) src ρ S1) nx bk ct P) fun c p S1 => P.ex c p ρ S1) : OP (execS F (.for_ tg it ss) ρ S) nx bk ct P := by
  rw [execS]
  exact OP.of (h.imp fun v S1 h => h)
/-- a for over fixed data, by what holds ahead of the items left -/
theorem op_fix {tg : Tg} {body : Ev → St' → Out} {xs : List D} (I : List D → Ev → St' → Prop) (h0 : I xs ρ S)
    (step : ∀ d ds ρ S, I (d :: ds) ρ S → ∃ ρ', bindTg tg d ρ = some ρ' ∧ OP (body ρ' S) (fun ρ2 S2 => I ds ρ2 S2) noN (fun ρ2 S2 => I ds ρ2 S2) P)
    (h1 : ∀ ρ S, I [] ρ S → nx ρ S) : OP (forSrc tg body (.fix xs) ρ S) nx bk ct P := by
  unfold forSrc
  induction xs generalizing ρ S with
  | nil => exact h1 _ _ h0
  | cons d ds ih =>
    obtain ⟨ρ', e1, h2⟩ := step d ds ρ S h0
    simp only [forFix, e1]
    revert h2
    cases body ρ' S with
    | nx ρ2 S2 => exact fun h2 => ih h2
    | ct ρ2 S2 => exact fun h2 => ih h2
    | bk ρ2 S2 => exact fun h2 => h2.elim
    | rt v S2 => exact fun h2 => h2
    | exc c p ρ2 S2 => exact fun h2 => h2
    | bad => exact fun h2 => h2
/-- .. over an object that stays as it is -/
theorem op_live {tg : Tg} {body : Ev → St' → Out} {k : Nat} {xs : List D} (I : List D → Ev → St' → Prop) (hS : S[k]? = some (.lst xs)) (h0 : I xs ρ S) (hI : ∀ ds ρ S, I ds ρ S → S[k]? = some (.lst xs))
    (step : ∀ d ds ρ S, I (d :: ds) ρ S → ∃ ρ', bindTg tg d ρ = some ρ' ∧ OP (body ρ' S) (fun ρ2 S2 => I ds ρ2 S2) noN (fun ρ2 S2 => I ds ρ2 S2) P)
    (h1 : ∀ ρ S, I [] ρ S → nx ρ S) : OP (forSrc tg body (.live k) ρ S) nx bk ct P := by
  have key : ∀ (n j : Nat) (ρ : Ev) (S : St'), j + n = xs.length → I (xs.drop j) ρ S → OP (forLive tg body k n j ρ S) nx bk ct P := by
    intro n
    induction n with
    | zero =>
      intro j ρ S hj h
      unfold forLive
      rw [hI _ _ _ h]
      simp only
      rw [List.getElem?_eq_none (by omega)]
      rw [List.drop_eq_nil_of_le (by omega)] at h
      exact h1 _ _ h
    | succ n ih =>
      intro j ρ S hj h
      have hjl : j < xs.length := by omega
      unfold forLive
      rw [hI _ _ _ h]
      simp only
      rw [List.getElem?_eq_getElem hjl]
      rw [List.drop_eq_getElem_cons hjl] at h
      obtain ⟨ρ', e1, h2⟩ := step _ _ ρ S h
      simp only [e1]
      revert h2
      cases body ρ' S with
      | nx ρ2 S2 => exact fun h2 => ih (j + 1) _ _ (by omega) h2
      | ct ρ2 S2 => exact fun h2 => ih (j + 1) _ _ (by omega) h2
      | bk ρ2 S2 => exact fun h2 => h2.elim
      | rt v S2 => exact fun h2 => h2
      | exc c p ρ2 S2 => exact fun h2 => h2
      | bad => exact fun h2 => h2
  unfold forSrc
  simp only [hS]
  exact key _ 0 ρ S (by omega) h0
end
/-- a comprehension over fixed data whose parts leave the objects alone -/
theorem rp_lcfix {tg : Tg} {c : Ev → St' → R Bool} {e : Ev → St' → R SV} {ρ : Ev} {S : St'} {P : List D → St' → Prop} {E : EX} {xs : List D} (b : D → Bool) (v : D → D) (hl : xs.length ≤ sizeLine)
    (h : ∀ d ∈ xs, ∀ acc, ∃ ρ', bindTg tg d ρ = some ρ' ∧ RP (c ρ' (S ++ [.lst acc])) (fun k S1 => k = b d ∧ S1 = S ++ [.lst acc] ∧ (k = true → RP (e ρ' (S ++ [.lst acc])) (fun x S2 => x = .t (v d) ∧ S2 = S ++ [.lst acc]) noE)) noE)
    (hp : P ((xs.filter b).map v) S) : RP (lcSrc tg c e (.fix xs) ρ S) P E := by
  unfold lcSrc
  refine RP.eq (lcFix_map (b := b) (v := v) (acc := []) (fun d hd acc => ?_) (by simpa using hl)) (by simpa using hp)
  obtain ⟨ρ', h1, h2⟩ := h d hd acc
  obtain ⟨k, S1, e1, rfl, rfl, h3⟩ := RP.get h2
  refine ⟨ρ', h1, e1, fun hb => ?_⟩
  obtain ⟨x, S2, e2, rfl, rfl⟩ := RP.get (h3 hb)
  exact e2
theorem rp_lclive {tg : Tg} {c : Ev → St' → R Bool} {e : Ev → St' → R SV} {ρ : Ev} {S : St'} {P : List D → St' → Prop} {E : EX} {xs : List D} {i : Nat} (b : D → Bool) (v : D → D) (hi : S[i]? = some (.lst xs)) (hl : xs.length ≤ sizeLine)
    (h : ∀ d ∈ xs, ∀ acc, ∃ ρ', bindTg tg d ρ = some ρ' ∧ RP (c ρ' (S ++ [.lst acc])) (fun k S1 => k = b d ∧ S1 = S ++ [.lst acc] ∧ (k = true → RP (e ρ' (S ++ [.lst acc])) (fun x S2 => x = .t (v d) ∧ S2 = S ++ [.lst acc]) noE)) noE)
    (hp : P ((xs.filter b).map v) S) : RP (lcSrc tg c e (.live i) ρ S) P E := by
  unfold lcSrc
  simp only [hi]
  refine RP.eq (lcLive_map (b := b) (v := v) hi (fun d hd acc => ?_) xs.length 0 [] (by omega) (by simpa using hl)) (by simpa using hp)
  obtain ⟨ρ', h1, h2⟩ := h d hd acc
  obtain ⟨k, S1, e1, rfl, rfl, h3⟩ := RP.get h2
  refine ⟨ρ', h1, e1, fun hb => ?_⟩
  obtain ⟨x, S2, e2, rfl, rfl⟩ := RP.get (h3 hb)
  exact e2
theorem rp_t0 {F : FS} {ρ : Ev} {S : St'} {P : Bool → St' → Prop} {E : EX} (h : P true S) : RP (tests (evalCs F []) ρ S) P E := by rw [evalCs, tests]; exact h
theorem rp_t1 {F : FS} {ρ : Ev} {S : St'} {P : Bool → St' → Prop} {E : EX} {e : ME} (h : RP (evalE F e ρ S) (fun x S1 => ∃ k, truth S1 x = some k ∧ P k S1) E) : RP (tests (evalCs F [e]) ρ S) P E := by
  rw [evalCs, tests]
  exact rp_tru h
/-- the slots at a call's begin -/
def pad : List SV → Nat → Ev
  | _, 0 => []
  | [], n + 1 => none :: pad [] n
  | v :: vs, n + 1 => some v :: pad vs n
theorem pad_eq : ∀ (vs : List SV) (n : Nat), vs.length ≤ n → vs.map some ++ List.replicate (n - vs.length) none = pad vs n
  | [], 0, _ => rfl
  | v :: vs, 0, h => by simp at h
  | [], n + 1, _ => by
    rw [pad, ← pad_eq [] n (Nat.zero_le _)]
    simp [List.replicate_succ]
  | v :: vs, n + 1, h => by
    simp only [List.length_cons] at h
    rw [pad, ← pad_eq vs n (by omega)]
    simp
/-- a call -/
theorem rp_fn {T : List Fn} {i n : Nat} {f : Fn} {vs : List SV} {S : St'} {P : SV → St' → Prop} {E : EX} (hT : T[i]? = some f) (hl : vs.length = f.ar) (hs : Nat.ble f.ar f.sl = true)
    (h : OP (execB (FT T n) f.body (pad vs f.sl) S) (fun _ S' => P (.t .non) (S'.take S.length)) noN noN { rt := fun v S' => RP (finish S.length v S') P E, ex := fun c p _ S' => E c p (S'.take S.length) }) : RP (FT T (n + 1) i vs S) P E := by
  rw [FT_at hT]
  unfold callF
  rw [if_pos hl, pad_eq _ _ (by rw [hl]; exact Nat.le_of_ble_eq_true hs)]
  revert h
  cases execB (FT T n) f.body (pad vs f.sl) S with
  | nx ρ2 S2 => exact fun h2 => h2
  | ct ρ2 S2 => exact fun h2 => h2
  | bk ρ2 S2 => exact fun h2 => h2
  | rt v S2 => exact fun h2 => h2
  | exc c p ρ2 S2 => exact fun h2 => h2
  | bad => exact fun h2 => h2
theorem fin0 {S : St'} {d : D} {P : SV → St' → Prop} {E : EX} (h : P (.t d) S) : RP (finish S.length (.t d) S) P E := by
  unfold finish; rw [List.take_length]; exact h
theorem fin1 {S : St'} {d : D} {o : O} {P : SV → St' → Prop} {E : EX} (h : P (.t d) S) : RP (finish S.length (.t d) (S ++ [o])) P E := by
  unfold finish; simp only [List.take_left]; exact h
theorem fin2 {S : St'} {d : D} {o u : O} {P : SV → St' → Prop} {E : EX} (h : P (.t d) S) : RP (finish S.length (.t d) ((S ++ [o]) ++ [u])) P E := by
  unfold finish; simp only [List.append_assoc, List.take_left]; exact h
theorem fino1 {S : St'} {xs : List D} {P : SV → St' → Prop} {E : EX} (h : P (.t (.lst xs)) S) : RP (finish S.length (.o S.length) (S ++ [.lst xs])) P E := by
  unfold finish; simp only [Nat.lt_irrefl, if_false, st_get, List.take_left]; exact h
theorem rp_finU {S S' : St'} {P : SV → St' → Prop} {E : EX} (h : P (.t .non) S) (e : S'.take S.length = S) : P (.t .non) (S'.take S.length) := by rw [e]; exact h
theorem le_sz {n : Nat} (h : Nat.ble n 16777216 = true) : n ≤ sizeLine := by
  have := Nat.le_of_ble_eq_true h
  have e : sizeLine = 16777216 := by decide +kernel
  omega
theorem lt_sz {n : Nat} (h : n < 16777216) : n < sizeLine := by
  have e : sizeLine = 16777216 := by decide +kernel
  omega
theorem le_sz' {n : Nat} (h : n ≤ 16777216) : n ≤ sizeLine := by
  have e : sizeLine = 16777216 := by decide +kernel
  omega
/-- [e for x in xs if c], the items being f y -/
theorem rp_lcF {α : Type} {F : FS} {tg : Tg} {cs : List ME} {e : ME} {ρ : Ev} {S : St'} {P : List D → St' → Prop} {E : EX} {ys : List α} (f : α → D) (b : α → Bool) (g : α → D) (hl : ys.length ≤ 16777216)
    (h : ∀ y ∈ ys, ∀ acc, ∃ ρ', bindTg tg (f y) ρ = some ρ' ∧ RP (tests (evalCs F cs) ρ' (S ++ [.lst acc])) (fun k S1 => k = b y ∧ S1 = S ++ [.lst acc] ∧ (k = true → RP (evalE F e ρ' (S ++ [.lst acc])) (fun x S2 => x = .t (g y) ∧ S2 = S ++ [.lst acc]) noE)) noE)
    (hp : P ((ys.filter b).map g) S) : RP (lcSrc tg (tests (evalCs F cs)) (evalE F e) (.fix (ys.map f)) ρ S) P E := by
  have key : ∀ (ys : List α) (acc : List D), (∀ y ∈ ys, ∀ acc, ∃ ρ', bindTg tg (f y) ρ = some ρ' ∧ RP (tests (evalCs F cs) ρ' (S ++ [.lst acc])) (fun k S1 => k = b y ∧ S1 = S ++ [.lst acc] ∧ (k = true → RP (evalE F e ρ' (S ++ [.lst acc])) (fun x S2 => x = .t (g y) ∧ S2 = S ++ [.lst acc]) noE)) noE) → acc.length + ys.length ≤ 16777216 → lcFix tg (tests (evalCs F cs)) (evalE F e) S.length (ys.map f) ρ (S ++ [.lst acc]) = .ok (acc ++ (ys.filter b).map g) S := by
    intro ys
    induction ys with
    | nil => intro acc _ _; simp [lcFix, lcEnd]
    | cons y ys ih =>
      intro acc h hl
      obtain ⟨ρ', h1, h2⟩ := h y List.mem_cons_self acc
      obtain ⟨k, S1, e1, rfl, rfl, h3⟩ := RP.get h2
      simp only [List.length_cons] at hl
      rw [List.map_cons, lcFix, lcTurn, h1]
      simp only [e1, R.nox_ok, R.bind_ok]
      cases hb : b y with
      | true =>
        obtain ⟨x, S2, e2, rfl, rfl⟩ := RP.get (h3 hb)
        simp only [e2, R.nox_ok, R.bind_ok, lcPut, grab, if_true, st_get]
        have hlt : acc.length < sizeLine := lt_sz (by omega)
        simp only [hlt, if_true, R.bind_ok, st_set]
        rw [ih _ (fun y hy => h y (List.mem_cons_of_mem _ hy)) (by simp; omega)]
        rw [List.filter_cons_of_pos hb, List.map_cons, List.append_assoc, List.singleton_append]
      | false =>
        simp only [Bool.false_eq_true, if_false, R.bind_ok]
        rw [ih _ (fun y hy => h y (List.mem_cons_of_mem _ hy)) (by omega)]
        rw [List.filter_cons_of_neg (by simp [hb])]
  unfold lcSrc
  exact RP.eq (key ys [] h (by simpa using hl)) (by simpa using hp)
/-- [e for x in xs] -/
theorem rp_lcM {α : Type} {F : FS} {tg : Tg} {e : ME} {ρ : Ev} {S : St'} {P : List D → St' → Prop} {E : EX} {ys : List α} (f g : α → D) (hl : ys.length ≤ 16777216)
    (h : ∀ y ∈ ys, ∀ acc, ∃ ρ', bindTg tg (f y) ρ = some ρ' ∧ RP (evalE F e ρ' (S ++ [.lst acc])) (fun x S2 => x = .t (g y) ∧ S2 = S ++ [.lst acc]) noE)
    (hp : P (ys.map g) S) : RP (lcSrc tg (tests (evalCs F [])) (evalE F e) (.fix (ys.map f)) ρ S) P E := by
  refine rp_lcF f (fun _ => true) g hl (fun y hy acc => ?_) ?_
  · obtain ⟨ρ', h1, h2⟩ := h y hy acc
    exact ⟨ρ', h1, rp_t0 ⟨rfl, rfl, fun _ => h2⟩⟩
  · rw [List.filter_eq_self.mpr fun _ _ => rfl]
    exact hp
/-- .. over an object -/
theorem rp_lcV {α : Type} {F : FS} {tg : Tg} {e : ME} {ρ : Ev} {S : St'} {P : List D → St' → Prop} {E : EX} {ys : List α} {i : Nat} (f g : α → D) (hi : S[i]? = some (.lst (ys.map f))) (hl : ys.length ≤ 16777216)
    (h : ∀ y ∈ ys, ∀ acc, ∃ ρ', bindTg tg (f y) ρ = some ρ' ∧ RP (evalE F e ρ' (S ++ [.lst acc])) (fun x S2 => x = .t (g y) ∧ S2 = S ++ [.lst acc]) noE)
    (hp : P (ys.map g) S) : RP (lcSrc tg (tests (evalCs F [])) (evalE F e) (.live i) ρ S) P E := by
  have hil : i < S.length := (List.getElem?_eq_some_iff.mp hi).1
  have key : ∀ (n j : Nat) (acc : List D), j + n = ys.length → acc.length + n ≤ 16777216 → lcLive tg (fun _ S => R.ok true S) (evalE F e) S.length i n j ρ (S ++ [.lst acc]) = .ok (acc ++ (ys.drop j).map g) S := by
    intro n
    induction n with
    | zero =>
      intro j acc hj _
      unfold lcLive
      rw [List.getElem?_append_left hil, hi]
      simp only
      rw [List.getElem?_eq_none (by simp; omega), List.drop_eq_nil_of_le (by omega)]
      simp [lcEnd]
    | succ n ih =>
      intro j acc hj hl
      have hjl : j < ys.length := by omega
      obtain ⟨ρ', h1, h2⟩ := h ys[j] (List.getElem_mem hjl) acc
      obtain ⟨x, S2, e2, rfl, rfl⟩ := RP.get h2
      unfold lcLive
      rw [List.getElem?_append_left hil, hi]
      simp only
      rw [List.getElem?_map, List.getElem?_eq_getElem hjl]
      simp only [Option.map_some, lcTurn, h1, R.nox_ok, R.bind_ok, if_true, e2, lcPut, grab, st_get]
      have hlt : acc.length < sizeLine := lt_sz (by omega)
      simp only [hlt, if_true, R.bind_ok, st_set]
      rw [ih (j + 1) _ (by omega) (by simp; omega), List.drop_eq_getElem_cons hjl]
      simp only [List.map_cons, List.append_assoc, List.cons_append, List.nil_append]
  have ht : tests (evalCs F []) = fun _ S => R.ok true S := by rw [evalCs, tests]
  rw [ht]
  unfold lcSrc
  simp only [hi]
  exact RP.eq (by rw [List.length_map]; exact key ys.length 0 [] (by omega) (by simpa using hl)) (by simpa using hp)
def fz2 (f : Fz) (S : St') (vs : List SV) : Option D := (peeks S vs).bind (fzD f)
theorem rp_fz {F : FS} {ρ : Ev} {S : St'} {P : SV → St' → Prop} {E : EX} {f : Fz} {es : List ME} (hp : RP (evalEs F es ρ S) (fun vs S1 => ∃ r, fz2 f S1 vs = some r ∧ P (.t r) S1) E) : RP (evalE F (.fz f es) ρ S) P E := by
  rw [evalE]
  refine RP.bind (hp.imp fun vs S1 ⟨r, h1, h2⟩ => RP.opt ⟨.t r, ?_, h2⟩)
  unfold fz2 at h1
  obtain ⟨d, e1, h1⟩ := Option.bind_eq_some_iff.mp h1
  rw [e1, Option.bind_some, h1]; rfl
theorem src_live {S : St'} {xs : List D} : srcOf (S ++ [.lst xs]) (.o S.length) = some (.live S.length) := by simp only [srcOf, st_get]
theorem bi_live {b : Bi} {S : St'} {xs : List D} {r : D} (h : biD b [.lst xs] = some r) : bi2 b (S ++ [.lst xs]) [.o S.length] = some r := by
  simp only [bi2, peeks, peek, st_get, Option.map_some, Option.bind_some, h]
theorem rngOk_in {i : Int} (h0 : -4611686018427387904 ≤ i) (h1 : i < 4611686018427387904) : rngOk i = true := by
  unfold rngOk
  exact decide_eq_true ⟨h0, h1⟩
/-- as a test -/
def RT (r : R SV) (Pt Pf : St' → Prop) (E : EX) : Prop := RP r (fun x S1 => ∃ k, truth S1 x = some k ∧ (k = true → Pt S1) ∧ (k = false → Pf S1)) E
section
variable {F : FS} {ρ : Ev} {S : St'} {a b c e : ME} {Pt Pf : St' → Prop} {E : EX}
theorem rt_of (h : RP (evalE F a ρ S) (fun x S1 => ∃ k, truth S1 x = some k ∧ (k = true → Pt S1) ∧ (k = false → Pf S1)) E) : RT (evalE F a ρ S) Pt Pf E := h
theorem rt_and (h : RT (evalE F a ρ S) (fun S1 => RT (evalE F b ρ S1) Pt Pf E) Pf E) : RT (evalE F (.and a b) ρ S) Pt Pf E :=
  rp_and (RP.imp h fun x S1 ⟨k, h1, h2, h3⟩ => ⟨k, h1, h2, fun hk => ⟨k, h1, fun z => (by rw [hk] at z; cases z), h3⟩⟩)
theorem rt_or (h : RT (evalE F a ρ S) Pt (fun S1 => RT (evalE F b ρ S1) Pt Pf E) E) : RT (evalE F (.or a b) ρ S) Pt Pf E :=
  rp_or (RP.imp h fun x S1 ⟨k, h1, h2, h3⟩ => ⟨k, h1, fun hk => ⟨k, h1, h2, fun z => (by rw [hk] at z; cases z)⟩, h3⟩)
theorem rt_not (h : RT (evalE F a ρ S) Pf Pt E) : RT (evalE F (.not a) ρ S) Pt Pf E :=
  rp_not (RP.imp h fun x S1 ⟨k, h1, h2, h3⟩ => ⟨k, h1, !k, rfl, fun z => h3 (by simpa using z), fun z => h2 (by simpa using z)⟩)
theorem op_ifT {ss ss' : List MS} {P : Po} {nx bk ct : NX} (h : RT (evalE F c ρ S) (fun S1 => OP (execB F ss ρ S1) nx bk ct P) (fun S1 => OP (execB F ss' ρ S1) nx bk ct P) fun c p S1 => P.ex c p ρ S1) : OP (execS F (.ife c ss ss') ρ S) nx bk ct P := op_ife h
theorem rp_ifT {P : SV → St' → Prop} (h : RT (evalE F c ρ S) (fun S1 => RP (evalE F a ρ S1) P E) (fun S1 => RP (evalE F b ρ S1) P E) E) : RP (evalE F (.ife c a b) ρ S) P E := rp_ife h
end
/-! which kind of goal it is: the rules of one kind are tried for that kind alone -/
section
variable {F : FS} {ρ : Ev} {S : St'} {E : EX} {nx bk ct : NX} {Q : Po}
theorem gE {P : SV → St' → Prop} {e : ME} (h : RP (evalE F e ρ S) P E) : RP (evalE F e ρ S) P E := h
theorem gEs {P : List SV → St' → Prop} {es : List ME} (h : RP (evalEs F es ρ S) P E) : RP (evalEs F es ρ S) P E := h
theorem gP {P : Option Int → St' → Prop} {es : List ME} (h : RP (evalP F es ρ S) P E) : RP (evalP F es ρ S) P E := h
theorem gI {P : Src → St' → Prop} {it : IT} (h : RP (evalI F it ρ S) P E) : RP (evalI F it ρ S) P E := h
theorem gL {P : List D → St' → Prop} {e : ME} (h : RP (evalL F e ρ S) P E) : RP (evalL F e ρ S) P E := h
theorem gR {r : R SV} {Pt Pf : St' → Prop} (h : RT r Pt Pf E) : RT r Pt Pf E := h
theorem gB {ss : List MS} (h : OP (execB F ss ρ S) nx bk ct Q) : OP (execB F ss ρ S) nx bk ct Q := h
theorem gS {s : MS} (h : OP (execS F s ρ S) nx bk ct Q) : OP (execS F s ρ S) nx bk ct Q := h
theorem gF {P : SV → St' → Prop} {n : Nat} {v : SV} (h : RP (finish n v S) P E) : RP (finish n v S) P E := h
end
end M

/-! records, dicts, struck texts: what a run comes to -/
namespace M
open PySem PySem.Spec PyProof.Rows L2
section
variable {F : FS} {ρ : Ev} {S : St'} {a b c e w : ME} {es : List ME} {P : SV → St' → Prop} {E : EX}
theorem rp_att {f : Str} (hp : RP (evalE F a ρ S) (fun x S1 => ∃ v, attV x f = some v ∧ P v S1) E) : RP (evalE F (.att a f) ρ S) P E := by
  rw [evalE]
  exact RP.bind (hp.imp fun x S1 ⟨v, h1, h2⟩ => RP.opt ⟨v, h1, h2⟩)
theorem rp_mk {c : Str} {ns : List Str} (hp : RP (evalEs F es ρ S) (fun vs S1 => vs.length = ns.length ∧ P (.ins c ns vs) S1) E) : RP (evalE F (.mk c ns es) ρ S) P E := by
  rw [evalE]
  refine RP.bind (hp.imp fun vs S1 ⟨h1, h2⟩ => ?_)
  rw [if_pos h1]
  exact h2
theorem rp_dget {i : ME} (hp : RP (evalE F a ρ S) (fun x S1 => RP (evalE F i ρ S1) (fun y S2 => ∃ v, dgetV S2 x y = some v ∧ P v S2) E) E) : RP (evalE F (.dget a i) ρ S) P E := by
  rw [evalE]
  exact RP.bind (hp.imp fun x S1 h => RP.bind (h.imp fun y S2 ⟨v, h1, h2⟩ => RP.opt ⟨v, h1, h2⟩))
theorem rp_din {neg : Bool} {i : ME} (hp : RP (evalE F i ρ S) (fun y S1 => RP (evalE F a ρ S1) (fun x S2 => ∃ v, dinV S2 neg y x = some v ∧ P v S2) E) E) : RP (evalE F (.din neg i a) ρ S) P E := by
  rw [evalE]
  exact RP.bind (hp.imp fun x S1 h => RP.bind (h.imp fun y S2 ⟨v, h1, h2⟩ => RP.opt ⟨v, h1, h2⟩))
def gdgetV (kvs : List (Str × D)) (y : SV) : Option SV := (strV y).bind fun z => (kvs.lookup z).map .t
def gdinV (neg : Bool) (kvs : List (Str × D)) (y : SV) : Option SV := (strV y).map fun z => .t (.bl (xor neg (kvs.lookup z).isSome))
theorem rp_gdget {x : Str} {kvs : List (Str × D)} {i : ME} (hp : RP (evalE F i ρ S) (fun y S1 => ∃ v, gdgetV kvs y = some v ∧ P v S1) E) : RP (evalE F (.gdget x kvs i) ρ S) P E := by
  rw [evalE]
  exact RP.bind (hp.imp fun y S1 ⟨v, h1, h2⟩ => RP.opt ⟨v, h1, h2⟩)
theorem rp_gdin {neg : Bool} {x : Str} {kvs : List (Str × D)} {i : ME} (hp : RP (evalE F i ρ S) (fun y S1 => ∃ v, gdinV neg kvs y = some v ∧ P v S1) E) : RP (evalE F (.gdin neg x kvs i) ρ S) P E := by
  rw [evalE]
  exact RP.bind (hp.imp fun y S1 ⟨v, h1, h2⟩ => RP.opt ⟨v, h1, h2⟩)
theorem rp_callR {f : Nat} {y z : Str} (hp : RP (evalEs F es ρ S) (fun vs S1 => RP (evalE F w ρ S1) (fun v S2 => ∃ u, replV v y z = some u ∧ RP (F f (vs ++ [u]) S2) P E) E) E) : RP (evalE F (.callR f es w y z) ρ S) P E := by
  rw [evalE]
  refine RP.bind (hp.imp fun vs S1 h => RP.bind (h.imp fun v S2 ⟨u, h1, h2⟩ => RP.bind ?_))
  rw [h1, R.opt_some]
  exact h2
theorem rp_zips {P : Src → St' → Prop} (hp : RP (evalE F a ρ S) (fun v S1 => RP (evalE F b ρ S1) (fun u S2 => ∃ x ys, v = .t (.str x) ∧ u = .t (.tup ys) ∧ P (.fix (zipD (x.cps.toList.map fun c => .str ⟨#[c]⟩) ys)) S2) E) E) : RP (evalI F (.zips a b) ρ S) P E := by
  rw [evalI]
  refine RP.bind (hp.imp fun v S1 h => RP.bind (h.imp fun u S2 ⟨xs, ys, h1, h2, h3⟩ => ?_))
  subst h1; subst h2
  exact h3
end
section
variable {F : FS} {ρ : Ev} {S : St'} {a b c e : ME} {es : List ME} {P : Po} {nx bk ct : NX}
theorem op_newk {i : Nat} {ks : List Str} (h : RP (evalEs F es ρ (S ++ [.dk []])) (fun vs S1 => ∃ ρ' S2, newkO ρ i S.length ks vs S1 = .nx ρ' S2 ∧ nx ρ' S2) fun c p S1 => P.ex c p ρ S1) : OP (execS F (.newk i ks es) ρ S) nx bk ct P := by
  rw [execS]
  refine OP.of (h.imp fun vs S1 ⟨ρ', S2, h1, h2⟩ => ?_)
  rw [h1]
  exact h2
theorem op_putk {i n : Nat} {kk : ME} (hx : ρ[i]? = some (some (.o n))) (h : RP (evalE F e ρ S) (fun v S1 => ∃ d S2, grab S1 v = some (d, S2) ∧ RP (evalE F kk ρ S2) (fun kv S3 => ∃ S4, putkO ρ n d kv S3 = .nx ρ S4 ∧ nx ρ S4) fun c p S1 => P.ex c p ρ S1) fun c p S1 => P.ex c p ρ S1) : OP (execS F (.putk i kk e) ρ S) nx bk ct P := by
  rw [execS]
  refine OP.of (h.imp fun v S1 ⟨d, S2, h1, h2⟩ => ?_)
  simp only [h1, hx]
  refine OP.of (h2.imp fun kv S3 ⟨S4, e1, e2⟩ => ?_)
  rw [e1]
  exact e2
theorem op_newd {i : Nat} (h : nx (ρ.set i (some (.o S.length))) (S ++ [.dt []])) : OP (execS F (.newd i) ρ S) nx bk ct P := by
  rw [execS]
  exact h
theorem op_putd {i n : Nat} {kk : ME} (hx : ρ[i]? = some (some (.o n))) (h : RP (evalE F e ρ S) (fun v S1 => ∃ d S2, grab S1 v = some (d, S2) ∧ RP (evalE F kk ρ S2) (fun kv S3 => ∃ S4, putO ρ n d kv S3 = .nx ρ S4 ∧ nx ρ S4) fun c p S1 => P.ex c p ρ S1) fun c p S1 => P.ex c p ρ S1) : OP (execS F (.putd i kk e) ρ S) nx bk ct P := by
  rw [execS]
  refine OP.of (h.imp fun v S1 ⟨d, S2, h1, h2⟩ => ?_)
  simp only [h1, hx]
  refine OP.of (h2.imp fun kv S3 ⟨S4, e1, e2⟩ => ?_)
  rw [e1]
  exact e2
end
/-- two facts of one run -/
theorem RP.both {α : Type} {r : R α} {P Q : α → St' → Prop} (h1 : RP r P noE) (h2 : RP r Q noE) : RP r (fun a S => P a S ∧ Q a S) noE := by
  cases r with
  | ok a S => exact ⟨h1, h2⟩
  | exc c p S => exact h1
  | bad => exact h1
/-- len({e for ..}): what its source is, then what was added -/
theorem rp_lensc {F : FS} {ρ : Ev} {S : St'} {P : SV → St' → Prop} {E : EX} {e : ME} {tg : Tg} {it : IT} {cs : List ME} (hp : RP (evalI F it ρ S) (fun src S1 => RP (scSrc tg (tests (evalCs F cs)) (evalE F e) src ρ S1) (fun ks S2 => P (.t (.int ((dset ks).length : Nat))) S2) E) E) : RP (evalE F (.lensc tg it cs e) ρ S) P E := by
  rw [evalE]
  exact RP.bind (hp.imp fun src S1 h => RP.bind (h.imp fun xs S2 h => h))
theorem rp_rev {F : FS} {ρ : Ev} {S : St'} {P : SV → St' → Prop} {E : EX} {a : ME} (hp : RP (evalE F a ρ S) (fun x S1 => ∃ xs, peek S1 x = some (.lst xs) ∧ P (.t (.lst xs.reverse)) S1) E) : RP (evalE F (.rev a) ρ S) P E := by
  rw [evalE]
  refine RP.bind (hp.imp fun x S1 ⟨xs, h1, h2⟩ => ?_)
  rw [h1]
  exact h2
theorem ints_k (k : List Int) : asInts (k.map D.int) = some k := by
  induction k with
  | nil => rfl
  | cons i k ih => rw [List.map_cons, asInts, ih]; rfl
theorem rp_scM {α : Type} {F : FS} {tg : Tg} {e : ME} {ρ : Ev} {S : St'} {P : List (List Int) → St' → Prop} {E : EX} {ys : List α} (f : α → D) (k : α → List Int) (hl : ys.length ≤ 62)
    (h : ∀ y ∈ ys, ∃ ρ', bindTg tg (f y) ρ = some ρ' ∧ RP (evalE F e ρ' S) (fun x S2 => x = .t (.tup ((k y).map D.int)) ∧ S2 = S) noE)
    (hp : P (ys.map k) S) : RP (scSrc tg (tests (evalCs F [])) (evalE F e) (.fix (ys.map f)) ρ S) P E := by
  have key : ∀ (ys : List α) (acc : List (List Int)), (∀ y ∈ ys, ∃ ρ', bindTg tg (f y) ρ = some ρ' ∧ RP (evalE F e ρ' S) (fun x S2 => x = .t (.tup ((k y).map D.int)) ∧ S2 = S) noE) → acc.length + ys.length ≤ 62 → scFix tg (tests (evalCs F [])) (evalE F e) (ys.map f) acc ρ S = .ok (acc ++ ys.map k) S := by
    intro ys
    induction ys with
    | nil => intro acc _ _; simp [scFix]
    | cons y ys ih =>
      intro acc h hl
      obtain ⟨ρ', h1, h2⟩ := h y List.mem_cons_self
      obtain ⟨x, S2, e2, rfl, rfl⟩ := RP.get h2
      simp only [List.length_cons] at hl
      have hlt : acc.length + 1 < 64 := by omega
      rw [List.map_cons, scFix, scTurn, h1]
      simp only [evalCs, tests, R.nox_ok, R.bind_ok, if_true, e2, scAdd, ints_k, hlt]
      have := ih (acc ++ [k y]) (fun y hy => h y (List.mem_cons_of_mem _ hy)) (by simp; omega)
      simp only [evalCs, tests] at this
      rw [this]
      simp
  unfold scSrc
  exact RP.eq (key ys [] h (by simpa using hl)) (by simpa using hp)
theorem rp_dvals {F : FS} {ρ : Ev} {S : St'} {P : SV → St' → Prop} {E : EX} {i j n : Nat} {kvs : List (List Key × D)} (hx : ρ[i]? = some (some (.o n))) (hS : S[n]? = some (.dt kvs)) (hl : kvs.length < 16777216) (h : P (.t (.lst (kvs.map (·.2)))) S) : RP (evalE F (.dvals i j) ρ S) P E := by
  rw [evalE, hx]
  simp only [hS, lt_sz hl, if_true]
  exact h
section
variable {F : FS} {ρ : Ev} {S : St'} {a : ME} {es : List ME} {P : SV → St' → Prop} {E : EX}
theorem RP.nox0 {α : Type} {r : R α} {P : α → St' → Prop} {E : EX} (h : RP r P noE) : RP r.nox P E := by
  cases r with
  | ok a S => exact h
  | exc c p S => exact h.elim
  | bad => exact h
theorem rp_obT (h : P (.o S.length) (S ++ [.dt []])) : RP (evalE F .obT ρ S) P E := by rw [evalE]; exact h
theorem rp_kd0 (h : P (.kd []) S) : RP (evalE F .kd0 ρ S) P E := by rw [evalE]; exact h
theorem rp_callK {f : Nat} (hp : RP (evalEs F es ρ S) (fun vs S1 => RP (evalE F a ρ S1) (fun v S2 => RP (F f (vs ++ [v]) S2) P noE) E) E) : RP (evalE F (.callK f es a) ρ S) P E := by
  rw [evalE]
  exact RP.bind (hp.imp fun vs S1 h => RP.bind (h.imp fun v S2 h => h.nox0))
theorem rp_callD {f : Nat} {d : D} (hp : RP (evalEs F es ρ S) (fun vs S1 => RP (F f (vs ++ [.t d]) S1) P noE) E) : RP (evalE F (.callD f es d) ρ S) P E := by
  rw [evalE]
  exact RP.bind (hp.imp fun vs S1 h => h.nox0)
theorem rp_dc {tg : Tg} {it : IT} {cs : List ME} {k v : ME} (hp : RP (evalI F it ρ S) (fun src S1 => RP (dcSrc tg (tests (evalCs F cs)) (evalE F k) (evalE F v) src ρ S1) (fun kvs S2 => P (.kd kvs) S2) E) E) : RP (evalE F (.dc tg it cs k v) ρ S) P E := by
  rw [evalE]
  exact RP.bind (hp.imp fun src S1 h => RP.bind (h.imp fun xs S2 h => h))
theorem op_putt {i n : Nat} {kk : List ME} {e : ME} {P : Po} {nx bk ct : NX} (hx : ρ[i]? = some (some (.o n))) (h : RP (evalE F e ρ S) (fun v S1 => ∃ d S2, grab S1 v = some (d, S2) ∧ RP (evalEs F kk ρ S2) (fun kv S3 => ∃ S4, puttO ρ n d kv S3 = .nx ρ S4 ∧ nx ρ S4) fun c p S1 => P.ex c p ρ S1) fun c p S1 => P.ex c p ρ S1) : OP (execS F (.putt i kk e) ρ S) nx bk ct P := by
  rw [execS]
  refine OP.of (h.imp fun v S1 ⟨d, S2, h1, h2⟩ => ?_)
  simp only [h1, hx]
  refine OP.of (h2.imp fun kv S3 ⟨S4, e1, e2⟩ => ?_)
  rw [e1]
  exact e2
/-- a dict by key and value of each -/
theorem rp_dcM {α : Type} {tg : Tg} {ke ve : ME} {P : List (Key × D) → St' → Prop} {ys : List α} (f : α → D) (k : α → Key) (v : α → D) (hl : ys.length ≤ 1000)
    (h : ∀ y ∈ ys, ∀ acc, ∃ ρ', bindTg tg (f y) ρ = some ρ' ∧ RP (evalE F ke ρ' (S ++ [.dk acc])) (fun x S2 => keyV x = some (k y) ∧ S2 = S ++ [.dk acc]) noE ∧ RP (evalE F ve ρ' (S ++ [.dk acc])) (fun x S2 => x = .t (v y) ∧ S2 = S ++ [.dk acc]) noE)
    (hp : P (ys.foldl (fun acc y => putKD acc (k y) (v y)) []) S) : RP (dcSrc tg (tests (evalCs F [])) (evalE F ke) (evalE F ve) (.fix (ys.map f)) ρ S) P E := by
  have hk : ∀ (acc : List (Key × D)) (y : Key) (x : D), (putKD acc y x).length ≤ acc.length + 1 := fun acc y x => by
    unfold putKD
    split <;> simp
  have key : ∀ (ys : List α) (acc : List (Key × D)), (∀ y ∈ ys, ∀ acc, ∃ ρ', bindTg tg (f y) ρ = some ρ' ∧ RP (evalE F ke ρ' (S ++ [.dk acc])) (fun x S2 => keyV x = some (k y) ∧ S2 = S ++ [.dk acc]) noE ∧ RP (evalE F ve ρ' (S ++ [.dk acc])) (fun x S2 => x = .t (v y) ∧ S2 = S ++ [.dk acc]) noE) → acc.length + ys.length ≤ 1000 →
      dcFix tg (tests (evalCs F [])) (evalE F ke) (evalE F ve) S.length (ys.map f) ρ (S ++ [.dk acc]) = .ok (ys.foldl (fun acc y => putKD acc (k y) (v y)) acc) S := by
    intro ys
    induction ys with
    | nil => intro acc _ _; simp only [List.map_nil, dcFix, dcEnd, st_get, List.foldl_nil, List.take_left]
    | cons y ys ih =>
      intro acc h hl
      obtain ⟨ρ', h1, h2, h3⟩ := h y List.mem_cons_self acc
      obtain ⟨x, S2, e2, h4, rfl⟩ := RP.get h2
      obtain ⟨z, S3, e3, rfl, rfl⟩ := RP.get h3
      simp only [List.length_cons] at hl
      have hlt : acc.length < sizeLine := lt_sz (by omega)
      rw [List.map_cons, dcFix, dcTurn, h1]
      simp only [evalCs, tests, R.nox_ok, R.bind_ok, if_true, e2, h4, R.opt_some, e3, dcPut, grab, st_get, hlt, st_set]
      have := ih (putKD acc (k y) (v y)) (fun y hy => h y (List.mem_cons_of_mem _ hy)) (by have := hk acc (k y) (v y); omega)
      simp only [evalCs, tests] at this
      rw [this, List.foldl_cons]
  unfold dcSrc
  exact RP.eq (key ys [] h (by simpa using hl)) hp
end
theorem fin_set {S : St'} {j : Nat} {o : O} {d : D} {P : SV → St' → Prop} {E : EX} (h : P (.t d) (S.set j o)) : RP (finish S.length (.t d) (S.set j o)) P E := by
  unfold finish
  rw [List.take_of_length_le (by simp)]
  exact h
theorem finKo {S : St'} {kvs : List (Key × D)} {P : SV → St' → Prop} {E : EX} (h : P (.kd kvs) S) : RP (finish S.length (.o S.length) (S ++ [.dk kvs])) P E := by
  unfold finish; simp only [Nat.lt_irrefl, if_false, st_get, List.take_left]; exact h
theorem finK0 {S : St'} {kvs : List (Key × D)} {P : SV → St' → Prop} {E : EX} (h : P (.kd kvs) S) : RP (finish S.length (.kd kvs) S) P E := by
  unfold finish; rw [List.take_length]; exact h
theorem op_tpl {F : FS} {ρ : Ev} {S : St'} {e : ME} {P : Po} {nx bk ct : NX} {is : List Nat} (h : RP (evalE F e ρ S) (fun v S1 => ∃ ds ρ', v = .t (.lst ds) ∧ setTg is ds ρ = some ρ' ∧ nx ρ' S1) fun c p S1 => P.ex c p ρ S1) : OP (execS F (.asg (.tp is) e) ρ S) nx bk ct P := by
  rw [execS]
  refine OP.of (h.imp fun v S1 ⟨ds, ρ', h1, h2, h3⟩ => ?_)
  subst h1
  unfold tpO
  simp only [h2]
  exact h3
theorem op_insl {F : FS} {ρ : Ev} {S : St'} {k e : ME} {P : Po} {nx bk ct : NX} {i n : Nat} {xs : List D} (hx : ρ[i]? = some (some (.o n))) (hS : S[n]? = some (.lst xs)) (h : RP (evalE F k ρ S) (fun kv S1 => RP (evalE F e ρ S1) (fun v S2 => ∃ S4, inslO ρ n kv v S2 = .nx ρ S4 ∧ nx ρ S4) fun c p S1 => P.ex c p ρ S1) fun c p S1 => P.ex c p ρ S1) : OP (execS F (.insl i k e) ρ S) nx bk ct P := by
  rw [execS]
  simp only [hx, hS]
  refine OP.of (h.imp fun kv S1 h => OP.of (h.imp fun v S2 ⟨S4, e1, e2⟩ => ?_))
  rw [e1]
  exact e2
end M

local macro_rules
  | `(tactic| exists $es,*) => do
    let h := Lean.mkIdent `h
    let ft := Lean.mkIdent `M.f_t
    let tf := Lean.mkIdent `M.t_f
    let wq := es.getElems[0]!.raw.isNatLit? == some 1
    let mut rules : Array (Lean.TSyntax ``Lean.Parser.Tactic.tacticSeq) := #[]
    let mut facts : Array (Lean.TSyntax ``Lean.Parser.Tactic.tacticSeq) := #[]
    for e in es.getElems.extract 1 es.getElems.size do
      match e with
      | `(no_index $r) => rules := rules.push (← `(Lean.Parser.Tactic.tacticSeq| refine $r))
      | _ => facts := facts.push (← `(Lean.Parser.Tactic.tacticSeq| refine ⟨_, $e, ?_⟩))
    let kinds : Array (Lean.TSyntax ``Lean.Parser.Tactic.tacticSeq) := #[← `(Lean.Parser.Tactic.tacticSeq| (with_reducible refine M.gE ?_; first | with_reducible refine M.rp_var (by with_unfolding_all rfl) ?_ | with_reducible refine M.rp_lit ?_ | with_reducible refine M.rp_idx ?_ | with_reducible refine M.rp_call ?_ | with_reducible refine M.rp_bin ?_ | with_reducible refine M.rp_cmp ?_ | with_reducible refine M.rp_bi ?_ | with_reducible refine M.rp_glb ?_ | with_reducible refine M.rp_slc ?_ | with_reducible refine M.rp_and ?_ | with_reducible refine M.rp_or ?_ | with_reducible refine M.rp_not ?_ | with_reducible refine M.rp_tup ?_ | with_reducible refine M.rp_isi ?_ | with_reducible refine M.rp_lst ?_ | with_reducible refine M.rp_lc ?_ | with_reducible refine M.rp_ifT ?_ | with_reducible refine M.rp_isit ?_ | with_reducible refine M.rp_mth ?_ | with_reducible refine M.rp_cmp2 ?_ | with_reducible refine M.rp_neg ?_ | with_reducible refine M.rp_fz ?_ | with_reducible refine M.rp_lensc ?_ | with_reducible refine M.rp_rev ?_ | with_reducible refine M.rp_att ?_ | with_reducible refine M.rp_mk ?_ | with_reducible refine M.rp_dget ?_ | with_reducible refine M.rp_din ?_ | with_reducible refine M.rp_gdget ?_ | with_reducible refine M.rp_gdin ?_ | with_reducible refine M.rp_callR ?_ | with_reducible refine M.rp_obT ?_ | with_reducible refine M.rp_kd0 ?_ | with_reducible refine M.rp_callK ?_ | with_reducible refine M.rp_callD ?_ | with_reducible refine M.rp_dc ?_)),
      ← `(Lean.Parser.Tactic.tacticSeq| (with_reducible refine M.gEs ?_; first | with_reducible refine M.rp_cons ?_ | with_reducible refine M.rp_nil ?_)),
      ← `(Lean.Parser.Tactic.tacticSeq| (with_reducible refine M.gR ?_; first | with_reducible refine M.rt_and ?_ | with_reducible refine M.rt_or ?_ | with_reducible refine M.rt_not ?_ | with_reducible refine M.rt_of ?_)),
      ← `(Lean.Parser.Tactic.tacticSeq| (with_reducible refine M.gB ?_; first | with_reducible refine M.op_nil ?_ | with_reducible refine M.op_norm (by simp only [List.set_cons_succ, List.set_cons_zero, List.map_cons, List.map_nil, List.cons_append, List.nil_append]; rfl) (M.op_cons ?_) | with_reducible refine M.op_cons ?_)),
      ← `(Lean.Parser.Tactic.tacticSeq| (with_reducible refine M.gS ?_; first | with_reducible refine M.op_asg ?_ | with_reducible refine M.op_ifT ?_ | with_reducible refine M.op_ret ?_ | with_reducible refine M.op_new ?_ | with_reducible refine M.op_app (by with_unfolding_all rfl) (by first | exact M.st_get | exact M.st_get2) ?_ | with_reducible refine M.op_for ?_ | with_reducible refine M.op_aug (by with_unfolding_all rfl) (by decide) ?_ | with_reducible refine M.op_par ?_ | with_reducible refine M.op_tp ?_ | with_reducible refine M.op_seti (by with_unfolding_all rfl) ?_ | with_reducible refine M.op_expr ?_ | with_reducible refine M.op_newk ?_ | with_reducible refine M.op_putk (by with_unfolding_all rfl) ?_ | with_reducible refine M.op_putt (by with_unfolding_all rfl) ?_ | with_reducible refine M.op_doc ?_ | with_reducible refine M.op_pass ?_ | with_reducible refine M.op_retN ?_)),
      ← `(Lean.Parser.Tactic.tacticSeq| (with_reducible refine M.gP ?_; first | with_reducible refine M.rp_p0 ?_ | with_reducible refine M.rp_p1 ?_)),
      ← `(Lean.Parser.Tactic.tacticSeq| (with_reducible refine M.gI ?_; first | with_reducible refine M.rp_of ?_ | with_reducible refine M.rp_r1 ?_ | with_reducible refine M.rp_r2 ?_ | with_reducible refine M.rp_enum ?_ | with_reducible refine M.rp_zip ?_ | with_reducible refine M.rp_zips ?_)),
      ← `(Lean.Parser.Tactic.tacticSeq| (with_reducible refine M.gL ?_; first | with_reducible refine M.rp_lcL ?_ | with_reducible refine M.rp_lstL ?_ | with_reducible refine M.rp_catL ?_ | with_reducible refine M.rp_listL ?_)),
      ← `(Lean.Parser.Tactic.tacticSeq| (with_reducible refine M.gF ?_; first | with_reducible refine M.fin0 ?_ | with_reducible refine M.fin1 ?_ | with_reducible refine M.fino1 ?_ | with_reducible refine M.fin2 ?_ | with_reducible refine M.fin_set ?_ | with_reducible refine M.finKo ?_ | with_reducible refine M.finK0 ?_)),
      ← `(Lean.Parser.Tactic.tacticSeq| with_reducible refine M.rp_t0 ?_),
      ← `(Lean.Parser.Tactic.tacticSeq| with_reducible refine M.rp_t1 ?_)]
    let ends : Array (Lean.TSyntax ``Lean.Parser.Tactic.tacticSeq) ← if wq then pure #[← `(Lean.Parser.Tactic.tacticSeq| refine ⟨_, _, _, _, rfl, M.st_get, M.lt_sz (by first | omega | (simp only [List.length_map, List.length_append, List.length_cons, List.length_nil]; omega)), M.st_set, ?_⟩),
      ← `(Lean.Parser.Tactic.tacticSeq| refine ⟨_, rfl, M.rngOk_in (by omega) (by omega), ?_⟩),
      ← `(Lean.Parser.Tactic.tacticSeq| refine ⟨_, M.src_live, ?_⟩),
      ← `(Lean.Parser.Tactic.tacticSeq| refine ⟨_, M.bi_live rfl, ?_⟩),
      ← `(Lean.Parser.Tactic.tacticSeq| (refine ⟨_, rfl, fun $h:ident => ?_, fun $h:ident => ?_⟩ <;> try (first | exact absurd $h:ident (by decide) | exact ($ft:ident $h:ident).elim | exact ($tf:ident $h:ident).elim))),
      ← `(Lean.Parser.Tactic.tacticSeq| refine ⟨_, rfl, ?_⟩),
      ← `(Lean.Parser.Tactic.tacticSeq| refine ⟨_, if_pos (by first | assumption | omega), ?_⟩),
      ← `(Lean.Parser.Tactic.tacticSeq| refine ⟨_, _, rfl, M.le_sz rfl, ?_⟩),
      ← `(Lean.Parser.Tactic.tacticSeq| refine ⟨_, _, rfl, rfl, ?_⟩),
      ← `(Lean.Parser.Tactic.tacticSeq| refine ⟨_, _, rfl, if_pos (by first | assumption | omega), ?_⟩),
      ← `(Lean.Parser.Tactic.tacticSeq| refine ⟨_, rfl, rfl, ?_⟩),
      ← `(Lean.Parser.Tactic.tacticSeq| refine ⟨rfl, ?_⟩),
      ← `(Lean.Parser.Tactic.tacticSeq| exact rfl),
      ← `(Lean.Parser.Tactic.tacticSeq| dsimp only)] else pure #[← `(Lean.Parser.Tactic.tacticSeq| refine ⟨_, _, _, _, rfl, M.st_get, M.lt_sz (by first | omega | (simp only [List.length_map, List.length_append, List.length_cons, List.length_nil]; omega)), M.st_set, ?_⟩),
      ← `(Lean.Parser.Tactic.tacticSeq| refine ⟨_, rfl, M.rngOk_in (by omega) (by omega), ?_⟩),
      ← `(Lean.Parser.Tactic.tacticSeq| refine ⟨_, M.src_live, ?_⟩),
      ← `(Lean.Parser.Tactic.tacticSeq| refine ⟨_, M.bi_live rfl, ?_⟩),
      ← `(Lean.Parser.Tactic.tacticSeq| (refine ⟨_, rfl, fun $h:ident => ?_, fun $h:ident => ?_⟩ <;> try (exact absurd $h:ident (by decide)))),
      ← `(Lean.Parser.Tactic.tacticSeq| refine ⟨_, rfl, ?_⟩),
      ← `(Lean.Parser.Tactic.tacticSeq| refine ⟨_, if_pos (by first | assumption | omega), ?_⟩),
      ← `(Lean.Parser.Tactic.tacticSeq| refine ⟨_, _, rfl, M.le_sz rfl, ?_⟩),
      ← `(Lean.Parser.Tactic.tacticSeq| refine ⟨_, _, rfl, rfl, ?_⟩),
      ← `(Lean.Parser.Tactic.tacticSeq| refine ⟨_, _, rfl, if_pos (by first | assumption | omega), ?_⟩),
      ← `(Lean.Parser.Tactic.tacticSeq| refine ⟨_, rfl, rfl, ?_⟩),
      ← `(Lean.Parser.Tactic.tacticSeq| refine ⟨rfl, ?_⟩),
      ← `(Lean.Parser.Tactic.tacticSeq| exact rfl),
      ← `(Lean.Parser.Tactic.tacticSeq| dsimp only)]
    let all := rules ++ kinds ++ facts ++ ends
    `(tactic| repeat' (first $[| $all]*))

/-! the laws' own defs that most laws share: what they come to -/
namespace M
open PySem PySem.Spec PyProof.Rows L2
def f__law_cell_at : Fn := ⟨2, 2,
  [(.ife (.cmp .lt (.var 1) (.bi .len [(.var 0)])) [(.ret (.idx (.var 0) (.var 1)))] []),
  (.ret (.lit (D.int 0)))]⟩
def f__law_draws : Fn := ⟨3, 7,
  [(.new 3 (.lst [])),
  (.asg (.v 4) (.bin .mul (.var 0) (.bi .int [(.cmp .ge (.var 0) (.bin .pow (.lit (D.int 10)) (.lit (D.int 18))))]))),
  (.asg (.v 5) (.bin .mod (.var 0) (.lit (D.int 2305843009213693951)))),
  (.for_ (.v 6) (.range1 (.bin .add (.var 1) (.lit (D.int 3)))) [(.asg (.v 5) (.bin .mod (.bin .add (.bin .add (.bin .add (.bin .mul (.var 5) (.var 5)) (.bin .mul (.lit (D.int 48271)) (.var 5))) (.var 6)) (.lit (D.int 1))) (.lit (D.int 2305843009213693951)))),
  (.ife (.and (.cmp .gt (.var 6) (.lit (D.int 2))) (.cmp .gt (.var 4) (.lit (D.int 0)))) [(.app 3 (.bin .mod (.var 4) (.var 2))),
  (.asg (.v 4) (.bin .fdiv (.var 4) (.var 2)))] [(.ife (.cmp .gt (.var 6) (.lit (D.int 2))) [(.app 3 (.bin .mod (.bin .fdiv (.var 5) (.lit (D.int 4096))) (.var 2)))] [])])]),
  (.ret (.var 3))]⟩
def f__law_name : Fn := ⟨2, 10,
  [(.asg (.v 2) (.lit (D.str "abcdefghijklmnopqrstuvwxyz"))),
  (.asg (.v 3) (.bin .add (.bin .mul (.bin .add (.bin .mul (.bin .add (.bin .mul (.idx (.var 0) (.lit (D.int 1))) (.lit (D.int 1000))) (.idx (.var 0) (.lit (D.int 2)))) (.lit (D.int 1000))) (.idx (.var 0) (.lit (D.int 3)))) (.lit (D.int 1000))) (.idx (.var 0) (.lit (D.int 4))))),
  (.asg (.v 4) (.lit (D.str ""))),
  (.for_ (.v 5) (.range1 (.bin .add (.lit (D.int 1)) (.bin .mod (.idx (.var 0) (.lit (D.int 0))) (.lit (D.int 8))))) [(.asg (.v 4) (.bin .add (.var 4) (.idx (.var 2) (.bin .mod (.var 3) (.lit (D.int 26)))))),
  (.asg (.v 3) (.bin .fdiv (.var 3) (.lit (D.int 26))))]),
  (.asg (.v 6) (.lit (D.str "rows view where keep named pairs both less count seal and or not mine empty loud yes has"))),
  (.asg (.v 7) (.bin .add (.lst [(.var 4)]) (.lc (.v 8) (.of (.var 2)) [] (.bin .add (.bin .add (.slc (.var 4) [] [(.lit (D.int 6))]) (.var 8)) (.lit (D.str "z")))))),
  (.ret (.idx (.lc (.v 9) (.of (.var 7)) [(.and (.cmp .notin (.var 9) (.var 1)) (.cmp .notin (.var 9) (.mth .split (.var 6) [(.lit (D.str " "))])))] (.var 9)) (.lit (D.int 0))))]⟩
def f__law_columns (i__law_name : Nat) : Fn := ⟨3, 10,
  [(.new 3 (.lst [])),
  (.asg (.v 4) (.lit (D.int 1))),
  (.for_ (.v 5) (.range1 (.var 1)) [(.asg (.v 6) (.slc (.var 0) [(.bin .mul (.lit (D.int 7)) (.var 5))] [(.bin .add (.bin .mul (.lit (D.int 7)) (.var 5)) (.lit (D.int 7)))])),
  (.asg (.v 7) (.bin .add (.lit (D.int 1)) (.bin .mod (.idx (.var 6) (.lit (D.int 5))) (.bi .min [(.lit (D.int 10)), (.bin .fdiv (.var 2) (.var 4))])))),
  (.asg (.v 8) (.or (.cmp .eq (.var 7) (.lit (D.int 10))) (.and (.cmp .gt (.var 7) (.lit (D.int 1))) (.cmp .eq (.bin .mod (.idx (.var 6) (.lit (D.int 6))) (.lit (D.int 3))) (.lit (D.int 0)))))),
  (.app 3 (.tup [(.call i__law_name [(.var 6), (.lc (.v 9) (.of (.var 3)) [] (.idx (.var 9) (.lit (D.int 0))))]), (.bin .sub (.var 7) (.bi .int [(.var 8)])), (.var 8)])),
  (.asg (.v 4) (.bin .mul (.var 4) (.var 7)))]),
  (.ret (.tup [(.bi .tuple [(.var 3)]), (.var 4)]))]⟩
def f__law_ground (i__law_columns i__law_name : Nat) : Fn := ⟨2, 11,
  [(.new 2 (.lst [])),
  (.asg (.v 3) (.var 1)),
  (.for_ (.v 4) (.range1 (.bin .add (.lit (D.int 1)) (.bin .mod (.idx (.var 0) (.lit (D.int 0))) (.lit (D.int 4))))) [(.asg (.v 5) (.slc (.var 0) [(.bin .add (.lit (D.int 1)) (.bin .mul (.lit (D.int 36)) (.var 4)))] [(.bin .add (.lit (D.int 37)) (.bin .mul (.lit (D.int 36)) (.var 4)))])),
  (.ife (.cmp .gt (.var 3) (.lit (D.int 0))) [(.asg (.tp [6, 7]) (.call i__law_columns [(.slc (.var 5) [(.lit (D.int 7))] []), (.bin .add (.lit (D.int 1)) (.bin .mod (.idx (.var 5) (.lit (D.int 5))) (.lit (D.int 4)))), (.var 3)])),
  (.asg (.v 8) (.ife (.bi .any [(.lc (.v 10) (.of (.var 6)) [] (.idx (.var 10) (.lit (D.int 2))))]) (.mth .index (.lc (.v 10) (.of (.var 6)) [] (.idx (.var 10) (.lit (D.int 2)))) [(.lit (D.bl true))]) (.bi .len [(.var 6)]))),
  (.asg (.v 9) (.call i__law_name [(.var 5), (.lc (.v 10) (.of (.var 2)) [] (.idx (.var 10) (.lit (D.int 0))))])),
  (.app 2 (.tup [(.var 9), (.bin .mod (.idx (.var 5) (.lit (D.int 6))) (.bin .add (.var 8) (.lit (D.int 1)))), (.var 6)])),
  (.asg (.v 3) (.bin .sub (.var 3) (.var 7)))] [])]),
  (.ret (.bi .tuple [(.bi .sorted [(.var 2)])]))]⟩

theorem rangeD_nil {lo hi : Int} (h : hi ≤ lo) : rangeD lo hi = [] := by
  unfold rangeD
  rw [show (hi - lo).toNat = 0 by omega]; rfl
theorem rangeD_cons {lo hi : Int} (h : lo < hi) : rangeD lo hi = .int lo :: rangeD (lo + 1) hi := by
  unfold rangeD
  obtain ⟨n, hn⟩ : ∃ n, (hi - lo).toNat = n + 1 := ⟨(hi - lo).toNat - 1, by omega⟩
  rw [hn, show (hi - (lo + 1)).toNat = n by omega, List.range_succ_eq_map, List.map_cons, List.map_map]
  congr 1
  · simp
  · apply List.map_congr_left
    intro k _
    simp only [Function.comp]
    congr 1
    omega
theorem draws_ok {T : List Fn} {i : Nat} (hT : T[i]? = some f__law_draws) (n : Nat) (c many base : Int) (hm : 0 ≤ many ∧ many ≤ 1000000) (hb : 0 < base ∧ base < 1073741824) (S : St') :
    RP (FT T (n + 1) i [.t (.int c), .t (.int many), .t (.int base)] S) (fun v S' => S' = S ∧ ∃ ds : List Int, v = .t (.lst (ds.map .int)) ∧ ds.length = many.toNat ∧ (∀ x ∈ ds, 0 ≤ x ∧ x < base)) noE := by
  refine rp_fn hT rfl rfl ?_
  simp only [f__law_draws, pad]
  exists 0
  refine op_fix (fun l ρ S' => ∃ (k r st : Int) (acc : List Int) (kk : Option SV), 0 ≤ k ∧ k ≤ many + 3 ∧ l = rangeD k (many + 3) ∧ ρ = [some (.t (.int c)), some (.t (.int many)), some (.t (.int base)), some (.o S.length), some (.t (.int r)), some (.t (.int st)), kk] ∧ S' = S ++ [.lst (acc.map .int)] ∧ 0 ≤ r ∧ (0 ≤ st ∧ st < 2305843009213693951) ∧ (acc.length : Int) = max 0 (k - 3) ∧ (∀ x ∈ acc, 0 ≤ x ∧ x < base)) ?_ ?_ ?_
  · refine ⟨0, _, _, [], none, by omega, by omega, rfl, rfl, rfl, ?_, ⟨Int.emod_nonneg _ (by decide), Int.emod_lt_of_pos _ (by decide)⟩, by rfl, by simp⟩
    split
    · rename_i h
      have := of_decide_eq_true h
      simp at this ⊢
      omega
    · simp
  · rintro d ds ρ S' ⟨k, r, st, acc, kk, hk0, hk, hl, rfl, rfl, hr, hst, ha, hx⟩
    have hlt : k < many + 3 := by
      rcases Int.lt_or_le k (many + 3) with h | h
      · exact h
      · rw [rangeD_nil h] at hl; cases hl
    rw [rangeD_cons hlt] at hl
    cases hl
    refine ⟨_, rfl, ?_⟩
    have hmd : 0 ≤ (st * st + 48271 * st + k + 1) % 2305843009213693951 ∧ (st * st + 48271 * st + k + 1) % 2305843009213693951 < 2305843009213693951 := ⟨Int.emod_nonneg _ (by decide), Int.emod_lt_of_pos _ (by decide)⟩
    have hA : acc.length < 10000000 := by omega
    exists 0
    all_goals (try simp only [decide_eq_true_eq, decide_eq_false_iff_not, Int.not_lt, Int.not_le, bne_iff_ne, ne_eq, Bool.not_eq_true', Bool.not_eq_false'] at *)
    all_goals (try (exfalso; omega))
    · refine ⟨k + 1, r / base, _, acc ++ [r % base], _, by omega, by omega, rfl, rfl, by simp, Int.ediv_nonneg hr (by omega), hmd, by simp; omega, ?_⟩
      intro x hx'
      rcases List.mem_append.mp hx' with hx' | hx'
      · exact hx x hx'
      · cases List.mem_singleton.mp hx'
        exact ⟨Int.emod_nonneg _ (by omega), Int.emod_lt_of_pos _ (by omega)⟩
    · refine ⟨k + 1, r, _, acc ++ [(st * st + 48271 * st + k + 1) % 2305843009213693951 / 4096 % base], _, by omega, by omega, rfl, rfl, by simp, hr, hmd, by simp; omega, ?_⟩
      intro x hx'
      rcases List.mem_append.mp hx' with hx' | hx'
      · exact hx x hx'
      · cases List.mem_singleton.mp hx'
        exact ⟨Int.emod_nonneg _ (by omega), Int.emod_lt_of_pos _ (by omega)⟩
    · exact ⟨k + 1, r, _, acc, _, by omega, by omega, rfl, rfl, rfl, hr, hmd, by omega, hx⟩
  · rintro ρ S' ⟨k, r, st, acc, kk, hk0, hk, hl, rfl, rfl, hr, hst, ha, hx⟩
    have hk : k = many + 3 := by
      rcases Int.lt_or_le k (many + 3) with h | h
      · rw [rangeD_cons h] at hl; cases hl
      · omega
    subst hk
    exists 0
    exact ⟨by omega, hx⟩
end M

/-! names of the laws' grounds -/
namespace M
open PySem PySem.Spec PyProof.Rows L2

/-! ### data that can be compared -/
def Ok (k : Nat) (d : D) : Prop := (toPy d).canLay0 = true ∧ (toPy d).depth ≤ k
theorem Ok.okD {k : Nat} {d : D} (h : Ok k d) (hk : k ≤ 64) : okD d = true := by
  unfold M.okD SeqAt.shaped
  rw [h.1, Bool.true_and]
  exact decide_eq_true (Nat.le_trans h.2 hk)
theorem Ok.non {k : Nat} : Ok k .non := ⟨by simp [toPy, PyData.canLay0], by simp [toPy, PyData.depth]⟩
theorem Ok.bl {k : Nat} (b : Bool) : Ok k (.bl b) := ⟨by simp [toPy, PyData.canLay0], by simp [toPy, PyData.depth]⟩
theorem Ok.int {k : Nat} (b : Int) : Ok k (.int b) := ⟨by simp [toPy, PyData.canLay0], by simp [toPy, PyData.depth]⟩
theorem Ok.str {k : Nat} {x : Str} (h : PyData.strOk x = true) : Ok k (.str x) := ⟨by simpa [toPy, PyData.canLay0] using h, by simp [toPy, PyData.depth]⟩
theorem oks {k : Nat} : ∀ {xs : List D}, (∀ x ∈ xs, Ok k x) → PyData.canLayAll0 (toPys xs) = true ∧ PyData.depthAll (toPys xs) ≤ k
  | [], _ => ⟨by simp [toPys, PyData.canLayAll0], by simp [toPys, PyData.depthAll]⟩
  | x :: xs, h => by
    have h1 := h x List.mem_cons_self
    have h2 := oks (k := k) (xs := xs) fun y hy => h y (List.mem_cons_of_mem _ hy)
    refine ⟨by simp only [toPys, PyData.canLayAll0, h1.1, h2.1, Bool.and_self], ?_⟩
    simp only [toPys, PyData.depthAll]
    have := h1.2
    have := h2.2
    omega
theorem Ok.lst {k : Nat} {xs : List D} (h : ∀ x ∈ xs, Ok k x) : Ok (k + 1) (.lst xs) := by
  have := oks h
  exact ⟨by simpa only [toPy, PyData.canLay0] using this.1, by simpa only [toPy, PyData.depth, Nat.add_le_add_iff_right] using this.2⟩
theorem Ok.tup {k : Nat} {xs : List D} (h : ∀ x ∈ xs, Ok k x) : Ok (k + 1) (.tup xs) := by
  have := oks h
  exact ⟨by simpa only [toPy, PyData.canLay0] using this.1, by simpa only [toPy, PyData.depth, Nat.add_le_add_iff_right] using this.2⟩
theorem Ok.mono {k j : Nat} {d : D} (h : Ok k d) (hk : k ≤ j) : Ok j d := ⟨h.1, Nat.le_trans h.2 hk⟩

/-! ### texts -/
abbrev LTR : Str := "abcdefghijklmnopqrstuvwxyz"
abbrev BAR : Str := "rows view where keep named pairs both less count seal and or not mine empty loud yes has"
def barred : List Str := ["rows", "view", "where", "keep", "named", "pairs", "both", "less", "count", "seal", "and", "or", "not", "mine", "empty", "loud", "yes", "has"]
theorem split_bar : Txt.split BAR " " = barred := by decide +kernel
theorem ltr_list : LTR.cps.toList = (List.range 26).map (97 + ·) := by decide +kernel
theorem len_list (x : Str) : x.length = x.cps.toList.length := by simp [Str.length]
theorem app_list (x y : Str) : (x ++ y).cps.toList = x.cps.toList ++ y.cps.toList := by
  show (Str.append x y).cps.toList = _
  simp [Str.append]
def Lw (w : Str) : Prop := ∀ c ∈ w.cps.toList, 97 ≤ c ∧ c ≤ 122
theorem Lw.ok {w : Str} (h : Lw w) : PyData.strOk w = true := by
  unfold PyData.strOk
  rw [Array.all_eq_true]
  intro i hi
  have := h (w.cps[i]) (by simp)
  simp only [decide_eq_true_eq]
  omega
theorem ltr_at {j : Int} (h0 : 0 ≤ j) (h1 : j < 26) : idxD (.str LTR) (.int j) = some (.str ⟨#[97 + j.toNat]⟩) := by
  obtain ⟨k, rfl⟩ := Int.eq_ofNat_of_zero_le h0
  have hk : k < 26 := by omega
  have e : atI LTR.cps.toList ((k : Nat) : Int) = some (97 + k) := by
    apply L2.atI_nat
    rw [ltr_list]
    simp [hk]
  have hs : LTR.length ≤ sizeLine := by decide +kernel
  simp only [idxD, hs, if_true, e]
  rfl
theorem cut6 (w : Str) : (cutS w none (some 6)).cps.toList = w.cps.toList.take 6 := by
  unfold cutS
  simp only [HT.sIx]
  rw [if_neg (by decide)]
  simp only [List.drop_zero, Nat.sub_zero, len_list]
  show List.take (min 6 _) _ = _
  rw [List.take_eq_take_iff]
  omega
theorem nodup_le {α : Type} [DecidableEq α] : ∀ {l ts : List α}, l.Nodup → (∀ x ∈ l, x ∈ ts) → l.length ≤ ts.length
  | [], _, _, _ => Nat.zero_le _
  | x :: l, ts, hn, hs => by
    obtain ⟨h1, h2⟩ := List.nodup_cons.mp hn
    have hx : x ∈ ts := hs x List.mem_cons_self
    have := nodup_le (ts := ts.erase x) h2 fun y hy => (List.mem_erase_of_ne (fun (e : y = x) => h1 (e ▸ hy))).mpr (hs y (List.mem_cons_of_mem _ hy))
    rw [List.length_erase_of_mem hx] at this
    have : 0 < ts.length := List.length_pos_of_mem hx
    simp only [List.length_cons]
    omega
structure NameOk (w : Str) : Prop where
  pos : 1 ≤ w.length
  le : w.length ≤ 8
  let_ : Lw w
  bar : w ∉ barred
def waysOf (w : Str) : List Str := w :: (LTR.cps.toList.map fun c => cutS w none (some 6) ++ (⟨#[c]⟩ : Str) ++ ("z" : Str))
theorem bar_z : ∀ b ∈ barred, b.cps.toList.getLast? ≠ some 122 := by decide +kernel
theorem ways_free (w : Str) (ts : List Str) (hl : ts.length ≤ 20) : ∃ x ∈ waysOf w, x ∉ ts ∧ x ∉ barred := by
  apply Classical.byContradiction
  intro hno
  have hall : ∀ x ∈ (LTR.cps.toList.map fun c => cutS w none (some 6) ++ (⟨#[c]⟩ : Str) ++ ("z" : Str)), x ∈ ts := by
    intro x hx
    apply Classical.byContradiction
    intro hx'
    refine hno ⟨x, List.mem_cons_of_mem _ hx, hx', fun hb => bar_z x hb ?_⟩
    obtain ⟨c, _, rfl⟩ := List.mem_map.mp hx
    rw [app_list]
    rw [List.getLast?_append]
    rfl
  have hn : (LTR.cps.toList.map fun c => cutS w none (some 6) ++ (⟨#[c]⟩ : Str) ++ ("z" : Str)).Nodup := by
    have h0 : LTR.cps.toList.Nodup := by rw [ltr_list]; decide +kernel
    refine List.pairwise_map.mpr (List.Pairwise.imp ?_ h0)
    intro a b hne e
    have := congrArg (fun s : Str => s.cps.toList) e
    simp only [app_list] at this
    exact hne (by simpa using this)
  have := nodup_le hn hall
  rw [List.length_map, ltr_list] at this
  simp at this
  omega
theorem lw_app {x y : Str} (hx : Lw x) (hy : Lw y) : Lw (x ++ y) := by
  intro c hc
  rw [app_list] at hc
  rcases List.mem_append.mp hc with h | h
  · exact hx c h
  · exact hy c h
theorem ways_ok {w : Str} (hw : Lw w) (h1 : 1 ≤ w.length) (h8 : w.length ≤ 8) : ∀ x ∈ waysOf w, 1 ≤ x.length ∧ x.length ≤ 8 ∧ Lw x := by
  intro x hx
  rcases List.mem_cons.mp hx with rfl | hx
  · exact ⟨h1, h8, hw⟩
  · obtain ⟨c, hc, rfl⟩ := List.mem_map.mp hx
    have hz : Lw ("z" : Str) := by intro c hc; revert c; decide +kernel
    have hzl : ("z" : Str).cps.toList.length = 1 := by decide +kernel
    rw [ltr_list] at hc
    obtain ⟨k, hk, rfl⟩ := List.mem_map.mp hc
    have hk := List.mem_range.mp hk
    refine ⟨?_, ?_, lw_app (lw_app ?_ ?_) hz⟩
    · rw [len_list, app_list, List.length_append, hzl]; omega
    · rw [len_list, app_list, app_list, List.length_append, List.length_append, hzl, cut6, List.length_take]
      simp
      omega
    · intro c hc
      rw [cut6] at hc
      exact hw c (List.mem_of_mem_take hc)
    · intro c hc
      simp at hc
      subst hc
      omega
theorem any_strs (w : Str) : ∀ ts : List Str, ((ts.map D.str).any fun z => deq z (.str w)) = decide (w ∈ ts)
  | [] => rfl
  | t :: ts => by
    rw [List.map_cons, List.any_cons, any_strs w ts, deq]
    by_cases h : t = w
    · simp [h]
    · have h' : ¬ w = t := fun e => h e.symm
      simp [h, h']
theorem in_strs {w : Str} {ts : List Str} (hw : PyData.strOk w = true) (ht : ∀ t ∈ ts, PyData.strOk t = true) : inD (.str w) (.lst (ts.map .str)) = some (decide (w ∈ ts)) := by
  have h1 : okD (.str w) = true := (Ok.str (k := 0) hw).okD (by omega)
  have h2 : okD (.lst (ts.map .str)) = true := (Ok.lst (k := 0) fun x hx => by
    obtain ⟨t, ht', rfl⟩ := List.mem_map.mp hx
    exact Ok.str (ht t ht')).okD (by omega)
  simp only [inD, h1, h2, Bool.and_self, if_true, any_strs]
theorem bar_ok : ∀ t ∈ barred, PyData.strOk t = true := by decide +kernel
def sget (ss : List Int) (j : Nat) : Int := ss.getD j 0
theorem at_int {ss : List Int} {j : Nat} (h : j < ss.length) : idxD (.lst (ss.map .int)) (.int (j : Int)) = some (.int (sget ss j)) := by
  simp only [idxD]
  apply L2.atI_nat
  simp [sget, h]
theorem sget_mem {ss : List Int} {j : Nat} (h : j < ss.length) : sget ss j ∈ ss := by
  unfold sget
  rw [List.getD_eq_getElem?_getD, List.getElem?_eq_getElem h]
  exact List.getElem_mem h
theorem name_ok {T : List Fn} {i : Nat} (hT : T[i]? = some f__law_name) (n : Nat) (ss : List Int) (hs : 5 ≤ ss.length) (hb : ∀ x ∈ ss, 0 ≤ x ∧ x < 1000) (ts : List Str) (hl : ts.length ≤ 20) (ht : ∀ t ∈ ts, PyData.strOk t = true) (S : St') :
    RP (FT T (n + 1) i [.t (.lst (ss.map .int)), .t (.lst (ts.map .str))] S) (fun v S' => S' = S ∧ ∃ w : Str, v = .t (.str w) ∧ NameOk w ∧ w ∉ ts) noE := by
  have g0 : idxD (.lst (ss.map .int)) (.int 0) = some (.int (sget ss 0)) := at_int (j := 0) (by omega)
  have g1 : idxD (.lst (ss.map .int)) (.int 1) = some (.int (sget ss 1)) := at_int (j := 1) (by omega)
  have g2 : idxD (.lst (ss.map .int)) (.int 2) = some (.int (sget ss 2)) := at_int (j := 2) (by omega)
  have g3 : idxD (.lst (ss.map .int)) (.int 3) = some (.int (sget ss 3)) := at_int (j := 3) (by omega)
  have g4 : idxD (.lst (ss.map .int)) (.int 4) = some (.int (sget ss 4)) := at_int (j := 4) (by omega)
  have b0 := hb _ (sget_mem (ss := ss) (j := 0) (by omega))
  have b1 := hb _ (sget_mem (ss := ss) (j := 1) (by omega))
  have b2 := hb _ (sget_mem (ss := ss) (j := 2) (by omega))
  have b3 := hb _ (sget_mem (ss := ss) (j := 3) (by omega))
  have b4 := hb _ (sget_mem (ss := ss) (j := 4) (by omega))
  refine rp_fn hT rfl rfl ?_
  simp only [f__law_name, pad]
  exists 0, g0, g1, g2, g3, g4
  refine op_fix (fun l ρ S' => ∃ (k sz : Int) (w : Str) (kk : Option SV), 0 ≤ k ∧ k ≤ 1 + sget ss 0 % 8 ∧ l = rangeD k (1 + sget ss 0 % 8) ∧ ρ = [some (.t (.lst (ss.map .int))), some (.t (.lst (ts.map .str))), some (.t (.str LTR)), some (.t (.int sz)), some (.t (.str w)), kk, none, none, none, none] ∧ S' = S ∧ 0 ≤ sz ∧ Lw w ∧ (w.length : Int) = k) ?_ ?_ ?_
  · exact ⟨0, _, "", none, by omega, by omega, rfl, rfl, rfl, by omega, by intro c hc; revert c; decide +kernel, by decide +kernel⟩
  · rintro d ds ρ S' ⟨k, sz, w, kk, hk0, hk, hl, rfl, rfl, hsz, hw, hwl⟩
    have hlt : k < 1 + sget ss 0 % 8 := by
      rcases Int.lt_or_le k (1 + sget ss 0 % 8) with h | h
      · exact h
      · rw [rangeD_nil h] at hl; cases hl
    rw [rangeD_cons hlt] at hl
    cases hl
    have hm : 0 ≤ sz % 26 ∧ sz % 26 < 26 := ⟨by omega, by omega⟩
    have h26 := ltr_at hm.1 hm.2
    have hadd : w.length + (⟨#[97 + (sz % 26).toNat]⟩ : Str).length ≤ sizeLine := le_sz' (by show w.length + 1 ≤ 16777216; omega)
    refine ⟨_, rfl, ?_⟩
    exists 0, h26, if_pos hadd
    refine ⟨k + 1, _, _, _, by omega, by omega, rfl, rfl, rfl, Int.ediv_nonneg hsz (by omega), lw_app hw ?_, ?_⟩
    · intro c hc
      simp at hc
      subst hc
      omega
    · rw [len_list, app_list, List.length_append, ← len_list]
      simp
      omega
  · rintro ρ S' ⟨k, sz, w, kk, hk0, hk, hl, rfl, rfl, hsz, hw, hwl⟩
    have hk : k = 1 + sget ss 0 % 8 := by
      rcases Int.lt_or_le k (1 + sget ss 0 % 8) with h | h
      · rw [rangeD_cons h] at hl; cases hl
      · omega
    have hw1 : 1 ≤ w.length := by omega
    have hw8 : w.length ≤ 8 := by omega
    exists 0
    have hs : w.length ≤ sizeLine := le_sz' (by omega)
    have hc6 : (cutS w none (some 6)).length ≤ 6 := by rw [len_list, cut6, List.length_take]; omega
    refine rp_lcM (fun c => D.str ⟨#[c]⟩) (fun c => .str (cutS w none (some 6) ++ (⟨#[c]⟩ : Str) ++ ("z" : Str))) (by rw [ltr_list]; simp) (fun c hc acc => ?_) ?_
    · have ha1 : (cutS w none (some 6)).length + (⟨#[c]⟩ : Str).length ≤ sizeLine := le_sz' (by show _ + 1 ≤ _; omega)
      have ha2 : (cutS w none (some 6) ++ (⟨#[c]⟩ : Str)).length + ("z" : Str).length ≤ sizeLine := le_sz' (by
        rw [len_list, app_list, List.length_append, ← len_list]
        show _ + 1 + 1 ≤ _; omega)
      refine ⟨_, rfl, ?_⟩
      exists 0, if_pos hs, if_pos ha1, if_pos ha2
    · have e2 : bin2 .add S' (SV.t (.lst [.str w])) (SV.t (.lst (LTR.cps.toList.map fun c => .str (cutS w none (some 6) ++ (⟨#[c]⟩ : Str) ++ ("z" : Str))))) = some (.lst ((waysOf w).map .str)) := by
        simp only [bin2, peek, Option.bind_some, binD]
        rw [if_pos (by rw [List.length_map, ltr_list]; exact le_sz rfl), List.singleton_append, waysOf, List.map_cons, List.map_map]
        rfl
      have hlen : (waysOf w).length ≤ 16777216 := by
        unfold waysOf
        rw [List.length_cons, List.length_map, ltr_list]
        simp
      have hok := ways_ok hw hw1 hw8
      exists 0, e2
      refine rp_lcF D.str (fun x => !decide (x ∈ ts) && !decide (x ∈ barred)) .str hlen (fun x hx acc => ?_) ?_
      · have hxo := hok x hx
        have n1 : cmpD .notin (.str x) (.lst (ts.map .str)) = some (!decide (x ∈ ts)) := by simp only [cmpD, in_strs hxo.2.2.ok ht, Option.map_some]
        have n2 : cmpD .notin (.str x) (.lst (barred.map .str)) = some (!decide (x ∈ barred)) := by simp only [cmpD, in_strs hxo.2.2.ok bar_ok, Option.map_some]
        have n3 : mthD .split (.str BAR) [.str " "] = some (.lst (barred.map .str)) := by
          simp only [mthD, split_bar]
          exact if_pos (by decide +kernel)
        refine ⟨_, rfl, ?_⟩
        exists 0, n1, n2, n3
        · refine ⟨by rw [h, Bool.true_and], rfl, fun _ => ?_⟩
          exists 0
        · refine ⟨by rw [h]; rfl, rfl, fun z => ?_⟩
          rw [h] at z; cases z
      · obtain ⟨y, hy, hy1, hy2⟩ := ways_free w ts (by omega)
        have hm : y ∈ (waysOf w).filter (fun x => !decide (x ∈ ts) && !decide (x ∈ barred)) := by
          rw [List.mem_filter]
          exact ⟨hy, by simp [hy1, hy2]⟩
        cases hf : (waysOf w).filter (fun x => !decide (x ∈ ts) && !decide (x ∈ barred)) with
        | nil => rw [hf] at hm; cases hm
        | cons x r =>
          have hx : x ∈ (waysOf w).filter (fun x => !decide (x ∈ ts) && !decide (x ∈ barred)) := by rw [hf]; exact List.mem_cons_self
          rw [List.mem_filter] at hx
          obtain ⟨hx1, hx2⟩ := hx
          simp only [Bool.and_eq_true, Bool.not_eq_true', decide_eq_false_iff_not] at hx2
          obtain ⟨o1, o2, o3⟩ := hok x hx1
          have ei : idxD (.lst ((x :: r).map .str)) (.int 0) = some (.str x) := by
            simp only [idxD]
            exact L2.atI_nat (j := 0) rfl
          exists 0, ei
          exact ⟨⟨o1, o2, o3, hx2.2⟩, hx2.1⟩
end M

/-! columns and grounds of the laws -/
namespace M
open PySem PySem.Spec PyProof.Rows L2

def cutL {α : Type} (xs : List α) (lo hi : Option Int) : List α := (xs.drop (HT.sIx xs.length 0 lo)).take (HT.sIx xs.length xs.length hi - HT.sIx xs.length 0 lo)
theorem slc_ints (ps : List Int) (lo hi : Option Int) : slcD (.lst (ps.map .int)) lo hi = some (.lst ((cutL ps lo hi).map .int)) := by
  simp only [slcD, cutD, cutL, List.length_map, List.map_take, List.map_drop]
theorem cutL_mem {α : Type} {xs : List α} {lo hi : Option Int} {x : α} (h : x ∈ cutL xs lo hi) : x ∈ xs := List.mem_of_mem_drop (List.mem_of_mem_take h)
theorem cutL_len {α : Type} {xs : List α} {a b : Int} (h0 : 0 ≤ a) (h1 : a ≤ b) (h2 : b ≤ xs.length) : ((cutL xs (some a) (some b)).length : Int) = b - a := by
  have e1 : HT.sIx xs.length 0 (some a) = min a.toNat xs.length := if_neg (by omega)
  have e2 : HT.sIx xs.length xs.length (some b) = min b.toNat xs.length := if_neg (by omega)
  rw [cutL, e1, e2, List.length_take, List.length_drop]
  omega
theorem cutL_from {α : Type} {xs : List α} {a : Int} (h0 : 0 ≤ a) (h2 : a ≤ xs.length) : ((cutL xs (some a) none).length : Int) = xs.length - a := by
  have e1 : HT.sIx xs.length 0 (some a) = min a.toNat xs.length := if_neg (by omega)
  have e2 : HT.sIx xs.length xs.length none = xs.length := rfl
  rw [cutL, e1, e2, List.length_take, List.length_drop]
  omega
structure Col where
  name : Str
  size : Int
  emp : Bool
def colD (c : Col) : D := .tup [.str c.name, .int c.size, .bl c.emp]
def Col.vals (c : Col) : Int := c.size + (if c.emp = true then 1 else 0)
structure ColOk (c : Col) : Prop where
  name : NameOk c.name
  lo : 1 ≤ c.size
  hi : c.size ≤ 9
def roomOf : List Col → Int
  | [] => 1
  | c :: cs => c.vals * roomOf cs
theorem roomOf_app (cs : List Col) (c : Col) : roomOf (cs ++ [c]) = roomOf cs * c.vals := by
  induction cs with
  | nil => simp [roomOf]
  | cons d cs ih => rw [List.cons_append, roomOf, ih, roomOf, Int.mul_assoc]
structure ColsOk (cs : List Col) : Prop where
  each : ∀ c ∈ cs, ColOk c
  nd : (cs.map Col.name).Nodup
theorem names_map (cs : List Col) : (cs.map fun c => D.str c.name) = (cs.map Col.name).map D.str := by rw [List.map_map]; rfl
theorem emp_ok {F : FS} {ρ : Ev} {S : St'} {P : SV → St' → Prop} {E : EX} {v : Int} {ss : List Int} (h7 : ρ[7]? = some (some (.t (.int v)))) (h6 : ρ[6]? = some (some (.t (.lst (ss.map .int))))) (hl : 7 ≤ ss.length) (hP : ∀ b : Bool, (b = true → 1 < v) → (v = 10 → b = true) → P (.t (.bl b)) S) :
    RP (evalE F (.or (.cmp .eq (.var 7) (.lit (D.int 10))) (.and (.cmp .gt (.var 7) (.lit (D.int 1))) (.cmp .eq (.bin .mod (.idx (.var 6) (.lit (D.int 6))) (.lit (D.int 3))) (.lit (D.int 0))))) ρ S) P E := by
  have g6 : idxD (.lst (ss.map .int)) (.int 6) = some (.int (sget ss 6)) := at_int (j := 6) (by omega)
  exists 0, g6, no_index (rp_var h7 ?_), no_index (rp_var h6 ?_)
  · have h' : (v == 10) = true := h
    have h' := eq_of_beq h'
    exact hP _ (fun _ => by omega) fun _ => h
  · rename_i h0
    have h1 : (v == 10) = false := h0
    have h2 := of_decide_eq_true h
    exact hP _ (fun _ => by omega) fun e => by rw [e] at h1; cases h1
  · rename_i h0
    have h1 : (v == 10) = false := h0
    exact hP _ (fun e => by rw [h] at e; cases e) fun e => by rw [e] at h1; cases h1
theorem columns_ok {T : List Fn} {i iN : Nat} (hT : T[i]? = some (f__law_columns iN)) (hN : T[iN]? = some f__law_name) (n : Nat) (ps : List Int) (many top : Int) (hm : 1 ≤ many ∧ many ≤ 4) (hl : 7 * many ≤ ps.length) (hb : ∀ x ∈ ps, 0 ≤ x ∧ x < 1000) (ht : 1 ≤ top ∧ top < 1073741824) (S : St') :
    RP (FT T (n + 2) i [.t (.lst (ps.map .int)), .t (.int many), .t (.int top)] S) (fun v S' => S' = S ∧ ∃ cs : List Col, v = .t (.tup [.tup (cs.map colD), .int (roomOf cs)]) ∧ (cs.length : Int) = many ∧ ColsOk cs ∧ 1 ≤ roomOf cs ∧ roomOf cs ≤ top) noE := by
  refine rp_fn hT rfl rfl ?_
  simp only [f__law_columns, pad]
  exists 0
  refine op_fix (fun l ρ S' => ∃ (k : Int) (cs : List Col) (k5 k6 k7 k8 : Option SV), 0 ≤ k ∧ k ≤ many ∧ l = rangeD k many ∧ ρ = [some (.t (.lst (ps.map .int))), some (.t (.int many)), some (.t (.int top)), some (.o S.length), some (.t (.int (roomOf cs))), k5, k6, k7, k8, none] ∧ S' = S ++ [.lst (cs.map colD)] ∧ (cs.length : Int) = k ∧ ColsOk cs ∧ 1 ≤ roomOf cs ∧ roomOf cs ≤ top) ?_ ?_ ?_
  · exact ⟨0, [], none, none, none, none, by omega, by omega, rfl, rfl, rfl, rfl, ⟨by simp, by simp⟩, by decide, by simpa [roomOf] using ht.1⟩
  · rintro d ds ρ S' ⟨k, cs, k5, k6, k7, k8, hk0, hk, hl', rfl, rfl, hcl, hcs, hr1, hr2⟩
    have hlt : k < many := by
      rcases Int.lt_or_le k many with h | h
      · exact h
      · rw [rangeD_nil h] at hl'; cases hl'
    rw [rangeD_cons hlt] at hl'
    cases hl'
    obtain ⟨ss, hss⟩ : ∃ ss, ss = cutL ps (some (7 * k)) (some (7 * k + 7)) := ⟨_, rfl⟩
    have hsl : ss.length = 7 := by
      have := cutL_len (xs := ps) (a := 7 * k) (b := 7 * k + 7) (by omega) (by omega) (by omega)
      rw [← hss] at this
      omega
    have hsb : ∀ x ∈ ss, 0 ≤ x ∧ x < 1000 := fun x hx => hb x (cutL_mem (hss ▸ hx))
    have g : slcD (.lst (ps.map .int)) (some (7 * k)) (some (7 * k + 7)) = some (.lst (ss.map .int)) := by rw [hss]; exact slc_ints _ _ _
    have g5 : idxD (.lst (ss.map .int)) (.int 5) = some (.int (sget ss 5)) := at_int (j := 5) (by omega)
    have g6 : idxD (.lst (ss.map .int)) (.int 6) = some (.int (sget ss 6)) := at_int (j := 6) (by omega)
    have b5 := hsb _ (sget_mem (ss := ss) (j := 5) (by omega))
    have b6 := hsb _ (sget_mem (ss := ss) (j := 6) (by omega))
    have hq : 1 ≤ top / roomOf cs := by
      rw [Int.le_ediv_iff_mul_le (by omega)]; omega
    have hmn : 0 < (if top / roomOf cs < 10 then top / roomOf cs else 10) := by split <;> omega
    refine ⟨_, rfl, ?_⟩
    have hv : 1 ≤ 1 + sget ss 5 % (if top / roomOf cs < 10 then top / roomOf cs else 10) ∧ 1 + sget ss 5 % (if top / roomOf cs < 10 then top / roomOf cs else 10) ≤ 10 ∧ 1 + sget ss 5 % (if top / roomOf cs < 10 then top / roomOf cs else 10) ≤ top / roomOf cs := by
      have h1 := Int.emod_nonneg (sget ss 5) (show (if top / roomOf cs < 10 then top / roomOf cs else 10) ≠ 0 by omega)
      have h2 := Int.emod_lt_of_pos (sget ss 5) hmn
      split at h1 <;> split at h2 <;> (try omega)
      · rename_i h; rw [if_pos h]; omega
      · rename_i h; rw [if_neg h]; omega
    exists 0, g, g5, g6, no_index (emp_ok rfl rfl (by omega) fun b hb1 hb2 => ?_)
    generalize 1 + sget ss 5 % (if top / roomOf cs < 10 then top / roomOf cs else 10) = v at *
    refine rp_lcV colD (fun c => .str c.name) st_get (by omega) (fun c hc acc => ?_) ?_
    · refine ⟨_, rfl, ?_⟩
      exists 0
    · rw [names_map]
      exists 0
      refine RP.of_no (name_ok hN n ss (by omega) hsb (cs.map Col.name) (by simp; omega) (fun t ht => ?_) _) fun v' S1 ⟨e, w, ev, hw, hwn⟩ => ?_
      · obtain ⟨c, hc, rfl⟩ := List.mem_map.mp ht
        exact (hcs.each c hc).name.let_.ok
      · subst e; subst ev
        exists 0
        have hvv : (⟨w, v - (if b = true then 1 else 0), b⟩ : Col).vals = v := by simp only [Col.vals]; omega
        have hmul : roomOf cs * v ≤ top := by
          have := (Int.le_ediv_iff_mul_le (a := v) (b := top) (c := roomOf cs) (by omega)).mp hv.2.2
          rw [Int.mul_comm]; exact this
        refine ⟨k + 1, cs ++ [⟨w, v - (if b = true then 1 else 0), b⟩], _, _, _, _, by omega, by omega, rfl, by rw [roomOf_app, hvv]; rfl, by rw [List.map_append]; rfl, by simp; omega, ⟨?_, ?_⟩, ?_, ?_⟩
        · intro c hc
          rcases List.mem_append.mp hc with hc | hc
          · exact hcs.each c hc
          · cases List.mem_singleton.mp hc
            refine ⟨hw, ?_, ?_⟩
            · show 1 ≤ v - _
              split
              · rename_i hb; have := hb1 hb; omega
              · omega
            · show v - _ ≤ 9
              by_cases hten : v = 10
              · rw [hb2 hten]; simp; omega
              · split <;> omega
        · rw [List.map_append, List.nodup_append]
          refine ⟨hcs.nd, by simp, fun a ha c hc => ?_⟩
          simp at hc
          subst hc
          intro e
          exact hwn (e ▸ ha)
        · rw [roomOf_app, hvv]
          exact Int.le_trans (by omega) (Int.mul_le_mul hr1 hv.1 (by omega) (by omega))
        · rw [roomOf_app, hvv]; exact hmul
  · rintro ρ S' ⟨k, cs, k5, k6, k7, k8, hk0, hk, hl', rfl, rfl, hcl, hcs, hr1, hr2⟩
    have hk : k = many := by
      rcases Int.lt_or_le k many with h | h
      · rw [rangeD_cons h] at hl'; cases hl'
      · omega
    exists 0
    exact ⟨by omega, hcs, hr1, hr2⟩

/-! ### grounds -/
structure Tab where
  name : Str
  key : Int
  cols : List Col
def tabD (t : Tab) : D := .tup [.str t.name, .int t.key, .tup (t.cols.map colD)]
structure TabOk (t : Tab) : Prop where
  name : NameOk t.name
  key0 : 0 ≤ t.key
  keyN : ∀ c ∈ t.cols.take t.key.toNat, c.emp = false
  keyL : t.key ≤ t.cols.length
  cols : ColsOk t.cols
  len1 : 1 ≤ t.cols.length
  len4 : t.cols.length ≤ 4
  room : 1 ≤ roomOf t.cols
def roomsOf : List Tab → Int
  | [] => 0
  | t :: ts => roomOf t.cols + roomsOf ts
theorem roomsOf_app (ts : List Tab) (t : Tab) : roomsOf (ts ++ [t]) = roomsOf ts + roomOf t.cols := by
  induction ts with
  | nil => simp [roomsOf]
  | cons d cs ih => rw [List.cons_append, roomsOf, ih, roomsOf, Int.add_assoc]
theorem roomsOf_perm {a b : List Tab} (h : a.Perm b) : roomsOf a = roomsOf b := by
  induction h with
  | nil => rfl
  | cons x _ ih => rw [roomsOf, roomsOf, ih]
  | swap x y l => simp only [roomsOf]; omega
  | trans _ _ h1 h2 => rw [h1, h2]
theorem tnames_map (ts : List Tab) : (ts.map fun t => D.str t.name) = (ts.map Tab.name).map D.str := by rw [List.map_map]; rfl
def tabLe (a b : Tab) : Bool := dle (tabD a) (tabD b)
theorem alike_col (a b : Col) : PySem.W.alike (toPy (colD a)) (toPy (colD b)) = true := by
  simp [colD, toPy, toPys, PySem.W.alike, PySem.W.alikeAll]
theorem alike_cols : ∀ a b : List Col, PySem.W.alikeAll (toPys (a.map colD)) (toPys (b.map colD)) = true
  | [], _ => by simp [toPys, PySem.W.alikeAll]
  | _ :: _, [] => by simp [toPys, PySem.W.alikeAll]
  | x :: xs, y :: ys => by simp only [List.map_cons, toPys, PySem.W.alikeAll, alike_col, alike_cols xs ys, Bool.and_self]
theorem alike_tab (a b : Tab) : PySem.W.alike (toPy (tabD a)) (toPy (tabD b)) = true := by
  simp [tabD, toPy, toPys, PySem.W.alike, PySem.W.alikeAll, alike_cols]
theorem Ok.colD {c : Col} (h : ColOk c) : Ok 1 (M.colD c) := .tup fun x hx => by
  simp at hx
  rcases hx with rfl | rfl | rfl
  · exact .str h.name.let_.ok
  · exact .int _
  · exact .bl _
theorem Ok.tabD {t : Tab} (h : TabOk t) : Ok 3 (M.tabD t) := .tup fun x hx => by
  simp at hx
  rcases hx with rfl | rfl | rfl
  · exact .str h.name.let_.ok
  · exact .int _
  · refine .tup fun x hx => ?_
    obtain ⟨c, hc, rfl⟩ := List.mem_map.mp hx
    exact .colD (h.cols.each c hc)
theorem sort_tabs {ts : List Tab} (h : ∀ t ∈ ts, TabOk t) (hl : ts.length ≤ 1000) : biD .sorted [.lst (ts.map tabD)] = some (.lst ((ts.mergeSort tabLe).map tabD)) := by
  have h1 : sortOk (ts.map tabD) = true := by
    unfold sortOk
    simp only [Bool.and_eq_true, Bool.or_eq_true, List.all_eq_true, decide_eq_true_eq]
    refine ⟨⟨⟨fun x hx y hy => ?_, fun x hx => ?_⟩, .inl fun x hx => ?_⟩, le_sz' (by simp; omega)⟩
    · obtain ⟨a, _, rfl⟩ := List.mem_map.mp hx
      obtain ⟨b, _, rfl⟩ := List.mem_map.mp hy
      exact alike_tab a b
    · obtain ⟨a, ha, rfl⟩ := List.mem_map.mp hx
      exact Nat.le_trans (Ok.tabD (h a ha)).2 (by omega)
    · obtain ⟨a, ha, rfl⟩ := List.mem_map.mp hx
      rfl
  simp only [biD, h1, Bool.true_or, if_true]
  rw [← List.map_mergeSort (r := tabLe) (s := dle) (f := tabD) fun a _ b _ => rfl]
structure GroundOk (ts : List Tab) (top : Int) : Prop where
  each : ∀ t ∈ ts, TabOk t
  nd : (ts.map Tab.name).Nodup
  len1 : 1 ≤ ts.length
  len4 : ts.length ≤ 4
  room : roomsOf ts ≤ top
theorem firstEq_true : ∀ (cs : List Col) (n : Nat), (∃ c ∈ cs, c.emp = true) → ∃ k, firstEq (.bl true) (cs.map fun c => D.bl c.emp) n = some k ∧ n ≤ k ∧ k - n < cs.length ∧ ∀ c ∈ cs.take (k - n), c.emp = false
  | [], n, h => by simp at h
  | c :: cs, n, h => by
    rw [List.map_cons, firstEq]
    by_cases hc : c.emp = true
    · refine ⟨n, by rw [hc]; rfl, Nat.le_refl _, by simp, by simp⟩
    · have hc : c.emp = false := by simpa using hc
      obtain ⟨k, e, h1, h2, h3⟩ := firstEq_true cs (n + 1) (by
        obtain ⟨d, hd, he⟩ := h
        rcases List.mem_cons.mp hd with rfl | hd
        · rw [hc] at he; cases he
        · exact ⟨d, hd, he⟩)
      refine ⟨k, by rw [hc]; exact e, by omega, by simp only [List.length_cons]; omega, ?_⟩
      rw [show k - n = (k - (n + 1)) + 1 by omega, List.take_succ_cons]
      intro d hd
      rcases List.mem_cons.mp hd with rfl | hd
      · exact hc
      · exact h3 d hd
theorem asBls_map {α : Type} (f : α → Bool) : ∀ xs : List α, asBls (xs.map fun x => D.bl (f x)) = some (xs.map f)
  | [] => rfl
  | x :: xs => by rw [List.map_cons, asBls, asBls_map f xs]; rfl
end M

/-! grounds of the laws -/
namespace M
open PySem PySem.Spec PyProof.Rows L2
theorem key_ok {F : FS} {ρ : Ev} {S : St'} {P : SV → St' → Prop} {E : EX} {cs : List Col} (h6 : ρ[6]? = some (some (.t (.tup (cs.map colD))))) (h10 : ρ.length = 11) (hl : cs.length ≤ 1000) (hP : ∀ key : Nat, key ≤ cs.length → (∀ c ∈ cs.take key, c.emp = false) → P (.t (.int (key : Int))) S) :
    RP (evalE F (.ife (.bi .any [(.lc (.v 10) (.of (.var 6)) [] (.idx (.var 10) (.lit (D.int 2))))]) (.mth .index (.lc (.v 10) (.of (.var 6)) [] (.idx (.var 10) (.lit (D.int 2)))) [(.lit (D.bl true))]) (.bi .len [(.var 6)])) ρ S) P E := by
  have lc : ∀ {P : List D → St' → Prop} {E : EX}, P (cs.map fun c => .bl c.emp) S → RP (lcSrc (.v 10) (tests (evalCs F [])) (evalE F (.idx (.var 10) (.lit (D.int 2)))) (.fix (cs.map colD)) ρ S) P E := by
    intro P E hp
    refine rp_lcM colD (fun c => .bl c.emp) (by omega) (fun c hc acc => ⟨_, rfl, ?_⟩) hp
    have : (ρ.set 10 (some (.t (colD c))))[10]? = some (some (.t (colD c))) := by simp [h10]
    exists 0, no_index (rp_var this ?_)
  have ha : biD .any [.lst (cs.map fun c => .bl c.emp)] = some (.bl ((cs.map Col.emp).any id)) := by simp only [biD, asBls_map, Option.map_some]
  refine rp_ife ?_
  exists 0, ha, no_index (rp_var h6 ?_), no_index (lc ?_)
  · have hex : ∃ c ∈ cs, c.emp = true := by
      simp only [List.any_map, List.any_eq_true, Function.comp, id] at h
      exact h
    obtain ⟨k, e, h1, h2, h3⟩ := firstEq_true cs 0 hex
    have ho : okD (.lst (cs.map fun c => .bl c.emp)) = true := (Ok.lst (k := 0) fun x hx => by
      obtain ⟨c, _, rfl⟩ := List.mem_map.mp hx
      exact Ok.bl _).okD (by omega)
    have ho2 : okD (.bl true) = true := (Ok.bl (k := 0) true).okD (by omega)
    have hi : mthD .index (.lst (cs.map fun c => .bl c.emp)) [.bl true] = some (.int (k : Int)) := by
      simp only [mthD, ho, ho2, Bool.and_self, if_true, e, Option.map_some]
    exists 0, hi, no_index (rp_var h6 ?_), no_index (lc ?_)
    exact hP k (by omega) (by simpa using h3)
  · have hno : ∀ c ∈ cs, c.emp = false := by
      intro c hc
      cases he : c.emp with
      | false => rfl
      | true =>
        have : (cs.map Col.emp).any id = true := by
          rw [List.any_map, List.any_eq_true]
          exact ⟨c, hc, he⟩
        rw [h] at this; cases this
    exists 0, no_index (rp_var h6 ?_)
    rw [List.length_map]
    exact hP cs.length (Nat.le_refl _) fun c hc => hno c (List.mem_of_mem_take hc)
theorem ground_ok {T : List Fn} {i iC iN : Nat} (hT : T[i]? = some (f__law_ground iC iN)) (hC : T[iC]? = some (f__law_columns iN)) (hN : T[iN]? = some f__law_name) (n : Nat) (ps : List Int) (top : Int) (hl : 145 ≤ ps.length) (hb : ∀ x ∈ ps, 0 ≤ x ∧ x < 1000) (ht : 1 ≤ top ∧ top < 1073741824) (S : St') :
    RP (FT T (n + 3) i [.t (.lst (ps.map .int)), .t (.int top)] S) (fun v S' => S' = S ∧ ∃ us : List Tab, v = .t (.tup ((us.mergeSort tabLe).map tabD)) ∧ GroundOk us top) noE := by
  have g0 : idxD (.lst (ps.map .int)) (.int 0) = some (.int (sget ps 0)) := at_int (j := 0) (by omega)
  have b0 := hb _ (sget_mem (ss := ps) (j := 0) (by omega))
  refine rp_fn hT rfl rfl ?_
  simp only [f__law_ground, pad]
  exists 0, g0
  refine op_fix (fun l ρ S' => ∃ (k : Int) (ts : List Tab) (k4 k5 k6 k7 k8 k9 : Option SV), 0 ≤ k ∧ k ≤ 1 + sget ps 0 % 4 ∧ l = rangeD k (1 + sget ps 0 % 4) ∧ ρ = [some (.t (.lst (ps.map .int))), some (.t (.int top)), some (.o S.length), some (.t (.int (top - roomsOf ts))), k4, k5, k6, k7, k8, k9, none] ∧ S' = S ++ [.lst (ts.map tabD)] ∧ (ts.length : Int) ≤ k ∧ (1 ≤ k → 1 ≤ ts.length) ∧ (ts.length = 0 → roomsOf ts = 0) ∧ (∀ t ∈ ts, TabOk t) ∧ (ts.map Tab.name).Nodup ∧ 0 ≤ roomsOf ts ∧ roomsOf ts ≤ top) ?_ ?_ ?_
  · exact ⟨0, [], none, none, none, none, none, none, by omega, by omega, rfl, by simp [roomsOf], rfl, by simp, by omega, fun _ => rfl, by simp, by simp, by simp [roomsOf], by simp [roomsOf]; omega⟩
  · rintro d ds ρ S' ⟨k, ts, k4, k5, k6, k7, k8, k9, hk0, hk, hl', rfl, rfl, hcl, hk1, hz, hts, hnd, hr1, hr2⟩
    have hlt : k < 1 + sget ps 0 % 4 := by
      rcases Int.lt_or_le k (1 + sget ps 0 % 4) with h | h
      · exact h
      · rw [rangeD_nil h] at hl'; cases hl'
    rw [rangeD_cons hlt] at hl'
    cases hl'
    obtain ⟨ss, hss⟩ : ∃ ss, ss = cutL ps (some (1 + 36 * k)) (some (37 + 36 * k)) := ⟨_, rfl⟩
    have hsl : ss.length = 36 := by
      have := cutL_len (xs := ps) (a := 1 + 36 * k) (b := 37 + 36 * k) (by omega) (by omega) (by omega)
      rw [← hss] at this
      omega
    have hsb : ∀ x ∈ ss, 0 ≤ x ∧ x < 1000 := fun x hx => hb x (cutL_mem (hss ▸ hx))
    have g : slcD (.lst (ps.map .int)) (some (1 + 36 * k)) (some (37 + 36 * k)) = some (.lst (ss.map .int)) := by rw [hss]; exact slc_ints _ _ _
    have g5 : idxD (.lst (ss.map .int)) (.int 5) = some (.int (sget ss 5)) := at_int (j := 5) (by omega)
    have g6 : idxD (.lst (ss.map .int)) (.int 6) = some (.int (sget ss 6)) := at_int (j := 6) (by omega)
    have b5 := hsb _ (sget_mem (ss := ss) (j := 5) (by omega))
    have b6 := hsb _ (sget_mem (ss := ss) (j := 6) (by omega))
    have g7 : slcD (.lst (ss.map .int)) (some 7) none = some (.lst ((cutL ss (some 7) none).map .int)) := slc_ints _ _ _
    have l7 := cutL_from (xs := ss) (a := 7) (by omega) (by omega)
    refine ⟨_, rfl, ?_⟩
    exists 0, g, g5, g6, g7
    · have h := of_decide_eq_true h
      refine RP.of_no (columns_ok hC hN n (cutL ss (some 7) none) _ _ (by omega) (by omega) (fun x hx => hsb x (cutL_mem hx)) (by omega) _) fun v S1 ⟨e, cs, ev, c1, c2, c3, c4⟩ => ?_
      subst e; subst ev
      exists 0, g, g5, g6, g7, no_index (key_ok rfl rfl (by omega) fun key hkl hke => ?_)
      refine rp_lcV tabD (fun t => .str t.name) st_get (by omega) (fun c hc acc => ?_) ?_
      · refine ⟨_, rfl, ?_⟩
        exists 0
      · rw [tnames_map]
        exists 0
        refine RP.of_no (name_ok hN (n + 1) ss (by omega) hsb (ts.map Tab.name) (by simp; omega) (fun t ht => ?_) _) fun v' S1 ⟨e, w, ev, hw, hwn⟩ => ?_
        · obtain ⟨c, hc, rfl⟩ := List.mem_map.mp ht
          exact (hts c hc).name.let_.ok
        · subst e; subst ev
          exists 0, g, g5, g6, g7
          have hm0 := Int.emod_nonneg (sget ss 6) (show ((key : Int) + 1) ≠ 0 by omega)
          have hm1 := Int.emod_lt_of_pos (sget ss 6) (show 0 < (key : Int) + 1 by omega)
          refine ⟨k + 1, ts ++ [⟨w, sget ss 6 % ((key : Int) + 1), cs⟩], _, _, _, _, _, _, by omega, by omega, rfl, by rw [roomsOf_app, Int.sub_sub]; rfl, by rw [List.map_append]; rfl, by simp; omega, by simp, by simp, ?_, ?_, ?_, ?_⟩
          · intro t ht
            rcases List.mem_append.mp ht with ht | ht
            · exact hts t ht
            · cases List.mem_singleton.mp ht
              refine ⟨hw, hm0, fun c hc => hke c ?_, ?_, c2, ?_, ?_, c3⟩
              · have hle : (sget ss 6 % ((key : Int) + 1)).toNat ≤ key := by omega
                exact (List.take_sublist_take_left hle).subset hc
              · show sget ss 6 % ((key : Int) + 1) ≤ (cs.length : Int); omega
              · show 1 ≤ cs.length; omega
              · show cs.length ≤ 4; omega
          · rw [List.map_append, List.nodup_append]
            refine ⟨hnd, by simp, fun a ha c hc => ?_⟩
            simp at hc
            subst hc
            intro e
            exact hwn (e ▸ ha)
          · rw [roomsOf_app]; show 0 ≤ _ + roomOf cs; omega
          · rw [roomsOf_app]; show _ + roomOf cs ≤ _; omega
    · have h := of_decide_eq_false h
      refine ⟨k + 1, ts, _, _, _, _, _, _, by omega, by omega, rfl, rfl, rfl, by omega, fun _ => ?_, hz, hts, hnd, hr1, hr2⟩
      apply Classical.byContradiction
      intro h0
      have := hz (by omega)
      omega
  · rintro ρ S' ⟨k, ts, k4, k5, k6, k7, k8, k9, hk0, hk, hl', rfl, rfl, hcl, hk1, hz, hts, hnd, hr1, hr2⟩
    have hk : k = 1 + sget ps 0 % 4 := by
      rcases Int.lt_or_le k (1 + sget ps 0 % 4) with h | h
      · rw [rangeD_cons h] at hl'; cases hl'
      · omega
    have hs := sort_tabs hts (by omega)
    exists 0, bi_live hs
    exact ⟨hts, hnd, hk1 (by omega), by omega, hr2⟩
end M

/-! loops over typed items -/
namespace M
open PySem PySem.Spec PyProof.Rows L2
section
variable {ρ : Ev} {S : St'} {P : Po} {nx bk ct : NX} {tg : Tg} {body : Ev → St' → Out}
theorem op_fixM {α : Type} {ys : List α} (f : α → D) (I : List α → Ev → St' → Prop) (h0 : I ys ρ S)
    (step : ∀ y ys ρ S, I (y :: ys) ρ S → ∃ ρ', bindTg tg (f y) ρ = some ρ' ∧ OP (body ρ' S) (fun ρ2 S2 => I ys ρ2 S2) noN (fun ρ2 S2 => I ys ρ2 S2) P)
    (h1 : ∀ ρ S, I [] ρ S → nx ρ S) : OP (forSrc tg body (.fix (ys.map f)) ρ S) nx bk ct P := by
  refine op_fix (fun l ρ S => ∃ zs : List α, l = zs.map f ∧ I zs ρ S) ⟨ys, rfl, h0⟩ ?_ ?_
  · rintro d ds ρ S ⟨zs, e, h⟩
    cases zs with
    | nil => cases e
    | cons z zs =>
      rw [List.map_cons] at e
      obtain ⟨rfl, rfl⟩ := List.cons.inj e
      obtain ⟨ρ', h2, h3⟩ := step z zs ρ S h
      exact ⟨ρ', h2, h3.imp (fun _ _ h => ⟨zs, rfl, h⟩) (fun _ _ h => h) (fun _ _ h => h) (fun _ _ h => ⟨zs, rfl, h⟩) (fun _ _ _ _ h => h)⟩
  · rintro ρ S ⟨zs, e, h⟩
    cases zs with
    | nil => exact h1 _ _ h
    | cons z zs => cases e
theorem op_range {a b : Int} (hab : a ≤ b) (I : Int → Ev → St' → Prop) (h0 : I a ρ S)
    (step : ∀ k ρ S, a ≤ k → k < b → I k ρ S → ∃ ρ', bindTg tg (.int k) ρ = some ρ' ∧ OP (body ρ' S) (fun ρ2 S2 => I (k + 1) ρ2 S2) noN (fun ρ2 S2 => I (k + 1) ρ2 S2) P)
    (h1 : ∀ ρ S, I b ρ S → nx ρ S) : OP (forSrc tg body (.fix (rangeD a b)) ρ S) nx bk ct P := by
  refine op_fix (fun l ρ S => ∃ k, a ≤ k ∧ k ≤ b ∧ l = rangeD k b ∧ I k ρ S) ⟨a, by omega, hab, rfl, h0⟩ ?_ ?_
  · rintro d ds ρ S ⟨k, hk0, hk, hl, h⟩
    have hlt : k < b := by
      rcases Int.lt_or_le k b with h | h
      · exact h
      · rw [rangeD_nil h] at hl; cases hl
    rw [rangeD_cons hlt] at hl
    cases hl
    obtain ⟨ρ', h2, h3⟩ := step k ρ S hk0 hlt h
    exact ⟨ρ', h2, h3.imp (fun _ _ h => ⟨k + 1, by omega, by omega, rfl, h⟩) (fun _ _ h => h) (fun _ _ h => h) (fun _ _ h => ⟨k + 1, by omega, by omega, rfl, h⟩) (fun _ _ _ _ h => h)⟩
  · rintro ρ S ⟨k, hk0, hk, hl, h⟩
    have : k = b := by
      rcases Int.lt_or_le k b with h | h
      · rw [rangeD_cons h] at hl; cases hl
      · omega
    subst this
    exact h1 _ _ h
end
theorem rangeD0 (n : Nat) : rangeD 0 (n : Int) = (List.range n).map fun k : Nat => D.int (k : Int) := by
  unfold rangeD
  rw [show ((n : Int) - 0).toNat = n by omega]
  exact List.map_congr_left fun k _ => by rw [Int.zero_add]
theorem enumD_map {α : Type} (f : α → D) (xs : List α) : enumD (xs.map f) = xs.zipIdx.map fun p => D.tup [.int (p.2 : Nat), f p.1] := by
  unfold enumD
  rw [List.zipIdx_map, List.map_map]
  rfl
theorem cutL_to {α : Type} (xs : List α) {a : Int} (h0 : 0 ≤ a) : cutL xs none (some a) = xs.take a.toNat := by
  have e1 : HT.sIx xs.length 0 none = 0 := rfl
  have e2 : HT.sIx xs.length xs.length (some a) = min a.toNat xs.length := if_neg (by omega)
  rw [cutL, e1, e2, List.drop_zero, Nat.sub_zero, List.take_eq_take_iff]
  omega
theorem cutL_of {α : Type} (xs : List α) {a : Int} (h0 : 0 ≤ a) : cutL xs (some a) none = xs.drop a.toNat := by
  have e1 : HT.sIx xs.length 0 (some a) = min a.toNat xs.length := if_neg (by omega)
  have e2 : HT.sIx xs.length xs.length none = xs.length := rfl
  rw [cutL, e1, e2]
  rw [List.take_of_length_le (by rw [List.length_drop]; omega)]
  by_cases h : a.toNat ≤ xs.length
  · rw [Nat.min_eq_left h]
  · rw [Nat.min_eq_right (by omega), List.drop_length, List.drop_eq_nil_of_le (by omega)]
theorem sorted_ground {us : List Tab} {top : Int} (h : GroundOk us top) : GroundOk (us.mergeSort tabLe) top := by
  have hp := List.mergeSort_perm us tabLe
  refine ⟨fun t ht => h.each t (hp.mem_iff.mp ht), ?_, ?_, ?_, ?_⟩
  · exact (hp.map Tab.name).nodup_iff.mpr h.nd
  · rw [hp.length_eq]; exact h.len1
  · rw [hp.length_eq]; exact h.len4
  · rw [roomsOf_perm hp]; exact h.room
end M

/-! things of any kind, and what of them is a ground: the program's reading -/
namespace M
open PySem PySem.Spec PyProof.Rows L2
inductive Nc (b : Nat) : D → Prop
  | non : Nc b .non
  | bl (x : Bool) : Nc b (.bl x)
  | int (i : Int) : Nc b (.int i)
  | str {x : Str} : PyData.strOk x = true → x.length ≤ b → Nc b (.str x)
  | tup {xs : List D} : (∀ x ∈ xs, Nc b x) → xs.length ≤ b → Nc b (.tup xs)
  | lst {xs : List D} : (∀ x ∈ xs, Nc b x) → xs.length ≤ b → Nc b (.lst xs)
theorem Nc.mono {b c : Nat} {d : D} (h : Nc b d) (hb : b ≤ c) : Nc c d := by
  induction h with
  | non => exact .non
  | bl x => exact .bl x
  | int x => exact .int x
  | str h1 h2 => exact .str h1 (by omega)
  | tup _ h2 ih => exact .tup ih (by omega)
  | lst _ h2 ih => exact .lst ih (by omega)
/-! ### the readings -/
def letB (c : Nat) : Bool := decide (97 ≤ c ∧ c ≤ 122)
def nameS (w : Str) : Bool := decide (1 ≤ w.length) && decide (w.length ≤ 8) && !decide (w ∈ barred) && w.cps.toList.all letB
def nameB : D → Bool
  | .str w => nameS w
  | _ => false
def fromB (d : D) (lo hi : Int) : Bool := match d with
  | .int i => decide (lo ≤ i) && decide (i ≤ hi)
  | _ => false
def blB : D → Bool
  | .bl _ => true
  | _ => false
def colB : D → Bool
  | .tup [a, b, c] => nameB a && (fromB b 1 9 && blB c)
  | _ => false
def fstD : D → D
  | .tup (a :: _) => a
  | _ => .non
def strD : D → Str
  | .str x => x
  | _ => ""
def intD : D → Int
  | .int i => i
  | _ => 0
def namesOf (cs : List D) : List Str := cs.map fun c => strD (fstD c)
theorem all_bls {α : Type} (f : α → Bool) (xs : List α) : biD .all [.lst (xs.map fun x => D.bl (f x))] = some (.bl (xs.all f)) := by
  simp only [biD, asBls_map, Option.map_some, List.all_map]
  rfl
theorem any_bls {α : Type} (f : α → Bool) (xs : List α) : biD .any [.lst (xs.map fun x => D.bl (f x))] = some (.bl (xs.any f)) := by
  simp only [biD, asBls_map, Option.map_some, List.any_map]
  rfl
def f_names_of : Fn := ⟨1, 2,
  [(.ret (.bi .tuple [(.lc (.v 1) (.of (.idx (.var 0) (.lit (D.int 2)))) [] (.idx (.var 1) (.lit (D.int 0))))]))]⟩
theorem t_f (h : true = false) : False := by cases h
theorem f_t (h : false = true) : False := by cases h
abbrev Is (S : St') (d : D) : SV → St' → Prop := fun v S' => S' = S ∧ v = .t d
theorem rp_lcI {F : FS} {tg : Tg} {e : ME} {ρ : Ev} {S : St'} {P : List D → St' → Prop} {E : EX} {ys : List D} (g : D → D) (hl : ys.length ≤ 16777216)
    (h : ∀ y ∈ ys, ∀ acc, ∃ ρ', bindTg tg y ρ = some ρ' ∧ RP (evalE F e ρ' (S ++ [.lst acc])) (fun x S2 => x = .t (g y) ∧ S2 = S ++ [.lst acc]) noE)
    (hp : P (ys.map g) S) : RP (lcSrc tg (tests (evalCs F [])) (evalE F e) (.fix ys) ρ S) P E := by
  have := rp_lcM (F := F) (tg := tg) (e := e) (ρ := ρ) (S := S) (P := P) (E := E) (ys := ys) (fun y => y) g hl h hp
  rwa [List.map_id'] at this
theorem at0 (a : D) (r : List D) : atI (a :: r) 0 = some a := L2.atI_nat (j := 0) rfl
theorem at1 (a b : D) (r : List D) : atI (a :: b :: r) 1 = some b := L2.atI_nat (j := 1) rfl
theorem at2 (a b c : D) (r : List D) : atI (a :: b :: c :: r) 2 = some c := L2.atI_nat (j := 2) rfl
theorem colB_shape {c : D} (h : colB c = true) : ∃ w lo x, c = .tup [.str w, .int lo, .bl x] ∧ nameS w = true ∧ 1 ≤ lo ∧ lo ≤ 9 := by
  cases c with
  | tup xs =>
    match xs, h with
    | [a, b, c], h =>
      simp only [colB, Bool.and_eq_true] at h
      obtain ⟨h1, h2, h3⟩ := h
      cases a <;> simp only [nameB, Bool.false_eq_true] at h1
      cases b <;> simp only [fromB, Bool.false_eq_true, Bool.and_eq_true, decide_eq_true_eq] at h2
      cases c <;> simp only [blB, Bool.false_eq_true] at h3
      exact ⟨_, _, _, rfl, h1, h2⟩
    | [], h => cases h
    | [_], h => cases h
    | [_, _], h => cases h
    | _ :: _ :: _ :: _ :: _, h => cases h
  | _ => cases h
theorem col_at0 {c : D} (h : colB c = true) : idxD c (.int 0) = some (.str (strD (fstD c))) := by
  obtain ⟨w, lo, x, rfl, -⟩ := colB_shape h
  exact at0 _ _
theorem names_of_ok {T : List Fn} {i : Nat} (hT : T[i]? = some f_names_of) (n : Nat) {a b : D} {cs : List D} (hc : cs.all colB = true) (hl : cs.length ≤ 1000) (S : St') : RP (FT T (n + 1) i [.t (.tup [a, b, .tup cs])] S) (Is S (.tup ((namesOf cs).map .str))) noE := by
  refine rp_fn hT rfl rfl ?_
  simp only [f_names_of, pad]
  have q2 := at2 a b (.tup cs) []
  exists 1, q2
  refine rp_lcI (fun c => .str (strD (fstD c))) (by omega) (fun x hx acc => ?_) ?_
  · refine ⟨_, rfl, ?_⟩
    exists 1, col_at0 (List.all_eq_true.mp hc x hx)
  · exists 1
    simp only [namesOf, List.map_map]
    rfl
theorem cut_to (xs : List D) {a : Int} (h0 : 0 ≤ a) : cutD xs none (some a) = xs.take a.toNat := cutL_to xs h0
end M

/-! a ground: the program's reading, the laws' reading -/
namespace M
open PySem PySem.Spec PyProof.Rows L2
theorem cut_of (xs : List D) {a : Int} (h0 : 0 ≤ a) : cutD xs (some a) none = xs.drop a.toNat := cutL_of xs h0
end M

/-! a ground by the laws' reading; odd things, spoilt things -/
namespace M
open PySem PySem.Spec PyProof.Rows L2
end M

/-! odd things, spoilt things -/
namespace M
open PySem PySem.Spec PyProof.Rows L2
inductive Nk (b : Nat) : Nat → D → Prop
  | non {k : Nat} : Nk b k .non
  | bl {k : Nat} (x : Bool) : Nk b k (.bl x)
  | int {k : Nat} (i : Int) : Nk b k (.int i)
  | str {k : Nat} {x : Str} : PyData.strOk x = true → x.length ≤ b → Nk b k (.str x)
  | tup {k : Nat} {xs : List D} : (∀ x ∈ xs, Nk b k x) → xs.length ≤ b → Nk b (k + 1) (.tup xs)
  | lst {k : Nat} {xs : List D} : (∀ x ∈ xs, Nk b k x) → xs.length ≤ b → Nk b (k + 1) (.lst xs)
theorem Nk.nc {b k : Nat} {d : D} (h : Nk b k d) : Nc b d := by
  induction h with
  | non => exact .non
  | bl x => exact .bl x
  | int x => exact .int x
  | str h1 h2 => exact .str h1 h2
  | tup _ h2 ih => exact .tup ih h2
  | lst _ h2 ih => exact .lst ih h2
theorem Nk.mono {b c k : Nat} {d : D} (h : Nk b k d) : ∀ {j : Nat}, b ≤ c → k ≤ j → Nk c j d := by
  induction h with
  | non => intro j _ _; exact .non
  | bl x => intro j _ _; exact .bl x
  | int x => intro j _ _; exact .int x
  | str h1 h2 => intro j hb _; exact .str h1 (by omega)
  | tup _ h2 ih =>
    intro j hb hk
    obtain ⟨i, rfl⟩ : ∃ i, j = i + 1 := ⟨j - 1, by omega⟩
    exact .tup (fun x hx => ih x hx hb (by omega)) (by omega)
  | lst _ h2 ih =>
    intro j hb hk
    obtain ⟨i, rfl⟩ : ∃ i, j = i + 1 := ⟨j - 1, by omega⟩
    exact .lst (fun x hx => ih x hx hb (by omega)) (by omega)
theorem Nk.ok {b k : Nat} {d : D} (h : Nk b k d) : Ok k d := by
  induction h with
  | non => exact .non
  | bl x => exact .bl x
  | int x => exact .int x
  | str h1 h2 => exact .str h1
  | tup _ h2 ih => exact .tup ih
  | lst _ h2 ih => exact .lst ih
theorem at_mem {xs : List D} {z : Int} (h0 : 0 ≤ z) (h1 : z < xs.length) : ∃ d, atI xs z = some d ∧ d ∈ xs := by
  obtain ⟨k, rfl⟩ := Int.eq_ofNat_of_zero_le h0
  have hk : k < xs.length := by omega
  exact ⟨xs[k], L2.atI_nat (List.getElem?_eq_getElem hk), List.getElem_mem hk⟩
theorem pk_live {S : St'} {xs : List D} : peek (S ++ [.lst xs]) (.o S.length) = some (.lst xs) := by simp only [peek, st_get]
theorem slc_live {S : St'} {xs : List D} {l h : Option Int} : slc2 (S ++ [.lst xs]) (.o S.length) l h = some (.lst (cutD xs l h)) := by
  unfold slc2; rw [pk_live]; rfl
theorem finT {S S' : St'} {d : D} {P : SV → St' → Prop} {E : EX} (ht : S'.take S.length = S) (h : P (.t d) S) : RP (finish S.length (.t d) S') P E := by
  unfold finish
  rw [ht]
  exact h
structure Sp (b q : Nat) (S S' : St') (k : Nat) (ys : List D) : Prop where
  lo : S.length ≤ k
  get : S'[k]? = some (.lst ys)
  tk : S'.take S.length = S
  nc : ∀ y ∈ ys, Nk (b + 1) (q + 2) y
  len : ys.length ≤ b + 1
theorem Sp.one {b q : Nat} {S : St'} {ys : List D} (h1 : ∀ y ∈ ys, Nk (b + 1) (q + 2) y) (h2 : ys.length ≤ b + 1) : Sp b q S (S ++ [.lst ys]) S.length ys := ⟨Nat.le_refl _, st_get, by simp, h1, h2⟩
theorem Sp.two {b q : Nat} {S : St'} {xs ys : List D} (h1 : ∀ y ∈ ys, Nk (b + 1) (q + 2) y) (h2 : ys.length ≤ b + 1) : Sp b q S ((S ++ [O.lst xs]) ++ [O.lst ys]) (S ++ [O.lst xs]).length ys := ⟨by simp, st_get, by simp, h1, h2⟩
theorem take_cut {xs : List D} {a : Int} (h : 0 ≤ a) : cutD xs none (some a) = xs.take a.toNat := cut_to xs h
theorem drop_cut {xs : List D} {a : Int} (h : 0 ≤ a) : cutD xs (some a) none = xs.drop a.toNat := cut_of xs h
theorem ints_of {ps : List Int} {a : Int} (h : 0 ≤ a) : slcD (.lst (ps.map .int)) (some a) none = some (.lst ((ps.drop a.toNat).map .int)) := by
  rw [slc_ints, cutL_of ps h]
end M

/-! a drawn ground is one, by the readings -/
namespace M
open PySem PySem.Spec PyProof.Rows L2
theorem NameOk.nameS {w : Str} (h : NameOk w) : M.nameS w = true := by
  simp only [M.nameS, Bool.and_eq_true, decide_eq_true_eq, Bool.not_eq_true', decide_eq_false_iff_not, List.all_eq_true]
  exact ⟨⟨⟨h.pos, h.le⟩, h.bar⟩, fun c hc => decide_eq_true (h.let_ c hc)⟩
theorem colB_colD {c : Col} (h : ColOk c) : colB (colD c) = true := by
  simp only [colD, colB, nameB, fromB, blB, h.name.nameS, Bool.and_true, Bool.true_and, Bool.and_eq_true, decide_eq_true_eq]
  exact ⟨h.lo, h.hi⟩
theorem namesOf_cols (cs : List Col) : namesOf (cs.map colD) = cs.map Col.name := by rw [namesOf, List.map_map]; rfl
theorem Nc.name {w : Str} (h : NameOk w) : Nc 10 (.str w) := .str h.let_.ok (by have := h.le; omega)
theorem Nc.col {c : Col} (h : ColOk c) : Nc 10 (colD c) := .tup (fun x hx => by
  simp only [List.mem_cons, List.not_mem_nil, or_false] at hx
  rcases hx with rfl | rfl | rfl
  · exact .name h.name
  · exact .int _
  · exact .bl _) (by simp)
theorem Nc.tab {t : Tab} (h : TabOk t) : Nc 10 (tabD t) := .tup (fun x hx => by
  simp only [List.mem_cons, List.not_mem_nil, or_false] at hx
  rcases hx with rfl | rfl | rfl
  · exact .name h.name
  · exact .int _
  · refine .tup (fun x hx => ?_) (by have := h.len4; simp; omega)
    obtain ⟨c, hc, rfl⟩ := List.mem_map.mp hx
    exact .col (h.cols.each c hc)) (by simp)
theorem Nc.ground {ts : List Tab} {top : Int} (h : GroundOk ts top) : (∀ x ∈ ts.map tabD, Nc 10 x) ∧ (ts.map tabD).length ≤ 4 := by
  refine ⟨fun x hx => ?_, by have := h.len4; simp; omega⟩
  obtain ⟨t, ht, rfl⟩ := List.mem_map.mp hx
  exact .tab (h.each t ht)
end M

/-! what of things is a condition: a reading, and the program's words -/
namespace M
open PySem PySem.Spec PyProof.Rows L2
def colNames (t : Tab) : List Str := t.cols.map Col.name
/-! ### data -/
theorem deq_ss (x y : Str) : deq (.str x) (.str y) = decide (x = y) := by
  rw [deq]
  by_cases h : x = y
  · subst h; simp
  · simp [h]
theorem eq_ss (x y : Str) : cmpD .eq (.str x) (.str y) = some (decide (x = y)) := by
  simp only [cmpD, scalD, Bool.true_or, if_true, deq_ss]
theorem eq_sb (x y : Str) : ∃ b : Bool, (b = true ↔ x = y) ∧ cmpD .eq (.str x) (.str y) = some b := ⟨_, by simp, eq_ss x y⟩
def inB (cols : List Str) : D → Bool
  | .str s => decide (s ∈ cols)
  | _ => false
theorem any_in (cols : List Str) (d : D) : ((cols.map D.str).any fun z => deq z d) = inB cols d := by
  induction cols with
  | nil => cases d <;> simp [inB]
  | cons c cs ih =>
    rw [List.map_cons, List.any_cons, ih]
    cases d with
    | str s =>
      rw [deq_ss]
      simp only [inB]
      by_cases h : c = s
      · subst h; simp
      · have h' : ¬ s = c := fun e => h e.symm
        simp [h, h']
    | _ => simp [inB, deq]
theorem ok_strs {cols : List Str} (hc : ∀ c ∈ cols, PyData.strOk c = true) : okD (.tup (cols.map .str)) = true := (Ok.tup (k := 0) fun x hx => by
    obtain ⟨t, ht', rfl⟩ := List.mem_map.mp hx
    exact Ok.str (hc t ht')).okD (by omega)
theorem in_cols {cols : List Str} {d : D} {k : Nat} (hc : ∀ c ∈ cols, PyData.strOk c = true) (hd : Ok k d) (hk : k ≤ 60) : cmpD .isin d (.tup (cols.map .str)) = some (inB cols d) := by
  have h1 : okD d = true := hd.okD (by omega)
  simp only [cmpD, inD, h1, ok_strs hc, Bool.and_self, if_true, any_in]
/-! ### the program's words -/
end M

/-! sound, sound_has -/
namespace M
open PySem PySem.Spec PyProof.Rows L2
theorem isi_str {d : D} (h : isiD d .str = true) : ∃ s, d = .str s := by
  cases d <;> first | exact ⟨_, rfl⟩ | cases h
end M

/-! parts_of, is_condition -/
namespace M
open PySem PySem.Spec PyProof.Rows L2
def JOIN : List Str := ["not", "and", "or"]
def inner (w : Str) (ps : List D) : List D :=
  if w = "has" then (match ps with | [_, _, _, c] => [c] | _ => []) else if w ∈ JOIN then ps else []
end M

/-! what the law says of conditions -/
namespace M
open PySem PySem.Spec PyProof.Rows L2
/-! ### the counts -/
end M

/-! the law's own count of a condition's parts -/
namespace M
open PySem PySem.Spec PyProof.Rows L2
theorem gt_ii (a b : Int) : cmpD .gt (.int a) (.int b) = some (decide (b < a)) := rfl
def ISB : List Str := ["is", "below"]
theorem two {α : Type} {xs : List α} (h : xs.length = 2) : ∃ a b, xs = [a, b] := by
  match xs, h with
  | [a, b], _ => exact ⟨a, b, rfl⟩
end M

/-! the law's conditions: how they are drawn -/
namespace M
open PySem PySem.Spec PyProof.Rows L2
def f__law_atom : Fn := ⟨3, 7,
  [(.asg (.v 3) (.bin .add (.lst [(.lit (D.str "is")), (.lit (D.str "below")), (.lit (D.str "same")), (.lit (D.str "empty")), (.lit (D.str "is")), (.lit (D.str "below")), (.lit (D.str "yes"))]) (.bin .mul (.lst [(.lit (D.str "mine"))]) (.mth .count (.var 2) [(.lit (D.str "m"))])))),
  (.asg (.v 3) (.bin .add (.var 3) (.bin .mul (.lst [(.lit (D.str "loud")), (.lit (D.str "loud")), (.lit (D.str "loud"))]) (.mth .count (.var 2) [(.lit (D.str "l"))])))),
  (.asg (.v 4) (.idx (.var 3) (.bin .mod (.idx (.var 0) (.lit (D.int 0))) (.bi .len [(.var 3)])))),
  (.asg (.v 5) (.idx (.var 1) (.bin .mod (.idx (.var 0) (.lit (D.int 1))) (.bi .len [(.var 1)])))),
  (.ife (.cmp .eq (.var 4) (.lit (D.str "yes"))) [(.ret (.tup [(.var 4)]))] []),
  (.ife (.cmp .eq (.var 4) (.lit (D.str "same"))) [(.ret (.tup [(.var 4), (.var 5), (.idx (.var 1) (.bin .mod (.idx (.var 0) (.lit (D.int 2))) (.bi .len [(.var 1)])))]))] []),
  (.ife (.cmp .isin (.var 4) (.tup [(.lit (D.str "is")), (.lit (D.str "below"))])) [(.asg (.v 6) (.idx (.lst [(.bin .mod (.idx (.var 0) (.lit (D.int 3))) (.lit (D.int 3))), (.bin .mod (.idx (.var 0) (.lit (D.int 3))) (.lit (D.int 10)))]) (.bin .mod (.idx (.var 0) (.lit (D.int 4))) (.lit (D.int 2))))),
  (.ret (.tup [(.var 4), (.var 5), (.bin .add (.var 6) (.bi .int [(.and (.cmp .eq (.var 4) (.lit (D.str "below"))) (.cmp .eq (.bin .mod (.idx (.var 0) (.lit (D.int 5))) (.lit (D.int 2))) (.lit (D.int 0))))]))]))] []),
  (.ret (.tup [(.var 4), (.var 5)]))]⟩
def f__law_condition (i__law_atom i__law_condition : Nat) : Fn := ⟨5, 13,
  [(.ife (.cmp .lt (.var 1) (.lit (D.int 2))) [(.ret (.call i__law_atom [(.var 0), (.var 3), (.var 4)]))] []),
  (.asg (.v 5) (.bin .add (.bin .add (.lst [(.lit (D.str "not"))]) (.bin .mul (.lst [(.lit (D.str "and")), (.lit (D.str "or")), (.lit (D.str "and")), (.lit (D.str "or"))]) (.bi .int [(.cmp .gt (.var 1) (.lit (D.int 2)))]))) (.bin .mul (.lst [(.lit (D.str "has"))]) (.mth .count (.var 4) [(.lit (D.str "h"))])))),
  (.asg (.v 6) (.idx (.var 5) (.bin .mod (.idx (.var 0) (.lit (D.int 0))) (.bi .len [(.var 5)])))),
  (.ife (.cmp .eq (.var 6) (.lit (D.str "has"))) [(.asg (.v 7) (.idx (.var 2) (.bin .mod (.idx (.var 0) (.lit (D.int 1))) (.bi .len [(.var 2)])))),
  (.asg (.v 8) (.lc (.v 12) (.of (.idx (.var 7) (.lit (D.int 2)))) [] (.idx (.var 12) (.lit (D.int 0))))),
  (.asg (.v 9) (.callR i__law_condition [(.slc (.var 0) [(.lit (D.int 6))] []), (.bin .sub (.var 1) (.lit (D.int 1))), (.var 2), (.var 8)] (.var 4) "h" "")),
  (.ret (.tup [(.var 6), (.idx (.var 7) (.lit (D.int 0))), (.idx (.var 3) (.bin .mod (.idx (.var 0) (.lit (D.int 2))) (.bi .len [(.var 3)]))), (.idx (.var 8) (.bin .mod (.idx (.var 0) (.lit (D.int 3))) (.bi .len [(.var 8)]))), (.var 9)]))] []),
  (.ife (.cmp .eq (.var 6) (.lit (D.str "not"))) [(.ret (.tup [(.var 6), (.call i__law_condition [(.slc (.var 0) [(.lit (D.int 6))] []), (.bin .sub (.var 1) (.lit (D.int 1))), (.var 2), (.var 3), (.var 4)])]))] []),
  (.asg (.v 10) (.bin .add (.lit (D.int 1)) (.bin .mod (.idx (.var 0) (.lit (D.int 1))) (.bin .sub (.var 1) (.lit (D.int 2)))))),
  (.asg (.v 11) (.call i__law_condition [(.slc (.var 0) [(.lit (D.int 6))] [(.bin .add (.lit (D.int 6)) (.bin .mul (.lit (D.int 6)) (.var 10)))]), (.var 10), (.var 2), (.var 3), (.var 4)])),
  (.ret (.tup [(.var 6), (.var 11), (.call i__law_condition [(.slc (.var 0) [(.bin .add (.lit (D.int 6)) (.bin .mul (.lit (D.int 6)) (.var 10)))] []), (.bin .sub (.bin .sub (.var 1) (.lit (D.int 1))) (.var 10)), (.var 2), (.var 3), (.var 4)])]))]⟩
theorem lt_ii (a b : Int) : cmpD .lt (.int a) (.int b) = some (decide (a < b)) := rfl
/-! ### picks -/
def WAYS : List Str := ["lmh", "lm", "lh", "mh", "l", "m", "h", ""]
def wA : List D := [.str "is", .str "below", .str "same", .str "empty", .str "is", .str "below", .str "yes"]
def wM (w : Str) : List D := (List.replicate (cntT w "m").toNat [D.str "mine"]).flatten
def wL (w : Str) : List D := (List.replicate (cntT w "l").toNat [D.str "loud", D.str "loud", D.str "loud"]).flatten
def wH (w : Str) : List D := (List.replicate (cntT w "h").toNat [D.str "has"]).flatten
theorem ways_b : ∀ w ∈ WAYS, (0 ≤ (cntT w "m") ∧ (cntT w "m") ≤ 3) ∧ (0 ≤ (cntT w "l") ∧ (cntT w "l") ≤ 3) ∧ (0 ≤ (cntT w "h") ∧ (cntT w "h") ≤ 3) := by decide +kernel
theorem ways_l : ∀ w ∈ WAYS, w.length ≤ 3 := by decide +kernel
def ATOMS : List Str := ["is", "below", "same", "empty", "yes", "mine", "loud"]
theorem atoms_b : ∀ w ∈ ATOMS, PyData.strOk w = true ∧ w.length ≤ 10 := by decide +kernel
theorem words_b : (WAYS.all fun w => (wA ++ wM w ++ wL w).all fun d => isiD d .str && decide (strD d ∈ ATOMS)) = true := by decide +kernel
theorem words_m {w : Str} {d : D} (hw : w ∈ WAYS) (h : d ∈ wA ++ wM w ++ wL w) : ∃ x ∈ ATOMS, d = .str x := by
  have := List.all_eq_true.mp (List.all_eq_true.mp words_b w hw) d h
  rw [Bool.and_eq_true] at this
  obtain ⟨x, rfl⟩ := isi_str this.1
  exact ⟨x, of_decide_eq_true this.2, rfl⟩
theorem mul_ok {xs : List D} {k : Int} (h0 : 0 ≤ k) (h1 : k ≤ 3) (hl : xs.length ≤ 100) : binD .mul (.lst xs) (.int k) = some (.lst (List.replicate k.toNat xs).flatten) := by
  simp only [binD]
  refine if_pos ⟨by omega, by omega, le_sz' ?_⟩
  have h2 : k.toNat ≤ 3 := by omega
  have := Nat.mul_le_mul hl h2
  omega
theorem add_ok {xs ys : List D} (h : xs.length + ys.length ≤ 100000) : binD .add (.lst xs) (.lst ys) = some (.lst (xs ++ ys)) := by
  simp only [binD]
  exact if_pos (le_sz' (by omega))
structure ColsD (cD : D) (cols : List Str) : Prop where
  shape : cD = .tup (cols.map .str) ∨ cD = .lst (cols.map .str)
  name : ∀ c ∈ cols, NameOk c
  len1 : 1 ≤ cols.length
  len2 : cols.length ≤ 20
theorem ColsD.len {cD : D} {cols : List Str} (h : ColsD cD cols) : biD .len [cD] = some (.int (cols.length : Nat)) := by
  rcases h.shape with rfl | rfl <;> simp only [biD, List.length_map]
theorem ColsD.at_ {cD : D} {cols : List Str} (h : ColsD cD cols) (z : Int) : ∃ c ∈ cols, idxD cD (.int (z % (cols.length : Nat))) = some (.str c) := by
  have hp : (0 : Int) < (cols.length : Nat) := by have := h.len1; omega
  obtain ⟨d, h1, h2⟩ := at_mem (xs := cols.map D.str) (z := z % (cols.length : Nat)) (Int.emod_nonneg _ (by omega)) (by rw [List.length_map]; exact Int.emod_lt_of_pos _ hp)
  obtain ⟨c, hc, rfl⟩ := List.mem_map.mp h2
  refine ⟨c, hc, ?_⟩
  rcases h.shape with rfl | rfl <;> exact h1
theorem mod_ok {i : Int} {n : Nat} (h : 1 ≤ n) : binD .mod (.int i) (.int (n : Nat)) = some (.int (i % (n : Nat))) := by
  simp only [binD]
  exact if_pos (by omega)
theorem Nk.nm {w : Str} {k : Nat} (h : NameOk w) : Nk 10 k (.str w) := .str h.let_.ok (by have := h.le; omega)
theorem Nk.at_ {w : Str} {k : Nat} (h : w ∈ ATOMS) : Nk 10 k (.str w) := .str (atoms_b w h).1 (atoms_b w h).2
def cM (w : Str) : Int := cntT w "m"
def cL (w : Str) : Int := cntT w "l"
def cH (w : Str) : Int := cntT w "h"
theorem cnt_m (S : St') (w : Str) : mth2 .count S (.t (.str w)) [.t (.str "m")] = some (.int (cM w)) := rfl
theorem cnt_l (S : St') (w : Str) : mth2 .count S (.t (.str w)) [.t (.str "l")] = some (.int (cL w)) := rfl
theorem cnt_h (S : St') (w : Str) : mth2 .count S (.t (.str w)) [.t (.str "h")] = some (.int (cH w)) := rfl
theorem mul_m {w : Str} (hw : w ∈ WAYS) : binD .mul (.lst [.str "mine"]) (.int (cM w)) = some (.lst (wM w)) := mul_ok (ways_b w hw).1.1 (ways_b w hw).1.2 (by simp)
theorem mul_l {w : Str} (hw : w ∈ WAYS) : binD .mul (.lst [.str "loud", .str "loud", .str "loud"]) (.int (cL w)) = some (.lst (wL w)) := mul_ok (ways_b w hw).2.1.1 (ways_b w hw).2.1.2 (by simp)
theorem mul_h {w : Str} (hw : w ∈ WAYS) : binD .mul (.lst [.str "has"]) (.int (cH w)) = some (.lst (wH w)) := mul_ok (ways_b w hw).2.2.1 (ways_b w hw).2.2.2 (by simp)
theorem len_m : ∀ {w : Str}, w ∈ WAYS → (wM w).length ≤ 3 := by
  have : ∀ w ∈ WAYS, (wM w).length ≤ 3 := by decide +kernel
  exact fun {w} h => this w h
theorem len_l : ∀ {w : Str}, w ∈ WAYS → (wL w).length ≤ 9 := by
  have : ∀ w ∈ WAYS, (wL w).length ≤ 9 := by decide +kernel
  exact fun {w} h => this w h
theorem len_h : ∀ {w : Str}, w ∈ WAYS → (wH w).length ≤ 3 := by
  have : ∀ w ∈ WAYS, (wH w).length ≤ 3 := by decide +kernel
  exact fun {w} h => this w h
theorem bin2_t {o : Bn} {a b r : D} (S : St') (h : binD o a b = some r) : bin2 o S (.t a) (.t b) = some r := h
end M

/-! the law's conditions: trees -/
namespace M
open PySem PySem.Spec PyProof.Rows L2
def JW (b : Bool) : List D := (List.replicate (if b = true then (1 : Int) else 0).toNat [D.str "and", D.str "or", D.str "and", D.str "or"]).flatten
def TREE : List Str := ["not", "and", "or", "has"]
theorem tree_w : (WAYS.all fun w => [true, false].all fun b => ([D.str "not"] ++ JW b ++ wH w).all fun d => isiD d .str && (decide (strD d ∈ TREE) && (b || decide (strD d = "not" ∨ strD d = "has")))) = true := by decide +kernel
theorem tree_m {w : Str} {b : Bool} {d : D} (hw : w ∈ WAYS) (h : d ∈ [D.str "not"] ++ JW b ++ wH w) : ∃ x ∈ TREE, d = .str x ∧ (b = true ∨ x = "not" ∨ x = "has") := by
  have := List.all_eq_true.mp (List.all_eq_true.mp (List.all_eq_true.mp tree_w w hw) b (by cases b <;> simp)) d h
  rw [Bool.and_eq_true, Bool.and_eq_true, Bool.or_eq_true] at this
  obtain ⟨x, rfl⟩ := isi_str this.1
  exact ⟨x, of_decide_eq_true this.2.1, rfl, this.2.2.imp id of_decide_eq_true⟩
theorem mul_j (S : St') (b : Bool) : bin2 .mul S (.t (.lst [.str "and", .str "or", .str "and", .str "or"])) (.t (.int (if b = true then 1 else 0))) = some (.lst (JW b)) := bin2_t S (mul_ok (by cases b <;> decide) (by cases b <;> decide) (by simp))
theorem len_j (b : Bool) : (JW b).length ≤ 4 := by cases b <;> decide
theorem int_bl (b : Bool) : biD .int [.bl b] = some (.int (if b = true then 1 else 0)) := rfl
theorem tab_at {ts : List Tab} (h1 : 1 ≤ ts.length) (z : Int) : ∃ t ∈ ts, idxD (.tup (ts.map tabD)) (.int (z % (ts.length : Nat))) = some (tabD t) := by
  obtain ⟨d, h2, h3⟩ := at_mem (xs := ts.map tabD) (z := z % (ts.length : Nat)) (Int.emod_nonneg _ (by omega)) (by rw [List.length_map]; exact Int.emod_lt_of_pos _ (by omega))
  obtain ⟨t, ht, rfl⟩ := List.mem_map.mp h3
  exact ⟨t, ht, h2⟩
theorem len_tab (ts : List Tab) : biD .len [.tup (ts.map tabD)] = some (.int (ts.length : Nat)) := by simp only [biD, List.length_map]
theorem tab_colsD {t : Tab} (h : TabOk t) : ColsD (.lst ((colNames t).map .str)) (colNames t) := ⟨.inr rfl, fun c hc => by
  obtain ⟨x, hx, rfl⟩ := List.mem_map.mp hc
  exact (h.cols.each x hx).name, by unfold colNames; rw [List.length_map]; exact h.len1, by unfold colNames; rw [List.length_map]; have := h.len4; omega⟩
theorem cut_ints (ps : List Int) (lo hi : Option Int) : cutD (ps.map .int) lo hi = (cutL ps lo hi).map .int := by
  have := slc_ints ps lo hi
  simp only [slcD, Option.some.injEq, D.lst.injEq] at this
  exact this
end M

/-! the law's columns -/
namespace M
open PySem PySem.Spec PyProof.Rows L2
end M

/-! rows, worlds: what they are; the order of rows -/
namespace M
open PySem PySem.Spec PyProof.Rows L2
def rowD (k : List Int) : D := .tup (k.map .int)
def rowI : D → List Int
  | .tup xs => xs.map intD
  | _ => []
def emI (c : Col) : Int := if c.emp = true then 1 else 0
def cvB (c : Col) (d : D) : Bool := fromB d (0 - emI c) (c.size - 1)
def rowB (t : Tab) : D → Bool
  | .tup xs => decide (xs.length = t.cols.length) && (t.cols.zip xs).all fun p => cvB p.1 p.2
  | _ => false
def keyI (t : Tab) (k : List Int) : List Int := if t.key = 0 then k else k.take t.key.toNat
def risesI : List (List Int) → Bool
  | a :: b :: r => decide (a < b) && risesI (b :: r)
  | _ => true
def keysOf (t : Tab) (rs : List D) : List (List Int) := rs.map fun r => keyI t (rowI r)
def rowsB (t : Tab) : D → Bool
  | .tup rs => decide (rs.length ≤ 12) && (rs.all (rowB t) && (risesI (rs.map rowI) && decide (keysOf t rs).Nodup))
  | _ => false
def worldB (ts : List Tab) : D → Bool
  | .tup ws => decide (ws.length = ts.length) && (ts.zip ws).all fun p => rowsB p.1 p.2
  | _ => false
theorem fromB_int {d : D} {a b : Int} (h : fromB d a b = true) : ∃ v, d = .int v ∧ a ≤ v ∧ v ≤ b := by
  unfold fromB at h
  split at h
  · simp only [Bool.and_eq_true, decide_eq_true_eq] at h
    exact ⟨_, rfl, h.1, h.2⟩
  · cases h
theorem row_ints {cs : List Col} : ∀ {xs : List D}, xs.length = cs.length → ((cs.zip xs).all fun p => cvB p.1 p.2) = true → xs = (xs.map intD).map .int := by
  induction cs with
  | nil => intro xs h _; cases xs with
    | nil => rfl
    | cons => simp at h
  | cons c cs ih =>
    intro xs h h2
    cases xs with
    | nil => simp at h
    | cons x xs =>
      simp only [List.zip_cons_cons, List.all_cons, Bool.and_eq_true] at h2
      obtain ⟨v, rfl, _⟩ := fromB_int h2.1
      have := ih (xs := xs) (by simpa using h) h2.2
      simp only [List.map_cons, intD]
      rw [← this]
theorem rowB_shape {t : Tab} {d : D} (h : rowB t d = true) : d = rowD (rowI d) ∧ (rowI d).length = t.cols.length := by
  cases d with
  | tup xs =>
    simp only [rowB, Bool.and_eq_true, decide_eq_true_eq] at h
    refine ⟨?_, by simp [rowI, h.1]⟩
    simp only [rowI, rowD]
    rw [← row_ints h.1 h.2]
  | _ => cases h
theorem toPys_ints : ∀ k : List Int, toPys (k.map .int) = k.map PyData.int
  | [] => rfl
  | i :: k => by rw [List.map_cons, toPys, toPys_ints k, toPy, List.map_cons]
theorem dlt_row (a b : List Int) : dlt (rowD a) (rowD b) = decide (a < b) := by
  unfold dlt rowD
  rw [toPy, toPy, toPys_ints, toPys_ints, ← PySem.W.dataLt_ints]
  rfl
theorem dle_row (a b : List Int) : dle (rowD a) (rowD b) = decide (a ≤ b) := by
  unfold dle
  rw [dlt_row]
  by_cases h : b < a
  · have h' : ¬ a ≤ b := fun r => List.not_lt.mpr r h
    simp [h, h']
  · have h' : a ≤ b := List.not_lt.mp h
    simp [h, h']
theorem alike_ints : ∀ a b : List Int, PySem.W.alikeAll (a.map .int) (b.map .int) = true
  | [], _ => by simp [PySem.W.alikeAll]
  | _ :: _, [] => by simp [PySem.W.alikeAll]
  | x :: xs, y :: ys => by simp only [List.map_cons, PySem.W.alikeAll, PySem.W.alike, alike_ints xs ys, Bool.and_self]
theorem alike_row (a b : List Int) : PySem.W.alike (toPy (rowD a)) (toPy (rowD b)) = true := by
  unfold rowD
  rw [toPy, toPy, toPys_ints, toPys_ints, PySem.W.alike, alike_ints]
theorem Ok.rowD (k : List Int) : Ok 1 (M.rowD k) := .tup fun x hx => by
  obtain ⟨i, _, rfl⟩ := List.mem_map.mp hx
  exact .int _
theorem sort_rows {ks : List (List Int)} (h : ∀ k ∈ ks, 1 ≤ k.length) (hl : ks.length ≤ 1000) : sortOk (ks.map rowD) = true ∧ (ks.map rowD).mergeSort dle = (ks.mergeSort fun a b => decide (a ≤ b)).map rowD := by
  constructor
  · unfold sortOk
    simp only [Bool.and_eq_true, Bool.or_eq_true, List.all_eq_true, decide_eq_true_eq]
    refine ⟨⟨⟨fun x hx y hy => ?_, fun x hx => ?_⟩, .inl fun x hx => ?_⟩, le_sz' (by simp; omega)⟩
    · obtain ⟨a, _, rfl⟩ := List.mem_map.mp hx
      obtain ⟨b, _, rfl⟩ := List.mem_map.mp hy
      exact alike_row a b
    · obtain ⟨a, ha, rfl⟩ := List.mem_map.mp hx
      exact Nat.le_trans (Ok.rowD a).2 (by omega)
    · obtain ⟨a, ha, rfl⟩ := List.mem_map.mp hx
      have := h a ha
      cases a with
      | nil => simp at this
      | cons => rfl
  · rw [← List.map_mergeSort (r := fun a b => decide (a ≤ b)) (s := dle) (f := rowD) fun a _ b _ => (dle_row a b).symm]
theorem sorted_rowsL {ks : List (List Int)} (h : ∀ k ∈ ks, 1 ≤ k.length) (hl : ks.length ≤ 1000) : biD .sorted [.lst (ks.map rowD)] = some (.lst ((ks.mergeSort fun a b => decide (a ≤ b)).map rowD)) := by
  obtain ⟨h1, h2⟩ := sort_rows h hl
  simp only [biD, h1, Bool.true_or, if_true, h2]
theorem risesI_pw : ∀ ws : List (List Int), risesI ws = true ↔ ws.Pairwise fun a b => a < b
  | [] => by simp [risesI]
  | [a] => by simp [risesI]
  | a :: b :: r => by
    have ih := risesI_pw (b :: r)
    rw [risesI, Bool.and_eq_true, ih, decide_eq_true_eq]
    constructor
    · rintro ⟨h1, h2⟩
      refine List.pairwise_cons.mpr ⟨fun c hc => ?_, h2⟩
      rcases List.mem_cons.mp hc with rfl | hc
      · exact h1
      · exact List.lt_trans h1 ((List.pairwise_cons.mp h2).1 c hc)
    · intro h
      obtain ⟨h1, h2⟩ := List.pairwise_cons.mp h
      exact ⟨h1 b List.mem_cons_self, h2⟩
theorem le_tr (a b c : List Int) (h1 : decide (a ≤ b) = true) (h2 : decide (b ≤ c) = true) : decide (a ≤ c) = true :=
  decide_eq_true (List.le_trans (of_decide_eq_true h1) (of_decide_eq_true h2))
theorem le_tot (a b : List Int) : (decide (a ≤ b) || decide (b ≤ a)) = true := by
  rcases List.le_total a b with h | h <;> simp [h]
theorem deqs_ints : ∀ zs ws : List Int, deqs (zs.map .int) (ws.map .int) = decide (zs = ws)
  | [], [] => by simp [deqs]
  | [], _ :: _ => by simp [deqs]
  | _ :: _, [] => by simp [deqs]
  | z :: zs, w :: ws => by
    rw [List.map_cons, List.map_cons, deqs, deqs_ints zs ws, deq]
    by_cases h1 : z = w <;> by_cases h2 : zs = ws <;> simp [h1, h2]
theorem asTups_rows : ∀ ks : List (List Int), asTups (ks.map rowD) = some ks
  | [] => rfl
  | k :: ks => by
    rw [List.map_cons, rowD, asTups, ints_k, asTups_rows ks]
    rfl
theorem key_nil {t : Tab} (ht : TabOk t) {k : List Int} (hk : k.length = t.cols.length) : (k.take t.key.toNat = [] ↔ t.key = 0) := by
  have h1 := ht.len1
  have h0 := ht.key0
  rw [List.take_eq_nil_iff]
  constructor
  · rintro (h | h)
    · omega
    · rw [h] at hk; simp at hk; omega
  · intro h
    left; omega
end M

/-! rows and worlds as the program reads them -/
namespace M
open PySem PySem.Spec PyProof.Rows L2
end M

/-! rows and worlds as the law reads them -/
namespace M
open PySem PySem.Spec PyProof.Rows L2
theorem zix {α : Type} {as rest : List α} {y : α × Nat} {ys : List (α × Nat)} {j : Nat} (h : y :: ys = (as.drop j).zipIdx j) : ∃ hj : j < as.length, y = (as[j], j) ∧ ys = (as.drop (j + 1)).zipIdx (j + 1) := by
  by_cases hj : j < as.length
  · rw [List.drop_eq_getElem_cons hj, List.zipIdx_cons] at h
    exact ⟨hj, (List.cons.inj h).1, (List.cons.inj h).2⟩
  · rw [List.drop_eq_nil_of_le (by omega)] at h
    cases h
end M

/-! a world as the law draws it -/
namespace M
open PySem PySem.Spec PyProof.Rows L2
def f__law_world : Fn := ⟨3, 15,
  [(.new 3 (.lst [])),
  (.for_ (.tp [4, 5]) (.enum (.var 1)) [(.asg (.v 6) (.slc (.var 0) [(.bin .mul (.bin .add (.bin .mul (.lit (D.int 4)) (.var 2)) (.lit (D.int 1))) (.var 4))] [(.bin .mul (.bin .add (.bin .mul (.lit (D.int 4)) (.var 2)) (.lit (D.int 1))) (.bin .add (.var 4) (.lit (D.int 1))))])),
  (.newd 7),
  (.for_ (.v 8) (.range1 (.bin .mod (.idx (.var 6) (.lit (D.int 0))) (.bin .add (.var 2) (.lit (D.int 1))))) [(.new 9 (.lst [])),
  (.for_ (.tp [10, 11]) (.enum (.idx (.var 5) (.lit (D.int 2)))) [(.par 12 13 (.idx (.var 11) (.lit (D.int 1))) (.bi .int [(.idx (.var 11) (.lit (D.int 2)))])),
  (.app 9 (.bin .sub (.bin .mod (.idx (.var 6) (.bin .add (.bin .add (.lit (D.int 1)) (.bin .mul (.lit (D.int 4)) (.var 8))) (.var 10))) (.bin .add (.var 12) (.var 13))) (.var 13)))]),
  (.putd 7 (.or (.slc (.var 9) [] [(.idx (.var 5) (.lit (D.int 1)))]) (.var 9)) (.bi .tuple [(.var 9)]))]),
  (.app 3 (.bi .tuple [(.bi .sorted [(.dvals 7 14)])]))]),
  (.ret (.bi .tuple [(.var 3)]))]⟩
def kvOf (t : Tab) (rs : List (List Int)) : List (List Key × D) := rs.map fun r => ((keyI t r).map Sum.inl, rowD r)
def putR (t : Tab) (rs : List (List Int)) (r : List Int) : List (List Int) :=
  if (rs.map (keyI t)).contains (keyI t r) = true then rs.map fun q => if keyI t q = keyI t r then r else q else rs ++ [r]
theorem inl_inj {a b : List Int} : ((a.map Sum.inl : List Key) = b.map Sum.inl) ↔ a = b :=
  ⟨fun h => (List.map_inj_right (fun x y e => by cases e; rfl)).mp h, fun h => by rw [h]⟩
theorem putD_kv (t : Tab) (rs : List (List Int)) (r : List Int) : putD (kvOf t rs) ((keyI t r).map Sum.inl) (rowD r) = kvOf t (putR t rs r) := by
  have e : ((kvOf t rs).any fun kv => decide (kv.1 = (keyI t r).map Sum.inl)) = (rs.map (keyI t)).contains (keyI t r) := by
    rw [kvOf, List.any_map, List.contains_eq_any_beq, List.any_map]
    congr 1
    funext q
    simp only [Function.comp]
    by_cases h : keyI t q = keyI t r
    · simp [h]
    · have h2 : ¬ ((keyI t q).map Sum.inl : List Key) = (keyI t r).map Sum.inl := fun z => h (inl_inj.mp z)
      have h3 : ¬ keyI t r = keyI t q := fun z => h z.symm
      simp [h2, h3]
  unfold putD putR
  rw [e]
  split
  · simp only [kvOf, List.map_map]
    apply List.map_congr_left
    intro q _
    simp only [Function.comp]
    by_cases h : keyI t q = keyI t r
    · simp [h]
    · have h2 : ¬ ((keyI t q).map Sum.inl : List Key) = (keyI t r).map Sum.inl := fun z => h (inl_inj.mp z)
      simp [h, h2]
  · simp [kvOf]
structure RowsOk (t : Tab) (rs : List (List Int)) (n : Nat) : Prop where
  each : ∀ r ∈ rs, rowB t (rowD r) = true
  nd : (rs.map (keyI t)).Nodup
  len : rs.length ≤ n
theorem RowsOk.put {t : Tab} {rs : List (List Int)} {n : Nat} (h : RowsOk t rs n) {r : List Int} (hr : rowB t (rowD r) = true) : RowsOk t (putR t rs r) (n + 1) := by
  unfold putR
  split
  · refine ⟨fun q hq => ?_, ?_, by rw [List.length_map]; exact Nat.le_succ_of_le h.len⟩
    · obtain ⟨p, hp, rfl⟩ := List.mem_map.mp hq
      split
      · exact hr
      · exact h.each p hp
    · have e : (rs.map fun q => if keyI t q = keyI t r then r else q).map (keyI t) = rs.map (keyI t) := by
        rw [List.map_map]
        apply List.map_congr_left
        intro q _
        simp only [Function.comp]
        split
        · rename_i h; exact h.symm
        · rfl
      rw [e]; exact h.nd
  · rename_i hc
    refine ⟨fun q hq => ?_, ?_, by rw [List.length_append]; have := h.len; simp; omega⟩
    · rcases List.mem_append.mp hq with z | z
      · exact h.each q z
      · rw [List.mem_singleton.mp z]; exact hr
    · rw [List.map_append, List.nodup_append]
      refine ⟨h.nd, by simp, fun a ha b hb e => hc ?_⟩
      simp only [List.map_cons, List.map_nil, List.mem_singleton] at hb
      subst hb; subst e
      simpa using ha
theorem rowB_len {t : Tab} {r : List Int} (h : rowB t (rowD r) = true) : r.length = t.cols.length := by
  simp only [rowB, rowD, Bool.and_eq_true, decide_eq_true_eq, List.length_map] at h
  exact h.1
theorem rowI_rowD (r : List Int) : rowI (rowD r) = r := by
  simp only [rowI, rowD, List.map_map]
  conv => rhs; rw [← List.map_id r]
  rfl
theorem rowsB_of {t : Tab} {rs : List (List Int)} (h : RowsOk t rs 12) : rowsB t (.tup ((rs.mergeSort fun a b => decide (a ≤ b)).map rowD)) = true := by
  have pm : (rs.mergeSort fun a b => decide (a ≤ b)).Perm rs := List.mergeSort_perm _ _
  have hn : rs.Nodup := (List.pairwise_map.mp h.nd).imp fun hab e => hab (by rw [e])
  have eI : ((rs.mergeSort fun a b => decide (a ≤ b)).map rowD).map rowI = rs.mergeSort fun a b => decide (a ≤ b) := by
    rw [List.map_map]
    conv => rhs; rw [← List.map_id (rs.mergeSort fun a b => decide (a ≤ b))]
    exact List.map_congr_left fun r _ => rowI_rowD r
  have eK : keysOf t ((rs.mergeSort fun a b => decide (a ≤ b)).map rowD) = (rs.mergeSort fun a b => decide (a ≤ b)).map (keyI t) := by
    rw [keysOf, List.map_map]
    exact List.map_congr_left fun r _ => by simp only [Function.comp, rowI_rowD]
  simp only [rowsB, Bool.and_eq_true, decide_eq_true_eq, List.all_eq_true]
  refine ⟨by rw [List.length_map, pm.length_eq]; exact h.len, fun d hd => ?_, ?_, ?_⟩
  · obtain ⟨r, hr, rfl⟩ := List.mem_map.mp hd
    exact h.each r (pm.mem_iff.mp hr)
  · rw [eI, risesI_pw]
    refine (List.Pairwise.and (List.pairwise_mergeSort le_tr le_tot rs) (pm.nodup_iff.mpr hn)).imp fun {a b} ⟨h1, h2⟩ => ?_
    apply Classical.byContradiction
    intro z
    exact h2 (List.le_antisymm (of_decide_eq_true h1) (List.not_lt.mp z))
  · rw [eK]
    exact (pm.map _).nodup_iff.mpr h.nd
theorem asKeys_ints : ∀ k : List Int, asKeys (k.map .int) = some (k.map Sum.inl)
  | [] => rfl
  | i :: k => by rw [List.map_cons, asKeys, asKeys_ints k]; rfl
theorem stG {S G : St'} {o : O} : ((S ++ [o]) ++ G)[S.length]? = some o := by simp
theorem stGs {S G : St'} {o o' : O} : ((S ++ [o]) ++ G).set S.length o' = (S ++ [o']) ++ G := by simp
theorem val_in {c : Col} (hc : ColOk c) (p : Int) : cvB c (.int (p % (c.size + emI c) - emI c)) = true := by
  have h1 := hc.lo
  have h2 : 0 ≤ emI c := by unfold emI; split <;> omega
  have h3 := Int.emod_nonneg p (b := c.size + emI c) (by omega)
  have h4 := Int.emod_lt_of_pos p (b := c.size + emI c) (by omega)
  simp only [cvB, fromB, Bool.and_eq_true, decide_eq_true_eq]
  omega
def rowLoop : MS := (.for_ (.tp [10, 11]) (.enum (.idx (.var 5) (.lit (D.int 2)))) [(.par 12 13 (.idx (.var 11) (.lit (D.int 1))) (.bi .int [(.idx (.var 11) (.lit (D.int 2)))])),
  (.app 9 (.bin .sub (.bin .mod (.idx (.var 6) (.bin .add (.bin .add (.lit (D.int 1)) (.bin .mul (.lit (D.int 4)) (.var 8))) (.var 10))) (.bin .add (.var 12) (.var 13))) (.var 13)))])
theorem take_all {cs : List Col} {vs : List Int} {j : Nat} (hj : j < cs.length) (hv : vs.length = j) (h : ((cs.take j).zip (vs.map D.int)).all (fun p => cvB p.1 p.2) = true) {v : Int} (h2 : cvB cs[j] (.int v) = true) :
    ((cs.take (j + 1)).zip ((vs ++ [v]).map D.int)).all (fun p => cvB p.1 p.2) = true := by
  rw [List.take_add_one, List.getElem?_eq_getElem hj, List.map_append, List.zip_append (by simp; omega), List.all_append, h]
  simpa using h2
theorem row_drawn {F : FS} {t : Tab} (ht : TabOk t) {tp : Nat} (htp : 1 ≤ tp ∧ tp ≤ 12) {ss : List Int} (hs : ss.length = 4 * tp + 1) {J : Int} (hJ0 : 0 ≤ J) (hJ : J < (tp : Nat)) {v0 v1 v2 v3 v4 v7 k10 k11 k12 k13 v14 : Option SV} {S : St'} {nx bk ct : NX} {P : Po}
    (h : ∀ vs k10 k11 k12 k13, rowB t (rowD vs) = true → nx [v0, v1, v2, v3, v4, some (.t (tabD t)), some (.t (.lst (ss.map .int))), v7, some (.t (.int J)), some (.o S.length), k10, k11, k12, k13, v14] (S ++ [.lst (vs.map .int)])) :
    OP (execS F rowLoop [v0, v1, v2, v3, v4, some (.t (tabD t)), some (.t (.lst (ss.map .int))), v7, some (.t (.int J)), some (.o S.length), k10, k11, k12, k13, v14] (S ++ [.lst []])) nx bk ct P := by
  have q2 : idxD (tabD t) (.int 2) = some (.tup (t.cols.map colD)) := at2 _ _ _ _
  have h4 := ht.len4
  unfold rowLoop
  exists 1, q2
  rw [enumD_map]
  refine op_fixM (ys := t.cols.zipIdx) (fun p => D.tup [.int (p.2 : Nat), colD p.1]) (fun rest ρ S' => ∃ j vs k10 k11 k12 k13, ρ = [v0, v1, v2, v3, v4, some (.t (tabD t)), some (.t (.lst (ss.map .int))), v7, some (.t (.int J)), some (.o S.length), k10, k11, k12, k13, v14] ∧ S' = S ++ [.lst (vs.map .int)] ∧ rest = (t.cols.drop j).zipIdx j ∧ j ≤ t.cols.length ∧ vs.length = j ∧ ((t.cols.take j).zip (vs.map D.int)).all (fun p => cvB p.1 p.2) = true) ⟨0, [], _, _, _, _, rfl, rfl, rfl, Nat.zero_le _, rfl, rfl⟩ ?_ ?_
  · rintro y rest ρ S' ⟨j, vs, k10, k11, k12, k13, rfl, rfl, hr, hjl, hvl, ha⟩
    obtain ⟨hj, rfl, rfl⟩ := zix (rest := t.cols) hr
    have hc := ht.cols.each _ (List.getElem_mem hj)
    have a1 : idxD (.lst (ss.map .int)) (.int (1 + 4 * J + (j : Nat))) = some (.int (sget ss (1 + 4 * J + (j : Nat)).toNat)) := by
      have := at_int (ss := ss) (j := (1 + 4 * J + (j : Nat)).toNat) (by omega)
      rwa [Int.toNat_of_nonneg (by omega)] at this
    have hta : ∀ p : Int, ((t.cols.take (j + 1)).zip ((vs ++ [p % (t.cols[j].size + emI t.cols[j]) - emI t.cols[j]]).map D.int)).all (fun p => cvB p.1 p.2) = true := fun p => take_all hj hvl ha (val_in hc p)
    have hlo := hc.lo
    generalize t.cols[j] = c at *
    have q1 : idxD (colD c) (.int 1) = some (.int c.size) := at1 _ _ _
    have q2 : idxD (colD c) (.int 2) = some (.bl c.emp) := at2 _ _ _ _
    have m1 : binD .mul (.int 4) (.int J) = some (.int (4 * J)) := by
      simp only [binD]
      rw [if_pos (by left; decide)]
    have he : 0 ≤ emI c := by unfold emI; split <;> omega
    have m2 : binD .mod (.int (sget ss (1 + 4 * J + (j : Nat)).toNat)) (.int (c.size + emI c)) = some (.int (sget ss (1 + 4 * J + (j : Nat)).toNat % (c.size + emI c))) := by
      simp only [binD]
      rw [if_pos (by omega)]
    refine ⟨_, rfl, ?_⟩
    exists 1, a1, q1, q2, m1, m2
    exact ⟨j + 1, vs ++ [_], _, _, _, _, rfl, by rw [List.map_append]; rfl, rfl, hj, by simp [hvl], hta _⟩
  · rintro ρ S' ⟨j, vs, k10, k11, k12, k13, rfl, rfl, hr, hjl, hvl, ha⟩
    have hj : j = t.cols.length := by
      rcases Nat.lt_or_ge j t.cols.length with h | h
      · rw [List.drop_eq_getElem_cons h, List.zipIdx_cons] at hr
        cases hr
      · omega
    refine h vs _ _ _ _ ?_
    rw [hj, List.take_length] at ha
    simp [rowB, rowD, hvl, hj]
    simpa using ha
theorem putO_row {ρ : Ev} {t : Tab} {rs : List (List Int)} {vs k : List Int} {S1 G S3 : St'} {kv : SV} (hp : peek S3 kv = some (.lst (k.map .int))) (hk : k = keyI t vs) (hS : S3 = (S1 ++ [.dt (kvOf t rs)]) ++ G) (hl : rs.length ≤ 1000) :
    putO ρ S1.length (rowD vs) kv S3 = .nx ρ ((S1 ++ [.dt (kvOf t (putR t rs vs))]) ++ G) := by
  subst hk
  have hz : (kvOf t rs).length < sizeLine := lt_sz (by simp [kvOf]; omega)
  have hg : S3[S1.length]? = some (.dt (kvOf t rs)) := by rw [hS]; exact stG
  unfold putO
  rw [hp]
  simp only [asKeys_ints, hg, hz, if_true]
  rw [putD_kv, hS, stGs]
def rowsLoop : MS := .for_ (.v 8) (.range1 (.bin .mod (.idx (.var 6) (.lit (D.int 0))) (.bin .add (.var 2) (.lit (D.int 1))))) [(.new 9 (.lst [])), rowLoop, (.putd 7 (.or (.slc (.var 9) [] [(.idx (.var 5) (.lit (D.int 1)))]) (.var 9)) (.bi .tuple [(.var 9)]))]
theorem rows_drawn {F : FS} {t : Tab} (ht : TabOk t) {tp : Nat} (htp : 1 ≤ tp ∧ tp ≤ 12) {ss : List Int} (hs : ss.length = 4 * tp + 1) {v0 v1 v3 v4 k8 k9 k10 k11 k12 k13 v14 : Option SV} {S1 : St'} {nx bk ct : NX} {P : Po}
    (h : ∀ rs G k8 k9 k10 k11 k12 k13, RowsOk t rs 12 → nx [v0, v1, some (.t (.int (tp : Nat))), v3, v4, some (.t (tabD t)), some (.t (.lst (ss.map .int))), some (.o S1.length), k8, k9, k10, k11, k12, k13, v14] ((S1 ++ [.dt (kvOf t rs)]) ++ G)) :
    OP (execS F rowsLoop [v0, v1, some (.t (.int (tp : Nat))), v3, v4, some (.t (tabD t)), some (.t (.lst (ss.map .int))), some (.o S1.length), k8, k9, k10, k11, k12, k13, v14] (S1 ++ [.dt []])) nx bk ct P := by
  have a0 : idxD (.lst (ss.map .int)) (.int 0) = some (.int (sget ss 0)) := at_int (ss := ss) (j := 0) (by omega)
  have hN0 := Int.emod_nonneg (sget ss 0) (b := (tp : Nat) + 1) (by omega)
  have hN1 := Int.emod_lt_of_pos (sget ss 0) (b := (tp : Nat) + 1) (by omega)
  have m2 : binD .mod (.int (sget ss 0)) (.int ((tp : Nat) + 1)) = some (.int (sget ss 0 % ((tp : Nat) + 1))) := by
    simp only [binD]
    rw [if_pos (by omega)]
  generalize sget ss 0 % ((tp : Nat) + 1) = N at *
  have r1 : rngOk N = true := rngOk_in (by omega) (by omega)
  unfold rowsLoop
  exists 1, a0, m2
  refine op_range hN0 (fun J ρ S' => ∃ rs G k8 k9 k10 k11 k12 k13, ρ = [v0, v1, some (.t (.int (tp : Nat))), v3, v4, some (.t (tabD t)), some (.t (.lst (ss.map .int))), some (.o S1.length), k8, k9, k10, k11, k12, k13, v14] ∧ S' = (S1 ++ [.dt (kvOf t rs)]) ++ G ∧ RowsOk t rs J.toNat) ⟨[], [], _, _, _, _, _, _, rfl, by simp [kvOf], ⟨by simp, by simp, by simp⟩⟩ ?_ ?_
  · rintro J ρ S' hJ0 hJ1 ⟨rs, G, k8, k9, k10, k11, k12, k13, rfl, rfl, ok⟩
    refine ⟨_, rfl, ?_⟩
    exists 1
    refine row_drawn ht htp hs hJ0 (by omega) fun vs k10 k11 k12 k13 hv => ?_
    have hvl := rowB_len hv
    have kn := key_nil ht hvl
    have q1 : idxD (tabD t) (.int 1) = some (.int t.key) := at1 _ _ _
    have e2 : slc2 (((S1 ++ [O.dt (kvOf t rs)]) ++ G) ++ [.lst (vs.map .int)]) (.o ((S1 ++ [O.dt (kvOf t rs)]) ++ G).length) none (some t.key) = some (.lst ((vs.take t.key.toNat).map .int)) := by
      rw [slc_live, cut_to _ ht.key0, List.map_take]
    have okk := ok.put hv
    have hrl : rs.length ≤ 1000 := by have := ok.len; omega
    have eJ : (J + 1).toNat = J.toNat + 1 := by omega
    exists 1, q1, e2
    refine op_putd rfl ?_
    exists 1
    refine ⟨_, _, rfl, ?_⟩
    by_cases h0 : t.key = 0
    · have e3 : truD (.lst ((vs.take t.key.toNat).map .int)) = some false := by rw [kn.mpr h0]; rfl
      exists 1, q1, e2, no_index (⟨_, e3, fun h => (f_t h).elim, fun h => ?_⟩)
      refine ⟨_, putO_row (k := vs) (vs := vs) (rs := rs) (t := t) pk_live (by rw [keyI, if_pos h0]) (List.append_assoc _ _ _) hrl, ?_⟩
      exists 1
      exact ⟨_, _, _, _, _, _, _, _, rfl, rfl, by rw [eJ]; exact okk⟩
    · have e3 : truD (.lst ((vs.take t.key.toNat).map .int)) = some true := by
        cases hk : vs.take t.key.toNat with
        | nil => exact absurd (kn.mp hk) h0
        | cons => rfl
      exists 1, q1, e2, no_index (⟨_, e3, fun h => ?_, fun h => (t_f h).elim⟩)
      refine ⟨_, putO_row (k := vs.take t.key.toNat) (vs := vs) (rs := rs) (t := t) rfl (by rw [keyI, if_neg h0]) (List.append_assoc _ _ _) hrl, ?_⟩
      exists 1
      exact ⟨_, _, _, _, _, _, _, _, rfl, rfl, by rw [eJ]; exact okk⟩
  · rintro ρ S' ⟨rs, G, k8, k9, k10, k11, k12, k13, rfl, rfl, ok⟩
    exact h rs G _ _ _ _ _ _ ⟨ok.each, ok.nd, by have := ok.len; omega⟩
theorem nc_rows {ks : List (List Int)} (h : ∀ k ∈ ks, k.length ≤ 12) (hl : ks.length ≤ 12) : Nc 12 (.tup (ks.map rowD)) := .tup (fun x hx => by
  obtain ⟨k, hk, rfl⟩ := List.mem_map.mp hx
  exact .tup (fun y hy => by obtain ⟨i, _, rfl⟩ := List.mem_map.mp hy; exact .int _) (by rw [List.length_map]; exact h k hk)) (by rw [List.length_map]; exact hl)
theorem world_ok {T : List Fn} {i : Nat} (hT : T[i]? = some f__law_world) (n : Nat) {tp : Nat} (htp : 1 ≤ tp ∧ tp ≤ 12) (ps : List Int) (hp : 4 * (4 * tp + 1) ≤ ps.length) {ts : List Tab} (hts : ∀ t ∈ ts, TabOk t) (h4 : ts.length ≤ 4) (S : St') :
    RP (FT T (n + 1) i [.t (.lst (ps.map .int)), .t (.tup (ts.map tabD)), .t (.int (tp : Nat))] S) (fun v S' => S' = S ∧ ∃ ws : List D, v = .t (.tup ws) ∧ worldB ts (.tup ws) = true ∧ Nc 12 (.tup ws)) noE := by
  refine rp_fn hT rfl rfl ?_
  simp only [f__law_world, pad]
  exists 1
  rw [enumD_map]
  refine op_fixM (ys := ts.zipIdx) (fun p => D.tup [.int (p.2 : Nat), tabD p.1]) (fun rest ρ S' => ∃ j ws G k4 k5 k6 k7 k8 k9 k10 k11 k12 k13, ρ = [some (.t (.lst (ps.map .int))), some (.t (.tup (ts.map tabD))), some (.t (.int (tp : Nat))), some (.o S.length), k4, k5, k6, k7, k8, k9, k10, k11, k12, k13, none] ∧ S' = (S ++ [.lst ws]) ++ G ∧ rest = (ts.drop j).zipIdx j ∧ j ≤ ts.length ∧ ws.length = j ∧ ((ts.take j).zip ws).all (fun p => rowsB p.1 p.2) = true ∧ ∀ w ∈ ws, Nc 12 w) ⟨0, [], [], _, _, _, _, _, _, _, _, _, _, rfl, by simp, rfl, Nat.zero_le _, rfl, rfl, by simp⟩ ?_ ?_
  · rintro y rest ρ S' ⟨j, ws, G, k4, k5, k6, k7, k8, k9, k10, k11, k12, k13, rfl, rfl, hr, hjl, hwl, ha, hnc⟩
    obtain ⟨hj, rfl, rfl⟩ := zix (rest := ts) hr
    have ht := hts _ (List.getElem_mem hj)
    have m0 : binD .mul (.int 4) (.int (tp : Nat)) = some (.int (4 * (tp : Nat))) := by
      simp only [binD]
      rw [if_pos (by left; decide)]
    have hq : ∀ z : Int, binD .mul (.int (4 * (tp : Nat) + 1)) (.int z) = some (.int ((4 * (tp : Nat) + 1) * z)) := fun z => by
      simp only [binD]
      rw [if_pos (by left; omega)]
    have m1 := hq (j : Nat)
    have m2 := hq ((j : Nat) + 1)
    have e1 := slc_ints ps (some ((4 * (tp : Nat) + 1) * (j : Nat))) (some ((4 * (tp : Nat) + 1) * ((j : Nat) + 1)))
    have hA0 : (0 : Int) ≤ (4 * (tp : Nat) + 1) * (j : Nat) := Int.mul_nonneg (by omega) (by omega)
    have hA1 : ((4 * (tp : Nat) + 1) * ((j : Nat) + 1) : Int) = (4 * (tp : Nat) + 1) * (j : Nat) + (4 * (tp : Nat) + 1) := by rw [Int.mul_add, Int.mul_one]
    have hA2 : ((4 * (tp : Nat) + 1) * ((j : Nat) + 1) : Int) ≤ (4 * (tp : Nat) + 1) * 4 := Int.mul_le_mul_of_nonneg_left (by omega) (by omega)
    have el := cutL_len (xs := ps) (a := (4 * (tp : Nat) + 1) * (j : Nat)) (b := (4 * (tp : Nat) + 1) * ((j : Nat) + 1)) hA0 (by omega) (by omega)
    generalize hss : cutL ps (some ((4 * (tp : Nat) + 1) * (j : Nat))) (some ((4 * (tp : Nat) + 1) * ((j : Nat) + 1))) = ss at e1 el
    have hsl : ss.length = 4 * tp + 1 := by omega
    refine ⟨_, rfl, ?_⟩
    exists 1, m0, m1, m2, e1
    refine op_newd ?_
    refine op_norm (by simp only [List.set_cons_succ, List.set_cons_zero]; rfl) (op_cons ?_)
    refine rows_drawn (S1 := (S ++ [O.lst ws]) ++ G) ht htp hsl fun rs G2 k8 k9 k10 k11 k12 k13 ok => ?_
    have hta : ((ts.take (j + 1)).zip (ws ++ [.tup ((rs.mergeSort fun a b => decide (a ≤ b)).map rowD)])).all (fun p => rowsB p.1 p.2) = true := by
      rw [List.take_add_one, List.getElem?_eq_getElem hj, List.zip_append (by simp; omega), List.all_append, ha]
      simpa using rowsB_of ok
    generalize ts[j] = t at *
    have h44 := ht.len4
    have hlen := ok.len
    have hx : (((S ++ [O.lst ws]) ++ G) ++ [O.dt (kvOf t rs)]) ++ G2 = (S ++ [O.lst ws]) ++ (G ++ [O.dt (kvOf t rs)] ++ G2) := by simp
    have g7 : ((((S ++ [O.lst ws]) ++ G) ++ [O.dt (kvOf t rs)]) ++ G2)[((S ++ [O.lst ws]) ++ G).length]? = some (.dt (kvOf t rs)) := stG
    have g3 : ((((S ++ [O.lst ws]) ++ G) ++ [O.dt (kvOf t rs)]) ++ G2)[S.length]? = some (.lst ws) := by rw [hx]; exact stG
    have g4 : ∀ o, ((((S ++ [O.lst ws]) ++ G) ++ [O.dt (kvOf t rs)]) ++ G2).set S.length o = (S ++ [o]) ++ (G ++ [O.dt (kvOf t rs)] ++ G2) := fun o => by rw [hx]; exact stGs
    have es : biD .sorted [.lst ((kvOf t rs).map (·.2))] = some (.lst ((rs.mergeSort fun a b => decide (a ≤ b)).map rowD)) := by
      have e0 : (kvOf t rs).map (·.2) = rs.map rowD := by rw [kvOf, List.map_map]; rfl
      rw [e0]
      exact sorted_rowsL (fun k hk => by rw [rowB_len (ok.each k hk)]; exact ht.len1) (by omega)
    have hkl : (kvOf t rs).length < 16777216 := by simp [kvOf]; omega
    refine op_cons (op_app rfl g3 ?_)
    exists 1, es, no_index (rp_dvals rfl g7 hkl ?_)
    refine ⟨_, _, _, _, rfl, g3, lt_sz (by omega), g4 _, ?_⟩
    exists 1
    refine ⟨j + 1, ws ++ [_], _, _, _, _, _, _, _, _, _, _, _, rfl, rfl, rfl, hj, by simp [hwl], hta, fun w hw => ?_⟩
    rcases List.mem_append.mp hw with z | z
    · exact hnc w z
    · rw [List.mem_singleton.mp z]
      refine nc_rows (fun k hk => ?_) (by rw [List.length_mergeSort]; exact ok.len)
      rw [rowB_len (ok.each k (List.mem_mergeSort.mp hk))]
      omega
  · rintro ρ S' ⟨j, ws, G, k4, k5, k6, k7, k8, k9, k10, k11, k12, k13, rfl, rfl, hr, hjl, hwl, ha, hnc⟩
    have hj : j = ts.length := by
      rcases Nat.lt_or_ge j ts.length with h | h
      · rw [List.drop_eq_getElem_cons h, List.zipIdx_cons] at hr
        cases hr
      · omega
    rw [hj, List.take_length] at ha
    have e1 : bi2 .tuple ((S ++ [O.lst ws]) ++ G) [.o S.length] = some (.tup ws) := by
      simp only [bi2, peeks, peek, stG, Option.map_some, Option.bind_some, biD]
    exists 1, e1
    refine finT (by simp) ⟨rfl, ws, rfl, ?_, .tup hnc (by omega)⟩
    simp only [worldB, ha, Bool.and_true, decide_eq_true_eq]
    omega
end M

/-! conditions as trees, and that the law draws such -/
namespace M
open PySem PySem.Spec PyProof.Rows L2
inductive Cd where
  | yes | is (c : Str) (v : Int) | lt (c : Str) (v : Int) | same (c d : Str) | mine (c : Str) | empty (c : Str) | loud (c : Str)
  | not (a : Cd) | and (a b : Cd) | or (a b : Cd) | has (t c d : Str) (a : Cd)
def cdD : Cd → D
  | .yes => .tup [.str "yes"]
  | .is c v => .tup [.str "is", .str c, .int v]
  | .lt c v => .tup [.str "below", .str c, .int v]
  | .same c d => .tup [.str "same", .str c, .str d]
  | .mine c => .tup [.str "mine", .str c]
  | .empty c => .tup [.str "empty", .str c]
  | .loud c => .tup [.str "loud", .str c]
  | .not a => .tup [.str "not", cdD a]
  | .and a b => .tup [.str "and", cdD a, cdD b]
  | .or a b => .tup [.str "or", cdD a, cdD b]
  | .has t c d a => .tup [.str "has", .str t, .str c, .str d, cdD a]
def hC : Cd → Nat
  | .not a => hC a + 1
  | .and a b => max (hC a) (hC b) + 1
  | .or a b => max (hC a) (hC b) + 1
  | .has _ _ _ a => hC a + 1
  | _ => 1
def lou : Cd → Nat
  | .loud _ => 1
  | .not a => lou a
  | .and a b => lou a + lou b
  | .or a b => lou a + lou b
  | .has _ _ _ a => 12 * lou a
  | _ => 0
def WfC (ts : List Tab) : List Str → Cd → Prop
  | _, .yes => True
  | cols, .is c v => c ∈ cols ∧ 0 ≤ v
  | cols, .lt c v => c ∈ cols ∧ 0 ≤ v
  | cols, .same c d => c ∈ cols ∧ d ∈ cols
  | cols, .mine c => c ∈ cols
  | cols, .empty c => c ∈ cols
  | cols, .loud c => c ∈ cols
  | cols, .not a => WfC ts cols a
  | cols, .and a b => WfC ts cols a ∧ WfC ts cols b
  | cols, .or a b => WfC ts cols a ∧ WfC ts cols b
  | cols, .has t c d a => ∃ tb ∈ ts, t = tb.name ∧ c ∈ cols ∧ d ∈ colNames tb ∧ WfC ts (colNames tb) a
def noHas : Cd → Bool
  | .not a => noHas a
  | .and a b => noHas a && noHas b
  | .or a b => noHas a && noHas b
  | .has _ _ _ _ => false
  | _ => true
def NOH : List Str := ["lm", "l", "m", ""]
def IsCd (ts : List Tab) (cols : List Str) (p m : Nat) (w : Str) (d : D) : Prop := ∃ c, d = cdD c ∧ WfC ts cols c ∧ hC c ≤ p ∧ lou c ≤ m ∧ (w ∈ NOH → noHas c = true)
theorem pick2n (a b z : Int) (ha : 0 ≤ a) (hb : 0 ≤ b) : ∃ v : Int, idxD (.lst [.int a, .int b]) (.int (z % 2)) = some (.int v) ∧ 0 ≤ v := by
  have h0 := Int.emod_nonneg z (show (2 : Int) ≠ 0 by decide)
  have h1 := Int.emod_lt_of_pos z (show (0 : Int) < 2 by decide)
  obtain ⟨d, h2, h3⟩ := at_mem (xs := [D.int a, D.int b]) (z := z % 2) h0 (by simpa using h1)
  simp only [List.mem_cons, List.not_mem_nil, or_false] at h3
  rcases h3 with rfl | rfl
  · exact ⟨_, h2, ha⟩
  · exact ⟨_, h2, hb⟩
theorem atomC_ok {T : List Fn} {i : Nat} (hT : T[i]? = some f__law_atom) (n : Nat) (ts : List Tab) (ps : List Int) (hl : 6 ≤ ps.length) {cD : D} {cols : List Str} (hc : ColsD cD cols) {w : Str} (hw : w ∈ WAYS) (S : St') :
    RP (FT T (n + 1) i [.t (.lst (ps.map .int)), .t cD, .t (.str w)] S) (fun v S' => S' = S ∧ ∃ d, v = .t d ∧ IsCd ts cols 1 1 w d) noE := by
  have g0 : idxD (.lst (ps.map .int)) (.int 0) = some (.int (sget ps 0)) := at_int (j := 0) (by omega)
  have g1 : idxD (.lst (ps.map .int)) (.int 1) = some (.int (sget ps 1)) := at_int (j := 1) (by omega)
  have g2 : idxD (.lst (ps.map .int)) (.int 2) = some (.int (sget ps 2)) := at_int (j := 2) (by omega)
  have g3 : idxD (.lst (ps.map .int)) (.int 3) = some (.int (sget ps 3)) := at_int (j := 3) (by omega)
  have g4 : idxD (.lst (ps.map .int)) (.int 4) = some (.int (sget ps 4)) := at_int (j := 4) (by omega)
  have g5 : idxD (.lst (ps.map .int)) (.int 5) = some (.int (sget ps 5)) := at_int (j := 5) (by omega)
  have xm := cnt_m S w
  have xl := cnt_l S w
  have mM := bin2_t S (mul_m hw)
  have mL := bin2_t S (mul_l hw)
  have lM := len_m hw
  have lL := len_l hw
  generalize cM w = cm at xm mM
  generalize cL w = cl at xl mL
  have hm : ∀ d ∈ wA ++ wM w ++ wL w, ∃ x ∈ ATOMS, d = .str x := fun d h => words_m hw h
  generalize wM w = wm at mM lM hm
  generalize wL w = wl at mL lL hm
  have lA : wA.length = 7 := rfl
  have aM := bin2_t S (show binD .add (.lst wA) (.lst wm) = some (.lst (wA ++ wm)) from add_ok (by omega))
  have aL := bin2_t S (show binD .add (.lst (wA ++ wm)) (.lst wl) = some (.lst (wA ++ wm ++ wl)) from add_ok (by rw [List.length_append]; omega))
  have lW : 1 ≤ (wA ++ wm ++ wl).length := by rw [List.length_append, List.length_append]; omega
  obtain ⟨d0, hd0, hm0⟩ := at_mem (xs := wA ++ wm ++ wl) (z := sget ps 0 % ((wA ++ wm ++ wl).length : Nat)) (Int.emod_nonneg _ (by omega)) (Int.emod_lt_of_pos _ (by omega))
  obtain ⟨x, hx, rfl⟩ := hm d0 hm0
  obtain ⟨c1, hc1, ec1⟩ := hc.at_ (sget ps 1)
  obtain ⟨c2, hc2, ec2⟩ := hc.at_ (sget ps 2)
  obtain ⟨bx, hbx, xi⟩ : ∃ b2, b2 = inB ISB (.str x) ∧ cmpD .isin (.str x) (.tup [.str "is", .str "below"]) = some b2 := ⟨_, rfl, in_cols (cols := ISB) (k := 0) (by decide +kernel) (Ok.str (atoms_b x hx).1) (by omega)⟩
  obtain ⟨by1, hy1, xy⟩ := eq_sb x "yes"
  obtain ⟨bs, hs1, xs⟩ := eq_sb x "same"
  obtain ⟨bb, hb1, xb⟩ := eq_sb x "below"
  have md : ∀ i : Int, binD .mod (.int i) (.int (cols.length : Nat)) = some (.int (i % (cols.length : Nat))) := fun i => mod_ok hc.len1
  have mW : binD .mod (.int (sget ps 0)) (.int ((wA ++ wm ++ wl).length : Nat)) = some (.int (sget ps 0 % ((wA ++ wm ++ wl).length : Nat))) := mod_ok lW
  have cl := hc.len
  refine rp_fn hT rfl rfl ?_
  simp only [f__law_atom, pad]
  exists 1, xm, xl, g0, g1, g2, g3, g4, g5, mM, mL, aM, aL, mW, hd0, md _, cl, ec1, ec2, no_index (⟨_, xy, _, rfl, fun h => ?_, fun h => ?_⟩), no_index (⟨_, xs, _, rfl, fun h => ?_, fun h => ?_⟩), no_index (⟨_, xi, _, rfl, fun h => ?_, fun h => ?_⟩)
  · obtain rfl := hy1.mp h
    exact ⟨.yes, rfl, trivial, Nat.le_refl _, Nat.zero_le _, fun _ => rfl⟩
  · obtain rfl := hs1.mp h
    exact ⟨.same c1 c2, rfl, ⟨hc1, hc2⟩, Nat.le_refl _, Nat.zero_le _, fun _ => rfl⟩
  · have hib : x = "is" ∨ x = "below" := by
      rw [hbx] at h
      simpa [inB, ISB] using h
    obtain ⟨v, hv, hv0⟩ := pick2n (sget ps 3 % 3) (sget ps 3 % 10) (sget ps 4) (Int.emod_nonneg _ (by decide)) (Int.emod_nonneg _ (by decide))
    have key : ∀ z : Int, 0 ≤ z → IsCd ts cols 1 1 w (.tup [.str x, .str c1, .int z]) := fun z hz => by
      rcases hib with rfl | rfl
      · exact ⟨.is c1 z, rfl, ⟨hc1, hz⟩, Nat.le_refl _, Nat.zero_le _, fun _ => rfl⟩
      · exact ⟨.lt c1 z, rfl, ⟨hc1, hz⟩, Nat.le_refl _, Nat.zero_le _, fun _ => rfl⟩
    exists 1, hv, g5, no_index (⟨_, xb, _, rfl, fun h => ?_, fun h => ?_⟩)
    all_goals (refine key _ ?_; try (split <;> omega); try omega)
  · have hxx : x = "empty" ∨ x = "mine" ∨ x = "loud" := by
      have n1 : x ≠ "yes" := fun z => by rename_i h1 h2; first | (rw [hy1.mpr z] at h1; cases h1) | (rw [hy1.mpr z] at h2; cases h2)
      have n2 : x ≠ "same" := fun z => by rename_i h1 h2; first | (rw [hs1.mpr z] at h2; cases h2) | (rw [hs1.mpr z] at h1; cases h1)
      have n3 : x ≠ "is" := fun z => by subst z; rw [hbx] at h; revert h; decide +kernel
      have n4 : x ≠ "below" := fun z => by subst z; rw [hbx] at h; revert h; decide +kernel
      simp only [ATOMS, List.mem_cons, List.not_mem_nil, or_false] at hx
      rcases hx with z | z | z | z | z | z | z
      · exact absurd z n3
      · exact absurd z n4
      · exact absurd z n2
      · exact .inl z
      · exact absurd z n1
      · exact .inr (.inl z)
      · exact .inr (.inr z)
    rcases hxx with rfl | rfl | rfl
    · exact ⟨.empty c1, rfl, hc1, Nat.le_refl _, Nat.zero_le _, fun _ => rfl⟩
    · exact ⟨.mine c1, rfl, hc1, Nat.le_refl _, Nat.zero_le _, fun _ => rfl⟩
    · exact ⟨.loud c1, rfl, hc1, Nat.le_refl _, Nat.le_refl _, fun _ => rfl⟩
theorem noh_sub : ∀ w ∈ NOH, w ∈ WAYS := by decide +kernel
theorem noh_t : (NOH.all fun w => [true, false].all fun b => ([D.str "not"] ++ JW b ++ wH w).all fun d => !decide (strD d = "has")) = true := by decide +kernel
theorem noh_m {w : Str} {b : Bool} {x : Str} (hw : w ∈ NOH) (h : D.str x ∈ [D.str "not"] ++ JW b ++ wH w) : x ≠ "has" := by
  have := List.all_eq_true.mp (List.all_eq_true.mp (List.all_eq_true.mp noh_t w hw) b (by cases b <;> simp)) _ h
  simp only [strD, Bool.not_eq_true'] at this
  exact of_decide_eq_false this
theorem ways_r2 : ∀ w ∈ WAYS, repT w "h" "" ∈ NOH := by decide +kernel
theorem repl_h2 {w : Str} (hw : w ∈ WAYS) : ∃ w' ∈ NOH, replV (.t (.str w)) "h" "" = some (.t (.str w')) := by
  refine ⟨_, ways_r2 w hw, ?_⟩
  unfold replV
  refine if_pos ?_
  have := ways_l w hw
  have e : (Str.ofString "").length = 0 := by decide +kernel
  rw [e]
  omega
def mostL (w : Str) (p : Nat) : Nat := if w ∈ NOH then p else 12 * p
theorem mostL_le (w : Str) (p : Nat) : p ≤ mostL w p := by unfold mostL; split <;> omega
theorem mostL_mono (w : Str) {p q : Nat} (h : p ≤ q) : mostL w p ≤ mostL w q := by unfold mostL; split <;> omega
theorem mostL_add (w : Str) (p q : Nat) : mostL w p + mostL w q = mostL w (p + q) := by unfold mostL; split <;> omega
theorem lcondC_ok {T : List Fn} {i iA : Nat} (hT : T[i]? = some (f__law_condition iA i)) (hA : T[iA]? = some f__law_atom) {ts : List Tab} (hts : ∀ t ∈ ts, TabOk t) (h1 : 1 ≤ ts.length) : ∀ q p : Nat, p ≤ q → 1 ≤ p → p ≤ 9 → ∀ (n : Nat) (ps : List Int), 6 * p ≤ ps.length → ∀ (cD : D) (cols : List Str), ColsD cD cols → ∀ w : Str, w ∈ WAYS → ∀ S : St',
    RP (FT T (n + p + 1) i [.t (.lst (ps.map .int)), .t (.int (p : Nat)), .t (.tup (ts.map tabD)), .t cD, .t (.str w)] S) (fun v S' => S' = S ∧ ∃ d, v = .t d ∧ IsCd ts cols p (mostL w p) w d) noE := by
  intro q
  induction q with
  | zero => intro p h0 h1; omega
  | succ q ih =>
    intro p hpq hp1 hp9 n ps hl cD cols hc w hw S
    have g0 : idxD (.lst (ps.map .int)) (.int 0) = some (.int (sget ps 0)) := at_int (j := 0) (by omega)
    have g1 : idxD (.lst (ps.map .int)) (.int 1) = some (.int (sget ps 1)) := at_int (j := 1) (by omega)
    have g2 : idxD (.lst (ps.map .int)) (.int 2) = some (.int (sget ps 2)) := at_int (j := 2) (by omega)
    have g3 : idxD (.lst (ps.map .int)) (.int 3) = some (.int (sget ps 3)) := at_int (j := 3) (by omega)
    by_cases hp : p = 1
    · subst hp
      have x1 : cmpD .lt (.int ((1 : Nat) : Int)) (.int 2) = some true := rfl
      refine rp_fn (n := n + 1) hT rfl rfl ?_
      simp only [f__law_condition, pad]
      exists 1, no_index (⟨_, x1, _, rfl, fun h => ?_, fun h => (t_f h).elim⟩)
      refine RP.of_no (atomC_ok hA n ts ps (by omega) hc hw S) fun v S1 ⟨e1, d, e2, c, hd1, hd2, hd3, hd4, hd5⟩ => ?_
      subst e1; subst e2
      exists 1
      exact ⟨c, hd1, hd2, hd3, Nat.le_trans hd4 (mostL_le w 1), hd5⟩
    have x1 : cmpD .lt (.int (p : Nat)) (.int 2) = some false := by rw [lt_ii, decide_eq_false (by omega)]
    obtain ⟨bg, hbg, xg⟩ : ∃ bg : Bool, (bg = true ↔ 3 ≤ p) ∧ cmpD .gt (.int (p : Nat)) (.int 2) = some bg := ⟨_, by rw [decide_eq_true_eq]; omega, gt_ii _ _⟩
    have xh := cnt_h S w
    have mH := bin2_t S (mul_h hw)
    have lH := len_h hw
    generalize cH w = ch at xh mH
    have mJ := mul_j S bg
    have lJ := len_j bg
    have hm : ∀ d ∈ [D.str "not"] ++ JW bg ++ wH w, ∃ x ∈ TREE, d = .str x ∧ (bg = true ∨ x = "not" ∨ x = "has") := fun d h => tree_m hw h
    have hno : w ∈ NOH → ∀ x, D.str x ∈ [D.str "not"] ++ JW bg ++ wH w → x ≠ "has" := fun h x z => noh_m h z
    obtain ⟨w', hw', xr⟩ := repl_h2 hw
    generalize wH w = wh at mH lH hm hno
    generalize JW bg = wj at mJ lJ hm hno
    have aJ := bin2_t S (show binD .add (.lst [.str "not"]) (.lst wj) = some (.lst ([.str "not"] ++ wj)) from add_ok (by simp; omega))
    have aH := bin2_t S (show binD .add (.lst ([.str "not"] ++ wj)) (.lst wh) = some (.lst ([.str "not"] ++ wj ++ wh)) from add_ok (by simp; omega))
    have lW : 1 ≤ ([D.str "not"] ++ wj ++ wh).length := by simp
    generalize hW : [D.str "not"] ++ wj ++ wh = W at aH lW hm hno
    generalize hV : [D.str "not"] ++ wj = V at aJ aH
    obtain ⟨d0, hd0, hm0⟩ := at_mem (xs := W) (z := sget ps 0 % (W.length : Nat)) (Int.emod_nonneg _ (by omega)) (Int.emod_lt_of_pos _ (by omega))
    obtain ⟨x, hx, rfl, hxb⟩ := hm d0 hm0
    have hno := fun h => hno h x hm0
    have mW : binD .mod (.int (sget ps 0)) (.int (W.length : Nat)) = some (.int (sget ps 0 % (W.length : Nat))) := mod_ok lW
    have mC : ∀ z : Int, binD .mod (.int z) (.int (cols.length : Nat)) = some (.int (z % (cols.length : Nat))) := fun z => mod_ok hc.len1
    have mT : ∀ z : Int, binD .mod (.int z) (.int (ts.length : Nat)) = some (.int (z % (ts.length : Nat))) := fun z => mod_ok h1
    obtain ⟨bh, hbh, xhas⟩ := eq_sb x "has"
    obtain ⟨bn, hbn, xnot⟩ := eq_sb x "not"
    obtain ⟨t, ht, et⟩ := tab_at h1 (sget ps 1)
    have hlt := len_tab ts
    have s6 : slcD (.lst (ps.map .int)) (some 6) none = some (.lst ((ps.drop 6).map .int)) := ints_of (by omega)
    have es : ((p : Nat) : Int) - 1 = ((p - 1 : Nat) : Int) := by omega
    have c6 : cutD (ps.map .int) (some 6) none = (ps.drop 6).map .int := by rw [cut_ints, cutL_of ps (by omega)]; rfl
    have nx : ∀ (l : Nat), l ≤ q → 1 ≤ l → l ≤ p - 1 → ∀ (ps : List Int), 6 * l ≤ ps.length → ∀ (cD : D) (cols : List Str), ColsD cD cols → ∀ w : Str, w ∈ WAYS → ∀ S : St',
        RP (FT T (n + p) i [.t (.lst (ps.map .int)), .t (.int (l : Nat)), .t (.tup (ts.map tabD)), .t cD, .t (.str w)] S) (fun v S' => S' = S ∧ ∃ d, v = .t d ∧ IsCd ts cols l (mostL w l) w d) noE := by
      intro l h1 h2 h3 ps h4 cD cols h5 w h6 S
      have := ih l h1 h2 (by omega) (n + p - l - 1) ps h4 cD cols h5 w h6 S
      rw [show n + p - l - 1 + l + 1 = n + p by omega] at this
      exact this
    have tok := hts t ht
    have e0 : idxD (tabD t) (.int 0) = some (.str t.name) := at0 _ _
    have e2 : idxD (tabD t) (.int 2) = some (.tup (t.cols.map colD)) := at2 _ _ _ _
    have nc := tab_colsD tok
    obtain ⟨c2, hc2, ec2⟩ := hc.at_ (sget ps 2)
    obtain ⟨c3, hc3, ec3⟩ := nc.at_ (sget ps 3)
    have mN : ∀ z : Int, binD .mod (.int z) (.int ((colNames t).length : Nat)) = some (.int (z % ((colNames t).length : Nat))) := fun z => mod_ok nc.len1
    have cl := hc.len
    have ncl := nc.len
    have bs1 : binD .sub (.int (p : Nat)) (.int 1) = some (.int ((p - 1 : Nat) : Int)) := by rw [← es]; rfl
    refine rp_fn (n := n + p) hT rfl rfl ?_
    simp only [f__law_condition, pad]
    exists 1, xh, mH, mJ, aJ, aH, g0, mW, hd0, int_bl bg, xg, no_index (⟨_, x1, _, rfl, fun h => (f_t h).elim, fun h => ?_⟩), no_index (⟨_, xhas, _, rfl, fun h => ?_, fun h => ?_⟩), no_index (⟨_, xnot, _, rfl, fun h => ?_, fun h => ?_⟩)
    · have hxh := hbh.mp h
      exists 1, g1, hlt, mT _, et, e2
      refine rp_lcM (ys := t.cols) colD (fun c => .str c.name) (by have := tok.len4; omega) (fun c hc acc => ?_) ?_
      · refine ⟨_, rfl, ?_⟩
        exists 1, col_at0 (colB_colD (tok.cols.each c hc))
      · have en : (t.cols.map fun c => D.str c.name) = (colNames t).map .str := by unfold colNames; rw [List.map_map]; rfl
        rw [en]
        exists 1, s6, bs1, xr
        try rw [c6]
        try rw [es]
        refine RP.of_no (nx (p - 1) (by omega) (by omega) (by omega) (ps.drop 6) (by rw [List.length_drop]; omega) _ _ nc w' (noh_sub w' hw') S) fun v S1 ⟨e1, d, e2', a, ha1, ha2, ha3, ha4, ha5⟩ => ?_
        subst e1; subst e2'
        exists 1, e0, g2, g3, cl, ncl, mC _, mN _, ec2, ec3
        subst hxh; subst ha1
        refine ⟨.has t.name c2 c3 a, rfl, ⟨t, ht, rfl, hc2, hc3, ha2⟩, by simp only [hC]; omega, ?_, fun z => absurd rfl (hno z)⟩
        have hwn : ¬ w ∈ NOH := fun z => hno z rfl
        unfold mostL at ha4 ⊢
        rw [if_pos hw'] at ha4
        rw [if_neg hwn]
        simp only [lou]
        omega
    · have hxn := hbn.mp h
      try rw [c6]
      try rw [es]
      refine RP.of_no (nx (p - 1) (by omega) (by omega) (by omega) (ps.drop 6) (by rw [List.length_drop]; omega) _ _ hc w hw S) fun v S1 ⟨e1, d, e2', a, ha1, ha2, ha3, ha4, ha5⟩ => ?_
      subst e1; subst e2'
      exists 1
      subst hxn; subst ha1
      exact ⟨.not a, rfl, ha2, by simp only [hC]; omega, Nat.le_trans ha4 (mostL_mono w (by omega)), ha5⟩
    · rename_i hnh
      have hp3 : 3 ≤ p := by
        rcases hxb with h' | h' | h'
        · exact hbg.mp h'
        · rw [hbn.mpr h'] at h; cases h
        · rw [hbh.mpr h'] at hnh; cases hnh
      have hao : x = "and" ∨ x = "or" := by
        simp only [TREE, List.mem_cons, List.not_mem_nil, or_false] at hx
        rcases hx with z | z | z | z
        · rw [hbn.mpr z] at h; cases h
        · exact .inl z
        · exact .inr z
        · rw [hbh.mpr z] at hnh; cases hnh
      have m2 : binD .mod (.int (sget ps 1)) (.int ((p : Nat) - 2)) = some (.int (sget ps 1 % ((p : Nat) - 2))) := if_pos (by omega)
      have hz0 := Int.emod_nonneg (sget ps 1) (show ((p : Nat) : Int) - 2 ≠ 0 by omega)
      have hz1 := Int.emod_lt_of_pos (sget ps 1) (show (0 : Int) < ((p : Nat) : Int) - 2 by omega)
      generalize sget ps 1 % ((p : Nat) - 2) = z at m2 hz0 hz1
      obtain ⟨l, hl1⟩ : ∃ l : Nat, (l : Int) = 1 + z := ⟨(1 + z).toNat, by omega⟩
      have ba : binD .add (.int 1) (.int z) = some (.int (l : Nat)) := by rw [hl1]; rfl
      have bm : binD .mul (.int 6) (.int (l : Nat)) = some (.int (6 * (l : Nat))) := by
        simp only [binD]
        exact if_pos (.inl (by decide))
      exists 1, g1, m2, ba, bm
      have ca : cutD (ps.map .int) (some 6) (some (6 + 6 * (l : Nat))) = (cutL ps (some 6) (some (6 + 6 * (l : Nat)))).map .int := cut_ints _ _ _
      have cla : ((cutL ps (some 6) (some (6 + 6 * (l : Nat)))).length : Int) = (6 + 6 * (l : Nat)) - 6 := cutL_len (by omega) (by omega) (by omega)
      have cb : cutD (ps.map .int) (some (6 + 6 * (l : Nat))) none = (ps.drop (6 + 6 * (l : Nat) : Int).toNat).map .int := by rw [cut_ints, cutL_of ps (by omega)]
      have e3 : ((p : Nat) : Int) - 1 - (l : Nat) = ((p - 1 - l : Nat) : Int) := by omega
      rw [ca]
      refine RP.of_no (nx l (by omega) (by omega) (by omega) _ (by omega) _ _ hc w hw S) fun v S1 ⟨e1, d, e2', a, ha1, ha2, ha3, ha4, ha5⟩ => ?_
      subst e1; subst e2'
      exists 1, bm
      rw [cb, e3]
      refine RP.of_no (nx (p - 1 - l) (by omega) (by omega) (by omega) _ (by rw [List.length_drop]; omega) _ _ hc w hw _) fun v S1 ⟨e1, d2, e2', b, hb1, hb2, hb3, hb4, hb5⟩ => ?_
      subst e1; subst e2'
      exists 1
      subst ha1; subst hb1
      have hadd := mostL_add w l (p - 1 - l)
      have hmm := mostL_mono w (show l + (p - 1 - l) ≤ p by omega)
      rcases hao with rfl | rfl
      · exact ⟨.and a b, rfl, ⟨ha2, hb2⟩, by simp only [hC]; omega, by simp only [lou]; omega, fun z => by simp only [noHas, ha5 z, hb5 z]; rfl⟩
      · exact ⟨.or a b, rfl, ⟨ha2, hb2⟩, by simp only [hC]; omega, by simp only [lou]; omega, fun z => by simp only [noHas, ha5 z, hb5 z]; rfl⟩
end M

/-! what a condition tells of a row: the program's look -/
namespace M
open PySem PySem.Spec PyProof.Rows L2
def f_look (i_look_joined i_look_has : Nat) : Fn := ⟨5, 8,
  [(.asg (.v 5) (.idx (.var 3) (.lit (D.int 0)))),
  (.ife (.cmp .eq (.var 5) (.lit (D.str "yes"))) [(.ret (.lit (D.bl true)))] []),
  (.ife (.cmp .isin (.var 5) (.tup [(.lit (D.str "not")), (.lit (D.str "and")), (.lit (D.str "or"))])) [(.ret (.call i_look_joined [(.var 0), (.var 1), (.var 2), (.var 3), (.var 4)]))] []),
  (.ife (.cmp .eq (.var 5) (.lit (D.str "has"))) [(.ret (.call i_look_has [(.var 0), (.idx (.var 2) (.mth .indexT (.var 1) [(.idx (.var 3) (.lit (D.int 2)))])), (.var 3), (.var 4)]))] []),
  (.asg (.v 6) (.idx (.var 2) (.mth .indexT (.var 1) [(.idx (.var 3) (.lit (D.int 1)))]))),
  (.ife (.cmp .eq (.var 5) (.lit (D.str "loud"))) [(.putt 4 [(.idx (.var 3) (.lit (D.int 1))), (.var 6)] (.lit (D.bl true))),
  (.ret (.lit (D.bl true)))] []),
  (.ife (.cmp .eq (.var 5) (.lit (D.str "empty"))) [(.ret (.cmp .eq (.var 6) (.neg (.lit (D.int 1)))))] []),
  (.ife (.cmp .eq (.var 6) (.neg (.lit (D.int 1)))) [(.ret (.lit D.non))] []),
  (.ife (.cmp .eq (.var 5) (.lit (D.str "mine"))) [(.ret (.cmp .eq (.var 6) (.att (.var 0) "user")))] []),
  (.ife (.cmp .eq (.var 5) (.lit (D.str "same"))) [(.asg (.v 7) (.idx (.var 2) (.mth .indexT (.var 1) [(.idx (.var 3) (.lit (D.int 2)))]))),
  (.ret (.ife (.cmp .eq (.var 7) (.neg (.lit (D.int 1)))) (.lit D.non) (.cmp .eq (.var 6) (.var 7))))] []),
  (.ife (.cmp .eq (.var 5) (.lit (D.str "is"))) [(.ret (.cmp .eq (.var 6) (.idx (.var 3) (.lit (D.int 2)))))] []),
  (.ret (.cmp .lt (.var 6) (.idx (.var 3) (.lit (D.int 2)))))]⟩
def f_look_joined (i_look : Nat) : Fn := ⟨5, 7,
  [(.asg (.v 5) (.call i_look [(.var 0), (.var 1), (.var 2), (.idx (.var 3) (.lit (D.int 1))), (.var 4)])),
  (.ife (.cmp .eq (.idx (.var 3) (.lit (D.int 0))) (.lit (D.str "not"))) [(.ret (.ife (.cmp .is_ (.var 5) (.lit D.non)) (.lit D.non) (.not (.var 5))))] []),
  (.ife (.cmp .eq (.idx (.var 3) (.lit (D.int 0))) (.lit (D.str "and"))) [(.ret (.ife (.cmp .is_ (.var 5) (.lit (D.bl true))) (.call i_look [(.var 0), (.var 1), (.var 2), (.idx (.var 3) (.lit (D.int 2))), (.var 4)]) (.var 5)))] []),
  (.ife (.cmp .is_ (.var 5) (.lit (D.bl true))) [(.ret (.lit (D.bl true)))] []),
  (.asg (.v 6) (.call i_look [(.var 0), (.var 1), (.var 2), (.idx (.var 3) (.lit (D.int 2))), (.var 4)])),
  (.ife (.and (.cmp .is_ (.var 5) (.lit D.non)) (.cmp .isnot (.var 6) (.lit (D.bl true)))) [(.ret (.lit D.non))] []),
  (.ret (.var 6))]⟩
def f_look_has (i_look : Nat) : Fn := ⟨4, 8,
  [(.asg (.tp [4, 5]) (.dget (.att (.var 0) "tables") (.idx (.var 2) (.lit (D.int 1))))),
  (.asg (.v 6) (.mth .indexT (.var 4) [(.idx (.var 2) (.lit (D.int 3)))])),
  (.for_ (.v 7) (.of (.var 5)) [(.ife (.and (.cmp .eq (.idx (.var 7) (.var 6)) (.var 1)) (.cmp .ne (.var 1) (.neg (.lit (D.int 1))))) [(.ife (.cmp .is_ (.call i_look [(.var 0), (.var 4), (.var 7), (.idx (.var 2) (.lit (D.int 4))), (.var 3)]) (.lit (D.bl true))) [(.ret (.lit (D.bl true)))] [])] [])]),
  (.ret (.lit (D.bl false)))]⟩
/-! ### the plain reading -/
abbrev Tw := List (Tab × List (List Int))
def findT (tw : Tw) (t : Str) : Option (Tab × List (List Int)) := tw.find? fun p => decide (p.1.name = t)
def plc (cols : List Str) (c : Str) : Nat := cols.findIdx fun y => decide (y = c)
def atC (cols : List Str) (row : List Int) (c : Str) : Int := (row[plc cols c]?).getD 0
def goR (f : List Int → Option Bool × List (Str × Int)) (m : List Int → Bool) : List (List Int) → Bool × List (Str × Int)
  | [] => (false, [])
  | r :: rs => if m r = true then (if (f r).1 = some true then (true, (f r).2) else ((goR f m rs).1, (f r).2 ++ (goR f m rs).2)) else goR f m rs
def lk (tw : Tw) (who : Int) : Cd → List Str → List Int → Option Bool × List (Str × Int)
  | .yes, _, _ => (some true, [])
  | .loud c, cols, row => (some true, [(c, atC cols row c)])
  | .empty c, cols, row => (some (decide (atC cols row c = -1)), [])
  | .is c v, cols, row => (if atC cols row c = -1 then none else some (decide (atC cols row c = v)), [])
  | .lt c v, cols, row => (if atC cols row c = -1 then none else some (decide (atC cols row c < v)), [])
  | .mine c, cols, row => (if atC cols row c = -1 then none else some (decide (atC cols row c = who)), [])
  | .same c d, cols, row => (if atC cols row c = -1 then none else if atC cols row d = -1 then none else some (decide (atC cols row c = atC cols row d)), [])
  | .not a, cols, row => ((lk tw who a cols row).1.map (!·), (lk tw who a cols row).2)
  | .and a b, cols, row => if (lk tw who a cols row).1 = some true then ((lk tw who b cols row).1, (lk tw who a cols row).2 ++ (lk tw who b cols row).2) else lk tw who a cols row
  | .or a b, cols, row => if (lk tw who a cols row).1 = some true then lk tw who a cols row else (if (lk tw who a cols row).1 = none ∧ (lk tw who b cols row).1 ≠ some true then none else (lk tw who b cols row).1, (lk tw who a cols row).2 ++ (lk tw who b cols row).2)
  | .has t c d a, cols, row => match findT tw t with
    | some p => (some (goR (fun r => lk tw who a (colNames p.1) r) (fun r => decide (atC (colNames p.1) r d = atC cols row c) && decide (atC cols row c ≠ -1)) p.2).1, (goR (fun r => lk tw who a (colNames p.1) r) (fun r => decide (atC (colNames p.1) r d = atC cols row c) && decide (atC cols row c ≠ -1)) p.2).2)
    | none => (some false, [])
def oD : Option Bool → D
  | none => .non
  | some b => .bl b
structure TwOk (tw : Tw) : Prop where
  tab : ∀ p ∈ tw, TabOk p.1
  len : ∀ p ∈ tw, ∀ r ∈ p.2, r.length = p.1.cols.length
  few : ∀ p ∈ tw, p.2.length ≤ 12
  nd : (tw.map fun p => p.1.name).Nodup
  le : tw.length ≤ 4
def kvsP (tw : Tw) : List (Key × D) := tw.map fun p => (.inr p.1.name, .tup [.tup ((colNames p.1).map .str), .tup (p.2.map rowD)])
theorem findT_mem : ∀ {tw : Tw} {p : Tab × List (List Int)}, (tw.map fun p => p.1.name).Nodup → p ∈ tw → findT tw p.1.name = some p
  | [], p, _, h => by cases h
  | q :: tw, p, nd, h => by
    unfold findT
    rw [List.map_cons, List.nodup_cons] at nd
    rcases List.mem_cons.mp h with rfl | h
    · rw [List.find?_cons_of_pos (by simp)]
    · have hne : q.1.name ≠ p.1.name := fun z => nd.1 (z ▸ List.mem_map.mpr ⟨p, h, rfl⟩)
      rw [List.find?_cons_of_neg (by simpa using hne)]
      exact findT_mem nd.2 h
theorem getK_tw (f : Tab × List (List Int) → D) : ∀ {tw : Tw} {t : Str}, getK (tw.map fun p => ((Sum.inr p.1.name : Key), f p)) (.inr t) = (findT tw t).map f
  | [], t => rfl
  | q :: tw, t => by
    unfold getK findT
    rw [List.map_cons]
    by_cases h : q.1.name = t
    · rw [List.find?_cons_of_pos (by simp [h]), List.find?_cons_of_pos (by simp [h])]; rfl
    · rw [List.find?_cons_of_neg (by simpa using h), List.find?_cons_of_neg (by simpa using h)]
      exact getK_tw f
theorem asStrs_m : ∀ xs : List Str, asStrs (xs.map D.str) = some xs
  | [] => rfl
  | x :: xs => by rw [List.map_cons, asStrs, asStrs_m xs]; rfl
theorem plc_lt {cols : List Str} {c : Str} (h : c ∈ cols) : plc cols c < cols.length := List.findIdx_lt_length_of_exists ⟨c, h, by simp⟩
theorem idx_cols {cols : List Str} {c : Str} (h : c ∈ cols) : mthD .indexT (.tup (cols.map .str)) [.str c] = some (.int (plc cols c : Nat)) := by
  simp only [mthD, asStrs_m, Option.bind_some]
  rw [List.findIdx?_eq_some_of_exists ⟨c, h, by simp⟩]
  rfl
theorem idx_cols2 {cols : List Str} {c : Str} (h : c ∈ cols) (S : St') : mth2 .indexT S (.t (.tup (cols.map .str))) [.t (.str c)] = some (.int (plc cols c : Nat)) := by
  unfold mth2
  simp only [peek, peeks, Option.bind_some, Option.map_some]
  exact idx_cols h
theorem at_row {cols : List Str} {row : List Int} {c : Str} (h : c ∈ cols) (hl : row.length = cols.length) : idxD (.tup (row.map .int)) (.int (plc cols c : Nat)) = some (.int (atC cols row c)) := by
  have hlt : plc cols c < row.length := by rw [hl]; exact plc_lt h
  have e : atC cols row c = row[plc cols c] := by unfold atC; rw [List.getElem?_eq_getElem hlt]; rfl
  rw [e]
  exact L2.atI_nat (by rw [List.getElem?_map, List.getElem?_eq_getElem hlt]; rfl)
theorem eqy (a : Str) : cmpD .eq (.str a) (.str a) = some true := by
  obtain ⟨b, h1, h2⟩ := eq_sb a a
  rw [h2, h1.mpr rfl]
theorem eqn {a b : Str} (h : decide (a = b) = false) : cmpD .eq (.str a) (.str b) = some false := by
  obtain ⟨k, h1, h2⟩ := eq_sb a b
  rw [h2]
  cases k with
  | false => rfl
  | true => rw [decide_eq_true (h1.mp rfl)] at h; cases h
theorem eq_zz (a b : Int) : cmpD .eq (.int a) (.int b) = some (decide (a = b)) := by
  show some (a == b) = _
  congr 1
theorem ne_zz (a b : Int) : cmpD .ne (.int a) (.int b) = some (!decide (a = b)) := by
  show some (!(a == b)) = _
  congr 1
theorem in3_f : ∀ w ∈ (["yes", "is", "below", "same", "mine", "empty", "loud", "has"] : List Str), cmpD .isin (.str w) (.tup [.str "not", .str "and", .str "or"]) = some false := by decide +kernel
theorem in3_t : ∀ w ∈ (["not", "and", "or"] : List Str), cmpD .isin (.str w) (.tup [.str "not", .str "and", .str "or"]) = some true := by decide +kernel
theorem set_same {S : St'} {j : Nat} {o : O} (h : S[j]? = some o) : S.set j o = S := by
  apply List.ext_getElem?
  intro k
  by_cases hk : j = k
  · subst hk
    rw [List.getElem?_set_self (List.getElem?_eq_some_iff.mp h).1, h]
  · rw [List.getElem?_set_ne hk]
def LP (r : Option Bool) (nt : List (List Key × D)) (S : St') (j : Nat) (v : SV) (S' : St') : Prop := v = .t (oD r) ∧ S' = S.set j (.dt nt)
def scn (kvs : List (Key × D)) (who : Int) : SV := .ins "Scene" ["tables", "user", "views", "every"] [.kd kvs, .t (.int who), .kd [], .t .non]
theorem scn_user (kvs : List (Key × D)) (who : Int) : attV (scn kvs who) "user" = some (.t (.int who)) := by rfl
theorem scn_tabs (kvs : List (Key × D)) (who : Int) : attV (scn kvs who) "tables" = some (.kd kvs) := by rfl
theorem putD_len (kvs : List (List Key × D)) (k : List Key) (d : D) : (putD kvs k d).length ≤ kvs.length + 1 := by
  unfold putD
  split <;> simp
theorem putt_ok {ρ : Ev} {S : St'} {j : Nat} {kvs : List (List Key × D)} (h : S[j]? = some (.dt kvs)) (hl : kvs.length < 16777216) (c : Str) (z : Int) (d : D) : puttO ρ j d [.t (.str c), .t (.int z)] S = .nx ρ (S.set j (.dt (putD kvs [.inr c, .inl z] d))) := by
  unfold puttO
  simp only [grabs, grab, Option.map_some, asKeys, h]
  exact if_pos ⟨lt_sz hl, le_sz rfl⟩
def puts (nt : List (List Key × D)) (l : List (Str × Int)) : List (List Key × D) := l.foldl (fun k p => putD k [.inr p.1, .inl p.2] (.bl true)) nt
theorem puts_len : ∀ (l : List (Str × Int)) (nt : List (List Key × D)), (puts nt l).length ≤ nt.length + l.length
  | [], nt => Nat.le_refl _
  | p :: l, nt => by
    have h1 := puts_len l (putD nt [.inr p.1, .inl p.2] (.bl true))
    have h2 := putD_len nt [.inr p.1, .inl p.2] (.bl true)
    show (puts (putD nt [.inr p.1, .inl p.2] (.bl true)) l).length ≤ _
    rw [List.length_cons]
    omega
theorem puts_app (nt : List (List Key × D)) (l m : List (Str × Int)) : puts nt (l ++ m) = puts (puts nt l) m := by unfold puts; rw [List.foldl_append]
theorem goR_len {f : List Int → Option Bool × List (Str × Int)} {m : List Int → Bool} {k : Nat} (h : ∀ r, (f r).2.length ≤ k) : ∀ rs : List (List Int), (goR f m rs).2.length ≤ rs.length * k
  | [] => by simp [goR]
  | r :: rs => by
    have ih := goR_len (m := m) h rs
    have hr := h r
    rw [goR, List.length_cons, Nat.succ_mul]
    split
    · split
      · show (f r).2.length ≤ _; omega
      · show ((f r).2 ++ (goR f m rs).2).length ≤ _; rw [List.length_append]; omega
    · omega
theorem lk_len {tw : Tw} (htw : TwOk tw) (who : Int) : ∀ (c : Cd) (cols : List Str) (row : List Int), (lk tw who c cols row).2.length ≤ lou c
  | .yes, _, _ => Nat.le_refl _
  | .loud _, _, _ => Nat.le_refl _
  | .empty _, _, _ => Nat.le_refl _
  | .is _ _, _, _ => Nat.le_refl _
  | .lt _ _, _, _ => Nat.le_refl _
  | .mine _, _, _ => Nat.le_refl _
  | .same _ _, _, _ => Nat.le_refl _
  | .not a, cols, row => lk_len htw who a cols row
  | .and a b, cols, row => by
    have h1 := lk_len htw who a cols row
    have h2 := lk_len htw who b cols row
    rw [lk, lou]
    split
    · rw [List.length_append]; omega
    · omega
  | .or a b, cols, row => by
    have h1 := lk_len htw who a cols row
    have h2 := lk_len htw who b cols row
    rw [lk, lou]
    split
    · omega
    · show ((lk tw who a cols row).2 ++ (lk tw who b cols row).2).length ≤ _; rw [List.length_append]; omega
  | .has t c d a, cols, row => by
    rw [lk, lou]
    split
    · rename_i p hp
      have h12 := Nat.mul_le_mul_right (lou a) (htw.few p (List.mem_of_find?_eq_some hp))
      exact Nat.le_trans (goR_len (fun r => lk_len htw who a (colNames p.1) r) p.2) h12
    · exact Nat.zero_le _
def KvOk (tw : Tw) (kvs : List (Key × D)) : Prop := ∀ t p, findT tw t = some p → ∃ rs, getK kvs (.inr t) = some (.tup [.tup ((colNames p.1).map .str), rs]) ∧ (rs = .tup (p.2.map rowD) ∨ rs = .lst (p.2.map rowD))
theorem cmpT {w x : Str} {S : St'} {A B : Prop} (h : w = x) (hp : A) : ∃ r, cmp2' .eq S (.t (.str w)) (.t (.str x)) = some r ∧ ∃ k, truth S (.t (.bl r)) = some k ∧ (k = true → A) ∧ (k = false → B) := by
  subst h
  exact ⟨true, eqy w, true, rfl, fun _ => hp, fun h => (t_f h).elim⟩
theorem cmpF {w x : Str} {S : St'} {A B : Prop} (h : decide (w = x) = false) (hp : B) : ∃ r, cmp2' .eq S (.t (.str w)) (.t (.str x)) = some r ∧ ∃ k, truth S (.t (.bl r)) = some k ∧ (k = true → A) ∧ (k = false → B) :=
  ⟨false, eqn h, false, rfl, fun h => (f_t h).elim, fun _ => hp⟩
theorem inT {w : Str} {xs : List D} {S : St'} {A B : Prop} (h : cmpD .isin (.str w) (.tup xs) = some true) (hp : A) : ∃ r, cmp2' .isin S (.t (.str w)) (.t (.tup xs)) = some r ∧ ∃ k, truth S (.t (.bl r)) = some k ∧ (k = true → A) ∧ (k = false → B) :=
  ⟨true, h, true, rfl, fun _ => hp, fun h => (t_f h).elim⟩
theorem inF {w : Str} {xs : List D} {S : St'} {A B : Prop} (h : cmpD .isin (.str w) (.tup xs) = some false) (hp : B) : ∃ r, cmp2' .isin S (.t (.str w)) (.t (.tup xs)) = some r ∧ ∃ k, truth S (.t (.bl r)) = some k ∧ (k = true → A) ∧ (k = false → B) :=
  ⟨false, h, false, rfl, fun h => (f_t h).elim, fun _ => hp⟩
section
variable {T : List Fn} {iL iJ iH : Nat} {sc : SV} {cols : List Str} {row : List Int} {S : St'} {j : Nat} {nt : List (List Key × D)}
theorem joined_not (hJ : T[iJ]? = some (f_look_joined iL)) {m : Nat} {a : Cd} {r : Option Bool} {cD rD : D} (h : RP (FT T m iL [sc, .t cD, .t rD, .t (cdD a), .o j] S) (LP r nt S j) noE) :
    RP (FT T (m + 1) iJ [sc, .t cD, .t rD, .t (cdD (.not a)), .o j] S) (LP (r.map (!·)) nt S j) noE := by
  have e0 : idxD (cdD (.not a)) (.int 0) = some (.str "not") := at0 _ _
  have e1 : idxD (cdD (.not a)) (.int 1) = some (cdD a) := at1 _ _ _
  refine rp_fn hJ rfl rfl ?_
  simp only [f_look_joined, pad]
  exists 1, e1
  refine h.of_no fun v S1 ⟨e1, e2⟩ => ?_
  subst e1; subst e2
  rcases r with _ | (_ | _)
  all_goals
    simp only [oD]
    exists 1, e0, no_index (cmpT (by decide +kernel) ?_)
theorem joined_and (hJ : T[iJ]? = some (f_look_joined iL)) {m : Nat} {a b : Cd} {ra rb : Option Bool} {nt2 : List (List Key × D)} {cD rD : D} (ha : RP (FT T m iL [sc, .t cD, .t rD, .t (cdD a), .o j] S) (LP ra nt S j) noE)
    (hb : ra = some true → RP (FT T m iL [sc, .t cD, .t rD, .t (cdD b), .o j] (S.set j (.dt nt))) (LP rb nt2 S j) noE) :
    RP (FT T (m + 1) iJ [sc, .t cD, .t rD, .t (cdD (.and a b)), .o j] S) (LP (if ra = some true then rb else ra) (if ra = some true then nt2 else nt) S j) noE := by
  have e0 : idxD (cdD (.and a b)) (.int 0) = some (.str "and") := at0 _ _
  have e1 : idxD (cdD (.and a b)) (.int 1) = some (cdD a) := at1 _ _ _
  have e2 : idxD (cdD (.and a b)) (.int 2) = some (cdD b) := at2 _ _ _ _
  refine rp_fn hJ rfl rfl ?_
  simp only [f_look_joined, pad]
  exists 1, e1
  refine ha.of_no fun v S1 ⟨z1, z2⟩ => ?_
  subst z1; subst z2
  rcases ra with _ | (_ | _)
  · simp only [oD]
    exists 1, e0, no_index (cmpT (by decide +kernel) ?_), no_index (cmpF (by decide +kernel) ?_)
  · simp only [oD]
    exists 1, e0, no_index (cmpT (by decide +kernel) ?_), no_index (cmpF (by decide +kernel) ?_)
  · simp only [oD]
    exists 1, e0, e2, no_index (cmpT (by decide +kernel) ?_), no_index (cmpF (by decide +kernel) ?_)
    refine (hb rfl).of_no fun v S1 ⟨z1, z2⟩ => ?_
    subst z1; subst z2
    exists 1
theorem joined_or (hJ : T[iJ]? = some (f_look_joined iL)) {m : Nat} {a b : Cd} {ra rb : Option Bool} {nt2 : List (List Key × D)} {cD rD : D} (ha : RP (FT T m iL [sc, .t cD, .t rD, .t (cdD a), .o j] S) (LP ra nt S j) noE)
    (hb : ra ≠ some true → RP (FT T m iL [sc, .t cD, .t rD, .t (cdD b), .o j] (S.set j (.dt nt))) (LP rb nt2 S j) noE) :
    RP (FT T (m + 1) iJ [sc, .t cD, .t rD, .t (cdD (.or a b)), .o j] S) (LP (if ra = some true then some true else if ra = none ∧ rb ≠ some true then none else rb) (if ra = some true then nt else nt2) S j) noE := by
  have e0 : idxD (cdD (.or a b)) (.int 0) = some (.str "or") := at0 _ _
  have e1 : idxD (cdD (.or a b)) (.int 1) = some (cdD a) := at1 _ _ _
  have e2 : idxD (cdD (.or a b)) (.int 2) = some (cdD b) := at2 _ _ _ _
  refine rp_fn hJ rfl rfl ?_
  simp only [f_look_joined, pad]
  exists 1, e1
  refine ha.of_no fun v S1 ⟨z1, z2⟩ => ?_
  subst z1; subst z2
  rcases ra with _ | (_ | _)
  · simp only [oD]
    exists 1, e0, e2, no_index (cmpT (by decide +kernel) ?_), no_index (cmpF (by decide +kernel) ?_)
    refine (hb (by decide)).of_no fun v S1 ⟨z1, z2⟩ => ?_
    subst z1; subst z2
    rcases rb with _ | (_ | _)
    all_goals
      simp only [oD]
      exists 1
  · simp only [oD]
    exists 1, e0, e2, no_index (cmpT (by decide +kernel) ?_), no_index (cmpF (by decide +kernel) ?_)
    refine (hb (by decide)).of_no fun v S1 ⟨z1, z2⟩ => ?_
    subst z1; subst z2
    rcases rb with _ | (_ | _)
    all_goals
      simp only [oD]
      exists 1
  · simp only [oD]
    exists 1, e0, no_index (cmpT (by decide +kernel) ?_), no_index (cmpF (by decide +kernel) ?_)
end
end M

/-! look comes to what lk says -/
namespace M
open PySem PySem.Spec PyProof.Rows L2
section
variable {T : List Fn} {iL iJ iH : Nat} {sc : SV} {tw : Tw} {who : Int} {kvs : List (Key × D)}
theorem has_ok (hH : T[iH]? = some (f_look_has iL)) (htw : TwOk tw) (ht : attV sc "tables" = some (.kd kvs)) (hk : KvOk tw kvs) {m : Nat} {t c d : Str} {a : Cd} {p : Tab × List (List Int)} (hp : findT tw t = some p) (hd : d ∈ colNames p.1) (f : List Int → Option Bool × List (Str × Int)) (hf : ∀ r, (f r).2.length ≤ lou a)
    (hrec : ∀ r, r.length = (colNames p.1).length → ∀ (S : St') (j : Nat) (nt : List (List Key × D)), S[j]? = some (.dt nt) → nt.length + lou a < 16777216 → RP (FT T m iL [sc, .t (.tup ((colNames p.1).map .str)), .t (rowD r), .t (cdD a), .o j] S) (LP (f r).1 (puts nt (f r).2) S j) noE)
    (z : Int) (S : St') (j : Nat) (nt : List (List Key × D)) (hj : S[j]? = some (.dt nt)) (hl : nt.length + 12 * lou a < 16777216) :
    RP (FT T (m + 1) iH [sc, .t (.int z), .t (cdD (.has t c d a)), .o j] S) (LP (some (goR f (fun r => decide (atC (colNames p.1) r d = z) && decide (z ≠ -1)) p.2).1) (puts nt (goR f (fun r => decide (atC (colNames p.1) r d = z) && decide (z ≠ -1)) p.2).2) S j) noE := by
  have hpm : p ∈ tw := List.mem_of_find?_eq_some hp
  have e1 : idxD (cdD (.has t c d a)) (.int 1) = some (.str t) := at1 _ _ _
  have e3 : idxD (cdD (.has t c d a)) (.int 3) = some (.str d) := L2.atI_nat (j := 3) rfl
  have e4 : idxD (cdD (.has t c d a)) (.int 4) = some (cdD a) := L2.atI_nat (j := 4) rfl
  obtain ⟨rs, hg, hrs⟩ := hk t p hp
  have g1 : ∀ S, dgetV S (.kd kvs) (.t (.str t)) = some (.t (.tup [.tup ((colNames p.1).map .str), rs])) := fun S => by
    simp only [dgetV, kdOf, keyV, keyD, Option.bind_some, hg, Option.map_some]
  have ix := idx_cols2 (cols := colNames p.1) (c := d) hd S
  have src : srcOf S (.t rs) = some (.fix (p.2.map rowD)) := by rcases hrs with rfl | rfl <;> rfl
  refine rp_fn hH rfl rfl ?_
  simp only [f_look_has, pad]
  exists 1, ht, e1, g1 _, e3, ix, src
  have hlen : ∀ r ∈ p.2, r.length = (colNames p.1).length := fun r hr => by rw [htw.len p hpm r hr]; simp [colNames]
  generalize hM : (fun r => decide (atC (colNames p.1) r d = z) && decide (z ≠ -1)) = mf
  refine op_fixM (ys := p.2) rowD (fun rest ρ S' => ∃ k7 nt', ρ = [some sc, some (.t (.int z)), some (.t (cdD (.has t c d a))), some (.o j), some (.t (.tup ((colNames p.1).map .str))), some (.t rs), some (.t (.int (plc (colNames p.1) d : Nat))), k7] ∧ S' = S.set j (.dt nt') ∧ (∀ r ∈ rest, r ∈ p.2) ∧ nt'.length + rest.length * lou a < 16777216 ∧ (goR f mf p.2).1 = (goR f mf rest).1 ∧ puts nt (goR f mf p.2).2 = puts nt' (goR f mf rest).2) ⟨_, nt, rfl, (set_same hj).symm, fun _ h => h, ?_, rfl, rfl⟩ ?_ ?_
  · have := Nat.mul_le_mul_right (lou a) (htw.few p hpm)
    omega
  · rintro r rest ρ S' ⟨k7, nt', rfl, rfl, hsub, hln, hg1, hg2⟩
    rw [List.length_cons, Nat.succ_mul] at hln
    have hrl := hlen r (hsub r List.mem_cons_self)
    have ar := at_row (cols := colNames p.1) (row := r) (c := d) hd hrl
    have hmr : mf r = (decide (atC (colNames p.1) r d = z) && decide (z ≠ -1)) := by rw [← hM]
    have hjl : j < S.length := (List.getElem?_eq_some_iff.mp hj).1
    have hgr := goR
    refine ⟨_, rfl, ?_⟩
    generalize atC (colNames p.1) r d = y at ar hmr
    have q1 := eq_zz y z
    have q2 := ne_zz z (-1)
    exists 1, ar, e4, q1, q2, no_index (⟨_, q1, _, rfl, fun h => ?_, fun h => ?_⟩), no_index (⟨_, q2, _, rfl, fun h => ?_, fun h => ?_⟩)
    · have hmt : mf r = true := by
        rw [hmr]
        simp_all
      have hfr := hf r
      refine (hrec r hrl (S.set j (.dt nt')) j nt' (by rw [List.getElem?_set_self hjl]) (by omega)).of_no fun v S1 ⟨z1, z2⟩ => ?_
      subst z1; subst z2
      rw [goR, if_pos hmt] at hg1 hg2
      have pl := puts_len (f r).2 nt'
      rcases hfr1 : (f r).1 with _ | (_ | _)
      · rw [hfr1] at hg1 hg2
        simp only [oD]
        exists 1
        exact ⟨_, puts nt' (f r).2, rfl, by rw [List.set_set], fun x hx => hsub x (List.mem_cons_of_mem _ hx), by omega, hg1, by rw [hg2]; exact puts_app _ _ _⟩
      · rw [hfr1] at hg1 hg2
        simp only [oD]
        exists 1
        exact ⟨_, puts nt' (f r).2, rfl, by rw [List.set_set], fun x hx => hsub x (List.mem_cons_of_mem _ hx), by omega, hg1, by rw [hg2]; exact puts_app _ _ _⟩
      · rw [if_pos hfr1] at hg1 hg2
        simp only [oD]
        exists 1
        rw [List.set_set]
        refine fin_set ⟨?_, ?_⟩
        · rw [hg1]; rfl
        · rw [hg2]
    all_goals
      have hmf : mf r = false := by
        rw [hmr]
        simp_all
      rw [goR, if_neg (by rw [hmf]; decide)] at hg1 hg2
      exact ⟨fun x hx => hsub x (List.mem_cons_of_mem _ hx), by omega, hg1, hg2⟩
  · rintro ρ S' ⟨k7, nt', rfl, rfl, hsub, hln, hg1, hg2⟩
    exists 1
    refine ⟨?_, ?_⟩
    · rw [hg1]; rfl
    · rw [hg2]; rfl
theorem look_ok (hL : T[iL]? = some (f_look iJ iH)) (hJ : T[iJ]? = some (f_look_joined iL)) (hH : T[iH]? = some (f_look_has iL)) (htw : TwOk tw) (hu : attV sc "user" = some (.t (.int who))) (ht : attV sc "tables" = some (.kd kvs)) (hk : KvOk tw kvs) :
    ∀ (c : Cd) (n : Nat) (cols : List Str) (row : List Int), WfC (tw.map (·.1)) cols c → row.length = cols.length → ∀ (S : St') (j : Nat) (nt : List (List Key × D)), S[j]? = some (.dt nt) → nt.length + lou c < 16777216 →
    RP (FT T (n + 2 * hC c) iL [sc, .t (.tup (cols.map .str)), .t (rowD row), .t (cdD c), .o j] S) (LP (lk tw who c cols row).1 (puts nt (lk tw who c cols row).2) S j) noE
  | .yes, n, cols, row, hw, hr, S, j, nt, hj, hl => by
    have e0 : idxD (cdD .yes) (.int 0) = some (.str "yes") := at0 _ _
    refine rp_fn (n := n + 1) hL rfl rfl ?_
    simp only [f_look, pad]
    exists 1, e0, no_index (cmpT (by decide +kernel) ?_), no_index (cmpF (by decide +kernel) ?_)
    exact (set_same hj).symm
  | .loud c, n, cols, row, hw, hr, S, j, nt, hj, hl => by
    have e0 : idxD (cdD (.loud c)) (.int 0) = some (.str "loud") := at0 _ _
    have e1 : idxD (cdD (.loud c)) (.int 1) = some (.str c) := at1 _ _ _
    have i3 := in3_f "loud" (by decide)
    have ix := idx_cols2 (cols := cols) (c := c) hw S
    have ar := at_row (cols := cols) (row := row) (c := c) hw hr
    have pt := fun ρ => putt_ok (ρ := ρ) hj (by have : lou (.loud c) = 1 := rfl; omega) c (atC cols row c) (.bl true)
    refine rp_fn (n := n + 1) hL rfl rfl ?_
    simp only [f_look, pad]
    exists 1, e0, e1, ix, ar, pt _, no_index (cmpT (by decide +kernel) ?_), no_index (cmpF (by decide +kernel) ?_), no_index (inF i3 ?_)
    refine ⟨_, _, rfl, ?_⟩
    exists 1, e1
    refine ⟨_, pt _, ?_⟩
    exists 1
  | .empty c, n, cols, row, hw, hr, S, j, nt, hj, hl => by
    have e0 : idxD (cdD (.empty c)) (.int 0) = some (.str "empty") := at0 _ _
    have e1 : idxD (cdD (.empty c)) (.int 1) = some (.str c) := at1 _ _ _
    have i3 := in3_f "empty" (by decide)
    have ix := idx_cols2 (cols := cols) (c := c) hw S
    have ar := at_row (cols := cols) (row := row) (c := c) hw hr
    refine rp_fn (n := n + 1) hL rfl rfl ?_
    simp only [f_look, pad, lk]
    generalize atC cols row c = y at ar
    exists 1, e0, e1, ix, ar, eq_zz y (-1), no_index (cmpT (by decide +kernel) ?_), no_index (cmpF (by decide +kernel) ?_), no_index (inF i3 ?_)
    exact (set_same hj).symm
  | .is c v, n, cols, row, hw, hr, S, j, nt, hj, hl => by
    have e0 : idxD (cdD (.is c v)) (.int 0) = some (.str "is") := at0 _ _
    have e1 : idxD (cdD (.is c v)) (.int 1) = some (.str c) := at1 _ _ _
    have e2 : idxD (cdD (.is c v)) (.int 2) = some (.int v) := at2 _ _ _ _
    have i3 := in3_f "is" (by decide)
    have ix := idx_cols2 (cols := cols) (c := c) hw.1 S
    have ar := at_row (cols := cols) (row := row) (c := c) hw.1 hr
    refine rp_fn (n := n + 1) hL rfl rfl ?_
    simp only [f_look, pad, lk]
    generalize atC cols row c = y at ar
    have q1 := eq_zz y (-1)
    have q2 := eq_zz y v
    exists 1, e0, e1, e2, ix, ar, q2, no_index (⟨_, q1, _, rfl, fun h => ?_, fun h => ?_⟩), no_index (cmpT (by decide +kernel) ?_), no_index (cmpF (by decide +kernel) ?_), no_index (inF i3 ?_)
    · exact ⟨by rw [if_pos (of_decide_eq_true h)]; rfl, (set_same hj).symm⟩
    · exact ⟨by rw [if_neg (of_decide_eq_false h)]; rfl, (set_same hj).symm⟩
  | .lt c v, n, cols, row, hw, hr, S, j, nt, hj, hl => by
    have e0 : idxD (cdD (.lt c v)) (.int 0) = some (.str "below") := at0 _ _
    have e1 : idxD (cdD (.lt c v)) (.int 1) = some (.str c) := at1 _ _ _
    have e2 : idxD (cdD (.lt c v)) (.int 2) = some (.int v) := at2 _ _ _ _
    have i3 := in3_f "below" (by decide)
    have ix := idx_cols2 (cols := cols) (c := c) hw.1 S
    have ar := at_row (cols := cols) (row := row) (c := c) hw.1 hr
    refine rp_fn (n := n + 1) hL rfl rfl ?_
    simp only [f_look, pad, lk]
    generalize atC cols row c = y at ar
    have q1 := eq_zz y (-1)
    have q2 := lt_ii y v
    exists 1, e0, e1, e2, ix, ar, q2, no_index (⟨_, q1, _, rfl, fun h => ?_, fun h => ?_⟩), no_index (cmpT (by decide +kernel) ?_), no_index (cmpF (by decide +kernel) ?_), no_index (inF i3 ?_)
    · exact ⟨by rw [if_pos (of_decide_eq_true h)]; rfl, (set_same hj).symm⟩
    · exact ⟨by rw [if_neg (of_decide_eq_false h)]; rfl, (set_same hj).symm⟩
  | .mine c, n, cols, row, hw, hr, S, j, nt, hj, hl => by
    have e0 : idxD (cdD (.mine c)) (.int 0) = some (.str "mine") := at0 _ _
    have e1 : idxD (cdD (.mine c)) (.int 1) = some (.str c) := at1 _ _ _
    have i3 := in3_f "mine" (by decide)
    have ix := idx_cols2 (cols := cols) (c := c) hw S
    have ar := at_row (cols := cols) (row := row) (c := c) hw hr
    refine rp_fn (n := n + 1) hL rfl rfl ?_
    simp only [f_look, pad, lk]
    generalize atC cols row c = y at ar
    have q1 := eq_zz y (-1)
    have q2 := eq_zz y who
    exists 1, hu, e0, e1, ix, ar, q2, no_index (⟨_, q1, _, rfl, fun h => ?_, fun h => ?_⟩), no_index (cmpT (by decide +kernel) ?_), no_index (cmpF (by decide +kernel) ?_), no_index (inF i3 ?_)
    · exact ⟨by rw [if_pos (of_decide_eq_true h)]; rfl, (set_same hj).symm⟩
    · exact ⟨by rw [if_neg (of_decide_eq_false h)]; rfl, (set_same hj).symm⟩
  | .same c d, n, cols, row, hw, hr, S, j, nt, hj, hl => by
    have e0 : idxD (cdD (.same c d)) (.int 0) = some (.str "same") := at0 _ _
    have e1 : idxD (cdD (.same c d)) (.int 1) = some (.str c) := at1 _ _ _
    have e2 : idxD (cdD (.same c d)) (.int 2) = some (.str d) := at2 _ _ _ _
    have i3 := in3_f "same" (by decide)
    have ix := idx_cols2 (cols := cols) (c := c) hw.1 S
    have ix2 := idx_cols2 (cols := cols) (c := d) hw.2 S
    have ar := at_row (cols := cols) (row := row) (c := c) hw.1 hr
    have ar2 := at_row (cols := cols) (row := row) (c := d) hw.2 hr
    refine rp_fn (n := n + 1) hL rfl rfl ?_
    simp only [f_look, pad, lk]
    generalize atC cols row c = y at ar
    generalize atC cols row d = x at ar2
    have q1 := eq_zz y (-1)
    have q3 := eq_zz x (-1)
    have q2 := eq_zz y x
    exists 1, e0, e1, e2, ix, ix2, ar, ar2, q2, no_index (⟨_, q1, _, rfl, fun h => ?_, fun h => ?_⟩), no_index (⟨_, q3, _, rfl, fun h => ?_, fun h => ?_⟩), no_index (cmpT (by decide +kernel) ?_), no_index (cmpF (by decide +kernel) ?_), no_index (inF i3 ?_)
    · exact ⟨by rw [if_pos (of_decide_eq_true h)]; rfl, (set_same hj).symm⟩
    · rename_i h0
      exact ⟨by rw [if_neg (of_decide_eq_false h0), if_pos (of_decide_eq_true h)]; rfl, (set_same hj).symm⟩
    · rename_i h0
      exact ⟨by rw [if_neg (of_decide_eq_false h0), if_neg (of_decide_eq_false h)]; rfl, (set_same hj).symm⟩
  | .not a, n, cols, row, hw, hr, S, j, nt, hj, hl => by
    have e0 : idxD (cdD (.not a)) (.int 0) = some (.str "not") := at0 _ _
    have i3 := in3_t "not" (by decide)
    refine rp_fn (n := n + 2 * hC a + 1) hL rfl rfl ?_
    simp only [f_look, pad]
    exists 1, e0, no_index (cmpF (by decide +kernel) ?_), no_index (inT i3 ?_)
    refine (joined_not hJ (look_ok hL hJ hH htw hu ht hk a n cols row hw hr S j nt hj hl)).of_no fun v S1 ⟨z1, z2⟩ => ?_
    subst z1; subst z2
    exists 1
  | .and a b, n, cols, row, hw, hr, S, j, nt, hj, hl => by
    have e0 : idxD (cdD (.and a b)) (.int 0) = some (.str "and") := at0 _ _
    have i3 := in3_t "and" (by decide)
    have hjl : j < S.length := (List.getElem?_eq_some_iff.mp hj).1
    have ka := lk_len htw who a cols row
    have pl := puts_len (lk tw who a cols row).2 nt
    rw [lou] at hl
    have ia := look_ok hL hJ hH htw hu ht hk a (n + 2 * max (hC a) (hC b) - 2 * hC a) cols row hw.1 hr S j nt hj (by omega)
    rw [show n + 2 * max (hC a) (hC b) - 2 * hC a + 2 * hC a = n + 2 * max (hC a) (hC b) by omega] at ia
    have ib := look_ok hL hJ hH htw hu ht hk b (n + 2 * max (hC a) (hC b) - 2 * hC b) cols row hw.2 hr (S.set j (.dt (puts nt (lk tw who a cols row).2))) j (puts nt (lk tw who a cols row).2) (by rw [List.getElem?_set_self hjl]) (by omega)
    rw [show n + 2 * max (hC a) (hC b) - 2 * hC b + 2 * hC b = n + 2 * max (hC a) (hC b) by omega] at ib
    have ib' : RP (FT T (n + 2 * max (hC a) (hC b)) iL [sc, .t (.tup (cols.map .str)), .t (rowD row), .t (cdD b), .o j] (S.set j (.dt (puts nt (lk tw who a cols row).2)))) (LP (lk tw who b cols row).1 (puts nt ((lk tw who a cols row).2 ++ (lk tw who b cols row).2)) S j) noE :=
      ib.imp fun v S' ⟨z1, z2⟩ => ⟨z1, by rw [z2, List.set_set, puts_app]⟩
    rw [hC]
    refine rp_fn (n := n + 2 * max (hC a) (hC b) + 1) hL rfl rfl ?_
    simp only [f_look, pad]
    exists 1, e0, no_index (cmpF (by decide +kernel) ?_), no_index (inT i3 ?_)
    have q : RP _ (LP (lk tw who (.and a b) cols row).1 (puts nt (lk tw who (.and a b) cols row).2) S j) noE := (joined_and hJ ia fun _ => ib').imp fun v S' ⟨z1, z2⟩ => by
      rw [lk]
      by_cases h : (lk tw who a cols row).1 = some true
      · simp only [if_pos h] at z1 z2 ⊢; exact ⟨z1, z2⟩
      · simp only [if_neg h] at z1 z2 ⊢; exact ⟨z1, z2⟩
    refine q.of_no fun v S1 ⟨z1, z2⟩ => ?_
    subst z1; subst z2
    exists 1
  | .or a b, n, cols, row, hw, hr, S, j, nt, hj, hl => by
    have e0 : idxD (cdD (.or a b)) (.int 0) = some (.str "or") := at0 _ _
    have i3 := in3_t "or" (by decide)
    have hjl : j < S.length := (List.getElem?_eq_some_iff.mp hj).1
    have ka := lk_len htw who a cols row
    have pl := puts_len (lk tw who a cols row).2 nt
    rw [lou] at hl
    have ia := look_ok hL hJ hH htw hu ht hk a (n + 2 * max (hC a) (hC b) - 2 * hC a) cols row hw.1 hr S j nt hj (by omega)
    rw [show n + 2 * max (hC a) (hC b) - 2 * hC a + 2 * hC a = n + 2 * max (hC a) (hC b) by omega] at ia
    have ib := look_ok hL hJ hH htw hu ht hk b (n + 2 * max (hC a) (hC b) - 2 * hC b) cols row hw.2 hr (S.set j (.dt (puts nt (lk tw who a cols row).2))) j (puts nt (lk tw who a cols row).2) (by rw [List.getElem?_set_self hjl]) (by omega)
    rw [show n + 2 * max (hC a) (hC b) - 2 * hC b + 2 * hC b = n + 2 * max (hC a) (hC b) by omega] at ib
    have ib' : RP (FT T (n + 2 * max (hC a) (hC b)) iL [sc, .t (.tup (cols.map .str)), .t (rowD row), .t (cdD b), .o j] (S.set j (.dt (puts nt (lk tw who a cols row).2)))) (LP (lk tw who b cols row).1 (puts nt ((lk tw who a cols row).2 ++ (lk tw who b cols row).2)) S j) noE :=
      ib.imp fun v S' ⟨z1, z2⟩ => ⟨z1, by rw [z2, List.set_set, puts_app]⟩
    rw [hC]
    refine rp_fn (n := n + 2 * max (hC a) (hC b) + 1) hL rfl rfl ?_
    simp only [f_look, pad]
    exists 1, e0, no_index (cmpF (by decide +kernel) ?_), no_index (inT i3 ?_)
    have q : RP _ (LP (lk tw who (.or a b) cols row).1 (puts nt (lk tw who (.or a b) cols row).2) S j) noE := (joined_or hJ ia fun _ => ib').imp fun v S' ⟨z1, z2⟩ => by
      rw [lk]
      by_cases h : (lk tw who a cols row).1 = some true
      · simp only [if_pos h] at z1 z2 ⊢; exact ⟨by rw [z1, h], z2⟩
      · simp only [if_neg h] at z1 z2 ⊢; exact ⟨z1, z2⟩
    refine q.of_no fun v S1 ⟨z1, z2⟩ => ?_
    subst z1; subst z2
    exists 1
  | .has t c d a, n, cols, row, hw, hr, S, j, nt, hj, hl => by
    obtain ⟨tb, htb, rfl, hc, hd, hwa⟩ := hw
    obtain ⟨p, hpm, rfl⟩ := List.mem_map.mp htb
    have hp := findT_mem htw.nd hpm
    have e0 : idxD (cdD (.has p.1.name c d a)) (.int 0) = some (.str "has") := at0 _ _
    have e2 : idxD (cdD (.has p.1.name c d a)) (.int 2) = some (.str c) := at2 _ _ _ _
    have i3 := in3_f "has" (by decide)
    have ix := idx_cols2 (cols := cols) (c := c) hc S
    have ar := at_row (cols := cols) (row := row) (c := c) hc hr
    refine rp_fn (n := n + 2 * hC a + 1) hL rfl rfl ?_
    simp only [f_look, pad]
    exists 1, e0, e2, ix, ar, no_index (cmpT (by decide +kernel) ?_), no_index (cmpF (by decide +kernel) ?_), no_index (inF i3 ?_)
    have q : RP _ (LP (lk tw who (.has p.1.name c d a) cols row).1 (puts nt (lk tw who (.has p.1.name c d a) cols row).2) S j) noE := (has_ok hH htw ht hk (t := p.1.name) (c := c) (d := d) (a := a) hp hd (fun r => lk tw who a (colNames p.1) r) (fun r => lk_len htw who a _ r) (fun r hr S j nt hj hl => look_ok hL hJ hH htw hu ht hk a n (colNames p.1) r hwa hr S j nt hj hl) (atC cols row c) S j nt hj hl).imp fun v S' ⟨z1, z2⟩ => by
      rw [lk, hp]
      exact ⟨z1, z2⟩
    refine q.of_no fun v S1 ⟨z1, z2⟩ => ?_
    subst z1; subst z2
    exists 1
end
end M

/-! the law's own reading of a condition comes to the same -/
namespace M
open PySem PySem.Spec PyProof.Rows L2
section
variable {T : List Fn} {iL : Nat} {tw : Tw} {who : Int} {kvs : List (Key × D)}
end
end M

/-! worlds by table, tables by name, tells -/
namespace M
open PySem PySem.Spec PyProof.Rows L2
def f_tables_of (i_names_of : Nat) : Fn := ⟨2, 4,
  [(.ret (.dc (.tp [2, 3]) (.zip (.var 0) (.var 1)) [] (.idx (.var 2) (.lit (D.int 0))) (.tup [(.call i_names_of [(.var 2)]), (.var 3)])))]⟩
def rowsT (p : Tab × List (List Int)) : D := .tup (p.2.map rowD)
def wD (tw : Tw) : D := .tup (tw.map rowsT)
theorem world_typed : ∀ {ts : List Tab} {ws : List D}, worldB ts (.tup ws) = true → ∃ tw : Tw, tw.map (·.1) = ts ∧ ws = tw.map rowsT ∧ ∀ p ∈ tw, rowsB p.1 (rowsT p) = true
  | [], [], _ => ⟨[], rfl, rfl, by simp⟩
  | [], w :: ws, h => by simp [worldB] at h
  | t :: ts, [], h => by simp [worldB] at h
  | t :: ts, w :: ws, h => by
    simp only [worldB, List.length_cons, List.zip_cons_cons, List.all_cons, Bool.and_eq_true, decide_eq_true_eq] at h
    obtain ⟨hl, hw, hr⟩ := h
    obtain ⟨tw, h1, h2, h3⟩ := world_typed (ts := ts) (ws := ws) (by simp only [worldB, Bool.and_eq_true, decide_eq_true_eq]; exact ⟨by omega, hr⟩)
    obtain ⟨rs, rfl, hrs⟩ : ∃ rs : List D, w = .tup rs ∧ ∀ r ∈ rs, rowB t r = true := by
      unfold rowsB at hw
      split at hw
      · rename_i rs
        simp only [Bool.and_eq_true, List.all_eq_true] at hw
        exact ⟨rs, rfl, hw.2.1⟩
      · cases hw
    have e : rs = (rs.map rowI).map rowD := by
      rw [List.map_map]
      conv => lhs; rw [← List.map_id rs]
      exact List.map_congr_left fun r hr => (rowB_shape (hrs r hr)).1
    refine ⟨(t, rs.map rowI) :: tw, by rw [List.map_cons, h1], ?_, fun p hp => ?_⟩
    · rw [List.map_cons, ← h2, rowsT, ← e]
    · rcases List.mem_cons.mp hp with rfl | hp
      · rw [rowsT]
        show rowsB t (.tup ((rs.map rowI).map rowD)) = true
        rw [← e]
        exact hw
      · exact h3 p hp
theorem twOk_of {ts : List Tab} {top : Int} (hg : GroundOk ts top) {tw : Tw} (h1 : tw.map (·.1) = ts) (h3 : ∀ p ∈ tw, rowsB p.1 (rowsT p) = true) : TwOk tw := by
  have hm : ∀ p ∈ tw, p.1 ∈ ts := fun p hp => h1 ▸ List.mem_map.mpr ⟨p, hp, rfl⟩
  have hb : ∀ p ∈ tw, p.2.length ≤ 12 ∧ ∀ r ∈ p.2, rowB p.1 (rowD r) = true := fun p hp => by
    have := h3 p hp
    unfold rowsT rowsB at this
    simp only [Bool.and_eq_true, decide_eq_true_eq, List.all_eq_true, List.length_map] at this
    exact ⟨this.1, fun r hr => this.2.1 _ (List.mem_map.mpr ⟨r, hr, rfl⟩)⟩
  refine ⟨fun p hp => hg.each _ (hm p hp), fun p hp r hr => rowB_len ((hb p hp).2 r hr), fun p hp => (hb p hp).1, ?_, ?_⟩
  · have : (tw.map fun p => p.1.name) = ts.map Tab.name := by rw [← h1, List.map_map]; rfl
    rw [this]
    exact hg.nd
  · rw [← List.length_map (f := fun p : Tab × List (List Int) => p.1), h1]
    exact hg.len4
theorem putKD_new {kvs : List (Key × D)} {k : Key} {v : D} (h : k ∉ kvs.map (·.1)) : putKD kvs k v = kvs ++ [(k, v)] := by
  unfold putKD
  rw [if_neg]
  intro z
  obtain ⟨kv, h1, h2⟩ := List.any_eq_true.mp z
  exact h (List.mem_map.mpr ⟨kv, h1, of_decide_eq_true h2⟩)
theorem putKD_fold {α : Type} (k : α → Key) (v : α → D) : ∀ (ys : List α) (acc : List (Key × D)), (acc.map (·.1) ++ ys.map k).Nodup → ys.foldl (fun acc y => putKD acc (k y) (v y)) acc = acc ++ ys.map fun y => (k y, v y)
  | [], acc, _ => by simp
  | y :: ys, acc, h => by
    have hy : k y ∉ acc.map (·.1) := fun z => by
      rw [List.nodup_append] at h
      exact h.2.2 _ z _ (by simp) rfl
    rw [List.foldl_cons, putKD_new hy, putKD_fold k v ys _ (by simpa using h)]
    simp
theorem inr_nd {tw : Tw} (h : (tw.map fun p => p.1.name).Nodup) : (tw.map fun p => (Sum.inr p.1.name : Key)).Nodup := by
  have e : (tw.map fun p => (Sum.inr p.1.name : Key)) = (tw.map fun p => p.1.name).map Sum.inr := by rw [List.map_map]; rfl
  rw [e]
  exact List.Pairwise.map _ (fun a b hab z => hab (Sum.inr.inj z)) h
theorem kvP_ok (tw : Tw) : KvOk tw (kvsP tw) := fun t p h => ⟨_, by rw [kvsP, getK_tw (fun p => .tup [.tup ((colNames p.1).map .str), .tup (p.2.map rowD)]), h]; rfl, .inl rfl⟩
theorem finKd {S S' : St'} {kvs : List (Key × D)} {P : SV → St' → Prop} {E : EX} (ht : S'.take S.length = S) (h : P (.kd kvs) S) : RP (finish S.length (.kd kvs) S') P E := by
  unfold finish; rw [ht]; exact h
theorem zip_tw (tw : Tw) : zipD ((tw.map (·.1)).map tabD) (tw.map rowsT) = tw.map fun p => D.tup [tabD p.1, rowsT p] := by
  induction tw with
  | nil => rfl
  | cons p tw ih => simp only [List.map_cons, zipD, List.zip_cons_cons] at *; rw [ih]
theorem tables_of_ok {T : List Fn} {i iN : Nat} (hT : T[i]? = some (f_tables_of iN)) (hN : T[iN]? = some f_names_of) (n : Nat) {tw : Tw} (htw : TwOk tw) (S : St') :
    RP (FT T (n + 2) i [.t (.tup ((tw.map (·.1)).map tabD)), .t (wD tw)] S) (fun v S' => v = .kd (kvsP tw) ∧ S' = S) noE := by
  refine rp_fn hT rfl rfl ?_
  simp only [f_tables_of, pad]
  have hle := htw.le
  exists 1
  refine ⟨_, _, .inr ⟨rfl, rfl⟩, ?_⟩
  rw [zip_tw]
  refine rp_dcM (ys := tw) (fun p => D.tup [tabD p.1, rowsT p]) (fun p => .inr p.1.name) (fun p => .tup [.tup ((colNames p.1).map .str), .tup (p.2.map rowD)]) (by omega) (fun p hp acc => ?_) ?_
  · have tok := htw.tab p hp
    have e0 : idxD (tabD p.1) (.int 0) = some (.str p.1.name) := at0 _ _
    refine ⟨_, rfl, ?_, ?_⟩
    · exists 1, e0
    · exists 1
      have hcs : (p.1.cols.map colD).all colB = true := List.all_eq_true.mpr fun x hx => by
        obtain ⟨c, hc, rfl⟩ := List.mem_map.mp hx
        exact colB_colD (tok.cols.each c hc)
      refine RP.of_no (names_of_ok hN n (a := .str p.1.name) (b := .int p.1.key) (cs := p.1.cols.map colD) hcs (by have := tok.len4; rw [List.length_map]; omega) _) fun v S1 ⟨z1, z2⟩ => ?_
      subst z1; subst z2
      rw [namesOf_cols]
      exists 1
  · rw [putKD_fold _ _ tw [] (by simpa using inr_nd htw.nd)]
    exact finKd (by simp) ⟨rfl, rfl⟩
theorem pick2v (a b z : Int) : idxD (.lst [.int a, .int b]) (.int (z % 2)) = some (.int (if z % 2 = 0 then a else b)) := by
  have h0 := Int.emod_nonneg z (show (2 : Int) ≠ 0 by decide)
  have h1 := Int.emod_lt_of_pos z (show (0 : Int) < 2 by decide)
  generalize z % 2 = y at *
  have : y = 0 ∨ y = 1 := by omega
  rcases this with rfl | rfl
  · exact at0 _ _
  · exact at1 _ _ _
end M

/-! comprehensions whose items leave new objects behind; repr of lists of truths -/
namespace M
open PySem PySem.Spec PyProof.Rows L2
theorem rp_lcG {α : Type} {F : FS} {tg : Tg} {e : ME} {ρ : Ev} {S : St'} {P : List D → St' → Prop} {E : EX} {ys : List α} (f g : α → D) (hl : ys.length ≤ 1000)
    (h : ∀ y ∈ ys, ∀ acc G, ∃ ρ', bindTg tg (f y) ρ = some ρ' ∧ RP (evalE F e ρ' ((S ++ [.lst acc]) ++ G)) (fun x S2 => x = .t (g y) ∧ ∃ G', S2 = (S ++ [.lst acc]) ++ G') noE)
    (hp : P (ys.map g) S) : RP (lcSrc tg (tests (evalCs F [])) (evalE F e) (.fix (ys.map f)) ρ S) P E := by
  have key : ∀ (ys : List α) (acc : List D) (G : St'), (∀ y ∈ ys, ∀ acc G, ∃ ρ', bindTg tg (f y) ρ = some ρ' ∧ RP (evalE F e ρ' ((S ++ [.lst acc]) ++ G)) (fun x S2 => x = .t (g y) ∧ ∃ G', S2 = (S ++ [.lst acc]) ++ G') noE) → acc.length + ys.length ≤ 1000 →
      lcFix tg (tests (evalCs F [])) (evalE F e) S.length (ys.map f) ρ ((S ++ [.lst acc]) ++ G) = .ok (acc ++ ys.map g) S := by
    intro ys
    induction ys with
    | nil =>
      intro acc G _ _
      simp only [List.map_nil, lcFix, lcEnd, stG, List.append_nil]
      rw [List.append_assoc, List.take_left]
    | cons y ys ih =>
      intro acc G h hl
      obtain ⟨ρ', h1, h2⟩ := h y List.mem_cons_self acc G
      obtain ⟨x, S2, e2, rfl, G', rfl⟩ := RP.get h2
      simp only [List.length_cons] at hl
      have hlt : acc.length < sizeLine := lt_sz (by omega)
      rw [List.map_cons, lcFix, lcTurn, h1]
      simp only [evalCs, tests, R.nox_ok, R.bind_ok, if_true, e2, lcPut, grab, stG, hlt, stGs]
      have := ih (acc ++ [g y]) G' (fun y hy => h y (List.mem_cons_of_mem _ hy)) (by simp; omega)
      simp only [evalCs, tests] at this
      rw [this]
      simp
  have := key ys [] [] h (by simpa using hl)
  unfold lcSrc
  simp only [List.append_nil, List.nil_append] at this
  exact RP.eq this hp
inductive Both {α : Type} (Rl : α → D → Prop) : List α → List D → Prop
  | nil : Both Rl [] []
  | cons {y : α} {d : D} {ys : List α} {ds : List D} : Rl y d → Both Rl ys ds → Both Rl (y :: ys) (d :: ds)
end M

/-! rules as the law draws them, by their parts; that they can be sorted -/
namespace M
open PySem PySem.Spec PyProof.Rows L2
def f__law_users : Fn := ⟨1, 2,
  [(.ife (.cmp .eq (.bin .mod (.idx (.var 0) (.lit (D.int 0))) (.lit (D.int 2))) (.lit (D.int 0))) [(.ret (.tup []))] []),
  (.ret (.bi .tuple [(.fz .sortseti [(.lc (.v 1) (.of (.slc (.var 0) [(.lit (D.int 1))] [(.bin .add (.lit (D.int 2)) (.bin .mod (.bin .fdiv (.idx (.var 0) (.lit (D.int 0))) (.lit (D.int 2))) (.lit (D.int 4))))])) [] (.bin .mod (.var 1) (.lit (D.int 9))))])]))]⟩
def f__law_rules (i__law_condition i__law_users : Nat) : Fn := ⟨3, 13,
  [(.new 3 (.lst [])),
  (.for_ (.v 4) (.range1 (.var 2)) [(.asg (.v 5) (.slc (.var 0) [(.bin .mul (.lit (D.int 36)) (.var 4))] [(.bin .add (.bin .mul (.lit (D.int 36)) (.var 4)) (.lit (D.int 36)))])),
  (.asg (.v 6) (.idx (.lst [(.lit (D.str "read")), (.lit (D.str "read")), (.lit (D.str "put")), (.lit (D.str "drop"))]) (.bin .mod (.idx (.var 5) (.lit (D.int 0))) (.lit (D.int 4))))),
  (.asg (.v 7) (.idx (.lst [(.lit (D.str "let")), (.lit (D.str "let")), (.lit (D.str "must"))]) (.bin .mod (.idx (.var 5) (.lit (D.int 1))) (.lit (D.int 3))))),
  (.asg (.v 8) (.idx (.var 1) (.bin .mod (.idx (.var 5) (.lit (D.int 2))) (.bi .len [(.var 1)])))),
  (.asg (.v 9) (.lc (.v 12) (.of (.idx (.var 8) (.lit (D.int 2)))) [] (.idx (.var 12) (.lit (D.int 0))))),
  (.asg (.v 10) (.call i__law_condition [(.slc (.var 5) [(.lit (D.int 12))] []), (.bin .add (.lit (D.int 1)) (.bin .mod (.idx (.var 5) (.lit (D.int 3))) (.lit (D.int 4)))), (.var 1), (.var 9), (.lit (D.str "mh"))])),
  (.ife (.and (.cmp .eq (.bin .mod (.idx (.var 5) (.lit (D.int 4))) (.lit (D.int 4))) (.lit (D.int 0))) (.cmp .eq (.var 7) (.lit (D.str "let")))) [(.asg (.v 10) (.tup [(.lit (D.str "yes"))]))] []),
  (.asg (.v 11) (.tup [(.var 6), (.var 7), (.idx (.var 8) (.lit (D.int 0))), (.call i__law_users [(.slc (.var 5) [(.lit (D.int 5))] [])]), (.var 10)])),
  (.ife (.cmp .notin (.var 11) (.var 3)) [(.app 3 (.var 11))] [])]),
  (.ret (.var 3))]⟩
def f__law_cells (i__law_cell_at : Nat) : Fn := ⟨3, 4,
  [(.ret (.lc (.v 3) (.range1 (.var 2)) [] (.call i__law_cell_at [(.var 0), (.bin .add (.var 1) (.var 3))])))]⟩
def f__law_rule_setting (i__law_ground i__law_draws i__law_rules : Nat) : Fn := ⟨3, 5,
  [(.asg (.v 3) (.call i__law_ground [(.call i__law_draws [(.bin .add (.idx (.var 0) (.lit (D.int 0))) (.lit (D.int 1))), (.lit (D.int 150)), (.lit (D.int 1000))]), (.var 1)])),
  (.asg (.v 4) (.call i__law_draws [(.bin .add (.idx (.var 0) (.lit (D.int 1))) (.lit (D.int 2))), (.bin .add (.bin .mul (.lit (D.int 36)) (.var 2)) (.lit (D.int 1))), (.lit (D.int 1000))])),
  (.ret (.tup [(.var 3), (.call i__law_rules [(.slc (.var 4) [(.lit (D.int 1))] []), (.var 3), (.bin .mod (.idx (.var 4) (.lit (D.int 0))) (.bin .add (.var 2) (.lit (D.int 1))))]), (.lst [])]))]⟩
def cellV (ns : List Int) (j : Int) : Int := if j < ns.length then sget ns j.toNat else 0
theorem cell_val {T : List Fn} {i : Nat} (hT : T[i]? = some f__law_cell_at) (n : Nat) (ns : List Int) {j : Int} (hj : 0 ≤ j) (S : St') : RP (FT T (n + 1) i [.t (.lst (ns.map .int)), .t (.int j)] S) (Is S (.int (cellV ns j))) noE := by
  refine rp_fn hT rfl rfl ?_
  simp only [f__law_cell_at, pad]
  exists 1
  · have hl : j < ns.length := by have := of_decide_eq_true h; rwa [List.length_map] at this
    have a1 := at_int (ss := ns) (j := j.toNat) (by omega)
    rw [Int.toNat_of_nonneg hj] at a1
    rw [cellV, if_pos hl]
    exists 1, a1
  · have hl : ¬ j < ns.length := by have := of_decide_eq_false h; rwa [List.length_map] at this
    rw [cellV, if_neg hl]
theorem cells_ok {T : List Fn} {i iA : Nat} (hT : T[i]? = some (f__law_cells iA)) (hA : T[iA]? = some f__law_cell_at) (n : Nat) (ns : List Int) {j : Int} (hj : 0 ≤ j) (S : St') : RP (FT T (n + 2) i [.t (.lst (ns.map .int)), .t (.int j), .t (.int 2)] S) (fun v S' => S' = S ∧ ∃ a b : Int, v = .t (.lst [.int a, .int b])) noE := by
  refine rp_fn hT rfl rfl ?_
  simp only [f__law_cells, pad]
  exists 1
  have e := rangeD0 2
  rw [show rangeD 0 2 = (List.range 2).map fun k : Nat => D.int (k : Int) from e]
  refine rp_lcM (ys := List.range 2) (fun k : Nat => D.int (k : Int)) (fun k => .int (cellV ns (j + (k : Int)))) (by simp) (fun k hk acc => ?_) ?_
  · refine ⟨_, rfl, ?_⟩
    exists 1
    exact RP.of_no (cell_val hA n ns (by omega) _) fun v S1 ⟨e1, e2⟩ => ⟨e2, e1⟩
  · exists 1
    exact ⟨_, _, rfl⟩
theorem cutL_le {α : Type} (xs : List α) (l h : Option Int) : (cutL xs l h).length ≤ xs.length := by
  unfold cutL; rw [List.length_take, List.length_drop]; omega
structure Ru where
  verb : Str
  kind : Str
  tab : Str
  us : List Int
  c : Cd
def ruD (r : Ru) : D := .tup [.str r.verb, .str r.kind, .str r.tab, .tup (r.us.map .int), cdD r.c]
structure RuOk (ts : List Tab) (r : Ru) : Prop where
  verb : r.verb ∈ (["read", "put", "drop"] : List Str)
  kind : r.kind ∈ (["let", "must"] : List Str)
  tab : ∃ t ∈ ts, r.tab = t.name ∧ WfC ts (colNames t) r.c
  us : r.us.length ≤ 10
  hc : hC r.c ≤ 4
  lo : lou r.c ≤ 100
/-! ### how data is laid -/
theorem ok_cd {ts : List Tab} (hts : ∀ t ∈ ts, TabOk t) : ∀ (c : Cd) (cols : List Str), (∀ x ∈ cols, NameOk x) → WfC ts cols c → Ok (hC c) (cdD c)
  | .yes, cols, hn, h => .tup (k := 0) fun x hx => by
    simp only [List.mem_cons, List.not_mem_nil, or_false] at hx; subst hx; exact .str (by decide +kernel)
  | .is a v, cols, hn, h => .tup (k := 0) fun x hx => by
    simp only [List.mem_cons, List.not_mem_nil, or_false] at hx
    rcases hx with rfl | rfl | rfl
    · exact .str (by decide +kernel)
    · exact .str (hn _ h.1).let_.ok
    · exact .int _
  | .lt a v, cols, hn, h => .tup (k := 0) fun x hx => by
    simp only [List.mem_cons, List.not_mem_nil, or_false] at hx
    rcases hx with rfl | rfl | rfl
    · exact .str (by decide +kernel)
    · exact .str (hn _ h.1).let_.ok
    · exact .int _
  | .same a b, cols, hn, h => .tup (k := 0) fun x hx => by
    simp only [List.mem_cons, List.not_mem_nil, or_false] at hx
    rcases hx with rfl | rfl | rfl
    · exact .str (by decide +kernel)
    · exact .str (hn _ h.1).let_.ok
    · exact .str (hn _ h.2).let_.ok
  | .mine a, cols, hn, h => .tup (k := 0) fun x hx => by
    simp only [List.mem_cons, List.not_mem_nil, or_false] at hx
    rcases hx with rfl | rfl
    · exact .str (by decide +kernel)
    · exact .str (hn _ h).let_.ok
  | .empty a, cols, hn, h => .tup (k := 0) fun x hx => by
    simp only [List.mem_cons, List.not_mem_nil, or_false] at hx
    rcases hx with rfl | rfl
    · exact .str (by decide +kernel)
    · exact .str (hn _ h).let_.ok
  | .loud a, cols, hn, h => .tup (k := 0) fun x hx => by
    simp only [List.mem_cons, List.not_mem_nil, or_false] at hx
    rcases hx with rfl | rfl
    · exact .str (by decide +kernel)
    · exact .str (hn _ h).let_.ok
  | .not a, cols, hn, h => .tup fun x hx => by
    simp only [List.mem_cons, List.not_mem_nil, or_false] at hx
    rcases hx with rfl | rfl
    · exact .str (by decide +kernel)
    · exact ok_cd hts a cols hn h
  | .and a b, cols, hn, h => .tup fun x hx => by
    simp only [List.mem_cons, List.not_mem_nil, or_false] at hx
    rcases hx with rfl | rfl | rfl
    · exact .str (by decide +kernel)
    · exact (ok_cd hts a cols hn h.1).mono (by omega)
    · exact (ok_cd hts b cols hn h.2).mono (by omega)
  | .or a b, cols, hn, h => .tup fun x hx => by
    simp only [List.mem_cons, List.not_mem_nil, or_false] at hx
    rcases hx with rfl | rfl | rfl
    · exact .str (by decide +kernel)
    · exact (ok_cd hts a cols hn h.1).mono (by omega)
    · exact (ok_cd hts b cols hn h.2).mono (by omega)
  | .has t a b c, cols, hn, h => .tup fun x hx => by
    obtain ⟨tb, htb, rfl, h1, h2, h3⟩ := h
    have nc := tab_colsD (hts tb htb)
    simp only [List.mem_cons, List.not_mem_nil, or_false] at hx
    rcases hx with rfl | rfl | rfl | rfl | rfl
    · exact .str (by decide +kernel)
    · exact .str (hts tb htb).name.let_.ok
    · exact .str (hn _ h1).let_.ok
    · exact .str (nc.name _ h2).let_.ok
    · exact ok_cd hts c _ nc.name h3
theorem ok_ints (ns : List Int) : Ok 1 (.tup (ns.map .int)) := Ok.rowD ns
theorem lit_ok : ∀ w ∈ (["read", "put", "drop", "let", "must"] : List Str), PyData.strOk w = true := by decide +kernel
theorem ok_ru {ts : List Tab} (hts : ∀ t ∈ ts, TabOk t) {r : Ru} (h : RuOk ts r) : Ok 5 (ruD r) := .tup fun x hx => by
  obtain ⟨t, ht, e1, e2⟩ := h.tab
  simp only [List.mem_cons, List.not_mem_nil, or_false] at hx
  rcases hx with rfl | rfl | rfl | rfl | rfl
  · refine .str (lit_ok _ ?_)
    have := h.verb
    simp only [List.mem_cons, List.not_mem_nil, or_false] at this ⊢
    rcases this with z | z | z <;> simp [z]
  · refine .str (lit_ok _ ?_)
    have := h.kind
    simp only [List.mem_cons, List.not_mem_nil, or_false] at this ⊢
    rcases this with z | z <;> simp [z]
  · rw [e1]; exact .str (hts t ht).name.let_.ok
  · exact (ok_ints _).mono (by omega)
  · exact (ok_cd hts r.c _ (tab_colsD (hts t ht)).name e2).mono (by have := h.hc; omega)
/-! ### two by two comparable -/
def PP (x y : PyData) : Prop := cok x y = true ∧ (PyData.eqv x y = true → PySem.W.alike x y = true)
def PPs (xs ys : List PyData) : Prop := coks xs ys = true ∧ (PyData.eqvAll xs ys = true → PySem.W.alikeAll xs ys = true)
theorem PPs.nil : PPs [] [] := ⟨(by rw [coks]; intro _ _ _ _ z; cases z), (fun _ => by rw [PySem.W.alikeAll])⟩
theorem PPs.nl (ys : List PyData) : PPs [] ys := ⟨(by rw [coks]; intro _ _ _ _ z; cases z), (fun _ => by rw [PySem.W.alikeAll])⟩
theorem PPs.nr (x : PyData) (xs : List PyData) : PPs (x :: xs) [] := ⟨(by rw [coks]; intro _ _ _ _ _ z; cases z), (fun _ => by rw [PySem.W.alikeAll])⟩
theorem PPs.cons {x y : PyData} {xs ys : List PyData} (h : PP x y) (hs : PPs xs ys) : PPs (x :: xs) (y :: ys) := by
  refine ⟨?_, fun e => ?_⟩
  · rw [coks]
    split
    · rename_i e
      rw [h.2 e, hs.1]; rfl
    · exact h.1
  · rw [PySem.W.eqv_all_cons, Bool.and_eq_true] at e
    rw [PySem.W.alikeAll, h.2 e.1, hs.2 e.2]; rfl
theorem PP.str (a b : Str) : PP (.str a) (.str b) := ⟨by rw [cok], fun _ => by rw [PySem.W.alike]⟩
theorem PP.int (a b : Int) : PP (.int a) (.int b) := ⟨by rw [cok], fun _ => by rw [PySem.W.alike]⟩
theorem PP.tup {xs ys : List PyData} (h : PPs xs ys) : PP (.tuple xs) (.tuple ys) := ⟨by rw [cok]; exact h.1, fun e => by rw [PySem.W.alike]; exact h.2 (by simpa only [PyData.eqv] using e)⟩
theorem PPs.word {w w' : Str} {xs ys : List PyData} (h : w = w' → PPs xs ys) : PPs (.str w :: xs) (.str w' :: ys) := by
  by_cases e : w = w'
  · exact .cons (.str _ _) (h e)
  · have hn : PyData.eqv (.str w) (.str w') = false := by
      simp only [PyData.eqv, beq_eq_false_iff_ne]
      exact e
    refine ⟨?_, fun z => ?_⟩
    · rw [coks, if_neg (by rw [hn]; decide), cok]
    · rw [PySem.W.eqv_all_cons, hn] at z; cases z
theorem pp_ints : ∀ ns ms : List Int, PPs (toPys (ns.map .int)) (toPys (ms.map .int))
  | [], ms => .nl _
  | n :: ns, [] => .nr _ _
  | n :: ns, m :: ms => .cons (.int _ _) (pp_ints ns ms)
theorem pp_cd : ∀ c c' : Cd, PP (toPy (cdD c)) (toPy (cdD c')) := by
  intro c
  induction c with
  | yes => intro c'; cases c' <;> (refine PP.tup (PPs.word fun z => ?_); first | exact absurd z (by decide +kernel) | exact .nil)
  | is a v => intro c'; cases c' <;> (refine PP.tup (PPs.word fun z => ?_); first | exact absurd z (by decide +kernel) | exact .cons (.str _ _) (.cons (.int _ _) .nil))
  | lt a v => intro c'; cases c' <;> (refine PP.tup (PPs.word fun z => ?_); first | exact absurd z (by decide +kernel) | exact .cons (.str _ _) (.cons (.int _ _) .nil))
  | same a b => intro c'; cases c' <;> (refine PP.tup (PPs.word fun z => ?_); first | exact absurd z (by decide +kernel) | exact .cons (.str _ _) (.cons (.str _ _) .nil))
  | mine a => intro c'; cases c' <;> (refine PP.tup (PPs.word fun z => ?_); first | exact absurd z (by decide +kernel) | exact .cons (.str _ _) .nil)
  | empty a => intro c'; cases c' <;> (refine PP.tup (PPs.word fun z => ?_); first | exact absurd z (by decide +kernel) | exact .cons (.str _ _) .nil)
  | loud a => intro c'; cases c' <;> (refine PP.tup (PPs.word fun z => ?_); first | exact absurd z (by decide +kernel) | exact .cons (.str _ _) .nil)
  | not a iha => intro c'; cases c' <;> (refine PP.tup (PPs.word fun z => ?_); first | exact absurd z (by decide +kernel) | exact .cons (iha _) .nil)
  | and a b iha ihb => intro c'; cases c' <;> (refine PP.tup (PPs.word fun z => ?_); first | exact absurd z (by decide +kernel) | exact .cons (iha _) (.cons (ihb _) .nil))
  | or a b iha ihb => intro c'; cases c' <;> (refine PP.tup (PPs.word fun z => ?_); first | exact absurd z (by decide +kernel) | exact .cons (iha _) (.cons (ihb _) .nil))
  | has t a b c ih => intro c'; cases c' <;> (refine PP.tup (PPs.word fun z => ?_); first | exact absurd z (by decide +kernel) | exact .cons (.str _ _) (.cons (.str _ _) (.cons (.str _ _) (.cons (ih _) .nil))))
theorem pp_ru (r r' : Ru) : PP (toPy (ruD r)) (toPy (ruD r')) := .tup (.cons (.str _ _) (.cons (.str _ _) (.cons (.str _ _) (.cons (.tup (pp_ints _ _)) (.cons (pp_cd _ _) .nil)))))
theorem sort_rules {ts : List Tab} (hts : ∀ t ∈ ts, TabOk t) {rs : List Ru} (h : ∀ r ∈ rs, RuOk ts r) (hl : rs.length ≤ 1000) : biD .sorted [.lst (rs.map ruD)] = some (.lst ((rs.mergeSort fun a b => dle (ruD a) (ruD b)).map ruD)) := by
  have h1 : sortC (rs.map ruD) = true := by
    unfold sortC
    simp only [Bool.and_eq_true, List.all_eq_true, decide_eq_true_eq, List.mem_map]
    refine ⟨⟨⟨⟨?_, ?_⟩, ?_⟩, ?_⟩, by rw [List.length_map]; exact le_sz' (by omega)⟩
    · rintro _ ⟨r, hr, rfl⟩ _ ⟨r', hr', rfl⟩
      exact (pp_ru r r').1
    · rintro _ ⟨r, hr, rfl⟩
      exact (ok_ru hts (h r hr)).1
    · rintro _ ⟨r, hr, rfl⟩
      have := (ok_ru hts (h r hr)).2
      omega
    · rintro _ ⟨r, hr, rfl⟩
      rfl
  simp only [biD, h1, Bool.or_true, if_true]
  rw [← List.map_mergeSort (r := fun a b => dle (ruD a) (ruD b)) (s := dle) (f := ruD) fun a _ b _ => rfl]
/-! ### drawn -/
theorem users_ok {T : List Fn} {i : Nat} (hT : T[i]? = some f__law_users) (n : Nat) {ps : List Int} (hl : 6 ≤ ps.length) (hl2 : ps.length ≤ 60) (hb : ∀ x ∈ ps, 0 ≤ x ∧ x < 1000) (S : St') : RP (FT T (n + 1) i [.t (.lst (ps.map .int))] S) (fun v S' => S' = S ∧ ∃ us : List Int, v = .t (.tup (us.map .int)) ∧ us.length ≤ 10) noE := by
  refine rp_fn hT rfl rfl ?_
  simp only [f__law_users, pad]
  have g0 : idxD (.lst (ps.map .int)) (.int 0) = some (.int (sget ps 0)) := at_int (j := 0) (by omega)
  have b0 := hb _ (sget_mem (ss := ps) (j := 0) (by omega))
  generalize sget ps 0 = z at *
  have m1 : binD .mod (.int z) (.int 2) = some (.int (z % 2)) := by
    simp only [binD]; rw [if_pos (by omega)]
  have m2 : binD .fdiv (.int z) (.int 2) = some (.int (z / 2)) := by
    simp only [binD]; rw [if_pos (by omega)]
  have m3 : binD .mod (.int (z / 2)) (.int 4) = some (.int (z / 2 % 4)) := by
    simp only [binD]; rw [if_pos (by omega)]
  have s1 := slc_ints ps (some 1) (some (2 + z / 2 % 4))
  have hc := cutL_le ps (some 1) (some (2 + z / 2 % 4))
  have hq0 : 0 ≤ z / 2 % 4 ∧ z / 2 % 4 < 4 := ⟨Int.emod_nonneg _ (by omega), Int.emod_lt_of_pos _ (by omega)⟩
  have hcl := cutL_len (xs := ps) (a := 1) (b := 2 + z / 2 % 4) (by omega) (by omega) (by omega)
  generalize cutL ps (some 1) (some (2 + z / 2 % 4)) = qs at *
  have c0 : cmpD .eq (.int (z % 2)) (.int 0) = some (decide (z % 2 = 0)) := by
    simp only [cmpD, scalD, Bool.true_or, if_true, deq]
    by_cases h : z % 2 = 0 <;> simp [h]
  generalize decide (z % 2 = 0) = b1 at c0
  cases b1 with
  | true =>
    exists 1, g0, m1, no_index (⟨_, c0, _, rfl, fun h => ?_, fun h => (t_f h).elim⟩)
    exact ⟨[], rfl, by simp⟩
  | false =>
    exists 1, g0, m1, m2, m3, s1, no_index (⟨_, c0, _, rfl, fun h => (f_t h).elim, fun h => ?_⟩)
    refine rp_lcM (ys := qs) D.int (fun q => .int (q % 9)) (by omega) (fun q hq acc => ?_) ?_
    · refine ⟨_, rfl, ?_⟩
      exists 1
    · have es : sortsetiD (.lst (qs.map fun q => D.int (q % 9))) = some (.lst (((dset (qs.map fun q => q % 9)).mergeSort fun a b => decide (a ≤ b)).map D.int)) := by
        rw [show (qs.map fun q => D.int (q % 9)) = (qs.map fun q => q % 9).map D.int by rw [List.map_map]; rfl]
        simp only [sortsetiD, sqOf, Option.bind_some, ints_k]
        rw [if_pos (by simp; omega)]
      have hdl := dset_le _ (qs.map fun q => q % 9) rfl
      exists 1, es
      rw [List.length_mergeSort]
      simp at hdl
      omega
def yesS : MS := (.ife (.and (.cmp .eq (.bin .mod (.idx (.var 5) (.lit (D.int 4))) (.lit (D.int 4))) (.lit (D.int 0))) (.cmp .eq (.var 7) (.lit (D.str "let")))) [(.asg (.v 10) (.tup [(.lit (D.str "yes"))]))] [])
theorem yes_ok {F : FS} {v0 v1 v2 v3 v4 v6 v8 v9 v11 v12 : Option SV} {ss : List Int} {kd : Str} {cc : Cd} {S : St'} {nx bk ct : NX} {P : Po} (hl : 5 ≤ ss.length) (h : ∀ d : Cd, d = cc ∨ d = .yes → nx [v0, v1, v2, v3, v4, some (.t (.lst (ss.map .int))), v6, some (.t (.str kd)), v8, v9, some (.t (cdD d)), v11, v12] S) :
    OP (execS F yesS [v0, v1, v2, v3, v4, some (.t (.lst (ss.map .int))), v6, some (.t (.str kd)), v8, v9, some (.t (cdD cc)), v11, v12] S) nx bk ct P := by
  have hnx := h
  have g4 : idxD (.lst (ss.map .int)) (.int 4) = some (.int (sget ss 4)) := at_int (j := 4) (by omega)
  generalize sget ss 4 = z at *
  have m1 : binD .mod (.int z) (.int 4) = some (.int (z % 4)) := by
    simp only [binD]; rw [if_pos (by omega)]
  obtain ⟨b1, c1⟩ : ∃ b1, cmpD .eq (.int (z % 4)) (.int 0) = some b1 := ⟨deq (.int (z % 4)) (.int 0), by simp only [cmpD, scalD, Bool.true_or, if_true]⟩
  obtain ⟨b2, -, c2⟩ := eq_sb kd "let"
  unfold yesS
  exists 1, g4, m1, no_index (⟨_, c1, _, rfl, fun h => ?_, fun h => ?_⟩), no_index (⟨_, c2, _, rfl, fun h => ?_, fun h => ?_⟩)
  · exact hnx .yes (.inr rfl)
  · exact hnx _ (.inl rfl)
  · exact hnx _ (.inl rfl)
theorem str_at {xs : List Str} {z : Int} (h0 : 0 ≤ z) (h1 : z < xs.length) : ∃ w ∈ xs, idxD (.lst (xs.map .str)) (.int z) = some (.str w) := by
  obtain ⟨k, rfl⟩ := Int.eq_ofNat_of_zero_le h0
  have hk : k < xs.length := by omega
  exact ⟨xs[k], List.getElem_mem hk, L2.atI_nat (by rw [List.getElem?_map, List.getElem?_eq_getElem hk]; rfl)⟩
theorem rules_ok {T : List Fn} {i iC iU iA : Nat} (hT : T[i]? = some (f__law_rules iC iU)) (hCo : T[iC]? = some (f__law_condition iA iC)) (hA : T[iA]? = some f__law_atom) (hU : T[iU]? = some f__law_users) {ts : List Tab} (hts : ∀ t ∈ ts, TabOk t) (h1 : 1 ≤ ts.length) (n : Nat) {ps : List Int} {many : Int} (hm0 : 0 ≤ many) (hm : many ≤ 10) (hl : 36 * many ≤ ps.length) (hb : ∀ x ∈ ps, 0 ≤ x ∧ x < 1000) (S : St') :
    RP (FT T (n + 6) i [.t (.lst (ps.map .int)), .t (.tup (ts.map tabD)), .t (.int many)] S) (fun v S' => S' = S ∧ ∃ rs : List Ru, v = .t (.lst (rs.map ruD)) ∧ ((rs.length : Int) ≤ many ∧ (0 < many → rs ≠ [])) ∧ ∀ r ∈ rs, RuOk ts r) noE := by
  refine rp_fn (n := n + 5) hT rfl rfl ?_
  simp only [f__law_rules, pad]
  exists 1
  refine op_range hm0 (fun J ρ S' => ∃ (rs : List Ru) (k4 k5 k6 k7 k8 k9 k10 k11 k12 : Option SV), ρ = [some (.t (.lst (ps.map .int))), some (.t (.tup (ts.map tabD))), some (.t (.int many)), some (.o S.length), k4, k5, k6, k7, k8, k9, k10, k11, k12] ∧ S' = S ++ [.lst (rs.map ruD)] ∧ ((rs.length : Int) ≤ J ∧ (0 < J → rs ≠ [])) ∧ ∀ r ∈ rs, RuOk ts r) ⟨[], _, _, _, _, _, _, _, _, _, rfl, rfl, ⟨by simp, fun h => absurd h (by omega)⟩, by simp⟩ ?_ ?_
  · rintro J ρ S' hJ0 hJ1 ⟨rs, k4, k5, k6, k7, k8, k9, k10, k11, k12, rfl, rfl, ⟨hrl, hrn⟩, hrs⟩
    have m1 : binD .mul (.int 36) (.int J) = some (.int (36 * J)) := by
      simp only [binD]; rw [if_pos (by left; decide)]
    have s1 := slc_ints ps (some (36 * J)) (some (36 * J + 36))
    have el := cutL_len (xs := ps) (a := 36 * J) (b := 36 * J + 36) (by omega) (by omega) (by omega)
    have hbs : ∀ x ∈ cutL ps (some (36 * J)) (some (36 * J + 36)), 0 ≤ x ∧ x < 1000 := fun x hx => hb x (cutL_mem hx)
    generalize cutL ps (some (36 * J)) (some (36 * J + 36)) = ss at *
    have hsl : ss.length = 36 := by omega
    have g0 : idxD (.lst (ss.map .int)) (.int 0) = some (.int (sget ss 0)) := at_int (j := 0) (by omega)
    have g1 : idxD (.lst (ss.map .int)) (.int 1) = some (.int (sget ss 1)) := at_int (j := 1) (by omega)
    have g2 : idxD (.lst (ss.map .int)) (.int 2) = some (.int (sget ss 2)) := at_int (j := 2) (by omega)
    have g3 : idxD (.lst (ss.map .int)) (.int 3) = some (.int (sget ss 3)) := at_int (j := 3) (by omega)
    have md : ∀ (z c : Int), 0 < c → binD .mod (.int z) (.int c) = some (.int (z % c)) := fun z c hc => by
      simp only [binD]; rw [if_pos hc]
    obtain ⟨vb, hvb, e6⟩ := str_at (xs := ["read", "read", "put", "drop"]) (z := sget ss 0 % 4) (Int.emod_nonneg _ (by omega)) (Int.emod_lt_of_pos _ (by decide))
    obtain ⟨kd, hkd, e7⟩ := str_at (xs := ["let", "let", "must"]) (z := sget ss 1 % 3) (Int.emod_nonneg _ (by omega)) (Int.emod_lt_of_pos _ (by decide))
    obtain ⟨t, ht, et⟩ := tab_at h1 (sget ss 2)
    have hlt := len_tab ts
    have tok := hts t ht
    have mT : binD .mod (.int (sget ss 2)) (.int (ts.length : Nat)) = some (.int (sget ss 2 % (ts.length : Nat))) := mod_ok h1
    have t0 : idxD (tabD t) (.int 0) = some (.str t.name) := at0 _ _
    have t2 : idxD (tabD t) (.int 2) = some (.tup (t.cols.map colD)) := at2 _ _ _ _
    have ncD := tab_colsD tok
    have m0 := md (sget ss 0) 4 (by omega)
    have m1' := md (sget ss 1) 3 (by omega)
    have m3 := md (sget ss 3) 4 (by omega)
    have hp0 : 0 ≤ sget ss 3 % 4 ∧ sget ss 3 % 4 < 4 := ⟨Int.emod_nonneg _ (by omega), Int.emod_lt_of_pos _ (by omega)⟩
    obtain ⟨p, hp⟩ : ∃ p : Nat, sget ss 3 % 4 = (p : Int) := ⟨_, (Int.toNat_of_nonneg hp0.1).symm⟩
    rw [hp] at m3 hp0
    have a3 : binD .add (.int 1) (.int (p : Int)) = some (.int ((p + 1 : Nat) : Int)) := by
      simp only [binD]; congr 2; omega
    have s12 : slcD (.lst (ss.map .int)) (some 12) none = some (.lst ((ss.drop 12).map .int)) := ints_of (by omega)
    have s5 : slcD (.lst (ss.map .int)) (some 5) none = some (.lst ((ss.drop 5).map .int)) := ints_of (by omega)
    generalize sget ss 0 % 4 = z0 at *
    generalize sget ss 1 % 3 = z1 at *
    generalize sget ss 2 % (ts.length : Nat) = z2 at *
    refine ⟨_, rfl, ?_⟩
    exists 1, m1, s1, g0, m0, e6, g1, m1', e7, g2, hlt, mT, et, t2
    refine rp_lcM (ys := t.cols) colD (fun c => .str c.name) (by have := tok.len4; omega) (fun c hc acc => ?_) ?_
    · refine ⟨_, rfl, ?_⟩
      exists 1, col_at0 (colB_colD (tok.cols.each c hc))
    · have en : (t.cols.map fun c => D.str c.name) = (colNames t).map .str := by unfold colNames; rw [List.map_map]; rfl
      rw [en]
      exists 1, s12, g3, m3, a3
      have hcd := lcondC_ok hCo hA hts h1 (p + 1) (p + 1) (by omega) (by omega) (by omega) (n + 5 - (p + 1) - 1) (ss.drop 12) (by rw [List.length_drop]; omega) _ _ ncD "mh" (by decide +kernel) (S ++ [.lst (rs.map ruD)])
      rw [show n + 5 - (p + 1) - 1 + (p + 1) + 1 = n + 5 by omega] at hcd
      refine RP.of_no hcd fun v S1 ⟨e1, cd, e2, cc, hcd, hwf, hhc, hlo, _⟩ => ?_
      subst e1; subst e2; subst hcd
      refine op_norm (by simp only [List.set_cons_succ, List.set_cons_zero]; rfl) (op_cons (yes_ok (by omega) fun c2 hc2 => ?_))
      have hc2w : WfC ts (colNames t) c2 ∧ hC c2 ≤ 4 ∧ lou c2 ≤ 100 := by
        rcases hc2 with rfl | rfl
        · refine ⟨hwf, by have := hhc; omega, Nat.le_trans hlo ?_⟩
          unfold mostL
          split <;> omega
        · exact ⟨trivial, by decide, by decide⟩
      exists 1, t0, s5
      refine RP.of_no (users_ok hU (n + 4) (ps := ss.drop 5) (by rw [List.length_drop]; omega) (by rw [List.length_drop]; omega) (fun x hx => hbs x (List.mem_of_mem_drop hx)) _) fun v S1 ⟨e1, us, e2, hus⟩ => ?_
      subst e1; subst e2
      have hrule : RuOk ts ⟨vb, kd, t.name, us, c2⟩ := ⟨by
        simp only [List.mem_cons, List.not_mem_nil, or_false] at hvb ⊢
        rcases hvb with z | z | z | z <;> simp [z], by
        simp only [List.mem_cons, List.not_mem_nil, or_false] at hkd ⊢
        rcases hkd with z | z | z <;> simp [z], ⟨t, ht, rfl, hc2w.1⟩, hus, hc2w.2.1, hc2w.2.2⟩
      have o1 : okD (ruD ⟨vb, kd, t.name, us, c2⟩) = true := (ok_ru hts hrule).okD (by omega)
      have o2 : okD (.lst (rs.map ruD)) = true := (Ok.lst (k := 5) fun x hx => by
        obtain ⟨r, hr, rfl⟩ := List.mem_map.mp hx
        exact ok_ru hts (hrs r hr)).okD (by omega)
      obtain ⟨b9, c9, hb9⟩ : ∃ b9, cmp2' .notin (S ++ [.lst (rs.map ruD)]) (.t (ruD ⟨vb, kd, t.name, us, c2⟩)) (.o S.length) = some b9 ∧ (rs = [] → b9 = true) := by
        refine ⟨!((rs.map ruD).any fun z => deq z (ruD ⟨vb, kd, t.name, us, c2⟩)), ?_, fun e => by rw [e]; rfl⟩
        simp only [cmp2', peek, st_get, Option.bind_some, cmpD, inD, o1, o2, Bool.and_self, if_true, Option.map_some]
      exists 1, no_index (⟨_, c9, _, rfl, fun h => ?_, fun h => ?_⟩)
      · refine ⟨rs ++ [⟨vb, kd, t.name, us, c2⟩], _, _, _, _, _, _, _, _, _, rfl, by rw [List.map_append]; rfl, ⟨by rw [List.length_append]; simp; omega, fun _ => by simp⟩, fun r hr => ?_⟩
        rcases List.mem_append.mp hr with z | z
        · exact hrs r z
        · rw [List.mem_singleton.mp z]; exact hrule
      · exact ⟨rs, _, _, _, _, _, _, _, _, _, rfl, rfl, ⟨by omega, fun _ e => by rw [hb9 e] at h; cases h⟩, hrs⟩
  · rintro ρ S' ⟨rs, k4, k5, k6, k7, k8, k9, k10, k11, k12, rfl, rfl, hrl, hrs⟩
    exists 1
    exact ⟨hrl, hrs⟩
theorem rule_setting_ok {T : List Fn} {i iG iD iR iCl iN iC iU iA : Nat} (hT : T[i]? = some (f__law_rule_setting iG iD iR)) (hG : T[iG]? = some (f__law_ground iCl iN)) (hCl : T[iCl]? = some (f__law_columns iN)) (hN : T[iN]? = some f__law_name) (hD : T[iD]? = some f__law_draws) (hR : T[iR]? = some (f__law_rules iC iU)) (hCo : T[iC]? = some (f__law_condition iA iC)) (hA : T[iA]? = some f__law_atom) (hU : T[iU]? = some f__law_users)
    (n : Nat) (a b top : Int) (htop : 1 ≤ top ∧ top < 1073741824) (S : St') {mm : Int} (hmm : 0 ≤ mm ∧ mm ≤ 10) : RP (FT T (n + 7) i [.t (.lst [.int a, .int b]), .t (.int top), .t (.int mm)] S) (fun v S' => S' = S ∧ ∃ (ts : List Tab) (rs : List Ru), v = .t (.tup [.tup (ts.map tabD), .lst (rs.map ruD), .lst []]) ∧ GroundOk ts top ∧ (rs.length : Int) ≤ mm ∧ ∀ r ∈ rs, RuOk ts r) noE := by
  refine rp_fn (n := n + 6) hT rfl rfl ?_
  simp only [f__law_rule_setting, pad]
  have i0 : idxD (.lst [.int a, .int b]) (.int 0) = some (.int a) := at0 _ _
  have i1 : idxD (.lst [.int a, .int b]) (.int 1) = some (.int b) := at1 _ _ _
  exists 1, i0
  refine RP.of_no (draws_ok hD (n + 5) (a + 1) 150 1000 (by omega) (by omega) _) fun v S1 ⟨e1, ps, e2, hpl, hpb⟩ => ?_
  subst e1; subst e2
  have hpl : ps.length = 150 := hpl
  exists 1
  refine RP.of_no (ground_ok hG hCl hN (n + 3) ps top (by omega) hpb htop _) fun v S1 ⟨e1, us, e2, hus⟩ => ?_
  subst e1; subst e2
  have hg := sorted_ground hus
  generalize us.mergeSort tabLe = ts at hg
  have m1 : binD .mul (.int 36) (.int mm) = some (.int (36 * mm)) := by
    simp only [binD]; rw [if_pos (by left; decide)]
  exists 1, i1, m1
  refine RP.of_no (draws_ok hD (n + 5) (b + 2) (36 * mm + 1) 1000 (by omega) (by omega) _) fun v S1 ⟨e1, qs, e2, hql, hqb⟩ => ?_
  subst e1; subst e2
  have hql : (qs.length : Int) = 36 * mm + 1 := by rw [hql]; exact Int.toNat_of_nonneg (by omega)
  have s1 : slcD (.lst (qs.map .int)) (some 1) none = some (.lst ((qs.drop 1).map .int)) := ints_of (by omega)
  have g0 : idxD (.lst (qs.map .int)) (.int 0) = some (.int (sget qs 0)) := at_int (j := 0) (by omega)
  have m2 : binD .mod (.int (sget qs 0)) (.int (mm + 1)) = some (.int (sget qs 0 % (mm + 1))) := by
    simp only [binD]; rw [if_pos (by omega)]
  have hm0 := Int.emod_nonneg (sget qs 0) (b := mm + 1) (by omega)
  have hm1 := Int.emod_lt_of_pos (sget qs 0) (b := mm + 1) (by omega)
  generalize sget qs 0 % (mm + 1) = many at *
  exists 1, s1, g0, m2
  refine RP.of_no (rules_ok hR hCo hA hU hg.each hg.len1 n (ps := qs.drop 1) hm0 (by omega) (by rw [List.length_drop]; omega) (fun x hx => hqb x (List.mem_of_mem_drop hx)) _) fun v S1 ⟨e1, rs, e2, hrl, hrs⟩ => ?_
  subst e1; subst e2
  exists 1
  exact ⟨ts, rs, rfl, hg, by have := hrl.1; omega, hrs⟩
end M

/-! what a user may do to a row: the program's may and the law's own -/
namespace M
open PySem PySem.Spec PyProof.Rows L2
def f_is_for : Fn := ⟨2, 2,
  [(.ret (.or (.cmp .eq (.var 0) (.tup [])) (.cmp .isin (.var 1) (.var 0))))]⟩
def f_rules_for (i_is_for : Nat) : Fn := ⟨5, 6,
  [(.ret (.lc (.v 5) (.of (.bi .sorted [(.idx (.var 0) (.lit (D.int 1)))])) [(.and (.cmp .eq (.idx (.var 5) (.lit (D.int 0))) (.var 1)) (.and (.cmp .eq (.idx (.var 5) (.lit (D.int 1))) (.var 2)) (.and (.cmp .eq (.idx (.var 5) (.lit (D.int 2))) (.var 3)) (.call i_is_for [(.idx (.var 5) (.lit (D.int 3))), (.var 4)]))))] (.idx (.var 5) (.lit (D.int 4)))))]⟩
def f_every_scene (i_tables_of : Nat) : Fn := ⟨3, 4,
  [(.ret (.mk "Scene" ["tables", "user", "views", "every"] [(.call i_tables_of [(.idx (.var 0) (.lit (D.int 0))), (.var 1)]), (.var 2), (.dc (.v 3) (.of (.idx (.var 0) (.lit (D.int 2)))) [] (.idx (.var 3) (.lit (D.int 0))) (.var 3)), (.lit D.non)]))]⟩
def f_may (i_every_scene i_names_of i_rules_for i_look : Nat) : Fn := ⟨6, 11,
  [(.asg (.v 6) (.call i_every_scene [(.var 0), (.var 1), (.var 4)])),
  (.asg (.v 7) (.call i_names_of [(.var 3)])),
  (.asg (.v 8) (.call i_rules_for [(.var 0), (.var 2), (.lit (D.str "let")), (.idx (.var 3) (.lit (D.int 0))), (.var 4)])),
  (.asg (.v 9) (.call i_rules_for [(.var 0), (.var 2), (.lit (D.str "must")), (.idx (.var 3) (.lit (D.int 0))), (.var 4)])),
  (.ife (.not (.bi .any [(.lc (.v 10) (.of (.var 8)) [] (.cmp .is_ (.call i_look [(.var 6), (.var 7), (.var 5), (.var 10), .obT]) (.lit (D.bl true))))])) [(.ret (.lit (D.bl false)))] []),
  (.ret (.bi .all [(.lc (.v 10) (.of (.var 9)) [] (.cmp .is_ (.call i_look [(.var 6), (.var 7), (.var 5), (.var 10), .obT]) (.lit (D.bl true))))]))]⟩
def f_seen_world (i_may : Nat) : Fn := ⟨3, 6,
  [(.ret (.bi .tuple [(.lc (.tp [3, 4]) (.zip (.idx (.var 0) (.lit (D.int 0))) (.var 1)) [] (.bi .tuple [(.lc (.v 5) (.of (.var 4)) [(.call i_may [(.var 0), (.var 1), (.lit (D.str "read")), (.var 3), (.var 2), (.var 5)])] (.var 5))]))]))]⟩
def forU (u : Int) (r : Ru) : Bool := decide (r.us = []) || decide (u ∈ r.us)
def hit (v k t : Str) (u : Int) (r : Ru) : Bool := decide (r.verb = v) && (decide (r.kind = k) && (decide (r.tab = t) && forU u r))
def stD (ts : List Tab) (rs : List Ru) : D := .tup [.tup (ts.map tabD), .lst (rs.map ruD), .lst []]
theorem is_tru (r : Option Bool) : isD (oD r) (.bl true) = some (decide (r = some true)) := by rcases r with _ | (_ | _) <;> rfl
theorem eq_nil (ns : List Int) : cmpD .eq (.tup (ns.map .int)) (.tup []) = some (decide (ns = [])) := by
  have o1 : okD (.tup (ns.map .int)) = true := (ok_ints ns).okD (by omega)
  have o2 : okD (.tup []) = true := (ok_ints []).okD (by omega)
  show (if scalD (.tup (ns.map .int)) (.tup []) || (okD (.tup (ns.map .int)) && okD (.tup [])) then some (deq (.tup (ns.map .int)) (.tup [])) else none) = _
  rw [o1, o2]
  cases ns with
  | nil => rfl
  | cons n ns => rfl
theorem in_ints (u : Int) (ns : List Int) : cmpD .isin (.int u) (.tup (ns.map .int)) = some (decide (u ∈ ns)) := by
  have o1 : okD (.tup (ns.map .int)) = true := (ok_ints ns).okD (by omega)
  have o2 : okD (.int u) = true := (Ok.int (k := 0) u).okD (by omega)
  have e : ((ns.map D.int).any fun z => deq z (.int u)) = decide (u ∈ ns) := by
    rw [List.any_map, Bool.eq_iff_iff, List.any_eq_true, decide_eq_true_eq]
    constructor
    · rintro ⟨z, h1, h2⟩
      have : z = u := by simpa [deq] using h2
      exact this ▸ h1
    · exact fun h => ⟨u, h, by simp [deq]⟩
  show inD (.int u) (.tup (ns.map .int)) = _
  simp only [inD, o1, o2, Bool.and_self, if_true, e]
theorem is_for_ok {T : List Fn} {i : Nat} (hT : T[i]? = some f_is_for) (n : Nat) (r : Ru) (u : Int) (S : St') : RP (FT T (n + 1) i [.t (.tup (r.us.map .int)), .t (.int u)] S) (Is S (.bl (forU u r))) noE := by
  have e1 := eq_nil r.us
  have e2 := in_ints u r.us
  refine rp_fn hT rfl rfl ?_
  simp only [f_is_for, pad]
  unfold forU
  generalize decide (r.us = []) = b1 at *
  generalize decide (u ∈ r.us) = b2 at *
  exists 1, e2, no_index (⟨_, e1, _, rfl, fun h => ?_, fun h => ?_⟩)
  · rw [h]; rfl
  · rw [h]; rfl
section
variable {T : List Fn} {iR iI : Nat}
theorem rules_for_ok (hR : T[iR]? = some (f_rules_for iI)) (hI : T[iI]? = some f_is_for) (n : Nat) {ts : List Tab} (hts : ∀ t ∈ ts, TabOk t) {rs : List Ru} (h : ∀ r ∈ rs, RuOk ts r) (hl : rs.length ≤ 1000) (v k t : Str) (u : Int) (S : St') :
    RP (FT T (n + 2) iR [.t (stD ts rs), .t (.str v), .t (.str k), .t (.str t), .t (.int u)] S) (fun x S' => S' = S ∧ ∃ ss : List Ru, ss.Perm rs ∧ x = .t (.lst ((ss.filter (hit v k t u)).map fun r => cdD r.c))) noE := by
  have e1 : idxD (stD ts rs) (.int 1) = some (.lst (rs.map ruD)) := at1 _ _ _
  have es := sort_rules hts h hl
  have hp : (rs.mergeSort fun a b => dle (ruD a) (ruD b)).Perm rs := List.mergeSort_perm _ _
  generalize (rs.mergeSort fun a b => dle (ruD a) (ruD b)) = ss at es hp
  refine rp_fn hR rfl rfl ?_
  simp only [f_rules_for, pad]
  exists 1, e1, es
  refine rp_lcF (ys := ss) ruD (hit v k t u) (fun r => cdD r.c) (by rw [hp.length_eq]; omega) (fun r hr acc => ?_) ?_
  · have a0 : idxD (ruD r) (.int 0) = some (.str r.verb) := at0 _ _
    have a1 : idxD (ruD r) (.int 1) = some (.str r.kind) := at1 _ _ _
    have a2 : idxD (ruD r) (.int 2) = some (.str r.tab) := at2 _ _ _ _
    have a3 : idxD (ruD r) (.int 3) = some (.tup (r.us.map .int)) := L2.atI_nat (j := 3) rfl
    have a4 : idxD (ruD r) (.int 4) = some (cdD r.c) := L2.atI_nat (j := 4) rfl
    obtain ⟨b1, h1, x1⟩ : ∃ b, b = decide (r.verb = v) ∧ cmpD .eq (.str r.verb) (.str v) = some b := ⟨_, rfl, eq_ss _ _⟩
    obtain ⟨b2, h2, x2⟩ : ∃ b, b = decide (r.kind = k) ∧ cmpD .eq (.str r.kind) (.str k) = some b := ⟨_, rfl, eq_ss _ _⟩
    obtain ⟨b3, h3, x3⟩ : ∃ b, b = decide (r.tab = t) ∧ cmpD .eq (.str r.tab) (.str t) = some b := ⟨_, rfl, eq_ss _ _⟩
    have hh : hit v k t u r = (b1 && (b2 && (b3 && forU u r))) := by rw [hit, h1, h2, h3]
    refine ⟨_, rfl, ?_⟩
    have hfin : ∀ acc, RP (evalE (FT T (n + 1)) (.idx (.var 5) (.lit (D.int 4))) ([some (.t (stD ts rs)), some (.t (.str v)), some (.t (.str k)), some (.t (.str t)), some (.t (.int u)), none].set 5 (some (.t (ruD r)))) (S ++ [.lst acc])) (fun x S2 => x = .t (cdD r.c) ∧ S2 = S ++ [.lst acc]) noE := fun acc => by
      exists 1, a4
    exists 1, a0, a1, a2, a3, no_index (⟨_, x1, _, rfl, fun h => ?_, fun h => ?_⟩), no_index (⟨_, x2, _, rfl, fun h => ?_, fun h => ?_⟩), no_index (⟨_, x3, _, rfl, fun h => ?_, fun h => ?_⟩)
    · rename_i z1 z2
      refine RP.of_no (is_for_ok hI n r u _) fun w S1 ⟨y1, y2⟩ => ?_
      subst y1; subst y2
      refine ⟨_, rfl, ?_, rfl, fun _ => hfin _⟩
      rw [hh]
      simp_all
    all_goals
      first | refine ⟨_, rfl, ?_, rfl, fun _ => hfin _⟩ | refine ⟨?_, rfl, fun _ => hfin _⟩
      rw [hh]
      simp_all
  · exists 1
    exact ⟨ss, hp, rfl⟩
end
theorem nd_inj : ∀ {l : List Tab}, (l.map Tab.name).Nodup → ∀ a ∈ l, ∀ b ∈ l, a.name = b.name → a = b
  | [], _, a, ha, _, _, _ => by cases ha
  | t :: l, nd, a, ha, b, hb, e => by
    rw [List.map_cons, List.nodup_cons] at nd
    rcases List.mem_cons.mp ha with za | za
    · rcases List.mem_cons.mp hb with zb | zb
      · rw [za, zb]
      · exact absurd (List.mem_map.mpr ⟨b, zb, by rw [← e, za]⟩) nd.1
    · rcases List.mem_cons.mp hb with zb | zb
      · exact absurd (List.mem_map.mpr ⟨a, za, by rw [e, zb]⟩) nd.1
      · exact nd_inj nd.2 a za b zb e
theorem twNd {tw : Tw} (h : TwOk tw) : ∀ a ∈ tw.map (·.1), ∀ b ∈ tw.map (·.1), a.name = b.name → a = b := nd_inj (by
  have := h.nd
  rw [List.map_map]
  exact this)
def mayB (tw : Tw) (rs : List Ru) (v : Str) (t : Tab) (u : Int) (row : List Int) : Bool :=
  (rs.any fun r => hit v "let" t.name u r && decide ((lk tw u r.c (colNames t) row).1 = some true)) && (rs.all fun r => !hit v "must" t.name u r || decide ((lk tw u r.c (colNames t) row).1 = some true))
def seenT (tw : Tw) (rs : List Ru) (u : Int) (all : Tw := tw) : Tw := tw.map fun p => (p.1, p.2.filter (mayB all rs "read" p.1 u))
section
variable {T : List Fn} {iM iE iN iR iI iO iL iJ iH : Nat}
theorem every_ok (hE : T[iE]? = some (f_every_scene iO)) (hO : T[iO]? = some (f_tables_of iN)) (hN : T[iN]? = some f_names_of) (n : Nat) {tw : Tw} (htw : TwOk tw) (rs : List Ru) (u : Int) (S : St') :
    RP (FT T (n + 3) iE [.t (stD (tw.map (·.1)) rs), .t (wD tw), .t (.int u)] S) (fun v S' => v = scn (kvsP tw) u ∧ S' = S) noE := by
  have e0 : idxD (stD (tw.map (·.1)) rs) (.int 0) = some (.tup ((tw.map (·.1)).map tabD)) := at0 _ _
  have e2 : idxD (stD (tw.map (·.1)) rs) (.int 2) = some (.lst []) := at2 _ _ _ _
  refine rp_fn hE rfl rfl ?_
  simp only [f_every_scene, pad]
  exists 1, e0
  refine RP.of_no (tables_of_ok hO hN n htw _) fun v S1 ⟨z1, z2⟩ => ?_
  subst z1; subst z2
  exists 1, e2
  refine rp_dcM (α := Unit) (ys := []) (fun _ => D.non) (fun _ => .inl 0) (fun _ => D.non) (by simp) (fun p hp acc => absurd hp (by simp)) ?_
  exists 1
  exact List.take_length
theorem look_list (hL : T[iL]? = some (f_look iJ iH)) (hJ : T[iJ]? = some (f_look_joined iL)) (hH : T[iH]? = some (f_look_has iL)) {tw : Tw} (htw : TwOk tw) (u : Int) {ts : List Tab} (hts : tw.map (·.1) = ts) {t : Tab} {row : List Int} (hr : row.length = (colNames t).length) (n : Nat) (hn : 8 ≤ n) {cs : List Cd} (hc : ∀ c ∈ cs, WfC ts (colNames t) c ∧ hC c ≤ 4 ∧ lou c ≤ 100) (hl : cs.length ≤ 1000)
    {ρ : Ev} (h6 : ∀ d, (ρ.set 10 (some (.t d)))[6]? = some (some (scn (kvsP tw) u))) (h7 : ∀ d, (ρ.set 10 (some (.t d)))[7]? = some (some (.t (.tup ((colNames t).map .str))))) (h5 : ∀ d, (ρ.set 10 (some (.t d)))[5]? = some (some (.t (rowD row)))) (h10 : ∀ d, (ρ.set 10 (some (.t d)))[10]? = some (some (.t d))) {S : St'} {P : List D → St' → Prop} {E : EX}
    (hp : P (cs.map fun c => D.bl (decide ((lk tw u c (colNames t) row).1 = some true))) S) :
    RP (lcSrc (.v 10) (tests (evalCs (FT T n) [])) (evalE (FT T n) (.cmp .is_ (.call iL [(.var 6), (.var 7), (.var 5), (.var 10), .obT]) (.lit (D.bl true)))) (.fix (cs.map cdD)) ρ S) P E := by
  refine rp_lcG (ys := cs) cdD (fun c => D.bl (decide ((lk tw u c (colNames t) row).1 = some true))) hl (fun c hcc acc G => ?_) hp
  obtain ⟨w1, w2, w3⟩ := hc c hcc
  refine ⟨_, rfl, ?_⟩
  refine rp_cmp (rp_call (rp_cons (rp_var (h6 _) (rp_cons (rp_var (h7 _) (rp_cons (rp_var (h5 _) (rp_cons (rp_var (h10 _) (rp_cons (rp_obT (rp_nil ?_))))))))))))
  have q2 := look_ok hL hJ hH htw (scn_user (kvsP tw) u) (scn_tabs (kvsP tw) u) (kvP_ok tw) c (n - 2 * hC c) (colNames t) row (by rw [hts]; exact w1) hr (((S ++ [O.lst acc]) ++ G) ++ [.dt []]) ((S ++ [O.lst acc]) ++ G).length [] st_get (by simp; omega)
  rw [show n - 2 * hC c + 2 * hC c = n by omega] at q2
  refine RP.of_no q2 fun v S2 ⟨z1, z2⟩ => ?_
  subst z1; subst z2
  rw [st_set]
  have hit := is_tru (lk tw u c (colNames t) row).1
  exact rp_lit ⟨_, hit, rfl, G ++ [_], List.append_assoc _ _ _⟩
theorem any_perm {α : Type} {f : α → Bool} {a b : List α} (h : a.Perm b) : a.any f = b.any f := by
  rw [Bool.eq_iff_iff, List.any_eq_true, List.any_eq_true]
  exact ⟨fun ⟨x, h1, h2⟩ => ⟨x, h.mem_iff.mp h1, h2⟩, fun ⟨x, h1, h2⟩ => ⟨x, h.mem_iff.mpr h1, h2⟩⟩
theorem all_perm {α : Type} {f : α → Bool} {a b : List α} (h : a.Perm b) : a.all f = b.all f := by
  rw [Bool.eq_iff_iff, List.all_eq_true, List.all_eq_true]
  exact ⟨fun z x hx => z x (h.mem_iff.mpr hx), fun z x hx => z x (h.mem_iff.mp hx)⟩
theorem may_ok (hM : T[iM]? = some (f_may iE iN iR iL)) (hE : T[iE]? = some (f_every_scene iO)) (hO : T[iO]? = some (f_tables_of iN)) (hN : T[iN]? = some f_names_of) (hR : T[iR]? = some (f_rules_for iI)) (hI : T[iI]? = some f_is_for) (hL : T[iL]? = some (f_look iJ iH)) (hJ : T[iJ]? = some (f_look_joined iL)) (hH : T[iH]? = some (f_look_has iL))
    {tw : Tw} (htw : TwOk tw) {rs : List Ru} (h : ∀ r ∈ rs, RuOk (tw.map (·.1)) r) (hl : rs.length ≤ 10) {t : Tab} (ht : t ∈ tw.map (·.1)) (v : Str) (u : Int) {row : List Int} (hr : row.length = (colNames t).length) (n : Nat) (S : St') :
    RP (FT T (n + 9) iM [.t (stD (tw.map (·.1)) rs), .t (wD tw), .t (.str v), .t (tabD t), .t (.int u), .t (rowD row)] S) (Is S (.bl (mayB tw rs v t u row))) noE := by
  have hts : ∀ t ∈ tw.map (·.1), TabOk t := fun t ht => by
    obtain ⟨p, hp, rfl⟩ := List.mem_map.mp ht
    exact htw.tab p hp
  have tok := hts t ht
  have e0 : idxD (tabD t) (.int 0) = some (.str t.name) := at0 _ _
  have hcs : (t.cols.map colD).all colB = true := List.all_eq_true.mpr fun x hx => by
    obtain ⟨c, hc, rfl⟩ := List.mem_map.mp hx
    exact colB_colD (tok.cols.each c hc)
  have hnd := (twNd htw)
  refine rp_fn hM rfl rfl ?_
  simp only [f_may, pad]
  exists 1
  refine RP.of_no (every_ok hE hO hN (n + 5) htw rs u _) fun x S1 ⟨z1, z2⟩ => ?_
  subst z1; subst z2
  exists 1
  refine RP.of_no (names_of_ok hN (n + 7) (a := .str t.name) (b := .int t.key) (cs := t.cols.map colD) hcs (by have := tok.len4; rw [List.length_map]; omega) _) fun x S1 ⟨z1, z2⟩ => ?_
  subst z1; subst z2
  rw [show namesOf (t.cols.map colD) = colNames t from namesOf_cols _]
  exists 1, e0
  refine RP.of_no (rules_for_ok hR hI (n + 6) hts h (by omega) v "let" t.name u _) fun x S1 ⟨z1, ss, hp, z2⟩ => ?_
  subst z1; subst z2
  exists 1, e0
  refine RP.of_no (rules_for_ok hR hI (n + 6) hts h (by omega) v "must" t.name u _) fun x S1 ⟨z1, ss2, hp2, z2⟩ => ?_
  subst z1; subst z2
  have wf : ∀ k, ∀ ss : List Ru, ss.Perm rs → ∀ c ∈ (ss.filter (hit v k t.name u)).map (·.c), WfC (tw.map (·.1)) (colNames t) c ∧ hC c ≤ 4 ∧ lou c ≤ 100 := fun k ss hp c hc => by
    obtain ⟨r, hr, rfl⟩ := List.mem_map.mp hc
    obtain ⟨h1, h2⟩ := List.mem_filter.mp hr
    have ro := h r (hp.mem_iff.mp h1)
    obtain ⟨t', ht', e1, e2⟩ := ro.tab
    simp only [hit, Bool.and_eq_true, decide_eq_true_eq] at h2
    have : t' = t := hnd t' ht' t ht (by rw [← e1, h2.2.2.1])
    subst this
    exact ⟨e2, ro.hc, ro.lo⟩
  have mm : ∀ k, ∀ ss : List Ru, ((ss.filter (hit v k t.name u)).map fun r => cdD r.c) = ((ss.filter (hit v k t.name u)).map (·.c)).map cdD := fun k ss => by rw [List.map_map]; rfl
  have l1 : ∀ k, ∀ ss : List Ru, ss.Perm rs → ((ss.filter (hit v k t.name u)).map (·.c)).length ≤ 1000 := fun k ss hp => by
    rw [List.length_map]
    have := List.length_filter_le (hit v k t.name u) ss
    rw [hp.length_eq] at this
    omega
  rw [mm, mm]
  exists 1
  refine look_list hL hJ hH htw u rfl hr (n + 8) (by omega) (wf "let" ss hp) (l1 "let" ss hp) (fun _ => rfl) (fun _ => rfl) (fun _ => rfl) (fun _ => rfl) ?_
  have ea := any_bls (fun c => decide ((lk tw u c (colNames t) row).1 = some true)) ((ss.filter (hit v "let" t.name u)).map (·.c))
  have el := all_bls (fun c => decide ((lk tw u c (colNames t) row).1 = some true)) ((ss2.filter (hit v "must" t.name u)).map (·.c))
  have ha : (((ss.filter (hit v "let" t.name u)).map (·.c)).any fun c => decide ((lk tw u c (colNames t) row).1 = some true)) = rs.any fun r => hit v "let" t.name u r && decide ((lk tw u r.c (colNames t) row).1 = some true) := by
    rw [List.any_map, List.any_filter, any_perm hp]
    rfl
  have hal : (((ss2.filter (hit v "must" t.name u)).map (·.c)).all fun c => decide ((lk tw u c (colNames t) row).1 = some true)) = rs.all fun r => !hit v "must" t.name u r || decide ((lk tw u r.c (colNames t) row).1 = some true) := by
    rw [List.all_map, List.all_filter, all_perm hp2]
    rfl
  rw [ha] at ea
  rw [hal] at el
  unfold mayB
  generalize (rs.any fun r => hit v "let" t.name u r && decide ((lk tw u r.c (colNames t) row).1 = some true)) = ba at *
  generalize (rs.all fun r => !hit v "must" t.name u r || decide ((lk tw u r.c (colNames t) row).1 = some true)) = bl at *
  cases ba with
  | false => exists 1, ea
  | true =>
    exists 1, ea
    refine look_list hL hJ hH htw u rfl hr (n + 8) (by omega) (wf "must" ss2 hp2) (l1 "must" ss2 hp2) (fun _ => rfl) (fun _ => rfl) (fun _ => rfl) (fun _ => rfl) ?_
    exists 1, el
theorem seen_ok {iS : Nat} (hS : T[iS]? = some (f_seen_world iM)) (hM : T[iM]? = some (f_may iE iN iR iL)) (hE : T[iE]? = some (f_every_scene iO)) (hO : T[iO]? = some (f_tables_of iN)) (hN : T[iN]? = some f_names_of) (hR : T[iR]? = some (f_rules_for iI)) (hI : T[iI]? = some f_is_for) (hL : T[iL]? = some (f_look iJ iH)) (hJ : T[iJ]? = some (f_look_joined iL)) (hH : T[iH]? = some (f_look_has iL))
    {tw : Tw} (htw : TwOk tw) {rs : List Ru} (h : ∀ r ∈ rs, RuOk (tw.map (·.1)) r) (hl : rs.length ≤ 10) (u : Int) (n : Nat) (S : St') :
    RP (FT T (n + 10) iS [.t (stD (tw.map (·.1)) rs), .t (wD tw), .t (.int u)] S) (Is S (wD (seenT tw rs u))) noE := by
  have e0 : idxD (stD (tw.map (·.1)) rs) (.int 0) = some (.tup ((tw.map (·.1)).map tabD)) := at0 _ _
  have hle := htw.le
  refine rp_fn hS rfl rfl ?_
  simp only [f_seen_world, pad]
  exists 1, e0
  refine ⟨_, _, .inr ⟨rfl, rfl⟩, ?_⟩
  rw [zip_tw]
  refine rp_lcM (ys := tw) (fun p => D.tup [tabD p.1, rowsT p]) (fun p => D.tup ((p.2.filter (mayB tw rs "read" p.1 u)).map rowD)) (by omega) (fun p hp acc => ?_) ?_
  · have htm : p.1 ∈ tw.map (·.1) := List.mem_map.mpr ⟨p, hp, rfl⟩
    refine ⟨_, rfl, ?_⟩
    exists 1
    refine rp_lcF (ys := p.2) rowD (mayB tw rs "read" p.1 u) rowD (by have := htw.few p hp; omega) (fun r hr acc => ?_) ?_
    · have hrl : r.length = (colNames p.1).length := by rw [htw.len p hp r hr]; simp [colNames]
      refine ⟨_, rfl, ?_⟩
      exists 1
      refine RP.of_no (may_ok hM hE hO hN hR hI hL hJ hH htw h hl htm "read" u hrl n _) fun x S1 ⟨z1, z2⟩ => ?_
      subst z1; subst z2
      exact ⟨_, rfl, rfl, rfl, fun _ => rp_var rfl ⟨rfl, rfl⟩⟩
    · exists 1
  · exists 1
    unfold wD seenT
    rw [List.map_map]
    rfl
/-! ### the law's own -/
end
end M

/-! shared by k16 and k17; the rules, plainly -/
namespace M
open PySem PySem.Spec PyProof.Rows L2
mutual
theorem deq_self : ∀ d : D, deq d d = true
  | .non => rfl
  | .bl b => by rw [deq]; exact beq_self_eq_true _
  | .int b => by rw [deq]; exact beq_self_eq_true _
  | .str b => by rw [deq]; exact beq_self_eq_true _
  | .tup xs => by rw [deq]; exact deqs_self xs
  | .lst xs => by rw [deq]; exact deqs_self xs
theorem deqs_self : ∀ ds : List D, deqs ds ds = true
  | [] => by rw [deqs]
  | d :: ds => by rw [deqs, deq_self d, deqs_self ds]; rfl
end
theorem neD {d : D} {S : St'} {A B : Prop} (ho : okD d = true) (hp : B) : ∃ r, cmp2' .ne S (.t d) (.t d) = some r ∧ ∃ k, truth S (.t (.bl r)) = some k ∧ (k = true → A) ∧ (k = false → B) := by
  refine ⟨false, ?_, false, rfl, fun h => (f_t h).elim, fun _ => hp⟩
  show (if scalD d d || (okD d && okD d) then some (!deq d d) else none) = _
  rw [ho, deq_self]
  simp
theorem ok_wD (tw : Tw) : Ok 3 (wD tw) := .tup fun x hx => by
  obtain ⟨p, _, rfl⟩ := List.mem_map.mp hx
  refine .tup fun y hy => ?_
  obtain ⟨r, _, rfl⟩ := List.mem_map.mp hy
  exact Ok.rowD r
/-! ### what the rules say, plainly -/
abbrev yesL (tw : Tw) (u : Int) (t : Tab) (row : List Int) (r : Ru) : Bool := decide ((lk tw u r.c (colNames t) row).1 = some true)
theorem mayB_eq (tw : Tw) (rs : List Ru) (v : Str) (t : Tab) (u : Int) (row : List Int) : mayB tw rs v t u row = ((rs.any fun r => hit v "let" t.name u r && yesL tw u t row r) && (rs.all fun r => !hit v "must" t.name u r || yesL tw u t row r)) := rfl
theorem mayB_perm {tw : Tw} {rs rs' : List Ru} (p : rs.Perm rs') (v : Str) (t : Tab) (u : Int) : mayB tw rs v t u = mayB tw rs' v t u := by
  funext row
  rw [mayB_eq, mayB_eq, any_perm p, all_perm p]
theorem seenT_perm {tw : Tw} {rs rs' : List Ru} (p : rs.Perm rs') (u : Int) : seenT tw rs u = seenT tw rs' u := by
  unfold seenT
  exact List.map_congr_left fun q _ => by rw [mayB_perm p]
theorem hit_split (v k t : Str) (u : Int) (r : Ru) : hit v k t u r = (decide (r.verb = v) && (decide (r.kind = k) && (decide (r.tab = t) && forU u r))) := rfl
theorem seenT_none {tw : Tw} {rs : List Ru} (h : ∀ r ∈ rs, ¬ (r.verb = "read" ∧ r.kind = "let")) (u : Int) : seenT tw rs u = tw.map fun p => (p.1, []) := by
  unfold seenT
  refine List.map_congr_left fun p _ => ?_
  congr 1
  refine List.filter_eq_nil_iff.mpr fun row _ e => ?_
  rw [mayB_eq, Bool.and_eq_true] at e
  obtain ⟨r, hr, e1⟩ := List.any_eq_true.mp e.1
  rw [hit_split] at e1
  simp only [Bool.and_eq_true, decide_eq_true_eq] at e1
  exact h r hr ⟨e1.1.1, e1.1.2.1⟩
theorem any_filter' {f g : Ru → Bool} : ∀ {l : List Ru}, (∀ r ∈ l, g r = false → f r = false) → (l.filter g).any f = l.any f
  | [], _ => rfl
  | r :: l, h => by
    have ih := any_filter' (f := f) (g := g) (l := l) fun x hx => h x (List.mem_cons_of_mem _ hx)
    rw [List.filter_cons]
    cases e : g r with
    | true => simp [ih]
    | false => simp [ih, h r List.mem_cons_self e]
theorem all_filter' {f g : Ru → Bool} : ∀ {l : List Ru}, (∀ r ∈ l, g r = false → f r = true) → (l.filter g).all f = l.all f
  | [], _ => rfl
  | r :: l, h => by
    have ih := all_filter' (f := f) (g := g) (l := l) fun x hx => h x (List.mem_cons_of_mem _ hx)
    rw [List.filter_cons]
    cases e : g r with
    | true => simp [ih]
    | false => simp [ih, h r List.mem_cons_self e]
theorem seenT_reads (tw : Tw) (rs : List Ru) (u : Int) : seenT tw (rs.filter fun r => decide (r.verb = "read")) u = seenT tw rs u := by
  unfold seenT
  refine List.map_congr_left fun p _ => ?_
  have : mayB tw (rs.filter fun r => decide (r.verb = "read")) "read" p.1 u = mayB tw rs "read" p.1 u := by
    funext row
    rw [mayB_eq, mayB_eq]
    congr 1
    · exact any_filter' fun r _ e => by rw [hit_split, e]; rfl
    · exact all_filter' fun r _ e => by rw [hit_split, e]; rfl
  rw [this]
theorem mayB_more (tw : Tw) (rs : List Ru) (m : Ru) (v : Str) (t : Tab) (u : Int) (row : List Int) :
    mayB tw (rs ++ [m]) v t u row = (((rs.any fun r => hit v "let" t.name u r && yesL tw u t row r) || (hit v "let" t.name u m && yesL tw u t row m)) && ((rs.all fun r => !hit v "must" t.name u r || yesL tw u t row r) && (!hit v "must" t.name u m || yesL tw u t row m))) := by
  rw [mayB_eq, List.any_append, List.all_append]
  simp only [List.any_cons, List.any_nil, List.all_cons, List.all_nil, Bool.or_false, Bool.and_true]
theorem mayB_other {tw : Tw} {rs : List Ru} {m : Ru} {t : Tab} (h : t.name ≠ m.tab) (v : Str) (u : Int) : mayB tw (rs ++ [m]) v t u = mayB tw rs v t u := by
  funext row
  have e : ∀ k, hit v k t.name u m = false := fun k => by
    rw [hit_split, show decide (m.tab = t.name) = false from decide_eq_false fun e => h e.symm]
    simp
  rw [mayB_more, e, e, mayB_eq]
  simp
theorem seen_more {tw : Tw} (htw : TwOk tw) {k : Nat} {t : Tab} {rows : List (List Int)} (hk : tw[k]? = some (t, rows)) {m : Ru} (hm : m.tab = t.name) (rs : List Ru) (u : Int) :
    (seenT tw (rs ++ [m]) u).map rowsT = ((seenT tw rs u).map rowsT).take k ++ [.tup ((rows.filter (mayB tw (rs ++ [m]) "read" t u)).map rowD)] ++ ((seenT tw rs u).map rowsT).drop (k + 1) := by
  have sp : ∀ (l : Tw) (k : Nat), l[k]? = some (t, rows) → (l.map fun p => p.1.name).Nodup →
      ((seenT l (rs ++ [m]) u tw).map rowsT) = ((seenT l rs u tw).map rowsT).take k ++ [.tup ((rows.filter (mayB tw (rs ++ [m]) "read" t u)).map rowD)] ++ ((seenT l rs u tw).map rowsT).drop (k + 1) := by
    have rest : ∀ l : Tw, (∀ p ∈ l, p.1.name ≠ t.name) → seenT l (rs ++ [m]) u tw = seenT l rs u tw := fun l h => by
      unfold seenT
      exact List.map_congr_left fun p hp => by rw [mayB_other (by rw [hm]; exact h p hp)]
    intro l
    induction l with
    | nil => intro k h; simp at h
    | cons p l ih =>
      intro k h nd
      rw [List.map_cons, List.nodup_cons] at nd
      cases k with
      | zero =>
        simp only [List.getElem?_cons_zero, Option.some.injEq] at h
        subst h
        have := rest l fun q hq e => nd.1 (List.mem_map.mpr ⟨q, hq, e⟩)
        unfold seenT at this ⊢
        simp only [List.map_cons, List.take_zero, List.nil_append, List.drop_succ_cons, List.drop_zero, List.cons_append, this]
        rfl
      | succ k =>
        have h' : l[k]? = some (t, rows) := by simpa using h
        have := ih k h' nd.2
        have e1 : mayB tw (rs ++ [m]) "read" p.1 u = mayB tw rs "read" p.1 u := mayB_other (fun e => nd.1 (List.mem_map.mpr ⟨_, List.mem_of_getElem? h', by rw [e, hm]⟩)) _ _
        unfold seenT at this ⊢
        simp only [List.map_cons, List.take_succ_cons, List.drop_succ_cons, List.cons_append, this, e1]
  exact sp tw k hk htw.nd
theorem seen_nth {tw : Tw} {k : Nat} {t : Tab} {rows : List (List Int)} (hk : tw[k]? = some (t, rows)) (rs : List Ru) (u : Int) : ((seenT tw rs u).map rowsT)[k]? = some (.tup ((rows.filter (mayB tw rs "read" t u)).map rowD)) := by
  unfold seenT
  rw [List.getElem?_map, List.getElem?_map, hk]
  rfl
theorem forU_all (u : Int) (a b c : Str) (d : Cd) : forU u ⟨a, b, c, [], d⟩ = true := by simp [forU]
theorem may_alone (tw : Tw) (m : Ru) {t : Tab} (hm : m.tab = t.name) (u : Int) (row : List Int) : mayB tw [⟨"read", "let", m.tab, m.us, m.c⟩] "read" t u row = (forU u m && yesL tw u t row m) := by
  have n : decide (("let" : Str) = "must") = false := by decide +kernel
  rw [mayB_eq]
  simp only [List.any_cons, List.any_nil, List.all_cons, List.all_nil, hit_split, n, hm, decide_true, Bool.true_and, Bool.and_true, Bool.or_false, Bool.false_and, Bool.not_false, Bool.true_or]
  rfl
theorem may_fit (tw : Tw) (rs : List Ru) (t : Tab) (u : Int) (row : List Int) (hy : (lk tw u .yes (colNames t) row).1 = some true) :
    mayB tw ((rs.filter fun (r : Ru) => decide (r.verb = ("read" : Str)) && decide (r.kind = ("must" : Str))) ++ [⟨"read", "let", t.name, [], .yes⟩]) "read" t u row = rs.all fun r => !hit "read" "must" t.name u r || yesL tw u t row r := by
  have n : decide (("let" : Str) = "must") = false := by decide +kernel
  rw [mayB_more]
  have e1 : hit "read" "let" t.name u ⟨"read", "let", t.name, [], .yes⟩ = true := by rw [hit_split, forU_all]; simp
  have e2 : hit "read" "must" t.name u ⟨"read", "let", t.name, [], .yes⟩ = false := by rw [hit_split]; simp only [n, Bool.false_and, Bool.and_false]
  have e3 : yesL tw u t row ⟨"read", "let", t.name, [], .yes⟩ = true := decide_eq_true hy
  rw [e1, e2, e3, all_filter' fun r _ e => by
    rw [hit_split]
    cases h1 : decide (r.verb = "read") with
    | false => rfl
    | true =>
      rw [h1, Bool.true_and] at e
      rw [e]; rfl]
  simp
theorem may_let (tw : Tw) (rs : List Ru) (m : Ru) {t : Tab} (hv : m.verb = "read") (hk : m.kind = "let") (hm : m.tab = t.name) (u : Int) (row : List Int) :
    mayB tw (rs ++ [m]) "read" t u row = (mayB tw rs "read" t u row || ((forU u m && yesL tw u t row m) && rs.all fun r => !hit "read" "must" t.name u r || yesL tw u t row r)) := by
  have n : decide (("let" : Str) = "must") = false := by decide +kernel
  rw [mayB_more, mayB_eq]
  have e1 : hit "read" "let" t.name u m = forU u m := by rw [hit_split, hv, hk, hm]; simp
  have e2 : hit "read" "must" t.name u m = false := by rw [hit_split, hk, n]; simp
  rw [e1, e2]
  cases (rs.any fun r => hit "read" "let" t.name u r && yesL tw u t row r) <;> cases (rs.all fun r => !hit "read" "must" t.name u r || yesL tw u t row r) <;> cases forU u m <;> cases yesL tw u t row m <;> rfl
theorem may_must (tw : Tw) (rs : List Ru) (m : Ru) {t : Tab} (hv : m.verb = "read") (hk : m.kind = "must") (hm : m.tab = t.name) (u : Int) (row : List Int) :
    mayB tw (rs ++ [m]) "read" t u row = (mayB tw rs "read" t u row && (!forU u m || yesL tw u t row m)) := by
  have n : decide (("must" : Str) = "let") = false := by decide +kernel
  rw [mayB_more, mayB_eq]
  have e1 : hit "read" "must" t.name u m = forU u m := by rw [hit_split, hv, hk, hm]; simp
  have e2 : hit "read" "let" t.name u m = false := by rw [hit_split, hk, n]; simp
  rw [e1, e2]
  simp only [Bool.false_and, Bool.or_false, Bool.and_assoc]
theorem asTups_rowD : ∀ ks : List (List Int), asTups (ks.map rowD) = some ks := asTups_rows
theorem sorted_union {rows : List (List Int)} (hp : rows.Pairwise fun a b => a < b) (hne : ∀ r ∈ rows, r ≠ []) (hl : rows.length ≤ 12) (p q : List Int → Bool) :
    sortsettD (.tup ((rows.filter p).map rowD ++ (rows.filter q).map rowD)) = some (.lst ((rows.filter fun r => p r || q r).map rowD)) := by
  have h1 : (rows.filter p).length ≤ rows.length := List.length_filter_le _ _
  have h2 : (rows.filter q).length ≤ rows.length := List.length_filter_le _ _
  have hc : (rows.filter p ++ rows.filter q).length < 64 ∧ ∀ k ∈ rows.filter p ++ rows.filter q, k ≠ [] := ⟨by rw [List.length_append]; omega, fun k hk => by
    rcases List.mem_append.mp hk with z | z <;> exact hne k (List.mem_filter.mp z).1⟩
  rw [← List.map_append]
  unfold sortsettD
  simp only [sqOf, Option.bind_some, asTups_rowD]
  rw [if_pos hc]
  have pw : (rows.filter fun r => p r || q r).Pairwise fun a b => a < b := hp.sublist List.filter_sublist
  have nd : (rows.filter fun r => p r || q r).Nodup := pw.imp fun h e => by rw [e] at h; exact List.lt_irrefl _ h
  have pm : (dset (rows.filter p ++ rows.filter q)).Perm (rows.filter fun r => p r || q r) := (List.perm_ext_iff_of_nodup (dset_nodup _) nd).mpr fun k => by
    rw [dset_mem, List.mem_append, List.mem_filter, List.mem_filter, List.mem_filter, Bool.or_eq_true]
    constructor
    · rintro (⟨a, b⟩ | ⟨a, b⟩)
      · exact ⟨a, .inl b⟩
      · exact ⟨a, .inr b⟩
    · rintro ⟨a, b | b⟩
      · exact .inl ⟨a, b⟩
      · exact .inr ⟨a, b⟩
  rw [sort_tups' pm]
  congr 2
  refine List.mergeSort_of_pairwise ?_
  rw [List.pairwise_map]
  refine pw.imp fun {a b} h => ?_
  unfold dle
  rw [dlt_tupK, Bool.not_eq_true', decide_eq_false_iff_not]
  exact List.lt_asymm h
theorem in_rows (r : List Int) (rs : List (List Int)) : cmpD .isin (rowD r) (.tup (rs.map rowD)) = some (decide (r ∈ rs)) := by
  have o1 : okD (rowD r) = true := (Ok.rowD r).okD (by omega)
  have o2 : okD (.tup (rs.map rowD)) = true := (Ok.tup (k := 1) fun x hx => by
    obtain ⟨k, _, rfl⟩ := List.mem_map.mp hx
    exact Ok.rowD k).okD (by omega)
  have e : ((rs.map rowD).any fun z => deq z (rowD r)) = decide (r ∈ rs) := by
    rw [Bool.eq_iff_iff, List.any_eq_true, decide_eq_true_eq]
    constructor
    · rintro ⟨x, hx, h⟩
      obtain ⟨k, hk, rfl⟩ := List.mem_map.mp hx
      rw [rowD, rowD, deq, deqs_ints, decide_eq_true_eq] at h
      rw [← h]; exact hk
    · intro h
      exact ⟨_, List.mem_map.mpr ⟨r, h, rfl⟩, deq_self _⟩
  show inD (rowD r) (.tup (rs.map rowD)) = _
  simp only [inD, o1, o2, Bool.and_self, if_true, e]
end M

/-! k17: the law -/
namespace M
open PySem PySem.Spec PyProof.Rows L2
def f__law_turned : Fn := ⟨2, 5,
  [(.new 2 (.lst [])),
  (.for_ (.tp [3, 4]) (.enum (.var 0)) [(.insl 2 (.bin .mod (.bin .fdiv (.var 1) (.bin .add (.var 3) (.lit (D.int 1)))) (.bin .add (.var 3) (.lit (D.int 1)))) (.var 4))]),
  (.ret (.var 2))]⟩
theorem turned_ok {T : List Fn} {i : Nat} (hT : T[i]? = some f__law_turned) (n : Nat) {rs : List Ru} (hl : rs.length ≤ 1000) {pick : Int} (hp : 0 ≤ pick) (S : St') :
    RP (FT T (n + 1) i [.t (.lst (rs.map ruD)), .t (.int pick)] S) (fun v S' => S' = S ∧ ∃ ss : List Ru, ss.Perm rs ∧ v = .t (.lst (ss.map ruD))) noE := by
  refine rp_fn hT rfl rfl ?_
  simp only [f__law_turned, pad]
  exists 1
  rw [enumD_map]
  refine op_fixM (fun p : Ru × Nat => D.tup [.int (p.2 : Nat), ruD p.1]) (fun rest ρ S' => ∃ (ss : List Ru) (j : Nat) (k3 k4 : Option SV), ρ = [some (.t (.lst (rs.map ruD))), some (.t (.int pick)), some (.o S.length), k3, k4] ∧ S' = S ++ [.lst (ss.map ruD)] ∧ j ≤ rs.length ∧ rest = rs.zipIdx.drop j ∧ ss.Perm (rs.take j)) ⟨[], 0, _, _, rfl, rfl, Nat.zero_le _, rfl, .nil⟩ ?_ ?_
  · rintro ⟨r, k⟩ rest ρ S' ⟨ss, j, k3, k4, rfl, rfl, hj, hr, pm⟩
    have hlt : j < rs.length := by
      have := congrArg List.length hr
      simp at this
      omega
    have e0 : (rs.zipIdx.drop j)[0]? = some (r, k) := by rw [← hr]; rfl
    rw [List.getElem?_drop, List.getElem?_zipIdx] at e0
    simp only [Nat.add_zero, List.getElem?_eq_getElem hlt, Option.map_some, Option.some.injEq, Prod.mk.injEq, Nat.zero_add] at e0
    obtain ⟨er, ek⟩ := e0
    subst ek
    have e1 : rest = rs.zipIdx.drop (j + 1) := by
      have := congrArg List.tail hr
      simpa using this
    have sl : ss.length = j := by rw [pm.length_eq, List.length_take]; omega
    have f1 : binD .fdiv (.int pick) (.int ((j : Int) + 1)) = some (.int (pick / ((j : Int) + 1))) := by simp only [binD]; rw [if_pos (by omega)]
    have f2 : binD .mod (.int (pick / ((j : Int) + 1))) (.int ((j : Int) + 1)) = some (.int (pick / ((j : Int) + 1) % ((j : Int) + 1))) := by simp only [binD]; rw [if_pos (by omega)]
    have b0 := Int.emod_nonneg (pick / ((j : Int) + 1)) (b := (j : Int) + 1) (by omega)
    have b1 := Int.emod_lt_of_pos (pick / ((j : Int) + 1)) (b := (j : Int) + 1) (by omega)
    generalize pick / ((j : Int) + 1) % ((j : Int) + 1) = z at *
    refine ⟨_, rfl, ?_⟩
    refine op_cons (op_insl rfl (st_get ..) ?_)
    exists 1, f1, f2
    refine ⟨S ++ [.lst ((ss.take z.toNat ++ [r] ++ ss.drop z.toNat).map ruD)], ?_, ?_⟩
    · have hs : (S ++ [.lst (ss.map ruD)])[S.length]? = some (.lst (ss.map ruD)) := st_get ..
      simp only [inslO, grab, hs]
      rw [if_pos ⟨by rw [List.length_map, sizeLine_eq]; omega, b0, by omega⟩]
      congr 1
      simp [List.map_take, List.map_drop]
    · refine ⟨_, j + 1, _, _, rfl, rfl, hlt, e1, ?_⟩
      have p1 : (ss.take z.toNat ++ [r] ++ ss.drop z.toNat).Perm (r :: ss) := by
        rw [List.append_assoc, List.singleton_append]
        exact List.perm_middle.trans (by rw [List.take_append_drop])
      refine p1.trans ((pm.cons r).trans ?_)
      rw [List.take_add_one, List.getElem?_eq_getElem hlt, er]
      exact (List.perm_append_singleton r (rs.take j)).symm
  · rintro ρ S' ⟨ss, j, k3, k4, rfl, rfl, hj, hr, pm⟩
    have : j = rs.length := by
      have := congrArg List.length hr
      simp at this
      omega
    subst this
    rw [List.take_length] at pm
    exists 1
    exact ⟨ss, pm, rfl⟩
end M

/-! k17: the end of a user's turn -/
namespace M
open PySem PySem.Spec PyProof.Rows L2
theorem lit_word {ts : List Tab} {r : Ru} (h : RuOk ts r) : PyData.strOk r.verb = true ∧ PyData.strOk r.kind = true := by
  have h1 := h.verb
  have h2 := h.kind
  simp only [List.mem_cons, List.not_mem_nil, or_false] at h1 h2
  exact ⟨lit_ok _ (by simp only [List.mem_cons, List.not_mem_nil, or_false]; rcases h1 with z | z | z <;> simp [z]), lit_ok _ (by simp only [List.mem_cons, List.not_mem_nil, or_false]; rcases h2 with z | z <;> simp [z])⟩
theorem in_rules {ts : List Tab} (hts : ∀ t ∈ ts, TabOk t) {rs : List Ru} (hrs : ∀ r ∈ rs, RuOk ts r) {m : Ru} (hm : RuOk ts m) : ∃ b, cmpD .isin (ruD m) (.lst (rs.map ruD)) = some b := by
  have o1 : okD (ruD m) = true := (ok_ru hts hm).okD (by omega)
  have o2 : okD (.lst (rs.map ruD)) = true := (Ok.lst (k := 5) fun x hx => by
    obtain ⟨r, hr, rfl⟩ := List.mem_map.mp hx
    exact ok_ru hts (hrs r hr)).okD (by omega)
  refine ⟨(rs.map ruD).any fun z => deq z (ruD m), ?_⟩
  show inD (ruD m) (.lst (rs.map ruD)) = _
  simp only [inD, o1, o2, Bool.and_self, if_true]
theorem alone_ok {ts : List Tab} {m : Ru} (h : RuOk ts m) (hv : m.verb = "read") : RuOk ts ⟨"read", "let", m.tab, m.us, m.c⟩ := ⟨by simp, by simp, h.tab, h.us, h.hc, h.lo⟩
def strict (t : Str) : Ru := ⟨"read", "must", t, [], .not (.or .yes (.or .yes .yes))⟩
theorem strict_ok {ts : List Tab} {t : Tab} (h : t ∈ ts) : RuOk ts (strict t.name) := ⟨by simp [strict], by simp [strict], ⟨t, h, rfl, by simp [strict, WfC]⟩, by simp [strict], by simp [strict, hC], by simp [strict, lou]⟩
theorem yes_rule {ts : List Tab} {t : Tab} (h : t ∈ ts) : RuOk ts ⟨"read", "let", t.name, [], .yes⟩ := ⟨by simp, by simp, ⟨t, h, rfl, by simp [WfC]⟩, by simp, by simp [hC], by simp [lou]⟩
theorem idx_nat {xs : List D} {k : Nat} {x : D} (h : xs[k]? = some x) : idxD (.tup xs) (.int (k : Nat)) = some x := L2.atI_nat h
theorem filt2 (rows : List (List Int)) (p q : List Int → Bool) : (rows.filter p).filter (fun r => decide (r ∈ rows.filter q)) = rows.filter fun r => p r && q r := by
  rw [List.filter_filter]
  refine List.filter_congr fun r hr => ?_
  rw [Bool.and_comm]
  congr 1
  rw [Bool.eq_iff_iff, decide_eq_true_eq, List.mem_filter]
  exact ⟨fun h => h.2, fun h => ⟨hr, h⟩⟩
def restA : MS := (.ife (.cmp .isin (.var 8) (.var 3)) [(.asg (.v 8) (.tup [(.lit (D.str "read")), (.lit (D.str "must")), (.idx (.var 8) (.lit (D.int 2))), (.tup []), (.tup [(.lit (D.str "not")), (.tup [(.lit (D.str "or")), (.tup [(.lit (D.str "yes"))]), (.tup [(.lit (D.str "or")), (.tup [(.lit (D.str "yes"))]), (.tup [(.lit (D.str "yes"))])])])])]))] [])
def restB (i_seen_world : Nat) : List MS := [
  (.asg (.v 14) (.call i_seen_world [(.tup [(.var 2), (.bin .add (.var 3) (.lst [(.var 8)])), (.var 4)]), (.var 7), (.var 11)])),
  (.asg (.v 15) (.idx (.call i_seen_world [(.tup [(.var 2), (.lst [(.bin .add (.bin .add (.slc (.var 8) [] [(.lit (D.int 1))]) (.tup [(.lit (D.str "let"))])) (.slc (.var 8) [(.lit (D.int 2))] []))]), (.var 4)]), (.var 7), (.var 11)]) (.var 9))),
  (.ife (.cmp .eq (.idx (.var 8) (.lit (D.int 1))) (.lit (D.str "let"))) [(.asg (.v 16) (.idx (.call i_seen_world [(.tup [(.var 2), (.bin .add (.var 10) (.lst [(.tup [(.lit (D.str "read")), (.lit (D.str "let")), (.idx (.var 8) (.lit (D.int 2))), (.tup []), (.tup [(.lit (D.str "yes"))])])])), (.lst [])]), (.var 7), (.var 11)]) (.var 9))),
  (.asg (.v 17) (.bi .tuple [(.fz .sortsett [(.bin .add (.idx (.var 12) (.var 9)) (.bi .tuple [(.lc (.v 20) (.of (.var 15)) [(.cmp .isin (.var 20) (.var 16))] (.var 20))]))])]))] [(.asg (.v 17) (.idx (.var 12) (.var 9))),
  (.ife (.or (.cmp .eq (.idx (.var 8) (.lit (D.int 3))) (.tup [])) (.cmp .isin (.var 11) (.idx (.var 8) (.lit (D.int 3))))) [(.asg (.v 17) (.bi .tuple [(.lc (.v 20) (.of (.var 17)) [(.cmp .isin (.var 20) (.var 15))] (.var 20))]))] [])]),
  (.ife (.cmp .ne (.var 14) (.bin .add (.bin .add (.slc (.var 12) [] [(.var 9)]) (.tup [(.var 17)])) (.slc (.var 12) [(.bin .add (.var 9) (.lit (D.int 1)))] []))) [(.ret (.lit (D.bl false)))] [])]
theorem restA_ok {F : FS} {ts : List Tab} (hts : ∀ t ∈ ts, TabOk t) {rs : List Ru} (hrs : ∀ r ∈ rs, RuOk ts r) {t : Tab} (ht : t ∈ ts) {m : Ru} (hm : RuOk ts m) (hmv : m.verb = "read") (hmt : m.tab = t.name)
    {v0 v1 v2 v4 v5 v6 v7 v9 v10 v11 v12 v13 v14 v15 v16 v17 v18 v19 v20 : Option SV} {S : St'} {nx bk ct : NX} {P : Po}
    (hnx : ∀ m : Ru, RuOk ts m → m.verb = "read" → m.tab = t.name → nx [v0, v1, v2, some (.t (.lst (rs.map ruD))), v4, v5, v6, v7, some (.t (ruD m)), v9, v10, v11, v12, v13, v14, v15, v16, v17, v18, v19, v20] S) :
    OP (execS F restA [v0, v1, v2, some (.t (.lst (rs.map ruD))), v4, v5, v6, v7, some (.t (ruD m)), v9, v10, v11, v12, v13, v14, v15, v16, v17, v18, v19, v20] S) nx bk ct P := by
  obtain ⟨b, hb⟩ := in_rules hts hrs hm
  have i2 : idxD (ruD m) (.int 2) = some (.str t.name) := by rw [← hmt]; exact at2 _ _ _ _
  unfold restA
  exists 1, i2, no_index (⟨_, hb, _, rfl, fun h => ?_, fun h => ?_⟩)
  · exact hnx (strict t.name) (strict_ok ht) rfl rfl
  · exact hnx m hm hmv hmt
theorem restB_ok {T : List Fn} {iS iMy iE iN iRf iI iO iLo iJ iH : Nat} (hS : T[iS]? = some (f_seen_world iMy)) (hMy : T[iMy]? = some (f_may iE iN iRf iLo)) (hE : T[iE]? = some (f_every_scene iO)) (hN : T[iN]? = some f_names_of) (hRf : T[iRf]? = some (f_rules_for iI)) (hI : T[iI]? = some f_is_for) (hO : T[iO]? = some (f_tables_of iN)) (hLo : T[iLo]? = some (f_look iJ iH)) (hJ : T[iJ]? = some (f_look_joined iLo)) (hH : T[iH]? = some (f_look_has iLo))
    {tw : Tw} (htw : TwOk tw) (hB : ∀ p ∈ tw, rowsB p.1 (rowsT p) = true) {rs : List Ru} (hrs : ∀ r ∈ rs, RuOk (tw.map (·.1)) r) (hrl : rs.length ≤ 9) {k : Nat} {t : Tab} {rows : List (List Int)} (hk : tw[k]? = some (t, rows)) {m : Ru} (hm : RuOk (tw.map (·.1)) m) (hmv : m.verb = "read") (hmt : m.tab = t.name) (u : Int) {mu : List Ru} (hmu : (rs.filter fun (r : Ru) => decide (r.verb = ("read" : Str)) && decide (r.kind = ("must" : Str))) = mu)
    {v0 v5 v6 v13 v14 v15 v16 v17 v18 v19 v20 : Option SV} {S : St'} {nx bk ct : NX} {P : Po}
    (hnx : ∀ v14 v15 v16 v17 v20, nx [v0, some (.t (stD (tw.map (·.1)) rs)), some (.t (.tup ((tw.map (·.1)).map tabD))), some (.t (.lst (rs.map ruD))), some (.t (.lst [])), v5, v6, some (.t (wD tw)), some (.t (ruD m)), some (.t (.int (k : Nat))), some (.t (.lst (mu.map ruD))), some (.t (.int u)), some (.t (wD (seenT tw rs u))), v13, v14, v15, v16, v17, v18, v19, v20] S) :
    OP (execB (FT T 59) (restB iS) [v0, some (.t (stD (tw.map (·.1)) rs)), some (.t (.tup ((tw.map (·.1)).map tabD))), some (.t (.lst (rs.map ruD))), some (.t (.lst [])), v5, v6, some (.t (wD tw)), some (.t (ruD m)), some (.t (.int (k : Nat))), some (.t (.lst (mu.map ruD))), some (.t (.int u)), some (.t (wD (seenT tw rs u))), v13, v14, v15, v16, v17, v18, v19, v20] S) nx bk ct P := by
  subst hmu
  have hmem := List.mem_of_getElem? hk
  have ht : t ∈ tw.map (·.1) := List.mem_map.mpr ⟨_, hmem, rfl⟩
  have a1 : binD .add (.lst (rs.map ruD)) (.lst [ruD m]) = some (.lst ((rs ++ [m]).map ruD)) := by
    simp only [binD]; rw [if_pos (le_sz' (by simp; omega)), List.map_append]; rfl
  have hrs1 : ∀ r ∈ rs ++ [m], RuOk (tw.map (·.1)) r := fun r hr => (List.mem_append.mp hr).elim (hrs r) fun z => by rw [List.mem_singleton.mp z]; exact hm
  have c1 : slcD (ruD m) none (some 1) = some (.tup [.str "read"]) := by rw [← hmv]; rfl
  have c2 : slcD (ruD m) (some 2) none = some (.tup [.str m.tab, .tup (m.us.map .int), cdD m.c]) := rfl
  have a2 : binD .add (.tup [.str "read"]) (.tup [.str "let"]) = some (.tup [.str "read", .str "let"]) := by
    simp only [binD]; rw [if_pos (le_sz' (by simp))]; rfl
  have a3 : binD .add (.tup [.str "read", .str "let"]) (.tup [.str m.tab, .tup (m.us.map .int), cdD m.c]) = some (ruD ⟨"read", "let", m.tab, m.us, m.c⟩) := by
    simp only [binD]; rw [if_pos (le_sz' (by simp))]; rfl
  have al := alone_ok hm hmv
  have nAl : idxD (wD (seenT tw [⟨"read", "let", m.tab, m.us, m.c⟩] u)) (.int (k : Nat)) = some (.tup ((rows.filter (mayB tw [⟨"read", "let", m.tab, m.us, m.c⟩] "read" t u)).map rowD)) := idx_nat (seen_nth hk _ u)
  have nTo : idxD (wD (seenT tw rs u)) (.int (k : Nat)) = some (.tup ((rows.filter (mayB tw rs "read" t u)).map rowD)) := idx_nat (seen_nth hk _ u)
  have i1 : idxD (ruD m) (.int 1) = some (.str m.kind) := at1 _ _ _
  have i2 : idxD (ruD m) (.int 2) = some (.str t.name) := by rw [← hmt]; exact at2 _ _ _ _
  have i3 : idxD (ruD m) (.int 3) = some (.tup (m.us.map .int)) := L2.atI_nat (j := 3) rfl
  obtain ⟨b1, h1, x1⟩ : ∃ b, b = decide (m.kind = ("let" : Str)) ∧ cmpD .eq (.str m.kind) (.str "let") = some b := ⟨_, rfl, eq_ss _ _⟩
  unfold restB
  exists 1, a1
  refine RP.of_no (seen_ok hS hMy hE hO hN hRf hI hLo hJ hH htw (rs := rs ++ [m]) hrs1 (by simp; omega) u 49 _) fun v S1 ⟨e1, e2⟩ => ?_
  subst e1; subst e2
  exists 1, c1, a2, c2, a3
  refine RP.of_no (seen_ok hS hMy hE hO hN hRf hI hLo hJ hH htw (rs := [⟨"read", "let", m.tab, m.us, m.c⟩]) (fun r hr => by rw [List.mem_singleton.mp hr]; exact al) (by simp) u 49 _) fun v S1 ⟨e1, e2⟩ => ?_
  subst e1; subst e2
  have hle := htw.le
  have hfew : rows.length ≤ 12 := htw.few _ hmem
  have mrl : ∀ p : List Int → Bool, (rows.filter p).length ≤ 1000 := fun p => Nat.le_trans (List.length_filter_le _ _) (by omega)
  have hrow : rowsB t (.tup (rows.map rowD)) = true := hB _ hmem
  simp only [rowsB, Bool.and_eq_true, decide_eq_true_eq, List.length_map] at hrow
  have pw : rows.Pairwise fun a b => a < b := by
    have := hrow.2.2.1
    rw [risesI_pw, List.map_map] at this
    have e : (rowI ∘ rowD) = id := by funext r; exact rowI_rowD r
    rw [e, List.map_id] at this
    exact this
  have pne : ∀ r ∈ rows, r ≠ [] := fun r hr e => by
    have h1 : r.length = t.cols.length := htw.len _ hmem r hr
    have h2 : 1 ≤ t.cols.length := (htw.tab _ hmem).len1
    rw [e] at h1
    simp at h1
    omega
  -- the told table, with what is due in it
  have fin : ∀ (due : D) (v16 v20 : Option SV), due = .tup ((rows.filter (mayB tw (rs ++ [m]) "read" t u)).map rowD) →
      cmpD .ne (wD (seenT tw (rs ++ [m]) u)) (.tup (((seenT tw rs u).map rowsT).take k ++ [due] ++ ((seenT tw rs u).map rowsT).drop (k + 1))) = some false := fun due v16 v20 hd => by
    have hok : okD (wD (seenT tw (rs ++ [m]) u)) = true := (ok_wD _).okD (by omega)
    rw [hd, ← seen_more htw hk hmt rs u]
    show (if scalD (wD (seenT tw (rs ++ [m]) u)) (wD (seenT tw (rs ++ [m]) u)) || (okD (wD (seenT tw (rs ++ [m]) u)) && okD (wD (seenT tw (rs ++ [m]) u))) then some (!deq (wD (seenT tw (rs ++ [m]) u)) (wD (seenT tw (rs ++ [m]) u))) else none) = _
    rw [hok, deq_self]
    simp
  have hmu : ∀ r ∈ (rs.filter fun (r : Ru) => decide (r.verb = ("read" : Str)) && decide (r.kind = ("must" : Str))) ++ ([⟨"read", "let", t.name, [], .yes⟩] : List Ru), RuOk (tw.map (·.1)) r := fun r hr => (List.mem_append.mp hr).elim (fun z => hrs r (List.mem_filter.mp z).1) fun z => by rw [List.mem_singleton.mp z]; exact yes_rule ht
  have hml : (rs.filter fun (r : Ru) => decide (r.verb = ("read" : Str)) && decide (r.kind = ("must" : Str))).length ≤ 9 := Nat.le_trans (List.length_filter_le _ _) hrl
  have a4 : binD .add (.lst ((rs.filter fun (r : Ru) => decide (r.verb = ("read" : Str)) && decide (r.kind = ("must" : Str))).map ruD)) (.lst [.tup [.str "read", .str "let", .str m.tab, .tup [], .tup [.str "yes"]]]) = some (.lst (((rs.filter fun (r : Ru) => decide (r.verb = ("read" : Str)) && decide (r.kind = ("must" : Str))) ++ ([⟨"read", "let", t.name, [], .yes⟩] : List Ru)).map ruD)) := by
    rw [hmt]
    simp only [binD]; rw [if_pos (le_sz' (by simp; omega)), List.map_append]; rfl
  have nFi : idxD (wD (seenT tw ((rs.filter fun (r : Ru) => decide (r.verb = ("read" : Str)) && decide (r.kind = ("must" : Str))) ++ ([⟨"read", "let", t.name, [], .yes⟩] : List Ru)) u)) (.int (k : Nat)) = some (.tup ((rows.filter (mayB tw ((rs.filter fun (r : Ru) => decide (r.verb = ("read" : Str)) && decide (r.kind = ("must" : Str))) ++ ([⟨"read", "let", t.name, [], .yes⟩] : List Ru)) "read" t u)).map rowD)) := idx_nat (seen_nth hk _ u)
  have hyes : ∀ row, (lk tw u .yes (colNames t) row).1 = some true := fun row => by first | rfl | (rw [lk]) | simp [lk]
  generalize hAl : mayB tw [⟨"read", "let", m.tab, m.us, m.c⟩] "read" t u = pA at *
  generalize hFi : mayB tw ((rs.filter fun (r : Ru) => decide (r.verb = ("read" : Str)) && decide (r.kind = ("must" : Str))) ++ ([⟨"read", "let", t.name, [], .yes⟩] : List Ru)) "read" t u = pF at *
  generalize hTo : mayB tw rs "read" t u = pT at *
  have s1 : slcD (wD (seenT tw rs u)) none (some (k : Nat)) = some (.tup (((seenT tw rs u).map rowsT).take k)) := by
    show some (D.tup (cutD _ none (some ((k : Nat) : Int)))) = _
    rw [take_cut (by omega)]; rfl
  have s2 : slcD (wD (seenT tw rs u)) (some ((k : Nat) + 1)) none = some (.tup (((seenT tw rs u).map rowsT).drop (k + 1))) := by
    show some (D.tup (cutD _ (some (((k : Nat) : Int) + 1)) none)) = _
    rw [drop_cut (by omega)]; rfl
  have sl : (seenT tw rs u).length ≤ 4 := by unfold seenT; rw [List.length_map]; exact hle
  have b1' : ∀ due : D, binD .add (.tup (((seenT tw rs u).map rowsT).take k)) (.tup [due]) = some (.tup (((seenT tw rs u).map rowsT).take k ++ [due])) := fun due => by
    simp only [binD]; rw [if_pos (le_sz' (by simp; omega))]
  have b2' : ∀ due : D, binD .add (.tup (((seenT tw rs u).map rowsT).take k ++ [due])) (.tup (((seenT tw rs u).map rowsT).drop (k + 1))) = some (.tup (((seenT tw rs u).map rowsT).take k ++ [due] ++ ((seenT tw rs u).map rowsT).drop (k + 1))) := fun due => by
    simp only [binD]; rw [if_pos (le_sz' (by simp; omega))]
  have ak : binD .add (.int (k : Nat)) (.int 1) = some (.int ((k : Nat) + 1)) := rfl
  exists 1, nAl, i1, no_index (⟨_, x1, _, rfl, fun h => ?_, fun h => ?_⟩)
  · have hkd : m.kind = ("let" : Str) := by rw [h1] at h; exact of_decide_eq_true h
    exists 1, i2, a4
    refine RP.of_no (seen_ok hS hMy hE hO hN hRf hI hLo hJ hH htw hmu (by simp; omega) u 49 _) fun v S1 ⟨e1, e2⟩ => ?_
    subst e1; subst e2
    exists 1, nFi, nTo
    refine rp_lcF (ys := rows.filter pA) rowD (fun r => decide (r ∈ rows.filter pF)) rowD (Nat.le_trans (mrl _) (by omega)) (fun r hr acc => ?_) ?_
    · have ir := in_rows r (rows.filter pF)
      refine ⟨_, rfl, ?_⟩
      exists 1, ir
      exact fun _ => rp_var rfl ⟨rfl, rfl⟩
    rw [filt2]
    have a5 : binD .add (.tup ((rows.filter pT).map rowD)) (.tup ((rows.filter fun r => pA r && pF r).map rowD)) = some (.tup ((rows.filter pT).map rowD ++ (rows.filter fun r => pA r && pF r).map rowD)) := by
      have := mrl pT
      have := mrl fun r => pA r && pF r
      simp only [binD]; rw [if_pos (le_sz' (by simp only [List.length_map]; omega))]
    have su := sorted_union pw pne hfew pT (fun r => pA r && pF r)
    have hdue : (rows.filter fun r => pT r || (pA r && pF r)) = rows.filter (mayB tw (rs ++ [m]) "read" t u) := by
      refine List.filter_congr fun r hr => ?_
      rw [may_let tw rs m hmv hkd hmt u r, ← hTo, ← hAl, ← hFi, may_alone tw m hmt u r, may_fit tw rs t u r (hyes r)]
    rw [hdue] at su
    have su' : ∀ S, fz2 .sortsett S [.t (.tup ((rows.filter pT).map rowD ++ (rows.filter fun r => pA r && pF r).map rowD))] = some (.lst ((rows.filter (mayB tw (rs ++ [m]) "read" t u)).map rowD)) := fun S => su
    have f1 := fin _ none none rfl
    exists 1, a5, su' _, s1, b1' _, ak, s2, b2' _
    exists 1, f1
    exact hnx _ _ _ _ _
  · have hkd : m.kind = ("must" : Str) := by
      have := hm.kind
      rw [h1] at h
      have := of_decide_eq_false h
      simp_all
    have e1 := eq_nil m.us
    have e2 := in_ints u m.us
    have hforU : forU u m = (decide (m.us = []) || decide (u ∈ m.us)) := rfl
    generalize decide (m.us = []) = b3 at *
    generalize decide (u ∈ m.us) = b4 at *
    have hmay : ∀ r, mayB tw (rs ++ [m]) "read" t u r = (pT r && (!forU u m || yesL tw u t r m)) := fun r => by rw [may_must tw rs m hmv hkd hmt u r, ← hTo]
    have hcomp : forU u m = true → (rows.filter fun r => pT r && pA r) = rows.filter (mayB tw (rs ++ [m]) "read" t u) := fun hf => List.filter_congr fun r hr => by
      rw [hmay, hf, ← hAl, may_alone tw m hmt u r, hf]
      simp
    exists 1, nTo, i3, e2, s1, b1' _, ak, s2, b2' _, no_index (⟨_, e1, _, rfl, fun h => ?_, fun h => ?_⟩)
    · have hf : forU u m = true := by rw [hforU, h]; rfl
      refine rp_lcF (ys := rows.filter pT) rowD (fun r => decide (r ∈ rows.filter pA)) rowD (Nat.le_trans (mrl _) (by omega)) (fun r hr acc => ?_) ?_
      · have ir := in_rows r (rows.filter pA)
        refine ⟨_, rfl, ?_⟩
        exists 1, ir
        exact fun _ => rp_var rfl ⟨rfl, rfl⟩
      rw [filt2, hcomp hf]
      have f1 := fin _ none none rfl
      exists 1, s1, b1' _, ak, s2, b2' _, f1
      exact hnx _ _ _ _ _
    · have hf : forU u m = true := by rw [hforU, h, Bool.or_true]
      refine rp_lcF (ys := rows.filter pT) rowD (fun r => decide (r ∈ rows.filter pA)) rowD (Nat.le_trans (mrl _) (by omega)) (fun r hr acc => ?_) ?_
      · have ir := in_rows r (rows.filter pA)
        refine ⟨_, rfl, ?_⟩
        exists 1, ir
        exact fun _ => rp_var rfl ⟨rfl, rfl⟩
      rw [filt2, hcomp hf]
      have f1 := fin _ none none rfl
      exists 1, s1, b1' _, ak, s2, b2' _, f1
      exact hnx _ _ _ _ _
    · have hf : forU u m = false := by
        rename_i h3
        rw [hforU, h, h3]; rfl
      have hd : (rows.filter pT) = rows.filter (mayB tw (rs ++ [m]) "read" t u) := List.filter_congr fun r hr => by rw [hmay, hf]; simp
      have f1 := fin (.tup ((rows.filter pT).map rowD)) none none (by rw [hd])
      exists 1, f1
      exact hnx _ _ _ _ _
end M

/-! k17: the law -/
namespace M
open PySem PySem.Spec PyProof.Rows L2
theorem firstEq_str : ∀ (xs : List Str) (k n : Nat) (x : Str), xs[k]? = some x → xs.Nodup → firstEq (.str x) (xs.map .str) n = some (n + k)
  | [], k, n, x, h, _ => by simp at h
  | y :: xs, 0, n, x, h, _ => by
    simp only [List.getElem?_cons_zero, Option.some.injEq] at h
    subst h
    rw [List.map_cons, firstEq, deq, if_pos (beq_self_eq_true _)]; rfl
  | y :: xs, k + 1, n, x, h, nd => by
    have h' : xs[k]? = some x := by simpa using h
    rw [List.nodup_cons] at nd
    have ne : (y == x) = false := beq_eq_false_iff_ne.mpr fun e => nd.1 (by rw [e]; exact List.mem_of_getElem? h')
    rw [List.map_cons, firstEq, deq, ne, firstEq_str xs k (n + 1) x h' nd.2]
    simp only [Bool.false_eq_true, if_false]
    congr 1; omega
theorem index_tab {tw : Tw} (htw : TwOk tw) {k : Nat} {t : Tab} {rows : List (List Int)} (hk : tw[k]? = some (t, rows)) : mthD .index (.lst (tw.map fun p => D.str p.1.name)) [.str t.name] = some (.int (k : Nat)) := by
  have e : (tw.map fun p => D.str p.1.name) = (tw.map fun p => p.1.name).map .str := by rw [List.map_map]; rfl
  have hx : (tw.map fun p => p.1.name)[k]? = some t.name := by rw [List.getElem?_map, hk]; rfl
  have nm : ∀ x ∈ tw.map fun p => p.1.name, NameOk x := fun x hx => by
    obtain ⟨p, hp, rfl⟩ := List.mem_map.mp hx
    exact (htw.tab p hp).name
  have o1 : okD (.str t.name) = true := (Ok.str (k := 0) (nm _ (List.mem_of_getElem? hx)).let_.ok).okD (by omega)
  have o2 : okD (.lst ((tw.map fun p => p.1.name).map .str)) = true := (Ok.lst (k := 0) fun x hx => by
    obtain ⟨y, hy, rfl⟩ := List.mem_map.mp hx
    exact Ok.str (nm y hy).let_.ok).okD (by omega)
  rw [e]
  simp only [mthD, o1, o2, Bool.and_self, if_true, firstEq_str _ k 0 _ hx htw.nd, Option.map_some, Nat.zero_add]
namespace k17
def f_law (i__law_rule_setting i__law_cells i__law_cell_at i__law_draws i__law_world i__law_rules i_seen_world i__law_turned : Nat) : Fn := ⟨1, 21,
  [(.asg (.v 1) (.call i__law_rule_setting [(.call i__law_cells [(.var 0), (.lit (D.int 0)), (.lit (D.int 2))]), (.idx (.lst [(.lit (D.int 20)), (.lit (D.int 300))]) (.bin .mod (.bin .fdiv (.call i__law_cell_at [(.var 0), (.lit (D.int 0))]) (.lit (D.int 7))) (.lit (D.int 2)))), (.lit (D.int 9))])),
  (.asg (.tp [2, 3, 4]) (.var 1)),
  (.for_ (.v 5) (.of (.bin .add (.lst [(.call i__law_cell_at [(.var 0), (.lit (D.int 3))])]) (.slc (.var 0) [(.lit (D.int 4))] [(.lit (D.int 7))]))) [(.asg (.v 6) (.call i__law_draws [(.var 5), (.lit (D.int 400)), (.lit (D.int 1000))])),
  (.asg (.v 7) (.call i__law_world [(.slc (.var 6) [(.lit (D.int 1))] []), (.var 2), (.lit (D.int 6))])),
  (.asg (.v 8) (.idx (.call i__law_rules [(.slc (.var 6) [(.lit (D.int 150))] []), (.var 2), (.lit (D.int 1))]) (.lit (D.int 0)))),
  (.asg (.v 8) (.bin .add (.tup [(.lit (D.str "read"))]) (.slc (.var 8) [(.lit (D.int 1))] []))),
  (.asg (.v 9) (.mth .index (.lc (.v 18) (.of (.var 2)) [] (.idx (.var 18) (.lit (D.int 0)))) [(.idx (.var 8) (.lit (D.int 2)))])),
  (.asg (.v 10) (.lc (.v 19) (.of (.var 3)) [(.and (.cmp .eq (.idx (.var 19) (.lit (D.int 0))) (.lit (D.str "read"))) (.cmp .eq (.idx (.var 19) (.lit (D.int 1))) (.lit (D.str "must"))))] (.var 19))),
  (.for_ (.v 11) (.of (.lst [(.bin .mod (.idx (.var 6) (.lit (D.int 300))) (.lit (D.int 9))), (.bin .mod (.idx (.var 6) (.lit (D.int 301))) (.lit (D.int 9)))])) [(.asg (.v 12) (.call i_seen_world [(.var 1), (.var 7), (.var 11)])),
  (.ife (.cmp .ne (.call i_seen_world [(.tup [(.var 2), (.call i__law_turned [(.var 3), (.bin .add (.bin .mul (.idx (.var 6) (.lit (D.int 302))) (.lit (D.int 1000))) (.idx (.var 6) (.lit (D.int 303))))]), (.var 4)]), (.var 7), (.var 11)]) (.var 12)) [(.ret (.lit (D.bl false)))] []),
  (.asg (.v 13) (.lc (.v 19) (.of (.var 3)) [(.cmp .ne (.slc (.var 19) [] [(.lit (D.int 2))]) (.tup [(.lit (D.str "read")), (.lit (D.str "let"))]))] (.var 19))),
  (.ife (.cmp .ne (.call i_seen_world [(.tup [(.var 2), (.var 13), (.var 4)]), (.var 7), (.var 11)]) (.bi .tuple [(.lc (.v 18) (.of (.var 2)) [] (.tup []))])) [(.ret (.lit (D.bl false)))] []),
  (.ife (.cmp .ne (.call i_seen_world [(.tup [(.var 2), (.lc (.v 19) (.of (.var 3)) [(.cmp .eq (.idx (.var 19) (.lit (D.int 0))) (.lit (D.str "read")))] (.var 19)), (.lst [])]), (.var 7), (.var 11)]) (.var 12)) [(.ret (.lit (D.bl false)))] []),
  (.ife (.cmp .isin (.var 8) (.var 3)) [(.asg (.v 8) (.tup [(.lit (D.str "read")), (.lit (D.str "must")), (.idx (.var 8) (.lit (D.int 2))), (.tup []), (.tup [(.lit (D.str "not")), (.tup [(.lit (D.str "or")), (.tup [(.lit (D.str "yes"))]), (.tup [(.lit (D.str "or")), (.tup [(.lit (D.str "yes"))]), (.tup [(.lit (D.str "yes"))])])])])]))] []),
  (.asg (.v 14) (.call i_seen_world [(.tup [(.var 2), (.bin .add (.var 3) (.lst [(.var 8)])), (.var 4)]), (.var 7), (.var 11)])),
  (.asg (.v 15) (.idx (.call i_seen_world [(.tup [(.var 2), (.lst [(.bin .add (.bin .add (.slc (.var 8) [] [(.lit (D.int 1))]) (.tup [(.lit (D.str "let"))])) (.slc (.var 8) [(.lit (D.int 2))] []))]), (.var 4)]), (.var 7), (.var 11)]) (.var 9))),
  (.ife (.cmp .eq (.idx (.var 8) (.lit (D.int 1))) (.lit (D.str "let"))) [(.asg (.v 16) (.idx (.call i_seen_world [(.tup [(.var 2), (.bin .add (.var 10) (.lst [(.tup [(.lit (D.str "read")), (.lit (D.str "let")), (.idx (.var 8) (.lit (D.int 2))), (.tup []), (.tup [(.lit (D.str "yes"))])])])), (.lst [])]), (.var 7), (.var 11)]) (.var 9))),
  (.asg (.v 17) (.bi .tuple [(.fz .sortsett [(.bin .add (.idx (.var 12) (.var 9)) (.bi .tuple [(.lc (.v 20) (.of (.var 15)) [(.cmp .isin (.var 20) (.var 16))] (.var 20))]))])]))] [(.asg (.v 17) (.idx (.var 12) (.var 9))),
  (.ife (.or (.cmp .eq (.idx (.var 8) (.lit (D.int 3))) (.tup [])) (.cmp .isin (.var 11) (.idx (.var 8) (.lit (D.int 3))))) [(.asg (.v 17) (.bi .tuple [(.lc (.v 20) (.of (.var 17)) [(.cmp .isin (.var 20) (.var 15))] (.var 20))]))] [])]),
  (.ife (.cmp .ne (.var 14) (.bin .add (.bin .add (.slc (.var 12) [] [(.var 9)]) (.tup [(.var 17)])) (.slc (.var 12) [(.bin .add (.var 9) (.lit (D.int 1)))] []))) [(.ret (.lit (D.bl false)))] [])])]),
  (.ret (.lit (D.bl true)))]⟩
theorem top2 (z : Int) : ∃ top : Int, (1 ≤ top ∧ top < 1073741824) ∧ idxD (.lst [.int 20, .int 300]) (.int (z % 2)) = some (.int top) := ⟨_, by split <;> omega, pick2v _ _ _⟩
theorem read_ok {ts : List Tab} {m : Ru} (h : RuOk ts m) : RuOk ts ⟨"read", m.kind, m.tab, m.us, m.c⟩ := ⟨by simp, h.kind, h.tab, h.us, h.hc, h.lo⟩
theorem ne_words {ts : List Tab} {r : Ru} (h : RuOk ts r) : cmpD .ne (.tup [.str r.verb, .str r.kind]) (.tup [.str "read", .str "let"]) = some (!(decide (r.verb = ("read" : Str)) && decide (r.kind = ("let" : Str)))) := by
  have o : ∀ {a b : Str}, PyData.strOk a = true → PyData.strOk b = true → okD (.tup [.str a, .str b]) = true := fun {a b} h1 h2 => (Ok.tup (k := 0) fun x hx => by
    simp only [List.mem_cons, List.not_mem_nil, or_false] at hx
    rcases hx with rfl | rfl
    · exact .str h1
    · exact .str h2).okD (by omega)
  have o1 := o (lit_word h).1 (lit_word h).2
  have o2 : okD (.tup [.str "read", .str "let"]) = true := o (lit_ok _ (by simp)) (lit_ok _ (by simp))
  have e : deq (.tup [.str r.verb, .str r.kind]) (.tup [.str "read", .str "let"]) = (decide (r.verb = ("read" : Str)) && decide (r.kind = ("let" : Str))) := by
    rw [deq, deqs, deqs, deqs, deq_ss, deq_ss, Bool.and_true]
  rw [← e]
  show (if scalD _ _ || (okD (.tup [.str r.verb, .str r.kind]) && okD (.tup [.str "read", .str "let"])) then some (!deq _ _) else none) = _
  rw [o1, o2]
  simp
theorem law_ok {T : List Fn} {i iRS iCs iA iD iW iR iS iTu iG iL iM iU iC iAt iMy iE iN iRf iI iO iLo iJ iH : Nat} (hT : T[i]? = some (f_law iRS iCs iA iD iW iR iS iTu)) (hRS : T[iRS]? = some (f__law_rule_setting iG iD iR)) (hCs : T[iCs]? = some (f__law_cells iA)) (hA : T[iA]? = some f__law_cell_at) (hD : T[iD]? = some f__law_draws) (hW : T[iW]? = some f__law_world) (hR : T[iR]? = some (f__law_rules iC iU)) (hS : T[iS]? = some (f_seen_world iMy)) (hTu : T[iTu]? = some f__law_turned)
    (hG : T[iG]? = some (f__law_ground iL iM)) (hL : T[iL]? = some (f__law_columns iM)) (hM : T[iM]? = some f__law_name) (hU : T[iU]? = some f__law_users) (hCo : T[iC]? = some (f__law_condition iAt iC)) (hAt : T[iAt]? = some f__law_atom)
    (hMy : T[iMy]? = some (f_may iE iN iRf iLo)) (hE : T[iE]? = some (f_every_scene iO)) (hN : T[iN]? = some f_names_of) (hRf : T[iRf]? = some (f_rules_for iI)) (hI : T[iI]? = some f_is_for) (hO : T[iO]? = some (f_tables_of iN)) (hLo : T[iLo]? = some (f_look iJ iH)) (hJ : T[iJ]? = some (f_look_joined iLo)) (hH : T[iH]? = some (f_look_has iLo))
    (ns : List Int) (hn : ns.length ≤ 63) (S : St') :
    RP (FT T 60 i [.t (.lst (ns.map .int))] S) (fun v S' => v = .t (.bl true)) noE := by
  refine rp_fn hT rfl rfl ?_
  simp only [f_law, pad]
  exists 1
  refine RP.of_no (cells_ok hCs hA 57 ns (j := 0) (by omega) _) fun v S1 ⟨e1, a, b, e2⟩ => ?_
  subst e1; subst e2
  exists 1
  refine RP.of_no (cell_val hA 58 ns (j := 0) (by omega) _) fun v S1 ⟨e1, e2⟩ => ?_
  subst e1; subst e2
  generalize cellV ns 0 = z
  have f7 : binD .fdiv (.int z) (.int 7) = some (.int (z / 7)) := by simp only [binD]; rw [if_pos (by omega)]
  have m7 : binD .mod (.int (z / 7)) (.int 2) = some (.int (z / 7 % 2)) := by simp only [binD]; rw [if_pos (by omega)]
  obtain ⟨top, htop, etop⟩ := top2 (z / 7)
  exists 1, f7, m7, etop
  refine RP.of_no (rule_setting_ok hRS hG hL hM hD hR hCo hAt hU 52 a b top htop _ (mm := 9) (by omega)) fun v S1 ⟨e1, ts, rs, e2, hgo, hrl, hrs⟩ => ?_
  subst e1; subst e2
  have hrl : rs.length ≤ 9 := by omega
  have hts := hgo.each
  have h4 := hgo.len4
  have g1 : slcD (.lst (ns.map .int)) (some 4) (some 7) = some (.lst ((cutL ns (some 4) (some 7)).map .int)) := slc_ints _ _ _
  have hcl := cutL_le ns (some 4) (some 7)
  have ha : [D.int (cellV ns 3)].length + ((cutL ns (some 4) (some 7)).map D.int).length ≤ sizeLine := le_sz' (by simp; omega)
  exists 1
  refine RP.of_no (cell_val hA 58 ns (j := 3) (by omega) _) fun v S2 ⟨e1, e2⟩ => ?_
  subst e1; subst e2
  exists 1, g1, if_pos ha
  refine op_fixM (ys := cellV ns 3 :: cutL ns (some 4) (some 7)) D.int (fun rest ρ S' => ∃ k5 k6 k7 k8 k9 k10 k11 k12 k13 k14 k15 k16 k17 k18 k19 k20, ρ = [some (.t (.lst (ns.map .int))), some (.t (stD ts rs)), some (.t (.tup (ts.map tabD))), some (.t (.lst (rs.map ruD))), some (.t (.lst [])), k5, k6, k7, k8, k9, k10, k11, k12, k13, k14, k15, k16, k17, k18, k19, k20]) ⟨_, _, _, _, _, _, _, _, _, _, _, _, _, _, _, _, rfl⟩ ?_ ?_
  · rintro x rest ρ S' ⟨k5, k6, k7, k8, k9, k10, k11, k12, k13, k14, k15, k16, k17, k18, k19, k20, rfl⟩
    refine ⟨_, rfl, ?_⟩
    exists 1
    refine RP.of_no (draws_ok hD 58 x 400 1000 (by omega) (by omega) _) fun v S3 ⟨e1, ps, e2, hpl, hpb⟩ => ?_
    subst e1; subst e2
    have hpl : ps.length = 400 := hpl
    have s1 : slcD (.lst (ps.map .int)) (some 1) none = some (.lst ((ps.drop 1).map .int)) := ints_of (a := 1) (by omega)
    have s150 : slcD (.lst (ps.map .int)) (some 150) none = some (.lst ((ps.drop 150).map .int)) := ints_of (a := 150) (by omega)
    exists 1, s1
    refine RP.of_no (world_ok hW 58 (tp := 6) (by omega) (ps.drop 1) (by rw [List.length_drop]; omega) hts h4 _) fun v S3 ⟨e1, ws, e2, hwb, _⟩ => ?_
    subst e1; subst e2
    obtain ⟨tw, htw1, htw2, htw3⟩ := world_typed hwb
    have htw := twOk_of hgo htw1 htw3
    subst htw1; subst htw2
    exists 1, s150
    refine RP.of_no (rules_ok hR hCo hAt hU hts hgo.len1 53 (ps := ps.drop 150) (many := 1) (by omega) (by omega) (by rw [List.length_drop]; omega) (fun x hx => hpb x (List.mem_of_mem_drop hx)) _) fun v S3 ⟨e1, rs1, e2, hr1, hrs1⟩ => ?_
    subst e1; subst e2
    obtain ⟨m0, rs2, rfl⟩ := List.exists_cons_of_ne_nil (hr1.2 (by omega))
    have hm0 := hrs1 m0 List.mem_cons_self
    have i0 : idxD (.lst ((m0 :: rs2).map ruD)) (.int 0) = some (ruD m0) := at0 _ _
    have c1 : slcD (ruD m0) (some 1) none = some (.tup [.str m0.kind, .str m0.tab, .tup (m0.us.map .int), cdD m0.c]) := rfl
    have a1 : binD .add (.tup [.str "read"]) (.tup [.str m0.kind, .str m0.tab, .tup (m0.us.map .int), cdD m0.c]) = some (ruD ⟨"read", m0.kind, m0.tab, m0.us, m0.c⟩) := by
      simp only [binD]; rw [if_pos (le_sz' (by simp))]; rfl
    have hm := read_ok hm0
    obtain ⟨t, ht, etn, _⟩ := hm0.tab
    obtain ⟨p, hp, rfl⟩ := List.mem_map.mp ht
    obtain ⟨k, hk⟩ := List.getElem?_of_mem hp
    obtain ⟨t, rows⟩ := p
    simp only at etn
    generalize hmm : (⟨"read", m0.kind, m0.tab, m0.us, m0.c⟩ : Ru) = m at *
    have hmv : m.verb = "read" := by rw [← hmm]
    have hmt : m.tab = t.name := by rw [← hmm]; exact etn
    have i2 : idxD (ruD m) (.int 2) = some (.str t.name) := by rw [← hmt]; exact at2 _ _ _ _
    exists 1, i0, c1, a1
    have hle := htw.le
    refine rp_lcM (ys := tw.map (·.1)) tabD (fun t => .str t.name) (by rw [List.length_map]; omega) (fun q hq acc => ?_) ?_
    · have b0 : idxD (tabD q) (.int 0) = some (.str q.name) := at0 _ _
      refine ⟨_, rfl, ?_⟩
      exists 1, b0
    have ix := index_tab htw hk
    have ix' : mth2 .index S3 (.t (.lst ((tw.map (·.1)).map fun t => D.str t.name))) [.t (.str t.name)] = some (.int (k : Nat)) := by
      rw [List.map_map]; exact ix
    exists 1, i2, ix'
    refine rp_lcF (ys := rs) ruD (fun (r : Ru) => decide (r.verb = ("read" : Str)) && decide (r.kind = ("must" : Str))) ruD (by omega) (fun r hr acc => ?_) ?_
    · have a0 : idxD (ruD r) (.int 0) = some (.str r.verb) := at0 _ _
      have a1 : idxD (ruD r) (.int 1) = some (.str r.kind) := at1 _ _ _
      obtain ⟨b1, h1, x1⟩ : ∃ b, b = decide (r.verb = ("read" : Str)) ∧ cmpD .eq (.str r.verb) (.str "read") = some b := ⟨_, rfl, eq_ss _ _⟩
      obtain ⟨b2, h2, x2⟩ : ∃ b, b = decide (r.kind = ("must" : Str)) ∧ cmpD .eq (.str r.kind) (.str "must") = some b := ⟨_, rfl, eq_ss _ _⟩
      rw [← h1, ← h2]
      refine ⟨_, rfl, ?_⟩
      exists 1, a0, a1, no_index (⟨_, x1, _, rfl, fun h => ?_, fun h => ?_⟩), no_index (⟨_, x2, _, rfl, fun h => ?_, fun h => ?_⟩)
      all_goals
        first | refine ⟨_, rfl, ?_, rfl, fun _ => rp_var rfl ⟨rfl, rfl⟩⟩ | refine ⟨?_, rfl, fun _ => rp_var rfl ⟨rfl, rfl⟩⟩
        simp_all [deq_ss]
    have md9 : ∀ z : Int, binD .mod (.int z) (.int 9) = some (.int (z % 9)) := fun z => by simp only [binD]; rw [if_pos (by omega)]
    have p300 : idxD (.lst (ps.map .int)) (.int 300) = some (.int (sget ps 300)) := at_int (j := 300) (by omega)
    have p301 : idxD (.lst (ps.map .int)) (.int 301) = some (.int (sget ps 301)) := at_int (j := 301) (by omega)
    have p302 : idxD (.lst (ps.map .int)) (.int 302) = some (.int (sget ps 302)) := at_int (j := 302) (by omega)
    have p303 : idxD (.lst (ps.map .int)) (.int 303) = some (.int (sget ps 303)) := at_int (j := 303) (by omega)
    have q300 := md9 (sget ps 300)
    have q301 := md9 (sget ps 301)
    generalize hmu : (rs.filter fun (r : Ru) => decide (r.verb = ("read" : Str)) && decide (r.kind = ("must" : Str))) = mu
    exists 1, p300, q300, p301, q301
    refine op_fixM (ys := [sget ps 300 % 9, sget ps 301 % 9]) D.int (fun rest ρ S' => ∃ (m : Ru) (k11 k12 k13 k14 k15 k16 k17 k18 k19 k20 : Option SV), ρ = [some (.t (.lst (ns.map .int))), some (.t (stD (tw.map (·.1)) rs)), some (.t (.tup ((tw.map (·.1)).map tabD))), some (.t (.lst (rs.map ruD))), some (.t (.lst [])), some (.t (.int x)), some (.t (.lst (ps.map .int))), some (.t (wD tw)), some (.t (ruD m)), some (.t (.int (k : Nat))), some (.t (.lst (mu.map ruD))), k11, k12, k13, k14, k15, k16, k17, k18, k19, k20] ∧ RuOk (tw.map (·.1)) m ∧ m.verb = "read" ∧ m.tab = t.name) ⟨m, _, _, _, _, _, _, _, _, _, _, rfl, hm, hmv, hmt⟩ ?_ ?_
    · rintro u rest ρ S4 ⟨m, k11, k12, k13, k14, k15, k16, k17, k18, k19, k20, rfl, hm, hmv, hmt⟩
      refine ⟨_, rfl, ?_⟩
      have m302 : binD .mul (.int (sget ps 302)) (.int 1000) = some (.int (sget ps 302 * 1000)) := by
        simp only [binD]; rw [if_pos (by right; left; decide)]
      exists 1
      refine RP.of_no (seen_ok hS hMy hE hO hN hRf hI hLo hJ hH htw hrs (by omega) u 49 _) fun v S5 ⟨e1, e2⟩ => ?_
      subst e1; subst e2
      exists 1, p302, m302, p303
      have z2 := hpb _ (sget_mem (ss := ps) (j := 302) (by omega))
      have z3 := hpb _ (sget_mem (ss := ps) (j := 303) (by omega))
      refine RP.of_no (turned_ok hTu 58 (rs := rs) (by omega) (pick := sget ps 302 * 1000 + sget ps 303) (by omega) _) fun v S5 ⟨e1, ss, pm, e2⟩ => ?_
      subst e1; subst e2
      exists 1
      refine RP.of_no (seen_ok hS hMy hE hO hN hRf hI hLo hJ hH htw (rs := ss) (fun r hr => hrs r (pm.mem_iff.mp hr)) (by rw [pm.length_eq]; omega) u 49 _) fun v S5 ⟨e1, e2⟩ => ?_
      subst e1; subst e2
      rw [seenT_perm pm]
      have hok : ∀ rs', okD (wD (seenT tw rs' u)) = true := fun _ => (ok_wD _).okD (by omega)
      exists 1, no_index (neD (hok rs) ?_)
      refine rp_lcF (ys := rs) ruD (fun (r : Ru) => !(decide (r.verb = ("read" : Str)) && decide (r.kind = ("let" : Str)))) ruD (by omega) (fun r hr acc => ?_) ?_
      · have c2 : slcD (ruD r) none (some 2) = some (.tup [.str r.verb, .str r.kind]) := rfl
        have n2 := ne_words (hrs r hr)
        refine ⟨_, rfl, ?_⟩
        exists 1, c2, n2
        exact fun _ => rp_var rfl ⟨rfl, rfl⟩
      exists 1
      refine RP.of_no (seen_ok hS hMy hE hO hN hRf hI hLo hJ hH htw (rs := rs.filter fun (r : Ru) => !(decide (r.verb = ("read" : Str)) && decide (r.kind = ("let" : Str)))) (fun r hr => hrs r (List.mem_filter.mp hr).1) (Nat.le_trans (List.length_filter_le _ _) (by omega)) u 49 _) fun v S5 ⟨e1, e2⟩ => ?_
      subst e1; subst e2
      have en := seenT_none (tw := tw) (rs := rs.filter fun (r : Ru) => !(decide (r.verb = ("read" : Str)) && decide (r.kind = ("let" : Str)))) (fun r hr z => by have := (List.mem_filter.mp hr).2; simp [z.1, z.2] at this) u
      rw [en]
      exists 1
      refine rp_lcM (ys := tw.map (·.1)) tabD (fun _ => .tup []) (by rw [List.length_map]; omega) (fun q hq acc => ?_) ?_
      · refine ⟨_, rfl, ?_⟩
        exists 1
      have ew : wD (tw.map fun p => (p.1, ([] : List (List Int)))) = .tup ((tw.map (·.1)).map fun _ => D.tup []) := by
        unfold wD; rw [List.map_map, List.map_map]; rfl
      have hok2 : okD (.tup ((tw.map (·.1)).map fun _ => D.tup [])) = true := by rw [← ew]; exact (ok_wD _).okD (by omega)
      rw [ew]
      exists 1, no_index (neD hok2 ?_)
      refine rp_lcF (ys := rs) ruD (fun (r : Ru) => decide (r.verb = ("read" : Str))) ruD (by omega) (fun r hr acc => ?_) ?_
      · have c0 : idxD (ruD r) (.int 0) = some (.str r.verb) := at0 _ _
        have x0 := eq_ss r.verb "read"
        refine ⟨_, rfl, ?_⟩
        exists 1, c0, x0
        exact fun _ => rp_var rfl ⟨rfl, rfl⟩
      exists 1
      refine RP.of_no (seen_ok hS hMy hE hO hN hRf hI hLo hJ hH htw (rs := rs.filter fun (r : Ru) => decide (r.verb = ("read" : Str))) (fun r hr => hrs r (List.mem_filter.mp hr).1) (Nat.le_trans (List.length_filter_le _ _) (by omega)) u 49 _) fun v S5 ⟨e1, e2⟩ => ?_
      subst e1; subst e2
      rw [seenT_reads]
      have ht : t ∈ tw.map (·.1) := List.mem_map.mpr ⟨_, List.mem_of_getElem? hk, rfl⟩
      exists 1, no_index (op_cons (restA_ok hts hrs ht hm hmv hmt fun m2 hm2 hmv2 hmt2 => restB_ok hS hMy hE hN hRf hI hO hLo hJ hH htw htw3 hrs hrl hk hm2 hmv2 hmt2 u hmu fun _ _ _ _ _ => ⟨m2, _, _, _, _, _, _, _, _, _, _, rfl, hm2, hmv2, hmt2⟩)), no_index (neD (hok rs) ?_)
    · rintro ρ S4 ⟨m, k11, k12, k13, k14, k15, k16, k17, k18, k19, k20, rfl, _⟩
      exact ⟨_, _, _, _, _, _, _, _, _, _, _, _, _, _, _, _, rfl⟩
  · rintro ρ S' ⟨k5, k6, k7, k8, k9, k10, k11, k12, k13, k14, k15, k16, k17, k18, k19, k20, rfl⟩
    exists 1
end k17
end M

namespace M
open PySem PySem.Spec PyProof.Rows L2
namespace k17
theorem cb_Scene : CnBn cn_Scene := fun _ _ _ _ _ _ us hl => match us, hl with | [_, _, _, _, _], _ => rfl
def cs : List (Str × D) := []
def e_names_of : En := ⟨d_names_of, ⟨"names_of", ["table"], none⟩, ["table", "column"], f_names_of, false⟩
theorem b_names_of : BnOk e_names_of := fun _ _ _ _ _ _ us hl => match us, hl with | [_], _ => rfl
def e_tables_of : En := ⟨d_tables_of, ⟨"tables_of", ["ground", "world"], none⟩, ["ground", "world", "table", "rows"], (f_tables_of 0), false⟩
theorem b_tables_of : BnOk e_tables_of := fun _ _ _ _ _ _ us hl => match us, hl with | [_, _], _ => rfl
def e_look : En := ⟨d_look, ⟨"look", ["scene", "columns", "row", "condition", "noted"], none⟩, ["scene", "columns", "row", "condition", "noted", "word", "value", "other"], (f_look 3 4), false⟩
theorem b_look : BnOk e_look := fun _ _ _ _ _ _ us hl => match us, hl with | [_, _, _, _, _], _ => rfl
def e_look_joined : En := ⟨d_look_joined, ⟨"look_joined", ["scene", "columns", "row", "condition", "noted"], none⟩, ["scene", "columns", "row", "condition", "noted", "left", "right"], (f_look_joined 2), false⟩
theorem b_look_joined : BnOk e_look_joined := fun _ _ _ _ _ _ us hl => match us, hl with | [_, _, _, _, _], _ => rfl
def e_look_has : En := ⟨d_look_has, ⟨"look_has", ["scene", "value", "condition", "noted"], none⟩, ["scene", "value", "condition", "noted", "columns", "rows", "at", "row"], (f_look_has 2), false⟩
theorem b_look_has : BnOk e_look_has := fun _ _ _ _ _ _ us hl => match us, hl with | [_, _, _, _], _ => rfl
def e_is_for : En := ⟨d_is_for, ⟨"is_for", ["users", "user"], none⟩, ["users", "user"], f_is_for, false⟩
theorem b_is_for : BnOk e_is_for := fun _ _ _ _ _ _ us hl => match us, hl with | [_, _], _ => rfl
def e_rules_for : En := ⟨d_rules_for, ⟨"rules_for", ["setting", "verb", "kind", "table", "user"], none⟩, ["setting", "verb", "kind", "table", "user", "rule"], (f_rules_for 5), false⟩
theorem b_rules_for : BnOk e_rules_for := fun _ _ _ _ _ _ us hl => match us, hl with | [_, _, _, _, _], _ => rfl
def e_every_scene : En := ⟨d_every_scene, ⟨"every_scene", ["setting", "world", "user"], none⟩, ["setting", "world", "user", "view"], (f_every_scene 1), false⟩
theorem b_every_scene : BnOk e_every_scene := fun _ _ _ _ _ _ us hl => match us, hl with | [_, _, _], _ => rfl
def e_may : En := ⟨d_may, ⟨"may", ["setting", "world", "verb", "table", "user", "row"], none⟩, ["setting", "world", "verb", "table", "user", "row", "scene", "columns", "lets", "musts", "one"], (f_may 7 0 6 2), false⟩
theorem b_may : BnOk e_may := fun _ _ _ _ _ _ us hl => match us, hl with | [_, _, _, _, _, _], _ => rfl
def e_seen_world : En := ⟨d_seen_world, ⟨"seen_world", ["setting", "world", "user"], none⟩, ["setting", "world", "user", "table", "rows", "row"], (f_seen_world 8), false⟩
theorem b_seen_world : BnOk e_seen_world := fun _ _ _ _ _ _ us hl => match us, hl with | [_, _, _], _ => rfl
def e__law_cell_at : En := ⟨d__law_cell_at, ⟨"_law_cell_at", ["script", "k"], none⟩, ["script", "k"], f__law_cell_at, false⟩
theorem b__law_cell_at : BnOk e__law_cell_at := fun _ _ _ _ _ _ us hl => match us, hl with | [_, _], _ => rfl
def e__law_draws : En := ⟨d__law_draws, ⟨"_law_draws", ["cell", "many", "base"], none⟩, ["cell", "many", "base", "found", "rest", "stirred", "k"], f__law_draws, false⟩
theorem b__law_draws : BnOk e__law_draws := fun _ _ _ _ _ _ us hl => match us, hl with | [_, _, _], _ => rfl
def e__law_name : En := ⟨d__law_name, ⟨"_law_name", ["some", "taken"], none⟩, ["some", "taken", "letters", "size", "word", "k", "barred", "ways", "letter", "one"], f__law_name, false⟩
theorem b__law_name : BnOk e__law_name := fun _ _ _ _ _ _ us hl => match us, hl with | [_, _], _ => rfl
def e__law_columns : En := ⟨d__law_columns, ⟨"_law_columns", ["picks", "many", "top"], none⟩, ["picks", "many", "top", "found", "room", "k", "some", "values", "empty", "one"], (f__law_columns 12), false⟩
theorem b__law_columns : BnOk e__law_columns := fun _ _ _ _ _ _ us hl => match us, hl with | [_, _, _], _ => rfl
def e__law_ground : En := ⟨d__law_ground, ⟨"_law_ground", ["picks", "top"], none⟩, ["picks", "top", "found", "left", "k", "some", "columns", "room", "key", "name", "one"], (f__law_ground 13 12), false⟩
theorem b__law_ground : BnOk e__law_ground := fun _ _ _ _ _ _ us hl => match us, hl with | [_, _], _ => rfl
def e__law_world : En := ⟨d__law_world, ⟨"_law_world", ["picks", "ground", "top"], none⟩, ["picks", "ground", "top", "found", "k", "table", "some", "rows", "j", "row", "i", "column", "size", "least", "key"], f__law_world, false⟩
theorem b__law_world : BnOk e__law_world := fun _ _ _ _ _ _ us hl => match us, hl with | [_, _, _], _ => rfl
def e__law_atom : En := ⟨d__law_atom, ⟨"_law_atom", ["picks", "columns", "ways"], none⟩, ["picks", "columns", "ways", "words", "word", "column", "value"], f__law_atom, false⟩
theorem b__law_atom : BnOk e__law_atom := fun _ _ _ _ _ _ us hl => match us, hl with | [_, _, _], _ => rfl
def e__law_condition : En := ⟨d__law_condition, ⟨"_law_condition", ["picks", "parts", "ground", "columns", "ways"], none⟩, ["picks", "parts", "ground", "columns", "ways", "words", "word", "table", "names", "inner", "left", "one", "column"], (f__law_condition 16 17), false⟩
theorem b__law_condition : BnOk e__law_condition := fun _ _ _ _ _ _ us hl => match us, hl with | [_, _, _, _, _], _ => rfl
def e__law_users : En := ⟨d__law_users, ⟨"_law_users", ["picks"], none⟩, ["picks", "pick"], f__law_users, false⟩
theorem b__law_users : BnOk e__law_users := fun _ _ _ _ _ _ us hl => match us, hl with | [_], _ => rfl
def e__law_rules : En := ⟨d__law_rules, ⟨"_law_rules", ["picks", "ground", "many"], none⟩, ["picks", "ground", "many", "found", "k", "some", "verb", "kind", "table", "names", "condition", "rule", "column"], (f__law_rules 17 18), false⟩
theorem b__law_rules : BnOk e__law_rules := fun _ _ _ _ _ _ us hl => match us, hl with | [_, _, _], _ => rfl
def e__law_cells : En := ⟨d__law_cells, ⟨"_law_cells", ["script", "at", "many"], none⟩, ["script", "at", "many", "k"], (f__law_cells 10), false⟩
theorem b__law_cells : BnOk e__law_cells := fun _ _ _ _ _ _ us hl => match us, hl with | [_, _, _], _ => rfl
def e__law_rule_setting : En := ⟨d__law_rule_setting, ⟨"_law_rule_setting", ["cells", "top", "rules"], none⟩, ["cells", "top", "rules", "ground", "picks"], (f__law_rule_setting 14 11 19), false⟩
theorem b__law_rule_setting : BnOk e__law_rule_setting := fun _ _ _ _ _ _ us hl => match us, hl with | [_, _, _], _ => rfl
def e__law_turned : En := ⟨d__law_turned, ⟨"_law_turned", ["rules", "pick"], none⟩, ["rules", "pick", "found", "k", "rule"], f__law_turned, false⟩
theorem b__law_turned : BnOk e__law_turned := fun _ _ _ _ _ _ us hl => match us, hl with | [_, _], _ => rfl
def e_law : En := ⟨d_law, ⟨"law", ["script"], none⟩, ["script", "setting", "ground", "rules", "views", "cell", "picks", "world", "more", "at", "must", "user", "told", "some", "found", "alone", "fit", "due", "table", "rule", "row"], (f_law 21 20 10 11 15 19 9 22), true⟩
theorem b_law : BnOk e_law := fun _ _ _ _ _ _ us hl => match us, hl with | [_], _ => rfl
def es : List En := [e_names_of, e_tables_of, e_look, e_look_joined, e_look_has, e_is_for, e_rules_for, e_every_scene, e_may, e_seen_world, e__law_cell_at, e__law_draws, e__law_name, e__law_columns, e__law_ground, e__law_world, e__law_atom, e__law_condition, e__law_users, e__law_rules, e__law_cells, e__law_rule_setting, e__law_turned, e_law]
def T : List Fn := [f_names_of, (f_tables_of 0), (f_look 3 4), (f_look_joined 2), (f_look_has 2), f_is_for, (f_rules_for 5), (f_every_scene 1), (f_may 7 0 6 2), (f_seen_world 8), f__law_cell_at, f__law_draws, f__law_name, (f__law_columns 12), (f__law_ground 13 12), f__law_world, f__law_atom, (f__law_condition 16 17), f__law_users, (f__law_rules 17 18), (f__law_cells 10), (f__law_rule_setting 14 11 19), f__law_turned, (f_law 21 20 10 11 15 19 9 22)]
theorem T_eq : es.map (·.f) = T := rfl
def md : Md := ⟨es, free, cs, [cn_Scene], []⟩
theorem es_ok : md.ok = true := by decide +kernel
theorem cb_ok : ∀ c ∈ md.cl, CnBn c := by
  intro c hc
  simp only [md, List.mem_cons, List.not_mem_nil, or_false] at hc
  rcases hc with rfl
  · exact cb_Scene
theorem bn_ok : ∀ e ∈ md.es, BnOk e := by
  intro e he
  simp only [md, es, List.mem_cons, List.not_mem_nil, or_false] at he
  rcases he with rfl | rfl | rfl | rfl | rfl | rfl | rfl | rfl | rfl | rfl | rfl | rfl | rfl | rfl | rfl | rfl | rfl | rfl | rfl | rfl | rfl | rfl | rfl | rfl
  · exact b_names_of
  · exact b_tables_of
  · exact b_look
  · exact b_look_joined
  · exact b_look_has
  · exact b_is_for
  · exact b_rules_for
  · exact b_every_scene
  · exact b_may
  · exact b_seen_world
  · exact b__law_cell_at
  · exact b__law_draws
  · exact b__law_name
  · exact b__law_columns
  · exact b__law_ground
  · exact b__law_world
  · exact b__law_atom
  · exact b__law_condition
  · exact b__law_users
  · exact b__law_rules
  · exact b__law_cells
  · exact b__law_rule_setting
  · exact b__law_turned
  · exact b_law
abbrev hk : PySem.W.Hook := hkOf 4 md
def ob (s : PySem.W.SharedT) : He.AlX := He.obsX 4 md.fa md.ds md.ts [] md.ex (HandSHeadRun.getT s)
theorem ob_eq (s : PySem.W.SharedT) : ob s = hk.obs s.abs := He.obsX_eq (HandSHeadRun.getT_eq s)
theorem run (w : World) : HandSHeadRun.RunEq Rr (PySem.W.view Rr.prog [28]) hk ob 4000 loose w :=
  run0 w

theorem law_true : ∀ ns : List Int, ns.length ≤ 63 → ∃ S', FT T 60 23 [.t (.lst (ns.map .int))] [] = .ok (.t (.bl true)) S' := by
  intro ns hn
  obtain ⟨v, S', e, rfl⟩ := RP.get (law_ok (T := T) (i := 23) (iRS := 21) (iCs := 20) (iA := 10) (iD := 11) (iW := 15) (iR := 19) (iS := 9) (iTu := 22) (iG := 14) (iL := 13) (iM := 12) (iU := 18) (iC := 17) (iAt := 16) (iMy := 8) (iE := 7) (iN := 0) (iRf := 6) (iI := 5) (iO := 1) (iLo := 2) (iJ := 3) (iH := 4) rfl rfl rfl rfl rfl rfl rfl rfl rfl rfl rfl rfl rfl rfl rfl rfl rfl rfl rfl rfl rfl rfl rfl rfl ns hn [])
  exact ⟨S', e⟩

open PySem PySem.W PySem.Calls PyProof.Rows in
theorem ans : PySem.Challenge.rw_rowveil_k17_whole_rules.Holds := by
  w_on; o_law
  refine HandSHeadRun.head_any (r := OpenLaw.row PySem.Challenge.rw_rowveil_k17_whole_rules) (q := view (OpenLaw.row PySem.Challenge.rw_rowveil_k17_whole_rules).prog [28]) (H := hk) (ob := ob) (M := 4000) (loose := loose) (d := HandSHeadRun.topDef (OpenLaw.row PySem.Challenge.rw_rowveil_k17_whole_rules).prog 28) (kwd := []) ob_eq
    (by kernel_rfl) (fun s => by kernel_rfl) run (by kernel_rfl) (by kernel_rfl) (by kernel_rfl) (by rfl) (by first | assumption | decide +kernel) (by decide +kernel) ⟨rfl, rfl, rfl, rfl, rfl, by decide +kernel⟩ ?hw ?hc
  case hw => w_witness2
  case hc =>
    refine walk_ofM (l := PySem.Challenge.rw_rowveil_k17_whole_rules) rfl (by kernel_rfl) ?F
    case F =>
      intro w mg fa h Y G hmg0
      have hmg : mg ("law" : PySem.Str) = some (.ref fa) := by
        have e : (HandSHeadRun.topDef (OpenLaw.row PySem.Challenge.rw_rowveil_k17_whole_rules).prog 28).name = ("law" : PySem.Str) := by kernel_rfl
        rw [← e]
        exact hmg0
      exact law_end (M := md) es_ok bn_ok cb_ok (i := 23) (e := e_law) (n := 59) rfl rfl rfl ⟨rfl, by decide, by decide⟩ Y G hmg law_true


end k17
end M

theorem PySem.Challenge.cw_rowveil_k17_whole_rules_holds : PySem.Challenge.rw_rowveil_k17_whole_rules.Holds :=
  M.k17.ans
