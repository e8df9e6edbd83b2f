import PyProof.Rows.All
import Wide.All
import OpenK.AllK
import Wide.FinOn
import HandS.ForMost
import HandS.Exc
import HandS.TryOnly
import HandS.ExcOwn
import HandS.WordsExc
import HandS.Deep
import HandS.IsInst
import HandS.TupAny
import HandS.TupLe
import HandS.Zip
import HandS.Flow
import HandS.Defaults
import HandS.Wide
import HandS.Dict
import HandS.HeadHook1
import KE.SortData
import HandS.HeadEnd
import HandS.HeadHook4
import HandS.Head2
import KE.DataFind
import HandS.Set
import HandS.SetTxt0
import HandS.SetFor
import KE.GoesEnum
import KE.GoesNew
import HandS.SetBool
import HandS.TupSets
import HandS.Walk
import HandS.More
import HandS.ReplaceLit
import HandS.Style
import PySem.Challenge.RW_rowveil_k14_what_are_rules
set_option Elab.async false
set_option linter.all false
set_option maxRecDepth 100000
set_option maxHeartbeats 4000000
/-! the data of the pure part of Python, what stands for it in the heap -/
namespace M
open PySem PySem.Spec PyProof.Rows L2

inductive D where
  | non | bl (b : Bool) | int (i : Int) | str (x : Str)
  | tup (xs : List D) | lst (xs : List D)
  deriving Inhabited

/-- a changeable object of the call: a list, a dict; given away -/
inductive O where
  | lst (xs : List D) | dt (kvs : List (List Key × D)) | dk (kvs : List (Key × D)) | dead
  deriving Inhabited

/-- a value: data; an object of the state; a dict that stays (keys: atoms; tuples of atoms); a record of a class, its fields by name -/
inductive SV where
  | t (d : D) | o (i : Nat)
  | kd (kvs : List (Key × D)) | td (kvs : List (List Key × D))
  | ins (c : Str) (ns : List Str) (fs : List SV)
  deriving Inhabited

abbrev St' := List O
abbrev Ev := List (Option SV)

inductive R (α : Type) where
  | ok (a : α) (S : St') | exc (c : Nat) (p : List D) (S : St') | bad

namespace R
def bind {α β : Type} : R α → (α → St' → R β) → R β
  | .ok a S, f => f a S
  | .exc c p S, _ => .exc c p S
  | .bad, _ => .bad
@[simp] theorem bind_ok {α β : Type} (a : α) (S : St') (f : α → St' → R β) : (R.ok a S).bind f = f a S := rfl
@[simp] theorem bind_exc {α β : Type} (c : Nat) (p : List D) (S : St') (f : α → St' → R β) : (R.exc c p S : R α).bind f = .exc c p S := rfl
@[simp] theorem bind_bad {α β : Type} (f : α → St' → R β) : (R.bad : R α).bind f = .bad := rfl
theorem bind_assoc {α β γ : Type} (r : R α) (f : α → St' → R β) (g : β → St' → R γ) : (r.bind f).bind g = r.bind fun a S => (f a S).bind g := by cases r <;> rfl
def opt {α : Type} (o : Option α) (S : St') : R α := match o with
  | some a => .ok a S
  | none => .bad
@[simp] theorem opt_some {α : Type} (a : α) (S : St') : opt (some a) S = .ok a S := rfl
@[simp] theorem opt_none {α : Type} (S : St') : opt (none : Option α) S = .bad := rfl
end R

/-- the addresses of the live objects: not to be seen by data -/
def Own (m : List Addr) (S : St') (a : Addr) : Prop := ∃ i : Nat, m[i]? = some a ∧ ∃ o, S[i]? = some o ∧ o ≠ .dead

/-- as SqT, SqL, what is tracked being none of the live objects -/
def QT (K : PySem.W.Frag) (H : Hp) (N : Addr → Prop) (a : Addr) (xs : List V) : Prop :=
  (Rd H a (.tup xs) ∧ ¬ N a) ∨ ∃ (o : Obj) (its : Array Value) (n : Nat), K.lookup a = some o ∧ o.cls = .type "tuple" ∧ o.data = .seq its n ∧ its.size ≤ sizeLine ∧ Vals xs its.toList
def QL (H : Hp) (N : Addr → Prop) (a : Addr) (xs : List V) : Prop := Rd H a (.lst xs) ∧ ¬ N a
theorem QT.sq {K : PySem.W.Frag} {H : Hp} {N : Addr → Prop} {a : Addr} {xs : List V} (h : QT K H N a xs) : SqT K H a xs := h.elim (fun z => .inl z.1) .inr
theorem QL.sq {K : PySem.W.Frag} {H : Hp} {N : Addr → Prop} {a : Addr} {xs : List V} (h : QL H N a xs) : SqL K H a xs := .inl h.1

mutual
inductive Rep (K : PySem.W.Frag) (H : Hp) (N : Addr → Prop) : V → D → Prop
  | non : Rep K H N .non .non
  | bl (b : Bool) : Rep K H N (.bl b) (.bl b)
  | int (i : Int) : Rep K H N (.int i) (.int i)
  | str (x : Str) : Rep K H N (.str x) (.str x)
  | tup {a : Addr} {vs : List V} {ds : List D} : QT K H N a vs → Reps K H N vs ds → Rep K H N (.ref a) (.tup ds)
  | lst {a : Addr} {vs : List V} {ds : List D} : QL H N a vs → Reps K H N vs ds → Rep K H N (.ref a) (.lst ds)
inductive Reps (K : PySem.W.Frag) (H : Hp) (N : Addr → Prop) : List V → List D → Prop
  | nil : Reps K H N [] []
  | cons {v : V} {vs : List V} {d : D} {ds : List D} : Rep K H N v d → Reps K H N vs ds → Reps K H N (v :: vs) (d :: ds)
end

/-- what is seen stays, and stays seen -/
def Fr (H : Hp) (m : List Addr) (S : St') (H' : Hp) (m' : List Addr) (S' : St') : Prop :=
  (∀ a o, H a = some o → ¬ Own m S a → H' a = some o ∧ ¬ Own m' S' a) ∧ m <+: m'

theorem Fr.refl {H : Hp} {m : List Addr} {S : St'} : Fr H m S H m S := ⟨fun _ _ h n => ⟨h, n⟩, List.prefix_refl _⟩
theorem Fr.trans {H H1 H2 : Hp} {m m1 m2 : List Addr} {S S1 S2 : St'} (a : Fr H m S H1 m1 S1) (b : Fr H1 m1 S1 H2 m2 S2) : Fr H m S H2 m2 S2 :=
  ⟨fun c o h n => let ⟨h1, n1⟩ := a.1 c o h n; b.1 c o h1 n1, a.2.trans b.2⟩

section
variable {K : PySem.W.Frag} {H H' : Hp} {N N' : Addr → Prop}
theorem QT.mono (f : ∀ a o, H a = some o → ¬ N a → H' a = some o ∧ ¬ N' a) {a : Addr} {xs : List V} (h : QT K H N a xs) : QT K H' N' a xs := by
  rcases h with ⟨h | ⟨o, h⟩, n⟩ | h
  · exact .inl ⟨.inl (f _ _ h n).1, (f _ _ h n).2⟩
  · exact .inl ⟨.inr ⟨o, (f _ _ h n).1⟩, (f _ _ h n).2⟩
  · exact .inr h
theorem QL.mono (f : ∀ a o, H a = some o → ¬ N a → H' a = some o ∧ ¬ N' a) {a : Addr} {xs : List V} (h : QL H N a xs) : QL H' N' a xs := by
  rcases h with ⟨h | ⟨o, h⟩, n⟩
  · exact ⟨.inl (f _ _ h n).1, (f _ _ h n).2⟩
  · exact ⟨.inr ⟨o, (f _ _ h n).1⟩, (f _ _ h n).2⟩
mutual
theorem Rep.mono (f : ∀ a o, H a = some o → ¬ N a → H' a = some o ∧ ¬ N' a) : ∀ {v : V} {d : D}, Rep K H N v d → Rep K H' N' v d
  | _, _, .non => .non
  | _, _, .bl b => .bl b
  | _, _, .int i => .int i
  | _, _, .str x => .str x
  | _, _, .tup q r => .tup (q.mono f) (Reps.mono f r)
  | _, _, .lst q r => .lst (q.mono f) (Reps.mono f r)
theorem Reps.mono (f : ∀ a o, H a = some o → ¬ N a → H' a = some o ∧ ¬ N' a) : ∀ {v : List V} {d : List D}, Reps K H N v d → Reps K H' N' v d
  | _, _, .nil => .nil
  | _, _, .cons q r => .cons (Rep.mono f q) (Reps.mono f r)
end
end

/-- an object as it stands -/
def ORep (K : PySem.W.Frag) (H : Hp) (N : Addr → Prop) (a : Addr) : O → Prop
  | .lst xs => ∃ vs, H a = some (.lst vs) ∧ Reps K H N vs xs
  | .dt kvs => ∃ kv : List (List Key × V), H a = some (.dT kv) ∧ kv.map (·.1) = kvs.map (·.1) ∧ (kvs.map (·.1)).Nodup ∧ Reps K H N (kv.map (·.2)) (kvs.map (·.2))
  | .dk kvs => ∃ kv : List (Key × V), H a = some (.dK kv) ∧ kv.map (·.1) = kvs.map (·.1) ∧ Reps K H N (kv.map (·.2)) (kvs.map (·.2))
  | .dead => ∃ o, H a = some o

structure StOk (K : PySem.W.Frag) (H : Hp) (m : List Addr) (S : St') : Prop where
  len : m.length = S.length
  nd : m.Nodup
  at_ : ∀ (i : Nat) (a : Addr) (o : O), m[i]? = some a → S[i]? = some o → ORep K H (Own m S) a o

/-- what the text's class c, with the fields ns, must have -/
def ClsF (K : PySem.W.Frag) (c : Str) (ns : List Str) : Prop := Cls K (He.ga K c) ∧ ∀ f ∈ ns, NoAttr K (He.ga K c) f
mutual
def RepS (K : PySem.W.Frag) (H : Hp) (m : List Addr) (S : St') (v : V) : SV → Prop
  | .t d => Rep K H (Own m S) v d
  | .o i => ∃ a, m[i]? = some a ∧ v = .ref a
  | .kd kvs => ∃ (a : Addr) (kv : List (Key × V)), v = .ref a ∧ Rd H a (.dK kv) ∧ ¬ Own m S a ∧ kv.map (·.1) = kvs.map (·.1) ∧ Reps K H (Own m S) (kv.map (·.2)) (kvs.map (·.2))
  | .td kvs => ∃ (a : Addr) (kv : List (List Key × V)), v = .ref a ∧ Rd H a (.dT kv) ∧ ¬ Own m S a ∧ kv.map (·.1) = kvs.map (·.1) ∧ Reps K H (Own m S) (kv.map (·.2)) (kvs.map (·.2))
  | .ins c ns fs => ∃ (a dx : Addr) (us : List V), v = .ref a ∧ H a = some (.ins (He.ga K c) dx (ns.zip us)) ∧ ¬ Own m S a ∧ us.length = ns.length ∧ ClsF K c ns ∧ RepL K H m S us fs
def RepL (K : PySem.W.Frag) (H : Hp) (m : List Addr) (S : St') : List V → List SV → Prop
  | us, [] => us = []
  | us, d :: ds => ∃ u r, us = u :: r ∧ RepS K H m S u d ∧ RepL K H m S r ds
end
inductive RepSs (K : PySem.W.Frag) (H : Hp) (m : List Addr) (S : St') : List V → List SV → Prop
  | nil : RepSs K H m S [] []
  | cons {v : V} {vs : List V} {d : SV} {ds : List SV} : RepS K H m S v d → RepSs K H m S vs ds → RepSs K H m S (v :: vs) (d :: ds)

theorem Rd.monoF {H H' : Hp} {m m' : List Addr} {S S' : St'} (f : Fr H m S H' m' S') {a : Addr} {u : HO} (h : Rd H a u) (n : ¬ Own m S a) : Rd H' a u ∧ ¬ Own m' S' a := by
  rcases h with h | ⟨o, h⟩
  · exact ⟨.inl (f.1 _ _ h n).1, (f.1 _ _ h n).2⟩
  · exact ⟨.inr ⟨o, (f.1 _ _ h n).1⟩, (f.1 _ _ h n).2⟩
mutual
theorem RepS.mono {K : PySem.W.Frag} {H H' : Hp} {m m' : List Addr} {S S' : St'} (f : Fr H m S H' m' S') : ∀ {v : V} {d : SV}, RepS K H m S v d → RepS K H' m' S' v d
  | v, .t d, h => by rw [RepS] at h ⊢; exact Rep.mono f.1 h
  | v, .o i, h => by
    rw [RepS] at h ⊢
    obtain ⟨a, e, r⟩ := h
    refine ⟨a, ?_, r⟩
    obtain ⟨t, rfl⟩ := f.2
    have hi : i < m.length := (List.getElem?_eq_some_iff.mp e).1
    rw [List.getElem?_append_left hi]; exact e
  | v, .kd kvs, h => by
    rw [RepS] at h ⊢
    obtain ⟨a, kv, rfl, h1, h2, h3, h4⟩ := h
    exact ⟨a, kv, rfl, (Rd.monoF f h1 h2).1, (Rd.monoF f h1 h2).2, h3, h4.mono f.1⟩
  | v, .td kvs, h => by
    rw [RepS] at h ⊢
    obtain ⟨a, kv, rfl, h1, h2, h3, h4⟩ := h
    exact ⟨a, kv, rfl, (Rd.monoF f h1 h2).1, (Rd.monoF f h1 h2).2, h3, h4.mono f.1⟩
  | v, .ins c ns fs, h => by
    rw [RepS] at h ⊢
    obtain ⟨a, dx, us, rfl, h1, h2, h3, h4, h5⟩ := h
    exact ⟨a, dx, us, rfl, (f.1 _ _ h1 h2).1, (f.1 _ _ h1 h2).2, h3, h4, RepL.mono f h5⟩
theorem RepL.mono {K : PySem.W.Frag} {H H' : Hp} {m m' : List Addr} {S S' : St'} (f : Fr H m S H' m' S') : ∀ {us : List V} {ds : List SV}, RepL K H m S us ds → RepL K H' m' S' us ds
  | us, [], h => by rw [RepL] at h ⊢; exact h
  | us, d :: ds, h => by
    rw [RepL] at h ⊢
    obtain ⟨u, r, rfl, h1, h2⟩ := h
    exact ⟨u, r, rfl, RepS.mono f h1, RepL.mono f h2⟩
end
theorem RepSs.mono {K : PySem.W.Frag} {H H' : Hp} {m m' : List Addr} {S S' : St'} (f : Fr H m S H' m' S') : ∀ {vs : List V} {ds : List SV}, RepSs K H m S vs ds → RepSs K H' m' S' vs ds
  | _, _, .nil => .nil
  | _, _, .cons q r => .cons (q.mono f) (RepSs.mono f r)
theorem RepSs.length {K : PySem.W.Frag} {H : Hp} {m : List Addr} {S : St'} : ∀ {vs : List V} {ds : List SV}, RepSs K H m S vs ds → vs.length = ds.length
  | _, _, .nil => rfl
  | _, _, .cons _ r => by simp [RepSs.length r]
theorem Reps.length {K : PySem.W.Frag} {H : Hp} {N : Addr → Prop} : ∀ {vs : List V} {ds : List D}, Reps K H N vs ds → vs.length = ds.length
  | _, _, .nil => rfl
  | _, _, .cons _ r => by simp [Reps.length r]

/-- the slots -/
def RelE (K : PySem.W.Frag) (H : Hp) (m : List Addr) (S : St') (σ : L2.St) (ρ : Ev) : Prop :=
  σ.length = ρ.length ∧ ∀ (i : Nat) (d : SV), ρ[i]? = some (some d) → ∃ v, σ[i]? = some (some v) ∧ RepS K H m S v d
theorem RelE.mono {K : PySem.W.Frag} {H H' : Hp} {m m' : List Addr} {S S' : St'} {σ : L2.St} {ρ : Ev} (f : Fr H m S H' m' S') (h : RelE K H m S σ ρ) : RelE K H' m' S' σ ρ :=
  ⟨h.1, fun i d e => let ⟨v, a, b⟩ := h.2 i d e; ⟨v, a, b.mono f⟩⟩
theorem RelE.set {K : PySem.W.Frag} {H : Hp} {m : List Addr} {S : St'} {σ : L2.St} {ρ : Ev} {v : V} {d : SV} (h : RelE K H m S σ ρ) (i : Nat) (r : RepS K H m S v d) : RelE K H m S (σ.set i (some v)) (ρ.set i (some d)) := by
  refine ⟨by simp [h.1], fun j e he => ?_⟩
  by_cases hj : i = j
  · subst hj
    have hi : i < ρ.length := by
      have := (List.getElem?_eq_some_iff.mp he).1
      simpa using this
    rw [List.getElem?_set_self hi] at he
    cases he
    exact ⟨v, by rw [List.getElem?_set_self (by rw [h.1]; exact hi)], r⟩
  · rw [List.getElem?_set_ne hj] at he
    obtain ⟨u, a, b⟩ := h.2 j e he
    exact ⟨u, by rw [List.getElem?_set_ne hj]; exact a, b⟩

/-- what is wanted of an exception: its class, its fields -/
abbrev WD := Nat → List D → Hp → List Addr → St' → Prop
/-- what a run of data asks of what follows -/
def Run {α : Type} (K : PySem.W.Frag) (P : Hp → List Addr → St' → α → Prop) (W : WD) (H : Hp) (m : List Addr) (S : St') : R α → Prop
  | .ok a S' => ∀ H' m', StOk K H' m' S' → Fr H m S H' m' S' → P H' m' S' a
  | .exc c p S' => ∀ H' m', StOk K H' m' S' → Fr H m S H' m' S' → W c p H' m' S'
  | .bad => False
theorem Run.bind {α β : Type} {K : PySem.W.Frag} {P : Hp → List Addr → St' → α → Prop} {P' : Hp → List Addr → St' → β → Prop} {W : WD} {H : Hp} {m : List Addr} {S : St'} {r : R α} {f : α → St' → R β}
    (h : Run K P' W H m S (r.bind f)) (hk : ∀ a S1 H1 m1, StOk K H1 m1 S1 → Fr H m S H1 m1 S1 → Run K P' W H1 m1 S1 (f a S1) → P H1 m1 S1 a) : Run K P W H m S r := by
  cases r with
  | bad => exact h
  | exc c p S' => exact h
  | ok a S1 =>
    intro H1 m1 ok1 f1
    refine hk a S1 H1 m1 ok1 f1 ?_
    have h' : Run K P' W H m S (f a S1) := h
    revert h'
    cases f a S1 with
    | bad => exact id
    | exc c p S2 => exact fun h' H2 m2 ok2 f2 => h' H2 m2 ok2 (f1.trans f2)
    | ok b S2 => exact fun h' H2 m2 ok2 f2 => h' H2 m2 ok2 (f1.trans f2)
end M

/-! what a law's head asks of the module, by its objects -/
namespace M
open PySem PySem.Spec PyProof.Rows L2
mutual
def valB (K : PySem.W.Frag) : D → Value → Bool
  | .non, .none => true
  | .bl b, .bool c => b == c
  | .int i, .int j _ => decide (i = j)
  | .str x, .str y _ => decide (x = y)
  | .tup ds, .ref a => (match K.lookup a with
    | some ⟨.type c, _, .seq its _, _⟩ => decide (c = "tuple") && decide (its.size ≤ sizeLine) && valsB K ds its.toList
    | _ => false)
  | _, _ => false
def valsB (K : PySem.W.Frag) : List D → List Value → Bool
  | [], [] => true
  | d :: ds, u :: us => valB K d u && valsB K ds us
  | _, _ => false
end
def noL (K : PySem.W.Frag) : Bool := K.all fun p => match p.2.cls with
  | .type c => !decide (c = "list")
  | _ => true
def conB (K : PySem.W.Frag) (p : Str × D) : Bool := match PySem.W.nsIn K mainGlobals p.1 with
  | some (some u) => valB K p.2 u
  | _ => false
/-- the entries of a written dict -/
def entB (K : PySem.W.Frag) : List (Str × D) → List DictEntry → Bool
  | [], [] => true
  | q :: qs, e :: es => (match e.key with | .str y _ => decide (y = q.1) | _ => false) && valB K q.2 e.val && entB K qs es
  | _, _ => false
def gdB (K : PySem.W.Frag) (p : Str × List (Str × D)) : Bool := match K.lookup (He.ga K p.1) with
  | some ⟨_, _, .dict es _, _⟩ => entB K p.2 es.toList
  | _ => false
/-- a class of the text: its __init__ stores its arguments -/
structure Cn where
  name : Str
  sf : Str
  ns : List Str
  d : He.DefD
def cnFa (c : Cn) : List He.Fa := [.glo c.name, .cls c.name, .mkr c.name] ++ c.ns.map (.noat c.name ·)
end M

namespace M
open PySem PySem.Spec PyProof.Rows L2
namespace k14
abbrev pw : Program := PySem.Challenge.pw_rowveil_k14_what_are_rules
abbrev rw_ : PySem.W.OpenLaw := PySem.Challenge.rw_rowveil_k14_what_are_rules
def top (i : Nat) : Stmt := pw.main.body.getD i (.Pass ⟨0, 0, 0, 0⟩)
def clsIn (s : Stmt) (j : Nat) : Stmt := match s with | .ClassDef (body := b) .. => b.getD j (.Pass ⟨0, 0, 0, 0⟩) | _ => .Pass ⟨0, 0, 0, 0⟩
def cn_Rules : Cn := ⟨"Rules", "self", ["ground", "plain", "inside"], ⟨("Rules", some "__init__"), "__init__", "Rules.__init__", defArgs (clsIn (top 16) 0), defBody (clsIn (top 16) 0), defScope (clsIn (top 16) 0), [], []⟩⟩
def free : List Str := ["isinstance", "bool", "int", "len", "str", "all", "tuple", "set", "any", "zip", "list", "sum", "enumerate", "range", "min", "sorted", "repr"]
def h_c_KEPT_WORDS : D := (D.tup [(D.str "rows"), (D.str "view"), (D.str "where"), (D.str "keep"), (D.str "named"), (D.str "pairs"), (D.str "both"), (D.str "less"), (D.str "count"), (D.str "seal"), (D.str "and"), (D.str "or"), (D.str "not"), (D.str "mine"), (D.str "empty"), (D.str "loud"), (D.str "yes"), (D.str "has")])
def h_c_LETTERS : D := (D.str "abcdefghijklmnopqrstuvwxyz")
def h_c_MOST_PARTS : D := (D.int 8)
def h_c_MOST_RULES : D := (D.int 10)
def h_c_MOST_USER : D := (D.int 8)
def h_c_MOST_VIEWS : D := (D.int 4)
def h_g_SHAPES : List (Str × D) := [("yes", (D.str "")), ("is", (D.str "cn")), ("below", (D.str "cm")), ("same", (D.str "cc")), ("mine", (D.str "c")), ("empty", (D.str "c")), ("loud", (D.str "c")), ("not", (D.str "x")), ("and", (D.str "xx")), ("or", (D.str "xx"))]
def d_is_whole : He.DefD := ⟨("is_whole", none), "is_whole", "is_whole", defArgs (top 3), defBody (top 3), defScope (top 3), [], []⟩
def d_is_from : He.DefD := ⟨("is_from", none), "is_from", "is_from", defArgs (top 4), defBody (top 4), defScope (top 4), [], []⟩
def d_is_name : He.DefD := ⟨("is_name", none), "is_name", "is_name", defArgs (top 5), defBody (top 5), defScope (top 5), [], []⟩
def d_are_names : He.DefD := ⟨("are_names", none), "are_names", "are_names", defArgs (top 6), defBody (top 6), defScope (top 6), [], []⟩
def d_is_column : He.DefD := ⟨("is_column", none), "is_column", "is_column", defArgs (top 7), defBody (top 7), defScope (top 7), [], []⟩
def d_is_table : He.DefD := ⟨("is_table", none), "is_table", "is_table", defArgs (top 8), defBody (top 8), defScope (top 8), [], []⟩
def d_is_ground : He.DefD := ⟨("is_ground", none), "is_ground", "is_ground", defArgs (top 9), defBody (top 9), defScope (top 9), [], []⟩
def d_names_of : He.DefD := ⟨("names_of", none), "names_of", "names_of", defArgs (top 10), defBody (top 10), defScope (top 10), [], []⟩
def d_table_of : He.DefD := ⟨("table_of", none), "table_of", "table_of", defArgs (top 11), defBody (top 11), defScope (top 11), [], []⟩
def d_part_fits : He.DefD := ⟨("part_fits", none), "part_fits", "part_fits", defArgs (top 15), defBody (top 15), defScope (top 15), [], []⟩
def d_sound : He.DefD := ⟨("sound", none), "sound", "sound", defArgs (top 17), defBody (top 17), defScope (top 17), [], []⟩
def d_sound_has : He.DefD := ⟨("sound_has", none), "sound_has", "sound_has", defArgs (top 18), defBody (top 18), defScope (top 18), [], []⟩
def d_within : He.DefD := ⟨("within", none), "within", "within", defArgs (top 19), defBody (top 19), defScope (top 19), [], []⟩
def d_parts_of : He.DefD := ⟨("parts_of", none), "parts_of", "parts_of", defArgs (top 20), defBody (top 20), defScope (top 20), [], []⟩
def d_has_word : He.DefD := ⟨("has_word", none), "has_word", "has_word", defArgs (top 21), defBody (top 21), defScope (top 21), [], []⟩
def d_is_condition : He.DefD := ⟨("is_condition", none), "is_condition", "is_condition", defArgs (top 22), defBody (top 22), defScope (top 22), [], []⟩
def d_is_user : He.DefD := ⟨("is_user", none), "is_user", "is_user", defArgs (top 37), defBody (top 37), defScope (top 37), [], []⟩
def d_are_users : He.DefD := ⟨("are_users", none), "are_users", "are_users", defArgs (top 38), defBody (top 38), defScope (top 38), [], []⟩
def d_is_rule : He.DefD := ⟨("is_rule", none), "is_rule", "is_rule", defArgs (top 39), defBody (top 39), defScope (top 39), [], []⟩
def d_is_view : He.DefD := ⟨("is_view", none), "is_view", "is_view", defArgs (top 41), defBody (top 41), defScope (top 41), [], []⟩
def d_are_views : He.DefD := ⟨("are_views", none), "are_views", "are_views", defArgs (top 42), defBody (top 42), defScope (top 42), [], []⟩
def d_are_rules : He.DefD := ⟨("are_rules", none), "are_rules", "are_rules", defArgs (top 43), defBody (top 43), defScope (top 43), [], []⟩
def d_is_setting : He.DefD := ⟨("is_setting", none), "is_setting", "is_setting", defArgs (top 44), defBody (top 44), defScope (top 44), [], []⟩
def d__law_cell_at : He.DefD := ⟨("_law_cell_at", none), "_law_cell_at", "_law_cell_at", defArgs (top 46), defBody (top 46), defScope (top 46), [], []⟩
def d__law_draws : He.DefD := ⟨("_law_draws", none), "_law_draws", "_law_draws", defArgs (top 47), defBody (top 47), defScope (top 47), [], []⟩
def d__law_name : He.DefD := ⟨("_law_name", none), "_law_name", "_law_name", defArgs (top 48), defBody (top 48), defScope (top 48), [], []⟩
def d__law_columns : He.DefD := ⟨("_law_columns", none), "_law_columns", "_law_columns", defArgs (top 49), defBody (top 49), defScope (top 49), [], []⟩
def d__law_ground : He.DefD := ⟨("_law_ground", none), "_law_ground", "_law_ground", defArgs (top 50), defBody (top 50), defScope (top 50), [], []⟩
def d__law_atom : He.DefD := ⟨("_law_atom", none), "_law_atom", "_law_atom", defArgs (top 51), defBody (top 51), defScope (top 51), [], []⟩
def d__law_condition : He.DefD := ⟨("_law_condition", none), "_law_condition", "_law_condition", defArgs (top 52), defBody (top 52), defScope (top 52), [], []⟩
def d__law_users : He.DefD := ⟨("_law_users", none), "_law_users", "_law_users", defArgs (top 53), defBody (top 53), defScope (top 53), [], []⟩
def d__law_rules : He.DefD := ⟨("_law_rules", none), "_law_rules", "_law_rules", defArgs (top 54), defBody (top 54), defScope (top 54), [], []⟩
def d__law_cells : He.DefD := ⟨("_law_cells", none), "_law_cells", "_law_cells", defArgs (top 55), defBody (top 55), defScope (top 55), [], []⟩
def d__law_odd : He.DefD := ⟨("_law_odd", none), "_law_odd", "_law_odd", defArgs (top 56), defBody (top 56), defScope (top 56), [], []⟩
def d__law_spoilt : He.DefD := ⟨("_law_spoilt", none), "_law_spoilt", "_law_spoilt", defArgs (top 57), defBody (top 57), defScope (top 57), [], []⟩
def d__law_from : He.DefD := ⟨("_law_from", none), "_law_from", "_law_from", defArgs (top 58), defBody (top 58), defScope (top 58), [], []⟩
def d__law_is_name : He.DefD := ⟨("_law_is_name", none), "_law_is_name", "_law_is_name", defArgs (top 59), defBody (top 59), defScope (top 59), [], []⟩
def d__law_is_column : He.DefD := ⟨("_law_is_column", none), "_law_is_column", "_law_is_column", defArgs (top 61), defBody (top 61), defScope (top 61), [], []⟩
def d__law_is_table : He.DefD := ⟨("_law_is_table", none), "_law_is_table", "_law_is_table", defArgs (top 62), defBody (top 62), defScope (top 62), [], []⟩
def d__law_is_ground : He.DefD := ⟨("_law_is_ground", none), "_law_is_ground", "_law_is_ground", defArgs (top 63), defBody (top 63), defScope (top 63), [], []⟩
def d__law_names_of : He.DefD := ⟨("_law_names_of", none), "_law_names_of", "_law_names_of", defArgs (top 64), defBody (top 64), defScope (top 64), [], []⟩
def d__law_sound : He.DefD := ⟨("_law_sound", none), "_law_sound", "_law_sound", defArgs (top 65), defBody (top 65), defScope (top 65), [], []⟩
def d__law_is_condition : He.DefD := ⟨("_law_is_condition", none), "_law_is_condition", "_law_is_condition", defArgs (top 66), defBody (top 66), defScope (top 66), [], []⟩
def d__law_within : He.DefD := ⟨("_law_within", none), "_law_within", "_law_within", defArgs (top 70), defBody (top 70), defScope (top 70), [], []⟩
def d__law_are_users : He.DefD := ⟨("_law_are_users", none), "_law_are_users", "_law_are_users", defArgs (top 71), defBody (top 71), defScope (top 71), [], []⟩
def d__law_is_rule : He.DefD := ⟨("_law_is_rule", none), "_law_is_rule", "_law_is_rule", defArgs (top 72), defBody (top 72), defScope (top 72), [], []⟩
def d__law_view_head : He.DefD := ⟨("_law_view_head", none), "_law_view_head", "_law_view_head", defArgs (top 73), defBody (top 73), defScope (top 73), [], []⟩
def d__law_is_setting : He.DefD := ⟨("_law_is_setting", none), "_law_is_setting", "_law_is_setting", defArgs (top 74), defBody (top 74), defScope (top 74), [], []⟩
def d__law_rule_setting : He.DefD := ⟨("_law_rule_setting", none), "_law_rule_setting", "_law_rule_setting", defArgs (top 75), defBody (top 75), defScope (top 75), [], []⟩
def d_law : He.DefD := ⟨("law", none), "law", "law", defArgs (top 76), defBody (top 76), defScope (top 76), [], []⟩
def fa0 : List He.Fa := ([.glo "is_whole", .glo "is_from", .glo "is_name", .glo "are_names", .glo "is_column", .glo "is_table", .glo "is_ground", .glo "names_of", .glo "table_of", .glo "part_fits", .glo "sound", .glo "sound_has", .glo "within", .glo "parts_of", .glo "has_word", .glo "is_condition", .glo "is_user", .glo "are_users", .glo "is_rule", .glo "is_view", .glo "are_views", .glo "are_rules", .glo "is_setting", .glo "_law_cell_at", .glo "_law_draws", .glo "_law_name", .glo "_law_columns", .glo "_law_ground", .glo "_law_atom", .glo "_law_condition", .glo "_law_users", .glo "_law_rules", .glo "_law_cells", .glo "_law_odd", .glo "_law_spoilt", .glo "_law_from", .glo "_law_is_name", .glo "_law_is_column", .glo "_law_is_table", .glo "_law_is_ground", .glo "_law_names_of", .glo "_law_sound", .glo "_law_is_condition", .glo "_law_within", .glo "_law_are_users", .glo "_law_is_rule", .glo "_law_view_head", .glo "_law_is_setting", .glo "_law_rule_setting", .glo "law"] : List He.Fa) ++ free.map .free ++ ([cn_Rules] : List Cn).flatMap cnFa ++ [.glo "SHAPES"]
def ds0 : List He.DefD := ([d_is_whole, d_is_from, d_is_name, d_are_names, d_is_column, d_is_table, d_is_ground, d_names_of, d_table_of, d_part_fits, d_sound, d_sound_has, d_within, d_parts_of, d_has_word, d_is_condition, d_is_user, d_are_users, d_is_rule, d_is_view, d_are_views, d_are_rules, d_is_setting, d__law_cell_at, d__law_draws, d__law_name, d__law_columns, d__law_ground, d__law_atom, d__law_condition, d__law_users, d__law_rules, d__law_cells, d__law_odd, d__law_spoilt, d__law_from, d__law_is_name, d__law_is_column, d__law_is_table, d__law_is_ground, d__law_names_of, d__law_sound, d__law_is_condition, d__law_within, d__law_are_users, d__law_is_rule, d__law_view_head, d__law_is_setting, d__law_rule_setting, d_law] : List He.DefD) ++ ([cn_Rules] : List Cn).map (·.d)
def gd0 : List (Str × List (Str × D)) := [("SHAPES", h_g_SHAPES)]
def cs0 : List (Str × D) := [("KEPT_WORDS", h_c_KEPT_WORDS), ("LETTERS", h_c_LETTERS), ("MOST_PARTS", h_c_MOST_PARTS), ("MOST_RULES", h_c_MOST_RULES), ("MOST_USER", h_c_MOST_USER), ("MOST_VIEWS", h_c_MOST_VIEWS)]
def ts0 : List He.Tab := gd0.map fun p => ((fun K => He.ga K p.1), p.2.map (·.1))
def ex0 (K : PySem.W.Frag) : Bool := noL K && cs0.all (conB K) && gd0.all (gdB K)
abbrev hk0 : PySem.W.Hook := He.hookX 4 fa0 ds0 ts0 [] ex0
def ob0 (s : PySem.W.SharedT) : He.AlX := He.obsX 4 fa0 ds0 ts0 [] ex0 (HandSHeadRun.getT s)
abbrev Rr : PySem.W.OpenRow := PySem.W.OpenLaw.row rw_
def loose : List Str := (["LETTERS", "KEPT_WORDS", "is_whole", "is_from", "is_name", "are_names", "is_column", "is_table", "is_ground", "names_of", "table_of", "MOST_PARTS", "SHAPES", "part_fits", "Rules", "sound", "sound_has", "within", "parts_of", "has_word", "is_condition", "LENGTHS", "Frame", "head_or_none", "head_of_two"] : List Str) ++ (["head_behind", "asks_in", "ask_parts", "pairs_of", "conditions_of", "MOST_RULES", "MOST_VIEWS", "MOST_USER", "is_user", "are_users", "is_rule", "frame_of", "is_view", "are_views", "are_rules", "is_setting", "_law_cell_at", "_law_draws", "_law_name", "_law_columns", "_law_ground", "_law_atom", "_law_condition", "_law_users", "_law_rules"] : List Str) ++ (["_law_cells", "_law_odd", "_law_spoilt", "_law_from", "_law_is_name", "_law_are_names", "_law_is_column", "_law_is_table", "_law_is_ground", "_law_names_of", "_law_sound", "_law_is_condition", "_law_head", "_law_head_on", "_law_due_head", "_law_within", "_law_are_users", "_law_is_rule", "_law_view_head", "_law_is_setting", "_law_rule_setting"] : List Str)
theorem run0_false (w : World) : HandSHeadRun.RunEq Rr (PySem.W.view Rr.prog [76]) hk0 ob0 4000 loose (w.withFollow "special-get-raises" false) := by intro os; kernel_rfl
theorem run0_true (w : World) : HandSHeadRun.RunEq Rr (PySem.W.view Rr.prog [76]) hk0 ob0 4000 loose (w.withFollow "special-get-raises" true) := by intro os; kernel_rfl
theorem run0 (w : World) : HandSHeadRun.RunEq Rr (PySem.W.view Rr.prog [76]) hk0 ob0 4000 loose w :=
  PySem.W.byRow2 "special-get-raises" (P := fun w => HandSHeadRun.RunEq Rr (PySem.W.view Rr.prog [76]) hk0 ob0 4000 loose w) run0_false run0_true w
end k14
end M

/-! a small language of expressions and statements, and what it comes to -/
namespace M
open PySem PySem.Spec PyProof.Rows L2

inductive Bn where | add | sub | mul | fdiv | mod | pow
  deriving DecidableEq
inductive Cm where | eq | ne | lt | le | gt | ge | isin | notin | is_ | isnot
  deriving DecidableEq
inductive Bi where | len | int | all | any | sum | list | tuple | sorted | repr | str | min | max
  deriving DecidableEq
inductive Ty where | int | bool | str | tuple | list
  deriving DecidableEq
inductive Mt where | index | split | count | join | countL
  deriving DecidableEq
inductive Fz where | lenset | sortset | listrange | tri | lensett | sortseti
  deriving DecidableEq
inductive Tg where | v (i : Nat) | tp (is : List Nat)
  deriving DecidableEq

mutual
inductive ME where
  | var (i : Nat) | lit (d : D) | glb (x : Str) (d : D)
  | tup (es : List ME) | lst (es : List ME)
  | bin (o : Bn) (a b : ME) | neg (a : ME)
  | cmp (o : Cm) (a b : ME) | cmp2 (o p : Cm) (a b c : ME)
  | and (a b : ME) | or (a b : ME) | not (a : ME)
  | ife (c a b : ME)
  | idx (a i : ME) | slc (a : ME) (lo hi : List ME)
  | call (f : Nat) (es : List ME)
  | bi (b : Bi) (es : List ME)
  | isi (a : ME) (t : Ty) | isit (a : ME) (ts : List Ty)
  | mth (m : Mt) (o : ME) (es : List ME)
  | lc (tg : Tg) (it : IT) (cs : List ME) (e : ME)
  | lensc (tg : Tg) (it : IT) (cs : List ME) (e : ME)
  | rev (a : ME)
  | fz (f : Fz) (es : List ME)
  | dvals (i j : Nat)
  | att (e : ME) (f : Str) | mk (c : Str) (ns : List Str) (es : List ME)
  | dget (a i : ME) | din (neg : Bool) (i a : ME)
  | gdget (x : Str) (kvs : List (Str × D)) (i : ME) | gdin (neg : Bool) (x : Str) (kvs : List (Str × D)) (i : ME)
  | obT | kd0
  | dc (tg : Tg) (it : IT) (cs : List ME) (k v : ME)
  | callR (f : Nat) (es : List ME) (w : ME) (y z : Str)
  | callK (f : Nat) (es : List ME) (e : ME) | callD (f : Nat) (es : List ME) (d : D)
inductive IT where
  | of (e : ME) | range1 (e : ME) | range2 (a b : ME) | enum (e : ME) | zip (a b : ME) | zips (a b : ME)
end

inductive MS where
  | doc | pass | any
  | asg (tg : Tg) (e : ME)
  | par (i j : Nat) (a b : ME)
  | new (i : Nat) (e : ME)
  | aug (i : Nat) (o : Bn) (e : ME)
  | app (i : Nat) (e : ME)
  | seti (i : Nat) (k e : ME)
  | newd (i : Nat)
  | putd (i : Nat) (k e : ME)
  | newk (i : Nat) (ks : List Str) (es : List ME)
  | putk (i : Nat) (k e : ME)
  | putt (i : Nat) (k : List ME) (e : ME)
  | expr (e : ME)
  | ret (e : ME) | retN
  | ife (c : ME) (a b : List MS)
  | for_ (tg : Tg) (it : IT) (body : List MS)

/-! ### data -/
mutual
def toPy : D → PyData
  | .non => .none
  | .bl b => .bool b
  | .int i => .int i
  | .str x => .str x
  | .tup xs => .tuple (toPys xs)
  | .lst xs => .list (toPys xs)
def toPys : List D → List PyData
  | [] => []
  | x :: xs => toPy x :: toPys xs
end
theorem toPys_eq : ∀ xs : List D, toPys xs = xs.map toPy
  | [] => rfl
  | x :: xs => by rw [toPys, toPys_eq xs]; rfl
def okD (d : D) : Bool := SeqAt.shaped (toPy d)
mutual
def deq : D → D → Bool
  | .non, .non => true
  | .bl a, .bl b => a == b
  | .bl a, .int j => (if a then 1 else 0) == j
  | .int i, .bl b => i == (if b then 1 else 0)
  | .int i, .int j => i == j
  | .str x, .str y => x == y
  | .lst xs, .lst ys => deqs xs ys
  | .tup xs, .tup ys => deqs xs ys
  | _, _ => false
def deqs : List D → List D → Bool
  | [], [] => true
  | x :: xs, y :: ys => deq x y && deqs xs ys
  | _, _ => false
end
def dlt (a b : D) : Bool := PySem.W.dataLt (toPy a) (toPy b)
def dle (a b : D) : Bool := !dlt b a
/-- the data can be sorted -/
def sortOk (xs : List D) : Bool :=
  (xs.all fun a => xs.all fun b => PySem.W.alike (toPy a) (toPy b)) && (xs.all fun a => decide ((toPy a).depth ≤ 64)) &&
  ((xs.all fun a => match a with | .tup (_ :: _) => true | _ => false) || (xs.all fun a => match a with | .non => false | .tup _ => false | _ => true)) && decide (xs.length ≤ sizeLine)

def binD : Bn → D → D → Option D
  | .add, .int i, .int j => some (.int (i + j))
  | .add, .str x, .str y => if x.length + y.length ≤ sizeLine then some (.str (x ++ y)) else none
  | .add, .lst xs, .lst ys => if xs.length + ys.length ≤ sizeLine then some (.lst (xs ++ ys)) else none
  | .add, .tup xs, .tup ys => if xs.length + ys.length ≤ sizeLine then some (.tup (xs ++ ys)) else none
  | .sub, .int i, .int j => some (.int (i - j))
  | .mul, .int i, .int j => if (i.natAbs < 2 ^ 63 ∨ j.natAbs < 2 ^ 63 ∨ i.natAbs.log2 + j.natAbs.log2 < 1000000) then some (.int (i * j)) else none
  | .mul, .lst xs, .int k => if -(2 ^ 63) ≤ k ∧ k < 2 ^ 63 ∧ xs.length * k.toNat ≤ sizeLine then some (.lst (List.replicate k.toNat xs).flatten) else none
  | .fdiv, .int i, .int j => if 0 < j ∧ j < 1073741824 then some (.int (i / j)) else none
  | .mod, .int i, .int j => if 0 < j then some (.int (i % j)) else none
  | .pow, .int i, .int j => if 0 ≤ j ∧ j ≤ 1000000 ∧ i.natAbs < 2 ^ 64 then some (.int (i ^ j.toNat)) else none
  | _, _, _ => none

def scalD : D → D → Bool
  | .int _, .int _ | .str _, .str _ | .bl _, .bl _ => true
  | _, _ => false
def strIn (x y : Str) : Bool := match x.cps.toList with
  | [c] => decide (c ∈ y.cps.toList)
  | _ => !(Builtin.Str.occurrences y x 0 y.length 1).isEmpty
def inD (x : D) : D → Option Bool
  | .str y => match x with
    | .str z => some (strIn z y)
    | _ => none
  | .lst ys => if okD x && okD (.lst ys) then some (ys.any fun z => deq z x) else none
  | .tup ys => if okD x && okD (.tup ys) then some (ys.any fun z => deq z x) else none
  | _ => none
def isD : D → D → Option Bool
  | .non, .non => some true
  | .bl _, .non | .int _, .non | .str _, .non | .tup _, .non | .lst _, .non => some false
  | .bl a, .bl b => some (a == b)
  | .non, .bl _ => some false
  | _, _ => none
def cmpD : Cm → D → D → Option Bool
  | .eq, a, b => if scalD a b || (okD a && okD b) then some (deq a b) else none
  | .ne, a, b => if scalD a b || (okD a && okD b) then some (!deq a b) else none
  | .lt, .int i, .int j => some (decide (i < j))
  | .le, .int i, .int j => some (decide (i ≤ j))
  | .gt, .int i, .int j => some (decide (j < i))
  | .ge, .int i, .int j => some (decide (j ≤ i))
  | .lt, .str x, .str y => some (decide (x.cps.toList < y.cps.toList))
  | .lt, .tup xs, .tup ys => if PySem.W.alike (toPy (.tup xs)) (toPy (.tup ys)) && decide ((toPy (.tup xs)).depth ≤ 64) then some (dlt (.tup xs) (.tup ys)) else none
  | .isin, a, b => inD a b
  | .notin, a, b => (inD a b).map (!·)
  | .is_, a, b => isD a b
  | .isnot, a, b => (isD a b).map (!·)
  | _, _, _ => none

def truD : D → Option Bool
  | .non => some false
  | .bl b => some b
  | .int i => some (i != 0)
  | .str x => if x.length ≤ sizeLine then some ((x.length : Int) != 0) else none
  | .lst xs => some (!xs.isEmpty)
  | .tup xs => some (!xs.isEmpty)

def idxD : D → D → Option D
  | .lst xs, .int i => atI xs i
  | .tup xs, .int i => atI xs i
  | .str z, .int i => if z.length ≤ sizeLine then (atI z.cps.toList i).map fun c => .str ⟨#[c]⟩ else none
  | _, _ => none
def cutD (xs : List D) (lo hi : Option Int) : List D := (xs.drop (HT.sIx xs.length 0 lo)).take (HT.sIx xs.length xs.length hi - HT.sIx xs.length 0 lo)
def slcD : D → Option Int → Option Int → Option D
  | .lst xs, lo, hi => some (.lst (cutD xs lo hi))
  | .tup xs, lo, hi => some (.tup (cutD xs lo hi))
  | .str z, lo, hi => if z.length ≤ sizeLine then some (.str (cutS z lo hi)) else none
  | _, _, _ => none

def asBls : List D → Option (List Bool)
  | [] => some []
  | .bl b :: r => (asBls r).map (b :: ·)
  | _ :: _ => none
def asInts : List D → Option (List Int)
  | [] => some []
  | .int b :: r => (asInts r).map (b :: ·)
  | _ :: _ => none
def asStrs : List D → Option (List Str)
  | [] => some []
  | .str b :: r => (asStrs r).map (b :: ·)
  | _ :: _ => none

def biD : Bi → List D → Option D
  | .len, [.lst xs] => some (.int xs.length)
  | .len, [.tup xs] => some (.int xs.length)
  | .len, [.str x] => if x.length ≤ sizeLine then some (.int x.length) else none
  | .int, [.int i] => some (.int i)
  | .int, [.bl b] => some (.int (if b then 1 else 0))
  | .all, [.lst xs] => (asBls xs).map fun bs => .bl (bs.all id)
  | .any, [.lst xs] => (asBls xs).map fun bs => .bl (bs.any id)
  | .sum, [.lst xs] => (asInts xs).map fun ns => .int ns.sum
  | .list, [.lst xs] => some (.lst xs)
  | .list, [.tup xs] => some (.lst xs)
  | .tuple, [.lst xs] => some (.tup xs)
  | .tuple, [.tup xs] => some (.tup xs)
  | .sorted, [.lst xs] => if sortOk xs then some (.lst (xs.mergeSort dle)) else none
  | .sorted, [.tup xs] => if sortOk xs then some (.lst (xs.mergeSort dle)) else none
  | .repr, [.bl b] => some (.str (if b then "True" else "False"))
  | .min, [.lst xs] => match asInts xs with
    | some (n :: ns) => some (.int (ns.foldl min n))
    | _ => none
  | .min, [.int i, .int j] => some (.int (if j < i then j else i))
  | .max, [.int i, .int j] => some (.int (if j > i then j else i))
  | _, _ => none

def isiD : D → Ty → Bool
  | .int _, .int | .bl _, .int | .bl _, .bool | .str _, .str | .tup _, .tuple | .lst _, .list => true
  | _, _ => false

def firstEq (x : D) : List D → Nat → Option Nat
  | [], _ => none
  | y :: ys, n => if deq y x then some n else firstEq x ys (n + 1)
/-- how often a text stands in a text; a text with each y struck for z (kept shut: they must not be run where the text is a letter) -/
@[irreducible] def cntT (a b : Str) : Int := Txt.count a b
@[irreducible] def repT (x y z : Str) : Str := Txt.replace x y z
def mthD : Mt → D → List D → Option D
  | .index, .lst ys, [x] => if okD x && okD (.lst ys) then (firstEq x ys 0).map fun (n : Nat) => D.int (n : Int) else none
  | .count, .str a, [.str b] => some (.int (cntT a b))
  | .split, .str a, [.str b] => if (b.length == 0) = false ∧ a.length + 2 ≤ sizeLine then some (.lst ((Txt.split a b).map .str)) else none
  | .countL, .lst ys, [x] => if okD x && okD (.lst ys) then some (.int ((ys.countP fun y => deq y x : Nat) : Int)) else none
  | _, _, _ => none

/-- whose method it is -/
def mtOk : Mt → D → Bool
  | .index, .lst _ => true
  | .split, .str _ => true
  | .count, .str _ => true
  | .join, .str _ => true
  | .countL, .lst _ => true
  | _, _ => false

/-! ### what stands at a place -/
def peek (S : St') : SV → Option D
  | .t d => some d
  | .o i => match S[i]? with
    | some (.lst xs) => some (.lst xs)
    | _ => none
  | _ => none
def grab (S : St') : SV → Option (D × St')
  | .t d => some (d, S)
  | .o i => match S[i]? with
    | some (.lst xs) => some (.lst xs, S.set i .dead)
    | _ => none
  | _ => none
def grabs (S : St') : List SV → Option (List D × St')
  | [] => some ([], S)
  | v :: vs => match grab S v with
    | some (d, S1) => (grabs S1 vs).map fun (ds, S2) => (d :: ds, S2)
    | none => none
/-! ### dicts -/
def keyD : D → Option Key
  | .int i => some (.inl i)
  | .str x => some (.inr x)
  | _ => none
def getK (kvs : List (Key × D)) (k : Key) : Option D := (kvs.find? fun kv => decide (kv.1 = k)).map (·.2)
def putKD (kvs : List (Key × D)) (k : Key) (v : D) : List (Key × D) :=
  if (kvs.any fun kv => decide (kv.1 = k)) = true then kvs.map (fun kv => if kv.1 = k then (kv.1, v) else kv) else kvs ++ [(k, v)]
def mergeD : List (Key × D) → List Str → List D → List (Key × D)
  | kvs, k :: ks, d :: ds => mergeD (putKD kvs (.inr k) d) ks ds
  | kvs, _, _ => kvs
def kdOf (S : St') : SV → Option (List (Key × D))
  | .kd kvs => some kvs
  | .o i => match S[i]? with
    | some (.dk kvs) => some kvs
    | _ => none
  | _ => none
def keyV : SV → Option Key
  | .t d => keyD d
  | _ => none
def dgetV (S : St') (x y : SV) : Option SV := (kdOf S x).bind fun kvs => (keyV y).bind fun k => (getK kvs k).map .t
def dinV (S : St') (neg : Bool) (y x : SV) : Option SV := (kdOf S x).bind fun kvs => (keyV y).bind fun k => some (.t (.bl (xor neg (getK kvs k).isSome)))
def strV : SV → Option Str
  | .t (.str z) => some z
  | _ => none
def attV (x : SV) (f : Str) : Option SV := match x with
  | .ins _ ns fs => (ns.zip fs).lookup f
  | _ => none
def triV : SV → Option SV
  | .t (.bl b) => some (.t (.bl (!b)))
  | .t .non => some (.t .non)
  | _ => none
def replV (v : SV) (y z : Str) : Option SV := match v with
  | .t (.str x) => if x.length + (x.length + 1) * z.length ≤ 16777216 then some (.t (.str (repT x y z))) else none
  | _ => none
def peeks (S : St') : List SV → Option (List D)
  | [] => some []
  | v :: vs => match peek S v with
    | some d => (peeks S vs).map (d :: ·)
    | none => none
def setTg : List Nat → List D → Ev → Option Ev
  | [], [], ρ => some ρ
  | i :: is, d :: ds, ρ => setTg is ds (ρ.set i (some (.t d)))
  | _, _, _ => none
def bindTg : Tg → D → Ev → Option Ev
  | .v i, d, ρ => some (ρ.set i (some (.t d)))
  | .tp is, .tup ds, ρ => setTg is ds ρ
  | _, _, _ => none

inductive Src where
  | fix (xs : List D) | live (i : Nat)

/-! ### the run -/
abbrev FS := Nat → List SV → St' → R SV

/-- no exception may come here -/
def R.nox {α : Type} : R α → R α
  | .exc _ _ _ => .bad
  | r => r
@[simp] theorem R.nox_ok {α : Type} (a : α) (S : St') : (R.ok a S).nox = .ok a S := rfl
@[simp] theorem R.nox_exc {α : Type} (c : Nat) (p : List D) (S : St') : (R.exc c p S : R α).nox = .bad := rfl
@[simp] theorem R.nox_bad {α : Type} : (R.bad : R α).nox = .bad := rfl
/-- the item is put behind those that the list k has -/
def lcPut (k : Nat) (v : SV) (S : St') : R Unit := match grab S v with
  | some (x, S1) => match S1[k]? with
    | some (.lst acc) => if acc.length < sizeLine then .ok () (S1.set k (.lst (acc ++ [x]))) else .bad
    | _ => .bad
  | none => .bad
/-- a comprehension's turn -/
def lcTurn (tg : Tg) (c : Ev → St' → R Bool) (e : Ev → St' → R SV) (k : Nat) (d : D) (ρ : Ev) (S : St') : R Unit := match bindTg tg d ρ with
  | none => .bad
  | some ρ' => (c ρ' S).nox.bind fun b S1 => if b then (e ρ' S1).nox.bind fun v S2 => lcPut k v S2 else .ok () S1
def lcEnd (k : Nat) (S : St') : R (List D) := match S[k]? with
  | some (.lst acc) => .ok acc (S.take k)
  | _ => .bad
/-- the list that a comprehension makes: it stands as the object k meanwhile -/
def lcFix (tg : Tg) (c : Ev → St' → R Bool) (e : Ev → St' → R SV) (k : Nat) : List D → Ev → St' → R (List D)
  | [], _, S => lcEnd k S
  | d :: ds, ρ, S => (lcTurn tg c e k d ρ S).bind fun _ S1 => lcFix tg c e k ds ρ S1
/-- .. over an object, so many turns at most -/
def lcLive (tg : Tg) (c : Ev → St' → R Bool) (e : Ev → St' → R SV) (k i : Nat) : Nat → Nat → Ev → St' → R (List D)
  | n, j, ρ, S => match S[i]? with
    | some (.lst ys) => match ys[j]?, n with
      | none, _ => lcEnd k S
      | some _, 0 => .bad
      | some d, n + 1 => (lcTurn tg c e k d ρ S).bind fun _ S1 => lcLive tg c e k i n (j + 1) ρ S1
    | _ => .bad
def lcSrc (tg : Tg) (c : Ev → St' → R Bool) (e : Ev → St' → R SV) : Src → Ev → St' → R (List D)
  | .fix xs, ρ, S => lcFix tg c e S.length xs ρ (S ++ [.lst []])
  | .live i, ρ, S => match S[i]? with
    | some (.lst ys) => lcLive tg c e S.length i ys.length 0 ρ (S ++ [.lst []])
    | _ => .bad

/-- a set comprehension of tuples of ints: what was added -/
def scAdd (acc : List (List Int)) (v : SV) (S : St') : R (List (List Int)) := match v with
  | .t (.tup xs) => match asInts xs with
    | some k => if acc.length + 1 < 64 then .ok (acc ++ [k]) S else .bad
    | none => .bad
  | _ => .bad
def scTurn (tg : Tg) (c : Ev → St' → R Bool) (e : Ev → St' → R SV) (acc : List (List Int)) (d : D) (ρ : Ev) (S : St') : R (List (List Int)) := match bindTg tg d ρ with
  | none => .bad
  | some ρ' => (c ρ' S).nox.bind fun b S1 => if b then (e ρ' S1).nox.bind fun v S2 => scAdd acc v S2 else .ok acc S1
def scFix (tg : Tg) (c : Ev → St' → R Bool) (e : Ev → St' → R SV) : List D → List (List Int) → Ev → St' → R (List (List Int))
  | [], acc, _, S => .ok acc S
  | d :: ds, acc, ρ, S => (scTurn tg c e acc d ρ S).bind fun acc1 S1 => scFix tg c e ds acc1 ρ S1
def scSrc (tg : Tg) (c : Ev → St' → R Bool) (e : Ev → St' → R SV) : Src → Ev → St' → R (List (List Int))
  | .fix xs, ρ, S => scFix tg c e xs [] ρ S
  | .live _, _, _ => .bad

/-- a dict comprehension's turn: the dict stands as the object k -/
def dcPut (k : Nat) (y : Key) (v : SV) (S : St') : R Unit := match grab S v with
  | some (x, S1) => match S1[k]? with
    | some (.dk acc) => if acc.length < sizeLine then .ok () (S1.set k (.dk (putKD acc y x))) else .bad
    | _ => .bad
  | none => .bad
def dcTurn (tg : Tg) (c : Ev → St' → R Bool) (ke ve : Ev → St' → R SV) (k : Nat) (d : D) (ρ : Ev) (S : St') : R Unit := match bindTg tg d ρ with
  | none => .bad
  | some ρ' => (c ρ' S).nox.bind fun b S1 => if b then (ke ρ' S1).nox.bind fun y S2 => (R.opt (keyV y) S2).bind fun y S2 => (ve ρ' S2).nox.bind fun v S3 => dcPut k y v S3 else .ok () S1
def dcEnd (k : Nat) (S : St') : R (List (Key × D)) := match S[k]? with
  | some (.dk acc) => .ok acc (S.take k)
  | _ => .bad
def dcFix (tg : Tg) (c : Ev → St' → R Bool) (ke ve : Ev → St' → R SV) (k : Nat) : List D → Ev → St' → R (List (Key × D))
  | [], _, S => dcEnd k S
  | d :: ds, ρ, S => (dcTurn tg c ke ve k d ρ S).bind fun _ S1 => dcFix tg c ke ve k ds ρ S1
def dcSrc (tg : Tg) (c : Ev → St' → R Bool) (ke ve : Ev → St' → R SV) : Src → Ev → St' → R (List (Key × D))
  | .fix xs, ρ, S => dcFix tg c ke ve S.length xs ρ (S ++ [.dk []])
  | .live _, _, _ => .bad

def srcOf (S : St') : SV → Option Src
  | .t (.lst xs) => some (.fix xs)
  | .t (.tup xs) => some (.fix xs)
  | .t (.str x) => some (.fix (x.cps.toList.map fun c => .str ⟨#[c]⟩))
  | .t _ => none
  | .o i => match S[i]? with
    | some (.lst _) => some (.live i)
    | _ => none
  | _ => none
def rangeD (lo hi : Int) : List D := (List.range (hi - lo).toNat).map fun (k : Nat) => D.int (lo + (k : Int))
def enumD (xs : List D) : List D := (xs.zipIdx).map fun p => D.tup [.int (p.2 : Nat), p.1]
def zipD (xs ys : List D) : List D := (xs.zip ys).map fun p => D.tup [p.1, p.2]
def rngOk (i : Int) : Bool := decide (-(2 ^ 62) ≤ i ∧ i < 2 ^ 62)

/-- each once, as first met -/
def dset {α : Type} [DecidableEq α] (xs : List α) : List α := xs.foldl (fun acc x => if x ∈ acc then acc else acc ++ [x]) []
def asKeys : List D → Option (List Key)
  | [] => some []
  | .int i :: r => (asKeys r).map (Sum.inl i :: ·)
  | .str x :: r => (asKeys r).map (Sum.inr x :: ·)
  | _ :: _ => none
def sqOf : D → Option (List D)
  | .lst xs => some xs
  | .tup xs => some xs
  | _ => none
def lensetD (d : D) : Option D := (sqOf d).bind fun xs => (asStrs xs).bind fun ks => if ks.length + 1 < scanBound then some (.int ((dset ks).length : Nat)) else none
def kD : Key → D
  | .inl i => .int i
  | .inr x => .str x
def sortsetD (d : D) : Option D := (sqOf d).bind fun xs => (asStrs xs).bind fun ks => if ks.length + 1 < scanBound then some (.lst (((dset ks).map D.str).mergeSort dle)) else none
def asTups : List D → Option (List (List Int))
  | [] => some []
  | .tup xs :: r => (asInts xs).bind fun k => (asTups r).map (k :: ·)
  | _ :: _ => none
/-- of a list of tuples of ints -/
def lensettD : D → Option D
  | .lst xs => (asTups xs).bind fun ks => if ks.length < 64 then some (.int ((dset ks).length : Nat)) else none
  | _ => none
/-- of a list or a tuple of ints -/
def sortsetiD (d : D) : Option D := (sqOf d).bind fun xs => (asInts xs).bind fun ns => if ns.length < 64 then some (.lst (((dset ns).mergeSort fun a b => decide (a ≤ b)).map D.int)) else none
def fzD : Fz → List D → Option D
  | .sortseti, [d] => sortsetiD d
  | .lensett, [d] => lensettD d
  | .sortset, [d] => sortsetD d
  | .lenset, [d] => lensetD d
  | .tri, [.bl b] => some (.bl (!b))
  | .tri, [.non] => some .non
  | .listrange, [.int a, .int b] => if rngOk a && rngOk b && decide ((b - a).toNat ≤ sizeLine) then some (.lst (rangeD a b)) else none
  | _, _ => none

def revD : D → Option D
  | .lst xs => some (.lst xs.reverse)
  | _ => none
def tru (r : R SV) : R Bool := r.bind fun v S => R.opt ((peek S v).bind truD) S
def tests (cs : List (Ev → St' → R Bool)) : Ev → St' → R Bool := match cs with
  | [] => fun _ S => .ok true S
  | c :: _ => c

mutual
def evalE (F : FS) : ME → Ev → St' → R SV
  | .var i, ρ, S => match ρ[i]? with
    | some (some v) => .ok v S
    | _ => .bad
  | .lit d, _, S => .ok (.t d) S
  | .glb _ d, _, S => .ok (.t d) S
  | .tup es, ρ, S => (evalEs F es ρ S).bind fun vs S1 => match grabs S1 vs with
    | some (ds, S2) => if ds.length ≤ sizeLine then .ok (.t (.tup ds)) S2 else .bad
    | none => .bad
  | .lst es, ρ, S => (evalEs F es ρ S).bind fun vs S1 => match grabs S1 vs with
    | some (ds, S2) => if ds.length ≤ sizeLine then .ok (.t (.lst ds)) S2 else .bad
    | none => .bad
  | .bin o a b, ρ, S => (evalE F a ρ S).bind fun x S1 => (evalE F b ρ S1).bind fun y S2 =>
      R.opt ((peek S2 x).bind fun d => (peek S2 y).bind fun e => (binD o d e).map .t) S2
  | .neg a, ρ, S => (evalE F a ρ S).bind fun x S1 => match x with
    | .t (.int i) => .ok (.t (.int (-i))) S1
    | _ => .bad
  | .cmp o a b, ρ, S => (evalE F a ρ S).bind fun x S1 => (evalE F b ρ S1).bind fun y S2 =>
      R.opt ((peek S2 x).bind fun d => (peek S2 y).bind fun e => (cmpD o d e).map fun b => .t (.bl b)) S2
  | .cmp2 o p a b c, ρ, S => (evalE F a ρ S).bind fun x S1 => (evalE F b ρ S1).bind fun y S2 =>
      (R.opt ((peek S2 x).bind fun d => (peek S2 y).bind fun e => cmpD o d e) S2).bind fun k S3 =>
        if k then (evalE F c ρ S3).bind fun z S4 => R.opt ((peek S4 y).bind fun e => (peek S4 z).bind fun f => (cmpD p e f).map fun b => .t (.bl b)) S4
        else .ok (.t (.bl false)) S3
  | .and a b, ρ, S => (evalE F a ρ S).bind fun x S1 => (R.opt ((peek S1 x).bind truD) S1).bind fun k S2 => if k then evalE F b ρ S2 else .ok x S2
  | .or a b, ρ, S => (evalE F a ρ S).bind fun x S1 => (R.opt ((peek S1 x).bind truD) S1).bind fun k S2 => if k then .ok x S2 else evalE F b ρ S2
  | .not a, ρ, S => (tru (evalE F a ρ S)).bind fun k S1 => .ok (.t (.bl (!k))) S1
  | .ife c a b, ρ, S => (tru (evalE F c ρ S)).bind fun k S1 => if k then evalE F a ρ S1 else evalE F b ρ S1
  | .idx a i, ρ, S => (evalE F a ρ S).bind fun x S1 => (evalE F i ρ S1).bind fun y S2 =>
      R.opt ((peek S2 x).bind fun d => (peek S2 y).bind fun e => (idxD d e).map .t) S2
  | .slc a lo hi, ρ, S => (evalE F a ρ S).bind fun x S1 => (evalP F lo ρ S1).bind fun l S2 => (evalP F hi ρ S2).bind fun h S3 =>
      R.opt ((peek S3 x).bind fun d => (slcD d l h).map .t) S3
  | .call f es, ρ, S => (evalEs F es ρ S).bind fun vs S1 => F f vs S1
  | .bi b es, ρ, S => (evalEs F es ρ S).bind fun vs S1 => R.opt ((peeks S1 vs).bind fun ds => (biD b ds).map .t) S1
  | .isi a t, ρ, S => (evalE F a ρ S).bind fun x S1 => R.opt ((peek S1 x).map fun d => .t (.bl (isiD d t))) S1
  | .isit a ts, ρ, S => (evalE F a ρ S).bind fun x S1 => R.opt ((peek S1 x).map fun d => .t (.bl (ts.any fun t => isiD d t))) S1
  | .mth m o es, ρ, S => (evalE F o ρ S).bind fun x S1 => if ((peek S1 x).map (mtOk m)).getD false = false then .bad else (evalEs F es ρ S1).bind fun vs S2 =>
      R.opt ((peek S2 x).bind fun d => (peeks S2 vs).bind fun ds => (mthD m d ds).map .t) S2
  | .lc tg it cs e, ρ, S => (evalI F it ρ S).bind fun src S1 => (lcSrc tg (tests (evalCs F cs)) (evalE F e) src ρ S1).bind fun xs S2 => .ok (.t (.lst xs)) S2
  | .lensc tg it cs e, ρ, S => (evalI F it ρ S).bind fun src S1 => (scSrc tg (tests (evalCs F cs)) (evalE F e) src ρ S1).bind fun ks S2 => .ok (.t (.int ((dset ks).length : Nat))) S2
  | .rev a, ρ, S => (evalE F a ρ S).bind fun x S1 => R.opt ((peek S1 x).bind fun d => (revD d).map .t) S1
  | .fz f es, ρ, S => (evalEs F es ρ S).bind fun vs S1 => R.opt ((peeks S1 vs).bind fun ds => (fzD f ds).map .t) S1
  | .dvals i _, ρ, S => match ρ[i]? with
    | some (some (.o n)) => match S[n]? with
      | some (.dt kvs) => if kvs.length < sizeLine then .ok (.t (.lst (kvs.map (·.2)))) S else .bad
      | _ => .bad
    | _ => .bad
  | .att e f, ρ, S => (evalE F e ρ S).bind fun x S1 => R.opt (attV x f) S1
  | .mk c ns es, ρ, S => (evalEs F es ρ S).bind fun vs S1 => if vs.length = ns.length then .ok (.ins c ns vs) S1 else .bad
  | .dget a i, ρ, S => (evalE F a ρ S).bind fun x S1 => (evalE F i ρ S1).bind fun y S2 => R.opt (dgetV S2 x y) S2
  | .din neg i a, ρ, S => (evalE F i ρ S).bind fun y S1 => (evalE F a ρ S1).bind fun x S2 => R.opt (dinV S2 neg y x) S2
  | .gdget _ kvs i, ρ, S => (evalE F i ρ S).bind fun y S1 => R.opt ((strV y).bind fun z => (kvs.lookup z).map .t) S1
  | .gdin neg _ kvs i, ρ, S => (evalE F i ρ S).bind fun y S1 => R.opt ((strV y).map fun z => .t (.bl (xor neg (kvs.lookup z).isSome))) S1
  | .obT, _, S => .ok (.o S.length) (S ++ [.dt []])
  | .kd0, _, S => .ok (.kd []) S
  | .dc tg it cs k v, ρ, S => (evalI F it ρ S).bind fun src S1 => (dcSrc tg (tests (evalCs F cs)) (evalE F k) (evalE F v) src ρ S1).bind fun kvs S2 => .ok (.kd kvs) S2
  | .callR f es w y z, ρ, S => (evalEs F es ρ S).bind fun vs S1 => (evalE F w ρ S1).bind fun v S2 => (R.opt (replV v y z) S2).bind fun u S3 => F f (vs ++ [u]) S3
  | .callK f es e, ρ, S => (evalEs F es ρ S).bind fun vs S1 => (evalE F e ρ S1).bind fun v S2 => F f (vs ++ [v]) S2
  | .callD f es d, ρ, S => (evalEs F es ρ S).bind fun vs S1 => F f (vs ++ [.t d]) S1
def evalEs (F : FS) : List ME → Ev → St' → R (List SV)
  | [], _, S => .ok [] S
  | e :: es, ρ, S => (evalE F e ρ S).bind fun v S1 => (evalEs F es ρ S1).bind fun vs S2 => .ok (v :: vs) S2
def evalCs (F : FS) : List ME → List (Ev → St' → R Bool)
  | [] => []
  | c :: cs => (fun ρ S => tru (evalE F c ρ S)) :: evalCs F cs
def evalP (F : FS) : List ME → Ev → St' → R (Option Int)
  | [], _, S => .ok none S
  | e :: _, ρ, S => (evalE F e ρ S).bind fun v S1 => match v with
    | .t (.int i) => .ok (some i) S1
    | _ => .bad
def evalI (F : FS) : IT → Ev → St' → R Src
  | .of e, ρ, S => (evalE F e ρ S).bind fun v S1 => R.opt (srcOf S1 v) S1
  | .range1 e, ρ, S => (evalE F e ρ S).bind fun v S1 => match v with
    | .t (.int n) => if rngOk n then .ok (.fix (rangeD 0 n)) S1 else .bad
    | _ => .bad
  | .range2 a b, ρ, S => (evalE F a ρ S).bind fun v S1 => (evalE F b ρ S1).bind fun u S2 => match v, u with
    | .t (.int i), .t (.int j) => if rngOk i && rngOk j then .ok (.fix (rangeD i j)) S2 else .bad
    | _, _ => .bad
  | .enum e, ρ, S => (evalE F e ρ S).bind fun v S1 => match v with
    | .t (.lst xs) => .ok (.fix (enumD xs)) S1
    | .t (.tup xs) => .ok (.fix (enumD xs)) S1
    | _ => .bad
  | .zip a b, ρ, S => (evalE F a ρ S).bind fun v S1 => (evalE F b ρ S1).bind fun u S2 => match v, u with
    | .t (.lst xs), .t (.lst ys) => .ok (.fix (zipD xs ys)) S2
    | .t (.tup xs), .t (.tup ys) => .ok (.fix (zipD xs ys)) S2
    | _, _ => .bad
  | .zips a b, ρ, S => (evalE F a ρ S).bind fun v S1 => (evalE F b ρ S1).bind fun u S2 => match v, u with
    | .t (.str x), .t (.tup ys) => .ok (.fix (zipD (x.cps.toList.map fun c => .str ⟨#[c]⟩) ys)) S2
    | _, _ => .bad
end
/-- a list that is new -/
def evalL (F : FS) : ME → Ev → St' → R (List D)
  | .lst es, ρ, S => (evalEs F es ρ S).bind fun vs S1 => match grabs S1 vs with
    | some (ds, S2) => if ds.length ≤ sizeLine then .ok ds S2 else .bad
    | none => .bad
  | .lc tg it cs e, ρ, S => (evalI F it ρ S).bind fun src S1 => lcSrc tg (tests (evalCs F cs)) (evalE F e) src ρ S1
  | .bin .add a b, ρ, S => (evalE F a ρ S).bind fun x S1 => (evalE F b ρ S1).bind fun y S2 =>
      R.opt ((peek S2 x).bind fun d => (peek S2 y).bind fun e => match d, e with
        | .lst xs, .lst ys => if xs.length + ys.length ≤ sizeLine then some (xs ++ ys) else none
        | _, _ => none) S2
  | .bi .list [a], ρ, S => (evalE F a ρ S).bind fun x S1 => R.opt ((peek S1 x).bind fun d => match d with
      | .lst xs => some xs
      | .tup xs => some xs
      | _ => none) S1
  | _, _, _ => .bad

inductive Out where
  | nx (ρ : Ev) (S : St') | rt (v : SV) (S : St') | bk (ρ : Ev) (S : St') | ct (ρ : Ev) (S : St') | exc (c : Nat) (p : List D) (ρ : Ev) (S : St') | bad
def Out.of {α : Type} (ρ : Ev) (r : R α) (k : α → St' → Out) : Out := match r with
  | .ok a S => k a S
  | .exc c p S => .exc c p ρ S
  | .bad => .bad
@[simp] theorem Out.of_ok {α : Type} (ρ : Ev) (a : α) (S : St') (k : α → St' → Out) : Out.of ρ (.ok a S) k = k a S := rfl
@[simp] theorem Out.of_exc {α : Type} (ρ : Ev) (c : Nat) (p : List D) (S : St') (k : α → St' → Out) : Out.of ρ (.exc c p S) k = .exc c p ρ S := rfl
@[simp] theorem Out.of_bad {α : Type} (ρ : Ev) (k : α → St' → Out) : Out.of ρ .bad k = .bad := rfl
def Out.seq (o : Out) (k : Ev → St' → Out) : Out := match o with
  | .nx ρ S => k ρ S
  | o => o
@[simp] theorem Out.seq_nx (ρ : Ev) (S : St') (k : Ev → St' → Out) : (Out.nx ρ S).seq k = k ρ S := rfl
@[simp] theorem Out.seq_rt (v : SV) (S : St') (k : Ev → St' → Out) : (Out.rt v S).seq k = .rt v S := rfl
@[simp] theorem Out.seq_bk (ρ : Ev) (S : St') (k : Ev → St' → Out) : (Out.bk ρ S).seq k = .bk ρ S := rfl
@[simp] theorem Out.seq_ct (ρ : Ev) (S : St') (k : Ev → St' → Out) : (Out.ct ρ S).seq k = .ct ρ S := rfl
@[simp] theorem Out.seq_exc (c : Nat) (p : List D) (ρ : Ev) (S : St') (k : Ev → St' → Out) : (Out.exc c p ρ S).seq k = .exc c p ρ S := rfl
@[simp] theorem Out.seq_bad (k : Ev → St' → Out) : Out.bad.seq k = .bad := rfl
/-- behind a loop's turn -/
def Out.turn (o : Out) (k : Ev → St' → Out) : Out := match o with
  | .nx ρ S => k ρ S
  | .ct ρ S => k ρ S
  | .bk ρ S => .nx ρ S
  | .rt v S => .rt v S
  | .exc c p ρ S => .exc c p ρ S
  | .bad => .bad
@[simp] theorem Out.turn_nx (ρ : Ev) (S : St') (k : Ev → St' → Out) : (Out.nx ρ S).turn k = k ρ S := rfl
@[simp] theorem Out.turn_ct (ρ : Ev) (S : St') (k : Ev → St' → Out) : (Out.ct ρ S).turn k = k ρ S := rfl
@[simp] theorem Out.turn_bk (ρ : Ev) (S : St') (k : Ev → St' → Out) : (Out.bk ρ S).turn k = .nx ρ S := rfl
@[simp] theorem Out.turn_rt (v : SV) (S : St') (k : Ev → St' → Out) : (Out.rt v S).turn k = .rt v S := rfl
@[simp] theorem Out.turn_exc (c : Nat) (p : List D) (ρ : Ev) (S : St') (k : Ev → St' → Out) : (Out.exc c p ρ S).turn k = .exc c p ρ S := rfl
@[simp] theorem Out.turn_bad (k : Ev → St' → Out) : Out.bad.turn k = .bad := rfl

def forFix (tg : Tg) (body : Ev → St' → Out) : List D → Ev → St' → Out
  | [], ρ, S => .nx ρ S
  | d :: ds, ρ, S => match bindTg tg d ρ with
    | none => .bad
    | some ρ' => (body ρ' S).turn fun ρ2 S2 => forFix tg body ds ρ2 S2
def forLive (tg : Tg) (body : Ev → St' → Out) (i : Nat) : Nat → Nat → Ev → St' → Out
  | n, j, ρ, S => match S[i]? with
    | some (.lst ys) => match ys[j]?, n with
      | none, _ => .nx ρ S
      | some _, 0 => .bad
      | some d, n + 1 => match bindTg tg d ρ with
        | none => .bad
        | some ρ' => (body ρ' S).turn fun ρ2 S2 => forLive tg body i n (j + 1) ρ2 S2
    | _ => .bad
def forSrc (tg : Tg) (body : Ev → St' → Out) : Src → Ev → St' → Out
  | .fix xs, ρ, S => forFix tg body xs ρ S
  | .live i, ρ, S => match S[i]? with
    | some (.lst ys) => forLive tg body i ys.length 0 ρ S
    | _ => .bad

/-- the value is put behind what the list k has -/
def appO (ρ : Ev) (k : Nat) (v : SV) (S1 : St') : Out := match grab S1 v with
  | some (d, S2) => match S2[k]? with
    | some (.lst xs) => if xs.length < sizeLine then .nx ρ (S2.set k (.lst (xs ++ [d]))) else .bad
    | _ => .bad
  | none => .bad
/-- in its place, or at the end -/
def putD (kvs : List (List Key × D)) (k : List Key) (v : D) : List (List Key × D) :=
  if (kvs.any fun kv => decide (kv.1 = k)) = true then kvs.map (fun kv => if kv.1 = k then (kv.1, v) else kv) else kvs ++ [(k, v)]
def putO (ρ : Ev) (n : Nat) (d : D) (kv : SV) (S3 : St') : Out := match peek S3 kv with
  | some (.lst xs) => match asKeys xs, S3[n]? with
    | some ks, some (.dt kvs) => if kvs.length < sizeLine then .nx ρ (S3.set n (.dt (putD kvs ks d))) else .bad
    | _, _ => .bad
  | _ => .bad
def putkO (ρ : Ev) (n : Nat) (d : D) (kv : SV) (S3 : St') : Out := match keyV kv, S3[n]? with
  | some k, some (.dk kvs) => if kvs.length < sizeLine then .nx ρ (S3.set n (.dk (putKD kvs k d))) else .bad
  | _, _ => .bad
def puttO (ρ : Ev) (n : Nat) (d : D) (ks : List SV) (S3 : St') : Out := match grabs S3 ks with
  | some (xs, S4) => match asKeys xs, S4[n]? with
    | some k, some (.dt kvs) => if kvs.length < sizeLine ∧ k.length ≤ sizeLine then .nx ρ (S4.set n (.dt (putD kvs k d))) else .bad
    | _, _ => .bad
  | none => .bad
def newkO (ρ : Ev) (i n : Nat) (ks : List Str) (vs : List SV) (S1 : St') : Out := match grabs S1 vs with
  | some (ds, S2) => match S2[n]? with
    | some (.dk []) => if ks.length = ds.length ∧ ks.length ≤ 15 then .nx (ρ.set i (some (.o n))) (S2.set n (.dk (mergeD [] ks ds))) else .bad
    | _ => .bad
  | none => .bad
def setO (ρ : Ev) (n : Nat) (d : D) (kv : SV) (S3 : St') : Out := match kv with
  | .t (.int z) => match S3[n]? with
    | some (.lst xs) => match ixN xs.length z with
      | some j => .nx ρ (S3.set n (.lst (xs.set j d)))
      | none => .bad
    | _ => .bad
  | _ => .bad
def augO (ρ : Ev) (i : Nat) (o : Bn) (x y : SV) (S1 : St') : Out := match x, y with
  | .t (.int a), .t (.int b) => if o = .pow then .bad else match binD o (.int a) (.int b) with
    | some d => .nx (ρ.set i (some (.t d))) S1
    | none => .bad
  | _, _ => .bad
def tpO (ρ : Ev) (is : List Nat) (v : SV) (S1 : St') : Out := match v with
  | .t (.tup ds) => match setTg is ds ρ with
    | some ρ' => .nx ρ' S1
    | none => .bad
  | _ => .bad
mutual
def execS (F : FS) : MS → Ev → St' → Out
  | .doc, ρ, S => .nx ρ S
  | .pass, ρ, S => .nx ρ S
  | .any, _, _ => .bad
  | .asg (.v i) e, ρ, S => Out.of ρ (evalE F e ρ S) fun v S1 => .nx (ρ.set i (some v)) S1
  | .asg (.tp is) e, ρ, S => Out.of ρ (evalE F e ρ S) fun v S1 => tpO ρ is v S1
  | .par i j a b, ρ, S => Out.of ρ (evalE F a ρ S) fun v S1 => Out.of ρ (evalE F b ρ S1) fun u S2 => .nx ((ρ.set i (some v)).set j (some u)) S2
  | .new i e, ρ, S => Out.of ρ (evalL F e ρ S) fun xs S1 => .nx (ρ.set i (some (.o S1.length))) (S1 ++ [.lst xs])
  | .aug i o e, ρ, S => match ρ[i]? with
    | some (some x) => Out.of ρ (evalE F e ρ S) fun y S1 => augO ρ i o x y S1
    | _ => .bad
  | .app i e, ρ, S => match ρ[i]? with
    | some (some (.o k)) => match S[k]? with
      | some (.lst _) => Out.of ρ (evalE F e ρ S) fun v S1 => appO ρ k v S1
      | _ => .bad
    | _ => .bad
  | .seti i k e, ρ, S => Out.of ρ (evalE F e ρ S) fun v S1 => match grab S1 v with
    | some (d, S2) => match ρ[i]? with
      | some (some (.o n)) => Out.of ρ (evalE F k ρ S2) fun kv S3 => setO ρ n d kv S3
      | _ => .bad
    | none => .bad
  | .newd i, ρ, S => .nx (ρ.set i (some (.o S.length))) (S ++ [.dt []])
  | .putd i k e, ρ, S => Out.of ρ (evalE F e ρ S) fun v S1 => match grab S1 v with
    | some (d, S2) => match ρ[i]? with
      | some (some (.o n)) => Out.of ρ (evalE F k ρ S2) fun kv S3 => putO ρ n d kv S3
      | _ => .bad
    | none => .bad
  | .newk i ks es, ρ, S => Out.of ρ (evalEs F es ρ (S ++ [.dk []])) fun vs S1 => newkO ρ i S.length ks vs S1
  | .putk i k e, ρ, S => Out.of ρ (evalE F e ρ S) fun v S1 => match grab S1 v with
    | some (d, S2) => match ρ[i]? with
      | some (some (.o n)) => Out.of ρ (evalE F k ρ S2) fun kv S3 => putkO ρ n d kv S3
      | _ => .bad
    | none => .bad
  | .putt i k e, ρ, S => Out.of ρ (evalE F e ρ S) fun v S1 => match grab S1 v with
    | some (d, S2) => match ρ[i]? with
      | some (some (.o n)) => Out.of ρ (evalEs F k ρ S2) fun kv S3 => puttO ρ n d kv S3
      | _ => .bad
    | none => .bad
  | .expr e, ρ, S => Out.of ρ (evalE F e ρ S) fun _ S1 => .nx ρ S1
  | .ret e, ρ, S => Out.of ρ (evalE F e ρ S) fun v S1 => .rt v S1
  | .retN, ρ, S => .rt (.t .non) S
  | .ife c a b, ρ, S => Out.of ρ (tru (evalE F c ρ S)) fun k S1 => if k then execB F a ρ S1 else execB F b ρ S1
  | .for_ tg it body, ρ, S => Out.of ρ (evalI F it ρ S) fun src S1 => forSrc tg (execB F body) src ρ S1
def execB (F : FS) : List MS → Ev → St' → Out
  | [], ρ, S => .nx ρ S
  | s :: ss, ρ, S => (execS F s ρ S).seq fun ρ' S' => execB F ss ρ' S'
end
mutual
/-- no object but the first n within -/
def shut (n : Nat) : SV → Bool
  | .t _ | .kd _ | .td _ => true
  | .o i => decide (i < n)
  | .ins _ _ fs => shuts n fs
def shuts (n : Nat) : List SV → Bool
  | [] => true
  | v :: vs => shut n v && shuts n vs
end
/-- the end of a call that began with n objects -/
def finish (n : Nat) (v : SV) (S : St') : R SV := match v with
  | .t d => .ok (.t d) (S.take n)
  | .o i => if i < n then .ok (.o i) (S.take n) else match S[i]? with
    | some (.lst xs) => .ok (.t (.lst xs)) (S.take n)
    | some (.dk kvs) => .ok (.kd kvs) (S.take n)
    | some (.dt kvs) => .ok (.td kvs) (S.take n)
    | _ => .bad
  | .kd kvs => .ok (.kd kvs) (S.take n)
  | .td kvs => .ok (.td kvs) (S.take n)
  | .ins c ns fs => if shuts n fs then .ok (.ins c ns fs) (S.take n) else .bad
/-- a def: how many parameters, how many slots, its body -/
structure Fn where
  ar : Nat
  sl : Nat
  body : List MS
def callF (F : FS) (f : Fn) (vs : List SV) (S : St') : R SV :=
  if vs.length = f.ar then
    match execB F f.body (vs.map some ++ List.replicate (f.sl - vs.length) none) S with
    | .rt v S' => finish S.length v S'
    | .nx _ S' => .ok (.t .non) (S'.take S.length)
    | .exc c p _ S' => .exc c p (S'.take S.length)
    | _ => .bad
  else .bad
/-- the defs at depth n -/
def FT (T : List Fn) : Nat → FS
  | 0 => fun _ _ _ => .bad
  | n + 1 => fun f vs S => match T[f]? with
    | some fn => callF (FT T n) fn vs S
    | none => .bad
end M

/-! values: what stands for data is read and made -/
namespace M
open PySem PySem.Spec PyProof.Rows L2

section
variable {K : PySem.W.Frag} {H H' : Hp} {m m' : List Addr} {S S' : St'} {N N' : Addr → Prop}

theorem ORep.there {a : Addr} {o : O} (h : ORep K H N a o) : ∃ u, H a = some u := by
  cases o with
  | lst xs => obtain ⟨vs, h1, _⟩ := h; exact ⟨_, h1⟩
  | dt kvs => obtain ⟨vs, h1, _⟩ := h; exact ⟨_, h1⟩
  | dk kvs => obtain ⟨vs, h1, _⟩ := h; exact ⟨_, h1⟩
  | dead => exact h
theorem StOk.mem (ok : StOk K H m S) {a : Addr} (h : a ∈ m) : ∃ o, H a = some o := by
  obtain ⟨i, hi⟩ := List.getElem?_of_mem h
  have hl : i < S.length := by
    have := (List.getElem?_eq_some_iff.mp hi).1
    rw [← ok.len]; exact this
  exact (ok.at_ i a _ hi (List.getElem?_eq_getElem hl)).there
theorem Own.mem {a : Addr} (h : Own m S a) : a ∈ m := by
  obtain ⟨i, e, _⟩ := h
  exact List.mem_of_getElem? e
theorem StOk.own (ok : StOk K H m S) {a : Addr} (h : Own m S a) : ∃ o, H a = some o := ok.mem h.mem
theorem StOk.fresh (ok : StOk K H m S) {p : Addr} (h : H p = none) : ¬ Own m S p := fun o => by
  obtain ⟨u, e⟩ := ok.own o
  rw [h] at e; cases e
theorem ORep.mono (f : ∀ a o, H a = some o → ¬ N a → H' a = some o ∧ ¬ N' a) {a : Addr} {o : O} (g : ∀ u, H a = some u → ∃ u', H' a = some u') (g2 : ∀ u, H a = some u → o ≠ .dead → H' a = some u) (h : ORep K H N a o) : ORep K H' N' a o := by
  cases o with
  | lst xs => obtain ⟨vs, h1, h2⟩ := h; exact ⟨vs, g2 _ h1 (fun z => nomatch z), h2.mono f⟩
  | dt kvs => obtain ⟨vs, h1, h2, h4, h3⟩ := h; exact ⟨vs, g2 _ h1 (fun z => nomatch z), h2, h4, h3.mono f⟩
  | dk kvs => obtain ⟨vs, h1, h2, h3⟩ := h; exact ⟨vs, g2 _ h1 (fun z => nomatch z), h2, h3.mono f⟩
  | dead => obtain ⟨u, e⟩ := h; exact g u e
/-- a new object that is seen -/
theorem StOk.laid (ok : StOk K H m S) {p : Addr} (hp : H p = none) (o : HO) : StOk K (upd H p o) m S ∧ Fr H m S (upd H p o) m S := by
  have k : ∀ a u, H a = some u → upd H p o a = some u := fun a u e => by rw [upd_ne (ne_of_none e hp)]; exact e
  have f : ∀ a u, H a = some u → ¬ Own m S a → upd H p o a = some u ∧ ¬ Own m S a := fun a u e n => ⟨k a u e, n⟩
  exact ⟨⟨ok.len, ok.nd, fun i a u e1 e2 => (ok.at_ i a u e1 e2).mono f (fun u e => ⟨u, k _ _ e⟩) fun u e _ => k _ _ e⟩, f, List.prefix_refl _⟩
theorem own_push {p a : Addr} {o : O} (hl : m.length = S.length) (h : Own (m ++ [p]) (S ++ [o]) a) : Own m S a ∨ a = p := by
  obtain ⟨i, e1, u, e2, ne⟩ := h
  by_cases hi : i < m.length
  · rw [List.getElem?_append_left hi] at e1
    rw [List.getElem?_append_left (by omega)] at e2
    exact .inl ⟨i, e1, u, e2, ne⟩
  · rw [List.getElem?_append_right (by omega)] at e1
    have : i - m.length = 0 := by
      have := (List.getElem?_eq_some_iff.mp e1).1
      simp at this; omega
    rw [this] at e1
    simp at e1
    exact .inr e1.symm
/-- a new object that is changed later -/
theorem StOk.push (ok : StOk K H m S) {p : Addr} (hp : H p = none) {vs : List V} {xs : List D} (hv : Reps K H (Own m S) vs xs) :
    StOk K (upd H p (.lst vs)) (m ++ [p]) (S ++ [.lst xs]) ∧ Fr H m S (upd H p (.lst vs)) (m ++ [p]) (S ++ [.lst xs]) := by
  have k : ∀ a u, H a = some u → upd H p (.lst vs) a = some u := fun a u e => by rw [upd_ne (ne_of_none e hp)]; exact e
  have f : ∀ a u, H a = some u → ¬ Own m S a → upd H p (.lst vs) a = some u ∧ ¬ Own (m ++ [p]) (S ++ [.lst xs]) a := fun a u e n => by
    refine ⟨k a u e, fun z => ?_⟩
    rcases own_push ok.len z with z | z
    · exact n z
    · subst z; rw [hp] at e; cases e
  have np : p ∉ m := fun z => by
    obtain ⟨u, e⟩ := ok.mem z
    rw [hp] at e; cases e
  refine ⟨⟨by simp [ok.len], ?_, fun i a u e1 e2 => ?_⟩, f, ⟨[p], rfl⟩⟩
  · rw [List.nodup_append]
    refine ⟨ok.nd, by simp, fun a ha b hb => ?_⟩
    have : b = p := by simpa using hb
    subst this
    exact fun z => np (z ▸ ha)
  · by_cases hi : i < m.length
    · rw [List.getElem?_append_left hi] at e1
      rw [List.getElem?_append_left (by rw [← ok.len]; exact hi)] at e2
      exact (ok.at_ i a u e1 e2).mono f (fun u e => ⟨u, k _ _ e⟩) fun u e _ => k _ _ e
    · have hl := ok.len
      rw [List.getElem?_append_right (by omega)] at e1 e2
      have h0 : i - m.length = 0 := by
        have := (List.getElem?_eq_some_iff.mp e1).1
        simp at this; omega
      rw [h0] at e1
      rw [← hl, h0] at e2
      simp at e1 e2
      subst e1 e2
      exact ⟨vs, upd_same, hv.mono f⟩
/-- a new object of any kind -/
theorem StOk.pushO (ok : StOk K H m S) {p : Addr} (hp : H p = none) {uo : HO} {oo : O} (hr : (∀ a u, H a = some u → ¬ Own m S a → upd H p uo a = some u ∧ ¬ Own (m ++ [p]) (S ++ [oo]) a) → ORep K (upd H p uo) (Own (m ++ [p]) (S ++ [oo])) p oo) :
    StOk K (upd H p uo) (m ++ [p]) (S ++ [oo]) ∧ Fr H m S (upd H p uo) (m ++ [p]) (S ++ [oo]) := by
  have k : ∀ a u, H a = some u → upd H p uo a = some u := fun a u e => by rw [upd_ne (ne_of_none e hp)]; exact e
  have f : ∀ a u, H a = some u → ¬ Own m S a → upd H p uo a = some u ∧ ¬ Own (m ++ [p]) (S ++ [oo]) a := fun a u e n => by
    refine ⟨k a u e, fun z => ?_⟩
    rcases own_push ok.len z with z | z
    · exact n z
    · subst z; rw [hp] at e; cases e
  have np : p ∉ m := fun z => by
    obtain ⟨u, e⟩ := ok.mem z
    rw [hp] at e; cases e
  refine ⟨⟨by simp [ok.len], ?_, fun i a u e1 e2 => ?_⟩, f, ⟨[p], rfl⟩⟩
  · rw [List.nodup_append]
    refine ⟨ok.nd, by simp, fun a ha b hb => ?_⟩
    have : b = p := by simpa using hb
    subst this
    exact fun z => np (z ▸ ha)
  · by_cases hi : i < m.length
    · rw [List.getElem?_append_left hi] at e1
      rw [List.getElem?_append_left (by rw [← ok.len]; exact hi)] at e2
      exact (ok.at_ i a u e1 e2).mono f (fun u e => ⟨u, k _ _ e⟩) fun u e _ => k _ _ e
    · have hl := ok.len
      rw [List.getElem?_append_right (by omega)] at e1 e2
      have h0 : i - m.length = 0 := by
        have := (List.getElem?_eq_some_iff.mp e1).1
        simp at this; omega
      rw [h0] at e1
      rw [← hl, h0] at e2
      simp at e1 e2
      subst e1 e2
      exact hr f
theorem own_set {i : Nat} {o : O} {a : Addr} (h : Own m (S.set i o) a) (ho : o ≠ .dead → ∃ u, S[i]? = some u ∧ u ≠ .dead) : Own m S a := by
  obtain ⟨j, e1, u, e2, ne⟩ := h
  by_cases hj : i = j
  · subst hj
    by_cases hi : i < S.length
    · rw [List.getElem?_set_self hi] at e2
      cases e2
      obtain ⟨u, e3, ne3⟩ := ho ne
      exact ⟨i, e1, u, e3, ne3⟩
    · rw [List.getElem?_eq_none (by simpa using hi)] at e2; cases e2
  · rw [List.getElem?_set_ne hj] at e2
    exact ⟨j, e1, u, e2, ne⟩
/-- an object changed -/
theorem StOk.write (ok : StOk K H m S) {i : Nat} {a : Addr} {o : O} (hi : m[i]? = some a) (ho : S[i]? = some o) (hd : o ≠ .dead) {vs : List V} {xs : List D} (hv : Reps K H (Own m S) vs xs) :
    StOk K (upd H a (.lst vs)) m (S.set i (.lst xs)) ∧ Fr H m S (upd H a (.lst vs)) m (S.set i (.lst xs)) := by
  have ow : Own m S a := ⟨i, hi, o, ho, hd⟩
  have hl : i < S.length := (List.getElem?_eq_some_iff.mp ho).1
  have nO : ∀ b, ¬ Own m S b → ¬ Own m (S.set i (.lst xs)) b := fun b n z => n (own_set z fun _ => ⟨o, ho, hd⟩)
  have f : ∀ b u, H b = some u → ¬ Own m S b → upd H a (.lst vs) b = some u ∧ ¬ Own m (S.set i (.lst xs)) b := fun b u e n => by
    refine ⟨?_, nO b n⟩
    have nb : b ≠ a := fun z => by subst z; exact n ow
    rw [upd_ne nb]; exact e
  refine ⟨⟨by simp [ok.len], ok.nd, fun j b u e1 e2 => ?_⟩, f, List.prefix_refl _⟩
  by_cases hj : i = j
  · subst hj
    rw [List.getElem?_set_self hl] at e2
    cases e2
    rw [hi] at e1; cases e1
    exact ⟨vs, upd_same, hv.mono f⟩
  · rw [List.getElem?_set_ne hj] at e2
    have nb : b ≠ a := fun z => by
      subst z
      have h1 := (List.getElem?_eq_some_iff.mp hi)
      have h2 := (List.getElem?_eq_some_iff.mp e1)
      exact hj ((List.getElem_inj (h₀ := h1.1) (h₁ := h2.1) ok.nd).mp (h1.2.trans h2.2.symm))
    exact (ok.at_ j b u e1 e2).mono f (fun u e => ⟨u, by rw [upd_ne nb]; exact e⟩) fun u e _ => by rw [upd_ne nb]; exact e
/-- .. of any kind -/
theorem StOk.writeO (ok : StOk K H m S) {i : Nat} {a : Addr} {o : O} (hi : m[i]? = some a) (ho : S[i]? = some o) (hd : o ≠ .dead) {uo : HO} {oo : O} (hr : (∀ b u, H b = some u → ¬ Own m S b → upd H a uo b = some u ∧ ¬ Own m (S.set i oo) b) → ORep K (upd H a uo) (Own m (S.set i oo)) a oo) :
    StOk K (upd H a uo) m (S.set i oo) ∧ Fr H m S (upd H a uo) m (S.set i oo) := by
  have ow : Own m S a := ⟨i, hi, o, ho, hd⟩
  have hl : i < S.length := (List.getElem?_eq_some_iff.mp ho).1
  have nO : ∀ b, ¬ Own m S b → ¬ Own m (S.set i oo) b := fun b n z => n (own_set z fun _ => ⟨o, ho, hd⟩)
  have f : ∀ b u, H b = some u → ¬ Own m S b → upd H a uo b = some u ∧ ¬ Own m (S.set i oo) b := fun b u e n => by
    refine ⟨?_, nO b n⟩
    have nb : b ≠ a := fun z => by subst z; exact n ow
    rw [upd_ne nb]; exact e
  refine ⟨⟨by simp [ok.len], ok.nd, fun j b u e1 e2 => ?_⟩, f, List.prefix_refl _⟩
  by_cases hj : i = j
  · subst hj
    rw [List.getElem?_set_self hl] at e2
    cases e2
    rw [hi] at e1; cases e1
    exact hr f
  · rw [List.getElem?_set_ne hj] at e2
    have nb : b ≠ a := fun z => by
      subst z
      have h1 := (List.getElem?_eq_some_iff.mp hi)
      have h2 := (List.getElem?_eq_some_iff.mp e1)
      exact hj ((List.getElem_inj (h₀ := h1.1) (h₁ := h2.1) ok.nd).mp (h1.2.trans h2.2.symm))
    exact (ok.at_ j b u e1 e2).mono f (fun u e => ⟨u, by rw [upd_ne nb]; exact e⟩) fun u e _ => by rw [upd_ne nb]; exact e
/-- an object given away -/
theorem StOk.kill (ok : StOk K H m S) {i : Nat} {a : Addr} (hi : m[i]? = some a) : StOk K H m (S.set i .dead) ∧ Fr H m S H m (S.set i .dead) := by
  have nO : ∀ b, ¬ Own m S b → ¬ Own m (S.set i .dead) b := fun b n z => n (own_set z fun z => absurd rfl z)
  have f : ∀ b u, H b = some u → ¬ Own m S b → H b = some u ∧ ¬ Own m (S.set i .dead) b := fun b u e n => ⟨e, nO b n⟩
  refine ⟨⟨by simp [ok.len], ok.nd, fun j b u e1 e2 => ?_⟩, f, List.prefix_refl _⟩
  by_cases hj : i = j
  · subst hj
    have hl : i < S.length := by
      have := (List.getElem?_eq_some_iff.mp hi).1
      rw [← ok.len]; exact this
    rw [List.getElem?_set_self hl] at e2
    cases e2
    rw [hi] at e1; cases e1
    exact ok.mem (List.mem_of_getElem? hi)
  · rw [List.getElem?_set_ne hj] at e2
    exact (ok.at_ j b u e1 e2).mono f (fun u e => ⟨u, e⟩) fun u e _ => e

/-! ### read -/
/-- what may be read as data -/
inductive PR (K : PySem.W.Frag) (H : Hp) (N : Addr → Prop) : V → D → Prop
  | of {v : V} {d : D} : Rep K H N v d → PR K H N v d
  | live {a : Addr} {vs : List V} {xs : List D} : H a = some (.lst vs) → Reps K H N vs xs → PR K H N (.ref a) (.lst xs)
theorem StOk.peek (ok : StOk K H m S) {v : V} {x : SV} {d : D} (r : RepS K H m S v x) (e : M.peek S x = some d) : PR K H (Own m S) v d := by
  cases x with
  | kd _ => cases e
  | td _ => cases e
  | ins _ _ _ => cases e
  | t d' => cases e; exact .of r
  | o i =>
    obtain ⟨a, h1, rfl⟩ := r
    simp only [M.peek] at e
    split at e
    · rename_i xs hS
      cases e
      obtain ⟨vs, h2, h3⟩ := ok.at_ i a _ h1 hS
      exact .live h2 h3
    · cases e
theorem PR.lst {v : V} {xs : List D} (h : PR K H N v (.lst xs)) : ∃ a vs, v = .ref a ∧ Rd H a (.lst vs) ∧ Reps K H N vs xs := by
  cases h with
  | of h => cases h with | lst q r => exact ⟨_, _, rfl, q.1, r⟩
  | live h r => exact ⟨_, _, rfl, .inl h, r⟩
theorem PR.tup {v : V} {xs : List D} (h : PR K H N v (.tup xs)) : ∃ a vs, v = .ref a ∧ SqT K H a vs ∧ Reps K H N vs xs := by
  cases h with
  | of h => cases h with | tup q r => exact ⟨_, _, rfl, q.sq, r⟩
theorem PR.rep {v : V} {d : D} (h : PR K H N v d) (hd : ∀ xs, d ≠ .lst xs) : Rep K H N v d := by
  cases h with
  | of h => exact h
  | live h r => exact absurd rfl (hd _)
theorem PR.int {v : V} {i : Int} (h : PR K H N v (.int i)) : v = .int i := by
  cases h with | of h => cases h; rfl
theorem PR.str {v : V} {i : Str} (h : PR K H N v (.str i)) : v = .str i := by
  cases h with | of h => cases h; rfl
theorem PR.bl {v : V} {i : Bool} (h : PR K H N v (.bl i)) : v = .bl i := by
  cases h with | of h => cases h; rfl
theorem PR.non {v : V} (h : PR K H N v .non) : v = .non := by
  cases h with | of h => cases h; rfl
theorem RepS.int {v : V} {i : Int} (h : RepS K H m S v (.t (.int i))) : v = .int i := by
  cases (show Rep K H (Own m S) v (.int i) from h); rfl
mutual
theorem Rep.dp : ∀ {v : V} {d : D}, Rep K H N v d → Dp K H v (toPy d)
  | _, _, .non => by rw [toPy]; exact .non
  | _, _, .bl b => by rw [toPy]; exact .bl b
  | _, _, .int i => by rw [toPy]; exact .int i
  | _, _, .str x => by rw [toPy]; exact .str x
  | _, _, .tup q r => by rw [toPy]; exact .tup q.sq (Reps.dps r)
  | _, _, .lst q r => by rw [toPy]; exact .lst q.sq (Reps.dps r)
theorem Reps.dps : ∀ {v : List V} {d : List D}, Reps K H N v d → DpAll K H v (toPys d)
  | _, _, .nil => by rw [toPys]; exact .nil
  | _, _, .cons q r => by rw [toPys]; exact .cons (Rep.dp q) (Reps.dps r)
end
theorem PR.dp {v : V} {d : D} (h : PR K H N v d) : Dp K H v (toPy d) := by
  cases h with
  | of h => exact h.dp
  | live h r => rw [toPy]; exact .lst (SqL.of h) r.dps
theorem Reps.get {vs : List V} {xs : List D} (h : Reps K H N vs xs) : ∀ {i : Nat} {x : D}, xs[i]? = some x → ∃ v, vs[i]? = some v ∧ Rep K H N v x := by
  induction xs generalizing vs with
  | nil => intro i x e; simp at e
  | cons y ys ih =>
    cases h with
    | cons q r =>
      intro i x e
      cases i with
      | zero => simp at e; subst e; exact ⟨_, rfl, q⟩
      | succ i => simp at e; simpa using ih r e
theorem Reps.drop : ∀ {vs : List V} {xs : List D} (n : Nat), Reps K H N vs xs → Reps K H N (vs.drop n) (xs.drop n)
  | _, _, 0, h => h
  | _, _, n + 1, .nil => .nil
  | _, _, n + 1, .cons _ r => Reps.drop n r
theorem Reps.take : ∀ {vs : List V} {xs : List D} (n : Nat), Reps K H N vs xs → Reps K H N (vs.take n) (xs.take n)
  | _, _, 0, h => by simp; exact .nil
  | _, _, n + 1, .nil => .nil
  | _, _, n + 1, .cons q r => .cons q (Reps.take n r)
theorem Reps.append : ∀ {vs ws : List V} {xs ys : List D}, Reps K H N vs xs → Reps K H N ws ys → Reps K H N (vs ++ ws) (xs ++ ys)
  | _, _, _, _, .nil, h => h
  | _, _, _, _, .cons q r, h => .cons q (Reps.append r h)
theorem Reps.set : ∀ {vs : List V} {xs : List D} {v : V} {x : D} (n : Nat), Reps K H N vs xs → Rep K H N v x → Reps K H N (vs.set n v) (xs.set n x)
  | _, _, _, _, _, .nil, _ => .nil
  | _, _, _, _, 0, .cons _ r, h => .cons h r
  | _, _, _, _, n + 1, .cons q r, h => .cons q (Reps.set n r h)
theorem Reps.rep {vs : List V} {xs : List D} (h : Reps K H N vs xs) : ∀ k : Nat, Reps K H N (List.replicate k vs).flatten (List.replicate k xs).flatten
  | 0 => .nil
  | k + 1 => by
    rw [List.replicate_succ, List.replicate_succ, List.flatten_cons, List.flatten_cons]
    exact h.append (Reps.rep h k)
theorem Reps.cut {vs : List V} {xs : List D} (h : Reps K H N vs xs) (lo hi : Option Int) : Reps K H N (cutV vs lo hi) (cutD xs lo hi) := by
  unfold cutV cutD
  rw [h.length]
  exact (h.drop _).take _
theorem atI_reps {vs : List V} {xs : List D} (h : Reps K H N vs xs) {i : Int} {x : D} (e : atI xs i = some x) : ∃ v, atI vs i = some v ∧ Rep K H N v x := by
  unfold atI at e ⊢
  rw [h.length]
  cases q : ixN xs.length i with
  | none => rw [q] at e; cases e
  | some j => rw [q] at e; exact h.get e
theorem Reps.bls : ∀ {vs : List V} {xs : List D} {bs : List Bool}, Reps K H N vs xs → asBls xs = some bs → vs = bs.map V.bl
  | _, _, bs, .nil, e => by unfold asBls at e; cases e; rfl
  | _, _ :: ds, bs, .cons q r, e => by
    cases q with
    | bl b =>
      unfold asBls at e
      cases h : asBls ds with
      | none => rw [h] at e; cases e
      | some bs' => rw [h] at e; cases e; rw [List.map_cons, Reps.bls r h]
    | _ => unfold asBls at e; cases e
theorem Reps.ints : ∀ {vs : List V} {xs : List D} {bs : List Int}, Reps K H N vs xs → asInts xs = some bs → vs = bs.map V.int
  | _, _, bs, .nil, e => by unfold asInts at e; cases e; rfl
  | _, _ :: ds, bs, .cons q r, e => by
    cases q with
    | int b =>
      unfold asInts at e
      cases h : asInts ds with
      | none => rw [h] at e; cases e
      | some bs' => rw [h] at e; cases e; rw [List.map_cons, Reps.ints r h]
    | _ => unfold asInts at e; cases e
theorem reps_strs (ss : List Str) : Reps K H N (ss.map V.str) (ss.map D.str) := by
  induction ss with
  | nil => exact .nil
  | cons s r ih => exact .cons (.str s) ih
/-! ### new data -/
theorem rep_tup_new (ok : StOk K H m S) {p : Addr} (hp : H p = none) {vs : List V} {xs : List D} (hv : Reps K H (Own m S) vs xs) : Rep K (upd H p (.tup vs)) (Own m S) (.ref p) (.tup xs) :=
  .tup (.inl ⟨.inl upd_same, ok.fresh hp⟩) (hv.mono (ok.laid hp (.tup vs)).2.1)
theorem rep_lst_new (ok : StOk K H m S) {p : Addr} (hp : H p = none) {vs : List V} {xs : List D} (hv : Reps K H (Own m S) vs xs) : Rep K (upd H p (.lst vs)) (Own m S) (.ref p) (.lst xs) :=
  .lst ⟨.inl upd_same, ok.fresh hp⟩ (hv.mono (ok.laid hp (.lst vs)).2.1)
theorem StOk.grab (ok : StOk K H m S) {v : V} {x : SV} {d : D} {S1 : St'} (r : RepS K H m S v x) (e : M.grab S x = some (d, S1)) : StOk K H m S1 ∧ Fr H m S H m S1 ∧ Rep K H (Own m S1) v d := by
  cases x with
  | kd _ => cases e
  | td _ => cases e
  | ins _ _ _ => cases e
  | t d' => cases e; exact ⟨ok, .refl, r⟩
  | o i =>
    obtain ⟨a, h1, rfl⟩ := r
    simp only [M.grab] at e
    split at e
    · rename_i xs hS
      cases e
      obtain ⟨vs, h2, h3⟩ := ok.at_ i a _ h1 hS
      obtain ⟨k1, k2⟩ := ok.kill h1
      refine ⟨k1, k2, .lst ⟨.inl h2, fun z => ?_⟩ (h3.mono k2.1)⟩
      obtain ⟨j, e1, u, e2, ne⟩ := z
      have g1 := (List.getElem?_eq_some_iff.mp h1)
      have g2 := (List.getElem?_eq_some_iff.mp e1)
      have : i = j := (List.getElem_inj (h₀ := g1.1) (h₁ := g2.1) ok.nd).mp (g1.2.trans g2.2.symm)
      subst this
      rw [List.getElem?_set_self (List.getElem?_eq_some_iff.mp hS).1] at e2
      cases e2
      exact ne rfl
    · cases e
theorem StOk.grabs (ok : StOk K H m S) : ∀ {vs : List V} {xs : List SV} {ds : List D} {S1 : St'}, RepSs K H m S vs xs → M.grabs S xs = some (ds, S1) → StOk K H m S1 ∧ Fr H m S H m S1 ∧ Reps K H (Own m S1) vs ds := by
  intro vs xs
  induction xs generalizing vs S with
  | nil => intro ds S1 r e; cases r; unfold M.grabs at e; cases e; exact ⟨ok, .refl, .nil⟩
  | cons x xs ih =>
    intro ds S1 r e
    cases r with
    | cons q r =>
      unfold M.grabs at e
      split at e
      · rename_i d S2 hg
        obtain ⟨k1, k2, k3⟩ := ok.grab q hg
        cases h : M.grabs S2 xs with
        | none => rw [h] at e; cases e
        | some p =>
          obtain ⟨ds', S3⟩ := p
          rw [h] at e; cases e
          obtain ⟨j1, j2, j3⟩ := ih k1 (r.mono k2) h
          exact ⟨j1, k2.trans j2, .cons (k3.mono j2.1) j3⟩
      · cases e
inductive PRs (K : PySem.W.Frag) (H : Hp) (N : Addr → Prop) : List V → List D → Prop
  | nil : PRs K H N [] []
  | cons {v : V} {vs : List V} {d : D} {ds : List D} : PR K H N v d → PRs K H N vs ds → PRs K H N (v :: vs) (d :: ds)
theorem StOk.peeks (ok : StOk K H m S) : ∀ {vs : List V} {xs : List SV} {ds : List D}, RepSs K H m S vs xs → M.peeks S xs = some ds → PRs K H (Own m S) vs ds := by
  intro vs xs
  induction xs generalizing vs with
  | nil => intro ds r e; cases r; unfold M.peeks at e; cases e; exact .nil
  | cons x xs ih =>
    intro ds r e
    cases r with
    | cons q r =>
      unfold M.peeks at e
      split at e
      · rename_i d hg
        cases h : M.peeks S xs with
        | none => rw [h] at e; cases e
        | some p => rw [h] at e; cases e; exact .cons (ok.peek q hg) (ih r h)
      · cases e
end
end M

/-! operations on values that stand for data -/
namespace M
open PySem PySem.Spec PyProof.Rows L2

def opOf : Bn → Operator
  | .add => .Add | .sub => .Sub | .mul => .Mult | .fdiv => .FloorDiv | .mod => .Mod | .pow => .Pow
def cmOf : Cm → CmpOp
  | .eq => .Eq | .ne => .NotEq | .lt => .Lt | .le => .LtE | .gt => .Gt | .ge => .GtE | .isin => .In | .notin => .NotIn | .is_ => .Is | .isnot => .IsNot

section
variable {X : Cx} {pins : List (Addr × Obj)} {σ : L2.St} {H : Hp} {s : Shared}
theorem lstR (I : Inv X pins σ H s) {l : Addr} {xs : List V} (hH : Rd H l (.lst xs)) : xs.length ≤ sizeLine ∧ ∃ (its : List Value) (n : Nat), Vals xs its ∧ xs.length = its.length ∧ s.heap.get? l = some { cls := .type "list", data := .seq its.toArray n } := by
  obtain ⟨z, its, n, r, e⟩ := hH.ok I.hok
  exact ⟨z, its, n, r, r.length, e⟩
end
section
variable {X : Cx}
/-- lists that may be read -/
theorem op_catR : OpR X (binaryOp .Add) (fun x y H Q => ∃ l b xs zs, x = .ref l ∧ y = .ref b ∧ Rd H l (.lst xs) ∧ Rd H b (.lst zs) ∧ xs.length + zs.length ≤ sizeLine ∧ ∀ p, H p = none → Q (.ref p) (upd H p (.lst (xs ++ zs)))) := by
  intro pins s σ H x y v u Q I rx ry h
  obtain ⟨l, b, xs, zs, rfl, rfl, hH, hB, hz, q⟩ := h
  cases rx
  cases ry
  obtain ⟨z, its, n, r, hl, e⟩ := lstR I hH
  obtain ⟨z2, its2, n2, r2, hl2, e2⟩ := lstR I hB
  refine PySem.P.add_list e e2 ?_ (by rw [List.size_toArray, List.size_toArray]; omega)
  have ea : its.toArray ++ its2.toArray = (its ++ its2).toArray := by simp
  rw [ea]
  exact ⟨.ref _, _, I.lnew (t' := s.toks) (r.append r2) (by rw [List.length_append]; omega), rfl, q _ I.fresh⟩
theorem iop_mulW' {X : Cx} : OpR X (inplaceOp .Mult) (rI CMulW fun i j => .int (i * j)) := opI fun _ _ _ _ _ _ _ hc q => imul_int q hc.ok
theorem op_repR : OpR X (binaryOp .Mult) (fun x y H Q => ∃ l k xs, x = .ref l ∧ y = .int k ∧ Rd H l (.lst xs) ∧ -(2 ^ 63) ≤ k ∧ k < 2 ^ 63 ∧ xs.length * k.toNat ≤ sizeLine ∧
    ∀ p, H p = none → Q (.ref p) (upd H p (.lst (List.replicate k.toNat xs).flatten))) := by
  intro pins s σ H x y v u Q I rx ry h
  obtain ⟨l, k, xs, rfl, rfl, hH, h1, h2, hz, q⟩ := h
  cases rx
  obtain ⟨t, rfl⟩ := ry
  obtain ⟨z, its, n, r, hl, e⟩ := lstR I hH
  have hlen : its.toArray.size * k.toNat ≤ sizeLine := by rw [List.size_toArray, ← hl]; exact hz
  have hcap : ¬ its.toArray.size * k.toNat > (2 ^ 63 - 1) / 8 := by
    have : (sizeLine : Nat) ≤ (2 ^ 63 - 1) / 8 := by decide
    omega
  have hfit : ¬ (!Builtin.List.listFitsIndex k) = true := by
    rw [fitsIndex_both h1 h2]
    exact Bool.false_ne_true
  have hlong : ¬ Builtin.List.listTooLong (its.toArray.size * k.toNat) = true := by
    rw [notLongL hlen]
    exact Bool.false_ne_true
  have hnew : List.foldl (fun x1 x2 => x1 ++ x2) #[] (List.replicate (if its.toArray.isEmpty = true then 0 else k.toNat) its.toArray) = (List.replicate k.toNat its).flatten.toArray := by
    have f0 : ∀ m : Nat, List.foldl (fun x1 x2 => x1 ++ x2) #[] (List.replicate m its.toArray) = (List.replicate m its).flatten.toArray := fun m => by
      have := foldl_rep its m []
      rw [List.nil_append] at this
      exact this
    rw [f0]
    cases its with
    | nil => simp
    | cons a r' => rw [if_neg (by simp)]
  refine wpAny_binaryOp_repeat_ref (T := "list") (U := "int") (by decide) ⟨_, e, rfl⟩ (fun s' => typeIs_int s' k t) noFill_list_mul F.fills_int_mul F.slot_int_rmul repeat_list F.slot_int_index.lookup
    (call_meets F.slot_int_rmul (typeIs_int s k t) F.entry_int_rmul (F.args_int_rmul_2 _ _) (int___rmul___int_list k t l its.toArray n)
      ⟨e, rfl, ⟨_, e, rfl⟩, call_meets F.slot_list_mul ⟨_, e, rfl⟩ F.entry_list_mul (F.args_list_mul_2 _ _) (AutoListH.list___mul___list_int_3 l its.toArray n k t hfit hcap hlong) ⟨e, ?_⟩⟩)
  rw [hnew]
  exact ⟨.ref _, _, I.lnew (t' := s.toks) (r.rep k.toNat) (by rw [PyProof.Rows.lm_len_rep_flat, Nat.mul_comm]; exact hz), rfl, q _ I.fresh⟩

/-- what follows an operation that makes data r of what may be read -/
def Fol (K : PySem.W.Frag) (H : Hp) (m : List Addr) (S : St') (r : D) (Q : VK) : Prop := ∀ H' w, StOk K H' m S → Fr H m S H' m S → Rep K H' (Own m S) w r → Q w H'
theorem Fol.here {K : PySem.W.Frag} {H : Hp} {m : List Addr} {S : St'} {r : D} {Q : VK} (f : Fol K H m S r Q) (ok : StOk K H m S) {w : V} (h : Rep K H (Own m S) w r) : Q w H := f H w ok .refl h
theorem Fol.tup {K : PySem.W.Frag} {H : Hp} {m : List Addr} {S : St'} {ds : List D} {Q : VK} (f : Fol K H m S (.tup ds) Q) (ok : StOk K H m S) {vs : List V} (h : Reps K H (Own m S) vs ds) (p : Addr) (hp : H p = none) : Q (.ref p) (upd H p (.tup vs)) :=
  f _ _ (ok.laid hp _).1 (ok.laid hp _).2 (rep_tup_new ok hp h)
theorem Fol.lst {K : PySem.W.Frag} {H : Hp} {m : List Addr} {S : St'} {ds : List D} {Q : VK} (f : Fol K H m S (.lst ds) Q) (ok : StOk K H m S) {vs : List V} (h : Reps K H (Own m S) vs ds) (p : Addr) (hp : H p = none) : Q (.ref p) (upd H p (.lst vs)) :=
  f _ _ (ok.laid hp _).1 (ok.laid hp _).2 (rep_lst_new ok hp h)

/-- a binary operation on data -/
def rBin (K : PySem.W.Frag) (o : Bn) : R2 := fun v u H Q => ∃ m S d e r, StOk K H m S ∧ PR K H (Own m S) v d ∧ PR K H (Own m S) u e ∧ binD o d e = some r ∧ Fol K H m S r Q
theorem or_bin (o : Bn) : OpR X (binaryOp (opOf o)) (rBin X.K o) := by
  intro pins s σ H x y v u Q I rx ry h
  obtain ⟨m, S, d, e, r, ok, hx, hy, hr, f⟩ := h
  unfold binD at hr
  split at hr
  · cases hx.int; cases hy.int; cases hr
    exact op_add pins s σ H _ _ v u Q I rx ry ⟨_, _, rfl, rfl, f.here ok (.int _)⟩
  · cases hx.str; cases hy.str
    split at hr
    · cases hr
      exact op_add_str pins s σ H _ _ v u Q I rx ry ⟨_, _, rfl, rfl, by assumption, f.here ok (.str _)⟩
    · cases hr
  · obtain ⟨a, vs, rfl, h1, h2⟩ := hx.lst
    obtain ⟨b, ws, rfl, h3, h4⟩ := hy.lst
    split at hr
    · cases hr
      exact op_catR pins s σ H _ _ v u Q I rx ry ⟨_, _, _, _, rfl, rfl, h1, h3, by rw [h2.length, h4.length]; assumption, f.lst ok (h2.append h4)⟩
    · cases hr
  · obtain ⟨a, vs, rfl, h1, h2⟩ := hx.tup
    obtain ⟨b, ws, rfl, h3, h4⟩ := hy.tup
    split at hr
    · cases hr
      refine op_catA pins s σ H _ _ v u Q I rx ry ⟨_, _, _, _, rfl, rfl, h1, h3, by rw [h2.length, h4.length]; assumption, fun z => ?_, fun _ z => ?_, fun _ _ => f.tup ok (h2.append h4)⟩
      · subst z; cases h2
        exact f.here ok (hy.rep fun _ z => nomatch z)
      · subst z; cases h4
        rw [List.append_nil] at f
        exact f.here ok (hx.rep fun _ z => nomatch z)
    · cases hr
  · cases hx.int; cases hy.int; cases hr
    exact op_sub pins s σ H _ _ v u Q I rx ry ⟨_, _, rfl, rfl, f.here ok (.int _)⟩
  · cases hx.int; cases hy.int
    split at hr
    · rename_i i j hc
      cases hr
      rcases hc with z | z | z
      · exact op_mul pins s σ H _ _ v u Q I rx ry ⟨_, _, rfl, rfl, .inl (by omega), f.here ok (.int _)⟩
      · exact op_mul pins s σ H _ _ v u Q I rx ry ⟨_, _, rfl, rfl, .inr (by omega), f.here ok (.int _)⟩
      · exact op_mulW pins s σ H _ _ v u Q I rx ry ⟨_, _, rfl, rfl, z, f.here ok (.int _)⟩
    · cases hr
  · obtain ⟨a, vs, rfl, h1, h2⟩ := hx.lst
    cases hy.int
    split at hr
    · rename_i k hc
      cases hr
      exact op_repR pins s σ H _ _ v u Q I rx ry ⟨_, _, _, rfl, rfl, h1, hc.1, hc.2.1, by rw [h2.length]; exact hc.2.2, f.lst ok (h2.rep _)⟩
    · cases hr
  · cases hx.int; cases hy.int
    split at hr
    · cases hr
      exact op_fdiv pins s σ H _ _ v u Q I rx ry ⟨_, _, rfl, rfl, by assumption, f.here ok (.int _)⟩
    · cases hr
  · cases hx.int; cases hy.int
    split at hr
    · cases hr
      exact op_mod pins s σ H _ _ v u Q I rx ry ⟨_, _, rfl, rfl, by assumption, f.here ok (.int _)⟩
    · cases hr
  · cases hx.int; cases hy.int
    split at hr
    · cases hr
      exact op_pow pins s σ H _ _ v u Q I rx ry ⟨_, _, rfl, rfl, by assumption, f.here ok (.int _)⟩
    · cases hr
  · cases hr
/-- in place, on ints -/
theorem ip_bin (o : Bn) (ho : o ≠ .pow) : PIp X (opOf o) (fun x y H Q => ∃ i j r, x = .int i ∧ y = .int j ∧ binD o (.int i) (.int j) = some (.int r) ∧ Q (.int r) H) := by
  intro pins s σ H x y v u Q I rx ry h
  obtain ⟨i, j, r, rfl, rfl, hr, q⟩ := h
  cases o with
  | add => cases hr; exact iop_add pins s σ H _ _ v u Q I rx ry ⟨_, _, rfl, rfl, q⟩
  | sub => cases hr; exact iop_sub pins s σ H _ _ v u Q I rx ry ⟨_, _, rfl, rfl, q⟩
  | mul =>
    unfold binD at hr
    simp only at hr
    split at hr
    · rename_i hc
      cases hr
      rcases hc with z | z | z
      · exact iop_mul pins s σ H _ _ v u Q I rx ry ⟨_, _, rfl, rfl, .inl (by omega), q⟩
      · exact iop_mul pins s σ H _ _ v u Q I rx ry ⟨_, _, rfl, rfl, .inr (by omega), q⟩
      · exact iop_mulW' pins s σ H _ _ v u Q I rx ry ⟨_, _, rfl, rfl, z, q⟩
    · cases hr
  | fdiv =>
    unfold binD at hr
    simp only at hr
    split at hr
    · cases hr; exact iop_fdiv pins s σ H _ _ v u Q I rx ry ⟨_, _, rfl, rfl, by assumption, q⟩
    · cases hr
  | mod =>
    unfold binD at hr
    simp only at hr
    split at hr
    · cases hr; exact iop_mod pins s σ H _ _ v u Q I rx ry ⟨_, _, rfl, rfl, by assumption, q⟩
    · cases hr
  | pow => exact absurd rfl ho

/-! ### comparisons -/
mutual
theorem eqv_deq : ∀ a b : D, (toPy a).canLay0 = true → (toPy b).canLay0 = true → PyData.eqv (toPy a) (toPy b) = deq a b
  | .non, b, _, hb => by cases b <;> simp_all [toPy, PyData.eqv, deq, PyData.canLay0]
  | .bl x, b, _, hb => by cases b <;> simp_all [toPy, PyData.eqv, deq, PyData.canLay0]
  | .int x, b, _, hb => by cases b <;> simp_all [toPy, PyData.eqv, deq, PyData.canLay0]
  | .str x, b, _, hb => by cases b <;> simp_all [toPy, PyData.eqv, deq, PyData.canLay0]
  | .tup xs, b, ha, hb => by
    cases b with
    | tup ys =>
      rw [toPy, toPy, PyData.eqv, deq]
      exact eqv_deqs xs ys (by rw [toPy, PyData.canLay0] at ha; exact ha) (by rw [toPy, PyData.canLay0] at hb; exact hb)
    | _ => simp_all [toPy, PyData.eqv, deq, PyData.canLay0]
  | .lst xs, b, ha, hb => by
    cases b with
    | lst ys =>
      rw [toPy, toPy, PyData.eqv, deq]
      exact eqv_deqs xs ys (by rw [toPy, PyData.canLay0] at ha; exact ha) (by rw [toPy, PyData.canLay0] at hb; exact hb)
    | _ => simp_all [toPy, PyData.eqv, deq, PyData.canLay0]
theorem eqv_deqs : ∀ a b : List D, PyData.canLayAll0 (toPys a) = true → PyData.canLayAll0 (toPys b) = true → PyData.eqvAll (toPys a) (toPys b) = deqs a b
  | [], [], _, _ => by rw [toPys, PyData.eqvAll, deqs]
  | [], _ :: _, _, _ => by simp [toPys, PyData.eqvAll, deqs]
  | _ :: _, [], _, _ => by simp [toPys, PyData.eqvAll, deqs]
  | x :: xs, y :: ys, ha, hb => by
    rw [toPys, PyData.canLayAll0, Bool.and_eq_true] at ha hb
    rw [toPys, toPys, PyData.eqvAll, deqs, eqv_deq x y ha.1 hb.1, eqv_deqs xs ys ha.2 hb.2]
end
theorem okD_lay {d : D} (h : okD d = true) : (toPy d).canLay0 = true := SeqAt.canLay_of_shaped h
theorem lay_mem : ∀ {xs : List D}, PyData.canLayAll0 (toPys xs) = true → ∀ x ∈ xs, (toPy x).canLay0 = true
  | x :: xs, h, y, hy => by
    rw [toPys, PyData.canLayAll0, Bool.and_eq_true] at h
    rcases List.mem_cons.mp hy with rfl | hy
    · exact h.1
    · exact lay_mem h.2 y hy
theorem any_eqv {ys : List D} {x : D} (hy : PyData.canLayAll0 (toPys ys) = true) (hx : (toPy x).canLay0 = true) : ((toPys ys).any fun z => PyData.eqv z (toPy x)) = ys.any fun z => deq z x := by
  rw [toPys_eq, List.any_map]
  have := lay_mem hy
  induction ys with
  | nil => rfl
  | cons y ys ih =>
    rw [List.any_cons, List.any_cons]
    rw [toPys, PyData.canLayAll0, Bool.and_eq_true] at hy
    rw [ih hy.2 (fun z hz => this z (List.mem_cons_of_mem _ hz))]
    simp only [Function.comp]
    rw [eqv_deq y x hy.1 hx]

theorem strIn_eq (i j : Str) : (!(Builtin.Str.occurrences j i 0 j.length 1).isEmpty) = strIn i j := by
  unfold strIn
  split
  · rename_i c hc
    have e : i = ⟨#[c]⟩ := by
      have : i.cps = #[c] := Array.toList_inj.mp hc
      cases i; simp at this; rw [this]
    rw [e]
    exact PySem.StrLaws.found_one j c
  · rfl

def rCmp (K : PySem.W.Frag) (o : Cm) : R2 := fun v u H Q => ∃ m S d e b, StOk K H m S ∧ PR K H (Own m S) v d ∧ PR K H (Own m S) u e ∧ cmpD o d e = some b ∧ Q (.bl b) H
theorem eq_scal {H : Hp} {K : PySem.W.Frag} {N : Addr → Prop} {x y : V} {d e : D} (hx : PR K H N x d) (hy : PR K H N y e) (h : scalD d e = true) : scal x y = true ∧ decide (x = y) = deq d e := by
  unfold scalD at h
  split at h
  · cases hx.int; cases hy.int; exact ⟨rfl, by rw [dec_int]; rfl⟩
  · cases hx.str; cases hy.str; exact ⟨rfl, by rw [dec_str]; rfl⟩
  · cases hx.bl; cases hy.bl; exact ⟨rfl, by rw [dec_bl]; rfl⟩
  · cases h
theorem or_cmp (o : Cm) (hu : X.A.units + 65 < cLine) : OpR X (compareOp (cmOf o)) (rCmp X.K o) := by
  intro pins s σ H x y v u Q I rx ry h
  obtain ⟨m, S, d, e, b, ok, hx, hy, hr, q⟩ := h
  unfold cmpD at hr
  split at hr
  · -- eq
    split at hr
    · rename_i hc
      cases hr
      by_cases hs : scalD d e = true
      · obtain ⟨h1, h2⟩ := eq_scal hx hy hs
        exact op_eq pins s σ H _ _ v u Q I rx ry ⟨h1, by rw [h2]; exact q⟩
      · have hc : okD d = true ∧ okD e = true := by simpa [hs] using hc
        exact op_eqD (by omega) pins s σ H _ _ v u Q I rx ry ⟨_, _, hx.dp, hy.dp, hc.1, hc.2, by rw [eqv_deq _ _ (okD_lay hc.1) (okD_lay hc.2)]; exact q⟩
    · cases hr
  · split at hr
    · rename_i hc
      cases hr
      by_cases hs : scalD d e = true
      · obtain ⟨h1, h2⟩ := eq_scal hx hy hs
        exact op_ne pins s σ H _ _ v u Q I rx ry ⟨h1, by rw [h2]; exact q⟩
      · have hc : okD d = true ∧ okD e = true := by simpa [hs] using hc
        exact op_neD (by omega) pins s σ H _ _ v u Q I rx ry ⟨_, _, hx.dp, hy.dp, hc.1, hc.2, by rw [eqv_deq _ _ (okD_lay hc.1) (okD_lay hc.2)]; exact q⟩
    · cases hr
  · cases hx.int; cases hy.int; cases hr
    exact op_lt pins s σ H _ _ v u Q I rx ry ⟨_, _, rfl, rfl, q⟩
  · cases hx.int; cases hy.int; cases hr
    exact op_le pins s σ H _ _ v u Q I rx ry ⟨_, _, rfl, rfl, q⟩
  · cases hx.int; cases hy.int; cases hr
    exact op_gt pins s σ H _ _ v u Q I rx ry ⟨_, _, rfl, rfl, q⟩
  · cases hx.int; cases hy.int; cases hr
    exact op_ge pins s σ H _ _ v u Q I rx ry ⟨_, _, rfl, rfl, q⟩
  · cases hx.str; cases hy.str; cases hr
    exact op_lt_str pins s σ H _ _ v u Q I rx ry ⟨_, _, rfl, rfl, q⟩
  · split at hr
    · rename_i xs ys hc
      cases hr
      have hc : PySem.W.alike (toPy (.tup xs)) (toPy (.tup ys)) = true ∧ (toPy (.tup xs)).depth ≤ 64 := by simpa using hc
      obtain ⟨as, r1⟩ := Dp.reads I _ x v hx.dp rx
      obtain ⟨bs, r2⟩ := Dp.reads I _ y u hy.dp ry
      exact PySem.W.rcLt_alike _ _ X.A s v u as bs r1 r2 hc.1 (by rw [toPy]; exact fun z => nomatch z) (by have := Nat.min_le_left (toPy (.tup xs)).depth (toPy (.tup ys)).depth; omega) _ _ _ _ ⟨.bl _, H, I, rfl, q⟩
    · cases hr
  · -- in
    unfold inD at hr
    split at hr
    · split at hr
      · cases hx.str; cases hy.str; cases hr
        exact op_in_str pins s σ H _ _ v u Q I rx ry ⟨_, _, rfl, rfl, by rw [strIn_eq]; exact q⟩
      · cases hr
    · split at hr
      · rename_i ys hc
        cases hr
        have hc := Bool.and_eq_true_iff.mp hc
        obtain ⟨as, r1⟩ := Dp.reads I _ x v hx.dp rx
        obtain ⟨bs, r2⟩ := Dp.reads I _ y u hy.dp ry
        rw [toPy] at r2
        have l2 := okD_lay hc.2
        rw [toPy, PyData.canLay0] at l2
        exact SeqAt.in_list_reads r2 r1 l2 (okD_lay hc.1) (room_in_shaped hc.1 hu) ⟨.bl _, H, I, rfl, by rw [any_eqv l2 (okD_lay hc.1)]; exact q⟩
      · cases hr
    · split at hr
      · rename_i ys hc
        cases hr
        have hc := Bool.and_eq_true_iff.mp hc
        obtain ⟨as, r1⟩ := Dp.reads I _ x v hx.dp rx
        obtain ⟨bs, r2⟩ := Dp.reads I _ y u hy.dp ry
        rw [toPy] at r2
        have l2 := okD_lay hc.2
        rw [toPy, PyData.canLay0] at l2
        exact SeqAt.in_tuple_reads r2 r1 l2 (okD_lay hc.1) (room_in_shaped hc.1 hu) ⟨.bl _, H, I, rfl, by rw [any_eqv l2 (okD_lay hc.1)]; exact q⟩
      · cases hr
    · cases hr
  · -- not in
    cases hn : inD d e with
    | none => rw [hn] at hr; cases hr
    | some k =>
    rw [hn] at hr
    cases hr
    unfold inD at hn
    split at hn
    · split at hn
      · cases hx.str; cases hy.str; cases hn
        exact op_notin_str pins s σ H _ _ v u Q I rx ry ⟨_, _, rfl, rfl, by rw [strIn_eq]; exact q⟩
      · cases hn
    · split at hn
      · rename_i ys hc
        cases hn
        have hc := Bool.and_eq_true_iff.mp hc
        obtain ⟨as, r1⟩ := Dp.reads I _ x v hx.dp rx
        obtain ⟨bs, r2⟩ := Dp.reads I _ y u hy.dp ry
        rw [toPy] at r2
        have l2 := okD_lay hc.2
        rw [toPy, PyData.canLay0] at l2
        exact SeqAt.notIn_list_reads r2 r1 l2 (okD_lay hc.1) (room_in_shaped hc.1 hu) ⟨.bl _, H, I, rfl, by rw [any_eqv l2 (okD_lay hc.1)]; exact q⟩
      · cases hn
    · split at hn
      · rename_i ys hc
        cases hn
        have hc := Bool.and_eq_true_iff.mp hc
        obtain ⟨as, r1⟩ := Dp.reads I _ x v hx.dp rx
        obtain ⟨bs, r2⟩ := Dp.reads I _ y u hy.dp ry
        rw [toPy] at r2
        have l2 := okD_lay hc.2
        rw [toPy, PyData.canLay0] at l2
        exact SeqAt.notIn_tuple_reads r2 r1 l2 (okD_lay hc.1) (room_in_shaped hc.1 hu) ⟨.bl _, H, I, rfl, by rw [any_eqv l2 (okD_lay hc.1)]; exact q⟩
      · cases hn
    · cases hn
  · -- is
    unfold isD at hr
    split at hr
    · cases hx.non; cases hy.non; cases hr
      exact op_isN pins s σ H _ _ v u Q I rx ry ⟨rfl, q⟩
    · cases hx.bl; cases hy.non; cases hr; exact op_isN pins s σ H _ _ v u Q I rx ry ⟨rfl, q⟩
    · cases hx.int; cases hy.non; cases hr; exact op_isN pins s σ H _ _ v u Q I rx ry ⟨rfl, q⟩
    · cases hx.str; cases hy.non; cases hr; exact op_isN pins s σ H _ _ v u Q I rx ry ⟨rfl, q⟩
    · obtain ⟨a, vs, rfl, _, _⟩ := hx.tup; cases hy.non; cases hr; exact op_isN pins s σ H _ _ v u Q I rx ry ⟨rfl, q⟩
    · obtain ⟨a, vs, rfl, _, _⟩ := hx.lst; cases hy.non; cases hr; exact op_isN pins s σ H _ _ v u Q I rx ry ⟨rfl, q⟩
    · cases hx.bl; cases hy.bl; cases hr
      exact op_is_bl pins s σ H _ _ v u Q I rx ry ⟨_, _, rfl, rfl, by rw [Bool.beq_eq_decide_eq] at q; exact q⟩
    · cases hx.non; cases hy.bl; cases hr
      cases rx; cases ry
      exact wpAny_is_other rfl (fun z => nomatch z) ⟨.bl false, H, I, rfl, q⟩
    · cases hr
  · -- is not
    cases hn : isD d e with
    | none => rw [hn] at hr; cases hr
    | some k =>
    rw [hn] at hr
    cases hr
    unfold isD at hn
    split at hn
    · cases hx.non; cases hy.non; cases hn
      exact op_notN pins s σ H _ _ v u Q I rx ry ⟨rfl, q⟩
    · cases hx.bl; cases hy.non; cases hn; exact op_notN pins s σ H _ _ v u Q I rx ry ⟨rfl, q⟩
    · cases hx.int; cases hy.non; cases hn; exact op_notN pins s σ H _ _ v u Q I rx ry ⟨rfl, q⟩
    · cases hx.str; cases hy.non; cases hn; exact op_notN pins s σ H _ _ v u Q I rx ry ⟨rfl, q⟩
    · obtain ⟨a, vs, rfl, _, _⟩ := hx.tup; cases hy.non; cases hn; exact op_notN pins s σ H _ _ v u Q I rx ry ⟨rfl, q⟩
    · obtain ⟨a, vs, rfl, _, _⟩ := hx.lst; cases hy.non; cases hn; exact op_notN pins s σ H _ _ v u Q I rx ry ⟨rfl, q⟩
    · cases hx.bl; cases hy.bl; cases hn
      exact op_isnot_bl pins s σ H _ _ v u Q I rx ry ⟨_, _, rfl, rfl, by rw [Bool.beq_eq_decide_eq] at q; exact q⟩
    · cases hx.non; cases hy.bl; cases hn
      cases rx; cases ry
      exact wpAny_isNot_other rfl (fun z => nomatch z) ⟨.bl true, H, I, rfl, q⟩
    · cases hn
  · cases hr
end
end M

/-! truth, subscripts, built-ins, methods on values that stand for data -/
namespace M
open PySem PySem.Spec PyProof.Rows L2
section
variable {X : Cx}
theorem tru_v {K : PySem.W.Frag} {H : Hp} {N : Addr → Prop} {x : V} {d : D} {k : Bool} (hx : PR K H N x d) (h : truD d = some k) : TruV K x H k := by
  unfold truD at h
  split at h
  · cases hx.non; cases h; rfl
  · cases hx.bl; cases h; rfl
  · cases hx.int; cases h; rfl
  · cases hx.str
    split at h
    · cases h; exact ⟨by assumption, rfl⟩
    · cases h
  · obtain ⟨a, vs, rfl, h1, h2⟩ := hx.lst
    cases h
    refine .inl ⟨vs, .inl h1, ?_⟩
    cases h2 <;> rfl
  · obtain ⟨a, vs, rfl, h1, h2⟩ := hx.tup
    cases h
    refine .inr (.inl ⟨vs, h1, ?_⟩)
    cases h2 <;> rfl
/-- a subscript -/
def rIxD (K : PySem.W.Frag) : R2 := fun v u H Q => ∃ m S d e r, StOk K H m S ∧ PR K H (Own m S) v d ∧ PR K H (Own m S) u e ∧ idxD d e = some r ∧ Fol K H m S r Q
theorem ix_D : IxR X (rIxD X.K) := by
  intro value slice pins s σ H x y v u Q I rx ry h hs
  obtain ⟨m, S, d, e, r, ok, hx, hy, hr, f⟩ := h
  unfold idxD at hr
  split at hr
  · obtain ⟨a, vs, rfl, h1, h2⟩ := hx.lst
    cases hy.int
    obtain ⟨w, e1, e2⟩ := atI_reps h2 hr
    exact ix_list value slice pins s σ H _ _ v u Q I rx ry ⟨_, _, _, _, rfl, rfl, .inl h1, e1, f.here ok e2⟩ hs
  · obtain ⟨a, vs, rfl, h1, h2⟩ := hx.tup
    cases hy.int
    obtain ⟨w, e1, e2⟩ := atI_reps h2 hr
    exact ix_tup value slice pins s σ H _ _ v u Q I rx ry ⟨_, _, _, _, rfl, rfl, h1, e1, f.here ok e2⟩ hs
  · cases hx.str; cases hy.int
    split at hr
    · rename_i z i hz
      cases q : atI z.cps.toList i with
      | none => rw [q] at hr; cases hr
      | some c =>
        rw [q] at hr; cases hr
        exact ix_str value slice pins s σ H _ _ v u Q I rx ry ⟨_, _, _, rfl, rfl, hz, q, f.here ok (.str _)⟩ hs
    · cases hr
  · cases hr
/-- a slice -/
def rSlD (K : PySem.W.Frag) : V → Option Int → Option Int → Hp → VK → Prop := fun v lo hi H Q => ∃ m S d r, StOk K H m S ∧ PR K H (Own m S) v d ∧ slcD d lo hi = some r ∧ Fol K H m S r Q
theorem cutD_all {xs : List D} {lo hi : Option Int} (h : HT.sIx xs.length 0 lo = 0 ∧ HT.sIx xs.length xs.length hi = xs.length) : cutD xs lo hi = xs := by
  unfold cutD
  rw [h.1, h.2]
  simp
theorem sl_D : SlR X (rSlD X.K) := by
  intro pins s σ H x v vl vu lo hi sl Q I rx hs pl pu h
  obtain ⟨m, S, d, r, ok, hx, hr, f⟩ := h
  unfold slcD at hr
  split at hr
  · obtain ⟨a, vs, rfl, h1, h2⟩ := hx.lst
    cases hr
    exact sl_list pins s σ H _ v vl vu lo hi sl Q I rx hs pl pu ⟨_, _, rfl, .inl h1, f.lst ok (h2.cut lo hi)⟩
  · obtain ⟨a, vs, rfl, h1, h2⟩ := id hx.tup
    cases hr
    refine sl_tupA pins s σ H _ v vl vu lo hi sl Q I rx hs pl pu ⟨_, _, rfl, h1, fun z => ?_, fun _ => f.tup ok (h2.cut lo hi)⟩
    rw [h2.length] at z
    rw [cutD_all z] at f
    exact f.here ok (hx.rep fun _ z => nomatch z)
  · cases hx.str
    split at hr
    · cases hr
      exact sl_str pins s σ H _ v vl vu lo hi sl Q I rx hs pl pu ⟨_, rfl, by assumption, f.here ok (.str _)⟩
    · cases hr
  · cases hr

/-! ### sorted -/
theorem eachVals : ∀ {vs : List V} {its : List Value} {ds : List D}, Vals vs its → vs.length = ds.length → PySem.W.EachIs (fun (u : Value) (b : V × D) => RelV b.1 u) its (vs.zip ds)
  | _, _, [], .nil, _ => .nil
  | _, _, d :: ds, .cons r t, h => .cons r (eachVals t (by simpa using h))
theorem eachReads {K : PySem.W.Frag} {H : Hp} {N : Addr → Prop} {h : Heap} (rd : ∀ (v : V) (u : Value) (d : D), Rep K H N v d → RelV v u → ∃ as, Reads h u (toPy d) as) : ∀ {vs : List V} {its : List Value} {ds : List D}, Vals vs its → Reps K H N vs ds → PySem.W.EachIs (fun (u : Value) (b : V × D) => ∃ as, Reads h u (toPy b.2) as) its (vs.zip ds)
  | _, _, _, .nil, .nil => .nil
  | _, _, _, .cons r t, .cons q p => .cons (rd _ _ _ q r) (eachReads rd t p)
theorem valsEach : ∀ {out : List Value} {bs : List (V × D)}, PySem.W.EachIs (fun (u : Value) (b : V × D) => RelV b.1 u) out bs → Vals (bs.map (·.1)) out
  | _, _, .nil => .nil
  | _, _, .cons r t => .cons r (valsEach t)
theorem Reps.zip {K : PySem.W.Frag} {H : Hp} {N : Addr → Prop} : ∀ {vs : List V} {ds : List D}, Reps K H N vs ds → ∀ b ∈ vs.zip ds, Rep K H N b.1 b.2
  | _, _, .nil, b, h => by simp at h
  | _, _, .cons q r, b, h => by
    rw [List.zip_cons_cons] at h
    rcases List.mem_cons.mp h with rfl | h
    · exact q
    · exact Reps.zip r b h
theorem reps_of_zip {K : PySem.W.Frag} {H : Hp} {N : Addr → Prop} : ∀ {bs : List (V × D)}, (∀ b ∈ bs, Rep K H N b.1 b.2) → Reps K H N (bs.map (·.1)) (bs.map (·.2))
  | [], _ => .nil
  | b :: bs, h => .cons (h b List.mem_cons_self) (reps_of_zip fun c hc => h c (List.mem_cons_of_mem _ hc))
/-- what a tuple has, by a new list -/
theorem collectT {prog : Program} {w : World} {A : Around} {E : Value → Shared → Prop} {s : Shared} {l : Addr} {vs : List Value} {Q : List Value → Shared → Prop} (hl : IsTup s.heap l vs.toArray) (hz : vs.length ≤ sizeLine)
    (h : ∀ h', (∀ b o, s.heap.get? b = some o → h'.get? b = some o) → s.heap.objs.size ≤ h'.objs.size → Q vs { s with heap := h' }) : wpAny (model prog w) A (collect (.ref l)) Q E s := by
  obtain ⟨o, ho, hc, n, hd⟩ := hl
  unfold collect
  refine wpAny_bind (wpAny_runValue (codeAny_builtin entry_proto_collect' ?_))
  show wpAny _ _ (newList [] >>= fun x => again (.builtin "list.__iadd__" ⟨[x, .ref l], []⟩)) _ _ s
  refine wpAny_bind (wpAny_newList (wpAny_pure ⟨Code.quiet_builtin _ (by decide +kernel), codeAny_builtin entry_list_iadd' ?_⟩))
  have hS : (s.heap.push (seqObj "list" #[] 0)).get? s.heap.objs.size = some (seqObj "list" #[] 0) := Heap.get?_push_size _ rfl
  show wpAny _ _ (Builtin.List.listExtendWith (.ref s.heap.objs.size) (.ref l) (.ref s.heap.objs.size)) _ _ { s with heap := s.heap.push (seqObj "list" #[] 0) }
  have hq : (s.heap.push (seqObj "list" #[] 0)).get? l = some o := Heap.get?_push_of_some _ ho
  unfold Builtin.List.listExtendWith
  refine wpAny_bind (wpAny_typeOf (T := "tuple") ⟨o, hq, hc⟩ ?_)
  rw [if_pos (by simp)]
  refine wpAny_bind (listItems_at hq hd (wpAny_bind (listItems_at (xs := #[]) (n := 0) hS rfl ?_)))
  rw [if_neg (by simp)]
  refine wpAny_bind (listUpdate_at (xs := #[]) (n := 0) hS rfl (wpAny_pure ?_) (Nat.zero_le _) (by simpa using Nat.le_succ_of_le hz))
  show wpAny (model prog w) A (load s.heap.objs.size >>= fun o => match o.data with
      | .seq xs _ => pure xs.toList
      | _ => unsupported "internal:collect") Q E { s with heap := (s.heap.push (seqObj "list" #[] 0)).update s.heap.objs.size (Obj.mapSeq (· ++ vs.toArray)) }
  refine wpAny_bind (wpAny_load (get?_update_seq hS _) ?_)
  show wpAny _ _ (pure ((#[] : Array Value) ++ vs.toArray).toList) Q E _
  have ev : ((#[] : Array Value) ++ vs.toArray).toList = vs := by simp
  rw [ev]
  refine wpAny_pure (h _ (fun b u z => ?_) (by rw [Heap.size_update, Heap.size_push]; exact Nat.le_succ _))
  rw [Heap.get?_update_ne _ _ _ _ (Nat.ne_of_lt (Heap.lt_size z))]
  exact Heap.get?_push_of_some _ z
theorem sorted_tupD {prog : Program} {w : World} {A : Around} {E : Value → Shared → Prop} {s : Shared} {l : Addr} {vs : List Value} {bs : List (V × D)} {Q : Value → Shared → Prop} (hl : IsTup s.heap l vs.toArray) (e : PySem.W.EachIs (fun (u : Value) (b : V × D) => RelV b.1 u) vs bs)
    (er : PySem.W.EachIs (fun (u : Value) (b : V × D) => ∃ as, Reads s.heap u (toPy b.2) as) vs bs) (hal : PySem.W.AllAlike (bs.map fun b => toPy b.2)) (hk : PySem.W.Sortable (bs.map fun b => toPy b.2)) (hL : bs.length ≤ sizeLine) (hu : ∀ b ∈ bs, A.units + 4 + (toPy b.2).depth < cLine)
    (h : ∀ h' out p c, (∀ b o, s.heap.get? b = some o → h'.get? b = some o) → s.heap.objs.size ≤ p → h'.get? p = some (seqObj "list" (List.toArray out) c) → PySem.W.EachIs (fun (u : Value) (b : V × D) => RelV b.1 u) out (bs.mergeSort (PySem.W.dataLe false fun b => toPy b.2)) → Q (.ref p) { s with heap := h' }) :
    wpAny (model prog w) A (call (.builtin "sorted") [.ref l]) Q E s := by
  refine Calls.call_function_entry PyProof.Rows.kind_sorted PyProof.Rows.plain_sorted PyProof.Rows.entry_sorted (PyProof.Rows.args_sorted1 _) ?_
  unfold Builtin.«sorted»
  have vl : vs.length ≤ sizeLine := by rw [e.length]; exact hL
  refine wpAny_bind (wpAny_pure ?_)
  refine wpAny_bind (collectT hl vl fun h1 k1 hle => ?_)
  refine wpAny_bind (wpAny_newList ?_ vl)
  have hoL : (h1.push (seqObj "list" vs.toArray 0)).get? h1.objs.size = some (seqObj "list" vs.toArray 0) := Heap.get?_push_size _ rfl
  have er1 : PySem.W.EachIs (fun (u : Value) (b : V × D) => ∃ as, Reads (PySem.W.sortingHeap (h1.push (seqObj "list" vs.toArray 0)) h1.objs.size vs) u (toPy b.2) as) vs bs := er.mono fun _ _ ⟨as, r⟩ => ⟨as, PyProof.Rows.Reads.keeps (fun b o z => PySem.W.sortingHeap_old (Nat.ne_of_lt (Heap.lt_size (k1 b o z))) (Heap.get?_push_of_some _ (k1 b o z))) r⟩
  refine wpAny_bind (wpAny_holding (wpAny_call_entry slot_list_sort ⟨_, hoL, rfl⟩ entry_list_sort (PySem.W.list_sort_vals (s := { s with heap := h1.push (seqObj "list" vs.toArray 0) }) (κ := PySem.W.dataKind (PySem.W.sortingHeap (h1.push (seqObj "list" vs.toArray 0)) h1.objs.size vs) (bs.map fun b => toPy b.2)) hoL (PySem.W.SortsAt.data (s := { s with heap := PySem.W.sortingHeap (h1.push (seqObj "list" vs.toArray 0)) h1.objs.size vs }) (PySem.W.each_map (R := fun v d => ∃ as, Reads (PySem.W.sortingHeap (h1.push (seqObj "list" vs.toArray 0)) h1.objs.size vs) v d as) (fun b : V × D => toPy b.2) er1) hal hk (PySem.W.bound_map fun b hb => ?_)) vl ⟨.none, rfl, ?_⟩) (args_list_sort _)))
  · have := hu b hb
    have h2 : ∀ A : Around, A.in1.units ≤ A.units + 1 := fun A => by simp [Around.in1]
    have h3 := h2 A
    have h4 := h2 A.in1
    omega
  · have eo := PySem.W.sortVals_data (R := fun (u : Value) (b : V × D) => RelV b.1 u) (enc := fun b : V × D => toPy b.2) false e er1 hal
    obtain ⟨c, he'⟩ := PyProof.Rows.sortedHeap_at (vs := vs) (out := (PySem.W.sortVals (PySem.W.dataKind (PySem.W.sortingHeap (h1.push (seqObj "list" vs.toArray 0)) h1.objs.size vs) (bs.map fun b => toPy b.2)) false vs vs).toArray) hoL
    refine wpAny_pure ⟨_, rfl, h _ _ _ c (fun b u q => ?_) hle he' eo⟩
    have q1 := k1 b u q
    have hlt := Heap.lt_size q1
    rw [PyProof.Rows.sortedHeap_old (Nat.ne_of_lt hlt) (by rw [size_push']; exact Nat.lt_succ_of_lt hlt)]
    exact Heap.get?_push_of_some _ q1
theorem call_sortedD (hu : X.A.units + 70 < cLine) : CallR X (.builtin "sorted") (fun vs H Q => ∃ m S xs x, vs = [x] ∧ StOk X.K H m S ∧ PR X.K H (Own m S) x (.lst xs) ∧ sortOk xs = true ∧
    ∀ ws p, Reps X.K H (Own m S) ws (xs.mergeSort dle) → H p = none → Q (.ref p) (upd H p (.lst ws))) := by
  intro pins s σ H vs us Q I r h
  obtain ⟨m, S, xs, x, rfl, ok, hx, hs, q⟩ := h
  obtain ⟨a, ws, rfl, h1, h2⟩ := hx.lst
  rw [Vals.ref1 r]
  obtain ⟨z, its, n, rv, hl, e⟩ := lstR I h1
  unfold sortOk at hs
  simp only [Bool.and_eq_true, Bool.or_eq_true, List.all_eq_true, decide_eq_true_eq] at hs
  obtain ⟨⟨⟨al, dp⟩, so⟩, sz⟩ := hs
  have hlen : ws.length = xs.length := h2.length
  have e1 := eachVals rv hlen
  have er : PySem.W.EachIs (fun (u : Value) (b : V × D) => ∃ as, Reads s.heap u (toPy b.2) as) its (ws.zip xs) := eachReads (fun v u d hr ru => Dp.reads I _ v u hr.dp ru) rv h2
  have hm : ∀ b ∈ ws.zip xs, b.2 ∈ xs := fun b hb => (List.of_mem_zip hb).2
  have hal : PySem.W.AllAlike ((ws.zip xs).map fun b => toPy b.2) := by
    intro d hd d' hd'
    obtain ⟨b, hb, rfl⟩ := List.mem_map.mp hd
    obtain ⟨b', hb', rfl⟩ := List.mem_map.mp hd'
    exact al _ (hm b hb) _ (hm b' hb')
  have hk : PySem.W.Sortable ((ws.zip xs).map fun b => toPy b.2) := by
    rcases so with so | so
    · refine .inl fun d hd => ?_
      obtain ⟨b, hb, rfl⟩ := List.mem_map.mp hd
      have := so _ (hm b hb)
      revert this
      cases b.2 with
      | tup ys => cases ys with
        | nil => exact fun z => nomatch z
        | cons y ys => exact fun _ => ⟨toPy y, toPys ys, by rw [toPy, toPys]⟩
      | _ => exact fun z => nomatch z
    · refine .inr fun d hd => ?_
      obtain ⟨b, hb, rfl⟩ := List.mem_map.mp hd
      have := so _ (hm b hb)
      revert this
      cases b.2 with
      | non => exact fun z => nomatch z
      | tup ys => exact fun z => nomatch z
      | _ => exact fun _ => ⟨(fun z => by simp [toPy] at z), (fun _ z => by simp [toPy] at z)⟩
  have hL : (ws.zip xs).length ≤ sizeLine := by rw [List.length_zip, hlen, Nat.min_self]; exact sz
  refine PySem.W.sorted_data (s := s) ⟨_, e, rfl, _, rfl⟩ e1 er hal hk hL (fun b hb => by have := dp _ (hm b hb); omega) fun out hol eo => ?_
  obtain ⟨ep, he'⟩ := PyProof.Rows.sortedAll_at s.heap its out.toArray
  have vo := valsEach eo
  have hsort : ((ws.zip xs).mergeSort (PySem.W.dataLe false fun b => toPy b.2)).map (·.2) = xs.mergeSort dle := by
    have := PySem.W.sort_maps (r := PySem.W.dataLe false fun b : V × D => toPy b.2) (s := dle) (fun b : V × D => b.2) (l := ws.zip xs) (fun a _ b _ => by rw [PySem.W.dataLe_eq]; rfl)
    rw [this, List.map_snd_zip (by omega)]
  have hreps : Reps X.K H (Own m S) (((ws.zip xs).mergeSort (PySem.W.dataLe false fun b => toPy b.2)).map (·.1)) (xs.mergeSort dle) := by
    rw [← hsort]
    exact reps_of_zip fun b hb => h2.zip b (List.mem_mergeSort.mp hb)
  have hsz : (((ws.zip xs).mergeSort (PySem.W.dataLe false fun b => toPy b.2)).map (·.1)).length ≤ sizeLine := by rw [List.length_map, List.length_mergeSort]; exact hL
  exact ⟨.ref _, upd H (s.heap.objs.size + 1) (.lst _), I.laid (t' := s.toks) (fun _ _ => PyProof.Rows.sortedAll_old) (Nat.le_succ _) ⟨hsz, out, ep, vo, he'⟩, rfl, q _ _ hreps (I.hok.fresh (Nat.le_succ _))⟩

theorem call_sortedDT (hu : X.A.units + 70 < cLine) : CallR X (.builtin "sorted") (fun vs H Q => ∃ m S xs x, vs = [x] ∧ StOk X.K H m S ∧ PR X.K H (Own m S) x (.tup xs) ∧ sortOk xs = true ∧
    ∀ ws p, Reps X.K H (Own m S) ws (xs.mergeSort dle) → H p = none → Q (.ref p) (upd H p (.lst ws))) := by
  intro pins s σ H vs us Q I r h
  obtain ⟨m, S, xs, x, rfl, ok, hx, hs, q⟩ := h
  obtain ⟨a, ws, rfl, h1, h2⟩ := hx.tup
  rw [Vals.ref1 r]
  obtain ⟨its, rv, it, z⟩ := I.tuple h1
  unfold sortOk at hs
  simp only [Bool.and_eq_true, Bool.or_eq_true, List.all_eq_true, decide_eq_true_eq] at hs
  obtain ⟨⟨⟨al, dp⟩, so⟩, sz⟩ := hs
  have hlen : ws.length = xs.length := h2.length
  have e1 := eachVals rv hlen
  have er : PySem.W.EachIs (fun (u : Value) (b : V × D) => ∃ as, Reads s.heap u (toPy b.2) as) its (ws.zip xs) := eachReads (fun v u d hr ru => Dp.reads I _ v u hr.dp ru) rv h2
  have hm : ∀ b ∈ ws.zip xs, b.2 ∈ xs := fun b hb => (List.of_mem_zip hb).2
  have hal : PySem.W.AllAlike ((ws.zip xs).map fun b => toPy b.2) := by
    intro d hd d' hd'
    obtain ⟨b, hb, rfl⟩ := List.mem_map.mp hd
    obtain ⟨b', hb', rfl⟩ := List.mem_map.mp hd'
    exact al _ (hm b hb) _ (hm b' hb')
  have hk : PySem.W.Sortable ((ws.zip xs).map fun b => toPy b.2) := by
    rcases so with so | so
    · refine .inl fun d hd => ?_
      obtain ⟨b, hb, rfl⟩ := List.mem_map.mp hd
      have := so _ (hm b hb)
      revert this
      cases b.2 with
      | tup ys => cases ys with
        | nil => exact fun z => nomatch z
        | cons y ys => exact fun _ => ⟨toPy y, toPys ys, by rw [toPy, toPys]⟩
      | _ => exact fun z => nomatch z
    · refine .inr fun d hd => ?_
      obtain ⟨b, hb, rfl⟩ := List.mem_map.mp hd
      have := so _ (hm b hb)
      revert this
      cases b.2 with
      | non => exact fun z => nomatch z
      | tup ys => exact fun z => nomatch z
      | _ => exact fun _ => ⟨(fun z => by simp [toPy] at z), (fun _ z => by simp [toPy] at z)⟩
  have hL : (ws.zip xs).length ≤ sizeLine := by rw [List.length_zip, hlen, Nat.min_self]; exact sz
  refine sorted_tupD it e1 er hal hk hL (fun b hb => by have := dp _ (hm b hb); omega) fun h' out p c kp hp he' eo => ?_
  have vo := valsEach eo
  have hsort : ((ws.zip xs).mergeSort (PySem.W.dataLe false fun b => toPy b.2)).map (·.2) = xs.mergeSort dle := by
    have := PySem.W.sort_maps (r := PySem.W.dataLe false fun b : V × D => toPy b.2) (s := dle) (fun b : V × D => b.2) (l := ws.zip xs) (fun a _ b _ => by rw [PySem.W.dataLe_eq]; rfl)
    rw [this, List.map_snd_zip (by omega)]
  have hreps : Reps X.K H (Own m S) (((ws.zip xs).mergeSort (PySem.W.dataLe false fun b => toPy b.2)).map (·.1)) (xs.mergeSort dle) := by
    rw [← hsort]
    exact reps_of_zip fun b hb => h2.zip b (List.mem_mergeSort.mp hb)
  have hsz : (((ws.zip xs).mergeSort (PySem.W.dataLe false fun b => toPy b.2)).map (·.1)).length ≤ sizeLine := by rw [List.length_map, List.length_mergeSort]; exact hL
  exact ⟨.ref p, upd H p (.lst _), I.laid (t' := s.toks) kp hp ⟨hsz, out, c, vo, he'⟩, rfl, q _ _ hreps (I.hok.fresh hp)⟩

/-! ### isinstance -/
def tyN : Ty → String
  | .int => "int" | .bool => "bool" | .str => "str" | .tuple => "tuple" | .list => "list"
def kindN : D → String
  | .non => "NoneType" | .bl _ => "bool" | .int _ => "int" | .str _ => "str" | .tup _ => "tuple" | .lst _ => "list"
theorem tyX_of {K : PySem.W.Frag} {H : Hp} {N : Addr → Prop} {x : V} {d : D} (h : PR K H N x d) : TyX K H x (.type (kindN d)) := by
  cases h with
  | of h =>
    cases h with
    | non => exact .base .non
    | bl b => exact .base (.bl b)
    | int i => exact .base (.int i)
    | str x => exact .base (.str x)
    | tup q r =>
      rcases q with ⟨q | ⟨o, q⟩, _⟩ | ⟨o, its, n, q, hc, _⟩
      · exact .base (.tup q)
      · exact .fTuple q
      · exact .kTuple q hc
    | lst q r =>
      rcases q with ⟨q | ⟨o, q⟩, _⟩
      · exact .base (.lst q)
      · exact .base (.frz q)
  | live h r => exact .base (.lst h)
theorem kit_isi {K : PySem.W.Frag} {H : Hp} {N : Addr → Prop} {x : V} {d : D} (h : PR K H N x d) (t : Ty) : kitB (kindN d) (tyN t) = some (isiD d t) := by
  cases h with
  | of h => cases h <;> cases t <;> (simp only [kindN, tyN, isiD]; decide +kernel)
  | live h r => cases t <;> (simp only [kindN, tyN, isiD]; decide +kernel)
def rIsD (K : PySem.W.Frag) (t : Ty) : List V → Hp → VK → Prop := fun xs H Q => ∃ m S x d, xs = [x, .ty (tyN t)] ∧ StOk K H m S ∧ PR K H (Own m S) x d ∧ Q (.bl (isiD d t)) H
theorem call_isD (t : Ty) : CallR X (.builtin "isinstance") (rIsD X.K t) := by
  intro pins s σ H vs us Q I r h
  obtain ⟨m, S, x, d, rfl, ok, hx, q⟩ := h
  exact call_isi pins s σ H _ us Q I r ⟨x, _, _, _, _, rfl, .ty _, tyX_of hx, kit_ty (kit_isi hx t), q⟩
theorem kit_any {K : PySem.W.Frag} {H : Hp} {N : Addr → Prop} {x : V} {d : D} (h : PR K H N x d) : ∀ ts : List Ty, PySem.W.kitAny K (.type (kindN d)) (ts.map fun t => Value.type (tyN t)) = some (ts.any fun t => isiD d t)
  | [] => rfl
  | t :: ts => by
    refine kitAny_cons (b := isiD d t) (kit_ty (kit_isi h t)) (fun e => ?_) (fun e => ?_)
    · rw [kit_any h ts, List.any_cons, e]; rfl
    · rw [List.any_cons, e]; rfl
theorem paired_ty (ts : List Ty) : Paired ClsV (ts.map fun t => V.ty (tyN t)) (ts.map fun t => Value.type (tyN t)) := by
  induction ts with
  | nil => exact .nil
  | cons t ts ih => exact .cons (.ty _) ih
def rIsDs (K : PySem.W.Frag) (ts : List Ty) : List V → Hp → VK → Prop := fun xs H Q => ∃ m S x d p, xs = [x, .ref p] ∧ H p = some (.tup (ts.map fun t => V.ty (tyN t))) ∧ StOk K H m S ∧ PR K H (Own m S) x d ∧ Q (.bl (ts.any fun t => isiD d t)) H
theorem call_isDs (ts : List Ty) : CallR X (.builtin "isinstance") (rIsDs X.K ts) := by
  intro pins s σ H vs us Q I r h
  obtain ⟨m, S, x, d, p, rfl, hp, ok, hx, q⟩ := h
  exact call_isiT pins s σ H _ us Q I r ⟨x, p, _, _, _, _, rfl, hp, paired_ty ts, tyX_of hx, kit_any hx ts, q⟩

/-! ### other built-ins of one or two arguments -/
def bval : Bi → Value
  | .len => .builtin "len" | .int => .type "int" | .all => .builtin "all" | .any => .builtin "any" | .sum => .builtin "sum" | .list => .type "list" | .tuple => .type "tuple"
  | .sorted => .builtin "sorted" | .repr => .builtin "repr" | .str => .type "str" | .min => .builtin "min" | .max => .builtin "max"
theorem call_repr_bl : CallR X (.builtin "repr") (fun xs H Q => ∃ b, xs = [.bl b] ∧ Q (.str (if b then "True" else "False")) H) := by
  intro pins s σ H xs us Q I r h
  obtain ⟨b, rfl, q⟩ := h
  obtain ⟨u, rfl, rfl⟩ := vals1 r
  exact PySem.P.repr_of_bool ⟨.str _, H, I.tok _, ⟨_, rfl⟩, q⟩
theorem foldl_min_mem : ∀ (ns : List Int) (n : Int), ns.foldl min n ∈ n :: ns
  | [], n => by simp
  | a :: ns, n => by
    have h := foldl_min_mem ns (min n a)
    rw [List.foldl_cons]
    rcases List.mem_cons.mp h with h | h
    · rw [h]
      rcases Int.le_total n a with q | q
      · rw [Int.min_eq_left q]; exact List.mem_cons_self
      · rw [Int.min_eq_right q]; exact List.mem_cons_of_mem _ List.mem_cons_self
    · exact List.mem_cons_of_mem _ (List.mem_cons_of_mem _ h)
theorem foldl_min_le : ∀ (ns : List Int) (n : Int), ∀ x ∈ n :: ns, ns.foldl min n ≤ x
  | [], n, x, h => by simp at h; subst h; exact Int.le_refl _
  | a :: ns, n, x, h => by
    have ih := foldl_min_le ns (min n a)
    rw [List.foldl_cons]
    have h0 := ih (min n a) List.mem_cons_self
    rcases List.mem_cons.mp h with rfl | h
    · exact Int.le_trans h0 (Int.min_le_left _ _)
    · rcases List.mem_cons.mp h with rfl | h
      · exact Int.le_trans h0 (Int.min_le_right _ _)
      · exact ih x (List.mem_cons_of_mem _ h)
theorem least_eq {ns : List Int} {n k : Int} (hk : k ∈ n :: ns) (hl : ∀ x ∈ n :: ns, k ≤ x) : k = ns.foldl min n :=
  Int.le_antisymm (hl _ (foldl_min_mem ns n)) (foldl_min_le ns n k hk)
def rBi (K : PySem.W.Frag) (b : Bi) : List V → Hp → VK → Prop := fun vs H Q => ∃ m S ds r, StOk K H m S ∧ PRs K H (Own m S) vs ds ∧ biD b ds = some r ∧ Fol K H m S r Q
theorem call_bi (b : Bi) (hc : X.calm = true) (hu : X.A.units + 70 < cLine) : CallR X (bval b) (rBi X.K b) := by
  intro pins s σ H vs us Q I r h
  obtain ⟨m, S, ds, d, ok, hv, hr, f⟩ := h
  unfold biD at hr
  split at hr
  · cases hv with | cons h1 h2 => cases h2; cases hr; obtain ⟨a, ws, rfl, g1, g2⟩ := h1.lst; exact call_len pins s σ H _ us Q I r ⟨_, _, rfl, .inl ⟨_, .inl g1, rfl⟩, by rw [g2.length]; exact f.here ok (.int _)⟩
  · cases hv with | cons h1 h2 => cases h2; cases hr; obtain ⟨a, ws, rfl, g1, g2⟩ := h1.tup; exact call_len pins s σ H _ us Q I r ⟨_, _, rfl, .inr ⟨_, g1, rfl⟩, by rw [g2.length]; exact f.here ok (.int _)⟩
  · cases hv with | cons h1 h2 =>
      cases h2; cases h1.str
      split at hr
      · cases hr; exact call_len_str pins s σ H _ us Q I r ⟨_, rfl, by assumption, f.here ok (.int _)⟩
      · cases hr
  · cases hv with | cons h1 h2 => cases h2; cases hr; cases h1.int; exact call_int1 pins s σ H _ us Q I r (.inl ⟨_, rfl, f.here ok (.int _)⟩)
  · cases hv with | cons h1 h2 => cases h2; cases hr; cases h1.bl; exact call_int1 pins s σ H _ us Q I r (.inr ⟨_, rfl, f.here ok (.int _)⟩)
  · cases hv with | cons h1 h2 =>
      cases h2
      obtain ⟨a, ws, rfl, g1, g2⟩ := h1.lst
      obtain ⟨bs, e, rfl⟩ := Option.map_eq_some_iff.mp hr
      cases g2.bls e; exact cr_all hc pins s σ H _ us Q I r ⟨_, _, rfl, .inl g1, f.here ok (.bl _)⟩
  · cases hv with | cons h1 h2 =>
      cases h2
      obtain ⟨a, ws, rfl, g1, g2⟩ := h1.lst
      obtain ⟨bs, e, rfl⟩ := Option.map_eq_some_iff.mp hr
      cases g2.bls e; exact cr_any hc pins s σ H _ us Q I r ⟨_, _, rfl, .inl g1, f.here ok (.bl _)⟩
  · cases hv with | cons h1 h2 =>
      cases h2
      obtain ⟨a, ws, rfl, g1, g2⟩ := h1.lst
      obtain ⟨bs, e, rfl⟩ := Option.map_eq_some_iff.mp hr
      cases g2.ints e; exact cr_sum hc pins s σ H _ us Q I r ⟨_, _, rfl, .inl g1, f.here ok (.int _)⟩
  · cases hv with | cons h1 h2 => cases h2; cases hr; obtain ⟨a, ws, rfl, g1, g2⟩ := h1.lst; exact call_list_of pins s σ H _ us Q I r ⟨_, _, rfl, .inl (.inl g1), f.lst ok g2⟩
  · cases hv with | cons h1 h2 => cases h2; cases hr; obtain ⟨a, ws, rfl, g1, g2⟩ := h1.tup; exact call_list_of pins s σ H _ us Q I r ⟨_, _, rfl, .inr g1, f.lst ok g2⟩
  · cases hv with | cons h1 h2 => cases h2; cases hr; obtain ⟨a, ws, rfl, g1, g2⟩ := h1.lst; exact call_tuple_of pins s σ H _ us Q I r ⟨_, _, rfl, .inl ⟨.inl g1, f.tup ok g2⟩⟩
  · cases hv with | cons h1 h2 => cases h2; cases hr; obtain ⟨a, ws, rfl, g1, g2⟩ := id h1.tup; exact call_tuple_of pins s σ H _ us Q I r ⟨_, _, rfl, .inr ⟨g1, f.here ok (h1.rep fun _ z => nomatch z)⟩⟩
  · cases hv with | cons h1 h2 =>
      cases h2
      split at hr
      · cases hr; exact call_sortedD hu pins s σ H _ us Q I r ⟨m, S, _, _, rfl, ok, h1, by assumption, fun ws p hw hp => f.lst ok hw p hp⟩
      · cases hr
  · cases hv with | cons h1 h2 =>
      cases h2
      split at hr
      · cases hr; exact call_sortedDT hu pins s σ H _ us Q I r ⟨m, S, _, _, rfl, ok, h1, by assumption, fun ws p hw hp => f.lst ok hw p hp⟩
      · cases hr
  · cases hv with | cons h1 h2 => cases h2; cases hr; cases h1.bl; exact call_repr_bl pins s σ H _ us Q I r ⟨_, rfl, f.here ok (.str _)⟩
  · cases hv with | cons h1 h2 =>
      cases h2
      split at hr
      · rename_i n ns e
        cases hr
        obtain ⟨a, ws, rfl, g1, g2⟩ := h1.lst
        cases g2.ints e
        refine cr_min hc pins s σ H _ us Q I r ⟨_, _, rfl, .inl g1, by simp, fun k hk hl => ?_⟩
        have e2 : k = ns.foldl min n := least_eq hk hl
        subst e2
        exact f.here ok (.int _)
      · cases hr
  · cases hv with | cons h1 h2 => cases h2 with | cons h2 h3 => cases h3; cases hr; cases h1.int; cases h2.int; exact call_min2 hc pins s σ H _ us Q I r ⟨_, _, rfl, f.here ok (.int _)⟩
  · cases hv with | cons h1 h2 => cases h2 with | cons h2 h3 => cases h3; cases hr; cases h1.int; cases h2.int; exact call_max2 hc pins s σ H _ us Q I r ⟨_, _, rfl, f.here ok (.int _)⟩
  · cases hr

/-! ### methods -/
theorem firstEq_get {x : D} : ∀ {ys : List D} {k n : Nat}, firstEq x ys k = some n → k ≤ n ∧ ∃ z, ys[n - k]? = some z ∧ deq z x = true ∧ ∀ (j : Nat) (z' : D), j < n - k → ys[j]? = some z' → deq z' x = false
  | [], _, _, h => by cases h
  | y :: ys, k, n, h => by
    unfold firstEq at h
    split at h
    · cases h
      refine ⟨Nat.le_refl _, y, by simp, by assumption, fun j z' hj => by omega⟩
    · rename_i hy
      obtain ⟨h1, z, h2, h3, h4⟩ := firstEq_get h
      have e : n - k = (n - (k + 1)) + 1 := by omega
      refine ⟨by omega, z, by rw [e]; simpa using h2, h3, fun j z' hj hz => ?_⟩
      cases j with
      | zero => simp at hz; subst hz; simpa using hy
      | succ j => exact h4 j z' (by omega) (by simpa using hz)
theorem Reps.strs' {K : PySem.W.Frag} {H : Hp} {N : Addr → Prop} : ∀ {vs : List V} {xs : List D} {bs : List Str}, Reps K H N vs xs → asStrs xs = some bs → vs = bs.map V.str
  | _, _, bs, .nil, e => by unfold asStrs at e; cases e; rfl
  | _, _ :: ds, bs, .cons q r, e => by
    cases q with
    | str b =>
      unfold asStrs at e
      cases h : asStrs ds with
      | none => rw [h] at e; cases e
      | some bs' => rw [h] at e; cases e; rw [List.map_cons, Reps.strs' r h]
    | _ => unfold asStrs at e; cases e
def mid : Mt → String
  | .index => "list.index" | .split => "str.split" | .count => "str.count" | .join => "str.join" | .countL => "list.count"
def mty : Mt → String
  | .index => "list" | .split => "str" | .count => "str" | .join => "str" | .countL => "list"
def rMt (K : PySem.W.Frag) (k : Mt) : V → List V → Hp → VK → Prop := fun v vs H Q => ∃ m S d ds r, StOk K H m S ∧ PR K H (Own m S) v d ∧ PRs K H (Own m S) vs ds ∧ mthD k d ds = some r ∧ Fol K H m S r Q
theorem mt_D (k : Mt) (hu : X.A.units + 65 < cLine) : MtR X (mid k) (rMt X.K k) := by
  intro pins s σ H x xs v us Q I rx rs h
  obtain ⟨m, S, d, ds, r, ok, hx, hs, hr, f⟩ := h
  unfold mthD at hr
  split at hr
  · rename_i ys x'
    split at hr
    · rename_i hc
      obtain ⟨n, e, rfl⟩ := Option.map_eq_some_iff.mp hr
      have hc := Bool.and_eq_true_iff.mp hc
      cases hs with
      | cons h1 h2 =>
        cases h2
        obtain ⟨a, ws, rfl, g1, g2⟩ := id hx.lst
        obtain ⟨_, z, e1, e2, e3⟩ := firstEq_get e
        rw [Nat.sub_zero] at e1 e3
        have l2 := okD_lay hc.2
        rw [toPy, PyData.canLay0] at l2
        have hd := hx.dp
        rw [toPy] at hd
        have sh : SeqAt.shaped (PyData.list (toPys ys)) = true := by have := hc.2; unfold okD at this; rw [toPy] at this; exact this
        refine mt_indexD hu pins s σ H _ _ v us Q I rx rs ⟨a, _, _, toPys ys, n, toPy z, rfl, rfl, hd, h1.dp, sh, hc.1, ?_, ?_, fun j z' hj hz => ?_, f.here ok (.int _)⟩
        · rw [toPys_eq, List.getElem?_map, e1]; rfl
        · rw [eqv_deq _ _ (lay_mem l2 z (List.mem_of_getElem? e1)) (okD_lay hc.1)]; exact e2
        · rw [toPys_eq, List.getElem?_map] at hz
          obtain ⟨w, hw, rfl⟩ := Option.map_eq_some_iff.mp hz
          rw [eqv_deq _ _ (lay_mem l2 w (List.mem_of_getElem? hw)) (okD_lay hc.1)]
          exact e3 j w hj hw
    · cases hr
  · cases hx.str
    cases hr
    cases hs with
    | cons h1 h2 =>
      cases h2; cases h1.str
      unfold cntT at f
      exact mt_count pins s σ H _ _ v us Q I rx rs ⟨_, _, rfl, rfl, f.here ok (.int _)⟩
  · cases hx.str
    split at hr
    · rename_i hc
      cases hr
      cases hs with
      | cons h1 h2 =>
        cases h2; cases h1.str
        exact mt_split pins s σ H _ _ v us Q I rx rs ⟨_, _, rfl, rfl, hc.1, hc.2, fun p hp => f.lst ok (reps_strs _) p hp⟩
    · cases hr
  · rename_i ys x'
    split at hr
    · rename_i hc
      cases hr
      have hc := Bool.and_eq_true_iff.mp hc
      cases hs with
      | cons h1 h2 =>
        cases h2
        cases rs with
        | cons ry rt =>
          cases rt
          obtain ⟨a, ws, rfl, g1, g2⟩ := id hx.lst
          cases rx
          have sh : SeqAt.shaped (PyData.list (toPys ys)) = true := by have := hc.2; unfold okD at this; rw [toPy] at this; exact this
          have lx := okD_lay hc.1
          have ly := okD_lay hc.2
          rw [toPy, PyData.canLay0] at ly
          obtain ⟨bs, r1⟩ := Dp.reads I _ _ _ h1.dp ry
          have hxd := hx.dp
          rw [toPy] at hxd
          obtain ⟨as, r2⟩ := Dp.reads I (.list (toPys ys)) (.ref a) (.ref a) hxd rfl
          have hroom : X.A.units + 1 + min (PyData.depthAll (toPys ys)) (toPy x').depth < cLine := room_in_shaped hc.1 hu
          cases r2 with
          | list i1 i2 i3 rl =>
            refine PySem.SeqAt.count_list_data ⟨_, i1, i2, _, i3⟩ rl r1 (PySem.PyData.plainAll_of_canLay0 _ ly) (PySem.PyData.plain_of_canLay0 _ lx) hroom ⟨.int _, H, I.tok _, ⟨_, rfl⟩, ?_⟩
            have e : (toPys ys).countP (fun y => PyData.eqv y (toPy x')) = ys.countP fun y => deq y x' := by
              rw [toPys_eq, List.countP_map]
              apply List.countP_congr
              intro y hy
              simp only [Function.comp]
              rw [eqv_deq _ _ (lay_mem ly y hy) lx]
            rw [e]
            exact f.here ok (.int _)
    · cases hr
  · cases hr
theorem ty_mt {K : PySem.W.Frag} {H : Hp} {N : Addr → Prop} {x : V} {d : D} {k : Mt} (hx : PR K H N x d) (h : mtOk k d = true) : tyV K (mty k) x H := by
  unfold mtOk at h
  split at h
  · obtain ⟨a, ws, rfl, g1, g2⟩ := hx.lst
    exact .inl ⟨rfl, _, .inl g1⟩
  · cases hx.str; rfl
  · cases hx.str; rfl
  · cases hx.str; rfl
  · obtain ⟨a, ws, rfl, g1, g2⟩ := hx.lst
    exact .inl ⟨rfl, _, .inl g1⟩
  · cases h
end
end M

/-! a set of texts that grows by one text at a time: named after what the library tells of one text's add (Froz.add_x) -/
namespace M
open PySem PySem.Spec PyProof.Rows L2 PySem.Froz
/-- the payload's table can be walked -/
def Wkb (w : World) (D : SD) : Prop := Ris D.2.2.place.toList ∧ (w.params.followText "set-order" = true ∨ D.2.2.led = true)
theorem Wkb.tail {w : World} {ep : Nat} {es : Array (Int × Value)} {t : SetTable} {dm : Bool} (g : Wkb w (es, ep, t)) : Wkb w (tailTx ep es t dm) := by
  unfold tailTx
  cases (!dm && t.tooFull) with
  | true => exact ⟨relayAll_ris _ _ _, g.2.imp id fun z => (relayAll_led t es _).trans z⟩
  | false => exact g
theorem Wkb.add {w : World} {D : SD} (g : Wkb w D) (hsh : Int) (v : Value) : Wkb w (addTx hsh v D) := by
  obtain ⟨es, ep, t⟩ := D
  have p1 := layNew_ris t es hsh v g.1
  have p2 : w.params.followText "set-order" = true ∨ (layNew t es hsh v).2.1.led = true := g.2.imp id fun z => (layNew_led t es hsh v).trans z
  unfold addTx
  refine Wkb.tail (ep := ep) ?_
  dsimp only
  cases (layNew t es hsh v).2.1.plain with
  | true => exact ⟨p1, p2⟩
  | false => exact ⟨p1, p2⟩
/-- at a stands a set of just these texts, each once -/
structure TxS (P : Program) (w : World) (h : Heap) (a : Addr) (l : List Str) : Prop where
  here : ∃ D, h.get? a = some (sObj "set" D) ∧ TxOk P w D l ∧ Wkb w D
  each : l.Nodup
section
variable {P : Program} {w : World} {A : Around} {E : Value → Shared → Prop} {s : Shared} {a : Addr} {l : List Str}
theorem TxS.keep {h h' : Heap} (T : TxS P w h a l) (k : ∀ o, h.get? a = some o → h'.get? a = some o) : TxS P w h' a l :=
  let ⟨D, g, r⟩ := T.here
  ⟨⟨D, k _ g, r⟩, T.each⟩
/-- a text that is there already changes nothing -/
theorem add_there {k : Str} {u : Tok} {Q : Bool → Shared → Prop} (T : TxS P w s.heap a l) (hk : k ∈ l) (hb : l.length < scanBound) (q : Q false s) : wpAny (model P w) A (setAddHashed a (.str k u) (hashStr w k)) Q E s := by
  obtain ⟨⟨es, ep, t⟩, at_, ok, -⟩ := T.here
  have small : es.size < scanBound := by rw [show es.size = l.length from ok.sz]; exact hb
  obtain ⟨e, me, ie⟩ := (ok.mem k).mp hk
  obtain ⟨j, hj⟩ : ∃ j, es.toList.findIdx? (fun e => (strKind P w).is k e.2) = some j := by
    cases c : es.toList.findIdx? (fun e => (strKind P w).is k e.2) with
    | some j => exact ⟨j, rfl⟩
    | none => exact absurd ie (by rw [List.findIdx?_eq_none_iff.mp c e me]; exact Bool.false_ne_true)
  have sees : wpAny (model P w) A (setAddByScan a (.str k u) (hashStr w k) es t) (fun r s' => r = some false ∧ s' = s) E s :=
    wpAny_bind (wpAny_rule (wpAny_bind (wpAny_setScan_of (knd := strKind P w) (is_str k u) at_ rfl ok.fit ok.el (by rw [hj]; exact wpAny_pure ⟨rfl, rfl⟩))))
  have scan : byScan (.str k u) es = true := byScan_of (knd := strKind P w) rfl small ok.el
  show wpAny _ _ (holding [.str k u] (setAddHashedIn a (.str k u) (hashStr w k) (99999 + 1))) _ _ _
  rw [setAddHashedIn]
  refine wpAny_holding (wpAny_bind (wpAny_setState_of at_ rfl ok.fit ?_))
  simp only [scan, if_true]
  exact wpAny_bind (wpAny_mono sees (fun r s' ⟨e1, e2⟩ => by subst e1; subst e2; exact wpAny_pure q) fun _ _ z => z)
/-- the set behind an add -/
def grow (l : List Str) (k : Str) : List Str := if k ∈ l then l else k :: l
theorem add_text {k : Str} {u : Tok} {Q : Bool → Shared → Prop} (T : TxS P w s.heap a l) (hb : l.length + 1 < scanBound) (q : ∀ b h', Heap.SameBut a s.heap h' → TxS P w h' a (grow l k) → Q b { s with heap := h' }) :
    wpAny (model P w) A (setAddHashed a (.str k u) (hashStr w k)) Q E s := by
  by_cases hk : k ∈ l
  · refine add_there T hk (by omega) (q false s.heap (Heap.SameBut.refl a s.heap) ?_)
    rw [grow, if_pos hk]; exact T
  · obtain ⟨D, at_, ok, wk⟩ := T.here
    refine add_x at_ ok hk hb (q true _ (Heap.SameBut.update s.heap a _) ?_)
    rw [grow, if_neg hk]
    exact ⟨⟨_, get_upd _ at_ rfl, add_ok u ok, wk.add _ _⟩, List.nodup_cons.mpr ⟨hk, T.each⟩⟩
/-- what the loop leaves: the texts one by one -/
theorem fill {R : Result → Shared → Prop} {I S : Addr} {fp wr : List Addr} {n : Nat} {Pv : Nat → Value → Prop} {St : Nat → Heap → Prop} (W : Walks P w A.in1 I fp wr n Pv St) (far : S ∉ fp) {xs : List Str} (hn : xs.length = n) (texts : ∀ i v, Pv i v → ∃ x t, xs[i]? = some x ∧ v = .str x t) (room : n + 1 < scanBound) (s : Shared) :
    ∀ (rest : List Str) (i : Nat) (l : List Str) (h : Heap) (tk : Nat), xs.drop i = rest → i ≤ n → l.length ≤ i → St i h → TxS P w h S l →
      (∀ h' tk', TxS P w h' S (rest.foldl grow l) → (∀ b o, b ≠ S → b ∉ wr → h.get? b = some o → h'.get? b = some o) → R (.ok (.ret .none)) { s with heap := h', toks := tk' }) →
      codeAny (model P w) A (.builtin "set.update.loop" ⟨[.ref S, .ref I], []⟩) R { s with heap := h, toks := tk } := by
  have nwr : S ∉ wr := fun z => far (W.sub S z)
  intro rest
  induction rest with
  | nil =>
    intro i l h tk ed hi hl st T q
    have ei : i = n := by have := congrArg List.length ed; rw [List.length_drop] at this; simp at this; omega
    subst ei
    refine codeAny_builtin PyProof.Rows.F.entry_set_update_loop ?_
    rw [Around.under_plainId PyProof.Rows.F.plain_set_update_loop _]
    refine wpAny_bind (W.done { s with heap := h, toks := tk } _ _ st fun h' tk' kp => ?_)
    exact wpAny_pure (q h' tk' (T.keep fun o e => kp S o nwr e) fun b o _ hb e => kp b o hb e)
  | cons x rest more =>
    intro i l h tk ed hi hl st T q
    have lt : i < n := by have := congrArg List.length ed; rw [List.length_drop] at this; simp at this; omega
    have hx : xs[i]? = some x := by
      have := congrArg List.head? ed
      rw [List.head?_drop] at this
      exact this
    refine codeAny_builtin PyProof.Rows.F.entry_set_update_loop ?_
    rw [Around.under_plainId PyProof.Rows.F.plain_set_update_loop _]
    refine wpAny_bind (W.item i { s with heap := h, toks := tk } _ _ lt st fun v h1 tk1 pv st1 kp => ?_)
    obtain ⟨y, t, ey, rfl⟩ := texts i v pv
    have : y = x := by rw [hx] at ey; exact (Option.some.inj ey).symm
    subst this
    have T1 : TxS P w h1 S l := T.keep fun o e => kp S o nwr e
    have lg : (grow l y).length ≤ i + 1 := by
      unfold grow
      split
      · omega
      · rw [List.length_cons]; omega
    refine wpAny_bind (wpAny_holding (wpAny_holding (wpAny_bind ((strKind P w).pyHash (is_str y t) ?_))))
    refine add_text (s := { s with heap := h1, toks := tk1 + 1 }) T1 (by omega) fun b h2 sb T2 => ?_
    refine wpAny_pure ⟨plainId_quiet PyProof.Rows.F.plain_set_update_loop _, more (i + 1) (grow l y) h2 (tk1 + 1) ?_ lt lg (W.frame _ h1 h2 st1 fun c hc o e => (sb.2 c fun z => far (z ▸ hc)).trans e) T2 fun h3 tk3 T3 kp3 => q h3 tk3 T3 fun c o c1 c2 e => kp3 c o c1 c2 ((sb.2 c c1).trans (kp c o c2 e))⟩
    have := congrArg List.tail ed
    rw [List.tail_drop] at this
    exact this
/-- a new set -/
def set0 (w : World) : Obj := sObj "set" (#[], 0, .fresh 0 0 (!w.params.followText "set-order"))
theorem txs_new (h : Heap) : TxS P w (h.push (set0 w)) h.objs.size [] := by
  refine ⟨⟨_, Heap.get?_push_size _ rfl, TxOk.nil rfl, by simp [Ris, SetTable.fresh], ?_⟩, List.nodup_nil⟩
  cases e : w.params.followText "set-order" with
  | true => exact .inl rfl
  | false => exact .inr (by simp [SetTable.fresh, e])
/-- set(x): made, then filled; as the model's type.__call__ has it (the library has this for an init whose check asks nothing of the heap: callType_codes) -/
theorem call_set1 {x : Value} {Q Q₁ : Value → Shared → Prop} (made : codeAny (model P w) A.in1 (.call (.builtin "set.__new__") ⟨[.type "set", x], []⟩) (wants Q₁ E) s)
    (filled : ∀ o s1, Q₁ o s1 → s1.TypeIs o "set" ∧ wpAny (model P w) A.in1.in1 (Builtin.«set.__init__» ⟨[o, x], []⟩) (fun r s2 => r = .done (.ret .none) ∧ Q o s2) (fun _ _ => False) s1) : wpAny (model P w) A (call (.type "set") [x]) Q E s := by
  have c := PySem.F.called_set
  obtain ⟨_, _, mro⟩ := c.mro
  have a1 := c.made
  have a2 := c.sub
  have a3 := c.notType
  have a4 := c.canCreate
  have a5 := PySem.F.typeCall_set_1 x
  refine wpAny_call (codeAny_of_tree (wpAny_pure ⟨Code.quiet_builtin _ (by decide +kernel), codeAny_builtin PySem.F.entry_type_call ?_⟩))
  rw [Around.under_plain (weight_type_call_type "set" [x] []) rfl]
  unfold Builtin.«type.__call__»
  simp only [a3, a4, Bool.false_eq_true, if_false, bind_assoc, pure_bind]
  refine wpAny_bind (wpAny_of_eq a5 ?_)
  refine wpAny_bind (wpAny_of_eq mro ?_)
  simp only [List.isEmpty_cons, Bool.false_eq_true, if_false]
  refine wpAny_bind (wpAny_of_eq a1 ?_)
  refine wpAny_bind (wpAny_holding (wpAny_call (codeAny_mono made fun r s1 q1 => ?_)))
  cases r with
  | error e => exact q1
  | ok fl =>
    cases fl with
    | ret o =>
      obtain ⟨ty, body⟩ := filled o s1 q1
      refine wpAny_bind (wpAny_isInstance ty a2 ?_)
      simp only [Bool.not_true, Bool.false_eq_true, if_false, callSpecial?]
      refine wpAny_bind (wpAny_holding (wpAny_bind (wpAny_specialOf ty c.init.lookup (wpAny_holding (wpAny_bind (wpAny_of_eq (c.init.bind o) ?_))))))
      refine wpAny_bind (wpAny_call (codeAny_call_builtin_code (plainId_quiet c.init.plain _) (check_set_init_1 ty (codeAny_builtin PySem.F.entry_set_init ?_))))
      rw [Around.under_plainId c.init.plain _]
      refine wpAny_mono body (fun r s2 ⟨e, q2⟩ => ?_) fun _ _ z => z.elim
      subst e
      exact wpAny_pure (wpAny_pure q2)
    | _ => exact q1.elim
theorem mkset_list {l : Addr} {its : Array Value} {xs : List Str} {Q : Value → Shared → Prop} (free : A.handled = none) (il : s.heap.IsList l its) (tx : Vals (xs.map V.str) its.toList) (room : xs.length + 1 < scanBound)
    (q : ∀ h' tk, TxS P w h' s.heap.objs.size (xs.foldl grow []) → (∀ b o, s.heap.get? b = some o → h'.get? b = some o) → Q (.ref s.heap.objs.size) { s with heap := h', toks := tk }) : wpAny (model P w) A (call (.type "set") [.ref l]) Q E s := by
  refine call_set1 (code_set_led1 (.ref l) (Q₁ := fun u s₁ => u = .ref s.heap.objs.size ∧ s₁ = { s with heap := s.heap.push (set0 w) }) ⟨rfl, rfl⟩) ?_
  rintro obj s1 ⟨rfl, rfl⟩
  have new : (s.heap.push (set0 w)).get? s.heap.objs.size = some (set0 w) := Heap.get?_push_size _ rfl
  have here : Shared.TypeIs { s with heap := s.heap.push (set0 w) } (.ref s.heap.objs.size) "set" := ⟨_, new, rfl⟩
  have il1 : (s.heap.push (set0 w)).IsList l its := il.push _
  have hlt : l < s.heap.objs.size := let ⟨o, e, _⟩ := il; Heap.lt_size e
  have below : ∀ b o, s.heap.get? b = some o → b ≠ s.heap.objs.size ∧ b ∉ [s.heap.objs.size + 1] := fun b o e => by
    have := Heap.lt_size e
    refine ⟨Nat.ne_of_lt this, fun z => ?_⟩
    rw [List.mem_singleton] at z
    rw [z] at this
    exact Nat.not_lt_of_le (Nat.le_succ _) this
  have len : xs.length = its.size := by have := Vals.length tx; rw [List.length_map, Array.length_toList] at this; exact this
  have upd : wpAny (model P w) A.in1.in1 (Builtin.Frozenset.updateFrom "set.__init__" s.heap.objs.size (.ref l)) (fun _ s2 => ∃ h' tk, s2 = { s with heap := h', toks := tk } ∧ TxS P w h' s.heap.objs.size (xs.foldl grow []) ∧ ∀ b o, s.heap.get? b = some o → h'.get? b = some o) (fun _ _ => False) { s with heap := s.heap.push (set0 w) } := by
    unfold Builtin.Frozenset.updateFrom Builtin.Frozenset.isAnySet
    refine wpAny_bind (wpAny_bind (wpAny_isInstance il1.typeIs PySem.F.sub_list_set ?_))
    refine wpAny_isInstance il1.typeIs PySem.F.sub_list_frozenset ?_
    simp only [Bool.false_eq_true, if_false]
    refine wpAny_bind (wpAny_typeOf il1.typeIs ?_)
    rw [if_neg (by decide)]
    refine wpAny_bind (wpAny_pyIter_list il1 (wpAny_bind (wpAny_runValue ?_)))
    have sz : (s.heap.push (set0 w)).objs.size = s.heap.objs.size + 1 := Heap.size_push _ _
    have apart : s.heap.objs.size ∉ [s.heap.objs.size + 1, l] := fun z => by
      rcases List.mem_cons.mp z with z | z
      · exact Nat.ne_of_lt (Nat.lt_succ_self _) z
      · exact Nat.ne_of_gt hlt (List.mem_singleton.mp z)
    rw [sz]
    refine fill (Walks.list (by simpa using free) (s.heap.objs.size + 1) l (Nat.ne_of_lt (Nat.lt_succ_of_lt hlt)) its) apart len (fun i v hv => ?_) (by omega) s xs 0 [] _ s.toks (by simp) (Nat.zero_le _) (Nat.le_refl _) ⟨⟨_, by rw [← sz]; exact Heap.get?_push_size _ rfl, rfl, rfl⟩, il1.push _⟩ ((txs_new s.heap).keep fun o e => Heap.get?_push_of_some _ e) fun h' tk T kp => ?_
    · have hi : i < xs.length := by rw [len]; exact (Array.getElem?_eq_some_iff.mp hv).1
      obtain ⟨v', e1, t, e2⟩ := Vals.get tx (i := i) (x := V.str xs[i]) (by simp [hi])
      rw [Array.getElem?_toList, hv] at e1
      cases e1
      exact ⟨xs[i], t, List.getElem?_eq_getElem hi, e2⟩
    · exact wpAny_pure ⟨h', tk, rfl, T, fun b o e => kp b o (below b o e).1 (below b o e).2 (Heap.get?_push_of_some _ (Heap.get?_push_of_some _ e))⟩
  refine ⟨here, ?_⟩
  unfold Builtin.«set.__init__» noKeywords
  have named : wpAny (model P w) A.in1.in1 (typeNameOfCut 200 (.ref s.heap.objs.size)) (fun _ s' => s' = { s with heap := s.heap.push (set0 w) }) (fun _ _ => False) { s with heap := s.heap.push (set0 w) } := by
    unfold typeNameOfCut shownTypeOf
    refine wpAny_bind (wpAny_bind (wpAny_typeOf here ?_))
    rw [if_neg (by decide)]
    exact wpAny_pure (wpAny_pure rfl)
  have fresh : wpAny (model P w) A.in1.in1 (setUsed s.heap.objs.size) (fun b s' => b = false ∧ s' = { s with heap := s.heap.push (set0 w) }) (fun _ _ => False) { s with heap := s.heap.push (set0 w) } :=
    wpAny_bind (wpAny_setState_of new rfl rfl (wpAny_pure ⟨rfl, rfl⟩))
  refine wpAny_bind (wpAny_pure (wpAny_bind (wpAny_mono named (fun _ s' e => ?_) fun _ _ z => z)))
  subst e
  refine wpAny_bind (wpAny_pure (wpAny_bind (wpAny_pure (wpAny_bind (wpAny_mono fresh (fun b s' ⟨e1, e2⟩ => ?_) fun _ _ z => z)))))
  subst e1; subst e2
  simp only [Bool.false_eq_true, if_false]
  refine wpAny_bind (wpAny_mono upd (fun _ s2 ⟨h', tk, e, T, kp⟩ => ?_) fun _ _ z => z)
  subst e
  exact wpAny_pure ⟨rfl, q h' tk T kp⟩
theorem mkset_tuple {l : Addr} {its : Array Value} {xs : List Str} {Q : Value → Shared → Prop} (free : A.handled = none) (il : s.heap.IsTuple l its) (tx : Vals (xs.map V.str) its.toList) (room : xs.length + 1 < scanBound)
    (q : ∀ h' tk, TxS P w h' s.heap.objs.size (xs.foldl grow []) → (∀ b o, s.heap.get? b = some o → h'.get? b = some o) → Q (.ref s.heap.objs.size) { s with heap := h', toks := tk }) : wpAny (model P w) A (call (.type "set") [.ref l]) Q E s := by
  refine call_set1 (code_set_led1 (.ref l) (Q₁ := fun u s₁ => u = .ref s.heap.objs.size ∧ s₁ = { s with heap := s.heap.push (set0 w) }) ⟨rfl, rfl⟩) ?_
  rintro obj s1 ⟨rfl, rfl⟩
  have new : (s.heap.push (set0 w)).get? s.heap.objs.size = some (set0 w) := Heap.get?_push_size _ rfl
  have here : Shared.TypeIs { s with heap := s.heap.push (set0 w) } (.ref s.heap.objs.size) "set" := ⟨_, new, rfl⟩
  have il1 : (s.heap.push (set0 w)).IsTuple l its := il.push _
  have hlt : l < s.heap.objs.size := let ⟨o, e, _⟩ := il; Heap.lt_size e
  have below : ∀ b o, s.heap.get? b = some o → b ≠ s.heap.objs.size ∧ b ∉ [s.heap.objs.size + 1] := fun b o e => by
    have := Heap.lt_size e
    refine ⟨Nat.ne_of_lt this, fun z => ?_⟩
    rw [List.mem_singleton] at z
    rw [z] at this
    exact Nat.not_lt_of_le (Nat.le_succ _) this
  have len : xs.length = its.size := by have := Vals.length tx; rw [List.length_map, Array.length_toList] at this; exact this
  have upd : wpAny (model P w) A.in1.in1 (Builtin.Frozenset.updateFrom "set.__init__" s.heap.objs.size (.ref l)) (fun _ s2 => ∃ h' tk, s2 = { s with heap := h', toks := tk } ∧ TxS P w h' s.heap.objs.size (xs.foldl grow []) ∧ ∀ b o, s.heap.get? b = some o → h'.get? b = some o) (fun _ _ => False) { s with heap := s.heap.push (set0 w) } := by
    unfold Builtin.Frozenset.updateFrom Builtin.Frozenset.isAnySet
    refine wpAny_bind (wpAny_bind (wpAny_isInstance il1.typeIs PySem.F.sub_tuple_set ?_))
    refine wpAny_isInstance il1.typeIs PySem.F.sub_tuple_frozenset ?_
    simp only [Bool.false_eq_true, if_false]
    refine wpAny_bind (wpAny_typeOf il1.typeIs ?_)
    rw [if_neg (by decide)]
    refine wpAny_bind (wpAny_pyIter_tuple il1 (wpAny_bind (wpAny_runValue ?_)))
    have sz : (s.heap.push (set0 w)).objs.size = s.heap.objs.size + 1 := Heap.size_push _ _
    have apart : s.heap.objs.size ∉ [s.heap.objs.size + 1, l] := fun z => by
      rcases List.mem_cons.mp z with z | z
      · exact Nat.ne_of_lt (Nat.lt_succ_self _) z
      · exact Nat.ne_of_gt hlt (List.mem_singleton.mp z)
    rw [sz]
    refine fill (Walks.tuple (by simpa using free) (s.heap.objs.size + 1) l (Nat.ne_of_lt (Nat.lt_succ_of_lt hlt)) its) apart len (fun i v hv => ?_) (by omega) s xs 0 [] _ s.toks (by simp) (Nat.zero_le _) (Nat.le_refl _) ⟨⟨_, by rw [← sz]; exact Heap.get?_push_size _ rfl, rfl, rfl⟩, il1.push _⟩ ((txs_new s.heap).keep fun o e => Heap.get?_push_of_some _ e) fun h' tk T kp => ?_
    · have hi : i < xs.length := by rw [len]; exact (Array.getElem?_eq_some_iff.mp hv).1
      obtain ⟨v', e1, t, e2⟩ := Vals.get tx (i := i) (x := V.str xs[i]) (by simp [hi])
      rw [Array.getElem?_toList, hv] at e1
      cases e1
      exact ⟨xs[i], t, List.getElem?_eq_getElem hi, e2⟩
    · exact wpAny_pure ⟨h', tk, rfl, T, fun b o e => kp b o (below b o e).1 (below b o e).2 (Heap.get?_push_of_some _ (Heap.get?_push_of_some _ e))⟩
  refine ⟨here, ?_⟩
  unfold Builtin.«set.__init__» noKeywords
  have named : wpAny (model P w) A.in1.in1 (typeNameOfCut 200 (.ref s.heap.objs.size)) (fun _ s' => s' = { s with heap := s.heap.push (set0 w) }) (fun _ _ => False) { s with heap := s.heap.push (set0 w) } := by
    unfold typeNameOfCut shownTypeOf
    refine wpAny_bind (wpAny_bind (wpAny_typeOf here ?_))
    rw [if_neg (by decide)]
    exact wpAny_pure (wpAny_pure rfl)
  have fresh : wpAny (model P w) A.in1.in1 (setUsed s.heap.objs.size) (fun b s' => b = false ∧ s' = { s with heap := s.heap.push (set0 w) }) (fun _ _ => False) { s with heap := s.heap.push (set0 w) } :=
    wpAny_bind (wpAny_setState_of new rfl rfl (wpAny_pure ⟨rfl, rfl⟩))
  refine wpAny_bind (wpAny_pure (wpAny_bind (wpAny_mono named (fun _ s' e => ?_) fun _ _ z => z)))
  subst e
  refine wpAny_bind (wpAny_pure (wpAny_bind (wpAny_pure (wpAny_bind (wpAny_mono fresh (fun b s' ⟨e1, e2⟩ => ?_) fun _ _ z => z)))))
  subst e1; subst e2
  simp only [Bool.false_eq_true, if_false]
  refine wpAny_bind (wpAny_mono upd (fun _ s2 ⟨h', tk, e, T, kp⟩ => ?_) fun _ _ z => z)
  subst e
  exact wpAny_pure ⟨rfl, q h' tk T kp⟩
end
end M

/-! expressions: a run of data is a reading -/
namespace M
open PySem PySem.Spec PyProof.Rows L2

abbrev WS := L2.St → WD
def tD (K : PySem.W.Frag) (W : WS) (g : Ev → St' → R SV) : TE := fun σ H Q => ∃ m S ρ, StOk K H m S ∧ RelE K H m S σ ρ ∧ Run K (fun H' m' S' d => ∀ v, RepS K H' m' S' v d → Q v H') (W σ) H m S (g ρ S)
def tDA (K : PySem.W.Frag) (W : WS) (g : Ev → St' → R (List SV)) : TA := fun σ H Q => ∃ m S ρ, StOk K H m S ∧ RelE K H m S σ ρ ∧ Run K (fun H' m' S' ds => ∀ vs, RepSs K H' m' S' vs ds → Q vs H') (W σ) H m S (g ρ S)
def tDT (K : PySem.W.Frag) (W : WS) (g : Ev → St' → R Bool) : TT := fun σ H Q => ∃ m S ρ, StOk K H m S ∧ RelE K H m S σ ρ ∧ Run K (fun H' m' S' b => Q b H') (W σ) H m S (g ρ S)
def tDO (K : PySem.W.Frag) (W : WS) (g : Ev → St' → R (Option Int)) : TO := fun σ H Q => ∃ m S ρ, StOk K H m S ∧ RelE K H m S σ ρ ∧ Run K (fun H' m' S' b => Q b H') (W σ) H m S (g ρ S)
/-- a new list: it stands as the last object -/
def RunL (K : PySem.W.Frag) (Q : VK) (W : WD) (H : Hp) (m : List Addr) (S : St') : R (List D) → Prop
  | .ok xs S' => ∀ H' m' p, StOk K H' (m' ++ [p]) (S' ++ [.lst xs]) → Fr H m S H' (m' ++ [p]) (S' ++ [.lst xs]) → m <+: m' → Q (.ref p) H'
  | .exc c p S' => ∀ H' m', StOk K H' m' S' → Fr H m S H' m' S' → W c p H' m' S'
  | .bad => False
def tDL (K : PySem.W.Frag) (W : WS) (g : Ev → St' → R (List D)) : TE := fun σ H Q => ∃ m S ρ, StOk K H m S ∧ RelE K H m S σ ρ ∧ RunL K Q (W σ) H m S (g ρ S)

theorem PE_imp {X : Cx} {e : Expr} {t t' : TE} (h : PE X e t) (i : ∀ σ H Q, t' σ H Q → t σ H Q) : PE X e t' := ⟨fun pins s σ H Q I hw => h.run pins s σ H Q I (i _ _ _ hw)⟩
theorem PA_imp {X : Cx} {e : List Expr} {t t' : TA} (h : PA X e t) (i : ∀ σ H Q, t' σ H Q → t σ H Q) : PA X e t' := ⟨fun pos pins s σ H Q I hw => h.run pos pins s σ H Q I (i _ _ _ hw)⟩
theorem PT_imp {X : Cx} {e : Expr} {t t' : TT} (h : PT X e t) (i : ∀ σ H Q, t' σ H Q → t σ H Q) : PT X e t' := ⟨fun pins s σ H Q I hw => h.run pins s σ H Q I (i _ _ _ hw)⟩
theorem PW_imp {X : Cx} {e : Expr} {t t' : TT} (h : PW X e t) (i : ∀ σ H Q, t' σ H Q → t σ H Q) : PW X e t' := ⟨fun wh pins s σ H Q I hw => h.run wh pins s σ H Q I (i _ _ _ hw)⟩
theorem PO_imp {X : Cx} {e : Option Expr} {t t' : TO} (h : PO X e t) (i : ∀ σ H Q, t' σ H Q → t σ H Q) : PO X e t' := ⟨fun pins s σ H Q I hw => h.run pins s σ H Q I (i _ _ _ hw)⟩

section
variable {K : PySem.W.Frag} {W : WS} {σ : L2.St} {H : Hp} {m : List Addr} {S : St'} {ρ : Ev}
theorem tD_bind {β : Type} {P' : Hp → List Addr → St' → β → Prop} {g : Ev → St' → R SV} {f : SV → St' → R β} {Q : VK} (ok : StOk K H m S) (re : RelE K H m S σ ρ) (h : Run K P' (W σ) H m S ((g ρ S).bind f))
    (hk : ∀ x v S1 H1 m1, StOk K H1 m1 S1 → RelE K H1 m1 S1 σ ρ → Fr H m S H1 m1 S1 → RepS K H1 m1 S1 v x → Run K P' (W σ) H1 m1 S1 (f x S1) → Q v H1) : tD K W g σ H Q :=
  ⟨m, S, ρ, ok, re, h.bind fun x S1 H1 m1 ok1 f1 r1 v rv => hk x v S1 H1 m1 ok1 (re.mono f1) f1 rv r1⟩
theorem tDA_bind {β : Type} {P' : Hp → List Addr → St' → β → Prop} {g : Ev → St' → R (List SV)} {f : List SV → St' → R β} {Q : List V → Hp → Prop} (ok : StOk K H m S) (re : RelE K H m S σ ρ) (h : Run K P' (W σ) H m S ((g ρ S).bind f))
    (hk : ∀ x v S1 H1 m1, StOk K H1 m1 S1 → RelE K H1 m1 S1 σ ρ → Fr H m S H1 m1 S1 → RepSs K H1 m1 S1 v x → Run K P' (W σ) H1 m1 S1 (f x S1) → Q v H1) : tDA K W g σ H Q :=
  ⟨m, S, ρ, ok, re, h.bind fun x S1 H1 m1 ok1 f1 r1 v rv => hk x v S1 H1 m1 ok1 (re.mono f1) f1 rv r1⟩
theorem tDT_bind {β : Type} {P' : Hp → List Addr → St' → β → Prop} {g : Ev → St' → R Bool} {f : Bool → St' → R β} {Q : Bool → Hp → Prop} (ok : StOk K H m S) (re : RelE K H m S σ ρ) (h : Run K P' (W σ) H m S ((g ρ S).bind f))
    (hk : ∀ x S1 H1 m1, StOk K H1 m1 S1 → RelE K H1 m1 S1 σ ρ → Fr H m S H1 m1 S1 → Run K P' (W σ) H1 m1 S1 (f x S1) → Q x H1) : tDT K W g σ H Q :=
  ⟨m, S, ρ, ok, re, h.bind fun x S1 H1 m1 ok1 f1 r1 => hk x S1 H1 m1 ok1 (re.mono f1) f1 r1⟩
theorem tDO_bind {β : Type} {P' : Hp → List Addr → St' → β → Prop} {g : Ev → St' → R (Option Int)} {f : Option Int → St' → R β} {Q : Option Int → Hp → Prop} (ok : StOk K H m S) (re : RelE K H m S σ ρ) (h : Run K P' (W σ) H m S ((g ρ S).bind f))
    (hk : ∀ x S1 H1 m1, StOk K H1 m1 S1 → RelE K H1 m1 S1 σ ρ → Fr H m S H1 m1 S1 → Run K P' (W σ) H1 m1 S1 (f x S1) → Q x H1) : tDO K W g σ H Q :=
  ⟨m, S, ρ, ok, re, h.bind fun x S1 H1 m1 ok1 f1 r1 => hk x S1 H1 m1 ok1 (re.mono f1) f1 r1⟩
theorem RunL.mono {Q : VK} {Wd : WD} {H1 : Hp} {m1 : List Addr} {S1 : St'} {r : R (List D)} (h : RunL K Q Wd H m S r) (f : Fr H m S H1 m1 S1) : RunL K Q Wd H1 m1 S1 r := by
  cases r with
  | ok xs S' => exact fun H' m' p ok' f' hp => h H' m' p ok' (f.trans f') (f.2.trans hp)
  | exc c p S' => exact fun H' m' ok' f' => h H' m' ok' (f.trans f')
  | bad => exact h
theorem RunL.bind {α : Type} {P : Hp → List Addr → St' → α → Prop} {Q : VK} {Wd : WD} {r : R α} {f : α → St' → R (List D)} (h : RunL K Q Wd H m S (r.bind f))
    (hk : ∀ a S1 H1 m1, StOk K H1 m1 S1 → Fr H m S H1 m1 S1 → RunL K Q Wd H1 m1 S1 (f a S1) → P H1 m1 S1 a) : Run K P Wd H m S r := by
  cases r with
  | bad => exact h
  | exc c p S' => exact h
  | ok a S1 => exact fun H1 m1 ok1 f1 => hk a S1 H1 m1 ok1 f1 (RunL.mono h f1)
theorem own_take {n : Nat} {a : Addr} (h : Own (m.take n) (S.take n) a) : Own m S a := by
  obtain ⟨i, e1, o, e2, ne⟩ := h
  by_cases hi : i < n
  · rw [List.getElem?_take_of_lt hi] at e1 e2
    exact ⟨i, e1, o, e2, ne⟩
  · rw [List.getElem?_eq_none (by simp; omega)] at e1; cases e1
theorem StOk.take (ok : StOk K H m S) (n : Nat) : StOk K H (m.take n) (S.take n) := by
  refine ⟨by simp [ok.len], ok.nd.sublist (List.take_sublist _ _), fun i a o e1 e2 => ?_⟩
  have hi : i < n := by
    apply Classical.byContradiction
    intro hi
    rw [List.getElem?_eq_none (by simp; omega)] at e1; cases e1
  rw [List.getElem?_take_of_lt hi] at e1 e2
  exact (ok.at_ i a o e1 e2).mono (fun b u h n => ⟨h, fun z => n (own_take z)⟩) (fun u e => ⟨u, e⟩) fun u e _ => e
/-- the last object is data from now on -/
theorem StOk.pop {p : Addr} {xs : List D} (ok : StOk K H (m ++ [p]) (S ++ [.lst xs])) : StOk K H m S ∧ (∀ a o, H a = some o → ¬ Own (m ++ [p]) (S ++ [.lst xs]) a → H a = some o ∧ ¬ Own m S a) ∧ Rep K H (Own m S) (.ref p) (.lst xs) := by
  have hl : m.length = S.length := by have := ok.len; simpa using this
  have t := ok.take m.length
  rw [List.take_left] at t
  rw [hl, List.take_left] at t
  have no : ∀ a, ¬ Own (m ++ [p]) (S ++ [.lst xs]) a → ¬ Own m S a := fun a n ⟨i, e1, o, e2, ne⟩ => n ⟨i, by rw [List.getElem?_append_left (List.getElem?_eq_some_iff.mp e1).1]; exact e1, o, by rw [List.getElem?_append_left (List.getElem?_eq_some_iff.mp e2).1]; exact e2, ne⟩
  refine ⟨t, fun a o e n => ⟨e, no a n⟩, ?_⟩
  obtain ⟨vs, h1, h2⟩ := ok.at_ m.length p (.lst xs) (by simp) (by rw [hl]; simp)
  refine .lst ⟨.inl h1, fun z => ?_⟩ (h2.mono fun a o e n => ⟨e, no a n⟩)
  have nd := ok.nd
  rw [List.nodup_append] at nd
  exact nd.2.2 p z.mem p (by simp) rfl
theorem Fr.pop {H0 : Hp} {m0 : List Addr} {S0 : St'} {p : Addr} {xs : List D} (ok : StOk K H (m ++ [p]) (S ++ [.lst xs])) (f : Fr H0 m0 S0 H (m ++ [p]) (S ++ [.lst xs])) (hp : m0 <+: m) : Fr H0 m0 S0 H m S :=
  ⟨fun a o e n => let ⟨e1, n1⟩ := f.1 a o e n; ok.pop.2.1 a o e1 n1, hp⟩
theorem Run.opt {α : Type} {P' : Hp → List Addr → St' → α → Prop} {Wd : WD} {o : Option α} (h : Run K P' Wd H m S (R.opt o S)) (ok : StOk K H m S) : ∃ a, o = some a ∧ ∀ H', StOk K H' m S → Fr H m S H' m S → P' H' m S a := by
  cases o with
  | none => exact h.elim
  | some a => exact ⟨a, rfl, fun H' ok' f => h H' m ok' f⟩
theorem Run.okk {α : Type} {P' : Hp → List Addr → St' → α → Prop} {Wd : WD} {a : α} {S1 : St'} (h : Run K P' Wd H m S (.ok a S1)) : ∀ H' m', StOk K H' m' S1 → Fr H m S H' m' S1 → P' H' m' S1 a := h
theorem Run.opt_bind {α β : Type} {P' : Hp → List Addr → St' → β → Prop} {Wd : WD} {o : Option α} {f : α → St' → R β} (h : Run K P' Wd H m S ((R.opt o S).bind f)) : ∃ a, o = some a ∧ Run K P' Wd H m S (f a S) := by
  cases o with
  | none => exact h.elim
  | some a => exact ⟨a, rfl, h⟩
end

section
variable {X : Cx} {W : WS} {a b c : Expr} {ga gb gc : Ev → St' → R SV} {pos : Pos}
theorem pd_var {i : Nat} {x : Str} {F : FS} (hN : X.N[i]? = some x) (hv : Vis X.env.scope x) (hd : (x == ("__debug__" : Str)) = false) (hcd : (x == ("__classdict__" : Str)) = false) : PE X (.Name x pos) (tD X.K W (evalE F (.var i))) := by
  refine PE_imp (pe_var hN hv hd hcd) fun σ H Q ⟨m, S, ρ, ok, re, h⟩ => ?_
  unfold evalE at h
  split at h
  · rename_i v hv
    obtain ⟨u, e, r⟩ := re.2 i v hv
    exact ⟨u, e, h H m ok .refl u r⟩
  · exact h.elim
theorem pd_const {d : D} {v : V} {F : FS} (h : PE X a (tC v)) (hr : ∀ H N, Rep X.K H N v d) : PE X a (tD X.K W (fun _ S => .ok (.t d) S)) :=
  PE_imp h fun σ H Q ⟨m, S, ρ, ok, re, h⟩ => h H m ok .refl v (hr H _)
theorem pd_bin (o : Bn) (ha : PE X a (tD X.K W ga)) (hb : PE X b (tD X.K W gb)) : PE X (.BinOp a (opOf o) b pos) (tD X.K W fun ρ S => (ga ρ S).bind fun x S1 => (gb ρ S1).bind fun y S2 =>
      R.opt ((peek S2 x).bind fun d => (peek S2 y).bind fun e => (binD o d e).map .t) S2) := by
  refine PE_imp (pe_op (or_bin o) ha hb) fun σ H Q ⟨m, S, ρ, ok, re, h⟩ => ?_
  refine tD_bind ok re h fun x v S1 H1 m1 ok1 re1 f1 rv h1 => ?_
  refine tD_bind ok1 re1 h1 fun y u S2 H2 m2 ok2 re2 f2 ru h2 => ?_
  obtain ⟨r, e, q⟩ := Run.opt h2 ok2
  obtain ⟨d, e1, e⟩ := Option.bind_eq_some_iff.mp e
  obtain ⟨d2, e2, e⟩ := Option.bind_eq_some_iff.mp e
  obtain ⟨r', e3, rfl⟩ := Option.map_eq_some_iff.mp e
  exact ⟨m2, S2, d, d2, r', ok2, ok2.peek (rv.mono f2) e1, ok2.peek ru e2, e3, fun H' w ok' f' hw => q H' ok' f' w hw⟩
theorem pd_cmp (o : Cm) (hu : X.A.units + 65 < cLine) (hm : behindInMarks (cmOf o) b = false) (ha : PE X a (tD X.K W ga)) (hb : PE X b (tD X.K W gb)) : PE X (.Compare a [cmOf o] [b] pos) (tD X.K W fun ρ S => (ga ρ S).bind fun x S1 => (gb ρ S1).bind fun y S2 =>
      R.opt ((peek S2 x).bind fun d => (peek S2 y).bind fun e => (cmpD o d e).map fun b => .t (.bl b)) S2) := by
  refine PE_imp (pe_cmpR (or_cmp o hu) ha hb hm) fun σ H Q ⟨m, S, ρ, ok, re, h⟩ => ?_
  refine tD_bind ok re h fun x v S1 H1 m1 ok1 re1 f1 rv h1 => ?_
  refine tD_bind ok1 re1 h1 fun y u S2 H2 m2 ok2 re2 f2 ru h2 => ?_
  obtain ⟨r, e, q⟩ := Run.opt h2 ok2
  obtain ⟨d, e1, e⟩ := Option.bind_eq_some_iff.mp e
  obtain ⟨d2, e2, e⟩ := Option.bind_eq_some_iff.mp e
  obtain ⟨r', e3, rfl⟩ := Option.map_eq_some_iff.mp e
  exact ⟨m2, S2, d, d2, r', ok2, ok2.peek (rv.mono f2) e1, ok2.peek ru e2, e3, q H2 ok2 .refl _ (.bl r')⟩
theorem pt_cmpD (o : Cm) (hu : X.A.units + 65 < cLine) (hm : behindInMarks (cmOf o) b = false) (ha : PE X a (tD X.K W ga)) (hb : PE X b (tD X.K W gb)) : PT X (.Compare a [cmOf o] [b] pos) (tDT X.K W fun ρ S => tru ((ga ρ S).bind fun x S1 => (gb ρ S1).bind fun y S2 =>
      R.opt ((peek S2 x).bind fun d => (peek S2 y).bind fun e => (cmpD o d e).map fun b => .t (.bl b)) S2)) := by
  refine PT_imp (pt_cmpR (or_cmp o hu) ha hb hm) fun σ H Q ⟨m, S, ρ, ok, re, h⟩ => ?_
  simp only [tru, R.bind_assoc] at h
  refine tD_bind ok re h fun x v S1 H1 m1 ok1 re1 f1 rv h1 => ?_
  refine tD_bind ok1 re1 h1 fun y u S2 H2 m2 ok2 re2 f2 ru h2 => ?_
  obtain ⟨r, e, q⟩ := Run.opt_bind h2
  obtain ⟨d, e1, e⟩ := Option.bind_eq_some_iff.mp e
  obtain ⟨d2, e2, e⟩ := Option.bind_eq_some_iff.mp e
  obtain ⟨r', e3, rfl⟩ := Option.map_eq_some_iff.mp e
  exact ⟨m2, S2, d, d2, r', ok2, ok2.peek (rv.mono f2) e1, ok2.peek ru e2, e3, r', rfl, q H2 m2 ok2 .refl⟩
def cmp2R (o p : Cm) (ga gb gc : Ev → St' → R SV) : Ev → St' → R SV := fun ρ S => (ga ρ S).bind fun x S1 => (gb ρ S1).bind fun y S2 =>
      (R.opt ((peek S2 x).bind fun d => (peek S2 y).bind fun e => cmpD o d e) S2).bind fun k S3 =>
        if k then (gc ρ S3).bind fun z S4 => R.opt ((peek S4 y).bind fun e => (peek S4 z).bind fun f => (cmpD p e f).map fun b => .t (.bl b)) S4
        else .ok (.t (.bl false)) S3
theorem pd_cmp2 (o p : Cm) (hu : X.A.units + 65 < cLine) (ha : PE X a (tD X.K W ga)) (hb : PE X b (tD X.K W gb)) (hc : PE X c (tD X.K W gc))
    (hm : lastMarks [cmOf o, cmOf p] [b, c] = false) : PE X (.Compare a [cmOf o, cmOf p] [b, c] pos) (tD X.K W (cmp2R o p ga gb gc)) := by
  refine PE_imp (pe_chain (or_cmp o hu) (or_cmp p hu) ha hb hc hm) fun σ H Q ⟨m, S, ρ, ok, re, h⟩ => ?_
  refine tD_bind ok re h fun x v S1 H1 m1 ok1 re1 f1 rv h1 => ?_
  refine tD_bind ok1 re1 h1 fun y u S2 H2 m2 ok2 re2 f2 ru h2 => ?_
  obtain ⟨k, e, q⟩ := Run.opt_bind h2
  obtain ⟨d, e1, e⟩ := Option.bind_eq_some_iff.mp e
  obtain ⟨d2, e2, e⟩ := Option.bind_eq_some_iff.mp e
  refine ⟨m2, S2, d, d2, k, ok2, ok2.peek (rv.mono f2) e1, ok2.peek ru e2, e, k, rfl, ?_⟩
  cases k with
  | false => exact q H2 m2 ok2 .refl _ (.bl _)
  | true =>
    refine tD_bind ok2 re2 q fun z w S4 H4 m4 ok4 re4 f4 rw h4 => ?_
    obtain ⟨r, e, q⟩ := Run.opt h4 ok4
    obtain ⟨d3, e3, e⟩ := Option.bind_eq_some_iff.mp e
    obtain ⟨d4, e4, e⟩ := Option.bind_eq_some_iff.mp e
    obtain ⟨r', e5, rfl⟩ := Option.map_eq_some_iff.mp e
    exact ⟨m4, S4, d3, d4, r', ok4, ok4.peek (ru.mono f4) e3, ok4.peek rw e4, e5, q H4 ok4 .refl _ (.bl r')⟩
theorem pt_cmp2 (o p : Cm) (hu : X.A.units + 65 < cLine) (ha : PE X a (tD X.K W ga)) (hb : PE X b (tD X.K W gb)) (hc : PE X c (tD X.K W gc))
    (hm : lastMarks [cmOf o, cmOf p] [b, c] = false) : PT X (.Compare a [cmOf o, cmOf p] [b, c] pos) (tDT X.K W fun ρ S => tru (cmp2R o p ga gb gc ρ S)) := by
  refine PT_imp (pt_chain (or_cmp o hu) (or_cmp p hu) ha hb hc hm) fun σ H Q ⟨m, S, ρ, ok, re, h⟩ => ?_
  simp only [tru, cmp2R, R.bind_assoc] at h
  refine tD_bind ok re h fun x v S1 H1 m1 ok1 re1 f1 rv h1 => ?_
  refine tD_bind ok1 re1 h1 fun y u S2 H2 m2 ok2 re2 f2 ru h2 => ?_
  obtain ⟨k, e, q⟩ := Run.opt_bind h2
  obtain ⟨d, e1, e⟩ := Option.bind_eq_some_iff.mp e
  obtain ⟨d2, e2, e⟩ := Option.bind_eq_some_iff.mp e
  refine ⟨m2, S2, d, d2, k, ok2, ok2.peek (rv.mono f2) e1, ok2.peek ru e2, e, k, rfl, ?_⟩
  cases k with
  | false => exact ⟨_, rfl, q H2 m2 ok2 .refl⟩
  | true =>
    simp only [if_true, R.bind_assoc] at q
    refine tD_bind ok2 re2 q fun z w S4 H4 m4 ok4 re4 f4 rw h4 => ?_
    obtain ⟨r, e, q⟩ := Run.opt_bind h4
    obtain ⟨d3, e3, e⟩ := Option.bind_eq_some_iff.mp e
    obtain ⟨d4, e4, e⟩ := Option.bind_eq_some_iff.mp e
    obtain ⟨r', e5, rfl⟩ := Option.map_eq_some_iff.mp e
    exact ⟨m4, S4, d3, d4, r', ok4, ok4.peek (ru.mono f4) e3, ok4.peek rw e4, e5, _, rfl, q H4 m4 ok4 .refl⟩
/-- truth of a plain expression -/
theorem pt_D (ha : PE X a (tD X.K W ga)) (he : ∀ whole, isTrue a X.env whole = (do let v ← whole; standAt a.pos; holding [v] (truthy v))) : PT X a (tDT X.K W fun ρ S => tru (ga ρ S)) := by
  refine PT_imp (pt_truth ha he) fun σ H Q ⟨m, S, ρ, ok, re, h⟩ => ?_
  refine tD_bind ok re h fun x v S1 H1 m1 ok1 re1 f1 rv h1 => ?_
  obtain ⟨k, e, q⟩ := Run.opt h1 ok1
  obtain ⟨d, e1, e⟩ := Option.bind_eq_some_iff.mp e
  exact ⟨k, tru_v (ok1.peek rv e1) e, q H1 ok1 .refl⟩
theorem pd_ife {t : Ev → St' → R Bool} (hc : PT X c (tDT X.K W t)) (ha : PE X a (tD X.K W ga)) (hb : PE X b (tD X.K W gb)) : PE X (.IfExp c a b pos) (tD X.K W fun ρ S => (t ρ S).bind fun k S1 => if k then ga ρ S1 else gb ρ S1) := by
  refine PE_imp (pe_ifExp hc ha hb) fun σ H Q ⟨m, S, ρ, ok, re, h⟩ => ?_
  refine tDT_bind ok re h fun k S1 H1 m1 ok1 re1 f1 h1 => ?_
  cases k with
  | true => exact ⟨m1, S1, ρ, ok1, re1, h1⟩
  | false => exact ⟨m1, S1, ρ, ok1, re1, h1⟩
theorem pd_not {t : Ev → St' → R Bool} (ha : PE X a (tD X.K W ga)) : PE X (.UnaryOp .Not a pos) (tD X.K W fun ρ S => (tru (ga ρ S)).bind fun k S1 => .ok (.t (.bl (!k))) S1) := by
  refine PE_imp (pe_notT ha) fun σ H Q ⟨m, S, ρ, ok, re, h⟩ => ?_
  simp only [tru, R.bind_assoc] at h
  refine tD_bind ok re h fun x v S1 H1 m1 ok1 re1 f1 rv h1 => ?_
  obtain ⟨k, e, q⟩ := Run.opt_bind h1
  obtain ⟨d, e1, e⟩ := Option.bind_eq_some_iff.mp e
  exact ⟨k, tru_v (ok1.peek rv e1) e, q H1 m1 ok1 .refl _ (.bl _)⟩
theorem pt_notD {t : Ev → St' → R Bool} (ha : PT X a (tDT X.K W t)) : PT X (.UnaryOp .Not a pos) (tDT X.K W fun ρ S => (t ρ S).bind fun k S1 => .ok (!k) S1) := by
  refine PT_imp (pt_not ha) fun σ H Q ⟨m, S, ρ, ok, re, h⟩ => ?_
  exact tDT_bind ok re h fun k S1 H1 m1 ok1 re1 f1 h1 => h1 H1 m1 ok1 .refl
variable {rest : List Expr}
theorem pd_and (ha : PE X a (tD X.K W ga)) (hb : PE X (.BoolOp .And (b :: rest) pos) (tD X.K W gb)) : PE X (.BoolOp .And (a :: b :: rest) pos) (tD X.K W fun ρ S => (ga ρ S).bind fun x S1 => (R.opt ((peek S1 x).bind truD) S1).bind fun k S2 => if k then gb ρ S2 else .ok x S2) := by
  refine PE_imp (pe_andT ha hb) fun σ H Q ⟨m, S, ρ, ok, re, h⟩ => ?_
  refine tD_bind ok re h fun x v S1 H1 m1 ok1 re1 f1 rv h1 => ?_
  obtain ⟨k, e, q⟩ := Run.opt_bind h1
  obtain ⟨d, e1, e⟩ := Option.bind_eq_some_iff.mp e
  refine ⟨k, tru_v (ok1.peek rv e1) e, ?_⟩
  cases k with
  | true => exact ⟨m1, S1, ρ, ok1, re1, q⟩
  | false => exact q H1 m1 ok1 .refl v rv
theorem pd_or (ha : PE X a (tD X.K W ga)) (hb : PE X (.BoolOp .Or (b :: rest) pos) (tD X.K W gb)) : PE X (.BoolOp .Or (a :: b :: rest) pos) (tD X.K W fun ρ S => (ga ρ S).bind fun x S1 => (R.opt ((peek S1 x).bind truD) S1).bind fun k S2 => if k then .ok x S2 else gb ρ S2) := by
  refine PE_imp (pe_orT ha hb) fun σ H Q ⟨m, S, ρ, ok, re, h⟩ => ?_
  refine tD_bind ok re h fun x v S1 H1 m1 ok1 re1 f1 rv h1 => ?_
  obtain ⟨k, e, q⟩ := Run.opt_bind h1
  obtain ⟨d, e1, e⟩ := Option.bind_eq_some_iff.mp e
  refine ⟨k, tru_v (ok1.peek rv e1) e, ?_⟩
  cases k with
  | true => exact q H1 m1 ok1 .refl v rv
  | false => exact ⟨m1, S1, ρ, ok1, re1, q⟩
theorem pd_idx (hs : PlainIx b) (ha : PE X a (tD X.K W ga)) (hb : PE X b (tD X.K W gb)) : PE X (.Subscript a b pos) (tD X.K W fun ρ S => (ga ρ S).bind fun x S1 => (gb ρ S1).bind fun y S2 =>
      R.opt ((peek S2 x).bind fun d => (peek S2 y).bind fun e => (idxD d e).map .t) S2) := by
  refine PE_imp (pe_ix ix_D ha hb hs) fun σ H Q ⟨m, S, ρ, ok, re, h⟩ => ?_
  refine tD_bind ok re h fun x v S1 H1 m1 ok1 re1 f1 rv h1 => ?_
  refine tD_bind ok1 re1 h1 fun y u S2 H2 m2 ok2 re2 f2 ru h2 => ?_
  obtain ⟨r, e, q⟩ := Run.opt h2 ok2
  obtain ⟨d, e1, e⟩ := Option.bind_eq_some_iff.mp e
  obtain ⟨d2, e2, e⟩ := Option.bind_eq_some_iff.mp e
  obtain ⟨r', e3, rfl⟩ := Option.map_eq_some_iff.mp e
  exact ⟨m2, S2, d, d2, r', ok2, ok2.peek (rv.mono f2) e1, ok2.peek ru e2, e3, fun H' w ok' f' hw => q H' ok' f' w hw⟩
theorem po_D0 : PO X none (tDO X.K W fun _ S => .ok none S) := PO_imp po_none fun σ H Q ⟨m, S, ρ, ok, re, h⟩ => h H m ok .refl
theorem po_D (ha : PE X a (tD X.K W ga)) : PO X (some a) (tDO X.K W fun ρ S => (ga ρ S).bind fun v S1 => match v with
    | .t (.int i) => .ok (some i) S1
    | _ => .bad) := by
  refine PO_imp (po_some ha) fun σ H Q ⟨m, S, ρ, ok, re, h⟩ => ?_
  refine tD_bind ok re h fun x v S1 H1 m1 ok1 re1 f1 rv h1 => ?_
  cases x with
  | t d =>
    cases d with
    | int i => exact ⟨i, RepS.int rv, h1 H1 m1 ok1 .refl⟩
    | _ => exact h1.elim
  | _ => exact h1.elim
theorem pd_slc {lo hi : Option Expr} {gl gh : Ev → St' → R (Option Int)} {p2 : Pos} (ha : PE X a (tD X.K W ga)) (hl : PO X lo (tDO X.K W gl)) (hh : PO X hi (tDO X.K W gh)) : PE X (.Subscript a (.Slice lo hi none p2) pos) (tD X.K W fun ρ S => (ga ρ S).bind fun x S1 => (gl ρ S1).bind fun l S2 => (gh ρ S2).bind fun h S3 =>
      R.opt ((peek S3 x).bind fun d => (slcD d l h).map .t) S3) := by
  refine PE_imp (pe_slice sl_D ha hl hh) fun σ H Q ⟨m, S, ρ, ok, re, h⟩ => ?_
  refine tD_bind ok re h fun x v S1 H1 m1 ok1 re1 f1 rv h1 => ?_
  refine tDO_bind ok1 re1 h1 fun l S2 H2 m2 ok2 re2 f2 h2 => ?_
  refine tDO_bind ok2 re2 h2 fun u S3 H3 m3 ok3 re3 f3 h3 => ?_
  obtain ⟨r, e, q⟩ := Run.opt h3 ok3
  obtain ⟨d, e1, e⟩ := Option.bind_eq_some_iff.mp e
  obtain ⟨r', e3, rfl⟩ := Option.map_eq_some_iff.mp e
  exact ⟨m3, S3, d, r', ok3, ok3.peek ((rv.mono f2).mono f3) e1, e3, fun H' w ok' f' hw => q H' ok' f' w hw⟩
/-! ### arguments, displays -/
variable {es : List Expr} {gs : Ev → St' → R (List SV)}
theorem pa_D0 : PA X [] (tDA X.K W fun _ S => .ok [] S) := PA_imp pa_nil fun σ H Q ⟨m, S, ρ, ok, re, h⟩ => h H m ok .refl [] .nil
theorem pa_D (ha : PE X a (tD X.K W ga)) (hs : PA X es (tDA X.K W gs)) (hst : starEach (a :: es) X.env = (false, eval a X.env) :: starEach es X.env) : PA X (a :: es) (tDA X.K W fun ρ S => (ga ρ S).bind fun v S1 => (gs ρ S1).bind fun vs S2 => .ok (v :: vs) S2) := by
  refine PA_imp (pa_cons ha hs hst) fun σ H Q ⟨m, S, ρ, ok, re, h⟩ => ?_
  refine tD_bind ok re h fun x v S1 H1 m1 ok1 re1 f1 rv h1 => ?_
  exact tDA_bind ok1 re1 h1 fun xs vs S2 H2 m2 ok2 re2 f2 rvs h2 => h2 H2 m2 ok2 .refl _ (.cons (rv.mono f2) rvs)
theorem pd_tup {k : Nat} (hs : PA X es (tDA X.K W gs)) : PE X (.Tuple es k pos) (tD X.K W fun ρ S => (gs ρ S).bind fun vs S1 => match grabs S1 vs with
    | some (ds, S2) => if ds.length ≤ sizeLine then .ok (.t (.tup ds)) S2 else .bad
    | none => .bad) := by
  refine PE_imp (pe_tup hs) fun σ H Q ⟨m, S, ρ, ok, re, h⟩ => ?_
  refine tDA_bind ok re h fun xs vs S1 H1 m1 ok1 re1 f1 rvs h1 => ?_
  split at h1
  · rename_i ds S2 hg
    obtain ⟨ok2, f2, r2⟩ := ok1.grabs rvs hg
    split at h1
    · rename_i hz
      refine ⟨by rw [r2.length]; exact hz, fun p hp => ?_⟩
      exact h1 _ m1 (ok2.laid hp _).1 (f2.trans (ok2.laid hp _).2) _ (rep_tup_new ok2 hp r2)
    · exact h1.elim
  · exact h1.elim
theorem pd_lstL (hs : PA X es (tDA X.K W gs)) : PE X (.List es pos) (tDL X.K W fun ρ S => (gs ρ S).bind fun vs S1 => match grabs S1 vs with
    | some (ds, S2) => if ds.length ≤ sizeLine then .ok ds S2 else .bad
    | none => .bad) := by
  refine PE_imp (pe_lst hs) fun σ H Q ⟨m, S, ρ, ok, re, h⟩ => ?_
  refine ⟨m, S, ρ, ok, re, h.bind fun xs S1 H1 m1 ok1 f1 h1 vs rvs => ?_⟩
  split at h1
  · rename_i ds S2 hg
    obtain ⟨ok2, f2, r2⟩ := ok1.grabs rvs hg
    split at h1
    · rename_i hz
      refine ⟨by rw [r2.length]; exact hz, fun p hp => ?_⟩
      obtain ⟨ok3, f3⟩ := ok2.push hp r2
      exact h1 _ m1 p ok3 (f2.trans f3) (List.prefix_refl _)
    · exact h1.elim
  · exact h1.elim
/-- a new list as data -/
theorem pd_of_L {g : Ev → St' → R (List D)} (h : PE X a (tDL X.K W g)) : PE X a (tD X.K W fun ρ S => (g ρ S).bind fun xs S1 => .ok (.t (.lst xs)) S1) := by
  refine PE_imp h fun σ H Q ⟨m, S, ρ, ok, re, h⟩ => ⟨m, S, ρ, ok, re, ?_⟩
  dsimp only at h
  revert h
  cases g ρ S with
  | ok xs S' =>
    intro h H' m' p ok' f' hp
    exact h H' m' ok'.pop.1 (f'.pop ok' hp) _ ok'.pop.2.2
  | exc c p S' => exact id
  | bad => exact id
end
end M

/-! calls -/
namespace M
open PySem PySem.Spec PyProof.Rows L2

/-- how an exception stands: its class, its own dict -/
abbrev XR := Nat → List D → Value → Option Addr → Hp → List Addr → St' → Prop
def wOf (xr : XR) (Wx : WX) : WS := fun σ c p H m S => ∀ cls d, xr c p cls d H m S → Wx cls d σ H
/-- a call's end: as many objects as ahead -/
def RunC (K : PySem.W.Frag) (xr : XR) (Q : VK) (E : XK) (H : Hp) (m : List Addr) (S : St') : R SV → Prop
  | .ok d S' => ∀ H' v, StOk K H' m S' → Fr H m S H' m S' → RepS K H' m S' v d → Q v H'
  | .exc c p S' => ∀ H' cls d, StOk K H' m S' → Fr H m S H' m S' → xr c p cls d H' m S' → E cls d H'
  | .bad => False
/-- the promise of a def that comes to g -/
def spOf (K : PySem.W.Frag) (xr : XR) (n : Nat) (g : List SV → St' → R SV) : Sp := fun vs H Q E => vs.length = n ∧ ∃ m S ds, StOk K H m S ∧ RepSs K H m S vs ds ∧ RunC K xr Q E H m S (g ds S)

def noStar : Expr → Bool
  | .Starred _ _ => false
  | _ => true
theorem star_cons {env : Env} {e : Expr} {es : List Expr} (h : noStar e = true) : starEach (e :: es) env = (false, eval e env) :: starEach es env := by
  cases e <;> first
    | (exfalso; cases h; done)
    | (rw [starEach]; intro _ _ z; cases z)
theorem star_map (env : Env) : ∀ {es : List Expr}, es.all noStar = true → starEach es env = es.map fun e => (false, eval e env)
  | [], _ => by rw [starEach]; rfl
  | e :: es, h => by
    rw [List.all_cons, Bool.and_eq_true] at h
    rw [star_cons h.1, star_map env h.2]; rfl
theorem star_any {env : Env} {cpos : Pos} {es : List Expr} (h : es.all noStar = true) : (backTo cpos (starEach es env)).any (·.1) = false := by
  rw [star_map env h]
  simp [backTo, List.any_map]
theorem star_all {env : Env} {cpos : Pos} {es : List Expr} (h : es.all noStar = true) : (backTo cpos (starEach es env)).all (fun x => !x.1) = true := by
  rw [star_map env h]
  simp [backTo, List.all_map]
theorem few {env : Env} {cpos : Pos} {e : Expr} {es : List Expr} (h : (e :: es).all noStar = true) (hl : es.length < 20) : ((backTo cpos (starEach (e :: es) env)).all (fun x => !x.1) && (backToKw cpos (keywordEach [] env)).all (fun x => x.1.isSome)
      && decide ((e :: es).length + ([] : List Keyword).length + (if ([] : List Keyword).isEmpty then 0 else 1) < 30)) = true := by
  rw [star_all h, keywordEach]
  simp [backToKw]
  omega

section
variable {X : Cx} {W : WS} {a b c : Expr} {ga gb gc : Ev → St' → R SV} {pos p apos : Pos} {es : List Expr} {gs : Ev → St' → R (List SV)} {x : Str}
/-- a built-in by its name -/
theorem ce_bi (bi : Bi) (hc : X.calm = true) (hu : X.A.units + 70 < cLine) (hg : Gl X x) (hm : X.mg x = none) (hv : bootBuiltins x = some (bval bi)) (hn : x ≠ "__name__") (hdb : (x == ("__debug__" : Str)) = false)
    (ha : PA X (a :: es) (tDA X.K W gs)) (hst : (a :: es).all noStar = true) :
    PE X (.Call (.Name x p) (a :: es) [] pos) (tD X.K W fun ρ S => (gs ρ S).bind fun vs S1 => R.opt ((peeks S1 vs).bind fun ds => (biD bi ds).map .t) S1) := by
  have hst' := hst
  rw [List.all_cons, Bool.and_eq_true] at hst'
  have key : PE X (.Call (.Name x p) (a :: es) [] pos) (tCB (rBi X.K bi) (tDA X.K W gs)) := by
    cases bi <;> first
      | exact pe_callB (call_bi _ hc hu) hg hm hv ha hn hdb (star_cons hst'.1) (star_any hst'.2)
      | exact pe_callTy (call_bi _ hc hu) hg hm hv ha hn hdb (star_cons hst'.1) (star_any hst'.2)
  refine PE_imp key fun σ H Q ⟨m, S, ρ, ok, re, h⟩ => ?_
  refine tDA_bind ok re h fun xs vs S1 H1 m1 ok1 re1 f1 rvs h1 => ?_
  obtain ⟨r, e, q⟩ := Run.opt h1 ok1
  obtain ⟨ds, e1, e⟩ := Option.bind_eq_some_iff.mp e
  obtain ⟨r', e3, rfl⟩ := Option.map_eq_some_iff.mp e
  exact ⟨m1, S1, ds, r', ok1, ok1.peeks rvs e1, e3, fun H' w ok' f' hw => q H' ok' f' w hw⟩
/-- isinstance(a, T) -/
theorem ce_isi (t : Ty) {tx : Str} {p2 : Pos} (hg : Gl X "isinstance") (hm : X.mg "isinstance" = none) (hgt : Gl X tx) (hmt : X.mg tx = none) (hvt : bootBuiltins tx = some (.type (tyN t))) (hnt : tx ≠ "__name__") (hdt : (tx == ("__debug__" : Str)) = false)
    (ha : PE X a (tD X.K W ga)) (hst : noStar a = true) :
    PE X (.Call (.Name "isinstance" p) [a, .Name tx p2] [] pos) (tD X.K W fun ρ S => (ga ρ S).bind fun x S1 => R.opt ((peek S1 x).map fun d => .t (.bl (isiD d t))) S1) := by
  refine PE_imp (pe_callB (call_isD t) hg hm boot_isinstance (pa_cons ha (pa_cons (pe_bltn (v := .ty (tyN t)) hgt hmt hvt rfl hnt hdt) pa_nil (star_cons rfl)) (star_cons hst)) (by decide) (by decide) (star_cons hst) (star_any rfl)) fun σ H Q ⟨m, S, ρ, ok, re, h⟩ => ?_
  refine tD_bind ok re h fun x v S1 H1 m1 ok1 re1 f1 rv h1 => ?_
  obtain ⟨r, e, q⟩ := Run.opt h1 ok1
  obtain ⟨d, e1, rfl⟩ := Option.map_eq_some_iff.mp e
  exact ⟨m1, S1, v, d, rfl, ok1, ok1.peek rv e1, q H1 ok1 .refl _ (.bl _)⟩
/-- the types of a tuple of names -/
structure TysOk (X : Cx) (ts : List Ty) (es : List Expr) : Prop where
  run : PA X es (fun _ H Q => Q (ts.map fun t => V.ty (tyN t)) H)
  st : es.all noStar = true
theorem tys_nil : TysOk X [] [] := ⟨pa_nil, rfl⟩
theorem tys_cons {t : Ty} {ts : List Ty} {es : List Expr} {tx : Str} {p2 : Pos} (hgt : Gl X tx) (hmt : X.mg tx = none) (hvt : bootBuiltins tx = some (.type (tyN t))) (hnt : tx ≠ "__name__") (hdt : (tx == ("__debug__" : Str)) = false) (h : TysOk X ts es) : TysOk X (t :: ts) (.Name tx p2 :: es) :=
  ⟨PA_imp (pa_cons (pe_bltn (v := .ty (tyN t)) hgt hmt hvt rfl hnt hdt) h.run (star_cons rfl)) fun σ H Q h => h, by rw [List.all_cons, h.st]; rfl⟩
theorem ce_isit (ts : List Ty) {tes : List Expr} {k : Nat} {p2 : Pos} (hg : Gl X "isinstance") (hm : X.mg "isinstance" = none) (ht : TysOk X ts tes) (hl : ts.length ≤ 20)
    (ha : PE X a (tD X.K W ga)) (hst : noStar a = true) :
    PE X (.Call (.Name "isinstance" p) [a, .Tuple tes k p2] [] pos) (tD X.K W fun ρ S => (ga ρ S).bind fun x S1 => R.opt ((peek S1 x).map fun d => .t (.bl (ts.any fun t => isiD d t))) S1) := by
  refine PE_imp (pe_callB (call_isDs ts) hg hm boot_isinstance (pa_cons ha (pa_cons (pe_tup ht.run) pa_nil (star_cons rfl)) (star_cons hst)) (by decide) (by decide) (star_cons hst) (star_any rfl)) fun σ H Q ⟨m, S, ρ, ok, re, h⟩ => ?_
  refine tD_bind ok re h fun x v S1 H1 m1 ok1 re1 f1 rv h1 => ?_
  obtain ⟨r, e, q⟩ := Run.opt h1 ok1
  obtain ⟨d, e1, rfl⟩ := Option.map_eq_some_iff.mp e
  refine ⟨by rw [List.length_map]; exact Nat.le_trans hl (by decide), fun tp htp => ?_⟩
  have l := ok1.laid htp (.tup (ts.map fun t => V.ty (tyN t)))
  refine ⟨m1, S1, v, d, tp, rfl, upd_same, l.1, ?_, q _ l.1 l.2 _ (.bl _)⟩
  exact l.1.peek (rv.mono l.2) e1
/-- a method of a built-in type -/
theorem ce_mth (k : Mt) {name : Str} (hu : X.A.units + 65 < cLine) (pa : PlainAttrs (mty k)) (slot : Slot (mty k) name (mid k)) (hty : typeOf (.builtin (mid k)) = pure (.type "method_descriptor"))
    (ho : PE X a (tD X.K W ga)) (ha : PA X (b :: es) (tDA X.K W gs)) (hst : (b :: es).all noStar = true) (hl : es.length < 20)
    (hbase : attributeBase a name X.env (eval a X.env) = eval a X.env) (hline : (apos.endLine == pos.line) = true) :
    PE X (.Call (.Attribute a name apos) (b :: es) [] pos) (tD X.K W fun ρ S => (ga ρ S).bind fun x S1 => if ((peek S1 x).map (mtOk k)).getD false = false then .bad else (gs ρ S1).bind fun vs S2 =>
      R.opt ((peek S2 x).bind fun d => (peeks S2 vs).bind fun ds => (mthD k d ds).map .t) S2) := by
  have hst' := hst
  rw [List.all_cons, Bool.and_eq_true] at hst'
  refine PE_imp (pe_bm pa slot hty (mt_D k hu) ho ha hbase (few hst hl) hline (star_cons hst'.1) (star_any hst'.2)) fun σ H Q ⟨m, S, ρ, ok, re, h⟩ => ?_
  refine tD_bind ok re h fun x v S1 H1 m1 ok1 re1 f1 rv h1 => ?_
  split at h1
  · exact h1.elim
  · rename_i hk
    have hk : ((peek S1 x).map (mtOk k)).getD false = true := by simpa using hk
    cases e0 : peek S1 x with
    | none => rw [e0] at hk; cases hk
    | some d0 =>
    rw [e0] at hk
    refine ⟨ty_mt (ok1.peek rv e0) hk, ?_⟩
    refine tDA_bind ok1 re1 h1 fun xs vs S2 H2 m2 ok2 re2 f2 rvs h2 => ?_
    obtain ⟨r, e, q⟩ := Run.opt h2 ok2
    obtain ⟨d, e1, e⟩ := Option.bind_eq_some_iff.mp e
    obtain ⟨ds, e2, e⟩ := Option.bind_eq_some_iff.mp e
    obtain ⟨r', e3, rfl⟩ := Option.map_eq_some_iff.mp e
    exact ⟨m2, S2, d, ds, r', ok2, ok2.peek (rv.mono f2) e1, ok2.peeks rvs e2, e3, fun H' w ok' f' hw => q H' ok' f' w hw⟩
theorem attr_plain {env : Env} {o : Expr} {f : Str} (h : (match o with | .Call (.Name _ _) [] [] _ => false | _ => true) = true) : attributeBase o f env (eval o env) = eval o env := by
  unfold attributeBase
  split
  · exact absurd h (by simp)
  · rfl
/-- a def of the module -/
theorem ce_call {xr : XR} {Wx : WX} (tk : Takes X Wx) {k : Nat} {f : Addr} {fd : FuncData} {ps : List Str} {g : List SV → St' → R SV} (F : FnOk X.prog X.w X.K X.mg X.base (L2.CX X.prog X.w) k f fd ps (spOf X.K xr ps.length g)) (hl : ∀ ds S, g ds S ≠ .bad → ds.length = ps.length)
    (hr : Room k X.A) (hg : Gl X x) (hm : X.mg x = some (.ref f)) (hk : PySem.W.keepIn X.K (.ref f) = true) (hb : Binds X.K fd ps []) (hdb : (x == ("__debug__" : Str)) = false)
    (ha : PA X (a :: es) (tDA X.K (wOf xr Wx) gs)) (hst : (a :: es).all noStar = true) :
    PE X (.Call (.Name x p) (a :: es) [] pos) (tD X.K (wOf xr Wx) fun ρ S => (gs ρ S).bind fun vs S1 => g vs S1) := by
  have hst' := hst
  rw [List.all_cons, Bool.and_eq_true] at hst'
  refine PE_imp (pe_callS F hr hg hm hk hb (fun σ => passAt tk σ) ha hdb (star_cons hst'.1) (star_any hst'.2)) fun σ H Q ⟨m, S, ρ, ok, re, h⟩ => ?_
  refine tDA_bind ok re h fun xs vs S1 H1 m1 ok1 re1 f1 rvs h1 => ?_
  refine ⟨?_, m1, S1, xs, ok1, rvs, ?_⟩
  · rw [rvs.length]
    refine hl xs S1 fun z => ?_
    rw [z] at h1; exact h1
  · revert h1
    cases g xs S1 with
    | ok d S' => exact fun h1 H' v ok' f' rv => h1 H' m1 ok' f' v rv
    | exc c p S' => exact fun h1 H' cls d ok' f' hx => h1 H' m1 ok' f' cls d hx
    | bad => exact fun h1 => h1
end
end M

/-! len(set(xs)), sorted(set(xs)) of texts -/
namespace M
open PySem PySem.Spec PyProof.Rows L2
theorem dset_snoc {α : Type} [DecidableEq α] (xs : List α) (x : α) : dset (xs ++ [x]) = if x ∈ dset xs then dset xs else dset xs ++ [x] := by
  unfold dset; rw [List.foldl_append]; rfl
theorem dset_mem {α : Type} [DecidableEq α] (x : α) (xs : List α) : x ∈ dset xs ↔ x ∈ xs := by
  suffices h : ∀ (n : Nat) (xs : List α), xs.length = n → (x ∈ dset xs ↔ x ∈ xs) from h _ xs rfl
  intro n
  induction n with
  | zero => intro xs hl; cases xs with
    | nil => simp [dset]
    | cons => simp at hl
  | succ n ih =>
    intro xs hl
    obtain ⟨ys, y, rfl⟩ : ∃ ys y, xs = ys ++ [y] := ⟨xs.dropLast, xs.getLast (by intro e; rw [e] at hl; simp at hl), (List.dropLast_concat_getLast _).symm⟩
    have := ih ys (by simpa using hl)
    rw [dset_snoc]
    split
    · rename_i hy
      rw [this, List.mem_append, List.mem_singleton]
      constructor
      · exact .inl
      · rintro (h | rfl)
        · exact h
        · exact this.mp hy
    · rw [List.mem_append, this, List.mem_append]
theorem dset_len {α : Type} [DecidableEq α] (xs : List α) (x : α) : (dset (xs ++ [x])).length = if x ∈ xs then (dset xs).length else (dset xs).length + 1 := by
  rw [dset_snoc]
  by_cases h : x ∈ xs
  · rw [if_pos ((dset_mem x xs).mpr h), if_pos h]
  · rw [if_neg fun z => h ((dset_mem x xs).mp z), if_neg h, List.length_append]; rfl
theorem dset_le {α : Type} [DecidableEq α] : ∀ (n : Nat) (xs : List α), xs.length = n → (dset xs).length ≤ n := by
  intro n
  induction n with
  | zero => intro xs hl; cases xs with
    | nil => simp [dset]
    | cons => simp at hl
  | succ n ih =>
    intro xs hl
    obtain ⟨ys, y, rfl⟩ : ∃ ys y, xs = ys ++ [y] := ⟨xs.dropLast, xs.getLast (by intro e; rw [e] at hl; simp at hl), (List.dropLast_concat_getLast _).symm⟩
    have := ih ys (by simpa using hl)
    rw [dset_len]
    split <;> omega
theorem dset_nodup {α : Type} [DecidableEq α] (xs : List α) : (dset xs).Nodup := by
  suffices h : ∀ (n : Nat) (xs : List α), xs.length = n → (dset xs).Nodup from h _ xs rfl
  intro n
  induction n with
  | zero => intro xs hl; cases xs with
    | nil => simp [dset]
    | cons => simp at hl
  | succ n ih =>
    intro xs hl
    obtain ⟨ys, y, rfl⟩ : ∃ ys y, xs = ys ++ [y] := ⟨xs.dropLast, xs.getLast (by intro e; rw [e] at hl; simp at hl), (List.dropLast_concat_getLast _).symm⟩
    have := ih ys (by simpa using hl)
    rw [dset_snoc]
    split
    · exact this
    · rename_i hy
      rw [List.nodup_append]
      exact ⟨this, by simp, fun a ha b hb => by rw [List.mem_singleton.mp hb]; exact fun e => hy (e ▸ ha)⟩
theorem grow_mem (x : Str) : ∀ (xs l : List Str), x ∈ xs.foldl grow l ↔ x ∈ l ∨ x ∈ xs
  | [], l => by simp
  | y :: xs, l => by
    rw [List.foldl_cons, grow_mem x xs, List.mem_cons]
    unfold grow
    split
    · rename_i hy
      exact ⟨fun z => z.elim .inl fun z => .inr (.inr z), fun z => z.elim .inl fun z => z.elim (fun e => .inl (e ▸ hy)) .inr⟩
    · rw [List.mem_cons]
      exact ⟨fun z => z.elim (fun z => z.elim (fun e => .inr (.inl e)) .inl) fun z => .inr (.inr z), fun z => z.elim (fun z => .inl (.inr z)) fun z => z.elim (fun e => .inl (.inl e)) .inr⟩
theorem grow_perm {xs : List Str} (h : (xs.foldl grow []).Nodup) : (xs.foldl grow []).Perm (dset xs) :=
  (List.perm_ext_iff_of_nodup h (dset_nodup xs)).mpr fun k => by rw [dset_mem, grow_mem]; simp
theorem asStrs_vs {K : PySem.W.Frag} {H : Hp} {N : Addr → Prop} : ∀ {xs : List D} {ks : List Str} {vs : List V}, asStrs xs = some ks → Reps K H N vs xs → vs = ks.map V.str
  | [], _, _, e, .nil => by cases e; rfl
  | .str i :: r, ks, _, e, .cons q t => by
    obtain ⟨ks', e1, rfl⟩ := Option.map_eq_some_iff.mp e
    cases q
    rw [asStrs_vs e1 t]; rfl
  | .int _ :: _, _, _, e, _ => by cases e
  | .non :: _, _, _, e, _ => by cases e
  | .bl _ :: _, _, _, e, _ => by cases e
  | .tup _ :: _, _, _, e, _ => by cases e
  | .lst _ :: _, _, _, e, _ => by cases e
/-- outer(set(a)) -/
theorem pd_setof {X : Cx} {W : WS} {a : Expr} {ga : Ev → St' → R SV} {p p2 q pos : Pos} {nm : Str} {fn : String} {g : D → Option D} {F : List Str → D} (hn1 : nm ≠ "__name__") (hn2 : (nm == ("__debug__" : Str)) = false) (hc : X.calm = true) (hg : Gl X nm) (hm : X.mg nm = none) (hb : bootBuiltins nm = some (.builtin fn)) (hg2 : Gl X "set") (hm2 : X.mg "set" = none) (hst : noStar a = true) (ha : PE X a (tD X.K W ga))
    (hgd : ∀ d, g d = (sqOf d).bind fun xs => (asStrs xs).bind fun ks => if ks.length + 1 < scanBound then some (F ks) else none)
    (hout : ∀ pins s σ H (Q : VK) m S b ks, Inv X pins σ H s → StOk X.K H m S → TxS X.prog X.w s.heap b (ks.foldl grow []) → ks.length + 1 < scanBound → Fol X.K H m S (F ks) Q → wpAny (model X.prog X.w) X.A (call (.builtin fn) [.ref b]) (EP X pins σ Q) X.xe s) :
    PE X (.Call (.Name nm p) [.Call (.Name "set" p2) [a] [] q] [] pos) (tD X.K W fun ρ S => (ga ρ S).bind fun x S1 => R.opt (((peek S1 x).bind g).map .t) S1) := by
  refine ⟨fun pins s σ H Q I hw => ?_⟩
  refine Call_ (ld_blt (hn := hn1) (hd := hn2) I hg hm hb (PyProof.Rows.callWith_builtin1 (PyProof.Rows.args_cons ?_ rfl) rfl rfl))
  have na : starEach [a] X.env = (false, eval a X.env) :: starEach [] X.env := star_cons hst
  obtain ⟨m, S, ρ, ok, re, h⟩ := hw
  refine Call_ (ld_blt I hg2 hm2 boot_set (PyProof.Rows.callWith_type1 (PyProof.Rows.args_cons (thn (ha.run pins s σ H (fun x H1 => ∃ (l : Addr) (ks : List Str) (m1 : List Addr) (S1 : St'), x = .ref l ∧ (SqL X.K H1 l (ks.map V.str) ∨ SqT X.K H1 l (ks.map V.str)) ∧ ks.length + 1 < scanBound ∧ StOk X.K H1 m1 S1 ∧ Fol X.K H1 m1 S1 (F ks) Q) I ?_) fun v s1 ⟨x, H1, I1, r1, q1⟩ => PyProof.Rows.args_nil ?_) na) na rfl))
  · refine tD_bind ok re h fun x v S1 H1 m1 ok1 re1 f1 rv h1 => ?_
    obtain ⟨r, e, qq⟩ := Run.opt h1 ok1
    obtain ⟨r', e4, rfl⟩ := Option.map_eq_some_iff.mp e
    obtain ⟨d, e1, e5⟩ := Option.bind_eq_some_iff.mp e4
    rw [hgd] at e5
    obtain ⟨xs, e2, e6⟩ := Option.bind_eq_some_iff.mp e5
    obtain ⟨ks, e3, e7⟩ := Option.bind_eq_some_iff.mp e6
    split at e7
    · rename_i hb
      cases e7
      have pr := ok1.peek rv e1
      cases d <;> first | (cases e2; done) | skip
      · cases e2
        obtain ⟨l, vs, rfl, g1, g2⟩ := pr.tup
        cases asStrs_vs e3 g2
        exact ⟨l, ks, m1, S1, rfl, .inr g1, hb, ok1, fun H' v o f hv => qq H' o f v hv⟩
      · cases e2
        obtain ⟨l, vs, rfl, g1, g2⟩ := pr.lst
        cases asStrs_vs e3 g2
        exact ⟨l, ks, m1, S1, rfl, .inl (.inl g1), hb, ok1, fun H' v o f hv => qq H' o f v hv⟩
    · cases e7
  · obtain ⟨l, ks, m1, S1, rfl, hq, hb, ok1, q1⟩ := q1
    cases r1
    have fin : ∀ (h' : Heap) (tk : Nat), TxS X.prog X.w h' s1.heap.objs.size (ks.foldl grow []) → (∀ b o, s1.heap.get? b = some o → h'.get? b = some o) →
        wpAny (model X.prog X.w) X.A (spliced (backTo pos (starEach [] X.env))) (fun vs s₂ => wpAny (model X.prog X.w) X.A (call (.builtin fn) (Value.ref s1.heap.objs.size :: vs)) (EP X pins σ Q) X.xe s₂) X.xe { s1 with heap := h', toks := tk } := fun h' tk hS hk => by
      refine PyProof.Rows.args_nil ?_
      have I2 : Inv X pins σ H1 { s1 with heap := h', toks := tk } := I1.kept hk
      exact hout pins _ σ H1 Q m1 S1 _ ks I2 ok1 hS hb q1
    rcases hq with hq | hq
    · obtain ⟨its, r, pl, hz⟩ := I1.list hq
      exact mkset_list (I1.ok.hd hc) pl.isList (by simpa using r) hb fin
    · obtain ⟨its, r, pl, hz⟩ := I1.tuple hq
      exact mkset_tuple (I1.ok.hd hc) pl (by simpa using r) hb fin
theorem pd_lenset {X : Cx} {W : WS} {a : Expr} {ga : Ev → St' → R SV} {p p2 q pos : Pos} (hc : X.calm = true) (hg : Gl X "len") (hm : X.mg "len" = none) (hg2 : Gl X "set") (hm2 : X.mg "set" = none) (hst : noStar a = true) (ha : PE X a (tD X.K W ga)) :
    PE X (.Call (.Name "len" p) [.Call (.Name "set" p2) [a] [] q] [] pos) (tD X.K W fun ρ S => (ga ρ S).bind fun x S1 => R.opt (((peek S1 x).bind lensetD).map .t) S1) := by
  refine pd_setof (F := fun ks => .int ((dset ks).length : Nat)) (by decide) (by decide) hc hg hm boot_len hg2 hm2 hst ha (fun d => rfl) fun pins s σ H Q m S b ks I ok hS hb q => ?_
  obtain ⟨⟨D, at_, tx, -⟩, nd⟩ := hS
  have hn : D.1.size = (dset ks).length := tx.sz.trans (grow_perm nd).length_eq
  refine call_len_set at_ ⟨rfl, rfl, rfl⟩ rfl tx.fit ?_ ⟨.int ((dset ks).length : Nat), H, I.tok _, ⟨_, by rw [hn]⟩, q.here ok (.int _)⟩
  have := dset_le _ ks rfl
  unfold scanBound at hb
  omega
theorem dle_trans (a b c : D) (h1 : dle a b = true) (h2 : dle b c = true) : dle a c = true := by
  unfold dle dlt PySem.W.dataLt at *
  simp only [Bool.not_eq_true'] at *
  cases e : PyProof.Rows.lexLt itemOrd (PySem.W.keyToks (toPy c)) (PySem.W.keyToks (toPy a)) with
  | false => rfl
  | true =>
    rcases PyProof.Rows.lex_negTrans (O := itemOrd) _ (PySem.W.keyToks (toPy b)) _ e with z | z
    · rw [h2] at z; cases z
    · rw [h1] at z; cases z
theorem dle_total (a b : D) : (dle a b || dle b a) = true := by
  unfold dle dlt PySem.W.dataLt
  cases e : PyProof.Rows.lexLt itemOrd (PySem.W.keyToks (toPy b)) (PySem.W.keyToks (toPy a)) with
  | false => rfl
  | true =>
    cases e2 : PyProof.Rows.lexLt itemOrd (PySem.W.keyToks (toPy a)) (PySem.W.keyToks (toPy b)) with
    | false => rfl
    | true =>
      have := PyProof.Rows.lex_trans (O := itemOrd) _ _ _ e e2
      rw [PyProof.Rows.lex_irrefl] at this; cases this
theorem dle_toks (a b : D) (h1 : dle a b = true) (h2 : dle b a = true) : PySem.W.keyToks (toPy a) = PySem.W.keyToks (toPy b) := by
  unfold dle dlt PySem.W.dataLt at h1 h2
  simp only [Bool.not_eq_true'] at h1 h2
  exact PyProof.Rows.lex_total (O := itemOrd) _ _ h2 h1
theorem str_toks {a b : Str} (h : PySem.W.keyToks (toPy (.str a)) = PySem.W.keyToks (toPy (.str b))) : a = b := by
  simp [toPy, PySem.W.keyToks] at h
  exact PySem.W.str_of_cps (Array.toList_inj.mpr h)
theorem sort_strs {ys zs : List Str} (p : ys.Perm zs) : (ys.map D.str).mergeSort dle = (zs.map D.str).mergeSort dle := by
  have pp : ((ys.map D.str).mergeSort dle).Perm ((zs.map D.str).mergeSort dle) := (List.mergeSort_perm _ _).trans ((p.map D.str).trans (List.mergeSort_perm _ _).symm)
  refine List.Perm.eq_of_pairwise (le := fun a b => dle a b = true) (fun a b ha hb h1 h2 => ?_) (List.pairwise_mergeSort dle_trans dle_total _) (List.pairwise_mergeSort dle_trans dle_total _) pp
  obtain ⟨x, -, rfl⟩ := List.mem_map.mp (List.mem_mergeSort.mp ha)
  obtain ⟨y, -, rfl⟩ := List.mem_map.mp (List.mem_mergeSort.mp hb)
  rw [str_toks (dle_toks _ _ h1 h2)]
theorem eachOf {β : Type} {R : Value → β → Prop} {f : Value → β} : ∀ {vs : List Value}, (∀ v ∈ vs, R v (f v)) → PySem.W.EachIs R vs (vs.map f)
  | [], _ => .nil
  | v :: vs, h => .cons (h v List.mem_cons_self) (eachOf fun u hu => h u (List.mem_cons_of_mem _ hu))
theorem invMoved {X : Cx} {pins : List (Addr × Obj)} {σ : List (Option V)} {H : Hp} {s s1 : Shared} (I : Inv X pins σ H s) (k : ∀ b o, s.heap.get? b = some o → s1.heap.get? b = some o) (g : s1.gens = s.gens) (o : s1.os = s.os) : Inv X pins σ H s1 := by
  have I1 : Inv X pins σ H { s with heap := s1.heap, toks := s1.toks } := I.kept k
  exact ⟨I1.ok, o.trans I1.os, by rw [g]; exact I1.bare, I1.base, I1.loc, I1.cell, I1.free, I1.freeC, I1.pin, I1.hok, I1.len⟩
theorem cover_perm {α : Type} [DecidableEq α] : ∀ {l ts : List α}, l.Nodup → (∀ x ∈ l, x ∈ ts) → ts.length ≤ l.length → l.Perm ts
  | [], ts, _, _, h => by rw [List.length_eq_zero_iff.mp (Nat.le_zero.mp h)]
  | x :: l, ts, nd, sub, h => by
    obtain ⟨n1, n2⟩ := List.nodup_cons.mp nd
    have hx := sub x List.mem_cons_self
    have := cover_perm (l := l) (ts := ts.erase x) n2 (fun y hy => (List.mem_erase_of_ne (fun (e : y = x) => n1 (e ▸ hy))).mpr (sub y (List.mem_cons_of_mem _ hy))) (by rw [List.length_erase_of_mem hx]; simp at h; omega)
    exact (this.cons x).trans (List.perm_cons_erase hx).symm
/-- the text that a value is -/
def txV : Value → Str
  | .str x _ => x
  | _ => ""
theorem txs_vals {P : Program} {w : World} {D : Froz.SD} {l : List Str} (tx : Froz.TxOk P w D l) (nd : l.Nodup) {vs : List Value} (pm : vs.Perm (D.1.toList.map (·.2))) : (∀ v ∈ vs, ∃ t, v = .str (txV v) t) ∧ (vs.map txV).Perm l := by
  have sh : ∀ e ∈ D.1.toList, ∃ t, e.2 = .str (txV e.2) t := fun e he => by
    obtain ⟨⟨k, hk, -⟩, -⟩ := tx.el e he
    obtain ⟨t, ht⟩ := Value.isStrOf_shape (x := k) (v := e.2) hk
    exact ⟨t, by rw [ht]; rfl⟩
  have all : ∀ v ∈ vs, ∃ t, v = .str (txV v) t := fun v hv => by
    obtain ⟨e, he, rfl⟩ := List.mem_map.mp (pm.mem_iff.mp hv)
    exact sh e he
  refine ⟨all, ?_⟩
  have sub : ∀ k ∈ l, k ∈ vs.map txV := fun k hk => by
    obtain ⟨e, he, hk'⟩ := (tx.mem k).mp hk
    obtain ⟨t, ht⟩ := Value.isStrOf_shape (x := k) (v := e.2) hk'
    exact List.mem_map.mpr ⟨e.2, pm.mem_iff.mpr (List.mem_map.mpr ⟨e, he, rfl⟩), by rw [ht]; rfl⟩
  have len : (vs.map txV).length = l.length := by rw [List.length_map, pm.length_eq, List.length_map, Array.length_toList]; exact tx.sz
  exact (cover_perm nd sub (Nat.le_of_eq len)).symm
theorem pd_sortset {X : Cx} {W : WS} {a : Expr} {ga : Ev → St' → R SV} {p p2 q pos : Pos} (hu : X.A.units + 70 < cLine) (hc : X.calm = true) (hg : Gl X "sorted") (hm : X.mg "sorted" = none) (hg2 : Gl X "set") (hm2 : X.mg "set" = none) (hst : noStar a = true) (ha : PE X a (tD X.K W ga)) :
    PE X (.Call (.Name "sorted" p) [.Call (.Name "set" p2) [a] [] q] [] pos) (tD X.K W fun ρ S => (ga ρ S).bind fun x S1 => R.opt (((peek S1 x).bind sortsetD).map .t) S1) := by
  refine pd_setof (F := fun ks => .lst (((dset ks).map D.str).mergeSort dle)) (by decide) (by decide) hc hg hm PyProof.Rows.boot_sorted hg2 hm2 hst ha (fun d => rfl) fun pins s σ H Q m S b ks I ok hS hb q => ?_
  obtain ⟨⟨Dp, at_, tx, wk⟩, nd⟩ := hS
  have dl := dset_le _ ks rfl
  have small : Dp.1.size < scanBound := by rw [tx.sz, (grow_perm nd).length_eq]; omega
  refine Calls.call_function_entry PyProof.Rows.kind_sorted PyProof.Rows.plain_sorted PyProof.Rows.entry_sorted (PyProof.Rows.args_sorted1 _) ?_
  unfold Builtin.«sorted»
  refine wpAny_bind (wpAny_pure ?_)
  refine wpAny_bind (collect_set (A := X.A.in1) (es := Dp.1) (ep := Dp.2.1) (t := Dp.2.2) (I.ok.hd hc) ⟨_, at_, rfl, rfl⟩ tx.fit small wk.1 wk.2 fun s1 vs k1 hz g1 o1 pm => ?_)
  have I1 : Inv X pins σ H s1 := invMoved I k1 g1 o1
  obtain ⟨tv, pv⟩ := txs_vals tx nd pm
  have pd := pv.trans (grow_perm nd)
  have vl : vs.length ≤ sizeLine := by
    have := pd.length_eq
    rw [List.length_map] at this
    have e : scanBound = 4096 := by decide +kernel
    have e2 : sizeLine = 16777216 := by decide +kernel
    omega
  obtain ⟨f, hf⟩ : ∃ f : Value → V × D, f = fun v => (V.str (txV v), D.str (txV v)) := ⟨_, rfl⟩
  refine wpAny_bind (wpAny_newList ?_ vl)
  have hoL : (s1.heap.push (seqObj "list" vs.toArray 0)).get? s1.heap.objs.size = some (seqObj "list" vs.toArray 0) := Heap.get?_push_size _ rfl
  have e1 : PySem.W.EachIs (fun (u : Value) (b : V × D) => RelV b.1 u) vs (vs.map f) := eachOf fun v h => by
    obtain ⟨t, e⟩ := tv v h
    rw [hf]; exact ⟨t, e⟩
  have er : PySem.W.EachIs (fun (u : Value) (b : V × D) => ∃ as, Reads (s1.heap.push (seqObj "list" vs.toArray 0)) u (toPy b.2) as ∧ s1.heap.objs.size ∉ as) vs (vs.map f) := eachOf fun v h => by
    obtain ⟨t, e⟩ := tv v h
    rw [hf, e]; exact ⟨[], .str _ _, by simp⟩
  have shape : ∀ d ∈ (vs.map f).map fun b => toPy b.2, ∃ x, d = .str x := fun d hd => by
    obtain ⟨b, hb, rfl⟩ := List.mem_map.mp hd
    obtain ⟨v, -, rfl⟩ := List.mem_map.mp hb
    rw [hf]; exact ⟨_, rfl⟩
  have hal : PySem.W.AllAlike ((vs.map f).map fun b => toPy b.2) := fun d hd d' hd' => by
    obtain ⟨x, rfl⟩ := shape d hd
    obtain ⟨y, rfl⟩ := shape d' hd'
    simp [PySem.W.alike]
  have hk : PySem.W.Sortable ((vs.map f).map fun b => toPy b.2) := .inr fun d hd => by
    obtain ⟨x, rfl⟩ := shape d hd
    exact ⟨nofun, nofun⟩
  refine wpAny_bind (wpAny_holding (PySem.W.list_sort_data (s := { s1 with heap := s1.heap.push (seqObj "list" vs.toArray 0) }) (A := X.A.in1) hoL e1 er hal hk (by rw [List.length_map]; exact vl) (fun b hb => ?_) fun out hol eo => ?_))
  · obtain ⟨x, ex⟩ := shape (toPy b.2) (List.mem_map.mpr ⟨b, hb, rfl⟩)
    rw [ex]
    have h2 : X.A.in1.units ≤ X.A.units + 1 := by simp [Around.in1]
    have h3 : (PyData.str x).depth = 0 := by simp [PyData.depth]
    omega
  obtain ⟨c, he'⟩ := PyProof.Rows.sortedHeap_at (vs := vs) (out := out.toArray) hoL
  have hsort : ((vs.map f).mergeSort (PySem.W.dataLe false fun b => toPy b.2)).map (·.2) = ((dset ks).map D.str).mergeSort dle := by
    rw [PySem.W.sort_maps (r := PySem.W.dataLe false fun b : V × D => toPy b.2) (s := dle) (fun b : V × D => b.2) (fun a _ b _ => by rw [PySem.W.dataLe_eq]; rfl), List.map_map, ← sort_strs pd, List.map_map, hf]
    rfl
  have hreps : Reps X.K H (Own m S) (((vs.map f).mergeSort (PySem.W.dataLe false fun b => toPy b.2)).map (·.1)) (((dset ks).map D.str).mergeSort dle) := by
    rw [← hsort]
    refine reps_of_zip fun b hb => ?_
    obtain ⟨v, -, rfl⟩ := List.mem_map.mp (List.mem_mergeSort.mp hb)
    rw [hf]; exact .str _
  have hsz : (((vs.map f).mergeSort (PySem.W.dataLe false fun b => toPy b.2)).map (·.1)).length ≤ sizeLine := by rw [List.length_map, List.length_mergeSort, List.length_map]; exact vl
  refine wpAny_pure ⟨_, rfl, .ref _, upd H s1.heap.objs.size (.lst _), I1.laid (t' := s1.toks) (fun b u e => ?_) (Nat.le_refl _) ⟨hsz, out, c, valsEach eo, he'⟩, rfl, q.lst ok hreps _ (I1.hok.fresh (Nat.le_refl _))⟩
  have hlt := Heap.lt_size e
  rw [PyProof.Rows.sortedHeap_old (Nat.ne_of_lt hlt) (by rw [size_push']; exact Nat.lt_succ_of_lt hlt)]
  exact Heap.get?_push_of_some _ e
end M

/-! sorted(set(xs)) of whole numbers, a list or a tuple -/
namespace M
open PySem PySem.Spec PyProof.Rows L2 PySem.Froz
def growI (l : List Int) (k : Int) : List Int := if k ∈ l then l else k :: l
/-- at a stands a set of just these numbers, each once -/
structure SetI (w : World) (h : Heap) (a : Addr) (l : List Int) : Prop where
  here : SetR w h a (fun j => decide (j ∈ l)) l.length
  each : l.Nodup
section
variable {P : Program} {w : World} {A : Around} {E : Value → Shared → Prop} {s : Shared} {a : Addr} {l : List Int}
theorem SetI.keep {h h' : Heap} (T : SetI w h a l) (k : ∀ o, h.get? a = some o → h'.get? a = some o) : SetI w h' a l := ⟨T.here.at k, T.each⟩
theorem add_num {k : Int} {u : Tok} {Q : Bool → Shared → Prop} (T : SetI w s.heap a l) (hb : l.length + 1 < scanBound) (q : ∀ b h', Heap.SameBut a s.heap h' → SetI w h' a (growI l k) → Q b { s with heap := h' }) :
    wpAny (model P w) A (setAddHashed a (.int k u) ((intKind P w).hash k)) Q E s := by
  refine setR_add_hashed T.here hb fun h' sb R => q _ h' sb ?_
  by_cases hk : k ∈ l
  · rw [growI, if_pos hk]
    simp only [hk, decide_true, if_true] at R
    refine ⟨R.congr fun j => ?_, T.each⟩
    by_cases e : j = k
    · subst e; simp [hk]
    · simp [e]
  · rw [growI, if_neg hk]
    simp only [hk, decide_false, Bool.false_eq_true, if_false] at R
    refine ⟨R.congr fun j => ?_, List.nodup_cons.mpr ⟨hk, T.each⟩⟩
    by_cases e : j = k
    · subst e; simp
    · simp [e]
/-- what the loop leaves: the numbers one by one -/
theorem fillI {R : Result → Shared → Prop} {I S : Addr} {fp wr : List Addr} {n : Nat} {Pv : Nat → Value → Prop} {St : Nat → Heap → Prop} (W : Walks P w A.in1 I fp wr n Pv St) (far : S ∉ fp) {xs : List Int} (hn : xs.length = n) (nums : ∀ i v, Pv i v → ∃ x t, xs[i]? = some x ∧ v = .int x t) (room : n + 1 < scanBound) (s : Shared) :
    ∀ (rest : List Int) (i : Nat) (l : List Int) (h : Heap) (tk : Nat), xs.drop i = rest → i ≤ n → l.length ≤ i → St i h → SetI w h S l →
      (∀ h' tk', SetI w h' S (rest.foldl growI l) → (∀ b o, b ≠ S → b ∉ wr → h.get? b = some o → h'.get? b = some o) → R (.ok (.ret .none)) { s with heap := h', toks := tk' }) →
      codeAny (model P w) A (.builtin "set.update.loop" ⟨[.ref S, .ref I], []⟩) R { s with heap := h, toks := tk } := by
  have nwr : S ∉ wr := fun z => far (W.sub S z)
  intro rest
  induction rest with
  | nil =>
    intro i l h tk ed hi hl st T q
    have ei : i = n := by have := congrArg List.length ed; rw [List.length_drop] at this; simp at this; omega
    subst ei
    refine codeAny_builtin PyProof.Rows.F.entry_set_update_loop ?_
    rw [Around.under_plainId PyProof.Rows.F.plain_set_update_loop _]
    refine wpAny_bind (W.done { s with heap := h, toks := tk } _ _ st fun h' tk' kp => ?_)
    exact wpAny_pure (q h' tk' (T.keep fun o e => kp S o nwr e) fun b o _ hb e => kp b o hb e)
  | cons x rest more =>
    intro i l h tk ed hi hl st T q
    have lt : i < n := by have := congrArg List.length ed; rw [List.length_drop] at this; simp at this; omega
    have hx : xs[i]? = some x := by
      have := congrArg List.head? ed
      rw [List.head?_drop] at this
      exact this
    refine codeAny_builtin PyProof.Rows.F.entry_set_update_loop ?_
    rw [Around.under_plainId PyProof.Rows.F.plain_set_update_loop _]
    refine wpAny_bind (W.item i { s with heap := h, toks := tk } _ _ lt st fun v h1 tk1 pv st1 kp => ?_)
    obtain ⟨y, t, ey, rfl⟩ := nums i v pv
    have : y = x := by rw [hx] at ey; exact (Option.some.inj ey).symm
    subst this
    have T1 : SetI w h1 S l := T.keep fun o e => kp S o nwr e
    have lg : (growI l y).length ≤ i + 1 := by
      unfold growI
      split
      · omega
      · rw [List.length_cons]; omega
    refine wpAny_bind (wpAny_holding (wpAny_holding (wpAny_bind ((intKind P w).pyHash (intKind_is P w y t) ?_))))
    refine add_num (s := { s with heap := h1, toks := tk1 + 1 }) T1 (by omega) fun b h2 sb T2 => ?_
    refine wpAny_pure ⟨plainId_quiet PyProof.Rows.F.plain_set_update_loop _, more (i + 1) (growI l y) h2 (tk1 + 1) ?_ lt lg (W.frame _ h1 h2 st1 fun c hc o e => (sb.2 c fun z => far (z ▸ hc)).trans e) T2 fun h3 tk3 T3 kp3 => q h3 tk3 T3 fun c o c1 c2 e => kp3 c o c1 c2 ((sb.2 c c1).trans (kp c o c2 e))⟩
    have := congrArg List.tail ed
    rw [List.tail_drop] at this
    exact this
theorem seti_new (h : Heap) : SetI w (h.push (set0 w)) h.objs.size [] := ⟨(setR_fresh w).congr fun k => by simp, List.nodup_nil⟩
theorem mkset_listI {l : Addr} {its : Array Value} {xs : List Int} {Q : Value → Shared → Prop} (free : A.handled = none) (il : s.heap.IsList l its) (tx : Vals (xs.map V.int) its.toList) (room : xs.length + 1 < scanBound)
    (q : ∀ h' tk, SetI w h' s.heap.objs.size (xs.foldl growI []) → (∀ b o, s.heap.get? b = some o → h'.get? b = some o) → Q (.ref s.heap.objs.size) { s with heap := h', toks := tk }) : wpAny (model P w) A (call (.type "set") [.ref l]) Q E s := by
  refine call_set1 (code_set_led1 (.ref l) (Q₁ := fun u s₁ => u = .ref s.heap.objs.size ∧ s₁ = { s with heap := s.heap.push (set0 w) }) ⟨rfl, rfl⟩) ?_
  rintro obj s1 ⟨rfl, rfl⟩
  have new : (s.heap.push (set0 w)).get? s.heap.objs.size = some (set0 w) := Heap.get?_push_size _ rfl
  have here : Shared.TypeIs { s with heap := s.heap.push (set0 w) } (.ref s.heap.objs.size) "set" := ⟨_, new, rfl⟩
  have il1 : (s.heap.push (set0 w)).IsList l its := il.push _
  have hlt : l < s.heap.objs.size := let ⟨o, e, _⟩ := il; Heap.lt_size e
  have below : ∀ b o, s.heap.get? b = some o → b ≠ s.heap.objs.size ∧ b ∉ [s.heap.objs.size + 1] := fun b o e => by
    have := Heap.lt_size e
    refine ⟨Nat.ne_of_lt this, fun z => ?_⟩
    rw [List.mem_singleton] at z
    rw [z] at this
    exact Nat.not_lt_of_le (Nat.le_succ _) this
  have len : xs.length = its.size := by have := Vals.length tx; rw [List.length_map, Array.length_toList] at this; exact this
  have upd : wpAny (model P w) A.in1.in1 (Builtin.Frozenset.updateFrom "set.__init__" s.heap.objs.size (.ref l)) (fun _ s2 => ∃ h' tk, s2 = { s with heap := h', toks := tk } ∧ SetI w h' s.heap.objs.size (xs.foldl growI []) ∧ ∀ b o, s.heap.get? b = some o → h'.get? b = some o) (fun _ _ => False) { s with heap := s.heap.push (set0 w) } := by
    unfold Builtin.Frozenset.updateFrom Builtin.Frozenset.isAnySet
    refine wpAny_bind (wpAny_bind (wpAny_isInstance il1.typeIs PySem.F.sub_list_set ?_))
    refine wpAny_isInstance il1.typeIs PySem.F.sub_list_frozenset ?_
    simp only [Bool.false_eq_true, if_false]
    refine wpAny_bind (wpAny_typeOf il1.typeIs ?_)
    rw [if_neg (by decide)]
    refine wpAny_bind (wpAny_pyIter_list il1 (wpAny_bind (wpAny_runValue ?_)))
    have sz : (s.heap.push (set0 w)).objs.size = s.heap.objs.size + 1 := Heap.size_push _ _
    have apart : s.heap.objs.size ∉ [s.heap.objs.size + 1, l] := fun z => by
      rcases List.mem_cons.mp z with z | z
      · exact Nat.ne_of_lt (Nat.lt_succ_self _) z
      · exact Nat.ne_of_gt hlt (List.mem_singleton.mp z)
    rw [sz]
    refine fillI (Walks.list (by simpa using free) (s.heap.objs.size + 1) l (Nat.ne_of_lt (Nat.lt_succ_of_lt hlt)) its) apart len (fun i v hv => ?_) (by omega) s xs 0 [] _ s.toks (by simp) (Nat.zero_le _) (Nat.le_refl _) ⟨⟨_, by rw [← sz]; exact Heap.get?_push_size _ rfl, rfl, rfl⟩, il1.push _⟩ ((seti_new s.heap).keep fun o e => Heap.get?_push_of_some _ e) fun h' tk T kp => ?_
    · have hi : i < xs.length := by rw [len]; exact (Array.getElem?_eq_some_iff.mp hv).1
      obtain ⟨v', e1, t, e2⟩ := Vals.get tx (i := i) (x := V.int xs[i]) (by simp [hi])
      rw [Array.getElem?_toList, hv] at e1
      cases e1
      exact ⟨xs[i], t, List.getElem?_eq_getElem hi, e2⟩
    · exact wpAny_pure ⟨h', tk, rfl, T, fun b o e => kp b o (below b o e).1 (below b o e).2 (Heap.get?_push_of_some _ (Heap.get?_push_of_some _ e))⟩
  refine ⟨here, ?_⟩
  unfold Builtin.«set.__init__» noKeywords
  have named : wpAny (model P w) A.in1.in1 (typeNameOfCut 200 (.ref s.heap.objs.size)) (fun _ s' => s' = { s with heap := s.heap.push (set0 w) }) (fun _ _ => False) { s with heap := s.heap.push (set0 w) } := by
    unfold typeNameOfCut shownTypeOf
    refine wpAny_bind (wpAny_bind (wpAny_typeOf here ?_))
    rw [if_neg (by decide)]
    exact wpAny_pure (wpAny_pure rfl)
  have fresh : wpAny (model P w) A.in1.in1 (setUsed s.heap.objs.size) (fun b s' => b = false ∧ s' = { s with heap := s.heap.push (set0 w) }) (fun _ _ => False) { s with heap := s.heap.push (set0 w) } :=
    wpAny_bind (wpAny_setState_of new rfl rfl (wpAny_pure ⟨rfl, rfl⟩))
  refine wpAny_bind (wpAny_pure (wpAny_bind (wpAny_mono named (fun _ s' e => ?_) fun _ _ z => z)))
  subst e
  refine wpAny_bind (wpAny_pure (wpAny_bind (wpAny_pure (wpAny_bind (wpAny_mono fresh (fun b s' ⟨e1, e2⟩ => ?_) fun _ _ z => z)))))
  subst e1; subst e2
  simp only [Bool.false_eq_true, if_false]
  refine wpAny_bind (wpAny_mono upd (fun _ s2 ⟨h', tk, e, T, kp⟩ => ?_) fun _ _ z => z)
  subst e
  exact wpAny_pure ⟨rfl, q h' tk T kp⟩
end
theorem sort_uniq {ns ms : List Int} (h1 : ms.Pairwise (· < ·)) (h2 : ∀ k, k ∈ ms ↔ k ∈ ns) : ms = (dset ns).mergeSort fun a b => decide (a ≤ b) := by
  have n1 : ms.Nodup := h1.imp fun h e => by omega
  have pm : ms.Perm ((dset ns).mergeSort fun a b => decide (a ≤ b)) := ((List.perm_ext_iff_of_nodup n1 (dset_nodup ns)).mpr fun k => by rw [h2, dset_mem]).trans (List.mergeSort_perm _ _).symm
  refine List.Perm.eq_of_pairwise (le := fun (a b : Int) => a ≤ b) (fun a b _ _ h1 h2 => Int.le_antisymm h1 h2) (h1.imp fun h => by omega) ?_ pm
  exact (List.pairwise_mergeSort (le := fun a b : Int => decide (a ≤ b)) (fun a b c h1 h2 => by simp at *; omega) (fun a b => by simp; omega) (dset ns)).imp fun h => by simpa using h
theorem Reps.reverse {K : PySem.W.Frag} {H : Hp} {N : Addr → Prop} : ∀ {vs : List V} {xs : List D}, Reps K H N vs xs → Reps K H N vs.reverse xs.reverse
  | _, _, .nil => .nil
  | _, _, .cons q r => by
    rw [List.reverse_cons, List.reverse_cons]
    exact r.reverse.append (.cons q .nil)
theorem vals_ints {its : List Value} {ns : List Int} : IntsAre its ns → Vals (ns.map V.int) its := fun h => by
  induction h with
  | nil => exact .nil
  | cons h ih => rename_i a b c d; exact .cons ⟨_, rfl⟩ (by assumption)
theorem reps_ints {K : PySem.W.Frag} {H : Hp} {N : Addr → Prop} : ∀ ns : List Int, Reps K H N (ns.map V.int) (ns.map D.int)
  | [] => .nil
  | i :: ns => .cons (.int i) (reps_ints ns)
theorem pd_sortseti {X : Cx} {W : WS} {a : Expr} {ga : Ev → St' → R SV} {p p2 q pos : Pos} (hc : X.calm = true) (hg : Gl X "sorted") (hm : X.mg "sorted" = none) (hg2 : Gl X "set") (hm2 : X.mg "set" = none) (hst : noStar a = true) (ha : PE X a (tD X.K W ga)) :
    PE X (.Call (.Name "sorted" p) [.Call (.Name "set" p2) [a] [] q] [] pos) (tD X.K W fun ρ S => (ga ρ S).bind fun x S1 => R.opt (((peek S1 x).bind sortsetiD).map .t) S1) := by
  refine ⟨fun pins s σ H Q I hw => ?_⟩
  refine Call_ (ld_blt I hg hm PyProof.Rows.boot_sorted (PyProof.Rows.callWith_builtin1 (PyProof.Rows.args_cons ?_ rfl) rfl rfl))
  have na : starEach [a] X.env = (false, eval a X.env) :: starEach [] X.env := star_cons hst
  obtain ⟨m, S, ρ, ok, re, h⟩ := hw
  refine Call_ (ld_blt I hg2 hm2 boot_set (PyProof.Rows.callWith_type1 (PyProof.Rows.args_cons (thn (ha.run pins s σ H (fun x H1 => ∃ (l : Addr) (ns : List Int) (m1 : List Addr) (S1 : St'), x = .ref l ∧ (SqL X.K H1 l (ns.map V.int) ∨ SqT X.K H1 l (ns.map V.int)) ∧ ns.length < 64 ∧ StOk X.K H1 m1 S1 ∧ Fol X.K H1 m1 S1 (.lst (((dset ns).mergeSort fun a b => decide (a ≤ b)).map D.int)) Q) I ?_) fun v s1 ⟨x, H1, I1, r1, q1⟩ => PyProof.Rows.args_nil ?_) na) na rfl))
  · refine tD_bind ok re h fun x v S1 H1 m1 ok1 re1 f1 rv h1 => ?_
    obtain ⟨r, e, qq⟩ := Run.opt h1 ok1
    obtain ⟨r', e4, rfl⟩ := Option.map_eq_some_iff.mp e
    obtain ⟨d, e1, e5⟩ := Option.bind_eq_some_iff.mp e4
    obtain ⟨xs, e2, e6⟩ := Option.bind_eq_some_iff.mp e5
    obtain ⟨ns, e3, e7⟩ := Option.bind_eq_some_iff.mp e6
    split at e7
    · rename_i hb
      cases e7
      have pr := ok1.peek rv e1
      cases d <;> first | (cases e2; done) | skip
      · cases e2
        obtain ⟨l, vs, rfl, g1, g2⟩ := pr.tup
        cases g2.ints e3
        exact ⟨l, ns, m1, S1, rfl, .inr g1, hb, ok1, fun H' v o f hv => qq H' o f v hv⟩
      · cases e2
        obtain ⟨l, vs, rfl, g1, g2⟩ := pr.lst
        cases g2.ints e3
        exact ⟨l, ns, m1, S1, rfl, .inl (.inl g1), hb, ok1, fun H' v o f hv => qq H' o f v hv⟩
    · cases e7
  · obtain ⟨l, ns, m1, S1, rfl, hq, hb, ok1, q1⟩ := q1
    cases r1
    have sb : ns.length + 1 < scanBound := by unfold scanBound; omega
    have fin : ∀ (h' : Heap) (tk c : Nat) (T : Int → Bool), SetR X.w h' s1.heap.objs.size T c → (∀ k, T k = true ↔ k ∈ ns) → c < 64 → (∀ b o, s1.heap.get? b = some o → h'.get? b = some o) →
        wpAny (model X.prog X.w) X.A (spliced (backTo pos (starEach [] X.env))) (fun vs s₂ => wpAny (model X.prog X.w) X.A (call (.builtin "sorted") (Value.ref s1.heap.objs.size :: vs)) (EP X pins σ Q) X.xe s₂) X.xe { s1 with heap := h', toks := tk } := fun h' tk c T hS hT hc64 hk => by
      refine PyProof.Rows.args_nil ?_
      have I2 : Inv X pins σ H1 { s1 with heap := h', toks := tk } := I1.kept hk
      refine sorted_set (s := { s1 with heap := h', toks := tk }) hS (I2.ok.hd hc) hc64 fun s' p out c' ms k g o hp hget hms hpw hmem hlen => ?_
      have e := sort_uniq (ns := ns) hpw fun k => (hmem k).trans (hT k)
      have ml : (ms.map V.int).length ≤ sizeLine := by rw [List.length_map, hlen, sizeLine_eq]; omega
      have J : Inv X pins σ (upd H1 p (.lst (ms.map V.int))) s' := I2.call' (ch := []) o (Un.laid k hp (I2.hok.fresh hp)) (I2.hok.laid k hp ⟨ml, out.toList, c', vals_ints hms, by simpa using hget⟩) (by rw [g]; exact I2.bare) fun _ z => nomatch z
      refine ⟨.ref p, _, J, rfl, q1.lst ok1 ?_ p (I2.hok.fresh hp)⟩
      rw [← e]
      exact reps_ints ms
    rcases hq with hq | hq
    · obtain ⟨its, r, pl, hz⟩ := I1.list hq
      refine mkset_listI (I1.ok.hd hc) pl.isList (by simpa using r) sb fun h' tk T k => ?_
      have hl : (ns.foldl growI []).length ≤ ns.length := by
        have : ∀ (xs l : List Int), (xs.foldl growI l).length ≤ l.length + xs.length := fun xs => by
          induction xs with
          | nil => intro l; simp
          | cons x xs ih =>
            intro l
            have := ih (growI l x)
            have h2 : (growI l x).length ≤ l.length + 1 := by unfold growI; split <;> simp
            rw [List.foldl_cons, List.length_cons]; omega
        simpa using this ns []
      refine fin h' tk _ _ T.here (fun k => ?_) (by omega) k
      rw [decide_eq_true_eq]
      have : ∀ (xs l : List Int), k ∈ xs.foldl growI l ↔ k ∈ l ∨ k ∈ xs := fun xs => by
        induction xs with
        | nil => intro l; simp
        | cons x xs ih =>
          intro l
          rw [List.foldl_cons, ih, List.mem_cons]
          unfold growI
          split
          · rename_i hx
            exact ⟨fun z => z.elim .inl fun z => .inr (.inr z), fun z => z.elim .inl fun z => z.elim (fun e => .inl (e ▸ hx)) .inr⟩
          · rw [List.mem_cons]
            exact ⟨fun z => z.elim (fun z => z.elim (fun e => .inr (.inl e)) .inl) fun z => .inr (.inr z), fun z => z.elim (fun z => .inl (.inr z)) fun z => z.elim (fun e => .inl (.inl e)) .inr⟩
      rw [this]; simp
    · obtain ⟨its, r, pl, hz⟩ := I1.tuple hq
      refine call_set_tupI (P := X.prog) ns (I1.ok.hd hc) (by exact pl) (by simpa using r.ints) sb fun h' tk c R hcl k => ?_
      exact fin h' tk c _ R (fun k => decide_eq_true_iff) (by omega) k
end M

/-! what is walked -/
namespace M
open PySem PySem.Spec PyProof.Rows L2

/-! ### enumerate(tuple) -/
set_option maxHeartbeats 1000000 in
theorem meets_enumerate_newB1 {v : Value} {o : Obj} {H : Heap → Prop} (B : Begins v o H) :
    Meets (Builtin.«enumerate.__new__» ⟨[.type "enumerate", v], []⟩) (fun _ R s => H s.heap ∧
      R (.ok (.ret (.ref (s.heap.push o).objs.size))) { s with heap := (s.heap.push o).push { cls := .type "enumerate", data := .fields #[.none, .bool false, .ref s.heap.objs.size, rawInt 0, .none, .none] } }) :=
  .of_wp fun prog w A R s h => by
    obtain ⟨hp, g, d, tk, os⟩ := s; obtain ⟨h1, h⟩ := h
    have hsub := sub_enumerate
    have q1 : ∀ {A' : Around} {E : Value → Shared → Prop} {Q : Value → Shared → Prop}, Q (.ref hp.objs.size) ⟨hp.push o, g, d, tk, os⟩ → wpAny (model prog w) A' (pyIter v) Q E ⟨hp, g, d, tk, os⟩ :=
      fun q => B.iter prog w _ _ ⟨hp, g, d, tk, os⟩ _ h1 q
    wp_walk using q1
    refine wpAny_stack_any fun st => wpAny_pure ?_
    split
    · rename_i c _ _ _ _ _
      cases (c == Value.type "enumerate")
      · wp_walk using q1
        exact ⟨_, rfl, h⟩
      · wp_walk using q1
        exact ⟨_, rfl, h⟩
    · wp_walk using q1
      exact ⟨_, rfl, h⟩
theorem enum_begins1 {prog : Program} {w : World} {A : Around} {E : Value → Shared → Prop} {s : Shared} {v : Value} {o : Obj} {H : Heap → Prop} {Q : Value → Shared → Prop} (B : Begins v o H) (h1 : H s.heap)
    (h : ∀ h', IsEnum h' (s.heap.objs.size + 1) s.heap.objs.size 0 .none → h'.get? s.heap.objs.size = some o → h'.objs.size = s.heap.objs.size + 2 →
      (∀ b o, s.heap.get? b = some o → h'.get? b = some o) → Q (.ref (s.heap.objs.size + 1)) { s with heap := h' }) :
    wpAny (model prog w) A (call (.type "enumerate") [v]) Q E s := by
  refine callType_new F.called_enumerate (by decide) (F.typeCall_enumerate_1 _) (F.newCall_enumerate_1 _) (fun obj => F.args_object_init_2 obj _) F.entry_enumerate_new
    (meets_enumerate_newB1 B) ⟨h1, ?_⟩
  have hz : (s.heap.push o).objs.size = s.heap.objs.size + 1 := Heap.size_push ..
  show _ ∧ _
  rw [hz]
  have he : IsEnum ((s.heap.push o).push { cls := .type "enumerate", data := .fields #[.none, .bool false, .ref s.heap.objs.size, rawInt 0, .none, .none] }) (s.heap.objs.size + 1) s.heap.objs.size 0 .none := by
    have := Heap.get?_push_size (s.heap.push o) (o := { cls := .type "enumerate", data := .fields #[.none, .bool false, .ref s.heap.objs.size, rawInt 0, .none, .none] }) rfl
    rw [hz] at this; exact this
  refine ⟨⟨_, he, rfl⟩, h _ he (Heap.get?_push_of_some _ (Heap.get?_push_size _ B.free)) (by rw [Heap.size_push, hz]) fun b o x => Heap.get?_push_of_some _ (Heap.get?_push_of_some _ x)⟩

def IteT (K : PySem.W.Frag) (a : Addr) : It :=
  ⟨fun i H => ∃ (xs : List V) (x : V), SqT K H a xs ∧ xs[i]? = some x, fun i H v H' => ∃ T x, v = .ref T ∧ H T = none ∧ H' = upd H T (.tup [.int (i : Nat), x]) ∧ ∀ xs, SqT K H a xs → xs[i]? = some x, fun i H => ∃ xs : List V, SqT K H a xs ∧ xs.length = i⟩
theorem turn_enumT {P : Program} {w : World} {K : PySem.W.Frag} {elts : List Expr} {kk : Nat} {tpos : Pos} (a e it : Addr) :
    Turn P w K (.Tuple elts kk tpos) (IteT K a) [e, it] e (fun i h => (∃ old, IsEnum h e it ((i : Nat) : Int) old) ∧ h.IsTupleIter it a i ∧ e ≠ it) where
  mem := by simp
  obj := fun i h st b hb => by
    obtain ⟨⟨old, he⟩, ⟨o, ho, hc, hd⟩, _⟩ := st
    have e' : b = e ∨ b = it := by simpa using hb
    rcases e' with z | z
    · rw [z]; exact ⟨_, he, fun v q => nomatch q⟩
    · rw [z]; exact ⟨o, ho, fun v q => by rw [hd] at q; cases q⟩
  keep := fun i h h' st k => let ⟨⟨old, he⟩, hi, hne⟩ := st; ⟨⟨old, k e (by simp) _ he⟩, hi.at fun o q => k it (by simp) o q, hne⟩
  item := by
    intro X hP hw hK hc i pins s σ H E I hf st hg
    subst hP hw hK
    obtain ⟨⟨old, he⟩, hit, hne⟩ := st
    obtain ⟨xs, x, hq, hx⟩ := hg
    obtain ⟨its, rv, p, hz⟩ := I.tuple hq
    obtain ⟨u, hu, ru⟩ := rv.get hx
    have hel : e < s.heap.objs.size := Heap.lt_size he
    have hil : it < s.heap.objs.size := by obtain ⟨_, q, _⟩ := hit; exact Heap.lt_size q
    have p' : s.heap.IsTuple a its.toArray := by
      obtain ⟨o, h1, h2, n, h3⟩ := p
      exact ⟨o, h1, h2, n, h3⟩
    have hai : a ≠ it := fun z => by
      subst z
      obtain ⟨o, h1, h2, _⟩ := hit
      obtain ⟨o', h1', h2', _⟩ := p'
      rw [h1] at h1'; cases h1'
      rw [h2] at h2'; injection h2' with z; exact absurd z (by decide)
    have hae : e ≠ a := fun z => by
      subst z
      obtain ⟨o', h1', h2', _⟩ := p'
      unfold IsEnum at he
      rw [he] at h1'; cases h1'
      injection h2' with z; exact absurd z (by decide)
    have hlt : i < its.toArray.size := by
      have := (List.getElem?_eq_some_iff.mp hu).1
      simpa using this
    have D := Draws.tuple (prog := X.prog) (w := X.w) (A := X.A.in1) (I.ok.hd hc) it a hai its.toArray
    refine wpAny_pyNext_enum_itemD D he ⟨hit, p'⟩ hlt hne (by simp [hne, hae]) fun u' h' tk hu' ho hst hT hsz hk => ?_
    have : u' = u := by
      have h1 : its.toArray[i]? = some u := by simpa using hu
      rw [h1] at hu'; exact (Option.some.inj hu').symm
    subst this
    refine ⟨_, rfl, wpAny_letOwnedTupleGo_enum (s := { s with heap := h', toks := tk + 1 }) ho fun h'' he' sb => ?_⟩
    have hT2 : h''.get? s.heap.objs.size = some { cls := .type "tuple", data := .seq #[.int i tk, u'] } := (sb.2 _ (Nat.ne_of_gt hel)).trans hT
    have new : ObjOk X.prog X.w (upd H s.heap.objs.size (.tup [.int (i : Nat), x])) h'' s.heap.objs.size (.tup [.int (i : Nat), x]) :=
      ⟨by show 2 ≤ sizeLine; decide, [.int i tk, u'], .cons ⟨_, rfl⟩ (.cons ru .nil), ⟨_, hT2, rfl, _, rfl⟩⟩
    have I1 : L2.Inv X pins σ (upd H s.heap.objs.size (.tup [.int (i : Nat), x])) { s with heap := h'', toks := tk + 1 } :=
      I.turnedNew (ch := [e, it]) (fun b ob hb q => (sb.2 b (fun z => hb (by simp [z]))).trans (hk b ob (fun z => hb (by simp [z])) (fun z => hb (by simp [z])) q)) hf (Nat.le_refl _) new
    refine ⟨.ref s.heap.objs.size, _, I1, rfl, ⟨_, x, rfl, I.hok.fresh (Nat.le_refl _), rfl, fun ys hy => by rw [I.tuple_inj hy hq]; exact hx⟩, ⟨⟨u', ?_⟩, hst.1.at fun o q => (sb.2 it (Ne.symm hne)).trans q, hne⟩, fun b hb => ?_⟩
    · have e1 : ((i + 1 : Nat) : Int) = (i : Int) + 1 := by omega
      rw [e1]; exact he'
    · have hb' : b < s.heap.objs.size := by
        have e' : b = e ∨ b = it := by simpa using hb
        rcases e' with z | z
        · rw [z]; exact hel
        · rw [z]; exact hil
      rw [upd_ne (Nat.ne_of_lt hb')]
      exact (hf b hb).1
  done := by
    intro X hP hw hK hc i pins s σ H E I hf st hg
    subst hP hw hK
    obtain ⟨⟨old, he⟩, hit, hne⟩ := st
    obtain ⟨xs, hq, hx⟩ := hg
    obtain ⟨its, rv, p, hz⟩ := I.tuple hq
    obtain ⟨f0, f1, f2, f3, f4, f5⟩ := hf it (by simp)
    have hl := rv.length
    have p' : s.heap.IsTuple a its.toArray := by
      obtain ⟨o, h1, h2, n, h3⟩ := p
      exact ⟨o, h1, h2, n, h3⟩
    have hai : a ≠ it := fun z => by
      subst z
      obtain ⟨o, h1, h2, _⟩ := hit
      obtain ⟨o', h1', h2', _⟩ := p'
      rw [h1] at h1'; cases h1'
      rw [h2] at h2'; injection h2' with z; exact absurd z (by decide)
    have D := Draws.tuple (prog := X.prog) (w := X.w) (A := X.A.in1) (I.ok.hd hc) it a hai its.toArray
    have hn : its.toArray.size = i := by simp; omega
    exact wpAny_pyNext_enum_endD D he (show _ from by rw [hn]; exact ⟨hit, p'⟩) fun h' eb => ⟨rfl, I.turned (t' := s.toks) (fun b o hb q => eb b o hb q) f0 f1 f3 f4 f5⟩
  self := fun A i s Q E st h => let ⟨⟨_, he⟩, _⟩ := st; wpAny_pyIter_enum he h
def iEnumT (K : PySem.W.Frag) (ta : TA) : TI := fun σ H R => ta σ H fun vs H1 => ∃ a xs, vs = [.ref a] ∧ SqT K H1 a xs ∧ R (IteT K a) H1
theorem pi_enumA {X : Cx} {e : Expr} {ta : TA} {p pos tpos : Pos} {elts : List Expr} {kk : Nat} (hg : Gl X "enumerate") (hm : X.mg "enumerate" = none) (ha : PA X [e] ta) (hs : starEach [e] X.env = [(false, eval e X.env)]) :
    PI X (.Tuple elts kk tpos) (.Call (.Name "enumerate" p) [e] [] pos) (fun σ H R => ta σ H fun vs H1 => ∃ a, vs = [.ref a] ∧ ((∃ xs, SqL X.K H1 a xs ∧ R (Ite X.K a) H1) ∨ ∃ xs, SqT X.K H1 a xs ∧ R (IteT X.K a) H1)) := by
  refine ⟨fun pins s σ H R I h => ?_⟩
  refine Call_ (ld_blt I hg hm boot_enumerate (PyProof.Rows.callWith_type1 (thn (ha.run pos pins s σ H _ I h) fun us s1 ⟨vs, H1, I1, r1, q1⟩ => ?_) hs rfl))
  obtain ⟨a, ex, q⟩ := q1
  subst ex
  cases r1 with
  | cons r rr =>
    cases rr
    cases r
    rcases q with ⟨xs, hq, q⟩ | ⟨xs, hq, q⟩
    · obtain ⟨its, rv, p', hz⟩ := I1.list hq
      refine call_enumerate_list p'.isList fun h' he hit hsz hk => wpAny_pyIter_enum he ?_
      have I2 : L2.Inv X pins σ H1 { s1 with heap := h' } := I1.kept (t' := s1.toks) hk
      refine ⟨s1.heap.objs.size + 1, [s1.heap.objs.size + 1, s1.heap.objs.size], _, _, H1, rfl, I2, turn_enum a (s1.heap.objs.size + 1) s1.heap.objs.size, ⟨⟨.none, he⟩, hit, Nat.succ_ne_self _⟩, fun b hb => ?_, q⟩
      have e' : b = s1.heap.objs.size + 1 ∨ b = s1.heap.objs.size := by simpa using hb
      have hle : s1.heap.objs.size ≤ b := by
        rcases e' with z | z
        · rw [z]; exact Nat.le_add_right _ _
        · rw [z]; exact Nat.le_refl _
      exact I1.fpOk hle (I1.hok.fresh hle)
    · obtain ⟨its, rv, p', hz⟩ := I1.tuple hq
      have p2 : s1.heap.IsTuple a its.toArray := by
        obtain ⟨o, h1, h2, n, h3⟩ := p'
        exact ⟨o, h1, h2, n, h3⟩
      refine enum_begins1 (begins_tuple a its.toArray) p2 fun h' he hit hsz hk => wpAny_pyIter_enum he ?_
      have I2 : L2.Inv X pins σ H1 { s1 with heap := h' } := I1.kept (t' := s1.toks) hk
      refine ⟨s1.heap.objs.size + 1, [s1.heap.objs.size + 1, s1.heap.objs.size], _, _, H1, rfl, I2, turn_enumT a (s1.heap.objs.size + 1) s1.heap.objs.size, ⟨⟨.none, he⟩, ⟨_, hit, rfl, rfl⟩, Nat.succ_ne_self _⟩, fun b hb => ?_, q⟩
      have e' : b = s1.heap.objs.size + 1 ∨ b = s1.heap.objs.size := by simpa using hb
      have hle : s1.heap.objs.size ≤ b := by
        rcases e' with z | z
        · rw [z]; exact Nat.le_add_right _ _
        · rw [z]; exact Nat.le_refl _
      exact I1.fpOk hle (I1.hok.fresh hle)

/-! ### what a walk gives, as data -/
structure Feeds (K : PySem.W.Frag) (J : It) (src : Src) (inv : Hp → List Addr → St' → Prop) : Prop where
  mono : ∀ H m S H' m' S', inv H m S → Fr H m S H' m' S' → inv H' m' S'
  stop : ∀ xs H m S, src = .fix xs → inv H m S → StOk K H m S → J.stop xs.length H
  item : ∀ xs i x H m S, src = .fix xs → inv H m S → StOk K H m S → xs[i]? = some x → J.go i H ∧ ∀ v H', J.yld i H v H' → StOk K H' m S ∧ Fr H m S H' m S ∧ Rep K H' (Own m S) v x
  stopL : ∀ k ys i H m S, src = .live k → inv H m S → StOk K H m S → S[k]? = some (.lst ys) → ys[i]? = none → J.stop i H
  itemL : ∀ k ys i x H m S, src = .live k → inv H m S → StOk K H m S → S[k]? = some (.lst ys) → ys[i]? = some x → J.go i H ∧ ∀ v H', J.yld i H v H' → StOk K H' m S ∧ Fr H m S H' m S ∧ Rep K H' (Own m S) v x
section
variable {K : PySem.W.Frag}
theorem feeds_list {a : Addr} {xs : List D} : Feeds K (Itl K a) (.fix xs) (fun H m S => ∃ vs, QL H (Own m S) a vs ∧ Reps K H (Own m S) vs xs) where
  mono := fun H m S H' m' S' ⟨vs, q, r⟩ f => ⟨vs, q.mono f.1, r.mono f.1⟩
  stop := fun ys H m S e ⟨vs, q, r⟩ ok => by cases e; exact ⟨vs, q.sq, by rw [r.length]; exact Nat.le_refl _⟩
  item := fun ys i x H m S e ⟨vs, q, r⟩ ok hx => by
    cases e
    obtain ⟨v, hv, rv⟩ := r.get hx
    refine ⟨⟨vs, v, q.sq, hv⟩, fun w H' hy => ?_⟩
    obtain ⟨rfl, hy⟩ := hy
    have := hy vs q.sq
    rw [hv] at this; cases this
    exact ⟨ok, .refl, rv⟩
  stopL := fun k ys i H m S e => nomatch e
  itemL := fun k ys i x H m S e => nomatch e
theorem feeds_tup {a : Addr} {xs : List D} : Feeds K (Itt K a) (.fix xs) (fun H m S => ∃ vs, QT K H (Own m S) a vs ∧ Reps K H (Own m S) vs xs) where
  mono := fun H m S H' m' S' ⟨vs, q, r⟩ f => ⟨vs, q.mono f.1, r.mono f.1⟩
  stop := fun ys H m S e ⟨vs, q, r⟩ ok => by cases e; exact ⟨vs, q.sq, by rw [r.length]; exact Nat.le_refl _⟩
  item := fun ys i x H m S e ⟨vs, q, r⟩ ok hx => by
    cases e
    obtain ⟨v, hv, rv⟩ := r.get hx
    refine ⟨⟨vs, v, q.sq, hv⟩, fun w H' hy => ?_⟩
    obtain ⟨rfl, hy⟩ := hy
    have := hy vs q.sq
    rw [hv] at this; cases this
    exact ⟨ok, .refl, rv⟩
  stopL := fun k ys i H m S e => nomatch e
  itemL := fun k ys i x H m S e => nomatch e
theorem feeds_str {x : Str} : Feeds K (Its x) (.fix (x.cps.toList.map fun c => D.str ⟨#[c]⟩)) (fun _ _ _ => True) where
  mono := fun _ _ _ _ _ _ _ _ => trivial
  stop := fun ys H m S e _ ok => by cases e; show x.cps.size ≤ _; simp
  item := fun ys i y H m S e _ ok hx => by
    cases e
    rw [List.getElem?_map] at hx
    obtain ⟨c, hc, rfl⟩ := Option.map_eq_some_iff.mp hx
    have hc' : x.cps[i]? = some c := by simpa using hc
    refine ⟨(Array.getElem?_eq_some_iff.mp hc').1, fun w H' hy => ?_⟩
    obtain ⟨rfl, c', h1, rfl⟩ := hy
    rw [hc'] at h1; cases h1
    exact ⟨ok, .refl, .str _⟩
  stopL := fun k ys i H m S e => nomatch e
  itemL := fun k ys i x H m S e => nomatch e
theorem feeds_range {lo hi : Int} {n : Nat} (hn : n = (hi - lo).toNat) : Feeds K (Itr lo n) (.fix (rangeD lo hi)) (fun _ _ _ => True) where
  mono := fun _ _ _ _ _ _ _ _ => trivial
  stop := fun ys H m S e _ ok => by cases e; show n ≤ _; simp [rangeD, hn]
  item := fun ys i y H m S e _ ok hx => by
    cases e
    unfold rangeD at hx
    rw [List.getElem?_map] at hx
    obtain ⟨c, hc, rfl⟩ := Option.map_eq_some_iff.mp hx
    obtain ⟨h1, h2⟩ := List.getElem?_eq_some_iff.mp hc
    simp at h1 h2
    subst h2
    refine ⟨by show i < n; omega, fun w H' hy => ?_⟩
    obtain ⟨rfl, rfl⟩ := hy
    exact ⟨ok, .refl, .int _⟩
  stopL := fun k ys i H m S e => nomatch e
  itemL := fun k ys i x H m S e => nomatch e
theorem enumD_get {xs : List D} {i : Nat} {y : D} (h : (enumD xs)[i]? = some y) : ∃ x, xs[i]? = some x ∧ y = .tup [.int (i : Nat), x] := by
  unfold enumD at h
  rw [List.getElem?_map] at h
  obtain ⟨p, hp, rfl⟩ := Option.map_eq_some_iff.mp h
  rw [List.getElem?_zipIdx] at hp
  obtain ⟨x, hx, rfl⟩ := Option.map_eq_some_iff.mp hp
  exact ⟨x, hx, by simp⟩
theorem feeds_enumL {a : Addr} {xs : List D} : Feeds K (Ite K a) (.fix (enumD xs)) (fun H m S => ∃ vs, QL H (Own m S) a vs ∧ Reps K H (Own m S) vs xs) where
  mono := fun H m S H' m' S' ⟨vs, q, r⟩ f => ⟨vs, q.mono f.1, r.mono f.1⟩
  stop := fun ys H m S e ⟨vs, q, r⟩ ok => by cases e; exact ⟨vs, q.sq, by rw [r.length]; simp [enumD]⟩
  item := fun ys i y H m S e ⟨vs, q, r⟩ ok hx => by
    cases e
    obtain ⟨x, hx', rfl⟩ := enumD_get hx
    obtain ⟨v, hv, rv⟩ := r.get hx'
    refine ⟨⟨vs, v, q.sq, hv⟩, fun w H' hy => ?_⟩
    obtain ⟨T, v', rfl, hT, rfl, hy⟩ := hy
    have := hy vs q.sq
    rw [hv] at this; cases this
    exact ⟨(ok.laid hT _).1, (ok.laid hT _).2, rep_tup_new ok hT (.cons (.int _) (.cons rv .nil))⟩
  stopL := fun k ys i H m S e => nomatch e
  itemL := fun k ys i x H m S e => nomatch e
theorem feeds_enumT {a : Addr} {xs : List D} : Feeds K (IteT K a) (.fix (enumD xs)) (fun H m S => ∃ vs, QT K H (Own m S) a vs ∧ Reps K H (Own m S) vs xs) where
  mono := fun H m S H' m' S' ⟨vs, q, r⟩ f => ⟨vs, q.mono f.1, r.mono f.1⟩
  stop := fun ys H m S e ⟨vs, q, r⟩ ok => by cases e; exact ⟨vs, q.sq, by rw [r.length]; simp [enumD]⟩
  item := fun ys i y H m S e ⟨vs, q, r⟩ ok hx => by
    cases e
    obtain ⟨x, hx', rfl⟩ := enumD_get hx
    obtain ⟨v, hv, rv⟩ := r.get hx'
    refine ⟨⟨vs, v, q.sq, hv⟩, fun w H' hy => ?_⟩
    obtain ⟨T, v', rfl, hT, rfl, hy⟩ := hy
    have := hy vs q.sq
    rw [hv] at this; cases this
    exact ⟨(ok.laid hT _).1, (ok.laid hT _).2, rep_tup_new ok hT (.cons (.int _) (.cons rv .nil))⟩
  stopL := fun k ys i H m S e => nomatch e
  itemL := fun k ys i x H m S e => nomatch e
theorem zipD_get {xs ys : List D} {i : Nat} {y : D} (h : (zipD xs ys)[i]? = some y) : ∃ x z, xs[i]? = some x ∧ ys[i]? = some z ∧ y = .tup [x, z] := by
  unfold zipD at h
  rw [List.getElem?_map] at h
  obtain ⟨p, hp, rfl⟩ := Option.map_eq_some_iff.mp h
  rw [List.getElem?_zip_eq_some] at hp
  exact ⟨_, _, hp.1, hp.2, rfl⟩
theorem feeds_zipL {a b : Addr} {xs ys : List D} : Feeds K (Itz K a b) (.fix (zipD xs ys)) (fun H m S => (∃ vs, QL H (Own m S) a vs ∧ Reps K H (Own m S) vs xs) ∧ ∃ vs, QL H (Own m S) b vs ∧ Reps K H (Own m S) vs ys) where
  mono := fun H m S H' m' S' ⟨⟨vs, q, r⟩, ⟨ws, q2, r2⟩⟩ f => ⟨⟨vs, q.mono f.1, r.mono f.1⟩, ⟨ws, q2.mono f.1, r2.mono f.1⟩⟩
  stop := fun zs H m S e ⟨⟨vs, q, r⟩, ⟨ws, q2, r2⟩⟩ ok => by
    cases e
    refine ⟨vs, ws, q.sq, q2.sq, ?_⟩
    rw [r.length, r2.length]; simp [zipD]; omega
  item := fun zs i y H m S e ⟨⟨vs, q, r⟩, ⟨ws, q2, r2⟩⟩ ok hx => by
    cases e
    obtain ⟨x, z, hx', hz, rfl⟩ := zipD_get hx
    obtain ⟨v, hv, rv⟩ := r.get hx'
    obtain ⟨u, hu, ru⟩ := r2.get hz
    refine ⟨⟨vs, ws, v, u, q.sq, q2.sq, hv, hu⟩, fun w H' hy => ?_⟩
    obtain ⟨T, v', u', rfl, hT, rfl, hy, hy2⟩ := hy
    have := hy vs q.sq
    rw [hv] at this; cases this
    have := hy2 ws q2.sq
    rw [hu] at this; cases this
    exact ⟨(ok.laid hT _).1, (ok.laid hT _).2, rep_tup_new ok hT (.cons rv (.cons ru .nil))⟩
  stopL := fun k ys i H m S e => nomatch e
  itemL := fun k ys i x H m S e => nomatch e
theorem feeds_zipT {a b : Addr} {xs ys : List D} : Feeds K (RZ.ItzT K a b) (.fix (zipD xs ys)) (fun H m S => (∃ vs, QT K H (Own m S) a vs ∧ Reps K H (Own m S) vs xs) ∧ ∃ vs, QT K H (Own m S) b vs ∧ Reps K H (Own m S) vs ys) where
  mono := fun H m S H' m' S' ⟨⟨vs, q, r⟩, ⟨ws, q2, r2⟩⟩ f => ⟨⟨vs, q.mono f.1, r.mono f.1⟩, ⟨ws, q2.mono f.1, r2.mono f.1⟩⟩
  stop := fun zs H m S e ⟨⟨vs, q, r⟩, ⟨ws, q2, r2⟩⟩ ok => by
    cases e
    refine ⟨vs, ws, q.sq, q2.sq, ?_⟩
    rw [r.length, r2.length]; simp [zipD]; omega
  item := fun zs i y H m S e ⟨⟨vs, q, r⟩, ⟨ws, q2, r2⟩⟩ ok hx => by
    cases e
    obtain ⟨x, z, hx', hz, rfl⟩ := zipD_get hx
    obtain ⟨v, hv, rv⟩ := r.get hx'
    obtain ⟨u, hu, ru⟩ := r2.get hz
    refine ⟨⟨vs, ws, v, u, q.sq, q2.sq, hv, hu⟩, fun w H' hy => ?_⟩
    obtain ⟨T, v', u', rfl, hT, rfl, hy, hy2⟩ := hy
    have := hy vs q.sq
    rw [hv] at this; cases this
    have := hy2 ws q2.sq
    rw [hu] at this; cases this
    exact ⟨(ok.laid hT _).1, (ok.laid hT _).2, rep_tup_new ok hT (.cons rv (.cons ru .nil))⟩
  stopL := fun k ys i H m S e => nomatch e
  itemL := fun k ys i x H m S e => nomatch e
theorem feeds_live {a : Addr} {k : Nat} : Feeds K (Itl K a) (.live k) (fun _ m _ => m[k]? = some a) where
  mono := fun H m S H' m' S' e f => by
    obtain ⟨t, rfl⟩ := f.2
    rw [List.getElem?_append_left (List.getElem?_eq_some_iff.mp e).1]; exact e
  stop := fun xs H m S e => nomatch e
  item := fun xs i x H m S e => nomatch e
  stopL := fun k' ys i H m S e hm ok hS hy => by
    cases e
    obtain ⟨vs, h1, h2⟩ := ok.at_ k a _ hm hS
    exact ⟨vs, SqL.of h1, by rw [h2.length]; exact List.getElem?_eq_none_iff.mp hy⟩
  itemL := fun k' ys i x H m S e hm ok hS hy => by
    cases e
    obtain ⟨vs, h1, h2⟩ := ok.at_ k a _ hm hS
    obtain ⟨v, hv, rv⟩ := h2.get hy
    refine ⟨⟨vs, v, SqL.of h1, hv⟩, fun w H' hy => ?_⟩
    obtain ⟨rfl, hy⟩ := hy
    have := hy vs (SqL.of h1)
    rw [hv] at this; cases this
    exact ⟨ok, .refl, rv⟩
end

/-! ### iterables -/
def tDI (K : PySem.W.Frag) (W : WS) (g : Ev → St' → R Src) : TI := fun σ H Rr => ∃ m S ρ, StOk K H m S ∧ RelE K H m S σ ρ ∧ Run K (fun H' m' S' src => ∀ J inv, Feeds K J src inv → inv H' m' S' → Rr J H') (W σ) H m S (g ρ S)
theorem PI_imp {X : Cx} {tg e : Expr} {t t' : TI} (h : PI X tg e t) (i : ∀ σ H Q, t' σ H Q → t σ H Q) : PI X tg e t' := ⟨fun pins s σ H Q I hw => h.run pins s σ H Q I (i _ _ _ hw)⟩
section
variable {X : Cx} {W : WS} {tg a b : Expr} {ga gb : Ev → St' → R SV} {pos p : Pos}
/-- a list, a tuple, a text -/
theorem pi_three {t : TE} (ha : PE X a t) : PI X tg a (fun σ H Rr => t σ H fun x H1 => (∃ a, x = .ref a ∧ (∃ xs, SqL X.K H1 a xs) ∧ Rr (Itl X.K a) H1) ∨ (∃ a, x = .ref a ∧ (∃ xs, SqT X.K H1 a xs) ∧ Rr (Itt X.K a) H1) ∨ ∃ z, x = .str z ∧ Rr (Its z) H1) := by
  refine ⟨fun pins s σ H Rr I h => ?_⟩
  refine thn (ha.run pins s σ H _ I h) fun v s1 ⟨x, H1, I1, r1, q1⟩ => ?_
  rcases q1 with ⟨a, e, ⟨xs, hq⟩, q⟩ | ⟨a, e, ⟨xs, hq⟩, q⟩ | ⟨z, e, q⟩
  · subst e
    cases r1
    obtain ⟨its, rv, p, hz⟩ := I1.list hq
    refine wpAny_pyIter_list p.isList ?_
    refine ⟨s1.heap.objs.size, [s1.heap.objs.size], _, _, H1, rfl, I1.kept (t' := s1.toks) fun b o e => Heap.get?_push_of_some _ e, turn_list a _, ⟨_, Heap.get?_push_size _ rfl, rfl, rfl⟩, fun b hb => ?_, q⟩
    have e : b = s1.heap.objs.size := by simpa using hb
    subst e
    exact I1.fpOk (Nat.le_refl _) (I1.hok.fresh (Nat.le_refl _))
  · subst e
    cases r1
    obtain ⟨its, rv, p, hz⟩ := I1.tuple hq
    refine wpAny_pyIter_tuple (show s1.heap.IsTuple a its.toArray from p) ?_
    refine ⟨s1.heap.objs.size, [s1.heap.objs.size], _, _, H1, rfl, I1.kept (t' := s1.toks) fun b o e => Heap.get?_push_of_some _ e, turn_tuple a _, ⟨_, Heap.get?_push_size _ rfl, rfl, rfl⟩, fun b hb => ?_, q⟩
    have e : b = s1.heap.objs.size := by simpa using hb
    subst e
    exact I1.fpOk (Nat.le_refl _) (I1.hok.fresh (Nat.le_refl _))
  · subst e
    obtain ⟨t, rfl⟩ := r1
    cases ha : z.cps.all (· < 128)
    · exact wpAny_pyIter_wide ha (pi_one (tk := s1.toks) I1 _ (turn_str _ z t "str_iterator" (.inr rfl)) ⟨_, Heap.get?_push_size _ rfl, rfl, rfl⟩ q)
    · exact wpAny_pyIter_ascii ha (pi_one (tk := s1.toks) I1 _ (turn_str _ z t "str_ascii_iterator" (.inl rfl)) ⟨_, Heap.get?_push_size _ rfl, rfl, rfl⟩ q)
theorem pi_D (ha : PE X a (tD X.K W ga)) : PI X tg a (tDI X.K W fun ρ S => (ga ρ S).bind fun v S1 => R.opt (srcOf S1 v) S1) := by
  refine PI_imp (pi_three ha) fun σ H Q ⟨m, S, ρ, ok, re, h⟩ => ?_
  refine tD_bind ok re h fun x v S1 H1 m1 ok1 re1 f1 rv h1 => ?_
  obtain ⟨src, e, q⟩ := Run.opt h1 ok1
  have q := q H1 ok1 .refl
  cases x with
  | kd _ => cases e
  | td _ => cases e
  | ins _ _ _ => cases e
  | o k =>
    unfold srcOf at e
    simp only at e
    split at e
    · rename_i ys hS
      cases e
      obtain ⟨a, hm, rfl⟩ := rv
      obtain ⟨vs, h2, h3⟩ := ok1.at_ k a _ hm hS
      exact .inl ⟨a, rfl, ⟨vs, SqL.of h2⟩, q _ _ feeds_live hm⟩
    · cases e
  | t d =>
    have rv : Rep X.K H1 (Own m1 S1) v d := rv
    cases rv with
    | lst q1 r1 => cases e; exact .inl ⟨_, rfl, ⟨_, q1.sq⟩, q _ _ feeds_list ⟨_, q1, r1⟩⟩
    | tup q1 r1 => cases e; exact .inr (.inl ⟨_, rfl, ⟨_, q1.sq⟩, q _ _ feeds_tup ⟨_, q1, r1⟩⟩)
    | str z => cases e; exact .inr (.inr ⟨z, rfl, q _ _ feeds_str trivial⟩)
    | _ => cases e
theorem rngOk_of {n : Int} (h : rngOk n = true) : -(2 ^ 62) ≤ n ∧ n < 2 ^ 62 := by
  unfold rngOk at h
  exact of_decide_eq_true h
theorem pi_rng1 (hg : Gl X "range") (hm : X.mg "range" = none) (hst : noStar a = true) (ha : PE X a (tD X.K W ga)) : PI X tg (.Call (.Name "range" p) [a] [] pos) (tDI X.K W fun ρ S => (ga ρ S).bind fun v S1 => match v with
    | .t (.int n) => if rngOk n then .ok (.fix (rangeD 0 n)) S1 else .bad
    | _ => .bad) := by
  have hs : starEach [a] X.env = [(false, eval a X.env)] := by rw [star_cons hst, starEach]
  refine PI_imp (pi_range1 hg hm (pa_cons ha pa_nil (star_cons hst)) hs) fun σ H Q ⟨m, S, ρ, ok, re, h⟩ => ?_
  refine tD_bind ok re h fun x v S1 H1 m1 ok1 re1 f1 rv h1 => ?_
  split at h1
  · rename_i n
    split at h1
    · rename_i hr
      cases RepS.int rv
      obtain ⟨r1, r2⟩ := rngOk_of hr
      exact ⟨n, rfl, r1, r2, h1 H1 m1 ok1 .refl _ _ (feeds_range (by simp)) trivial⟩
    · exact h1.elim
  · exact h1.elim
theorem pi_rng2 (hg : Gl X "range") (hm : X.mg "range" = none) (hst : noStar a = true) (hst2 : noStar b = true) (ha : PE X a (tD X.K W ga)) (hb : PE X b (tD X.K W gb)) : PI X tg (.Call (.Name "range" p) [a, b] [] pos) (tDI X.K W fun ρ S => (ga ρ S).bind fun v S1 => (gb ρ S1).bind fun u S2 => match v, u with
    | .t (.int i), .t (.int j) => if rngOk i && rngOk j then .ok (.fix (rangeD i j)) S2 else .bad
    | _, _ => .bad) := by
  have hs2 : starEach [b] X.env = [(false, eval b X.env)] := by rw [star_cons hst2, starEach]
  have hs : starEach [a, b] X.env = [(false, eval a X.env), (false, eval b X.env)] := by rw [star_cons hst, hs2]
  refine PI_imp (pi_range2 hg hm (pa_cons ha (pa_cons hb pa_nil (star_cons hst2)) (star_cons hst)) hs hs2) fun σ H Q ⟨m, S, ρ, ok, re, h⟩ => ?_
  refine tD_bind ok re h fun x v S1 H1 m1 ok1 re1 f1 rv h1 => ?_
  refine tD_bind ok1 re1 h1 fun y u S2 H2 m2 ok2 re2 f2 ru h2 => ?_
  split at h2
  · rename_i i j
    split at h2
    · rename_i hr
      have hr := Bool.and_eq_true_iff.mp hr
      cases RepS.int rv
      cases RepS.int ru
      obtain ⟨r1, r2⟩ := rngOk_of hr.1
      obtain ⟨r3, r4⟩ := rngOk_of hr.2
      exact ⟨i, j, rfl, ⟨r1, r2, r3, r4⟩, h2 H2 m2 ok2 .refl _ _ (feeds_range rfl) trivial⟩
    · exact h2.elim
  · exact h2.elim
theorem pi_enumD {elts : List Expr} {kk : Nat} {tpos : Pos} (hg : Gl X "enumerate") (hm : X.mg "enumerate" = none) (hst : noStar a = true) (ha : PE X a (tD X.K W ga)) : PI X (.Tuple elts kk tpos) (.Call (.Name "enumerate" p) [a] [] pos) (tDI X.K W fun ρ S => (ga ρ S).bind fun v S1 => match v with
    | .t (.lst xs) => .ok (.fix (enumD xs)) S1
    | .t (.tup xs) => .ok (.fix (enumD xs)) S1
    | _ => .bad) := by
  have hs : starEach [a] X.env = [(false, eval a X.env)] := by rw [star_cons hst, starEach]
  refine PI_imp (pi_enumA hg hm (pa_cons ha pa_nil (star_cons hst)) hs) fun σ H Q ⟨m, S, ρ, ok, re, h⟩ => ?_
  refine tD_bind ok re h fun x v S1 H1 m1 ok1 re1 f1 rv h1 => ?_
  split at h1
  · cases (show Rep X.K H1 (Own m1 S1) v (.lst _) from rv) with
    | lst q1 r1 => exact ⟨_, rfl, .inl ⟨_, q1.sq, h1 H1 m1 ok1 .refl _ _ feeds_enumL ⟨_, q1, r1⟩⟩⟩
  · cases (show Rep X.K H1 (Own m1 S1) v (.tup _) from rv) with
    | tup q1 r1 => exact ⟨_, rfl, .inr ⟨_, q1.sq, h1 H1 m1 ok1 .refl _ _ feeds_enumT ⟨_, q1, r1⟩⟩⟩
  · exact h1.elim
/-! ### zip of a text and a tuple -/
/-- the sign and the item of one place, as a new tuple -/
def ItzST (K : PySem.W.Frag) (x : Str) (a : Addr) : It :=
  ⟨fun i H => ∃ (ys : List V) (y : V) (c : Nat), SqT K H a ys ∧ ys[i]? = some y ∧ x.cps[i]? = some c,
    fun i H v H' => ∃ (T : Addr) (c : Nat) (y : V), v = .ref T ∧ H T = none ∧ H' = upd H T (.tup [.str ⟨#[c]⟩, y]) ∧ x.cps[i]? = some c ∧ ∀ ys, SqT K H a ys → ys[i]? = some y,
    fun i H => ∃ ys : List V, SqT K H a ys ∧ i = min x.cps.size ys.length⟩
theorem turn_zipST {P : Program} {w : World} {K : PySem.W.Frag} {elts : List Expr} {kk : Nat} {tpos : Pos} {x : Str} {t : Tok} {a N : Nat} (haN : a < N) :
    Turn P w K (.Tuple elts kk tpos) (ItzST K x a) [N + 4, N + 2, N + 3, N, N + 1] (N + 4) (fun i h => IsZip h (N + 4) (N + 2) (N + 3) .none ∧ IsTupOf2 h (N + 2) (.ref N) (.ref (N + 1)) ∧ (∃ a1 a2, IsTupOf2 h (N + 3) a1 a2) ∧ h.IsStrIter N (strIterType x) x t i ∧ h.IsTupleIter (N + 1) a i) where
  mem := by simp
  obj := fun i h st b hb => by
    obtain ⟨hz, h1, ⟨a1, a2, h2⟩, ⟨o3, e3, c3, d3⟩, ⟨o4, e4, c4, d4⟩⟩ := st
    have e' : b = N + 4 ∨ b = N + 2 ∨ b = N + 3 ∨ b = N ∨ b = N + 1 := by simpa using hb
    rcases e' with z | z | z | z | z <;> subst z
    · exact ⟨_, hz, fun v q => nomatch q⟩
    · exact ⟨_, h1, fun v q => nomatch q⟩
    · exact ⟨_, h2, fun v q => nomatch q⟩
    · exact ⟨o3, e3, fun v q => by rw [d3] at q; cases q⟩
    · exact ⟨o4, e4, fun v q => by rw [d4] at q; cases q⟩
  keep := fun i h h' st k => by
    obtain ⟨hz, h1, ⟨a1, a2, h2⟩, ⟨o3, e3, c3, d3⟩, ⟨o4, e4, c4, d4⟩⟩ := st
    exact ⟨k _ (by simp) _ hz, k _ (by simp) _ h1, ⟨a1, a2, k _ (by simp) _ h2⟩, ⟨o3, k _ (by simp) _ e3, c3, d3⟩, ⟨o4, k _ (by simp) _ e4, c4, d4⟩⟩
  item := by
    intro X hP hw hK hc i pins s σ H E I hf st hg
    subst hP hw hK
    obtain ⟨ys, y, c, hq, hy, hx⟩ := hg
    obtain ⟨its, rv, p, hz⟩ := I.tuple hq
    obtain ⟨u, hu, ru⟩ := rv.get hy
    have p' : s.heap.IsTuple a its.toArray := p
    have hh : X.A.in1.handled = none := I.ok.hd hc
    have D1 := Draws.text (prog := X.prog) (w := X.w) hh N x t
    have D2 := Draws.tuple (prog := X.prog) (w := X.w) hh (N + 1) a (Nat.ne_of_lt (Nat.lt_succ_of_lt haN)) its.toArray
    have G := GoesN.zip2 (elts := elts) (x1 := kk) (pos := tpos) (zip_sep2 (N := N) (fp1 := []) (fp2 := [a]) (fun b hb => by simp at hb) (fun b hb => by simp at hb; subst hb; exact haN)) D1 D2
    have hi : i < min x.cps.size its.toArray.size := by
      have h1 := (Array.getElem?_eq_some_iff.mp hx).1
      have h2 := (List.getElem?_eq_some_iff.mp hu).1
      rw [List.size_toArray]
      exact Nat.lt_min.mpr ⟨h1, h2⟩
    have hN : N + 4 < s.heap.objs.size := Heap.lt_size st.1
    refine wpAny_mono (G.goes i s (fun v s2 => ∃ xx H', L2.Inv X pins σ H' s2 ∧ RelV xx v ∧ (ItzST X.K x a).yld i H xx H' ∧ (IsZip s2.heap (N + 4) (N + 2) (N + 3) .none ∧ IsTupOf2 s2.heap (N + 2) (.ref N) (.ref (N + 1)) ∧ (∃ a1 a2, IsTupOf2 s2.heap (N + 3) a1 a2) ∧ s2.heap.IsStrIter N (strIterType x) x t (i + 1) ∧ s2.heap.IsTupleIter (N + 1) a (i + 1)) ∧ ∀ b ∈ [N + 4, N + 2, N + 3, N, N + 1], H' b = none) E hi ⟨st.1, st.2.1, st.2.2.1, st.2.2.2.1, st.2.2.2.2, p'⟩ fun v h' tk hY st' hk _ => ?_) (fun r s1 h1 => h1) fun _ _ e => e
    obtain ⟨T, xv, yv, rfl, hT, ⟨c', t', hc', rfl⟩, hyv, hTt⟩ := hY
    rw [hx] at hc'; cases hc'
    have : yv = u := by
      have h1 : its.toArray[i]? = some u := by simpa using hu
      rw [h1] at hyv; exact (Option.some.inj hyv).symm
    subst this
    have new : ObjOk X.prog X.w (upd H T (.tup [.str ⟨#[c]⟩, y])) h' T (.tup [.str ⟨#[c]⟩, y]) :=
      ⟨by show 2 ≤ sizeLine; decide, [.str ⟨#[c]⟩ t', yv], .cons ⟨_, rfl⟩ (.cons ru .nil), hTt⟩
    have I1 : L2.Inv X pins σ (upd H T (.tup [.str ⟨#[c]⟩, y])) { s with heap := h', toks := tk } :=
      I.turnedNew (ch := [N + 4, N + 2, N + 3, N, N + 1]) (fun b ob hb q => hk b ob (fun z => hb (by simp at z ⊢; rcases z with z | z | z | z <;> simp [z])) q) hf hT new
    exact ⟨.ref T, _, I1, rfl, ⟨T, c, y, rfl, I.hok.fresh hT, rfl, hx, fun zs hzs => by rw [I.tuple_inj hzs hq]; exact hy⟩, ⟨st'.1, st'.2.1, st'.2.2.1, st'.2.2.2.1, st'.2.2.2.2.1⟩, fun b hb => by
      have hb' : (b : Nat) ≤ N + 4 := by
        have e' : (b : Nat) = N + 4 ∨ (b : Nat) = N + 2 ∨ (b : Nat) = N + 3 ∨ (b : Nat) = N ∨ (b : Nat) = N + 1 := by simpa using hb
        rcases e' with e' | e' | e' | e' | e' <;> rw [e'] <;> omega
      have hne : b ≠ T := Nat.ne_of_lt (Nat.lt_of_le_of_lt hb' (Nat.lt_of_lt_of_le hN hT))
      rw [upd_ne hne]
      exact (hf b hb).1⟩
  done := by
    intro X hP hw hK hc i pins s σ H E I hf st hg
    subst hP hw hK
    obtain ⟨ys, hq, hn⟩ := hg
    obtain ⟨its, rv, p, hz⟩ := I.tuple hq
    have p' : s.heap.IsTuple a its.toArray := p
    have hh : X.A.in1.handled = none := I.ok.hd hc
    have D1 := Draws.text (prog := X.prog) (w := X.w) hh N x t
    have D2 := Draws.tuple (prog := X.prog) (w := X.w) hh (N + 1) a (Nat.ne_of_lt (Nat.lt_succ_of_lt haN)) its.toArray
    have G := GoesN.zip2 (elts := elts) (x1 := kk) (pos := tpos) (zip_sep2 (N := N) (fp1 := []) (fp2 := [a]) (fun b hb => by simp at hb) (fun b hb => by simp at hb; subst hb; exact haN)) D1 D2
    have hi : i = min x.cps.size its.toArray.size := by
      have hl : its.toArray.size = ys.length := by rw [List.size_toArray]; exact rv.length.symm
      rw [hn, hl]
    subst hi
    refine G.stops s (fun s1 => L2.Inv X pins σ H s1) E ⟨st.1, st.2.1, st.2.2.1, st.2.2.2.1, st.2.2.2.2, p'⟩ fun h' tk hk _ => ?_
    exact I.turnedL (fun b ob hb q => hk b ob (fun z => hb (by simp at z ⊢; rcases z with z | z | z | z <;> simp [z])) q) hf
  self := fun A i s Q E st h => wpAny_pyIter_zip st.1 h
theorem feeds_zipST {x : Str} {a : Addr} {ys : List D} {K : PySem.W.Frag} : Feeds K (ItzST K x a) (.fix (zipD (x.cps.toList.map fun c => D.str ⟨#[c]⟩) ys)) (fun H m S => ∃ vs, QT K H (Own m S) a vs ∧ Reps K H (Own m S) vs ys) where
  mono := fun H m S H' m' S' ⟨vs, q, r⟩ f => ⟨vs, q.mono f.1, r.mono f.1⟩
  stop := fun zs H m S e ⟨vs, q, r⟩ ok => by
    cases e
    refine ⟨vs, q.sq, ?_⟩
    rw [r.length]; simp [zipD]
  item := fun zs i y H m S e ⟨vs, q, r⟩ ok hx => by
    cases e
    obtain ⟨d, z, hx', hz, rfl⟩ := zipD_get hx
    obtain ⟨u, hu, ru⟩ := r.get hz
    rw [List.getElem?_map] at hx'
    obtain ⟨c, hc, rfl⟩ := Option.map_eq_some_iff.mp hx'
    have hc' : x.cps[i]? = some c := by simpa using hc
    refine ⟨⟨vs, u, c, q.sq, hu, hc'⟩, fun w H' hy => ?_⟩
    obtain ⟨T, c', u', rfl, hT, rfl, h1, h2⟩ := hy
    rw [hc'] at h1; cases h1
    have := h2 vs q.sq
    rw [hu] at this; cases this
    exact ⟨(ok.laid hT _).1, (ok.laid hT _).2, rep_tup_new ok hT (.cons (.str _) (.cons ru .nil))⟩
  stopL := fun k ys i H m S e => nomatch e
  itemL := fun k ys i x H m S e => nomatch e
/-- zip of a text and a tuple -/
theorem pi_zipST {elts : List Expr} {kk : Nat} {tpos : Pos} {ta : TA} (hg : Gl X "zip") (hm : X.mg "zip" = none) (ha : PA X [a, b] ta) (hst : noStar a = true) (hst2 : noStar b = true) :
    PI X (.Tuple elts kk tpos) (.Call (.Name "zip" p) [a, b] [] pos) (fun σ H R => ta σ H fun vs H1 => ∃ z r ys, vs = [.str z, .ref r] ∧ SqT X.K H1 r ys ∧ R (ItzST X.K z r) H1) := by
  have hall : [b].all noStar = true := by simp [hst2]
  refine ⟨fun pins s σ H R I h => ?_⟩
  refine Call_ (ld_blt I hg hm PyProof.Rows.boot_zip (PyProof.Rows.callWith_type1 (thn (ha.run pos pins s σ H _ I h) fun us s1 ⟨vs, H1, I1, r1, q1⟩ => ?_) (star_cons hst) (star_any hall)))
  obtain ⟨z, r, ys, rfl, hq, q⟩ := q1
  cases r1 with
  | cons r1 rr =>
    cases rr with
    | cons r2 rr =>
      cases rr
      obtain ⟨t, rfl⟩ := r1
      cases r2
      obtain ⟨its, rv, p2, _⟩ := I1.tuple hq
      have p' : s1.heap.IsTuple r its.toArray := p2
      obtain ⟨o2, ho2, _⟩ := id p2
      refine zip_begins2 (begins_text z t) (begins_tuple r its.toArray) trivial p' fun h' hz hTI hTO h1 h2 hsz hk => wpAny_pyIter_zip hz ?_
      have I2 : L2.Inv X pins σ H1 { s1 with heap := h' } := I1.kept (t' := s1.toks) hk
      refine ⟨s1.heap.objs.size + 4, [s1.heap.objs.size + 4, s1.heap.objs.size + 2, s1.heap.objs.size + 3, s1.heap.objs.size, s1.heap.objs.size + 1], _, _, H1, rfl, I2, turn_zipST (t := t) (Heap.lt_size ho2), ⟨hz, hTI, ⟨_, _, hTO⟩, ⟨_, h1, rfl, rfl⟩, ⟨_, h2, rfl, rfl⟩⟩, fun c hcm => ?_, q⟩
      have hle : s1.heap.objs.size ≤ c := by
        have e' : c = s1.heap.objs.size + 4 ∨ c = s1.heap.objs.size + 2 ∨ c = s1.heap.objs.size + 3 ∨ c = s1.heap.objs.size ∨ c = s1.heap.objs.size + 1 := by simpa using hcm
        rcases e' with z | z | z | z | z <;> rw [z] <;> first | exact Nat.le_add_right _ _ | exact Nat.le_refl _
      exact I1.fpOk hle (I1.hok.fresh hle)
theorem pi_zipsD {elts : List Expr} {kk : Nat} {tpos : Pos} (hg : Gl X "zip") (hm : X.mg "zip" = none) (hst : noStar a = true) (hst2 : noStar b = true) (ha : PE X a (tD X.K W ga)) (hb : PE X b (tD X.K W gb)) : PI X (.Tuple elts kk tpos) (.Call (.Name "zip" p) [a, b] [] pos) (tDI X.K W fun ρ S => (ga ρ S).bind fun v S1 => (gb ρ S1).bind fun u S2 => match v, u with
    | .t (.str x), .t (.tup ys) => .ok (.fix (zipD (x.cps.toList.map fun c => .str ⟨#[c]⟩) ys)) S2
    | _, _ => .bad) := by
  refine PI_imp (pi_zipST hg hm (pa_cons ha (pa_cons hb pa_nil (star_cons hst2)) (star_cons hst)) hst hst2) fun σ H Q ⟨m, S, ρ, ok, re, h⟩ => ?_
  refine tD_bind ok re h fun x v S1 H1 m1 ok1 re1 f1 rv h1 => ?_
  refine tD_bind ok1 re1 h1 fun y u S2 H2 m2 ok2 re2 f2 ru h2 => ?_
  split at h2
  · cases (show Rep X.K H2 (Own m2 S2) v (.str _) from rv.mono f2)
    cases (show Rep X.K H2 (Own m2 S2) u (.tup _) from ru) with
    | tup q2 r2 => exact ⟨_, _, _, rfl, q2.sq, h2 H2 m2 ok2 .refl _ _ feeds_zipST ⟨_, q2, r2⟩⟩
  · exact h2.elim
theorem pi_zipD {elts : List Expr} {kk : Nat} {tpos : Pos} (hg : Gl X "zip") (hm : X.mg "zip" = none) (hst : noStar a = true) (hst2 : noStar b = true) (ha : PE X a (tD X.K W ga)) (hb : PE X b (tD X.K W gb)) : PI X (.Tuple elts kk tpos) (.Call (.Name "zip" p) [a, b] [] pos) (tDI X.K W fun ρ S => (ga ρ S).bind fun v S1 => (gb ρ S1).bind fun u S2 => match v, u with
    | .t (.lst xs), .t (.lst ys) => .ok (.fix (zipD xs ys)) S2
    | .t (.tup xs), .t (.tup ys) => .ok (.fix (zipD xs ys)) S2
    | _, _ => .bad) := by
  have hall : [b].all noStar = true := by simp [hst2]
  refine PI_imp (RZ.pi_zipA hg hm (pa_cons ha (pa_cons hb pa_nil (star_cons hst2)) (star_cons hst)) (star_cons hst) (star_any hall)) fun σ H Q ⟨m, S, ρ, ok, re, h⟩ => ?_
  refine tD_bind ok re h fun x v S1 H1 m1 ok1 re1 f1 rv h1 => ?_
  refine tD_bind ok1 re1 h1 fun y u S2 H2 m2 ok2 re2 f2 ru h2 => ?_
  split at h2
  · cases (show Rep X.K H2 (Own m2 S2) v (.lst _) from rv.mono f2) with
    | lst q1 r1 => cases (show Rep X.K H2 (Own m2 S2) u (.lst _) from ru) with
      | lst q2 r2 => exact ⟨_, _, _, _, rfl, .inl ⟨q1.sq, q2.sq, h2 H2 m2 ok2 .refl _ _ feeds_zipL ⟨⟨_, q1, r1⟩, ⟨_, q2, r2⟩⟩⟩⟩
  · cases (show Rep X.K H2 (Own m2 S2) v (.tup _) from rv.mono f2) with
    | tup q1 r1 => cases (show Rep X.K H2 (Own m2 S2) u (.tup _) from ru) with
      | tup q2 r2 => exact ⟨_, _, _, _, rfl, .inr ⟨q1.sq, q2.sq, h2 H2 m2 ok2 .refl _ _ feeds_zipT ⟨⟨_, q1, r1⟩, ⟨_, q2, r2⟩⟩⟩⟩
  · exact h2.elim
end
end M

/-! targets, comprehensions -/
namespace M
open PySem PySem.Spec PyProof.Rows L2

/-! ### targets -/
def tgs : Tg → List Nat
  | .v i => [i]
  | .tp is => is
def gD (K : PySem.W.Frag) (tg : Tg) : TG := fun v σ H Q => ∃ m S ρ d ρ', StOk K H m S ∧ RelE K H m S σ ρ ∧ Rep K H (Own m S) v d ∧ bindTg tg d ρ = some ρ' ∧ ∀ σ', RelE K H m S σ' ρ' → σ'.length = σ.length → (∀ j, j ∉ tgs tg → σ'[j]? = σ[j]?) → Q σ' H
theorem PG_imp {X : Cx} {e : Expr} {t t' : TG} (h : PG X e t) (i : ∀ v σ H Q, t' v σ H Q → t v σ H Q) : PG X e t' := ⟨fun pins s σ H v u Q I r hw => h.run pins s σ H v u Q I r (i _ _ _ _ hw)⟩
theorem PGs_imp {X : Cx} {e : List Expr} {t t' : TGs} (h : PGs X e t) (i : ∀ v σ H Q, t' v σ H Q → t v σ H Q) : PGs X e t' := ⟨fun pins s σ H v u Q I r hw => h.run pins s σ H v u Q I r (i _ _ _ _ hw)⟩
/-- names one after the other -/
inductive TgsOk (X : Cx) : List Nat → List Expr → Prop
  | nil : TgsOk X [] []
  | cons {i : Nat} {is : List Nat} {x : Str} {p : Pos} {es : List Expr} : X.N[i]? = some x → Loc X.env.scope x → (X.fn x = true ∨ X.env.scope.names.lookup x = some .local) → TgsOk X is es → TgsOk X (i :: is) (.Name x p :: es)
def gDs (K : PySem.W.Frag) (is : List Nat) : TGs := fun vs σ H Q => ∃ m S ρ ds ρ', StOk K H m S ∧ RelE K H m S σ ρ ∧ Reps K H (Own m S) vs ds ∧ setTg is ds ρ = some ρ' ∧ ∀ σ', RelE K H m S σ' ρ' → σ'.length = σ.length → (∀ j, j ∉ is → σ'[j]? = σ[j]?) → Q σ' H
theorem setTg_len : ∀ {is : List Nat} {ds : List D} {ρ ρ' : Ev}, setTg is ds ρ = some ρ' → ds.length = is.length
  | [], [], _, _, _ => rfl
  | i :: is, d :: ds, ρ, ρ', h => by rw [List.length_cons, List.length_cons, setTg_len (is := is) h]
  | [], _ :: _, _, _, h => nomatch h
  | _ :: _, [], _, _, h => nomatch h
section
variable {X : Cx} {pos : Pos}
theorem pg_v {i : Nat} {x : Str} (hN : X.N.Nodup) (hi : X.N[i]? = some x) (hx : Loc X.env.scope x) (hf : X.fn x = true ∨ X.env.scope.names.lookup x = some .local) : PG X (.Name x pos) (gD X.K (.v i)) :=
  PG_imp (pg_name hN hi hx hf) fun v σ H Q ⟨m, S, ρ, d, ρ', ok, re, r, e, q⟩ => by
    cases e
    exact q _ (re.set i r) (by simp) fun j hj => List.getElem?_set_ne (fun z => hj (by simp [tgs, z]))
theorem pgs_D (hN : X.N.Nodup) : ∀ {is : List Nat} {es : List Expr}, TgsOk X is es → PGs X es (gDs X.K is) ∧ (assignEach es X.env).length = is.length ∧ (assignEach es X.env).findIdx? (·.1) = none
  | _, _, .nil => by
    refine ⟨PGs_imp pgs_nil fun vs σ H Q ⟨m, S, ρ, ds, ρ', ok, re, r, e, q⟩ => ?_, by rw [assignEach]; rfl, by rw [assignEach]; rfl⟩
    cases ds with
    | nil => cases r; cases e; exact ⟨rfl, q σ re rfl fun _ _ => rfl⟩
    | cons d ds => cases e
  | _, _, .cons (i := i) (is := is) (x := x) (p := p) (es := es) hi hx hf h => by
    obtain ⟨h1, h2, h3⟩ := pgs_D hN h
    have hs : assignEach (.Name x p :: es) X.env = (false, assign (.Name x p) X.env) :: assignEach es X.env := by rw [assignEach]; intro _ _ z; cases z
    refine ⟨PGs_imp (pgs_cons (pg_name hN hi hx hf) h1 (by rw [hs]; rfl)) fun vs σ H Q ⟨m, S, ρ, ds, ρ', ok, re, r, e, q⟩ => ?_, by rw [hs, List.length_cons, h2, List.length_cons], by rw [hs, List.findIdx?_cons]; simp [h3]⟩
    cases ds with
    | nil => cases e
    | cons d ds =>
      cases r with
      | cons r rs =>
        refine ⟨_, _, rfl, m, S, _, ds, ρ', ok, re.set i (d := .t d) r, rs, e, fun σ' re' hl hj => q σ' re' (by rw [hl]; simp) fun j hj' => ?_⟩
        rw [hj j (fun z => hj' (List.mem_cons_of_mem _ z))]
        exact List.getElem?_set_ne (fun z => hj' (by simp [z]))
theorem pg_tp {is : List Nat} {es : List Expr} {k : Nat} (hc : X.calm = true) (hN : X.N.Nodup) (h : TgsOk X is es) : PG X (.Tuple es k pos) (gD X.K (.tp is)) := by
  obtain ⟨h1, h2, h3⟩ := pgs_D hN h
  refine PG_imp (pg_tup hc h1 h2 h3) fun v σ H Q ⟨m, S, ρ, d, ρ', ok, re, r, e, q⟩ => ?_
  cases r with
  | tup q1 r1 =>
    have e : setTg is _ ρ = some ρ' := e
    exact ⟨_, _, rfl, q1.sq, by rw [r1.length]; exact setTg_len e, m, S, ρ, _, ρ', ok, re, r1, e, q⟩
  | _ => cases e
end

/-! ### no exception within -/
section
variable {K : PySem.W.Frag} {W W' : WS} {σ : L2.St} {H : Hp} {m : List Addr} {S : St'}
theorem Run.nox {α : Type} {P : Hp → List Addr → St' → α → Prop} {Wd Wd' : WD} {r : R α} (h : Run K P Wd H m S r.nox) : Run K P Wd' H m S r := by
  cases r with
  | ok a S' => exact h
  | exc c p S' => exact h.elim
  | bad => exact h
theorem Run.imp {α : Type} {P P' : Hp → List Addr → St' → α → Prop} {Wd : WD} {r : R α} (h : Run K P Wd H m S r) (i : ∀ H' m' S' a, StOk K H' m' S' → Fr H m S H' m' S' → P H' m' S' a → P' H' m' S' a) : Run K P' Wd H m S r := by
  cases r with
  | ok a S' => exact fun H' m' ok' f' => i H' m' S' a ok' f' (h H' m' ok' f')
  | exc c p S' => exact h
  | bad => exact h
theorem Run.mono {α : Type} {P : Hp → List Addr → St' → α → Prop} {Wd : WD} {H1 : Hp} {m1 : List Addr} {S1 : St'} {r : R α} (h : Run K P Wd H m S r) (f : Fr H m S H1 m1 S1) : Run K P Wd H1 m1 S1 r := by
  cases r with
  | ok a S' => exact fun H' m' ok' f' => h H' m' ok' (f.trans f')
  | exc c p S' => exact fun H' m' ok' f' => h H' m' ok' (f.trans f')
  | bad => exact h
end

/-! ### the turn of a comprehension -/
theorem wipe_get {σ : L2.St} : ∀ {vs : List Nat} {j : Nat}, j ∉ vs → (wipe σ vs)[j]? = σ[j]?
  | [], _, _ => rfl
  | v :: vs, j, h => by
    unfold wipe
    rw [List.getElem?_set_ne (fun z => h (by simp [z]))]
    exact wipe_get fun z => h (List.mem_cons_of_mem _ z)
theorem wipe_at {σ : L2.St} : ∀ {vs : List Nat} {j : Nat}, j ∈ vs → j < σ.length → (wipe σ vs)[j]? = some none
  | v :: vs, j, h, hl => by
    unfold wipe
    by_cases hv : v = j
    · subst hv
      rw [List.getElem?_set_self (by rw [wipe_length]; exact hl)]
    · rw [List.getElem?_set_ne hv]
      exact wipe_at ((List.mem_cons.mp h).resolve_left (fun z => hv z.symm)) hl
theorem wipe_eq {σ σ' : L2.St} {vs : List Nat} (hl : σ'.length = σ.length) (h : ∀ j, j ∉ vs → σ'[j]? = σ[j]?) : wipe σ' vs = wipe σ vs := by
  apply List.ext_getElem?
  intro j
  by_cases hj : j ∈ vs
  · by_cases hlt : j < σ.length
    · rw [wipe_at hj hlt, wipe_at hj (by rw [hl]; exact hlt)]
    · rw [List.getElem?_eq_none (by rw [wipe_length]; omega), List.getElem?_eq_none (by rw [wipe_length]; omega)]
  · rw [wipe_get hj, wipe_get hj, h j hj]
/-- the targets of a comprehension are set whatever stood there -/
theorem setTg_any : ∀ {is : List Nat} {ds : List D} {ρ ρ' : Ev}, setTg is ds ρ = some ρ' → ∀ ρ2 : Ev, ρ2.length = ρ.length → ∃ ρ3, setTg is ds ρ2 = some ρ3 ∧ ρ3.length = ρ.length ∧ (∀ j, j ∈ is → ρ3[j]? = ρ'[j]?) ∧ ∀ j, j ∉ is → ρ3[j]? = ρ2[j]? ∧ ρ'[j]? = ρ[j]?
  | [], [], ρ, ρ', h, ρ2, hl => by cases h; exact ⟨ρ2, rfl, hl, (fun j hj => absurd hj (by simp)), fun j _ => ⟨rfl, rfl⟩⟩
  | i :: is, d :: ds, ρ, ρ', h, ρ2, hl => by
    obtain ⟨ρ3, h1, h2, h3, h4⟩ := setTg_any (ρ := ρ.set i (some (.t d))) h (ρ2.set i (some (.t d))) (by simp [hl])
    refine ⟨ρ3, h1, by simpa using h2, fun j hj => ?_, fun j hj => ?_⟩
    · by_cases hji : j ∈ is
      · exact h3 j hji
      · have hj : j = i := (List.mem_cons.mp hj).resolve_right hji
        subst hj
        rw [(h4 j hji).1, (h4 j hji).2]
        by_cases hlt : j < ρ.length
        · rw [List.getElem?_set_self hlt, List.getElem?_set_self (by omega)]
        · rw [List.getElem?_eq_none (by simp; omega), List.getElem?_eq_none (by simp; omega)]
    · have hji : j ∉ is := fun z => hj (List.mem_cons_of_mem _ z)
      have hi : i ≠ j := fun z => hj (by simp [z])
      rw [(h4 j hji).1, (h4 j hji).2, List.getElem?_set_ne hi, List.getElem?_set_ne hi]
      exact ⟨rfl, rfl⟩
  | [], _ :: _, _, _, h, _, _ => nomatch h
  | _ :: _, [], _, _, h, _, _ => nomatch h
def wipeE (ρ : Ev) : List Nat → Ev
  | [] => ρ
  | v :: vs => (wipeE ρ vs).set v none
theorem wipeE_length (ρ : Ev) : ∀ vs : List Nat, (wipeE ρ vs).length = ρ.length
  | [] => rfl
  | v :: vs => by unfold wipeE; rw [List.length_set, wipeE_length ρ vs]
theorem wipeE_get {ρ : Ev} : ∀ {vs : List Nat} {j : Nat}, j ∉ vs → (wipeE ρ vs)[j]? = ρ[j]?
  | [], _, _ => rfl
  | v :: vs, j, h => by
    unfold wipeE
    rw [List.getElem?_set_ne (fun z => h (by simp [z]))]
    exact wipeE_get fun z => h (List.mem_cons_of_mem _ z)
theorem RelE.wipe {K : PySem.W.Frag} {H : Hp} {m : List Addr} {S : St'} {σ : L2.St} {ρ : Ev} (h : RelE K H m S σ ρ) : ∀ vs : List Nat, RelE K H m S (L2.wipe σ vs) (wipeE ρ vs)
  | [] => h
  | v :: vs => by
    have ih := h.wipe vs
    refine ⟨by unfold L2.wipe wipeE; simp [ih.1], fun i d e => ?_⟩
    unfold wipeE at e
    unfold L2.wipe
    by_cases hi : v = i
    · subst hi
      by_cases hl : v < (wipeE ρ vs).length
      · rw [List.getElem?_set_self hl] at e; cases e
      · rw [List.getElem?_eq_none (by simp; omega)] at e; cases e
    · rw [List.getElem?_set_ne hi] at e ⊢
      exact ih.2 i d e
/-- two runs of slots that agree but for none -/
theorem RelE.of_bind {K : PySem.W.Frag} {H : Hp} {m : List Addr} {S : St'} {tg : Tg} {d : D} {ρ ρ' : Ev} (h : bindTg tg d ρ = some ρ') : ∃ ρ3, bindTg tg d (wipeE ρ (tgs tg)) = some ρ3 ∧ ∀ σ, RelE K H m S σ ρ3 → (∀ j e, j ∉ tgs tg → ρ[j]? = some (some e) → ∃ v, σ[j]? = some (some v) ∧ RepS K H m S v e) → RelE K H m S σ ρ' := by
  cases tg with
  | v i =>
    cases h
    refine ⟨_, rfl, fun σ re hj => ⟨?_, fun j e he => ?_⟩⟩
    · have := re.1; simpa [wipeE_length] using this
    · by_cases hji : i = j
      · subst hji
        have hlt : i < ρ.length := by have := (List.getElem?_eq_some_iff.mp he).1; simpa using this
        refine re.2 i e ?_
        rw [List.getElem?_set_self hlt] at he
        rw [List.getElem?_set_self (by rw [wipeE_length]; exact hlt)]; exact he
      · rw [List.getElem?_set_ne hji] at he
        exact hj j e (fun z => hji (Eq.symm (by simpa [tgs] using z))) he
  | tp is =>
    cases d with
    | tup ds =>
      obtain ⟨ρ3, h1, h2, h3, h4⟩ := setTg_any (show setTg is ds ρ = some ρ' from h) (wipeE ρ is) (wipeE_length _ _)
      refine ⟨ρ3, h1, fun σ re hj => ⟨?_, fun j e he => ?_⟩⟩
      · obtain ⟨ρ4, _, h5, _, _⟩ := setTg_any (show setTg is ds ρ = some ρ' from h) ρ rfl
        have e4 : ρ4 = ρ' := by
          rename_i hh _ _
          rw [show setTg is ds ρ = some ρ' from h] at hh
          exact (Option.some.inj hh).symm
        rw [re.1, h2, ← h5, e4]
      · by_cases hji : j ∈ is
        · exact re.2 j e (by rw [h3 j hji]; exact he)
        · rw [(h4 j hji).2] at he
          exact hj j e hji he
    | _ => cases h
end M

/-! comprehensions -/
namespace M
open PySem PySem.Spec PyProof.Rows L2

theorem take_prefix {m1 m' : List Addr} {L : Addr} (h : (m1 ++ [L]) <+: m') : m'.take (m1.length + 1) = m1 ++ [L] := by
  obtain ⟨t, rfl⟩ := h
  rw [List.take_append_of_le_length (by simp), List.take_of_length_le (by simp)]
theorem prefix_at {m1 m' : List Addr} {L : Addr} (h : (m1 ++ [L]) <+: m') : m'[m1.length]? = some L := by
  obtain ⟨t, rfl⟩ := h
  rw [List.getElem?_append_left (by simp)]
  simp
section
variable {K : PySem.W.Frag} {W0 : WS} {Wd : WD} {σ : L2.St} {ρ : Ev} {H1 : Hp} {m1 : List Addr} {S1 : St'} {L : Addr} {Q : VK} {tg : Tg} {gc : Ev → St' → R Bool} {ge : Ev → St' → R SV}
theorem RunL.bindAt {α : Type} {P : Hp → List Addr → St' → α → Prop} {H : Hp} {m : List Addr} {S : St'} {r : R α} {f : α → St' → R (List D)} (h : RunL K Q Wd H1 m1 S1 (r.bind f)) (fr : Fr H1 m1 S1 H m S)
    (hk : ∀ a S2 H2 m2, StOk K H2 m2 S2 → Fr H m S H2 m2 S2 → RunL K Q Wd H1 m1 S1 (f a S2) → P H2 m2 S2 a) : Run K P Wd H m S r := by
  cases r with
  | bad => exact h
  | exc c p S' => exact fun H' m' ok' f' => h H' m' ok' (fr.trans f')
  | ok a S2 => exact fun H2 m2 ok2 f2 => hk a S2 H2 m2 ok2 f2 h
/-- between two turns: the new list at L is the object behind m1 -/
structure LcAt (K : PySem.W.Frag) (σ : L2.St) (ρ : Ev) (H1 : Hp) (m1 : List Addr) (S1 : St') (L : Addr) (inv : Hp → List Addr → St' → Prop) (H : Hp) (m : List Addr) (S : St') : Prop where
  ok : StOk K H m S
  pre : (m1 ++ [L]) <+: m
  re : RelE K H m S σ ρ
  iv : inv H m S
  fr : Fr H1 m1 S1 H m S
theorem LcAt.step {inv : Hp → List Addr → St' → Prop} {H H' : Hp} {m m' : List Addr} {S S' : St'} (a : LcAt K σ ρ H1 m1 S1 L inv H m S) (mono : ∀ H m S H' m' S', inv H m S → Fr H m S H' m' S' → inv H' m' S') (ok : StOk K H' m' S') (f : Fr H m S H' m' S') : LcAt K σ ρ H1 m1 S1 L inv H' m' S' :=
  ⟨ok, a.pre.trans f.2, a.re.mono f, mono _ _ _ _ _ _ a.iv f, a.fr.trans f⟩
theorem lc_end {inv : Hp → List Addr → St' → Prop} {H : Hp} {m : List Addr} {S : St'} (hk : m1.length = S1.length) (a : LcAt K σ ρ H1 m1 S1 L inv H m S) (h : RunL K Q Wd H1 m1 S1 (lcEnd S1.length S)) : Q (.ref L) H := by
  unfold lcEnd at h
  split at h
  · rename_i acc hS
    have hlt : S1.length < S.length := (List.getElem?_eq_some_iff.mp hS).1
    have e1 : S.take (S1.length + 1) = S.take S1.length ++ [.lst acc] := by rw [List.take_add_one, hS]; rfl
    have e2 : m.take (S1.length + 1) = m1 ++ [L] := by rw [← hk]; exact take_prefix a.pre
    have t := a.ok.take (S1.length + 1)
    have f : Fr H1 m1 S1 H (m1 ++ [L]) (S.take S1.length ++ [.lst acc]) := by
      refine ⟨fun b o e n => ?_, ⟨[L], rfl⟩⟩
      obtain ⟨h1, h2⟩ := a.fr.1 b o e n
      refine ⟨h1, fun z => h2 ?_⟩
      rw [← e1, ← e2] at z
      exact own_take z
    rw [e1, e2] at t
    exact h H m1 L t f (List.prefix_refl _)
  · exact h.elim
theorem lc_turn {inv : Hp → List Addr → St' → Prop} (mono : ∀ H m S H' m' S', inv H m S → Fr H m S H' m' S' → inv H' m' S') {H : Hp} {m : List Addr} {S : St'} {x : D} {v : V} {rest : Unit → St' → R (List D)} (hk : m1.length = S1.length)
    (a : LcAt K σ ρ H1 m1 S1 L inv H m S) (rv : Rep K H (Own m S) v x) (h : RunL K Q Wd H1 m1 S1 ((lcTurn tg gc ge S1.length x ρ S).bind rest)) :
    gD K tg v (wipe σ (tgs tg)) H fun σ2 H2 => wipe σ2 (tgs tg) = wipe σ (tgs tg) ∧ tDT K W0 gc σ2 H2 fun b H3 =>
      if b = true then tD K W0 ge σ2 H3 fun y H4 => ∃ acc, H4 L = some (.lst acc) ∧ acc.length < sizeLine ∧ (∃ m' S', LcAt K σ ρ H1 m1 S1 L inv (upd H4 L (.lst (acc ++ [y]))) m' S' ∧ RunL K Q Wd H1 m1 S1 (rest () S'))
      else ∃ m' S', LcAt K σ ρ H1 m1 S1 L inv H3 m' S' ∧ RunL K Q Wd H1 m1 S1 (rest () S') := by
  unfold lcTurn at h
  split at h
  · exact h.elim
  · rename_i ρ' hb
    obtain ⟨ρ3, hb3, hre⟩ := RelE.of_bind (K := K) (H := H) (m := m) (S := S) hb
    refine ⟨m, S, wipeE ρ (tgs tg), x, ρ3, a.ok, a.re.wipe _, rv, hb3, fun σ2 re2 hl2 hj2 => ⟨?_, ?_⟩⟩
    · have := wipe_eq (vs := tgs tg) hl2 hj2
      rw [this]
      exact wipe_eq (wipe_length _ _) fun j hj => wipe_get hj
    · have re3 : RelE K H m S σ2 ρ' := hre σ2 re2 fun j e hj he => by
        obtain ⟨u, h1, h2⟩ := a.re.2 j e he
        exact ⟨u, by rw [hj2 j hj, wipe_get hj]; exact h1, h2⟩
      rw [R.bind_assoc] at h
      refine ⟨m, S, ρ', a.ok, re3, Run.nox (Wd := Wd) (RunL.bindAt h a.fr fun b S2 H2 m2 ok2 f2 h2 => ?_)⟩
      have a2 := a.step mono ok2 f2
      cases b with
      | false => exact ⟨m2, S2, a2, h2⟩
      | true =>
        simp only [if_true, R.bind_assoc] at h2 ⊢
        refine ⟨m2, S2, ρ', ok2, re3.mono f2, Run.nox (Wd := Wd) (RunL.bindAt h2 a2.fr fun y S3 H3 m3 ok3 f3 h3 u ru => ?_)⟩
        have a3 := a2.step mono ok3 f3
        unfold lcPut at h3
        split at h3
        · rename_i xd S4 hg
          obtain ⟨ok4, f4, r4⟩ := ok3.grab ru hg
          have a4 := a3.step mono ok4 f4
          split at h3
          · rename_i acc hS
            split at h3
            · rename_i hz
              have hL : m3[S1.length]? = some L := by rw [← hk]; exact prefix_at a4.pre
              obtain ⟨vs, g1, g2⟩ := ok4.at_ _ _ _ hL hS
              obtain ⟨ok5, f5⟩ := ok4.write hL hS (fun z => nomatch z) (g2.append (.cons r4 .nil))
              exact ⟨vs, g1, by rw [g2.length]; exact hz, m3, _, a4.step mono ok5 f5, h3⟩
            · exact h3.elim
          · exact h3.elim
        · exact h3.elim
end
section
variable {X : Cx} {W W0 : WS} {pos : Pos}
theorem pd_lcL {elt tge iter : Expr} {ifs : List Expr} {scope : Scope} {own : List (Str × Nat)} {tg : Tg} {gi : Ev → St' → R Src} {gc : Ev → St' → R Bool} {ge : Ev → St' → R SV} (hc : X.calm = true) (hN : X.N.Nodup) (hi : PI X tge iter (tDI X.K W gi)) (ok : BlkOk X.N X.env.scope scope own) (hown : own.map (·.2) = tgs tg)
    (hg : ∀ (s : Shared) (H : Hp) (C : Addr) (cl : List (Str × Addr)) (fp : List Addr), PG (X.blk s H scope (compEnvC scope cl C X.env) fp) tge (gD X.K tg)) (ht : ∀ (s : Shared) (H : Hp) (C : Addr) (cl : List (Str × Addr)) (fp : List Addr), PTs (X.blk s H scope (compEnvC scope cl C X.env) fp) ifs (tDT X.K W0 gc))
    (he : ∀ (s : Shared) (H : Hp) (C : Addr) (cl : List (Str × Addr)) (fp : List Addr), PE (X.blk s H scope (compEnvC scope cl C X.env) fp) elt (tD X.K W0 ge)) (hs : ∀ x, foldedSetIterable iter X.env x = pure x) :
    ∀ σ H Q, tDL X.K W (fun ρ S => (gi ρ S).bind fun src S1 => lcSrc tg gc ge src ρ S1) σ H Q → tLc (tDI X.K W gi) (gD X.K tg) (tDT X.K W0 gc) (tD X.K W0 ge) (own.map (·.2)) σ H Q := by
  intro σ H Q ⟨m, S, ρ, ok0, re, h⟩
  rw [hown]
  refine ⟨m, S, ρ, ok0, re, RunL.bind h fun src S1 H1 m1 ok1 f1 h1 J inv fd iv L hL => ?_⟩
  have re1 := re.mono f1
  obtain ⟨ok2, f2⟩ := ok1.push hL (vs := []) (xs := []) .nil
  have a2 : LcAt X.K σ ρ H1 m1 S1 L inv (upd H1 L (.lst [])) (m1 ++ [L]) (S1 ++ [.lst []]) := ⟨ok2, List.prefix_refl _, re1.mono f2, fd.mono _ _ _ _ _ _ iv f2, f2⟩
  cases src with
  | fix xs =>
    refine ⟨fun i n H' => n = xs.length - i ∧ i ≤ xs.length ∧ ∃ m' S', LcAt X.K σ ρ H1 m1 S1 L inv H' m' S' ∧ RunL X.K Q (W σ) H1 m1 S1 (lcFix tg gc ge S1.length (xs.drop i) ρ S'), ⟨xs.length, by simp, Nat.zero_le _, _, _, a2, h1⟩, ?_⟩
    rintro i n H' ⟨rfl, hi', m', S', a', h'⟩
    by_cases hlt : i < xs.length
    · refine .inr ?_
      have hx : xs[i]? = some xs[i] := List.getElem?_eq_getElem hlt
      obtain ⟨go, yl⟩ := fd.item xs i _ H' m' S' rfl a'.iv a'.ok hx
      refine ⟨go, fun H'' => ∃ m'' S'', LcAt X.K σ ρ H1 m1 S1 L inv H'' m'' S'' ∧ RunL X.K Q (W σ) H1 m1 S1 (lcFix tg gc ge S1.length (xs.drop (i + 1)) ρ S''), fun H'' hh => ⟨xs.length - (i + 1), by omega, rfl, hlt, hh⟩, fun v H2 hy => ?_⟩
      obtain ⟨ok3, f3, rv⟩ := yl v H2 hy
      rw [List.drop_eq_getElem_cons hlt, lcFix] at h'
      exact lc_turn fd.mono ok1.len (a'.step fd.mono ok3 f3) rv h'
    · have e : i = xs.length := by omega
      subst e
      rw [List.drop_length, lcFix] at h'
      exact .inl ⟨fd.stop xs H' m' S' rfl a'.iv a'.ok, lc_end ok1.len a' h'⟩
  | live k =>
    unfold lcSrc at h1
    simp only at h1
    split at h1
    · rename_i ys hys
      refine ⟨fun i n H' => ∃ m' S', LcAt X.K σ ρ H1 m1 S1 L inv H' m' S' ∧ RunL X.K Q (W σ) H1 m1 S1 (lcLive tg gc ge S1.length k n i ρ S'), ⟨ys.length, _, _, a2, h1⟩, ?_⟩
      rintro i n H' ⟨m', S', a', h'⟩
      unfold lcLive at h'
      split at h'
      · rename_i zs hzs
        split at h'
        · rename_i hz
          exact .inl ⟨fd.stopL k zs i H' m' S' rfl a'.iv a'.ok hzs hz, lc_end ok1.len a' h'⟩
        · exact h'.elim
        · rename_i _ d n hd
          obtain ⟨go, yl⟩ := fd.itemL k zs i _ H' m' S' rfl a'.iv a'.ok hzs hd
          refine .inr ⟨go, fun H'' => ∃ m'' S'', LcAt X.K σ ρ H1 m1 S1 L inv H'' m'' S'' ∧ RunL X.K Q (W σ) H1 m1 S1 (lcLive tg gc ge S1.length k n (i + 1) ρ S''), fun H'' hh => ⟨n, by omega, hh⟩, fun v H2 hy => ?_⟩
          obtain ⟨ok3, f3, rv⟩ := yl v H2 hy
          exact lc_turn fd.mono ok1.len (a'.step fd.mono ok3 f3) rv h'
      · exact h'.elim
    · exact h1.elim
end
end M

/-! len({e for .. in ..}), len(set(xs)): the members tuples of ints -/
namespace M
open PySem PySem.Spec PyProof.Rows L2

/-- the set has all that came, and nothing else -/
def Mz (L Ls : List (Addr × List Int)) : Prop := (∀ p ∈ Ls, p ∈ L) ∧ ∀ p ∈ L, p.2 ∈ Ls.map (·.2)
theorem nd_len {α : Type} [DecidableEq α] : ∀ {l d : List α}, l.Nodup → (∀ x ∈ l, x ∈ d) → l.length ≤ d.length
  | [], d, _, _ => by simp
  | x :: l, d, n, h => by
    have h1 := List.nodup_cons.mp n
    have := nd_len (l := l) (d := d.erase x) h1.2 fun y hy => (List.mem_erase_of_ne (fun e => h1.1 (by rw [← e]; exact hy))).mpr (h y (by simp [hy]))
    have e2 := List.length_erase_of_mem (h x (by simp))
    have := List.length_pos_of_mem (h x (by simp))
    simp only [List.length_cons]
    omega
theorem Mz.keys {L Ls : List (Addr × List Int)} (h : Mz L Ls) (n : (Ls.map (·.2)).Nodup) : Ls.length = (dset (L.map (·.2))).length := by
  have p : (Ls.map (·.2)).Perm (dset (L.map (·.2))) := (List.perm_ext_iff_of_nodup n (dset_nodup _)).mpr fun k => by
    rw [dset_mem]
    constructor
    · intro hk
      obtain ⟨q, hq, rfl⟩ := List.mem_map.mp hk
      exact List.mem_map.mpr ⟨q, h.1 q hq, rfl⟩
    · intro hk
      obtain ⟨q, hq, rfl⟩ := List.mem_map.mp hk
      exact h.2 q hq
  simpa using p.length_eq
theorem Mz.le {L Ls : List (Addr × List Int)} (h : Mz L Ls) (n : (Ls.map (·.2)).Nodup) : Ls.length ≤ L.length := by
  rw [h.keys n]
  simpa using dset_le _ (L.map (·.2)) rfl
theorem Mz.nil : Mz [] [] := ⟨fun _ h => h, fun _ h => absurd h (by simp)⟩
theorem Mz.add {L Ls Ls' : List (Addr × List Int)} {a : Addr} {k : List Int} (h : Mz L Ls) (c1 : k ∈ Ls.map (·.2) → Ls' = Ls) (c2 : k ∉ Ls.map (·.2) → Ls'.Perm ((a, k) :: Ls)) : Mz (L ++ [(a, k)]) Ls' := by
  by_cases c : k ∈ Ls.map (·.2)
  · rw [c1 c]
    refine ⟨fun p hp => List.mem_append_left _ (h.1 p hp), fun p hp => ?_⟩
    rcases List.mem_append.mp hp with z | z
    · exact h.2 p z
    · rw [List.mem_singleton.mp z]; exact c
  · have pm := c2 c
    refine ⟨fun p hp => ?_, fun p hp => ?_⟩
    · rcases List.mem_cons.mp (pm.mem_iff.mp hp) with z | z
      · rw [z]; simp
      · exact List.mem_append_left _ (h.1 p z)
    · rw [(pm.map (·.2)).mem_iff, List.map_cons, List.mem_cons]
      rcases List.mem_append.mp hp with z | z
      · exact .inr (h.2 p z)
      · rw [List.mem_singleton.mp z]; exact .inl rfl
theorem st0_at {P : Program} {w : World} {h h' : Heap} {a : Addr} {L : List (Addr × List Int)} (R : SetT0 P w h a L) (k : ∀ o, h.get? a = some o → h'.get? a = some o) : SetT0 P w h' a L := by
  obtain ⟨es, ep, t, ⟨o, h1, h2⟩, r⟩ := R.ex
  exact ⟨es, ep, t, ⟨o, k o h1, h2⟩, r⟩
theorem st0_raw {P : Program} {w : World} {h : Heap} {a : Addr} {L : List (Addr × List Int)} (R : SetT0 P w h a L) : ∃ o, h.get? a = some o ∧ ∀ v, o.data ≠ .cell v := by
  obtain ⟨es, ep, t, ⟨o, h1, _, h3⟩, _⟩ := R.ex
  exact ⟨o, h1, fun v z => by rw [h3] at z; cases z⟩
theorem st0_nd {P : Program} {w : World} {h : Heap} {a : Addr} {L : List (Addr × List Int)} (R : SetT0 P w h a L) : (L.map (·.2)).Nodup := by
  obtain ⟨es, ep, t, _, _, _, n, _⟩ := R.ex
  exact n
theorem add_tup {P : Program} {w : World} {A : Around} {s : Shared} {E : Value → Shared → Prop} {Q : Value → Shared → Prop} {D x : Addr} {k : List Int} {L : List (Addr × List Int)} {es : Array (Int × Value)} {ep : Nat} {t : SetTable} (hu : A.units + 2 < cLine) (R : SetTR P w s.heap D L es ep t) (hx : IsT P w s.heap k x) (few : L.length + 1 < 64)
    (q : ∀ h' tk L', Heap.SameBut D s.heap h' → SetT0 P w h' D L' → (k ∈ L.map (·.2) → L' = L) → (k ∉ L.map (·.2) → L'.Perm ((x, k) :: L)) → Q .none { s with heap := h', toks := tk }) : wpAny (model P w) A (call (.builtin "set.add") [.ref D, .ref x]) Q E s := by
  obtain ⟨o, ho, hex, hd⟩ := R.ob
  refine wpAny_call_entry F.slot_set_add ⟨o, ho, hex.1⟩ F.entry_set_add ?_ (F.args_set_add_2 _ _)
  unfold Builtin.«set.add» Builtin.Frozenset.oneOther
  simp only [List.isEmpty_nil, bind_assoc]
  unfold Builtin.Frozenset.addrOf setAdd
  refine wpAny_bind (wpAny_pure ?_); try dsimp only
  refine wpAny_bind (wpAny_pure ?_); try dsimp only
  refine wpAny_bind (wpAny_holding (wpAny_bind (wpAny_pyHash_tuple (by first | omega | (simp [Around.in1]; omega)) hx ?_)))
  refine add_at (s := { s with toks := s.toks + (k.length + 1) }) R hx (by first | omega | (simp [Around.in1]; omega)) few fun b h' L' es' ep' t' sb R' c1 c2 => ?_
  show wpAny _ _ (ret Value.none) _ _ _
  exact wpAny_pure ⟨_, rfl, q h' _ L' sb R'.t0 c1 c2⟩
section
variable {X : Cx}
/-- W: by the turn, a measure, what was added (by address) -/
def tLsc (K : PySem.W.Frag) (wi : TI) (g : TG) (tt : TT) (te : TE) (vs : List Nat) : TE := fun σ H Q => wi σ H fun J H1 => ∃ W : Nat → Nat → List (Addr × List Int) → Hp → Prop, (∃ m, W 0 m [] H1) ∧ ∀ i m L H, W i m L H →
  (J.stop i H ∧ (∀ p ∈ L, SqT K H p.1 (p.2.map V.int)) ∧ Q (.int ((dset (L.map (·.2))).length : Nat)) H) ∨ (J.go i H ∧ ∃ Nx : List (Addr × List Int) → Hp → Prop, (∀ L' H', Nx L' H' → ∃ m', m' < m ∧ W (i + 1) m' L' H') ∧ ∀ x H', J.yld i H x H' → g x (wipe σ vs) H' fun σ2 H2 => wipe σ2 vs = wipe σ vs ∧ tt σ2 H2 fun b H3 =>
      if b = true then te σ2 H3 fun y H4 => ∃ (a : Addr) (k : List Int), y = .ref a ∧ SqT K H4 a (k.map V.int) ∧ (∀ p ∈ L, SqT K H4 p.1 (p.2.map V.int)) ∧ L.length + 1 < 64 ∧ Nx (L ++ [(a, k)]) H4 else Nx L H3)
theorem pe_lsc {elt tg iter : Expr} {ifs : List Expr} {scope : Scope} {own : List (Str × Nat)} {p pos pos2 : Pos} {wi : TI} {g : TG} {tt : TT} {te : TE} (hu : X.A.units + 70 < cLine) (hc : X.calm = true) (hN : X.N.Nodup) (hl : Gl X "len") (hlm : X.mg "len" = none) (hi : PI X tg iter wi) (ok : BlkOk X.N X.env.scope scope own)
    (hg : ∀ (s : Shared) (H : Hp) (C : Addr) (cl : List (Str × Addr)) (fp : List Addr), PG (X.blk s H scope (compEnvC scope cl C X.env) fp) tg g)
    (ht : ∀ (s : Shared) (H : Hp) (C : Addr) (cl : List (Str × Addr)) (fp : List Addr), PTs (X.blk s H scope (compEnvC scope cl C X.env) fp) ifs tt)
    (he : ∀ (s : Shared) (H : Hp) (C : Addr) (cl : List (Str × Addr)) (fp : List Addr), PE (X.blk s H scope (compEnvC scope cl C X.env) fp) elt te) (hs : ∀ x, foldedSetIterable iter X.env x = pure x) :
    PE X (.Call (.Name "len" p) [.SetComp elt [⟨tg, iter, ifs, 0⟩] scope pos2] [] pos) (tLsc X.K wi g tt te (own.map (·.2))) := by
  refine ⟨fun pins s σ H Q I h => ?_⟩
  refine Call_ (ld_blt I hl hlm PySem.boot_len (PyProof.Rows.callWith_builtin1 (PyProof.Rows.args_cons ?_ rfl) rfl rfl))
  rw [PpSet.eval_SetComp]
  refine wpAny_comprehension_free (use := none) rfl hs (closure_ok fun y hy e => (ok.free y hy e).elim (fun k => I.ok.has _ (.inl k)) fun k => I.ok.has _ (.inr k)) ok.kind (fun y hy e => by rw [ok.uniq y hy, e]) (thn (hi.run pins s σ H _ I h) fun xv s1 hx => thn hx fun itv s2 h2 => ?_)
  obtain ⟨it, fp, tn, J, H2, rfl, I2, T, st2, f2, W, ⟨m0, w0⟩, turn⟩ := h2
  refine PpSet.newSet_ok (newEnv_comp ?_)
  have hDn : H2 s2.heap.objs.size = none := I2.hok.fresh (Nat.le_refl _)
  have fD : FpOk X pins H2 s2.heap.objs.size := I2.fpOk (Nat.le_refl _) hDn
  generalize hob : ({ cls := .type "set", dict := none, data := .set #[] 0 (.fresh 0 0 (!X.w.params.followText "set-order")) } : Obj) = ob
  generalize hs3 : ({ s2 with heap := s2.heap.push ob } : Shared) = s3
  have h3 : s3.heap = s2.heap.push ob := by rw [← hs3]
  have kp : ∀ b o, s2.heap.get? b = some o → s3.heap.get? b = some o := fun b o e => by rw [h3]; exact Heap.get?_push_of_some _ e
  have I3 : Inv X pins σ H2 s3 := by rw [← hs3]; exact I2.kept (t' := s2.toks) fun b o e => Heap.get?_push_of_some _ e
  have gD3 : s3.heap.get? s2.heap.objs.size = some ob := by rw [h3]; exact Heap.get?_push_size _ (by rw [← hob]; rfl)
  have z3 : s3.heap.objs.size = s2.heap.objs.size + 1 := by rw [h3, Heap.size_push]
  have lt : ∀ b ∈ fp, b < s2.heap.objs.size := fun b hb => (T.obj _ _ st2 b hb).elim fun o z => Heap.lt_size z.1
  generalize hD : s2.heap.objs.size = D at hDn fD gD3 z3 lt ⊢
  have nD : ∀ b ∈ fp, b ≠ D := fun b hb => Nat.ne_of_lt (lt b hb)
  have f3 : ∀ b ∈ D :: fp, FpOk X pins H2 b ∧ b < s3.heap.objs.size := fun b hb => (List.mem_cons.mp hb).elim (fun e => by rw [e, z3]; exact ⟨fD, Nat.lt_succ_self _⟩) fun hb => ⟨f2 b hb, by rw [z3]; exact Nat.lt_succ_of_lt (lt b hb)⟩
  have T3 : SetT0 X.prog X.w s3.heap D [] := (setTR_fresh (by rw [gD3, ← hob])).t0
  have I4 := block_start I3 ok hN f3
  generalize hcl : cellsFrom (s3.heap.objs.size + 1) scope.names (cloFrom X.env.cells scope.names []) = cl at I4
  have pg := hg s3 H2 s3.heap.objs.size cl (D :: fp)
  have pt := ht s3 H2 s3.heap.objs.size cl (D :: fp)
  have pe := he s3 H2 s3.heap.objs.size cl (D :: fp)
  have cL : (compEnvC scope cl s3.heap.objs.size X.env).locals = s3.heap.objs.size := rfl
  generalize hQf : (fun (v : Value) (s₂ : Shared) => wpAny (model X.prog X.w) X.A (spliced (backTo pos (starEach [] X.env))) (fun vs s₃ => wpAny (model X.prog X.w) X.A (call (.builtin "len") (v :: vs)) (EP X pins σ Q) X.xe s₃) X.xe s₂) = Qf
  show codeAny (model X.prog X.w) X.A (.compStart (.SetComp elt [⟨tg, iter, ifs, 0⟩] scope pos2) 0 (.ref it) (.ref D) (compEnvC scope cl s3.heap.objs.size X.env)) (compPost (model X.prog X.w) X.A X.xe none _ (.ref D) s3.heap.objs.size) { s3 with heap := pushCells (s3.heap.push { cls := .type "dict", data := .dict #[] }) scope.names }
  generalize hce : compEnvC scope cl s3.heap.objs.size X.env = ce at I4 pg pt pe cL ⊢
  generalize hs4 : ({ s3 with heap := pushCells (s3.heap.push { cls := .type "dict", data := .dict #[] }) scope.names } : Shared) = s4 at I4 ⊢
  have kp4 : ∀ b o, s3.heap.get? b = some o → s4.heap.get? b = some o := fun b o e => by rw [← hs4]; exact pushCells_keeps _ _ _ _ (Heap.get?_push_of_some _ e)
  have st4 : tn 0 s4.heap := T.keep _ _ _ st2 fun b _ o e => kp4 b o (kp b o e)
  have n4 : ∀ b ∈ D :: fp, H2 b = none := fun b hb => (f3 b hb).1.1
  have stat : ∀ {pl : List (Addr × Obj)} {σ' : L2.St} {H' : Hp} {s' : Shared}, Inv (X.blk s3 H2 scope ce (D :: fp)) pl σ' H' s' → ∀ b ∈ D :: fp, H' b = none → (∀ p ∈ pl, p.1 ≠ b) → FpOk (X.blk s3 H2 scope ce (D :: fp)) pl H' b := fun {pl σ' H' s'} I' b hb hn hp =>
    ⟨hn, (I'.ok.exf b hb).1, I'.ok.exfs b hb, .inl hb, (I'.ok.exf b hb).2, fun p z => hp p (by simpa using (show p ∈ ([] : List (Addr × Obj)) ++ pl from z))⟩
  have loop : codeAny (model X.prog X.w) X.A (.compLoop (.SetComp elt [⟨tg, iter, ifs, 0⟩] scope pos2) 0 (.ref it) (.ref D) ce) (compPost (model X.prog X.w) X.A X.xe none Qf (.ref D) s3.heap.objs.size) s4 := by
    refine PpSet.compLoopS_any (fun n s' => ∃ i H' L Ls, Inv (X.blk s3 H2 scope ce (D :: fp)) [] (wipe σ (own.map (·.2))) H' s' ∧ tn i s'.heap ∧ (∀ b ∈ D :: fp, H' b = none) ∧ SetT0 X.prog X.w s'.heap D Ls ∧ Mz L Ls ∧ W i n L H') ?_ m0 ⟨0, H2, [], [], I4, st4, n4, st0_at T3 (kp4 D), Mz.nil, w0⟩
    rintro n s5 ⟨i, H5, L, Ls, I5, st5, n5, t5, mt, w5⟩
    obtain ⟨o5, go5, nc5⟩ := st0_raw t5
    have I5p : Inv (X.blk s3 H2 scope ce (D :: fp)) (pinsAt [D] s5.heap) (wipe σ (own.map (·.2))) H5 s5 := I5.pinned (fp := [D]) (fun b hb => by rw [List.mem_singleton.mp hb]; exact stat I5 D (by simp) (n5 D (by simp)) fun p hp => absurd hp (by simp)) fun b hb => by rw [List.mem_singleton.mp hb]; exact ⟨o5, go5, nc5⟩
    have mp : (D, o5) ∈ pinsAt [D] s5.heap := mem_pinsAt (by simp) go5
    have only : ∀ b ∈ fp, ∀ p ∈ pinsAt [D] s5.heap, p.1 ≠ b := fun b hb p hp e => nD b hb (by rw [← e]; simpa using (of_pinsAt hp).1)
    have at5 : ∀ {s' : Shared}, s'.heap.get? D = some o5 → SetT0 X.prog X.w s'.heap D Ls := fun {s'} e => st0_at t5 fun o z => by rw [go5] at z; cases z; exact e
    rcases turn i n L H5 w5 with ⟨stop, sq, qq⟩ | ⟨go, Nx, hNx, step⟩
    · refine thnF (T.done (X.blk s3 H2 scope ce (D :: fp)) rfl rfl rfl hc i _ s5 _ H5 (fun _ _ => False) I5p (fun b hb => stat I5p b (by simp [hb]) (n5 b (by simp [hb])) (only b hb)) st5 stop) fun r s6 ⟨hr, I6⟩ => ?_
      subst hr
      have I7 : Inv X pins σ H5 s6 := I3.call' (ch := D :: fp) I6.os I6.base I6.hok I6.bare fun b hb => ⟨(f3 b hb).1.2.2.2.1, (f3 b hb).1.2.1, (f3 b hb).1.2.2.2.2.1, (f3 b hb).1.2.2.2.2.2⟩
      have t6 : SetT0 X.prog X.w s6.heap D Ls := at5 (I6.pin (D, o5) (List.mem_append_right _ mp)).1
      have nC : H5 s3.heap.objs.size = none := by rw [← cL]; exact I6.free
      obtain ⟨m, hn, _⟩ := I6.loc
      obtain ⟨c0, c1, c2, c3, c4, c5⟩ : FpOk X pins H5 s3.heap.objs.size := I3.fpOk (Nat.le_refl _) nC
      refine ⟨m, by rw [← cL]; exact hn, fun h' sb => ?_⟩
      have I8 := I7.turned (t' := s6.toks) (fun b o hb e => (sb.2 b hb).trans e) c0 c1 c3 c4 c5
      have t8 : SetT0 X.prog X.w h' D Ls := st0_at t6 fun o e => (sb.2 D (by rw [z3]; exact Nat.ne_of_lt (Nat.lt_succ_self _))).trans e
      obtain ⟨es, ep, t, R⟩ := t8.full fun p hp => I8.isT (sq p (mt.1 p hp))
      rw [← hQf]
      refine PyProof.Rows.args_nil ?_
      obtain ⟨o, ho, hex, hd⟩ := R.ob
      have hn : es.size = (dset (L.map (·.2))).length := (SetTR.size (s := { s6 with heap := h' }) R).trans (mt.keys R.nd)
      have hle := R.few
      have hkk := mt.keys R.nd
      exact call_len_set ho hex hd (SetTR.fits (s := { s6 with heap := h' }) R) (by rw [hn]; first | omega | (unfold scanBound at *; omega)) ⟨.int ((dset (L.map (·.2))).length : Nat), H5, I8.tok _, ⟨_, by rw [hn]⟩, qq⟩
    · refine thnF (T.item (X.blk s3 H2 scope ce (D :: fp)) rfl rfl rfl hc i _ s5 _ H5 (fun _ _ => False) I5p (fun b hb => stat I5p b (by simp [hb]) (n5 b (by simp [hb])) (only b hb)) st5 go) fun r s6 ⟨u, hr, h6⟩ => ?_
      subst hr
      refine thnF h6 fun _ s7 ⟨x, H7, I7, r7, y7, st7, n7⟩ => ?_
      have I7' := I7.pinned (fp := fp) (fun b hb => stat I7 b (by simp [hb]) (n7 b hb) (only b hb)) (T.obj _ _ st7)
      refine thnF (pg.run _ s7 _ H7 x u _ I7' r7 (step x H7 y7)) fun _ s8 ⟨σ8, H8, I8, hw8, q8⟩ => ?_
      refine thnF (pt.run _ s8 σ8 H8 _ I8 q8) fun b s9 ⟨H9, I9, q9⟩ => ?_
      have isD : ∀ {s' : Shared} {H' : Hp}, Inv (X.blk s3 H2 scope ce (D :: fp)) (pinsAt [D] s5.heap ++ pinsAt fp s7.heap) σ8 H' s' → s'.heap.get? D = some o5 ∧ H' D = none := fun {s' H'} I' =>
        let z := I'.pin (D, o5) (List.mem_append_right _ (List.mem_append_left _ mp))
        ⟨z.1, z.2.1⟩
      have less : ∀ {s' : Shared} {H' : Hp}, Inv (X.blk s3 H2 scope ce (D :: fp)) (pinsAt [D] s5.heap ++ pinsAt fp s7.heap) σ8 H' s' → Inv (X.blk s3 H2 scope ce (D :: fp)) (pinsAt fp s7.heap) σ8 H' s' := fun {s' H'} I' => I'.pins_of fun p hp => I'.pin p (List.mem_append_right _ (List.mem_append_right _ hp))
      have fin : ∀ {s' : Shared} {H' : Hp} {L' Ls' : List (Addr × List Int)}, Inv (X.blk s3 H2 scope ce (D :: fp)) (pinsAt fp s7.heap) σ8 H' s' → H' D = none → SetT0 X.prog X.w s'.heap D Ls' → Mz L' Ls' → Nx L' H' → ∃ m, m < n ∧ ∃ i H' L Ls, Inv (X.blk s3 H2 scope ce (D :: fp)) [] (wipe σ (own.map (·.2))) H' s' ∧ tn i s'.heap ∧ (∀ b ∈ D :: fp, H' b = none) ∧ SetT0 X.prog X.w s'.heap D Ls ∧ Mz L Ls ∧ W i m L H' := fun {s' H' L' Ls'} I' hD' t' mt' nx => by
        obtain ⟨m', hm, w'⟩ := hNx L' H' nx
        have pin' : ∀ b ∈ fp, ∀ o, s7.heap.get? b = some o → s'.heap.get? b = some o ∧ H' b = none := fun b hb o e => let z := I'.pin (b, o) (List.mem_append_right _ (mem_pinsAt hb e)); ⟨z.1, z.2.1⟩
        refine ⟨m', hm, i + 1, H', L', Ls', (I'.pins_of fun p hp => absurd hp (by simp)).weak (by rw [← hw8, wipe_length]) (fun j v e => ?_), T.keep _ _ _ st7 fun b hb o e => (pin' b hb o e).1, fun b hb => ?_, t', mt', w'⟩
        · rw [← hw8] at e; exact (wipe_some e).1
        · rcases List.mem_cons.mp hb with e | hb
          · rw [e]; exact hD'
          · obtain ⟨o, e, _⟩ := T.obj _ _ st7 b hb
            exact (pin' b hb o e).2
      cases b with
      | false =>
        simp only [Bool.false_eq_true, if_false] at q9 ⊢
        exact fin (less I9) (isD I9).2 (at5 (isD I9).1) mt q9
      | true =>
        simp only [if_true] at q9 ⊢
        refine thnF (pe.run _ s9 σ8 H9 _ I9 q9) fun z s10 ⟨yv, H10, I10, r10, a, k, ey, sqa, sqL, few, nx⟩ => ?_
        subst ey
        cases r10
        obtain ⟨es, ep, t, R⟩ := (at5 (isD I10).1).full fun p hp => I10.isT (sqL p (mt.1 p hp))
        have hle := mt.le R.nd
        refine add_tup (A := X.A) (by omega) R (I10.isT sqa) (by omega) fun h' tk L' sb R' c1 c2 => ?_
        have J := less I10
        have fD' := stat J D (by simp) (isD I10).2 fun p hp e => nD p.1 (of_pinsAt hp).1 e
        exact fin (J.turned (t' := tk) (fun b o hb e => (sb.2 b hb).trans e) fD'.1 fD'.2.1 fD'.2.2.2.1 fD'.2.2.2.2.1 fD'.2.2.2.2.2) (isD I10).2 R' (mt.add c1 c2) nx
  exact PpSet.codeAny_compStart_set loop (T.self X.A 0 _ _ _ st4 loop)
end
theorem asTups_vs {K : PySem.W.Frag} {H : Hp} {N : Addr → Prop} : ∀ {xs : List D} {ks : List (List Int)} {vs : List V}, asTups xs = some ks → Reps K H N vs xs → ∃ L : List (Addr × List Int), vs = L.map (fun p => V.ref p.1) ∧ L.map (·.2) = ks ∧ ∀ p ∈ L, SqT K H p.1 (p.2.map V.int)
  | [], _, _, e, .nil => by cases e; exact ⟨[], rfl, rfl, fun p hp => absurd hp (by simp)⟩
  | .tup xs :: r, ks, _, e, .cons q t => by
    obtain ⟨k, e1, e2⟩ := Option.bind_eq_some_iff.mp e
    obtain ⟨ks', e3, rfl⟩ := Option.map_eq_some_iff.mp e2
    obtain ⟨L, rfl, rfl, h3⟩ := asTups_vs e3 t
    cases q with
    | tup q1 q2 =>
      cases q2.ints e1
      exact ⟨(_, k) :: L, rfl, rfl, fun p hp => (List.mem_cons.mp hp).elim (fun z => by rw [z]; exact q1.sq) (h3 p)⟩
  | .int _ :: _, _, _, e, _ => by cases e
  | .non :: _, _, _, e, _ => by cases e
  | .bl _ :: _, _, _, e, _ => by cases e
  | .str _ :: _, _, _, e, _ => by cases e
  | .lst _ :: _, _, _, e, _ => by cases e
theorem pd_lensett {X : Cx} {W : WS} {a : Expr} {ga : Ev → St' → R SV} {p p2 q pos : Pos} (hu : X.A.units + 70 < cLine) (hc : X.calm = true) (hg : Gl X "len") (hm : X.mg "len" = none) (hg2 : Gl X "set") (hm2 : X.mg "set" = none) (hst : noStar a = true) (ha : PE X a (tD X.K W ga)) :
    PE X (.Call (.Name "len" p) [.Call (.Name "set" p2) [a] [] q] [] pos) (tD X.K W fun ρ S => (ga ρ S).bind fun x S1 => R.opt (((peek S1 x).bind lensettD).map .t) S1) := by
  refine ⟨fun pins s σ H Q I hw => ?_⟩
  refine Call_ (ld_blt I hg hm PySem.boot_len (PyProof.Rows.callWith_builtin1 (PyProof.Rows.args_cons ?_ rfl) rfl rfl))
  have na : starEach [a] X.env = (false, eval a X.env) :: starEach [] X.env := star_cons hst
  obtain ⟨m, S, ρ, ok, re, h⟩ := hw
  refine Call_ (ld_blt I hg2 hm2 boot_set (PyProof.Rows.callWith_type1 (PyProof.Rows.args_cons (thn (ha.run pins s σ H (fun x H1 => ∃ (l : Addr) (L : List (Addr × List Int)) (m1 : List Addr) (S1 : St'), x = .ref l ∧ SqL X.K H1 l (L.map fun p => V.ref p.1) ∧ (∀ p ∈ L, SqT X.K H1 p.1 (p.2.map V.int)) ∧ L.length < 64 ∧ StOk X.K H1 m1 S1 ∧ Fol X.K H1 m1 S1 (.int ((dset (L.map (·.2))).length : Nat)) Q) I ?_) fun v s1 ⟨x, H1, I1, r1, q1⟩ => PyProof.Rows.args_nil ?_) na) na rfl))
  · refine tD_bind ok re h fun x v S1 H1 m1 ok1 re1 f1 rv h1 => ?_
    obtain ⟨r, e, qq⟩ := Run.opt h1 ok1
    obtain ⟨r', e4, rfl⟩ := Option.map_eq_some_iff.mp e
    obtain ⟨d, e1, e5⟩ := Option.bind_eq_some_iff.mp e4
    have pr := ok1.peek rv e1
    cases d <;> first | (cases e5; done) | skip
    obtain ⟨ks, e3, e7⟩ := Option.bind_eq_some_iff.mp e5
    split at e7
    · rename_i hb
      cases e7
      obtain ⟨l, vs, rfl, g1, g2⟩ := pr.lst
      obtain ⟨L, rfl, rfl, h3⟩ := asTups_vs e3 g2
      exact ⟨l, L, m1, S1, rfl, .inl g1, h3, by simpa using hb, ok1, fun H' v o f hv => qq H' o f v hv⟩
    · cases e7
  · obtain ⟨l, L, m1, S1, rfl, hq, hk, few, ok1, q1⟩ := q1
    cases r1
    obtain ⟨its, r, pl, hz⟩ := I1.list hq
    refine call_set_tups (P := X.prog) (w := X.w) L (I1.ok.hd hc) pl.isList (by simpa using refs_of_vals r) (fun p hp => I1.isT (hk p hp)) few (by omega) fun h' tk Ls es ep t R g kp => ?_
    refine PyProof.Rows.args_nil ?_
    have mt : Mz L Ls := ⟨fun p hp => List.mem_of_mem_take (g.sub p hp), fun p hp => g.all p (by rw [List.take_length]; exact hp)⟩
    have I2 : Inv X pins σ H1 { s1 with heap := h', toks := tk } := I1.kept kp
    obtain ⟨o, ho, hex, hd⟩ := R.ob
    have hn : es.size = (dset (L.map (·.2))).length := (SetTR.size (s := { s1 with heap := h', toks := tk }) R).trans (mt.keys R.nd)
    have hle := mt.le R.nd
    have hkk := mt.keys R.nd
    refine call_len_set ho hex hd (SetTR.fits (s := { s1 with heap := h', toks := tk }) R) (by rw [hn]; first | omega | (unfold scanBound at *; omega)) ⟨.int ((dset (L.map (·.2))).length : Nat), H1, I2.tok _, ⟨_, by rw [hn]⟩, q1.here ok1 (.int _)⟩
section
variable {K : PySem.W.Frag} {σ : L2.St} {ρ : Ev} {W0 : WS} {Wd : WD} {tg : Tg} {gc : Ev → St' → R Bool} {ge : Ev → St' → R SV}
/-- between two turns -/
structure ScAt (K : PySem.W.Frag) (σ : L2.St) (ρ : Ev) (inv : Hp → List Addr → St' → Prop) (L : List (Addr × List Int)) (H : Hp) (m : List Addr) (S : St') : Prop where
  ok : StOk K H m S
  re : RelE K H m S σ ρ
  iv : inv H m S
  all : ∀ p ∈ L, QT K H (Own m S) p.1 (p.2.map V.int)
theorem ScAt.step {inv : Hp → List Addr → St' → Prop} {L : List (Addr × List Int)} {H H' : Hp} {m m' : List Addr} {S S' : St'} (a : ScAt K σ ρ inv L H m S) (mono : ∀ H m S H' m' S', inv H m S → Fr H m S H' m' S' → inv H' m' S') (ok : StOk K H' m' S') (f : Fr H m S H' m' S') : ScAt K σ ρ inv L H' m' S' :=
  ⟨ok, a.re.mono f, mono _ _ _ _ _ _ a.iv f, fun p hp => (a.all p hp).mono f.1⟩
theorem sc_turn {β : Type} {P : Hp → List Addr → St' → β → Prop} {inv : Hp → List Addr → St' → Prop} (mono : ∀ H m S H' m' S', inv H m S → Fr H m S H' m' S' → inv H' m' S') {L : List (Addr × List Int)} {H : Hp} {m : List Addr} {S : St'} {x : D} {v : V} {rest : List (List Int) → St' → R β}
    (a : ScAt K σ ρ inv L H m S) (rv : Rep K H (Own m S) v x) (h : Run K P Wd H m S ((scTurn tg gc ge (L.map (·.2)) x ρ S).bind rest)) :
    gD K tg v (wipe σ (tgs tg)) H fun σ2 H2 => wipe σ2 (tgs tg) = wipe σ (tgs tg) ∧ tDT K W0 gc σ2 H2 fun b H3 =>
      if b = true then tD K W0 ge σ2 H3 fun y H4 => ∃ (b : Addr) (k : List Int), y = .ref b ∧ SqT K H4 b (k.map V.int) ∧ (∀ p ∈ L, SqT K H4 p.1 (p.2.map V.int)) ∧ L.length + 1 < 64 ∧ ∃ m' S', ScAt K σ ρ inv (L ++ [(b, k)]) H4 m' S' ∧ Run K P Wd H4 m' S' (rest ((L ++ [(b, k)]).map (·.2)) S')
      else ∃ m' S', ScAt K σ ρ inv L H3 m' S' ∧ Run K P Wd H3 m' S' (rest (L.map (·.2)) S') := by
  unfold scTurn at h
  split at h
  · exact h.elim
  · rename_i ρ' hb
    obtain ⟨ρ3, hb3, hre⟩ := RelE.of_bind (K := K) (H := H) (m := m) (S := S) hb
    refine ⟨m, S, wipeE ρ (tgs tg), x, ρ3, a.ok, a.re.wipe _, rv, hb3, fun σ2 re2 hl2 hj2 => ⟨?_, ?_⟩⟩
    · rw [wipe_eq (vs := tgs tg) hl2 hj2]
      exact wipe_eq (wipe_length _ _) fun j hj => wipe_get hj
    · have re3 : RelE K H m S σ2 ρ' := hre σ2 re2 fun j e hj he => by
        obtain ⟨u, h1, h2⟩ := a.re.2 j e he
        exact ⟨u, by rw [hj2 j hj, wipe_get hj]; exact h1, h2⟩
      rw [R.bind_assoc] at h
      refine ⟨m, S, ρ', a.ok, re3, Run.nox (Wd := Wd) (Run.bind h fun b S2 H2 m2 ok2 f2 h2 => ?_)⟩
      have a2 := a.step mono ok2 f2
      cases b with
      | false => exact ⟨m2, S2, a2, h2⟩
      | true =>
        simp only [if_true, R.bind_assoc] at h2 ⊢
        refine ⟨m2, S2, ρ', ok2, re3.mono f2, Run.nox (Wd := Wd) (Run.bind h2 fun y S3 H3 m3 ok3 f3 h3 u ru => ?_)⟩
        have a3 := a2.step mono ok3 f3
        unfold scAdd at h3
        split at h3
        · rename_i xs
          rw [RepS] at ru
          cases ru with
          | @tup b vs _ q r =>
            split at h3
            · rename_i k hk
              split at h3
              · rename_i hz
                cases r.ints hk
                refine ⟨b, k, rfl, q.sq, fun p hp => (a3.all p hp).sq, by simpa using hz, m3, S3, ⟨a3.ok, a3.re, a3.iv, fun p hp => ?_⟩, by simpa using h3⟩
                rcases List.mem_append.mp hp with z | z
                · exact a3.all p z
                · rw [List.mem_singleton.mp z]; exact q
              · exact h3.elim
            · exact h3.elim
        · exact h3.elim
end
section
variable {X : Cx} {W W0 : WS}
theorem pd_lsc {tg : Tg} {gi : Ev → St' → R Src} {gc : Ev → St' → R Bool} {ge : Ev → St' → R SV} :
    ∀ σ H Q, tD X.K W (fun ρ S => (gi ρ S).bind fun src S1 => (scSrc tg gc ge src ρ S1).bind fun ks S2 => .ok (.t (.int ((dset ks).length : Nat))) S2) σ H Q → tLsc X.K (tDI X.K W gi) (gD X.K tg) (tDT X.K W0 gc) (tD X.K W0 ge) (tgs tg) σ H Q := by
  intro σ H Q ⟨m, S, ρ, ok0, re, h⟩
  refine ⟨m, S, ρ, ok0, re, Run.bind h fun src S1 H1 m1 ok1 f1 h1 J inv fd iv => ?_⟩
  cases src with
  | live k => exact h1.elim
  | fix xs =>
    have a1 : ScAt X.K σ ρ inv [] H1 m1 S1 := ⟨ok1, re.mono f1, iv, fun p hp => absurd hp (by simp)⟩
    generalize hP : (fun (H' : Hp) (m' : List Addr) (S' : St') (d : SV) => ∀ v, RepS X.K H' m' S' v d → Q v H') = P at h1
    refine ⟨fun i n L H' => n = xs.length - i ∧ i ≤ xs.length ∧ ∃ m' S', ScAt X.K σ ρ inv L H' m' S' ∧ Run X.K P (W σ) H' m' S' ((scFix tg gc ge (xs.drop i) (L.map (·.2)) ρ S').bind fun ks S2 => .ok (.t (.int ((dset ks).length : Nat))) S2), ⟨xs.length, by simp, Nat.zero_le _, _, _, a1, h1⟩, ?_⟩
    rintro i n L H' ⟨rfl, hi', m', S', a', h'⟩
    by_cases hlt : i < xs.length
    · refine .inr ?_
      have hx : xs[i]? = some xs[i] := List.getElem?_eq_getElem hlt
      obtain ⟨go, yl⟩ := fd.item xs i _ H' m' S' rfl a'.iv a'.ok hx
      refine ⟨go, fun L' H'' => ∃ m'' S'', ScAt X.K σ ρ inv L' H'' m'' S'' ∧ Run X.K P (W σ) H'' m'' S'' ((scFix tg gc ge (xs.drop (i + 1)) (L'.map (·.2)) ρ S'').bind fun ks S2 => .ok (.t (.int ((dset ks).length : Nat))) S2), fun L' H'' hh => ⟨xs.length - (i + 1), by omega, rfl, hlt, hh⟩, fun v H2 hy => ?_⟩
      obtain ⟨ok3, f3, rv⟩ := yl v H2 hy
      rw [List.drop_eq_getElem_cons hlt, scFix, R.bind_assoc] at h'
      exact sc_turn fd.mono (a'.step fd.mono ok3 f3) rv (h'.mono f3)
    · have e : i = xs.length := by omega
      subst e
      rw [List.drop_length, scFix] at h'
      refine .inl ⟨fd.stop xs H' m' S' rfl a'.iv a'.ok, fun p hp => (a'.all p hp).sq, ?_⟩
      subst hP
      exact h' H' m' a'.ok Fr.refl _ (by rw [RepS]; exact .int _)
end
end M

/-! statements -/
namespace M
open PySem PySem.Spec PyProof.Rows L2

def RunO (K : PySem.W.Frag) (W : WS) (E : Ends) (H : Hp) (m : List Addr) (S : St') : Out → Prop
  | .nx ρ S' => ∀ H' m' σ', StOk K H' m' S' → Fr H m S H' m' S' → RelE K H' m' S' σ' ρ → E.nx σ' H'
  | .rt v S' => ∀ H' m' u, StOk K H' m' S' → Fr H m S H' m' S' → RepS K H' m' S' u v → E.rt u H'
  | .bk ρ S' => ∀ H' m' σ', StOk K H' m' S' → Fr H m S H' m' S' → RelE K H' m' S' σ' ρ → E.bk σ' H'
  | .ct ρ S' => ∀ H' m' σ', StOk K H' m' S' → Fr H m S H' m' S' → RelE K H' m' S' σ' ρ → E.ct σ' H'
  | .exc c p ρ S' => ∀ H' m' σ', StOk K H' m' S' → Fr H m S H' m' S' → RelE K H' m' S' σ' ρ → W σ' c p H' m' S'
  | .bad => False
def tDS (K : PySem.W.Frag) (W : WS) (g : Ev → St' → Out) : TS := fun E σ H => ∃ m S ρ, StOk K H m S ∧ RelE K H m S σ ρ ∧ RunO K W E H m S (g ρ S)
theorem PS_imp {X : Cx} {e : Stmt} {t t' : TS} (h : PS X e t) (i : ∀ E σ H, t' E σ H → t E σ H) : PS X e t' := ⟨fun pins s σ H E I hw => h.run pins s σ H E I (i _ _ _ hw)⟩
theorem PSs_imp {X : Cx} {e : List Stmt} {t t' : TS} (h : PSs X e t) (i : ∀ E σ H, t' E σ H → t E σ H) : PSs X e t' := ⟨fun pins s σ H E I hw => h.run pins s σ H E I (i _ _ _ hw)⟩
section
variable {K : PySem.W.Frag} {W : WS} {E : Ends} {σ : L2.St} {ρ : Ev} {H H1 : Hp} {m m1 : List Addr} {S S1 : St'}
theorem RunO.mono {o : Out} (h : RunO K W E H m S o) (f : Fr H m S H1 m1 S1) : RunO K W E H1 m1 S1 o := by
  cases o with
  | nx ρ S' => exact fun H' m' σ' ok' f' r' => h H' m' σ' ok' (f.trans f') r'
  | rt v S' => exact fun H' m' σ' ok' f' r' => h H' m' σ' ok' (f.trans f') r'
  | bk ρ S' => exact fun H' m' σ' ok' f' r' => h H' m' σ' ok' (f.trans f') r'
  | ct ρ S' => exact fun H' m' σ' ok' f' r' => h H' m' σ' ok' (f.trans f') r'
  | exc c p ρ S' => exact fun H' m' σ' ok' f' r' => h H' m' σ' ok' (f.trans f') r'
  | bad => exact h
/-- an expression, then the rest -/
theorem RunO.of {α : Type} {P : Hp → List Addr → St' → α → Prop} {r : R α} {k : α → St' → Out} (re : RelE K H m S σ ρ) (h : RunO K W E H m S (Out.of ρ r k))
    (hk : ∀ a S1 H1 m1, StOk K H1 m1 S1 → Fr H m S H1 m1 S1 → RunO K W E H1 m1 S1 (k a S1) → P H1 m1 S1 a) : Run K P (W σ) H m S r := by
  cases r with
  | ok a S' => exact fun H1 m1 ok1 f1 => hk a S' H1 m1 ok1 f1 (RunO.mono h f1)
  | exc c p S' => exact fun H1 m1 ok1 f1 => h H1 m1 σ ok1 f1 (re.mono f1)
  | bad => exact h
theorem RunO.ofL {r : R (List D)} {k : List D → St' → Out} {Q : VK} (re : RelE K H m S σ ρ) (h : RunO K W E H m S (Out.of ρ r k))
    (hk : ∀ xs S' H' m' p, StOk K H' (m' ++ [p]) (S' ++ [.lst xs]) → Fr H m S H' (m' ++ [p]) (S' ++ [.lst xs]) → m <+: m' → RunO K W E H m S (k xs S') → Q (.ref p) H') : RunL K Q (W σ) H m S r := by
  cases r with
  | ok a S' => exact fun H' m' p ok' f' hp => hk a S' H' m' p ok' f' hp h
  | exc c p S' => exact fun H1 m1 ok1 f1 => h H1 m1 σ ok1 f1 (re.mono f1)
  | bad => exact h
end
section
variable {X : Cx} {W : WS} {a b c : Expr} {ga gb gc : Ev → St' → R SV} {pos p : Pos} {st : Stmt} {sts sts' : List Stmt} {gs gs' : Ev → St' → Out}
theorem pss_D0 : PSs X [] (tDS X.K W fun ρ S => .nx ρ S) := PSs_imp pss_nil fun E σ H ⟨m, S, ρ, ok, re, h⟩ => h H m σ ok .refl re
theorem pss_D (h1 : PS X st (tDS X.K W gs)) (h2 : PSs X sts (tDS X.K W gs')) : PSs X (st :: sts) (tDS X.K W fun ρ S => (gs ρ S).seq fun ρ' S' => gs' ρ' S') := by
  refine PSs_imp (pss_cons h1 h2) fun E σ H ⟨m, S, ρ, ok, re, h⟩ => ⟨m, S, ρ, ok, re, ?_⟩
  dsimp only at h
  revert h
  cases gs ρ S with
  | nx ρ1 S1 => exact fun h H' m' σ' ok' f' re' => ⟨m', S1, ρ1, ok', re', RunO.mono h f'⟩
  | rt v S1 => exact fun h => h
  | bk v S1 => exact fun h => h
  | ct v S1 => exact fun h => h
  | exc c p ρ S1 => exact fun h => h
  | bad => exact fun h => h
theorem ps_passD : PS X (.Pass pos) (tDS X.K W fun ρ S => .nx ρ S) := PS_imp ps_pass fun E σ H ⟨m, S, ρ, ok, re, h⟩ => h H m σ ok .refl re
theorem ps_docD {x : Str} {j : Nat} : PS X (.Expr (.Constant (.str x) j p) pos) (tDS X.K W fun ρ S => .nx ρ S) := PS_imp ps_doc fun E σ H ⟨m, S, ρ, ok, re, h⟩ => h H m σ ok .refl re
theorem ps_exprD (ha : PE X a (tD X.K W ga)) (hs : swapsWith a none pos.line X.env = pure false) : PS X (.Expr a pos) (tDS X.K W fun ρ S => Out.of ρ (ga ρ S) fun _ S1 => .nx ρ S1) :=
  PS_imp (ps_expr ha hs) fun E σ H ⟨m, S, ρ, ok, re, h⟩ => ⟨m, S, ρ, ok, re, RunO.of re h fun v S1 H1 m1 ok1 f1 h1 u ru => h1 H1 m1 σ ok1 .refl (re.mono f1)⟩
theorem ps_retD (ha : PE X a (tD X.K W ga)) : PS X (.Return (some a) pos) (tDS X.K W fun ρ S => Out.of ρ (ga ρ S) fun v S1 => .rt v S1) :=
  PS_imp (ps_ret ha) fun E σ H ⟨m, S, ρ, ok, re, h⟩ => ⟨m, S, ρ, ok, re, RunO.of re h fun v S1 H1 m1 ok1 f1 h1 u ru => h1 H1 m1 u ok1 .refl ru⟩
theorem ps_retND : PS X (.Return none pos) (tDS X.K W fun ρ S => .rt (.t .non) S) := PS_imp ps_retN fun E σ H ⟨m, S, ρ, ok, re, h⟩ => h H m _ ok .refl .non
theorem ps_ifD {t : Ev → St' → R Bool} (hc : PT X c (tDT X.K W t)) (h1 : PSs X sts (tDS X.K W gs)) (h2 : PSs X sts' (tDS X.K W gs')) : PS X (.If c sts sts' pos) (tDS X.K W fun ρ S => Out.of ρ (t ρ S) fun k S1 => if k then gs ρ S1 else gs' ρ S1) :=
  PS_imp (ps_if hc h1 h2) fun E σ H ⟨m, S, ρ, ok, re, h⟩ => ⟨m, S, ρ, ok, re, RunO.of re h fun k S1 H1 m1 ok1 f1 h1 => by
    cases k with
    | true => exact ⟨m1, S1, ρ, ok1, re.mono f1, h1⟩
    | false => exact ⟨m1, S1, ρ, ok1, re.mono f1, h1⟩⟩
/-- x = e -/
theorem ps_setD {i : Nat} {x : Str} {p' : Pos} (hN : X.N.Nodup) (hi : X.N[i]? = some x) (hx : Loc X.env.scope x) (hf : X.fn x = true ∨ X.env.scope.names.lookup x = some .local) (hs : swapsWith a (some (.Name x p')) pos.line X.env = pure false)
    (ha : PE X a (tD X.K W ga)) : PS X (.Assign [.Name x p'] a pos) (tDS X.K W fun ρ S => Out.of ρ (ga ρ S) fun v S1 => .nx (ρ.set i (some v)) S1) :=
  PS_imp (ps_set hN hi hx ha hs hf) fun E σ H ⟨m, S, ρ, ok, re, h⟩ => ⟨m, S, ρ, ok, re, RunO.of re h fun v S1 H1 m1 ok1 f1 h1 u ru => h1 H1 m1 _ ok1 .refl ((re.mono f1).set i ru)⟩
/-- x = a new list that is changed later -/
theorem ps_newD {i : Nat} {x : Str} {p' : Pos} {gl : Ev → St' → R (List D)} (hN : X.N.Nodup) (hi : X.N[i]? = some x) (hx : Loc X.env.scope x) (hf : X.fn x = true ∨ X.env.scope.names.lookup x = some .local) (hs : swapsWith a (some (.Name x p')) pos.line X.env = pure false)
    (ha : PE X a (tDL X.K W gl)) : PS X (.Assign [.Name x p'] a pos) (tDS X.K W fun ρ S => Out.of ρ (gl ρ S) fun xs S1 => .nx (ρ.set i (some (.o S1.length))) (S1 ++ [.lst xs])) :=
  PS_imp (ps_set hN hi hx ha hs hf) fun E σ H ⟨m, S, ρ, ok, re, h⟩ => ⟨m, S, ρ, ok, re, RunO.ofL re h fun xs S' H' m' q ok' f' hp hk => by
    have hl : m'.length = S'.length := by have := ok'.len; simpa using this
    exact hk H' _ _ ok' f' ((re.mono f').set i (show RepS X.K H' (m' ++ [q]) (S' ++ [.lst xs]) (.ref q) (.o S'.length) from ⟨q, by rw [← hl]; simp, rfl⟩))⟩
/-- (a, b) = e -/
theorem ps_tpD {is : List Nat} {es : List Expr} {k : Nat} {p' : Pos} (hc : X.calm = true) (hN : X.N.Nodup) (ht : TgsOk X is es) (hs : swapsWithSole [.Tuple es k p'] a pos.line X.env = pure false) (hw : swappedStores [.Tuple es k p'] a X.env = pure none)
    (ha : PE X a (tD X.K W ga)) : PS X (.Assign [.Tuple es k p'] a pos) (tDS X.K W fun ρ S => Out.of ρ (ga ρ S) fun v S1 => tpO ρ is v S1) := by
  have h1 : (assignEach [.Tuple es k p'] X.env).map (·.2) = [assign (.Tuple es k p') X.env] := by rw [assignEach, assignEach]; rfl; intro _ _ z; cases z
  refine PS_imp (ps_asg ha (pg_tp hc hN ht) hs hw h1) fun E σ H ⟨m, S, ρ, ok, re, h⟩ => ⟨m, S, ρ, ok, re, RunO.of re h fun v S1 H1 m1 ok1 f1 h1 u ru => ?_⟩
  unfold tpO at h1
  cases v with
  | t d =>
    cases d with
    | tup ds =>
      simp only at h1
      split at h1
      · rename_i ρ' hb
        exact ⟨m1, S1, ρ, .tup ds, ρ', ok1, re.mono f1, ru, hb, fun σ' re' _ _ => h1 H1 m1 σ' ok1 .refl re'⟩
      · exact h1.elim
    | _ => exact h1.elim
  | _ => exact h1.elim
/-- a, b = x, y -/
theorem ps_parD {i j : Nat} {x y : Str} {px py pt pt2 : Pos} {kt k2 : Nat} (hc : X.calm = true) (hN : X.N.Nodup) (hi : X.N[i]? = some x) (hj : X.N[j]? = some y) (hij : i ≠ j) (hx : X.env.scope.names.lookup x = some .local) (hy : X.env.scope.names.lookup y = some .local)
    (hst : noStar a = true) (hst2 : noStar b = true) (ha : PE X a (tD X.K W ga)) (hb : PE X b (tD X.K W gb)) (hw : swappedStores [.Tuple [.Name x px, .Name y py] kt pt] (.Tuple [a, b] k2 pt2) X.env = pure (some [x, y])) :
    PS X (.Assign [.Tuple [.Name x px, .Name y py] kt pt] (.Tuple [a, b] k2 pt2) pos) (tDS X.K W fun ρ S => Out.of ρ (ga ρ S) fun v S1 => Out.of ρ (gb ρ S1) fun u S2 => .nx ((ρ.set i (some v)).set j (some u)) S2) := by
  refine PS_imp (ps_par hc hN hi hj hij hx hy (pa_cons ha (pa_cons hb pa_nil (star_cons hst2)) (star_cons hst)) hw) fun E σ H ⟨m, S, ρ, ok, re, h⟩ => ?_
  refine ⟨m, S, ρ, ok, re, RunO.of re h fun v S1 H1 m1 ok1 f1 h1 u ru => ?_⟩
  refine ⟨m1, S1, ρ, ok1, re.mono f1, RunO.of (re.mono f1) h1 fun v2 S2 H2 m2 ok2 f2 h2 u2 ru2 => ?_⟩
  exact ⟨_, _, rfl, h2 H2 m2 _ ok2 .refl ((((re.mono f1).mono f2).set i (ru.mono f2)).set j ru2)⟩
/-- x op= e, ints -/
theorem ps_augD {i : Nat} {x : Str} {o : Bn} {p' : Pos} (ho : o ≠ .pow) (hN : X.N.Nodup) (hi : X.N[i]? = some x) (hx : Loc X.env.scope x) (hf : X.fn x = true ∨ X.env.scope.names.lookup x = some .local)
    (ha : PE X a (tD X.K W ga)) : PS X (.AugAssign (.Name x p') (opOf o) a pos) (tDS X.K W fun ρ S => match ρ[i]? with
    | some (some x) => Out.of ρ (ga ρ S) fun y S1 => augO ρ i o x y S1
    | _ => .bad) := by
  refine PS_imp (ps_aug hN hi hx ha (ip_bin o ho) hf) fun E σ H ⟨m, S, ρ, ok, re, h⟩ => ?_
  dsimp only at h
  split at h
  · rename_i xv hxv
    obtain ⟨v, e, r⟩ := re.2 i xv hxv
    refine ⟨v, e, m, S, ρ, ok, re, RunO.of re h fun y S1 H1 m1 ok1 f1 h1 u ru => ?_⟩
    unfold augO at h1
    split at h1
    · rename_i ia ib
      rw [if_neg ho] at h1
      split at h1
      · rename_i d hd
        cases RepS.int r
        cases RepS.int ru
        have hd' := hd
        obtain ⟨z, rfl⟩ : ∃ z, d = .int z := by
          unfold binD at hd
          cases o with
          | add => cases hd; exact ⟨_, rfl⟩
          | sub => cases hd; exact ⟨_, rfl⟩
          | mul => simp only at hd; split at hd <;> cases hd; exact ⟨_, rfl⟩
          | fdiv => simp only at hd; split at hd <;> cases hd; exact ⟨_, rfl⟩
          | mod => simp only at hd; split at hd <;> cases hd; exact ⟨_, rfl⟩
          | pow => simp only at hd; split at hd <;> cases hd; exact ⟨_, rfl⟩
        exact ⟨_, _, z, rfl, rfl, hd', h1 H1 m1 _ ok1 .refl ((re.mono f1).set i (d := .t (.int z)) (by exact Rep.int z))⟩
      · exact h1.elim
    · exact h1.elim
  · exact h.elim
/-- x.append(e), x a changeable list -/
theorem ps_appD {i : Nat} {x : Str} {p2 apos cpos : Pos} (hi : X.N[i]? = some x) (hv : Vis X.env.scope x) (hd : (x == ("__debug__" : Str)) = false) (hcd : (x == ("__classdict__" : Str)) = false) (hst : noStar a = true) (hline : (apos.endLine == cpos.line) = true)
    (ha : PE X a (tD X.K W ga)) : PS X (.Expr (.Call (.Attribute (.Name x p2) "append" apos) [a] [] cpos) pos) (tDS X.K W fun ρ S => match ρ[i]? with
    | some (some (.o k)) => match S[k]? with
      | some (.lst _) => Out.of ρ (ga ρ S) fun v S1 => appO ρ k v S1
      | _ => .bad
    | _ => .bad) := by
  have hall : [a].all noStar = true := by simp [hst]
  refine PS_imp (ps_expr (pe_bm PySem.F.plainAttrs_list PySem.F.slot_list_append PySem.F.type_list_append mt_append (pe_var hi hv hd hcd) (pa_cons ha pa_nil (star_cons hst)) (attr_plain rfl) (few hall (by simp)) hline (star_cons hst) (star_any rfl)) rfl) fun E σ H ⟨m, S, ρ, ok, re, h⟩ => ?_
  dsimp only at h
  split at h
  · rename_i k hk
    split at h
    · rename_i xs0 hS0
      obtain ⟨v, e, ad, hm, rfl⟩ := re.2 i _ hk
      obtain ⟨vs0, g0, _⟩ := ok.at_ k ad _ hm hS0
      refine ⟨_, e, .inl ⟨rfl, vs0, SqL.of g0⟩, m, S, ρ, ok, re, RunO.of re h fun y S1 H1 m1 ok1 f1 h1 u ru => ?_⟩
      unfold appO at h1
      split at h1
      · rename_i d S2 hg
        obtain ⟨ok2, f2, r2⟩ := ok1.grab ru hg
        split at h1
        · rename_i xs hS
          split at h1
          · rename_i hz
            have hm1 : m1[k]? = some ad := by
              obtain ⟨t, rfl⟩ := f1.2
              rw [List.getElem?_append_left (List.getElem?_eq_some_iff.mp hm).1]; exact hm
            obtain ⟨vs, g1, g2⟩ := ok2.at_ k ad _ hm1 hS
            obtain ⟨ok3, f3⟩ := ok2.write hm1 hS (fun z => nomatch z) (g2.append (.cons r2 .nil))
            exact ⟨ad, vs, u, rfl, rfl, g1, by rw [g2.length]; exact hz, h1 _ m1 σ ok3 (f2.trans f3) (((re.mono f1).mono f2).mono f3)⟩
          · exact h1.elim
        · exact h1.elim
      · exact h1.elim
    · exact h.elim
  · exact h.elim
/-- x[k] = e, x a changeable list -/
theorem ps_setiD {i : Nat} {x : Str} {p2 p3 : Pos} (hi : X.N[i]? = some x) (hv : Vis X.env.scope x) (hd : (x == ("__debug__" : Str)) = false) (hcd : (x == ("__classdict__" : Str)) = false) (hs : swapsWithSole [.Subscript (.Name x p2) b p3] a pos.line X.env = pure false) (hw : swappedStores [.Subscript (.Name x p2) b p3] a X.env = pure none)
    (hasg : ∀ v, assign (.Subscript (.Name x p2) b p3) X.env v = (do
      let ov ← holding [v] (eval (.Name x p2) X.env)
      let iv ← holding [v, ov] (eval b X.env)
      standAt p3
      holding [v, ov, iv] (setItem ov iv v)
      release [v, ov, iv] []))
    (ha : PE X a (tD X.K W ga)) (hb : PE X b (tD X.K W gb)) : PS X (.Assign [.Subscript (.Name x p2) b p3] a pos) (tDS X.K W fun ρ S => Out.of ρ (ga ρ S) fun v S1 => match grab S1 v with
    | some (d, S2) => match ρ[i]? with
      | some (some (.o n)) => Out.of ρ (gb ρ S2) fun kv S3 => setO ρ n d kv S3
      | _ => .bad
    | none => .bad) := by
  have h1 : (assignEach [.Subscript (.Name x p2) b p3] X.env).map (·.2) = [assign (.Subscript (.Name x p2) b p3) X.env] := by rw [assignEach, assignEach]; rfl; intro _ _ z; cases z
  refine PS_imp (ps_asg ha (pg_sub (pe_var hi hv hd hcd) hb set_list hasg) hs hw h1) fun E σ H ⟨m, S, ρ, ok, re, h⟩ => ⟨m, S, ρ, ok, re, RunO.of re h fun v S1 H1 m1 ok1 f1 h1 u ru => ?_⟩
  split at h1
  · rename_i d S2 hg
    obtain ⟨ok2, f2, r2⟩ := ok1.grab ru hg
    have re2 := (re.mono f1).mono f2
    split at h1
    · rename_i n hn
      obtain ⟨w, e, ad, hm, rfl⟩ := re2.2 i _ hn
      refine ⟨_, e, m1, S2, ρ, ok2, re2, RunO.of re2 (RunO.mono h1 f2) fun kv S3 H3 m3 ok3 f3 h3 w3 rw3 => ?_⟩
      unfold setO at h3
      split at h3
      · rename_i z
        cases RepS.int rw3
        split at h3
        · rename_i xs hS
          split at h3
          · rename_i j hj
            have hm3 : m3[n]? = some ad := by
              obtain ⟨t, rfl⟩ := f3.2
              rw [List.getElem?_append_left (List.getElem?_eq_some_iff.mp hm).1]; exact hm
            obtain ⟨vs, g1, g2⟩ := ok3.at_ n ad _ hm3 hS
            obtain ⟨ok4, f4⟩ := ok3.write hm3 hS (fun z => nomatch z) (g2.set j (r2.mono f3.1))
            exact ⟨ad, vs, z, j, rfl, rfl, g1, by rw [g2.length]; exact hj, h3 _ m3 σ ok4 f4 ((re2.mono f3).mono f4)⟩
          · exact h3.elim
        · exact h3.elim
      · exact h3.elim
    · exact h1.elim
  · exact h1.elim
/-- the for statement -/
theorem ps_forD {tge iter : Expr} {tg : Tg} {gi : Ev → St' → R Src} {gb : Ev → St' → Out} (hp : PassesOwn (model X.prog X.w) X.A X.env X.xe) (hc : X.calm = true) (hs : ∀ x, foldedSetIterable iter X.env x = pure x)
    (hi : PI X tge iter (tDI X.K W gi)) (hg : PG X tge (gD X.K tg)) (hb : PSs X sts (tDS X.K W gb)) : PS X (.For tge iter sts [] pos) (tDS X.K W fun ρ S => Out.of ρ (gi ρ S) fun src S1 => forSrc tg gb src ρ S1) := by
  refine PS_imp (ps_for hp hc hi hg hb hs) fun E σ H ⟨m, S, ρ, ok, re, h⟩ => ⟨m, S, ρ, ok, re, RunO.of re h fun src S1 H1 m1 ok1 f1 h1 J inv fd iv => ?_⟩
  have re1 := re.mono f1
  -- one turn
  have turn : ∀ {ρ2 : Ev} {S2 : St'} {H2 : Hp} {m2 : List Addr} {σ2 : L2.St} {d : D} {v : V} {kont : Ev → St' → Out} {N : L2.St → Hp → Prop}, StOk X.K H2 m2 S2 → RelE X.K H2 m2 S2 σ2 ρ2 → inv H2 m2 S2 → Rep X.K H2 (Own m2 S2) v d →
      RunO X.K W E H2 m2 S2 (match bindTg tg d ρ2 with | none => .bad | some ρ' => (gb ρ' S2).turn kont) →
      (∀ ρ3 S3 H3 m3 σ3, StOk X.K H3 m3 S3 → RelE X.K H3 m3 S3 σ3 ρ3 → inv H3 m3 S3 → RunO X.K W E H3 m3 S3 (kont ρ3 S3) → N σ3 H3) →
      gD X.K tg v σ2 H2 fun σ3 H3 => tDS X.K W gb { E with nx := N, ct := N, bk := E.nx } σ3 H3 := by
    intro ρ2 S2 H2 m2 σ2 d v kont N ok2 re2 iv2 rv h2 hN
    split at h2
    · exact h2.elim
    · rename_i ρ' hb'
      refine ⟨m2, S2, ρ2, d, ρ', ok2, re2, rv, hb', fun σ3 re3 _ _ => ⟨m2, S2, ρ', ok2, re3, ?_⟩⟩
      revert h2
      cases gb ρ' S2 with
      | nx ρ4 S4 => exact fun h2 H' m' σ' ok' f' re' => hN _ _ _ _ _ ok' re' (fd.mono _ _ _ _ _ _ iv2 f') (RunO.mono h2 f')
      | ct ρ4 S4 => exact fun h2 H' m' σ' ok' f' re' => hN _ _ _ _ _ ok' re' (fd.mono _ _ _ _ _ _ iv2 f') (RunO.mono h2 f')
      | bk ρ4 S4 => exact fun h2 H' m' σ' ok' f' re' => h2 H' m' σ' ok' f' re'
      | rt v4 S4 => exact fun h2 H' m' σ' ok' f' re' => h2 H' m' σ' ok' f' re'
      | exc c4 p4 ρ4 S4 => exact fun h2 H' m' σ' ok' f' re' => h2 H' m' σ' ok' f' re'
      | bad => exact fun h2 => h2
  cases src with
  | fix xs =>
    refine ⟨fun i n σ' H' => n = xs.length - i ∧ i ≤ xs.length ∧ ∃ m' S' ρ', StOk X.K H' m' S' ∧ RelE X.K H' m' S' σ' ρ' ∧ inv H' m' S' ∧ RunO X.K W E H' m' S' (forFix tg gb (xs.drop i) ρ' S'), ⟨xs.length, by simp, Nat.zero_le _, m1, S1, ρ, ok1, re1, iv, h1⟩, ?_⟩
    rintro i n σ' H' ⟨rfl, hi', m', S', ρ', ok', re', iv', h'⟩
    by_cases hlt : i < xs.length
    · refine .inr ?_
      have hx : xs[i]? = some xs[i] := List.getElem?_eq_getElem hlt
      obtain ⟨go, yl⟩ := fd.item xs i _ H' m' S' rfl iv' ok' hx
      refine ⟨go, fun σ'' H'' => ∃ m' S' ρ', StOk X.K H'' m' S' ∧ RelE X.K H'' m' S' σ'' ρ' ∧ inv H'' m' S' ∧ RunO X.K W E H'' m' S' (forFix tg gb (xs.drop (i + 1)) ρ' S'), fun σ'' H'' hh => ⟨xs.length - (i + 1), by omega, rfl, hlt, hh⟩, fun v H2 hy => ?_⟩
      obtain ⟨ok3, f3, rv⟩ := yl v H2 hy
      rw [List.drop_eq_getElem_cons hlt, forFix] at h'
      exact turn ok3 (re'.mono f3) (fd.mono _ _ _ _ _ _ iv' f3) rv (RunO.mono h' f3) fun ρ3 S3 H3 m3 σ3 a b c d => ⟨m3, S3, ρ3, a, b, c, d⟩
    · have e : i = xs.length := by omega
      subst e
      rw [List.drop_length, forFix] at h'
      exact .inl ⟨fd.stop xs H' m' S' rfl iv' ok', h' H' m' σ' ok' .refl re'⟩
  | live k =>
    unfold forSrc at h1
    simp only at h1
    split at h1
    · rename_i ys hys
      refine ⟨fun i n σ' H' => ∃ m' S' ρ', StOk X.K H' m' S' ∧ RelE X.K H' m' S' σ' ρ' ∧ inv H' m' S' ∧ RunO X.K W E H' m' S' (forLive tg gb k n i ρ' S'), ⟨ys.length, m1, S1, ρ, ok1, re1, iv, h1⟩, ?_⟩
      rintro i n σ' H' ⟨m', S', ρ', ok', re', iv', h'⟩
      unfold forLive at h'
      split at h'
      · rename_i zs hzs
        split at h'
        · rename_i hz
          exact .inl ⟨fd.stopL k zs i H' m' S' rfl iv' ok' hzs hz, h' H' m' σ' ok' .refl re'⟩
        · exact h'.elim
        · rename_i _ d n hd
          obtain ⟨go, yl⟩ := fd.itemL k zs i _ H' m' S' rfl iv' ok' hzs hd
          refine .inr ⟨go, fun σ'' H'' => ∃ m' S' ρ', StOk X.K H'' m' S' ∧ RelE X.K H'' m' S' σ'' ρ' ∧ inv H'' m' S' ∧ RunO X.K W E H'' m' S' (forLive tg gb k n (i + 1) ρ' S'), fun σ'' H'' hh => ⟨n, by omega, hh⟩, fun v H2 hy => ?_⟩
          obtain ⟨ok3, f3, rv⟩ := yl v H2 hy
          exact turn ok3 (re'.mono f3) (fd.mono _ _ _ _ _ _ iv' f3) rv (RunO.mono h' f3) fun ρ3 S3 H3 m3 σ3 a b c d => ⟨m3, S3, ρ3, a, b, c, d⟩
      · exact h'.elim
    · exact h1.elim
end
end M

/-! dicts with tuple keys that are changed: made, written, walked -/
namespace M
open PySem PySem.Spec PyProof.Rows L2
theorem upd_two {H : Hp} {a : Addr} {x y : HO} : upd (upd H a x) a y = upd H a y := by
  funext b
  by_cases h : b = a
  · subst h; rw [upd_same, upd_same]
  · rw [upd_ne h, upd_ne h, upd_ne h]
theorem upd_back {H : Hp} {a : Addr} {x y : HO} (h : H a = some y) : upd (upd H a x) a y = H := by
  rw [upd_two]
  funext b
  by_cases hb : b = a
  · subst hb; rw [upd_same, h]
  · rw [upd_ne hb]
theorem upd_swap {H : Hp} {a b : Addr} {x y : HO} (h : a ≠ b) : upd (upd H a x) b y = upd (upd H b y) a x := by
  funext c
  by_cases h1 : c = a
  · subst h1; rw [upd_ne h, upd_same, upd_same]
  · by_cases h2 : c = b
    · subst h2; rw [upd_same, upd_ne h1, upd_same]
    · rw [upd_ne h2, upd_ne h1, upd_ne h1, upd_ne h2]
theorem valV_at : ∀ {kv : List (List Key × V)} {n : Nat} {k : List Key} {v : V}, (kv.map (·.1)).Nodup → kv[n]? = some (k, v) → valV kv k = some v
  | [], n, k, v, _, e => by simp at e
  | p :: kv, 0, k, v, nd, e => by
    simp at e; subst e
    exact valV_pos rfl
  | p :: kv, n + 1, k, v, nd, e => by
    rw [List.map_cons, List.nodup_cons] at nd
    have e' : kv[n]? = some (k, v) := by simpa using e
    rw [valV_neg]
    · exact valV_at nd.2 e'
    · intro z
      exact nd.1 (z ▸ List.mem_map.mpr ⟨_, List.mem_of_getElem? e', rfl⟩)
def hasK {κ : Type} [DecidableEq κ] (l : List κ) (k : κ) : Bool := l.any fun x => decide (x = k)
theorem hasK_iff {κ : Type} [DecidableEq κ] (l : List κ) (k : κ) : hasK l k = true ↔ k ∈ l := by
  unfold hasK
  rw [List.any_eq_true]
  constructor
  · rintro ⟨y, hy, e⟩; exact of_decide_eq_true e ▸ hy
  · exact fun h => ⟨k, h, decide_eq_true rfl⟩
theorem keys_any {κ α : Type} [DecidableEq κ] (kv : List (κ × α)) (k : κ) : (kv.any fun p => decide (p.1 = k)) = hasK (kv.map (·.1)) k := by
  unfold hasK; rw [List.any_map]; rfl
theorem keys_map {κ α : Type} [DecidableEq κ] (kv : List (κ × α)) (k : κ) (v : α) : (kv.map fun p => if p.1 = k then (p.1, v) else p).map (·.1) = kv.map (·.1) := by
  rw [List.map_map]
  apply List.map_congr_left
  intro p _
  simp only [Function.comp]
  split <;> rfl
theorem putD_keys (kvs : List (List Key × D)) (k : List Key) (d : D) : (putD kvs k d).map (·.1) = if hasK (kvs.map (·.1)) k = true then kvs.map (·.1) else kvs.map (·.1) ++ [k] := by
  unfold putD
  rw [keys_any]
  by_cases h : hasK (kvs.map (·.1)) k = true
  · rw [if_pos h, if_pos h, keys_map]
  · rw [if_neg h, if_neg h, List.map_append]; rfl
theorem putKD_keys (kvs : List (Key × D)) (k : Key) (d : D) : (putKD kvs k d).map (·.1) = if hasK (kvs.map (·.1)) k = true then kvs.map (·.1) else kvs.map (·.1) ++ [k] := by
  unfold putKD
  rw [keys_any]
  by_cases h : hasK (kvs.map (·.1)) k = true
  · rw [if_pos h, if_pos h, keys_map]
  · rw [if_neg h, if_neg h, List.map_append]; rfl
theorem putK_keys {κ : Type} [DecidableEq κ] (kv : List (κ × V)) (k : κ) (v : V) : (putK kv k v).map (·.1) = if hasK (kv.map (·.1)) k = true then kv.map (·.1) else kv.map (·.1) ++ [k] := by
  unfold putK
  rw [keys_any]
  by_cases h : hasK (kv.map (·.1)) k = true
  · rw [if_pos h, if_pos h, keys_map]
  · rw [if_neg h, if_neg h, List.map_append]; rfl
theorem putD_nodup {kvs : List (List Key × D)} {k : List Key} {d : D} (h : (kvs.map (·.1)).Nodup) : ((putD kvs k d).map (·.1)).Nodup := by
  rw [putD_keys]
  split
  · exact h
  · rename_i hk
    rw [List.nodup_append]
    exact ⟨h, by simp, fun a ha b hb => by rw [List.mem_singleton.mp hb]; exact fun e => hk ((hasK_iff _ _).mpr (e ▸ ha))⟩
section
variable {K : PySem.W.Frag} {H : Hp} {N : Addr → Prop}
theorem reps_put {κ : Type} [DecidableEq κ] {k : κ} {v : V} {d : D} (hv : Rep K H N v d) : ∀ {kv : List (κ × V)} {kvs : List (κ × D)}, kv.map (·.1) = kvs.map (·.1) → Reps K H N (kv.map (·.2)) (kvs.map (·.2)) →
    Reps K H N ((kv.map fun p => if p.1 = k then (p.1, v) else p).map (·.2)) ((kvs.map fun p => if p.1 = k then (p.1, d) else p).map (·.2))
  | [], [], _, h => h
  | [], _ :: _, e, _ => by simp at e
  | _ :: _, [], e, _ => by simp at e
  | p :: kv, q :: kvs, e, h => by
    simp only [List.map_cons, List.cons.injEq] at e
    cases h with
    | cons h1 h2 =>
      have ih := reps_put (k := k) hv e.2 h2
      simp only [List.map_cons]
      refine .cons ?_ ih
      rw [e.1]
      by_cases hk : q.1 = k
      · simp only [if_pos hk]; exact hv
      · simp only [if_neg hk]; exact h1
theorem reps_putK {kv : List (List Key × V)} {kvs : List (List Key × D)} {k : List Key} {v : V} {d : D} (e : kv.map (·.1) = kvs.map (·.1)) (h : Reps K H N (kv.map (·.2)) (kvs.map (·.2))) (hv : Rep K H N v d) : Reps K H N ((putK kv k v).map (·.2)) ((putD kvs k d).map (·.2)) := by
  unfold putK putD
  rw [keys_any, keys_any, e]
  split
  · exact reps_put hv e h
  · rw [List.map_append, List.map_append]
    exact h.append (.cons hv .nil)
theorem reps_putKD {kv : List (Key × V)} {kvs : List (Key × D)} {k : Key} {v : V} {d : D} (e : kv.map (·.1) = kvs.map (·.1)) (h : Reps K H N (kv.map (·.2)) (kvs.map (·.2))) (hv : Rep K H N v d) : Reps K H N ((putK kv k v).map (·.2)) ((putKD kvs k d).map (·.2)) := by
  unfold putK putKD
  rw [keys_any, keys_any, e]
  split
  · exact reps_put hv e h
  · rw [List.map_append, List.map_append]
    exact h.append (.cons hv .nil)
theorem merge_rel : ∀ {ks : List Str} {us : List V} {ds : List D} {kv : List (Key × V)} {kvs : List (Key × D)}, kv.map (·.1) = kvs.map (·.1) → Reps K H N (kv.map (·.2)) (kvs.map (·.2)) → Reps K H N us ds → ks.length = ds.length →
    (mergeK kv ((ks.map fun k => (Sum.inr k : Key)).zip us)).map (·.1) = (mergeD kvs ks ds).map (·.1) ∧ Reps K H N ((mergeK kv ((ks.map fun k => (Sum.inr k : Key)).zip us)).map (·.2)) ((mergeD kvs ks ds).map (·.2))
  | [], us, ds, kv, kvs, e, h, hu, hl => by
    cases ds with
    | nil => cases hu; exact ⟨by simpa [mergeK, mergeD] using e, by simpa [mergeK, mergeD] using h⟩
    | cons d ds => simp at hl
  | k :: ks, us, ds, kv, kvs, e, h, hu, hl => by
    cases hu with
    | nil => simp at hl
    | cons q r =>
      rw [mergeD]
      exact merge_rel (kv := putK kv (.inr k) _) (by rw [putK_keys, putKD_keys, e]) (reps_putKD e h q) r (by simpa using hl)
end
theorem walk_kt {d : Addr} {o : Obj} {kv : List (List Key × V)} : Walk (Itkt d o kv) kv.length (fun H => H d = some (.frz o (.dT kv))) (fun i H x H' => H' = H ∧ ∃ (k : List Key) (v : V) (q : Addr), kv[i]? = some (k, v) ∧ x = .ref q ∧ H q = some (.tup (k.map kV))) :=
  ⟨fun i H hi g => ⟨g, hi⟩, fun H g => ⟨g, Nat.le_refl _⟩, fun i H x H' hi g y => y⟩
/-- [x[k] for k in x], x a dict with tuple keys -/
theorem pe_dvals {X : Cx} {x kx : Str} {i j : Nat} {scope : Scope} {own : List (Str × Nat)} {p1 p2 p3 p4 p5 pos : Pos} (hc : X.calm = true) (hN : X.N.Nodup) (hu : X.A.units + 1 < cLine) (hx : PE X (.Name x p5) (tVar i)) (ok : BlkOk X.N X.env.scope scope own) (hown : own.map (·.2) = [j]) (hij : i ≠ j)
    (hg : ∀ (s : Shared) (H : Hp) (C : Addr) (cl : List (Str × Addr)) (fp : List Addr), PG (X.blk s H scope (compEnvC scope cl C X.env) fp) (.Name kx p4) (gName j))
    (he1 : ∀ (s : Shared) (H : Hp) (C : Addr) (cl : List (Str × Addr)) (fp : List Addr), PE (X.blk s H scope (compEnvC scope cl C X.env) fp) (.Name x p1) (tVar i))
    (he2 : ∀ (s : Shared) (H : Hp) (C : Addr) (cl : List (Str × Addr)) (fp : List Addr), PE (X.blk s H scope (compEnvC scope cl C X.env) fp) (.Name kx p2) (tVar j)) (hs : ∀ y, foldedSetIterable (.Name x p5) X.env y = pure y) :
    PE X (.ListComp (.Subscript (.Name x p1) (.Name kx p2) p3) [⟨.Name kx p4, .Name x p5, [], 0⟩] scope pos) (fun σ H Q => ∃ d kv, σ[i]? = some (some (.ref d)) ∧ j < σ.length ∧ H d = some (.dT kv) ∧ (kv.map (·.1)).Nodup ∧ kv.length < sizeLine ∧ ∀ p, H p = none → Q (.ref p) (upd H p (.lst (kv.map (·.2))))) := by
  have key := pe_lock (pe_lc (elt := .Subscript (.Name x p1) (.Name kx p2) p3) (tg := .Name kx p4) (iter := .Name x p5) (ifs := []) (scope := scope) (own := own) (pos := pos) (tt := tYes) (te := tDGet (tVar i) (tVar j)) hc hN (pi_keys hx) ok hg (fun _ _ _ _ _ => pts_nil) (fun s H C cl fp => pe_dget (X := X.blk s H scope (compEnvC scope cl C X.env) fp) hu (he1 s H C cl fp) (he2 s H C cl fp) fun _ _ => rfl) hs)
  refine PE_imp key fun σ H Q ⟨d, kv, h1, hj, h2, nd, hz, q⟩ => ⟨d, .dT kv, h2, trivial, fun od => ?_⟩
  rw [hown]
  refine ⟨_, h1, d, od, rfl, .inr ⟨kv, upd_same, fun Dd hD => ?_⟩⟩
  have hDd : Dd ≠ d := fun e => by subst e; rw [upd_same] at hD; cases hD
  have hDn : H Dd = none := by rw [upd_ne hDd] at hD; exact hD
  refine lc_it walk_kt (fun n H' => H' = upd (upd H d (.frz od (.dT kv))) Dd (.lst ((kv.take n).map (·.2)))) (by simp) (fun n H' _ e => by rw [e, upd_ne hDd.symm, upd_same]) ?_ ?_
  · rintro n xx H1 H2 hn rfl ⟨rfl, k, v, b, e1, rfl, e2⟩
    have hw : (wipe σ [j]).length = σ.length := wipe_length _ _
    have hset : ((wipe σ [j]).set j (some (V.ref b)))[j]? = some (some (V.ref b)) := List.getElem?_set_self (by rw [hw]; exact hj)
    have hold : ((wipe σ [j]).set j (some (V.ref b)))[i]? = some (some (.ref d)) := by
      rw [List.getElem?_set_ne (Ne.symm hij), wipe_out (show ¬ i ∈ [j] from fun z => hij (List.mem_singleton.mp z))]; exact h1
    refine ⟨?_, ?_⟩
    · show ((wipe σ [j]).set j (some (V.ref b))).set j none = _
      rw [List.set_set]
      show ((wipe σ []).set j none).set j none = _
      rw [List.set_set]
      rfl
    · simp only [tYes, if_true]
      refine ⟨_, hold, _, hset, d, v, rfl, .inr ⟨kv, k, b, .inr ⟨od, ?_⟩, rfl, e2, (valV_at nd e1).symm⟩, (kv.take n).map (·.2), upd_same, ?_, ?_⟩
      · rw [upd_ne hDd.symm, upd_same]
      · rw [List.length_map, List.length_take]; omega
      · rw [upd_two, List.take_succ, e1, List.map_append]
        rfl
  · rintro H' rfl
    rw [List.take_length]
    refine ⟨by rw [upd_ne hDd.symm, upd_same], ?_⟩
    rw [upd_swap hDd, upd_back h2]
    exact q Dd hDn
theorem keys_vs {K : PySem.W.Frag} {H : Hp} {N : Addr → Prop} : ∀ {xs : List D} {ks : List Key} {vs : List V}, asKeys xs = some ks → Reps K H N vs xs → vs = ks.map kV
  | [], _, _, e, .nil => by cases e; rfl
  | .int i :: r, ks, _, e, .cons q t => by
    obtain ⟨ks', e1, rfl⟩ := Option.map_eq_some_iff.mp e
    cases q
    rw [keys_vs e1 t]; rfl
  | .str i :: r, ks, _, e, .cons q t => by
    obtain ⟨ks', e1, rfl⟩ := Option.map_eq_some_iff.mp e
    cases q
    rw [keys_vs e1 t]; rfl
  | .non :: _, _, _, e, _ => by cases e
  | .bl _ :: _, _, _, e, _ => by cases e
  | .tup _ :: _, _, _, e, _ => by cases e
  | .lst _ :: _, _, _, e, _ => by cases e
section
variable {X : Cx} {W : WS} {F : FS}
/-- .. over the data -/
theorem pd_dvals {e : Expr} {i j : Nat} (hij : j < X.N.length) (h : PE X e (fun σ H Q => ∃ d kv, σ[i]? = some (some (.ref d)) ∧ j < σ.length ∧ H d = some (.dT kv) ∧ (kv.map (·.1)).Nodup ∧ kv.length < sizeLine ∧ ∀ p, H p = none → Q (.ref p) (upd H p (.lst (kv.map (·.2)))))) (hl : ∀ σ H m S ρ, RelE X.K H m S σ ρ → σ.length = ρ.length) :
    PE X e (fun σ H Q => j < σ.length ∧ tD X.K W (evalE F (.dvals i j)) σ H Q) := by
  refine PE_imp h fun σ H Q ⟨hj, m, S, ρ, ok, re, h⟩ => ?_
  rw [evalE] at h
  split at h
  · rename_i n hn
    split at h
    · rename_i kvs hS
      split at h
      · rename_i hz
        obtain ⟨w, e1, ad, hm, rfl⟩ := re.2 i _ hn
        obtain ⟨kv, g1, g2, g3, g4⟩ := ok.at_ n ad _ hm hS
        have hlen : kv.length = kvs.length := by have := congrArg List.length g2; simpa using this
        refine ⟨ad, kv, e1, hj, g1, by rw [g2]; exact g3, by rw [hlen]; exact hz, fun p hp => ?_⟩
        exact h _ m (ok.laid hp _).1 (ok.laid hp _).2 _ (rep_lst_new ok hp g4)
      · exact h.elim
    · exact h.elim
  · exact h.elim
theorem pd_dvals' {e : Expr} {i j : Nat} (hij : j < X.N.length) (h : PE X e (fun σ H Q => ∃ d kv, σ[i]? = some (some (.ref d)) ∧ j < σ.length ∧ H d = some (.dT kv) ∧ (kv.map (·.1)).Nodup ∧ kv.length < sizeLine ∧ ∀ p, H p = none → Q (.ref p) (upd H p (.lst (kv.map (·.2)))))) : PE X e (tD X.K W (evalE F (.dvals i j))) :=
  ⟨fun pins s σ H Q I hh => (pd_dvals (F := F) hij h fun _ _ _ _ _ r => r.1).run pins s σ H Q I ⟨by rw [I.len]; exact hij, hh⟩⟩
/-- x = {} -/
theorem ps_newdD {i : Nat} {x : Str} {p p2 pos : Pos} (hN : X.N.Nodup) (hi : X.N[i]? = some x) (hx : Loc X.env.scope x) (hf : X.fn x = true ∨ X.env.scope.names.lookup x = some .local) :
    PS X (.Assign [.Name x p] (.Dict [] [] p2) pos) (tDS X.K W fun ρ S => .nx (ρ.set i (some (.o S.length))) (S ++ [.dt []])) := by
  refine PS_imp (ps_set hN hi hx pe_dnewT (by rfl) hf) fun E σ H ⟨m, S, ρ, ok, re, h⟩ => fun p hp => ?_
  obtain ⟨ok2, f2⟩ := ok.pushO hp (uo := .dT []) (oo := .dt []) fun f => ⟨[], upd_same, rfl, by simp, .nil⟩
  refine h _ (m ++ [p]) _ ok2 f2 ?_
  refine (re.mono f2).set i (d := .o S.length) ⟨p, ?_, rfl⟩
  rw [← ok.len]; simp
/-- x[tuple(k)] = e -/
theorem ps_putdD {i : Nat} {x : Str} {a b : Expr} {ga gb : Ev → St' → R SV} {p2 p3 p4 p5 pos : Pos} (hu : X.A.units + 1 < cLine) (hi : X.N[i]? = some x) (hv : Vis X.env.scope x) (hd : (x == ("__debug__" : Str)) = false) (hcd : (x == ("__classdict__" : Str)) = false) (hgt : Gl X "tuple") (hmt : X.mg "tuple" = none) (hst : noStar b = true)
    (ha : PE X a (tD X.K W ga)) (hb : PE X b (tD X.K W gb)) (hs : swapsWith a (some (.Subscript (.Name x p2) (.Call (.Name "tuple" p4) [b] [] p5) p3)) pos.line X.env = pure false) :
    PS X (.Assign [.Subscript (.Name x p2) (.Call (.Name "tuple" p4) [b] [] p5) p3] a pos) (tDS X.K W fun ρ S => Out.of ρ (ga ρ S) fun v S1 => match grab S1 v with
    | some (d, S2) => match ρ[i]? with
      | some (some (.o n)) => Out.of ρ (gb ρ S2) fun kv S3 => putO ρ n d kv S3
      | _ => .bad
    | none => .bad) := by
  have hk : PE X (.Call (.Name "tuple" p4) [b] [] p5) (tCB _ (tDA X.K W fun ρ S => (gb ρ S).bind fun v S1 => R.bind (.ok [] S1) fun vs S2 => .ok (v :: vs) S2)) :=
    pe_callTy call_tuple_of hgt hmt (by decide +kernel) (pa_D hb pa_D0 (star_cons hst)) (by decide) (by decide) (star_cons hst) rfl
  refine PS_imp (ps_dput hu (pe_var hi hv hd hcd) hk ha hs) fun E σ H ⟨m, S, ρ, ok, re, h⟩ => ⟨m, S, ρ, ok, re, RunO.of re h fun v S1 H1 m1 ok1 f1 h1 u ru => ?_⟩
  split at h1
  · rename_i d S2 hg
    obtain ⟨ok2, f2, r2⟩ := ok1.grab ru hg
    have re2 := (re.mono f1).mono f2
    split at h1
    · rename_i n hn
      obtain ⟨w, e, ad, hm, rfl⟩ := re2.2 i _ hn
      refine ⟨_, e, m1, S2, ρ, ok2, re2, ?_⟩
      have h2 := RunO.mono h1 f2
      revert h2
      dsimp only
      cases gb ρ S2 with
      | bad => exact fun h => h
      | exc c p S' => exact fun h2 H3 m3 ok3 f3 => h2 H3 m3 σ ok3 f3 (re2.mono f3)
      | ok kv S3 =>
        intro h2 H3 m3 ok3 f3 vs rvs
        have h3 := RunO.mono h2 f3
        cases rvs with
        | cons rk rn =>
          cases rn
          rw [Out.of_ok] at h3
          unfold putO at h3
          split at h3
          · rename_i xs hp
            split at h3
            · rename_i ks kvs hks hS
              split at h3
              · rename_i hz
                obtain ⟨l, ws, rfl, g1, g2⟩ := (ok3.peek rk hp).lst
                cases keys_vs hks g2
                refine ⟨l, ks.map kV, rfl, .inl ⟨.inl g1, fun q hq => ?_⟩⟩
                obtain ⟨ok4, f4⟩ := ok3.laid hq (.tup (ks.map kV))
                have hm3 : m3[n]? = some ad := by
                  obtain ⟨t, rfl⟩ := f3.2
                  rw [List.getElem?_append_left (List.getElem?_eq_some_iff.mp hm).1]; exact hm
                obtain ⟨kv', a1, a2, a3, a4⟩ := ok4.at_ n ad _ hm3 hS
                have hlen : kv'.length = kvs.length := by have := congrArg List.length a2; simpa using this
                obtain ⟨ok5, f5⟩ := ok4.writeO hm3 hS (fun z => nomatch z) (uo := .dT (putK kv' ks u)) (oo := .dt (putD kvs ks d)) fun f => ⟨putK kv' ks u, upd_same, by rw [putK_keys, putD_keys, a2], putD_nodup a3, (reps_putK a2 a4 ((r2.mono f3.1).mono f4.1)).mono f⟩
                exact ⟨ad, _, rfl, .inr ⟨kv', ks, q, a1, rfl, upd_same, by rw [hlen]; exact hz, rfl⟩, h3 _ m3 σ ok5 (f4.trans f5) (((re2.mono f3).mono f4).mono f5)⟩
              · exact h3.elim
            · exact h3.elim
          · exact h3.elim
    · exact h1.elim
  · exact h1.elim
end
end M

/-! records and their fields; dicts that are read -/
namespace M
open PySem PySem.Spec PyProof.Rows L2
section
variable {K : PySem.W.Frag} {H : Hp} {m : List Addr} {S : St'}
theorem RepL.length : ∀ {us : List V} {ds : List SV}, RepL K H m S us ds → us.length = ds.length
  | us, [], h => by rw [RepL] at h; subst h; rfl
  | us, d :: ds, h => by
    rw [RepL] at h
    obtain ⟨u, r, rfl, _, h2⟩ := h
    simp [RepL.length h2]
theorem repL_look {f : Str} {x : SV} : ∀ {ns : List Str} {us : List V} {ds : List SV}, RepL K H m S us ds → (ns.zip ds).lookup f = some x → f ∈ ns ∧ ∃ u, (ns.zip us).lookup f = some u ∧ RepS K H m S u x
  | [], us, ds, h, e => by simp at e
  | n :: ns, us, [], h, e => by simp at e
  | n :: ns, us, d :: ds, h, e => by
    rw [RepL] at h
    obtain ⟨u, r, rfl, h1, h2⟩ := h
    rw [List.zip_cons_cons, List.lookup_cons] at e
    split at e
    · rename_i q
      cases e
      exact ⟨by rw [eq_of_beq q]; exact List.mem_cons_self, u, by rw [List.zip_cons_cons, List.lookup_cons, q], h1⟩
    · rename_i q
      obtain ⟨i1, v, i2, i3⟩ := repL_look h2 e
      exact ⟨List.mem_cons_of_mem _ i1, v, by rw [List.zip_cons_cons, List.lookup_cons, q]; exact i2, i3⟩
theorem repL_of : ∀ {us : List V} {ds : List SV}, RepSs K H m S us ds → RepL K H m S us ds
  | _, _, .nil => by rw [RepL]
  | _, _, .cons q r => by rw [RepL]; exact ⟨_, _, rfl, q, repL_of r⟩
theorem getK_val {N : Addr → Prop} {k : Key} : ∀ {kv : List (Key × V)} {kvs : List (Key × D)}, kv.map (·.1) = kvs.map (·.1) → Reps K H N (kv.map (·.2)) (kvs.map (·.2)) →
    (∀ d, getK kvs k = some d → ∃ v, valV kv k = some v ∧ Rep K H N v d) ∧ (valV kv k).isSome = (getK kvs k).isSome
  | [], [], _, _ => ⟨fun d (e : getK [] k = some d) => (nomatch e), rfl⟩
  | [], _ :: _, e, _ => by simp at e
  | _ :: _, [], e, _ => by simp at e
  | p :: kv, q :: kvs, e, h => by
    simp only [List.map_cons, List.cons.injEq] at e
    cases h with
    | cons h1 h2 =>
      obtain ⟨i1, i2⟩ := getK_val (k := k) e.2 h2
      unfold getK
      by_cases hk : q.1 = k
      · rw [List.find?_cons_of_pos (by simp [hk]), valV_pos (e.1.trans hk)]
        exact ⟨fun d z => by cases z; exact ⟨_, rfl, h1⟩, rfl⟩
      · rw [List.find?_cons_of_neg (by simp [hk]), valV_neg (fun z => hk (e.1 ▸ z))]
        exact ⟨i1, i2⟩
/-- a dict that may be read -/
theorem StOk.kd (ok : StOk K H m S) {v : V} {x : SV} {kvs : List (Key × D)} (r : RepS K H m S v x) (e : kdOf S x = some kvs) : ∃ a kv, v = .ref a ∧ Rd H a (.dK kv) ∧ kv.map (·.1) = kvs.map (·.1) ∧ Reps K H (Own m S) (kv.map (·.2)) (kvs.map (·.2)) := by
  cases x with
  | t d => cases e
  | td d => cases e
  | ins _ _ _ => cases e
  | kd kvs' =>
    cases e
    rw [RepS] at r
    obtain ⟨a, kv, rfl, h1, h2, h3, h4⟩ := r
    exact ⟨a, kv, rfl, h1, h3, h4⟩
  | o i =>
    rw [RepS] at r
    obtain ⟨a, h1, rfl⟩ := r
    simp only [kdOf] at e
    split at e
    · rename_i kvs' hS
      cases e
      obtain ⟨kv, h2, h3, h4⟩ := ok.at_ i a _ h1 hS
      exact ⟨a, kv, rfl, .inl h2, h3, h4⟩
    · cases e
theorem keyV_rep {v : V} {y : SV} {k : Key} (r : RepS K H m S v y) (e : keyV y = some k) : v = kV k := by
  cases y with
  | t d =>
    rw [RepS] at r
    simp only [keyV] at e
    cases r <;> first | (cases e; rfl) | cases e
  | _ => cases e
theorem strV_rep {v : V} {y : SV} {z : Str} (r : RepS K H m S v y) (e : strV y = some z) : v = .str z := by
  cases y with
  | t d =>
    rw [RepS] at r
    cases r <;> first | (cases e; rfl) | cases e
  | _ => cases e
end
section
variable {X : Cx} {W : WS} {a b : Expr} {ga gb : Ev → St' → R SV} {pos p : Pos}
/-- e.f -/
theorem pd_att {f : Str} (ha : PE X a (tD X.K W ga)) (hb : attributeBase a f X.env (eval a X.env) = eval a X.env) : PE X (.Attribute a f pos) (tD X.K W fun ρ S => (ga ρ S).bind fun x S1 => R.opt (attV x f) S1) := by
  refine PE_imp (pe_fld ha hb) fun σ H Q ⟨m, S, ρ, ok, re, h⟩ => ?_
  refine tD_bind ok re h fun x v S1 H1 m1 ok1 re1 f1 rv h1 => ?_
  obtain ⟨r, e, q⟩ := Run.opt h1 ok1
  cases x with
  | ins c ns fs =>
    rw [RepS] at rv
    obtain ⟨a', dx, us, rfl, g1, g2, g3, g4, g5⟩ := rv
    obtain ⟨i1, u, i2, i3⟩ := repL_look g5 e
    exact ⟨a', _, dx, _, u, rfl, g1, g4.1, g4.2 f i1, i2, q H1 ok1 .refl u i3⟩
  | _ => cases e
/-- d[k] -/
theorem pd_dget (hu : X.A.units + 1 < cLine) (hs : NoSl b) (ha : PE X a (tD X.K W ga)) (hb : PE X b (tD X.K W gb)) : PE X (.Subscript a b pos) (tD X.K W fun ρ S => (ga ρ S).bind fun x S1 => (gb ρ S1).bind fun y S2 => R.opt (dgetV S2 x y) S2) := by
  refine PE_imp (pe_dget hu ha hb hs) fun σ H Q ⟨m, S, ρ, ok, re, h⟩ => ?_
  refine tD_bind ok re h fun x v S1 H1 m1 ok1 re1 f1 rv h1 => ?_
  refine tD_bind ok1 re1 h1 fun y u S2 H2 m2 ok2 re2 f2 ru h2 => ?_
  obtain ⟨r, e, q⟩ := Run.opt h2 ok2
  obtain ⟨kvs, e1, e⟩ := Option.bind_eq_some_iff.mp e
  obtain ⟨k, e2, e⟩ := Option.bind_eq_some_iff.mp e
  obtain ⟨d, e3, rfl⟩ := Option.map_eq_some_iff.mp e
  obtain ⟨ad, kv, rfl, g1, g2, g3⟩ := ok2.kd (rv.mono f2) e1
  cases keyV_rep ru e2
  obtain ⟨w, g4, g5⟩ := (getK_val g2 g3).1 d e3
  exact ⟨ad, w, rfl, .inl ⟨kv, k, g1, rfl, g4.symm⟩, q H2 ok2 .refl w (by rw [RepS]; exact g5)⟩
theorem pc_D {op : CmpOp} {t : TE} (neg : Bool) (h : PC X op b a t) (hi : ∀ σ H Q, (tD X.K W gb σ H fun y H1 => tD X.K W ga σ H1 fun x H2 => ∃ ad o, x = .ref ad ∧ DGet H2 ad y o ∧ Q (.bl (xor neg o.isSome)) H2) → t σ H Q) :
    PC X op b a (tD X.K W fun ρ S => (gb ρ S).bind fun y S1 => (ga ρ S1).bind fun x S2 => R.opt (dinV S2 neg y x) S2) := by
  refine ⟨fun pins s σ H Q I hw => h.run pins s σ H Q I (hi _ _ _ ?_)⟩
  obtain ⟨m, S, ρ, ok, re, h⟩ := hw
  refine tD_bind ok re h fun y u S1 H1 m1 ok1 re1 f1 ru h1 => ?_
  refine tD_bind ok1 re1 h1 fun x v S2 H2 m2 ok2 re2 f2 rv h2 => ?_
  obtain ⟨r, e, q⟩ := Run.opt h2 ok2
  obtain ⟨kvs, e1, e⟩ := Option.bind_eq_some_iff.mp e
  obtain ⟨k, e2, e⟩ := Option.bind_eq_some_iff.mp e
  cases e
  obtain ⟨ad, kv, rfl, g1, g2, g3⟩ := ok2.kd rv e1
  cases keyV_rep (ru.mono f2) e2
  refine ⟨ad, _, rfl, .inl ⟨kv, k, g1, rfl, rfl⟩, ?_⟩
  rw [(getK_val g2 g3).2]
  exact q H2 ok2 .refl _ (by rw [RepS]; exact .bl _)
def diOp (neg : Bool) : CmpOp := if neg then .NotIn else .In
theorem pc_din' (neg : Bool) (hu : X.A.units + 1 < cLine) (hb : PE X b (tD X.K W gb)) (ha : PE X a (tD X.K W ga)) : PC X (diOp neg) b a (tD X.K W fun ρ S => (gb ρ S).bind fun y S1 => (ga ρ S1).bind fun x S2 => R.opt (dinV S2 neg y x) S2) := by
  cases neg with
  | false => exact pc_D false (pc_din hu hb ha) fun σ H Q h => by simpa [tDIn] using h
  | true => exact pc_D true (pc_dnotin hu hb ha) fun σ H Q h => by simpa [tDNotIn] using h
/-- SHAPES[k], k in SHAPES: a written dict -/
def gdOk (K : PySem.W.Frag) (w : World) (d : Addr) (kvs : List (Str × D)) : Prop := (∃ es n, KDict K w d es n) ∧ (∀ z, ∃ r, PySem.W.nsIn K d z = some r ∧ r.isSome = (kvs.lookup z).isSome) ∧ ∀ z x, kvs.lookup z = some x → ∃ u v, PySem.W.nsIn K d z = some (some u) ∧ RelV v u ∧ ∀ H N, Rep K H N v x
theorem pd_gdget {d : Addr} {kvs : List (Str × D)} {x : Str} (hd : gdOk X.K X.w d kvs) (hs : PlainIx b) (hx : PE X (.Name x p) (tC (.ref d))) (hb : PE X b (tD X.K W gb)) : PE X (.Subscript (.Name x p) b pos) (tD X.K W fun ρ S => (gb ρ S).bind fun y S1 => R.opt ((strV y).bind fun z => (kvs.lookup z).map .t) S1) := by
  obtain ⟨⟨es, n, kd⟩, hin, hat⟩ := hd
  refine PE_imp (pe_ix L2.ix_kdict hx hb hs) fun σ H Q ⟨m, S, ρ, ok, re, h⟩ => ?_
  refine tD_bind ok re h fun y u S1 H1 m1 ok1 re1 f1 ru h1 => ?_
  obtain ⟨r, e, q⟩ := Run.opt h1 ok1
  obtain ⟨z, e1, e⟩ := Option.bind_eq_some_iff.mp e
  obtain ⟨x', e2, rfl⟩ := Option.map_eq_some_iff.mp e
  obtain ⟨w, v, g1, g2, g3⟩ := hat z x' e2
  cases strV_rep ru e1
  exact ⟨d, z, v, rfl, rfl, ⟨es, n, w, kd.at_, kd.lit, g1, g2⟩, q H1 ok1 .refl v (by rw [RepS]; exact g3 _ _)⟩
theorem op_gd (neg : Bool) {d : Addr} {es : Array DictEntry} {n : Nat} (D : KDict X.K X.w d es n) : OpR X (compareOp (diOp neg)) (fun x y H Q => ∃ (z : Str) (r : Option Value), x = .str z ∧ y = .ref d ∧ PySem.W.nsIn X.K d z = some r ∧ Q (.bl (xor neg r.isSome)) H) := by
  cases neg with
  | false => intro pins s σ H x y v u Q I rx ry ⟨z, r, h1, h2, h3, h4⟩; exact op_in_kd D pins s σ H x y v u Q I rx ry ⟨z, r, h1, h2, h3, by simpa using h4⟩
  | true => intro pins s σ H x y v u Q I rx ry ⟨z, r, h1, h2, h3, h4⟩; exact op_notIn_kd D pins s σ H x y v u Q I rx ry ⟨z, r, h1, h2, h3, by simpa using h4⟩
theorem pc_R {op : CmpOp} {r : R2} {ta tb : TE} (ho : OpR X (compareOp op) r) (ha : PE X a ta) (hb : PE X b tb) : PC X op a b (tOp r ta tb) :=
  ⟨fun pins s σ H Q I h => thn (ha.run pins s σ H _ I h) fun v s1 ⟨x, H1, I1, r1, q1⟩ => thn (hb.run pins s1 σ H1 _ I1 q1) fun u s2 ⟨y, H2, I2, r2, q2⟩ => ho pins s2 σ H2 x y v u Q I2 r1 r2 q2⟩
theorem PC_imp {op : CmpOp} {t t' : TE} (h : PC X op a b t) (i : ∀ σ H Q, t' σ H Q → t σ H Q) : PC X op a b t' := ⟨fun pins s σ H Q I hw => h.run pins s σ H Q I (i _ _ _ hw)⟩
theorem pc_gdin (neg : Bool) {d : Addr} {kvs : List (Str × D)} {x : Str} (hd : gdOk X.K X.w d kvs) (hx : PE X (.Name x p) (tC (.ref d))) (hb : PE X b (tD X.K W gb)) :
    PC X (diOp neg) b (.Name x p) (tD X.K W fun ρ S => (gb ρ S).bind fun y S1 => R.opt ((strV y).map fun z => .t (.bl (xor neg (kvs.lookup z).isSome))) S1) := by
  obtain ⟨es, n, kd⟩ := hd.1
  refine PC_imp (pc_R (op_gd neg kd) hb hx) fun σ H Q ⟨m, S, ρ, ok, re, h⟩ => ?_
  refine tD_bind ok re h fun y u S1 H1 m1 ok1 re1 f1 ru h1 => ?_
  obtain ⟨r, e, q⟩ := Run.opt h1 ok1
  obtain ⟨z, e1, rfl⟩ := Option.map_eq_some_iff.mp e
  obtain ⟨r, g1, g2⟩ := hd.2.1 z
  cases strV_rep ru e1
  exact ⟨z, r, rfl, rfl, g1, by rw [g2]; exact q H1 ok1 .refl _ (by rw [RepS]; exact .bl _)⟩
/-- a comparison that comes to a truth, as a test -/
theorem pt_pc {op : CmpOp} {g : Ev → St' → R SV} (h : PC X op a b (tD X.K W g)) (hm : behindInMarks op b = false) (hg : ∀ ρ S v S', g ρ S = .ok v S' → ∃ k, v = .t (.bl k)) : PT X (.Compare a [op] [b] pos) (tDT X.K W fun ρ S => tru (g ρ S)) := by
  refine PT_imp (pt_cmp h hm) fun σ H Q ⟨m, S, ρ, ok, re, h⟩ => ⟨m, S, ρ, ok, re, ?_⟩
  dsimp only at h ⊢
  have hg := hg ρ S
  revert h hg
  unfold tru
  cases g ρ S with
  | bad => exact fun h _ => h
  | exc c p S' => exact fun h _ => h
  | ok v S' =>
    intro h hg
    obtain ⟨k, rfl⟩ := hg v S' rfl
    intro H' m' ok' f' u ru
    rw [RepS] at ru
    cases ru
    exact ⟨k, rfl, h H' m' ok' f'⟩
end
end M

/-! the program's own text against the small language -/
namespace M
open PySem PySem.Spec PyProof.Rows L2

mutual
/-- the very same data -/
def same : D → D → Bool
  | .non, .non => true
  | .bl a, .bl b => a == b
  | .int i, .int j => decide (i = j)
  | .str x, .str y => decide (x = y)
  | .lst xs, .lst ys => sames xs ys
  | .tup xs, .tup ys => sames xs ys
  | _, _ => false
def sames : List D → List D → Bool
  | [], [] => true
  | x :: xs, y :: ys => same x y && sames xs ys
  | _, _ => false
end
mutual
theorem same_eq : ∀ a b : D, same a b = true → a = b
  | .non, b, h => by cases b <;> simp_all [same]
  | .bl x, b, h => by cases b <;> simp_all [same]
  | .int x, b, h => by cases b <;> simp_all [same]
  | .str x, b, h => by cases b <;> simp_all [same]
  | .tup xs, b, h => by
    cases b with
    | tup ys => rw [same] at h; rw [sames_eq xs ys h]
    | _ => simp_all [same]
  | .lst xs, b, h => by
    cases b with
    | lst ys => rw [same] at h; rw [sames_eq xs ys h]
    | _ => simp_all [same]
theorem sames_eq : ∀ a b : List D, sames a b = true → a = b
  | [], [], _ => rfl
  | [], _ :: _, h => by simp [sames] at h
  | _ :: _, [], h => by simp [sames] at h
  | x :: xs, y :: ys, h => by
    rw [sames, Bool.and_eq_true] at h
    rw [same_eq x y h.1, sames_eq xs ys h.2]
end

/-- a def of the text: its name, its parameters, all its names by slot -/
structure FI where
  name : Str
  ps : List Str
structure Glo where
  fns : List FI
  free : List Str
  consts : List (Str × D)
  cls : List (Str × List Str) := []
  gds : List (Str × List (Str × D)) := []
def sameKv : List (Str × D) → List (Str × D) → Bool
  | [], [] => true
  | p :: ps, q :: qs => decide (p.1 = q.1) && same p.2 q.2 && sameKv ps qs
  | _, _ => false
theorem sameKv_eq : ∀ a b : List (Str × D), sameKv a b = true → a = b
  | [], [], _ => rfl
  | [], _ :: _, h => by simp [sameKv] at h
  | _ :: _, [], h => by simp [sameKv] at h
  | (k, x) :: xs, (l, y) :: ys, h => by
    simp only [sameKv, Bool.and_eq_true, decide_eq_true_eq] at h
    rw [h.1.1, same_eq x y h.1.2, sameKv_eq xs ys h.2]
def diB : Bool → CmpOp → Bool
  | false, .In => true
  | true, .NotIn => true
  | _, _ => false

def biN : Bi → Str
  | .len => "len" | .int => "int" | .all => "all" | .any => "any" | .sum => "sum" | .list => "list" | .tuple => "tuple"
  | .sorted => "sorted" | .repr => "repr" | .str => "str" | .min => "min" | .max => "max"
def mtN : Mt → Str
  | .index => "index" | .split => "split" | .count => "count" | .join => "join" | .countL => "count"
def tyS : Ty → Str
  | .int => "int" | .bool => "bool" | .str => "str" | .tuple => "tuple" | .list => "list"
def opB : Bn → Operator → Bool
  | .add, .Add | .sub, .Sub | .mul, .Mult | .fdiv, .FloorDiv | .mod, .Mod | .pow, .Pow => true
  | _, _ => false
def cmB : Cm → CmpOp → Bool
  | .eq, .Eq | .ne, .NotEq | .lt, .Lt | .le, .LtE | .gt, .Gt | .ge, .GtE | .isin, .In | .notin, .NotIn | .is_, .Is | .isnot, .IsNot => true
  | _, _ => false
theorem opB_eq {o : Bn} {op : Operator} (h : opB o op = true) : op = opOf o := by cases o <;> cases op <;> first | rfl | cases h
theorem cmB_eq {o : Cm} {op : CmpOp} (h : cmB o op = true) : op = cmOf o := by cases o <;> cases op <;> first | rfl | cases h
def isK (k : NameKind) : Option NameKind → Bool
  | some k' => match k, k' with
    | .local, .local | .cell, .cell | .free, .free | .globalImplicit, .globalImplicit => true
    | _, _ => false
  | none => false
theorem isK_eq {k : NameKind} {o : Option NameKind} (h : isK k o = true) : o = some k := by
  unfold isK at h
  split at h
  · rename_i k'
    cases k <;> cases k' <;> first | rfl | cases h
  · cases h
/-- a name that may be read -/
def visB (N : List Str) (sc : Scope) (i : Nat) (x : Str) : Bool :=
  decide (N[i]? = some x) && (isK .local (sc.names.lookup x) || isK .cell (sc.names.lookup x) || isK .free (sc.names.lookup x)) && !(x == ("__debug__" : Str)) && !(x == ("__classdict__" : Str))
/-- a module's or a built-in's name -/
def gloB (sc : Scope) (x : Str) : Bool := isK .globalImplicit (sc.names.lookup x) && !(x == ("__debug__" : Str)) && !decide (x = ("__name__" : Str))
def freeB (G : Glo) (sc : Scope) (x : Str) : Bool := gloB sc x && decide (x ∈ G.free)
def constB : D → Const → Bool
  | .non, .none => true
  | .bl b, .bool c => b == c
  | .int i, .int j => decide (i = j)
  | .str x, .str y => decide (x = y)
  | _, _ => false
def notSlice : Expr → Bool
  | .Slice _ _ _ _ => false
  | _ => true
def plainBase : Expr → Bool
  | .Call (.Name _ _) [] [] _ => false
  | _ => true
/-- names that are stored, in a block whose own cells are told by cl -/
def tgB (N : List Str) (sc : Scope) (cl : Str → Bool) (i : Nat) (x : Str) : Bool := decide (N[i]? = some x) && (isK .local (sc.names.lookup x) || (isK .cell (sc.names.lookup x) && cl x))
def tgsB (N : List Str) (sc : Scope) (cl : Str → Bool) : List Nat → List Expr → Bool
  | [], [] => true
  | i :: is, .Name x _ :: es => tgB N sc cl i x && tgsB N sc cl is es
  | _, _ => false
def tgtB (N : List Str) (sc : Scope) (cl : Str → Bool) : Tg → Expr → Bool
  | .v i, .Name x _ => tgB N sc cl i x
  | .tp is, .Tuple es _ _ => tgsB N sc cl is es
  | _, _ => false
def isTup : Expr → Bool
  | .Tuple _ _ _ => true
  | _ => false
def notSet : Expr → Bool
  | .Set _ _ _ => false
  | _ => true
/-- w.replace(y, z), the texts written -/
def replB (y z : Str) : Expr → Option Expr
  | .Call (.Attribute w nm ap) [.Constant (.str y') _ _, .Constant (.str z') _ _] [] cp => if (decide (nm = "replace") && decide (y' = y) && decide (z' = z) && !(y == z) && plainBase w && (ap.endLine == cp.line)) = true then some w else none
  | _ => none
/-- the second one is a sum, a difference .. with a written int -/
def bumpB : List Expr → Bool
  | _ :: .BinOp _ _ (.Constant (.int _) _ _) _ :: _ => true
  | _ => false
/-- the own names of a comprehension's block, by its targets -/
def ownOf (N : List Str) : List Nat → List (Str × Nat)
  | [] => []
  | i :: is => (N.getD i "", i) :: ownOf N is
def tysB (G : Glo) (sc : Scope) : List Ty → List Expr → Bool
  | [], [] => true
  | t :: ts, .Name x _ :: es => decide (x = tyS t) && freeB G sc x && tysB G sc ts es
  | _, _ => false

mutual
def chkE (G : Glo) (N : List Str) : Scope → ME → Expr → Bool
  | sc, .var i, .Name x _ => visB N sc i x
  | sc, .lit d, .Constant c _ _ => constB d c
  | sc, .glb x d, .Name y _ => decide (x = y) && gloB sc x && (G.consts.any fun p => decide (p.1 = x) && same p.2 d)
  | sc, .tup es, .Tuple es' _ _ => chkEs G N sc es es'
  | sc, .lst es, .List es' _ => chkEs G N sc es es'
  | sc, .bin o a b, .BinOp x op y _ => opB o op && chkE G N sc a x && chkE G N sc b y
  | sc, .neg a, .UnaryOp .USub x _ => chkE G N sc a x
  | sc, .cmp o a b, .Compare x [op] [y] _ => cmB o op && !behindInMarks op y && chkE G N sc a x && chkE G N sc b y
  | sc, .cmp2 o p a b c, .Compare x [op, oq] [y, z] _ => cmB o op && cmB p oq && !lastMarks [op, oq] [y, z] && chkE G N sc a x && chkE G N sc b y && chkE G N sc c z
  | sc, .and a b, .BoolOp .And (x :: y :: r) p => chkE G N sc a x && (match r with
      | [] => chkE G N sc b y
      | z :: r' => chkE G N sc b (.BoolOp .And (y :: z :: r') p))
  | sc, .or a b, .BoolOp .Or (x :: y :: r) p => chkE G N sc a x && (match r with
      | [] => chkE G N sc b y
      | z :: r' => chkE G N sc b (.BoolOp .Or (y :: z :: r') p))
  | sc, .not a, .UnaryOp .Not x _ => chkE G N sc a x
  | sc, .ife c a b, .IfExp c' a' b' _ => chkE G N sc c c' && chkE G N sc a a' && chkE G N sc b b'
  | sc, .idx a i, .Subscript x y _ => notSlice y && chkE G N sc a x && chkE G N sc i y
  | sc, .slc a lo hi, .Subscript x (.Slice l h none _) _ => chkE G N sc a x && chkP G N sc lo l && chkP G N sc hi h
  | sc, .call f es, .Call (.Name x _) (e :: es') [] _ => (match G.fns[f]? with
      | some fi => decide (fi.name = x)
      | none => false) && gloB sc x && (e :: es').all noStar && chkEs G N sc es (e :: es')
  | sc, .bi b es, .Call (.Name x _) (e :: es') [] _ => decide (x = biN b) && freeB G sc x && (e :: es').all noStar && chkEs G N sc es (e :: es')
  | sc, .isi a t, .Call (.Name x _) [y, .Name z _] [] _ => decide (x = "isinstance") && freeB G sc x && decide (z = tyS t) && freeB G sc z && noStar y && chkE G N sc a y
  | sc, .isit a ts, .Call (.Name x _) [y, .Tuple es _ _] [] _ => decide (x = "isinstance") && freeB G sc x && tysB G sc ts es && decide (ts.length ≤ 20) && noStar y && chkE G N sc a y
  | sc, .mth m o es, .Call (.Attribute x name ap) (e :: es') [] cp => decide (name = mtN m) && plainBase x && (ap.endLine == cp.line) && (e :: es').all noStar && decide (es'.length < 20) && chkE G N sc o x && chkEs G N sc es (e :: es')
  | sc, .lc tg it cs e, .ListComp elt [⟨tge, iter, ifs, 0⟩] scope _ => notSet iter && blkC N sc scope (ownOf N (tgs tg)) && tgtB N (relS scope sc) (fun x => scope.names.lookup x == some .cell) tg tge && chkI G N sc it tge iter && decide (ifs.length ≤ 1) && chkEs G N (relS scope sc) cs ifs && chkE G N (relS scope sc) e elt
  | sc, .dvals i j, .ListComp (.Subscript (.Name x _) (.Name k _) _) [⟨.Name k2 p, .Name x2 _, [], 0⟩] scope _ => visB N sc i x2 && blkC N sc scope (ownOf N [j]) && tgB N (relS scope sc) (fun x => scope.names.lookup x == some .cell) j k2 && visB N (relS scope sc) i x && visB N (relS scope sc) j k && decide (x = x2) && decide (k = k2) && !decide (i = j)
  | sc, .fz .sortset [e], .Call (.Name x _) [.Call (.Name y _) [a] [] _] [] _ => decide (x = "sorted") && freeB G sc x && decide (y = "set") && freeB G sc y && noStar a && chkE G N sc e a
  | sc, .fz .lenset [e], .Call (.Name x _) [.Call (.Name y _) [a] [] _] [] _ => decide (x = "len") && freeB G sc x && decide (y = "set") && freeB G sc y && noStar a && chkE G N sc e a
  | sc, .fz .sortseti [e], .Call (.Name x _) [.Call (.Name y _) [a] [] _] [] _ => decide (x = "sorted") && freeB G sc x && decide (y = "set") && freeB G sc y && noStar a && chkE G N sc e a
  | sc, .rev a, .Subscript x (.Slice none none (some (.UnaryOp .USub (.Constant (.int i) _ _) _)) _) _ => decide (i = 1) && chkE G N sc a x
  | sc, .fz .lensett [e], .Call (.Name x _) [.Call (.Name y _) [a] [] _] [] _ => decide (x = "len") && freeB G sc x && decide (y = "set") && freeB G sc y && noStar a && chkE G N sc e a
  | sc, .lensc tg it cs e, .Call (.Name x _) [.SetComp elt [⟨tge, iter, ifs, 0⟩] scope _] [] _ => decide (x = "len") && freeB G sc x && (notSet iter && blkC N sc scope (ownOf N (tgs tg)) && tgtB N (relS scope sc) (fun x => scope.names.lookup x == some .cell) tg tge && chkI G N sc it tge iter && decide (ifs.length ≤ 1) && chkEs G N (relS scope sc) cs ifs && chkE G N (relS scope sc) e elt)
  | sc, .att e f, .Attribute x g _ => decide (f = g) && plainBase x && chkE G N sc e x
  | sc, .mk c ns es, .Call (.Name x _) (e :: es') [] _ => decide (x = c) && gloB sc x && (G.cls.any fun p => decide (p = (c, ns))) && (e :: es').all noStar && chkEs G N sc es (e :: es')
  | sc, .dget a i, .Subscript x y _ => notSlice y && chkE G N sc a x && chkE G N sc i y
  | sc, .din neg i a, .Compare y [op] [x] _ => diB neg op && !behindInMarks op x && chkE G N sc i y && chkE G N sc a x
  | sc, .gdget x kvs i, .Subscript (.Name y _) z _ => decide (y = x) && gloB sc y && (G.gds.any fun p => decide (p.1 = x) && sameKv p.2 kvs) && notSlice z && chkE G N sc i z
  | sc, .gdin neg x kvs i, .Compare z [op] [.Name y q] _ => decide (y = x) && gloB sc y && (G.gds.any fun p => decide (p.1 = x) && sameKv p.2 kvs) && diB neg op && !behindInMarks op (.Name y q) && chkE G N sc i z
  | sc, .callR f es w y z, .Call (.Name x _) (e :: es') [] _ => (match G.fns[f]? with
      | some fi => decide (fi.name = x)
      | none => false) && gloB sc x && (e :: es').all noStar && bumpB (e :: es') && (match es'.getLast?.bind (replB y z) with
      | some wx => chkE G N sc w wx
      | none => false) && chkEs G N sc es (e :: es').dropLast
  | _, _, _ => false
def chkEs (G : Glo) (N : List Str) : Scope → List ME → List Expr → Bool
  | _, [], [] => true
  | sc, e :: es, x :: xs => noStar x && chkE G N sc e x && chkEs G N sc es xs
  | _, _, _ => false
def chkP (G : Glo) (N : List Str) : Scope → List ME → Option Expr → Bool
  | _, [], none => true
  | sc, [e], some x => chkE G N sc e x
  | _, _, _ => false
def chkI (G : Glo) (N : List Str) : Scope → IT → Expr → Expr → Bool
  | sc, .of e, _, x => chkE G N sc e x
  | sc, .range1 e, _, .Call (.Name x _) [y] [] _ => decide (x = "range") && freeB G sc x && noStar y && chkE G N sc e y
  | sc, .range2 a b, _, .Call (.Name x _) [y, z] [] _ => decide (x = "range") && freeB G sc x && noStar y && noStar z && chkE G N sc a y && chkE G N sc b z
  | sc, .enum e, tge, .Call (.Name x _) [y] [] _ => decide (x = "enumerate") && freeB G sc x && isTup tge && noStar y && chkE G N sc e y
  | sc, .zips a b, tge, .Call (.Name x _) [y, z] [] _ => decide (x = "zip") && freeB G sc x && isTup tge && noStar y && noStar z && chkE G N sc a y && chkE G N sc b z
  | sc, .zip a b, tge, .Call (.Name x _) [y, z] [] _ => decide (x = "zip") && freeB G sc x && isTup tge && noStar y && noStar z && chkE G N sc a y && chkE G N sc b z
  | _, _, _, _ => false
end
end M

/-! records: made by an __init__ that stores its arguments -/
namespace M
open PySem PySem.Spec PyProof.Rows L2
theorem visB_ok' {X : Cx} {i : Nat} {x : Str} (h : visB X.N X.env.scope i x = true) : X.N[i]? = some x ∧ Vis X.env.scope x ∧ (x == ("__debug__" : Str)) = false ∧ (x == ("__classdict__" : Str)) = false := by
  unfold visB at h
  simp only [Bool.and_eq_true, Bool.or_eq_true, decide_eq_true_eq, Bool.not_eq_true'] at h
  obtain ⟨⟨⟨h1, h2⟩, h3⟩, h4⟩ := h
  refine ⟨h1, ?_, h3, h4⟩
  rcases h2 with (h2 | h2) | h2
  · exact .inl (isK_eq h2)
  · exact .inr (.inl (isK_eq h2))
  · exact .inr (.inr (isK_eq h2))
/-- self.f = f, field by field -/
def initB (N : List Str) (sc : Scope) : Nat → List Str → List Stmt → Bool
  | _, [], [] => true
  | j, f :: fs, .Assign [.Attribute (.Name s _) g _] (.Name v _) _ :: r => decide (g = f) && visB N sc 0 s && visB N sc j v && initB N sc (j + 1) fs r
  | _, _, _ => false
def tInit (K : PySem.W.Frag) (c : Str) (j : Nat) (fs : List Str) : TS := fun D σ H => ∃ (x dx : Addr) (done : List (Str × V)) (us : List V), σ[0]? = some (some (.ref x)) ∧ us.length = fs.length ∧ (∀ i u, us[i]? = some u → σ[j + i]? = some (some u)) ∧
  H x = some (.ins (He.ga K c) dx done) ∧ (∀ f ∈ fs, f ∉ done.map (·.1)) ∧ fs.Nodup ∧ done.length + fs.length < 1000 ∧ D.nx σ (upd H x (.ins (He.ga K c) dx (done ++ fs.zip us)))
theorem putF_new {f : Str} {v : V} : ∀ {done : List (Str × V)}, f ∉ done.map (·.1) → putF f v done = done ++ [(f, v)]
  | [], _ => rfl
  | (g, x) :: r, h => by
    simp only [List.map_cons, List.mem_cons, not_or] at h
    rw [putF, if_neg (fun z => h.1 z.symm), putF_new h.2]; rfl
theorem PSs_imp' {X : Cx} {st : List Stmt} {t t' : TS} (h : PSs X st t) (i : ∀ D σ H, t' D σ H → t D σ H) : PSs X st t' := ⟨fun pins s σ H D I hw => h.run pins s σ H D I (i _ _ _ hw)⟩
theorem pss_init {X : Cx} {c : Str} {ns : List Str} (hc : ClsF X.K c ns) : ∀ {fs : List Str} {j : Nat} {sts : List Stmt}, (∀ f ∈ fs, f ∈ ns) → initB X.N X.env.scope j fs sts = true → PSs X sts (tInit X.K c j fs)
  | [], j, sts, _, h => by
    cases sts with
    | cons s r => simp [initB] at h
    | nil =>
      refine PSs_imp' pss_nil fun D σ H ⟨x, dx, done, us, h1, h2, h3, h4, h5, h6, h7, h8⟩ => ?_
      rw [List.zip_nil_left, List.append_nil] at h8
      have e : upd H x (.ins (He.ga X.K c) dx done) = H := by
        funext b
        by_cases hb : b = x
        · subst hb; rw [upd_same, h4]
        · rw [upd_ne hb]
      rw [e] at h8
      exact h8
  | f :: fs, j, sts, hn, h => by
    unfold initB at h
    split at h
    · rename_i hq; cases hq
    · rename_i j' f' fs' sx p1 g p2 vx p3 p4 r hq
      cases hq
      simp only [Bool.and_eq_true, decide_eq_true_eq] at h
      obtain ⟨⟨⟨rfl, h2⟩, h3⟩, h4⟩ := h
      obtain ⟨a1, a2, a3, a4⟩ := visB_ok' h2
      obtain ⟨b1, b2, b3, b4⟩ := visB_ok' h3
      refine PSs_imp' (pss_cons (ps_fld (pe_var a1 a2 a3 a4) (pe_var b1 b2 b3 b4) (by rfl)) (pss_init hc (fun f hf => hn f (List.mem_cons_of_mem _ hf)) h4)) fun D σ H ⟨x, dx, done, us, g1, g2, g3, g4, g5, g6, g7, g8⟩ => ?_
      cases us with
      | nil => simp at g2
      | cons u us =>
        have hf : g ∉ done.map (·.1) := g5 g List.mem_cons_self
        have hnd := List.nodup_cons.mp g6
        simp only [List.length_cons] at g2 g7
        refine ⟨u, by simpa using g3 0 u rfl, _, g1, x, _, dx, done, rfl, g4, hc.1, hc.2 g (hn g List.mem_cons_self), by omega, ?_⟩
        rw [putF_new hf]
        refine ⟨x, dx, done ++ [(g, u)], us, g1, by omega, fun i w hw => ?_, upd_same, fun f' hf' => ?_, hnd.2, by simp; omega, ?_⟩
        · have := g3 (i + 1) w (by simpa using hw)
          rw [Nat.add_assoc, Nat.add_comm 1 i]; exact this
        · simp only [List.map_append, List.mem_append, List.map_cons, List.map_nil, List.mem_singleton, not_or]
          exact ⟨g5 f' (List.mem_cons_of_mem _ hf'), fun z => hnd.1 (z ▸ hf')⟩
        · rw [upd_two, List.append_assoc]
          rw [List.zip_cons_cons] at g8
          exact g8
    · cases h
/-- the promise of such an __init__ -/
def initSp (K : PySem.W.Frag) (c : Str) (ns : List Str) : Sp := fun vs H Q _ => ∃ (x dx : Addr) (us : List V), vs = .ref x :: us ∧ us.length = ns.length ∧ H x = some (.ins (He.ga K c) dx []) ∧ Q .non (upd H x (.ins (He.ga K c) dx (ns.zip us)))
theorem init_ok {P : Program} {w : World} {K : PySem.W.Frag} {mg : Str → Option Value} {base : Heap} {x qual : Str} {params : Arguments} {body : List Stmt} {scope : Scope} {dvs : List V} {kws : List (Str × V)} {f : Addr} {fd : FuncData} {c sf : Str} {ns : List Str}
    (FD : FunD K x qual params body scope dvs kws f fd) (Sc : FnScope (sf :: ns) (sf :: ns) scope) (hc : ClsF K c ns) (hb : initB (sf :: ns) scope 1 ns body = true) (hl : ns.length < 900) :
    FnOk P w K mg base CX0 1 f fd (sf :: ns) (initSp K c ns) := by
  refine FD.ok Sc (fun vs H Q E h => ?_) fun cdv A outer s H vs Q E hr hsp => ?_
  · obtain ⟨x, dx, us, rfl, h2, _⟩ := h
    simp [h2]
  · obtain ⟨x, dx, us, rfl, h2, h3, h4⟩ := hsp
    refine ⟨_, pss_init (X := cxOf CX0 P w K mg base (sf :: ns) qual scope f cdv A outer s H E) hc (fun f hf => hf) hb, ?_⟩
    refine ⟨x, dx, [], us, rfl, h2, fun i u hu => ?_, h3, by simp, (List.nodup_cons.mp Sc.nd).2, by simp; omega, by rw [List.nil_append]; exact h4⟩
    unfold L2.start
    have hi : i < us.length := (List.getElem?_eq_some_iff.mp hu).1
    rw [List.getElem?_append_left (by simp; omega), List.getElem?_map, Nat.add_comm, List.getElem?_cons_succ, hu]
    rfl
/-- C(..) -/
theorem pd_mk {X : Cx} {W : WS} {a : Expr} {es : List Expr} {gs : Ev → St' → R (List SV)} {p pos : Pos} {c sf : Str} {ns : List Str} {fI : Addr} {fd : FuncData} (hcl : ClsF X.K c ns) (Mc : Mk X.K (He.ga X.K c) fI) (F : FnOk X.prog X.w X.K X.mg X.base CX0 1 fI fd (sf :: ns) (initSp X.K c ns))
    (hb : Binds X.K fd (sf :: ns) []) (hr : Room 2 X.A) (hg : Gl X c) (hm : X.mg c = some (.ref (He.ga X.K c))) (hdb : (c == ("__debug__" : Str)) = false) (ha : PA X (a :: es) (tDA X.K W gs)) (hst : (a :: es).all noStar = true) :
    PE X (.Call (.Name c p) (a :: es) [] pos) (tD X.K W fun ρ S => (gs ρ S).bind fun vs S1 => if vs.length = ns.length then .ok (.ins c ns vs) S1 else .bad) := by
  have hst' := hst
  rw [List.all_cons, Bool.and_eq_true] at hst'
  refine PE_imp (pe_make (E := E0) Mc F hr hg hm hb .nil pass0 ha hdb (star_cons hst'.1) (star_any hst'.2)) fun σ H Q ⟨m, S, ρ, ok, re, h⟩ => ?_
  refine tDA_bind ok re h fun xs vs S1 H1 m1 ok1 re1 f1 rvs h1 => ?_
  intro x dx nx ndx ne
  split at h1
  · rename_i hlen
    have hlv : vs.length = ns.length := rvs.length.trans hlen
    refine ⟨x, dx, vs, by rw [List.append_nil], hlv, upd_same, rfl, ?_⟩
    rw [upd_two]
    obtain ⟨ok2, f2⟩ := ok1.laid ndx (.own x)
    have nx2 : upd H1 dx (.own x) x = none := by rw [upd_ne (Ne.symm ne)]; exact nx
    obtain ⟨ok3, f3⟩ := ok2.laid nx2 (.ins (He.ga X.K c) dx (ns.zip vs))
    refine h1 _ m1 ok3 (f2.trans f3) _ ?_
    rw [RepS]
    exact ⟨x, dx, vs, rfl, upd_same, ok2.fresh nx2, hlv, hcl, RepL.mono (f2.trans f3) (repL_of rvs)⟩
  · exact h1.elim
end M

/-! dicts with text and int keys that are changed; a text with signs struck out as the last argument of a call -/
namespace M
open PySem PySem.Spec PyProof.Rows L2
section
variable {X : Cx} {W : WS} {F : FS} {a b : Expr} {ga gb : Ev → St' → R SV} {pos p : Pos}
def trsOf (K : PySem.W.Frag) (W : WS) (F : FS) (ks : List Str) (mes : List ME) : List (TE × TE) := (ks.zip mes).map fun q => (tC (.str q.1), tD K W (evalE F q.2))
theorem tPairs_D {σ : L2.St} {ρ : Ev} {P : Hp → List Addr → St' → List SV → Prop} : ∀ {mes : List ME} {ks : List Str} {H : Hp} {m : List Addr} {S : St'} {Q : List (V × V) → Hp → Prop}, ks.length = mes.length → StOk X.K H m S → RelE X.K H m S σ ρ →
    Run X.K P (W σ) H m S (evalEs F mes ρ S) → (∀ H' m' S' vs us, StOk X.K H' m' S' → Fr H m S H' m' S' → P H' m' S' vs → RepSs X.K H' m' S' us vs → Q ((ks.map V.str).zip us) H') → tPairs (trsOf X.K W F ks mes) σ H Q
  | [], ks, H, m, S, Q, hl, ok, re, h, hq => by
    cases ks with
    | cons k ks => simp at hl
    | nil =>
      rw [evalEs] at h
      exact hq H m S [] [] ok .refl (h H m ok .refl) .nil
  | me :: mes, ks, H, m, S, Q, hl, ok, re, h, hq => by
    cases ks with
    | nil => simp at hl
    | cons k ks =>
      rw [evalEs] at h
      refine ⟨m, S, ρ, ok, re, h.bind fun x S1 H1 m1 ok1 f1 h1 v rv => ?_⟩
      refine tPairs_D (P := fun H' m' S' vs => P H' m' S' (x :: vs)) (ks := ks) (mes := mes) (by simpa using hl) ok1 (re.mono f1) ?_ fun H' m' S' vs us ok' f' hp hr => ?_
      · exact h1.bind fun vs S2 H2 m2 ok2 f2 h2 => h2 H2 m2 ok2 .refl
      · exact hq H' m' S' (x :: vs) (v :: us) ok' (f1.trans f') hp (.cons (rv.mono f') hr)
theorem zip_keys : ∀ (ks : List Str) (us : List V), ((ks.map V.str).zip us) = ((ks.map fun k => (Sum.inr k : Key)).zip us).map fun kv => (kV kv.1, kv.2)
  | [], us => by simp
  | k :: ks, [] => by simp
  | k :: ks, u :: us => by simp [zip_keys ks us, kV]
/-- x = {"a": e, ..} -/
theorem ps_newkD {i : Nat} {x : Str} {p' : Pos} {ks : List Str} {mes : List ME} {e : Expr} (hN : X.N.Nodup) (hi : X.N[i]? = some x) (hx : Loc X.env.scope x) (hf : X.fn x = true ∨ X.env.scope.names.lookup x = some .local) (hs : swapsWith e (some (.Name x p')) pos.line X.env = pure false)
    (hl : ks.length = mes.length) (he : PE X e (tDisp (trsOf X.K W F ks mes))) : PS X (.Assign [.Name x p'] e pos) (tDS X.K W (execS F (.newk i ks mes))) := by
  refine PS_imp (ps_set hN hi hx he hs hf) fun E σ H ⟨m, S, ρ, ok, re, h⟩ => fun p hp => ?_
  rw [execS] at h
  obtain ⟨ok1, f1⟩ := ok.pushO hp (uo := .dK []) (oo := .dk []) fun f => ⟨[], upd_same, rfl, .nil⟩
  have re1 := re.mono f1
  have h1 := RunO.mono h f1
  refine tPairs_D (P := fun H' m' S' vs => RunO X.K W E H' m' S' (newkO ρ i S.length ks vs S')) hl ok1 re1 (RunO.of re1 h1 fun vs S1 H1 m1 ok2 f2 h2 => h2) fun H2 m2 S2 vs us ok2 f2 h2 hr => ?_
  unfold newkO at h2
  split at h2
  · rename_i ds S3 hg
    obtain ⟨ok3, f3, r3⟩ := ok2.grabs hr hg
    split at h2
    · rename_i hS
      split at h2
      · rename_i hc
        have hm : m2[S.length]? = some p := by
          obtain ⟨t, rfl⟩ := f2.2
          rw [List.getElem?_append_left (by simp [ok.len]), ← ok.len]; simp
        obtain ⟨kv, g1, g2, g3⟩ := ok3.at_ S.length p _ hm hS
        have hkv : kv = [] := by simpa using g2
        subst hkv
        refine ⟨g1, (ks.map fun k => (Sum.inr k : Key)).zip us, zip_keys ks us, ?_, ?_⟩
        · rw [List.length_zip, List.length_map]
          exact Nat.le_trans (Nat.min_le_left _ _) hc.2
        · obtain ⟨e1, e2⟩ := merge_rel (K := X.K) (H := H2) (N := Own m2 S3) (kv := []) (kvs := []) rfl .nil r3 hc.1
          obtain ⟨ok4, f4⟩ := ok3.writeO hm hS (fun z => nomatch z) (uo := .dK (mergeK [] ((ks.map fun k => (Sum.inr k : Key)).zip us))) (oo := .dk (mergeD [] ks ds)) fun f => ⟨_, upd_same, e1, e2.mono f⟩
          refine h2 _ m2 _ ok4 (f3.trans f4) ?_
          exact (((re1.mono f2).mono f3).mono f4).set i (d := .o S.length) ⟨p, hm, rfl⟩
      · exact h2.elim
    · exact h2.elim
  · exact h2.elim
/-- x = {} -/
theorem ps_newk0 {i : Nat} {x : Str} {p' p2 : Pos} (hN : X.N.Nodup) (hi : X.N[i]? = some x) (hx : Loc X.env.scope x) (hf : X.fn x = true ∨ X.env.scope.names.lookup x = some .local) :
    PS X (.Assign [.Name x p'] (.Dict [] [] p2) pos) (tDS X.K W (execS F (.newk i [] []))) := by
  refine PS_imp (ps_set hN hi hx pe_dnewK (by rfl) hf) fun E σ H ⟨m, S, ρ, ok, re, h⟩ => fun p hp => ?_
  rw [execS, evalEs] at h
  obtain ⟨ok2, f2⟩ := ok.pushO hp (uo := .dK []) (oo := .dk []) fun f => ⟨[], upd_same, rfl, .nil⟩
  have hO : Out.of ρ (R.ok ([] : List SV) (S ++ [O.dk []])) (fun vs S1 => newkO ρ i S.length [] vs S1) = .nx (ρ.set i (some (.o S.length))) (S ++ [.dk []]) := by
    simp [Out.of, newkO, grabs, mergeD]
  rw [hO] at h
  refine h _ (m ++ [p]) _ ok2 f2 ?_
  refine (re.mono f2).set i (d := .o S.length) ⟨p, ?_, rfl⟩
  rw [← ok.len]; simp
/-- x[k] = e -/
theorem ps_putkD {i : Nat} {x : Str} {p2 p3 : Pos} (hu : X.A.units + 1 < cLine) (hi : X.N[i]? = some x) (hv : Vis X.env.scope x) (hd : (x == ("__debug__" : Str)) = false) (hcd : (x == ("__classdict__" : Str)) = false)
    (ha : PE X a (tD X.K W ga)) (hb : PE X b (tD X.K W gb)) (hs : swapsWith a (some (.Subscript (.Name x p2) b p3)) pos.line X.env = pure false) :
    PS X (.Assign [.Subscript (.Name x p2) b p3] a pos) (tDS X.K W fun ρ S => Out.of ρ (ga ρ S) fun v S1 => match grab S1 v with
    | some (d, S2) => match ρ[i]? with
      | some (some (.o n)) => Out.of ρ (gb ρ S2) fun kv S3 => putkO ρ n d kv S3
      | _ => .bad
    | none => .bad) := by
  refine PS_imp (ps_dput hu (pe_var hi hv hd hcd) hb ha hs) fun E σ H ⟨m, S, ρ, ok, re, h⟩ => ⟨m, S, ρ, ok, re, RunO.of re h fun v S1 H1 m1 ok1 f1 h1 u ru => ?_⟩
  split at h1
  · rename_i d S2 hg
    obtain ⟨ok2, f2, r2⟩ := ok1.grab ru hg
    have re2 := (re.mono f1).mono f2
    split at h1
    · rename_i n hn
      obtain ⟨w, e, ad, hm, rfl⟩ := re2.2 i _ hn
      refine ⟨_, e, m1, S2, ρ, ok2, re2, RunO.of re2 (RunO.mono h1 f2) fun kv S3 H3 m3 ok3 f3 h3 y ry => ?_⟩
      unfold putkO at h3
      split at h3
      · rename_i k kvs hk hS
        split at h3
        · rename_i hz
          have hm3 : m3[n]? = some ad := by
            obtain ⟨t, rfl⟩ := f3.2
            rw [List.getElem?_append_left (List.getElem?_eq_some_iff.mp hm).1]; exact hm
          obtain ⟨kv', a1, a2, a3⟩ := ok3.at_ n ad _ hm3 hS
          cases keyV_rep ry hk
          have hlen : kv'.length = kvs.length := by have := congrArg List.length a2; simpa using this
          obtain ⟨ok4, f4⟩ := ok3.writeO hm3 hS (fun z => nomatch z) (uo := .dK (putK kv' k u)) (oo := .dk (putKD kvs k d)) fun f => ⟨putK kv' k u, upd_same, by rw [putK_keys, putKD_keys, a2], (reps_putKD a2 a3 (r2.mono f3.1)).mono f⟩
          exact ⟨ad, _, rfl, .inl ⟨kv', k, a1, rfl, by rw [hlen]; exact hz, rfl⟩, h3 _ m3 σ ok4 f4 ((re2.mono f3).mono f4)⟩
        · exact h3.elim
      · exact h3.elim
    · exact h1.elim
  · exact h1.elim
/-! ### a token is given out ahead of the written texts of e.replace(..) -/
/-- an expression behind which a token is out -/
def PEB (X : Cx) (e : Expr) (t : TE) : Prop :=
  ∀ (pins : List (Addr × Obj)) (s : Shared) (σ : L2.St) (H : Hp) (Q : VK), L2.Inv X pins σ H s → t σ H Q → wpAny (model X.prog X.w) X.A (eval e X.env) (fun v s1 => 1 ≤ s1.toks ∧ EP X pins σ Q v s1) X.xe s
theorem peb_op {op : Operator} {r : R2} {ta : TE} {i : Int} {j : Nat} {ci : Pos} (ho : OpR X (binaryOp op) r) (ha : PE X a ta) : PEB X (.BinOp a op (.Constant (.int i) j ci) pos) (tOp r ta (tC (.int i))) := by
  intro pins s σ H Q I h
  refine wpAny_BinOp (thn (ha.run pins s σ H _ I h) fun v s1 ⟨x, H1, I1, r1, q1⟩ => ?_)
  refine wpAny_Constant_int ?_
  refine wpAny_mono (PySem.wpAny_toks (ho pins { s1 with toks := s1.toks + 1 } σ H1 x (.int i) v (.int i s1.toks) Q (I1.tok _) r1 ⟨_, rfl⟩ q1)) (fun u s2 q => ⟨?_, q.2⟩) fun _ _ z => z.2
  exact Nat.le_trans (Nat.le_add_left 1 s1.toks) q.1
/-- arguments, the second of which gives out a token -/
theorem pa_B {e1 e2 : Expr} {es : List Expr} {t1 t2 : TE} {ta : TA} (h1 : PE X e1 t1) (h2 : PEB X e2 t2) (h3 : PAT X es ta) (hs1 : noStar e1 = true) (hs2 : noStar e2 = true) : PA X (e1 :: e2 :: es) (tCons t1 (tCons t2 ta)) := by
  refine ⟨fun pos pins s σ H Q I h => ?_⟩
  rw [star_cons hs1, star_cons hs2]
  refine Calls.spliced_cons (thn (h1.run pins s σ H _ I h) fun v s1 ⟨x, H1, I1, r1, q1⟩ => ?_)
  refine Calls.spliced_cons (wpAny_mono (h2 pins s1 σ H1 _ I1 q1) (fun v2 s2 ⟨hk, y, H2, I2, r2, q2⟩ => ?_) fun _ _ z => z)
  exact thn (h3 pos pins s2 σ H2 _ hk I2 q2) fun us s3 ⟨xs, H3, I3, r3, q3⟩ => ⟨x :: y :: xs, H3, I3, .cons r1 (.cons r2 r3), q3⟩
end
end M

/-! f(.., a - 1, .., w.replace(y, z)) -/
namespace M
open PySem PySem.Spec PyProof.Rows L2
section
variable {X : Cx} {W : WS} {F : FS} {a b : Expr} {ga gb : Ev → St' → R SV} {pos p : Pos}
theorem PAT_imp {es : List Expr} {t t' : TA} (h : PAT X es t) (i : ∀ σ H Q, t' σ H Q → t σ H Q) : PAT X es t' := fun pos pins s σ H Q h0 I hw => h pos pins s σ H Q h0 I (i _ _ _ hw)
theorem PEB_imp {e : Expr} {t t' : TE} (h : PEB X e t) (i : ∀ σ H Q, t' σ H Q → t σ H Q) : PEB X e t' := fun pins s σ H Q I hw => h pins s σ H Q I (i _ _ _ hw)
/-- a o i, i written -/
theorem peb_bin (o : Bn) {i : Int} {j : Nat} {ci : Pos} (ha : PE X a (tD X.K W ga)) : PEB X (.BinOp a (opOf o) (.Constant (.int i) j ci) pos) (tD X.K W fun ρ S => (ga ρ S).bind fun x S1 =>
      R.opt ((peek S1 x).bind fun d => (binD o d (.int i)).map .t) S1) := by
  refine PEB_imp (peb_op (or_bin o) ha) fun σ H Q ⟨m, S, ρ, ok, re, h⟩ => ?_
  refine tD_bind ok re h fun x v S1 H1 m1 ok1 re1 f1 rv h1 => ?_
  obtain ⟨r, e, q⟩ := Run.opt h1 ok1
  obtain ⟨d, e1, e⟩ := Option.bind_eq_some_iff.mp e
  obtain ⟨r', e3, rfl⟩ := Option.map_eq_some_iff.mp e
  exact ⟨m1, S1, d, .int i, r', ok1, ok1.peek rv e1, .of (.int i), e3, fun H' w ok' f' hw => q H' ok' f' w hw⟩
/-- what comes behind the first arguments -/
def tailR (F : FS) (w : ME) (y z : Str) (ρ : Ev) (S1 : St') : R SV := (evalE F w ρ S1).bind fun v S2 => R.opt (replV v y z) S2
def repR (F : FS) (mes : List ME) (w : ME) (y z : Str) (ρ : Ev) (S : St') : R (List SV) := (evalEs F mes ρ S).bind fun vs S1 => (tailR F w y z ρ S1).bind fun u S3 => .ok (vs ++ [u]) S3
theorem repR_nil (w : ME) (y z : Str) (ρ : Ev) (S : St') : repR F [] w y z ρ S = (tailR F w y z ρ S).bind fun u S3 => .ok [u] S3 := by
  unfold repR; rw [evalEs, R.bind_ok]; rfl
theorem repR_cons (me : ME) (mes : List ME) (w : ME) (y z : Str) (ρ : Ev) (S : St') : repR F (me :: mes) w y z ρ S = (evalE F me ρ S).bind fun v S1 => (repR F mes w y z ρ S1).bind fun vs S2 => .ok (v :: vs) S2 := by
  unfold repR
  rw [evalEs, R.bind_assoc]
  congr 1; funext v S1
  simp only [R.bind_assoc, R.bind_ok, List.cons_append]
theorem pat_rep0 {wx : Expr} {w : ME} {y z : Str} {j k : Nat} {c0 c1 ap cp : Pos} (hw : PE X wx (tD X.K W (evalE F w))) (hyz : (y == z) = false) (hb : attributeBase wx "replace" X.env (eval wx X.env) = eval wx X.env) (hl : (ap.endLine == cp.line) = true) :
    PAT X [.Call (.Attribute wx "replace" ap) [.Constant (.str y) j c0, .Constant (.str z) k c1] [] cp] (tDA X.K W (repR F [] w y z)) := by
  refine PAT_imp (pat_cons (CwR.pet_replC hw hyz (by rw [star_cons rfl, star_cons rfl, starEach]) hb hl) pat_nil (star_cons rfl)) fun σ H Q ⟨m, S, ρ, ok, re, h⟩ => ?_
  rw [repR_nil, tailR] at h
  simp only [R.bind_assoc] at h
  refine tD_bind ok re h fun x v S1 H1 m1 ok1 re1 f1 rv h1 => ?_
  obtain ⟨u, e, q⟩ := Run.opt_bind h1
  cases x with
  | t d =>
    cases d with
    | str xs =>
      simp only [replV] at e
      split at e
      · rename_i hz
        cases e
        unfold repT at q
        rw [RepS] at rv
        cases rv
        exact ⟨xs, rfl, hz, q H1 m1 ok1 .refl _ (.cons (by rw [RepS]; exact .str _) .nil)⟩
      · cases e
    | _ => cases e
  | _ => cases e
theorem pat_repC {e : Expr} {me : ME} {es : List Expr} {mes : List ME} {w : ME} {y z : Str} (he : PE X e (tD X.K W (evalE F me))) (hs : noStar e = true) (h : PAT X es (tDA X.K W (repR F mes w y z))) : PAT X (e :: es) (tDA X.K W (repR F (me :: mes) w y z)) := by
  refine PAT_imp (pat_cons (CwR.PET.of he) h (star_cons hs)) fun σ H Q ⟨m, S, ρ, ok, re, h⟩ => ?_
  rw [repR_cons] at h
  refine tD_bind ok re h fun x v S1 H1 m1 ok1 re1 f1 rv h1 => ?_
  exact tDA_bind ok1 re1 h1 fun xs vs S2 H2 m2 ok2 re2 f2 rvs h2 => h2 H2 m2 ok2 .refl _ (.cons (rv.mono f2) rvs)
theorem pa_rep {e1 e2 : Expr} {me1 me2 : ME} {es : List Expr} {mes : List ME} {w : ME} {y z : Str} (h1 : PE X e1 (tD X.K W (evalE F me1))) (h2 : PEB X e2 (tD X.K W (evalE F me2))) (hs1 : noStar e1 = true) (hs2 : noStar e2 = true) (h3 : PAT X es (tDA X.K W (repR F mes w y z))) :
    PA X (e1 :: e2 :: es) (tDA X.K W (repR F (me1 :: me2 :: mes) w y z)) := by
  refine PA_imp (pa_B h1 h2 h3 hs1 hs2) fun σ H Q ⟨m, S, ρ, ok, re, h⟩ => ?_
  rw [repR_cons] at h
  refine tD_bind ok re h fun x v S1 H1 m1 ok1 re1 f1 rv h1 => ?_
  rw [repR_cons] at h1
  simp only [R.bind_assoc] at h1
  refine tD_bind ok1 re1 h1 fun x2 v2 S2 H2 m2 ok2 re2 f2 rv2 h2 => ?_
  exact tDA_bind ok2 re2 h2 fun xs vs S3 H3 m3 ok3 re3 f3 rvs h3 => h3 H3 m3 ok3 .refl _ (.cons ((rv.mono f2).mono f3) (.cons (rv2.mono f3) rvs))
theorem eval_callR (f : Nat) (es : List ME) (w : ME) (y z : Str) : evalE F (.callR f es w y z) = fun ρ S => (repR F es w y z ρ S).bind fun vs S1 => F f vs S1 := by
  funext ρ S
  rw [evalE, repR]
  simp only [R.bind_assoc, tailR, R.bind_ok]
end
end M

/-! what is checked is sound: expressions -/
namespace M
open PySem PySem.Spec PyProof.Rows L2

structure Gd (G : Glo) (F : FS) (xr : XR) (k : Nat) (X : Cx) : Prop where
  nd : X.N.Nodup
  calm : X.calm = true
  room : Room k X.A
  fns : ∀ f fi, G.fns[f]? = some fi → ∃ (a : Addr) (fd : FuncData), X.mg fi.name = some (.ref a) ∧ PySem.W.keepIn X.K (.ref a) = true ∧ Binds X.K fd fi.ps [] ∧ FnOk X.prog X.w X.K X.mg X.base (L2.CX X.prog X.w) k a fd fi.ps (spOf X.K xr fi.ps.length (F f)) ∧ ∀ ds S, F f ds S ≠ .bad → ds.length = fi.ps.length
  free : ∀ x ∈ G.free, X.mg x = none
  consts : ∀ p ∈ G.consts, ∃ (u : Value) (v : V), X.mg p.1 = some u ∧ RelV v u ∧ ∀ H N, Rep X.K H N v p.2
  two : 2 ≤ k
  cls : ∀ p ∈ G.cls, ∃ (sf : Str) (fI : Addr) (fd : FuncData), ClsF X.K p.1 p.2 ∧ Mk X.K (He.ga X.K p.1) fI ∧ FnOk X.prog X.w X.K X.mg X.base CX0 1 fI fd (sf :: p.2) (initSp X.K p.1 p.2) ∧ Binds X.K fd (sf :: p.2) [] ∧ X.mg p.1 = some (.ref (He.ga X.K p.1))
  gds : ∀ p ∈ G.gds, ∃ d, X.mg p.1 = some (.ref d) ∧ gdOk X.K X.w d p.2
theorem Gd.blk {G : Glo} {F : FS} {xr : XR} {k : Nat} {X : Cx} (g : Gd G F xr k X) (s : Shared) (H : Hp) (scope : Scope) (cenv : Env) (fp : List Addr) : Gd G F xr k (X.blk s H scope cenv fp) :=
  ⟨g.nd, g.calm, g.room, g.fns, g.free, g.consts, g.two, g.cls, g.gds⟩
theorem Gd.u70 {G : Glo} {F : FS} {xr : XR} {k : Nat} {X : Cx} (g : Gd G F xr k X) : X.A.units + 70 < cLine := by have := g.room.un; omega
theorem Gd.u65 {G : Glo} {F : FS} {xr : XR} {k : Nat} {X : Cx} (g : Gd G F xr k X) : X.A.units + 65 < cLine := by have := g.room.un; omega

structure Snd (X : Cx) (W : WS) (F : FS) (me : ME) (e : Expr) : Prop where
  pe : PE X e (tD X.K W (evalE F me))
  pt : PT X e (tDT X.K W fun ρ S => tru (evalE F me ρ S))
  pw : ∀ op l p, e = .BoolOp op l p → PW X e (tDT X.K W fun ρ S => tru (evalE F me ρ S))
/-- a form whose test is its value's truth -/
def plainT : Expr → Bool
  | .UnaryOp .Not _ _ | .BoolOp _ _ _ | .IfExp _ _ _ _ | .Compare _ _ _ _ => false
  | _ => true
theorem plainT_is {env : Env} {a : Expr} (h : plainT a = true) : ∀ whole, isTrue a env whole = (do let v ← whole; standAt a.pos; holding [v] (truthy v)) := by
  intro whole
  unfold PySem.isTrue
  split <;> first
    | (exfalso; cases h; done)
    | rfl
theorem Snd.plain {X : Cx} {W : WS} {F : FS} {me : ME} {e : Expr} (h : PE X e (tD X.K W (evalE F me))) (hp : plainT e = true) : Snd X W F me e :=
  ⟨h, pt_D h (plainT_is hp), fun op l p z => by subst z; cases hp⟩
theorem sub_plain {b : Expr} (h : notSlice b = true) : PlainIx b := by
  intro o i
  unfold subscripted
  split <;> first
    | (exfalso; cases h; done)
    | rfl
    | (rename_i z; exact absurd z (by simp))
theorem visB_ok {X : Cx} {i : Nat} {x : Str} (h : visB X.N X.env.scope i x = true) : X.N[i]? = some x ∧ Vis X.env.scope x ∧ (x == ("__debug__" : Str)) = false ∧ (x == ("__classdict__" : Str)) = false := by
  unfold visB at h
  simp only [Bool.and_eq_true, Bool.or_eq_true, decide_eq_true_eq, Bool.not_eq_true'] at h
  obtain ⟨⟨⟨h1, h2⟩, h3⟩, h4⟩ := h
  refine ⟨h1, ?_, h3, h4⟩
  rcases h2 with (h2 | h2) | h2
  · exact .inl (isK_eq h2)
  · exact .inr (.inl (isK_eq h2))
  · exact .inr (.inr (isK_eq h2))
theorem gloB_ok {X : Cx} {x : Str} (h : gloB X.env.scope x = true) : Gl X x ∧ (x == ("__debug__" : Str)) = false ∧ x ≠ ("__name__" : Str) := by
  unfold gloB at h
  simp only [Bool.and_eq_true, Bool.not_eq_true', decide_eq_false_iff_not] at h
  exact ⟨isK_eq h.1.1, h.1.2, h.2⟩
theorem freeB_ok {G : Glo} {F : FS} {xr : XR} {k : Nat} {X : Cx} (g : Gd G F xr k X) {x : Str} (h : freeB G X.env.scope x = true) : Gl X x ∧ (x == ("__debug__" : Str)) = false ∧ x ≠ ("__name__" : Str) ∧ X.mg x = none := by
  unfold freeB at h
  simp only [Bool.and_eq_true, decide_eq_true_eq] at h
  obtain ⟨h1, h2, h3⟩ := gloB_ok h.1
  exact ⟨h1, h2, h3, g.free x h.2⟩
theorem biN_boot (b : Bi) : bootBuiltins (biN b) = some (bval b) := by cases b <;> (simp only [biN, bval]; decide +kernel)
theorem tyS_boot (t : Ty) : bootBuiltins (tyS t) = some (.type (tyN t)) := by cases t <;> (simp only [tyS, tyN]; decide +kernel)
theorem const_pe {X : Cx} {W : WS} {F : FS} {d : D} {c : Const} {j : Nat} {pos : Pos} (h : constB d c = true) : PE X (.Constant c j pos) (tD X.K W (evalE F (.lit d))) := by
  have e : (evalE F (.lit d)) = fun _ S => .ok (.t d) S := by funext ρ S; rw [evalE]
  rw [e]
  unfold constB at h
  split at h
  · exact pd_const (F := F) pe_non fun _ _ => .non
  · have := eq_of_beq h; subst this; exact pd_const (F := F) pe_bl fun _ _ => .bl _
  · have := of_decide_eq_true h; subst this; exact pd_const (F := F) pe_int fun _ _ => .int _
  · have := of_decide_eq_true h; subst this; exact pd_const (F := F) pe_str fun _ _ => .str _
  · cases h
theorem tgB_ok {X : Cx} {cl : Str → Bool} (hcl : ∀ x, cl x = true → X.fn x = true) {i : Nat} {x : Str} (h : tgB X.N X.env.scope cl i x = true) : X.N[i]? = some x ∧ Loc X.env.scope x ∧ (X.fn x = true ∨ X.env.scope.names.lookup x = some .local) := by
  unfold tgB at h
  simp only [Bool.and_eq_true, Bool.or_eq_true, decide_eq_true_eq] at h
  obtain ⟨h1, h2 | h2⟩ := h
  · exact ⟨h1, .inl (isK_eq h2), .inr (isK_eq h2)⟩
  · exact ⟨h1, .inr (isK_eq h2.1), .inl (hcl x h2.2)⟩
theorem tgsB_ok {X : Cx} {cl : Str → Bool} (hcl : ∀ x, cl x = true → X.fn x = true) : ∀ {is : List Nat} {es : List Expr}, tgsB X.N X.env.scope cl is es = true → TgsOk X is es
  | [], [], _ => .nil
  | i :: is, .Name x p :: es, h => by
    rw [tgsB, Bool.and_eq_true] at h
    obtain ⟨a, b, c⟩ := tgB_ok hcl h.1
    exact .cons a b c (tgsB_ok hcl h.2)
  | [], _ :: _, h => by simp [tgsB] at h
  | i :: is, [], h => by simp [tgsB] at h
  | i :: is, e :: es, h => by
    cases e with
    | Name x p =>
      rw [tgsB, Bool.and_eq_true] at h
      obtain ⟨a, b, c⟩ := tgB_ok hcl h.1
      exact .cons a b c (tgsB_ok hcl h.2)
    | _ => simp [tgsB] at h
theorem tgtB_ok {X : Cx} {cl : Str → Bool} (hc : X.calm = true) (hN : X.N.Nodup) (hcl : ∀ x, cl x = true → X.fn x = true) {tg : Tg} {e : Expr} (h : tgtB X.N X.env.scope cl tg e = true) : PG X e (gD X.K tg) := by
  unfold tgtB at h
  split at h
  · obtain ⟨a, b, c⟩ := tgB_ok hcl h
    exact pg_v hN a b c
  · exact pg_tp hc hN (tgsB_ok hcl h)
  · cases h
theorem tysB_ok {G : Glo} {F : FS} {xr : XR} {k : Nat} {X : Cx} (g : Gd G F xr k X) : ∀ {ts : List Ty} {es : List Expr}, tysB G X.env.scope ts es = true → TysOk X ts es
  | [], [], _ => tys_nil
  | [], _ :: _, h => by simp [tysB] at h
  | t :: ts, [], h => by simp [tysB] at h
  | t :: ts, e :: es, h => by
    cases e with
    | Name x p =>
      simp only [tysB, Bool.and_eq_true, decide_eq_true_eq] at h
      obtain ⟨⟨rfl, h2⟩, h3⟩ := h
      obtain ⟨a, b, c, d⟩ := freeB_ok g h2
      exact tys_cons a d (tyS_boot t) c b (tysB_ok g h3)
    | _ => simp [tysB] at h
theorem diB_eq {neg : Bool} {op : CmpOp} (h : diB neg op = true) : op = diOp neg := by
  cases neg <;> cases op <;> first | rfl | cases h
theorem replB_ok {y z : Str} {x wx : Expr} (h : replB y z x = some wx) : ∃ (j k : Nat) (c0 c1 ap cp : Pos), x = .Call (.Attribute wx "replace" ap) [.Constant (.str y) j c0, .Constant (.str z) k c1] [] cp ∧ (y == z) = false ∧ plainBase wx = true ∧ (ap.endLine == cp.line) = true := by
  unfold replB at h
  split at h
  · split at h
    · rename_i hc
      cases h
      simp only [Bool.and_eq_true, decide_eq_true_eq, Bool.not_eq_true'] at hc
      obtain ⟨⟨⟨⟨⟨rfl, rfl⟩, rfl⟩, h4⟩, h5⟩, h6⟩ := hc
      exact ⟨_, _, _, _, _, _, rfl, h4, h5, h6⟩
    · cases h
  · cases h
theorem bumpB_ok {xs : List Expr} (h : bumpB xs = true) : ∃ (e1 x : Expr) (op : Operator) (i : Int) (j : Nat) (ci p : Pos) (r : List Expr), xs = e1 :: .BinOp x op (.Constant (.int i) j ci) p :: r := by
  unfold bumpB at h
  split at h
  · exact ⟨_, _, _, _, _, _, _, _, rfl⟩
  · cases h
theorem ownOf_snd (N : List Str) : ∀ is : List Nat, (ownOf N is).map (·.2) = is
  | [] => rfl
  | i :: is => by rw [ownOf, List.map_cons, ownOf_snd N is]
theorem notSet_ok {e : Expr} {env : Env} (h : notSet e = true) : ∀ x, foldedSetIterable e env x = pure x := by
  intro x
  unfold foldedSetIterable
  split
  · cases h
  · rfl
theorem mt_facts (m : Mt) : PlainAttrs (mty m) ∧ Slot (mty m) (mtN m) (mid m) ∧ typeOf (.builtin (mid m)) = pure (.type "method_descriptor") := by
  cases m with
  | index => exact ⟨PySem.F.plainAttrs_list, PySem.F.slot_list_index, PySem.F.type_list_index⟩
  | split => exact ⟨PySem.F.plainAttrs_str, PySem.F.slot_str_split, PySem.F.type_str_split⟩
  | count => exact ⟨PySem.F.plainAttrs_str, PySem.F.slot_str_count, PySem.F.type_str_count⟩
  | join => exact ⟨PySem.F.plainAttrs_str, PySem.F.slot_str_join, PySem.F.type_str_join⟩
  | countL => exact ⟨PySem.F.plainAttrs_list, PySem.F.slot_list_count, PySem.F.type_list_count⟩
theorem plainBase_ok {o : Expr} {f : Str} {env : Env} (h : plainBase o = true) : attributeBase o f env (eval o env) = eval o env := by
  unfold attributeBase
  split
  · exact absurd h (by simp [plainBase])
  · rfl
/-- -e -/
theorem pd_neg {X : Cx} {W : WS} {a : Expr} {ga : Ev → St' → R SV} {pos : Pos} (ha : PE X a (tD X.K W ga)) : PE X (.UnaryOp .USub a pos) (tD X.K W fun ρ S => (ga ρ S).bind fun x S1 => match x with
    | .t (.int i) => .ok (.t (.int (-i))) S1
    | _ => .bad) := by
  refine PE_imp (pe_un un_neg ha) fun σ H Q ⟨m, S, ρ, ok, re, h⟩ => ?_
  refine tD_bind ok re h fun x v S1 H1 m1 ok1 re1 f1 rv h1 => ?_
  split at h1
  · cases RepS.int rv
    exact ⟨_, rfl, h1 H1 m1 ok1 .refl _ (by exact Rep.int _)⟩
  · exact h1.elim

/-! ### and, or as tests -/
section
variable {X : Cx} {W : WS} {a b : Expr} {ga gb : Ev → St' → R SV} {pos : Pos} {rest : List Expr}
def andR (ga gb : Ev → St' → R SV) : Ev → St' → R SV := fun ρ S => (ga ρ S).bind fun x S1 => (R.opt ((peek S1 x).bind truD) S1).bind fun k S2 => if k then gb ρ S2 else .ok x S2
def orR (ga gb : Ev → St' → R SV) : Ev → St' → R SV := fun ρ S => (ga ρ S).bind fun x S1 => (R.opt ((peek S1 x).bind truD) S1).bind fun k S2 => if k then .ok x S2 else gb ρ S2
theorem tru_and (ga gb : Ev → St' → R SV) (ρ : Ev) (S : St') : tru (andR ga gb ρ S) = (tru (ga ρ S)).bind fun k S1 => if k then tru (gb ρ S1) else .ok false S1 := by
  unfold tru andR
  simp only [R.bind_assoc]
  cases ga ρ S with
  | ok x S1 =>
    simp only [R.bind_ok]
    cases e : (peek S1 x).bind truD with
    | none => rfl
    | some k =>
      simp only [R.opt_some, R.bind_ok]
      cases k with
      | true => rfl
      | false => simp [e]
  | _ => rfl
theorem tru_or (ga gb : Ev → St' → R SV) (ρ : Ev) (S : St') : tru (orR ga gb ρ S) = (tru (ga ρ S)).bind fun k S1 => if k then .ok true S1 else tru (gb ρ S1) := by
  unfold tru orR
  simp only [R.bind_assoc]
  cases ga ρ S with
  | ok x S1 =>
    simp only [R.bind_ok]
    cases e : (peek S1 x).bind truD with
    | none => rfl
    | some k =>
      simp only [R.opt_some, R.bind_ok]
      cases k with
      | true => simp [e]
      | false => rfl
  | _ => rfl
theorem pw_andD {ta tb : Ev → St' → R Bool} (ha : PT X a (tDT X.K W ta)) (hb : PW X (.BoolOp .And (b :: rest) pos) (tDT X.K W tb)) : PW X (.BoolOp .And (a :: b :: rest) pos) (tDT X.K W fun ρ S => (ta ρ S).bind fun k S1 => if k then tb ρ S1 else .ok false S1) := by
  refine PW_imp (pw_and ha hb) fun σ H Q ⟨m, S, ρ, ok, re, h⟩ => ?_
  refine tDT_bind ok re h fun k S1 H1 m1 ok1 re1 f1 h1 => ?_
  cases k with
  | true => exact ⟨m1, S1, ρ, ok1, re1, h1⟩
  | false => exact h1 H1 m1 ok1 .refl
theorem pw_orD {ta tb : Ev → St' → R Bool} (ha : PT X a (tDT X.K W ta)) (hb : PW X (.BoolOp .Or (b :: rest) pos) (tDT X.K W tb)) : PW X (.BoolOp .Or (a :: b :: rest) pos) (tDT X.K W fun ρ S => (ta ρ S).bind fun k S1 => if k then .ok true S1 else tb ρ S1) := by
  refine PW_imp (pw_or ha hb) fun σ H Q ⟨m, S, ρ, ok, re, h⟩ => ?_
  refine tDT_bind ok re h fun k S1 H1 m1 ok1 re1 f1 h1 => ?_
  cases k with
  | true => exact h1 H1 m1 ok1 .refl
  | false => exact ⟨m1, S1, ρ, ok1, re1, h1⟩
theorem snd_and {F : FS} {ma mb : ME} (ha : Snd X W F ma a) (hb1 : PE X (.BoolOp .And (b :: rest) pos) (tD X.K W (evalE F mb))) (hb2 : PW X (.BoolOp .And (b :: rest) pos) (tDT X.K W fun ρ S => tru (evalE F mb ρ S))) : Snd X W F (.and ma mb) (.BoolOp .And (a :: b :: rest) pos) := by
  have e : evalE F (.and ma mb) = andR (evalE F ma) (evalE F mb) := by funext ρ S; rw [evalE]; try rfl
  have w : PW X (.BoolOp .And (a :: b :: rest) pos) (tDT X.K W fun ρ S => tru (evalE F (.and ma mb) ρ S)) := by
    have := pw_andD ha.pt hb2
    rw [e]
    simp only [tru_and]
    exact this
  exact ⟨by rw [e]; exact pd_and ha.pe hb1, w.pt, fun op l p z => w⟩
theorem snd_or {F : FS} {ma mb : ME} (ha : Snd X W F ma a) (hb1 : PE X (.BoolOp .Or (b :: rest) pos) (tD X.K W (evalE F mb))) (hb2 : PW X (.BoolOp .Or (b :: rest) pos) (tDT X.K W fun ρ S => tru (evalE F mb ρ S))) : Snd X W F (.or ma mb) (.BoolOp .Or (a :: b :: rest) pos) := by
  have e : evalE F (.or ma mb) = orR (evalE F ma) (evalE F mb) := by funext ρ S; rw [evalE]; try rfl
  have w : PW X (.BoolOp .Or (a :: b :: rest) pos) (tDT X.K W fun ρ S => tru (evalE F (.or ma mb) ρ S)) := by
    have := pw_orD ha.pt hb2
    rw [e]
    simp only [tru_or]
    exact this
  exact ⟨by rw [e]; exact pd_or ha.pe hb1, w.pt, fun op l p z => w⟩
theorem snd_not {F : FS} {ma : ME} (ha : Snd X W F ma a) : Snd X W F (.not ma) (.UnaryOp .Not a pos) := by
  have e : evalE F (.not ma) = fun ρ S => (tru (evalE F ma ρ S)).bind fun k S1 => .ok (.t (.bl (!k))) S1 := by funext ρ S; rw [evalE]
  refine ⟨by rw [e]; exact pd_not (t := fun _ S => .bad) ha.pe, ?_, fun op l p z => by cases z⟩
  have := pt_notD (pos := pos) ha.pt
  have e2 : (fun ρ S => tru (evalE F (.not ma) ρ S)) = fun ρ S => (tru (evalE F ma ρ S)).bind fun k S1 => R.ok (!k) S1 := by
    funext ρ S
    rw [e]
    simp only [tru, R.bind_assoc]
    rfl
  rw [e2]
  exact this
theorem snd_ife {F : FS} {c : Expr} {mc ma mb : ME} (hc : Snd X W F mc c) (ha : Snd X W F ma a) (hb : Snd X W F mb b) : Snd X W F (.ife mc ma mb) (.IfExp c a b pos) := by
  have e : evalE F (.ife mc ma mb) = fun ρ S => (tru (evalE F mc ρ S)).bind fun k S1 => if k then evalE F ma ρ S1 else evalE F mb ρ S1 := by funext ρ S; rw [evalE]
  refine ⟨by rw [e]; exact pd_ife hc.pt ha.pe hb.pe, ?_, fun op l p z => by cases z⟩
  have e2 : (fun ρ S => tru (evalE F (.ife mc ma mb) ρ S)) = fun ρ S => (tru (evalE F mc ρ S)).bind fun k S1 => if k then tru (evalE F ma ρ S1) else tru (evalE F mb ρ S1) := by
    funext ρ S
    rw [e]
    simp only [tru, R.bind_assoc]
    congr 1; funext x S1; congr 1; funext k S2
    cases k <;> rfl
  rw [e2]
  refine ⟨fun pins s σ H Q I h => ?_⟩
  obtain ⟨m, S, ρ, ok, re, h⟩ := h
  show wpAny _ _ (do if ← PySem.isTrue c X.env (eval c X.env) then PySem.isTrue a X.env (eval a X.env) else PySem.isTrue b X.env (eval b X.env)) _ _ _
  refine wpAny_bind (thn (hc.pt.run pins s σ H _ I (tDT_bind ok re h fun k S1 H1 m1 ok1 re1 f1 h1 => (show (fun k H1 => ∃ m1 S1, StOk X.K H1 m1 S1 ∧ RelE X.K H1 m1 S1 σ ρ ∧ Run X.K (fun H' m' S' b => Q b H') (W σ) H1 m1 S1 (if k = true then tru (evalE F ma ρ S1) else tru (evalE F mb ρ S1))) k H1 from ⟨m1, S1, ok1, re1, h1⟩))) fun k s1 ⟨H1, I1, m1, S1, ok1, re1, h1⟩ => ?_)
  cases k with
  | true => exact ha.pt.run pins s1 σ H1 Q I1 ⟨m1, S1, ρ, ok1, re1, h1⟩
  | false => exact hb.pt.run pins s1 σ H1 Q I1 ⟨m1, S1, ρ, ok1, re1, h1⟩
def cmpR (o : Cm) (ga gb : Ev → St' → R SV) : Ev → St' → R SV := fun ρ S => (ga ρ S).bind fun x S1 => (gb ρ S1).bind fun y S2 =>
      R.opt ((peek S2 x).bind fun d => (peek S2 y).bind fun e => (cmpD o d e).map fun b => .t (.bl b)) S2
theorem snd_cmp {F : FS} {ma mb : ME} (o : Cm) (hu : X.A.units + 65 < cLine) (hm : behindInMarks (cmOf o) b = false) (ha : Snd X W F ma a) (hb : Snd X W F mb b) : Snd X W F (.cmp o ma mb) (.Compare a [cmOf o] [b] pos) := by
  have e : evalE F (.cmp o ma mb) = cmpR o (evalE F ma) (evalE F mb) := by funext ρ S; rw [evalE]; try rfl
  exact ⟨by rw [e]; exact pd_cmp o hu hm ha.pe hb.pe, by rw [e]; exact pt_cmpD o hu hm ha.pe hb.pe, fun op l p z => by cases z⟩
theorem snd_cmp2 {F : FS} {c : Expr} {ma mb mc : ME} (o p : Cm) (hu : X.A.units + 65 < cLine) (hm : lastMarks [cmOf o, cmOf p] [b, c] = false) (ha : Snd X W F ma a) (hb : Snd X W F mb b) (hc : Snd X W F mc c) : Snd X W F (.cmp2 o p ma mb mc) (.Compare a [cmOf o, cmOf p] [b, c] pos) := by
  have e : evalE F (.cmp2 o p ma mb mc) = cmp2R o p (evalE F ma) (evalE F mb) (evalE F mc) := by funext ρ S; rw [evalE]; try rfl
  refine ⟨by rw [e]; exact pd_cmp2 o p hu ha.pe hb.pe hc.pe hm, by rw [e]; exact pt_cmp2 o p hu ha.pe hb.pe hc.pe hm, fun op l p z => by cases z⟩
end
end M

/-! what is checked is sound: all expressions -/
namespace M
open PySem PySem.Spec PyProof.Rows L2
section
variable {G : Glo} {F : FS} {xr : XR} {k : Nat}
theorem ptsD {X : Cx} {W : WS} {cs : List ME} {ifs : List Expr} (hl : ifs.length ≤ 1) (h : ∀ c x, cs = [c] → ifs = [x] → PT X x (tDT X.K W fun ρ S => tru (evalE F c ρ S))) (hlen : cs.length = ifs.length) : PTs X ifs (tDT X.K W (tests (evalCs F cs))) := by
  cases ifs with
  | nil =>
    cases cs with
    | nil => exact ⟨fun pins s σ H Q I hw => pts_nil.run pins s σ H Q I (by obtain ⟨m, S, ρ, ok, re, h⟩ := hw; unfold evalCs tests at h; exact h H m ok .refl)⟩
    | cons c cs => simp at hlen
  | cons x ifs =>
    cases ifs with
    | cons y r => simp at hl
    | nil =>
      cases cs with
      | nil => simp at hlen
      | cons c cs =>
        cases cs with
        | cons d r => simp at hlen
        | nil =>
          have := h c x rfl rfl
          unfold evalCs tests
          exact pts_one this
theorem chkEs_len {N : List Str} {sc : Scope} : ∀ {es : List ME} {xs : List Expr}, chkEs G N sc es xs = true → es.length = xs.length
  | [], [], _ => rfl
  | [], _ :: _, h => by simp [chkEs] at h
  | _ :: _, [], h => by simp [chkEs] at h
  | e :: es, x :: xs, h => by
    simp only [chkEs, Bool.and_eq_true] at h
    simp [chkEs_len h.2]

theorem Snd.cast {X : Cx} {W : WS} {me : ME} {e : Expr} {g : Ev → St' → R SV} (h : PE X e (tD X.K W g)) (he : evalE F me = g) (hp : plainT e = true) : Snd X W F me e := .plain (by rw [he]; exact h) hp
theorem chk_cint {N : List Str} {sc : Scope} {b : ME} {i : Int} {j : Nat} {ci : Pos} (h : chkE G N sc b (.Constant (.int i) j ci) = true) : b = .lit (.int i) := by
  cases b <;> first | (unfold chkE at h; exact absurd h Bool.false_ne_true) | skip
  rotate_left
  · rename_i f es
    unfold chkE at h
    split at h
    all_goals first | (exact absurd h Bool.false_ne_true) | (rename_i hq2; cases hq2; done) | (rename_i hq hq2; cases hq2; done) | (rename_i hq hq2; cases hq; done)
  · rename_i d
    simp only [chkE] at h
    cases d <;> first | (simp only [constB] at h; exact absurd h Bool.false_ne_true) | skip
    simp only [constB] at h
    rw [of_decide_eq_true h]
theorem chk_bin {N : List Str} {sc : Scope} {b : ME} {x : Expr} {op : Operator} {i : Int} {j : Nat} {ci p : Pos} (h : chkE G N sc b (.BinOp x op (.Constant (.int i) j ci) p) = true) : ∃ o c, b = .bin o c (.lit (.int i)) ∧ op = opOf o ∧ chkE G N sc c x = true := by
  cases b <;> first | (unfold chkE at h; exact absurd h Bool.false_ne_true) | skip
  · rename_i o c d
    simp only [chkE, Bool.and_eq_true] at h
    exact ⟨o, c, by rw [chk_cint h.2], opB_eq h.1.1, h.1.2⟩
  · rename_i f es
    unfold chkE at h
    split at h
    all_goals first | (exact absurd h Bool.false_ne_true) | (rename_i hq2; cases hq2; done) | (rename_i hq hq2; cases hq2; done) | (rename_i hq hq2; cases hq; done)
theorem chkP_none {N : List Str} {sc : Scope} {e : ME} {es : List ME} : chkP G N sc (e :: es) none = false := by cases es <;> rfl
theorem chkP_two {N : List Str} {sc : Scope} {e e2 : ME} {es : List ME} {x : Option Expr} : chkP G N sc (e :: e2 :: es) x = false := by cases x <;> rfl
theorem chkP_one {N : List Str} {sc : Scope} {e : ME} {x : Expr} : chkP G N sc [e] (some x) = chkE G N sc e x := rfl
theorem chkP_some {N : List Str} {sc : Scope} {x : Expr} : chkP G N sc [] (some x) = false := rfl
theorem chk_lc {N : List Str} {sc : Scope} {tg : Tg} {it : IT} {cs : List ME} {e' : ME} {e : Expr} (h : chkE G N sc (.lc tg it cs e') e = true) : ∃ elt tge iter ifs scope pos, e = .ListComp elt [⟨tge, iter, ifs, 0⟩] scope pos ∧ notSet iter = true ∧ blkC N sc scope (ownOf N (tgs tg)) = true ∧ tgtB N (relS scope sc) (fun x => scope.names.lookup x == some .cell) tg tge = true ∧ chkI G N sc it tge iter = true ∧ ifs.length ≤ 1 ∧ chkEs G N (relS scope sc) cs ifs = true ∧ chkE G N (relS scope sc) e' elt = true := by
  unfold chkE at h
  split at h
  all_goals first | (exact absurd h Bool.false_ne_true) | (rename_i hq; cases hq)
  simp only [Bool.and_eq_true, decide_eq_true_eq] at h
  obtain ⟨⟨⟨⟨⟨⟨h1, h2⟩, h3⟩, h4⟩, h5⟩, h6⟩, h7⟩ := h
  exact ⟨_, _, _, _, _, _, rfl, h1, h2, h3, h4, h5, h6, h7⟩
theorem ls_pos (cs : List ME) : 0 < sizeOf cs := by cases cs <;> simp <;> omega
theorem it_pos (it : IT) : 0 < sizeOf it := by cases it <;> simp <;> omega
/-- a comprehension, in its parts -/
def LcOk (X : Cx) (W : WS) (F : FS) (tg : Tg) (it : IT) (cs : List ME) (e' : ME) (e : Expr) : Prop :=
  ∃ (elt tge iter : Expr) (ifs : List Expr) (scope : Scope) (pos : Pos) (own : List (Str × Nat)), e = .ListComp elt [⟨tge, iter, ifs, 0⟩] scope pos ∧ PI X tge iter (tDI X.K W (evalI F it)) ∧ BlkOk X.N X.env.scope scope own ∧ own.map (·.2) = tgs tg ∧ (∀ x, foldedSetIterable iter X.env x = pure x) ∧
    (∀ (s : Shared) (H : Hp) (C : Addr) (cl : List (Str × Addr)) (fp : List Addr), PG (X.blk s H scope (compEnvC scope cl C X.env) fp) tge (gD X.K tg)) ∧
    (∀ (s : Shared) (H : Hp) (C : Addr) (cl : List (Str × Addr)) (fp : List Addr), PTs (X.blk s H scope (compEnvC scope cl C X.env) fp) ifs (tDT X.K (wOf xr fun _ _ _ _ => False) (tests (evalCs F cs)))) ∧
    ∀ (s : Shared) (H : Hp) (C : Addr) (cl : List (Str × Addr)) (fp : List Addr), PE (X.blk s H scope (compEnvC scope cl C X.env) fp) elt (tD X.K (wOf xr fun _ _ _ _ => False) (evalE F e'))
theorem LcOk.pe {X : Cx} {W : WS} {tg : Tg} {it : IT} {cs : List ME} {e' : ME} {e : Expr} (hc : X.calm = true) (hN : X.N.Nodup) (h : LcOk (xr := xr) X W F tg it cs e' e) : PE X e (tDL X.K W (evalL F (.lc tg it cs e'))) := by
  obtain ⟨elt, tge, iter, ifs, scope, pos, own, rfl, hi, ok, ho, hs, hg, ht, he⟩ := h
  have e1 : evalL F (.lc tg it cs e') = fun ρ S => (evalI F it ρ S).bind fun src S1 => lcSrc tg (tests (evalCs F cs)) (evalE F e') src ρ S1 := by funext ρ S; rw [evalL]
  rw [e1]
  exact PE_imp (pe_lc hc hN hi ok hg ht he hs) (pd_lcL hc hN hi ok ho hg ht he hs)
theorem fz_lenset (e1 : ME) : evalE F (.fz .lenset [e1]) = fun ρ S => (evalE F e1 ρ S).bind fun x S1 => R.opt (((peek S1 x).bind lensetD).map .t) S1 := by
  funext ρ S
  rw [evalE, evalEs, R.bind_assoc]
  congr 1
  funext v S1
  rw [evalEs, R.bind_ok, R.bind_ok]
  simp only [peeks]
  cases peek S1 v with
  | none => rfl
  | some d => simp only [Option.map_some, Option.bind_some, fzD]
theorem fz_lensett (e1 : ME) : evalE F (.fz .lensett [e1]) = fun ρ S => (evalE F e1 ρ S).bind fun x S1 => R.opt (((peek S1 x).bind lensettD).map .t) S1 := by
  funext ρ S
  rw [evalE, evalEs, R.bind_assoc]
  congr 1
  funext v S1
  rw [evalEs, R.bind_ok, R.bind_ok]
  simp only [peeks]
  cases peek S1 v with
  | none => rfl
  | some d => simp only [Option.map_some, Option.bind_some, fzD]
theorem fz_sortseti (e1 : ME) : evalE F (.fz .sortseti [e1]) = fun ρ S => (evalE F e1 ρ S).bind fun x S1 => R.opt (((peek S1 x).bind sortsetiD).map .t) S1 := by
  funext ρ S
  rw [evalE, evalEs, R.bind_assoc]
  congr 1
  funext v S1
  rw [evalEs, R.bind_ok, R.bind_ok]
  simp only [peeks]
  cases peek S1 v with
  | none => rfl
  | some d => simp only [Option.map_some, Option.bind_some, fzD]
/-- xs[::-1] -/
theorem pd_rev {X : Cx} {W : WS} {a : Expr} {ga : Ev → St' → R SV} {k : Nat} {p1 p2 p3 pos : Pos} (ha : PE X a (tD X.K W ga)) : PE X (.Subscript a (.Slice none none (some (.UnaryOp .USub (.Constant (.int 1) k p1) p2)) p3) pos) (tD X.K W fun ρ S => (ga ρ S).bind fun x S1 => R.opt ((peek S1 x).bind fun d => (revD d).map .t) S1) := by
  refine PE_imp (pe_revL ha) fun σ H Q ⟨m, S, ρ, ok, re, h⟩ => ?_
  refine tD_bind ok re h fun x v S1 H1 m1 ok1 re1 f1 rv h1 => ?_
  obtain ⟨r, e, qq⟩ := Run.opt h1 ok1
  obtain ⟨d, e1, e2⟩ := Option.bind_eq_some_iff.mp e
  obtain ⟨r', e3, rfl⟩ := Option.map_eq_some_iff.mp e2
  have pr := ok1.peek rv e1
  cases d <;> first | (cases e3; done) | skip
  cases e3
  obtain ⟨l, vs, rfl, g1, g2⟩ := pr.lst
  refine ⟨l, vs, rfl, .inl g1, fun p hp => ?_⟩
  have f : Fol X.K H1 m1 S1 (.lst _) Q := fun H' v o f hv => qq H' o f v hv
  exact f.lst ok1 g2.reverse p hp
theorem fz_sortset (e1 : ME) : evalE F (.fz .sortset [e1]) = fun ρ S => (evalE F e1 ρ S).bind fun x S1 => R.opt (((peek S1 x).bind sortsetD).map .t) S1 := by
  funext ρ S
  rw [evalE, evalEs, R.bind_assoc]
  congr 1
  funext v S1
  rw [evalEs, R.bind_ok, R.bind_ok]
  simp only [peeks]
  cases peek S1 v with
  | none => rfl
  | some d => simp only [Option.map_some, Option.bind_some, fzD]
theorem bind_ok {α β : Type} {r : R α} {k : α → St' → R β} {v : β} {S' : St'} (h : r.bind k = .ok v S') : ∃ a S1, r = .ok a S1 ∧ k a S1 = .ok v S' := by
  cases r with
  | ok a S1 => exact ⟨a, S1, rfl, h⟩
  | exc c p S1 => cases h
  | bad => cases h
theorem opt_ok {α : Type} {o : Option α} {S S' : St'} {v : α} (h : R.opt o S = .ok v S') : o = some v := by
  cases o with
  | none => cases h
  | some a => cases h; rfl
theorem din_bl {ga gb : Ev → St' → R SV} {ρ : Ev} {S S' : St'} {neg : Bool} {v : SV} (h : ((gb ρ S).bind fun y S1 => (ga ρ S1).bind fun x S2 => R.opt (dinV S2 neg y x) S2) = .ok v S') : ∃ k, v = .t (.bl k) := by
  obtain ⟨y, S1, _, h⟩ := bind_ok h
  obtain ⟨x, S2, _, h⟩ := bind_ok h
  have h := opt_ok h
  obtain ⟨_, _, h⟩ := Option.bind_eq_some_iff.mp h
  obtain ⟨_, _, h⟩ := Option.bind_eq_some_iff.mp h
  cases h
  exact ⟨_, rfl⟩
theorem gdin_bl {gb : Ev → St' → R SV} {ρ : Ev} {S S' : St'} {neg : Bool} {kvs : List (Str × D)} {v : SV} (h : ((gb ρ S).bind fun y S1 => R.opt ((strV y).map fun z => SV.t (.bl (xor neg (kvs.lookup z).isSome))) S1) = .ok v S') : ∃ k, v = .t (.bl k) := by
  obtain ⟨y, S1, _, h⟩ := bind_ok h
  obtain ⟨_, _, h⟩ := Option.map_eq_some_iff.mp (opt_ok h)
  exact ⟨_, h.symm⟩
theorem drop_last {e : Expr} {es : List Expr} {lx : Expr} (h : es.getLast? = some lx) : (e :: es).dropLast ++ [lx] = e :: es := by
  cases es with
  | nil => cases h
  | cons x r =>
    have h2 : (e :: x :: r).getLast (by simp) = lx := by
      rw [List.getLast?_eq_some_getLast (by simp)] at h
      rw [List.getLast_cons (by simp)]
      exact Option.some.inj h
    rw [← h2]
    exact List.dropLast_concat_getLast _
theorem bump_drop {e lx : Expr} {es : List Expr} (h : bumpB (e :: es) = true) (hl : es.getLast? = some lx) (hr : ∀ x op c p, lx ≠ .BinOp x op c p := by intro _ _ _ _ z; cases z) : bumpB (e :: es).dropLast = true := by
  obtain ⟨e1, x, op, i, j, ci, p, r, hx⟩ := bumpB_ok h
  cases hx
  cases r with
  | nil => simp at hl; exact absurd hl.symm (hr _ _ _ _)
  | cons y r => rfl
mutual
theorem sndE : ∀ (me : ME) (X : Cx) (Wx : WX) (e : Expr), Gd G F xr k X → Takes X Wx → chkE G X.N X.env.scope me e = true → Snd X (wOf xr Wx) F me e
  | .var i, X, Wx, e, g, tk, h => by
    unfold chkE at h
    split at h
    all_goals first | (exact absurd h Bool.false_ne_true) | (rename_i hq; cases hq)
    obtain ⟨a, b, c, d⟩ := visB_ok h
    exact .plain (pd_var a b c d) rfl
  | .lit d, X, Wx, e, g, tk, h => by
    unfold chkE at h
    split at h
    all_goals first | (exact absurd h Bool.false_ne_true) | (rename_i hq; cases hq)
    exact .plain (const_pe h) rfl
  | .glb x d, X, Wx, e, g, tk, h => by
    unfold chkE at h
    split at h
    all_goals first | (exact absurd h Bool.false_ne_true) | (rename_i hq; cases hq)
    simp only [Bool.and_eq_true, decide_eq_true_eq, List.any_eq_true] at h
    obtain ⟨⟨rfl, h2⟩, p, hp, rfl, h4⟩ := h
    obtain ⟨u, v, h5, h6, h7⟩ := g.consts p hp
    obtain ⟨g1, g2, g3⟩ := gloB_ok h2
    rw [same_eq _ _ h4] at h7
    exact .cast (pd_const (F := F) (pe_glob g1 h5 h6 g2) h7) (by funext ρ S; rw [evalE]) rfl
  | .tup es, X, Wx, e, g, tk, h => by
    unfold chkE at h
    split at h
    all_goals first | (exact absurd h Bool.false_ne_true) | (rename_i hq; cases hq)
    exact .cast (pd_tup (sndEs es X Wx _ g tk h)) (by funext ρ S; rw [evalE]; try rfl) rfl
  | .lst es, X, Wx, e, g, tk, h => by
    unfold chkE at h
    split at h
    all_goals first | (exact absurd h Bool.false_ne_true) | (rename_i hq; cases hq)
    refine .cast (pd_of_L (pd_lstL (sndEs es X Wx _ g tk h))) ?_ rfl
    funext ρ S
    rw [evalE]
    simp only [R.bind_assoc]
    congr 1; funext vs S1
    cases grabs S1 vs with
    | none => rfl
    | some p => obtain ⟨ds, S2⟩ := p; simp only; split <;> rfl
  | .bin o a b, X, Wx, e, g, tk, h => by
    unfold chkE at h
    split at h
    all_goals first | (exact absurd h Bool.false_ne_true) | (rename_i hq; cases hq)
    simp only [Bool.and_eq_true] at h
    obtain ⟨⟨h1, h2⟩, h3⟩ := h
    rw [opB_eq h1]
    exact .cast (pd_bin o (sndE a X Wx _ g tk h2).pe (sndE b X Wx _ g tk h3).pe) (by funext ρ S; rw [evalE]) rfl
  | .neg a, X, Wx, e, g, tk, h => by
    unfold chkE at h
    split at h
    all_goals first | (exact absurd h Bool.false_ne_true) | (rename_i hq; cases hq)
    exact .cast (pd_neg (sndE a X Wx _ g tk h).pe) (by funext ρ S; rw [evalE]; try rfl) rfl
  | .cmp o a b, X, Wx, e, g, tk, h => by
    unfold chkE at h
    split at h
    all_goals first | (exact absurd h Bool.false_ne_true) | (rename_i hq; cases hq)
    simp only [Bool.and_eq_true, Bool.not_eq_true'] at h
    obtain ⟨⟨⟨h1, h0⟩, h2⟩, h3⟩ := h
    have e1 := cmB_eq h1
    subst e1
    exact snd_cmp o g.u65 h0 (sndE a X Wx _ g tk h2) (sndE b X Wx _ g tk h3)
  | .cmp2 o p a b c, X, Wx, e, g, tk, h => by
    unfold chkE at h
    split at h
    all_goals first | (exact absurd h Bool.false_ne_true) | (rename_i hq; cases hq)
    simp only [Bool.and_eq_true, Bool.not_eq_true'] at h
    obtain ⟨⟨⟨⟨⟨h1, h1'⟩, h0⟩, h2⟩, h3⟩, h4⟩ := h
    have e1 := cmB_eq h1
    have e2 := cmB_eq h1'
    subst e1 e2
    exact snd_cmp2 o p g.u65 h0 (sndE a X Wx _ g tk h2) (sndE b X Wx _ g tk h3) (sndE c X Wx _ g tk h4)
  | .and a b, X, Wx, e, g, tk, h => by
    unfold chkE at h
    split at h
    all_goals first | (exact absurd h Bool.false_ne_true) | (rename_i hq; cases hq)
    rename_i x y r p
    rw [Bool.and_eq_true] at h
    cases r with
    | nil =>
      have hb := sndE b X Wx y g tk h.2
      exact snd_and (sndE a X Wx x g tk h.1) (pe_one hb.pe) (pw_and1 hb.pt)
    | cons z r' =>
      have hb := sndE b X Wx _ g tk h.2
      exact snd_and (sndE a X Wx x g tk h.1) hb.pe (hb.pw _ _ _ rfl)
  | .or a b, X, Wx, e, g, tk, h => by
    unfold chkE at h
    split at h
    all_goals first | (exact absurd h Bool.false_ne_true) | (rename_i hq; cases hq)
    rename_i x y r p
    rw [Bool.and_eq_true] at h
    cases r with
    | nil =>
      have hb := sndE b X Wx y g tk h.2
      exact snd_or (sndE a X Wx x g tk h.1) (pe_one hb.pe) (pw_or1 hb.pt)
    | cons z r' =>
      have hb := sndE b X Wx _ g tk h.2
      exact snd_or (sndE a X Wx x g tk h.1) hb.pe (hb.pw _ _ _ rfl)
  | .not a, X, Wx, e, g, tk, h => by
    unfold chkE at h
    split at h
    all_goals first | (exact absurd h Bool.false_ne_true) | (rename_i hq; cases hq)
    exact snd_not (sndE a X Wx _ g tk h)
  | .ife c a b, X, Wx, e, g, tk, h => by
    unfold chkE at h
    split at h
    all_goals first | (exact absurd h Bool.false_ne_true) | (rename_i hq; cases hq)
    simp only [Bool.and_eq_true] at h
    exact snd_ife (sndE c X Wx _ g tk h.1.1) (sndE a X Wx _ g tk h.1.2) (sndE b X Wx _ g tk h.2)
  | .idx a i, X, Wx, e, g, tk, h => by
    unfold chkE at h
    split at h
    all_goals first | (exact absurd h Bool.false_ne_true) | (rename_i hq; cases hq)
    simp only [Bool.and_eq_true] at h
    exact .cast (pd_idx (sub_plain h.1.1) (sndE a X Wx _ g tk h.1.2).pe (sndE i X Wx _ g tk h.2).pe) (by funext ρ S; rw [evalE]) rfl
  | .slc a lo hi, X, Wx, e, g, tk, h => by
    unfold chkE at h
    split at h
    all_goals first | (exact absurd h Bool.false_ne_true) | (rename_i hq; cases hq)
    simp only [Bool.and_eq_true] at h
    exact .cast (pd_slc (sndE a X Wx _ g tk h.1.1).pe (sndP lo X Wx _ g tk h.1.2) (sndP hi X Wx _ g tk h.2)) (by funext ρ S; rw [evalE]) rfl
  | .call f es, X, Wx, e, g, tk, h => by
    unfold chkE at h
    split at h
    all_goals first | (exact absurd h Bool.false_ne_true) | (rename_i hq; cases hq)
    simp only [Bool.and_eq_true] at h
    obtain ⟨⟨⟨h1, h2⟩, h3⟩, h4⟩ := h
    split at h1
    · rename_i fi hf
      have h1 := of_decide_eq_true h1
      subst h1
      obtain ⟨a, fd, g1, g2, g3, g4, g5⟩ := g.fns f fi hf
      obtain ⟨b1, b2, b3⟩ := gloB_ok h2
      exact .cast (ce_call tk g4 g5 g.room b1 g1 g2 g3 b2 (sndEs es X Wx _ g tk h4) (by simpa using h3)) (by funext ρ S; rw [evalE]) rfl
    · cases h1
  | .bi b es, X, Wx, e, g, tk, h => by
    unfold chkE at h
    split at h
    all_goals first | (exact absurd h Bool.false_ne_true) | (rename_i hq; cases hq)
    simp only [Bool.and_eq_true, decide_eq_true_eq] at h
    obtain ⟨⟨⟨rfl, h2⟩, h3⟩, h4⟩ := h
    obtain ⟨a1, a2, a3, a4⟩ := freeB_ok g h2
    exact .cast (ce_bi b g.calm g.u70 a1 a4 (biN_boot b) a3 a2 (sndEs es X Wx _ g tk h4) (by simpa using h3)) (by funext ρ S; rw [evalE]) rfl
  | .isi a t, X, Wx, e, g, tk, h => by
    unfold chkE at h
    split at h
    all_goals first | (exact absurd h Bool.false_ne_true) | (rename_i hq; cases hq)
    simp only [Bool.and_eq_true, decide_eq_true_eq] at h
    obtain ⟨⟨⟨⟨⟨rfl, h2⟩, rfl⟩, h4⟩, h5⟩, h6⟩ := h
    obtain ⟨a1, a2, a3, a4⟩ := freeB_ok g h2
    obtain ⟨b1, b2, b3, b4⟩ := freeB_ok g h4
    exact .cast (ce_isi t a1 a4 b1 b4 (tyS_boot t) b3 b2 (sndE a X Wx _ g tk h6).pe h5) (by funext ρ S; rw [evalE]) rfl
  | .isit a ts, X, Wx, e, g, tk, h => by
    unfold chkE at h
    split at h
    all_goals first | (exact absurd h Bool.false_ne_true) | (rename_i hq; cases hq)
    simp only [Bool.and_eq_true, decide_eq_true_eq] at h
    obtain ⟨⟨⟨⟨⟨rfl, h2⟩, h3⟩, h4⟩, h5⟩, h6⟩ := h
    obtain ⟨a1, a2, a3, a4⟩ := freeB_ok g h2
    exact .cast (ce_isit ts a1 a4 (tysB_ok g h3) h4 (sndE a X Wx _ g tk h6).pe h5) (by funext ρ S; rw [evalE]) rfl
  | .mth m o es, X, Wx, e, g, tk, h => by
    unfold chkE at h
    split at h
    all_goals first | (exact absurd h Bool.false_ne_true) | (rename_i hq; cases hq)
    simp only [Bool.and_eq_true, decide_eq_true_eq] at h
    obtain ⟨⟨⟨⟨⟨⟨rfl, h2⟩, h3⟩, h4⟩, h5⟩, h6⟩, h7⟩ := h
    obtain ⟨a1, a2, a3⟩ := mt_facts m
    exact .cast (ce_mth m g.u65 a1 a2 a3 (sndE o X Wx _ g tk h6).pe (sndEs es X Wx _ g tk h7) (by simpa using h4) h5 (plainBase_ok h2) h3) (by funext ρ S; rw [evalE]) rfl
  | .lc tg it cs e', X, Wx, e, g, tk, h => by
    have key := (sndLc tg it cs e' X Wx e g tk h).pe g.calm g.nd
    obtain ⟨elt, tge, iter, ifs, scope, pos, rfl, h1, h2, h3, h4, h5, h6, h7⟩ := chk_lc h
    refine .cast (pd_of_L key) ?_ rfl
    funext ρ S
    rw [evalE, evalL]
    simp only [R.bind_assoc]
  | .dvals i j, X, Wx, e, g, tk, h => by
    unfold chkE at h
    split at h
    all_goals first | (exact absurd h Bool.false_ne_true) | (rename_i hq; cases hq; done) | skip
    rename_i x p1 kx p2 p3 k2 p4 x2 p5 scope pos hq
    cases hq
    simp only [Bool.and_eq_true, decide_eq_true_eq, Bool.not_eq_true', decide_eq_false_iff_not] at h
    obtain ⟨⟨⟨⟨⟨⟨⟨h1, h2⟩, h3⟩, h4⟩, h5⟩, rfl⟩, rfl⟩, h8⟩ := h
    obtain ⟨a1, a2, a3, a4⟩ := visB_ok h1
    have key := pe_dvals (X := X) (p1 := p1) (p2 := p2) (p3 := p3) (p4 := p4) (pos := pos) g.calm g.nd (by have := g.u70; omega) (pe_var (pos := p5) a1 a2 a3 a4) (blkOk_by h2) (ownOf_snd _ _) h8
      (fun s H C cl fp => by
        obtain ⟨b1, b2, b3⟩ := tgB_ok (X := X.blk s H scope (compEnvC scope cl C X.env) fp) (fun x hx => hx) h3
        exact pg_name g.nd b1 b2 b3)
      (fun s H C cl fp => by
        obtain ⟨b1, b2, b3, b4⟩ := visB_ok (X := X.blk s H scope (compEnvC scope cl C X.env) fp) h4
        exact pe_var b1 b2 b3 b4)
      (fun s H C cl fp => by
        obtain ⟨b1, b2, b3, b4⟩ := visB_ok (X := X.blk s H scope (compEnvC scope cl C X.env) fp) h5
        exact pe_var b1 b2 b3 b4) (fun _ => rfl)
    have hjN : X.N[j]? = some kx := by
      unfold tgB at h3
      simp only [Bool.and_eq_true, decide_eq_true_eq] at h3
      exact h3.1
    exact .cast (pd_dvals' (F := F) (List.getElem?_eq_some_iff.mp hjN).1 key) rfl rfl
  | .fz f es, X, Wx, e, g, tk, h => by
    unfold chkE at h
    split at h
    all_goals first | (exact absurd h Bool.false_ne_true) | (rename_i hq; cases hq; done) | skip
    · rename_i e1 x1 p1 x2 p2 a1 q1 q2 hq
      cases hq
      simp only [Bool.and_eq_true, decide_eq_true_eq] at h
      obtain ⟨⟨⟨⟨⟨rfl, h2⟩, rfl⟩, h4⟩, h5⟩, h6⟩ := h
      obtain ⟨a1, a2, a3, a4⟩ := freeB_ok g h2
      obtain ⟨b1, b2, b3, b4⟩ := freeB_ok g h4
      exact .cast (pd_sortset g.u70 g.calm a1 a4 b1 b4 h5 (sndE e1 X Wx _ g tk h6).pe) (fz_sortset e1) rfl
    · rename_i e1 x1 p1 x2 p2 a1 q1 q2 hq
      cases hq
      simp only [Bool.and_eq_true, decide_eq_true_eq] at h
      obtain ⟨⟨⟨⟨⟨rfl, h2⟩, rfl⟩, h4⟩, h5⟩, h6⟩ := h
      obtain ⟨a1, a2, a3, a4⟩ := freeB_ok g h2
      obtain ⟨b1, b2, b3, b4⟩ := freeB_ok g h4
      exact .cast (pd_lenset g.calm a1 a4 b1 b4 h5 (sndE e1 X Wx _ g tk h6).pe) (fz_lenset e1) rfl
    · rename_i e1 x1 p1 x2 p2 a1 q1 q2 hq
      cases hq
      simp only [Bool.and_eq_true, decide_eq_true_eq] at h
      obtain ⟨⟨⟨⟨⟨rfl, h2⟩, rfl⟩, h4⟩, h5⟩, h6⟩ := h
      obtain ⟨a1, a2, a3, a4⟩ := freeB_ok g h2
      obtain ⟨b1, b2, b3, b4⟩ := freeB_ok g h4
      exact .cast (pd_sortseti g.calm a1 a4 b1 b4 h5 (sndE e1 X Wx _ g tk h6).pe) (fz_sortseti e1) rfl
    · rename_i e1 x1 p1 x2 p2 a1 q1 q2 hq
      cases hq
      simp only [Bool.and_eq_true, decide_eq_true_eq] at h
      obtain ⟨⟨⟨⟨⟨rfl, h2⟩, rfl⟩, h4⟩, h5⟩, h6⟩ := h
      obtain ⟨a1, a2, a3, a4⟩ := freeB_ok g h2
      obtain ⟨b1, b2, b3, b4⟩ := freeB_ok g h4
      exact .cast (pd_lensett g.u70 g.calm a1 a4 b1 b4 h5 (sndE e1 X Wx _ g tk h6).pe) (fz_lensett e1) rfl
  | .rev a, X, Wx, e, g, tk, h => by
    unfold chkE at h
    split at h
    all_goals first | (exact absurd h Bool.false_ne_true) | (rename_i hq; cases hq; done) | skip
    rename_i x1 i1 k1 p1 p2 p3 p4 hq
    cases hq
    rw [Bool.and_eq_true, decide_eq_true_eq] at h
    obtain ⟨rfl, h2⟩ := h
    exact .cast (pd_rev (sndE a X Wx _ g tk h2).pe) (by funext ρ S; rw [evalE]) rfl
  | .lensc tg it cs e', X, Wx, e, g, tk, h => by
    unfold chkE at h
    split at h
    all_goals first | (exact absurd h Bool.false_ne_true) | (rename_i hq; cases hq; done) | skip
    rename_i x1 p1 elt tge iter ifs scope p2 p3 hq
    cases hq
    rw [Bool.and_eq_true, Bool.and_eq_true, decide_eq_true_eq] at h
    obtain ⟨⟨rfl, h2⟩, h3⟩ := h
    obtain ⟨a1, a2, a3, a4⟩ := freeB_ok g h2
    obtain ⟨elt2, tge2, iter2, ifs2, scope2, pos2, own, e2, hi, ok, ho, hs, hg, ht, he⟩ := sndLc tg it cs e' X Wx (.ListComp elt [⟨tge, iter, ifs, 0⟩] scope p2) g tk (by rw [chkE]; exact h3)
    cases e2
    exact .cast (PE_imp (pe_lsc g.u70 g.calm g.nd a1 a4 hi ok hg ht he hs) (by rw [ho]; exact pd_lsc)) (by funext ρ S; rw [evalE]) rfl
  | .att e' f, X, Wx, e, g, tk, h => by
    unfold chkE at h
    split at h
    all_goals first | (exact absurd h Bool.false_ne_true) | (rename_i hq; cases hq)
    simp only [Bool.and_eq_true, decide_eq_true_eq] at h
    obtain ⟨⟨rfl, h2⟩, h3⟩ := h
    exact .cast (pd_att (sndE e' X Wx _ g tk h3).pe (plainBase_ok h2)) (by funext ρ S; rw [evalE]) rfl
  | .mk c ns es, X, Wx, e, g, tk, h => by
    unfold chkE at h
    split at h
    all_goals first | (exact absurd h Bool.false_ne_true) | (rename_i hq; cases hq)
    simp only [Bool.and_eq_true, decide_eq_true_eq, List.any_eq_true] at h
    obtain ⟨⟨⟨⟨rfl, h2⟩, p, hp, rfl⟩, h4⟩, h5⟩ := h
    obtain ⟨sf, fI, fd, c1, c2, c3, c4, c5⟩ := g.cls _ hp
    obtain ⟨b1, b2, b3⟩ := gloB_ok h2
    exact .cast (pd_mk c1 c2 c3 c4 (g.room.mono g.two) b1 c5 b2 (sndEs es X Wx _ g tk h5) (by simpa using h4)) (by funext ρ S; rw [evalE]) rfl
  | .dget a i, X, Wx, e, g, tk, h => by
    unfold chkE at h
    split at h
    all_goals first | (exact absurd h Bool.false_ne_true) | (rename_i hq; cases hq)
    simp only [Bool.and_eq_true] at h
    exact .cast (pd_dget (by have := g.u70; omega) (sub_plain h.1.1) (sndE a X Wx _ g tk h.1.2).pe (sndE i X Wx _ g tk h.2).pe) (by funext ρ S; rw [evalE]) rfl
  | .din neg i a, X, Wx, e, g, tk, h => by
    unfold chkE at h
    split at h
    all_goals first | (exact absurd h Bool.false_ne_true) | (rename_i hq; cases hq)
    simp only [Bool.and_eq_true, Bool.not_eq_true'] at h
    obtain ⟨⟨⟨h1, h2⟩, h3⟩, h4⟩ := h
    have e0 := diB_eq h1
    subst e0
    have hpc := pc_din' (W := wOf xr Wx) neg (by have := g.u70; omega) (sndE i X Wx _ g tk h3).pe (sndE a X Wx _ g tk h4).pe
    have e1 : evalE F (.din neg i a) = fun ρ S => (evalE F i ρ S).bind fun y S1 => (evalE F a ρ S1).bind fun x S2 => R.opt (dinV S2 neg y x) S2 := by funext ρ S; rw [evalE]
    refine ⟨by rw [e1]; exact pe_cmp hpc h2, by rw [e1]; exact pt_pc hpc h2 (fun ρ S v S' e => din_bl e), fun op l p z => by cases z⟩
  | .gdget x kvs i, X, Wx, e, g, tk, h => by
    unfold chkE at h
    split at h
    all_goals first | (exact absurd h Bool.false_ne_true) | (rename_i hq; cases hq)
    simp only [Bool.and_eq_true, decide_eq_true_eq, List.any_eq_true] at h
    obtain ⟨⟨⟨⟨rfl, h2⟩, p, hp, rfl, h3⟩, h4⟩, h5⟩ := h
    obtain ⟨d, c1, c2⟩ := g.gds _ hp
    rw [sameKv_eq _ _ h3] at c2
    obtain ⟨b1, b2, b3⟩ := gloB_ok h2
    exact .cast (pd_gdget c2 (sub_plain h4) (pe_glob b1 c1 rfl b2) (sndE i X Wx _ g tk h5).pe) (by funext ρ S; rw [evalE]) rfl
  | .gdin neg x kvs i, X, Wx, e, g, tk, h => by
    unfold chkE at h
    split at h
    all_goals first | (exact absurd h Bool.false_ne_true) | (rename_i hq; cases hq)
    simp only [Bool.and_eq_true, decide_eq_true_eq, List.any_eq_true, Bool.not_eq_true'] at h
    obtain ⟨⟨⟨⟨⟨rfl, h2⟩, p, hp, rfl, h3⟩, h4⟩, h5⟩, h6⟩ := h
    obtain ⟨d, c1, c2⟩ := g.gds _ hp
    rw [sameKv_eq _ _ h3] at c2
    obtain ⟨b1, b2, b3⟩ := gloB_ok h2
    have e0 := diB_eq h4
    subst e0
    rename_i z9 q9 p9
    have hpc := pc_gdin (W := wOf xr Wx) (p := q9) neg c2 (pe_glob b1 c1 rfl b2) (sndE i X Wx _ g tk h6).pe
    have e1 : evalE F (.gdin neg p.1 kvs i) = fun ρ S => (evalE F i ρ S).bind fun y S1 => R.opt ((strV y).map fun z => .t (.bl (xor neg (kvs.lookup z).isSome))) S1 := by funext ρ S; rw [evalE]
    refine ⟨by rw [e1]; exact pe_cmp hpc h5, by rw [e1]; exact pt_pc hpc h5 (fun ρ S v S' e => gdin_bl e), fun op l p z => by cases z⟩
  | .callR f es w y z, X, Wx, e, g, tk, h => by
    unfold chkE at h
    split at h
    all_goals first | (exact absurd h Bool.false_ne_true) | (rename_i hq; cases hq)
    rename_i e1 es' cp
    simp only [Bool.and_eq_true] at h
    obtain ⟨⟨⟨⟨⟨h1, h2⟩, h3⟩, h4⟩, h5⟩, h6⟩ := h
    split at h1
    · rename_i fi hf
      have h1 := of_decide_eq_true h1
      subst h1
      obtain ⟨a, fd, g1, g2, g3, g4, g5⟩ := g.fns f fi hf
      obtain ⟨b1, b2, b3⟩ := gloB_ok h2
      split at h5
      · rename_i wx hw
        obtain ⟨lx, hl1, hl2⟩ := Option.bind_eq_some_iff.mp hw
        obtain ⟨j, k', c0, c1, ap, cp', rfl, r1, r2, r3⟩ := replB_ok hl2
        have hbase := pat_rep0 (F := F) (W := wOf xr Wx) (j := j) (k := k') (c0 := c0) (c1 := c1) (sndE w X Wx wx g tk h5).pe r1 (plainBase_ok r2) r3
        have hpa := sndR es X Wx (e1 :: es').dropLast w y z _ g tk h6 (bump_drop h4 hl1) hbase
        rw [drop_last hl1] at hpa
        exact .cast (ce_call tk g4 g5 g.room b1 g1 g2 g3 b2 hpa (by simpa using h3)) (eval_callR f es w y z) rfl
      · cases h5
    · cases h1
  | .obT, X, Wx, e, g, tk, h => by
    unfold chkE at h
    exact absurd h Bool.false_ne_true
  | .kd0, X, Wx, e, g, tk, h => by
    unfold chkE at h
    exact absurd h Bool.false_ne_true
  | .dc _ _ _ _ _, X, Wx, e, g, tk, h => by
    unfold chkE at h
    exact absurd h Bool.false_ne_true
  | .callK _ _ _, X, Wx, e, g, tk, h => by
    unfold chkE at h
    exact absurd h Bool.false_ne_true
  | .callD _ _ _, X, Wx, e, g, tk, h => by
    unfold chkE at h
    exact absurd h Bool.false_ne_true
  termination_by me => sizeOf me
theorem sndR : ∀ (es : List ME) (X : Cx) (Wx : WX) (xs : List Expr) (w : ME) (y z : Str) (lx : Expr), Gd G F xr k X → Takes X Wx → chkEs G X.N X.env.scope es xs = true → bumpB xs = true → PAT X [lx] (tDA X.K (wOf xr Wx) (repR F [] w y z)) → PA X (xs ++ [lx]) (tDA X.K (wOf xr Wx) (repR F es w y z))
  | [], X, Wx, xs, w, y, z, lx, g, tk, h, hb, h0 => by
    obtain ⟨e1, x, op, i, j, ci, p, r, rfl⟩ := bumpB_ok hb
    simp [chkEs] at h
  | [a], X, Wx, xs, w, y, z, lx, g, tk, h, hb, h0 => by
    obtain ⟨e1, x, op, i, j, ci, p, r, rfl⟩ := bumpB_ok hb
    simp [chkEs] at h
  | a :: b :: rest, X, Wx, xs, w, y, z, lx, g, tk, h, hb, h0 => by
    obtain ⟨e1, x, op, i, j, ci, p, r, rfl⟩ := bumpB_ok hb
    simp only [chkEs, Bool.and_eq_true] at h
    obtain ⟨⟨h1, h2⟩, ⟨h3, h4⟩, h5⟩ := h
    obtain ⟨o, c, hb2, rfl, h7⟩ := chk_bin h4
    have hsz : sizeOf c < sizeOf b := by rw [hb2]; simp only [ME.bin.sizeOf_spec]; omega
    have hc := sndE c X Wx x g tk h7
    have ha := sndE a X Wx e1 g tk h2
    have hr := sndR' rest X Wx r w y z lx g tk h5 h0
    have hB : PEB X (.BinOp x (opOf o) (.Constant (.int i) j ci) p) (tD X.K (wOf xr Wx) (evalE F b)) := by
      have e3 : evalE F b = fun ρ S => (evalE F c ρ S).bind fun x S1 => R.opt ((peek S1 x).bind fun d => (binD o d (.int i)).map .t) S1 := by
        funext ρ S
        rw [hb2, evalE]
        all_goals (first | rfl | (congr 1; done) | (congr 1; funext x S1; rw [evalE, R.bind_ok]; try rfl))
      rw [e3]
      exact peb_bin o hc.pe
    exact pa_rep ha.pe hB h1 rfl hr
  termination_by es => sizeOf es
  decreasing_by
    all_goals simp_wf
    all_goals (try omega)
theorem sndR' : ∀ (es : List ME) (X : Cx) (Wx : WX) (xs : List Expr) (w : ME) (y z : Str) (lx : Expr), Gd G F xr k X → Takes X Wx → chkEs G X.N X.env.scope es xs = true → PAT X [lx] (tDA X.K (wOf xr Wx) (repR F [] w y z)) → PAT X (xs ++ [lx]) (tDA X.K (wOf xr Wx) (repR F es w y z))
  | [], X, Wx, xs, w, y, z, lx, g, tk, h, h0 => by
    cases xs with
    | cons x xs => simp [chkEs] at h
    | nil => exact h0
  | e :: es, X, Wx, xs, w, y, z, lx, g, tk, h, h0 => by
    cases xs with
    | nil => simp [chkEs] at h
    | cons x xs =>
      simp only [chkEs, Bool.and_eq_true] at h
      exact pat_repC (sndE e X Wx x g tk h.1.2).pe h.1.1 (sndR' es X Wx xs w y z lx g tk h.2 h0)
  termination_by es => sizeOf es
theorem sndEs : ∀ (es : List ME) (X : Cx) (Wx : WX) (xs : List Expr), Gd G F xr k X → Takes X Wx → chkEs G X.N X.env.scope es xs = true → PA X xs (tDA X.K (wOf xr Wx) (evalEs F es))
  | [], X, Wx, xs, g, tk, h => by
    cases xs with
    | cons x xs => simp [chkEs] at h
    | nil =>
      have e : evalEs F [] = fun _ S => .ok [] S := by funext ρ S; rw [evalEs]
      rw [e]; exact pa_D0
  | e :: es, X, Wx, xs, g, tk, h => by
    cases xs with
    | nil => simp [chkEs] at h
    | cons x xs =>
      simp only [chkEs, Bool.and_eq_true] at h
      have e1 : evalEs F (e :: es) = fun ρ S => (evalE F e ρ S).bind fun v S1 => (evalEs F es ρ S1).bind fun vs S2 => .ok (v :: vs) S2 := by funext ρ S; rw [evalEs]
      rw [e1]
      exact pa_D (sndE e X Wx x g tk h.1.2).pe (sndEs es X Wx xs g tk h.2) (star_cons h.1.1)
  termination_by es => sizeOf es
theorem sndCs : ∀ (es : List ME) (X : Cx) (Wx : WX) (xs : List Expr), Gd G F xr k X → Takes X Wx → xs.length ≤ 1 → chkEs G X.N X.env.scope es xs = true → PTs X xs (tDT X.K (wOf xr Wx) (tests (evalCs F es)))
  | [], X, Wx, xs, g, tk, hl, h => ptsD hl (fun c x z => nomatch z) (chkEs_len h)
  | e :: es, X, Wx, xs, g, tk, hl, h => by
    refine ptsD hl (fun c x z1 z2 => ?_) (chkEs_len h)
    cases z1
    subst z2
    simp only [chkEs, Bool.and_eq_true] at h
    exact (sndE e X Wx x g tk h.1.2).pt
  termination_by es => sizeOf es
theorem sndP : ∀ (es : List ME) (X : Cx) (Wx : WX) (x : Option Expr), Gd G F xr k X → Takes X Wx → chkP G X.N X.env.scope es x = true → PO X x (tDO X.K (wOf xr Wx) (evalP F es))
  | [], X, Wx, x, g, tk, h => by
    cases x with
    | some x => rw [chkP_some] at h; cases h
    | none =>
      have e : evalP F [] = fun _ S => .ok none S := by funext ρ S; rw [evalP]
      rw [e]; exact po_D0
  | e :: es, X, Wx, x, g, tk, h => by
    cases x with
    | none => rw [chkP_none] at h; cases h
    | some x =>
      cases es with
      | cons e2 es => rw [chkP_two] at h; cases h
      | nil =>
        rw [chkP_one] at h
        have e1 : evalP F [e] = fun ρ S => (evalE F e ρ S).bind fun v S1 => match v with
            | .t (.int i) => .ok (some i) S1
            | _ => .bad := by funext ρ S; rw [evalP]; try rfl
        rw [e1]
        exact po_D (sndE e X Wx x g tk h).pe
  termination_by es => sizeOf es
theorem sndI : ∀ (it : IT) (X : Cx) (Wx : WX) (tge e : Expr), Gd G F xr k X → Takes X Wx → chkI G X.N X.env.scope it tge e = true → PI X tge e (tDI X.K (wOf xr Wx) (evalI F it))
  | .of e', X, Wx, tge, e, g, tk, h => by
    simp only [chkI] at h
    have e1 : evalI F (.of e') = fun ρ S => (evalE F e' ρ S).bind fun v S1 => R.opt (srcOf S1 v) S1 := by funext ρ S; rw [evalI]
    rw [e1]
    exact pi_D (sndE e' X Wx e g tk h).pe
  | .range1 e', X, Wx, tge, e, g, tk, h => by
    unfold chkI at h
    split at h
    all_goals first | (exact absurd h Bool.false_ne_true) | (rename_i hq; cases hq)
    simp only [Bool.and_eq_true, decide_eq_true_eq] at h
    obtain ⟨⟨⟨rfl, h2⟩, h3⟩, h4⟩ := h
    obtain ⟨a1, a2, a3, a4⟩ := freeB_ok g h2
    have e1 : evalI F (.range1 e') = fun ρ S => (evalE F e' ρ S).bind fun v S1 => match v with
        | .t (.int n) => if rngOk n then .ok (.fix (rangeD 0 n)) S1 else .bad
        | _ => .bad := by funext ρ S; rw [evalI]; try rfl
    rw [e1]
    exact pi_rng1 a1 a4 h3 (sndE e' X Wx _ g tk h4).pe
  | .range2 a b, X, Wx, tge, e, g, tk, h => by
    unfold chkI at h
    split at h
    all_goals first | (exact absurd h Bool.false_ne_true) | (rename_i hq; cases hq)
    simp only [Bool.and_eq_true, decide_eq_true_eq] at h
    obtain ⟨⟨⟨⟨⟨rfl, h2⟩, h3⟩, h4⟩, h5⟩, h6⟩ := h
    obtain ⟨a1, a2, a3, a4⟩ := freeB_ok g h2
    have e1 : evalI F (.range2 a b) = fun ρ S => (evalE F a ρ S).bind fun v S1 => (evalE F b ρ S1).bind fun u S2 => match v, u with
        | .t (.int i), .t (.int j) => if rngOk i && rngOk j then .ok (.fix (rangeD i j)) S2 else .bad
        | _, _ => .bad := by funext ρ S; rw [evalI]; try rfl
    rw [e1]
    exact pi_rng2 a1 a4 h3 h4 (sndE a X Wx _ g tk h5).pe (sndE b X Wx _ g tk h6).pe
  | .enum e', X, Wx, tge, e, g, tk, h => by
    unfold chkI at h
    split at h
    all_goals first | (exact absurd h Bool.false_ne_true) | (rename_i hq; cases hq)
    simp only [Bool.and_eq_true, decide_eq_true_eq] at h
    obtain ⟨⟨⟨⟨rfl, h2⟩, h3⟩, h4⟩, h5⟩ := h
    obtain ⟨a1, a2, a3, a4⟩ := freeB_ok g h2
    have e1 : evalI F (.enum e') = fun ρ S => (evalE F e' ρ S).bind fun v S1 => match v with
        | .t (.lst xs) => .ok (.fix (enumD xs)) S1
        | .t (.tup xs) => .ok (.fix (enumD xs)) S1
        | _ => .bad := by funext ρ S; rw [evalI]; try rfl
    rw [e1]
    unfold isTup at h3
    split at h3
    · exact pi_enumD a1 a4 h4 (sndE e' X Wx _ g tk h5).pe
    · cases h3
  | .zips a b, X, Wx, tge, e, g, tk, h => by
    unfold chkI at h
    split at h
    all_goals first | (exact absurd h Bool.false_ne_true) | (rename_i hq; cases hq)
    simp only [Bool.and_eq_true, decide_eq_true_eq] at h
    obtain ⟨⟨⟨⟨⟨⟨rfl, h2⟩, h0⟩, h3⟩, h4⟩, h5⟩, h6⟩ := h
    obtain ⟨a1, a2, a3, a4⟩ := freeB_ok g h2
    have e1 : evalI F (.zips a b) = fun ρ S => (evalE F a ρ S).bind fun v S1 => (evalE F b ρ S1).bind fun u S2 => match v, u with
        | .t (.str x), .t (.tup ys) => .ok (.fix (zipD (x.cps.toList.map fun c => .str ⟨#[c]⟩) ys)) S2
        | _, _ => .bad := by funext ρ S; rw [evalI]; try rfl
    rw [e1]
    unfold isTup at h0
    split at h0
    · exact pi_zipsD a1 a4 h3 h4 (sndE a X Wx _ g tk h5).pe (sndE b X Wx _ g tk h6).pe
    · cases h0
  | .zip a b, X, Wx, tge, e, g, tk, h => by
    unfold chkI at h
    split at h
    all_goals first | (exact absurd h Bool.false_ne_true) | (rename_i hq; cases hq)
    simp only [Bool.and_eq_true, decide_eq_true_eq] at h
    obtain ⟨⟨⟨⟨⟨⟨rfl, h2⟩, h0⟩, h3⟩, h4⟩, h5⟩, h6⟩ := h
    obtain ⟨a1, a2, a3, a4⟩ := freeB_ok g h2
    have e1 : evalI F (.zip a b) = fun ρ S => (evalE F a ρ S).bind fun v S1 => (evalE F b ρ S1).bind fun u S2 => match v, u with
        | .t (.lst xs), .t (.lst ys) => .ok (.fix (zipD xs ys)) S2
        | .t (.tup xs), .t (.tup ys) => .ok (.fix (zipD xs ys)) S2
        | _, _ => .bad := by funext ρ S; rw [evalI]; try rfl
    rw [e1]
    unfold isTup at h0
    split at h0
    · exact pi_zipD a1 a4 h3 h4 (sndE a X Wx _ g tk h5).pe (sndE b X Wx _ g tk h6).pe
    · cases h0
  termination_by it => sizeOf it
theorem sndLc : ∀ (tg : Tg) (it : IT) (cs : List ME) (e' : ME) (X : Cx) (Wx : WX) (e : Expr), Gd G F xr k X → Takes X Wx → chkE G X.N X.env.scope (.lc tg it cs e') e = true → LcOk (xr := xr) X (wOf xr Wx) F tg it cs e' e
  | tg, it, cs, e', X, Wx, e, g, tk, h => by
    obtain ⟨elt, tge, iter, ifs, scope, pos, rfl, h1, h2, h3, h4, h5, h6, h7⟩ := chk_lc h
    have hi := sndI it X Wx tge iter g tk h4
    refine ⟨elt, tge, iter, ifs, scope, pos, ownOf X.N (tgs tg), rfl, hi, blkOk_by h2, ownOf_snd _ _, notSet_ok h1, ?_, ?_, ?_⟩
    · intro s H C cl fp
      exact tgtB_ok (X := X.blk s H scope (compEnvC scope cl C X.env) fp) g.calm g.nd (fun x hx => hx) h3
    · intro s H C cl fp
      exact sndCs cs (X.blk s H scope (compEnvC scope cl C X.env) fp) (fun _ _ _ _ => False) ifs (g.blk ..) takes0 h5 h6
    · intro s H C cl fp
      exact (sndE e' (X.blk s H scope (compEnvC scope cl C X.env) fp) (fun _ _ _ _ => False) elt (g.blk ..) takes0 h7).pe
  termination_by tg it cs e' => sizeOf it + sizeOf cs + sizeOf e'
  decreasing_by
    all_goals simp_wf
    all_goals (have hp1 := it_pos it; have hp2 := ls_pos cs; omega)
end
end
end M

/-! what is checked is sound: statements, defs -/
namespace M
open PySem PySem.Spec PyProof.Rows L2

def notComp : Expr → Bool
  | .ListComp _ _ _ _ | .SetComp _ _ _ _ | .DictComp _ _ _ _ _ => false
  | _ => true
theorem swaps_not {v : Expr} {t : Option Expr} {l : Nat} {env : Env} (h : notComp v = true) : swapsWith v t l env = pure false := by
  unfold swapsWith
  cases v <;> first
    | (exfalso; cases h; done)
    | rfl
theorem swaps_tup {v : Expr} {es : List Expr} {k : Nat} {p : Pos} {l : Nat} {env : Env} : swapsWithSole [.Tuple es k p] v l env = pure false := by
  unfold swapsWithSole swapsWith
  cases v <;> rfl
theorem swaps_sub {v o i : Expr} {p : Pos} {l : Nat} {env : Env} : swapsWithSole [.Subscript o i p] v l env = pure false := by
  unfold swapsWithSole swapsWith
  cases v <;> rfl
def foldB : Expr → Bool
  | .Tuple vs _ _ => vs.all (foldedForSure 8)
  | _ => true
theorem sw_none {es : List Expr} {k : Nat} {p : Pos} {v : Expr} {env : Env} (h : foldB v = true) : swappedStores [.Tuple es k p] v env = pure none := by
  unfold swappedStores
  cases v with
  | Tuple vs k2 p2 =>
    have h : vs.all (foldedForSure 8) = true := h
    simp only [h]
    split <;> try rfl
    split <;> try rfl
    split <;> rfl
  | _ => rfl
theorem sw_none_sub {o i : Expr} {p : Pos} {v : Expr} {env : Env} : swappedStores [.Subscript o i p] v env = pure none := by
  unfold swappedStores
  cases v <;> rfl
def parB (sc : Scope) (x y : Str) (px py : Pos) (a b : Expr) : Bool :=
  isK .local (sc.names.lookup x) && isK .local (sc.names.lookup y) && (px.line == py.line) && !decide (x = y) && noStar a && noStar b && !([a, b].all (foldedForSure 8)) && !([a, b].all (constantsAlone 8))
theorem par_ok {env : Env} {x y : Str} {px py : Pos} {a b : Expr} {kt k2 : Nat} {pt pt2 : Pos} (hk : env.scope.kind = .function) (h : parB env.scope x y px py a b = true) :
    swappedStores [.Tuple [.Name x px, .Name y py] kt pt] (.Tuple [a, b] k2 pt2) env = pure (some [x, y]) := by
  unfold parB at h
  simp only [Bool.and_eq_true, Bool.not_eq_true', decide_eq_false_iff_not] at h
  obtain ⟨⟨⟨⟨⟨⟨⟨h1, h2⟩, h3⟩, h4⟩, h5⟩, h6⟩, h7⟩, h8⟩ := h
  have k1 : env.kindOf x = some .local := isK_eq h1
  have k2 : env.kindOf y = some .local := isK_eq h2
  have hb : env.blockKind = .function := by unfold Env.blockKind; rw [hk]; rfl
  have h3 : py.line = px.line := (eq_of_beq h3).symm
  have hd : ([x, y] : List Str).eraseDups = [x, y] := by
    have h4' : (y == x) = false := by simpa using fun z => h4 z.symm
    simp [List.eraseDups_cons, List.filter_cons, h4']
  unfold swappedStores
  simp only [hb, k1, k2, List.any_cons, List.any_nil, h7, h8, Expr.pos, h3]
  simp [hb, k1, k2, Expr.pos, h3, hd]
  intro z
  rcases z with z | z
  · cases a <;> first | (exfalso; cases h5; done) | (exfalso; cases z; done)
  · cases b <;> first | (exfalso; cases h6; done) | (exfalso; cases z; done)
def seqs (a b : Nat) : Bool := a == b
/-- y = [..], the target stored within the comprehension's frame -/
def swB (sc : Scope) (x : Str) (p : Pos) : Expr → Bool
  | .ListComp _ _ scope pos => isK .local (sc.names.lookup x) && (p.line == pos.line) && !(scope.names.any fun (n, k) => n == x && (k == .local || k == .cell))
  | _ => false
theorem swB_ok {env : Env} {x : Str} {p : Pos} {e : Expr} {l : Nat} (hk : env.scope.kind = .function) (h : swB env.scope x p e = true) : swapsWith e (some (.Name x p)) l env = pure true := by
  unfold swB at h
  split at h
  · simp only [Bool.and_eq_true, Bool.not_eq_true'] at h
    exact sw_true hk (isK_eq h.1.1) h.1.2 h.2
  · cases h
theorem isK_beq (o : Option NameKind) : (o == some NameKind.local) = isK .local o := by
  cases o with
  | none => rfl
  | some k => cases k <;> rfl
theorem swB_no {env : Env} {x : Str} {p : Pos} {e : Expr} {l : Nat} (hk : env.scope.kind = .function) (hs : (match e with | .SetComp _ _ _ _ | .DictComp _ _ _ _ _ => false | _ => true) = true) (h : swB env.scope x p e = false) : swapsWith e (some (.Name x p)) l env = pure false := by
  unfold swapsWith
  have hb : env.blockKind = .function := by unfold Env.blockKind; rw [hk]; rfl
  cases e with
  | ListComp a b scope pos =>
    unfold swB at h
    simp only at h ⊢
    rw [← isK_beq] at h
    rw [hb]
    have hkk : env.kindOf x = env.scope.names.lookup x := rfl
    rw [hkk]
    show pure ((ScopeKind.function == ScopeKind.function) && (env.scope.names.lookup x == some NameKind.local) && (p.line == pos.line) && !(scope.names.any fun (n, k) => n == x && (k == .local || k == .cell))) = _
    rw [show (ScopeKind.function == ScopeKind.function) = true from rfl, Bool.true_and, h]
  | SetComp _ _ _ _ => cases hs
  | DictComp _ _ _ _ _ => cases hs
  | _ => rfl

/-! ### new lists of other forms -/
section
variable {X : Cx} {W : WS} {a b : Expr} {ga gb : Ev → St' → R SV} {pos p : Pos}
def catR (ga gb : Ev → St' → R SV) : Ev → St' → R (List D) := fun ρ S => (ga ρ S).bind fun x S1 => (gb ρ S1).bind fun y S2 =>
      R.opt ((peek S2 x).bind fun d => (peek S2 y).bind fun e => match d, e with
        | .lst xs, .lst ys => if xs.length + ys.length ≤ sizeLine then some (xs ++ ys) else none
        | _, _ => none) S2
theorem pd_catL (ha : PE X a (tD X.K W ga)) (hb : PE X b (tD X.K W gb)) : PE X (.BinOp a .Add b pos) (tDL X.K W (catR ga gb)) := by
  refine PE_imp (pe_op op_catR ha hb) fun σ H Q ⟨m, S, ρ, ok, re, h⟩ => ?_
  refine ⟨m, S, ρ, ok, re, RunL.bind h fun x S1 H1 m1 ok1 f1 h1 v rv => ?_⟩
  refine ⟨m1, S1, ρ, ok1, re.mono f1, RunL.bind h1 fun y S2 H2 m2 ok2 f2 h2 u ru => ?_⟩
  revert h2
  cases e1 : peek S2 x with
  | none => exact fun h2 => h2.elim
  | some d =>
    cases e2 : peek S2 y with
    | none => exact fun h2 => h2.elim
    | some d2 =>
      simp only [Option.bind_some]
      cases d <;> try (exact fun h2 => h2.elim)
      cases d2 <;> try (exact fun h2 => h2.elim)
      simp only
      intro h2
      split at h2
      · rename_i xs ys hz
        obtain ⟨l1, vs, rfl, g1, g2⟩ := (ok2.peek (rv.mono f2) e1).lst
        obtain ⟨l2, ws, rfl, g3, g4⟩ := (ok2.peek ru e2).lst
        refine ⟨l1, l2, vs, ws, rfl, rfl, g1, g3, by rw [g2.length, g4.length]; exact hz, fun q hq => ?_⟩
        obtain ⟨ok3, f3⟩ := ok2.push hq (g2.append g4)
        exact h2 _ m2 q ok3 f3 (List.prefix_refl _)
      · exact h2.elim
def lstR' (ga : Ev → St' → R SV) : Ev → St' → R (List D) := fun ρ S => (ga ρ S).bind fun x S1 => R.opt ((peek S1 x).bind fun d => match d with
      | .lst xs => some xs
      | .tup xs => some xs
      | _ => none) S1
theorem pd_listL (hg : Gl X "list") (hm : X.mg "list" = none) (hst : noStar a = true) (ha : PE X a (tD X.K W ga)) : PE X (.Call (.Name "list" p) [a] [] pos) (tDL X.K W (lstR' ga)) := by
  refine PE_imp (pe_callTy call_list_of hg hm (biN_boot .list) (pa_cons ha pa_nil (star_cons hst)) (by decide) (by decide) (star_cons hst) (star_any rfl)) fun σ H Q ⟨m, S, ρ, ok, re, h⟩ => ?_
  refine ⟨m, S, ρ, ok, re, RunL.bind h fun x S1 H1 m1 ok1 f1 h1 v rv => ?_⟩
  revert h1
  cases e1 : peek S1 x with
  | none => exact fun h1 => h1.elim
  | some d =>
    simp only [Option.bind_some]
    cases d <;> try (exact fun h1 => h1.elim)
    · intro h1
      obtain ⟨l1, vs, rfl, g1, g2⟩ := (ok1.peek rv e1).tup
      refine ⟨l1, vs, rfl, .inr g1, fun q hq => ?_⟩
      obtain ⟨ok3, f3⟩ := ok1.push hq g2
      exact h1 _ m1 q ok3 f3 (List.prefix_refl _)
    · intro h1
      obtain ⟨l1, vs, rfl, g1, g2⟩ := (ok1.peek rv e1).lst
      refine ⟨l1, vs, rfl, .inl (.inl g1), fun q hq => ?_⟩
      obtain ⟨ok3, f3⟩ := ok1.push hq g2
      exact h1 _ m1 q ok3 f3 (List.prefix_refl _)
end

/-! ### checks of statements -/
def noSD : Expr → Bool
  | .SetComp _ _ _ _ | .DictComp _ _ _ _ _ => false
  | _ => true
def lform : ME → Bool
  | .lst _ | .lc _ _ _ _ | .bin .add _ _ | .bi .list [_] => true
  | _ => false
def notDv : ME → Bool
  | .dvals _ _ => false
  | _ => true
def keysB : List Str → List (Option Expr) → Bool
  | [], [] => true
  | k :: ks, some (.Constant (.str x) _ _) :: es => decide (x = k) && keysB ks es
  | _, _ => false
mutual
def chkS (G : Glo) (N : List Str) (sc : Scope) : MS → Stmt → Bool
  | .doc, .Expr (.Constant (.str _) _ _) _ => true
  | .pass, .Pass _ => true
  | .any, _ => true
  | .asg (.v i) e, .Assign [.Name x _] v _ => tgB N sc (fun _ => true) i x && noSD v && notDv e && chkE G N sc e v
  | .asg (.tp is) e, .Assign [.Tuple es _ _] v _ => tgsB N sc (fun _ => true) is es && foldB v && chkE G N sc e v
  | .par i j a b, .Assign [.Tuple [.Name x px, .Name y py] _ _] (.Tuple [u, v] _ _) _ => decide (N[i]? = some x) && decide (N[j]? = some y) && !decide (i = j) && parB sc x y px py u v && chkE G N sc a u && chkE G N sc b v
  | .new i e, .Assign [.Name x _] v _ => tgB N sc (fun _ => true) i x && noSD v && lform e && chkE G N sc e v
  | .aug i o e, .AugAssign (.Name x _) op v _ => opB o op && !decide (o = .pow) && tgB N sc (fun _ => true) i x && chkE G N sc e v
  | .app i e, .Expr (.Call (.Attribute (.Name x _) nm ap) [v] [] cp) _ => decide (nm = "append") && visB N sc i x && noStar v && (ap.endLine == cp.line) && chkE G N sc e v
  | .seti i k e, .Assign [.Subscript (.Name x _) y _] v _ => visB N sc i x && notSlice y && chkE G N sc k y && chkE G N sc e v
  | .newd i, .Assign [.Name x _] (.Dict [] [] _) _ => tgB N sc (fun _ => true) i x
  | .putd i k e, .Assign [.Subscript (.Name x _) (.Call (.Name t _) [y] [] _) _] v _ => visB N sc i x && decide (t = "tuple") && freeB G sc t && noStar y && chkE G N sc k y && chkE G N sc e v
  | .newk i ks es, .Assign [.Name x _] (.Dict keys vals _) _ => tgB N sc (fun _ => true) i x && decide (ks.length ≤ 15) && keysB ks keys && chkEs G N sc es vals && decide (ks.length = es.length)
  | .putk i k e, .Assign [.Subscript (.Name x _) y _] v _ => visB N sc i x && notSlice y && chkE G N sc k y && chkE G N sc e v
  | .expr e, .Expr v _ => notComp v && chkE G N sc e v
  | .ret e, .Return (some v) _ => chkE G N sc e v
  | .retN, .Return none _ => true
  | .ife c a b, .If c' a' b' _ => chkE G N sc c c' && chkB G N sc a a' && chkB G N sc b b'
  | .for_ tg it body, .For tge iter body' [] _ => notSet iter && tgtB N sc (fun _ => true) tg tge && chkI G N sc it tge iter && chkB G N sc body body'
  | _, _ => false
def chkB (G : Glo) (N : List Str) (sc : Scope) : List MS → List Stmt → Bool
  | [], [] => true
  | s :: ss, t :: ts => chkS G N sc s t && chkB G N sc ss ts
  | _, _ => false
end
end M

/-! what is checked is sound: statements, defs -/
namespace M
open PySem PySem.Spec PyProof.Rows L2
section
variable {G : Glo} {F : FS} {xr : XR} {k : Nat}
/-- a statement y = [..] whose store is within -/
theorem ps_lcAny {X : Cx} {W : WS} {tg : Tg} {it : IT} {cs : List ME} {e' : ME} {e : Expr} {i : Nat} {y : Str} {py spos : Pos} (hc : X.calm = true) (hN : X.N.Nodup) (hk : X.env.scope.kind = .function) (h : LcOk (xr := xr) X W F tg it cs e' e) (hy : X.N[i]? = some y) (hsw : swB X.env.scope y py e = true) :
    PS X (.Assign [.Name y py] e spos) (fun E σ H => tDL X.K W (evalL F (.lc tg it cs e')) σ H fun x H1 => E.nx (σ.set i (some x)) H1) := by
  obtain ⟨elt, tge, iter, ifs, scope, pos, own, rfl, hi, ok, ho, hs, hg, ht, he⟩ := h
  have e1 : evalL F (.lc tg it cs e') = fun ρ S => (evalI F it ρ S).bind fun src S1 => lcSrc tg (tests (evalCs F cs)) (evalE F e') src ρ S1 := by funext ρ S; rw [evalL]
  have hyl : X.env.scope.names.lookup y = some .local := by
    unfold swB at hsw
    simp only [Bool.and_eq_true] at hsw
    exact isK_eq hsw.1.1
  rw [e1]
  exact PS_imp (ps_setLc hc hN hy hyl (swB_ok hk hsw) hi ok hg ht he hs) fun E σ H h => pd_lcL hc hN hi ok ho hg ht he hs σ H _ h
theorem Run_of_L {K : PySem.W.Frag} {W : WS} {E : Ends} {σ : L2.St} {ρ : Ev} {H : Hp} {m : List Addr} {S : St'} {r : R (List D)} {i : Nat} (re : RelE K H m S σ ρ)
    (h : RunO K W E H m S (Out.of ρ (r.bind fun xs S1 => R.ok (SV.t (.lst xs)) S1) fun v S1 => .nx (ρ.set i (some v)) S1)) : RunL K (fun x H1 => E.nx (σ.set i (some x)) H1) (W σ) H m S r := by
  cases r with
  | bad => exact h
  | exc c p S' => exact fun H1 m1 ok1 f1 => h H1 m1 σ ok1 f1 (re.mono f1)
  | ok xs S' =>
    intro H' m' p ok' f' hp
    have f2 := f'.pop ok' hp
    exact h H' m' _ ok'.pop.1 f2 ((re.mono f2).set i (d := .t (.lst xs)) ok'.pop.2.2)
theorem evalE_lc (tg : Tg) (it : IT) (cs : List ME) (e' : ME) : evalE F (.lc tg it cs e') = fun ρ S => (evalL F (.lc tg it cs e') ρ S).bind fun xs S1 => .ok (.t (.lst xs)) S1 := by
  funext ρ S
  rw [evalE, evalL, R.bind_assoc]
theorem snd_new {X : Cx} {Wx : WX} {me : ME} {e : Expr} (g : Gd G F xr k X) (tk : Takes X Wx) (hl : lform me = true) (h : chkE G X.N X.env.scope me e = true) : PE X e (tDL X.K (wOf xr Wx) (evalL F me)) := by
  unfold lform at hl
  split at hl
  · rename_i es
    unfold chkE at h
    split at h
    all_goals first | (exact absurd h Bool.false_ne_true) | (rename_i hq; cases hq)
    have e1 : evalL F (.lst es) = fun ρ S => (evalEs F es ρ S).bind fun vs S1 => match grabs S1 vs with
        | some (ds, S2) => if ds.length ≤ sizeLine then R.ok ds S2 else .bad
        | none => .bad := by funext ρ S; rw [evalL]; try rfl
    rw [e1]
    exact pd_lstL (sndEs es X Wx _ g tk h)
  · rename_i tg it cs e'
    exact (sndLc tg it cs e' X Wx e g tk h).pe g.calm g.nd
  · rename_i a b
    unfold chkE at h
    split at h
    all_goals first | (exact absurd h Bool.false_ne_true) | (rename_i hq; cases hq)
    simp only [Bool.and_eq_true] at h
    obtain ⟨⟨h1, h2⟩, h3⟩ := h
    rw [opB_eq h1]
    have e1 : evalL F (.bin .add a b) = catR (evalE F a) (evalE F b) := by funext ρ S; rw [evalL]; try rfl
    rw [e1]
    exact pd_catL (sndE a X Wx _ g tk h2).pe (sndE b X Wx _ g tk h3).pe
  · rename_i a
    unfold chkE at h
    split at h
    all_goals first | (exact absurd h Bool.false_ne_true) | (rename_i hq; cases hq)
    rename_i x1 p1 y1 ys1 pos1
    simp only [Bool.and_eq_true, decide_eq_true_eq] at h
    obtain ⟨⟨⟨rfl, h2⟩, h3⟩, h4⟩ := h
    obtain ⟨a1, a2, a3, a4⟩ := freeB_ok g h2
    have hlen := chkEs_len h4
    cases ys1 with
    | cons z zs => simp at hlen
    | nil =>
      simp only [chkEs, Bool.and_eq_true] at h4
      have e1 : evalL F (.bi .list [a]) = lstR' (evalE F a) := by funext ρ S; rw [evalL]; try rfl
      rw [e1]
      exact pd_listL a1 a4 h4.1.1 (sndE a X Wx _ g tk h4.1.2).pe
  · cases hl

theorem lform_dv {me : ME} (h : lform me = true) : notDv me = true := by
  cases me <;> first | rfl | (cases h; done)

/-- what a def's own block has -/
structure Bk (X : Cx) : Prop where
  kind : X.env.scope.kind = .function
  fn : ∀ x, X.fn x = true
  pass : PassesOwn (model X.prog X.w) X.A X.env X.xe
theorem swB_lc {sc : Scope} {x : Str} {p : Pos} {v : Expr} {N : List Str} {me : ME} (h : swB sc x p v = true) (hd : notDv me = true) (hc : chkE G N sc me v = true) : ∃ tg it cs e', me = .lc tg it cs e' := by
  unfold swB at h
  split at h
  · unfold chkE at hc
    split at hc
    all_goals first | (exact absurd hc Bool.false_ne_true) | (rename_i hq; cases hq; done) | exact ⟨_, _, _, _, rfl⟩ | (cases hd; done)
  · cases h
theorem swB_no' {env : Env} {x : Str} {p : Pos} {e : Expr} {l : Nat} (hk : env.scope.kind = .function) (hs : noSD e = true) (h : swB env.scope x p e = false) : swapsWith e (some (.Name x p)) l env = pure false := by
  refine swB_no hk ?_ h
  clear h
  cases e <;> first | rfl | (exfalso; cases hs; done)
theorem assign_sub {env : Env} {o b : Expr} {p3 : Pos} (h : notSlice b = true) (v : Value) : assign (.Subscript o b p3) env v = (do
      let ov ← holding [v] (eval o env)
      let iv ← holding [v, ov] (eval b env)
      standAt p3
      holding [v, ov, iv] (setItem ov iv v)
      release [v, ov, iv] []) := by
  cases b <;> first | rfl | (exfalso; cases h; done)
theorem pps_D {X : Cx} {Wx : WX} {pos : Pos} (g : Gd G F xr k X) (tk : Takes X Wx) : ∀ {ks : List Str} {es : List ME} {keys : List (Option Expr)} {vals : List Expr}, keysB ks keys = true → chkEs G X.N X.env.scope es vals = true → ks.length = es.length → PPs X pos keys vals (trsOf X.K (wOf xr Wx) F ks es) ∧ keys.all (·.isSome) = true ∧ keys.length = vals.length ∧ keys.length = ks.length
  | [], [], keys, vals, h1, h2, _ => by
    cases keys with
    | cons a b => simp [keysB] at h1
    | nil =>
      cases vals with
      | cons a b => simp [chkEs] at h2
      | nil => exact ⟨pps_nil, rfl, rfl, rfl⟩
  | [], _ :: _, _, _, _, _, hl => by simp at hl
  | _ :: _, [], _, _, _, _, hl => by simp at hl
  | kk :: ks, e :: es, keys, vals, h1, h2, hl => by
    unfold keysB at h1
    split at h1
    · rename_i hq; cases hq
    · rename_i x j p r hq
      cases hq
      cases vals with
      | nil => simp [chkEs] at h2
      | cons v vals =>
        simp only [chkEs, Bool.and_eq_true, decide_eq_true_eq] at h1 h2
        obtain ⟨rfl, h1⟩ := h1
        obtain ⟨i1, i2, i3, i4⟩ := pps_D g tk h1 h2.2 (by simpa using hl)
        exact ⟨pps_cons pe_str (sndE e X Wx v g tk h2.1.2).pe i1, by simp [i2], by simp [i3], by simp [i4]⟩
    · cases h1
mutual
theorem sndS : ∀ (ms : MS) (X : Cx) (Wx : WX) (st : Stmt), Gd G F xr k X → Bk X → Takes X Wx → chkS G X.N X.env.scope ms st = true → PS X st (tDS X.K (wOf xr Wx) (execS F ms))
  | .doc, X, Wx, st, g, b, tk, h => by
    unfold chkS at h
    split at h
    all_goals first | (exact absurd h Bool.false_ne_true) | (rename_i hq; cases hq; done) | skip
    exact ps_docD
  | .pass, X, Wx, st, g, b, tk, h => by
    unfold chkS at h
    split at h
    all_goals first | (exact absurd h Bool.false_ne_true) | (rename_i hq; cases hq; done) | skip
    exact ps_passD
  | .any, X, Wx, st, g, b, tk, h => by
    refine ⟨fun pins s σ H D I hw => ?_⟩
    obtain ⟨m, S, ρ, ok, re, hh⟩ := hw
    rw [execS] at hh
    exact hh.elim
  | .asg (.v i) e, X, Wx, st, g, b, tk, h => by
    unfold chkS at h
    split at h
    all_goals first | (exact absurd h Bool.false_ne_true) | (rename_i hq; cases hq; done) | skip
    rename_i x px v pos hq
    cases hq
    simp only [Bool.and_eq_true] at h
    obtain ⟨⟨⟨h1, h2⟩, h0⟩, h3⟩ := h
    obtain ⟨a1, a2, a3⟩ := tgB_ok (fun x _ => b.fn x) h1
    by_cases hs : swB X.env.scope x px v = true
    · obtain ⟨tg, it, cs, e', rfl⟩ := swB_lc hs h0 h3
      refine PS_imp (ps_lcAny g.calm g.nd b.kind (sndLc tg it cs e' X Wx v g tk h3) a1 hs) fun E σ H ⟨m, S, ρ, ok, re, h⟩ => ⟨m, S, ρ, ok, re, Run_of_L re ?_⟩
      rw [execS, evalE_lc] at h
      exact h
    · exact ps_setD g.nd a1 a2 a3 (swB_no' b.kind h2 (by simpa using hs)) (sndE e X Wx v g tk h3).pe
  | .asg (.tp is) e, X, Wx, st, g, b, tk, h => by
    unfold chkS at h
    split at h
    all_goals first | (exact absurd h Bool.false_ne_true) | (rename_i hq; cases hq; done) | skip
    rename_i es k2 p2 v pos hq
    cases hq
    simp only [Bool.and_eq_true] at h
    obtain ⟨⟨h1, h2⟩, h3⟩ := h
    exact ps_tpD g.calm g.nd (tgsB_ok (fun x _ => b.fn x) h1) swaps_tup (sw_none h2) (sndE e X Wx v g tk h3).pe
  | .par i j a c, X, Wx, st, g, b, tk, h => by
    unfold chkS at h
    split at h
    all_goals first | (exact absurd h Bool.false_ne_true) | (rename_i hq; cases hq; done) | skip
    rename_i x px y py k1 p1 u v k2 p2 pos hq
    cases hq
    simp only [Bool.and_eq_true, decide_eq_true_eq, Bool.not_eq_true', decide_eq_false_iff_not] at h
    obtain ⟨⟨⟨⟨⟨h1, h2⟩, h3⟩, h4⟩, h5⟩, h6⟩ := h
    have h4' := h4
    unfold parB at h4'
    simp only [Bool.and_eq_true, Bool.not_eq_true', decide_eq_false_iff_not] at h4'
    obtain ⟨⟨⟨⟨⟨⟨⟨b1, b2⟩, b3⟩, b4⟩, b5⟩, b6⟩, b7⟩, b8⟩ := h4'
    exact ps_parD g.calm g.nd h1 h2 h3 (isK_eq b1) (isK_eq b2) b5 b6 (sndE a X Wx u g tk h5).pe (sndE c X Wx v g tk h6).pe (par_ok b.kind h4)
  | .new i e, X, Wx, st, g, b, tk, h => by
    unfold chkS at h
    split at h
    all_goals first | (exact absurd h Bool.false_ne_true) | (rename_i hq; cases hq; done) | skip
    rename_i x px v pos hq
    cases hq
    simp only [Bool.and_eq_true] at h
    obtain ⟨⟨⟨h1, h2⟩, h0⟩, h3⟩ := h
    obtain ⟨a1, a2, a3⟩ := tgB_ok (fun x _ => b.fn x) h1
    by_cases hs : swB X.env.scope x px v = true
    · obtain ⟨tg, it, cs, e', rfl⟩ := swB_lc hs (lform_dv h0) h3
      refine PS_imp (ps_lcAny g.calm g.nd b.kind (sndLc tg it cs e' X Wx v g tk h3) a1 hs) fun E σ H ⟨m, S, ρ, ok, re, h⟩ => ⟨m, S, ρ, ok, re, ?_⟩
      rw [execS] at h
      refine RunO.ofL re h fun xs S' H' m' q ok' f' hp hk => ?_
      have hl : m'.length = S'.length := by have := ok'.len; simpa using this
      exact hk H' _ _ ok' f' ((re.mono f').set i (show RepS X.K H' (m' ++ [q]) (S' ++ [.lst xs]) (.ref q) (.o S'.length) from ⟨q, by rw [← hl]; simp, rfl⟩))
    · exact ps_newD g.nd a1 a2 a3 (swB_no' b.kind h2 (by simpa using hs)) (snd_new g tk h0 h3)
  | .aug i o e, X, Wx, st, g, b, tk, h => by
    unfold chkS at h
    split at h
    all_goals first | (exact absurd h Bool.false_ne_true) | (rename_i hq; cases hq; done) | skip
    rename_i x px op v pos hq
    cases hq
    simp only [Bool.and_eq_true, Bool.not_eq_true', decide_eq_false_iff_not] at h
    obtain ⟨⟨⟨h1, h2⟩, h3⟩, h4⟩ := h
    obtain ⟨a1, a2, a3⟩ := tgB_ok (fun x _ => b.fn x) h3
    rw [opB_eq h1]
    exact ps_augD h2 g.nd a1 a2 a3 (sndE e X Wx v g tk h4).pe
  | .app i e, X, Wx, st, g, b, tk, h => by
    unfold chkS at h
    split at h
    all_goals first | (exact absurd h Bool.false_ne_true) | (rename_i hq; cases hq; done) | skip
    rename_i x px nm ap v cp pos hq
    cases hq
    simp only [Bool.and_eq_true, decide_eq_true_eq] at h
    obtain ⟨⟨⟨⟨rfl, h2⟩, h3⟩, h4⟩, h5⟩ := h
    obtain ⟨a1, a2, a3, a4⟩ := visB_ok h2
    exact ps_appD a1 a2 a3 a4 h3 h4 (sndE e X Wx v g tk h5).pe
  | .seti i kk e, X, Wx, st, g, b, tk, h => by
    unfold chkS at h
    split at h
    all_goals first | (exact absurd h Bool.false_ne_true) | (rename_i hq; cases hq; done) | skip
    rename_i x px y p2 v pos hq
    cases hq
    simp only [Bool.and_eq_true] at h
    obtain ⟨⟨⟨h1, h2⟩, h3⟩, h4⟩ := h
    obtain ⟨a1, a2, a3, a4⟩ := visB_ok h1
    exact ps_setiD a1 a2 a3 a4 swaps_sub sw_none_sub (assign_sub h2) (sndE e X Wx v g tk h4).pe (sndE kk X Wx y g tk h3).pe
  | .newd i, X, Wx, st, g, b, tk, h => by
    unfold chkS at h
    split at h
    all_goals first | (exact absurd h Bool.false_ne_true) | (rename_i hq; cases hq; done) | skip
    rename_i x px p2 pos hq
    cases hq
    obtain ⟨a1, a2, a3⟩ := tgB_ok (fun x _ => b.fn x) h
    have e1 : execS F (.newd i) = fun ρ S => .nx (ρ.set i (some (.o S.length))) (S ++ [.dt []]) := by funext ρ S; rw [execS]
    rw [e1]
    exact ps_newdD g.nd a1 a2 a3
  | .putd i kk e, X, Wx, st, g, b, tk, h => by
    unfold chkS at h
    split at h
    all_goals first | (exact absurd h Bool.false_ne_true) | (rename_i hq; cases hq; done) | skip
    rename_i x px t pt y p4 p2 v pos hq
    cases hq
    simp only [Bool.and_eq_true, decide_eq_true_eq] at h
    obtain ⟨⟨⟨⟨⟨h1, rfl⟩, h2⟩, h3⟩, h4⟩, h5⟩ := h
    obtain ⟨a1, a2, a3, a4⟩ := visB_ok h1
    obtain ⟨b1, b2, b3, b4⟩ := freeB_ok g h2
    exact ps_putdD (by have := g.u70; omega) a1 a2 a3 a4 b1 b4 h3 (sndE e X Wx v g tk h5).pe (sndE kk X Wx y g tk h4).pe (by unfold swapsWith; cases v <;> rfl)
  | .newk i ks es, X, Wx, st, g, b, tk, h => by
    unfold chkS at h
    split at h
    all_goals first | (exact absurd h Bool.false_ne_true) | (rename_i hq; cases hq; done) | skip
    rename_i x px keys vals p2 pos hq
    cases hq
    simp only [Bool.and_eq_true, decide_eq_true_eq] at h
    obtain ⟨⟨⟨⟨h1, h2⟩, h3⟩, h4⟩, h5⟩ := h
    obtain ⟨a1, a2, a3⟩ := tgB_ok (fun x _ => b.fn x) h1
    obtain ⟨i1, i2, i3, i4⟩ := pps_D (pos := p2) g tk h3 h4 h5
    by_cases h0 : keys = []
    · subst h0
      have hk : ks = [] := by cases ks with
        | nil => rfl
        | cons a r => simp at i4
      subst hk
      have hv : vals = [] := by cases vals with
        | nil => rfl
        | cons a r => simp at i3
      subst hv
      have he : es = [] := by cases es with
        | nil => rfl
        | cons a r => simp at h5
      subst he
      exact ps_newk0 g.nd a1 a2 a3
    · exact ps_newkD g.nd a1 a2 a3 (by rfl) h5 (pe_disp i1 i2 i3 h0 (by rw [i4]; exact h2))
  | .putk i kk e, X, Wx, st, g, b, tk, h => by
    unfold chkS at h
    split at h
    all_goals first | (exact absurd h Bool.false_ne_true) | (rename_i hq; cases hq; done) | skip
    rename_i x px y p2 v pos hq
    cases hq
    simp only [Bool.and_eq_true] at h
    obtain ⟨⟨⟨h1, h2⟩, h3⟩, h4⟩ := h
    obtain ⟨a1, a2, a3, a4⟩ := visB_ok h1
    have e1 : execS F (.putk i kk e) = fun ρ S => Out.of ρ (evalE F e ρ S) fun v S1 => match grab S1 v with
      | some (d, S2) => match ρ[i]? with
        | some (some (.o n)) => Out.of ρ (evalE F kk ρ S2) fun kv S3 => putkO ρ n d kv S3
        | _ => .bad
      | none => .bad := by funext ρ S; rw [execS]; try rfl
    rw [e1]
    exact ps_putkD (by have := g.u70; omega) a1 a2 a3 a4 (sndE e X Wx v g tk h4).pe (sndE kk X Wx y g tk h3).pe (by unfold swapsWith; cases v <;> rfl)
  | .putt i kk e, X, Wx, st, g, b, tk, h => by
    unfold chkS at h
    exact absurd h Bool.false_ne_true
  | .expr e, X, Wx, st, g, b, tk, h => by
    unfold chkS at h
    split at h
    all_goals first | (exact absurd h Bool.false_ne_true) | (rename_i hq; cases hq; done) | skip
    rename_i v pos hq
    cases hq
    simp only [Bool.and_eq_true] at h
    exact ps_exprD (sndE e X Wx v g tk h.2).pe (swaps_not h.1)
  | .ret e, X, Wx, st, g, b, tk, h => by
    unfold chkS at h
    split at h
    all_goals first | (exact absurd h Bool.false_ne_true) | (rename_i hq; cases hq; done) | skip
    rename_i v pos hq
    cases hq
    exact ps_retD (sndE e X Wx v g tk h).pe
  | .retN, X, Wx, st, g, b, tk, h => by
    unfold chkS at h
    split at h
    all_goals first | (exact absurd h Bool.false_ne_true) | (rename_i hq; cases hq; done) | skip
    exact ps_retND
  | .ife c a d, X, Wx, st, g, b, tk, h => by
    unfold chkS at h
    split at h
    all_goals first | (exact absurd h Bool.false_ne_true) | (rename_i hq; cases hq; done) | skip
    rename_i c' a' d' pos hq
    cases hq
    simp only [Bool.and_eq_true] at h
    obtain ⟨⟨h1, h2⟩, h3⟩ := h
    exact ps_ifD (sndE c X Wx c' g tk h1).pt (sndB a X Wx a' g b tk h2) (sndB d X Wx d' g b tk h3)
  | .for_ tg it body, X, Wx, st, g, b, tk, h => by
    unfold chkS at h
    split at h
    all_goals first | (exact absurd h Bool.false_ne_true) | (rename_i hq; cases hq; done) | skip
    rename_i tge iter body' pos hq
    cases hq
    simp only [Bool.and_eq_true] at h
    obtain ⟨⟨⟨h1, h2⟩, h3⟩, h4⟩ := h
    exact ps_forD b.pass g.calm (notSet_ok h1) (sndI it X Wx tge iter g tk h3) (tgtB_ok g.calm g.nd (fun x _ => b.fn x) h2) (sndB body X Wx body' g b tk h4)
termination_by ms => sizeOf ms
theorem sndB : ∀ (ms : List MS) (X : Cx) (Wx : WX) (st : List Stmt), Gd G F xr k X → Bk X → Takes X Wx → chkB G X.N X.env.scope ms st = true → PSs X st (tDS X.K (wOf xr Wx) (execB F ms))
  | [], X, Wx, [], g, b, tk, h => pss_D0
  | s :: ss, X, Wx, t :: ts, g, b, tk, h => by
    rw [chkB, Bool.and_eq_true] at h
    exact pss_D (sndS s X Wx t g b tk h.1) (sndB ss X Wx ts g b tk h.2)
  | [], X, Wx, _ :: _, g, b, tk, h => by simp [chkB] at h
  | _ :: _, X, Wx, [], g, b, tk, h => by simp [chkB] at h
termination_by ms => sizeOf ms
end
end
end M

/-! defs, and all defs of a table by depth -/
namespace M
open PySem PySem.Spec PyProof.Rows L2

theorem Fr.take {H H' : Hp} {m m' : List Addr} {S S' : St'} (f : Fr H m S H' m' S') (hl : m.length = S.length) : Fr H m S H' m (S'.take S.length) := by
  refine ⟨fun a o e n => ⟨(f.1 a o e n).1, fun ⟨i, e1, o', e2, ne⟩ => (f.1 a o e n).2 ?_⟩, List.prefix_refl _⟩
  have hi : i < m.length := (List.getElem?_eq_some_iff.mp e1).1
  obtain ⟨t, rfl⟩ := f.2
  refine ⟨i, by rw [List.getElem?_append_left hi]; exact e1, o', ?_, ne⟩
  rw [List.getElem?_take_of_lt (by omega)] at e2
  exact e2
theorem StOk.take' {K : PySem.W.Frag} {H H' : Hp} {m m' : List Addr} {S S' : St'} (ok : StOk K H' m' S') (f : Fr H m S H' m' S') (hl : m.length = S.length) : StOk K H' m (S'.take S.length) := by
  obtain ⟨t, rfl⟩ := f.2
  have := ok.take S.length
  rwa [← hl, List.take_left, hl] at this
theorem Own.take {m m' : List Addr} {S' : St'} (hp : m <+: m') (n : Nat) {a : Addr} (h : Own m (S'.take n) a) : Own m' S' a := by
  obtain ⟨i, e1, o, e2, ne⟩ := h
  obtain ⟨t, rfl⟩ := hp
  refine ⟨i, by rw [List.getElem?_append_left (List.getElem?_eq_some_iff.mp e1).1]; exact e1, o, ?_, ne⟩
  by_cases hi : i < n
  · rw [List.getElem?_take_of_lt hi] at e2; exact e2
  · rw [List.getElem?_eq_none (by simp; omega)] at e2; cases e2
/-- what a module gives its defs -/
structure GdM (G : Glo) (F : FS) (xr : XR) (k : Nat) (P : Program) (w : World) (K : PySem.W.Frag) (mg : Str → Option Value) (base : Heap) : Prop where
  fns : ∀ f fi, G.fns[f]? = some fi → ∃ (a : Addr) (fd : FuncData), mg fi.name = some (.ref a) ∧ PySem.W.keepIn K (.ref a) = true ∧ Binds K fd fi.ps [] ∧ FnOk P w K mg base (L2.CX P w) k a fd fi.ps (spOf K xr fi.ps.length (F f)) ∧ ∀ ds S, F f ds S ≠ .bad → ds.length = fi.ps.length
  free : ∀ x ∈ G.free, mg x = none
  consts : ∀ p ∈ G.consts, ∃ (u : Value) (v : V), mg p.1 = some u ∧ RelV v u ∧ ∀ H N, Rep K H N v p.2
  two : 2 ≤ k
  cls : ∀ p ∈ G.cls, ∃ (sf : Str) (fI : Addr) (fd : FuncData), ClsF K p.1 p.2 ∧ Mk K (He.ga K p.1) fI ∧ FnOk P w K mg base CX0 1 fI fd (sf :: p.2) (initSp K p.1 p.2) ∧ Binds K fd (sf :: p.2) [] ∧ mg p.1 = some (.ref (He.ga K p.1))
  gds : ∀ p ∈ G.gds, ∃ d, mg p.1 = some (.ref d) ∧ gdOk K w d p.2
/-- an exception's word outlives the call's own objects -/
def XrOk (xr : XR) : Prop := ∀ c p cls d H m m' S (n : Nat), m <+: m' → xr c p cls d H m' S → xr c p cls d H m (S.take n)
theorem GdM.at {G : Glo} {F : FS} {xr : XR} {k : Nat} {X : Cx} (g : GdM G F xr k X.prog X.w X.K X.mg X.base) (nd : X.N.Nodup) (calm : X.calm = true) (room : Room k X.A) : Gd G F xr k X := ⟨nd, calm, room, g.fns, g.free, g.consts, g.two, g.cls, g.gds⟩
theorem start_rel {K : PySem.W.Frag} {H : Hp} {m : List Addr} {S : St'} {vs : List V} {ds : List SV} {N : List Str} (r : RepSs K H m S vs ds) : RelE K H m S (L2.start N vs) (ds.map some ++ List.replicate (N.length - ds.length) none) := by
  have hl := r.length
  refine ⟨by unfold L2.start; simp [hl], fun i d e => ?_⟩
  unfold L2.start
  by_cases hi : i < ds.length
  · rw [List.getElem?_append_left (by simpa using hi)] at e
    rw [List.getElem?_append_left (by simp; omega)]
    rw [List.getElem?_map] at e ⊢
    obtain ⟨d', e1, e2⟩ := Option.map_eq_some_iff.mp e
    cases e2
    clear e hl hi
    induction r generalizing i with
    | nil => simp at e1
    | cons q r ih =>
      cases i with
      | zero => cases e1; exact ⟨_, rfl, q⟩
      | succ i => exact ih i e1
  · rw [List.getElem?_append_right (by simp; omega)] at e
    rw [List.getElem?_replicate] at e
    split at e <;> cases e
mutual
/-- a value without the objects that go -/
theorem RepS.down {K : PySem.W.Frag} {H : Hp} {m m' : List Addr} {S' : St'} {n : Nat} (hp : m <+: m') (hl : m.length = n) : ∀ {u : V} {d : SV}, shut n d = true → RepS K H m' S' u d → RepS K H m (S'.take n) u d
  | u, .t d, _, h => by
    rw [RepS] at h ⊢
    exact Rep.mono (fun a o e q => ⟨e, fun (z : Own m (S'.take n) a) => q (Own.take hp _ z)⟩) h
  | u, .o i, hs, h => by
    rw [RepS] at h ⊢
    obtain ⟨a, e, r⟩ := h
    rw [shut] at hs
    obtain ⟨t, rfl⟩ := hp
    have hi : i < m.length := by rw [hl]; exact of_decide_eq_true hs
    rw [List.getElem?_append_left hi] at e
    exact ⟨a, e, r⟩
  | u, .kd kvs, _, h => by
    rw [RepS] at h ⊢
    obtain ⟨a, kv, rfl, h1, h2, h3, h4⟩ := h
    exact ⟨a, kv, rfl, h1, fun z => h2 (Own.take hp _ z), h3, Reps.mono (fun a o e q => ⟨e, fun (z : Own m (S'.take n) a) => q (Own.take hp _ z)⟩) h4⟩
  | u, .td kvs, _, h => by
    rw [RepS] at h ⊢
    obtain ⟨a, kv, rfl, h1, h2, h3, h4⟩ := h
    exact ⟨a, kv, rfl, h1, fun z => h2 (Own.take hp _ z), h3, Reps.mono (fun a o e q => ⟨e, fun (z : Own m (S'.take n) a) => q (Own.take hp _ z)⟩) h4⟩
  | u, .ins c ns fs, hs, h => by
    rw [RepS] at h ⊢
    rw [shut] at hs
    obtain ⟨a, dx, us, rfl, h1, h2, h3, h4, h5⟩ := h
    exact ⟨a, dx, us, rfl, h1, fun z => h2 (Own.take hp _ z), h3, h4, RepL.down hp hl hs h5⟩
theorem RepL.down {K : PySem.W.Frag} {H : Hp} {m m' : List Addr} {S' : St'} {n : Nat} (hp : m <+: m') (hl : m.length = n) : ∀ {us : List V} {ds : List SV}, shuts n ds = true → RepL K H m' S' us ds → RepL K H m (S'.take n) us ds
  | us, [], _, h => by rw [RepL] at h ⊢; exact h
  | us, d :: ds, hs, h => by
    rw [RepL] at h ⊢
    rw [shuts, Bool.and_eq_true] at hs
    obtain ⟨u, r, rfl, h1, h2⟩ := h
    exact ⟨u, r, rfl, RepS.down hp hl hs.1 h1, RepL.down hp hl hs.2 h2⟩
end
theorem fn_ok {G : Glo} {F : FS} {xr : XR} {k : Nat} {P : Program} {w : World} {K : PySem.W.Frag} {mg : Str → Option Value} {base : Heap} {x qual : Str} {params : Arguments} {body : List Stmt} {scope : Scope} {dvs : List V} {kws : List (Str × V)} {f : Addr} {fd : FuncData} {N ps : List Str} {fn : Fn}
    (FD : FunD K x qual params body scope dvs kws f fd) (Sc : FnScope N ps scope) (har : fn.ar = ps.length) (hsl : fn.sl = N.length) (hx : XrOk xr) (g : GdM G F xr k P w K mg base) (hchk : chkB G N scope fn.body body = true) :
    FnOk P w K mg base (L2.CX P w) (k + 1) f fd ps (spOf K xr ps.length (callF F fn)) := by
  refine FD.ok Sc (fun vs H Q E h => h.1) fun cdv A outer s H vs Q E hr hsp => ?_
  obtain ⟨X, hX⟩ : ∃ X, X = cxOf (L2.CX P w) P w K mg base N qual scope f cdv A outer s H E := ⟨_, rfl⟩
  have tk : Takes X (fun cls d _ H => E cls d H) := by subst hX; exact takes_of rfl rfl rfl rfl
  have bk : Bk X := by subst hX; exact ⟨Sc.kind, fun _ => rfl, passes_of rfl⟩
  have gd : Gd G F xr k X := by subst hX; exact GdM.at g Sc.nd rfl hr
  have hc : chkB G X.N X.env.scope fn.body body = true := by subst hX; exact hchk
  refine ⟨_, by rw [← hX]; exact sndB fn.body X _ body gd bk tk hc, ?_⟩
  obtain ⟨hl, m, S, ds, ok, rs, h⟩ := hsp
  have hK : X.K = K := by subst hX; rfl
  rw [hK]
  refine ⟨m, S, ds.map some ++ List.replicate (N.length - ds.length) none, ok, start_rel rs, ?_⟩
  unfold callF at h
  have hdl : ds.length = fn.ar := by rw [← rs.length, hl, har]
  rw [if_pos hdl, hsl] at h
  have hml := ok.len
  revert h
  cases execB F fn.body (ds.map some ++ List.replicate (N.length - ds.length) none) S with
  | nx ρ S' => exact fun h H' m' σ' ok' f' r' => h H' .non (ok'.take' f' hml) (f'.take hml) .non
  | bk ρ S' => exact fun h => h.elim
  | ct ρ S' => exact fun h => h.elim
  | bad => exact fun h => h
  | exc c p ρ S' => exact fun h H' m' σ' ok' f' r' cls d hxr => h H' cls d (ok'.take' f' hml) (f'.take hml) (hx _ _ _ _ _ _ _ _ _ f'.2 hxr)
  | rt v S' =>
    intro h H' m' u ok' f' r'
    unfold finish at h
    have dn := fun (hs : shut S.length v = true) => RepS.down (H := H') f'.2 hml hs r'
    have gone : ∀ {a : Addr} {i : Nat}, m'[i]? = some a → ¬ i < S.length → ¬ Own m (S'.take S.length) a := by
      rintro a i e1 hi ⟨j, e2, o, e3, ne⟩
      have hj : j < m.length := (List.getElem?_eq_some_iff.mp e2).1
      obtain ⟨t, rfl⟩ := f'.2
      have e2' : (m ++ t)[j]? = some a := by rw [List.getElem?_append_left hj]; exact e2
      have hnd := ok'.nd
      have hji : j = i := (List.getElem?_inj (List.getElem?_eq_some_iff.mp e2').1 hnd).mp (e2'.trans e1.symm)
      omega
    have lower : ∀ {vs : List V} {ds : List D}, Reps K H' (Own m' S') vs ds → Reps K H' (Own m (S'.take S.length)) vs ds := fun r => Reps.mono (fun a o e n => ⟨e, fun (z : Own m (S'.take S.length) a) => n (Own.take f'.2 _ z)⟩) r
    cases v with
    | t d => exact h H' u (ok'.take' f' hml) (f'.take hml) (dn rfl)
    | kd d => exact h H' u (ok'.take' f' hml) (f'.take hml) (dn rfl)
    | td d => exact h H' u (ok'.take' f' hml) (f'.take hml) (dn rfl)
    | ins c ns fs =>
      simp only at h
      split at h
      · rename_i hs
        exact h H' u (ok'.take' f' hml) (f'.take hml) (dn (by rw [shut]; exact hs))
      · exact h.elim
    | o i =>
      simp only at h
      split at h
      · rename_i hi
        exact h H' u (ok'.take' f' hml) (f'.take hml) (dn (by rw [shut]; exact decide_eq_true hi))
      · rename_i hi
        rw [RepS] at r'
        obtain ⟨a, e1, rfl⟩ := r'
        split at h
        · rename_i xs hxs
          obtain ⟨vs, g1, g2⟩ := ok'.at_ i a _ e1 hxs
          refine h H' _ (ok'.take' f' hml) (f'.take hml) ?_
          rw [RepS]
          exact .lst ⟨.of g1, gone e1 hi⟩ (lower g2)
        · rename_i kvs hxs
          obtain ⟨kv, g1, g2, g3⟩ := ok'.at_ i a _ e1 hxs
          refine h H' _ (ok'.take' f' hml) (f'.take hml) ?_
          rw [RepS]
          exact ⟨a, kv, rfl, .inl g1, gone e1 hi, g2, lower g3⟩
        · rename_i kvs hxs
          obtain ⟨kv, g1, g2, g3, g4⟩ := ok'.at_ i a _ e1 hxs
          refine h H' _ (ok'.take' f' hml) (f'.take hml) ?_
          rw [RepS]
          exact ⟨a, kv, rfl, .inl g1, gone e1 hi, g2, lower g4⟩
        · exact h.elim
/-- a def of the table, and the text it is of -/
structure DfOk (G : Glo) (T : List Fn) (K : PySem.W.Frag) (mg : Str → Option Value) (i : Nat) (fi : FI) : Prop where
  ex : ∃ (a : Addr) (fd : FuncData) (x qual : Str) (params : Arguments) (body : List Stmt) (scope : Scope) (dvs : List V) (kws : List (Str × V)) (N : List Str) (fn : Fn),
    mg fi.name = some (.ref a) ∧ Binds K fd fi.ps [] ∧ FunD K x qual params body scope dvs kws a fd ∧ FnScope N fi.ps scope ∧ T[i]? = some fn ∧ fn.ar = fi.ps.length ∧ fn.sl = N.length ∧ chkB G N scope fn.body body = true
theorem all_ok {G : Glo} {T : List Fn} {xr : XR} {P : Program} {w : World} {K : PySem.W.Frag} {mg : Str → Option Value} {base : Heap} (hx : XrOk xr) (hd : ∀ i fi, G.fns[i]? = some fi → DfOk G T K mg i fi) (free : ∀ x ∈ G.free, mg x = none)
    (consts : ∀ p ∈ G.consts, ∃ (u : Value) (v : V), mg p.1 = some u ∧ RelV v u ∧ ∀ H N, Rep K H N v p.2)
    (cls : ∀ p ∈ G.cls, ∃ (sf : Str) (fI : Addr) (fd : FuncData), ClsF K p.1 p.2 ∧ Mk K (He.ga K p.1) fI ∧ FnOk P w K mg base CX0 1 fI fd (sf :: p.2) (initSp K p.1 p.2) ∧ Binds K fd (sf :: p.2) [] ∧ mg p.1 = some (.ref (He.ga K p.1)))
    (gds : ∀ p ∈ G.gds, ∃ d, mg p.1 = some (.ref d) ∧ gdOk K w d p.2) : ∀ n, GdM G (FT T n) xr (n + 2) P w K mg base
  | 0 => ⟨fun i fi hi => by
      obtain ⟨a, fd, x, qual, params, body, scope, dvs, kws, N, fn, h1, h2, h3, h4, h5, h6, h7, h8⟩ := (hd i fi hi).ex
      refine ⟨a, fd, h1, h3.kp, h2, ⟨fun vs H Q E h => h.1, fun A outer s H args us vs Q E _ _ _ _ h => ?_⟩, fun ds S h => absurd rfl h⟩
      obtain ⟨_, m, S, ds, _, _, h⟩ := h
      exact h.elim, free, consts, Nat.le_refl _, cls, gds⟩
  | n + 1 => ⟨fun i fi hi => by
      have ih := all_ok (P := P) (w := w) (base := base) hx hd free consts cls gds n
      obtain ⟨a, fd, x, qual, params, body, scope, dvs, kws, N, fn, h1, h2, h3, h4, h5, h6, h7, h8⟩ := (hd i fi hi).ex
      have e : FT T (n + 1) i = callF (FT T n) fn := by funext ds S; simp only [FT, h5]
      refine ⟨a, fd, h1, h3.kp, h2, by rw [e]; exact fn_ok h3 h4 h6 h7 hx ih h8, fun ds S h => ?_⟩
      rw [e] at h
      unfold callF at h
      split at h
      · rename_i hq; rw [hq, h6]
      · exact absurd rfl h, free, consts, by omega, cls, gds⟩
end M

/-! the head: a law's defs, its module's constants -/
namespace M
open PySem PySem.Spec PyProof.Rows L2

/-! ### constants -/
mutual
theorem valB_ok {K : PySem.W.Frag} : ∀ (d : D) (u : Value), valB K d u = true → ∃ v, RelV v u ∧ ∀ H N, Rep K H N v d
  | .non, u, h => by cases u <;> first | exact ⟨.non, rfl, fun _ _ => .non⟩ | simp [valB] at h
  | .bl b, u, h => by
    cases u <;> simp [valB] at h
    subst h; exact ⟨.bl _, rfl, fun _ _ => .bl _⟩
  | .int b, u, h => by
    cases u <;> simp [valB] at h
    subst h; exact ⟨.int _, ⟨_, rfl⟩, fun _ _ => .int _⟩
  | .str b, u, h => by
    cases u <;> simp [valB] at h
    subst h; exact ⟨.str _, ⟨_, rfl⟩, fun _ _ => .str _⟩
  | .tup ds, u, h => by
    cases u with
    | ref a =>
      rw [valB] at h
      split at h
      · rename_i c od its n osl hq
        simp only [Bool.and_eq_true, decide_eq_true_eq] at h
        obtain ⟨⟨rfl, h2⟩, h3⟩ := h
        obtain ⟨vs, h4, h5⟩ := valsB_ok ds its.toList h3
        exact ⟨.ref a, rfl, fun H N => .tup (.inr ⟨_, its, n, hq, rfl, rfl, h2, h4⟩) (h5 H N)⟩
      · cases h
    | _ => simp [valB] at h
  | .lst _, u, h => by cases u <;> simp [valB] at h
theorem valsB_ok {K : PySem.W.Frag} : ∀ (ds : List D) (us : List Value), valsB K ds us = true → ∃ vs, Vals vs us ∧ ∀ H N, Reps K H N vs ds
  | [], [], _ => ⟨[], .nil, fun _ _ => .nil⟩
  | [], _ :: _, h => by simp [valsB] at h
  | _ :: _, [], h => by simp [valsB] at h
  | d :: ds, u :: us, h => by
    rw [valsB, Bool.and_eq_true] at h
    obtain ⟨v, h1, h2⟩ := valB_ok d u h.1
    obtain ⟨vs, h3, h4⟩ := valsB_ok ds us h.2
    exact ⟨v :: vs, .cons h1 h3, fun H N => .cons (h2 H N) (h4 H N)⟩
end
theorem look_mem {a : Addr} {o : Obj} : ∀ {K : PySem.W.Frag}, K.lookup a = some o → (a, o) ∈ K
  | [], h => by cases h
  | (b, u) :: K, h => by
    rw [List.lookup_cons] at h
    split at h
    · rename_i e; cases h; rw [eq_of_beq e]; exact List.mem_cons_self
    · exact List.mem_cons_of_mem _ (look_mem h)
theorem noL_ok {K : PySem.W.Frag} (h : noL K = true) {a : Addr} {o : Obj} (e : K.lookup a = some o) : o.cls ≠ .type "list" := by
  have := List.all_eq_true.mp h _ (look_mem e)
  intro z
  simp [z] at this
theorem entB_ok {K : PySem.W.Frag} {z : Str} : ∀ {qs : List (Str × D)} {es : List DictEntry}, entB K qs es = true → es.any (·.refKey) = false ∧ (match es.find? (·.key.isStr z) with
    | some e => ∃ x, qs.lookup z = some x ∧ valB K x e.val = true
    | none => qs.lookup z = none)
  | [], [], _ => ⟨rfl, rfl⟩
  | [], _ :: _, h => by simp [entB] at h
  | _ :: _, [], h => by simp [entB] at h
  | (k, d) :: qs, e :: es, h => by
    rw [entB, Bool.and_eq_true, Bool.and_eq_true] at h
    obtain ⟨⟨h1, h2⟩, h3⟩ := h
    split at h1
    · rename_i y t hk
      have h1 := of_decide_eq_true h1
      obtain ⟨i1, i2⟩ := entB_ok (z := z) h3
      refine ⟨by rw [List.any_cons, i1]; simp [DictEntry.refKey, hk], ?_⟩
      by_cases hz : y = z
      · rw [List.find?_cons_of_pos (by rw [hk]; simp [Value.isStr, hz])]
        refine ⟨d, ?_, h2⟩
        rw [List.lookup_cons]
        have : (z == k) = true := by rw [← hz, h1]; exact beq_self_eq_true _
        rw [this]
      · rw [List.find?_cons_of_neg (by rw [hk]; simp [Value.isStr, hz])]
        have e2 : ((k, d) :: qs).lookup z = qs.lookup z := by
          rw [List.lookup_cons]
          have : (z == k) = false := beq_eq_false_iff_ne.mpr fun q => hz (by rw [h1]; exact q.symm)
          rw [this]
        rw [e2]
        exact i2
    · cases h1
theorem gdB_ok {K : PySem.W.Frag} {w : World} {p : Str × List (Str × D)} (h : gdB K p = true) (hk : ∃ es n, KDict K w (He.ga K p.1) es n) : gdOk K w (He.ga K p.1) p.2 := by
  refine ⟨hk, ?_⟩
  unfold gdB at h
  split at h
  · rename_i c o es n sl hl
    have key : ∀ z, PySem.W.nsIn K (He.ga K p.1) z = some ((es.toList.find? (·.key.isStr z)).map (·.val)) := fun z => by
      unfold PySem.W.nsIn
      rw [hl]
      simp only
      have := (entB_ok (z := z) h).1
      cases es.toList.find? (·.key.isStr z) with
      | none => simp only [this]; rfl
      | some e => rfl
    refine ⟨fun z => ⟨_, key z, ?_⟩, fun z x hx => ?_⟩
    · have := (entB_ok (z := z) h).2
      revert this
      cases es.toList.find? (·.key.isStr z) with
      | none => intro q; rw [q]; rfl
      | some e => rintro ⟨x, q, _⟩; rw [q]; rfl
    · have h2 := (entB_ok (z := z) h).2
      have h1 := key z
      revert h1 h2
      cases es.toList.find? (·.key.isStr z) with
      | none => intro q; rw [hx] at q; cases q
      | some e =>
        rintro ⟨y, q, hv⟩ h1
        rw [hx] at q; cases q
        obtain ⟨v, g1, g2⟩ := valB_ok _ _ hv
        exact ⟨e.val, v, h1, g1, g2⟩
  · cases h

/-! ### the table of a law -/
structure En where
  d : He.DefD
  fi : FI
  N : List Str
  f : Fn
def scB (N ps : List Str) (sc : Scope) : Bool :=
  (match sc.kind with | .function => true | _ => false) && !sc.isCoroutine && !sc.isGenerator && decide N.Nodup && decide (N.take ps.length = ps) && (ps.all fun x => isK .local (sc.names.lookup x) || isK .cell (sc.names.lookup x)) && (sc.names.all fun y => !isK .free (some y.2))
theorem scB_ok {N ps : List Str} {sc : Scope} (h : scB N ps sc = true) : FnScope N ps sc := by
  unfold scB at h
  simp only [Bool.and_eq_true, Bool.not_eq_true', decide_eq_true_eq, List.all_eq_true, Bool.or_eq_true] at h
  obtain ⟨⟨⟨⟨⟨⟨h1, h2⟩, h3⟩, h4⟩, h5⟩, h6⟩, h7⟩ := h
  refine ⟨?_, h2, h3, h4, h5, fun x hx => (h6 x hx).elim (fun z => .inl (isK_eq z)) fun z => .inr (isK_eq z), fun y hy e => ?_⟩
  · split at h1
    · assumption
    · cases h1
  · have := h7 y hy
    rw [e] at this
    cases this
def enB (G : Glo) (e : En) : Bool := e.d.dfl.isEmpty && e.d.kwd.isEmpty && decide (e.d.at_ = (e.fi.name, none)) && scB e.N e.fi.ps e.d.scope && decide (e.f.ar = e.fi.ps.length) && decide (e.f.sl = e.N.length) && chkB G e.N e.d.scope e.f.body e.d.body
def BnOk (e : En) : Prop := ∀ (kV doc pm : Value) (an : Option Addr) (cdv ct : Value) (us : List Value), us.length = e.fi.ps.length → bindArgs (PySem.W.fnOf e.d.name e.d.qual e.d.params e.d.body e.d.scope .none kV doc pm an cdv ct) ⟨us, []⟩ = pure (e.fi.ps.zip us)
def cnB (c : Cn) : Bool := c.d.dfl.isEmpty && c.d.kwd.isEmpty && decide (c.d.at_ = (c.name, some ("__init__" : Str))) && scB (c.sf :: c.ns) (c.sf :: c.ns) c.d.scope && initB (c.sf :: c.ns) c.d.scope 1 c.ns c.d.body && decide (c.ns.length < 900)
def CnBn (c : Cn) : Prop := ∀ (kV doc pm : Value) (an : Option Addr) (cdv ct : Value) (us : List Value), us.length = (c.sf :: c.ns).length → bindArgs (PySem.W.fnOf c.d.name c.d.qual c.d.params c.d.body c.d.scope .none kV doc pm an cdv ct) ⟨us, []⟩ = pure ((c.sf :: c.ns).zip us)
/-- a module: its defs, names that are not its own, constants, classes, dicts -/
structure Md where
  es : List En
  free : List Str
  cs : List (Str × D)
  cl : List Cn := []
  gd : List (Str × List (Str × D)) := []
def Md.glo (M : Md) : Glo := ⟨M.es.map (·.fi), M.free, M.cs, M.cl.map fun c => (c.name, c.ns), M.gd⟩
def Md.fa (M : Md) : List He.Fa := M.es.map (fun e => .glo e.fi.name) ++ M.free.map .free ++ M.cl.flatMap cnFa ++ M.gd.map (fun p => .glo p.1)
def Md.ds (M : Md) : List He.DefD := M.es.map (·.d) ++ M.cl.map (·.d)
def Md.ts (M : Md) : List He.Tab := M.gd.map fun p => ((fun K => He.ga K p.1), p.2.map (·.1))
def Md.ex (M : Md) (K : PySem.W.Frag) : Bool := noL K && M.cs.all (conB K) && M.gd.all (gdB K)
def Md.ok (M : Md) : Bool := M.es.all (enB M.glo) && M.cl.all cnB
abbrev hkOf (n : Nat) (M : Md) : PySem.W.Hook := He.hookX n M.fa M.ds M.ts [] M.ex
theorem law_gd {M : Md} {xr : XR} {P : Program} {w : World} {h : Heap} {K : PySem.W.Frag} {mg : Str → Option Value} (hx : XrOk xr) (hB : M.ok = true) (hb : ∀ e ∈ M.es, BnOk e) (hcb : ∀ c ∈ M.cl, CnBn c)
    (X : K.In h) (Gn : h.Ns mainGlobals mg) (c : He.SaysX M.fa M.ds M.ts [] M.ex w h K) (base : Heap) (n : Nat) : GdM M.glo (FT (M.es.map (·.f)) n) xr (n + 2) P w K mg base := by
  have cd : He.SaysD M.fa M.ds K := c.t.d
  have hm := c.more
  unfold Md.ex at hm
  rw [Bool.and_eq_true, Bool.and_eq_true] at hm
  unfold Md.ok at hB
  rw [Bool.and_eq_true] at hB
  refine all_ok hx (fun i fi hi => ?_) (fun x hx => ?_) (fun p hp => ?_) (fun p hp => ?_) (fun p hp => ?_) n
  · obtain ⟨e, he, rfl⟩ : ∃ e, M.es[i]? = some e ∧ e.fi = fi := by
      have : (M.es.map (·.fi))[i]? = some fi := hi
      rw [List.getElem?_map] at this
      exact Option.map_eq_some_iff.mp this
    have hmem := List.mem_of_getElem? he
    have hE := List.all_eq_true.mp hB.1 e hmem
    unfold enB at hE
    simp only [Bool.and_eq_true, decide_eq_true_eq, List.isEmpty_iff] at hE
    obtain ⟨⟨⟨⟨⟨⟨h1, h2⟩, h3⟩, h4⟩, h5⟩, h6⟩, h7⟩ := hE
    obtain ⟨fd, F⟩ := cd.defs (d := e.d) (List.mem_append_left _ (List.mem_map.mpr ⟨e, hmem, rfl⟩))
    have hg := He.glo_ok X Gn (cd.facts (f := .glo e.fi.name) (List.mem_append_left _ (List.mem_append_left _ (List.mem_append_left _ (List.mem_map.mpr ⟨e, hmem, rfl⟩)))))
    have ha : He.fAd K e.d.at_ = He.ga K e.fi.name := by rw [h3]; rfl
    have hd : e.d.dvs K = [] := by unfold He.DefD.dvs; rw [h1]; rfl
    rw [ha, hd] at F
    exact ⟨⟨_, fd, _, _, _, _, _, _, _, e.N, e.f, hg, F.bindsN (hb e hmem), F, scB_ok h4, by rw [List.getElem?_map, he]; rfl, h5, h6, h7⟩⟩
  · exact He.free_ok X Gn (cd.facts (f := .free x) (List.mem_append_left _ (List.mem_append_left _ (List.mem_append_right _ (List.mem_map.mpr ⟨x, hx, rfl⟩)))))
  · have := List.all_eq_true.mp hm.1.2 p hp
    unfold conB at this
    split at this
    · rename_i u hu
      obtain ⟨v, h1, h2⟩ := valB_ok _ _ this
      exact ⟨u, v, PySem.W.mg_of X Gn hu, h1, h2⟩
    · cases this
  · obtain ⟨q, hq, rfl⟩ := List.mem_map.mp hp
    have hC := List.all_eq_true.mp hB.2 q hq
    unfold cnB at hC
    simp only [Bool.and_eq_true, decide_eq_true_eq, List.isEmpty_iff] at hC
    obtain ⟨⟨⟨⟨⟨h1, h2⟩, h3⟩, h4⟩, h5⟩, h6⟩ := hC
    have fa : ∀ {f : He.Fa}, f ∈ cnFa q → f.ok K = true := fun hf => cd.facts (List.mem_append_left _ (List.mem_append_right _ (List.mem_flatMap.mpr ⟨q, hq, hf⟩)))
    have hcl : ClsF K q.name q.ns := ⟨He.cls_ok (fa (by simp [cnFa])), fun f hf => He.noat_ok (fa (by simp [cnFa, hf]))⟩
    obtain ⟨fd, F⟩ := cd.defs (d := q.d) (List.mem_append_right _ (List.mem_map.mpr ⟨q, hq, rfl⟩))
    have ha : He.fAd K q.d.at_ = He.ma K (He.ga K q.name) "__init__" := by rw [h3]; rfl
    have hd : q.d.dvs K = [] := by unfold He.DefD.dvs; rw [h1]; rfl
    rw [ha, hd] at F
    exact ⟨q.sf, _, fd, hcl, He.mkr_ok (fa (by simp [cnFa])), init_ok F (scB_ok h4) hcl h5 h6, F.bindsN (hcb q hq), He.glo_ok X Gn (fa (by simp [cnFa]))⟩
  · have hp' : p ∈ M.gd := hp
    obtain ⟨i, hi, e⟩ := List.mem_iff_getElem.mp hp'
    have ht : M.ts[i]? = some ((fun K => He.ga K p.1), p.2.map (·.1)) := by
      unfold Md.ts
      rw [List.getElem?_map, List.getElem?_eq_getElem hi, e]; rfl
    exact ⟨_, He.glo_ok X Gn (cd.facts (f := .glo p.1) (List.mem_append_right _ (List.mem_map.mpr ⟨p, hp', rfl⟩))), gdB_ok (List.all_eq_true.mp hm.2 p hp') (c.t.tab i ht)⟩
def xr0 : XR := fun _ _ _ _ _ _ _ => False
theorem xr0_ok : XrOk xr0 := fun _ _ _ _ _ _ _ _ _ _ h => h
theorem reps_intl {K : PySem.W.Frag} {H : Hp} {N : Addr → Prop} : ∀ ns : List Int, Reps K H N (ns.map V.int) (ns.map D.int)
  | [] => .nil
  | n :: ns => .cons (.int n) (reps_intl ns)
/-- what the law's walk needs -/
theorem law_end {M : Md} {P : Program} {w : World} {h : Heap} {mg : Str → Option Value} {fa : Addr} {i n : Nat} {e : En} (hB : M.ok = true) (hb : ∀ e ∈ M.es, BnOk e) (hcb : ∀ c ∈ M.cl, CnBn c)
    (hi : M.es[i]? = some e) (hps : e.fi.ps = [("script" : Str)]) (Y : (hkOf 4 M).says w h) (Gn : h.Ns mainGlobals mg) (hmg : mg e.fi.name = some (.ref fa))
    (law : ∀ ns : List Int, ns.length ≤ 63 → ∃ S', FT (M.es.map (·.f)) n i [.t (.lst (ns.map .int))] [] = .ok (.t (.bl true)) S') :
    ∃ (K : PySem.W.Frag) (fd : FuncData) (sp : Sp), K.In h ∧ (∀ (s : Shared) (u : Value), BindsTo s fd ⟨[u], []⟩ [(("script" : Str), u)]) ∧
        (∀ (H : Hp) (a : Addr) (ns : List Int), ns.length ≤ 63 → Only H → SqL K H a (ns.map V.int) → sp [.ref a] H (fun v _ => v = .bl true) fun _ _ _ => False) ∧
        ∀ base : Heap, K.In base → base.Ns mainGlobals mg → FnOk P w K mg base (L2.CX P w) (n + 2) fa fd [("script" : Str)] sp := by
  obtain ⟨K, KX, c⟩ := Y
  have cd : He.SaysD M.fa M.ds K := c.t.d
  have hmem := List.mem_of_getElem? hi
  have hB' := hB
  unfold Md.ok at hB'
  rw [Bool.and_eq_true] at hB'
  have hE := List.all_eq_true.mp hB'.1 e hmem
  unfold enB at hE
  simp only [Bool.and_eq_true, decide_eq_true_eq, List.isEmpty_iff] at hE
  obtain ⟨⟨⟨⟨⟨⟨h1, h2⟩, h3⟩, h4⟩, h5⟩, h6⟩, h7⟩ := hE
  -- one function object for all bases
  obtain ⟨fd, F⟩ := cd.defs (d := e.d) (List.mem_append_left _ (List.mem_map.mpr ⟨e, hmem, rfl⟩))
  have hg := He.glo_ok KX Gn (cd.facts (f := .glo e.fi.name) (List.mem_append_left _ (List.mem_append_left _ (List.mem_append_left _ (List.mem_map.mpr ⟨e, hmem, rfl⟩)))))
  have ha : He.fAd K e.d.at_ = He.ga K e.fi.name := by rw [h3]; rfl
  have hd : e.d.dvs K = [] := by unfold He.DefD.dvs; rw [h1]; rfl
  rw [ha, hd] at F
  have e1 := hmg.symm.trans hg
  cases e1
  have b := FunD.bindsA (ps := e.fi.ps) F (hb e hmem)
  rw [hps] at b
  have hT : (M.es.map (·.f))[i]? = some e.f := by rw [List.getElem?_map, hi]; rfl
  refine ⟨K, fd, spOf K xr0 1 (FT (M.es.map (·.f)) n i), KX, fun s u => b s [u] rfl, fun H a ns hl hO hS => ⟨rfl, [], [], [.t (.lst (ns.map .int))], ⟨rfl, .nil, fun i a o e => by simp at e⟩, .cons ?_ .nil, ?_⟩, fun base hKb hNb => ?_⟩
  · rw [RepS]
    rcases hS with hS | ⟨o, its, m, e1, e2, _⟩
    · exact .lst ⟨hS, fun ⟨i, e, _⟩ => by simp at e⟩ (reps_intl ns)
    · have hm := c.more
      unfold Md.ex at hm
      rw [Bool.and_eq_true, Bool.and_eq_true] at hm
      exact absurd e2 (noL_ok hm.1.1 e1)
  · obtain ⟨S', hS'⟩ := law ns hl
    rw [hS']
    intro H' v ok' f' r
    rw [RepS] at r
    cases r
    rfl
  · cases n with
    | zero =>
      refine ⟨fun vs H Q E h => h.1, fun A outer s H args us vs Q E _ _ _ _ h => ?_⟩
      obtain ⟨_, m, S, ds, _, _, h⟩ := h
      exact h.elim
    | succ n =>
      have e2 : FT (M.es.map (·.f)) (n + 1) i = callF (FT (M.es.map (·.f)) n) e.f := by funext ds S; simp only [FT, hT]
      rw [e2]
      have := fn_ok (G := M.glo) (F := FT (M.es.map (·.f)) n) (P := P) (w := w) (mg := mg) (base := base) F (scB_ok h4) h5 h6 xr0_ok (law_gd (P := P) xr0_ok hB hb hcb KX Gn c base n) h7
      rw [hps] at this
      exact this
/-- a law's walk, its defs letting out what L2.CX says -/
theorem walk_ofM {l : PySem.W.OpenLaw} {n k : Nat} {q : Program} {loose : List Str} {XP : (Str → Option Value) → Heap → Prop} {YP : World → Heap → Prop} {d : DefRec} {x : Str}
    (hn : l.most = some n) (hn2 : n ≤ sizeLine) (hdf : d.params.defaults = []) (hr : Room k callerA)
    (F : ∀ (w : World) (mg : Str → Option Value) (fa : Addr) (h : Heap), YP w h → h.Ns mainGlobals mg → mg d.name = some (.ref fa) →
      ∃ (K : PySem.W.Frag) (fd : FuncData) (sp : Sp), K.In h ∧ (∀ (s : Shared) (u : Value), BindsTo s fd ⟨[u], []⟩ [(x, u)]) ∧
        (∀ (H : Hp) (a : Addr) (ns : List Int), ns.length ≤ n → Only H → SqL K H a (ns.map V.int) → sp [.ref a] H (fun v _ => v = .bl true) fun _ _ _ => False) ∧
        ∀ base : Heap, K.In base → base.Ns mainGlobals mg → FnOk l.prog w K mg base (L2.CX l.prog w) k fa fd [x] sp) :
    PySem.W.WalkO q loose XP YP l.row.toRowW d [] (fun f vs => PySem.call f vs) := by
  refine Att.attach_call hn hdf fun w s₀ s₁ mg mb fa o pm cd doc a vs ns G Y ho hd hcd hmg hobj hints hlen hg => ?_
  obtain ⟨K, fd, sp, KX, hb, hsp, hF⟩ := F w mg fa _ Y G.T.g hmg
  exact law_call KX G.T.g G.T.b G.T.builtins G.T.nolimit hg hobj hints (Nat.le_trans hlen hn2) hr hF hb (fun H hO hS => hsp H a ns hlen hO hS) fun H e s' ⟨_, _, _, _, _, _, _, _, _, _, _, _, z⟩ => z
end M

/-! runs of the small language, loops by invariants -/
namespace M
open PySem PySem.Spec PyProof.Rows L2

theorem FT_at {T : List Fn} {i : Nat} {f : Fn} (h : T[i]? = some f) (n : Nat) (vs : List SV) (S : St') : FT T (n + 1) i vs S = callF (FT T n) f vs S := by simp only [FT, h]
theorem callF_rt {F : FS} {f : Fn} {vs : List SV} {S S' : St'} {d : D} (hl : vs.length = f.ar) (h : execB F f.body (vs.map some ++ List.replicate (f.sl - vs.length) none) S = .rt (.t d) S') (hS : S'.take S.length = S) : callF F f vs S = .ok (.t d) S := by
  unfold callF
  rw [if_pos hl, h]
  simp only [finish, hS]
/-- a for over fixed data, by what holds ahead of the items left -/
theorem forFix_run {tg : Tg} {body : Ev → St' → Out} (I : List D → Ev → St' → Prop)
    (step : ∀ d ds ρ S, I (d :: ds) ρ S → ∃ ρ' ρ2 S2, bindTg tg d ρ = some ρ' ∧ (body ρ' S = .nx ρ2 S2 ∨ body ρ' S = .ct ρ2 S2) ∧ I ds ρ2 S2) :
    ∀ {xs : List D} {ρ : Ev} {S : St'}, I xs ρ S → ∃ ρ' S', forFix tg body xs ρ S = .nx ρ' S' ∧ I [] ρ' S'
  | [], ρ, S, h => ⟨ρ, S, rfl, h⟩
  | d :: ds, ρ, S, h => by
    obtain ⟨ρ', ρ2, S2, h1, h2, h3⟩ := step d ds ρ S h
    obtain ⟨ρ3, S3, h4, h5⟩ := forFix_run I step h3
    refine ⟨ρ3, S3, ?_, h5⟩
    unfold forFix
    rw [h1]
    rcases h2 with h2 | h2 <;> simp only [h2, Out.turn_nx, Out.turn_ct, h4]
/-- a comprehension over fixed data, its parts leaving the objects alone -/
theorem lcFix_map {tg : Tg} {c : Ev → St' → R Bool} {e : Ev → St' → R SV} {ρ : Ev} {S : St'} {b : D → Bool} {v : D → D} : ∀ {xs : List D} {acc : List D},
    (∀ d ∈ xs, ∀ acc, ∃ ρ', bindTg tg d ρ = some ρ' ∧ c ρ' (S ++ [.lst acc]) = .ok (b d) (S ++ [.lst acc]) ∧ (b d = true → e ρ' (S ++ [.lst acc]) = .ok (.t (v d)) (S ++ [.lst acc]))) →
    acc.length + xs.length ≤ sizeLine → lcFix tg c e S.length xs ρ (S ++ [.lst acc]) = .ok (acc ++ (xs.filter b).map v) S
  | [], acc, _, _ => by simp [lcFix, lcEnd]
  | d :: ds, acc, h, hl => by
    obtain ⟨ρ', h1, h2, h3⟩ := h d List.mem_cons_self acc
    simp only [List.length_cons] at hl
    unfold lcFix lcTurn
    rw [h1]
    simp only [h2, R.nox_ok, R.bind_ok]
    cases hb : b d with
    | true =>
      simp only [h3 hb, R.nox_ok, R.bind_ok, lcPut, grab, if_true]
      rw [show (S ++ [O.lst acc])[S.length]? = some (.lst acc) by simp]
      have hlt : acc.length < sizeLine := by omega
      simp only [hlt, if_true, R.bind_ok]
      rw [show (S ++ [O.lst acc]).set S.length (.lst (acc ++ [v d])) = S ++ [.lst (acc ++ [v d])] by simp]
      rw [lcFix_map (fun d' hd' => h d' (List.mem_cons_of_mem _ hd')) (by simp; omega)]
      simp [List.filter_cons, hb]
    | false =>
      simp only [Bool.false_eq_true, if_false, R.bind_ok]
      rw [lcFix_map (fun d' hd' => h d' (List.mem_cons_of_mem _ hd')) (by omega)]
      simp [List.filter_cons, hb]
/-- .. over an object that stays -/
theorem lcLive_map {tg : Tg} {c : Ev → St' → R Bool} {e : Ev → St' → R SV} {ρ : Ev} {S : St'} {b : D → Bool} {v : D → D} {i : Nat} {ys : List D} (hi : S[i]? = some (.lst ys))
    (h : ∀ d ∈ ys, ∀ acc, ∃ ρ', bindTg tg d ρ = some ρ' ∧ c ρ' (S ++ [.lst acc]) = .ok (b d) (S ++ [.lst acc]) ∧ (b d = true → e ρ' (S ++ [.lst acc]) = .ok (.t (v d)) (S ++ [.lst acc]))) :
    ∀ (n j : Nat) (acc : List D), j + n = ys.length → acc.length + n ≤ sizeLine → lcLive tg c e S.length i n j ρ (S ++ [.lst acc]) = .ok (acc ++ ((ys.drop j).filter b).map v) S
  | 0, j, acc, hj, hl => by
    have hlt : i < S.length := (List.getElem?_eq_some_iff.mp hi).1
    unfold lcLive
    rw [List.getElem?_append_left hlt, hi]
    simp only
    rw [List.getElem?_eq_none (by omega), List.drop_eq_nil_of_le (by omega)]
    simp [lcEnd]
  | n + 1, j, acc, hj, hl => by
    have hlt : i < S.length := (List.getElem?_eq_some_iff.mp hi).1
    have hjl : j < ys.length := by omega
    obtain ⟨ρ', h1, h2, h3⟩ := h ys[j] (List.getElem_mem hjl) acc
    unfold lcLive
    rw [List.getElem?_append_left hlt, hi]
    simp only
    rw [List.getElem?_eq_getElem hjl]
    simp only
    unfold lcTurn
    rw [h1]
    simp only [h2, R.nox_ok, R.bind_ok]
    rw [List.drop_eq_getElem_cons hjl]
    cases hb : b ys[j] with
    | true =>
      simp only [h3 hb, R.nox_ok, R.bind_ok, lcPut, grab, if_true]
      rw [show (S ++ [O.lst acc])[S.length]? = some (.lst acc) by simp]
      have hlt : acc.length < sizeLine := by omega
      simp only [hlt, if_true, R.bind_ok]
      rw [show (S ++ [O.lst acc]).set S.length (.lst (acc ++ [v ys[j]])) = S ++ [.lst (acc ++ [v ys[j]])] by simp]
      rw [lcLive_map hi h n (j + 1) _ (by omega) (by simp; omega)]
      rw [List.filter_cons_of_pos hb, List.map_cons]
      simp only [List.append_assoc, List.cons_append, List.nil_append]
    | false =>
      simp only [Bool.false_eq_true, if_false, R.bind_ok]
      rw [lcLive_map hi h n (j + 1) _ (by omega) (by omega)]
      rw [List.filter_cons_of_neg (by simp [hb])]
theorem R.bind_cong {α β : Type} {r r' : R α} {k : α → St' → R β} (h : r = r') : r.bind k = r'.bind k := by rw [h]
theorem Out.of_cong {α : Type} {ρ : Ev} {r r' : R α} {k : α → St' → Out} (h : r = r') : Out.of ρ r k = Out.of ρ r' k := by rw [h]
theorem Out.seq_cong {r r' : Out} {k : Ev → St' → Out} (h : r = r') : r.seq k = r'.seq k := by rw [h]
theorem Out.turn_cong {r r' : Out} {k : Ev → St' → Out} (h : r = r') : r.turn k = r'.turn k := by rw [h]
theorem optbind_cong {α β : Type} {r r' : Option α} {k : α → Option β} (h : r = r') : r.bind k = r'.bind k := by rw [h]
theorem st_get {S : St'} {o : O} : (S ++ [o])[List.length S]? = some o := by simp
theorem st_set {S : St'} {o o' : O} : (S ++ [o]).set (List.length S) o' = S ++ [o'] := by simp
theorem st_get2 {S : St'} {o u : O} : ((S ++ [o]) ++ [u])[List.length S]? = some o := by simp
theorem st_set2 {S : St'} {o u o' : O} : ((S ++ [o]) ++ [u]).set (List.length S) o' = (S ++ [o']) ++ [u] := by simp
theorem szl {n : Nat} : (n ≤ sizeLine) = (n ≤ 16777216) := by rw [show sizeLine = 16777216 by decide +kernel]
theorem execB_cons {F : FS} {s : MS} {ss : List MS} {ρ ρ1 : Ev} {S S1 : St'} {o : Out} (h : execS F s ρ S = .nx ρ1 S1) (h2 : execB F ss ρ1 S1 = o) : execB F (s :: ss) ρ S = o := by rw [execB, h]; exact h2
theorem execB_rt {F : FS} {s : MS} {ss : List MS} {ρ : Ev} {S S1 : St'} {v : SV} (h : execS F s ρ S = .rt v S1) : execB F (s :: ss) ρ S = .rt v S1 := by rw [execB, h]; rfl
end M

/-! what a run comes to, by what must hold behind it -/
namespace M
open PySem PySem.Spec PyProof.Rows L2

abbrev EX := Nat → List D → St' → Prop
def RP {α : Type} (r : R α) (P : α → St' → Prop) (E : EX) : Prop := match r with
  | .ok a S => P a S
  | .exc c p S => E c p S
  | .bad => False
structure Po where
  rt : SV → St' → Prop
  ex : Nat → List D → Ev → St' → Prop := fun _ _ _ _ => False
abbrev NX := Ev → St' → Prop
def noN : NX := fun _ _ => False
def OP (o : Out) (nx bk ct : NX) (P : Po) : Prop := match o with
  | .nx ρ S => nx ρ S
  | .rt v S => P.rt v S
  | .bk ρ S => bk ρ S
  | .ct ρ S => ct ρ S
  | .exc c p ρ S => P.ex c p ρ S
  | .bad => False
def noE : EX := fun _ _ _ => False
section
variable {α β : Type} {r : R α} {k : α → St' → R β} {P P' : α → St' → Prop} {Q : β → St' → Prop} {E E' : EX}
theorem RP.mono (h : RP r P E) (hp : ∀ a S, P a S → P' a S) (he : ∀ c p S, E c p S → E' c p S) : RP r P' E' := by
  cases r with
  | ok a S => exact hp a S h
  | exc c p S => exact he c p S h
  | bad => exact h
theorem RP.imp (h : RP r P E) (hp : ∀ a S, P a S → P' a S) : RP r P' E := h.mono hp fun _ _ _ h => h
theorem RP.of_no (h : RP r P noE) (hp : ∀ a S, P a S → P' a S) : RP r P' E := h.mono hp fun _ _ _ h => h.elim
theorem RP.eq {a : α} {S : St'} (h : r = .ok a S) (hp : P a S) : RP r P E := by rw [h]; exact hp
theorem RP.get (h : RP r P noE) : ∃ a S, r = .ok a S ∧ P a S := by
  cases r with
  | ok a S => exact ⟨a, S, rfl, h⟩
  | exc c p S => exact h.elim
  | bad => exact h.elim
theorem RP.bind (h : RP r (fun a S => RP (k a S) Q E) E) : RP (r.bind k) Q E := by
  cases r with
  | ok a S => exact h
  | exc c p S => exact h
  | bad => exact h
theorem RP.opt {o : Option α} {S : St'} (h : ∃ a, o = some a ∧ P a S) : RP (R.opt o S) P E := by
  obtain ⟨a, rfl, h⟩ := h
  exact h
theorem OP.of {ρ : Ev} {k : α → St' → Out} {nx bk ct : NX} {P : Po} (h : RP r (fun a S => OP (k a S) nx bk ct P) (fun c p S => P.ex c p ρ S)) : OP (Out.of ρ r k) nx bk ct P := by
  cases r with
  | ok a S => exact h
  | exc c p S => exact h
  | bad => exact h
theorem OP.seq {o : Out} {k : Ev → St' → Out} {nx bk ct : NX} {P : Po} (h : OP o (fun ρ S => OP (k ρ S) nx bk ct P) bk ct P) : OP (o.seq k) nx bk ct P := by
  cases o <;> exact h
theorem OP.imp {o : Out} {nx bk ct nx' bk' ct' : NX} {P P' : Po} (h : OP o nx bk ct P) (h1 : ∀ ρ S, nx ρ S → nx' ρ S) (h2 : ∀ v S, P.rt v S → P'.rt v S) (h3 : ∀ ρ S, bk ρ S → bk' ρ S) (h4 : ∀ ρ S, ct ρ S → ct' ρ S) (h5 : ∀ c p ρ S, P.ex c p ρ S → P'.ex c p ρ S) : OP o nx' bk' ct' P' := by
  cases o with
  | nx ρ S => exact h1 _ _ h
  | rt ρ S => exact h2 _ _ h
  | bk ρ S => exact h3 _ _ h
  | ct ρ S => exact h4 _ _ h
  | exc c p ρ S => exact h5 _ _ _ _ h
  | bad => exact h
end
section
variable {F : FS} {ρ : Ev} {S : St'} {a b c e : ME} {es : List ME} {P : SV → St' → Prop} {E : EX}
theorem rp_var {i : Nat} {v : SV} (h : ρ[i]? = some (some v)) (hp : P v S) : RP (evalE F (.var i) ρ S) P E := by rw [evalE, h]; exact hp
theorem rp_lit {d : D} (hp : P (.t d) S) : RP (evalE F (.lit d) ρ S) P E := by rw [evalE]; exact hp
theorem rp_glb {x : Str} {d : D} (hp : P (.t d) S) : RP (evalE F (.glb x d) ρ S) P E := by rw [evalE]; exact hp
theorem rp_nil {P : List SV → St' → Prop} (hp : P [] S) : RP (evalEs F [] ρ S) P E := by rw [evalEs]; exact hp
theorem rp_cons {P : List SV → St' → Prop} (hp : RP (evalE F e ρ S) (fun v S1 => RP (evalEs F es ρ S1) (fun vs S2 => P (v :: vs) S2) E) E) : RP (evalEs F (e :: es) ρ S) P E := by
  rw [evalEs]
  exact RP.bind (hp.imp fun v S1 h => RP.bind (h.imp fun vs S2 h => h))
theorem rp_tup (hp : RP (evalEs F es ρ S) (fun vs S1 => ∃ ds S2, grabs S1 vs = some (ds, S2) ∧ ds.length ≤ sizeLine ∧ P (.t (.tup ds)) S2) E) : RP (evalE F (.tup es) ρ S) P E := by
  rw [evalE]
  refine RP.bind (hp.imp fun vs S1 ⟨ds, S2, h1, h2, h3⟩ => ?_)
  rw [h1]
  simp only [h2, if_true]
  exact h3
theorem rp_lst (hp : RP (evalEs F es ρ S) (fun vs S1 => ∃ ds S2, grabs S1 vs = some (ds, S2) ∧ ds.length ≤ sizeLine ∧ P (.t (.lst ds)) S2) E) : RP (evalE F (.lst es) ρ S) P E := by
  rw [evalE]
  refine RP.bind (hp.imp fun vs S1 ⟨ds, S2, h1, h2, h3⟩ => ?_)
  rw [h1]
  simp only [h2, if_true]
  exact h3
def bin2 (o : Bn) (S : St') (x y : SV) : Option D := (peek S x).bind fun d => (peek S y).bind fun e => binD o d e
theorem rp_bin {o : Bn} (hp : RP (evalE F a ρ S) (fun x S1 => RP (evalE F b ρ S1) (fun y S2 => ∃ r, bin2 o S2 x y = some r ∧ P (.t r) S2) E) E) : RP (evalE F (.bin o a b) ρ S) P E := by
  rw [evalE]
  refine RP.bind (hp.imp fun x S1 h => RP.bind (h.imp fun y S2 ⟨r, h1, h2⟩ => RP.opt ⟨.t r, ?_, h2⟩))
  unfold bin2 at h1
  obtain ⟨d, e1, h1⟩ := Option.bind_eq_some_iff.mp h1
  obtain ⟨e, e2, h1⟩ := Option.bind_eq_some_iff.mp h1
  rw [e1, Option.bind_some, e2, Option.bind_some, h1]; rfl
theorem rp_neg (hp : RP (evalE F a ρ S) (fun x S1 => ∃ i, x = .t (.int i) ∧ P (.t (.int (-i))) S1) E) : RP (evalE F (.neg a) ρ S) P E := by
  rw [evalE]
  refine RP.bind (hp.imp fun x S1 ⟨i, h, hp⟩ => ?_)
  subst h
  exact hp
def cmp2' (o : Cm) (S : St') (x y : SV) : Option Bool := (peek S x).bind fun d => (peek S y).bind fun e => cmpD o d e
theorem rp_cmp {o : Cm} (hp : RP (evalE F a ρ S) (fun x S1 => RP (evalE F b ρ S1) (fun y S2 => ∃ r, cmp2' o S2 x y = some r ∧ P (.t (.bl r)) S2) E) E) : RP (evalE F (.cmp o a b) ρ S) P E := by
  rw [evalE]
  refine RP.bind (hp.imp fun x S1 h => RP.bind (h.imp fun y S2 ⟨r, h1, h2⟩ => RP.opt ⟨.t (.bl r), ?_, h2⟩))
  unfold cmp2' at h1
  obtain ⟨d, e1, h1⟩ := Option.bind_eq_some_iff.mp h1
  obtain ⟨e, e2, h1⟩ := Option.bind_eq_some_iff.mp h1
  rw [e1, Option.bind_some, e2, Option.bind_some, h1]; rfl
theorem rp_cmp2 {o p : Cm} (hp : RP (evalE F a ρ S) (fun x S1 => RP (evalE F b ρ S1) (fun y S2 => ∃ r, cmp2' o S2 x y = some r ∧ (r = true → RP (evalE F c ρ S2) (fun z S3 => ∃ r, cmp2' p S3 y z = some r ∧ P (.t (.bl r)) S3) E) ∧ (r = false → P (.t (.bl false)) S2)) E) E) : RP (evalE F (.cmp2 o p a b c) ρ S) P E := by
  rw [evalE]
  refine RP.bind (hp.imp fun x S1 h => RP.bind (h.imp fun y S2 ⟨r, h1, h2, h3⟩ => ?_))
  unfold cmp2' at h1
  obtain ⟨d, e1, h1⟩ := Option.bind_eq_some_iff.mp h1
  obtain ⟨e, e2, h1⟩ := Option.bind_eq_some_iff.mp h1
  rw [e1, Option.bind_some, e2, Option.bind_some, h1, R.opt_some, R.bind_ok]
  cases r with
  | false => exact h3 rfl
  | true =>
    refine RP.bind ((h2 rfl).imp fun z S3 ⟨r, h1, h2⟩ => RP.opt ⟨.t (.bl r), ?_, h2⟩)
    unfold cmp2' at h1
    obtain ⟨d, e1, h1⟩ := Option.bind_eq_some_iff.mp h1
    obtain ⟨e, e2, h1⟩ := Option.bind_eq_some_iff.mp h1
    rw [e1, Option.bind_some, e2, Option.bind_some, h1]; rfl
def truth (S : St') (x : SV) : Option Bool := (peek S x).bind truD
theorem rp_tru {P : Bool → St' → Prop} {r : R SV} (hp : RP r (fun x S1 => ∃ k, truth S1 x = some k ∧ P k S1) E) : RP (tru r) P E := by
  unfold tru
  exact RP.bind (hp.imp fun x S1 ⟨k, h1, h2⟩ => RP.opt ⟨k, h1, h2⟩)
theorem rp_and (hp : RP (evalE F a ρ S) (fun x S1 => ∃ k, truth S1 x = some k ∧ (k = true → RP (evalE F b ρ S1) P E) ∧ (k = false → P x S1)) E) : RP (evalE F (.and a b) ρ S) P E := by
  rw [evalE]
  refine RP.bind (hp.imp fun x S1 ⟨k, h1, h2, h3⟩ => ?_)
  unfold truth at h1
  rw [h1, R.opt_some, R.bind_ok]
  cases k with
  | true => exact h2 rfl
  | false => exact h3 rfl
theorem rp_or (hp : RP (evalE F a ρ S) (fun x S1 => ∃ k, truth S1 x = some k ∧ (k = true → P x S1) ∧ (k = false → RP (evalE F b ρ S1) P E)) E) : RP (evalE F (.or a b) ρ S) P E := by
  rw [evalE]
  refine RP.bind (hp.imp fun x S1 ⟨k, h1, h2, h3⟩ => ?_)
  unfold truth at h1
  rw [h1, R.opt_some, R.bind_ok]
  cases k with
  | true => exact h2 rfl
  | false => exact h3 rfl
theorem rp_not (hp : RP (evalE F a ρ S) (fun x S1 => ∃ k, truth S1 x = some k ∧ P (.t (.bl (!k))) S1) E) : RP (evalE F (.not a) ρ S) P E := by
  rw [evalE]
  exact RP.bind (rp_tru (hp.imp fun x S1 ⟨k, h1, h2⟩ => ⟨k, h1, h2⟩))
theorem rp_ife (hp : RP (evalE F c ρ S) (fun x S1 => ∃ k, truth S1 x = some k ∧ (k = true → RP (evalE F a ρ S1) P E) ∧ (k = false → RP (evalE F b ρ S1) P E)) E) : RP (evalE F (.ife c a b) ρ S) P E := by
  rw [evalE]
  refine RP.bind (rp_tru (hp.imp fun x S1 ⟨k, h1, h2, h3⟩ => ⟨k, h1, ?_⟩))
  cases k with
  | true => exact h2 rfl
  | false => exact h3 rfl
def idx2 (S : St') (x y : SV) : Option D := (peek S x).bind fun d => (peek S y).bind fun e => idxD d e
theorem rp_idx {i : ME} (hp : RP (evalE F a ρ S) (fun x S1 => RP (evalE F i ρ S1) (fun y S2 => ∃ r, idx2 S2 x y = some r ∧ P (.t r) S2) E) E) : RP (evalE F (.idx a i) ρ S) P E := by
  rw [evalE]
  refine RP.bind (hp.imp fun x S1 h => RP.bind (h.imp fun y S2 ⟨r, h1, h2⟩ => RP.opt ⟨.t r, ?_, h2⟩))
  unfold idx2 at h1
  obtain ⟨d, e1, h1⟩ := Option.bind_eq_some_iff.mp h1
  obtain ⟨e, e2, h1⟩ := Option.bind_eq_some_iff.mp h1
  rw [e1, Option.bind_some, e2, Option.bind_some, h1]; rfl
theorem rp_p0 {P : Option Int → St' → Prop} (hp : P none S) : RP (evalP F [] ρ S) P E := by rw [evalP]; exact hp
theorem rp_p1 {P : Option Int → St' → Prop} (hp : RP (evalE F e ρ S) (fun v S1 => ∃ i, v = .t (.int i) ∧ P (some i) S1) E) : RP (evalP F (e :: es) ρ S) P E := by
  rw [evalP]
  refine RP.bind (hp.imp fun x S1 ⟨i, h, hp⟩ => ?_)
  subst h
  exact hp
def slc2 (S : St') (x : SV) (l h : Option Int) : Option D := (peek S x).bind fun d => slcD d l h
theorem rp_slc {lo hi : List ME} (hp : RP (evalE F a ρ S) (fun x S1 => RP (evalP F lo ρ S1) (fun l S2 => RP (evalP F hi ρ S2) (fun h S3 => ∃ r, slc2 S3 x l h = some r ∧ P (.t r) S3) E) E) E) : RP (evalE F (.slc a lo hi) ρ S) P E := by
  rw [evalE]
  refine RP.bind (hp.imp fun x S1 h => RP.bind (h.imp fun l S2 h => RP.bind (h.imp fun h S3 ⟨r, h1, h2⟩ => RP.opt ⟨.t r, ?_, h2⟩)))
  unfold slc2 at h1
  obtain ⟨d, e1, h1⟩ := Option.bind_eq_some_iff.mp h1
  rw [e1, Option.bind_some, h1]; rfl
theorem rp_call {f : Nat} (hp : RP (evalEs F es ρ S) (fun vs S1 => RP (F f vs S1) P E) E) : RP (evalE F (.call f es) ρ S) P E := by
  rw [evalE]
  exact RP.bind hp
def bi2 (b : Bi) (S : St') (vs : List SV) : Option D := (peeks S vs).bind (biD b)
theorem rp_bi {b : Bi} (hp : RP (evalEs F es ρ S) (fun vs S1 => ∃ r, bi2 b S1 vs = some r ∧ P (.t r) S1) E) : RP (evalE F (.bi b es) ρ S) P E := by
  rw [evalE]
  refine RP.bind (hp.imp fun vs S1 ⟨r, h1, h2⟩ => RP.opt ⟨.t r, ?_, h2⟩)
  unfold bi2 at h1
  obtain ⟨d, e1, h1⟩ := Option.bind_eq_some_iff.mp h1
  rw [e1, Option.bind_some, h1]; rfl
theorem rp_isi {t : Ty} (hp : RP (evalE F a ρ S) (fun x S1 => ∃ d, peek S1 x = some d ∧ P (.t (.bl (isiD d t))) S1) E) : RP (evalE F (.isi a t) ρ S) P E := by
  rw [evalE]
  exact RP.bind (hp.imp fun x S1 ⟨d, h1, h2⟩ => RP.opt ⟨_, by rw [h1]; rfl, h2⟩)
theorem rp_isit {ts : List Ty} (hp : RP (evalE F a ρ S) (fun x S1 => ∃ d, peek S1 x = some d ∧ P (.t (.bl (ts.any fun t => isiD d t))) S1) E) : RP (evalE F (.isit a ts) ρ S) P E := by
  rw [evalE]
  exact RP.bind (hp.imp fun x S1 ⟨d, h1, h2⟩ => RP.opt ⟨_, by rw [h1]; rfl, h2⟩)
def mth2 (m : Mt) (S : St') (x : SV) (vs : List SV) : Option D := (peek S x).bind fun d => (peeks S vs).bind fun ds => mthD m d ds
theorem rp_mth {m : Mt} (hp : RP (evalE F a ρ S) (fun x S1 => ((peek S1 x).map (mtOk m)).getD false = true ∧ RP (evalEs F es ρ S1) (fun vs S2 => ∃ r, mth2 m S2 x vs = some r ∧ P (.t r) S2) E) E) : RP (evalE F (.mth m a es) ρ S) P E := by
  rw [evalE]
  refine RP.bind (hp.imp fun x S1 ⟨h0, h⟩ => ?_)
  rw [if_neg (by rw [h0]; simp)]
  refine RP.bind (h.imp fun vs S2 ⟨r, h1, h2⟩ => RP.opt ⟨.t r, ?_, h2⟩)
  unfold mth2 at h1
  obtain ⟨d, e1, h1⟩ := Option.bind_eq_some_iff.mp h1
  obtain ⟨e, e2, h1⟩ := Option.bind_eq_some_iff.mp h1
  rw [e1, Option.bind_some, e2, Option.bind_some, h1]; rfl
theorem rp_of {P : Src → St' → Prop} (hp : RP (evalE F e ρ S) (fun v S1 => ∃ s, srcOf S1 v = some s ∧ P s S1) E) : RP (evalI F (.of e) ρ S) P E := by
  rw [evalI]
  exact RP.bind (hp.imp fun v S1 ⟨s, h1, h2⟩ => RP.opt ⟨s, h1, h2⟩)
theorem rp_r1 {P : Src → St' → Prop} (hp : RP (evalE F e ρ S) (fun v S1 => ∃ n, v = .t (.int n) ∧ rngOk n = true ∧ P (.fix (rangeD 0 n)) S1) E) : RP (evalI F (.range1 e) ρ S) P E := by
  rw [evalI]
  refine RP.bind (hp.imp fun v S1 ⟨n, h1, h2, h3⟩ => ?_)
  subst h1
  simp only [h2, if_true]
  exact h3
theorem rp_r2 {P : Src → St' → Prop} (hp : RP (evalE F a ρ S) (fun v S1 => RP (evalE F b ρ S1) (fun u S2 => ∃ i j, v = .t (.int i) ∧ u = .t (.int j) ∧ (rngOk i && rngOk j) = true ∧ P (.fix (rangeD i j)) S2) E) E) : RP (evalI F (.range2 a b) ρ S) P E := by
  rw [evalI]
  refine RP.bind (hp.imp fun v S1 h => RP.bind (h.imp fun u S2 ⟨i, j, h1, h2, h3, h4⟩ => ?_))
  subst h1; subst h2
  simp only [h3, if_true]
  exact h4
def sqD : SV → Option (List D)
  | .t (.lst xs) => some xs
  | .t (.tup xs) => some xs
  | _ => none
theorem rp_enum {P : Src → St' → Prop} (hp : RP (evalE F e ρ S) (fun v S1 => ∃ xs, sqD v = some xs ∧ P (.fix (enumD xs)) S1) E) : RP (evalI F (.enum e) ρ S) P E := by
  rw [evalI]
  refine RP.bind (hp.imp fun v S1 ⟨xs, h1, h2⟩ => ?_)
  unfold sqD at h1
  split at h1 <;> cases h1 <;> exact h2
theorem rp_zip {P : Src → St' → Prop} (hp : RP (evalE F a ρ S) (fun v S1 => RP (evalE F b ρ S1) (fun u S2 => ∃ xs ys, ((v = .t (.lst xs) ∧ u = .t (.lst ys)) ∨ (v = .t (.tup xs) ∧ u = .t (.tup ys))) ∧ P (.fix (zipD xs ys)) S2) E) E) : RP (evalI F (.zip a b) ρ S) P E := by
  rw [evalI]
  refine RP.bind (hp.imp fun v S1 h => RP.bind (h.imp fun u S2 ⟨xs, ys, h1, h2⟩ => ?_))
  rcases h1 with ⟨rfl, rfl⟩ | ⟨rfl, rfl⟩ <;> exact h2
/-- a comprehension: what its source is, then what its list is -/
theorem rp_lc {tg : Tg} {it : IT} {cs : List ME} (hp : RP (evalI F it ρ S) (fun src S1 => RP (lcSrc tg (tests (evalCs F cs)) (evalE F e) src ρ S1) (fun xs S2 => P (.t (.lst xs)) S2) E) E) : RP (evalE F (.lc tg it cs e) ρ S) P E := by
  rw [evalE]
  exact RP.bind (hp.imp fun src S1 h => RP.bind (h.imp fun xs S2 h => h))
theorem rp_lcL {tg : Tg} {it : IT} {cs : List ME} {P : List D → St' → Prop} (hp : RP (evalI F it ρ S) (fun src S1 => RP (lcSrc tg (tests (evalCs F cs)) (evalE F e) src ρ S1) P E) E) : RP (evalL F (.lc tg it cs e) ρ S) P E := by
  rw [evalL]
  exact RP.bind hp
theorem rp_lstL {P : List D → St' → Prop} (hp : RP (evalEs F es ρ S) (fun vs S1 => ∃ ds S2, grabs S1 vs = some (ds, S2) ∧ ds.length ≤ sizeLine ∧ P ds S2) E) : RP (evalL F (.lst es) ρ S) P E := by
  rw [evalL]
  refine RP.bind (hp.imp fun vs S1 ⟨ds, S2, h1, h2, h3⟩ => ?_)
  rw [h1]
  simp only [h2, if_true]
  exact h3
theorem rp_catL {P : List D → St' → Prop} (hp : RP (evalE F a ρ S) (fun x S1 => RP (evalE F b ρ S1) (fun y S2 => ∃ xs ys, peek S2 x = some (.lst xs) ∧ peek S2 y = some (.lst ys) ∧ xs.length + ys.length ≤ sizeLine ∧ P (xs ++ ys) S2) E) E) : RP (evalL F (.bin .add a b) ρ S) P E := by
  rw [evalL]
  refine RP.bind (hp.imp fun x S1 h => RP.bind (h.imp fun y S2 ⟨xs, ys, h1, h2, h3, h4⟩ => RP.opt ⟨xs ++ ys, ?_, h4⟩))
  rw [h1, h2]
  simp [h3]
theorem rp_listL {P : List D → St' → Prop} (hp : RP (evalE F a ρ S) (fun x S1 => ∃ xs, (peek S1 x = some (.lst xs) ∨ peek S1 x = some (.tup xs)) ∧ P xs S1) E) : RP (evalL F (.bi .list [a]) ρ S) P E := by
  rw [evalL]
  refine RP.bind (hp.imp fun x S1 ⟨xs, h1, h2⟩ => RP.opt ⟨xs, ?_, h2⟩)
  rcases h1 with h1 | h1 <;> rw [h1] <;> rfl
end
section
variable {F : FS} {ρ : Ev} {S : St'} {a b c e : ME} {P : Po} {nx bk ct : NX} {s : MS} {ss ss' : List MS}
theorem op_nil (h : nx ρ S) : OP (execB F [] ρ S) nx bk ct P := by rw [execB]; exact h
theorem op_cons (h : OP (execS F s ρ S) (fun ρ1 S1 => OP (execB F ss ρ1 S1) nx bk ct P) bk ct P) : OP (execB F (s :: ss) ρ S) nx bk ct P := by
  rw [execB]
  exact OP.seq h
theorem op_norm {ρ' : Ev} (h : ρ = ρ') (hp : OP (execB F ss ρ' S) nx bk ct P) : OP (execB F ss ρ S) nx bk ct P := by rw [h]; exact hp
theorem op_doc (h : nx ρ S) : OP (execS F .doc ρ S) nx bk ct P := by rw [execS]; exact h
theorem op_pass (h : nx ρ S) : OP (execS F .pass ρ S) nx bk ct P := by rw [execS]; exact h
theorem op_asg {i : Nat} (h : RP (evalE F e ρ S) (fun v S1 => nx (ρ.set i (some v)) S1) fun c p S1 => P.ex c p ρ S1) : OP (execS F (.asg (.v i) e) ρ S) nx bk ct P := by
  rw [execS]
  exact OP.of (h.imp fun v S1 h => h)
theorem op_tp {is : List Nat} (h : RP (evalE F e ρ S) (fun v S1 => ∃ ds ρ', v = .t (.tup ds) ∧ setTg is ds ρ = some ρ' ∧ nx ρ' S1) fun c p S1 => P.ex c p ρ S1) : OP (execS F (.asg (.tp is) e) ρ S) nx bk ct P := by
  rw [execS]
  refine OP.of (h.imp fun v S1 ⟨ds, ρ', h1, h2, h3⟩ => ?_)
  subst h1
  unfold tpO
  simp only [h2]
  exact h3
theorem op_par {i j : Nat} (h : RP (evalE F a ρ S) (fun v S1 => RP (evalE F b ρ S1) (fun u S2 => nx ((ρ.set i (some v)).set j (some u)) S2) fun c p S1 => P.ex c p ρ S1) fun c p S1 => P.ex c p ρ S1) : OP (execS F (.par i j a b) ρ S) nx bk ct P := by
  rw [execS]
  exact OP.of (h.imp fun v S1 h => OP.of (h.imp fun u S2 h => h))
theorem op_new {i : Nat} (h : RP (evalL F e ρ S) (fun xs S1 => nx (ρ.set i (some (.o S1.length))) (S1 ++ [.lst xs])) fun c p S1 => P.ex c p ρ S1) : OP (execS F (.new i e) ρ S) nx bk ct P := by
  rw [execS]
  exact OP.of (h.imp fun v S1 h => h)
theorem op_aug {i : Nat} {o : Bn} {x : Int} (hx : ρ[i]? = some (some (.t (.int x)))) (ho : o ≠ .pow) (h : RP (evalE F e ρ S) (fun v S1 => ∃ y z, v = .t (.int y) ∧ binD o (.int x) (.int y) = some z ∧ nx (ρ.set i (some (.t z))) S1) fun c p S1 => P.ex c p ρ S1) : OP (execS F (.aug i o e) ρ S) nx bk ct P := by
  rw [execS, hx]
  refine OP.of (h.imp fun v S1 ⟨y, z, h1, h2, h3⟩ => ?_)
  subst h1
  unfold augO
  simp only [if_neg ho, h2]
  exact h3
theorem op_app {i k : Nat} {xs0 : List D} (hx : ρ[i]? = some (some (.o k))) (hS : S[k]? = some (.lst xs0)) (h : RP (evalE F e ρ S) (fun v S1 => ∃ d S2 xs S3, grab S1 v = some (d, S2) ∧ S2[k]? = some (.lst xs) ∧ xs.length < sizeLine ∧ S2.set k (.lst (xs ++ [d])) = S3 ∧ nx ρ S3) fun c p S1 => P.ex c p ρ S1) : OP (execS F (.app i e) ρ S) nx bk ct P := by
  rw [execS, hx]
  simp only [hS]
  refine OP.of (h.imp fun v S1 ⟨d, S2, xs, S3, h1, h2, h3, h5, h4⟩ => ?_)
  unfold appO
  simp only [h1, h2, h3, if_true]
  rw [h5]
  exact h4
theorem op_seti {i n : Nat} {kk : ME} (hx : ρ[i]? = some (some (.o n))) (h : RP (evalE F e ρ S) (fun v S1 => ∃ d S2, grab S1 v = some (d, S2) ∧ RP (evalE F kk ρ S2) (fun kv S3 => ∃ z xs j S4, kv = .t (.int z) ∧ S3[n]? = some (.lst xs) ∧ ixN xs.length z = some j ∧ S3.set n (.lst (xs.set j d)) = S4 ∧ nx ρ S4) fun c p S1 => P.ex c p ρ S1) fun c p S1 => P.ex c p ρ S1) : OP (execS F (.seti i kk e) ρ S) nx bk ct P := by
  rw [execS]
  refine OP.of (h.imp fun v S1 ⟨d, S2, h1, h2⟩ => ?_)
  simp only [h1, hx]
  refine OP.of (h2.imp fun kv S3 ⟨z, xs, j, S4, e1, e2, e3, e5, e4⟩ => ?_)
  subst e1
  unfold setO
  simp only [e2, e3]
  rw [e5]
  exact e4
theorem op_expr (h : RP (evalE F e ρ S) (fun v S1 => nx ρ S1) fun c p S1 => P.ex c p ρ S1) : OP (execS F (.expr e) ρ S) nx bk ct P := by
  rw [execS]
  exact OP.of (h.imp fun v S1 h => h)
theorem op_ret (h : RP (evalE F e ρ S) (fun v S1 => P.rt v S1) fun c p S1 => P.ex c p ρ S1) : OP (execS F (.ret e) ρ S) nx bk ct P := by
  rw [execS]
  exact OP.of (h.imp fun v S1 h => h)
theorem op_retN (h : P.rt (.t .non) S) : OP (execS F .retN ρ S) nx bk ct P := by rw [execS]; exact h
theorem op_ife (h : RP (evalE F c ρ S) (fun x S1 => ∃ k, truth S1 x = some k ∧ (k = true → OP (execB F ss ρ S1) nx bk ct P) ∧ (k = false → OP (execB F ss' ρ S1) nx bk ct P)) fun c p S1 => P.ex c p ρ S1) : OP (execS F (.ife c ss ss') ρ S) nx bk ct P := by
  rw [execS]
  refine OP.of (rp_tru (h.imp fun x S1 ⟨k, h1, h2, h3⟩ => ⟨k, h1, ?_⟩))
  cases k with
  | true => exact h2 rfl
  | false => exact h3 rfl
theorem op_for {tg : Tg} {it : IT} (h : RP (evalI F it ρ S) (fun src S1 => OP (forSrc tg (execB F ss) src ρ S1) nx bk ct P) fun c p S1 => P.ex c p ρ S1) : OP (execS F (.for_ tg it ss) ρ S) nx bk ct P := by
  rw [execS]
  exact OP.of (h.imp fun v S1 h => h)
/-- a for over fixed data, by what holds ahead of the items left -/
theorem op_fix {tg : Tg} {body : Ev → St' → Out} {xs : List D} (I : List D → Ev → St' → Prop) (h0 : I xs ρ S)
    (step : ∀ d ds ρ S, I (d :: ds) ρ S → ∃ ρ', bindTg tg d ρ = some ρ' ∧ OP (body ρ' S) (fun ρ2 S2 => I ds ρ2 S2) noN (fun ρ2 S2 => I ds ρ2 S2) P)
    (h1 : ∀ ρ S, I [] ρ S → nx ρ S) : OP (forSrc tg body (.fix xs) ρ S) nx bk ct P := by
  unfold forSrc
  induction xs generalizing ρ S with
  | nil => exact h1 _ _ h0
  | cons d ds ih =>
    obtain ⟨ρ', e1, h2⟩ := step d ds ρ S h0
    simp only [forFix, e1]
    revert h2
    cases body ρ' S with
    | nx ρ2 S2 => exact fun h2 => ih h2
    | ct ρ2 S2 => exact fun h2 => ih h2
    | bk ρ2 S2 => exact fun h2 => h2.elim
    | rt v S2 => exact fun h2 => h2
    | exc c p ρ2 S2 => exact fun h2 => h2
    | bad => exact fun h2 => h2
/-- .. over an object that stays as it is -/
theorem op_live {tg : Tg} {body : Ev → St' → Out} {k : Nat} {xs : List D} (I : List D → Ev → St' → Prop) (hS : S[k]? = some (.lst xs)) (h0 : I xs ρ S) (hI : ∀ ds ρ S, I ds ρ S → S[k]? = some (.lst xs))
    (step : ∀ d ds ρ S, I (d :: ds) ρ S → ∃ ρ', bindTg tg d ρ = some ρ' ∧ OP (body ρ' S) (fun ρ2 S2 => I ds ρ2 S2) noN (fun ρ2 S2 => I ds ρ2 S2) P)
    (h1 : ∀ ρ S, I [] ρ S → nx ρ S) : OP (forSrc tg body (.live k) ρ S) nx bk ct P := by
  have key : ∀ (n j : Nat) (ρ : Ev) (S : St'), j + n = xs.length → I (xs.drop j) ρ S → OP (forLive tg body k n j ρ S) nx bk ct P := by
    intro n
    induction n with
    | zero =>
      intro j ρ S hj h
      unfold forLive
      rw [hI _ _ _ h]
      simp only
      rw [List.getElem?_eq_none (by omega)]
      rw [List.drop_eq_nil_of_le (by omega)] at h
      exact h1 _ _ h
    | succ n ih =>
      intro j ρ S hj h
      have hjl : j < xs.length := by omega
      unfold forLive
      rw [hI _ _ _ h]
      simp only
      rw [List.getElem?_eq_getElem hjl]
      rw [List.drop_eq_getElem_cons hjl] at h
      obtain ⟨ρ', e1, h2⟩ := step _ _ ρ S h
      simp only [e1]
      revert h2
      cases body ρ' S with
      | nx ρ2 S2 => exact fun h2 => ih (j + 1) _ _ (by omega) h2
      | ct ρ2 S2 => exact fun h2 => ih (j + 1) _ _ (by omega) h2
      | bk ρ2 S2 => exact fun h2 => h2.elim
      | rt v S2 => exact fun h2 => h2
      | exc c p ρ2 S2 => exact fun h2 => h2
      | bad => exact fun h2 => h2
  unfold forSrc
  simp only [hS]
  exact key _ 0 ρ S (by omega) h0
end
/-- a comprehension over fixed data whose parts leave the objects alone -/
theorem rp_lcfix {tg : Tg} {c : Ev → St' → R Bool} {e : Ev → St' → R SV} {ρ : Ev} {S : St'} {P : List D → St' → Prop} {E : EX} {xs : List D} (b : D → Bool) (v : D → D) (hl : xs.length ≤ sizeLine)
    (h : ∀ d ∈ xs, ∀ acc, ∃ ρ', bindTg tg d ρ = some ρ' ∧ RP (c ρ' (S ++ [.lst acc])) (fun k S1 => k = b d ∧ S1 = S ++ [.lst acc] ∧ (k = true → RP (e ρ' (S ++ [.lst acc])) (fun x S2 => x = .t (v d) ∧ S2 = S ++ [.lst acc]) noE)) noE)
    (hp : P ((xs.filter b).map v) S) : RP (lcSrc tg c e (.fix xs) ρ S) P E := by
  unfold lcSrc
  refine RP.eq (lcFix_map (b := b) (v := v) (acc := []) (fun d hd acc => ?_) (by simpa using hl)) (by simpa using hp)
  obtain ⟨ρ', h1, h2⟩ := h d hd acc
  obtain ⟨k, S1, e1, rfl, rfl, h3⟩ := RP.get h2
  refine ⟨ρ', h1, e1, fun hb => ?_⟩
  obtain ⟨x, S2, e2, rfl, rfl⟩ := RP.get (h3 hb)
  exact e2
theorem rp_lclive {tg : Tg} {c : Ev → St' → R Bool} {e : Ev → St' → R SV} {ρ : Ev} {S : St'} {P : List D → St' → Prop} {E : EX} {xs : List D} {i : Nat} (b : D → Bool) (v : D → D) (hi : S[i]? = some (.lst xs)) (hl : xs.length ≤ sizeLine)
    (h : ∀ d ∈ xs, ∀ acc, ∃ ρ', bindTg tg d ρ = some ρ' ∧ RP (c ρ' (S ++ [.lst acc])) (fun k S1 => k = b d ∧ S1 = S ++ [.lst acc] ∧ (k = true → RP (e ρ' (S ++ [.lst acc])) (fun x S2 => x = .t (v d) ∧ S2 = S ++ [.lst acc]) noE)) noE)
    (hp : P ((xs.filter b).map v) S) : RP (lcSrc tg c e (.live i) ρ S) P E := by
  unfold lcSrc
  simp only [hi]
  refine RP.eq (lcLive_map (b := b) (v := v) hi (fun d hd acc => ?_) xs.length 0 [] (by omega) (by simpa using hl)) (by simpa using hp)
  obtain ⟨ρ', h1, h2⟩ := h d hd acc
  obtain ⟨k, S1, e1, rfl, rfl, h3⟩ := RP.get h2
  refine ⟨ρ', h1, e1, fun hb => ?_⟩
  obtain ⟨x, S2, e2, rfl, rfl⟩ := RP.get (h3 hb)
  exact e2
theorem rp_t0 {F : FS} {ρ : Ev} {S : St'} {P : Bool → St' → Prop} {E : EX} (h : P true S) : RP (tests (evalCs F []) ρ S) P E := by rw [evalCs, tests]; exact h
theorem rp_t1 {F : FS} {ρ : Ev} {S : St'} {P : Bool → St' → Prop} {E : EX} {e : ME} (h : RP (evalE F e ρ S) (fun x S1 => ∃ k, truth S1 x = some k ∧ P k S1) E) : RP (tests (evalCs F [e]) ρ S) P E := by
  rw [evalCs, tests]
  exact rp_tru h
/-- the slots at a call's begin -/
def pad : List SV → Nat → Ev
  | _, 0 => []
  | [], n + 1 => none :: pad [] n
  | v :: vs, n + 1 => some v :: pad vs n
theorem pad_eq : ∀ (vs : List SV) (n : Nat), vs.length ≤ n → vs.map some ++ List.replicate (n - vs.length) none = pad vs n
  | [], 0, _ => rfl
  | v :: vs, 0, h => by simp at h
  | [], n + 1, _ => by
    rw [pad, ← pad_eq [] n (Nat.zero_le _)]
    simp [List.replicate_succ]
  | v :: vs, n + 1, h => by
    simp only [List.length_cons] at h
    rw [pad, ← pad_eq vs n (by omega)]
    simp
/-- a call -/
theorem rp_fn {T : List Fn} {i n : Nat} {f : Fn} {vs : List SV} {S : St'} {P : SV → St' → Prop} {E : EX} (hT : T[i]? = some f) (hl : vs.length = f.ar) (hs : Nat.ble f.ar f.sl = true)
    (h : OP (execB (FT T n) f.body (pad vs f.sl) S) (fun _ S' => P (.t .non) (S'.take S.length)) noN noN { rt := fun v S' => RP (finish S.length v S') P E, ex := fun c p _ S' => E c p (S'.take S.length) }) : RP (FT T (n + 1) i vs S) P E := by
  rw [FT_at hT]
  unfold callF
  rw [if_pos hl, pad_eq _ _ (by rw [hl]; exact Nat.le_of_ble_eq_true hs)]
  revert h
  cases execB (FT T n) f.body (pad vs f.sl) S with
  | nx ρ2 S2 => exact fun h2 => h2
  | ct ρ2 S2 => exact fun h2 => h2
  | bk ρ2 S2 => exact fun h2 => h2
  | rt v S2 => exact fun h2 => h2
  | exc c p ρ2 S2 => exact fun h2 => h2
  | bad => exact fun h2 => h2
theorem fin0 {S : St'} {d : D} {P : SV → St' → Prop} {E : EX} (h : P (.t d) S) : RP (finish S.length (.t d) S) P E := by
  unfold finish; rw [List.take_length]; exact h
theorem fin1 {S : St'} {d : D} {o : O} {P : SV → St' → Prop} {E : EX} (h : P (.t d) S) : RP (finish S.length (.t d) (S ++ [o])) P E := by
  unfold finish; simp only [List.take_left]; exact h
theorem fin2 {S : St'} {d : D} {o u : O} {P : SV → St' → Prop} {E : EX} (h : P (.t d) S) : RP (finish S.length (.t d) ((S ++ [o]) ++ [u])) P E := by
  unfold finish; simp only [List.append_assoc, List.take_left]; exact h
theorem fino1 {S : St'} {xs : List D} {P : SV → St' → Prop} {E : EX} (h : P (.t (.lst xs)) S) : RP (finish S.length (.o S.length) (S ++ [.lst xs])) P E := by
  unfold finish; simp only [Nat.lt_irrefl, if_false, st_get, List.take_left]; exact h
theorem rp_finU {S S' : St'} {P : SV → St' → Prop} {E : EX} (h : P (.t .non) S) (e : S'.take S.length = S) : P (.t .non) (S'.take S.length) := by rw [e]; exact h
theorem le_sz {n : Nat} (h : Nat.ble n 16777216 = true) : n ≤ sizeLine := by
  have := Nat.le_of_ble_eq_true h
  have e : sizeLine = 16777216 := by decide +kernel
  omega
theorem lt_sz {n : Nat} (h : n < 16777216) : n < sizeLine := by
  have e : sizeLine = 16777216 := by decide +kernel
  omega
theorem le_sz' {n : Nat} (h : n ≤ 16777216) : n ≤ sizeLine := by
  have e : sizeLine = 16777216 := by decide +kernel
  omega
/-- [e for x in xs if c], the items being f y -/
theorem rp_lcF {α : Type} {F : FS} {tg : Tg} {cs : List ME} {e : ME} {ρ : Ev} {S : St'} {P : List D → St' → Prop} {E : EX} {ys : List α} (f : α → D) (b : α → Bool) (g : α → D) (hl : ys.length ≤ 16777216)
    (h : ∀ y ∈ ys, ∀ acc, ∃ ρ', bindTg tg (f y) ρ = some ρ' ∧ RP (tests (evalCs F cs) ρ' (S ++ [.lst acc])) (fun k S1 => k = b y ∧ S1 = S ++ [.lst acc] ∧ (k = true → RP (evalE F e ρ' (S ++ [.lst acc])) (fun x S2 => x = .t (g y) ∧ S2 = S ++ [.lst acc]) noE)) noE)
    (hp : P ((ys.filter b).map g) S) : RP (lcSrc tg (tests (evalCs F cs)) (evalE F e) (.fix (ys.map f)) ρ S) P E := by
  have key : ∀ (ys : List α) (acc : List D), (∀ y ∈ ys, ∀ acc, ∃ ρ', bindTg tg (f y) ρ = some ρ' ∧ RP (tests (evalCs F cs) ρ' (S ++ [.lst acc])) (fun k S1 => k = b y ∧ S1 = S ++ [.lst acc] ∧ (k = true → RP (evalE F e ρ' (S ++ [.lst acc])) (fun x S2 => x = .t (g y) ∧ S2 = S ++ [.lst acc]) noE)) noE) → acc.length + ys.length ≤ 16777216 → lcFix tg (tests (evalCs F cs)) (evalE F e) S.length (ys.map f) ρ (S ++ [.lst acc]) = .ok (acc ++ (ys.filter b).map g) S := by
    intro ys
    induction ys with
    | nil => intro acc _ _; simp [lcFix, lcEnd]
    | cons y ys ih =>
      intro acc h hl
      obtain ⟨ρ', h1, h2⟩ := h y List.mem_cons_self acc
      obtain ⟨k, S1, e1, rfl, rfl, h3⟩ := RP.get h2
      simp only [List.length_cons] at hl
      rw [List.map_cons, lcFix, lcTurn, h1]
      simp only [e1, R.nox_ok, R.bind_ok]
      cases hb : b y with
      | true =>
        obtain ⟨x, S2, e2, rfl, rfl⟩ := RP.get (h3 hb)
        simp only [e2, R.nox_ok, R.bind_ok, lcPut, grab, if_true, st_get]
        have hlt : acc.length < sizeLine := lt_sz (by omega)
        simp only [hlt, if_true, R.bind_ok, st_set]
        rw [ih _ (fun y hy => h y (List.mem_cons_of_mem _ hy)) (by simp; omega)]
        rw [List.filter_cons_of_pos hb, List.map_cons, List.append_assoc, List.singleton_append]
      | false =>
        simp only [Bool.false_eq_true, if_false, R.bind_ok]
        rw [ih _ (fun y hy => h y (List.mem_cons_of_mem _ hy)) (by omega)]
        rw [List.filter_cons_of_neg (by simp [hb])]
  unfold lcSrc
  exact RP.eq (key ys [] h (by simpa using hl)) (by simpa using hp)
/-- [e for x in xs] -/
theorem rp_lcM {α : Type} {F : FS} {tg : Tg} {e : ME} {ρ : Ev} {S : St'} {P : List D → St' → Prop} {E : EX} {ys : List α} (f g : α → D) (hl : ys.length ≤ 16777216)
    (h : ∀ y ∈ ys, ∀ acc, ∃ ρ', bindTg tg (f y) ρ = some ρ' ∧ RP (evalE F e ρ' (S ++ [.lst acc])) (fun x S2 => x = .t (g y) ∧ S2 = S ++ [.lst acc]) noE)
    (hp : P (ys.map g) S) : RP (lcSrc tg (tests (evalCs F [])) (evalE F e) (.fix (ys.map f)) ρ S) P E := by
  refine rp_lcF f (fun _ => true) g hl (fun y hy acc => ?_) ?_
  · obtain ⟨ρ', h1, h2⟩ := h y hy acc
    exact ⟨ρ', h1, rp_t0 ⟨rfl, rfl, fun _ => h2⟩⟩
  · rw [List.filter_eq_self.mpr fun _ _ => rfl]
    exact hp
/-- .. over an object -/
theorem rp_lcV {α : Type} {F : FS} {tg : Tg} {e : ME} {ρ : Ev} {S : St'} {P : List D → St' → Prop} {E : EX} {ys : List α} {i : Nat} (f g : α → D) (hi : S[i]? = some (.lst (ys.map f))) (hl : ys.length ≤ 16777216)
    (h : ∀ y ∈ ys, ∀ acc, ∃ ρ', bindTg tg (f y) ρ = some ρ' ∧ RP (evalE F e ρ' (S ++ [.lst acc])) (fun x S2 => x = .t (g y) ∧ S2 = S ++ [.lst acc]) noE)
    (hp : P (ys.map g) S) : RP (lcSrc tg (tests (evalCs F [])) (evalE F e) (.live i) ρ S) P E := by
  have hil : i < S.length := (List.getElem?_eq_some_iff.mp hi).1
  have key : ∀ (n j : Nat) (acc : List D), j + n = ys.length → acc.length + n ≤ 16777216 → lcLive tg (fun _ S => R.ok true S) (evalE F e) S.length i n j ρ (S ++ [.lst acc]) = .ok (acc ++ (ys.drop j).map g) S := by
    intro n
    induction n with
    | zero =>
      intro j acc hj _
      unfold lcLive
      rw [List.getElem?_append_left hil, hi]
      simp only
      rw [List.getElem?_eq_none (by simp; omega), List.drop_eq_nil_of_le (by omega)]
      simp [lcEnd]
    | succ n ih =>
      intro j acc hj hl
      have hjl : j < ys.length := by omega
      obtain ⟨ρ', h1, h2⟩ := h ys[j] (List.getElem_mem hjl) acc
      obtain ⟨x, S2, e2, rfl, rfl⟩ := RP.get h2
      unfold lcLive
      rw [List.getElem?_append_left hil, hi]
      simp only
      rw [List.getElem?_map, List.getElem?_eq_getElem hjl]
      simp only [Option.map_some, lcTurn, h1, R.nox_ok, R.bind_ok, if_true, e2, lcPut, grab, st_get]
      have hlt : acc.length < sizeLine := lt_sz (by omega)
      simp only [hlt, if_true, R.bind_ok, st_set]
      rw [ih (j + 1) _ (by omega) (by simp; omega), List.drop_eq_getElem_cons hjl]
      simp only [List.map_cons, List.append_assoc, List.cons_append, List.nil_append]
  have ht : tests (evalCs F []) = fun _ S => R.ok true S := by rw [evalCs, tests]
  rw [ht]
  unfold lcSrc
  simp only [hi]
  exact RP.eq (by rw [List.length_map]; exact key ys.length 0 [] (by omega) (by simpa using hl)) (by simpa using hp)
def fz2 (f : Fz) (S : St') (vs : List SV) : Option D := (peeks S vs).bind (fzD f)
theorem rp_fz {F : FS} {ρ : Ev} {S : St'} {P : SV → St' → Prop} {E : EX} {f : Fz} {es : List ME} (hp : RP (evalEs F es ρ S) (fun vs S1 => ∃ r, fz2 f S1 vs = some r ∧ P (.t r) S1) E) : RP (evalE F (.fz f es) ρ S) P E := by
  rw [evalE]
  refine RP.bind (hp.imp fun vs S1 ⟨r, h1, h2⟩ => RP.opt ⟨.t r, ?_, h2⟩)
  unfold fz2 at h1
  obtain ⟨d, e1, h1⟩ := Option.bind_eq_some_iff.mp h1
  rw [e1, Option.bind_some, h1]; rfl
theorem src_live {S : St'} {xs : List D} : srcOf (S ++ [.lst xs]) (.o S.length) = some (.live S.length) := by simp only [srcOf, st_get]
theorem bi_live {b : Bi} {S : St'} {xs : List D} {r : D} (h : biD b [.lst xs] = some r) : bi2 b (S ++ [.lst xs]) [.o S.length] = some r := by
  simp only [bi2, peeks, peek, st_get, Option.map_some, Option.bind_some, h]
theorem rngOk_in {i : Int} (h0 : -4611686018427387904 ≤ i) (h1 : i < 4611686018427387904) : rngOk i = true := by
  unfold rngOk
  exact decide_eq_true ⟨h0, h1⟩
/-- as a test -/
def RT (r : R SV) (Pt Pf : St' → Prop) (E : EX) : Prop := RP r (fun x S1 => ∃ k, truth S1 x = some k ∧ (k = true → Pt S1) ∧ (k = false → Pf S1)) E
section
variable {F : FS} {ρ : Ev} {S : St'} {a b c e : ME} {Pt Pf : St' → Prop} {E : EX}
theorem rt_of (h : RP (evalE F a ρ S) (fun x S1 => ∃ k, truth S1 x = some k ∧ (k = true → Pt S1) ∧ (k = false → Pf S1)) E) : RT (evalE F a ρ S) Pt Pf E := h
theorem rt_and (h : RT (evalE F a ρ S) (fun S1 => RT (evalE F b ρ S1) Pt Pf E) Pf E) : RT (evalE F (.and a b) ρ S) Pt Pf E :=
  rp_and (RP.imp h fun x S1 ⟨k, h1, h2, h3⟩ => ⟨k, h1, h2, fun hk => ⟨k, h1, fun z => (by rw [hk] at z; cases z), h3⟩⟩)
theorem rt_or (h : RT (evalE F a ρ S) Pt (fun S1 => RT (evalE F b ρ S1) Pt Pf E) E) : RT (evalE F (.or a b) ρ S) Pt Pf E :=
  rp_or (RP.imp h fun x S1 ⟨k, h1, h2, h3⟩ => ⟨k, h1, fun hk => ⟨k, h1, h2, fun z => (by rw [hk] at z; cases z)⟩, h3⟩)
theorem rt_not (h : RT (evalE F a ρ S) Pf Pt E) : RT (evalE F (.not a) ρ S) Pt Pf E :=
  rp_not (RP.imp h fun x S1 ⟨k, h1, h2, h3⟩ => ⟨k, h1, !k, rfl, fun z => h3 (by simpa using z), fun z => h2 (by simpa using z)⟩)
theorem op_ifT {ss ss' : List MS} {P : Po} {nx bk ct : NX} (h : RT (evalE F c ρ S) (fun S1 => OP (execB F ss ρ S1) nx bk ct P) (fun S1 => OP (execB F ss' ρ S1) nx bk ct P) fun c p S1 => P.ex c p ρ S1) : OP (execS F (.ife c ss ss') ρ S) nx bk ct P := op_ife h
theorem rp_ifT {P : SV → St' → Prop} (h : RT (evalE F c ρ S) (fun S1 => RP (evalE F a ρ S1) P E) (fun S1 => RP (evalE F b ρ S1) P E) E) : RP (evalE F (.ife c a b) ρ S) P E := rp_ife h
end
/-! which kind of goal it is: the rules of one kind are tried for that kind alone -/
section
variable {F : FS} {ρ : Ev} {S : St'} {E : EX} {nx bk ct : NX} {Q : Po}
theorem gE {P : SV → St' → Prop} {e : ME} (h : RP (evalE F e ρ S) P E) : RP (evalE F e ρ S) P E := h
theorem gEs {P : List SV → St' → Prop} {es : List ME} (h : RP (evalEs F es ρ S) P E) : RP (evalEs F es ρ S) P E := h
theorem gP {P : Option Int → St' → Prop} {es : List ME} (h : RP (evalP F es ρ S) P E) : RP (evalP F es ρ S) P E := h
theorem gI {P : Src → St' → Prop} {it : IT} (h : RP (evalI F it ρ S) P E) : RP (evalI F it ρ S) P E := h
theorem gL {P : List D → St' → Prop} {e : ME} (h : RP (evalL F e ρ S) P E) : RP (evalL F e ρ S) P E := h
theorem gR {r : R SV} {Pt Pf : St' → Prop} (h : RT r Pt Pf E) : RT r Pt Pf E := h
theorem gB {ss : List MS} (h : OP (execB F ss ρ S) nx bk ct Q) : OP (execB F ss ρ S) nx bk ct Q := h
theorem gS {s : MS} (h : OP (execS F s ρ S) nx bk ct Q) : OP (execS F s ρ S) nx bk ct Q := h
theorem gF {P : SV → St' → Prop} {n : Nat} {v : SV} (h : RP (finish n v S) P E) : RP (finish n v S) P E := h
end
end M

/-! records, dicts, struck texts: what a run comes to -/
namespace M
open PySem PySem.Spec PyProof.Rows L2
section
variable {F : FS} {ρ : Ev} {S : St'} {a b c e w : ME} {es : List ME} {P : SV → St' → Prop} {E : EX}
theorem rp_att {f : Str} (hp : RP (evalE F a ρ S) (fun x S1 => ∃ v, attV x f = some v ∧ P v S1) E) : RP (evalE F (.att a f) ρ S) P E := by
  rw [evalE]
  exact RP.bind (hp.imp fun x S1 ⟨v, h1, h2⟩ => RP.opt ⟨v, h1, h2⟩)
theorem rp_mk {c : Str} {ns : List Str} (hp : RP (evalEs F es ρ S) (fun vs S1 => vs.length = ns.length ∧ P (.ins c ns vs) S1) E) : RP (evalE F (.mk c ns es) ρ S) P E := by
  rw [evalE]
  refine RP.bind (hp.imp fun vs S1 ⟨h1, h2⟩ => ?_)
  rw [if_pos h1]
  exact h2
theorem rp_dget {i : ME} (hp : RP (evalE F a ρ S) (fun x S1 => RP (evalE F i ρ S1) (fun y S2 => ∃ v, dgetV S2 x y = some v ∧ P v S2) E) E) : RP (evalE F (.dget a i) ρ S) P E := by
  rw [evalE]
  exact RP.bind (hp.imp fun x S1 h => RP.bind (h.imp fun y S2 ⟨v, h1, h2⟩ => RP.opt ⟨v, h1, h2⟩))
theorem rp_din {neg : Bool} {i : ME} (hp : RP (evalE F i ρ S) (fun y S1 => RP (evalE F a ρ S1) (fun x S2 => ∃ v, dinV S2 neg y x = some v ∧ P v S2) E) E) : RP (evalE F (.din neg i a) ρ S) P E := by
  rw [evalE]
  exact RP.bind (hp.imp fun x S1 h => RP.bind (h.imp fun y S2 ⟨v, h1, h2⟩ => RP.opt ⟨v, h1, h2⟩))
def gdgetV (kvs : List (Str × D)) (y : SV) : Option SV := (strV y).bind fun z => (kvs.lookup z).map .t
def gdinV (neg : Bool) (kvs : List (Str × D)) (y : SV) : Option SV := (strV y).map fun z => .t (.bl (xor neg (kvs.lookup z).isSome))
theorem rp_gdget {x : Str} {kvs : List (Str × D)} {i : ME} (hp : RP (evalE F i ρ S) (fun y S1 => ∃ v, gdgetV kvs y = some v ∧ P v S1) E) : RP (evalE F (.gdget x kvs i) ρ S) P E := by
  rw [evalE]
  exact RP.bind (hp.imp fun y S1 ⟨v, h1, h2⟩ => RP.opt ⟨v, h1, h2⟩)
theorem rp_gdin {neg : Bool} {x : Str} {kvs : List (Str × D)} {i : ME} (hp : RP (evalE F i ρ S) (fun y S1 => ∃ v, gdinV neg kvs y = some v ∧ P v S1) E) : RP (evalE F (.gdin neg x kvs i) ρ S) P E := by
  rw [evalE]
  exact RP.bind (hp.imp fun y S1 ⟨v, h1, h2⟩ => RP.opt ⟨v, h1, h2⟩)
theorem rp_callR {f : Nat} {y z : Str} (hp : RP (evalEs F es ρ S) (fun vs S1 => RP (evalE F w ρ S1) (fun v S2 => ∃ u, replV v y z = some u ∧ RP (F f (vs ++ [u]) S2) P E) E) E) : RP (evalE F (.callR f es w y z) ρ S) P E := by
  rw [evalE]
  refine RP.bind (hp.imp fun vs S1 h => RP.bind (h.imp fun v S2 ⟨u, h1, h2⟩ => RP.bind ?_))
  rw [h1, R.opt_some]
  exact h2
theorem rp_zips {P : Src → St' → Prop} (hp : RP (evalE F a ρ S) (fun v S1 => RP (evalE F b ρ S1) (fun u S2 => ∃ x ys, v = .t (.str x) ∧ u = .t (.tup ys) ∧ P (.fix (zipD (x.cps.toList.map fun c => .str ⟨#[c]⟩) ys)) S2) E) E) : RP (evalI F (.zips a b) ρ S) P E := by
  rw [evalI]
  refine RP.bind (hp.imp fun v S1 h => RP.bind (h.imp fun u S2 ⟨xs, ys, h1, h2, h3⟩ => ?_))
  subst h1; subst h2
  exact h3
end
section
variable {F : FS} {ρ : Ev} {S : St'} {a b c e : ME} {es : List ME} {P : Po} {nx bk ct : NX}
theorem op_newk {i : Nat} {ks : List Str} (h : RP (evalEs F es ρ (S ++ [.dk []])) (fun vs S1 => ∃ ρ' S2, newkO ρ i S.length ks vs S1 = .nx ρ' S2 ∧ nx ρ' S2) fun c p S1 => P.ex c p ρ S1) : OP (execS F (.newk i ks es) ρ S) nx bk ct P := by
  rw [execS]
  refine OP.of (h.imp fun vs S1 ⟨ρ', S2, h1, h2⟩ => ?_)
  rw [h1]
  exact h2
theorem op_putk {i n : Nat} {kk : ME} (hx : ρ[i]? = some (some (.o n))) (h : RP (evalE F e ρ S) (fun v S1 => ∃ d S2, grab S1 v = some (d, S2) ∧ RP (evalE F kk ρ S2) (fun kv S3 => ∃ S4, putkO ρ n d kv S3 = .nx ρ S4 ∧ nx ρ S4) fun c p S1 => P.ex c p ρ S1) fun c p S1 => P.ex c p ρ S1) : OP (execS F (.putk i kk e) ρ S) nx bk ct P := by
  rw [execS]
  refine OP.of (h.imp fun v S1 ⟨d, S2, h1, h2⟩ => ?_)
  simp only [h1, hx]
  refine OP.of (h2.imp fun kv S3 ⟨S4, e1, e2⟩ => ?_)
  rw [e1]
  exact e2
theorem op_newd {i : Nat} (h : nx (ρ.set i (some (.o S.length))) (S ++ [.dt []])) : OP (execS F (.newd i) ρ S) nx bk ct P := by
  rw [execS]
  exact h
theorem op_putd {i n : Nat} {kk : ME} (hx : ρ[i]? = some (some (.o n))) (h : RP (evalE F e ρ S) (fun v S1 => ∃ d S2, grab S1 v = some (d, S2) ∧ RP (evalE F kk ρ S2) (fun kv S3 => ∃ S4, putO ρ n d kv S3 = .nx ρ S4 ∧ nx ρ S4) fun c p S1 => P.ex c p ρ S1) fun c p S1 => P.ex c p ρ S1) : OP (execS F (.putd i kk e) ρ S) nx bk ct P := by
  rw [execS]
  refine OP.of (h.imp fun v S1 ⟨d, S2, h1, h2⟩ => ?_)
  simp only [h1, hx]
  refine OP.of (h2.imp fun kv S3 ⟨S4, e1, e2⟩ => ?_)
  rw [e1]
  exact e2
end
/-- two facts of one run -/
theorem RP.both {α : Type} {r : R α} {P Q : α → St' → Prop} (h1 : RP r P noE) (h2 : RP r Q noE) : RP r (fun a S => P a S ∧ Q a S) noE := by
  cases r with
  | ok a S => exact ⟨h1, h2⟩
  | exc c p S => exact h1
  | bad => exact h1
/-- len({e for ..}): what its source is, then what was added -/
theorem rp_lensc {F : FS} {ρ : Ev} {S : St'} {P : SV → St' → Prop} {E : EX} {e : ME} {tg : Tg} {it : IT} {cs : List ME} (hp : RP (evalI F it ρ S) (fun src S1 => RP (scSrc tg (tests (evalCs F cs)) (evalE F e) src ρ S1) (fun ks S2 => P (.t (.int ((dset ks).length : Nat))) S2) E) E) : RP (evalE F (.lensc tg it cs e) ρ S) P E := by
  rw [evalE]
  exact RP.bind (hp.imp fun src S1 h => RP.bind (h.imp fun xs S2 h => h))
theorem rp_rev {F : FS} {ρ : Ev} {S : St'} {P : SV → St' → Prop} {E : EX} {a : ME} (hp : RP (evalE F a ρ S) (fun x S1 => ∃ xs, peek S1 x = some (.lst xs) ∧ P (.t (.lst xs.reverse)) S1) E) : RP (evalE F (.rev a) ρ S) P E := by
  rw [evalE]
  refine RP.bind (hp.imp fun x S1 ⟨xs, h1, h2⟩ => ?_)
  rw [h1]
  exact h2
theorem ints_k (k : List Int) : asInts (k.map D.int) = some k := by
  induction k with
  | nil => rfl
  | cons i k ih => rw [List.map_cons, asInts, ih]; rfl
theorem rp_scM {α : Type} {F : FS} {tg : Tg} {e : ME} {ρ : Ev} {S : St'} {P : List (List Int) → St' → Prop} {E : EX} {ys : List α} (f : α → D) (k : α → List Int) (hl : ys.length ≤ 62)
    (h : ∀ y ∈ ys, ∃ ρ', bindTg tg (f y) ρ = some ρ' ∧ RP (evalE F e ρ' S) (fun x S2 => x = .t (.tup ((k y).map D.int)) ∧ S2 = S) noE)
    (hp : P (ys.map k) S) : RP (scSrc tg (tests (evalCs F [])) (evalE F e) (.fix (ys.map f)) ρ S) P E := by
  have key : ∀ (ys : List α) (acc : List (List Int)), (∀ y ∈ ys, ∃ ρ', bindTg tg (f y) ρ = some ρ' ∧ RP (evalE F e ρ' S) (fun x S2 => x = .t (.tup ((k y).map D.int)) ∧ S2 = S) noE) → acc.length + ys.length ≤ 62 → scFix tg (tests (evalCs F [])) (evalE F e) (ys.map f) acc ρ S = .ok (acc ++ ys.map k) S := by
    intro ys
    induction ys with
    | nil => intro acc _ _; simp [scFix]
    | cons y ys ih =>
      intro acc h hl
      obtain ⟨ρ', h1, h2⟩ := h y List.mem_cons_self
      obtain ⟨x, S2, e2, rfl, rfl⟩ := RP.get h2
      simp only [List.length_cons] at hl
      have hlt : acc.length + 1 < 64 := by omega
      rw [List.map_cons, scFix, scTurn, h1]
      simp only [evalCs, tests, R.nox_ok, R.bind_ok, if_true, e2, scAdd, ints_k, hlt]
      have := ih (acc ++ [k y]) (fun y hy => h y (List.mem_cons_of_mem _ hy)) (by simp; omega)
      simp only [evalCs, tests] at this
      rw [this]
      simp
  unfold scSrc
  exact RP.eq (key ys [] h (by simpa using hl)) (by simpa using hp)
theorem rp_dvals {F : FS} {ρ : Ev} {S : St'} {P : SV → St' → Prop} {E : EX} {i j n : Nat} {kvs : List (List Key × D)} (hx : ρ[i]? = some (some (.o n))) (hS : S[n]? = some (.dt kvs)) (hl : kvs.length < 16777216) (h : P (.t (.lst (kvs.map (·.2)))) S) : RP (evalE F (.dvals i j) ρ S) P E := by
  rw [evalE, hx]
  simp only [hS, lt_sz hl, if_true]
  exact h
end M

local macro_rules
  | `(tactic| exists $es,*) => do
    let h := Lean.mkIdent `h
    let ft := Lean.mkIdent `M.f_t
    let tf := Lean.mkIdent `M.t_f
    let wq := es.getElems[0]!.raw.isNatLit? == some 1
    let mut rules : Array (Lean.TSyntax ``Lean.Parser.Tactic.tacticSeq) := #[]
    let mut facts : Array (Lean.TSyntax ``Lean.Parser.Tactic.tacticSeq) := #[]
    for e in es.getElems.extract 1 es.getElems.size do
      match e with
      | `(no_index $r) => rules := rules.push (← `(Lean.Parser.Tactic.tacticSeq| refine $r))
      | _ => facts := facts.push (← `(Lean.Parser.Tactic.tacticSeq| refine ⟨_, $e, ?_⟩))
    let kinds : Array (Lean.TSyntax ``Lean.Parser.Tactic.tacticSeq) := #[← `(Lean.Parser.Tactic.tacticSeq| (with_reducible refine M.gE ?_; first | with_reducible refine M.rp_var (by with_unfolding_all rfl) ?_ | with_reducible refine M.rp_lit ?_ | with_reducible refine M.rp_idx ?_ | with_reducible refine M.rp_call ?_ | with_reducible refine M.rp_bin ?_ | with_reducible refine M.rp_cmp ?_ | with_reducible refine M.rp_bi ?_ | with_reducible refine M.rp_glb ?_ | with_reducible refine M.rp_slc ?_ | with_reducible refine M.rp_and ?_ | with_reducible refine M.rp_or ?_ | with_reducible refine M.rp_not ?_ | with_reducible refine M.rp_tup ?_ | with_reducible refine M.rp_isi ?_ | with_reducible refine M.rp_lst ?_ | with_reducible refine M.rp_lc ?_ | with_reducible refine M.rp_ifT ?_ | with_reducible refine M.rp_isit ?_ | with_reducible refine M.rp_mth ?_ | with_reducible refine M.rp_cmp2 ?_ | with_reducible refine M.rp_neg ?_ | with_reducible refine M.rp_fz ?_ | with_reducible refine M.rp_lensc ?_ | with_reducible refine M.rp_rev ?_ | with_reducible refine M.rp_att ?_ | with_reducible refine M.rp_mk ?_ | with_reducible refine M.rp_dget ?_ | with_reducible refine M.rp_din ?_ | with_reducible refine M.rp_gdget ?_ | with_reducible refine M.rp_gdin ?_ | with_reducible refine M.rp_callR ?_)),
      ← `(Lean.Parser.Tactic.tacticSeq| (with_reducible refine M.gEs ?_; first | with_reducible refine M.rp_cons ?_ | with_reducible refine M.rp_nil ?_)),
      ← `(Lean.Parser.Tactic.tacticSeq| (with_reducible refine M.gR ?_; first | with_reducible refine M.rt_and ?_ | with_reducible refine M.rt_or ?_ | with_reducible refine M.rt_not ?_ | with_reducible refine M.rt_of ?_)),
      ← `(Lean.Parser.Tactic.tacticSeq| (with_reducible refine M.gB ?_; first | with_reducible refine M.op_nil ?_ | with_reducible refine M.op_norm (by simp only [List.set_cons_succ, List.set_cons_zero, List.map_cons, List.map_nil, List.cons_append, List.nil_append]; rfl) (M.op_cons ?_) | with_reducible refine M.op_cons ?_)),
      ← `(Lean.Parser.Tactic.tacticSeq| (with_reducible refine M.gS ?_; first | with_reducible refine M.op_asg ?_ | with_reducible refine M.op_ifT ?_ | with_reducible refine M.op_ret ?_ | with_reducible refine M.op_new ?_ | with_reducible refine M.op_app (by with_unfolding_all rfl) (by first | exact M.st_get | exact M.st_get2) ?_ | with_reducible refine M.op_for ?_ | with_reducible refine M.op_aug (by with_unfolding_all rfl) (by decide) ?_ | with_reducible refine M.op_par ?_ | with_reducible refine M.op_tp ?_ | with_reducible refine M.op_seti (by with_unfolding_all rfl) ?_ | with_reducible refine M.op_expr ?_ | with_reducible refine M.op_newk ?_ | with_reducible refine M.op_putk (by with_unfolding_all rfl) ?_ | with_reducible refine M.op_doc ?_ | with_reducible refine M.op_pass ?_ | with_reducible refine M.op_retN ?_)),
      ← `(Lean.Parser.Tactic.tacticSeq| (with_reducible refine M.gP ?_; first | with_reducible refine M.rp_p0 ?_ | with_reducible refine M.rp_p1 ?_)),
      ← `(Lean.Parser.Tactic.tacticSeq| (with_reducible refine M.gI ?_; first | with_reducible refine M.rp_of ?_ | with_reducible refine M.rp_r1 ?_ | with_reducible refine M.rp_r2 ?_ | with_reducible refine M.rp_enum ?_ | with_reducible refine M.rp_zip ?_ | with_reducible refine M.rp_zips ?_)),
      ← `(Lean.Parser.Tactic.tacticSeq| (with_reducible refine M.gL ?_; first | with_reducible refine M.rp_lcL ?_ | with_reducible refine M.rp_lstL ?_ | with_reducible refine M.rp_catL ?_ | with_reducible refine M.rp_listL ?_)),
      ← `(Lean.Parser.Tactic.tacticSeq| (with_reducible refine M.gF ?_; first | with_reducible refine M.fin0 ?_ | with_reducible refine M.fin1 ?_ | with_reducible refine M.fino1 ?_ | with_reducible refine M.fin2 ?_)),
      ← `(Lean.Parser.Tactic.tacticSeq| with_reducible refine M.rp_t0 ?_),
      ← `(Lean.Parser.Tactic.tacticSeq| with_reducible refine M.rp_t1 ?_)]
    let ends : Array (Lean.TSyntax ``Lean.Parser.Tactic.tacticSeq) ← if wq then pure #[← `(Lean.Parser.Tactic.tacticSeq| refine ⟨_, _, _, _, rfl, M.st_get, M.lt_sz (by first | omega | (simp only [List.length_map, List.length_append, List.length_cons, List.length_nil]; omega)), M.st_set, ?_⟩),
      ← `(Lean.Parser.Tactic.tacticSeq| refine ⟨_, rfl, M.rngOk_in (by omega) (by omega), ?_⟩),
      ← `(Lean.Parser.Tactic.tacticSeq| refine ⟨_, M.src_live, ?_⟩),
      ← `(Lean.Parser.Tactic.tacticSeq| refine ⟨_, M.bi_live rfl, ?_⟩),
      ← `(Lean.Parser.Tactic.tacticSeq| (refine ⟨_, rfl, fun $h:ident => ?_, fun $h:ident => ?_⟩ <;> try (first | exact absurd $h:ident (by decide) | exact ($ft:ident $h:ident).elim | exact ($tf:ident $h:ident).elim))),
      ← `(Lean.Parser.Tactic.tacticSeq| refine ⟨_, rfl, ?_⟩),
      ← `(Lean.Parser.Tactic.tacticSeq| refine ⟨_, if_pos (by first | assumption | omega), ?_⟩),
      ← `(Lean.Parser.Tactic.tacticSeq| refine ⟨_, _, rfl, M.le_sz rfl, ?_⟩),
      ← `(Lean.Parser.Tactic.tacticSeq| refine ⟨_, _, rfl, rfl, ?_⟩),
      ← `(Lean.Parser.Tactic.tacticSeq| refine ⟨_, _, rfl, if_pos (by first | assumption | omega), ?_⟩),
      ← `(Lean.Parser.Tactic.tacticSeq| refine ⟨_, rfl, rfl, ?_⟩),
      ← `(Lean.Parser.Tactic.tacticSeq| refine ⟨rfl, ?_⟩),
      ← `(Lean.Parser.Tactic.tacticSeq| exact rfl),
      ← `(Lean.Parser.Tactic.tacticSeq| dsimp only)] else pure #[← `(Lean.Parser.Tactic.tacticSeq| refine ⟨_, _, _, _, rfl, M.st_get, M.lt_sz (by first | omega | (simp only [List.length_map, List.length_append, List.length_cons, List.length_nil]; omega)), M.st_set, ?_⟩),
      ← `(Lean.Parser.Tactic.tacticSeq| refine ⟨_, rfl, M.rngOk_in (by omega) (by omega), ?_⟩),
      ← `(Lean.Parser.Tactic.tacticSeq| refine ⟨_, M.src_live, ?_⟩),
      ← `(Lean.Parser.Tactic.tacticSeq| refine ⟨_, M.bi_live rfl, ?_⟩),
      ← `(Lean.Parser.Tactic.tacticSeq| (refine ⟨_, rfl, fun $h:ident => ?_, fun $h:ident => ?_⟩ <;> try (exact absurd $h:ident (by decide)))),
      ← `(Lean.Parser.Tactic.tacticSeq| refine ⟨_, rfl, ?_⟩),
      ← `(Lean.Parser.Tactic.tacticSeq| refine ⟨_, if_pos (by first | assumption | omega), ?_⟩),
      ← `(Lean.Parser.Tactic.tacticSeq| refine ⟨_, _, rfl, M.le_sz rfl, ?_⟩),
      ← `(Lean.Parser.Tactic.tacticSeq| refine ⟨_, _, rfl, rfl, ?_⟩),
      ← `(Lean.Parser.Tactic.tacticSeq| refine ⟨_, _, rfl, if_pos (by first | assumption | omega), ?_⟩),
      ← `(Lean.Parser.Tactic.tacticSeq| refine ⟨_, rfl, rfl, ?_⟩),
      ← `(Lean.Parser.Tactic.tacticSeq| refine ⟨rfl, ?_⟩),
      ← `(Lean.Parser.Tactic.tacticSeq| exact rfl),
      ← `(Lean.Parser.Tactic.tacticSeq| dsimp only)]
    let all := rules ++ kinds ++ facts ++ ends
    `(tactic| repeat' (first $[| $all]*))

/-! the laws' own defs that most laws share: what they come to -/
namespace M
open PySem PySem.Spec PyProof.Rows L2
/-- _law_cell_at(script, k): 0 script, 1 k -/
def f__law_cell_at : Fn := ⟨2, 2,
  [(.ife (.cmp .lt (.var 1) (.bi .len [(.var 0)])) [(.ret (.idx (.var 0) (.var 1)))] []),
  (.ret (.lit (D.int 0)))]⟩
/-- _law_draws(cell, many, base): 0 cell, 1 many, 2 base, 3 found, 4 rest, 5 stirred, 6 k -/
def f__law_draws : Fn := ⟨3, 7,
  [(.new 3 (.lst [])),
  (.asg (.v 4) (.bin .mul (.var 0) (.bi .int [(.cmp .ge (.var 0) (.bin .pow (.lit (D.int 10)) (.lit (D.int 18))))]))),
  (.asg (.v 5) (.bin .mod (.var 0) (.lit (D.int 2305843009213693951)))),
  (.for_ (.v 6) (.range1 (.bin .add (.var 1) (.lit (D.int 3)))) [(.asg (.v 5) (.bin .mod (.bin .add (.bin .add (.bin .add (.bin .mul (.var 5) (.var 5)) (.bin .mul (.lit (D.int 48271)) (.var 5))) (.var 6)) (.lit (D.int 1))) (.lit (D.int 2305843009213693951)))),
  (.ife (.and (.cmp .gt (.var 6) (.lit (D.int 2))) (.cmp .gt (.var 4) (.lit (D.int 0)))) [(.app 3 (.bin .mod (.var 4) (.var 2))),
  (.asg (.v 4) (.bin .fdiv (.var 4) (.var 2)))] [(.ife (.cmp .gt (.var 6) (.lit (D.int 2))) [(.app 3 (.bin .mod (.bin .fdiv (.var 5) (.lit (D.int 4096))) (.var 2)))] [])])]),
  (.ret (.var 3))]⟩
/-- _law_name(some, taken): 0 some, 1 taken, 2 letters, 3 size, 4 word, 5 k, 6 barred, 7 ways, 8 letter, 9 one -/
def f__law_name : Fn := ⟨2, 10,
  [(.asg (.v 2) (.lit (D.str "abcdefghijklmnopqrstuvwxyz"))),
  (.asg (.v 3) (.bin .add (.bin .mul (.bin .add (.bin .mul (.bin .add (.bin .mul (.idx (.var 0) (.lit (D.int 1))) (.lit (D.int 1000))) (.idx (.var 0) (.lit (D.int 2)))) (.lit (D.int 1000))) (.idx (.var 0) (.lit (D.int 3)))) (.lit (D.int 1000))) (.idx (.var 0) (.lit (D.int 4))))),
  (.asg (.v 4) (.lit (D.str ""))),
  (.for_ (.v 5) (.range1 (.bin .add (.lit (D.int 1)) (.bin .mod (.idx (.var 0) (.lit (D.int 0))) (.lit (D.int 8))))) [(.asg (.v 4) (.bin .add (.var 4) (.idx (.var 2) (.bin .mod (.var 3) (.lit (D.int 26)))))),
  (.asg (.v 3) (.bin .fdiv (.var 3) (.lit (D.int 26))))]),
  (.asg (.v 6) (.lit (D.str "rows view where keep named pairs both less count seal and or not mine empty loud yes has"))),
  (.asg (.v 7) (.bin .add (.lst [(.var 4)]) (.lc (.v 8) (.of (.var 2)) [] (.bin .add (.bin .add (.slc (.var 4) [] [(.lit (D.int 6))]) (.var 8)) (.lit (D.str "z")))))),
  (.ret (.idx (.lc (.v 9) (.of (.var 7)) [(.and (.cmp .notin (.var 9) (.var 1)) (.cmp .notin (.var 9) (.mth .split (.var 6) [(.lit (D.str " "))])))] (.var 9)) (.lit (D.int 0))))]⟩
/-- _law_columns(picks, many, top): 0 picks, 1 many, 2 top, 3 found, 4 room, 5 k, 6 some, 7 values, 8 empty, 9 one -/
def f__law_columns (i__law_name : Nat) : Fn := ⟨3, 10,
  [(.new 3 (.lst [])),
  (.asg (.v 4) (.lit (D.int 1))),
  (.for_ (.v 5) (.range1 (.var 1)) [(.asg (.v 6) (.slc (.var 0) [(.bin .mul (.lit (D.int 7)) (.var 5))] [(.bin .add (.bin .mul (.lit (D.int 7)) (.var 5)) (.lit (D.int 7)))])),
  (.asg (.v 7) (.bin .add (.lit (D.int 1)) (.bin .mod (.idx (.var 6) (.lit (D.int 5))) (.bi .min [(.lit (D.int 10)), (.bin .fdiv (.var 2) (.var 4))])))),
  (.asg (.v 8) (.or (.cmp .eq (.var 7) (.lit (D.int 10))) (.and (.cmp .gt (.var 7) (.lit (D.int 1))) (.cmp .eq (.bin .mod (.idx (.var 6) (.lit (D.int 6))) (.lit (D.int 3))) (.lit (D.int 0)))))),
  (.app 3 (.tup [(.call i__law_name [(.var 6), (.lc (.v 9) (.of (.var 3)) [] (.idx (.var 9) (.lit (D.int 0))))]), (.bin .sub (.var 7) (.bi .int [(.var 8)])), (.var 8)])),
  (.asg (.v 4) (.bin .mul (.var 4) (.var 7)))]),
  (.ret (.tup [(.bi .tuple [(.var 3)]), (.var 4)]))]⟩
/-- _law_ground(picks, top): 0 picks, 1 top, 2 found, 3 left, 4 k, 5 some, 6 columns, 7 room, 8 key, 9 name, 10 one -/
def f__law_ground (i__law_columns i__law_name : Nat) : Fn := ⟨2, 11,
  [(.new 2 (.lst [])),
  (.asg (.v 3) (.var 1)),
  (.for_ (.v 4) (.range1 (.bin .add (.lit (D.int 1)) (.bin .mod (.idx (.var 0) (.lit (D.int 0))) (.lit (D.int 4))))) [(.asg (.v 5) (.slc (.var 0) [(.bin .add (.lit (D.int 1)) (.bin .mul (.lit (D.int 36)) (.var 4)))] [(.bin .add (.lit (D.int 37)) (.bin .mul (.lit (D.int 36)) (.var 4)))])),
  (.ife (.cmp .gt (.var 3) (.lit (D.int 0))) [(.asg (.tp [6, 7]) (.call i__law_columns [(.slc (.var 5) [(.lit (D.int 7))] []), (.bin .add (.lit (D.int 1)) (.bin .mod (.idx (.var 5) (.lit (D.int 5))) (.lit (D.int 4)))), (.var 3)])),
  (.asg (.v 8) (.ife (.bi .any [(.lc (.v 10) (.of (.var 6)) [] (.idx (.var 10) (.lit (D.int 2))))]) (.mth .index (.lc (.v 10) (.of (.var 6)) [] (.idx (.var 10) (.lit (D.int 2)))) [(.lit (D.bl true))]) (.bi .len [(.var 6)]))),
  (.asg (.v 9) (.call i__law_name [(.var 5), (.lc (.v 10) (.of (.var 2)) [] (.idx (.var 10) (.lit (D.int 0))))])),
  (.app 2 (.tup [(.var 9), (.bin .mod (.idx (.var 5) (.lit (D.int 6))) (.bin .add (.var 8) (.lit (D.int 1)))), (.var 6)])),
  (.asg (.v 3) (.bin .sub (.var 3) (.var 7)))] [])]),
  (.ret (.bi .tuple [(.bi .sorted [(.var 2)])]))]⟩

theorem rangeD_nil {lo hi : Int} (h : hi ≤ lo) : rangeD lo hi = [] := by
  unfold rangeD
  rw [show (hi - lo).toNat = 0 by omega]; rfl
theorem rangeD_cons {lo hi : Int} (h : lo < hi) : rangeD lo hi = .int lo :: rangeD (lo + 1) hi := by
  unfold rangeD
  obtain ⟨n, hn⟩ : ∃ n, (hi - lo).toNat = n + 1 := ⟨(hi - lo).toNat - 1, by omega⟩
  rw [hn, show (hi - (lo + 1)).toNat = n by omega, List.range_succ_eq_map, List.map_cons, List.map_map]
  congr 1
  · simp
  · apply List.map_congr_left
    intro k _
    simp only [Function.comp]
    congr 1
    omega
theorem cell_at_ok {T : List Fn} {i : Nat} (hT : T[i]? = some f__law_cell_at) (n : Nat) (ns : List Int) (S : St') :
    ∃ c : Int, FT T (n + 1) i [.t (.lst (ns.map .int)), .t (.int 0)] S = .ok (.t (.int c)) S := by
  rw [FT_at hT]
  cases ns with
  | nil =>
    refine ⟨0, callF_rt rfl (S' := S) ?_ (by simp)⟩
    simp only [f__law_cell_at]
    simp only [execB, execS, evalE, evalEs, evalP, evalI, evalL, evalCs, tests, tru, R.bind_ok, R.opt_some, Out.of_ok, Out.seq_nx, Out.seq_rt, peek, peeks, grab, grabs, binD, cmpD, idxD, slcD, biD, truD, isiD, srcOf, forSrc, lcSrc, bindTg, setTg, tpO, appO, setO, augO, scalD, st_get, st_set, st_get2, st_set2, szl, List.map_cons, List.map_nil, List.cons_append, List.nil_append, List.getElem?_cons_zero, List.getElem?_cons_succ, List.set_cons_zero, List.set_cons_succ, List.length_cons, List.length_nil, Option.map_some, Option.bind_some, Option.getD_some, if_true, if_false, List.replicate, Bool.false_eq_true, reduceCtorEq, Bool.not_true, Bool.not_false, and_true, true_and, and_self, true_or, or_true, false_or, or_false, and_false, false_and, decide_true, decide_false, decide_eq_true_eq, Bool.true_or, Bool.false_or, Bool.or_true, Bool.or_false, Bool.true_and, Bool.false_and, ite_true, ite_false, not_true_eq_false, not_false_eq_true, asInts, asBls, asStrs, mtOk, Int.ofNat_zero, Int.lt_irrefl]
  | cons a r =>
    refine ⟨a, callF_rt rfl (S' := S) ?_ (by simp)⟩
    simp only [f__law_cell_at]
    have h1 : ((0 : Int) < ((List.map D.int r).length + 1 : Nat)) = True := by simp
    have h2 : atI (D.int a :: List.map D.int r) 0 = some (D.int a) := L2.atI_nat (j := 0) rfl
    simp only [execB, execS, evalE, evalEs, evalP, evalI, evalL, evalCs, tests, tru, R.bind_ok, R.opt_some, Out.of_ok, Out.seq_nx, Out.seq_rt, peek, peeks, grab, grabs, binD, cmpD, idxD, slcD, biD, truD, isiD, srcOf, forSrc, lcSrc, bindTg, setTg, tpO, appO, setO, augO, scalD, st_get, st_set, st_get2, st_set2, szl, List.map_cons, List.map_nil, List.cons_append, List.nil_append, List.getElem?_cons_zero, List.getElem?_cons_succ, List.set_cons_zero, List.set_cons_succ, List.length_cons, List.length_nil, Option.map_some, Option.bind_some, Option.getD_some, if_true, if_false, List.replicate, Bool.false_eq_true, reduceCtorEq, Bool.not_true, Bool.not_false, and_true, true_and, and_self, true_or, or_true, false_or, or_false, and_false, false_and, decide_true, decide_false, decide_eq_true_eq, Bool.true_or, Bool.false_or, Bool.or_true, Bool.or_false, Bool.true_and, Bool.false_and, ite_true, ite_false, not_true_eq_false, not_false_eq_true, asInts, asBls, asStrs, mtOk, h1, h2]
theorem draws_ok {T : List Fn} {i : Nat} (hT : T[i]? = some f__law_draws) (n : Nat) (c many base : Int) (hm : 0 ≤ many ∧ many ≤ 1000000) (hb : 0 < base ∧ base < 1073741824) (S : St') :
    RP (FT T (n + 1) i [.t (.int c), .t (.int many), .t (.int base)] S) (fun v S' => S' = S ∧ ∃ ds : List Int, v = .t (.lst (ds.map .int)) ∧ ds.length = many.toNat ∧ (∀ x ∈ ds, 0 ≤ x ∧ x < base)) noE := by
  refine rp_fn hT rfl rfl ?_
  simp only [f__law_draws, pad]
  exists 0
  refine op_fix (fun l ρ S' => ∃ (k r st : Int) (acc : List Int) (kk : Option SV), 0 ≤ k ∧ k ≤ many + 3 ∧ l = rangeD k (many + 3) ∧ ρ = [some (.t (.int c)), some (.t (.int many)), some (.t (.int base)), some (.o S.length), some (.t (.int r)), some (.t (.int st)), kk] ∧ S' = S ++ [.lst (acc.map .int)] ∧ 0 ≤ r ∧ (0 ≤ st ∧ st < 2305843009213693951) ∧ (acc.length : Int) = max 0 (k - 3) ∧ (∀ x ∈ acc, 0 ≤ x ∧ x < base)) ?_ ?_ ?_
  · refine ⟨0, _, _, [], none, by omega, by omega, rfl, rfl, rfl, ?_, ⟨Int.emod_nonneg _ (by decide), Int.emod_lt_of_pos _ (by decide)⟩, by rfl, by simp⟩
    split
    · rename_i h
      have := of_decide_eq_true h
      simp at this ⊢
      omega
    · simp
  · rintro d ds ρ S' ⟨k, r, st, acc, kk, hk0, hk, hl, rfl, rfl, hr, hst, ha, hx⟩
    have hlt : k < many + 3 := by
      rcases Int.lt_or_le k (many + 3) with h | h
      · exact h
      · rw [rangeD_nil h] at hl; cases hl
    rw [rangeD_cons hlt] at hl
    cases hl
    refine ⟨_, rfl, ?_⟩
    have hmd : 0 ≤ (st * st + 48271 * st + k + 1) % 2305843009213693951 ∧ (st * st + 48271 * st + k + 1) % 2305843009213693951 < 2305843009213693951 := ⟨Int.emod_nonneg _ (by decide), Int.emod_lt_of_pos _ (by decide)⟩
    have hA : acc.length < 10000000 := by omega
    exists 0
    all_goals (try simp only [decide_eq_true_eq, decide_eq_false_iff_not, Int.not_lt, Int.not_le, bne_iff_ne, ne_eq, Bool.not_eq_true', Bool.not_eq_false'] at *)
    all_goals (try (exfalso; omega))
    · refine ⟨k + 1, r / base, _, acc ++ [r % base], _, by omega, by omega, rfl, rfl, by simp, Int.ediv_nonneg hr (by omega), hmd, by simp; omega, ?_⟩
      intro x hx'
      rcases List.mem_append.mp hx' with hx' | hx'
      · exact hx x hx'
      · cases List.mem_singleton.mp hx'
        exact ⟨Int.emod_nonneg _ (by omega), Int.emod_lt_of_pos _ (by omega)⟩
    · refine ⟨k + 1, r, _, acc ++ [(st * st + 48271 * st + k + 1) % 2305843009213693951 / 4096 % base], _, by omega, by omega, rfl, rfl, by simp, hr, hmd, by simp; omega, ?_⟩
      intro x hx'
      rcases List.mem_append.mp hx' with hx' | hx'
      · exact hx x hx'
      · cases List.mem_singleton.mp hx'
        exact ⟨Int.emod_nonneg _ (by omega), Int.emod_lt_of_pos _ (by omega)⟩
    · exact ⟨k + 1, r, _, acc, _, by omega, by omega, rfl, rfl, rfl, hr, hmd, by omega, hx⟩
  · rintro ρ S' ⟨k, r, st, acc, kk, hk0, hk, hl, rfl, rfl, hr, hst, ha, hx⟩
    have hk : k = many + 3 := by
      rcases Int.lt_or_le k (many + 3) with h | h
      · rw [rangeD_cons h] at hl; cases hl
      · omega
    subst hk
    exists 0
    exact ⟨by omega, hx⟩
end M

/-! names of the laws' grounds -/
namespace M
open PySem PySem.Spec PyProof.Rows L2

/-! ### data that can be compared -/
def Ok (k : Nat) (d : D) : Prop := (toPy d).canLay0 = true ∧ (toPy d).depth ≤ k
theorem Ok.okD {k : Nat} {d : D} (h : Ok k d) (hk : k ≤ 64) : okD d = true := by
  unfold M.okD SeqAt.shaped
  rw [h.1, Bool.true_and]
  exact decide_eq_true (Nat.le_trans h.2 hk)
theorem Ok.non {k : Nat} : Ok k .non := ⟨by simp [toPy, PyData.canLay0], by simp [toPy, PyData.depth]⟩
theorem Ok.bl {k : Nat} (b : Bool) : Ok k (.bl b) := ⟨by simp [toPy, PyData.canLay0], by simp [toPy, PyData.depth]⟩
theorem Ok.int {k : Nat} (b : Int) : Ok k (.int b) := ⟨by simp [toPy, PyData.canLay0], by simp [toPy, PyData.depth]⟩
theorem Ok.str {k : Nat} {x : Str} (h : PyData.strOk x = true) : Ok k (.str x) := ⟨by simpa [toPy, PyData.canLay0] using h, by simp [toPy, PyData.depth]⟩
theorem oks {k : Nat} : ∀ {xs : List D}, (∀ x ∈ xs, Ok k x) → PyData.canLayAll0 (toPys xs) = true ∧ PyData.depthAll (toPys xs) ≤ k
  | [], _ => ⟨by simp [toPys, PyData.canLayAll0], by simp [toPys, PyData.depthAll]⟩
  | x :: xs, h => by
    have h1 := h x List.mem_cons_self
    have h2 := oks (k := k) (xs := xs) fun y hy => h y (List.mem_cons_of_mem _ hy)
    refine ⟨by simp only [toPys, PyData.canLayAll0, h1.1, h2.1, Bool.and_self], ?_⟩
    simp only [toPys, PyData.depthAll]
    have := h1.2
    have := h2.2
    omega
theorem Ok.lst {k : Nat} {xs : List D} (h : ∀ x ∈ xs, Ok k x) : Ok (k + 1) (.lst xs) := by
  have := oks h
  exact ⟨by simpa only [toPy, PyData.canLay0] using this.1, by simpa only [toPy, PyData.depth, Nat.add_le_add_iff_right] using this.2⟩
theorem Ok.tup {k : Nat} {xs : List D} (h : ∀ x ∈ xs, Ok k x) : Ok (k + 1) (.tup xs) := by
  have := oks h
  exact ⟨by simpa only [toPy, PyData.canLay0] using this.1, by simpa only [toPy, PyData.depth, Nat.add_le_add_iff_right] using this.2⟩
theorem Ok.mono {k j : Nat} {d : D} (h : Ok k d) (hk : k ≤ j) : Ok j d := ⟨h.1, Nat.le_trans h.2 hk⟩

/-! ### texts -/
abbrev LTR : Str := "abcdefghijklmnopqrstuvwxyz"
abbrev BAR : Str := "rows view where keep named pairs both less count seal and or not mine empty loud yes has"
def barred : List Str := ["rows", "view", "where", "keep", "named", "pairs", "both", "less", "count", "seal", "and", "or", "not", "mine", "empty", "loud", "yes", "has"]
theorem split_bar : Txt.split BAR " " = barred := by decide +kernel
theorem ltr_list : LTR.cps.toList = (List.range 26).map (97 + ·) := by decide +kernel
theorem len_list (x : Str) : x.length = x.cps.toList.length := by simp [Str.length]
theorem app_list (x y : Str) : (x ++ y).cps.toList = x.cps.toList ++ y.cps.toList := by
  show (Str.append x y).cps.toList = _
  simp [Str.append]
theorem str_ext {x y : Str} (h : x.cps.toList = y.cps.toList) : x = y := by
  cases x; cases y
  simp only [Str.mk.injEq]
  exact Array.toList_inj.mp h
/-- letters alone -/
def Lw (w : Str) : Prop := ∀ c ∈ w.cps.toList, 97 ≤ c ∧ c ≤ 122
theorem Lw.ok {w : Str} (h : Lw w) : PyData.strOk w = true := by
  unfold PyData.strOk
  rw [Array.all_eq_true]
  intro i hi
  have := h (w.cps[i]) (by simp)
  simp only [decide_eq_true_eq]
  omega
theorem ltr_at {j : Int} (h0 : 0 ≤ j) (h1 : j < 26) : idxD (.str LTR) (.int j) = some (.str ⟨#[97 + j.toNat]⟩) := by
  obtain ⟨k, rfl⟩ := Int.eq_ofNat_of_zero_le h0
  have hk : k < 26 := by omega
  have e : atI LTR.cps.toList ((k : Nat) : Int) = some (97 + k) := by
    apply L2.atI_nat
    rw [ltr_list]
    simp [hk]
  have hs : LTR.length ≤ sizeLine := by decide +kernel
  simp only [idxD, hs, if_true, e]
  rfl
theorem cut6 (w : Str) : (cutS w none (some 6)).cps.toList = w.cps.toList.take 6 := by
  unfold cutS
  simp only [HT.sIx]
  rw [if_neg (by decide)]
  simp only [List.drop_zero, Nat.sub_zero, len_list]
  show List.take (min 6 _) _ = _
  rw [List.take_eq_take_iff]
  omega
theorem nodup_le {α : Type} [DecidableEq α] : ∀ {l ts : List α}, l.Nodup → (∀ x ∈ l, x ∈ ts) → l.length ≤ ts.length
  | [], _, _, _ => Nat.zero_le _
  | x :: l, ts, hn, hs => by
    obtain ⟨h1, h2⟩ := List.nodup_cons.mp hn
    have hx : x ∈ ts := hs x List.mem_cons_self
    have := nodup_le (ts := ts.erase x) h2 fun y hy => (List.mem_erase_of_ne (fun (e : y = x) => h1 (e ▸ hy))).mpr (hs y (List.mem_cons_of_mem _ hy))
    rw [List.length_erase_of_mem hx] at this
    have : 0 < ts.length := List.length_pos_of_mem hx
    simp only [List.length_cons]
    omega
structure NameOk (w : Str) : Prop where
  pos : 1 ≤ w.length
  le : w.length ≤ 8
  let_ : Lw w
  bar : w ∉ barred
/-- the words that are tried -/
def waysOf (w : Str) : List Str := w :: (LTR.cps.toList.map fun c => cutS w none (some 6) ++ (⟨#[c]⟩ : Str) ++ ("z" : Str))
theorem bar_z : ∀ b ∈ barred, b.cps.toList.getLast? ≠ some 122 := by decide +kernel
theorem ways_free (w : Str) (ts : List Str) (hl : ts.length ≤ 20) : ∃ x ∈ waysOf w, x ∉ ts ∧ x ∉ barred := by
  apply Classical.byContradiction
  intro hno
  have hall : ∀ x ∈ (LTR.cps.toList.map fun c => cutS w none (some 6) ++ (⟨#[c]⟩ : Str) ++ ("z" : Str)), x ∈ ts := by
    intro x hx
    apply Classical.byContradiction
    intro hx'
    refine hno ⟨x, List.mem_cons_of_mem _ hx, hx', fun hb => bar_z x hb ?_⟩
    obtain ⟨c, _, rfl⟩ := List.mem_map.mp hx
    rw [app_list]
    rw [List.getLast?_append]
    rfl
  have hn : (LTR.cps.toList.map fun c => cutS w none (some 6) ++ (⟨#[c]⟩ : Str) ++ ("z" : Str)).Nodup := by
    have h0 : LTR.cps.toList.Nodup := by rw [ltr_list]; decide +kernel
    refine List.pairwise_map.mpr (List.Pairwise.imp ?_ h0)
    intro a b hne e
    have := congrArg (fun s : Str => s.cps.toList) e
    simp only [app_list] at this
    exact hne (by simpa using this)
  have := nodup_le hn hall
  rw [List.length_map, ltr_list] at this
  simp at this
  omega
theorem lw_app {x y : Str} (hx : Lw x) (hy : Lw y) : Lw (x ++ y) := by
  intro c hc
  rw [app_list] at hc
  rcases List.mem_append.mp hc with h | h
  · exact hx c h
  · exact hy c h
theorem ways_ok {w : Str} (hw : Lw w) (h1 : 1 ≤ w.length) (h8 : w.length ≤ 8) : ∀ x ∈ waysOf w, 1 ≤ x.length ∧ x.length ≤ 8 ∧ Lw x := by
  intro x hx
  rcases List.mem_cons.mp hx with rfl | hx
  · exact ⟨h1, h8, hw⟩
  · obtain ⟨c, hc, rfl⟩ := List.mem_map.mp hx
    have hz : Lw ("z" : Str) := by intro c hc; revert c; decide +kernel
    have hzl : ("z" : Str).cps.toList.length = 1 := by decide +kernel
    rw [ltr_list] at hc
    obtain ⟨k, hk, rfl⟩ := List.mem_map.mp hc
    have hk := List.mem_range.mp hk
    refine ⟨?_, ?_, lw_app (lw_app ?_ ?_) hz⟩
    · rw [len_list, app_list, List.length_append, hzl]; omega
    · rw [len_list, app_list, app_list, List.length_append, List.length_append, hzl, cut6, List.length_take]
      simp
      omega
    · intro c hc
      rw [cut6] at hc
      exact hw c (List.mem_of_mem_take hc)
    · intro c hc
      simp at hc
      subst hc
      omega
theorem any_strs (w : Str) : ∀ ts : List Str, ((ts.map D.str).any fun z => deq z (.str w)) = decide (w ∈ ts)
  | [] => rfl
  | t :: ts => by
    rw [List.map_cons, List.any_cons, any_strs w ts, deq]
    by_cases h : t = w
    · simp [h]
    · have h' : ¬ w = t := fun e => h e.symm
      simp [h, h']
theorem in_strs {w : Str} {ts : List Str} (hw : PyData.strOk w = true) (ht : ∀ t ∈ ts, PyData.strOk t = true) : inD (.str w) (.lst (ts.map .str)) = some (decide (w ∈ ts)) := by
  have h1 : okD (.str w) = true := (Ok.str (k := 0) hw).okD (by omega)
  have h2 : okD (.lst (ts.map .str)) = true := (Ok.lst (k := 0) fun x hx => by
    obtain ⟨t, ht', rfl⟩ := List.mem_map.mp hx
    exact Ok.str (ht t ht')).okD (by omega)
  simp only [inD, h1, h2, Bool.and_self, if_true, any_strs]
theorem bar_ok : ∀ t ∈ barred, PyData.strOk t = true := by decide +kernel
def sget (ss : List Int) (j : Nat) : Int := ss.getD j 0
theorem at_int {ss : List Int} {j : Nat} (h : j < ss.length) : idxD (.lst (ss.map .int)) (.int (j : Int)) = some (.int (sget ss j)) := by
  simp only [idxD]
  apply L2.atI_nat
  simp [sget, h]
theorem sget_mem {ss : List Int} {j : Nat} (h : j < ss.length) : sget ss j ∈ ss := by
  unfold sget
  rw [List.getD_eq_getElem?_getD, List.getElem?_eq_getElem h]
  exact List.getElem_mem h
theorem name_ok {T : List Fn} {i : Nat} (hT : T[i]? = some f__law_name) (n : Nat) (ss : List Int) (hs : 5 ≤ ss.length) (hb : ∀ x ∈ ss, 0 ≤ x ∧ x < 1000) (ts : List Str) (hl : ts.length ≤ 20) (ht : ∀ t ∈ ts, PyData.strOk t = true) (S : St') :
    RP (FT T (n + 1) i [.t (.lst (ss.map .int)), .t (.lst (ts.map .str))] S) (fun v S' => S' = S ∧ ∃ w : Str, v = .t (.str w) ∧ NameOk w ∧ w ∉ ts) noE := by
  have g0 : idxD (.lst (ss.map .int)) (.int 0) = some (.int (sget ss 0)) := at_int (j := 0) (by omega)
  have g1 : idxD (.lst (ss.map .int)) (.int 1) = some (.int (sget ss 1)) := at_int (j := 1) (by omega)
  have g2 : idxD (.lst (ss.map .int)) (.int 2) = some (.int (sget ss 2)) := at_int (j := 2) (by omega)
  have g3 : idxD (.lst (ss.map .int)) (.int 3) = some (.int (sget ss 3)) := at_int (j := 3) (by omega)
  have g4 : idxD (.lst (ss.map .int)) (.int 4) = some (.int (sget ss 4)) := at_int (j := 4) (by omega)
  have b0 := hb _ (sget_mem (ss := ss) (j := 0) (by omega))
  have b1 := hb _ (sget_mem (ss := ss) (j := 1) (by omega))
  have b2 := hb _ (sget_mem (ss := ss) (j := 2) (by omega))
  have b3 := hb _ (sget_mem (ss := ss) (j := 3) (by omega))
  have b4 := hb _ (sget_mem (ss := ss) (j := 4) (by omega))
  refine rp_fn hT rfl rfl ?_
  simp only [f__law_name, pad]
  exists 0, g0, g1, g2, g3, g4
  refine op_fix (fun l ρ S' => ∃ (k sz : Int) (w : Str) (kk : Option SV), 0 ≤ k ∧ k ≤ 1 + sget ss 0 % 8 ∧ l = rangeD k (1 + sget ss 0 % 8) ∧ ρ = [some (.t (.lst (ss.map .int))), some (.t (.lst (ts.map .str))), some (.t (.str LTR)), some (.t (.int sz)), some (.t (.str w)), kk, none, none, none, none] ∧ S' = S ∧ 0 ≤ sz ∧ Lw w ∧ (w.length : Int) = k) ?_ ?_ ?_
  · exact ⟨0, _, "", none, by omega, by omega, rfl, rfl, rfl, by omega, by intro c hc; revert c; decide +kernel, by decide +kernel⟩
  · rintro d ds ρ S' ⟨k, sz, w, kk, hk0, hk, hl, rfl, rfl, hsz, hw, hwl⟩
    have hlt : k < 1 + sget ss 0 % 8 := by
      rcases Int.lt_or_le k (1 + sget ss 0 % 8) with h | h
      · exact h
      · rw [rangeD_nil h] at hl; cases hl
    rw [rangeD_cons hlt] at hl
    cases hl
    have hm : 0 ≤ sz % 26 ∧ sz % 26 < 26 := ⟨by omega, by omega⟩
    have h26 := ltr_at hm.1 hm.2
    have hadd : w.length + (⟨#[97 + (sz % 26).toNat]⟩ : Str).length ≤ sizeLine := le_sz' (by show w.length + 1 ≤ 16777216; omega)
    refine ⟨_, rfl, ?_⟩
    exists 0, h26, if_pos hadd
    refine ⟨k + 1, _, _, _, by omega, by omega, rfl, rfl, rfl, Int.ediv_nonneg hsz (by omega), lw_app hw ?_, ?_⟩
    · intro c hc
      simp at hc
      subst hc
      omega
    · rw [len_list, app_list, List.length_append, ← len_list]
      simp
      omega
  · rintro ρ S' ⟨k, sz, w, kk, hk0, hk, hl, rfl, rfl, hsz, hw, hwl⟩
    have hk : k = 1 + sget ss 0 % 8 := by
      rcases Int.lt_or_le k (1 + sget ss 0 % 8) with h | h
      · rw [rangeD_cons h] at hl; cases hl
      · omega
    have hw1 : 1 ≤ w.length := by omega
    have hw8 : w.length ≤ 8 := by omega
    exists 0
    have hs : w.length ≤ sizeLine := le_sz' (by omega)
    have hc6 : (cutS w none (some 6)).length ≤ 6 := by rw [len_list, cut6, List.length_take]; omega
    refine rp_lcM (fun c => D.str ⟨#[c]⟩) (fun c => .str (cutS w none (some 6) ++ (⟨#[c]⟩ : Str) ++ ("z" : Str))) (by rw [ltr_list]; simp) (fun c hc acc => ?_) ?_
    · have ha1 : (cutS w none (some 6)).length + (⟨#[c]⟩ : Str).length ≤ sizeLine := le_sz' (by show _ + 1 ≤ _; omega)
      have ha2 : (cutS w none (some 6) ++ (⟨#[c]⟩ : Str)).length + ("z" : Str).length ≤ sizeLine := le_sz' (by
        rw [len_list, app_list, List.length_append, ← len_list]
        show _ + 1 + 1 ≤ _; omega)
      refine ⟨_, rfl, ?_⟩
      exists 0, if_pos hs, if_pos ha1, if_pos ha2
    · have e2 : bin2 .add S' (SV.t (.lst [.str w])) (SV.t (.lst (LTR.cps.toList.map fun c => .str (cutS w none (some 6) ++ (⟨#[c]⟩ : Str) ++ ("z" : Str))))) = some (.lst ((waysOf w).map .str)) := by
        simp only [bin2, peek, Option.bind_some, binD]
        rw [if_pos (by rw [List.length_map, ltr_list]; exact le_sz rfl), List.singleton_append, waysOf, List.map_cons, List.map_map]
        rfl
      have hlen : (waysOf w).length ≤ 16777216 := by
        unfold waysOf
        rw [List.length_cons, List.length_map, ltr_list]
        simp
      have hok := ways_ok hw hw1 hw8
      exists 0, e2
      refine rp_lcF D.str (fun x => !decide (x ∈ ts) && !decide (x ∈ barred)) .str hlen (fun x hx acc => ?_) ?_
      · have hxo := hok x hx
        have n1 : cmpD .notin (.str x) (.lst (ts.map .str)) = some (!decide (x ∈ ts)) := by simp only [cmpD, in_strs hxo.2.2.ok ht, Option.map_some]
        have n2 : cmpD .notin (.str x) (.lst (barred.map .str)) = some (!decide (x ∈ barred)) := by simp only [cmpD, in_strs hxo.2.2.ok bar_ok, Option.map_some]
        have n3 : mthD .split (.str BAR) [.str " "] = some (.lst (barred.map .str)) := by
          simp only [mthD, split_bar]
          exact if_pos (by decide +kernel)
        refine ⟨_, rfl, ?_⟩
        exists 0, n1, n2, n3
        · refine ⟨by rw [h, Bool.true_and], rfl, fun _ => ?_⟩
          exists 0
        · refine ⟨by rw [h]; rfl, rfl, fun z => ?_⟩
          rw [h] at z; cases z
      · obtain ⟨y, hy, hy1, hy2⟩ := ways_free w ts (by omega)
        have hm : y ∈ (waysOf w).filter (fun x => !decide (x ∈ ts) && !decide (x ∈ barred)) := by
          rw [List.mem_filter]
          exact ⟨hy, by simp [hy1, hy2]⟩
        cases hf : (waysOf w).filter (fun x => !decide (x ∈ ts) && !decide (x ∈ barred)) with
        | nil => rw [hf] at hm; cases hm
        | cons x r =>
          have hx : x ∈ (waysOf w).filter (fun x => !decide (x ∈ ts) && !decide (x ∈ barred)) := by rw [hf]; exact List.mem_cons_self
          rw [List.mem_filter] at hx
          obtain ⟨hx1, hx2⟩ := hx
          simp only [Bool.and_eq_true, Bool.not_eq_true', decide_eq_false_iff_not] at hx2
          obtain ⟨o1, o2, o3⟩ := hok x hx1
          have ei : idxD (.lst ((x :: r).map .str)) (.int 0) = some (.str x) := by
            simp only [idxD]
            exact L2.atI_nat (j := 0) rfl
          exists 0, ei
          exact ⟨⟨o1, o2, o3, hx2.2⟩, hx2.1⟩
end M

/-! columns and grounds of the laws -/
namespace M
open PySem PySem.Spec PyProof.Rows L2

def cutL {α : Type} (xs : List α) (lo hi : Option Int) : List α := (xs.drop (HT.sIx xs.length 0 lo)).take (HT.sIx xs.length xs.length hi - HT.sIx xs.length 0 lo)
theorem slc_ints (ps : List Int) (lo hi : Option Int) : slcD (.lst (ps.map .int)) lo hi = some (.lst ((cutL ps lo hi).map .int)) := by
  simp only [slcD, cutD, cutL, List.length_map, List.map_take, List.map_drop]
theorem cutL_mem {α : Type} {xs : List α} {lo hi : Option Int} {x : α} (h : x ∈ cutL xs lo hi) : x ∈ xs := List.mem_of_mem_drop (List.mem_of_mem_take h)
theorem cutL_len {α : Type} {xs : List α} {a b : Int} (h0 : 0 ≤ a) (h1 : a ≤ b) (h2 : b ≤ xs.length) : ((cutL xs (some a) (some b)).length : Int) = b - a := by
  have e1 : HT.sIx xs.length 0 (some a) = min a.toNat xs.length := if_neg (by omega)
  have e2 : HT.sIx xs.length xs.length (some b) = min b.toNat xs.length := if_neg (by omega)
  rw [cutL, e1, e2, List.length_take, List.length_drop]
  omega
theorem cutL_from {α : Type} {xs : List α} {a : Int} (h0 : 0 ≤ a) (h2 : a ≤ xs.length) : ((cutL xs (some a) none).length : Int) = xs.length - a := by
  have e1 : HT.sIx xs.length 0 (some a) = min a.toNat xs.length := if_neg (by omega)
  have e2 : HT.sIx xs.length xs.length none = xs.length := rfl
  rw [cutL, e1, e2, List.length_take, List.length_drop]
  omega
structure Col where
  name : Str
  size : Int
  emp : Bool
def colD (c : Col) : D := .tup [.str c.name, .int c.size, .bl c.emp]
def Col.vals (c : Col) : Int := c.size + (if c.emp = true then 1 else 0)
structure ColOk (c : Col) : Prop where
  name : NameOk c.name
  lo : 1 ≤ c.size
  hi : c.size ≤ 9
def roomOf : List Col → Int
  | [] => 1
  | c :: cs => c.vals * roomOf cs
theorem roomOf_app (cs : List Col) (c : Col) : roomOf (cs ++ [c]) = roomOf cs * c.vals := by
  induction cs with
  | nil => simp [roomOf]
  | cons d cs ih => rw [List.cons_append, roomOf, ih, roomOf, Int.mul_assoc]
structure ColsOk (cs : List Col) : Prop where
  each : ∀ c ∈ cs, ColOk c
  nd : (cs.map Col.name).Nodup
theorem names_map (cs : List Col) : (cs.map fun c => D.str c.name) = (cs.map Col.name).map D.str := by rw [List.map_map]; rfl
theorem emp_ok {F : FS} {ρ : Ev} {S : St'} {P : SV → St' → Prop} {E : EX} {v : Int} {ss : List Int} (h7 : ρ[7]? = some (some (.t (.int v)))) (h6 : ρ[6]? = some (some (.t (.lst (ss.map .int))))) (hl : 7 ≤ ss.length) (hP : ∀ b : Bool, (b = true → 1 < v) → (v = 10 → b = true) → P (.t (.bl b)) S) :
    RP (evalE F (.or (.cmp .eq (.var 7) (.lit (D.int 10))) (.and (.cmp .gt (.var 7) (.lit (D.int 1))) (.cmp .eq (.bin .mod (.idx (.var 6) (.lit (D.int 6))) (.lit (D.int 3))) (.lit (D.int 0))))) ρ S) P E := by
  have g6 : idxD (.lst (ss.map .int)) (.int 6) = some (.int (sget ss 6)) := at_int (j := 6) (by omega)
  exists 0, g6, no_index (rp_var h7 ?_), no_index (rp_var h6 ?_)
  · have h' : (v == 10) = true := h
    have h' := eq_of_beq h'
    exact hP _ (fun _ => by omega) fun _ => h
  · rename_i h0
    have h1 : (v == 10) = false := h0
    have h2 := of_decide_eq_true h
    exact hP _ (fun _ => by omega) fun e => by rw [e] at h1; cases h1
  · rename_i h0
    have h1 : (v == 10) = false := h0
    exact hP _ (fun e => by rw [h] at e; cases e) fun e => by rw [e] at h1; cases h1
theorem columns_ok {T : List Fn} {i iN : Nat} (hT : T[i]? = some (f__law_columns iN)) (hN : T[iN]? = some f__law_name) (n : Nat) (ps : List Int) (many top : Int) (hm : 1 ≤ many ∧ many ≤ 4) (hl : 7 * many ≤ ps.length) (hb : ∀ x ∈ ps, 0 ≤ x ∧ x < 1000) (ht : 1 ≤ top ∧ top < 1073741824) (S : St') :
    RP (FT T (n + 2) i [.t (.lst (ps.map .int)), .t (.int many), .t (.int top)] S) (fun v S' => S' = S ∧ ∃ cs : List Col, v = .t (.tup [.tup (cs.map colD), .int (roomOf cs)]) ∧ (cs.length : Int) = many ∧ ColsOk cs ∧ 1 ≤ roomOf cs ∧ roomOf cs ≤ top) noE := by
  refine rp_fn hT rfl rfl ?_
  simp only [f__law_columns, pad]
  exists 0
  refine op_fix (fun l ρ S' => ∃ (k : Int) (cs : List Col) (k5 k6 k7 k8 : Option SV), 0 ≤ k ∧ k ≤ many ∧ l = rangeD k many ∧ ρ = [some (.t (.lst (ps.map .int))), some (.t (.int many)), some (.t (.int top)), some (.o S.length), some (.t (.int (roomOf cs))), k5, k6, k7, k8, none] ∧ S' = S ++ [.lst (cs.map colD)] ∧ (cs.length : Int) = k ∧ ColsOk cs ∧ 1 ≤ roomOf cs ∧ roomOf cs ≤ top) ?_ ?_ ?_
  · exact ⟨0, [], none, none, none, none, by omega, by omega, rfl, rfl, rfl, rfl, ⟨by simp, by simp⟩, by decide, by simpa [roomOf] using ht.1⟩
  · rintro d ds ρ S' ⟨k, cs, k5, k6, k7, k8, hk0, hk, hl', rfl, rfl, hcl, hcs, hr1, hr2⟩
    have hlt : k < many := by
      rcases Int.lt_or_le k many with h | h
      · exact h
      · rw [rangeD_nil h] at hl'; cases hl'
    rw [rangeD_cons hlt] at hl'
    cases hl'
    obtain ⟨ss, hss⟩ : ∃ ss, ss = cutL ps (some (7 * k)) (some (7 * k + 7)) := ⟨_, rfl⟩
    have hsl : ss.length = 7 := by
      have := cutL_len (xs := ps) (a := 7 * k) (b := 7 * k + 7) (by omega) (by omega) (by omega)
      rw [← hss] at this
      omega
    have hsb : ∀ x ∈ ss, 0 ≤ x ∧ x < 1000 := fun x hx => hb x (cutL_mem (hss ▸ hx))
    have g : slcD (.lst (ps.map .int)) (some (7 * k)) (some (7 * k + 7)) = some (.lst (ss.map .int)) := by rw [hss]; exact slc_ints _ _ _
    have g5 : idxD (.lst (ss.map .int)) (.int 5) = some (.int (sget ss 5)) := at_int (j := 5) (by omega)
    have g6 : idxD (.lst (ss.map .int)) (.int 6) = some (.int (sget ss 6)) := at_int (j := 6) (by omega)
    have b5 := hsb _ (sget_mem (ss := ss) (j := 5) (by omega))
    have b6 := hsb _ (sget_mem (ss := ss) (j := 6) (by omega))
    have hq : 1 ≤ top / roomOf cs := by
      rw [Int.le_ediv_iff_mul_le (by omega)]; omega
    have hmn : 0 < (if top / roomOf cs < 10 then top / roomOf cs else 10) := by split <;> omega
    refine ⟨_, rfl, ?_⟩
    have hv : 1 ≤ 1 + sget ss 5 % (if top / roomOf cs < 10 then top / roomOf cs else 10) ∧ 1 + sget ss 5 % (if top / roomOf cs < 10 then top / roomOf cs else 10) ≤ 10 ∧ 1 + sget ss 5 % (if top / roomOf cs < 10 then top / roomOf cs else 10) ≤ top / roomOf cs := by
      have h1 := Int.emod_nonneg (sget ss 5) (show (if top / roomOf cs < 10 then top / roomOf cs else 10) ≠ 0 by omega)
      have h2 := Int.emod_lt_of_pos (sget ss 5) hmn
      split at h1 <;> split at h2 <;> (try omega)
      · rename_i h; rw [if_pos h]; omega
      · rename_i h; rw [if_neg h]; omega
    exists 0, g, g5, g6, no_index (emp_ok rfl rfl (by omega) fun b hb1 hb2 => ?_)
    generalize 1 + sget ss 5 % (if top / roomOf cs < 10 then top / roomOf cs else 10) = v at *
    refine rp_lcV colD (fun c => .str c.name) st_get (by omega) (fun c hc acc => ?_) ?_
    · refine ⟨_, rfl, ?_⟩
      exists 0
    · rw [names_map]
      exists 0
      refine RP.of_no (name_ok hN n ss (by omega) hsb (cs.map Col.name) (by simp; omega) (fun t ht => ?_) _) fun v' S1 ⟨e, w, ev, hw, hwn⟩ => ?_
      · obtain ⟨c, hc, rfl⟩ := List.mem_map.mp ht
        exact (hcs.each c hc).name.let_.ok
      · subst e; subst ev
        exists 0
        have hvv : (⟨w, v - (if b = true then 1 else 0), b⟩ : Col).vals = v := by simp only [Col.vals]; omega
        have hmul : roomOf cs * v ≤ top := by
          have := (Int.le_ediv_iff_mul_le (a := v) (b := top) (c := roomOf cs) (by omega)).mp hv.2.2
          rw [Int.mul_comm]; exact this
        refine ⟨k + 1, cs ++ [⟨w, v - (if b = true then 1 else 0), b⟩], _, _, _, _, by omega, by omega, rfl, by rw [roomOf_app, hvv]; rfl, by rw [List.map_append]; rfl, by simp; omega, ⟨?_, ?_⟩, ?_, ?_⟩
        · intro c hc
          rcases List.mem_append.mp hc with hc | hc
          · exact hcs.each c hc
          · cases List.mem_singleton.mp hc
            refine ⟨hw, ?_, ?_⟩
            · show 1 ≤ v - _
              split
              · rename_i hb; have := hb1 hb; omega
              · omega
            · show v - _ ≤ 9
              by_cases hten : v = 10
              · rw [hb2 hten]; simp; omega
              · split <;> omega
        · rw [List.map_append, List.nodup_append]
          refine ⟨hcs.nd, by simp, fun a ha c hc => ?_⟩
          simp at hc
          subst hc
          intro e
          exact hwn (e ▸ ha)
        · rw [roomOf_app, hvv]
          exact Int.le_trans (by omega) (Int.mul_le_mul hr1 hv.1 (by omega) (by omega))
        · rw [roomOf_app, hvv]; exact hmul
  · rintro ρ S' ⟨k, cs, k5, k6, k7, k8, hk0, hk, hl', rfl, rfl, hcl, hcs, hr1, hr2⟩
    have hk : k = many := by
      rcases Int.lt_or_le k many with h | h
      · rw [rangeD_cons h] at hl'; cases hl'
      · omega
    exists 0
    exact ⟨by omega, hcs, hr1, hr2⟩

/-! ### grounds -/
structure Tab where
  name : Str
  key : Int
  cols : List Col
def tabD (t : Tab) : D := .tup [.str t.name, .int t.key, .tup (t.cols.map colD)]
structure TabOk (t : Tab) : Prop where
  name : NameOk t.name
  key0 : 0 ≤ t.key
  keyN : ∀ c ∈ t.cols.take t.key.toNat, c.emp = false
  keyL : t.key ≤ t.cols.length
  cols : ColsOk t.cols
  len1 : 1 ≤ t.cols.length
  len4 : t.cols.length ≤ 4
  room : 1 ≤ roomOf t.cols
def roomsOf : List Tab → Int
  | [] => 0
  | t :: ts => roomOf t.cols + roomsOf ts
theorem roomsOf_app (ts : List Tab) (t : Tab) : roomsOf (ts ++ [t]) = roomsOf ts + roomOf t.cols := by
  induction ts with
  | nil => simp [roomsOf]
  | cons d cs ih => rw [List.cons_append, roomsOf, ih, roomsOf, Int.add_assoc]
theorem roomsOf_perm {a b : List Tab} (h : a.Perm b) : roomsOf a = roomsOf b := by
  induction h with
  | nil => rfl
  | cons x _ ih => rw [roomsOf, roomsOf, ih]
  | swap x y l => simp only [roomsOf]; omega
  | trans _ _ h1 h2 => rw [h1, h2]
theorem tnames_map (ts : List Tab) : (ts.map fun t => D.str t.name) = (ts.map Tab.name).map D.str := by rw [List.map_map]; rfl
/-- what follows a name's order, as the sort has it -/
def tabLe (a b : Tab) : Bool := dle (tabD a) (tabD b)
theorem alike_col (a b : Col) : PySem.W.alike (toPy (colD a)) (toPy (colD b)) = true := by
  simp [colD, toPy, toPys, PySem.W.alike, PySem.W.alikeAll]
theorem alike_cols : ∀ a b : List Col, PySem.W.alikeAll (toPys (a.map colD)) (toPys (b.map colD)) = true
  | [], _ => by simp [toPys, PySem.W.alikeAll]
  | _ :: _, [] => by simp [toPys, PySem.W.alikeAll]
  | x :: xs, y :: ys => by simp only [List.map_cons, toPys, PySem.W.alikeAll, alike_col, alike_cols xs ys, Bool.and_self]
theorem alike_tab (a b : Tab) : PySem.W.alike (toPy (tabD a)) (toPy (tabD b)) = true := by
  simp [tabD, toPy, toPys, PySem.W.alike, PySem.W.alikeAll, alike_cols]
theorem Ok.colD {c : Col} (h : ColOk c) : Ok 1 (M.colD c) := .tup fun x hx => by
  simp at hx
  rcases hx with rfl | rfl | rfl
  · exact .str h.name.let_.ok
  · exact .int _
  · exact .bl _
theorem Ok.tabD {t : Tab} (h : TabOk t) : Ok 3 (M.tabD t) := .tup fun x hx => by
  simp at hx
  rcases hx with rfl | rfl | rfl
  · exact .str h.name.let_.ok
  · exact .int _
  · refine .tup fun x hx => ?_
    obtain ⟨c, hc, rfl⟩ := List.mem_map.mp hx
    exact .colD (h.cols.each c hc)
theorem sort_tabs {ts : List Tab} (h : ∀ t ∈ ts, TabOk t) (hl : ts.length ≤ 1000) : biD .sorted [.lst (ts.map tabD)] = some (.lst ((ts.mergeSort tabLe).map tabD)) := by
  have h1 : sortOk (ts.map tabD) = true := by
    unfold sortOk
    simp only [Bool.and_eq_true, Bool.or_eq_true, List.all_eq_true, decide_eq_true_eq]
    refine ⟨⟨⟨fun x hx y hy => ?_, fun x hx => ?_⟩, .inl fun x hx => ?_⟩, le_sz' (by simp; omega)⟩
    · obtain ⟨a, _, rfl⟩ := List.mem_map.mp hx
      obtain ⟨b, _, rfl⟩ := List.mem_map.mp hy
      exact alike_tab a b
    · obtain ⟨a, ha, rfl⟩ := List.mem_map.mp hx
      exact Nat.le_trans (Ok.tabD (h a ha)).2 (by omega)
    · obtain ⟨a, ha, rfl⟩ := List.mem_map.mp hx
      rfl
  simp only [biD, h1, if_true]
  rw [← List.map_mergeSort (r := tabLe) (s := dle) (f := tabD) fun a _ b _ => rfl]
structure GroundOk (ts : List Tab) (top : Int) : Prop where
  each : ∀ t ∈ ts, TabOk t
  nd : (ts.map Tab.name).Nodup
  len1 : 1 ≤ ts.length
  len4 : ts.length ≤ 4
  room : roomsOf ts ≤ top
theorem firstEq_true : ∀ (cs : List Col) (n : Nat), (∃ c ∈ cs, c.emp = true) → ∃ k, firstEq (.bl true) (cs.map fun c => D.bl c.emp) n = some k ∧ n ≤ k ∧ k - n < cs.length ∧ ∀ c ∈ cs.take (k - n), c.emp = false
  | [], n, h => by simp at h
  | c :: cs, n, h => by
    rw [List.map_cons, firstEq]
    by_cases hc : c.emp = true
    · refine ⟨n, by rw [hc]; rfl, Nat.le_refl _, by simp, by simp⟩
    · have hc : c.emp = false := by simpa using hc
      obtain ⟨k, e, h1, h2, h3⟩ := firstEq_true cs (n + 1) (by
        obtain ⟨d, hd, he⟩ := h
        rcases List.mem_cons.mp hd with rfl | hd
        · rw [hc] at he; cases he
        · exact ⟨d, hd, he⟩)
      refine ⟨k, by rw [hc]; exact e, by omega, by simp only [List.length_cons]; omega, ?_⟩
      rw [show k - n = (k - (n + 1)) + 1 by omega, List.take_succ_cons]
      intro d hd
      rcases List.mem_cons.mp hd with rfl | hd
      · exact hc
      · exact h3 d hd
theorem asBls_map {α : Type} (f : α → Bool) : ∀ xs : List α, asBls (xs.map fun x => D.bl (f x)) = some (xs.map f)
  | [] => rfl
  | x :: xs => by rw [List.map_cons, asBls, asBls_map f xs]; rfl
end M

/-! grounds of the laws -/
namespace M
open PySem PySem.Spec PyProof.Rows L2
theorem key_ok {F : FS} {ρ : Ev} {S : St'} {P : SV → St' → Prop} {E : EX} {cs : List Col} (h6 : ρ[6]? = some (some (.t (.tup (cs.map colD))))) (h10 : ρ.length = 11) (hl : cs.length ≤ 1000) (hP : ∀ key : Nat, key ≤ cs.length → (∀ c ∈ cs.take key, c.emp = false) → P (.t (.int (key : Int))) S) :
    RP (evalE F (.ife (.bi .any [(.lc (.v 10) (.of (.var 6)) [] (.idx (.var 10) (.lit (D.int 2))))]) (.mth .index (.lc (.v 10) (.of (.var 6)) [] (.idx (.var 10) (.lit (D.int 2)))) [(.lit (D.bl true))]) (.bi .len [(.var 6)])) ρ S) P E := by
  have lc : ∀ {P : List D → St' → Prop} {E : EX}, P (cs.map fun c => .bl c.emp) S → RP (lcSrc (.v 10) (tests (evalCs F [])) (evalE F (.idx (.var 10) (.lit (D.int 2)))) (.fix (cs.map colD)) ρ S) P E := by
    intro P E hp
    refine rp_lcM colD (fun c => .bl c.emp) (by omega) (fun c hc acc => ⟨_, rfl, ?_⟩) hp
    have : (ρ.set 10 (some (.t (colD c))))[10]? = some (some (.t (colD c))) := by simp [h10]
    exists 0, no_index (rp_var this ?_)
  have ha : biD .any [.lst (cs.map fun c => .bl c.emp)] = some (.bl ((cs.map Col.emp).any id)) := by simp only [biD, asBls_map, Option.map_some]
  refine rp_ife ?_
  exists 0, ha, no_index (rp_var h6 ?_), no_index (lc ?_)
  · have hex : ∃ c ∈ cs, c.emp = true := by
      simp only [List.any_map, List.any_eq_true, Function.comp, id] at h
      exact h
    obtain ⟨k, e, h1, h2, h3⟩ := firstEq_true cs 0 hex
    have ho : okD (.lst (cs.map fun c => .bl c.emp)) = true := (Ok.lst (k := 0) fun x hx => by
      obtain ⟨c, _, rfl⟩ := List.mem_map.mp hx
      exact Ok.bl _).okD (by omega)
    have ho2 : okD (.bl true) = true := (Ok.bl (k := 0) true).okD (by omega)
    have hi : mthD .index (.lst (cs.map fun c => .bl c.emp)) [.bl true] = some (.int (k : Int)) := by
      simp only [mthD, ho, ho2, Bool.and_self, if_true, e, Option.map_some]
    exists 0, hi, no_index (rp_var h6 ?_), no_index (lc ?_)
    exact hP k (by omega) (by simpa using h3)
  · have hno : ∀ c ∈ cs, c.emp = false := by
      intro c hc
      cases he : c.emp with
      | false => rfl
      | true =>
        have : (cs.map Col.emp).any id = true := by
          rw [List.any_map, List.any_eq_true]
          exact ⟨c, hc, he⟩
        rw [h] at this; cases this
    exists 0, no_index (rp_var h6 ?_)
    rw [List.length_map]
    exact hP cs.length (Nat.le_refl _) fun c hc => hno c (List.mem_of_mem_take hc)
theorem ground_ok {T : List Fn} {i iC iN : Nat} (hT : T[i]? = some (f__law_ground iC iN)) (hC : T[iC]? = some (f__law_columns iN)) (hN : T[iN]? = some f__law_name) (n : Nat) (ps : List Int) (top : Int) (hl : 145 ≤ ps.length) (hb : ∀ x ∈ ps, 0 ≤ x ∧ x < 1000) (ht : 1 ≤ top ∧ top < 1073741824) (S : St') :
    RP (FT T (n + 3) i [.t (.lst (ps.map .int)), .t (.int top)] S) (fun v S' => S' = S ∧ ∃ us : List Tab, v = .t (.tup ((us.mergeSort tabLe).map tabD)) ∧ GroundOk us top) noE := by
  have g0 : idxD (.lst (ps.map .int)) (.int 0) = some (.int (sget ps 0)) := at_int (j := 0) (by omega)
  have b0 := hb _ (sget_mem (ss := ps) (j := 0) (by omega))
  refine rp_fn hT rfl rfl ?_
  simp only [f__law_ground, pad]
  exists 0, g0
  refine op_fix (fun l ρ S' => ∃ (k : Int) (ts : List Tab) (k4 k5 k6 k7 k8 k9 : Option SV), 0 ≤ k ∧ k ≤ 1 + sget ps 0 % 4 ∧ l = rangeD k (1 + sget ps 0 % 4) ∧ ρ = [some (.t (.lst (ps.map .int))), some (.t (.int top)), some (.o S.length), some (.t (.int (top - roomsOf ts))), k4, k5, k6, k7, k8, k9, none] ∧ S' = S ++ [.lst (ts.map tabD)] ∧ (ts.length : Int) ≤ k ∧ (1 ≤ k → 1 ≤ ts.length) ∧ (ts.length = 0 → roomsOf ts = 0) ∧ (∀ t ∈ ts, TabOk t) ∧ (ts.map Tab.name).Nodup ∧ 0 ≤ roomsOf ts ∧ roomsOf ts ≤ top) ?_ ?_ ?_
  · exact ⟨0, [], none, none, none, none, none, none, by omega, by omega, rfl, by simp [roomsOf], rfl, by simp, by omega, fun _ => rfl, by simp, by simp, by simp [roomsOf], by simp [roomsOf]; omega⟩
  · rintro d ds ρ S' ⟨k, ts, k4, k5, k6, k7, k8, k9, hk0, hk, hl', rfl, rfl, hcl, hk1, hz, hts, hnd, hr1, hr2⟩
    have hlt : k < 1 + sget ps 0 % 4 := by
      rcases Int.lt_or_le k (1 + sget ps 0 % 4) with h | h
      · exact h
      · rw [rangeD_nil h] at hl'; cases hl'
    rw [rangeD_cons hlt] at hl'
    cases hl'
    obtain ⟨ss, hss⟩ : ∃ ss, ss = cutL ps (some (1 + 36 * k)) (some (37 + 36 * k)) := ⟨_, rfl⟩
    have hsl : ss.length = 36 := by
      have := cutL_len (xs := ps) (a := 1 + 36 * k) (b := 37 + 36 * k) (by omega) (by omega) (by omega)
      rw [← hss] at this
      omega
    have hsb : ∀ x ∈ ss, 0 ≤ x ∧ x < 1000 := fun x hx => hb x (cutL_mem (hss ▸ hx))
    have g : slcD (.lst (ps.map .int)) (some (1 + 36 * k)) (some (37 + 36 * k)) = some (.lst (ss.map .int)) := by rw [hss]; exact slc_ints _ _ _
    have g5 : idxD (.lst (ss.map .int)) (.int 5) = some (.int (sget ss 5)) := at_int (j := 5) (by omega)
    have g6 : idxD (.lst (ss.map .int)) (.int 6) = some (.int (sget ss 6)) := at_int (j := 6) (by omega)
    have b5 := hsb _ (sget_mem (ss := ss) (j := 5) (by omega))
    have b6 := hsb _ (sget_mem (ss := ss) (j := 6) (by omega))
    have g7 : slcD (.lst (ss.map .int)) (some 7) none = some (.lst ((cutL ss (some 7) none).map .int)) := slc_ints _ _ _
    have l7 := cutL_from (xs := ss) (a := 7) (by omega) (by omega)
    refine ⟨_, rfl, ?_⟩
    exists 0, g, g5, g6, g7
    · have h := of_decide_eq_true h
      refine RP.of_no (columns_ok hC hN n (cutL ss (some 7) none) _ _ (by omega) (by omega) (fun x hx => hsb x (cutL_mem hx)) (by omega) _) fun v S1 ⟨e, cs, ev, c1, c2, c3, c4⟩ => ?_
      subst e; subst ev
      exists 0, g, g5, g6, g7, no_index (key_ok rfl rfl (by omega) fun key hkl hke => ?_)
      refine rp_lcV tabD (fun t => .str t.name) st_get (by omega) (fun c hc acc => ?_) ?_
      · refine ⟨_, rfl, ?_⟩
        exists 0
      · rw [tnames_map]
        exists 0
        refine RP.of_no (name_ok hN (n + 1) ss (by omega) hsb (ts.map Tab.name) (by simp; omega) (fun t ht => ?_) _) fun v' S1 ⟨e, w, ev, hw, hwn⟩ => ?_
        · obtain ⟨c, hc, rfl⟩ := List.mem_map.mp ht
          exact (hts c hc).name.let_.ok
        · subst e; subst ev
          exists 0, g, g5, g6, g7
          have hm0 := Int.emod_nonneg (sget ss 6) (show ((key : Int) + 1) ≠ 0 by omega)
          have hm1 := Int.emod_lt_of_pos (sget ss 6) (show 0 < (key : Int) + 1 by omega)
          refine ⟨k + 1, ts ++ [⟨w, sget ss 6 % ((key : Int) + 1), cs⟩], _, _, _, _, _, _, by omega, by omega, rfl, by rw [roomsOf_app, Int.sub_sub]; rfl, by rw [List.map_append]; rfl, by simp; omega, by simp, by simp, ?_, ?_, ?_, ?_⟩
          · intro t ht
            rcases List.mem_append.mp ht with ht | ht
            · exact hts t ht
            · cases List.mem_singleton.mp ht
              refine ⟨hw, hm0, fun c hc => hke c ?_, ?_, c2, ?_, ?_, c3⟩
              · have hle : (sget ss 6 % ((key : Int) + 1)).toNat ≤ key := by omega
                exact (List.take_sublist_take_left hle).subset hc
              · show sget ss 6 % ((key : Int) + 1) ≤ (cs.length : Int); omega
              · show 1 ≤ cs.length; omega
              · show cs.length ≤ 4; omega
          · rw [List.map_append, List.nodup_append]
            refine ⟨hnd, by simp, fun a ha c hc => ?_⟩
            simp at hc
            subst hc
            intro e
            exact hwn (e ▸ ha)
          · rw [roomsOf_app]; show 0 ≤ _ + roomOf cs; omega
          · rw [roomsOf_app]; show _ + roomOf cs ≤ _; omega
    · have h := of_decide_eq_false h
      refine ⟨k + 1, ts, _, _, _, _, _, _, by omega, by omega, rfl, rfl, rfl, by omega, fun _ => ?_, hz, hts, hnd, hr1, hr2⟩
      apply Classical.byContradiction
      intro h0
      have := hz (by omega)
      omega
  · rintro ρ S' ⟨k, ts, k4, k5, k6, k7, k8, k9, hk0, hk, hl', rfl, rfl, hcl, hk1, hz, hts, hnd, hr1, hr2⟩
    have hk : k = 1 + sget ps 0 % 4 := by
      rcases Int.lt_or_le k (1 + sget ps 0 % 4) with h | h
      · rw [rangeD_cons h] at hl'; cases hl'
      · omega
    have hs := sort_tabs hts (by omega)
    exists 0, bi_live hs
    exact ⟨hts, hnd, hk1 (by omega), by omega, hr2⟩
end M

/-! loops over typed items -/
namespace M
open PySem PySem.Spec PyProof.Rows L2
section
variable {ρ : Ev} {S : St'} {P : Po} {nx bk ct : NX} {tg : Tg} {body : Ev → St' → Out}
theorem op_fixM {α : Type} {ys : List α} (f : α → D) (I : List α → Ev → St' → Prop) (h0 : I ys ρ S)
    (step : ∀ y ys ρ S, I (y :: ys) ρ S → ∃ ρ', bindTg tg (f y) ρ = some ρ' ∧ OP (body ρ' S) (fun ρ2 S2 => I ys ρ2 S2) noN (fun ρ2 S2 => I ys ρ2 S2) P)
    (h1 : ∀ ρ S, I [] ρ S → nx ρ S) : OP (forSrc tg body (.fix (ys.map f)) ρ S) nx bk ct P := by
  refine op_fix (fun l ρ S => ∃ zs : List α, l = zs.map f ∧ I zs ρ S) ⟨ys, rfl, h0⟩ ?_ ?_
  · rintro d ds ρ S ⟨zs, e, h⟩
    cases zs with
    | nil => cases e
    | cons z zs =>
      rw [List.map_cons] at e
      obtain ⟨rfl, rfl⟩ := List.cons.inj e
      obtain ⟨ρ', h2, h3⟩ := step z zs ρ S h
      exact ⟨ρ', h2, h3.imp (fun _ _ h => ⟨zs, rfl, h⟩) (fun _ _ h => h) (fun _ _ h => h) (fun _ _ h => ⟨zs, rfl, h⟩) (fun _ _ _ _ h => h)⟩
  · rintro ρ S ⟨zs, e, h⟩
    cases zs with
    | nil => exact h1 _ _ h
    | cons z zs => cases e
theorem op_range {a b : Int} (hab : a ≤ b) (I : Int → Ev → St' → Prop) (h0 : I a ρ S)
    (step : ∀ k ρ S, a ≤ k → k < b → I k ρ S → ∃ ρ', bindTg tg (.int k) ρ = some ρ' ∧ OP (body ρ' S) (fun ρ2 S2 => I (k + 1) ρ2 S2) noN (fun ρ2 S2 => I (k + 1) ρ2 S2) P)
    (h1 : ∀ ρ S, I b ρ S → nx ρ S) : OP (forSrc tg body (.fix (rangeD a b)) ρ S) nx bk ct P := by
  refine op_fix (fun l ρ S => ∃ k, a ≤ k ∧ k ≤ b ∧ l = rangeD k b ∧ I k ρ S) ⟨a, by omega, hab, rfl, h0⟩ ?_ ?_
  · rintro d ds ρ S ⟨k, hk0, hk, hl, h⟩
    have hlt : k < b := by
      rcases Int.lt_or_le k b with h | h
      · exact h
      · rw [rangeD_nil h] at hl; cases hl
    rw [rangeD_cons hlt] at hl
    cases hl
    obtain ⟨ρ', h2, h3⟩ := step k ρ S hk0 hlt h
    exact ⟨ρ', h2, h3.imp (fun _ _ h => ⟨k + 1, by omega, by omega, rfl, h⟩) (fun _ _ h => h) (fun _ _ h => h) (fun _ _ h => ⟨k + 1, by omega, by omega, rfl, h⟩) (fun _ _ _ _ h => h)⟩
  · rintro ρ S ⟨k, hk0, hk, hl, h⟩
    have : k = b := by
      rcases Int.lt_or_le k b with h | h
      · rw [rangeD_cons h] at hl; cases hl
      · omega
    subst this
    exact h1 _ _ h
end
theorem rangeD_map (a b : Int) : rangeD a b = ((List.range (b - a).toNat).map fun k : Nat => a + (k : Int)).map D.int := by
  unfold rangeD; rw [List.map_map]; rfl
theorem rangeD0 (n : Nat) : rangeD 0 (n : Int) = (List.range n).map fun k : Nat => D.int (k : Int) := by
  unfold rangeD
  rw [show ((n : Int) - 0).toNat = n by omega]
  exact List.map_congr_left fun k _ => by rw [Int.zero_add]
theorem enumD_map {α : Type} (f : α → D) (xs : List α) : enumD (xs.map f) = xs.zipIdx.map fun p => D.tup [.int (p.2 : Nat), f p.1] := by
  unfold enumD
  rw [List.zipIdx_map, List.map_map]
  rfl
theorem slc_tup {α : Type} (f : α → D) (xs : List α) (lo hi : Option Int) : slcD (.tup (xs.map f)) lo hi = some (.tup ((cutL xs lo hi).map f)) := by
  simp only [slcD, cutD, cutL, List.length_map, List.map_take, List.map_drop]
theorem slc_lst {α : Type} (f : α → D) (xs : List α) (lo hi : Option Int) : slcD (.lst (xs.map f)) lo hi = some (.lst ((cutL xs lo hi).map f)) := by
  simp only [slcD, cutD, cutL, List.length_map, List.map_take, List.map_drop]
theorem cutL_to {α : Type} (xs : List α) {a : Int} (h0 : 0 ≤ a) : cutL xs none (some a) = xs.take a.toNat := by
  have e1 : HT.sIx xs.length 0 none = 0 := rfl
  have e2 : HT.sIx xs.length xs.length (some a) = min a.toNat xs.length := if_neg (by omega)
  rw [cutL, e1, e2, List.drop_zero, Nat.sub_zero, List.take_eq_take_iff]
  omega
theorem cutL_of {α : Type} (xs : List α) {a : Int} (h0 : 0 ≤ a) : cutL xs (some a) none = xs.drop a.toNat := by
  have e1 : HT.sIx xs.length 0 (some a) = min a.toNat xs.length := if_neg (by omega)
  have e2 : HT.sIx xs.length xs.length none = xs.length := rfl
  rw [cutL, e1, e2]
  rw [List.take_of_length_le (by rw [List.length_drop]; omega)]
  by_cases h : a.toNat ≤ xs.length
  · rw [Nat.min_eq_left h]
  · rw [Nat.min_eq_right (by omega), List.drop_length, List.drop_eq_nil_of_le (by omega)]
theorem sorted_ground {us : List Tab} {top : Int} (h : GroundOk us top) : GroundOk (us.mergeSort tabLe) top := by
  have hp := List.mergeSort_perm us tabLe
  refine ⟨fun t ht => h.each t (hp.mem_iff.mp ht), ?_, ?_, ?_, ?_⟩
  · exact (hp.map Tab.name).nodup_iff.mpr h.nd
  · rw [hp.length_eq]; exact h.len1
  · rw [hp.length_eq]; exact h.len4
  · rw [roomsOf_perm hp]; exact h.room
theorem asInts_map {α : Type} (f : α → Int) : ∀ xs : List α, asInts (xs.map fun x => D.int (f x)) = some (xs.map f)
  | [] => rfl
  | x :: xs => by rw [List.map_cons, asInts, asInts_map f xs]; rfl
end M

/-! things of any kind, and what of them is a ground: the program's reading -/
namespace M
open PySem PySem.Spec PyProof.Rows L2
/-- a thing with at most b parts at each place -/
inductive Nc (b : Nat) : D → Prop
  | non : Nc b .non
  | bl (x : Bool) : Nc b (.bl x)
  | int (i : Int) : Nc b (.int i)
  | str {x : Str} : PyData.strOk x = true → x.length ≤ b → Nc b (.str x)
  | tup {xs : List D} : (∀ x ∈ xs, Nc b x) → xs.length ≤ b → Nc b (.tup xs)
  | lst {xs : List D} : (∀ x ∈ xs, Nc b x) → xs.length ≤ b → Nc b (.lst xs)
theorem Nc.mono {b c : Nat} {d : D} (h : Nc b d) (hb : b ≤ c) : Nc c d := by
  induction h with
  | non => exact .non
  | bl x => exact .bl x
  | int x => exact .int x
  | str h1 h2 => exact .str h1 (by omega)
  | tup _ h2 ih => exact .tup ih (by omega)
  | lst _ h2 ih => exact .lst ih (by omega)
theorem Nc.strs {b : Nat} {x : Str} (h : Nc b (.str x)) : PyData.strOk x = true ∧ x.length ≤ b := by cases h; exact ⟨by assumption, by assumption⟩
theorem Nc.tups {b : Nat} {xs : List D} (h : Nc b (.tup xs)) : (∀ x ∈ xs, Nc b x) ∧ xs.length ≤ b := by cases h; exact ⟨by assumption, by assumption⟩
theorem Nc.lsts {b : Nat} {xs : List D} (h : Nc b (.lst xs)) : (∀ x ∈ xs, Nc b x) ∧ xs.length ≤ b := by cases h; exact ⟨by assumption, by assumption⟩
/-! ### the readings -/
def letB (c : Nat) : Bool := decide (97 ≤ c ∧ c ≤ 122)
def nameS (w : Str) : Bool := decide (1 ≤ w.length) && decide (w.length ≤ 8) && !decide (w ∈ barred) && w.cps.toList.all letB
def nameB : D → Bool
  | .str w => nameS w
  | _ => false
def fromB (d : D) (lo hi : Int) : Bool := match d with
  | .int i => decide (lo ≤ i) && decide (i ≤ hi)
  | _ => false
def blB : D → Bool
  | .bl _ => true
  | _ => false
def colB : D → Bool
  | .tup [a, b, c] => nameB a && (fromB b 1 9 && blB c)
  | _ => false
def fstD : D → D
  | .tup (a :: _) => a
  | _ => .non
def trdB : D → Bool
  | .tup [_, _, .bl x] => x
  | _ => false
def strD : D → Str
  | .str x => x
  | _ => ""
def intD : D → Int
  | .int i => i
  | _ => 0
def namesOf (cs : List D) : List Str := cs.map fun c => strD (fstD c)
def tabB : D → Bool
  | .tup [a, b, .tup cs] => nameB a && (decide (1 ≤ cs.length) && decide (cs.length ≤ 4)) && cs.all colB && decide (namesOf cs).Nodup && fromB b 0 cs.length && !((cs.take (intD b).toNat).any trdB)
  | _ => false
def rises : List Str → Bool
  | a :: b :: r => decide (a.cps.toList < b.cps.toList) && rises (b :: r)
  | _ => true
def groundB : D → Bool
  | .tup ts => (decide (1 ≤ ts.length) && decide (ts.length ≤ 4)) && ts.all tabB && rises (namesOf ts)
  | _ => false
theorem all_bls {α : Type} (f : α → Bool) (xs : List α) : biD .all [.lst (xs.map fun x => D.bl (f x))] = some (.bl (xs.all f)) := by
  simp only [biD, asBls_map, Option.map_some, List.all_map]
  rfl
theorem any_bls {α : Type} (f : α → Bool) (xs : List α) : biD .any [.lst (xs.map fun x => D.bl (f x))] = some (.bl (xs.any f)) := by
  simp only [biD, asBls_map, Option.map_some, List.any_map]
  rfl
theorem asStrs_map : ∀ xs : List Str, asStrs (xs.map D.str) = some xs
  | [] => rfl
  | x :: xs => by rw [List.map_cons, asStrs, asStrs_map xs]; rfl
theorem lenset_strs {xs : List Str} (h : xs.length ≤ 1000) (d : D) (hd : d = .tup (xs.map D.str) ∨ d = .lst (xs.map D.str)) : lensetD d = some (.int ((dset xs).length : Nat)) := by
  have e : sqOf d = some (xs.map D.str) := by rcases hd with rfl | rfl <;> rfl
  unfold lensetD
  rw [e, Option.bind_some, asStrs_map, Option.bind_some, if_pos]
  have : scanBound = 4096 := by decide +kernel
  omega
theorem dset_full {α : Type} [DecidableEq α] (xs : List α) : ((dset xs).length = xs.length) ↔ xs.Nodup := by
  constructor
  · intro h
    have hs : ∀ x ∈ xs, x ∈ dset xs := fun x hx => (dset_mem x xs).mpr hx
    apply Classical.byContradiction
    intro hn
    have : (dset xs).length < xs.length := by
      clear h hs
      suffices key : ∀ (n : Nat) (xs : List α), xs.length = n → ¬ xs.Nodup → (dset xs).length < n from key _ xs rfl hn
      intro n
      induction n with
      | zero => intro xs hl hn; cases xs with
        | nil => exact absurd List.nodup_nil hn
        | cons => simp at hl
      | succ n ih =>
        intro xs hl hn
        obtain ⟨ys, y, rfl⟩ : ∃ ys y, xs = ys ++ [y] := ⟨xs.dropLast, xs.getLast (by intro e; rw [e] at hl; simp at hl), (List.dropLast_concat_getLast _).symm⟩
        have hyl : ys.length = n := by simpa using hl
        rw [dset_len]
        by_cases hy : y ∈ ys
        · rw [if_pos hy]
          have := dset_le _ ys hyl
          omega
        · rw [if_neg hy]
          have : ¬ ys.Nodup := fun z => hn (by
            rw [List.nodup_append]
            exact ⟨z, by simp, fun a ha b hb => by rw [List.mem_singleton.mp hb]; exact fun e => hy (e ▸ ha)⟩)
          have := ih ys hyl this
          omega
    omega
  · intro hn
    have h1 := dset_le _ xs rfl
    have h2 := nodup_le hn (ts := dset xs) fun x hx => (dset_mem x xs).mpr hx
    omega
def c_KEPT_WORDS : D := (D.tup [(D.str "rows"), (D.str "view"), (D.str "where"), (D.str "keep"), (D.str "named"), (D.str "pairs"), (D.str "both"), (D.str "less"), (D.str "count"), (D.str "seal"), (D.str "and"), (D.str "or"), (D.str "not"), (D.str "mine"), (D.str "empty"), (D.str "loud"), (D.str "yes"), (D.str "has")])
def c_LETTERS : D := (D.str "abcdefghijklmnopqrstuvwxyz")
/-- is_whole(thing): 0 thing -/
def f_is_whole : Fn := ⟨1, 1,
  [(.ret (.and (.isi (.var 0) .int) (.not (.isi (.var 0) .bool))))]⟩
/-- is_from(thing, least, most): 0 thing, 1 least, 2 most -/
def f_is_from (i_is_whole : Nat) : Fn := ⟨3, 3,
  [(.ret (.and (.call i_is_whole [(.var 0)]) (.and (.cmp .le (.var 1) (.var 0)) (.cmp .le (.var 0) (.var 2)))))]⟩
/-- is_name(thing): 0 thing, 1 sign -/
def f_is_name : Fn := ⟨1, 2,
  [(.ife (.or (.not (.isi (.var 0) .str)) (.or (.cmp .lt (.bi .len [(.var 0)]) (.lit (D.int 1))) (.or (.cmp .gt (.bi .len [(.var 0)]) (.lit (D.int 8))) (.cmp .isin (.var 0) (.glb "KEPT_WORDS" c_KEPT_WORDS))))) [(.ret (.lit (D.bl false)))] []),
  (.ret (.bi .all [(.lc (.v 1) (.of (.var 0)) [] (.cmp .isin (.var 1) (.glb "LETTERS" c_LETTERS)))]))]⟩
/-- are_names(thing): 0 thing, 1 name -/
def f_are_names (i_is_name : Nat) : Fn := ⟨1, 2,
  [(.ife (.or (.not (.isi (.var 0) .tuple)) (.cmp .eq (.bi .len [(.var 0)]) (.lit (D.int 0)))) [(.ret (.lit (D.bl false)))] []),
  (.ret (.and (.bi .all [(.lc (.v 1) (.of (.var 0)) [] (.call i_is_name [(.var 1)]))]) (.cmp .eq (.fz .lenset [(.var 0)]) (.bi .len [(.var 0)]))))]⟩
/-- is_column(thing): 0 thing -/
def f_is_column (i_is_from i_is_name : Nat) : Fn := ⟨1, 1,
  [(.ife (.or (.not (.isi (.var 0) .tuple)) (.cmp .ne (.bi .len [(.var 0)]) (.lit (D.int 3)))) [(.ret (.lit (D.bl false)))] []),
  (.ret (.and (.call i_is_name [(.idx (.var 0) (.lit (D.int 0)))]) (.and (.call i_is_from [(.idx (.var 0) (.lit (D.int 1))), (.lit (D.int 1)), (.lit (D.int 9))]) (.isi (.idx (.var 0) (.lit (D.int 2))) .bool))))]⟩
/-- is_table(thing): 0 thing, 1 columns, 2 column -/
def f_is_table (i_is_name i_are_names i_names_of i_is_column i_is_from : Nat) : Fn := ⟨1, 3,
  [(.ife (.or (.not (.isi (.var 0) .tuple)) (.or (.cmp .ne (.bi .len [(.var 0)]) (.lit (D.int 3))) (.not (.call i_is_name [(.idx (.var 0) (.lit (D.int 0)))])))) [(.ret (.lit (D.bl false)))] []),
  (.asg (.v 1) (.idx (.var 0) (.lit (D.int 2)))),
  (.ife (.or (.not (.isi (.var 1) .tuple)) (.not (.cmp2 .le .le (.lit (D.int 1)) (.bi .len [(.var 1)]) (.lit (D.int 4))))) [(.ret (.lit (D.bl false)))] []),
  (.ife (.or (.not (.bi .all [(.lc (.v 2) (.of (.var 1)) [] (.call i_is_column [(.var 2)]))])) (.not (.call i_are_names [(.call i_names_of [(.var 0)])]))) [(.ret (.lit (D.bl false)))] []),
  (.ret (.and (.call i_is_from [(.idx (.var 0) (.lit (D.int 1))), (.lit (D.int 0)), (.bi .len [(.var 1)])]) (.not (.bi .any [(.lc (.v 2) (.of (.slc (.var 1) [] [(.idx (.var 0) (.lit (D.int 1)))])) [] (.idx (.var 2) (.lit (D.int 2))))]))))]⟩
/-- is_ground(thing): 0 thing, 1 table, 2 one, 3 other -/
def f_is_ground (i_is_table : Nat) : Fn := ⟨1, 4,
  [(.ife (.or (.not (.isi (.var 0) .tuple)) (.not (.cmp2 .le .le (.lit (D.int 1)) (.bi .len [(.var 0)]) (.lit (D.int 4))))) [(.ret (.lit (D.bl false)))] []),
  (.ife (.not (.bi .all [(.lc (.v 1) (.of (.var 0)) [] (.call i_is_table [(.var 1)]))])) [(.ret (.lit (D.bl false)))] []),
  (.ret (.bi .all [(.lc (.tp [2, 3]) (.zip (.var 0) (.slc (.var 0) [(.lit (D.int 1))] [])) [] (.cmp .lt (.idx (.var 2) (.lit (D.int 0))) (.idx (.var 3) (.lit (D.int 0)))))]))]⟩
/-- names_of(table): 0 table, 1 column -/
def f_names_of : Fn := ⟨1, 2,
  [(.ret (.bi .tuple [(.lc (.v 1) (.of (.idx (.var 0) (.lit (D.int 2)))) [] (.idx (.var 1) (.lit (D.int 0))))]))]⟩
theorem t_f (h : true = false) : False := by cases h
theorem f_t (h : false = true) : False := by cases h
abbrev Is (S : St') (d : D) : SV → St' → Prop := fun v S' => S' = S ∧ v = .t d
theorem rp_lcI {F : FS} {tg : Tg} {e : ME} {ρ : Ev} {S : St'} {P : List D → St' → Prop} {E : EX} {ys : List D} (g : D → D) (hl : ys.length ≤ 16777216)
    (h : ∀ y ∈ ys, ∀ acc, ∃ ρ', bindTg tg y ρ = some ρ' ∧ RP (evalE F e ρ' (S ++ [.lst acc])) (fun x S2 => x = .t (g y) ∧ S2 = S ++ [.lst acc]) noE)
    (hp : P (ys.map g) S) : RP (lcSrc tg (tests (evalCs F [])) (evalE F e) (.fix ys) ρ S) P E := by
  have := rp_lcM (F := F) (tg := tg) (e := e) (ρ := ρ) (S := S) (P := P) (E := E) (ys := ys) (fun y => y) g hl h hp
  rwa [List.map_id'] at this
theorem strIn_ltr (c : Nat) : strIn ⟨#[c]⟩ LTR = letB c := by
  unfold strIn letB
  simp only
  apply decide_eq_decide.mpr
  rw [ltr_list, List.mem_map]
  constructor
  · rintro ⟨k, hk, rfl⟩
    have := List.mem_range.mp hk
    omega
  · intro h
    exact ⟨c - 97, List.mem_range.mpr (by omega), by omega⟩
theorem is_whole_ok {T : List Fn} {i : Nat} (hT : T[i]? = some f_is_whole) (n : Nat) (d : D) (S : St') : RP (FT T (n + 1) i [.t d] S) (Is S (.bl (match d with | .int _ => true | _ => false))) noE := by
  refine rp_fn hT rfl rfl ?_
  simp only [f_is_whole, pad]
  cases d <;> exists 1
theorem is_from_ok {T : List Fn} {i iW : Nat} (hT : T[i]? = some (f_is_from iW)) (hW : T[iW]? = some f_is_whole) (n : Nat) (d : D) (lo hi : Int) (S : St') : RP (FT T (n + 2) i [.t d, .t (.int lo), .t (.int hi)] S) (Is S (.bl (fromB d lo hi))) noE := by
  refine rp_fn hT rfl rfl ?_
  simp only [f_is_from, pad]
  exists 1
  refine RP.of_no (is_whole_ok hW n d S) fun v S1 ⟨e1, e2⟩ => ?_
  subst e1; subst e2
  cases d <;> exists 1
  · simp only [fromB, h, Bool.true_and]
  · simp only [fromB, h, Bool.false_and]
theorem kept_in {x : Str} (h : PyData.strOk x = true) : cmpD .isin (.str x) c_KEPT_WORDS = some (decide (x ∈ barred)) := by
  have e : c_KEPT_WORDS = .tup (barred.map .str) := rfl
  rw [e]
  have h1 : okD (.str x) = true := (Ok.str (k := 0) h).okD (by omega)
  have h2 : okD (.tup (barred.map .str)) = true := (Ok.tup (k := 0) fun x hx => by
    obtain ⟨t, ht', rfl⟩ := List.mem_map.mp hx
    exact Ok.str (bar_ok t ht')).okD (by omega)
  simp only [cmpD, inD, h1, h2, Bool.and_self, if_true, any_strs]
theorem is_name_ok {T : List Fn} {i b : Nat} (hT : T[i]? = some f_is_name) (n : Nat) {d : D} (hd : Nc b d) (hb : b ≤ 1000) (S : St') : RP (FT T (n + 1) i [.t d] S) (Is S (.bl (nameB d))) noE := by
  refine rp_fn hT rfl rfl ?_
  simp only [f_is_name, pad]
  cases hd with
  | @str x ho hl =>
    have e1 : biD .len [.str x] = some (.int x.length) := if_pos (le_sz' (by omega))
    have e2 := kept_in ho
    exists 1, e1, e2
    · have := of_decide_eq_true h
      simp [nameB, nameS]
      omega
    · have := of_decide_eq_true h
      simp [nameB, nameS]
      omega
    · simp only [nameB, nameS, h]
      simp
    · rename_i h1 h2
      have h1 := of_decide_eq_false h1
      have h2 := of_decide_eq_false h2
      refine rp_lcM (fun c => D.str ⟨#[c]⟩) (fun c => .bl (letB c)) (by rw [← len_list]; omega) (fun c hc acc => ?_) ?_
      · have e3 : cmpD .isin (.str ⟨#[c]⟩) c_LETTERS = some (letB c) := by
          simp only [cmpD, c_LETTERS, inD, strIn_ltr]
        refine ⟨_, rfl, ?_⟩
        exists 1, e3
      · exists 1, all_bls letB x.cps.toList
        have h3 : 1 ≤ x.length := by omega
        have h4 : x.length ≤ 8 := by omega
        simp only [nameB, nameS, h, h3, h4, decide_true, Bool.true_and, Bool.not_false]
  | _ => exists 1
theorem at0 (a : D) (r : List D) : atI (a :: r) 0 = some a := L2.atI_nat (j := 0) rfl
theorem at1 (a b : D) (r : List D) : atI (a :: b :: r) 1 = some b := L2.atI_nat (j := 1) rfl
theorem at2 (a b c : D) (r : List D) : atI (a :: b :: c :: r) 2 = some c := L2.atI_nat (j := 2) rfl
theorem three {xs : List D} (h : (xs.length : Int) = 3) : ∃ a b c, xs = [a, b, c] := by
  match xs, h with
  | [a, b, c], _ => exact ⟨a, b, c, rfl⟩
  | [], h => simp at h
  | [_], h => simp at h
  | [_, _], h => simp at h
  | _ :: _ :: _ :: _ :: _, h => simp at h; omega
theorem is_column_ok {T : List Fn} {i iW iF iN b : Nat} (hT : T[i]? = some (f_is_column iF iN)) (hW : T[iW]? = some f_is_whole) (hF : T[iF]? = some (f_is_from iW)) (hN : T[iN]? = some f_is_name) (n : Nat) {d : D} (hd : Nc b d) (hb : b ≤ 1000) (S : St') : RP (FT T (n + 3) i [.t d] S) (Is S (.bl (colB d))) noE := by
  refine rp_fn hT rfl rfl ?_
  simp only [f_is_column, pad]
  cases hd with
  | @tup xs hx hl =>
    exists 1
    · have hne : ¬ (xs.length : Int) = 3 := by
        intro e
        have h' : (!deq (.int xs.length) (.int 3)) = true := h
        rw [deq, e] at h'
        cases h'
      match xs, hne with
      | [a, b, c], h => exact absurd rfl h
      | [], _ => rfl
      | [_], _ => rfl
      | [_, _], _ => rfl
      | _ :: _ :: _ :: _ :: _, _ => rfl
    · have h' : (!deq (.int xs.length) (.int 3)) = false := h
      rw [deq] at h'
      have h3 : (xs.length : Int) = 3 := by simpa using h'
      obtain ⟨x, y, z, rfl⟩ := three h3
      have q0 := at0 x [y, z]
      have q1 := at1 x y [z]
      have q2 := at2 x y z []
      exists 1, q0, q1, q2
      refine RP.of_no (is_name_ok hN (n + 1) (hx x (by simp)) hb S) fun v S1 ⟨e1, e2⟩ => ?_
      subst e1; subst e2
      exists 1, q0, q1, q2
      · refine RP.of_no (is_from_ok hF hW n y 1 9 _) fun v S1 ⟨e1, e2⟩ => ?_
        subst e1; subst e2
        exists 1, q0, q1, q2
        · cases z <;> simp [colB, blB, isiD, *]
        · simp [colB, *]
      · simp [colB, *]
  | _ => exists 1
theorem colB_shape {c : D} (h : colB c = true) : ∃ w lo x, c = .tup [.str w, .int lo, .bl x] ∧ nameS w = true ∧ 1 ≤ lo ∧ lo ≤ 9 := by
  cases c with
  | tup xs =>
    match xs, h with
    | [a, b, c], h =>
      simp only [colB, Bool.and_eq_true] at h
      obtain ⟨h1, h2, h3⟩ := h
      cases a <;> simp only [nameB, Bool.false_eq_true] at h1
      cases b <;> simp only [fromB, Bool.false_eq_true, Bool.and_eq_true, decide_eq_true_eq] at h2
      cases c <;> simp only [blB, Bool.false_eq_true] at h3
      exact ⟨_, _, _, rfl, h1, h2⟩
    | [], h => cases h
    | [_], h => cases h
    | [_, _], h => cases h
    | _ :: _ :: _ :: _ :: _, h => cases h
  | _ => cases h
theorem col_at0 {c : D} (h : colB c = true) : idxD c (.int 0) = some (.str (strD (fstD c))) := by
  obtain ⟨w, lo, x, rfl, -⟩ := colB_shape h
  exact at0 _ _
theorem col_at2 {c : D} (h : colB c = true) : idxD c (.int 2) = some (.bl (trdB c)) := by
  obtain ⟨w, lo, x, rfl, -⟩ := colB_shape h
  exact at2 _ _ _ _
theorem col_name {c : D} (h : colB c = true) : nameS (strD (fstD c)) = true := by
  obtain ⟨w, lo, x, rfl, h, -⟩ := colB_shape h
  exact h
theorem nameS_ok {w : Str} (h : nameS w = true) : PyData.strOk w = true ∧ w.length ≤ 8 ∧ 1 ≤ w.length := by
  simp only [nameS, Bool.and_eq_true, decide_eq_true_eq, List.all_eq_true] at h
  refine ⟨Lw.ok fun c hc => ?_, h.1.1.2, h.1.1.1⟩
  exact of_decide_eq_true (h.2 c hc)
def areB : D → Bool
  | .tup xs => !xs.isEmpty && (xs.all nameB && decide (xs.map strD).Nodup)
  | _ => false
theorem names_strs {xs : List D} (h : xs.all nameB = true) : xs = (xs.map strD).map D.str := by
  rw [List.map_map]
  conv => lhs; rw [← List.map_id xs]
  apply List.map_congr_left
  intro x hx
  have := List.all_eq_true.mp h x hx
  cases x <;> first | rfl | cases this
theorem are_names_ok {T : List Fn} {i iN b : Nat} (hT : T[i]? = some (f_are_names iN)) (hN : T[iN]? = some f_is_name) (n : Nat) {d : D} (hd : Nc b d) (hb : b ≤ 1000) (S : St') : RP (FT T (n + 2) i [.t d] S) (Is S (.bl (areB d))) noE := by
  refine rp_fn hT rfl rfl ?_
  simp only [f_are_names, pad]
  cases hd with
  | @tup xs hx hl =>
    exists 1
    · have h' : deq (.int xs.length) (.int 0) = true := h
      rw [deq] at h'
      have : xs = [] := by simpa using h'
      subst this
      rfl
    · have h' : deq (.int xs.length) (.int 0) = false := h
      rw [deq] at h'
      have hne : xs ≠ [] := by intro e; subst e; simp at h'
      have hie : xs.isEmpty = false := by cases xs with
        | nil => exact absurd rfl hne
        | cons => rfl
      refine rp_lcI (fun x => .bl (nameB x)) (by omega) (fun x hxx acc => ?_) ?_
      · refine ⟨_, rfl, ?_⟩
        exists 1
        refine RP.of_no (is_name_ok hN n (hx x hxx) hb _) fun v S1 ⟨e1, e2⟩ => ⟨e2, e1⟩
      · exists 1, all_bls nameB xs
        · have es := names_strs h
          have e1 : lensetD (.tup xs) = some (.int ((dset (xs.map strD)).length : Nat)) := lenset_strs (by simpa using Nat.le_trans hl hb) _ (.inl (by rw [← es]))
          exists 1, e1
          simp only [areB, hie, h, Bool.not_false, Bool.true_and]
          congr 2
          rw [deq]
          have e2 := dset_full (xs.map strD)
          rw [List.length_map] at e2
          by_cases hn : (xs.map strD).Nodup
          · have e3 := e2.mpr hn
            simp only [hn, decide_true, beq_iff_eq]
            omega
          · have : ¬ (dset (xs.map strD)).length = xs.length := fun e => hn (e2.mp e)
            simp only [hn, decide_false, beq_eq_false_iff_ne, ne_eq]
            omega
        · simp [areB, *]
  | _ => exists 1
theorem names_of_ok {T : List Fn} {i : Nat} (hT : T[i]? = some f_names_of) (n : Nat) {a b : D} {cs : List D} (hc : cs.all colB = true) (hl : cs.length ≤ 1000) (S : St') : RP (FT T (n + 1) i [.t (.tup [a, b, .tup cs])] S) (Is S (.tup ((namesOf cs).map .str))) noE := by
  refine rp_fn hT rfl rfl ?_
  simp only [f_names_of, pad]
  have q2 := at2 a b (.tup cs) []
  exists 1, q2
  refine rp_lcI (fun c => .str (strD (fstD c))) (by omega) (fun x hx acc => ?_) ?_
  · refine ⟨_, rfl, ?_⟩
    exists 1, col_at0 (List.all_eq_true.mp hc x hx)
  · exists 1
    simp only [namesOf, List.map_map]
    rfl
theorem tabB_len {xs : List D} (h : ¬ (xs.length : Int) = 3) : tabB (.tup xs) = false := by
  cases xs with
  | nil => rfl
  | cons a xs => cases xs with
    | nil => rfl
    | cons b xs => cases xs with
      | nil => rfl
      | cons c xs => cases xs with
        | nil => exact absurd rfl h
        | cons d xs => cases c <;> rfl
theorem cut_to (xs : List D) {a : Int} (h0 : 0 ≤ a) : cutD xs none (some a) = xs.take a.toNat := cutL_to xs h0
theorem names_nc {cs : List D} (hc : cs.all colB = true) (hl : cs.length ≤ 1000) : Nc 1000 (.tup ((namesOf cs).map .str)) := by
  refine .tup (fun x hx => ?_) (by simpa [namesOf] using hl)
  obtain ⟨w, hw, rfl⟩ := List.mem_map.mp hx
  obtain ⟨c, hc', rfl⟩ := List.mem_map.mp hw
  have := nameS_ok (col_name (List.all_eq_true.mp hc c hc'))
  exact .str this.1 (by omega)
theorem names_are {cs : List D} (hc : cs.all colB = true) (hl : 1 ≤ cs.length) : areB (.tup ((namesOf cs).map .str)) = decide (namesOf cs).Nodup := by
  have h1 : (((namesOf cs).map D.str).all nameB) = true := by
    rw [List.all_eq_true]
    intro x hx
    obtain ⟨w, hw, rfl⟩ := List.mem_map.mp hx
    obtain ⟨c, hc', rfl⟩ := List.mem_map.mp hw
    exact col_name (List.all_eq_true.mp hc c hc')
  have h2 : ((namesOf cs).map D.str).isEmpty = false := by
    cases cs with
    | nil => simp at hl
    | cons => rfl
  have h3 : ((namesOf cs).map D.str).map strD = namesOf cs := by rw [List.map_map]; exact List.map_id _
  simp only [areB, h1, h2, h3, Bool.not_false, Bool.true_and]
theorem is_table_ok {T : List Fn} {i iW iF iN iA iO iC b : Nat} (hT : T[i]? = some (f_is_table iN iA iO iC iF)) (hW : T[iW]? = some f_is_whole) (hF : T[iF]? = some (f_is_from iW)) (hN : T[iN]? = some f_is_name) (hA : T[iA]? = some (f_are_names iN)) (hO : T[iO]? = some f_names_of) (hC : T[iC]? = some (f_is_column iF iN)) (n : Nat) {d : D} (hd : Nc b d) (hb : b ≤ 1000) (S : St') : RP (FT T (n + 4) i [.t d] S) (Is S (.bl (tabB d))) noE := by
  refine rp_fn hT rfl rfl ?_
  simp only [f_is_table, pad]
  cases hd with
  | @tup xs hx hl =>
    by_cases h3 : (xs.length : Int) = 3
    · obtain ⟨x, y, z, rfl⟩ := three h3
      have q0 := at0 x [y, z]
      have q1 := at1 x y [z]
      have q2 := at2 x y z []
      have hz := hx z (by simp)
      exists 1, q0, q1, q2
      refine RP.of_no (is_name_ok hN (n + 2) (hx x (by simp)) hb S) fun v S1 ⟨e1, e2⟩ => ?_
      subst e1; subst e2
      cases hz with
      | @tup cs hcx hcl =>
        exists 1, q0, q1, q2
        · rename_i hn h0 h1
          have h1 : 1 ≤ cs.length := by have := of_decide_eq_true h1; omega
          have h4 : cs.length ≤ 4 := by have := of_decide_eq_true h; omega
          refine rp_lcI (fun x => .bl (colB x)) (by omega) (fun x hxx acc => ?_) ?_
          · refine ⟨_, rfl, ?_⟩
            exists 1
            exact RP.of_no (is_column_ok hC hW hF hN n (hcx x hxx) hb _) fun v S1 ⟨e1, e2⟩ => ⟨e2, e1⟩
          · exists 1, all_bls colB cs
            · have hall := h
              refine RP.of_no (names_of_ok hO (n + 2) hall (by omega) _) fun v S1 ⟨e1, e2⟩ => ?_
              subst e1; subst e2
              exists 1
              refine RP.of_no (are_names_ok hA hN (n + 1) (names_nc hall (by omega)) (by omega) _) fun v S1 ⟨e1, e2⟩ => ?_
              subst e1; subst e2
              rw [names_are hall h1]
              exists 1, q0, q1, q2
              · rename_i hnd
                refine RP.of_no (is_from_ok hF hW (n + 1) y 0 _ _) fun v S1 ⟨e1, e2⟩ => ?_
                subst e1; subst e2
                cases y with
                | int k =>
                  exists 1, q0, q1, q2
                  · have hk := h
                    have hk' : 0 ≤ k := by
                      simp only [fromB, Bool.and_eq_true, decide_eq_true_eq] at hk
                      exact hk.1
                    have ec := cut_to cs hk'
                    rw [ec]
                    refine rp_lcI (fun x => .bl (trdB x)) (by rw [List.length_take]; omega) (fun x hxx acc => ?_) ?_
                    · refine ⟨_, rfl, ?_⟩
                      exists 1, col_at2 (List.all_eq_true.mp hall x (List.mem_of_mem_take hxx))
                    · exists 1, any_bls trdB (cs.take k.toNat)
                      simp [tabB, *, intD]
                  · simp [tabB, *]
                | _ =>
                  exists 1
                  simp [tabB, fromB]
              · simp [tabB, *]
            · simp [tabB, *]
        · have h2 : ¬ (cs.length ≤ 4) := by have := of_decide_eq_false h; omega
          simp [tabB, h2]
        · rename_i h'
          have h2 : ¬ (1 ≤ cs.length) := by have := of_decide_eq_false h'; omega
          simp [tabB, h2]
        · simp [tabB, *]
      | _ =>
        exists 1, q0, q1, q2
        all_goals (try simp [tabB, *])
    · have h3' : deq (.int xs.length) (.int 3) = false := by
        rw [deq]; exact beq_eq_false_iff_ne.mpr h3
      have e1 : cmpD .ne (.int xs.length) (.int 3) = some true := by simp only [cmpD, scalD, Bool.true_or, if_true, h3', Bool.not_false]
      rw [tabB_len h3]
      exists 1, e1
  | _ => exists 1
end M

/-! a ground: the program's reading, the laws' reading -/
namespace M
open PySem PySem.Spec PyProof.Rows L2
theorem tabB_shape {t : D} (h : tabB t = true) : ∃ w k cs, t = .tup [.str w, .int k, .tup cs] ∧ nameS w = true := by
  cases t with
  | tup xs =>
    by_cases h3 : (xs.length : Int) = 3
    · obtain ⟨x, y, z, rfl⟩ := three h3
      cases z with
      | tup cs =>
        simp only [tabB, Bool.and_eq_true] at h
        obtain ⟨⟨⟨⟨⟨h1, -⟩, -⟩, -⟩, h5⟩, -⟩ := h
        cases x <;> simp only [nameB, Bool.false_eq_true] at h1
        cases y <;> simp only [fromB, Bool.false_eq_true] at h5
        exact ⟨_, _, _, rfl, h1⟩
      | _ => cases h
    · rw [tabB_len h3] at h; cases h
  | _ => cases h
theorem tab_at0 {c : D} (h : tabB c = true) : idxD c (.int 0) = some (.str (strD (fstD c))) := by
  obtain ⟨w, lo, x, rfl, -⟩ := tabB_shape h
  exact at0 _ _
theorem tab_name {c : D} (h : tabB c = true) : nameS (strD (fstD c)) = true := by
  obtain ⟨w, lo, x, rfl, h'⟩ := tabB_shape h
  exact h'
theorem rises_zip : ∀ ts : List D, ((ts.zip (ts.drop 1)).all fun p => decide ((strD (fstD p.1)).cps.toList < (strD (fstD p.2)).cps.toList)) = rises (namesOf ts)
  | [] => rfl
  | [_] => rfl
  | a :: b :: r => by
    have := rises_zip (b :: r)
    simp only [List.drop_succ_cons, List.drop_zero, List.zip_cons_cons, List.all_cons, namesOf, List.map_cons, rises] at this ⊢
    rw [this]
theorem cut_of (xs : List D) {a : Int} (h0 : 0 ≤ a) : cutD xs (some a) none = xs.drop a.toNat := cutL_of xs h0
theorem is_ground_ok {T : List Fn} {i iW iF iN iA iO iC iT b : Nat} (hT : T[i]? = some (f_is_ground iT)) (hTa : T[iT]? = some (f_is_table iN iA iO iC iF)) (hW : T[iW]? = some f_is_whole) (hF : T[iF]? = some (f_is_from iW)) (hN : T[iN]? = some f_is_name) (hA : T[iA]? = some (f_are_names iN)) (hO : T[iO]? = some f_names_of) (hC : T[iC]? = some (f_is_column iF iN)) (n : Nat) {d : D} (hd : Nc b d) (hb : b ≤ 1000) (S : St') : RP (FT T (n + 5) i [.t d] S) (Is S (.bl (groundB d))) noE := by
  refine rp_fn hT rfl rfl ?_
  simp only [f_is_ground, pad]
  cases hd with
  | @tup ts hx hl =>
    exists 1
    · rename_i h0 h1
      have h1 : 1 ≤ ts.length := by have := of_decide_eq_true h1; omega
      have h4 : ts.length ≤ 4 := by have := of_decide_eq_true h; omega
      refine rp_lcI (fun x => .bl (tabB x)) (by omega) (fun x hxx acc => ?_) ?_
      · refine ⟨_, rfl, ?_⟩
        exists 1
        exact RP.of_no (is_table_ok hTa hW hF hN hA hO hC n (hx x hxx) hb _) fun v S1 ⟨e1, e2⟩ => ⟨e2, e1⟩
      · exists 1, all_bls tabB ts
        · have hall := h
          have ec := cut_of ts (a := 1) (by omega)
          rw [ec]
          refine ⟨ts, ts.drop 1, .inr ⟨rfl, rfl⟩, ?_⟩
          unfold zipD
          have hall2 : ∀ t ∈ ts, tabB t = true := List.all_eq_true.mp hall
          refine rp_lcM (ys := ts.zip (ts.drop 1)) (fun p : D × D => D.tup [p.1, p.2]) (fun p => .bl (decide ((strD (fstD p.1)).cps.toList < (strD (fstD p.2)).cps.toList))) (by rw [List.length_zip]; omega) (fun p hp acc => ?_) ?_
          · obtain ⟨p1, p2⟩ := List.of_mem_zip hp
            have a1 := tab_at0 (hall2 _ p1)
            have a2 := tab_at0 (hall2 _ (List.mem_of_mem_drop p2))
            refine ⟨_, rfl, ?_⟩
            exists 1, a1, a2
          · exists 1, all_bls _ _
            rw [rises_zip]
            simp [groundB, *]
        · simp [groundB, *]
    · have h2 : ¬ (ts.length ≤ 4) := by have := of_decide_eq_false h; omega
      simp [groundB, h2]
    · rename_i h'
      have h2 : ¬ (1 ≤ ts.length) := by have := of_decide_eq_false h'; omega
      simp [groundB, h2]
  | _ => exists 1
/-- _law_from(thing, least, top): 0 thing, 1 least, 2 top -/
def f__law_from : Fn := ⟨3, 3,
  [(.ret (.and (.isi (.var 0) .int) (.and (.not (.isi (.var 0) .bool)) (.and (.cmp .le (.var 1) (.var 0)) (.cmp .le (.var 0) (.var 2))))))]⟩
/-- _law_is_name(thing): 0 thing, 1 barred, 2 sign -/
def f__law_is_name : Fn := ⟨1, 3,
  [(.asg (.v 1) (.lst [(.lit (D.str "rows")), (.lit (D.str "view")), (.lit (D.str "where")), (.lit (D.str "keep")), (.lit (D.str "named")), (.lit (D.str "pairs")), (.lit (D.str "both")), (.lit (D.str "less")), (.lit (D.str "count")), (.lit (D.str "seal")), (.lit (D.str "and")), (.lit (D.str "or"))])),
  (.asg (.v 1) (.bin .add (.var 1) (.lst [(.lit (D.str "not")), (.lit (D.str "mine")), (.lit (D.str "empty")), (.lit (D.str "loud")), (.lit (D.str "yes")), (.lit (D.str "has"))]))),
  (.ife (.or (.not (.isi (.var 0) .str)) (.or (.cmp .isin (.var 0) (.var 1)) (.cmp .gt (.bi .len [(.var 0)]) (.lit (D.int 8))))) [(.ret (.lit (D.bl false)))] []),
  (.ret (.and (.cmp .ne (.var 0) (.lit (D.str ""))) (.bi .all [(.lc (.v 2) (.of (.var 0)) [] (.cmp .isin (.var 2) (.lit (D.str "abcdefghijklmnopqrstuvwxyz"))))])))]⟩
/-- _law_is_column(thing): 0 thing -/
def f__law_is_column (i__law_from i__law_is_name : Nat) : Fn := ⟨1, 1,
  [(.ife (.or (.not (.isi (.var 0) .tuple)) (.cmp .ne (.bi .len [(.var 0)]) (.lit (D.int 3)))) [(.ret (.lit (D.bl false)))] []),
  (.ret (.and (.call i__law_is_name [(.idx (.var 0) (.lit (D.int 0)))]) (.and (.call i__law_from [(.idx (.var 0) (.lit (D.int 1))), (.lit (D.int 1)), (.lit (D.int 9))]) (.isi (.idx (.var 0) (.lit (D.int 2))) .bool))))]⟩
/-- _law_is_table(thing): 0 thing, 1 names, 2 one -/
def f__law_is_table (i__law_from i__law_is_name i__law_is_column : Nat) : Fn := ⟨1, 3,
  [(.ife (.or (.not (.isi (.var 0) .tuple)) (.or (.cmp .ne (.bi .len [(.var 0)]) (.lit (D.int 3))) (.not (.isi (.idx (.var 0) (.lit (D.int 2))) .tuple)))) [(.ret (.lit (D.bl false)))] []),
  (.ife (.or (.not (.call i__law_is_name [(.idx (.var 0) (.lit (D.int 0)))])) (.not (.call i__law_from [(.bi .len [(.idx (.var 0) (.lit (D.int 2)))]), (.lit (D.int 1)), (.lit (D.int 4))]))) [(.ret (.lit (D.bl false)))] []),
  (.ife (.or (.not (.bi .all [(.lc (.v 2) (.of (.idx (.var 0) (.lit (D.int 2)))) [] (.call i__law_is_column [(.var 2)]))])) (.not (.call i__law_from [(.idx (.var 0) (.lit (D.int 1))), (.lit (D.int 0)), (.bi .len [(.idx (.var 0) (.lit (D.int 2)))])]))) [(.ret (.lit (D.bl false)))] []),
  (.asg (.v 1) (.lc (.v 2) (.of (.idx (.var 0) (.lit (D.int 2)))) [] (.idx (.var 2) (.lit (D.int 0))))),
  (.ret (.and (.cmp .eq (.fz .lenset [(.var 1)]) (.bi .len [(.var 1)])) (.not (.bi .any [(.lc (.v 2) (.of (.slc (.idx (.var 0) (.lit (D.int 2))) [] [(.idx (.var 0) (.lit (D.int 1)))])) [] (.idx (.var 2) (.lit (D.int 2))))]))))]⟩
/-- _law_is_ground(thing): 0 thing, 1 names, 2 one -/
def f__law_is_ground (i__law_from i__law_is_table : Nat) : Fn := ⟨1, 3,
  [(.ife (.or (.not (.isi (.var 0) .tuple)) (.not (.call i__law_from [(.bi .len [(.var 0)]), (.lit (D.int 1)), (.lit (D.int 4))]))) [(.ret (.lit (D.bl false)))] []),
  (.ife (.not (.bi .all [(.lc (.v 2) (.of (.var 0)) [] (.call i__law_is_table [(.var 2)]))])) [(.ret (.lit (D.bl false)))] []),
  (.asg (.v 1) (.lc (.v 2) (.of (.var 0)) [] (.idx (.var 2) (.lit (D.int 0))))),
  (.ret (.cmp .eq (.fz .sortset [(.var 1)]) (.var 1)))]⟩
theorem lfrom_ok {T : List Fn} {i : Nat} (hT : T[i]? = some f__law_from) (n : Nat) (d : D) (lo hi : Int) (S : St') : RP (FT T (n + 1) i [.t d, .t (.int lo), .t (.int hi)] S) (Is S (.bl (fromB d lo hi))) noE := by
  refine rp_fn hT rfl rfl ?_
  simp only [f__law_from, pad]
  cases d <;> exists 1
  · simp [fromB, *]
  · simp [fromB, *]
theorem barsum : binD .add (.lst ((barred.take 12).map .str)) (.lst ((barred.drop 12).map .str)) = some (.lst (barred.map .str)) := by
  simp only [binD]
  rw [if_pos (le_sz rfl), ← List.map_append, List.take_append_drop]
theorem str_empty (x : Str) : deq (.str x) (.str "") = decide (x.length = 0) := by
  rw [deq]
  by_cases h : x.length = 0
  · have : x = "" := str_ext (by
      rw [len_list] at h
      rw [List.length_eq_zero_iff.mp h]
      rfl)
    subst this
    decide +kernel
  · have : ¬ x = "" := fun e => h (by rw [e]; rfl)
    simp [h, this]
theorem lis_name_ok {T : List Fn} {i b : Nat} (hT : T[i]? = some f__law_is_name) (n : Nat) {d : D} (hd : Nc b d) (hb : b ≤ 1000) (S : St') : RP (FT T (n + 1) i [.t d] S) (Is S (.bl (nameB d))) noE := by
  refine rp_fn hT rfl rfl ?_
  simp only [f__law_is_name, pad]
  cases hd with
  | @str x ho hl =>
    have e1 : biD .len [.str x] = some (.int x.length) := if_pos (le_sz' (by omega))
    have e2 : cmpD .isin (.str x) (.lst (barred.map .str)) = some (decide (x ∈ barred)) := in_strs ho bar_ok
    have e4 : cmpD .ne (.str x) (.str "") = some (!decide (x.length = 0)) := by simp only [cmpD, scalD, Bool.true_or, if_true, str_empty]
    exists 1, e1, barsum, e2
    · simp only [nameB, nameS, h]
      simp
    · have := of_decide_eq_true h
      simp [nameB, nameS]
      omega
    · rename_i h1 h2
      have h2 := of_decide_eq_false h2
      refine rp_lcM (fun c => D.str ⟨#[c]⟩) (fun c => .bl (letB c)) (by rw [← len_list]; omega) (fun c hc acc => ?_) ?_
      · have e3 : cmpD .isin (.str ⟨#[c]⟩) (.str LTR) = some (letB c) := by
          simp only [cmpD, inD, strIn_ltr]
        refine ⟨_, rfl, ?_⟩
        exists 1, e3
      · exists 1, all_bls letB x.cps.toList
        have h : (!deq (.str x) (.str "")) = true := h
        rw [str_empty] at h
        simp only [Bool.not_eq_true', decide_eq_false_iff_not] at h
        have h3 : 1 ≤ x.length := by omega
        have h4 : x.length ≤ 8 := by omega
        simp only [nameB, nameS, h1, h3, h4, decide_true, Bool.true_and, Bool.not_false]
    · have h' : (!deq (.str x) (.str "")) = false := h
      rw [h]
      rw [str_empty] at h'
      simp only [Bool.not_eq_false', decide_eq_true_eq] at h'
      simp [nameB, nameS, h']
  | _ => exists 1, barsum
theorem lis_column_ok {T : List Fn} {i iF iN b : Nat} (hT : T[i]? = some (f__law_is_column iF iN)) (hF : T[iF]? = some f__law_from) (hN : T[iN]? = some f__law_is_name) (n : Nat) {d : D} (hd : Nc b d) (hb : b ≤ 1000) (S : St') : RP (FT T (n + 2) i [.t d] S) (Is S (.bl (colB d))) noE := by
  refine rp_fn hT rfl rfl ?_
  simp only [f__law_is_column, pad]
  cases hd with
  | @tup xs hx hl =>
    exists 1
    · have hne : ¬ (xs.length : Int) = 3 := by
        intro e
        have h' : (!deq (.int xs.length) (.int 3)) = true := h
        rw [deq, e] at h'
        cases h'
      match xs, hne with
      | [a, b, c], h => exact absurd rfl h
      | [], _ => rfl
      | [_], _ => rfl
      | [_, _], _ => rfl
      | _ :: _ :: _ :: _ :: _, _ => rfl
    · have h' : (!deq (.int xs.length) (.int 3)) = false := h
      rw [deq] at h'
      have h3 : (xs.length : Int) = 3 := by simpa using h'
      obtain ⟨x, y, z, rfl⟩ := three h3
      have q0 := at0 x [y, z]
      have q1 := at1 x y [z]
      have q2 := at2 x y z []
      exists 1, q0, q1, q2
      refine RP.of_no (lis_name_ok hN n (hx x (by simp)) hb S) fun v S1 ⟨e1, e2⟩ => ?_
      subst e1; subst e2
      exists 1, q0, q1, q2
      · refine RP.of_no (lfrom_ok hF n y 1 9 _) fun v S1 ⟨e1, e2⟩ => ?_
        subst e1; subst e2
        exists 1, q0, q1, q2
        · cases z <;> simp [colB, blB, isiD, *]
        · simp [colB, *]
      · simp [colB, *]
  | _ => exists 1
theorem lset_eq {ws : List Str} : deq (.int ((dset ws).length : Nat)) (.int ws.length) = decide ws.Nodup := by
  rw [deq]
  have e2 := dset_full ws
  by_cases hn : ws.Nodup
  · have e3 := e2.mpr hn
    simp only [hn, decide_true, beq_iff_eq]
    omega
  · have : ¬ (dset ws).length = ws.length := fun e => hn (e2.mp e)
    simp only [hn, decide_false, beq_eq_false_iff_ne, ne_eq]
    omega
theorem lis_table_ok {T : List Fn} {i iF iN iC b : Nat} (hT : T[i]? = some (f__law_is_table iF iN iC)) (hF : T[iF]? = some f__law_from) (hN : T[iN]? = some f__law_is_name) (hC : T[iC]? = some (f__law_is_column iF iN)) (n : Nat) {d : D} (hd : Nc b d) (hb : b ≤ 1000) (S : St') : RP (FT T (n + 3) i [.t d] S) (Is S (.bl (tabB d))) noE := by
  refine rp_fn hT rfl rfl ?_
  simp only [f__law_is_table, pad]
  cases hd with
  | @tup xs hx hl =>
    by_cases h3 : (xs.length : Int) = 3
    · obtain ⟨x, y, z, rfl⟩ := three h3
      have q0 := at0 x [y, z]
      have q1 := at1 x y [z]
      have q2 := at2 x y z []
      have hz := hx z (by simp)
      cases hz with
      | @tup cs hcx hcl =>
        exists 1, q0, q1, q2
        refine RP.of_no (lis_name_ok hN (n + 1) (hx x (by simp)) hb S) fun v S1 ⟨e1, e2⟩ => ?_
        subst e1; subst e2
        exists 1, q0, q1, q2
        · have hnm := h
          refine RP.of_no (lfrom_ok hF (n + 1) _ 1 4 _) fun v S1 ⟨e1, e2⟩ => ?_
          subst e1; subst e2
          exists 1, q0, q1, q2
          · have h14 : 1 ≤ cs.length ∧ cs.length ≤ 4 := by
              simp only [fromB, Bool.and_eq_true, decide_eq_true_eq] at h
              omega
            refine rp_lcI (fun x => .bl (colB x)) (by omega) (fun x hxx acc => ?_) ?_
            · refine ⟨_, rfl, ?_⟩
              exists 1
              exact RP.of_no (lis_column_ok hC hF hN n (hcx x hxx) hb _) fun v S1 ⟨e1, e2⟩ => ⟨e2, e1⟩
            · exists 1, all_bls colB cs, q0, q1, q2
              · have hall := h
                refine RP.of_no (lfrom_ok hF (n + 1) y 0 _ _) fun v S1 ⟨e1, e2⟩ => ?_
                subst e1; subst e2
                cases y with
                | int k =>
                  exists 1, q0, q1, q2
                  · have hk := h
                    have hk' : 0 ≤ k := by
                      simp only [fromB, Bool.and_eq_true, decide_eq_true_eq] at hk
                      exact hk.1
                    refine rp_lcI (fun c => .str (strD (fstD c))) (by omega) (fun x hx acc => ?_) ?_
                    · refine ⟨_, rfl, ?_⟩
                      exists 1, col_at0 (List.all_eq_true.mp hall x hx)
                    · have en : (cs.map fun c => D.str (strD (fstD c))) = (namesOf cs).map .str := by rw [namesOf, List.map_map]; rfl
                      have hnl : (namesOf cs).length = cs.length := by rw [namesOf, List.length_map]
                      have e5 : lensetD (.lst ((namesOf cs).map .str)) = some (.int ((dset (namesOf cs)).length : Nat)) := lenset_strs (by omega) _ (.inr rfl)
                      have e6 : cmpD .eq (.int ((dset (namesOf cs)).length : Nat)) (.int ((namesOf cs).map D.str).length) = some (decide (namesOf cs).Nodup) := by
                        simp only [cmpD, scalD, Bool.true_or, if_true, List.length_map, lset_eq]
                      rw [en]
                      exists 1, q0, q1, q2, e5, e6
                      · have ec := cut_to cs hk'
                        rw [ec]
                        refine rp_lcI (fun x => .bl (trdB x)) (by rw [List.length_take]; omega) (fun x hxx acc => ?_) ?_
                        · refine ⟨_, rfl, ?_⟩
                          exists 1, col_at2 (List.all_eq_true.mp hall x (List.mem_of_mem_take hxx))
                        · exists 1, any_bls trdB (cs.take k.toNat)
                          simp [tabB, *, intD]
                      · simp [tabB, *]
                  · simp [tabB, *]
                | _ =>
                  exists 1
                  simp [tabB, fromB]
              · simp [tabB, *]
          · have h14 : ¬ (1 ≤ cs.length ∧ cs.length ≤ 4) := by
              simp only [fromB, Bool.and_eq_false_iff, decide_eq_false_iff_not] at h
              omega
            have : (decide (1 ≤ cs.length) && decide (cs.length ≤ 4)) = false := by
              rw [Bool.and_eq_false_iff]
              simp only [decide_eq_false_iff_not]
              omega
            simp [tabB, this]
        · simp [tabB, *]
      | _ =>
        exists 1, q0, q1, q2
        all_goals (try simp [tabB, *])
    · have h3' : deq (.int xs.length) (.int 3) = false := by
        rw [deq]; exact beq_eq_false_iff_ne.mpr h3
      have e1 : cmpD .ne (.int xs.length) (.int 3) = some true := by simp only [cmpD, scalD, Bool.true_or, if_true, h3', Bool.not_false]
      rw [tabB_len h3]
      exists 1, e1
  | _ => exists 1
end M

/-! a ground by the laws' reading; odd things, spoilt things -/
namespace M
open PySem PySem.Spec PyProof.Rows L2
theorem dle_str (x y : Str) : dle (.str x) (.str y) = decide (x.cps.toList ≤ y.cps.toList) := by
  unfold dle dlt
  rw [toPy, toPy, PySem.W.dataLt_str, PySem.W.not_lt_str]
theorem rises_pw : ∀ ws : List Str, rises ws = true ↔ ws.Pairwise fun a b => a.cps.toList < b.cps.toList
  | [] => by simp [rises]
  | [a] => by simp [rises]
  | a :: b :: r => by
    have ih := rises_pw (b :: r)
    rw [rises, Bool.and_eq_true, ih, decide_eq_true_eq]
    constructor
    · rintro ⟨h1, h2⟩
      refine List.pairwise_cons.mpr ⟨fun c hc => ?_, h2⟩
      rcases List.mem_cons.mp hc with rfl | hc
      · exact h1
      · exact List.lt_trans h1 ((List.pairwise_cons.mp h2).1 c hc)
    · intro h
      obtain ⟨h1, h2⟩ := List.pairwise_cons.mp h
      exact ⟨h1 b List.mem_cons_self, h2⟩
theorem deqs_strs : ∀ zs ws : List Str, deqs (zs.map .str) (ws.map .str) = decide (zs = ws)
  | [], [] => by simp [deqs]
  | [], _ :: _ => by simp [deqs]
  | _ :: _, [] => by simp [deqs]
  | z :: zs, w :: ws => by
    rw [List.map_cons, List.map_cons, deqs, deqs_strs zs ws, deq]
    by_cases h1 : z = w <;> by_cases h2 : zs = ws <;> simp [h1, h2]
theorem sort_rises (ws : List Str) : deq (.lst (((dset ws).map D.str).mergeSort dle)) (.lst (ws.map .str)) = rises ws := by
  rw [deq]
  obtain ⟨L, hL⟩ : ∃ L, L = ((dset ws).map D.str).mergeSort dle := ⟨_, rfl⟩
  rw [← hL]
  have pL : L.Perm ((dset ws).map D.str) := hL ▸ List.mergeSort_perm _ _
  have sL : L.Pairwise fun a b => dle a b = true := hL ▸ List.pairwise_mergeSort dle_trans dle_total _
  have mem : ∀ d, d ∈ L ↔ ∃ w ∈ ws, d = .str w := fun d => by
    rw [pL.mem_iff, List.mem_map]
    constructor
    · rintro ⟨k, hk, rfl⟩
      exact ⟨k, (dset_mem k _).mp hk, rfl⟩
    · rintro ⟨w, hw, rfl⟩
      exact ⟨w, (dset_mem _ _).mpr hw, rfl⟩
  have ndL : L.Nodup := by
    refine pL.nodup_iff.mpr (List.pairwise_map.mpr ((dset_nodup _).imp fun {a b} hab e => hab ?_))
    cases e; rfl
  have eL : L = (L.map strD).map .str := by
    rw [List.map_map]
    conv => lhs; rw [← List.map_id L]
    apply List.map_congr_left
    intro d hd
    obtain ⟨w, -, rfl⟩ := (mem d).mp hd
    rfl
  generalize L.map strD = zs at eL
  clear hL pL
  subst eL
  rw [deqs_strs]
  have zm : ∀ w, w ∈ zs ↔ w ∈ ws := fun w => by
    constructor
    · intro h
      obtain ⟨v, hv, e⟩ := (mem (.str w)).mp (List.mem_map.mpr ⟨w, h, rfl⟩)
      cases e; exact hv
    · intro h
      obtain ⟨v, hv, e⟩ := List.mem_map.mp ((mem (.str w)).mpr ⟨w, h, rfl⟩)
      cases e; exact hv
  have zn : zs.Nodup := (List.pairwise_map.mp ndL).imp fun hab e => hab (by rw [e])
  have zp : zs.Pairwise fun a b => a.cps.toList < b.cps.toList := by
    have h1 := List.pairwise_map.mp sL
    refine (List.Pairwise.and h1 zn).imp fun {a b} ⟨h1, h2⟩ => ?_
    rw [dle_str] at h1
    have h1 := of_decide_eq_true h1
    apply Classical.byContradiction
    intro h
    exact h2 (str_ext (List.le_antisymm h1 (List.not_lt.mp h)))
  cases hr : rises ws with
  | true =>
    have wp := (rises_pw ws).mp hr
    have wn : ws.Nodup := wp.imp fun {a b} h e => by rw [e] at h; exact List.lt_irrefl _ h
    have pm : zs.Perm ws := (List.perm_ext_iff_of_nodup zn wn).mpr zm
    refine decide_eq_true (List.Perm.eq_of_pairwise (le := fun (a b : Str) => a.cps.toList < b.cps.toList) (fun a b _ _ h1 h2 => ?_) zp wp pm)
    exact absurd (List.lt_trans h1 h2) (List.lt_irrefl _)
  | false =>
    refine decide_eq_false fun e => ?_
    rw [e] at zp
    rw [(rises_pw ws).mpr zp] at hr
    cases hr
theorem sortset_strs {ws : List Str} (h : ws.length ≤ 1000) : sortsetD (.lst (ws.map .str)) = some (.lst (((dset ws).map D.str).mergeSort dle)) := by
  have e : sqOf (.lst (ws.map .str)) = some (ws.map .str) := rfl
  unfold sortsetD
  rw [e, Option.bind_some, asStrs_map, Option.bind_some, if_pos]
  have : scanBound = 4096 := by decide +kernel
  omega
theorem lis_ground_ok {T : List Fn} {i iF iN iC iT b : Nat} (hT : T[i]? = some (f__law_is_ground iF iT)) (hTa : T[iT]? = some (f__law_is_table iF iN iC)) (hF : T[iF]? = some f__law_from) (hN : T[iN]? = some f__law_is_name) (hC : T[iC]? = some (f__law_is_column iF iN)) (n : Nat) {d : D} (hd : Nc b d) (hb : b ≤ 1000) (S : St') : RP (FT T (n + 4) i [.t d] S) (Is S (.bl (groundB d))) noE := by
  refine rp_fn hT rfl rfl ?_
  simp only [f__law_is_ground, pad]
  cases hd with
  | @tup ts hx hl =>
    exists 1
    refine RP.of_no (lfrom_ok hF (n + 2) _ 1 4 _) fun v S1 ⟨e1, e2⟩ => ?_
    subst e1; subst e2
    exists 1
    · have h14 : 1 ≤ ts.length ∧ ts.length ≤ 4 := by
        simp only [fromB, Bool.and_eq_true, decide_eq_true_eq] at h
        omega
      refine rp_lcI (fun x => .bl (tabB x)) (by omega) (fun x hxx acc => ?_) ?_
      · refine ⟨_, rfl, ?_⟩
        exists 1
        exact RP.of_no (lis_table_ok hTa hF hN hC n (hx x hxx) hb _) fun v S1 ⟨e1, e2⟩ => ⟨e2, e1⟩
      · exists 1, all_bls tabB ts
        · have hall2 : ∀ t ∈ ts, tabB t = true := List.all_eq_true.mp h
          refine rp_lcI (fun c => .str (strD (fstD c))) (by omega) (fun x hx acc => ?_) ?_
          · refine ⟨_, rfl, ?_⟩
            exists 1, tab_at0 (hall2 x hx)
          · have en : (ts.map fun c => D.str (strD (fstD c))) = (namesOf ts).map .str := by rw [namesOf, List.map_map]; rfl
            have hnl : (namesOf ts).length = ts.length := by rw [namesOf, List.length_map]
            have e5 := sortset_strs (ws := namesOf ts) (by omega)
            have hso : ∀ w ∈ namesOf ts, PyData.strOk w = true := fun w hw => by
              obtain ⟨c, hc, rfl⟩ := List.mem_map.mp hw
              exact (nameS_ok (tab_name (hall2 c hc))).1
            have o1 : okD (.lst ((namesOf ts).map .str)) = true := (Ok.lst (k := 0) fun x hx => by
              obtain ⟨t, ht', rfl⟩ := List.mem_map.mp hx
              exact Ok.str (hso t ht')).okD (by omega)
            have o2 : okD (.lst (((dset (namesOf ts)).map D.str).mergeSort dle)) = true := (Ok.lst (k := 0) fun x hx => by
              obtain ⟨k, hk, rfl⟩ := List.mem_map.mp (List.mem_mergeSort.mp hx)
              exact Ok.str (hso k ((dset_mem k _).mp hk))).okD (by omega)
            have e6 : cmpD .eq (.lst (((dset (namesOf ts)).map D.str).mergeSort dle)) (.lst ((namesOf ts).map .str)) = some (rises (namesOf ts)) := by
              simp only [cmpD, o1, o2, Bool.and_self, Bool.or_true, if_true, sort_rises]
            rw [en]
            exists 1, e5, e6
            simp [groundB, *]
        · simp [groundB, *]
    · have h14 : ¬ (1 ≤ ts.length ∧ ts.length ≤ 4) := by
        simp only [fromB, Bool.and_eq_false_iff, decide_eq_false_iff_not] at h
        omega
      have : (decide (1 ≤ ts.length) && decide (ts.length ≤ 4)) = false := by
        rw [Bool.and_eq_false_iff]
        simp only [decide_eq_false_iff_not]
        omega
      simp [groundB, this]
  | _ => exists 1
end M

/-! odd things, spoilt things -/
namespace M
open PySem PySem.Spec PyProof.Rows L2
/-- .. and at most k within one another -/
inductive Nk (b : Nat) : Nat → D → Prop
  | non {k : Nat} : Nk b k .non
  | bl {k : Nat} (x : Bool) : Nk b k (.bl x)
  | int {k : Nat} (i : Int) : Nk b k (.int i)
  | str {k : Nat} {x : Str} : PyData.strOk x = true → x.length ≤ b → Nk b k (.str x)
  | tup {k : Nat} {xs : List D} : (∀ x ∈ xs, Nk b k x) → xs.length ≤ b → Nk b (k + 1) (.tup xs)
  | lst {k : Nat} {xs : List D} : (∀ x ∈ xs, Nk b k x) → xs.length ≤ b → Nk b (k + 1) (.lst xs)
theorem Nk.nc {b k : Nat} {d : D} (h : Nk b k d) : Nc b d := by
  induction h with
  | non => exact .non
  | bl x => exact .bl x
  | int x => exact .int x
  | str h1 h2 => exact .str h1 h2
  | tup _ h2 ih => exact .tup ih h2
  | lst _ h2 ih => exact .lst ih h2
theorem Nk.mono {b c k : Nat} {d : D} (h : Nk b k d) : ∀ {j : Nat}, b ≤ c → k ≤ j → Nk c j d := by
  induction h with
  | non => intro j _ _; exact .non
  | bl x => intro j _ _; exact .bl x
  | int x => intro j _ _; exact .int x
  | str h1 h2 => intro j hb _; exact .str h1 (by omega)
  | tup _ h2 ih =>
    intro j hb hk
    obtain ⟨i, rfl⟩ : ∃ i, j = i + 1 := ⟨j - 1, by omega⟩
    exact .tup (fun x hx => ih x hx hb (by omega)) (by omega)
  | lst _ h2 ih =>
    intro j hb hk
    obtain ⟨i, rfl⟩ : ∃ i, j = i + 1 := ⟨j - 1, by omega⟩
    exact .lst (fun x hx => ih x hx hb (by omega)) (by omega)
theorem nk_all {b : Nat} : ∀ {xs : List D}, (∀ x ∈ xs, ∃ k, Nk b k x) → ∃ k, ∀ x ∈ xs, Nk b k x
  | [], _ => ⟨0, by simp⟩
  | y :: ys, h => by
    obtain ⟨k1, h1⟩ := h y List.mem_cons_self
    obtain ⟨k2, h2⟩ := nk_all (xs := ys) fun x hx => h x (List.mem_cons_of_mem _ hx)
    refine ⟨max k1 k2, fun x hx => ?_⟩
    rcases List.mem_cons.mp hx with rfl | hx
    · exact h1.mono (Nat.le_refl _) (Nat.le_max_left _ _)
    · exact (h2 x hx).mono (Nat.le_refl _) (Nat.le_max_right _ _)
theorem Nc.nk {b : Nat} {d : D} (h : Nc b d) : ∃ k, Nk b k d := by
  induction h with
  | non => exact ⟨0, .non⟩
  | bl x => exact ⟨0, .bl x⟩
  | int x => exact ⟨0, .int x⟩
  | str h1 h2 => exact ⟨0, .str h1 h2⟩
  | tup _ h2 ih =>
    obtain ⟨k, hk⟩ := nk_all ih
    exact ⟨k + 1, .tup hk h2⟩
  | lst _ h2 ih =>
    obtain ⟨k, hk⟩ := nk_all ih
    exact ⟨k + 1, .lst hk h2⟩
theorem Nk.ok {b k : Nat} {d : D} (h : Nk b k d) : Ok k d := by
  induction h with
  | non => exact .non
  | bl x => exact .bl x
  | int x => exact .int x
  | str h1 h2 => exact .str h1
  | tup _ h2 ih => exact .tup ih
  | lst _ h2 ih => exact .lst ih
mutual
def ncB (b : Nat) : Nat → D → Bool
  | _, .non => true
  | _, .bl _ => true
  | _, .int _ => true
  | _, .str x => PyData.strOk x && decide (x.length ≤ b)
  | k + 1, .tup xs => ncsB b k xs && decide (xs.length ≤ b)
  | k + 1, .lst xs => ncsB b k xs && decide (xs.length ≤ b)
  | 0, _ => false
def ncsB (b : Nat) : Nat → List D → Bool
  | _, [] => true
  | k, x :: xs => ncB b k x && ncsB b k xs
end
mutual
theorem ncB_ok {b : Nat} : ∀ {k : Nat} {d : D}, ncB b k d = true → Nk b k d
  | _, .non, _ => .non
  | _, .bl _, _ => .bl _
  | _, .int _, _ => .int _
  | _, .str x, h => by
    rw [ncB, Bool.and_eq_true, decide_eq_true_eq] at h
    exact .str h.1 h.2
  | k + 1, .tup xs, h => by
    rw [ncB, Bool.and_eq_true, decide_eq_true_eq] at h
    exact .tup (ncsB_ok h.1) h.2
  | k + 1, .lst xs, h => by
    rw [ncB, Bool.and_eq_true, decide_eq_true_eq] at h
    exact .lst (ncsB_ok h.1) h.2
  | 0, .tup xs, h => by simp [ncB] at h
  | 0, .lst xs, h => by simp [ncB] at h
theorem ncsB_ok {b : Nat} : ∀ {k : Nat} {xs : List D}, ncsB b k xs = true → ∀ x ∈ xs, Nk b k x
  | _, [], _, x, hx => by cases hx
  | k, y :: ys, h, x, hx => by
    rw [ncsB, Bool.and_eq_true] at h
    rcases List.mem_cons.mp hx with e | hx
    · rw [e]; exact ncB_ok h.1
    · exact ncsB_ok h.2 x hx
end
/-- _law_odd(picks): 0 picks, 1 odd -/
def f__law_odd : Fn := ⟨1, 2,
  [(.asg (.v 1) (.lst [(.lit D.non), (.lit (D.bl true)), (.lit (D.bl false)), (.neg (.lit (D.int 1))), (.lit (D.int 0)), (.lit (D.int 1)), (.lit (D.int 2)), (.lit (D.int 8)), (.lit (D.int 9)), (.lit (D.int 10)), (.bin .pow (.lit (D.int 10)) (.lit (D.int 25))), (.lit (D.str "")), (.lit (D.str "a")), (.lit (D.str "ab")), (.lit (D.str "zzzzzzzz")), (.lit (D.str "zzzzzzzzz")), (.lit (D.str "Ab")), (.lit (D.str "a1"))])),
  (.asg (.v 1) (.bin .add (.var 1) (.lst [(.lit (D.str "rows")), (.lit (D.str "seal")), (.lit (D.str "not")), (.lit (D.str "has")), (.lit (D.str "a b")), (.lit (D.str " a")), (.lit (D.str "a\n")), (.tup []), (.lst []), (.tup [(.lit (D.str "a"))]), (.lst [(.lit (D.str "a"))]), (.tup [(.lit (D.int 1)), (.lit (D.int 2))]), (.tup [(.lit (D.str "yes"))]), (.tup [(.lit (D.bl true))])]))),
  (.asg (.v 1) (.bin .add (.var 1) (.lst [(.tup [(.lit (D.str "rows")), (.lit (D.str "a"))]), (.tup [(.lit (D.str "view")), (.lit (D.str "a"))]), (.lit (D.str "yes")), (.lit (D.str "read")), (.lit (D.str "must")), (.lit (D.str "own")), (.lit (D.str "asker")), (.neg (.lit (D.int 2))), (.lit (D.int 3)), (.lit (D.int 11)), (.tup [(.lit D.non)]), (.tup [(.tup [])])]))),
  (.ret (.idx (.var 1) (.bin .mod (.bin .add (.idx (.var 0) (.lit (D.int 0))) (.bin .mul (.lit (D.int 7)) (.idx (.var 0) (.lit (D.int 1))))) (.bi .len [(.var 1)]))))]⟩
/-- _law_spoilt(thing, picks): 0 thing, 1 picks, 2 parts, 3 at, 4 way -/
def f__law_spoilt (i__law_odd i__law_spoilt : Nat) : Fn := ⟨2, 5,
  [(.ife (.or (.not (.isit (.var 0) [.tuple, .list])) (.or (.cmp .eq (.bi .len [(.var 0)]) (.lit (D.int 0))) (.or (.cmp .lt (.bi .len [(.var 1)]) (.lit (D.int 9))) (.cmp .eq (.bin .mod (.idx (.var 1) (.lit (D.int 0))) (.lit (D.int 9))) (.lit (D.int 0)))))) [(.ret (.call i__law_odd [(.slc (.var 1) [(.lit (D.int 1))] [])]))] []),
  (.new 2 (.bi .list [(.var 0)])),
  (.asg (.v 3) (.bin .mod (.idx (.var 1) (.lit (D.int 1))) (.bi .len [(.var 2)]))),
  (.asg (.v 4) (.bin .mod (.idx (.var 1) (.lit (D.int 2))) (.lit (D.int 12)))),
  (.ife (.cmp .eq (.var 4) (.lit (D.int 0))) [(.new 2 (.bin .add (.slc (.var 2) [] [(.var 3)]) (.slc (.var 2) [(.bin .add (.var 3) (.lit (D.int 1)))] [])))] [(.ife (.cmp .eq (.var 4) (.lit (D.int 1))) [(.new 2 (.bin .add (.slc (.var 2) [] [(.bin .add (.var 3) (.lit (D.int 1)))]) (.slc (.var 2) [(.var 3)] [])))] [(.ife (.cmp .eq (.var 4) (.lit (D.int 2))) [(.new 2 (.bin .add (.slc (.var 2) [(.var 3)] []) (.slc (.var 2) [] [(.var 3)])))] [(.ife (.cmp .eq (.var 4) (.lit (D.int 3))) [(.new 2 (.bin .add (.bin .add (.slc (.var 2) [] [(.var 3)]) (.lst [(.call i__law_odd [(.slc (.var 1) [(.lit (D.int 3))] [])])])) (.slc (.var 2) [(.var 3)] [])))] [(.ife (.cmp .gt (.var 4) (.lit (D.int 4))) [(.seti 2 (.var 3) (.call i__law_spoilt [(.idx (.var 2) (.var 3)), (.slc (.var 1) [(.lit (D.int 4))] [])]))] [])])])])]),
  (.ife (.cmp .eq (.isi (.var 0) .tuple) (.cmp .eq (.var 4) (.lit (D.int 4)))) [(.ret (.var 2))] []),
  (.ret (.bi .tuple [(.var 2)]))]⟩
def oddA : List D := [.non, .bl true, .bl false, .int (-1), .int 0, .int 1, .int 2, .int 8, .int 9, .int 10, .int (10 ^ 25), .str "", .str "a", .str "ab", .str "zzzzzzzz", .str "zzzzzzzzz", .str "Ab", .str "a1"]
def oddB : List D := [.str "rows", .str "seal", .str "not", .str "has", .str "a b", .str " a", .str "a\n", .tup [], .lst [], .tup [.str "a"], .lst [.str "a"], .tup [.int 1, .int 2], .tup [.str "yes"], .tup [.bl true]]
def oddC : List D := [.tup [.str "rows", .str "a"], .tup [.str "view", .str "a"], .str "yes", .str "read", .str "must", .str "own", .str "asker", .int (-2), .int 3, .int 11, .tup [.non], .tup [.tup []]]
theorem odd_nc : ncsB 10 2 (oddA ++ oddB ++ oddC) = true := by decide +kernel
theorem oddAB : binD .add (.lst oddA) (.lst oddB) = some (.lst (oddA ++ oddB)) := by
  simp only [binD]
  rw [if_pos (le_sz rfl)]
theorem oddABC : binD .add (.lst (oddA ++ oddB)) (.lst oddC) = some (.lst (oddA ++ oddB ++ oddC)) := by
  simp only [binD]
  rw [if_pos (le_sz rfl)]
theorem at_mem {xs : List D} {z : Int} (h0 : 0 ≤ z) (h1 : z < xs.length) : ∃ d, atI xs z = some d ∧ d ∈ xs := by
  obtain ⟨k, rfl⟩ := Int.eq_ofNat_of_zero_le h0
  have hk : k < xs.length := by omega
  exact ⟨xs[k], L2.atI_nat (List.getElem?_eq_getElem hk), List.getElem_mem hk⟩
theorem odd_ok {T : List Fn} {i : Nat} (hT : T[i]? = some f__law_odd) (n : Nat) (ps : List Int) (hl : 2 ≤ ps.length) (hp : ∀ x ∈ ps, 0 ≤ x ∧ x < 1000) (S : St') : RP (FT T (n + 1) i [.t (.lst (ps.map .int))] S) (fun v S' => S' = S ∧ ∃ d, v = .t d ∧ Nk 10 2 d) noE := by
  refine rp_fn hT rfl rfl ?_
  simp only [f__law_odd, pad]
  have g0 : idxD (.lst (ps.map .int)) (.int 0) = some (.int (sget ps 0)) := at_int (j := 0) (by omega)
  have g1 : idxD (.lst (ps.map .int)) (.int 1) = some (.int (sget ps 1)) := at_int (j := 1) (by omega)
  have b0 := hp _ (sget_mem (ss := ps) (j := 0) (by omega))
  have b1 := hp _ (sget_mem (ss := ps) (j := 1) (by omega))
  exists 1, oddAB, oddABC, g0, g1
  obtain ⟨d, h1, h2⟩ := at_mem (xs := oddA ++ oddB ++ oddC) (z := (sget ps 0 + 7 * sget ps 1) % (oddA ++ oddB ++ oddC).length) (Int.emod_nonneg _ (by decide)) (Int.emod_lt_of_pos _ (by decide))
  refine ⟨d, h1, ?_⟩
  exists 1
  exact ncsB_ok odd_nc d h2
theorem pk_live {S : St'} {xs : List D} : peek (S ++ [.lst xs]) (.o S.length) = some (.lst xs) := by simp only [peek, st_get]
theorem slc_live {S : St'} {xs : List D} {l h : Option Int} : slc2 (S ++ [.lst xs]) (.o S.length) l h = some (.lst (cutD xs l h)) := by
  unfold slc2; rw [pk_live]; rfl
theorem idx_live {S : St'} {xs : List D} {z : Int} {d : D} (h : atI xs z = some d) : idx2 (S ++ [.lst xs]) (.o S.length) (.t (.int z)) = some d := by
  unfold idx2; rw [pk_live]; exact h
theorem len_live {S : St'} {xs : List D} : bi2 .len (S ++ [.lst xs]) [.o S.length] = some (.int xs.length) := bi_live rfl
theorem finO {S S' : St'} {k : Nat} {ys : List D} {P : SV → St' → Prop} {E : EX} (hk : S.length ≤ k) (hg : S'[k]? = some (.lst ys)) (ht : S'.take S.length = S) (h : P (.t (.lst ys)) S) : RP (finish S.length (.o k) S') P E := by
  unfold finish
  simp only [if_neg (Nat.not_lt.mpr hk), hg, ht]
  exact h
theorem finT {S S' : St'} {d : D} {P : SV → St' → Prop} {E : EX} (ht : S'.take S.length = S) (h : P (.t d) S) : RP (finish S.length (.t d) S') P E := by
  unfold finish
  rw [ht]
  exact h
/-- the parts of a spoilt thing -/
structure Sp (b q : Nat) (S S' : St') (k : Nat) (ys : List D) : Prop where
  lo : S.length ≤ k
  get : S'[k]? = some (.lst ys)
  tk : S'.take S.length = S
  nc : ∀ y ∈ ys, Nk (b + 1) (q + 2) y
  len : ys.length ≤ b + 1
theorem Sp.one {b q : Nat} {S : St'} {ys : List D} (h1 : ∀ y ∈ ys, Nk (b + 1) (q + 2) y) (h2 : ys.length ≤ b + 1) : Sp b q S (S ++ [.lst ys]) S.length ys := ⟨Nat.le_refl _, st_get, by simp, h1, h2⟩
theorem Sp.two {b q : Nat} {S : St'} {xs ys : List D} (h1 : ∀ y ∈ ys, Nk (b + 1) (q + 2) y) (h2 : ys.length ≤ b + 1) : Sp b q S ((S ++ [O.lst xs]) ++ [O.lst ys]) (S ++ [O.lst xs]).length ys := ⟨by simp, st_get, by simp, h1, h2⟩
theorem take_cut {xs : List D} {a : Int} (h : 0 ≤ a) : cutD xs none (some a) = xs.take a.toNat := cut_to xs h
theorem drop_cut {xs : List D} {a : Int} (h : 0 ≤ a) : cutD xs (some a) none = xs.drop a.toNat := cut_of xs h
theorem ints_of {ps : List Int} {a : Int} (h : 0 ≤ a) : slcD (.lst (ps.map .int)) (some a) none = some (.lst ((ps.drop a.toNat).map .int)) := by
  rw [slc_ints, cutL_of ps h]
theorem ixN_at {n : Nat} {z : Int} (h0 : 0 ≤ z) (h1 : z < n) : ixN n z = some z.toNat := by
  unfold ixN
  rw [if_pos h0, if_pos (by omega)]
def spChain (iO i : Nat) : MS := (.ife (.cmp .eq (.var 4) (.lit (D.int 0))) [(.new 2 (.bin .add (.slc (.var 2) [] [(.var 3)]) (.slc (.var 2) [(.bin .add (.var 3) (.lit (D.int 1)))] [])))] [(.ife (.cmp .eq (.var 4) (.lit (D.int 1))) [(.new 2 (.bin .add (.slc (.var 2) [] [(.bin .add (.var 3) (.lit (D.int 1)))]) (.slc (.var 2) [(.var 3)] [])))] [(.ife (.cmp .eq (.var 4) (.lit (D.int 2))) [(.new 2 (.bin .add (.slc (.var 2) [(.var 3)] []) (.slc (.var 2) [] [(.var 3)])))] [(.ife (.cmp .eq (.var 4) (.lit (D.int 3))) [(.new 2 (.bin .add (.bin .add (.slc (.var 2) [] [(.var 3)]) (.lst [(.call iO [(.slc (.var 1) [(.lit (D.int 3))] [])])])) (.slc (.var 2) [(.var 3)] [])))] [(.ife (.cmp .gt (.var 4) (.lit (D.int 4))) [(.seti 2 (.var 3) (.call i [(.idx (.var 2) (.var 3)), (.slc (.var 1) [(.lit (D.int 4))] [])]))] [])])])])])
theorem cutD_le (xs : List D) (l h : Option Int) : (cutD xs l h).length ≤ xs.length := by
  unfold cutD; rw [List.length_take, List.length_drop]; omega
theorem cutD_mem {xs : List D} {l h : Option Int} {x : D} (hx : x ∈ cutD xs l h) : x ∈ xs := List.mem_of_mem_drop (List.mem_of_mem_take hx)
theorem chain_ok {F : FS} {iO i b q : Nat} {d : D} {ps : List Int} {xs : List D} {at_ way : Int} {S : St'} (hb : b ≤ 900) (hl4 : 9 ≤ ps.length) (hx : ∀ x ∈ xs, Nk b q x) (hxl : xs.length ≤ b) (ha0 : 0 ≤ at_) (ha1 : at_ < xs.length)
    (hodd : ∀ S', RP (F iO [.t (.lst ((ps.drop 3).map .int))] S') (fun v S'' => S'' = S' ∧ ∃ d, v = .t d ∧ Nk (b + 1) (q + 2) d) noE)
    (hsp : ∀ x ∈ xs, ∀ S', RP (F i [.t x, .t (.lst ((ps.drop 4).map .int))] S') (fun v S'' => S'' = S' ∧ ∃ d, v = .t d ∧ Nk (b + 1) (q + 2) d) noE) {P : Po} :
    OP (execS F (spChain iO i) [some (.t d), some (.t (.lst (ps.map .int))), some (.o S.length), some (.t (.int at_)), some (.t (.int way))] (S ++ [.lst xs])) (fun ρ' S' => ∃ k ys, ρ' = [some (.t d), some (.t (.lst (ps.map .int))), some (.o k), some (.t (.int at_)), some (.t (.int way))] ∧ Sp b q S S' k ys) noN noN P := by
  unfold spChain
  have r3 : slcD (.lst (ps.map .int)) (some 3) none = some (.lst ((ps.drop 3).map .int)) := ints_of (by omega)
  have r4 : slcD (.lst (ps.map .int)) (some 4) none = some (.lst ((ps.drop 4).map .int)) := ints_of (by omega)
  obtain ⟨y, hy, hym⟩ := at_mem ha0 ha1
  have c2 : ∀ l h l' h', (cutD xs l h).length + (cutD xs l' h').length ≤ sizeLine := fun l h l' h' => le_sz' (by
    have := cutD_le xs l h
    have := cutD_le xs l' h'
    omega)
  have mn : ∀ {x l h}, x ∈ cutD xs l h → Nk (b + 1) (q + 2) x := fun hx' => (hx _ (cutD_mem hx')).mono (by omega) (by omega)
  exists 1, slc_live, r3, r4, idx_live hy, no_index (⟨_, _, rfl, rfl, c2 _ _ _ _, ?_⟩)
  · refine ⟨_, _, rfl, Sp.two (fun y hy => ?_) ?_⟩
    · rcases List.mem_append.mp hy with h | h <;> exact mn h
    · rw [take_cut ha0, drop_cut (by omega), List.length_append, List.length_take, List.length_drop]
      omega
  · refine ⟨_, _, rfl, Sp.two (fun y hy => ?_) ?_⟩
    · rcases List.mem_append.mp hy with h | h <;> exact mn h
    · rw [take_cut (by omega), drop_cut (by omega), List.length_append, List.length_take, List.length_drop]
      omega
  · refine ⟨_, _, rfl, Sp.two (fun y hy => ?_) ?_⟩
    · rcases List.mem_append.mp hy with h | h <;> exact mn h
    · rw [take_cut ha0, drop_cut (by omega), List.length_append, List.length_take, List.length_drop]
      omega
  · refine RP.of_no (hodd _) fun v S1 ⟨e1, d', e2, e3⟩ => ?_
    subst e1; subst e2
    have c3 : (cutD xs none (some at_)).length + [d'].length ≤ sizeLine := le_sz' (by
      have := cutD_le xs none (some at_)
      show _ + 1 ≤ _
      omega)
    have c4 : ((cutD xs none (some at_)) ++ [d']).length + (cutD xs (some at_) none).length ≤ sizeLine := le_sz' (by
      have := cutD_le xs none (some at_)
      have := cutD_le xs (some at_) none
      rw [List.length_append]
      show _ + 1 + _ ≤ _
      omega)
    exists 1, if_pos c3, slc_live, no_index (⟨_, _, rfl, rfl, c4, ?_⟩)
    refine ⟨_, _, rfl, Sp.two (fun y hy => ?_) ?_⟩
    · rcases List.mem_append.mp hy with h | h
      · rcases List.mem_append.mp h with h | h
        · exact mn h
        · rw [List.mem_singleton.mp h]; exact e3
      · exact mn h
    · rw [take_cut ha0, drop_cut (by omega), List.length_append, List.length_append, List.length_take, List.length_drop]
      show _ + 1 + _ ≤ _
      omega
  · refine RP.of_no (hsp y hym _) fun v S1 ⟨e1, d', e2, e3⟩ => ?_
    subst e1; subst e2
    refine ⟨_, _, rfl, ?_⟩
    exists 1
    refine ⟨_, _, _, _, rfl, st_get, ixN_at ha0 ha1, st_set, ?_⟩
    refine ⟨_, _, rfl, Sp.one (fun z hz => ?_) (by rw [List.length_set]; omega)⟩
    rcases List.mem_or_eq_of_mem_set hz with h | h
    · exact (hx _ h).mono (by omega) (by omega)
    · rw [h]; exact e3
  · exact ⟨_, _, rfl, Sp.one (fun z hz => (hx z hz).mono (by omega) (by omega)) (by omega)⟩
theorem spoilt_nk {T : List Fn} {i iO b : Nat} (hT : T[i]? = some (f__law_spoilt iO i)) (hO : T[iO]? = some f__law_odd) (hb1 : 10 ≤ b) (hb : b ≤ 900) :
    ∀ (m : Nat) (ps : List Int), ps.length < 9 + 4 * m → 3 ≤ ps.length → (∀ x ∈ ps, 0 ≤ x ∧ x < 1000) → ∀ (n q : Nat) (d : D), Nk b q d → ∀ S : St',
    RP (FT T (n + 2 + m) i [.t d, .t (.lst (ps.map .int))] S) (fun v S' => S' = S ∧ ∃ d, v = .t d ∧ Nk (b + 1) (q + 2) d) noE := by
  intro m
  induction m with
  | zero =>
    intro ps hpl hp3 hp n q d hd S
    refine rp_fn hT rfl rfl ?_
    simp only [f__law_spoilt, pad]
    have hr : slcD (.lst (ps.map .int)) (some 1) none = some (.lst ((ps.drop 1).map .int)) := ints_of (by omega)
    have hodd : ∀ (S : St'), RP (FT T (n + 1) iO [.t (.lst ((ps.drop 1).map .int))] S) (fun v S' => S' = S ∧ ∃ d, v = .t d ∧ Nk 10 2 d) noE := fun S => odd_ok hO n _ (by rw [List.length_drop]; omega) (fun x hx => hp x (List.mem_of_mem_drop hx)) S
    have hlt : (decide (((ps.map D.int).length : Int) < 9)) = true := by rw [List.length_map]; exact decide_eq_true (by omega)
    cases hd <;> exists 1, hr
    all_goals first
      | exact RP.of_no (hodd _) fun v S1 ⟨e1, d', e2, e3⟩ => by subst e1; subst e2; exact fin0 ⟨rfl, d', rfl, e3.mono (by omega) (by omega)⟩
      | exact Bool.noConfusion (hlt.symm.trans h)
  | succ m ih =>
    intro ps hpl hp3 hp n q d hd S
    refine rp_fn (n := n + 2 + m) hT rfl rfl ?_
    simp only [f__law_spoilt, pad]
    have hr : slcD (.lst (ps.map .int)) (some 1) none = some (.lst ((ps.drop 1).map .int)) := ints_of (by omega)
    have hodd : ∀ (q0 : Nat) (S : St') (k : Nat), k + 2 ≤ ps.length → RP (FT T (n + 2 + m) iO [.t (.lst ((ps.drop k).map .int))] S) (fun v S' => S' = S ∧ ∃ d, v = .t d ∧ Nk (b + 1) (q0 + 2) d) noE := fun q0 S k hk => by
      rw [show n + 2 + m = (n + 1 + m) + 1 by omega]
      exact RP.of_no (odd_ok hO (n + 1 + m) _ (by rw [List.length_drop]; omega) (fun x hx => hp x (List.mem_of_mem_drop hx)) S) fun v S1 ⟨e1, d', e2, e3⟩ => ⟨e1, d', e2, e3.mono (by omega) (by omega)⟩
    have g0 : idxD (.lst (ps.map .int)) (.int 0) = some (.int (sget ps 0)) := at_int (j := 0) (by omega)
    have g1 : idxD (.lst (ps.map .int)) (.int 1) = some (.int (sget ps 1)) := at_int (j := 1) (by omega)
    have g2 : idxD (.lst (ps.map .int)) (.int 2) = some (.int (sget ps 2)) := at_int (j := 2) (by omega)
    have od1 := hodd q S 1 (by omega)
    have fin1' : ∀ v S1, (S1 = S ∧ ∃ d, v = .t d ∧ Nk (b + 1) (q + 2) d) → RP (finish S.length v S1) (fun v S' => S' = S ∧ ∃ d, v = .t d ∧ Nk (b + 1) (q + 2) d) noE := fun v S1 ⟨e1, d', e2, e3⟩ => by
      subst e1; subst e2
      exact fin0 ⟨rfl, d', rfl, e3⟩
    have tailT : ∀ (q' : Nat), q = q' + 1 → ∀ (way : Int) (at_ : Int) (d : D) (S' : St') (k : Nat) (ys : List D) (ρ' : Ev), ρ' = [some (.t d), some (.t (.lst (ps.map .int))), some (.o k), some (.t (.int at_)), some (.t (.int way))] → Sp b q' S S' k ys → OP (execB (FT T (n + 2 + m)) [(.ife (.cmp .eq (.isi (.var 0) .tuple) (.cmp .eq (.var 4) (.lit (D.int 4)))) [(.ret (.var 2))] []), (.ret (.bi .tuple [(.var 2)]))] ρ' S') (fun _ S'' => (S''.take S.length = S ∧ ∃ d, SV.t .non = .t d ∧ Nk (b + 1) (q + 2) d)) noN noN { rt := fun v S'' => RP (finish S.length v S'') (fun v S' => S' = S ∧ ∃ d, v = .t d ∧ Nk (b + 1) (q + 2) d) noE, ex := fun c p _ S'' => noE c p (S''.take S.length) } := by
      intro q' hq' way at_ d S' k ys ρ' e hsp
      subst hq'
      subst e
      have hpk : peek S' (.o k) = some (.lst ys) := by simp only [peek, hsp.get]
      have htp : bi2 .tuple S' [.o k] = some (.tup ys) := by simp only [bi2, peeks, hpk, Option.map_some, Option.bind_some, biD]
      exists 1, htp
      · exact finO hsp.lo hsp.get hsp.tk ⟨rfl, _, rfl, .lst hsp.nc hsp.len⟩
      · exact finT hsp.tk ⟨rfl, _, rfl, .tup hsp.nc hsp.len⟩
    cases hd with
    | @tup q' xs hx hl =>
      exists 1, hr, g0, g1, g2, no_index (⟨_, .inr rfl, ?_⟩)
      · exact RP.of_no od1 fin1'
      · exact RP.of_no od1 fin1'
      · exact RP.of_no od1 fin1'
      · rename_i i1 i2 i3
        have hxs : 0 < (xs.length : Int) := by
          cases xs with
          | nil => exact absurd i2 (by decide)
          | cons => exact Int.natCast_pos.mpr (Nat.succ_pos _)
        have h9 : 9 ≤ ps.length := by
          have := of_decide_eq_false i3
          rw [List.length_map] at this
          omega
        have hsp : ∀ x ∈ xs, ∀ S', RP (FT T (n + 2 + m) i [.t x, .t (.lst ((ps.drop 4).map .int))] S') (fun v S'' => S'' = S' ∧ ∃ d, v = .t d ∧ Nk (b + 1) (q' + 2) d) noE := fun x hxx S' => ih (ps.drop 4) (by rw [List.length_drop]; omega) (by rw [List.length_drop]; omega) (fun x hx => hp x (List.mem_of_mem_drop hx)) n q' x (hx x hxx) S'
        refine ⟨_, if_pos hxs, ?_⟩
        exists 1, hr, g0, g1, g2, no_index (op_cons (OP.imp (chain_ok (b := b) (q := q') hb h9 hx hl (Int.emod_nonneg _ (by omega)) (Int.emod_lt_of_pos _ hxs) (fun S' => hodd q' S' 3 (by omega)) hsp) (fun ρ' S' ⟨k, ys, e, hs⟩ => tailT q' rfl _ _ _ _ _ _ _ e hs) (fun _ _ h => h) (fun _ _ h => h.elim) (fun _ _ h => h.elim) (fun _ _ _ _ h => h)))
    | @lst q' xs hx hl =>
      exists 1, hr, g0, g1, g2, no_index (⟨_, .inl rfl, ?_⟩)
      · exact RP.of_no od1 fin1'
      · exact RP.of_no od1 fin1'
      · exact RP.of_no od1 fin1'
      · rename_i i1 i2 i3
        have hxs : 0 < (xs.length : Int) := by
          cases xs with
          | nil => exact absurd i2 (by decide)
          | cons => exact Int.natCast_pos.mpr (Nat.succ_pos _)
        have h9 : 9 ≤ ps.length := by
          have := of_decide_eq_false i3
          rw [List.length_map] at this
          omega
        have hsp : ∀ x ∈ xs, ∀ S', RP (FT T (n + 2 + m) i [.t x, .t (.lst ((ps.drop 4).map .int))] S') (fun v S'' => S'' = S' ∧ ∃ d, v = .t d ∧ Nk (b + 1) (q' + 2) d) noE := fun x hxx S' => ih (ps.drop 4) (by rw [List.length_drop]; omega) (by rw [List.length_drop]; omega) (fun x hx => hp x (List.mem_of_mem_drop hx)) n q' x (hx x hxx) S'
        refine ⟨_, if_pos hxs, ?_⟩
        exists 1, hr, g0, g1, g2, no_index (op_cons (OP.imp (chain_ok (b := b) (q := q') hb h9 hx hl (Int.emod_nonneg _ (by omega)) (Int.emod_lt_of_pos _ hxs) (fun S' => hodd q' S' 3 (by omega)) hsp) (fun ρ' S' ⟨k, ys, e, hs⟩ => tailT q' rfl _ _ _ _ _ _ _ e hs) (fun _ _ h => h) (fun _ _ h => h.elim) (fun _ _ h => h.elim) (fun _ _ _ _ h => h)))
    | _ =>
      exists 1, hr
      exact RP.of_no od1 fin1'
theorem spoilt_ok {T : List Fn} {i iO b : Nat} (hT : T[i]? = some (f__law_spoilt iO i)) (hO : T[iO]? = some f__law_odd) (hb1 : 10 ≤ b) (hb : b ≤ 900)
    (m : Nat) (ps : List Int) (h1 : ps.length < 9 + 4 * m) (h2 : 3 ≤ ps.length) (h3 : ∀ x ∈ ps, 0 ≤ x ∧ x < 1000) (n : Nat) (d : D) (hd : Nc b d) (S : St') :
    RP (FT T (n + 2 + m) i [.t d, .t (.lst (ps.map .int))] S) (fun v S' => S' = S ∧ ∃ d, v = .t d ∧ Nc (b + 1) d) noE := by
  obtain ⟨q, hq⟩ := hd.nk
  exact (spoilt_nk hT hO hb1 hb m ps h1 h2 h3 n q d hq S).imp fun v S' ⟨e1, d', e2, e3⟩ => ⟨e1, d', e2, e3.nc⟩
end M

/-! what a spoilt thing may be -/
namespace M
open PySem PySem.Spec PyProof.Rows L2
def ODD : List D := oddA ++ oddB ++ oddC
mutual
inductive Spl : D → D → Prop
  | odd {d o : D} : o ∈ ODD → Spl d o
  | chg {d d' : D} {xs ys : List D} : (d = .tup xs ∨ d = .lst xs) → (d' = .tup ys ∨ d' = .lst ys) → Chg xs ys → Spl d d'
inductive Chg : List D → List D → Prop
  | del {xs : List D} (j : Nat) : j < xs.length → Chg xs (xs.take j ++ xs.drop (j + 1))
  | dup {xs : List D} (j : Nat) : j < xs.length → Chg xs (xs.take (j + 1) ++ xs.drop j)
  | rot {xs : List D} (j : Nat) : j < xs.length → Chg xs (xs.drop j ++ xs.take j)
  | ins {xs : List D} (j : Nat) {o : D} : o ∈ ODD → Chg xs (xs.take j ++ [o] ++ xs.drop j)
  | sub {xs : List D} (j : Nat) {x x' : D} : xs[j]? = some x → Spl x x' → Chg xs (xs.set j x')
  | same {xs : List D} : Chg xs xs
end
theorem odd_in {T : List Fn} {i : Nat} (hT : T[i]? = some f__law_odd) (n : Nat) (ps : List Int) (hl : 2 ≤ ps.length) (hp : ∀ x ∈ ps, 0 ≤ x ∧ x < 1000) (S : St') : RP (FT T (n + 1) i [.t (.lst (ps.map .int))] S) (fun v S' => S' = S ∧ ∃ d, v = .t d ∧ Nk 10 2 d ∧ d ∈ ODD) noE := by
  refine rp_fn hT rfl rfl ?_
  simp only [f__law_odd, pad]
  have g0 : idxD (.lst (ps.map .int)) (.int 0) = some (.int (sget ps 0)) := at_int (j := 0) (by omega)
  have g1 : idxD (.lst (ps.map .int)) (.int 1) = some (.int (sget ps 1)) := at_int (j := 1) (by omega)
  have b0 := hp _ (sget_mem (ss := ps) (j := 0) (by omega))
  have b1 := hp _ (sget_mem (ss := ps) (j := 1) (by omega))
  exists 1, oddAB, oddABC, g0, g1
  obtain ⟨d, h1, h2⟩ := at_mem (xs := oddA ++ oddB ++ oddC) (z := (sget ps 0 + 7 * sget ps 1) % (oddA ++ oddB ++ oddC).length) (Int.emod_nonneg _ (by decide)) (Int.emod_lt_of_pos _ (by decide))
  refine ⟨d, h1, ?_⟩
  exists 1
  exact ⟨ncsB_ok odd_nc d h2, h2⟩
/-- the parts of a spoilt thing -/
structure Sq (b q : Nat) (S S' : St') (k : Nat) (xs ys : List D) : Prop where
  lo : S.length ≤ k
  get : S'[k]? = some (.lst ys)
  tk : S'.take S.length = S
  nc : ∀ y ∈ ys, Nk (b + 1) (q + 2) y
  len : ys.length ≤ b + 1
  ch : Chg xs ys
theorem Sq.one {b q : Nat} {S : St'} {xs ys : List D} (h1 : ∀ y ∈ ys, Nk (b + 1) (q + 2) y) (h2 : ys.length ≤ b + 1) (h3 : Chg xs ys) : Sq b q S (S ++ [.lst ys]) S.length xs ys := ⟨Nat.le_refl _, st_get, by simp, h1, h2, h3⟩
theorem Sq.two {b q : Nat} {S : St'} {zs xs ys : List D} (h1 : ∀ y ∈ ys, Nk (b + 1) (q + 2) y) (h2 : ys.length ≤ b + 1) (h3 : Chg xs ys) : Sq b q S ((S ++ [O.lst zs]) ++ [O.lst ys]) (S ++ [O.lst zs]).length xs ys := ⟨by simp, st_get, by simp, h1, h2, h3⟩
theorem chain_rel {F : FS} {iO i b q : Nat} {d : D} {ps : List Int} {xs : List D} {at_ way : Int} {S : St'} (hb : b ≤ 900) (hl4 : 9 ≤ ps.length) (hx : ∀ x ∈ xs, Nk b q x) (hxl : xs.length ≤ b) (ha0 : 0 ≤ at_) (ha1 : at_ < xs.length)
    (hodd : ∀ S', RP (F iO [.t (.lst ((ps.drop 3).map .int))] S') (fun v S'' => S'' = S' ∧ ∃ d, v = .t d ∧ Nk (b + 1) (q + 2) d ∧ d ∈ ODD) noE)
    (hsp : ∀ x ∈ xs, ∀ S', RP (F i [.t x, .t (.lst ((ps.drop 4).map .int))] S') (fun v S'' => S'' = S' ∧ ∃ d, v = .t d ∧ Nk (b + 1) (q + 2) d ∧ Spl x d) noE) {P : Po} :
    OP (execS F (spChain iO i) [some (.t d), some (.t (.lst (ps.map .int))), some (.o S.length), some (.t (.int at_)), some (.t (.int way))] (S ++ [.lst xs])) (fun ρ' S' => ∃ k ys, ρ' = [some (.t d), some (.t (.lst (ps.map .int))), some (.o k), some (.t (.int at_)), some (.t (.int way))] ∧ Sq b q S S' k xs ys) noN noN P := by
  unfold spChain
  have r3 : slcD (.lst (ps.map .int)) (some 3) none = some (.lst ((ps.drop 3).map .int)) := ints_of (by omega)
  have r4 : slcD (.lst (ps.map .int)) (some 4) none = some (.lst ((ps.drop 4).map .int)) := ints_of (by omega)
  obtain ⟨y, hy, hym⟩ := at_mem ha0 ha1
  obtain ⟨j, rfl⟩ := Int.eq_ofNat_of_zero_le ha0
  have hj : j < xs.length := by omega
  have hyj : xs[j]? = some y := by
    have := L2.atI_nat (List.getElem?_eq_getElem hj)
    rw [this] at hy
    rw [List.getElem?_eq_getElem hj]; exact hy
  have c2 : ∀ l h l' h', (cutD xs l h).length + (cutD xs l' h').length ≤ sizeLine := fun l h l' h' => le_sz' (by
    have := cutD_le xs l h
    have := cutD_le xs l' h'
    omega)
  have mn : ∀ {x l h}, x ∈ cutD xs l h → Nk (b + 1) (q + 2) x := fun hx' => (hx _ (cutD_mem hx')).mono (by omega) (by omega)
  have tj : cutD xs none (some (j : Int)) = xs.take j := by rw [take_cut (by omega)]; rfl
  have tj1 : cutD xs none (some ((j : Int) + 1)) = xs.take (j + 1) := by rw [take_cut (by omega)]; rfl
  have dj : cutD xs (some (j : Int)) none = xs.drop j := by rw [drop_cut (by omega)]; rfl
  have dj1 : cutD xs (some ((j : Int) + 1)) none = xs.drop (j + 1) := by rw [drop_cut (by omega)]; rfl
  exists 1, slc_live, r3, r4, idx_live hy, no_index (⟨_, _, rfl, rfl, c2 _ _ _ _, ?_⟩)
  · refine ⟨_, _, rfl, Sq.two (fun y hy => ?_) ?_ (by rw [tj, dj1]; exact .del j hj)⟩
    · rcases List.mem_append.mp hy with h | h <;> exact mn h
    · rw [tj, dj1, List.length_append, List.length_take, List.length_drop]
      omega
  · refine ⟨_, _, rfl, Sq.two (fun y hy => ?_) ?_ (by rw [tj1, dj]; exact .dup j hj)⟩
    · rcases List.mem_append.mp hy with h | h <;> exact mn h
    · rw [tj1, dj, List.length_append, List.length_take, List.length_drop]
      omega
  · refine ⟨_, _, rfl, Sq.two (fun y hy => ?_) ?_ (by rw [tj, dj]; exact .rot j hj)⟩
    · rcases List.mem_append.mp hy with h | h <;> exact mn h
    · rw [tj, dj, List.length_append, List.length_take, List.length_drop]
      omega
  · refine RP.of_no (hodd _) fun v S1 ⟨e1, d', e2, e3, e4⟩ => ?_
    subst e1; subst e2
    have c3 : (cutD xs none (some (j : Int))).length + [d'].length ≤ sizeLine := le_sz' (by
      have := cutD_le xs none (some (j : Int))
      show _ + 1 ≤ _
      omega)
    have c4 : ((cutD xs none (some (j : Int))) ++ [d']).length + (cutD xs (some (j : Int)) none).length ≤ sizeLine := le_sz' (by
      have := cutD_le xs none (some (j : Int))
      have := cutD_le xs (some (j : Int)) none
      rw [List.length_append]
      show _ + 1 + _ ≤ _
      omega)
    exists 1, if_pos c3, slc_live, no_index (⟨_, _, rfl, rfl, c4, ?_⟩)
    refine ⟨_, _, rfl, Sq.two (fun y hy => ?_) ?_ (by rw [tj, dj]; exact .ins j e4)⟩
    · rcases List.mem_append.mp hy with h | h
      · rcases List.mem_append.mp h with h | h
        · exact mn h
        · rw [List.mem_singleton.mp h]; exact e3
      · exact mn h
    · rw [tj, dj, List.length_append, List.length_append, List.length_take, List.length_drop]
      show _ + 1 + _ ≤ _
      omega
  · refine RP.of_no (hsp y hym _) fun v S1 ⟨e1, d', e2, e3, e4⟩ => ?_
    subst e1; subst e2
    refine ⟨_, _, rfl, ?_⟩
    exists 1
    refine ⟨_, _, _, _, rfl, st_get, ixN_at ha0 ha1, st_set, ?_⟩
    refine ⟨_, _, rfl, Sq.one (fun z hz => ?_) (by rw [List.length_set]; omega) (.sub j hyj e4)⟩
    rcases List.mem_or_eq_of_mem_set hz with h | h
    · exact (hx _ h).mono (by omega) (by omega)
    · rw [h]; exact e3
  · exact ⟨_, _, rfl, Sq.one (fun z hz => (hx z hz).mono (by omega) (by omega)) (by omega) .same⟩
theorem spoilt_rel {T : List Fn} {i iO b : Nat} (hT : T[i]? = some (f__law_spoilt iO i)) (hO : T[iO]? = some f__law_odd) (hb1 : 10 ≤ b) (hb : b ≤ 900) :
    ∀ (q : Nat) (ps : List Int), 3 ≤ ps.length → (∀ x ∈ ps, 0 ≤ x ∧ x < 1000) → ∀ (n : Nat) (d : D), Nk b q d → ∀ S : St',
    RP (FT T (n + q + 2) i [.t d, .t (.lst (ps.map .int))] S) (fun v S' => S' = S ∧ ∃ d', v = .t d' ∧ Nk (b + 1) (q + 2) d' ∧ Spl d d') noE := by
  intro q
  induction q with
  | zero =>
    intro ps hp3 hp n d hd S
    refine rp_fn hT rfl rfl ?_
    simp only [f__law_spoilt, pad]
    have hr : slcD (.lst (ps.map .int)) (some 1) none = some (.lst ((ps.drop 1).map .int)) := ints_of (by omega)
    have hodd : ∀ (S : St'), RP (FT T (n + 0 + 1) iO [.t (.lst ((ps.drop 1).map .int))] S) (fun v S' => S' = S ∧ ∃ d, v = .t d ∧ Nk 10 2 d ∧ d ∈ ODD) noE := fun S => odd_in hO (n + 0) _ (by rw [List.length_drop]; omega) (fun x hx => hp x (List.mem_of_mem_drop hx)) S
    cases hd <;> exists 1, hr
    all_goals exact RP.of_no (hodd _) fun v S1 ⟨e1, d', e2, e3, e4⟩ => by subst e1; subst e2; exact fin0 ⟨rfl, d', rfl, e3.mono (by omega) (by omega), .odd e4⟩
  | succ q ih =>
    intro ps hp3 hp n d hd S
    refine rp_fn (n := n + q + 2) hT rfl rfl ?_
    simp only [f__law_spoilt, pad]
    have hr : slcD (.lst (ps.map .int)) (some 1) none = some (.lst ((ps.drop 1).map .int)) := ints_of (by omega)
    have hodd : ∀ (q0 : Nat) (S : St') (k : Nat), k + 2 ≤ ps.length → RP (FT T (n + q + 2) iO [.t (.lst ((ps.drop k).map .int))] S) (fun v S' => S' = S ∧ ∃ d, v = .t d ∧ Nk (b + 1) (q0 + 2) d ∧ d ∈ ODD) noE := fun q0 S k hk => by
      exact RP.of_no (odd_in hO (n + q + 1) _ (by rw [List.length_drop]; omega) (fun x hx => hp x (List.mem_of_mem_drop hx)) S) fun v S1 ⟨e1, d', e2, e3, e4⟩ => ⟨e1, d', e2, e3.mono (by omega) (by omega), e4⟩
    have g0 : idxD (.lst (ps.map .int)) (.int 0) = some (.int (sget ps 0)) := at_int (j := 0) (by omega)
    have g1 : idxD (.lst (ps.map .int)) (.int 1) = some (.int (sget ps 1)) := at_int (j := 1) (by omega)
    have g2 : idxD (.lst (ps.map .int)) (.int 2) = some (.int (sget ps 2)) := at_int (j := 2) (by omega)
    have od1 := hodd (q + 1) S 1 (by omega)
    have fin1' : ∀ d v S1, (S1 = S ∧ ∃ d, v = .t d ∧ Nk (b + 1) (q + 1 + 2) d ∧ d ∈ ODD) → RP (finish S.length v S1) (fun v S' => S' = S ∧ ∃ d', v = .t d' ∧ Nk (b + 1) (q + 1 + 2) d' ∧ Spl d d') noE := fun d v S1 ⟨e1, d', e2, e3, e4⟩ => by
      subst e1; subst e2
      exact fin0 ⟨rfl, d', rfl, e3, .odd e4⟩
    have tailT : ∀ (way : Int) (at_ : Int) (d : D) (S' : St') (k : Nat) (xs ys : List D) (ρ' : Ev), (d = .tup xs ∨ d = .lst xs) → ρ' = [some (.t d), some (.t (.lst (ps.map .int))), some (.o k), some (.t (.int at_)), some (.t (.int way))] → Sq b q S S' k xs ys → OP (execB (FT T (n + q + 2)) [(.ife (.cmp .eq (.isi (.var 0) .tuple) (.cmp .eq (.var 4) (.lit (D.int 4)))) [(.ret (.var 2))] []), (.ret (.bi .tuple [(.var 2)]))] ρ' S') (fun _ S'' => (S''.take S.length = S ∧ ∃ d', SV.t .non = .t d' ∧ Nk (b + 1) (q + 1 + 2) d' ∧ Spl d d')) noN noN { rt := fun v S'' => RP (finish S.length v S'') (fun v S' => S' = S ∧ ∃ d', v = .t d' ∧ Nk (b + 1) (q + 1 + 2) d' ∧ Spl d d') noE, ex := fun c p _ S'' => noE c p (S''.take S.length) } := by
      intro way at_ d S' k xs ys ρ' hdx e hsp
      subst e
      have hpk : peek S' (.o k) = some (.lst ys) := by simp only [peek, hsp.get]
      have htp : bi2 .tuple S' [.o k] = some (.tup ys) := by simp only [bi2, peeks, hpk, Option.map_some, Option.bind_some, biD]
      exists 1, htp
      · exact finO hsp.lo hsp.get hsp.tk ⟨rfl, _, rfl, .lst hsp.nc hsp.len, .chg hdx (.inr rfl) hsp.ch⟩
      · exact finT hsp.tk ⟨rfl, _, rfl, .tup hsp.nc hsp.len, .chg hdx (.inl rfl) hsp.ch⟩
    cases hd with
    | @tup q' xs hx hl =>
      exists 1, hr, g0, g1, g2, no_index (⟨_, .inr rfl, ?_⟩)
      · exact RP.of_no od1 (fin1' _)
      · exact RP.of_no od1 (fin1' _)
      · exact RP.of_no od1 (fin1' _)
      · rename_i i1 i2 i3
        have hxs : 0 < (xs.length : Int) := by
          cases xs with
          | nil => exact absurd i2 (by decide)
          | cons => exact Int.natCast_pos.mpr (Nat.succ_pos _)
        have h9 : 9 ≤ ps.length := by
          have := of_decide_eq_false i3
          rw [List.length_map] at this
          omega
        have hsp : ∀ x ∈ xs, ∀ S', RP (FT T (n + q + 2) i [.t x, .t (.lst ((ps.drop 4).map .int))] S') (fun v S'' => S'' = S' ∧ ∃ d, v = .t d ∧ Nk (b + 1) (q + 2) d ∧ Spl x d) noE := fun x hxx S' => ih (ps.drop 4) (by rw [List.length_drop]; omega) (fun x hx => hp x (List.mem_of_mem_drop hx)) n x (hx x hxx) S'
        refine ⟨_, if_pos hxs, ?_⟩
        exists 1, hr, g0, g1, g2, no_index (op_cons (OP.imp (chain_rel (b := b) (q := q) hb h9 hx hl (Int.emod_nonneg _ (by omega)) (Int.emod_lt_of_pos _ hxs) (fun S' => hodd q S' 3 (by omega)) hsp) (fun ρ' S' ⟨k, ys, e, hs⟩ => tailT _ _ _ _ _ _ _ _ (.inl rfl) e hs) (fun _ _ h => h) (fun _ _ h => h.elim) (fun _ _ h => h.elim) (fun _ _ _ _ h => h)))
    | @lst q' xs hx hl =>
      exists 1, hr, g0, g1, g2, no_index (⟨_, .inl rfl, ?_⟩)
      · exact RP.of_no od1 (fin1' _)
      · exact RP.of_no od1 (fin1' _)
      · exact RP.of_no od1 (fin1' _)
      · rename_i i1 i2 i3
        have hxs : 0 < (xs.length : Int) := by
          cases xs with
          | nil => exact absurd i2 (by decide)
          | cons => exact Int.natCast_pos.mpr (Nat.succ_pos _)
        have h9 : 9 ≤ ps.length := by
          have := of_decide_eq_false i3
          rw [List.length_map] at this
          omega
        have hsp : ∀ x ∈ xs, ∀ S', RP (FT T (n + q + 2) i [.t x, .t (.lst ((ps.drop 4).map .int))] S') (fun v S'' => S'' = S' ∧ ∃ d, v = .t d ∧ Nk (b + 1) (q + 2) d ∧ Spl x d) noE := fun x hxx S' => ih (ps.drop 4) (by rw [List.length_drop]; omega) (fun x hx => hp x (List.mem_of_mem_drop hx)) n x (hx x hxx) S'
        refine ⟨_, if_pos hxs, ?_⟩
        exists 1, hr, g0, g1, g2, no_index (op_cons (OP.imp (chain_rel (b := b) (q := q) hb h9 hx hl (Int.emod_nonneg _ (by omega)) (Int.emod_lt_of_pos _ hxs) (fun S' => hodd q S' 3 (by omega)) hsp) (fun ρ' S' ⟨k, ys, e, hs⟩ => tailT _ _ _ _ _ _ _ _ (.inr rfl) e hs) (fun _ _ h => h) (fun _ _ h => h.elim) (fun _ _ h => h.elim) (fun _ _ _ _ h => h)))
    | _ =>
      exists 1, hr
      exact RP.of_no od1 (fin1' _)
end M

/-! a drawn ground is one, by the readings -/
namespace M
open PySem PySem.Spec PyProof.Rows L2
theorem NameOk.nameS {w : Str} (h : NameOk w) : M.nameS w = true := by
  simp only [M.nameS, Bool.and_eq_true, decide_eq_true_eq, Bool.not_eq_true', decide_eq_false_iff_not, List.all_eq_true]
  exact ⟨⟨⟨h.pos, h.le⟩, h.bar⟩, fun c hc => decide_eq_true (h.let_ c hc)⟩
theorem colB_colD {c : Col} (h : ColOk c) : colB (colD c) = true := by
  simp only [colD, colB, nameB, fromB, blB, h.name.nameS, Bool.and_true, Bool.true_and, Bool.and_eq_true, decide_eq_true_eq]
  exact ⟨h.lo, h.hi⟩
theorem namesOf_cols (cs : List Col) : namesOf (cs.map colD) = cs.map Col.name := by rw [namesOf, List.map_map]; rfl
theorem namesOf_tabs (ts : List Tab) : namesOf (ts.map tabD) = ts.map Tab.name := by rw [namesOf, List.map_map]; rfl
theorem tabB_tabD {t : Tab} (h : TabOk t) : tabB (tabD t) = true := by
  have h1 : (t.cols.map colD).all colB = true := by
    rw [List.all_map, List.all_eq_true]
    exact fun c hc => colB_colD (h.cols.each c hc)
  have h2 : (((t.cols.map colD).take t.key.toNat).any trdB) = false := by
    rw [← List.map_take, List.any_map, List.any_eq_false]
    intro c hc
    have := h.keyN c hc
    simp only [Function.comp, colD, trdB, this]
    exact Bool.false_ne_true
  have h3 : fromB (.int t.key) 0 t.cols.length = true := by
    simp only [fromB, Bool.and_eq_true, decide_eq_true_eq]
    exact ⟨h.key0, h.keyL⟩
  simp only [tabD, tabB, nameB, h.name.nameS, h1, h2, h3, intD, namesOf_cols, h.cols.nd, Bool.true_and, Bool.and_true, decide_true, Bool.not_false, Bool.and_eq_true, decide_eq_true_eq, List.length_map]
  exact ⟨h.len1, h.len4⟩
theorem tabLe_name {a b : Tab} (h : tabLe a b = true) (hn : a.name ≠ b.name) : a.name.cps.toList < b.name.cps.toList := by
  have e : dlt (tabD b) (tabD a) = decide (b.name.cps.toList < a.name.cps.toList) := by
    unfold dlt
    simp only [tabD, toPy, toPys]
    rw [PySem.W.dataLt_tuple, PySem.W.dataLt_all_no, PySem.W.dataLt_str]
    · simp [PySem.W.alike]
    · simp only [PyData.eqv, beq_eq_false_iff_ne, ne_eq]
      exact fun e => hn e.symm
  unfold tabLe dle at h
  rw [e] at h
  simp only [Bool.not_eq_true', decide_eq_false_iff_not] at h
  apply Classical.byContradiction
  intro h'
  exact hn (str_ext (List.le_antisymm (List.not_lt.mp h) (List.not_lt.mp h')))
theorem tabLe_trans (a b c : Tab) (h1 : tabLe a b = true) (h2 : tabLe b c = true) : tabLe a c = true := dle_trans _ _ _ h1 h2
theorem tabLe_total (a b : Tab) : (tabLe a b || tabLe b a) = true := dle_total _ _
theorem groundB_ok {us : List Tab} {top : Int} (h : GroundOk us top) : groundB (.tup ((us.mergeSort tabLe).map tabD)) = true := by
  have hs := sorted_ground h
  have sp : (us.mergeSort tabLe).Pairwise fun a b => tabLe a b = true := List.pairwise_mergeSort tabLe_trans tabLe_total us
  generalize us.mergeSort tabLe = ts at hs sp
  have h1 : (ts.map tabD).all tabB = true := by
    rw [List.all_map, List.all_eq_true]
    exact fun t ht => tabB_tabD (hs.each t ht)
  have h2 : rises (namesOf (ts.map tabD)) = true := by
    rw [namesOf_tabs, rises_pw]
    have nd := List.pairwise_map.mp hs.nd
    exact List.pairwise_map.mpr ((List.Pairwise.and sp nd).imp fun ⟨a, b⟩ => tabLe_name a b)
  simp only [groundB, h1, h2, Bool.and_true, List.length_map, Bool.and_eq_true, decide_eq_true_eq]
  exact ⟨hs.len1, hs.len4⟩
theorem Nc.name {w : Str} (h : NameOk w) : Nc 10 (.str w) := .str h.let_.ok (by have := h.le; omega)
theorem Nc.col {c : Col} (h : ColOk c) : Nc 10 (colD c) := .tup (fun x hx => by
  simp only [List.mem_cons, List.not_mem_nil, or_false] at hx
  rcases hx with rfl | rfl | rfl
  · exact .name h.name
  · exact .int _
  · exact .bl _) (by simp)
theorem Nc.tab {t : Tab} (h : TabOk t) : Nc 10 (tabD t) := .tup (fun x hx => by
  simp only [List.mem_cons, List.not_mem_nil, or_false] at hx
  rcases hx with rfl | rfl | rfl
  · exact .name h.name
  · exact .int _
  · refine .tup (fun x hx => ?_) (by have := h.len4; simp; omega)
    obtain ⟨c, hc, rfl⟩ := List.mem_map.mp hx
    exact .col (h.cols.each c hc)) (by simp)
theorem Nc.ground {ts : List Tab} {top : Int} (h : GroundOk ts top) : (∀ x ∈ ts.map tabD, Nc 10 x) ∧ (ts.map tabD).length ≤ 4 := by
  refine ⟨fun x hx => ?_, by have := h.len4; simp; omega⟩
  obtain ⟨t, ht, rfl⟩ := List.mem_map.mp hx
  exact .tab (h.each t ht)
end M

/-! what of things is a condition: a reading, and the program's words -/
namespace M
open PySem PySem.Spec PyProof.Rows L2
def g_SHAPES : List (Str × D) := [("yes", (D.str "")), ("is", (D.str "cn")), ("below", (D.str "cm")), ("same", (D.str "cc")), ("mine", (D.str "c")), ("empty", (D.str "c")), ("loud", (D.str "c")), ("not", (D.str "x")), ("and", (D.str "xx")), ("or", (D.str "xx"))]
def tabOf (ts : List Tab) (w : Str) : Option Tab := ts.find? fun t => decide (t.name = w)
def colNames (t : Tab) : List Str := t.cols.map Col.name
def shp (w : Str) : Option Str := (g_SHAPES.lookup w).map strD
/-- a part, by its mark: the parts that it has (0 of what is no condition) -/
def partN (f : D → Option Nat) (cols : List Str) (c : Nat) (p : D) : Option Nat :=
  if c = 120 then f p
  else if c = 99 then (match p with
    | .str s => if s ∈ cols then some 0 else none
    | _ => none)
  else if fromB p 0 (9 + (if c = 109 then 1 else 0)) = true then some 0 else none
def partsN (f : D → Option Nat) (cols : List Str) : List Nat → List D → Option Nat
  | [], [] => some 0
  | c :: cs, p :: ps => (partN f cols c p).bind fun a => (partsN f cols cs ps).map (a + ·)
  | _, _ => none
def hasN (ts : List Tab) (pl ins : Bool) (cols : List Str) (f : List Str → D → Option Nat) : List D → Option Nat
  | [.str t, .str a, .str b, c] => if (ins && !pl) = true then none else (tabOf ts t).bind fun tb => if a ∈ cols ∧ b ∈ colNames tb then (f (colNames tb) c).map (1 + ·) else none
  | _ => none
/-- how many parts a condition has, none of what is none -/
def cnt (ts : List Tab) (pl : Bool) : Nat → Bool → List Str → D → Option Nat
  | k + 1, ins, cols, .tup (.str w :: ps) =>
    if w = "has" then hasN ts pl ins cols (cnt ts pl k true) ps
    else if (pl && decide (w = "mine")) = true then none
    else (shp w).bind fun s => (partsN (cnt ts pl k ins cols) cols s.cps.toList ps).map (1 + ·)
  | _, _, _, _ => none
theorem cnt_no {ts : List Tab} {pl ins : Bool} {cols : List Str} {d : D} (h : ∀ w ps, d ≠ .tup (.str w :: ps)) : ∀ k, cnt ts pl k ins cols d = none
  | 0 => rfl
  | k + 1 => by
    unfold cnt
    split
    · rename_i w ps hq
      exact absurd rfl (h _ _)
    · rfl
/-! ### data -/
theorem deq_ss (x y : Str) : deq (.str x) (.str y) = decide (x = y) := by
  rw [deq]
  by_cases h : x = y
  · subst h; simp
  · simp [h]
theorem eq_ss (x y : Str) : cmpD .eq (.str x) (.str y) = some (decide (x = y)) := by
  simp only [cmpD, scalD, Bool.true_or, if_true, deq_ss]
/-- .. by a letter -/
theorem eq_sb (x y : Str) : ∃ b : Bool, (b = true ↔ x = y) ∧ cmpD .eq (.str x) (.str y) = some b := ⟨_, by simp, eq_ss x y⟩
def inB (cols : List Str) : D → Bool
  | .str s => decide (s ∈ cols)
  | _ => false
theorem any_in (cols : List Str) (d : D) : ((cols.map D.str).any fun z => deq z d) = inB cols d := by
  induction cols with
  | nil => cases d <;> simp [inB]
  | cons c cs ih =>
    rw [List.map_cons, List.any_cons, ih]
    cases d with
    | str s =>
      rw [deq_ss]
      simp only [inB]
      by_cases h : c = s
      · subst h; simp
      · have h' : ¬ s = c := fun e => h e.symm
        simp [h, h']
    | _ => simp [inB, deq]
theorem ok_strs {cols : List Str} (hc : ∀ c ∈ cols, PyData.strOk c = true) : okD (.tup (cols.map .str)) = true := (Ok.tup (k := 0) fun x hx => by
    obtain ⟨t, ht', rfl⟩ := List.mem_map.mp hx
    exact Ok.str (hc t ht')).okD (by omega)
theorem in_cols {cols : List Str} {d : D} {k : Nat} (hc : ∀ c ∈ cols, PyData.strOk c = true) (hd : Ok k d) (hk : k ≤ 60) : cmpD .isin d (.tup (cols.map .str)) = some (inB cols d) := by
  have h1 : okD d = true := hd.okD (by omega)
  simp only [cmpD, inD, h1, ok_strs hc, Bool.and_self, if_true, any_in]
theorem notin_cols {cols : List Str} {d : D} {k : Nat} (hc : ∀ c ∈ cols, PyData.strOk c = true) (hd : Ok k d) (hk : k ≤ 60) : cmpD .notin d (.tup (cols.map .str)) = some (!inB cols d) := by
  have h1 : okD d = true := hd.okD (by omega)
  simp only [cmpD, inD, h1, ok_strs hc, Bool.and_self, if_true, any_in, Option.map_some]
/-- Rules(ground, plain, inside) -/
def fr (ts : List Tab) (pl ins : Bool) : SV := .ins "Rules" ["ground", "plain", "inside"] [.t (.tup (ts.map tabD)), .t (.bl pl), .t (.bl ins)]
theorem fr_ground (ts : List Tab) (pl ins : Bool) : attV (fr ts pl ins) "ground" = some (.t (.tup (ts.map tabD))) := rfl
theorem fr_plain (ts : List Tab) (pl ins : Bool) : attV (fr ts pl ins) "plain" = some (.t (.bl pl)) := rfl
theorem fr_inside (ts : List Tab) (pl ins : Bool) : attV (fr ts pl ins) "inside" = some (.t (.bl ins)) := rfl
/-! ### the program's words -/
/-- table_of(ground, name): 0 ground, 1 name, 2 table -/
def f_table_of : Fn := ⟨2, 3,
  [(.for_ (.v 2) (.of (.var 0)) [(.ife (.cmp .eq (.idx (.var 2) (.lit (D.int 0))) (.var 1)) [(.ret (.var 2))] [])]),
  (.ret (.lit D.non))]⟩
/-- part_fits(frame, columns, mark, part): 0 frame, 1 columns, 2 mark, 3 part -/
def f_part_fits (i_sound i_is_from : Nat) : Fn := ⟨4, 4,
  [(.ife (.cmp .eq (.var 2) (.lit (D.str "x"))) [(.ret (.call i_sound [(.var 0), (.var 1), (.var 3)]))] []),
  (.ife (.cmp .eq (.var 2) (.lit (D.str "c"))) [(.ret (.and (.isi (.var 3) .str) (.cmp .isin (.var 3) (.var 1))))] []),
  (.ret (.call i_is_from [(.var 3), (.lit (D.int 0)), (.bin .add (.lit (D.int 9)) (.bi .int [(.cmp .eq (.var 2) (.lit (D.str "m")))]))]))]⟩
/-- sound(frame, columns, thing): 0 frame, 1 columns, 2 thing, 3 shape, 4 mark, 5 part -/
def f_sound (i_sound_has i_part_fits : Nat) : Fn := ⟨3, 6,
  [(.ife (.or (.not (.isi (.var 2) .tuple)) (.or (.cmp .eq (.bi .len [(.var 2)]) (.lit (D.int 0))) (.not (.isi (.idx (.var 2) (.lit (D.int 0))) .str)))) [(.ret (.lit (D.bl false)))] []),
  (.ife (.cmp .eq (.idx (.var 2) (.lit (D.int 0))) (.lit (D.str "has"))) [(.ret (.call i_sound_has [(.var 0), (.var 1), (.var 2)]))] []),
  (.ife (.or (.gdin true "SHAPES" g_SHAPES (.idx (.var 2) (.lit (D.int 0)))) (.and (.att (.var 0) "plain") (.cmp .eq (.idx (.var 2) (.lit (D.int 0))) (.lit (D.str "mine"))))) [(.ret (.lit (D.bl false)))] []),
  (.asg (.v 3) (.gdget "SHAPES" g_SHAPES (.idx (.var 2) (.lit (D.int 0))))),
  (.ife (.cmp .ne (.bi .len [(.var 2)]) (.bin .add (.lit (D.int 1)) (.bi .len [(.var 3)]))) [(.ret (.lit (D.bl false)))] []),
  (.ret (.bi .all [(.lc (.tp [4, 5]) (.zips (.var 3) (.slc (.var 2) [(.lit (D.int 1))] [])) [] (.call i_part_fits [(.var 0), (.var 1), (.var 4), (.var 5)]))]))]⟩
/-- sound_has(frame, columns, thing): 0 frame, 1 columns, 2 thing, 3 table, 4 part -/
def f_sound_has (i_table_of i_names_of i_sound : Nat) : Fn := ⟨3, 5,
  [(.ife (.or (.cmp .ne (.bi .len [(.var 2)]) (.lit (D.int 5))) (.and (.att (.var 0) "inside") (.not (.att (.var 0) "plain")))) [(.ret (.lit (D.bl false)))] []),
  (.ife (.not (.bi .all [(.lc (.v 4) (.of (.slc (.var 2) [(.lit (D.int 1))] [(.lit (D.int 4))])) [] (.isi (.var 4) .str))])) [(.ret (.lit (D.bl false)))] []),
  (.asg (.v 3) (.call i_table_of [(.att (.var 0) "ground"), (.idx (.var 2) (.lit (D.int 1)))])),
  (.ife (.or (.cmp .is_ (.var 3) (.lit D.non)) (.or (.cmp .notin (.idx (.var 2) (.lit (D.int 2))) (.var 1)) (.cmp .notin (.idx (.var 2) (.lit (D.int 3))) (.call i_names_of [(.var 3)])))) [(.ret (.lit (D.bl false)))] []),
  (.ret (.call i_sound [(.mk "Rules" ["ground", "plain", "inside"] [(.att (.var 0) "ground"), (.att (.var 0) "plain"), (.lit (D.bl true))]), (.call i_names_of [(.var 3)]), (.idx (.var 2) (.lit (D.int 4)))]))]⟩
def tabV : Option Tab → D
  | some t => tabD t
  | none => .non
theorem tabOf_cons {t : Tab} {ts : List Tab} {w : Str} : tabOf (t :: ts) w = if t.name = w then some t else tabOf ts w := by
  unfold tabOf
  by_cases h : t.name = w
  · rw [List.find?_cons_of_pos (by simp [h]), if_pos h]
  · rw [List.find?_cons_of_neg (by simp [h]), if_neg h]
theorem table_of_ok {T : List Fn} {i : Nat} (hT : T[i]? = some f_table_of) (n : Nat) (ts : List Tab) (w : Str) (S : St') : RP (FT T (n + 1) i [.t (.tup (ts.map tabD)), .t (.str w)] S) (Is S (tabV (tabOf ts w))) noE := by
  refine rp_fn hT rfl rfl ?_
  simp only [f_table_of, pad]
  exists 1
  refine op_fixM (ys := ts) tabD (fun rest ρ S' => ∃ k, ρ = [some (.t (.tup (ts.map tabD))), some (.t (.str w)), k] ∧ S' = S ∧ tabOf ts w = tabOf rest w) ⟨_, rfl, rfl, rfl⟩ ?_ ?_
  · rintro t rest ρ S' ⟨k, rfl, rfl, hr⟩
    refine ⟨_, rfl, ?_⟩
    have e0 : idxD (tabD t) (.int 0) = some (.str t.name) := at0 _ _
    obtain ⟨b1, hb1, x1⟩ := eq_sb t.name w
    exists 1, e0, no_index (⟨_, x1, _, rfl, fun h => ?_, fun h => ?_⟩)
    · rw [hr, tabOf_cons, if_pos (hb1.mp h)]; rfl
    · rw [hr, tabOf_cons, if_neg (fun z => by rw [hb1.mpr z] at h; cases h)]
  · rintro ρ S' ⟨k, rfl, rfl, hr⟩
    exists 1
    rw [hr]; rfl
theorem Nk.dep {b k : Nat} {d : D} (h : Nk b k d) : Ok k d := h.ok
theorem one_s (c c' : Nat) : ((⟨#[c]⟩ : Str) = ⟨#[c']⟩) ↔ c = c' := by simp
theorem iss (b : Bool) : (if b = true then some (0 : Nat) else none).isSome = b := by cases b <;> rfl
theorem part_fits_ok {T : List Fn} {i iS iF iW b k : Nat} {ts : List Tab} {pl ins : Bool} {cols : List Str} (hT : T[i]? = some (f_part_fits iS iF)) (hF : T[iF]? = some (f_is_from iW)) (hW : T[iW]? = some f_is_whole)
    (hc : ∀ c ∈ cols, PyData.strOk c = true) (f : D → Option Nat) (m : Nat) {p : D} (hp : Nk b k p) (hk : k ≤ 50)
    (hS : ∀ S, RP (FT T (m + 2) iS [fr ts pl ins, .t (.tup (cols.map .str)), .t p] S) (Is S (.bl (f p).isSome)) noE) (c : Nat) (S : St') :
    RP (FT T (m + 3) i [fr ts pl ins, .t (.tup (cols.map .str)), .t (.str ⟨#[c]⟩), .t p] S) (Is S (.bl (partN f cols c p).isSome)) noE := by
  refine rp_fn (n := m + 2) hT rfl rfl ?_
  simp only [f_part_fits, pad]
  obtain ⟨b1, h1, x1⟩ := eq_sb ⟨#[c]⟩ "x"
  obtain ⟨b2, h2, x2⟩ := eq_sb ⟨#[c]⟩ "c"
  obtain ⟨b3, h3, x3⟩ := eq_sb ⟨#[c]⟩ "m"
  have h1 : b1 = true ↔ c = 120 := h1.trans (one_s c 120)
  have h2 : b2 = true ↔ c = 99 := h2.trans (one_s c 99)
  have h3 : b3 = true ↔ c = 109 := h3.trans (one_s c 109)
  obtain ⟨b4, h4, x4⟩ : ∃ b4, b4 = inB cols p ∧ cmpD .isin p (.tup (cols.map .str)) = some b4 := ⟨_, rfl, in_cols hc hp.ok (by omega)⟩
  have n1 : b1 = false → ¬ c = 120 := fun h z => by rw [h1.mpr z] at h; cases h
  have n2 : b2 = false → ¬ c = 99 := fun h z => by rw [h2.mpr z] at h; cases h
  exists 1, x3, x4, no_index (⟨_, x1, _, rfl, fun h => ?_, fun h => ?_⟩), no_index (⟨_, x2, _, rfl, fun h => ?_, fun h => ?_⟩)
  · refine RP.of_no (hS S) fun v S1 ⟨e1, e2⟩ => ?_
    subst e1; subst e2
    exists 1
    simp [partN, h1.mp h]
  · rename_i q1 q2
    have c1 := n1 q1
    have c2 := h2.mp q2
    cases p <;> first | (cases h; done) | skip
    simp only [partN, if_neg c1, if_pos c2, h4, inB]
    split <;> simp_all
  · rename_i q1 q2
    have c1 := n1 q1
    have c2 := h2.mp q2
    cases p <;> first | (cases h; done) | (simp only [partN, if_neg c1, if_pos c2]; rfl)
  · rename_i q1
    have c1 := n1 q1
    have c2 := n2 h
    refine RP.of_no (is_from_ok hF hW m p 0 _ S) fun v S1 ⟨e1, e2⟩ => ?_
    subst e1; subst e2
    exists 1
    simp only [partN, if_neg c1, if_neg c2]
    have e3 : (if c = 109 then (1 : Int) else 0) = if b3 = true then 1 else 0 := by
      by_cases q : c = 109
      · rw [if_pos q, if_pos (h3.mpr q)]
      · rw [if_neg q, if_neg (fun z => q (h3.mp z))]
    rw [e3, iss]
end M

/-! sound, sound_has -/
namespace M
open PySem PySem.Spec PyProof.Rows L2
theorem tab_cols {t : Tab} (h : TabOk t) : (t.cols.map colD).all colB = true := by
  rw [List.all_map, List.all_eq_true]
  intro c hc
  exact colB_colD (h.cols.each c hc)
theorem names_tab {T : List Fn} {i : Nat} (hT : T[i]? = some f_names_of) (n : Nat) {t : Tab} (h : TabOk t) (S : St') : RP (FT T (n + 1) i [.t (tabD t)] S) (Is S (.tup ((colNames t).map .str))) noE := by
  have := names_of_ok hT n (a := .str t.name) (b := .int t.key) (tab_cols h) (by rw [List.length_map]; have := h.len4; omega) S
  rw [namesOf_cols] at this
  exact this
theorem col_strs {t : Tab} (h : TabOk t) : ∀ c ∈ colNames t, PyData.strOk c = true := by
  intro c hc
  obtain ⟨x, hx, rfl⟩ := List.mem_map.mp hc
  exact (h.cols.each x hx).name.let_.ok
theorem tabOf_mem {ts : List Tab} {w : Str} {t : Tab} (h : tabOf ts w = some t) : t ∈ ts ∧ t.name = w := by
  unfold tabOf at h
  exact ⟨List.mem_of_find?_eq_some h, by simpa using List.find?_some h⟩
theorem hasN_len {ts : List Tab} {pl ins : Bool} {cols : List Str} {f : List Str → D → Option Nat} {ps : List D} (h : ps.length ≠ 4) : hasN ts pl ins cols f ps = none := by
  unfold hasN
  split
  · simp at h
  · rfl
theorem hasN_str {ts : List Tab} {pl ins : Bool} {cols : List Str} {f : List Str → D → Option Nat} {t a b c : D} (h : ([t, a, b].all fun y => isiD y .str) = false) : hasN ts pl ins cols f [t, a, b, c] = none := by
  unfold hasN
  split
  · rename_i t' a' b' c' hq
    cases hq
    cases h
  · rfl
theorem isi_str {d : D} (h : isiD d .str = true) : ∃ s, d = .str s := by
  cases d <;> first | exact ⟨_, rfl⟩ | cases h
theorem four {xs : List D} (h : xs.length = 4) : ∃ a b c d, xs = [a, b, c, d] := by
  match xs, h with
  | [a, b, c, d], _ => exact ⟨a, b, c, d, rfl⟩
theorem isN_tab (o : Option Tab) : cmpD .is_ (tabV o) .non = some o.isNone := by cases o <;> rfl
theorem sound_has_ok {T : List Fn} {i iS iTo iNo b k : Nat} {ts : List Tab} {pl ins : Bool} {cols : List Str} (hts : ∀ t ∈ ts, TabOk t) (hT : T[i]? = some (f_sound_has iTo iNo iS)) (hTo : T[iTo]? = some f_table_of) (hNo : T[iNo]? = some f_names_of)
    (hc : ∀ c ∈ cols, PyData.strOk c = true) (f : List Str → D → Option Nat) (m : Nat) {w : Str} {ps : List D} (hp : ∀ p ∈ ps, Nk b k p) (hk : k ≤ 50)
    (hS : ∀ p ∈ ps, ∀ cols, (∀ c ∈ cols, PyData.strOk c = true) → ∀ S, RP (FT T (m + 1) iS [fr ts pl true, .t (.tup (cols.map .str)), .t p] S) (Is S (.bl (f cols p).isSome)) noE) (S : St') :
    RP (FT T (m + 2) i [fr ts pl ins, .t (.tup (cols.map .str)), .t (.tup (.str w :: ps))] S) (Is S (.bl (hasN ts pl ins cols f ps).isSome)) noE := by
  refine rp_fn (n := m + 1) hT rfl rfl ?_
  simp only [f_sound_has, pad]
  obtain ⟨b0, h0, x0⟩ : ∃ b0 : Bool, (b0 = false ↔ ps.length = 4) ∧ cmpD .ne (.int ((D.str w :: ps).length : Nat)) (.int 5) = some b0 := by
    refine ⟨!decide (ps.length = 4), by simp, ?_⟩
    simp only [cmpD, scalD, Bool.true_or, if_true, deq, List.length_cons]
    congr 2
    by_cases h : ps.length = 4
    · simp [h]
    · simp [h]; omega
  exists 1, fr_inside ts pl ins, fr_plain ts pl ins, no_index (⟨_, x0, _, rfl, fun h => ?_, fun h => ?_⟩)
  · rw [hasN_len (fun z => by rw [h0.mpr z] at h; cases h)]; rfl
  rotate_left
  · rename_i q1 q2
    obtain ⟨t, a, bb, c, rfl⟩ := four (h0.mp q1)
    have hg : (ins && !pl) = true := by simp_all
    unfold hasN
    split
    · rw [if_pos hg]; rfl
    · rfl
  all_goals
    obtain ⟨t, a, bb, c, rfl⟩ := four (h0.mp (by assumption))
    have hg : ¬ (ins && !pl) = true := by simp_all
    have e14 : cutD (D.str w :: [t, a, bb, c]) (some 1) (some 4) = [t, a, bb] := rfl
    rw [e14]
    refine rp_lcI (fun y => .bl (isiD y .str)) (show 3 ≤ 16777216 by decide) (fun y hy acc => ?_) ?_
    · refine ⟨_, rfl, ?_⟩
      exists 1
    have xa : biD .all [.lst ([t, a, bb].map fun y => D.bl (isiD y .str))] = some (.bl ([t, a, bb].all fun y => isiD y .str)) := all_bls _ _
    cases hba : [t, a, bb].all fun y => isiD y .str with
    | false =>
      rw [hba] at xa
      rw [hasN_str hba]
      exists 1, xa
    | true =>
    rw [hba] at xa
    simp only [List.all_cons, List.all_nil, Bool.and_true] at hba
    rw [Bool.and_eq_true, Bool.and_eq_true] at hba
    obtain ⟨t', rfl⟩ := isi_str hba.1
    obtain ⟨a', rfl⟩ := isi_str hba.2.1
    obtain ⟨b', rfl⟩ := isi_str hba.2.2
    have i1 := at1 (.str w) (.str t') [.str a', .str b', c]
    have i2 := at2 (.str w) (.str t') (.str a') [.str b', c]
    have i3 : idxD (.tup [.str w, .str t', .str a', .str b', c]) (.int 3) = some (.str b') := rfl
    have i4 : idxD (.tup [.str w, .str t', .str a', .str b', c]) (.int 4) = some c := rfl
    exists 1, xa, fr_ground ts pl ins, i1
    refine RP.of_no (table_of_ok hTo m ts t' S) fun v S1 ⟨e1, e2⟩ => ?_
    subst e1; subst e2
    have na : Nk b k (.str a') := hp _ (by simp)
    have nb : Nk b k (.str b') := hp _ (by simp)
    obtain ⟨bt, hbt, xt⟩ : ∃ bt, bt = (tabOf ts t').isNone ∧ cmpD .is_ (tabV (tabOf ts t')) .non = some bt := ⟨_, rfl, isN_tab _⟩
    obtain ⟨b2, hb2, x2⟩ : ∃ b2, b2 = !inB cols (.str a') ∧ cmpD .notin (.str a') (.tup (cols.map .str)) = some b2 := ⟨_, rfl, notin_cols hc na.ok (by omega)⟩
    exists 1, i2, i3, i4, no_index (⟨_, xt, _, rfl, fun h => ?_, fun h => ?_⟩), no_index (⟨_, x2, _, rfl, fun h => ?_, fun h => ?_⟩)
    · have hn : tabOf ts t' = none := by rw [h] at hbt; simpa using hbt.symm
      simp [hasN, hn]
    · rw [h] at hb2
      have hn : a' ∉ cols := by simpa [inB] using hb2.symm
      simp [hasN, hn]
    · rename_i q9
      obtain ⟨tb, htb⟩ : ∃ tb, tabOf ts t' = some tb := by
        rw [q9] at hbt
        cases hq : tabOf ts t' with
        | none => rw [hq] at hbt; cases hbt
        | some tb => exact ⟨tb, rfl⟩
      have hok : TabOk tb := hts _ (tabOf_mem htb).1
      rw [htb]
      have hain : a' ∈ cols := by rw [h] at hb2; simpa [inB] using hb2.symm
      refine RP.of_no (names_tab hNo m hok S1) fun v S1 ⟨e1, e2⟩ => ?_
      subst e1; subst e2
      obtain ⟨b5, hb5, x5⟩ : ∃ b5, b5 = !inB (colNames tb) (.str b') ∧ cmpD .notin (.str b') (.tup ((colNames tb).map .str)) = some b5 := ⟨_, rfl, notin_cols (col_strs hok) nb.ok (by omega)⟩
      exists 1, fr_ground ts pl ins, fr_plain ts pl ins, i4, no_index (⟨_, x5, _, rfl, fun h => ?_, fun h => ?_⟩)
      · rw [h] at hb5
        have hn : b' ∉ colNames tb := by simpa [inB] using hb5.symm
        simp [hasN, htb, hn]
      · have hbin : b' ∈ colNames tb := by rw [h] at hb5; simpa [inB] using hb5.symm
        refine RP.of_no (names_tab hNo m hok S1) fun v S1 ⟨e1, e2⟩ => ?_
        subst e1; subst e2
        exists 1, i4
        refine RP.of_no (hS c (by simp) _ (col_strs hok) S1) fun v S1 ⟨e1, e2⟩ => ?_
        subst e1; subst e2
        exists 1
        simp only [hasN, if_neg hg, htb, Option.bind_some, if_pos (And.intro hain hbin), Option.isSome_map]
theorem zip_s (cs : List Nat) (ps : List D) : zipD (cs.map fun c => .str ⟨#[c]⟩) ps = (cs.zip ps).map fun x => D.tup [.str ⟨#[x.1]⟩, x.2] := by
  unfold zipD
  rw [List.zip_map_left, List.map_map]
  rfl
theorem parts_all (f : D → Option Nat) (cols : List Str) : ∀ (cs : List Nat) (ps : List D), cs.length = ps.length → (partsN f cols cs ps).isSome = (cs.zip ps).all fun x => (partN f cols x.1 x.2).isSome
  | [], [], _ => rfl
  | c :: cs, p :: ps, h => by
    rw [partsN, List.zip_cons_cons, List.all_cons, ← parts_all f cols cs ps (by simpa using h)]
    cases partN f cols c p with
    | none => rfl
    | some a => simp
  | [], _ :: _, h => by cases h
  | _ :: _, [], h => by cases h
theorem parts_len (f : D → Option Nat) (cols : List Str) : ∀ (cs : List Nat) (ps : List D), cs.length ≠ ps.length → partsN f cols cs ps = none
  | [], [], h => absurd rfl h
  | c :: cs, p :: ps, h => by
    rw [partsN, parts_len f cols cs ps (by simpa using h)]
    cases partN f cols c p <;> rfl
  | [], _ :: _, h => rfl
  | _ :: _, [], h => rfl
theorem tup_len (w : Str) (ps : List D) : cmpD .eq (.int ((D.str w :: ps).length : Nat)) (.int 0) = some false := by
  simp only [cmpD, scalD, Bool.true_or, if_true, deq, List.length_cons]
  congr 1
theorem ne_ii (a b : Int) : cmpD .ne (.int a) (.int b) = some (!decide (a = b)) := by
  simp only [cmpD, scalD, Bool.true_or, if_true, deq]
  rfl
theorem cut1 (d : D) (ps : List D) : cutD (d :: ps) (some 1) none = ps := by rw [cut_of _ (by decide)]; rfl
theorem shp_in (w : Str) : gdinV true g_SHAPES (.t (.str w)) = some (.t (.bl (shp w).isNone)) := by
  have : (g_SHAPES.lookup w).isSome = !(shp w).isNone := by rw [shp, Option.isNone_map]; cases g_SHAPES.lookup w <;> rfl
  simp only [gdinV, strV, Option.map_some, this]
  cases (shp w).isNone <;> rfl
theorem shp_get {w s : Str} (h : shp w = some s) : gdgetV g_SHAPES (.t (.str w)) = some (.t (.str s)) ∧ s.length ≤ 2 := by
  unfold shp at h
  obtain ⟨d, hd, rfl⟩ := Option.map_eq_some_iff.mp h
  have hm : (w, d) ∈ g_SHAPES := by
    clear h
    revert hd
    generalize g_SHAPES = l
    induction l with
    | nil => intro hd; cases hd
    | cons a l ih =>
      intro hd
      obtain ⟨x, y⟩ := a
      rw [List.lookup_cons] at hd
      split at hd
      · rename_i hq
        cases hd
        rw [beq_iff_eq.mp hq]
        exact List.mem_cons_self
      · exact List.mem_cons_of_mem _ (ih hd)
  have hall : (g_SHAPES.all fun x => isiD x.2 .str && decide ((strD x.2).length ≤ 2)) = true := by decide +kernel
  have this := List.all_eq_true.mp hall _ hm
  rw [Bool.and_eq_true] at this
  obtain ⟨z, hz⟩ := isi_str this.1
  have hz : d = .str z := hz
  subst hz
  refine ⟨?_, of_decide_eq_true this.2⟩
  simp only [gdgetV, strV, Option.bind_some, hd, Option.map_some]
  rfl
theorem sound_ok {T : List Fn} {i iH iP iTo iNo iF iW b : Nat} {ts : List Tab} {pl : Bool} (hts : ∀ t ∈ ts, TabOk t) (hT : T[i]? = some (f_sound iH iP)) (hH : T[iH]? = some (f_sound_has iTo iNo i)) (hP : T[iP]? = some (f_part_fits i iF))
    (hTo : T[iTo]? = some f_table_of) (hNo : T[iNo]? = some f_names_of) (hF : T[iF]? = some (f_is_from iW)) (hW : T[iW]? = some f_is_whole) : ∀ k, k ≤ 50 → ∀ (m : Nat) (ins : Bool) (cols : List Str) (d : D), (∀ c ∈ cols, PyData.strOk c = true) → Nk b k d → ∀ S : St',
    RP (FT T (m + 2 * k + 2) i [fr ts pl ins, .t (.tup (cols.map .str)), .t d] S) (Is S (.bl (cnt ts pl k ins cols d).isSome)) noE := by
  intro k
  induction k with
  | zero =>
    intro _ m ins cols d hc hd S
    refine rp_fn (n := m + 1) hT rfl rfl ?_
    simp only [f_sound, pad]
    rw [cnt_no (d := d) (fun w ps z => by rw [z] at hd; cases hd) 0]
    have e : isiD d .tuple = false := by cases hd <;> rfl
    exists 1, e
    exact absurd (e.symm.trans (by assumption)) (by decide)
  | succ k ih =>
    intro hk m ins cols d hc hd S
    refine rp_fn (n := m + 2 * k + 3) hT rfl rfl ?_
    simp only [f_sound, pad]
    by_cases ht : isiD d .tuple = true
    rotate_left
    · rw [cnt_no (d := d) (fun w ps z => by rw [z] at ht; exact ht rfl)]
      have e : isiD d .tuple = false := by simpa using ht
      exists 1, e
      exact absurd (e.symm.trans (by assumption)) (by decide)
    obtain ⟨xs, rfl⟩ : ∃ xs, d = .tup xs := by cases d <;> first | exact ⟨_, rfl⟩ | cases ht
    cases xs with
    | nil =>
      rw [cnt_no (d := .tup []) (fun w ps z => by cases z)]
      exists 1
    | cons x ps =>
    by_cases hx : isiD x .str = true
    rotate_left
    · rw [cnt_no (d := .tup (x :: ps)) (fun w ps z => by cases z; exact hx rfl)]
      have e : isiD x .str = false := by simpa using hx
      have a0 := at0 x ps
      have el : cmpD .eq (.int ((x :: ps).length : Nat)) (.int 0) = some false := by
        simp only [cmpD, scalD, Bool.true_or, if_true, deq, List.length_cons]
        congr 1
      exists 1, a0, no_index (⟨_, el, _, rfl, fun h => (f_t h).elim, fun h => ?_⟩)
      all_goals exact absurd (e.symm.trans (by assumption)) (by decide)
    obtain ⟨w, rfl⟩ := isi_str hx
    have hps : ∀ p ∈ ps, Nk b k p := by
      cases hd with
      | tup h _ => exact fun p hp => h p (List.mem_cons_of_mem _ hp)
    have hpl : ps.length < b := by
      cases hd with
      | tup _ h => exact h
    have a0 := at0 (.str w) ps
    have el := tup_len w ps
    obtain ⟨b1, hb1, x1⟩ := eq_sb w "has"
    obtain ⟨b2, hb2, x2⟩ := eq_sb w "mine"
    exists 1, a0, fr_plain ts pl ins, shp_in w, no_index (⟨_, el, _, rfl, fun h => (f_t h).elim, fun h => ?_⟩), no_index (⟨_, x1, _, rfl, fun h => ?_, fun h => ?_⟩), no_index (⟨_, x2, _, rfl, fun h => ?_, fun h => ?_⟩)
    · refine RP.of_no (sound_has_ok (m := m + 2 * k + 1) hts hH hTo hNo hc (cnt ts pl k true) hps (by omega) (fun p hp cols hc S => ih (by omega) m true cols p hc (hps p hp) S) S) fun v S1 ⟨e1, e2⟩ => ?_
      subst e1; subst e2
      exists 1
      rw [cnt, if_pos (hb1.mp h)]
    · have hn : shp w = none := by simpa using h
      rename_i q1
      rw [cnt, if_neg (fun z => by rw [hb1.mpr z] at q1; cases q1), hn]
      split <;> rfl
    · rename_i q1 _ q2
      rw [cnt, if_neg (fun z => by rw [hb1.mpr z] at q1; cases q1), if_pos (by simp [q2, hb2.mp h])]
      rfl
    all_goals
      have q1 : b1 = false := by assumption
      obtain ⟨s, hs⟩ : ∃ s, shp w = some s := by
        rename_i q2 _ _
        cases hq : shp w with
        | none => simp_all
        | some s => exact ⟨s, rfl⟩
      have hcn : cnt ts pl (k + 1) ins cols (.tup (.str w :: ps)) = (partsN (cnt ts pl k ins cols) cols s.cps.toList ps).map (1 + ·) := by
        rw [cnt, if_neg (fun z => by rw [hb1.mpr z] at q1; cases q1), if_neg (by simp_all), hs]
        rfl
      rw [hcn, Option.isSome_map]
      obtain ⟨b0, h0, x0⟩ : ∃ b0 : Bool, (b0 = false ↔ s.cps.toList.length = ps.length) ∧ cmpD .ne (.int ((D.str w :: ps).length : Nat)) (.int (1 + (s.length : Nat))) = some b0 := by
        refine ⟨!decide (s.cps.toList.length = ps.length), by simp, ?_⟩
        have hl : s.length = s.cps.toList.length := by simp [Str.length]
        rw [ne_ii, hl]
        congr 2
        rw [decide_eq_decide, List.length_cons]
        omega
      have xl : biD .len [.str s] = some (.int (s.length : Nat)) := if_pos (Nat.le_trans (shp_get hs).2 (by decide))
      exists 1, (shp_get hs).1, xl, no_index (⟨_, x0, _, rfl, fun h => ?_, fun h => ?_⟩)
      · rw [parts_len _ _ _ _ (fun z => by rw [h0.mpr z] at h; cases h)]; rfl
      · have hl := h0.mp h
        rw [cut1, zip_s]
        refine rp_lcM (ys := s.cps.toList.zip ps) (fun x => D.tup [.str ⟨#[x.1]⟩, x.2]) (fun x => .bl (partN (cnt ts pl k ins cols) cols x.1 x.2).isSome) ?_ (fun y hy acc => ?_) ?_
        · rw [List.length_zip]
          have := (shp_get hs).2
          have hl : s.length = s.cps.toList.length := by simp [Str.length]
          omega
        · refine ⟨_, rfl, ?_⟩
          obtain ⟨c, p⟩ := y
          have hp := hps p (List.of_mem_zip hy).2
          exists 1
          refine RP.of_no (part_fits_ok hP hF hW hc (cnt ts pl k ins cols) (m + 2 * k) hp (by omega) (fun S => ih (by omega) m ins cols p hc hp S) c _) fun v S1 ⟨e1, e2⟩ => ?_
          subst e1; subst e2
          exact ⟨rfl, rfl⟩
        · exists 1, all_bls (fun x : Nat × D => (partN (cnt ts pl k ins cols) cols x.1 x.2).isSome) (s.cps.toList.zip ps)
          rw [parts_all _ _ _ _ hl]
end M

/-! parts_of, is_condition -/
namespace M
open PySem PySem.Spec PyProof.Rows L2
/-- within(condition): 0 condition -/
def f_within : Fn := ⟨1, 1,
  [(.ife (.cmp .eq (.idx (.var 0) (.lit (D.int 0))) (.lit (D.str "has"))) [(.ret (.lst [(.idx (.var 0) (.lit (D.int 4)))]))] []),
  (.ife (.cmp .isin (.idx (.var 0) (.lit (D.int 0))) (.tup [(.lit (D.str "not")), (.lit (D.str "and")), (.lit (D.str "or"))])) [(.ret (.bi .list [(.slc (.var 0) [(.lit (D.int 1))] [])]))] []),
  (.ret (.lst []))]⟩
/-- parts_of(condition): 0 condition, 1 one -/
def f_parts_of (i_within i_parts_of : Nat) : Fn := ⟨1, 2,
  [(.ret (.bin .add (.lit (D.int 1)) (.bi .sum [(.lc (.v 1) (.of (.call i_within [(.var 0)])) [] (.call i_parts_of [(.var 1)]))])))]⟩
def c_MOST_PARTS : D := (D.int 8)
/-- is_condition(ground, columns, thing): 0 ground, 1 columns, 2 thing -/
def f_is_condition (i_parts_of i_sound : Nat) : Fn := ⟨3, 3,
  [(.ret (.and (.call i_sound [(.mk "Rules" ["ground", "plain", "inside"] [(.var 0), (.lit (D.bl false)), (.lit (D.bl false))]), (.var 1), (.var 2)]) (.cmp .le (.call i_parts_of [(.var 2)]) (.glb "MOST_PARTS" c_MOST_PARTS))))]⟩
def JOIN : List Str := ["not", "and", "or"]
def inner (w : Str) (ps : List D) : List D :=
  if w = "has" then (match ps with | [_, _, _, c] => [c] | _ => []) else if w ∈ JOIN then ps else []
theorem inner_join {w : Str} {ps : List D} (h : ¬ w = "has") (hj : w ∈ JOIN) : inner w ps = ps := by
  unfold inner
  rw [if_neg h, if_pos hj]
theorem inner_no {w : Str} {ps : List D} (h : ¬ w = "has") (hj : w ∉ JOIN) : inner w ps = [] := by
  unfold inner
  rw [if_neg h, if_neg hj]
theorem ints_map {α : Type} (h : α → Int) : ∀ ys : List α, asInts (ys.map fun y => D.int (h y)) = some (ys.map h)
  | [] => rfl
  | y :: ys => by simp only [List.map_cons, asInts, ints_map h ys, Option.map_some]
theorem sum_ints {α : Type} (h : α → Int) (ys : List α) : biD .sum [.lst (ys.map fun y => D.int (h y))] = some (.int (ys.map h).sum) := by
  simp only [biD, ints_map, Option.map_some]
theorem parts_x {f : D → Option Nat} {cols : List Str} : ∀ {cs : List Nat} {ps : List D} {n : Nat}, (∀ c ∈ cs, c = 120) → partsN f cols cs ps = some n → (∀ p ∈ ps, ∃ a, f p = some a) ∧ (ps.map fun p => (((f p).getD 0 : Nat) : Int)).sum = n
  | [], [], n, _, h => by
    cases h
    exact ⟨fun p hp => (by cases hp), rfl⟩
  | c :: cs, p :: ps, n, hc, h => by
    rw [partsN, hc c List.mem_cons_self] at h
    simp only [partN, if_true] at h
    obtain ⟨a, ha, h⟩ := Option.bind_eq_some_iff.mp h
    obtain ⟨n', hn, rfl⟩ := Option.map_eq_some_iff.mp h
    have := parts_x (fun c h => hc c (List.mem_cons_of_mem _ h)) hn
    refine ⟨fun q hq => ?_, ?_⟩
    · rcases List.mem_cons.mp hq with rfl | hq
      · exact ⟨a, ha⟩
      · exact this.1 q hq
    · rw [List.map_cons, List.sum_cons, this.2, ha]
      simp
  | [], _ :: _, _, _, h => by cases h
  | _ :: _, [], _, _, h => by cases h
theorem parts_0 {f : D → Option Nat} {cols : List Str} : ∀ {cs : List Nat} {ps : List D} {n : Nat}, (∀ c ∈ cs, c ≠ 120) → partsN f cols cs ps = some n → n = 0
  | [], [], n, _, h => by cases h; rfl
  | c :: cs, p :: ps, n, hc, h => by
    rw [partsN] at h
    obtain ⟨a, ha, h⟩ := Option.bind_eq_some_iff.mp h
    obtain ⟨n', hn, rfl⟩ := Option.map_eq_some_iff.mp h
    rw [parts_0 (fun c h => hc c (List.mem_cons_of_mem _ h)) hn]
    simp only [partN, if_neg (hc c List.mem_cons_self)] at ha
    have h0 : a = 0 := by
      by_cases q : c = 99
      · rw [if_pos q] at ha
        cases p with
        | str z =>
          by_cases q2 : z ∈ cols
          · simp only [if_pos q2] at ha; cases ha; rfl
          · simp only [if_neg q2] at ha; cases ha
        | _ => cases ha
      · rw [if_neg q] at ha
        by_cases q2 : fromB p 0 (9 + (if c = 109 then 1 else 0)) = true
        · rw [if_pos q2] at ha; cases ha; rfl
        · rw [if_neg q2] at ha; cases ha
    rw [h0]
  | [], _ :: _, _, _, h => by cases h
  | _ :: _, [], _, _, h => by cases h
theorem shp_mem {w s : Str} (h : shp w = some s) : (w, D.str s) ∈ g_SHAPES := by
  unfold shp at h
  obtain ⟨d, hd, rfl⟩ := Option.map_eq_some_iff.mp h
  have hm : (w, d) ∈ g_SHAPES := by
    clear h
    revert hd
    generalize g_SHAPES = l
    induction l with
    | nil => intro hd; cases hd
    | cons a l ih =>
      intro hd
      obtain ⟨x, y⟩ := a
      rw [List.lookup_cons] at hd
      split at hd
      · rename_i hq
        cases hd
        rw [beq_iff_eq.mp hq]
        exact List.mem_cons_self
      · exact List.mem_cons_of_mem _ (ih hd)
  have hall : (g_SHAPES.all fun x => isiD x.2 .str) = true := by decide +kernel
  obtain ⟨z, hz⟩ := isi_str (List.all_eq_true.mp hall _ hm)
  have hz : d = .str z := hz
  subst hz
  exact hm
theorem shp_kind {w s : Str} (h : shp w = some s) : (w ∈ JOIN → ∀ c ∈ s.cps.toList, c = 120) ∧ (w ∉ JOIN → ∀ c ∈ s.cps.toList, c ≠ 120) := by
  have hall : (g_SHAPES.all fun x => if x.1 ∈ JOIN then (strD x.2).cps.toList.all (· == 120) else (strD x.2).cps.toList.all (· != 120)) = true := by decide +kernel
  have := List.all_eq_true.mp hall _ (shp_mem h)
  simp only [strD] at this
  refine ⟨fun hw c hc => ?_, fun hw c hc => ?_⟩
  · rw [if_pos hw] at this
    simpa using List.all_eq_true.mp this c hc
  · rw [if_neg hw] at this
    simpa using List.all_eq_true.mp this c hc
theorem within_ok {T : List Fn} {i b k : Nat} (hT : T[i]? = some f_within) (n : Nat) {w : Str} {ps : List D} (hw : PyData.strOk w = true) (hl : ps.length ≤ 1000) (h4 : w = "has" → ps.length = 4) (S : St') :
    RP (FT T (n + 1) i [.t (.tup (.str w :: ps))] S) (Is S (.lst (inner w ps))) noE := by
  refine rp_fn hT rfl rfl ?_
  simp only [f_within, pad]
  have a0 := at0 (.str w) ps
  obtain ⟨b1, hb1, x1⟩ := eq_sb w "has"
  obtain ⟨b2, hb2, x2⟩ : ∃ b2, b2 = inB JOIN (.str w) ∧ cmpD .isin (.str w) (.tup [.str "not", .str "and", .str "or"]) = some b2 := ⟨_, rfl, in_cols (cols := JOIN) (k := 0) (by decide +kernel) (Ok.str hw) (by omega)⟩
  exists 1, a0, no_index (⟨_, x1, _, rfl, fun h => ?_, fun h => ?_⟩), no_index (⟨_, x2, _, rfl, fun h => ?_, fun h => ?_⟩)
  · obtain ⟨t, a, bb, c, rfl⟩ := four (h4 (hb1.mp h))
    have i4 : idxD (.tup [.str w, t, a, bb, c]) (.int 4) = some c := rfl
    exists 1, i4
    simp only [inner, if_pos (hb1.mp h)]
  · rename_i q1
    rw [cut1, inner_join (fun z => by rw [hb1.mpr z] at q1; cases q1) (by rw [h] at hb2; simpa [inB] using hb2.symm)]
  · rename_i q1
    rw [inner_no (fun z => by rw [hb1.mpr z] at q1; cases q1) (by rw [h] at hb2; simpa [inB] using hb2.symm)]
theorem parts_of_ok {T : List Fn} {i iW b : Nat} {ts : List Tab} {pl : Bool} (hb : b ≤ 1000) (hT : T[i]? = some (f_parts_of iW i)) (hW : T[iW]? = some f_within) : ∀ k (m n : Nat) (ins : Bool) (cols : List Str) (d : D), cnt ts pl k ins cols d = some n → Nk b k d → ∀ S : St',
    RP (FT T (m + k + 1) i [.t d] S) (Is S (.int n)) noE := by
  intro k
  induction k with
  | zero => intro m n ins cols d h; rw [cnt] at h; cases h; simp
  | succ k ih =>
    intro m n ins cols d h hd S
    obtain ⟨w, ps, rfl⟩ : ∃ w ps, d = .tup (.str w :: ps) := by
      apply Classical.byContradiction
      intro hn
      rw [cnt_no (fun w ps z => hn ⟨w, ps, z⟩)] at h
      cases h
    have hps : ∀ p ∈ ps, Nk b k p := by
      cases hd with
      | tup h _ => exact fun p hp => h p (List.mem_cons_of_mem _ hp)
    have hpl : ps.length < b := by
      cases hd with
      | tup _ h => exact h
    have hw : PyData.strOk w = true := by
      cases hd with
      | tup h _ =>
        cases h _ List.mem_cons_self with
        | str h _ => exact h
    rw [cnt] at h
    have key : (w = "has" → ps.length = 4) ∧ ∃ g : D → Nat, (∀ p ∈ inner w ps, ∃ ins cols, cnt ts pl k ins cols p = some (g p)) ∧ (((inner w ps).map fun p => ((g p : Nat) : Int)).sum = n - 1) := by
      by_cases hh : w = "has"
      · rw [if_pos hh] at h
        unfold hasN at h
        split at h
        · split at h
          · cases h
          · obtain ⟨tb, htb, h⟩ := Option.bind_eq_some_iff.mp h
            split at h
            · obtain ⟨n', hn, rfl⟩ := Option.map_eq_some_iff.mp h
              refine ⟨fun _ => rfl, fun p => n', fun p hp => ?_, ?_⟩
              · rw [inner, if_pos hh] at hp
                cases List.mem_singleton.mp hp
                exact ⟨_, _, hn⟩
              · rw [inner, if_pos hh]
                simp
                omega
            · cases h
        · cases h
      · rw [if_neg hh] at h
        split at h
        · cases h
        · obtain ⟨s, hs, h⟩ := Option.bind_eq_some_iff.mp h
          obtain ⟨n', hn, rfl⟩ := Option.map_eq_some_iff.mp h
          refine ⟨fun z => absurd z hh, ?_⟩
          by_cases hj : w ∈ JOIN
          · rw [inner_join hh hj]
            have := parts_x ((shp_kind hs).1 hj) hn
            refine ⟨fun p => (cnt ts pl k ins cols p).getD 0, fun p hp => ?_, ?_⟩
            · obtain ⟨a, ha⟩ := this.1 p hp
              exact ⟨ins, cols, by simp only [ha]; rfl⟩
            · rw [this.2]
              simp
              omega
          · rw [inner_no hh hj]
            rw [parts_0 ((shp_kind hs).2 hj) hn]
            exact ⟨fun _ => 0, fun p hp => (by cases hp), rfl⟩
    obtain ⟨h4, g, hg, hsum⟩ := key
    have hin : ∀ p ∈ inner w ps, p ∈ ps := by
      intro p hp
      unfold inner at hp
      split at hp
      · split at hp
        · simp_all
        · cases hp
      · split at hp
        · exact hp
        · cases hp
    have hil : (inner w ps).length ≤ 1000 := by
      unfold inner
      split
      · split <;> simp
      · split
        · omega
        · simp
    refine rp_fn (n := m + k + 1) hT rfl rfl ?_
    simp only [f_parts_of, pad]
    exists 1
    refine RP.of_no (within_ok (b := b) (k := k) hW (m + k) hw (by omega) h4 S) fun v S1 ⟨e1, e2⟩ => ?_
    subst e1; subst e2
    exists 1
    refine rp_lcI (fun y => .int (g y : Nat)) (by omega) (fun y hy acc => ?_) ?_
    · refine ⟨_, rfl, ?_⟩
      exists 1
      obtain ⟨ins', cols', hy'⟩ := hg y hy
      refine RP.of_no (ih m (g y) ins' cols' y hy' (hps y (hin y hy)) _) fun v S1 ⟨e1, e2⟩ => ?_
      subst e1; subst e2
      exact ⟨rfl, rfl⟩
    · exists 1, sum_ints (fun p => ((g p : Nat) : Int)) (inner w ps)
      rw [hsum]
      congr 2
      omega
theorem le_ii (a b : Int) : cmpD .le (.int a) (.int b) = some (decide (a ≤ b)) := rfl
def condB (ts : List Tab) (k : Nat) (cols : List Str) (d : D) : Bool := match cnt ts false k false cols d with
  | some n => decide (n ≤ 8)
  | none => false
theorem is_condition_ok {T : List Fn} {i iS iH iP iPo iWi iTo iNo iF iW b k : Nat} {ts : List Tab} (hb : b ≤ 1000) (hk : k ≤ 50) (hts : ∀ t ∈ ts, TabOk t) (hT : T[i]? = some (f_is_condition iPo iS)) (hPo : T[iPo]? = some (f_parts_of iWi iPo)) (hWi : T[iWi]? = some f_within)
    (hS : T[iS]? = some (f_sound iH iP)) (hH : T[iH]? = some (f_sound_has iTo iNo iS)) (hP : T[iP]? = some (f_part_fits iS iF))
    (hTo : T[iTo]? = some f_table_of) (hNo : T[iNo]? = some f_names_of) (hF : T[iF]? = some (f_is_from iW)) (hW : T[iW]? = some f_is_whole) (m : Nat) {cols : List Str} {d : D} (hc : ∀ c ∈ cols, PyData.strOk c = true) (hd : Nk b k d) (S : St') :
    RP (FT T (m + 2 * k + 3) i [.t (.tup (ts.map tabD)), .t (.tup (cols.map .str)), .t d] S) (Is S (.bl (condB ts k cols d))) noE := by
  refine rp_fn (n := m + 2 * k + 2) hT rfl rfl ?_
  simp only [f_is_condition, pad]
  exists 1
  refine RP.of_no (sound_ok (pl := false) hts hS hH hP hTo hNo hF hW k hk m false cols d hc hd S) fun v S1 ⟨e1, e2⟩ => ?_
  subst e1; subst e2
  unfold condB
  cases hn : cnt ts false k false cols d with
  | none =>
    exists 1
  | some n =>
    exists 1
    have := parts_of_ok hb hPo hWi k (m + k + 1) n false cols d hn hd S1
    rw [show m + k + 1 + k + 1 = m + 2 * k + 2 by omega] at this
    refine RP.of_no this fun v S1 ⟨e1, e2⟩ => ?_
    subst e1; subst e2
    exists 1, le_ii (n : Int) 8
    congr 2
    rw [decide_eq_decide]
    omega
end M

/-! what the law says of conditions -/
namespace M
open PySem PySem.Spec PyProof.Rows L2
def f__law_names_of : Fn := ⟨2, 4,
  [(.for_ (.v 2) (.of (.var 0)) [(.ife (.and (.isi (.var 1) .str) (.cmp .eq (.idx (.var 2) (.lit (D.int 0))) (.var 1))) [(.ret (.bi .tuple [(.lc (.v 3) (.of (.idx (.var 2) (.lit (D.int 2)))) [] (.idx (.var 3) (.lit (D.int 0))))]))] [])]),
  (.ret (.lit D.non))]⟩
def f__law_sound (i__law_sound i__law_names_of i__law_from : Nat) : Fn := ⟨5, 9,
  [(.ife (.or (.not (.isi (.var 2) .tuple)) (.or (.cmp .eq (.var 2) (.tup [])) (.not (.isi (.idx (.var 2) (.lit (D.int 0))) .str)))) [(.ret (.lit (D.int 0)))] []),
  (.newk 5 ["yes", "is", "below", "same", "mine", "empty", "loud", "has", "not"] [(.lit (D.int 0)), (.lit (D.int 2)), (.lit (D.int 2)), (.lit (D.int 2)), (.lit (D.int 1)), (.lit (D.int 1)), (.lit (D.int 1)), (.lit (D.int 4)), (.lit (D.int 1))]),
  (.putk 5 (.lit (D.str "and")) (.lit (D.int 2))),
  (.putk 5 (.lit (D.str "or")) (.lit (D.int 2))),
  (.ife (.or (.din true (.idx (.var 2) (.lit (D.int 0))) (.var 5)) (.or (.cmp .ne (.bi .len [(.var 2)]) (.bin .add (.lit (D.int 1)) (.dget (.var 5) (.idx (.var 2) (.lit (D.int 0)))))) (.and (.var 3) (.cmp .eq (.idx (.var 2) (.lit (D.int 0))) (.lit (D.str "mine")))))) [(.ret (.lit (D.int 0)))] []),
  (.ife (.cmp .isin (.idx (.var 2) (.lit (D.int 0))) (.tup [(.lit (D.str "not")), (.lit (D.str "and")), (.lit (D.str "or"))])) [(.asg (.v 6) (.lc (.v 8) (.of (.slc (.var 2) [(.lit (D.int 1))] [])) [] (.call i__law_sound [(.var 0), (.var 1), (.var 8), (.var 3), (.var 4)]))),
  (.ret (.ife (.cmp .gt (.bi .min [(.var 6)]) (.lit (D.int 0))) (.bin .add (.lit (D.int 1)) (.bi .sum [(.var 6)])) (.lit (D.int 0))))] []),
  (.ife (.cmp .eq (.idx (.var 2) (.lit (D.int 0))) (.lit (D.str "has"))) [(.asg (.v 7) (.call i__law_names_of [(.var 0), (.idx (.var 2) (.lit (D.int 1)))])),
  (.ife (.or (.and (.var 4) (.not (.var 3))) (.or (.cmp .is_ (.var 7) (.lit D.non)) (.or (.cmp .notin (.idx (.var 2) (.lit (D.int 2))) (.var 1)) (.cmp .notin (.idx (.var 2) (.lit (D.int 3))) (.var 7))))) [(.ret (.lit (D.int 0)))] []),
  (.asg (.v 6) (.call i__law_sound [(.var 0), (.var 7), (.idx (.var 2) (.lit (D.int 4))), (.var 3), (.lit (D.bl true))])),
  (.ret (.ife (.cmp .gt (.var 6) (.lit (D.int 0))) (.bin .add (.lit (D.int 1)) (.var 6)) (.lit (D.int 0))))] []),
  (.ife (.not (.bi .all [(.lc (.v 8) (.of (.slc (.var 2) [(.lit (D.int 1))] [(.ife (.cmp .eq (.idx (.var 2) (.lit (D.int 0))) (.lit (D.str "same"))) (.lit (D.int 3)) (.lit (D.int 2)))])) [] (.and (.isi (.var 8) .str) (.cmp .isin (.var 8) (.var 1))))])) [(.ret (.lit (D.int 0)))] []),
  (.ife (.and (.cmp .isin (.idx (.var 2) (.lit (D.int 0))) (.tup [(.lit (D.str "is")), (.lit (D.str "below"))])) (.not (.call i__law_from [(.idx (.var 2) (.lit (D.int 2))), (.lit (D.int 0)), (.bin .add (.lit (D.int 9)) (.bi .int [(.cmp .eq (.idx (.var 2) (.lit (D.int 0))) (.lit (D.str "below")))]))]))) [(.ret (.lit (D.int 0)))] []),
  (.ret (.lit (D.int 1)))]⟩
def f__law_is_condition (i__law_sound : Nat) : Fn := ⟨3, 4,
  [(.asg (.v 3) (.call i__law_sound [(.var 0), (.var 1), (.var 2), (.lit (D.bl false)), (.lit (D.bl false))])),
  (.ret (.and (.cmp .gt (.var 3) (.lit (D.int 0))) (.cmp .lt (.var 3) (.lit (D.int 9)))))]⟩
def namV (ts : List Tab) : D → D
  | .str w => (match tabOf ts w with
    | some tb => .tup ((colNames tb).map .str)
    | none => .non)
  | _ => .non
theorem lnames_ok {T : List Fn} {i : Nat} (hT : T[i]? = some f__law_names_of) (n : Nat) {ts : List Tab} (hts : ∀ t ∈ ts, TabOk t) (d : D) (S : St') : RP (FT T (n + 1) i [.t (.tup (ts.map tabD)), .t d] S) (Is S (namV ts d)) noE := by
  refine rp_fn hT rfl rfl ?_
  simp only [f__law_names_of, pad]
  exists 1
  refine op_fixM (ys := ts) tabD (fun rest ρ S' => ∃ k k2, ρ = [some (.t (.tup (ts.map tabD))), some (.t d), k, k2] ∧ S' = S ∧ (∀ t ∈ rest, TabOk t) ∧ namV ts d = namV rest d) ⟨_, _, rfl, rfl, hts, rfl⟩ ?_ ?_
  · rintro t rest ρ S' ⟨k, k2, rfl, rfl, hr, hn⟩
    refine ⟨_, rfl, ?_⟩
    have ht := hr t List.mem_cons_self
    by_cases hs : isiD d .str = true
    · obtain ⟨w, rfl⟩ := isi_str hs
      have e0 : idxD (tabD t) (.int 0) = some (.str t.name) := at0 _ _
      have e2 : idxD (tabD t) (.int 2) = some (.tup (t.cols.map colD)) := at2 _ _ _ _
      obtain ⟨b1, hb1, x1⟩ := eq_sb t.name w
      exists 1, e0, e2, no_index (⟨_, x1, _, rfl, fun h => ?_, fun h => ?_⟩)
      · refine rp_lcM (ys := t.cols) colD (fun c => .str c.name) (by have := ht.len4; omega) (fun c hc acc => ?_) ?_
        · refine ⟨_, rfl, ?_⟩
          exists 1, col_at0 (colB_colD (ht.cols.each c hc))
        · exists 1
          rw [hn]
          simp only [namV, tabOf_cons, if_pos (hb1.mp h), colNames, List.map_map]
          rfl
      · refine ⟨fun t h => hr t (List.mem_cons_of_mem _ h), ?_⟩
        rw [hn]
        simp only [namV, tabOf_cons, if_neg (fun z => by rw [hb1.mpr z] at h; cases h)]
    · have e : isiD d .str = false := by simpa using hs
      exists 1
      · exact absurd (e.symm.trans (by assumption)) (by decide)
      · refine ⟨fun t h => hr t (List.mem_cons_of_mem _ h), ?_⟩
        rw [hn]
        cases d <;> first | rfl | cases e
  · rintro ρ S' ⟨k, k2, rfl, rfl, hr, hn⟩
    exists 1
    rw [hn]
    cases d <;> rfl
/-! ### the counts -/
def ck : List Str := ["yes", "is", "below", "same", "mine", "empty", "loud", "has", "not"]
def cv : List D := [.int 0, .int 2, .int 2, .int 2, .int 1, .int 1, .int 1, .int 4, .int 1]
def CT0 : List (Key × D) := mergeD [] ck cv
def CT1 : List (Key × D) := putKD CT0 (.inr "and") (.int 2)
def CT : List (Key × D) := putKD CT1 (.inr "or") (.int 2)
theorem ct_new {ρ : Ev} {i : Nat} {S : St'} : newkO ρ i S.length ck (cv.map .t) (S ++ [.dk []]) = .nx (ρ.set i (some (.o S.length))) (S ++ [.dk CT0]) := by
  have h1 : grabs (S ++ [.dk []]) (cv.map .t) = some (cv, S ++ [.dk []]) := rfl
  simp only [newkO, h1, st_get]
  rw [if_pos (by decide), st_set]
  rfl
theorem ct_put {ρ : Ev} {S : St'} {kvs : List (Key × D)} {k : Str} {d : D} (h : decide (kvs.length < sizeLine) = true) : putkO ρ S.length d (.t (.str k)) (S ++ [.dk kvs]) = .nx ρ (S ++ [.dk (putKD kvs (.inr k) d)]) := by
  simp only [putkO, keyV, keyD, st_get]
  rw [if_pos (of_decide_eq_true h), st_set]
def cO (w : Str) : Option D := getK CT (.inr w)
theorem ct_din {S : St'} (w : Str) : dinV (S ++ [.dk CT]) true (.t (.str w)) (.o S.length) = some (.t (.bl (cO w).isNone)) := by
  simp only [dinV, kdOf, st_get, keyV, keyD, Option.bind_some, cO]
  cases getK CT (.inr w) <;> rfl
theorem ct_get {S : St'} {w : Str} {d : D} (h : cO w = some d) : dgetV (S ++ [.dk CT]) (.o S.length) (.t (.str w)) = some (.t d) := by
  unfold cO at h
  simp only [dgetV, kdOf, st_get, keyV, keyD, Option.bind_some, h, Option.map_some]
def ctB : Key × D → Bool
  | (.inr w, .int n) => if w = "has" then n == 4 else (match shp w with
    | some s => n == (s.length : Int)
    | none => false)
  | _ => false
theorem ct_some {w : Str} {d : D} (h : cO w = some d) : (w = "has" ∧ d = .int 4) ∨ (w ≠ "has" ∧ ∃ s, shp w = some s ∧ d = .int (s.length : Nat)) := by
  unfold cO getK at h
  obtain ⟨kv, h1, h2⟩ := Option.map_eq_some_iff.mp h
  obtain ⟨k, v⟩ := kv
  have hm := List.mem_of_find?_eq_some h1
  have hk : k = .inr w := by simpa using List.find?_some h1
  have h2 : v = d := h2
  subst h2
  subst hk
  have hall : (CT.all ctB) = true := by decide +kernel
  have := List.all_eq_true.mp hall _ hm
  cases v with
  | int n =>
    simp only [ctB] at this
    by_cases q : w = "has"
    · rw [if_pos q] at this
      exact .inl ⟨q, by rw [beq_iff_eq.mp this]⟩
    · rw [if_neg q] at this
      cases hs : shp w with
      | none => rw [hs] at this; cases this
      | some s =>
        rw [hs] at this
        exact .inr ⟨q, s, rfl, by rw [beq_iff_eq.mp this]⟩
  | _ => cases this
theorem ct_none {w : Str} (h : cO w = none) : w ≠ "has" ∧ shp w = none := by
  refine ⟨fun e => ?_, ?_⟩
  · subst e
    have : (cO "has").isSome = true := by decide +kernel
    rw [h] at this; cases this
  · cases hs : shp w with
    | none => rfl
    | some s =>
      have hall : (g_SHAPES.all fun x => (cO x.1).isSome) = true := by decide +kernel
      have := List.all_eq_true.mp hall _ (shp_mem hs)
      rw [h] at this; cases this
theorem cnt_pos {ts : List Tab} {pl ins : Bool} {cols : List Str} {d : D} {k n : Nat} (h : cnt ts pl k ins cols d = some n) : 1 ≤ n := by
  unfold cnt at h
  split at h
  · split at h
    · unfold hasN at h
      split at h
      · split at h
        · cases h
        · obtain ⟨tb, _, h⟩ := Option.bind_eq_some_iff.mp h
          split at h
          · obtain ⟨n', _, rfl⟩ := Option.map_eq_some_iff.mp h
            omega
          · cases h
      · cases h
    · split at h
      · cases h
      · obtain ⟨s, _, h⟩ := Option.bind_eq_some_iff.mp h
        obtain ⟨n', _, rfl⟩ := Option.map_eq_some_iff.mp h
        omega
  · cases h
def LEAF : List Str := ["is", "below", "same"]
/-- the kinds that are no join and no look elsewhere -/
theorem shp_leaf {w s : Str} (h : shp w = some s) (hj : w ∉ JOIN) : (w = "yes" ∧ s = "") ∨ (w = "is" ∧ s = "cn") ∨ (w = "below" ∧ s = "cm") ∨ (w = "same" ∧ s = "cc") ∨ (w ∉ LEAF ∧ s = "c") := by
  have hall : (g_SHAPES.all fun x => decide (x.1 ∈ JOIN) || decide ((x.1 = "yes" ∧ strD x.2 = "") ∨ (x.1 = "is" ∧ strD x.2 = "cn") ∨ (x.1 = "below" ∧ strD x.2 = "cm") ∨ (x.1 = "same" ∧ strD x.2 = "cc") ∨ (x.1 ∉ LEAF ∧ strD x.2 = "c"))) = true := by decide +kernel
  have := List.all_eq_true.mp hall _ (shp_mem h)
  simp only [strD, Bool.or_eq_true, decide_eq_true_eq] at this
  exact of_decide_eq_true (this.resolve_left hj)
theorem fold_min : ∀ (ns : List Int) (n : Int), (0 < ns.foldl min n) ↔ (0 < n ∧ ∀ x ∈ ns, 0 < x)
  | [], n => by simp
  | x :: ns, n => by
    rw [List.foldl_cons, fold_min ns (min n x)]
    simp only [List.mem_cons, forall_eq_or_imp]
    have : 0 < min n x ↔ 0 < n ∧ 0 < x := by
      simp only [Int.min_def]
      split <;> omega
    rw [this, and_assoc]
theorem join_val {f : D → Option Nat} {cols : List Str} {cs : List Nat} {ps : List D} (hf : ∀ p n, f p = some n → 1 ≤ n) (hc : ∀ c ∈ cs, c = 120) (hl : cs.length = ps.length) (hne : ps ≠ []) :
    ∃ z : Int, biD .min [.lst (ps.map fun p => D.int ((f p).getD 0 : Nat))] = some (.int z) ∧ (0 < z → (((partsN f cols cs ps).map (1 + ·)).getD 0 : Nat) = ((1 : Int) + (ps.map fun p => (((f p).getD 0 : Nat) : Int)).sum)) ∧ (¬ 0 < z → partsN f cols cs ps = none) := by
  cases ps with
  | nil => exact absurd rfl hne
  | cons p ps =>
    refine ⟨(ps.map fun p => (((f p).getD 0 : Nat) : Int)).foldl min (((f p).getD 0 : Nat) : Int), ?_, ?_, ?_⟩
    · have := ints_map (fun p => (((f p).getD 0 : Nat) : Int)) (p :: ps)
      simp only [biD]
      rw [this]
      rfl
    · intro h
      rw [fold_min] at h
      have hs : (partsN f cols cs (p :: ps)).isSome = true := by
        rw [parts_all _ _ _ _ hl, List.all_eq_true]
        rintro ⟨c, q⟩ hq
        have hm := List.of_mem_zip hq
        simp only [partN, if_pos (hc c hm.1)]
        have : 0 < (((f q).getD 0 : Nat) : Int) := by
          rcases List.mem_cons.mp hm.2 with rfl | h'
          · exact h.1
          · exact h.2 _ (List.mem_map.mpr ⟨q, h', rfl⟩)
        cases hq' : f q with
        | none => rw [hq'] at this; simp at this
        | some a => rfl
      obtain ⟨n, hn⟩ := Option.isSome_iff_exists.mp hs
      rw [(parts_x hc hn).2, hn]
      simp
    · intro h
      rw [fold_min] at h
      cases hn : partsN f cols cs (p :: ps) with
      | none => rfl
      | some n =>
        refine absurd ⟨?_, ?_⟩ h
        · obtain ⟨a, ha⟩ := (parts_x hc hn).1 p List.mem_cons_self
          have := hf _ _ ha
          rw [ha]; simp; omega
        · intro x hx
          obtain ⟨q, hq, rfl⟩ := List.mem_map.mp hx
          obtain ⟨a, ha⟩ := (parts_x hc hn).1 q (List.mem_cons_of_mem _ hq)
          have := hf _ _ ha
          rw [ha]; simp; omega
end M

/-! the law's own count of a condition's parts -/
namespace M
open PySem PySem.Spec PyProof.Rows L2
theorem gt_ii (a b : Int) : cmpD .gt (.int a) (.int b) = some (decide (b < a)) := rfl
theorem hasN_no {ts : List Tab} {pl ins : Bool} {cols : List Str} {f : List Str → D → Option Nat} {t a bb c : D} (h : namV ts t = .non) : hasN ts pl ins cols f [t, a, bb, c] = none := by
  unfold hasN
  split
  · rename_i t' a' b' c' hq
    cases hq
    cases ht : tabOf ts t' with
    | none => split <;> rfl
    | some tb => simp only [namV, ht] at h; cases h
  · rfl
theorem hasN_eq {ts : List Tab} {pl ins : Bool} {cols : List Str} {f : List Str → D → Option Nat} {t : Str} {a bb c : D} {tb : Tab} (h : tabOf ts t = some tb) : hasN ts pl ins cols f [.str t, a, bb, c] = if (ins && !pl) = true then none else if inB cols a = true ∧ inB (colNames tb) bb = true then (f (colNames tb) c).map (1 + ·) else none := by
  unfold hasN
  split
  · rename_i t' a' b' c' hq
    cases hq
    simp only [h, Option.bind_some, inB, decide_eq_true_eq]
  · rename_i hq
    split
    · rfl
    · rw [if_neg]
      rintro ⟨h1, h2⟩
      cases a <;> first | (cases h1; done) | skip
      cases bb <;> first | (cases h2; done) | skip
      exact hq _ _ _ _ rfl
theorem nam_cases (ts : List Tab) (t : D) : namV ts t = .non ∨ ∃ w tb, t = .str w ∧ tabOf ts w = some tb ∧ namV ts t = .tup ((colNames tb).map .str) := by
  cases t with
  | str w =>
    cases h : tabOf ts w with
    | none => exact .inl (by simp only [namV, h])
    | some tb => exact .inr ⟨w, tb, rfl, h, by simp only [namV, h]⟩
  | _ => exact .inl rfl
theorem cnt_has {ts : List Tab} {pl ins : Bool} {cols : List Str} {k : Nat} {w : Str} {ps : List D} (h : w = "has") : cnt ts pl (k + 1) ins cols (.tup (.str w :: ps)) = hasN ts pl ins cols (cnt ts pl k true) ps := by rw [cnt, if_pos h]
theorem cnt_shp {ts : List Tab} {pl ins : Bool} {cols : List Str} {k : Nat} {w : Str} {ps : List D} (h : w ≠ "has") : cnt ts pl (k + 1) ins cols (.tup (.str w :: ps)) = if (pl && decide (w = "mine")) = true then none else (shp w).bind fun s => (partsN (cnt ts pl k ins cols) cols s.cps.toList ps).map (1 + ·) := by rw [cnt, if_neg h]
theorem has0 {pl ins x y : Bool} {X : Option Nat} (h : (ins && !pl) = true ∨ x = false ∨ y = false) : SV.t (.int 0) = SV.t (.int ((if (ins && !pl) = true then none else if x = true ∧ y = true then X else none : Option Nat).getD 0 : Nat)) := by
  rcases h with h | h | h
  · rw [if_pos h]; rfl
  · rw [h]; split
    · rfl
    · rw [if_neg (fun z => by cases z.1)]; rfl
  · rw [h]; split
    · rfl
    · rw [if_neg (fun z => by cases z.2)]; rfl
theorem gt_no : cmpD .gt (.int ((none : Option Nat).getD 0 : Nat)) (.int 0) = some false := rfl
theorem gt_yes {n : Nat} (h : 1 ≤ n) : cmpD .gt (.int ((some n).getD 0 : Nat)) (.int 0) = some true := by
  rw [gt_ii]
  congr 1
  rw [decide_eq_true_eq]
  simp
  omega
theorem partN_c (f : D → Option Nat) (cols : List Str) (p : D) : partN f cols 99 p = if inB cols p = true then some 0 else none := by
  cases p <;> simp [partN, inB]
theorem partN_n (f : D → Option Nat) (cols : List Str) (p : D) : partN f cols 110 p = if fromB p 0 9 = true then some 0 else none := rfl
theorem partN_m (f : D → Option Nat) (cols : List Str) (p : D) : partN f cols 109 p = if fromB p 0 10 = true then some 0 else none := rfl
theorem parts2 (f : D → Option Nat) (cols : List Str) (c e : Nat) (p q : D) {x y : Bool} (h1 : partN f cols c p = if x = true then some 0 else none) (h2 : partN f cols e q = if y = true then some 0 else none) : ((partsN f cols [c, e] [p, q]).map (1 + ·)).getD 0 = if x = true ∧ y = true then 1 else 0 := by
  rw [partsN, partsN, partsN, h1, h2]
  cases x <;> cases y <;> rfl
theorem parts1 (f : D → Option Nat) (cols : List Str) (c : Nat) (p : D) {x : Bool} (h1 : partN f cols c p = if x = true then some 0 else none) : ((partsN f cols [c] [p]).map (1 + ·)).getD 0 = if x = true then 1 else 0 := by
  rw [partsN, partsN, h1]
  cases x <;> rfl
theorem inB_no {cols : List Str} {y : D} (h : isiD y .str = false) : inB cols y = false := by
  cases y <;> first | rfl | cases h
theorem et_e : (Str.ofString "").cps.toList = [] := by decide +kernel
theorem et_c : (Str.ofString "c").cps.toList = [99] := by decide +kernel
theorem et_cc : (Str.ofString "cc").cps.toList = [99, 99] := by decide +kernel
theorem et_cn : (Str.ofString "cn").cps.toList = [99, 110] := by decide +kernel
theorem et_cm : (Str.ofString "cm").cps.toList = [99, 109] := by decide +kernel
def ISB : List Str := ["is", "below"]
theorem isb_leaf {w : Str} (h : w ∈ ISB) : w ∈ LEAF := by
  simp only [ISB, LEAF, List.mem_cons, List.not_mem_nil, or_false] at h ⊢
  rcases h with h | h
  · exact .inl h
  · exact .inr (.inl h)
theorem two {α : Type} {xs : List α} (h : xs.length = 2) : ∃ a b, xs = [a, b] := by
  match xs, h with
  | [a, b], _ => exact ⟨a, b, rfl⟩
theorem lsound_ok {T : List Fn} {i iN iF b : Nat} {ts : List Tab} {pl : Bool} (hb : b ≤ 1000) (hts : ∀ t ∈ ts, TabOk t) (hT : T[i]? = some (f__law_sound i iN iF)) (hN : T[iN]? = some f__law_names_of) (hF : T[iF]? = some f__law_from) :
    ∀ k, k ≤ 50 → ∀ (m : Nat) (ins : Bool) (cols : List Str) (d : D), (∀ c ∈ cols, PyData.strOk c = true) → Nk b k d → ∀ S : St',
    RP (FT T (m + k + 1) i [.t (.tup (ts.map tabD)), .t (.tup (cols.map .str)), .t d, .t (.bl pl), .t (.bl ins)] S) (Is S (.int ((cnt ts pl k ins cols d).getD 0 : Nat))) noE := by
  intro k
  induction k with
  | zero =>
    intro _ m ins cols d hc hd S
    refine rp_fn (n := m) hT rfl rfl ?_
    simp only [f__law_sound, pad]
    rw [cnt_no (d := d) (fun w ps z => by rw [z] at hd; cases hd) 0]
    have e : isiD d .tuple = false := by cases hd <;> rfl
    exists 1
    exact absurd (e.symm.trans (by assumption)) (by decide)
  | succ k ih =>
    intro hk m ins cols d hc hd S
    refine rp_fn (n := m + k + 1) hT rfl rfl ?_
    simp only [f__law_sound, pad]
    by_cases ht : isiD d .tuple = true
    rotate_left
    · rw [cnt_no (d := d) (fun w ps z => by rw [z] at ht; exact ht rfl)]
      have e : isiD d .tuple = false := by simpa using ht
      exists 1
      exact absurd (e.symm.trans (by assumption)) (by decide)
    obtain ⟨xs, rfl⟩ : ∃ xs, d = .tup xs := by cases d <;> first | exact ⟨_, rfl⟩ | cases ht
    have hok : okD (.tup xs) = true := hd.ok.okD (by omega)
    cases xs with
    | nil =>
      rw [cnt_no (d := .tup []) (fun w ps z => by cases z)]
      have el : cmpD .eq (.tup []) (.tup []) = some true := by
        simp only [cmpD, hok, Bool.and_self, Bool.or_true, if_true]
        rfl
      exists 1, no_index (⟨_, el, _, rfl, fun h => ?_, fun h => (t_f h).elim⟩)
    | cons x ps =>
    have el : cmpD .eq (.tup (x :: ps)) (.tup []) = some false := by
      have ho2 : okD (.tup []) = true := by decide +kernel
      simp only [cmpD, hok, ho2, Bool.and_self, Bool.or_true, if_true]
      rfl
    have a0 := at0 x ps
    by_cases hx : isiD x .str = true
    rotate_left
    · rw [cnt_no (d := .tup (x :: ps)) (fun w ps z => by cases z; exact hx rfl)]
      have e : isiD x .str = false := by simpa using hx
      exists 1, a0, no_index (⟨_, el, _, rfl, fun h => (f_t h).elim, fun h => ?_⟩)
      all_goals exact absurd (e.symm.trans (by assumption)) (by decide)
    obtain ⟨w, rfl⟩ := isi_str hx
    have hps : ∀ p ∈ ps, Nk b k p := by
      cases hd with
      | tup h _ => exact fun p hp => h p (List.mem_cons_of_mem _ hp)
    have hpl : ps.length < b := by
      cases hd with
      | tup _ h => exact h
    have hw : PyData.strOk w = true := by
      cases hd with
      | tup h _ =>
        cases h _ List.mem_cons_self with
        | str h _ => exact h
    exists 1, a0, ct_din w, no_index (⟨_, el, _, rfl, fun h => (f_t h).elim, fun h => ?_⟩), no_index (⟨_, _, ct_new, ?_⟩), no_index (⟨_, _, (rfl : grab _ _ = some _), ?_⟩), no_index (⟨_, ct_put (by decide +kernel), ?_⟩)
    · have := ct_none (Option.isNone_iff_eq_none.mp h)
      rw [cnt_shp this.1, this.2]
      split <;> rfl
    rename_i h
    obtain ⟨dd, hdd⟩ : ∃ dd, cO w = some dd := by
      cases hq : cO w with
      | none => rw [hq] at h; cases h
      | some dd => exact ⟨dd, rfl⟩
    rcases ct_some hdd with ⟨e1, e2⟩ | ⟨hh, s, hs, e2⟩
    · subst e2
      obtain ⟨b0, h0, x0⟩ : ∃ b0 : Bool, (b0 = false ↔ ps.length = 4) ∧ cmpD .ne (.int ((D.str w :: ps).length : Nat)) (.int (1 + 4)) = some b0 := by
        refine ⟨!decide (ps.length = 4), by simp, ?_⟩
        rw [ne_ii]
        congr 2
        rw [decide_eq_decide, List.length_cons]
        omega
      have xm : cmpD .eq (.str w) (.str "mine") = some false := by rw [eq_ss, e1]; decide +kernel
      have xh : cmpD .eq (.str w) (.str "has") = some true := by rw [eq_ss, e1]; decide +kernel
      have xj : cmpD .isin (.str w) (.tup [.str "not", .str "and", .str "or"]) = some false := by
        rw [show (D.tup [.str "not", .str "and", .str "or"]) = .tup (JOIN.map .str) from rfl, in_cols (cols := JOIN) (k := 0) (by decide +kernel) (Ok.str hw) (by omega), e1]
        decide +kernel
      rw [cnt_has e1]
      exists 1, ct_get hdd, a0, no_index (⟨_, x0, _, rfl, fun h => ?_, fun h => ?_⟩), no_index (⟨_, xm, _, rfl, fun h => (f_t h).elim, fun h => ?_⟩), no_index (⟨_, xj, _, rfl, fun h => (f_t h).elim, fun h => ?_⟩), no_index (⟨_, xh, _, rfl, fun h => ?_, fun h => (t_f h).elim⟩)
      · rw [hasN_len (fun z => by rw [h0.mpr z] at h; cases h)]; rfl
      all_goals
        obtain ⟨t, a, bb, c, rfl⟩ := four (h0.mp (by assumption))
        have i1 := at1 (.str w) t [a, bb, c]
        have i2 := at2 (.str w) t a [bb, c]
        have i3 : idxD (.tup [.str w, t, a, bb, c]) (.int 3) = some bb := rfl
        have i4 : idxD (.tup [.str w, t, a, bb, c]) (.int 4) = some c := rfl
        have na : Nk b k a := hps _ (by simp)
        have nb : Nk b k bb := hps _ (by simp)
        have nc : Nk b k c := hps _ (by simp)
        exists 1, i1
        refine RP.of_no (lnames_ok hN (m + k) hts t _) fun v S1 ⟨e1, e2⟩ => ?_
        subst e1; subst e2
        rcases nam_cases ts t with hn | ⟨t', tb, rfl, htb, hn⟩
        · rw [hasN_no hn, hn]
          have xn : cmpD .is_ .non .non = some true := rfl
          exists 1, no_index (⟨_, xn, _, rfl, fun h => ?_, fun h => (t_f h).elim⟩)
        · have hok := hts _ (tabOf_mem htb).1
          rw [hasN_eq htb, hn]
          obtain ⟨b2, hb2, x2⟩ : ∃ b2, b2 = !inB cols a ∧ cmpD .notin a (.tup (cols.map .str)) = some b2 := ⟨_, rfl, notin_cols hc na.ok (by omega)⟩
          obtain ⟨b3, hb3, x3⟩ : ∃ b3, b3 = !inB (colNames tb) bb ∧ cmpD .notin bb (.tup ((colNames tb).map .str)) = some b3 := ⟨_, rfl, notin_cols (col_strs hok) nb.ok (by omega)⟩
          have xn : cmpD .is_ (.tup ((colNames tb).map .str)) .non = some false := rfl
          exists 1, i2, i3, i4, no_index (⟨_, xn, _, rfl, fun h => (f_t h).elim, fun h => ?_⟩), no_index (⟨_, x2, _, rfl, fun h => ?_, fun h => ?_⟩), no_index (⟨_, x3, _, rfl, fun h => ?_, fun h => ?_⟩)
          all_goals first
            | exact has0 (.inr (.inl (by rw [h] at hb2; simpa using hb2.symm)))
            | exact has0 (.inr (.inr (by rw [h] at hb3; simpa using hb3.symm)))
            | exact has0 (.inl (by rename_i q; rw [q, h]; rfl))
            | skip
          all_goals
            have hg : ¬ (ins && !pl) = true := by
              intro z
              rw [Bool.and_eq_true] at z
              have z2 : pl = false := by simpa using z.2
              first
                | exact absurd (z.1.symm.trans ‹ins = false›) (by decide)
                | exact absurd (z2.symm.trans ‹pl = true›) (by decide)
            have ha : inB cols a = true := by
              have : b2 = false := by assumption
              rw [this] at hb2; simpa using hb2.symm
            have hbb : inB (colNames tb) bb = true := by rw [h] at hb3; simpa using hb3.symm
            rw [if_neg hg, if_pos ⟨ha, hbb⟩]
            refine RP.of_no (ih (by omega) m true (colNames tb) c (col_strs hok) nc _) fun v S1 ⟨e1, e2⟩ => ?_
            subst e1; subst e2
            cases hq : cnt ts pl k true (colNames tb) c with
            | none =>
              exists 1, no_index (⟨_, gt_no, _, rfl, fun h => (f_t h).elim, fun h => ?_⟩)
            | some n =>
              have hp := cnt_pos hq
              exists 1, no_index (⟨_, gt_yes hp, _, rfl, fun h => ?_, fun h => (t_f h).elim⟩)
    subst e2
    obtain ⟨b0, h0, x0⟩ : ∃ b0 : Bool, (b0 = false ↔ s.cps.toList.length = ps.length) ∧ cmpD .ne (.int ((D.str w :: ps).length : Nat)) (.int (1 + (s.length : Nat))) = some b0 := by
      refine ⟨!decide (s.cps.toList.length = ps.length), by simp, ?_⟩
      have hl : s.length = s.cps.toList.length := by simp [Str.length]
      rw [ne_ii, hl]
      congr 2
      rw [decide_eq_decide, List.length_cons]
      omega
    obtain ⟨bm, hbm, xm⟩ := eq_sb w "mine"
    have xh : cmpD .eq (.str w) (.str "has") = some false := by rw [eq_ss]; simp [hh]
    have xj : cmpD .isin (.str w) (.tup [.str "not", .str "and", .str "or"]) = some (decide (w ∈ JOIN)) := in_cols (cols := JOIN) (k := 0) (by decide +kernel) (Ok.str hw) (by omega)
    have c0 : ps.length ≠ s.cps.toList.length → cnt ts pl (k + 1) ins cols (.tup (.str w :: ps)) = none := by
      intro z
      rw [cnt_shp hh, hs, Option.bind_some, parts_len _ _ _ _ (fun q => z q.symm)]
      split <;> rfl
    have cm : pl = true → w = "mine" → cnt ts pl (k + 1) ins cols (.tup (.str w :: ps)) = none := by
      intro z1 z2
      rw [cnt_shp hh, if_pos (by simp [z1, z2])]
    have cg : (pl = true → w ≠ "mine") → cnt ts pl (k + 1) ins cols (.tup (.str w :: ps)) = (partsN (cnt ts pl k ins cols) cols s.cps.toList ps).map (1 + ·) := by
      intro z
      rw [cnt_shp hh, if_neg (by
        intro q
        rw [Bool.and_eq_true, decide_eq_true_eq] at q
        exact z q.1 q.2), hs]
      rfl
    by_cases hj : w ∈ JOIN
    · rw [decide_eq_true hj] at xj
      exists 1, ct_get hdd, a0, no_index (⟨_, x0, _, rfl, fun h => ?_, fun h => ?_⟩), no_index (⟨_, xm, _, rfl, fun h => ?_, fun h => ?_⟩), no_index (⟨_, xj, _, rfl, fun h => ?_, fun h => (t_f h).elim⟩)
      · rw [c0 (fun z => by rw [h0.mpr z.symm] at h; cases h)]; rfl
      · rename_i q
        rw [cm q (hbm.mp h)]; rfl
      all_goals
        rw [cg (fun z1 z2 => by
          first
            | exact absurd ((hbm.mpr z2).symm.trans ‹bm = false›) (by decide)
            | exact absurd (z1.symm.trans ‹pl = false›) (by decide)), cut1]
        have hl : s.cps.toList.length = ps.length := h0.mp (by assumption)
        refine rp_lcI (fun y => .int ((cnt ts pl k ins cols y).getD 0 : Nat)) (by omega) (fun y hy acc => ?_) ?_
        · refine ⟨_, rfl, ?_⟩
          exists 1
          refine RP.of_no (ih (by omega) m ins cols y hc (hps y hy) _) fun v S1 ⟨e1, e2⟩ => ?_
          subst e1; subst e2
          exact ⟨rfl, rfl⟩
        · have hne : ps ≠ [] := by
            intro z
            rw [z] at hl
            have hall : (g_SHAPES.all fun x => decide (x.1 ∈ JOIN → (strD x.2).cps.toList.length ≠ 0)) = true := by decide +kernel
            have := of_decide_eq_true (List.all_eq_true.mp hall _ (shp_mem hs)) hj
            exact this hl
          obtain ⟨z, hz, hp1, hp0⟩ := join_val (cols := cols) (fun p n => cnt_pos (ts := ts) (pl := pl) (ins := ins) (cols := cols) (k := k)) ((shp_kind hs).1 hj) hl hne
          have hsum := sum_ints (fun p => (((cnt ts pl k ins cols p).getD 0 : Nat) : Int)) ps
          by_cases hz0 : 0 < z
          · have xz : cmpD .gt (.int z) (.int 0) = some true := by rw [gt_ii, decide_eq_true hz0]
            exists 1, hz, hsum, no_index (⟨_, xz, _, rfl, fun h => ?_, fun h => (t_f h).elim⟩)
            rw [hp1 hz0]
          · have xz : cmpD .gt (.int z) (.int 0) = some false := by rw [gt_ii, decide_eq_false hz0]
            exists 1, hz, hsum, no_index (⟨_, xz, _, rfl, fun h => (f_t h).elim, fun h => ?_⟩)
            rw [hp0 hz0]; rfl
    · rw [decide_eq_false hj] at xj
      rcases shp_leaf hs hj with ⟨ew, es⟩ | ⟨ew, es⟩ | ⟨ew, es⟩ | ⟨ew, es⟩ | ⟨ew, es⟩
      · have xs : cmpD .eq (.str w) (.str "same") = some false := by rw [eq_ss, ew]; decide +kernel
        have xi : cmpD .isin (.str w) (.tup [.str "is", .str "below"]) = some false := by
          rw [show (D.tup [.str "is", .str "below"]) = .tup (ISB.map .str) from rfl, in_cols (cols := ISB) (k := 0) (by decide +kernel) (Ok.str hw) (by omega), ew]
          decide +kernel
        exists 1, ct_get hdd, a0, no_index (⟨_, x0, _, rfl, fun h => ?_, fun h => ?_⟩), no_index (⟨_, xm, _, rfl, fun h => ?_, fun h => ?_⟩), no_index (⟨_, xj, _, rfl, fun h => (f_t h).elim, fun h => ?_⟩), no_index (⟨_, xh, _, rfl, fun h => (f_t h).elim, fun h => ?_⟩), no_index (⟨_, xs, _, rfl, fun h => (f_t h).elim, fun h => ?_⟩)
        · rw [c0 (fun z => by rw [h0.mpr z.symm] at h; cases h)]; rfl
        · rename_i q
          rw [cm q (hbm.mp h)]; rfl
        all_goals
          rw [cg (fun z1 z2 => by
            first
              | exact absurd ((hbm.mpr z2).symm.trans ‹bm = false›) (by decide)
              | exact absurd (z1.symm.trans ‹pl = false›) (by decide))]
          have hl : s.cps.toList.length = ps.length := h0.mp (by assumption)
          rw [es, et_e] at hl ⊢
          obtain rfl := List.eq_nil_of_length_eq_zero hl.symm
          have ec : cutD [.str w] (some 1) (some 2) = [] := rfl
          rw [ec]
          refine rp_lcI (fun y => .bl (inB cols y)) (show [].length ≤ 16777216 from (by simp only [List.length_cons, List.length_nil]; omega)) (fun y hy acc => ?_) ?_
          · refine ⟨_, rfl, ?_⟩
            have ny : Nk b k y := hps y (by first | exact hy | (have := List.mem_singleton.mp hy; subst this; simp))
            obtain ⟨by', hby, xy⟩ : ∃ by', by' = inB cols y ∧ cmpD .isin y (.tup (cols.map .str)) = some by' := ⟨_, rfl, in_cols hc ny.ok (by omega)⟩
            exists 1, xy
            · exact ⟨congrArg (fun z => SV.t (.bl z)) hby, rfl⟩
            · exact ⟨by rw [h, inB_no h], rfl⟩
          have xa : biD .all [.lst ([].map fun y => D.bl (inB cols y))] = some (.bl ([].all (inB cols))) := all_bls _ _
          cases hall : [].all (inB cols) with
          | false =>
            cases hall
          | true =>
            rw [hall] at xa
            exists 1, xa, a0, no_index (⟨_, xi, _, rfl, fun h => (f_t h).elim, fun h => ?_⟩)
      · have xs : cmpD .eq (.str w) (.str "same") = some false := by rw [eq_ss, ew]; decide +kernel
        have xi : cmpD .isin (.str w) (.tup [.str "is", .str "below"]) = some true := by
          rw [show (D.tup [.str "is", .str "below"]) = .tup (ISB.map .str) from rfl, in_cols (cols := ISB) (k := 0) (by decide +kernel) (Ok.str hw) (by omega), ew]
          decide +kernel
        exists 1, ct_get hdd, a0, no_index (⟨_, x0, _, rfl, fun h => ?_, fun h => ?_⟩), no_index (⟨_, xm, _, rfl, fun h => ?_, fun h => ?_⟩), no_index (⟨_, xj, _, rfl, fun h => (f_t h).elim, fun h => ?_⟩), no_index (⟨_, xh, _, rfl, fun h => (f_t h).elim, fun h => ?_⟩), no_index (⟨_, xs, _, rfl, fun h => (f_t h).elim, fun h => ?_⟩)
        · rw [c0 (fun z => by rw [h0.mpr z.symm] at h; cases h)]; rfl
        · rename_i q
          rw [cm q (hbm.mp h)]; rfl
        all_goals
          rw [cg (fun z1 z2 => by
            first
              | exact absurd ((hbm.mpr z2).symm.trans ‹bm = false›) (by decide)
              | exact absurd (z1.symm.trans ‹pl = false›) (by decide))]
          have hl : s.cps.toList.length = ps.length := h0.mp (by assumption)
          rw [es, et_cn] at hl ⊢
          obtain ⟨p, q, rfl⟩ := two hl.symm
          have ec : cutD [.str w, p, q] (some 1) (some 2) = [p] := rfl
          rw [ec]
          refine rp_lcI (fun y => .bl (inB cols y)) (show [p].length ≤ 16777216 from (by simp only [List.length_cons, List.length_nil]; omega)) (fun y hy acc => ?_) ?_
          · refine ⟨_, rfl, ?_⟩
            have ny : Nk b k y := hps y (by first | exact hy | (have := List.mem_singleton.mp hy; subst this; simp))
            obtain ⟨by', hby, xy⟩ : ∃ by', by' = inB cols y ∧ cmpD .isin y (.tup (cols.map .str)) = some by' := ⟨_, rfl, in_cols hc ny.ok (by omega)⟩
            exists 1, xy
            · exact ⟨congrArg (fun z => SV.t (.bl z)) hby, rfl⟩
            · exact ⟨by rw [h, inB_no h], rfl⟩
          have xa : biD .all [.lst ([p].map fun y => D.bl (inB cols y))] = some (.bl ([p].all (inB cols))) := all_bls _ _
          cases hall : [p].all (inB cols) with
          | false =>
            rw [hall] at xa
            exists 1, xa
            have hp0 : inB cols p = false := by simpa using hall
            rw [parts2 _ _ 99 110 p q (partN_c _ _ p) (partN_n _ _ q), hp0]
            try rfl
          | true =>
            rw [hall] at xa
            have i2 := at2 (.str w) p q []
            have xb : cmpD .eq (.str w) (.str "below") = some false := by rw [eq_ss, ew]; decide +kernel
            exists 1, xa, a0, i2, xb, no_index (⟨_, xi, _, rfl, fun h => ?_, fun h => (t_f h).elim⟩)
            refine RP.of_no (lfrom_ok hF (m + k) q 0 (9 + 0) _) fun v S1 ⟨e1, e2⟩ => ?_
            subst e1; subst e2
            have hp0 : inB cols p = true := by simpa using hall
            rw [parts2 _ _ 99 110 p q (partN_c _ _ p) (partN_n _ _ q), hp0]
            exists 1
            · rw [if_pos ⟨rfl, h⟩]; rfl
            · rw [if_neg (fun z => Bool.false_ne_true (h.symm.trans z.2))]; rfl
      · have xs : cmpD .eq (.str w) (.str "same") = some false := by rw [eq_ss, ew]; decide +kernel
        have xi : cmpD .isin (.str w) (.tup [.str "is", .str "below"]) = some true := by
          rw [show (D.tup [.str "is", .str "below"]) = .tup (ISB.map .str) from rfl, in_cols (cols := ISB) (k := 0) (by decide +kernel) (Ok.str hw) (by omega), ew]
          decide +kernel
        exists 1, ct_get hdd, a0, no_index (⟨_, x0, _, rfl, fun h => ?_, fun h => ?_⟩), no_index (⟨_, xm, _, rfl, fun h => ?_, fun h => ?_⟩), no_index (⟨_, xj, _, rfl, fun h => (f_t h).elim, fun h => ?_⟩), no_index (⟨_, xh, _, rfl, fun h => (f_t h).elim, fun h => ?_⟩), no_index (⟨_, xs, _, rfl, fun h => (f_t h).elim, fun h => ?_⟩)
        · rw [c0 (fun z => by rw [h0.mpr z.symm] at h; cases h)]; rfl
        · rename_i q
          rw [cm q (hbm.mp h)]; rfl
        all_goals
          rw [cg (fun z1 z2 => by
            first
              | exact absurd ((hbm.mpr z2).symm.trans ‹bm = false›) (by decide)
              | exact absurd (z1.symm.trans ‹pl = false›) (by decide))]
          have hl : s.cps.toList.length = ps.length := h0.mp (by assumption)
          rw [es, et_cm] at hl ⊢
          obtain ⟨p, q, rfl⟩ := two hl.symm
          have ec : cutD [.str w, p, q] (some 1) (some 2) = [p] := rfl
          rw [ec]
          refine rp_lcI (fun y => .bl (inB cols y)) (show [p].length ≤ 16777216 from (by simp only [List.length_cons, List.length_nil]; omega)) (fun y hy acc => ?_) ?_
          · refine ⟨_, rfl, ?_⟩
            have ny : Nk b k y := hps y (by first | exact hy | (have := List.mem_singleton.mp hy; subst this; simp))
            obtain ⟨by', hby, xy⟩ : ∃ by', by' = inB cols y ∧ cmpD .isin y (.tup (cols.map .str)) = some by' := ⟨_, rfl, in_cols hc ny.ok (by omega)⟩
            exists 1, xy
            · exact ⟨congrArg (fun z => SV.t (.bl z)) hby, rfl⟩
            · exact ⟨by rw [h, inB_no h], rfl⟩
          have xa : biD .all [.lst ([p].map fun y => D.bl (inB cols y))] = some (.bl ([p].all (inB cols))) := all_bls _ _
          cases hall : [p].all (inB cols) with
          | false =>
            rw [hall] at xa
            exists 1, xa
            have hp0 : inB cols p = false := by simpa using hall
            rw [parts2 _ _ 99 109 p q (partN_c _ _ p) (partN_m _ _ q), hp0]
            try rfl
          | true =>
            rw [hall] at xa
            have i2 := at2 (.str w) p q []
            have xb : cmpD .eq (.str w) (.str "below") = some true := by rw [eq_ss, ew]; decide +kernel
            exists 1, xa, a0, i2, xb, no_index (⟨_, xi, _, rfl, fun h => ?_, fun h => (t_f h).elim⟩)
            refine RP.of_no (lfrom_ok hF (m + k) q 0 (9 + 1) _) fun v S1 ⟨e1, e2⟩ => ?_
            subst e1; subst e2
            have hp0 : inB cols p = true := by simpa using hall
            rw [parts2 _ _ 99 109 p q (partN_c _ _ p) (partN_m _ _ q), hp0]
            exists 1
            · rw [if_pos ⟨rfl, h⟩]; rfl
            · rw [if_neg (fun z => Bool.false_ne_true (h.symm.trans z.2))]; rfl
      · have xs : cmpD .eq (.str w) (.str "same") = some true := by rw [eq_ss, ew]; decide +kernel
        have xi : cmpD .isin (.str w) (.tup [.str "is", .str "below"]) = some false := by
          rw [show (D.tup [.str "is", .str "below"]) = .tup (ISB.map .str) from rfl, in_cols (cols := ISB) (k := 0) (by decide +kernel) (Ok.str hw) (by omega), ew]
          decide +kernel
        exists 1, ct_get hdd, a0, no_index (⟨_, x0, _, rfl, fun h => ?_, fun h => ?_⟩), no_index (⟨_, xm, _, rfl, fun h => ?_, fun h => ?_⟩), no_index (⟨_, xj, _, rfl, fun h => (f_t h).elim, fun h => ?_⟩), no_index (⟨_, xh, _, rfl, fun h => (f_t h).elim, fun h => ?_⟩), no_index (⟨_, xs, _, rfl, fun h => ?_, fun h => (t_f h).elim⟩)
        · rw [c0 (fun z => by rw [h0.mpr z.symm] at h; cases h)]; rfl
        · rename_i q
          rw [cm q (hbm.mp h)]; rfl
        all_goals
          rw [cg (fun z1 z2 => by
            first
              | exact absurd ((hbm.mpr z2).symm.trans ‹bm = false›) (by decide)
              | exact absurd (z1.symm.trans ‹pl = false›) (by decide))]
          have hl : s.cps.toList.length = ps.length := h0.mp (by assumption)
          rw [es, et_cc] at hl ⊢
          obtain ⟨p, q, rfl⟩ := two hl.symm
          have ec : cutD [.str w, p, q] (some 1) (some 3) = [p, q] := rfl
          rw [ec]
          refine rp_lcI (fun y => .bl (inB cols y)) (show [p, q].length ≤ 16777216 from (by simp only [List.length_cons, List.length_nil]; omega)) (fun y hy acc => ?_) ?_
          · refine ⟨_, rfl, ?_⟩
            have ny : Nk b k y := hps y (by first | exact hy | (have := List.mem_singleton.mp hy; subst this; simp))
            obtain ⟨by', hby, xy⟩ : ∃ by', by' = inB cols y ∧ cmpD .isin y (.tup (cols.map .str)) = some by' := ⟨_, rfl, in_cols hc ny.ok (by omega)⟩
            exists 1, xy
            · exact ⟨congrArg (fun z => SV.t (.bl z)) hby, rfl⟩
            · exact ⟨by rw [h, inB_no h], rfl⟩
          have xa : biD .all [.lst ([p, q].map fun y => D.bl (inB cols y))] = some (.bl ([p, q].all (inB cols))) := all_bls _ _
          cases hall : [p, q].all (inB cols) with
          | false =>
            rw [hall] at xa
            exists 1, xa
            rw [parts2 _ _ 99 99 p q (partN_c _ _ p) (partN_c _ _ q), if_neg (by intro z; simp [z.1, z.2] at hall)]
            try rfl
          | true =>
            rw [hall] at xa
            exists 1, xa, a0, no_index (⟨_, xi, _, rfl, fun h => (f_t h).elim, fun h => ?_⟩)
            have hp0 : inB cols p = true ∧ inB cols q = true := by simpa using hall
            rw [parts2 _ _ 99 99 p q (partN_c _ _ p) (partN_c _ _ q), if_pos hp0]
            try rfl
      · have xs : cmpD .eq (.str w) (.str "same") = some false := by rw [eq_ss, decide_eq_false (fun z => ew (by rw [z]; decide +kernel))]
        have xi : cmpD .isin (.str w) (.tup [.str "is", .str "below"]) = some false := by
          rw [show (D.tup [.str "is", .str "below"]) = .tup (ISB.map .str) from rfl, in_cols (cols := ISB) (k := 0) (by decide +kernel) (Ok.str hw) (by omega)]
          exact congrArg some (decide_eq_false (fun z => ew (isb_leaf z)))
        exists 1, ct_get hdd, a0, no_index (⟨_, x0, _, rfl, fun h => ?_, fun h => ?_⟩), no_index (⟨_, xm, _, rfl, fun h => ?_, fun h => ?_⟩), no_index (⟨_, xj, _, rfl, fun h => (f_t h).elim, fun h => ?_⟩), no_index (⟨_, xh, _, rfl, fun h => (f_t h).elim, fun h => ?_⟩), no_index (⟨_, xs, _, rfl, fun h => (f_t h).elim, fun h => ?_⟩)
        · rw [c0 (fun z => by rw [h0.mpr z.symm] at h; cases h)]; rfl
        · rename_i q
          rw [cm q (hbm.mp h)]; rfl
        all_goals
          rw [cg (fun z1 z2 => by
            first
              | exact absurd ((hbm.mpr z2).symm.trans ‹bm = false›) (by decide)
              | exact absurd (z1.symm.trans ‹pl = false›) (by decide))]
          have hl : s.cps.toList.length = ps.length := h0.mp (by assumption)
          rw [es, et_c] at hl ⊢
          obtain ⟨p, rfl⟩ := List.length_eq_one_iff.mp hl.symm
          have ec : cutD [.str w, p] (some 1) (some 2) = [p] := rfl
          rw [ec]
          refine rp_lcI (fun y => .bl (inB cols y)) (show [p].length ≤ 16777216 from (by simp only [List.length_cons, List.length_nil]; omega)) (fun y hy acc => ?_) ?_
          · refine ⟨_, rfl, ?_⟩
            have ny : Nk b k y := hps y (by first | exact hy | (have := List.mem_singleton.mp hy; subst this; simp))
            obtain ⟨by', hby, xy⟩ : ∃ by', by' = inB cols y ∧ cmpD .isin y (.tup (cols.map .str)) = some by' := ⟨_, rfl, in_cols hc ny.ok (by omega)⟩
            exists 1, xy
            · exact ⟨congrArg (fun z => SV.t (.bl z)) hby, rfl⟩
            · exact ⟨by rw [h, inB_no h], rfl⟩
          have xa : biD .all [.lst ([p].map fun y => D.bl (inB cols y))] = some (.bl ([p].all (inB cols))) := all_bls _ _
          cases hall : [p].all (inB cols) with
          | false =>
            rw [hall] at xa
            exists 1, xa
            have hp0 : inB cols p = false := by simpa using hall
            rw [parts1 _ _ 99 p (partN_c _ _ p), hp0]
            try rfl
          | true =>
            rw [hall] at xa
            exists 1, xa, a0, no_index (⟨_, xi, _, rfl, fun h => (f_t h).elim, fun h => ?_⟩)
            have hp0 : inB cols p = true := by simpa using hall
            rw [parts1 _ _ 99 p (partN_c _ _ p), hp0]
            try rfl
end M

/-! the law's conditions: how they are drawn -/
namespace M
open PySem PySem.Spec PyProof.Rows L2
def f__law_atom : Fn := ⟨3, 7,
  [(.asg (.v 3) (.bin .add (.lst [(.lit (D.str "is")), (.lit (D.str "below")), (.lit (D.str "same")), (.lit (D.str "empty")), (.lit (D.str "is")), (.lit (D.str "below")), (.lit (D.str "yes"))]) (.bin .mul (.lst [(.lit (D.str "mine"))]) (.mth .count (.var 2) [(.lit (D.str "m"))])))),
  (.asg (.v 3) (.bin .add (.var 3) (.bin .mul (.lst [(.lit (D.str "loud")), (.lit (D.str "loud")), (.lit (D.str "loud"))]) (.mth .count (.var 2) [(.lit (D.str "l"))])))),
  (.asg (.v 4) (.idx (.var 3) (.bin .mod (.idx (.var 0) (.lit (D.int 0))) (.bi .len [(.var 3)])))),
  (.asg (.v 5) (.idx (.var 1) (.bin .mod (.idx (.var 0) (.lit (D.int 1))) (.bi .len [(.var 1)])))),
  (.ife (.cmp .eq (.var 4) (.lit (D.str "yes"))) [(.ret (.tup [(.var 4)]))] []),
  (.ife (.cmp .eq (.var 4) (.lit (D.str "same"))) [(.ret (.tup [(.var 4), (.var 5), (.idx (.var 1) (.bin .mod (.idx (.var 0) (.lit (D.int 2))) (.bi .len [(.var 1)])))]))] []),
  (.ife (.cmp .isin (.var 4) (.tup [(.lit (D.str "is")), (.lit (D.str "below"))])) [(.asg (.v 6) (.idx (.lst [(.bin .mod (.idx (.var 0) (.lit (D.int 3))) (.lit (D.int 3))), (.bin .mod (.idx (.var 0) (.lit (D.int 3))) (.lit (D.int 10)))]) (.bin .mod (.idx (.var 0) (.lit (D.int 4))) (.lit (D.int 2))))),
  (.ret (.tup [(.var 4), (.var 5), (.bin .add (.var 6) (.bi .int [(.and (.cmp .eq (.var 4) (.lit (D.str "below"))) (.cmp .eq (.bin .mod (.idx (.var 0) (.lit (D.int 5))) (.lit (D.int 2))) (.lit (D.int 0))))]))]))] []),
  (.ret (.tup [(.var 4), (.var 5)]))]⟩
def f__law_condition (i__law_atom i__law_condition : Nat) : Fn := ⟨5, 13,
  [(.ife (.cmp .lt (.var 1) (.lit (D.int 2))) [(.ret (.call i__law_atom [(.var 0), (.var 3), (.var 4)]))] []),
  (.asg (.v 5) (.bin .add (.bin .add (.lst [(.lit (D.str "not"))]) (.bin .mul (.lst [(.lit (D.str "and")), (.lit (D.str "or")), (.lit (D.str "and")), (.lit (D.str "or"))]) (.bi .int [(.cmp .gt (.var 1) (.lit (D.int 2)))]))) (.bin .mul (.lst [(.lit (D.str "has"))]) (.mth .count (.var 4) [(.lit (D.str "h"))])))),
  (.asg (.v 6) (.idx (.var 5) (.bin .mod (.idx (.var 0) (.lit (D.int 0))) (.bi .len [(.var 5)])))),
  (.ife (.cmp .eq (.var 6) (.lit (D.str "has"))) [(.asg (.v 7) (.idx (.var 2) (.bin .mod (.idx (.var 0) (.lit (D.int 1))) (.bi .len [(.var 2)])))),
  (.asg (.v 8) (.lc (.v 12) (.of (.idx (.var 7) (.lit (D.int 2)))) [] (.idx (.var 12) (.lit (D.int 0))))),
  (.asg (.v 9) (.callR i__law_condition [(.slc (.var 0) [(.lit (D.int 6))] []), (.bin .sub (.var 1) (.lit (D.int 1))), (.var 2), (.var 8)] (.var 4) "h" "")),
  (.ret (.tup [(.var 6), (.idx (.var 7) (.lit (D.int 0))), (.idx (.var 3) (.bin .mod (.idx (.var 0) (.lit (D.int 2))) (.bi .len [(.var 3)]))), (.idx (.var 8) (.bin .mod (.idx (.var 0) (.lit (D.int 3))) (.bi .len [(.var 8)]))), (.var 9)]))] []),
  (.ife (.cmp .eq (.var 6) (.lit (D.str "not"))) [(.ret (.tup [(.var 6), (.call i__law_condition [(.slc (.var 0) [(.lit (D.int 6))] []), (.bin .sub (.var 1) (.lit (D.int 1))), (.var 2), (.var 3), (.var 4)])]))] []),
  (.asg (.v 10) (.bin .add (.lit (D.int 1)) (.bin .mod (.idx (.var 0) (.lit (D.int 1))) (.bin .sub (.var 1) (.lit (D.int 2)))))),
  (.asg (.v 11) (.call i__law_condition [(.slc (.var 0) [(.lit (D.int 6))] [(.bin .add (.lit (D.int 6)) (.bin .mul (.lit (D.int 6)) (.var 10)))]), (.var 10), (.var 2), (.var 3), (.var 4)])),
  (.ret (.tup [(.var 6), (.var 11), (.call i__law_condition [(.slc (.var 0) [(.bin .add (.lit (D.int 6)) (.bin .mul (.lit (D.int 6)) (.var 10)))] []), (.bin .sub (.bin .sub (.var 1) (.lit (D.int 1))) (.var 10)), (.var 2), (.var 3), (.var 4)])]))]⟩
def f__law_new_names (i__law_name : Nat) : Fn := ⟨3, 5,
  [(.new 3 (.lst [])),
  (.for_ (.v 4) (.range1 (.var 1)) [(.app 3 (.call i__law_name [(.slc (.var 0) [(.var 4)] []), (.bin .add (.var 2) (.var 3))]))]),
  (.ret (.bi .tuple [(.var 3)]))]⟩
def f__law_some_columns (i__law_new_names : Nat) : Fn := ⟨2, 4,
  [(.asg (.v 2) (.lc (.v 3) (.of (.idx (.idx (.var 1) (.bin .mod (.idx (.var 0) (.lit (D.int 0))) (.bi .len [(.var 1)]))) (.lit (D.int 2)))) [] (.idx (.var 3) (.lit (D.int 0))))),
  (.ret (.bin .add (.bi .tuple [(.var 2)]) (.call i__law_new_names [(.slc (.var 0) [(.lit (D.int 1))] []), (.bin .mod (.idx (.var 0) (.lit (D.int 6))) (.lit (D.int 4))), (.var 2)])))]⟩
theorem lt_ii (a b : Int) : cmpD .lt (.int a) (.int b) = some (decide (a < b)) := rfl
theorem lis_condition_ok {T : List Fn} {i iS iN iF b k : Nat} {ts : List Tab} (hb : b ≤ 1000) (hk : k ≤ 50) (hts : ∀ t ∈ ts, TabOk t) (hT : T[i]? = some (f__law_is_condition iS)) (hS : T[iS]? = some (f__law_sound iS iN iF)) (hN : T[iN]? = some f__law_names_of) (hF : T[iF]? = some f__law_from)
    (m : Nat) {cols : List Str} {d : D} (hc : ∀ c ∈ cols, PyData.strOk c = true) (hd : Nk b k d) (S : St') :
    RP (FT T (m + k + 2) i [.t (.tup (ts.map tabD)), .t (.tup (cols.map .str)), .t d] S) (Is S (.bl (condB ts k cols d))) noE := by
  refine rp_fn (n := m + k + 1) hT rfl rfl ?_
  simp only [f__law_is_condition, pad]
  exists 1
  refine RP.of_no (lsound_ok (pl := false) hb hts hS hN hF k hk m false cols d hc hd S) fun v S1 ⟨e1, e2⟩ => ?_
  subst e1; subst e2
  unfold condB
  cases hn : cnt ts false k false cols d with
  | none =>
    exists 1, no_index (⟨_, gt_no, _, rfl, fun h => (f_t h).elim, fun h => ?_⟩)
  | some n =>
    have hp := cnt_pos hn
    exists 1, no_index (⟨_, gt_yes hp, _, rfl, fun h => ?_, fun h => (t_f h).elim⟩)
    refine congrArg (fun z => SV.t (.bl z)) ?_
    rw [decide_eq_decide]
    simp
    omega
/-! ### picks -/
def WAYS : List Str := ["lmh", "lm", "lh", "mh", "l", "m", "h", ""]
def wA : List D := [.str "is", .str "below", .str "same", .str "empty", .str "is", .str "below", .str "yes"]
def wM (w : Str) : List D := (List.replicate (cntT w "m").toNat [D.str "mine"]).flatten
def wL (w : Str) : List D := (List.replicate (cntT w "l").toNat [D.str "loud", D.str "loud", D.str "loud"]).flatten
def wH (w : Str) : List D := (List.replicate (cntT w "h").toNat [D.str "has"]).flatten
theorem ways_b : ∀ w ∈ WAYS, (0 ≤ (cntT w "m") ∧ (cntT w "m") ≤ 3) ∧ (0 ≤ (cntT w "l") ∧ (cntT w "l") ≤ 3) ∧ (0 ≤ (cntT w "h") ∧ (cntT w "h") ≤ 3) := by decide +kernel
theorem ways_r : ∀ w ∈ WAYS, repT w "h" "" ∈ WAYS := by decide +kernel
theorem ways_l : ∀ w ∈ WAYS, w.length ≤ 3 := by decide +kernel
def ATOMS : List Str := ["is", "below", "same", "empty", "yes", "mine", "loud"]
theorem atoms_b : ∀ w ∈ ATOMS, PyData.strOk w = true ∧ w.length ≤ 10 := by decide +kernel
theorem words_b : (WAYS.all fun w => (wA ++ wM w ++ wL w).all fun d => isiD d .str && decide (strD d ∈ ATOMS)) = true := by decide +kernel
theorem words_m {w : Str} {d : D} (hw : w ∈ WAYS) (h : d ∈ wA ++ wM w ++ wL w) : ∃ x ∈ ATOMS, d = .str x := by
  have := List.all_eq_true.mp (List.all_eq_true.mp words_b w hw) d h
  rw [Bool.and_eq_true] at this
  obtain ⟨x, rfl⟩ := isi_str this.1
  exact ⟨x, of_decide_eq_true this.2, rfl⟩
theorem mul_ok {xs : List D} {k : Int} (h0 : 0 ≤ k) (h1 : k ≤ 3) (hl : xs.length ≤ 100) : binD .mul (.lst xs) (.int k) = some (.lst (List.replicate k.toNat xs).flatten) := by
  simp only [binD]
  refine if_pos ⟨by omega, by omega, le_sz' ?_⟩
  have h2 : k.toNat ≤ 3 := by omega
  have := Nat.mul_le_mul hl h2
  omega
theorem add_ok {xs ys : List D} (h : xs.length + ys.length ≤ 100000) : binD .add (.lst xs) (.lst ys) = some (.lst (xs ++ ys)) := by
  simp only [binD]
  exact if_pos (le_sz' (by omega))
theorem fl_len (k : Nat) (xs : List D) : ((List.replicate k xs).flatten).length = k * xs.length := by simp
/-- the columns, as a tuple or a list -/
structure ColsD (cD : D) (cols : List Str) : Prop where
  shape : cD = .tup (cols.map .str) ∨ cD = .lst (cols.map .str)
  name : ∀ c ∈ cols, NameOk c
  len1 : 1 ≤ cols.length
  len2 : cols.length ≤ 20
theorem ColsD.len {cD : D} {cols : List Str} (h : ColsD cD cols) : biD .len [cD] = some (.int (cols.length : Nat)) := by
  rcases h.shape with rfl | rfl <;> simp only [biD, List.length_map]
theorem ColsD.at_ {cD : D} {cols : List Str} (h : ColsD cD cols) (z : Int) : ∃ c ∈ cols, idxD cD (.int (z % (cols.length : Nat))) = some (.str c) := by
  have hp : (0 : Int) < (cols.length : Nat) := by have := h.len1; omega
  obtain ⟨d, h1, h2⟩ := at_mem (xs := cols.map D.str) (z := z % (cols.length : Nat)) (Int.emod_nonneg _ (by omega)) (by rw [List.length_map]; exact Int.emod_lt_of_pos _ hp)
  obtain ⟨c, hc, rfl⟩ := List.mem_map.mp h2
  refine ⟨c, hc, ?_⟩
  rcases h.shape with rfl | rfl <;> exact h1
theorem mod_ok {i : Int} {n : Nat} (h : 1 ≤ n) : binD .mod (.int i) (.int (n : Nat)) = some (.int (i % (n : Nat))) := by
  simp only [binD]
  exact if_pos (by omega)
theorem Nk.nm {w : Str} {k : Nat} (h : NameOk w) : Nk 10 k (.str w) := .str h.let_.ok (by have := h.le; omega)
theorem Nk.at_ {w : Str} {k : Nat} (h : w ∈ ATOMS) : Nk 10 k (.str w) := .str (atoms_b w h).1 (atoms_b w h).2
theorem nk1 {k : Nat} {a : D} (ha : Nk 10 k a) : Nk 10 (k + 1) (.tup [a]) := .tup (fun x hx => by
  simp only [List.mem_cons, List.not_mem_nil, or_false] at hx
  rcases hx with rfl
  exact ha) (by simp)
theorem nk2 {k : Nat} {a b : D} (ha : Nk 10 k a) (hb : Nk 10 k b) : Nk 10 (k + 1) (.tup [a, b]) := .tup (fun x hx => by
  simp only [List.mem_cons, List.not_mem_nil, or_false] at hx
  rcases hx with rfl | rfl
  · exact ha
  · exact hb) (by simp)
theorem nk3 {k : Nat} {a b c : D} (ha : Nk 10 k a) (hb : Nk 10 k b) (hc : Nk 10 k c) : Nk 10 (k + 1) (.tup [a, b, c]) := .tup (fun x hx => by
  simp only [List.mem_cons, List.not_mem_nil, or_false] at hx
  rcases hx with rfl | rfl | rfl
  · exact ha
  · exact hb
  · exact hc) (by simp)
theorem nk5 {k : Nat} {a b c d e : D} (ha : Nk 10 k a) (hb : Nk 10 k b) (hc : Nk 10 k c) (hd : Nk 10 k d) (he : Nk 10 k e) : Nk 10 (k + 1) (.tup [a, b, c, d, e]) := .tup (fun x hx => by
  simp only [List.mem_cons, List.not_mem_nil, or_false] at hx
  rcases hx with rfl | rfl | rfl | rfl | rfl
  · exact ha
  · exact hb
  · exact hc
  · exact hd
  · exact he) (by simp)
theorem pick2 (a b z : Int) : ∃ v : Int, idxD (.lst [.int a, .int b]) (.int (z % 2)) = some (.int v) := by
  have h0 := Int.emod_nonneg z (show (2 : Int) ≠ 0 by decide)
  have h1 := Int.emod_lt_of_pos z (show (0 : Int) < 2 by decide)
  obtain ⟨d, h2, h3⟩ := at_mem (xs := [D.int a, D.int b]) (z := z % 2) h0 (by simpa using h1)
  simp only [List.mem_cons, List.not_mem_nil, or_false] at h3
  rcases h3 with rfl | rfl
  · exact ⟨_, h2⟩
  · exact ⟨_, h2⟩
def cM (w : Str) : Int := cntT w "m"
def cL (w : Str) : Int := cntT w "l"
def cH (w : Str) : Int := cntT w "h"
theorem cnt_m (S : St') (w : Str) : mth2 .count S (.t (.str w)) [.t (.str "m")] = some (.int (cM w)) := rfl
theorem cnt_l (S : St') (w : Str) : mth2 .count S (.t (.str w)) [.t (.str "l")] = some (.int (cL w)) := rfl
theorem cnt_h (S : St') (w : Str) : mth2 .count S (.t (.str w)) [.t (.str "h")] = some (.int (cH w)) := rfl
theorem mul_m {w : Str} (hw : w ∈ WAYS) : binD .mul (.lst [.str "mine"]) (.int (cM w)) = some (.lst (wM w)) := mul_ok (ways_b w hw).1.1 (ways_b w hw).1.2 (by simp)
theorem mul_l {w : Str} (hw : w ∈ WAYS) : binD .mul (.lst [.str "loud", .str "loud", .str "loud"]) (.int (cL w)) = some (.lst (wL w)) := mul_ok (ways_b w hw).2.1.1 (ways_b w hw).2.1.2 (by simp)
theorem mul_h {w : Str} (hw : w ∈ WAYS) : binD .mul (.lst [.str "has"]) (.int (cH w)) = some (.lst (wH w)) := mul_ok (ways_b w hw).2.2.1 (ways_b w hw).2.2.2 (by simp)
theorem len_m : ∀ {w : Str}, w ∈ WAYS → (wM w).length ≤ 3 := by
  have : ∀ w ∈ WAYS, (wM w).length ≤ 3 := by decide +kernel
  exact fun {w} h => this w h
theorem len_l : ∀ {w : Str}, w ∈ WAYS → (wL w).length ≤ 9 := by
  have : ∀ w ∈ WAYS, (wL w).length ≤ 9 := by decide +kernel
  exact fun {w} h => this w h
theorem len_h : ∀ {w : Str}, w ∈ WAYS → (wH w).length ≤ 3 := by
  have : ∀ w ∈ WAYS, (wH w).length ≤ 3 := by decide +kernel
  exact fun {w} h => this w h
theorem bin2_t {o : Bn} {a b r : D} (S : St') (h : binD o a b = some r) : bin2 o S (.t a) (.t b) = some r := h
theorem atom_ok {T : List Fn} {i : Nat} (hT : T[i]? = some f__law_atom) (n : Nat) (ps : List Int) (hl : 6 ≤ ps.length) {cD : D} {cols : List Str} (hc : ColsD cD cols) {w : Str} (hw : w ∈ WAYS) (S : St') :
    RP (FT T (n + 1) i [.t (.lst (ps.map .int)), .t cD, .t (.str w)] S) (fun v S' => S' = S ∧ ∃ d, v = .t (.tup d) ∧ Nk 10 1 (.tup d)) noE := by
  have g0 : idxD (.lst (ps.map .int)) (.int 0) = some (.int (sget ps 0)) := at_int (j := 0) (by omega)
  have g1 : idxD (.lst (ps.map .int)) (.int 1) = some (.int (sget ps 1)) := at_int (j := 1) (by omega)
  have g2 : idxD (.lst (ps.map .int)) (.int 2) = some (.int (sget ps 2)) := at_int (j := 2) (by omega)
  have g3 : idxD (.lst (ps.map .int)) (.int 3) = some (.int (sget ps 3)) := at_int (j := 3) (by omega)
  have g4 : idxD (.lst (ps.map .int)) (.int 4) = some (.int (sget ps 4)) := at_int (j := 4) (by omega)
  have g5 : idxD (.lst (ps.map .int)) (.int 5) = some (.int (sget ps 5)) := at_int (j := 5) (by omega)
  have xm := cnt_m S w
  have xl := cnt_l S w
  have mM := bin2_t S (mul_m hw)
  have mL := bin2_t S (mul_l hw)
  have lM := len_m hw
  have lL := len_l hw
  generalize cM w = cm at xm mM
  generalize cL w = cl at xl mL
  have hm : ∀ d ∈ wA ++ wM w ++ wL w, ∃ x ∈ ATOMS, d = .str x := fun d h => words_m hw h
  generalize wM w = wm at mM lM hm
  generalize wL w = wl at mL lL hm
  have lA : wA.length = 7 := rfl
  have aM := bin2_t S (show binD .add (.lst wA) (.lst wm) = some (.lst (wA ++ wm)) from add_ok (by omega))
  have aL := bin2_t S (show binD .add (.lst (wA ++ wm)) (.lst wl) = some (.lst (wA ++ wm ++ wl)) from add_ok (by rw [List.length_append]; omega))
  have lW : 1 ≤ (wA ++ wm ++ wl).length := by rw [List.length_append, List.length_append]; omega
  obtain ⟨d0, hd0, hm0⟩ := at_mem (xs := wA ++ wm ++ wl) (z := sget ps 0 % ((wA ++ wm ++ wl).length : Nat)) (Int.emod_nonneg _ (by omega)) (Int.emod_lt_of_pos _ (by omega))
  obtain ⟨x, hx, rfl⟩ := hm d0 hm0
  obtain ⟨c1, hc1, ec1⟩ := hc.at_ (sget ps 1)
  obtain ⟨c2, hc2, ec2⟩ := hc.at_ (sget ps 2)
  obtain ⟨bx, hbx, xi⟩ : ∃ b2, b2 = inB ISB (.str x) ∧ cmpD .isin (.str x) (.tup [.str "is", .str "below"]) = some b2 := ⟨_, rfl, in_cols (cols := ISB) (k := 0) (by decide +kernel) (Ok.str (atoms_b x hx).1) (by omega)⟩
  obtain ⟨by1, hy1, xy⟩ := eq_sb x "yes"
  obtain ⟨bs, hs1, xs⟩ := eq_sb x "same"
  obtain ⟨bb, hb1, xb⟩ := eq_sb x "below"
  have md : ∀ i : Int, binD .mod (.int i) (.int (cols.length : Nat)) = some (.int (i % (cols.length : Nat))) := fun i => mod_ok hc.len1
  have mW : binD .mod (.int (sget ps 0)) (.int ((wA ++ wm ++ wl).length : Nat)) = some (.int (sget ps 0 % ((wA ++ wm ++ wl).length : Nat))) := mod_ok lW
  have cl := hc.len
  refine rp_fn hT rfl rfl ?_
  simp only [f__law_atom, pad]
  exists 1, xm, xl, g0, g1, g2, g3, g4, g5, mM, mL, aM, aL, mW, hd0, md _, cl, ec1, ec2, no_index (⟨_, xy, _, rfl, fun h => ?_, fun h => ?_⟩), no_index (⟨_, xs, _, rfl, fun h => ?_, fun h => ?_⟩), no_index (⟨_, xi, _, rfl, fun h => ?_, fun h => ?_⟩)
  · exact nk1 (.at_ hx)
  · exact nk3 (.at_ hx) (.nm (hc.name _ hc1)) (.nm (hc.name _ hc2))
  · obtain ⟨v, hv⟩ := pick2 (sget ps 3 % 3) (sget ps 3 % 10) (sget ps 4)
    exists 1, hv, g5, no_index (⟨_, xb, _, rfl, fun h => ?_, fun h => ?_⟩)
    all_goals exact nk3 (.at_ hx) (.nm (hc.name _ hc1)) (.int _)
  · exact nk2 (.at_ hx) (.nm (hc.name _ hc1))
end M

/-! the law's conditions: trees -/
namespace M
open PySem PySem.Spec PyProof.Rows L2
def JW (b : Bool) : List D := (List.replicate (if b = true then (1 : Int) else 0).toNat [D.str "and", D.str "or", D.str "and", D.str "or"]).flatten
def TREE : List Str := ["not", "and", "or", "has"]
theorem tree_b : ∀ w ∈ TREE, PyData.strOk w = true ∧ w.length ≤ 10 := by decide +kernel
theorem tree_w : (WAYS.all fun w => [true, false].all fun b => ([D.str "not"] ++ JW b ++ wH w).all fun d => isiD d .str && (decide (strD d ∈ TREE) && (b || decide (strD d = "not" ∨ strD d = "has")))) = true := by decide +kernel
theorem tree_m {w : Str} {b : Bool} {d : D} (hw : w ∈ WAYS) (h : d ∈ [D.str "not"] ++ JW b ++ wH w) : ∃ x ∈ TREE, d = .str x ∧ (b = true ∨ x = "not" ∨ x = "has") := by
  have := List.all_eq_true.mp (List.all_eq_true.mp (List.all_eq_true.mp tree_w w hw) b (by cases b <;> simp)) d h
  rw [Bool.and_eq_true, Bool.and_eq_true, Bool.or_eq_true] at this
  obtain ⟨x, rfl⟩ := isi_str this.1
  exact ⟨x, of_decide_eq_true this.2.1, rfl, this.2.2.imp id of_decide_eq_true⟩
theorem Nk.tr {w : Str} {k : Nat} (h : w ∈ TREE) : Nk 10 k (.str w) := .str (tree_b w h).1 (tree_b w h).2
theorem mul_j (S : St') (b : Bool) : bin2 .mul S (.t (.lst [.str "and", .str "or", .str "and", .str "or"])) (.t (.int (if b = true then 1 else 0))) = some (.lst (JW b)) := bin2_t S (mul_ok (by cases b <;> decide) (by cases b <;> decide) (by simp))
theorem len_j (b : Bool) : (JW b).length ≤ 4 := by cases b <;> decide
theorem int_bl (b : Bool) : biD .int [.bl b] = some (.int (if b = true then 1 else 0)) := rfl
theorem repl_h {w : Str} (hw : w ∈ WAYS) : ∃ w' ∈ WAYS, replV (.t (.str w)) "h" "" = some (.t (.str w')) := by
  refine ⟨_, ways_r w hw, ?_⟩
  unfold replV
  refine if_pos ?_
  have := ways_l w hw
  have e : (Str.ofString "").length = 0 := by decide +kernel
  rw [e]
  omega
theorem tab_at {ts : List Tab} (h1 : 1 ≤ ts.length) (z : Int) : ∃ t ∈ ts, idxD (.tup (ts.map tabD)) (.int (z % (ts.length : Nat))) = some (tabD t) := by
  obtain ⟨d, h2, h3⟩ := at_mem (xs := ts.map tabD) (z := z % (ts.length : Nat)) (Int.emod_nonneg _ (by omega)) (by rw [List.length_map]; exact Int.emod_lt_of_pos _ (by omega))
  obtain ⟨t, ht, rfl⟩ := List.mem_map.mp h3
  exact ⟨t, ht, h2⟩
theorem len_tab (ts : List Tab) : biD .len [.tup (ts.map tabD)] = some (.int (ts.length : Nat)) := by simp only [biD, List.length_map]
theorem tab_colsD {t : Tab} (h : TabOk t) : ColsD (.lst ((colNames t).map .str)) (colNames t) := ⟨.inr rfl, fun c hc => by
  obtain ⟨x, hx, rfl⟩ := List.mem_map.mp hc
  exact (h.cols.each x hx).name, by unfold colNames; rw [List.length_map]; exact h.len1, by unfold colNames; rw [List.length_map]; have := h.len4; omega⟩
theorem cut_ints (ps : List Int) (lo hi : Option Int) : cutD (ps.map .int) lo hi = (cutL ps lo hi).map .int := by
  have := slc_ints ps lo hi
  simp only [slcD, Option.some.injEq, D.lst.injEq] at this
  exact this
theorem lcond_ok {T : List Fn} {i iA : Nat} (hT : T[i]? = some (f__law_condition iA i)) (hA : T[iA]? = some f__law_atom) {ts : List Tab} (hts : ∀ t ∈ ts, TabOk t) (h1 : 1 ≤ ts.length) : ∀ q p : Nat, p ≤ q → 1 ≤ p → p ≤ 9 → ∀ (n : Nat) (ps : List Int), 6 * p ≤ ps.length → ∀ (cD : D) (cols : List Str), ColsD cD cols → ∀ w : Str, w ∈ WAYS → ∀ S : St',
    RP (FT T (n + p + 1) i [.t (.lst (ps.map .int)), .t (.int (p : Nat)), .t (.tup (ts.map tabD)), .t cD, .t (.str w)] S) (fun v S' => S' = S ∧ ∃ d, v = .t (.tup d) ∧ Nk 10 p (.tup d)) noE := by
  intro q
  induction q with
  | zero => intro p h0 h1; omega
  | succ q ih =>
    intro p hpq hp1 hp9 n ps hl cD cols hc w hw S
    have g0 : idxD (.lst (ps.map .int)) (.int 0) = some (.int (sget ps 0)) := at_int (j := 0) (by omega)
    have g1 : idxD (.lst (ps.map .int)) (.int 1) = some (.int (sget ps 1)) := at_int (j := 1) (by omega)
    have g2 : idxD (.lst (ps.map .int)) (.int 2) = some (.int (sget ps 2)) := at_int (j := 2) (by omega)
    have g3 : idxD (.lst (ps.map .int)) (.int 3) = some (.int (sget ps 3)) := at_int (j := 3) (by omega)
    by_cases hp : p = 1
    · subst hp
      have x1 : cmpD .lt (.int ((1 : Nat) : Int)) (.int 2) = some true := rfl
      refine rp_fn (n := n + 1) hT rfl rfl ?_
      simp only [f__law_condition, pad]
      exists 1, no_index (⟨_, x1, _, rfl, fun h => ?_, fun h => (t_f h).elim⟩)
      refine RP.of_no (atom_ok hA n ps (by omega) hc hw S) fun v S1 ⟨e1, d, e2, hd⟩ => ?_
      subst e1; subst e2
      exists 1
      exact hd
    have x1 : cmpD .lt (.int (p : Nat)) (.int 2) = some false := by rw [lt_ii, decide_eq_false (by omega)]
    obtain ⟨bg, hbg, xg⟩ : ∃ bg : Bool, (bg = true ↔ 3 ≤ p) ∧ cmpD .gt (.int (p : Nat)) (.int 2) = some bg := ⟨_, by rw [decide_eq_true_eq]; omega, gt_ii _ _⟩
    have xh := cnt_h S w
    have mH := bin2_t S (mul_h hw)
    have lH := len_h hw
    generalize cH w = ch at xh mH
    have mJ := mul_j S bg
    have lJ := len_j bg
    have hm : ∀ d ∈ [D.str "not"] ++ JW bg ++ wH w, ∃ x ∈ TREE, d = .str x ∧ (bg = true ∨ x = "not" ∨ x = "has") := fun d h => tree_m hw h
    obtain ⟨w', hw', xr⟩ := repl_h hw
    generalize wH w = wh at mH lH hm
    generalize JW bg = wj at mJ lJ hm
    have aJ := bin2_t S (show binD .add (.lst [.str "not"]) (.lst wj) = some (.lst ([.str "not"] ++ wj)) from add_ok (by simp; omega))
    have aH := bin2_t S (show binD .add (.lst ([.str "not"] ++ wj)) (.lst wh) = some (.lst ([.str "not"] ++ wj ++ wh)) from add_ok (by simp; omega))
    have lW : 1 ≤ ([D.str "not"] ++ wj ++ wh).length := by simp
    generalize hW : [D.str "not"] ++ wj ++ wh = W at aH lW hm
    generalize hV : [D.str "not"] ++ wj = V at aJ aH
    obtain ⟨d0, hd0, hm0⟩ := at_mem (xs := W) (z := sget ps 0 % (W.length : Nat)) (Int.emod_nonneg _ (by omega)) (Int.emod_lt_of_pos _ (by omega))
    obtain ⟨x, hx, rfl, hxb⟩ := hm d0 hm0
    have mW : binD .mod (.int (sget ps 0)) (.int (W.length : Nat)) = some (.int (sget ps 0 % (W.length : Nat))) := mod_ok lW
    have mC : ∀ z : Int, binD .mod (.int z) (.int (cols.length : Nat)) = some (.int (z % (cols.length : Nat))) := fun z => mod_ok hc.len1
    have mT : ∀ z : Int, binD .mod (.int z) (.int (ts.length : Nat)) = some (.int (z % (ts.length : Nat))) := fun z => mod_ok h1
    obtain ⟨bh, hbh, xhas⟩ := eq_sb x "has"
    obtain ⟨bn, hbn, xnot⟩ := eq_sb x "not"
    obtain ⟨t, ht, et⟩ := tab_at h1 (sget ps 1)
    have hlt := len_tab ts
    have s6 : slcD (.lst (ps.map .int)) (some 6) none = some (.lst ((ps.drop 6).map .int)) := ints_of (by omega)
    have es : ((p : Nat) : Int) - 1 = ((p - 1 : Nat) : Int) := by omega
    have ed : ∀ d, Nk 10 (p - 1) d → Nk 10 p d := fun d h => h.mono (by omega) (by omega)
    have c6 : cutD (ps.map .int) (some 6) none = (ps.drop 6).map .int := by rw [cut_ints, cutL_of ps (by omega)]; rfl
    have nx : ∀ (l : Nat), l ≤ q → 1 ≤ l → l ≤ p - 1 → ∀ (ps : List Int), 6 * l ≤ ps.length → ∀ (cD : D) (cols : List Str), ColsD cD cols → ∀ w : Str, w ∈ WAYS → ∀ S : St',
        RP (FT T (n + p) i [.t (.lst (ps.map .int)), .t (.int (l : Nat)), .t (.tup (ts.map tabD)), .t cD, .t (.str w)] S) (fun v S' => S' = S ∧ ∃ d, v = .t (.tup d) ∧ Nk 10 (p - 1) (.tup d)) noE := by
      intro l h1 h2 h3 ps h4 cD cols h5 w h6 S
      have := ih l h1 h2 (by omega) (n + p - l - 1) ps h4 cD cols h5 w h6 S
      rw [show n + p - l - 1 + l + 1 = n + p by omega] at this
      exact this.imp fun v S' ⟨e1, d, e2, e3⟩ => ⟨e1, d, e2, e3.mono (by omega) (by omega)⟩
    have tok := hts t ht
    have e0 : idxD (tabD t) (.int 0) = some (.str t.name) := at0 _ _
    have e2 : idxD (tabD t) (.int 2) = some (.tup (t.cols.map colD)) := at2 _ _ _ _
    have nc := tab_colsD tok
    obtain ⟨c2, hc2, ec2⟩ := hc.at_ (sget ps 2)
    obtain ⟨c3, hc3, ec3⟩ := nc.at_ (sget ps 3)
    have mN : ∀ z : Int, binD .mod (.int z) (.int ((colNames t).length : Nat)) = some (.int (z % ((colNames t).length : Nat))) := fun z => mod_ok nc.len1
    have cl := hc.len
    have ncl := nc.len
    have bs1 : binD .sub (.int (p : Nat)) (.int 1) = some (.int ((p - 1 : Nat) : Int)) := by rw [← es]; rfl
    refine rp_fn (n := n + p) hT rfl rfl ?_
    simp only [f__law_condition, pad]
    exists 1, xh, mH, mJ, aJ, aH, g0, mW, hd0, int_bl bg, xg, no_index (⟨_, x1, _, rfl, fun h => (f_t h).elim, fun h => ?_⟩), no_index (⟨_, xhas, _, rfl, fun h => ?_, fun h => ?_⟩), no_index (⟨_, xnot, _, rfl, fun h => ?_, fun h => ?_⟩)
    · exists 1, g1, hlt, mT _, et, e2
      refine rp_lcM (ys := t.cols) colD (fun c => .str c.name) (by have := tok.len4; omega) (fun c hc acc => ?_) ?_
      · refine ⟨_, rfl, ?_⟩
        exists 1, col_at0 (colB_colD (tok.cols.each c hc))
      · have en : (t.cols.map fun c => D.str c.name) = (colNames t).map .str := by unfold colNames; rw [List.map_map]; rfl
        rw [en]
        exists 1, s6, bs1, xr
        try rw [c6]
        try rw [es]
        refine RP.of_no (nx (p - 1) (by omega) (by omega) (by omega) (ps.drop 6) (by rw [List.length_drop]; omega) _ _ nc w' hw' S) fun v S1 ⟨e1, d, e2', hd⟩ => ?_
        subst e1; subst e2'
        exists 1, e0, g2, g3, cl, ncl, mC _, mN _, ec2, ec3
        have := nk5 (k := p - 1) (.tr hx) (.nm tok.name) (.nm (hc.name _ hc2)) (.nm (nc.name _ hc3)) hd
        rw [show p - 1 + 1 = p by omega] at this
        exact this
    · try rw [c6]
      try rw [es]
      refine RP.of_no (nx (p - 1) (by omega) (by omega) (by omega) (ps.drop 6) (by rw [List.length_drop]; omega) _ _ hc w hw S) fun v S1 ⟨e1, d, e2', hd⟩ => ?_
      subst e1; subst e2'
      exists 1
      have := nk2 (k := p - 1) (.tr hx) hd
      rw [show p - 1 + 1 = p by omega] at this
      exact this
    · rename_i hnh
      have hp3 : 3 ≤ p := by
        rcases hxb with h' | h' | h'
        · exact hbg.mp h'
        · rw [hbn.mpr h'] at h; cases h
        · rw [hbh.mpr h'] at hnh; cases hnh
      have m2 : binD .mod (.int (sget ps 1)) (.int ((p : Nat) - 2)) = some (.int (sget ps 1 % ((p : Nat) - 2))) := if_pos (by omega)
      have hz0 := Int.emod_nonneg (sget ps 1) (show ((p : Nat) : Int) - 2 ≠ 0 by omega)
      have hz1 := Int.emod_lt_of_pos (sget ps 1) (show (0 : Int) < ((p : Nat) : Int) - 2 by omega)
      generalize sget ps 1 % ((p : Nat) - 2) = z at m2 hz0 hz1
      obtain ⟨l, hl1⟩ : ∃ l : Nat, (l : Int) = 1 + z := ⟨(1 + z).toNat, by omega⟩
      have ba : binD .add (.int 1) (.int z) = some (.int (l : Nat)) := by rw [hl1]; rfl
      have bm : binD .mul (.int 6) (.int (l : Nat)) = some (.int (6 * (l : Nat))) := by
        simp only [binD]
        exact if_pos (.inl (by decide))
      exists 1, g1, m2, ba, bm
      have ca : cutD (ps.map .int) (some 6) (some (6 + 6 * (l : Nat))) = (cutL ps (some 6) (some (6 + 6 * (l : Nat)))).map .int := cut_ints _ _ _
      have cla : ((cutL ps (some 6) (some (6 + 6 * (l : Nat)))).length : Int) = (6 + 6 * (l : Nat)) - 6 := cutL_len (by omega) (by omega) (by omega)
      have cb : cutD (ps.map .int) (some (6 + 6 * (l : Nat))) none = (ps.drop (6 + 6 * (l : Nat) : Int).toNat).map .int := by rw [cut_ints, cutL_of ps (by omega)]
      have e3 : ((p : Nat) : Int) - 1 - (l : Nat) = ((p - 1 - l : Nat) : Int) := by omega
      rw [ca]
      refine RP.of_no (nx l (by omega) (by omega) (by omega) _ (by omega) _ _ hc w hw S) fun v S1 ⟨e1, d, e2', hd⟩ => ?_
      subst e1; subst e2'
      exists 1, bm
      rw [cb, e3]
      refine RP.of_no (nx (p - 1 - l) (by omega) (by omega) (by omega) _ (by rw [List.length_drop]; omega) _ _ hc w hw _) fun v S1 ⟨e1, d2, e2', hd2⟩ => ?_
      subst e1; subst e2'
      exists 1
      have := nk3 (k := p - 1) (.tr hx) hd hd2
      rw [show p - 1 + 1 = p by omega] at this
      exact this
end M

/-! the law's columns -/
namespace M
open PySem PySem.Spec PyProof.Rows L2
theorem add_live {S : St'} {xs ys : List Str} (h : xs.length + ys.length ≤ 1000) : bin2 .add (S ++ [.lst (ys.map .str)]) (.t (.lst (xs.map .str))) (.o S.length) = some (.lst ((xs ++ ys).map .str)) := by
  unfold bin2
  rw [pk_live]
  simp only [peek, Option.bind_some, List.map_append]
  exact add_ok (by rw [List.length_map, List.length_map]; omega)
theorem new_names_ok {T : List Fn} {i iN : Nat} (hT : T[i]? = some (f__law_new_names iN)) (hN : T[iN]? = some f__law_name) (n : Nat) (ps : List Int) (many : Int) (hm : 0 ≤ many ∧ many ≤ 10) (hl : many + 5 ≤ ps.length) (hb : ∀ x ∈ ps, 0 ≤ x ∧ x < 1000) (tk : List Str) (htl : tk.length ≤ 10) (htk : ∀ t ∈ tk, PyData.strOk t = true) (S : St') :
    RP (FT T (n + 2) i [.t (.lst (ps.map .int)), .t (.int many), .t (.lst (tk.map .str))] S) (fun v S' => S' = S ∧ ∃ ws : List Str, v = .t (.tup (ws.map .str)) ∧ (ws.length : Int) = many ∧ (∀ w ∈ ws, NameOk w)) noE := by
  refine rp_fn hT rfl rfl ?_
  simp only [f__law_new_names, pad]
  exists 1
  refine op_fix (fun l ρ S' => ∃ (k : Int) (ws : List Str) (k4 : Option SV), 0 ≤ k ∧ k ≤ many ∧ l = rangeD k many ∧ ρ = [some (.t (.lst (ps.map .int))), some (.t (.int many)), some (.t (.lst (tk.map .str))), some (.o S.length), k4] ∧ S' = S ++ [.lst (ws.map .str)] ∧ (ws.length : Int) = k ∧ (∀ w ∈ ws, NameOk w)) ?_ ?_ ?_
  · exact ⟨0, [], none, by omega, by omega, rfl, rfl, rfl, rfl, by simp⟩
  · rintro d ds ρ S' ⟨k, ws, k4, hk0, hk, hl', rfl, rfl, hwl, hws⟩
    have hlt : k < many := by
      rcases Int.lt_or_le k many with h | h
      · exact h
      · rw [rangeD_nil h] at hl'; cases hl'
    rw [rangeD_cons hlt] at hl'
    cases hl'
    refine ⟨_, rfl, ?_⟩
    have g : slcD (.lst (ps.map .int)) (some k) none = some (.lst ((ps.drop k.toNat).map .int)) := ints_of hk0
    have ba := add_live (S := S) (xs := tk) (ys := ws) (by omega)
    exists 1, g, ba
    refine RP.of_no (name_ok hN n (ps.drop k.toNat) (by rw [List.length_drop]; omega) (fun x hx => hb x (List.mem_of_mem_drop hx)) (tk ++ ws) (by rw [List.length_append]; omega) (fun t ht => ?_) _) fun v' S1 ⟨e, w, ev, hw, hwn⟩ => ?_
    · rcases List.mem_append.mp ht with h | h
      · exact htk t h
      · exact (hws t h).let_.ok
    · subst e; subst ev
      exists 1
      refine ⟨k + 1, ws ++ [w], _, by omega, by omega, rfl, rfl, by rw [List.map_append]; rfl, by simp; omega, ?_⟩
      intro x hx
      rcases List.mem_append.mp hx with h | h
      · exact hws x h
      · cases List.mem_singleton.mp h; exact hw
  · rintro ρ S' ⟨k, ws, k4, hk0, hk, hl', rfl, rfl, hwl, hws⟩
    have hke : k = many := by
      rcases Int.lt_or_le k many with h | h
      · rw [rangeD_cons h] at hl'; cases hl'
      · omega
    exists 1
    exact ⟨by omega, hws⟩
theorem some_columns_ok {T : List Fn} {i iN iM : Nat} (hT : T[i]? = some (f__law_some_columns iN)) (hN : T[iN]? = some (f__law_new_names iM)) (hM : T[iM]? = some f__law_name) {ts : List Tab} (hts : ∀ t ∈ ts, TabOk t) (h1 : 1 ≤ ts.length) (n : Nat) (ps : List Int) (hl : 20 ≤ ps.length) (hb : ∀ x ∈ ps, 0 ≤ x ∧ x < 1000) (S : St') :
    RP (FT T (n + 3) i [.t (.lst (ps.map .int)), .t (.tup (ts.map tabD))] S) (fun v S' => S' = S ∧ ∃ cols : List Str, v = .t (.tup (cols.map .str)) ∧ ColsD (.tup (cols.map .str)) cols) noE := by
  have g0 : idxD (.lst (ps.map .int)) (.int 0) = some (.int (sget ps 0)) := at_int (j := 0) (by omega)
  have g6 : idxD (.lst (ps.map .int)) (.int 6) = some (.int (sget ps 6)) := at_int (j := 6) (by omega)
  have hlt := len_tab ts
  have mT : ∀ z : Int, binD .mod (.int z) (.int (ts.length : Nat)) = some (.int (z % (ts.length : Nat))) := fun z => mod_ok h1
  obtain ⟨t, ht, et⟩ := tab_at h1 (sget ps 0)
  have tok := hts t ht
  have e2 : idxD (tabD t) (.int 2) = some (.tup (t.cols.map colD)) := at2 _ _ _ _
  have s1 : cutD (ps.map .int) (some 1) none = (ps.drop 1).map .int := by rw [cut_ints, cutL_of ps (by omega)]; rfl
  have en : (t.cols.map fun c => D.str c.name) = (colNames t).map .str := by unfold colNames; rw [List.map_map]; rfl
  have nc := tab_colsD tok
  have h4 : (colNames t).length ≤ 4 := by unfold colNames; rw [List.length_map]; exact tok.len4
  refine rp_fn hT rfl rfl ?_
  simp only [f__law_some_columns, pad]
  exists 1, g0, hlt, mT _, et, e2
  refine rp_lcM (ys := t.cols) colD (fun c => .str c.name) (by have := tok.len4; omega) (fun c hc acc => ?_) ?_
  · refine ⟨_, rfl, ?_⟩
    exists 1, col_at0 (colB_colD (tok.cols.each c hc))
  rw [en]
  exists 1, g6
  rw [s1]
  have hz0 := Int.emod_nonneg (sget ps 6) (show (4 : Int) ≠ 0 by omega)
  have hz1 := Int.emod_lt_of_pos (sget ps 6) (show (0 : Int) < 4 by omega)
  refine RP.of_no (new_names_ok hN hM n (ps.drop 1) _ ⟨hz0, by omega⟩ (by rw [List.length_drop]; omega) (fun x hx => hb x (List.mem_of_mem_drop hx)) (colNames t) (by omega) (fun c hc => (nc.name c hc).let_.ok) _) fun v S1 ⟨e1, ws, e2', hwl, hws⟩ => ?_
  subst e1; subst e2'
  have ba : binD .add (.tup ((colNames t).map .str)) (.tup (ws.map .str)) = some (.tup ((colNames t ++ ws).map .str)) := by
    simp only [binD, List.map_append]
    exact if_pos (le_sz' (by rw [List.length_map, List.length_map]; omega))
  exists 1, ba
  refine ⟨.inl rfl, fun c hc => ?_, by rw [List.length_append]; have := nc.len1; omega, by rw [List.length_append]; omega⟩
  rcases List.mem_append.mp hc with h | h
  · exact nc.name c h
  · exact hws c h
end M

/-! users, words within conditions, grounds with their tables -/
namespace M
open PySem PySem.Spec PyProof.Rows L2
/-! ### a ground, typed -/
theorem nameS_name {w : Str} (h : nameS w = true) : NameOk w := by
  simp only [nameS, Bool.and_eq_true, decide_eq_true_eq, Bool.not_eq_true', decide_eq_false_iff_not, List.all_eq_true, letB] at h
  exact ⟨h.1.1.1, h.1.1.2, fun c hc => h.2 c hc, h.1.2⟩
theorem col_typed {c : D} (h : colB c = true) : ∃ k : Col, c = colD k ∧ ColOk k := by
  obtain ⟨w, lo, x, rfl, h1, h2, h3⟩ := colB_shape h
  exact ⟨⟨w, lo, x⟩, rfl, nameS_name h1, h2, h3⟩
theorem typed_list {α : Type} {f : α → D} {P : α → Prop} : ∀ {xs : List D}, (∀ x ∈ xs, ∃ k, x = f k ∧ P k) → ∃ ks : List α, xs = ks.map f ∧ ∀ k ∈ ks, P k
  | [], _ => ⟨[], rfl, fun k hk => absurd hk (by simp)⟩
  | x :: xs, h => by
    obtain ⟨k, rfl, hk⟩ := h x (by simp)
    obtain ⟨ks, rfl, hks⟩ := typed_list fun y hy => h y (List.mem_cons_of_mem _ hy)
    exact ⟨k :: ks, rfl, fun z hz => (List.mem_cons.mp hz).elim (fun e => e ▸ hk) (hks z)⟩
theorem room_pos : ∀ {cs : List Col}, (∀ c ∈ cs, ColOk c) → 1 ≤ roomOf cs
  | [], _ => Int.le_refl _
  | c :: cs, h => by
    have h1 := room_pos (cs := cs) fun d hd => h d (List.mem_cons_of_mem _ hd)
    have h2 : 1 ≤ c.vals := by
      have := (h c (by simp)).lo
      unfold Col.vals
      split <;> omega
    rw [roomOf]
    have := Int.mul_le_mul h2 h1 (by omega) (by omega)
    simpa using this
theorem tab_typed {c : D} (h : tabB c = true) : ∃ t : Tab, c = tabD t ∧ TabOk t := by
  obtain ⟨w, k, cs, rfl, hw⟩ := tabB_shape h
  simp only [tabB, Bool.and_eq_true, decide_eq_true_eq, Bool.not_eq_true', List.all_eq_true] at h
  obtain ⟨⟨⟨⟨⟨h1, h2⟩, h3⟩, h4⟩, h5⟩, h6⟩ := h
  obtain ⟨ks, rfl, hks⟩ := typed_list (f := colD) (P := ColOk) fun x hx => col_typed (h3 x hx)
  obtain ⟨v, e, hv0, hv1⟩ : ∃ v, D.int k = .int v ∧ 0 ≤ v ∧ v ≤ ((ks.map colD).length : Int) := by
    simp only [fromB, Bool.and_eq_true, decide_eq_true_eq] at h5
    exact ⟨k, rfl, h5.1, h5.2⟩
  cases e
  rw [List.length_map] at h2 hv1
  refine ⟨⟨w, k, ks⟩, rfl, nameS_name hw, hv0, fun c hc => ?_, hv1, ⟨hks, ?_⟩, h2.1, h2.2, room_pos hks⟩
  · rw [intD, ← List.map_take, List.any_map, List.any_eq_false] at h6
    have := h6 c hc
    cases he : c.emp with
    | false => rfl
    | true => exact absurd (by simp [colD, trdB, he]) this
  · rw [namesOf_cols] at h4; exact h4
theorem ground_typed {d : D} (h : groundB d = true) : ∃ ts : List Tab, d = .tup (ts.map tabD) ∧ (∀ t ∈ ts, TabOk t) ∧ 1 ≤ ts.length ∧ ts.length ≤ 4 := by
  cases d with
  | tup xs =>
    simp only [groundB, Bool.and_eq_true, decide_eq_true_eq, List.all_eq_true] at h
    obtain ⟨ts, rfl, hts⟩ := typed_list (f := tabD) (P := TabOk) fun x hx => tab_typed (h.1.2 x hx)
    rw [List.length_map] at h
    exact ⟨ts, rfl, hts, h.1.1.1, h.1.1.2⟩
  | _ => cases h
/-! ### users -/
def risesZ : List Int → Bool
  | a :: b :: r => decide (a < b) && risesZ (b :: r)
  | _ => true
def usersB : D → Bool
  | .tup xs => decide (xs.length ≤ 4) && (xs.all (fun x => fromB x 0 8) && risesZ (xs.map intD))
  | _ => false
theorem from_ints {lo hi : Int} : ∀ {xs : List D}, xs.all (fun x => fromB x lo hi) = true → xs = (xs.map intD).map .int
  | [], _ => rfl
  | x :: xs, h => by
    simp only [List.all_cons, Bool.and_eq_true] at h
    rw [List.map_cons, List.map_cons, ← from_ints h.2]
    cases x with
    | int i => rfl
    | _ => exact absurd h.1 (by simp [fromB])
theorem risesZ_pw : ∀ ws : List Int, risesZ ws = true ↔ ws.Pairwise fun a b => a < b
  | [] => by simp [risesZ]
  | [a] => by simp [risesZ]
  | a :: b :: r => by
    have ih := risesZ_pw (b :: r)
    rw [risesZ, Bool.and_eq_true, ih, decide_eq_true_eq]
    constructor
    · rintro ⟨h1, h2⟩
      refine List.pairwise_cons.mpr ⟨fun c hc => ?_, h2⟩
      rcases List.mem_cons.mp hc with rfl | hc
      · exact h1
      · exact Int.lt_trans h1 ((List.pairwise_cons.mp h2).1 c hc)
    · intro h
      obtain ⟨h1, h2⟩ := List.pairwise_cons.mp h
      exact ⟨h1 b List.mem_cons_self, h2⟩
theorem risesZ_zip : ∀ ks : List Int, ((ks.zip (ks.drop 1)).all fun p => decide (p.1 < p.2)) = risesZ ks
  | [] => rfl
  | [a] => rfl
  | a :: b :: r => by
    have ih := risesZ_zip (b :: r)
    simp only [List.drop_succ_cons, List.drop_zero, List.zip_cons_cons, List.all_cons] at ih ⊢
    rw [risesZ, ih]
theorem sort_risesZ (ns : List Int) : decide (ns = (dset ns).mergeSort fun a b => decide (a ≤ b)) = risesZ ns := by
  rw [Bool.eq_iff_iff, decide_eq_true_eq, risesZ_pw]
  constructor
  · intro e
    have s := List.pairwise_mergeSort (le := fun a b : Int => decide (a ≤ b)) (fun a b c h1 h2 => by simp at *; omega) (fun a b => by simp; omega) (dset ns)
    have n : ((dset ns).mergeSort fun a b => decide (a ≤ b)).Nodup := (List.mergeSort_perm _ _).nodup_iff.mpr (dset_nodup ns)
    rw [e]
    exact (List.Pairwise.and s n).imp fun {a b} ⟨h1, h2⟩ => by simp at h1; omega
  · intro h
    exact sort_uniq h fun k => Iff.rfl
theorem eq_intsZ : ∀ zs ws : List Int, deqs (zs.map .int) (ws.map .int) = decide (zs = ws)
  | [], [] => by simp [deqs]
  | [], _ :: _ => by simp [deqs]
  | _ :: _, [] => by simp [deqs]
  | z :: zs, w :: ws => by
    rw [List.map_cons, List.map_cons, deqs, eq_intsZ zs ws, deq]
    by_cases h1 : z = w <;> by_cases h2 : zs = ws <;> simp [h1, h2]
def c_MOST_USER : D := (D.int 8)
/-- is_user(thing): 0 thing -/
def f_is_user (i_is_from : Nat) : Fn := ⟨1, 1,
  [(.ret (.call i_is_from [(.var 0), (.lit (D.int 0)), (.glb "MOST_USER" c_MOST_USER)]))]⟩
/-- are_users(thing): 0 thing, 1 one, 2 other -/
def f_are_users (i_is_user : Nat) : Fn := ⟨1, 3,
  [(.ife (.or (.not (.isi (.var 0) .tuple)) (.or (.cmp .gt (.bi .len [(.var 0)]) (.lit (D.int 4))) (.not (.bi .all [(.lc (.v 1) (.of (.var 0)) [] (.call i_is_user [(.var 1)]))])))) [(.ret (.lit (D.bl false)))] []),
  (.ret (.bi .all [(.lc (.tp [1, 2]) (.zip (.var 0) (.slc (.var 0) [(.lit (D.int 1))] [])) [] (.cmp .lt (.var 1) (.var 2)))]))]⟩
/-- _law_are_users(thing): 0 thing, 1 one -/
def f__law_are_users (i__law_from : Nat) : Fn := ⟨1, 2,
  [(.ife (.or (.not (.isi (.var 0) .tuple)) (.or (.cmp .gt (.bi .len [(.var 0)]) (.lit (D.int 4))) (.not (.bi .all [(.lc (.v 1) (.of (.var 0)) [] (.call i__law_from [(.var 1), (.lit (D.int 0)), (.lit (D.int 8))]))])))) [(.ret (.lit (D.bl false)))] []),
  (.ret (.cmp .eq (.bi .list [(.var 0)]) (.fz .sortseti [(.var 0)])))]⟩
theorem is_user_ok {T : List Fn} {i iF iW : Nat} (hT : T[i]? = some (f_is_user iF)) (hF : T[iF]? = some (f_is_from iW)) (hW : T[iW]? = some f_is_whole) (n : Nat) (d : D) (S : St') : RP (FT T (n + 3) i [.t d] S) (Is S (.bl (fromB d 0 8))) noE := by
  refine rp_fn hT rfl rfl ?_
  simp only [f_is_user, pad]
  exists 1
  refine RP.of_no (is_from_ok hF hW n d 0 8 S) fun v S1 ⟨e1, e2⟩ => ?_
  subst e1; subst e2
  exists 1
theorem are_users_ok {T : List Fn} {i iU iF iW b : Nat} (hT : T[i]? = some (f_are_users iU)) (hU : T[iU]? = some (f_is_user iF)) (hF : T[iF]? = some (f_is_from iW)) (hW : T[iW]? = some f_is_whole) (n : Nat) {d : D} (hd : Nc b d) (hb : b ≤ 1000) (S : St') : RP (FT T (n + 4) i [.t d] S) (Is S (.bl (usersB d))) noE := by
  refine rp_fn hT rfl rfl ?_
  simp only [f_are_users, pad]
  cases hd with
  | @tup xs hx hl =>
    exists 1
    · have h4 : ¬ xs.length ≤ 4 := by have := of_decide_eq_true h; omega
      simp [usersB, h4]
    · have h4 : xs.length ≤ 4 := by have := of_decide_eq_false h; omega
      refine rp_lcI (fun x => .bl (fromB x 0 8)) (by omega) (fun x hxx acc => ?_) ?_
      · refine ⟨_, rfl, ?_⟩
        exists 1
        exact RP.of_no (is_user_ok hU hF hW n x _) fun v S1 ⟨e1, e2⟩ => ⟨e2, e1⟩
      · exists 1, all_bls (fun x => fromB x 0 8) xs
        · have hall := h
          have ers := from_ints hall
          have ec := cut_of xs (a := 1) (by omega)
          rw [ec]
          refine ⟨xs, xs.drop 1, .inr ⟨rfl, rfl⟩, ?_⟩
          have ez : zipD xs (xs.drop 1) = ((xs.map intD).zip ((xs.map intD).drop 1)).map fun p => D.tup [.int p.1, .int p.2] := by
            conv => lhs; rw [ers]
            rw [← List.map_drop, zipD, List.zip_map, List.map_map]
            rfl
          rw [ez]
          refine rp_lcM (ys := (xs.map intD).zip ((xs.map intD).drop 1)) (fun p : Int × Int => D.tup [.int p.1, .int p.2]) (fun p => .bl (decide (p.1 < p.2))) (by rw [List.length_zip]; simp; omega) (fun p hp acc => ?_) ?_
          · refine ⟨_, rfl, ?_⟩
            exists 1
          · exists 1, all_bls (fun p : Int × Int => decide (p.1 < p.2)) _
            rw [risesZ_zip]
            simp [usersB, h4, hall]
        · simp [usersB, h]
  | _ => exists 1
theorem lare_users_ok {T : List Fn} {i iF b : Nat} (hT : T[i]? = some (f__law_are_users iF)) (hF : T[iF]? = some f__law_from) (n : Nat) {d : D} (hd : Nc b d) (hb : b ≤ 1000) (S : St') : RP (FT T (n + 2) i [.t d] S) (Is S (.bl (usersB d))) noE := by
  refine rp_fn hT rfl rfl ?_
  simp only [f__law_are_users, pad]
  cases hd with
  | @tup xs hx hl =>
    exists 1
    · have h4 : ¬ xs.length ≤ 4 := by have := of_decide_eq_true h; omega
      simp [usersB, h4]
    · have h4 : xs.length ≤ 4 := by have := of_decide_eq_false h; omega
      refine rp_lcI (fun x => .bl (fromB x 0 8)) (by omega) (fun x hxx acc => ?_) ?_
      · refine ⟨_, rfl, ?_⟩
        exists 1
        exact RP.of_no (lfrom_ok hF n x 0 8 _) fun v S1 ⟨e1, e2⟩ => ⟨e2, e1⟩
      · exists 1, all_bls (fun x => fromB x 0 8) xs
        · have hall := h
          have ers := from_ints hall
          have es : sortsetiD (.tup xs) = some (.lst (((dset (xs.map intD)).mergeSort fun a b => decide (a ≤ b)).map D.int)) := by
            conv => lhs; rw [ers]
            simp only [sortsetiD, sqOf, Option.bind_some, ints_k]
            rw [if_pos (by simp; omega)]
          have oki : ∀ ks : List Int, okD (.lst (ks.map .int)) = true := fun ks => (Ok.lst (k := 0) fun x hx => by
            obtain ⟨r, _, rfl⟩ := List.mem_map.mp hx
            exact .int _).okD (by omega)
          have c1 : cmpD .eq (.lst xs) (.lst (((dset (xs.map intD)).mergeSort fun a b => decide (a ≤ b)).map D.int)) = some (risesZ (xs.map intD)) := by
            conv => lhs; rw [ers]
            simp only [cmpD, oki, Bool.and_self, Bool.or_true, if_true, deq, eq_intsZ]
            rw [← ers, sort_risesZ]
          exists 1, es, c1
          simp [usersB, h4, hall]
        · simp [usersB, h]
  | _ => exists 1
end M

/-! a word within a condition -/
namespace M
open PySem PySem.Spec PyProof.Rows L2
/-- has_word(condition, word): 0 condition, 1 word, 2 one -/
def f_has_word (i_within i_has_word : Nat) : Fn := ⟨2, 3,
  [(.ret (.or (.cmp .eq (.idx (.var 0) (.lit (D.int 0))) (.var 1)) (.bi .any [(.lc (.v 2) (.of (.call i_within [(.var 0)])) [] (.call i_has_word [(.var 2), (.var 1)]))])))]⟩
/-- _law_within(thing, word): 0 thing, 1 word, 2 one -/
def f__law_within (i__law_within : Nat) : Fn := ⟨2, 3,
  [(.ife (.or (.not (.isi (.var 0) .tuple)) (.cmp .eq (.var 0) (.tup []))) [(.ret (.lit (D.bl false)))] []),
  (.ret (.or (.cmp .eq (.idx (.var 0) (.lit (D.int 0))) (.var 1)) (.bi .any [(.lc (.v 2) (.of (.var 0)) [] (.call i__law_within [(.var 2), (.var 1)]))])))]⟩
def hwB (wd : Str) : Nat → D → Bool
  | k + 1, .tup (.str w :: ps) => decide (w = wd) || (inner w ps).any (hwB wd k)
  | _, _ => false
def ltB (wd : Str) : Nat → D → Bool
  | k + 1, .tup (x :: xs) => deq x (.str wd) || (x :: xs).any (ltB wd k)
  | _, _ => false
theorem ltB_atom {wd : Str} {d : D} (h : ∀ xs, d ≠ .tup xs) : ∀ k, ltB wd k d = false
  | 0 => by unfold ltB; rfl
  | k + 1 => by
    cases d with
    | tup xs => exact absurd rfl (h xs)
    | _ => unfold ltB; rfl
/-- what a condition's parts are -/
theorem cnt_inner {ts : List Tab} {pl : Bool} {k : Nat} {ins : Bool} {cols : List Str} {w : Str} {ps : List D} {n : Nat} (h : cnt ts pl (k + 1) ins cols (.tup (.str w :: ps)) = some n) :
    (w = "has" → ps.length = 4) ∧ (∀ p ∈ inner w ps, ∃ ins cols n, cnt ts pl k ins cols p = some n) ∧ ∀ p ∈ ps, p ∈ inner w ps ∨ ∀ xs, p ≠ .tup xs := by
  rw [cnt] at h
  by_cases hh : w = "has"
  · rw [if_pos hh] at h
    unfold hasN at h
    split at h
    · rename_i t a b c
      split at h
      · cases h
      · obtain ⟨tb, htb, h⟩ := Option.bind_eq_some_iff.mp h
        split at h
        · obtain ⟨n', hn, rfl⟩ := Option.map_eq_some_iff.mp h
          refine ⟨fun _ => rfl, fun p hp => ?_, fun p hp => ?_⟩
          · rw [inner, if_pos hh] at hp
            cases List.mem_singleton.mp hp
            exact ⟨_, _, _, hn⟩
          · rw [inner, if_pos hh]
            simp only [List.mem_cons, List.not_mem_nil, or_false] at hp ⊢
            rcases hp with rfl | rfl | rfl | rfl
            · exact .inr fun _ z => by cases z
            · exact .inr fun _ z => by cases z
            · exact .inr fun _ z => by cases z
            · exact .inl rfl
        · cases h
    · cases h
  · rw [if_neg hh] at h
    split at h
    · cases h
    · obtain ⟨s, hs, h⟩ := Option.bind_eq_some_iff.mp h
      obtain ⟨n', hn, rfl⟩ := Option.map_eq_some_iff.mp h
      refine ⟨fun z => absurd z hh, ?_⟩
      by_cases hj : w ∈ JOIN
      · rw [inner_join hh hj]
        have := parts_x ((shp_kind hs).1 hj) hn
        exact ⟨fun p hp => let ⟨a, ha⟩ := this.1 p hp; ⟨ins, cols, a, ha⟩, fun p hp => .inl hp⟩
      · rw [inner_no hh hj]
        refine ⟨fun p hp => absurd hp (by simp), fun p hp => .inr ?_⟩
        have key : ∀ {cs : List Nat} {ps : List D} {n : Nat}, (∀ c ∈ cs, c ≠ 120) → partsN (cnt ts pl k ins cols) cols cs ps = some n → ∀ p ∈ ps, ∀ xs, p ≠ .tup xs := by
          intro cs
          induction cs with
          | nil => intro ps n _ h p hp; cases ps with
            | nil => cases hp
            | cons => cases h
          | cons c cs ih =>
            intro ps n hc h p hp
            cases ps with
            | nil => cases hp
            | cons q ps =>
              rw [partsN] at h
              obtain ⟨a, ha, h⟩ := Option.bind_eq_some_iff.mp h
              obtain ⟨n', hn, rfl⟩ := Option.map_eq_some_iff.mp h
              rcases List.mem_cons.mp hp with rfl | hp
              · simp only [partN, if_neg (hc c List.mem_cons_self)] at ha
                intro xs e
                subst e
                split at ha
                · cases ha
                · simp [fromB] at ha
              · exact ih (fun c h => hc c (List.mem_cons_of_mem _ h)) hn p hp
        exact key ((shp_kind hs).2 hj) hn p hp
theorem inner_sub {w : Str} {ps : List D} : ∀ p ∈ inner w ps, p ∈ ps := by
  intro p hp
  unfold inner at hp
  split at hp
  · split at hp
    · simp_all
    · cases hp
  · split at hp
    · exact hp
    · cases hp
theorem lt_hw {ts : List Tab} {pl : Bool} {wd : Str} : ∀ {k : Nat} {ins : Bool} {cols : List Str} {d : D} {n : Nat}, cnt ts pl k ins cols d = some n → ltB wd k d = hwB wd k d := by
  intro k
  induction k with
  | zero => intro ins cols d n h; rw [cnt] at h; cases h; simp
  | succ k ih =>
    intro ins cols d n h
    obtain ⟨w, ps, rfl⟩ : ∃ w ps, d = .tup (.str w :: ps) := by
      apply Classical.byContradiction
      intro hn
      rw [cnt_no (fun w ps z => hn ⟨w, ps, z⟩)] at h
      cases h
    obtain ⟨-, h1, h2⟩ := cnt_inner h
    rw [ltB, hwB]
    have e1 : deq (.str w) (.str wd) = decide (w = wd) := deq_ss w wd
    rw [e1, List.any_cons, ltB_atom (fun _ z => by cases z), Bool.false_or]
    congr 1
    rw [Bool.eq_iff_iff, List.any_eq_true, List.any_eq_true]
    constructor
    · rintro ⟨p, hp, hl⟩
      rcases h2 p hp with z | z
      · obtain ⟨i', c', n', hc⟩ := h1 p z
        exact ⟨p, z, by rw [← ih hc]; exact hl⟩
      · rw [ltB_atom z] at hl; cases hl
    · rintro ⟨p, hp, hl⟩
      obtain ⟨i', c', n', hc⟩ := h1 p hp
      exact ⟨p, inner_sub p hp, by rw [ih hc]; exact hl⟩
theorem has_word_ok {T : List Fn} {i iW b : Nat} {ts : List Tab} {pl : Bool} {wd : Str} (hwd : PyData.strOk wd = true) (hb : b ≤ 1000) (hT : T[i]? = some (f_has_word iW i)) (hW : T[iW]? = some f_within) : ∀ k (m n : Nat) (ins : Bool) (cols : List Str) (d : D), cnt ts pl k ins cols d = some n → Nk b k d → ∀ S : St',
    RP (FT T (m + k + 1) i [.t d, .t (.str wd)] S) (Is S (.bl (hwB wd k d))) noE := by
  intro k
  induction k with
  | zero => intro m n ins cols d h; rw [cnt] at h; cases h; simp
  | succ k ih =>
    intro m n ins cols d h hd S
    obtain ⟨w, ps, rfl⟩ : ∃ w ps, d = .tup (.str w :: ps) := by
      apply Classical.byContradiction
      intro hn
      rw [cnt_no (fun w ps z => hn ⟨w, ps, z⟩)] at h
      cases h
    have hps : ∀ p ∈ ps, Nk b k p := by
      cases hd with
      | tup h _ => exact fun p hp => h p (List.mem_cons_of_mem _ hp)
    have hpl : ps.length < b := by
      cases hd with
      | tup _ h => exact h
    have hw : PyData.strOk w = true := by
      cases hd with
      | tup h _ =>
        cases h _ List.mem_cons_self with
        | str h _ => exact h
    obtain ⟨h4, h1, h2⟩ := cnt_inner h
    have hil : (inner w ps).length ≤ 1000 := by
      unfold inner
      split
      · split <;> simp
      · split
        · omega
        · simp
    have a0 := at0 (.str w) ps
    have x1 := eq_ss w wd
    refine rp_fn (n := m + k + 1) hT rfl rfl ?_
    simp only [f_has_word, pad]
    rw [hwB]
    generalize decide (w = wd) = b1 at x1 ⊢
    cases b1 with
    | true =>
      exists 1, a0, no_index (⟨_, x1, _, rfl, fun h => ?_, fun h => (t_f h).elim⟩)
    | false =>
      exists 1, a0, no_index (⟨_, x1, _, rfl, fun h => (f_t h).elim, fun h => ?_⟩)
      refine RP.of_no (within_ok (b := b) (k := k) hW (m + k) hw (by omega) h4 S) fun v S1 ⟨e1, e2⟩ => ?_
      subst e1; subst e2
      exists 1
      refine rp_lcI (fun y => .bl (hwB wd k y)) (by omega) (fun y hy acc => ?_) ?_
      · refine ⟨_, rfl, ?_⟩
        exists 1
        obtain ⟨ins', cols', n', hy'⟩ := h1 y hy
        exact RP.of_no (ih m n' ins' cols' y hy' (hps y (inner_sub y hy)) _) fun v S1 ⟨e1, e2⟩ => ⟨e2, e1⟩
      · exists 1, any_bls (hwB wd k) (inner w ps)
theorem lwithin_ok {T : List Fn} {i b : Nat} {wd : Str} (hwd : PyData.strOk wd = true) (hb : b ≤ 1000) (hT : T[i]? = some (f__law_within i)) : ∀ k, k ≤ 50 → ∀ (m : Nat) (d : D), Nk b k d → ∀ S : St',
    RP (FT T (m + k + 1) i [.t d, .t (.str wd)] S) (Is S (.bl (ltB wd k d))) noE := by
  intro k
  induction k with
  | zero =>
    intro _ m d hd S
    refine rp_fn hT rfl rfl ?_
    simp only [f__law_within, pad]
    cases hd <;> exists 1
    all_goals (unfold ltB; rfl)
  | succ k ih =>
    intro hk m d hd S
    refine rp_fn (n := m + k + 1) hT rfl rfl ?_
    simp only [f__law_within, pad]
    cases hd with
    | @tup _ xs hx hl =>
      have ok1 : okD (.tup xs) = true := (Ok.tup (k := k) fun x hxx => (hx x hxx).ok).okD (by omega)
      cases xs with
      | nil =>
        have c1 : cmpD .eq (.tup []) (.tup []) = some true := by simp only [cmpD, ok1, Bool.and_self, Bool.or_true, if_true, deq, deqs]
        exists 1, no_index (⟨_, c1, _, rfl, fun h => ?_, fun h => (t_f h).elim⟩)
      | cons x xs =>
        have ok2 : okD (.tup []) = true := by decide +kernel
        have ok3 : okD x = true := ((hx x (by simp)).ok).okD (by omega)
        have ok4 : okD (.str wd) = true := (Ok.str (k := 0) hwd).okD (by omega)
        have c1 : cmpD .eq (.tup (x :: xs)) (.tup []) = some false := by simp only [cmpD, ok1, ok2, Bool.and_self, Bool.or_true, if_true, deq, deqs]
        have c2 : cmpD .eq x (.str wd) = some (deq x (.str wd)) := by simp only [cmpD, ok3, ok4, Bool.and_self, Bool.or_true, if_true]
        have a0 := at0 x xs
        rw [ltB]
        generalize deq x (.str wd) = b1 at c2 ⊢
        have hl' : (x :: xs).length ≤ b := hl
        generalize hxs : x :: xs = zs at *
        cases b1 with
        | true =>
          exists 1, a0, no_index (⟨_, c1, _, rfl, fun h => (f_t h).elim, fun h => ?_⟩), no_index (⟨_, c2, _, rfl, fun h => ?_, fun h => (t_f h).elim⟩)
        | false =>
          exists 1, a0, no_index (⟨_, c1, _, rfl, fun h => (f_t h).elim, fun h => ?_⟩), no_index (⟨_, c2, _, rfl, fun h => (f_t h).elim, fun h => ?_⟩)
          refine rp_lcI (fun y => .bl (ltB wd k y)) (by omega) (fun y hy acc => ?_) ?_
          · refine ⟨_, rfl, ?_⟩
            exists 1
            exact RP.of_no (ih (by omega) m y (hx y hy) _) fun v S1 ⟨e1, e2⟩ => ⟨e2, e1⟩
          · exists 1, any_bls (ltB wd k) zs
    | _ =>
      exists 1
      all_goals (unfold ltB; rfl)
end M

/-! what is a rule -/
namespace M
open PySem PySem.Spec PyProof.Rows L2
/-- is_rule(ground, thing): 0 ground, 1 thing, 2 table, 3 word -/
def f_is_rule (i_table_of i_is_condition i_names_of i_are_users i_has_word : Nat) : Fn := ⟨2, 4,
  [(.ife (.or (.not (.isi (.var 1) .tuple)) (.cmp .ne (.bi .len [(.var 1)]) (.lit (D.int 5)))) [(.ret (.lit (D.bl false)))] []),
  (.ife (.not (.bi .all [(.lc (.v 3) (.of (.slc (.var 1) [] [(.lit (D.int 3))])) [] (.isi (.var 3) .str))])) [(.ret (.lit (D.bl false)))] []),
  (.asg (.v 2) (.call i_table_of [(.var 0), (.idx (.var 1) (.lit (D.int 2)))])),
  (.ife (.or (.cmp .notin (.idx (.var 1) (.lit (D.int 0))) (.tup [(.lit (D.str "read")), (.lit (D.str "put")), (.lit (D.str "drop"))])) (.or (.cmp .notin (.idx (.var 1) (.lit (D.int 1))) (.tup [(.lit (D.str "let")), (.lit (D.str "must"))])) (.cmp .is_ (.var 2) (.lit D.non)))) [(.ret (.lit (D.bl false)))] []),
  (.ife (.or (.not (.call i_are_users [(.idx (.var 1) (.lit (D.int 3)))])) (.not (.call i_is_condition [(.var 0), (.call i_names_of [(.var 2)]), (.idx (.var 1) (.lit (D.int 4)))]))) [(.ret (.lit (D.bl false)))] []),
  (.ret (.not (.call i_has_word [(.idx (.var 1) (.lit (D.int 4))), (.lit (D.str "loud"))])))]⟩
/-- _law_is_rule(ground, thing): 0 ground, 1 thing, 2 names -/
def f__law_is_rule (i__law_names_of i__law_is_condition i__law_are_users i__law_within : Nat) : Fn := ⟨2, 3,
  [(.ife (.or (.not (.isi (.var 1) .tuple)) (.or (.cmp .ne (.bi .len [(.var 1)]) (.lit (D.int 5))) (.not (.isi (.idx (.var 1) (.lit (D.int 0))) .str)))) [(.ret (.lit (D.bl false)))] []),
  (.ife (.or (.cmp .notin (.idx (.var 1) (.lit (D.int 0))) (.tup [(.lit (D.str "read")), (.lit (D.str "put")), (.lit (D.str "drop"))])) (.or (.not (.isi (.idx (.var 1) (.lit (D.int 1))) .str)) (.cmp .notin (.idx (.var 1) (.lit (D.int 1))) (.tup [(.lit (D.str "let")), (.lit (D.str "must"))])))) [(.ret (.lit (D.bl false)))] []),
  (.asg (.v 2) (.call i__law_names_of [(.var 0), (.idx (.var 1) (.lit (D.int 2)))])),
  (.ife (.or (.cmp .is_ (.var 2) (.lit D.non)) (.or (.not (.call i__law_are_users [(.idx (.var 1) (.lit (D.int 3)))])) (.not (.call i__law_is_condition [(.var 0), (.var 2), (.idx (.var 1) (.lit (D.int 4)))])))) [(.ret (.lit (D.bl false)))] []),
  (.ret (.not (.call i__law_within [(.idx (.var 1) (.lit (D.int 4))), (.lit (D.str "loud"))])))]⟩
def VERBS : List Str := ["read", "put", "drop"]
def KINDS : List Str := ["let", "must"]
def ruleT (ts : List Tab) (k : Nat) (us c : D) : Option Tab → Bool
  | some t => usersB us && (condB ts k (colNames t) c && !hwB "loud" k c)
  | none => false
def ruleB (ts : List Tab) (k : Nat) : D → Bool
  | .tup [.str v, .str d, .str n, us, c] => decide (v ∈ VERBS) && (decide (d ∈ KINDS) && ruleT ts k us c (tabOf ts n))
  | _ => false
theorem five {xs : List D} (h : xs.length = 5) : ∃ a b c d e, xs = [a, b, c, d, e] := by
  match xs, h with
  | [a, b, c, d, e], _ => exact ⟨a, b, c, d, e, rfl⟩
theorem ruleB_len {ts : List Tab} {k : Nat} {xs : List D} (h : ¬ xs.length = 5) : ruleB ts k (.tup xs) = false := by
  unfold ruleB
  split
  · rename_i e; cases e; exact absurd rfl h
  · rfl
theorem ruleB_str {ts : List Tab} {k : Nat} {a b c us d : D} (h : ([a, b, c].all fun y => isiD y .str) = false) : ruleB ts k (.tup [a, b, c, us, d]) = false := by
  unfold ruleB
  split
  · rename_i e; cases e; cases h
  · rfl
theorem condB_cnt {ts : List Tab} {k : Nat} {cols : List Str} {d : D} (h : condB ts k cols d = true) : ∃ n, cnt ts false k false cols d = some n := by
  unfold condB at h
  split at h
  · rename_i n e; exact ⟨n, e⟩
  · cases h
theorem verb_in {v : Str} (h : PyData.strOk v = true) : cmpD .notin (.str v) (.tup [.str "read", .str "put", .str "drop"]) = some (!decide (v ∈ VERBS)) := by
  have := notin_cols (cols := VERBS) (d := .str v) (k := 0) (by decide +kernel) (Ok.str h) (by omega)
  simpa [inB, VERBS] using this
theorem kind_in {v : Str} (h : PyData.strOk v = true) : cmpD .notin (.str v) (.tup [.str "let", .str "must"]) = some (!decide (v ∈ KINDS)) := by
  have := notin_cols (cols := KINDS) (d := .str v) (k := 0) (by decide +kernel) (Ok.str h) (by omega)
  simpa [inB, KINDS] using this
theorem ne_len (n m : Nat) : cmpD .ne (.int (n : Nat)) (.int (m : Nat)) = some (!decide (n = m)) := by
  simp only [cmpD, scalD, Bool.true_or, if_true, deq]
  by_cases h : n = m
  · simp [h]
  · simp [h]; omega
theorem is_rule_ok {T : List Fn} {i iTo iCo iNo iAu iHw iU iF iW iS iH iP iPo iWi b k : Nat} {ts : List Tab} (hb : b ≤ 1000) (hk : k ≤ 40) (hts : ∀ t ∈ ts, TabOk t) (hT : T[i]? = some (f_is_rule iTo iCo iNo iAu iHw)) (hTo : T[iTo]? = some f_table_of) (hCo : T[iCo]? = some (f_is_condition iPo iS)) (hNo : T[iNo]? = some f_names_of) (hAu : T[iAu]? = some (f_are_users iU)) (hHw : T[iHw]? = some (f_has_word iWi iHw))
    (hU : T[iU]? = some (f_is_user iF)) (hF : T[iF]? = some (f_is_from iW)) (hW : T[iW]? = some f_is_whole) (hPo : T[iPo]? = some (f_parts_of iWi iPo)) (hWi : T[iWi]? = some f_within) (hS : T[iS]? = some (f_sound iH iP)) (hH : T[iH]? = some (f_sound_has iTo iNo iS)) (hP : T[iP]? = some (f_part_fits iS iF))
    (m : Nat) {d : D} (hd : Nk b (k + 1) d) (S : St') : RP (FT T (m + 2 * k + 5) i [.t (.tup (ts.map tabD)), .t d] S) (Is S (.bl (ruleB ts k d))) noE := by
  refine rp_fn (n := m + 2 * k + 4) hT rfl rfl ?_
  simp only [f_is_rule, pad]
  cases hd with
  | @tup _ xs hx hl =>
    have x0 := ne_len xs.length 5
    by_cases h5 : xs.length = 5
    · rw [decide_eq_true h5] at x0
      obtain ⟨a, bb, c, us, cd, rfl⟩ := five h5
      exists 1, no_index (⟨_, x0, _, rfl, fun h => (f_t h).elim, fun h => ?_⟩)
      have e13 : cutD [a, bb, c, us, cd] none (some 3) = [a, bb, c] := rfl
      rw [e13]
      refine rp_lcI (fun y => .bl (isiD y .str)) (show 3 ≤ 16777216 by decide) (fun y hy acc => ?_) ?_
      · refine ⟨_, rfl, ?_⟩
        exists 1
      have xa : biD .all [.lst ([a, bb, c].map fun y => D.bl (isiD y .str))] = some (.bl ([a, bb, c].all fun y => isiD y .str)) := all_bls _ _
      cases hba : [a, bb, c].all fun y => isiD y .str with
      | false =>
        rw [hba] at xa
        rw [ruleB_str hba]
        exists 1, xa
      | true =>
      rw [hba] at xa
      simp only [List.all_cons, List.all_nil, Bool.and_true] at hba
      rw [Bool.and_eq_true, Bool.and_eq_true] at hba
      obtain ⟨v, rfl⟩ := isi_str hba.1
      obtain ⟨kd, rfl⟩ := isi_str hba.2.1
      obtain ⟨tn, rfl⟩ := isi_str hba.2.2
      have i0 := at0 (.str v) [.str kd, .str tn, us, cd]
      have i1 := at1 (.str v) (.str kd) [.str tn, us, cd]
      have i2 := at2 (.str v) (.str kd) (.str tn) [us, cd]
      have i3 : idxD (.tup [.str v, .str kd, .str tn, us, cd]) (.int 3) = some us := rfl
      have i4 : idxD (.tup [.str v, .str kd, .str tn, us, cd]) (.int 4) = some cd := rfl
      have nv : PyData.strOk v = true := ((hx _ (by simp)).nc.strs).1
      have nkd : PyData.strOk kd = true := ((hx (.str kd) (by simp)).nc.strs).1
      have nu : Nc b us := (hx us (by simp)).nc
      have ncd : Nk b k cd := hx cd (by simp)
      exists 1, xa, i2
      refine RP.of_no (table_of_ok hTo (m + 2 * k + 3) ts tn S) fun w S1 ⟨e1, e2⟩ => ?_
      subst e1; subst e2
      have y1 := verb_in nv
      have y2 := kind_in nkd
      have xt := isN_tab (tabOf ts tn)
      rw [ruleB]
      generalize decide (v ∈ VERBS) = b1 at y1 ⊢
      generalize decide (kd ∈ KINDS) = b2 at y2 ⊢
      cases b1 with
      | false => exists 1, i0, no_index (⟨_, y1, _, rfl, fun h => ?_, fun h => (t_f h).elim⟩)
      | true =>
      cases b2 with
      | false => exists 1, i0, i1, no_index (⟨_, y1, _, rfl, fun h => (f_t h).elim, fun h => ?_⟩), no_index (⟨_, y2, _, rfl, fun h => ?_, fun h => (t_f h).elim⟩)
      | true =>
      cases htb : tabOf ts tn with
      | none =>
        rw [htb] at xt
        exists 1, i0, i1, no_index (⟨_, y1, _, rfl, fun h => (f_t h).elim, fun h => ?_⟩), no_index (⟨_, y2, _, rfl, fun h => (f_t h).elim, fun h => ?_⟩), no_index (⟨_, xt, _, rfl, fun h => ?_, fun h => (t_f h).elim⟩)
      | some tb =>
        rw [htb] at xt
        have hok : TabOk tb := hts _ (tabOf_mem htb).1
        exists 1, i0, i1, i3, no_index (⟨_, y1, _, rfl, fun h => (f_t h).elim, fun h => ?_⟩), no_index (⟨_, y2, _, rfl, fun h => (f_t h).elim, fun h => ?_⟩), no_index (⟨_, xt, _, rfl, fun h => (f_t h).elim, fun h => ?_⟩)
        refine RP.of_no (are_users_ok hAu hU hF hW (m + 2 * k) nu hb _) fun w S1 ⟨e1, e2⟩ => ?_
        subst e1; subst e2
        rw [ruleT]
        cases hu : usersB us with
        | false => exists 1
        | true =>
        exists 1
        refine RP.of_no (names_tab hNo (m + 2 * k + 3) hok _) fun w S1 ⟨e1, e2⟩ => ?_
        subst e1; subst e2
        exists 1, i4
        have hcd := is_condition_ok hb (by omega) hts hCo hPo hWi hS hH hP hTo hNo hF hW (m + 1) (col_strs hok) ncd S1
        rw [show m + 1 + 2 * k + 3 = m + 2 * k + 4 by omega] at hcd
        refine RP.of_no hcd fun w S1 ⟨e1, e2⟩ => ?_
        subst e1; subst e2
        cases hcb : condB ts k (colNames tb) cd with
        | false => exists 1
        | true =>
        exists 1, i4
        obtain ⟨n0, hn0⟩ := condB_cnt hcb
        have hw2 := has_word_ok (wd := "loud") (by decide +kernel) hb hHw hWi k (m + k + 3) n0 false (colNames tb) cd hn0 ncd S1
        rw [show m + k + 3 + k + 1 = m + 2 * k + 4 by omega] at hw2
        refine RP.of_no hw2 fun w S1 ⟨e1, e2⟩ => ?_
        subst e1; subst e2
        exists 1
    · rw [decide_eq_false h5] at x0
      rw [ruleB_len h5]
      exists 1, no_index (⟨_, x0, _, rfl, fun h => ?_, fun h => (t_f h).elim⟩)
  | _ =>
    exists 1
theorem isN_nam {ts : List Tab} {n : Str} : cmpD .is_ (namV ts (.str n)) .non = some (tabOf ts n).isNone := by
  simp only [namV]
  cases tabOf ts n <;> rfl
theorem lis_rule_ok {T : List Fn} {i iN iCo iAu iWi iS iF b k : Nat} {ts : List Tab} (hb : b ≤ 1000) (hk : k ≤ 40) (hts : ∀ t ∈ ts, TabOk t) (hT : T[i]? = some (f__law_is_rule iN iCo iAu iWi)) (hN : T[iN]? = some f__law_names_of) (hCo : T[iCo]? = some (f__law_is_condition iS)) (hAu : T[iAu]? = some (f__law_are_users iF)) (hWi : T[iWi]? = some (f__law_within iWi)) (hS : T[iS]? = some (f__law_sound iS iN iF)) (hF : T[iF]? = some f__law_from)
    (m : Nat) {d : D} (hd : Nk b (k + 1) d) (S : St') : RP (FT T (m + k + 3) i [.t (.tup (ts.map tabD)), .t d] S) (Is S (.bl (ruleB ts k d))) noE := by
  refine rp_fn (n := m + k + 2) hT rfl rfl ?_
  simp only [f__law_is_rule, pad]
  cases hd with
  | @tup _ xs hx hl =>
    have x0 := ne_len xs.length 5
    by_cases h5 : xs.length = 5
    · rw [decide_eq_true h5] at x0
      obtain ⟨a, bb, c, us, cd, rfl⟩ := five h5
      have i0 := at0 a [bb, c, us, cd]
      cases a with
      | str v =>
        have i1 := at1 (.str v) bb [c, us, cd]
        have nv : PyData.strOk v = true := ((hx (.str v) (by simp)).nc.strs).1
        have y1 := verb_in nv
        by_cases hv : v ∈ VERBS
        · rw [decide_eq_true hv] at y1
          cases bb with
          | str kd =>
            have nkd : PyData.strOk kd = true := ((hx (.str kd) (by simp)).nc.strs).1
            have y2 := kind_in nkd
            by_cases hkd : kd ∈ KINDS
            · rw [decide_eq_true hkd] at y2
              have i2 := at2 (.str v) (.str kd) c [us, cd]
              have i3 : idxD (.tup [.str v, .str kd, c, us, cd]) (.int 3) = some us := rfl
              have i4 : idxD (.tup [.str v, .str kd, c, us, cd]) (.int 4) = some cd := rfl
              have nu : Nc b us := (hx us (by simp)).nc
              have ncd : Nk b k cd := hx cd (by simp)
              exists 1, i0, i1, i2, no_index (⟨_, x0, _, rfl, fun h => (f_t h).elim, fun h => ?_⟩), no_index (⟨_, y1, _, rfl, fun h => (f_t h).elim, fun h => ?_⟩), no_index (⟨_, y2, _, rfl, fun h => (f_t h).elim, fun h => ?_⟩)
              refine RP.of_no (lnames_ok hN (m + k + 1) hts c S) fun w S1 ⟨e1, e2⟩ => ?_
              subst e1; subst e2
              cases c with
              | str n =>
                have xt := isN_nam (ts := ts) (n := n)
                rw [ruleB, decide_eq_true hv, decide_eq_true hkd]
                cases htb : tabOf ts n with
                | none =>
                  rw [htb] at xt
                  simp only [namV, htb] at xt ⊢
                  exists 1, no_index (⟨_, xt, _, rfl, fun h => ?_, fun h => (t_f h).elim⟩)
                | some tb =>
                  rw [htb] at xt
                  have hok : TabOk tb := hts _ (tabOf_mem htb).1
                  simp only [namV, htb] at xt ⊢
                  exists 1, i3, no_index (⟨_, xt, _, rfl, fun h => (f_t h).elim, fun h => ?_⟩)
                  refine RP.of_no (lare_users_ok hAu hF (m + k) nu hb _) fun w S1 ⟨e1, e2⟩ => ?_
                  subst e1; subst e2
                  rw [ruleT]
                  cases hu : usersB us with
                  | false => exists 1
                  | true =>
                  exists 1, i4
                  refine RP.of_no (lis_condition_ok hb (by omega) hts hCo hS hN hF m (col_strs hok) ncd _) fun w S1 ⟨e1, e2⟩ => ?_
                  subst e1; subst e2
                  cases hcb : condB ts k (colNames tb) cd with
                  | false => exists 1
                  | true =>
                  exists 1, i4
                  obtain ⟨n0, hn0⟩ := condB_cnt hcb
                  have hlw := lwithin_ok (wd := "loud") (by decide +kernel) hb hWi k (by omega) (m + 1) cd ncd S1
                  rw [show m + 1 + k + 1 = m + k + 2 by omega] at hlw
                  refine RP.of_no hlw fun w S1 ⟨e1, e2⟩ => ?_
                  subst e1; subst e2
                  rw [lt_hw hn0]
                  exists 1
              | _ =>
                exists 1
            · rw [decide_eq_false hkd] at y2
              have er : ruleB ts k (.tup [.str v, .str kd, c, us, cd]) = false := by
                unfold ruleB
                split
                · rename_i e; cases e; simp [hkd]
                · rfl
              rw [er]
              exists 1, i0, i1, no_index (⟨_, x0, _, rfl, fun h => (f_t h).elim, fun h => ?_⟩), no_index (⟨_, y1, _, rfl, fun h => (f_t h).elim, fun h => ?_⟩), no_index (⟨_, y2, _, rfl, fun h => ?_, fun h => (t_f h).elim⟩)
          | _ =>
            exists 1, i0, i1, no_index (⟨_, x0, _, rfl, fun h => (f_t h).elim, fun h => ?_⟩), no_index (⟨_, y1, _, rfl, fun h => (f_t h).elim, fun h => ?_⟩)
        · rw [decide_eq_false hv] at y1
          have er : ruleB ts k (.tup [.str v, bb, c, us, cd]) = false := by
            unfold ruleB
            split
            · rename_i e; cases e; simp [hv]
            · rfl
          rw [er]
          exists 1, i0, no_index (⟨_, x0, _, rfl, fun h => (f_t h).elim, fun h => ?_⟩), no_index (⟨_, y1, _, rfl, fun h => ?_, fun h => (t_f h).elim⟩)
      | _ =>
        exists 1, i0, no_index (⟨_, x0, _, rfl, fun h => (f_t h).elim, fun h => ?_⟩)
    · rw [decide_eq_false h5] at x0
      rw [ruleB_len h5]
      exists 1, no_index (⟨_, x0, _, rfl, fun h => ?_, fun h => (t_f h).elim⟩)
  | _ =>
    exists 1
end M

/-! what stands in the views' place of a setting that was spoilt twice -/
namespace M
open PySem PySem.Spec PyProof.Rows L2
def is4 : D → Bool
  | .tup [_, _, _, _] => true
  | _ => false
def okv : D → Bool
  | .lst vs => vs.all fun v => !is4 v
  | _ => true
/-- of a setting: with a ground ahead, no four parts in the list of views -/
def Good (d : D) : Prop := ∀ g r v, d = .tup [g, r, v] → groundB g = true → okv v = true
def sizeD : D → Nat
  | .tup xs => xs.length
  | .lst xs => xs.length
  | _ => 0
def partsD : D → List D
  | .tup xs => xs
  | .lst xs => xs
  | _ => []
theorem odd_facts : (ODD.all fun o => okv o && !is4 o && decide (sizeD o ≤ 2) && !groundB o && (partsD o).all fun p => okv p && !is4 p && !groundB p && decide (sizeD p = 0)) = true := by decide +kernel
theorem odd_f {o : D} (h : o ∈ ODD) : okv o = true ∧ is4 o = false ∧ sizeD o ≤ 2 ∧ groundB o = false ∧ ∀ p ∈ partsD o, okv p = true ∧ is4 p = false ∧ groundB p = false ∧ sizeD p = 0 := by
  have := List.all_eq_true.mp odd_facts o h
  simp only [Bool.and_eq_true, decide_eq_true_eq, List.all_eq_true, Bool.not_eq_true'] at this
  exact ⟨this.1.1.1.1, this.1.1.1.2, this.1.1.2, this.1.2, fun p hp => let z := this.2 p hp; ⟨z.1.1.1, z.1.1.2, z.1.2, z.2⟩⟩
theorem parts_of {d : D} {xs : List D} (h : d = .tup xs ∨ d = .lst xs) : partsD d = xs ∧ sizeD d = xs.length := by
  rcases h with rfl | rfl <;> exact ⟨rfl, rfl⟩
theorem is4_len {d : D} (h : is4 d = true) : sizeD d = 4 := by
  unfold is4 at h
  split at h
  · rfl
  · cases h
/-- a change makes at most one more -/
theorem chg_len {xs ys : List D} (h : Chg xs ys) : ys.length ≤ xs.length + 1 := by
  cases h with
  | del j hj => simp; omega
  | dup j hj => simp; omega
  | rot j hj => simp; omega
  | ins j ho => simp; omega
  | sub j hx hs => simp
  | same => omega
/-- what was changed in a small thing has not four parts -/
theorem spl_small {d d' : D} (hd : sizeD d ≤ 2) (h : Spl d d') : is4 d' = false := by
  cases hq : is4 d' with
  | false => rfl
  | true =>
    have h4 := is4_len hq
    cases h with
    | odd ho => rw [(odd_f ho).2.1] at hq; cases hq
    | chg h1 h2 hc =>
      have := chg_len hc
      rw [(parts_of h1).2] at hd
      rw [(parts_of h2).2] at h4
      omega
/-- the parts of a changed thing: those that stood there, odd ones, one that was spoilt -/
theorem chg_mem {xs ys : List D} (h : Chg xs ys) : ∀ y ∈ ys, y ∈ xs ∨ y ∈ ODD ∨ ∃ x ∈ xs, Spl x y := by
  cases h with
  | del j hj => exact fun y hy => .inl ((List.mem_append.mp hy).elim List.mem_of_mem_take List.mem_of_mem_drop)
  | dup j hj => exact fun y hy => .inl ((List.mem_append.mp hy).elim List.mem_of_mem_take List.mem_of_mem_drop)
  | rot j hj => exact fun y hy => .inl ((List.mem_append.mp hy).elim List.mem_of_mem_drop List.mem_of_mem_take)
  | ins j ho =>
    intro y hy
    rcases List.mem_append.mp hy with h | h
    · rcases List.mem_append.mp h with h | h
      · exact .inl (List.mem_of_mem_take h)
      · rw [List.mem_singleton.mp h]; exact .inr (.inl ho)
    · exact .inl (List.mem_of_mem_drop h)
  | sub j hx hs =>
    intro y hy
    rcases List.mem_or_eq_of_mem_set hy with h | h
    · exact .inl h
    · rw [h]; exact .inr (.inr ⟨_, List.mem_of_getElem? hx, hs⟩)
  | same => exact fun y hy => .inl hy
/-- a change: one part spoilt, or no part that was not there and is not odd; of the same length, turned or as it was -/
theorem chg_cases {xs ys : List D} (h : Chg xs ys) : (∃ j x x', xs[j]? = some x ∧ Spl x x' ∧ ys = xs.set j x') ∨ ((∀ y ∈ ys, y ∈ xs ∨ y ∈ ODD) ∧ (ys.length = xs.length → ∃ j, j ≤ xs.length ∧ ys = xs.drop j ++ xs.take j)) := by
  cases h with
  | del j hj => exact .inr ⟨fun y hy => .inl ((List.mem_append.mp hy).elim List.mem_of_mem_take List.mem_of_mem_drop), fun e => by simp at e; omega⟩
  | dup j hj => exact .inr ⟨fun y hy => .inl ((List.mem_append.mp hy).elim List.mem_of_mem_take List.mem_of_mem_drop), fun e => by simp at e; omega⟩
  | rot j hj => exact .inr ⟨fun y hy => .inl ((List.mem_append.mp hy).elim List.mem_of_mem_drop List.mem_of_mem_take), fun e => ⟨j, by omega, rfl⟩⟩
  | ins j ho =>
    refine .inr ⟨fun y hy => ?_, fun e => by simp at e; omega⟩
    rcases List.mem_append.mp hy with h | h
    · rcases List.mem_append.mp h with h | h
      · exact .inl (List.mem_of_mem_take h)
      · rw [List.mem_singleton.mp h]; exact .inr ho
    · exact .inl (List.mem_of_mem_drop h)
  | sub j hx hs => exact .inl ⟨j, _, _, hx, hs, rfl⟩
  | same => exact .inr ⟨fun y hy => .inl hy, fun _ => ⟨0, Nat.zero_le _, by simp⟩⟩
/-- the list of views, empty, spoilt once -/
theorem spl_nil {v : D} (h : Spl (.lst []) v) : okv v = true ∧ sizeD v ≤ 2 ∧ ∀ p ∈ partsD v, sizeD p ≤ 2 ∧ is4 p = false := by
  cases h with
  | odd ho =>
    have := odd_f ho
    exact ⟨this.1, this.2.2.1, fun p hp => ⟨by rw [(this.2.2.2.2 p hp).2.2.2]; omega, (this.2.2.2.2 p hp).2.1⟩⟩
  | chg h1 h2 hc =>
    rename_i xs ys
    have e : xs = [] := by rcases h1 with h | h <;> cases h; rfl
    subst e
    have hl := chg_len hc
    have hm : ∀ y ∈ ys, y ∈ ODD := fun y hy => by
      rcases chg_mem hc y hy with z | z | ⟨x, hx, _⟩
      · cases z
      · exact z
      · cases hx
    obtain ⟨p1, p2⟩ := parts_of h2
    refine ⟨?_, by rw [p2]; simpa using Nat.le_succ_of_le hl, fun p hp => ?_⟩
    · rcases h2 with rfl | rfl
      · rfl
      · simp only [okv, List.all_eq_true]
        exact fun y hy => by rw [(odd_f (hm y hy)).2.1]; rfl
    · rw [p1] at hp
      exact ⟨(odd_f (hm p hp)).2.2.1, (odd_f (hm p hp)).2.1⟩
/-- .. and once more -/
theorem spl_nil2 {v v' : D} (h : Spl (.lst []) v) (h' : Spl v v') : okv v' = true := by
  obtain ⟨-, hs, hp⟩ := spl_nil h
  cases h' with
  | odd ho => exact (odd_f ho).1
  | chg h1 h2 hc =>
    rename_i xs ys
    rw [(parts_of h1).1] at hp
    rcases h2 with rfl | rfl
    · rfl
    · simp only [okv, List.all_eq_true]
      intro y hy
      rcases chg_mem hc y hy with z | z | ⟨x, hx, hz⟩
      · rw [(hp y z).2]; rfl
      · rw [(odd_f z).2.1]; rfl
      · rw [spl_small (hp x hx).1 hz]; rfl
section
variable {g rs : D} (hg : okv g = true) (hg3 : sizeD g ≤ 4) (hr : okv rs = true) (hrl : groundB rs = false) (hgt : ∀ vs, g ≠ .lst vs)
include hg hr hrl hgt
/-- with all parts good: whatever stands at the third place -/
theorem good_of {ys : List D} {d : D} (h2 : d = .tup ys ∨ d = .lst ys) (h : ∀ a b c, ys = [a, b, c] → groundB a = true → okv c = true) : Good d := by
  intro a b c e ha
  rcases h2 with rfl | rfl
  · cases e; exact h a b c rfl ha
  · cases e
theorem ok3 {c : D} (z : c ∈ [g, rs, .lst []] ∨ c ∈ ODD) : okv c = true := by
  rcases z with z | z
  · simp only [List.mem_cons, List.not_mem_nil, or_false] at z
    rcases z with rfl | rfl | rfl
    · exact hg
    · exact hr
    · rfl
  · exact (odd_f z).1
theorem good_once {d : D} (h : Spl (.tup [g, rs, .lst []]) d) : Good d := by
  cases h with
  | odd ho =>
    intro a b c e ha
    subst e
    have := (odd_f ho).2.2.1
    simp [sizeD] at this
  | chg h1 h2 hc =>
    rename_i xs ys
    have e : xs = [g, rs, .lst []] := by rcases h1 with h | h <;> cases h; rfl
    subst e
    refine good_of hg hr hrl hgt h2 fun a b c e ha => ?_
    subst e
    rcases chg_cases hc with ⟨j, x, x', hx, hs, e⟩ | ⟨hm, -⟩
    · match j, hx with
      | 0, hx => cases e; rfl
      | 1, hx => cases e; rfl
      | 2, hx => cases e; cases hx; exact (spl_nil hs).1
      | j + 3, hx => simp at hx
    · exact ok3 hg hr hrl hgt (hm c (by simp))
theorem good_twice {d d' : D} (h : Spl (.tup [g, rs, .lst []]) d) (h' : Spl d d') : Good d' := by
  cases h' with
  | odd ho =>
    intro a b c e ha
    subst e
    have := (odd_f ho).2.2.1
    simp [sizeD] at this
  | chg k1 k2 kc =>
    rename_i us ws
    refine good_of hg hr hrl hgt k2 fun a b c e ha => ?_
    subst e
    cases h with
    | odd ho =>
      -- an odd thing that was changed: what stands ahead is no ground
      obtain ⟨p1, p2⟩ := parts_of k1
      have f := odd_f ho
      rw [p1, p2] at f
      rcases chg_cases kc with ⟨j, x, x', hx, hs, e⟩ | ⟨hm, -⟩
      · have := congrArg List.length e
        simp at this
        omega
      · exfalso
        rcases hm a (by simp) with z | z
        · rw [(f.2.2.2.2 a z).2.2.1] at ha; cases ha
        · rw [(odd_f z).2.2.2.1] at ha; cases ha
    | chg h1 h2 hc =>
      rename_i xs ys
      have e : xs = [g, rs, .lst []] := by rcases h1 with h | h <;> cases h; rfl
      subst e
      have e2 : us = ys := by rcases h2 with rfl | rfl <;> rcases k1 with h | h <;> cases h <;> rfl
      subst e2
      have gl : ∀ vs, groundB (.lst vs) = true → False := fun vs z => by cases z
      rcases chg_cases hc with ⟨j, x, x', hx, hs, e⟩ | ⟨hm, hrot⟩
      · -- first a part spoilt
        have hl : us.length = 3 := by rw [e]; simp
        rcases chg_cases kc with ⟨j2, y, y', hy, hs2, e2⟩ | ⟨-, hrot2⟩
        · match j, hx, j2, hy with
          | 0, hx, 0, hy => cases e; cases e2; rfl
          | 0, hx, 1, hy => cases e; cases e2; rfl
          | 0, hx, 2, hy => cases e; cases e2; cases hy; exact (spl_nil hs2).1
          | 1, hx, 0, hy => cases e; cases e2; rfl
          | 1, hx, 1, hy => cases e; cases e2; rfl
          | 1, hx, 2, hy => cases e; cases e2; cases hy; exact (spl_nil hs2).1
          | 2, hx, 0, hy => cases e; cases e2; cases hx; exact (spl_nil hs).1
          | 2, hx, 1, hy => cases e; cases e2; cases hx; exact (spl_nil hs).1
          | 2, hx, 2, hy => cases e; cases e2; cases hx; cases hy; exact spl_nil2 hs hs2
          | j + 3, hx, _, _ => simp at hx
          | 0, _, j2 + 3, hy => rw [e] at hy; simp at hy
          | 1, _, j2 + 3, hy => rw [e] at hy; simp at hy
          | 2, _, j2 + 3, hy => rw [e] at hy; simp at hy
        · obtain ⟨r, hr3, er⟩ := hrot2 (by rw [hl]; rfl)
          rw [hl] at hr3
          match j, hx, r, hr3 with
          | 0, hx, 0, _ => cases e; cases er; rfl
          | 0, hx, 1, _ => cases e; cases er; rw [hrl] at ha; cases ha
          | 0, hx, 2, _ => cases e; cases er; exact (gl _ ha).elim
          | 0, hx, 3, _ => cases e; cases er; rfl
          | 1, hx, 0, _ => cases e; cases er; rfl
          | 1, hx, 1, _ => cases e; cases er; exact hg
          | 1, hx, 2, _ => cases e; cases er; exact (gl _ ha).elim
          | 1, hx, 3, _ => cases e; cases er; rfl
          | 2, hx, 0, _ => cases e; cases er; cases hx; exact (spl_nil hs).1
          | 2, hx, 1, _ => cases e; cases er; rw [hrl] at ha; cases ha
          | 2, hx, 2, _ => cases e; cases er; exact hr
          | 2, hx, 3, _ => cases e; cases er; cases hx; exact (spl_nil hs).1
          | j + 3, hx, _, _ => simp at hx
          | 0, _, r + 4, h => omega
          | 1, _, r + 4, h => omega
          | 2, _, r + 4, h => omega
      · rcases chg_cases kc with ⟨j2, y, y', hy, hs2, e2⟩ | ⟨hm2, -⟩
        · have hl : us.length = 3 := by have := congrArg List.length e2; simpa using this.symm
          obtain ⟨r, hr3, er⟩ := hrot (by rw [hl]; rfl)
          have hr3 : r ≤ 3 := hr3
          match r, hr3, j2, hy with
          | 0, _, 0, hy => cases er; cases e2; rfl
          | 0, _, 1, hy => cases er; cases e2; rfl
          | 0, _, 2, hy => cases er; cases e2; cases hy; exact (spl_nil hs2).1
          | 3, _, 0, hy => cases er; cases e2; rfl
          | 3, _, 1, hy => cases er; cases e2; rfl
          | 3, _, 2, hy => cases er; cases e2; cases hy; exact (spl_nil hs2).1
          | 1, _, 0, hy => cases er; cases e2; exact hg
          | 1, _, 1, hy => cases er; cases e2; rw [hrl] at ha; cases ha
          | 1, _, 2, hy => cases er; cases e2; rw [hrl] at ha; cases ha
          | 2, _, 0, hy => cases er; cases e2; exact hr
          | 2, _, 1, hy => cases er; cases e2; exact hr
          | 2, _, 2, hy => cases er; cases e2; exact (gl _ ha).elim
          | 0, _, j2 + 3, hy => rw [er] at hy; simp at hy
          | 1, _, j2 + 3, hy => rw [er] at hy; simp at hy
          | 2, _, j2 + 3, hy => rw [er] at hy; simp at hy
          | 3, _, j2 + 3, hy => rw [er] at hy; simp at hy
          | r + 4, h, _, _ => omega
        · refine ok3 hg hr hrl hgt ?_
          rcases hm2 c (by simp) with z | z
          · exact hm c z
          · exact .inr z
end
end M

/-! what is a setting, no views among it -/
namespace M
open PySem PySem.Spec PyProof.Rows L2
def c_MOST_VIEWS : D := (D.int 4)
def c_MOST_RULES : D := (D.int 10)
/-- is_view(ground, views, thing): 0 ground, 1 views, 2 thing, 3 frame, 4 condition -/
def f_is_view (i_is_name : Nat) : Fn := ⟨3, 5,
  [(.ife (.or (.not (.isi (.var 2) .tuple)) (.or (.cmp .ne (.bi .len [(.var 2)]) (.lit (D.int 4))) (.not (.call i_is_name [(.idx (.var 2) (.lit (D.int 0)))])))) [(.ret (.lit (D.bl false)))] []),
  .any,
  .any,
  .any,
  .any]⟩
/-- are_views(ground, thing): 0 ground, 1 thing, 2 at, 3 view -/
def f_are_views (i_is_view : Nat) : Fn := ⟨2, 4,
  [(.ife (.or (.not (.isi (.var 1) .list)) (.cmp .gt (.bi .len [(.var 1)]) (.glb "MOST_VIEWS" c_MOST_VIEWS))) [(.ret (.lit (D.bl false)))] []),
  (.for_ (.tp [2, 3]) (.enum (.var 1)) [(.ife (.not (.call i_is_view [(.var 0), (.slc (.var 1) [] [(.var 2)]), (.var 3)])) [(.ret (.lit (D.bl false)))] [])]),
  (.ret (.cmp .eq (.fz .lenset [(.lc (.v 3) (.of (.var 1)) [] (.idx (.var 3) (.lit (D.int 0))))]) (.bi .len [(.var 1)])))]⟩
/-- are_rules(ground, thing): 0 ground, 1 thing, 2 rule, 3 at -/
def f_are_rules (i_is_rule : Nat) : Fn := ⟨2, 4,
  [(.ife (.or (.not (.isi (.var 1) .list)) (.cmp .gt (.bi .len [(.var 1)]) (.glb "MOST_RULES" c_MOST_RULES))) [(.ret (.lit (D.bl false)))] []),
  (.ife (.not (.bi .all [(.lc (.v 2) (.of (.var 1)) [] (.call i_is_rule [(.var 0), (.var 2)]))])) [(.ret (.lit (D.bl false)))] []),
  (.ret (.bi .all [(.lc (.tp [3, 2]) (.enum (.var 1)) [] (.cmp .notin (.var 2) (.slc (.var 1) [] [(.var 3)])))]))]⟩
/-- is_setting(thing): 0 thing -/
def f_is_setting (i_is_ground i_are_views i_are_rules : Nat) : Fn := ⟨1, 1,
  [(.ife (.or (.not (.isi (.var 0) .tuple)) (.or (.cmp .ne (.bi .len [(.var 0)]) (.lit (D.int 3))) (.not (.call i_is_ground [(.idx (.var 0) (.lit (D.int 0)))])))) [(.ret (.lit (D.bl false)))] []),
  (.ret (.and (.call i_are_rules [(.idx (.var 0) (.lit (D.int 0))), (.idx (.var 0) (.lit (D.int 1)))]) (.call i_are_views [(.idx (.var 0) (.lit (D.int 0))), (.idx (.var 0) (.lit (D.int 2)))])))]⟩
/-- _law_view_head(ground, heads, thing): 0 ground, 1 heads, 2 thing, 3 found -/
def f__law_view_head (i__law_is_name : Nat) : Fn := ⟨3, 4,
  [(.ife (.or (.not (.isi (.var 2) .tuple)) (.or (.cmp .ne (.bi .len [(.var 2)]) (.lit (D.int 4))) (.not (.call i__law_is_name [(.idx (.var 2) (.lit (D.int 0)))])))) [(.ret (.lit D.non))] []),
  .any,
  .any,
  .any,
  .any]⟩
/-- _law_is_setting(thing): 0 thing, 1 ground, 2 rules, 3 views, 4 heads, 5 view, 6 found, 7 rule, 8 one -/
def f__law_is_setting (i__law_is_ground i__law_is_rule i__law_view_head : Nat) : Fn := ⟨1, 9,
  [(.ife (.or (.not (.isi (.var 0) .tuple)) (.or (.cmp .ne (.bi .len [(.var 0)]) (.lit (D.int 3))) (.not (.call i__law_is_ground [(.idx (.var 0) (.lit (D.int 0)))])))) [(.ret (.lit (D.bl false)))] []),
  (.asg (.tp [1, 2, 3]) (.var 0)),
  (.ife (.or (.not (.isi (.var 2) .list)) (.or (.cmp .gt (.bi .len [(.var 2)]) (.lit (D.int 10))) (.or (.not (.isi (.var 3) .list)) (.cmp .gt (.bi .len [(.var 3)]) (.lit (D.int 4)))))) [(.ret (.lit (D.bl false)))] []),
  (.ife (.not (.bi .all [(.lc (.v 7) (.of (.var 2)) [] (.call i__law_is_rule [(.var 1), (.var 7)]))])) [(.ret (.lit (D.bl false)))] []),
  (.new 4 (.lst [])),
  (.for_ (.v 5) (.of (.var 3)) [(.asg (.v 6) (.call i__law_view_head [(.var 1), (.var 4), (.var 5)])),
  (.ife (.or (.cmp .is_ (.var 6) (.lit D.non)) (.cmp .isin (.idx (.var 6) (.lit (D.int 0))) (.lc (.v 8) (.of (.var 4)) [] (.idx (.var 8) (.lit (D.int 0)))))) [(.ret (.lit (D.bl false)))] []),
  (.app 4 (.var 6))]),
  (.ret (.bi .all [(.lc (.v 7) (.of (.var 2)) [] (.cmp .eq (.mth .countL (.var 2) [(.var 7)]) (.lit (D.int 1))))]))]⟩
/-! ### equal things -/
mutual
theorem deq_refl : ∀ d : D, deq d d = true
  | .non => by rw [deq]
  | .bl b => by rw [deq]; simp
  | .int i => by rw [deq]; simp
  | .str x => by rw [deq]; simp
  | .tup xs => by rw [deq]; exact deqs_refl xs
  | .lst xs => by rw [deq]; exact deqs_refl xs
theorem deqs_refl : ∀ xs : List D, deqs xs xs = true
  | [] => by rw [deqs]
  | x :: xs => by rw [deqs, deq_refl x, deqs_refl xs]; rfl
end
mutual
theorem deq_symm : ∀ a b : D, deq a b = deq b a
  | .tup xs, .tup ys => by rw [deq, deq, deqs_symm xs ys]
  | .lst xs, .lst ys => by rw [deq, deq, deqs_symm xs ys]
  | .non, b => by cases b <;> simp [deq]
  | .bl x, b => by cases b <;> simp [deq, Bool.beq_comm, BEq.comm]
  | .int x, b => by cases b <;> simp [deq, BEq.comm]
  | .str x, b => by cases b <;> simp [deq, BEq.comm, eq_comm]
  | .tup xs, .non => by simp [deq]
  | .tup xs, .bl _ => by simp [deq]
  | .tup xs, .int _ => by simp [deq]
  | .tup xs, .str _ => by simp [deq]
  | .tup xs, .lst _ => by simp [deq]
  | .lst xs, .non => by simp [deq]
  | .lst xs, .bl _ => by simp [deq]
  | .lst xs, .int _ => by simp [deq]
  | .lst xs, .str _ => by simp [deq]
  | .lst xs, .tup _ => by simp [deq]
theorem deqs_symm : ∀ xs ys : List D, deqs xs ys = deqs ys xs
  | [], [] => rfl
  | [], _ :: _ => by simp [deqs]
  | _ :: _, [] => by simp [deqs]
  | x :: xs, y :: ys => by rw [deqs, deqs, deq_symm x y, deqs_symm xs ys]
end
def Dst (rs : List D) : Prop := rs.Pairwise fun a b => deq a b = false
theorem dst_take : ∀ (pre suf : List D), ((suf.zipIdx pre.length).all fun p => !(((pre ++ suf).take p.2).any fun z => deq z p.1)) = true ↔ Dst suf ∧ ∀ a ∈ pre, ∀ b ∈ suf, deq a b = false
  | pre, [] => by simp [Dst]
  | pre, s :: suf => by
    have ih := dst_take (pre ++ [s]) suf
    rw [List.append_assoc, List.singleton_append, List.length_append, List.length_singleton] at ih
    rw [List.zipIdx_cons, List.all_cons, Bool.and_eq_true, ih]
    simp only [List.take_left, Bool.not_eq_true', List.any_eq_false, Dst, List.pairwise_cons]
    constructor
    · rintro ⟨h1, h2, h3⟩
      refine ⟨⟨fun b hb => h3 s (by simp) b hb, h2⟩, fun a ha b hb => ?_⟩
      rcases List.mem_cons.mp hb with rfl | hb
      · simpa using h1 a ha
      · exact h3 a (by simp [ha]) b hb
    · rintro ⟨⟨h1, h2⟩, h3⟩
      refine ⟨fun a ha => by simpa using h3 a ha s (by simp), h2, fun a ha b hb => ?_⟩
      rcases List.mem_append.mp ha with ha | ha
      · exact h3 a ha b (by simp [hb])
      · rw [List.mem_singleton.mp ha]; exact h1 b hb
theorem dst_count : ∀ rs : List D, (rs.all fun r => decide (rs.countP (fun y => deq y r) = 1)) = true ↔ Dst rs
  | [] => by simp [Dst]
  | a :: t => by
    have ih := dst_count t
    simp only [List.all_eq_true, decide_eq_true_eq, Dst, List.pairwise_cons] at ih ⊢
    constructor
    · intro h
      have h1 : ∀ b ∈ t, deq a b = false := fun b hb => by
        cases hq : deq a b with
        | false => rfl
        | true =>
          have := h b (by simp [hb])
          rw [List.countP_cons, hq] at this
          have h2 : 0 < t.countP (fun y => deq y b) := List.countP_pos_iff.mpr ⟨b, hb, deq_refl b⟩
          simp only [if_true] at this
          omega
      refine ⟨h1, ih.mp fun b hb => ?_⟩
      have := h b (by simp [hb])
      rw [List.countP_cons, h1 b hb] at this
      simpa using this
    · rintro ⟨h1, h2⟩ r hr
      rcases List.mem_cons.mp hr with rfl | hr
      · rw [List.countP_cons, deq_refl]
        have : t.countP (fun y => deq y r) = 0 := List.countP_eq_zero.mpr fun b hb => by rw [deq_symm, h1 b hb]; simp
        simp [this]
      · rw [List.countP_cons, h1 r hr]
        simpa using ih.mpr h2 r hr
def dstB (rs : List D) : Bool := rs.all fun r => decide (rs.countP (fun y => deq y r) = 1)
theorem dstB_take (rs : List D) : (rs.zipIdx.all fun p => !((rs.take p.2).any fun z => deq z p.1)) = dstB rs := by
  rw [Bool.eq_iff_iff]
  have := dst_take [] rs
  simp only [List.nil_append, List.length_nil, List.not_mem_nil, false_implies, implies_true, and_true] at this
  rw [this, dstB, dst_count]
/-! ### views that are none -/
theorem no4 {v : D} (h : is4 v = false) {xs : List D} (e : v = .tup xs) : ¬ xs.length = 4 := by
  intro hl
  subst e
  match xs, hl with
  | [_, _, _, _], _ => cases h
theorem is_view_no {T : List Fn} {i iN b k : Nat} (hT : T[i]? = some (f_is_view iN)) (n : Nat) {g vs v : D} (hv : Nk b k v) (h4 : is4 v = false) (S : St') : RP (FT T (n + 1) i [.t g, .t vs, .t v] S) (Is S (.bl false)) noE := by
  refine rp_fn hT rfl rfl ?_
  simp only [f_is_view, pad]
  cases hv with
  | @tup _ xs hx hl =>
    have x0 := ne_len xs.length 4
    rw [decide_eq_false (no4 h4 rfl)] at x0
    exists 1, no_index (⟨_, x0, _, rfl, fun h => ?_, fun h => (t_f h).elim⟩)
  | _ => exists 1
theorem lview_no {T : List Fn} {i iN b k : Nat} (hT : T[i]? = some (f__law_view_head iN)) (n : Nat) {g v : D} {vs : SV} (hv : Nk b k v) (h4 : is4 v = false) (S : St') : RP (FT T (n + 1) i [.t g, vs, .t v] S) (Is S .non) noE := by
  refine rp_fn hT rfl rfl ?_
  simp only [f__law_view_head, pad]
  cases hv with
  | @tup _ xs hx hl =>
    have x0 := ne_len xs.length 4
    rw [decide_eq_false (no4 h4 rfl)] at x0
    exists 1, no_index (⟨_, x0, _, rfl, fun h => ?_, fun h => (t_f h).elim⟩)
  | _ => exists 1
def noVs : D → Bool
  | .lst vs => vs.isEmpty
  | _ => false
theorem are_views_ok {T : List Fn} {i iV iN b k : Nat} (hT : T[i]? = some (f_are_views iV)) (hV : T[iV]? = some (f_is_view iN)) (n : Nat) {g v : D} (hv : Nk b k v) (hb : b ≤ 1000) (ok : okv v = true) (S : St') : RP (FT T (n + 2) i [.t g, .t v] S) (Is S (.bl (noVs v))) noE := by
  refine rp_fn hT rfl rfl ?_
  simp only [f_are_views, pad]
  cases hv with
  | @lst _ xs hx hl =>
    simp only [okv, List.all_eq_true, Bool.not_eq_true'] at ok
    exists 1
    · have : ¬ xs.length ≤ 4 := by have := of_decide_eq_true h; omega
      cases xs with
      | nil => simp at this
      | cons => rfl
    · cases xs with
      | nil =>
        have el : lensetD (.lst []) = some (.int 0) := lenset_strs (xs := []) (by simp) _ (.inr rfl)
        have e1 : enumD [] = [] := rfl
        rw [e1]
        refine op_fix (fun l ρ S' => l = [] ∧ ∃ k2 k3, ρ = [some (.t g), some (.t (.lst [])), k2, k3] ∧ S' = S) ⟨rfl, _, _, rfl, rfl⟩ ?_ ?_
        · rintro d ds ρ S' ⟨h, _⟩; cases h
        · rintro ρ S' ⟨-, k2, k3, rfl, rfl⟩
          exists 1
          refine rp_lcI (fun y => y) (by simp) (fun y hy acc => absurd hy (by simp)) ?_
          exists 1, el
      | cons x xs =>
        have e1 : enumD (x :: xs) = ((x :: xs).zipIdx).map fun p => D.tup [.int (p.2 : Nat), p.1] := rfl
        rw [e1]
        refine op_fixM (ys := (x :: xs).zipIdx) (fun p => D.tup [.int (p.2 : Nat), p.1]) (fun rest ρ S' => rest = (x :: xs).zipIdx ∧ ∃ k2 k3, ρ = [some (.t g), some (.t (.lst (x :: xs))), k2, k3] ∧ S' = S) ⟨rfl, _, _, rfl, rfl⟩ ?_ ?_
        · rintro y ys ρ S' ⟨h, k2, k3, rfl, rfl⟩
          rw [List.zipIdx_cons] at h
          cases h
          refine ⟨_, rfl, ?_⟩
          exists 1
          refine RP.of_no (is_view_no hV n (hx x (by simp)) (ok x (by simp)) _) fun w S1 ⟨e1, e2⟩ => ?_
          subst e1; subst e2
          exists 1
        · rintro ρ S' ⟨h, _⟩
          cases h
  | _ => exists 1
def rulesB (ts : List Tab) (k : Nat) : D → Bool
  | .lst rs => decide (rs.length ≤ 10) && (rs.all (ruleB ts k) && dstB rs)
  | _ => false
theorem are_rules_ok {T : List Fn} {i iR b k : Nat} {ts : List Tab} (hb : b ≤ 1000) (hk : k ≤ 40) (hT : T[i]? = some (f_are_rules iR)) (n : Nat) (hR : ∀ d, Nk b (k + 1) d → ∀ S, RP (FT T n iR [.t (.tup (ts.map tabD)), .t d] S) (Is S (.bl (ruleB ts k d))) noE)
    {v : D} (hv : Nk b (k + 2) v) (S : St') : RP (FT T (n + 1) i [.t (.tup (ts.map tabD)), .t v] S) (Is S (.bl (rulesB ts k v))) noE := by
  refine rp_fn hT rfl rfl ?_
  simp only [f_are_rules, pad]
  cases hv with
  | @lst _ rs hx hl =>
    exists 1
    · have h10 : ¬ rs.length ≤ 10 := by have := of_decide_eq_true h; omega
      simp [rulesB, h10]
    · have h10 : rs.length ≤ 10 := by have := of_decide_eq_false h; omega
      refine rp_lcI (fun x => .bl (ruleB ts k x)) (by omega) (fun x hxx acc => ?_) ?_
      · refine ⟨_, rfl, ?_⟩
        exists 1
        exact RP.of_no (hR x (hx x hxx) _) fun w S1 ⟨e1, e2⟩ => ⟨e2, e1⟩
      · exists 1, all_bls (ruleB ts k) rs
        · have hall := h
          have e1 : enumD rs = (rs.zipIdx).map fun p => D.tup [.int (p.2 : Nat), p.1] := rfl
          rw [e1]
          refine rp_lcM (ys := rs.zipIdx) (fun p : D × Nat => D.tup [.int (p.2 : Nat), p.1]) (fun p => .bl (!((rs.take p.2).any fun z => deq z p.1))) (by simp; omega) (fun p hp acc => ?_) ?_
          · refine ⟨_, rfl, ?_⟩
            have hm : p.1 ∈ rs := (List.mem_zipIdx' hp).2 ▸ List.getElem_mem _
            have s1 : slcD (.lst rs) none (some (p.2 : Int)) = some (.lst (rs.take p.2)) := by
              have := cut_to rs (a := (p.2 : Int)) (by omega)
              simp only [slcD, this, Int.toNat_natCast]
            have o1 : okD p.1 = true := ((hx p.1 hm).ok).okD (by omega)
            have o2 : okD (.lst (rs.take p.2)) = true := (Ok.lst (k := k + 1) fun x hxx => (hx x (List.mem_of_mem_take hxx)).ok).okD (by omega)
            have c1 : cmpD .notin p.1 (.lst (rs.take p.2)) = some (!((rs.take p.2).any fun z => deq z p.1)) := by
              simp only [cmpD, inD, o1, o2, Bool.and_self, if_true, Option.map_some]
            exists 1, s1, c1
          · exists 1, all_bls (fun p : D × Nat => !((rs.take p.2).any fun z => deq z p.1)) _
            rw [dstB_take]
            simp [rulesB, h10, hall]
        · simp [rulesB, h]
  | _ => exists 1
theorem setting_no {d : D} {xs : List D} (h : ¬ xs.length = 3) : d = .tup xs → ∀ a b c, d ≠ .tup [a, b, c] := by
  rintro rfl a b c e; cases e; exact h rfl
/-- the program's word: no tuple of three, or no ground ahead -/
theorem is_setting_f {T : List Fn} {i iG iV iR b k : Nat} (hT : T[i]? = some (f_is_setting iG iV iR)) (n : Nat) (hG : ∀ d, Nc b d → ∀ S, RP (FT T n iG [.t d] S) (Is S (.bl (groundB d))) noE)
    {d : D} (hd : Nk b k d) (hng : ∀ g r v, d = .tup [g, r, v] → groundB g = false) (S : St') : RP (FT T (n + 1) i [.t d] S) (Is S (.bl false)) noE := by
  refine rp_fn hT rfl rfl ?_
  simp only [f_is_setting, pad]
  cases hd with
  | @tup _ xs hx hl =>
    have x0 := ne_len xs.length 3
    by_cases h3 : xs.length = 3
    · rw [decide_eq_true h3] at x0
      obtain ⟨g, r, v, rfl⟩ := three (xs := xs) (by omega)
      have i0 := at0 g [r, v]
      exists 1, i0, no_index (⟨_, x0, _, rfl, fun h => (f_t h).elim, fun h => ?_⟩)
      refine RP.of_no (hG g (hx g (by simp)).nc _) fun w S1 ⟨e1, e2⟩ => ?_
      subst e1; subst e2
      rw [hng g r v rfl]
      exists 1
    · rw [decide_eq_false h3] at x0
      exists 1, no_index (⟨_, x0, _, rfl, fun h => ?_, fun h => (t_f h).elim⟩)
  | _ => exists 1
theorem is_setting_t {T : List Fn} {i iG iV iR b : Nat} (hT : T[i]? = some (f_is_setting iG iV iR)) (n : Nat) {g r v : D} {B C : Bool} (hG : ∀ S, RP (FT T n iG [.t g] S) (Is S (.bl true)) noE) (hR : ∀ S, RP (FT T n iR [.t g, .t r] S) (Is S (.bl B)) noE) (hV : ∀ S, RP (FT T n iV [.t g, .t v] S) (Is S (.bl C)) noE)
    (S : St') : RP (FT T (n + 1) i [.t (.tup [g, r, v])] S) (Is S (.bl (B && C))) noE := by
  refine rp_fn hT rfl rfl ?_
  simp only [f_is_setting, pad]
  have x0 : cmpD .ne (.int ([g, r, v].length : Nat)) (.int 3) = some false := ne_len 3 3
  have i0 := at0 g [r, v]
  have i1 := at1 g r [v]
  have i2 := at2 g r v []
  exists 1, i0, no_index (⟨_, x0, _, rfl, fun h => (f_t h).elim, fun h => ?_⟩)
  refine RP.of_no (hG _) fun w S1 ⟨e1, e2⟩ => ?_
  subst e1; subst e2
  exists 1, i0, i1
  refine RP.of_no (hR _) fun w S1 ⟨e1, e2⟩ => ?_
  subst e1; subst e2
  cases B with
  | false => exists 1
  | true =>
    exists 1, i0, i2
    refine RP.of_no (hV _) fun w S1 ⟨e1, e2⟩ => ?_
    subst e1; subst e2
    exists 1
theorem lis_setting_f {T : List Fn} {i iG iR iV b k : Nat} (hT : T[i]? = some (f__law_is_setting iG iR iV)) (n : Nat) (hG : ∀ d, Nc b d → ∀ S, RP (FT T n iG [.t d] S) (Is S (.bl (groundB d))) noE)
    {d : D} (hd : Nk b k d) (hng : ∀ g r v, d = .tup [g, r, v] → groundB g = false) (S : St') : RP (FT T (n + 1) i [.t d] S) (Is S (.bl false)) noE := by
  refine rp_fn hT rfl rfl ?_
  simp only [f__law_is_setting, pad]
  cases hd with
  | @tup _ xs hx hl =>
    have x0 := ne_len xs.length 3
    by_cases h3 : xs.length = 3
    · rw [decide_eq_true h3] at x0
      obtain ⟨g, r, v, rfl⟩ := three (xs := xs) (by omega)
      have i0 := at0 g [r, v]
      exists 1, i0, no_index (⟨_, x0, _, rfl, fun h => (f_t h).elim, fun h => ?_⟩)
      refine RP.of_no (hG g (hx g (by simp)).nc _) fun w S1 ⟨e1, e2⟩ => ?_
      subst e1; subst e2
      rw [hng g r v rfl]
      exists 1
    · rw [decide_eq_false h3] at x0
      exists 1, no_index (⟨_, x0, _, rfl, fun h => ?_, fun h => (t_f h).elim⟩)
  | _ => exists 1
theorem lis_setting_t {T : List Fn} {i iG iR iV iN b k q : Nat} {ts : List Tab} (hb : b ≤ 1000) (hk : k ≤ 40) (hT : T[i]? = some (f__law_is_setting iG iR iV)) (hV : T[iV]? = some (f__law_view_head iN)) (n : Nat) (hG : ∀ S, RP (FT T (n + 1) iG [.t (.tup (ts.map tabD))] S) (Is S (.bl true)) noE) (hR : ∀ d, Nk b (k + 1) d → ∀ S, RP (FT T (n + 1) iR [.t (.tup (ts.map tabD)), .t d] S) (Is S (.bl (ruleB ts k d))) noE)
    {r v : D} (hr : Nk b (k + 2) r) (hv : Nk b q v) (ok : okv v = true) (S : St') : RP (FT T (n + 2) i [.t (.tup [.tup (ts.map tabD), r, v])] S) (Is S (.bl (rulesB ts k r && noVs v))) noE := by
  refine rp_fn hT rfl rfl ?_
  simp only [f__law_is_setting, pad]
  generalize D.tup (ts.map tabD) = g at *
  have x0 : cmpD .ne (.int ([g, r, v].length : Nat)) (.int 3) = some false := ne_len 3 3
  have i0 := at0 g [r, v]
  exists 1, i0, no_index (⟨_, x0, _, rfl, fun h => (f_t h).elim, fun h => ?_⟩)
  refine RP.of_no (hG _) fun w S1 ⟨e1, e2⟩ => ?_
  subst e1; subst e2
  cases hr with
  | @lst _ rs hx hl =>
    cases hv with
    | @lst _ vs hvx hvl =>
      simp only [okv, List.all_eq_true, Bool.not_eq_true'] at ok
      exists 1
      · have h10 : ¬ rs.length ≤ 10 := by have := of_decide_eq_true h; omega
        simp [rulesB, h10]
      · have h4 : ¬ vs.length ≤ 4 := by have := of_decide_eq_true h; omega
        cases vs with
        | nil => simp at h4
        | cons => simp [noVs]
      · rename_i h10' _
        have h10 : rs.length ≤ 10 := by have := of_decide_eq_false h10'; omega
        refine rp_lcI (fun x => .bl (ruleB ts k x)) (by omega) (fun x hxx acc => ?_) ?_
        · refine ⟨_, rfl, ?_⟩
          exists 1
          exact RP.of_no (hR x (hx x hxx) _) fun w S1 ⟨e1, e2⟩ => ⟨e2, e1⟩
        · exists 1, all_bls (ruleB ts k) rs
          · have hall := h
            cases vs with
            | cons y ys =>
              refine op_fix (fun l ρ S' => l = y :: ys ∧ ∃ k5 k6 k7 k8, ρ = [some (.t (.tup [g, .lst rs, .lst (y :: ys)])), some (.t g), some (.t (.lst rs)), some (.t (.lst (y :: ys))), some (.o S1.length), k5, k6, k7, k8] ∧ S' = S1 ++ [.lst []]) ⟨rfl, _, _, _, _, rfl, rfl⟩ ?_ ?_
              · rintro d ds ρ S' ⟨e, k5, k6, k7, k8, rfl, rfl⟩
                cases e
                refine ⟨_, rfl, ?_⟩
                exists 1
                refine RP.of_no (lview_no hV n (hvx y (by simp)) (ok y (by simp)) _) fun w S2 ⟨e1, e2⟩ => ?_
                subst e1; subst e2
                have c1 : cmpD .is_ .non .non = some true := rfl
                exists 1, no_index (⟨_, c1, _, rfl, fun h => ?_, fun h => (t_f h).elim⟩)
                simp [noVs]
              · rintro ρ S' ⟨e, _⟩
                cases e
            | nil =>
              refine op_fix (fun l ρ S' => l = [] ∧ ∃ k5 k6 k7 k8, ρ = [some (.t (.tup [g, .lst rs, .lst []])), some (.t g), some (.t (.lst rs)), some (.t (.lst [])), some (.o S1.length), k5, k6, k7, k8] ∧ S' = S1 ++ [.lst []]) ⟨rfl, _, _, _, _, rfl, rfl⟩ ?_ ?_
              · rintro d ds ρ S' ⟨e, _⟩
                cases e
              · rintro ρ S' ⟨-, k5, k6, k7, k8, rfl, rfl⟩
                exists 1
                refine rp_lcI (fun r => .bl (decide (rs.countP (fun y => deq y r) = 1))) (by omega) (fun r hrr acc => ?_) ?_
                · refine ⟨_, rfl, ?_⟩
                  have o1 : okD r = true := ((hx r hrr).ok).okD (by omega)
                  have o2 : okD (.lst rs) = true := (Ok.lst (k := k + 1) fun x hxx => (hx x hxx).ok).okD (by omega)
                  have m1 : ∀ S : St', mth2 .countL S (.t (.lst rs)) [.t r] = some (.int ((rs.countP fun y => deq y r : Nat) : Int)) := fun S => by
                    simp only [mth2, peek, peeks, Option.map_some, Option.bind_some, mthD, o1, o2, Bool.and_self, if_true]
                  have c1 : cmpD .eq (.int ((rs.countP fun y => deq y r : Nat) : Int)) (.int 1) = some (decide (rs.countP (fun y => deq y r) = 1)) := by
                    simp only [cmpD, scalD, Bool.true_or, if_true, deq]
                    by_cases hq : rs.countP (fun y => deq y r) = 1
                    · simp [hq]
                    · simp [hq]; omega
                  generalize rs.countP (fun y => deq y r) = cN at *
                  exists 1, m1 _, c1
                · exists 1, all_bls (fun r => decide (rs.countP (fun y => deq y r) = 1)) rs
                  simp [rulesB, h10, hall, noVs, dstB]
          · simp [rulesB, h]
    | _ =>
      exists 1
      all_goals simp [noVs]
  | _ =>
    exists 1
end M

/-! rules as the law draws them -/
namespace M
open PySem PySem.Spec PyProof.Rows L2
/-- _law_users(picks): 0 picks, 1 pick -/
def f__law_users : Fn := ⟨1, 2,
  [(.ife (.cmp .eq (.bin .mod (.idx (.var 0) (.lit (D.int 0))) (.lit (D.int 2))) (.lit (D.int 0))) [(.ret (.tup []))] []),
  (.ret (.bi .tuple [(.fz .sortseti [(.lc (.v 1) (.of (.slc (.var 0) [(.lit (D.int 1))] [(.bin .add (.lit (D.int 2)) (.bin .mod (.bin .fdiv (.idx (.var 0) (.lit (D.int 0))) (.lit (D.int 2))) (.lit (D.int 4))))])) [] (.bin .mod (.var 1) (.lit (D.int 9))))])]))]⟩
/-- _law_rules(picks, ground, many): 0 picks, 1 ground, 2 many, 3 found, 4 k, 5 some, 6 verb, 7 kind, 8 table, 9 names, 10 condition, 11 rule, 12 column -/
def f__law_rules (i__law_condition i__law_users : Nat) : Fn := ⟨3, 13,
  [(.new 3 (.lst [])),
  (.for_ (.v 4) (.range1 (.var 2)) [(.asg (.v 5) (.slc (.var 0) [(.bin .mul (.lit (D.int 36)) (.var 4))] [(.bin .add (.bin .mul (.lit (D.int 36)) (.var 4)) (.lit (D.int 36)))])),
  (.asg (.v 6) (.idx (.lst [(.lit (D.str "read")), (.lit (D.str "read")), (.lit (D.str "put")), (.lit (D.str "drop"))]) (.bin .mod (.idx (.var 5) (.lit (D.int 0))) (.lit (D.int 4))))),
  (.asg (.v 7) (.idx (.lst [(.lit (D.str "let")), (.lit (D.str "let")), (.lit (D.str "must"))]) (.bin .mod (.idx (.var 5) (.lit (D.int 1))) (.lit (D.int 3))))),
  (.asg (.v 8) (.idx (.var 1) (.bin .mod (.idx (.var 5) (.lit (D.int 2))) (.bi .len [(.var 1)])))),
  (.asg (.v 9) (.lc (.v 12) (.of (.idx (.var 8) (.lit (D.int 2)))) [] (.idx (.var 12) (.lit (D.int 0))))),
  (.asg (.v 10) (.call i__law_condition [(.slc (.var 5) [(.lit (D.int 12))] []), (.bin .add (.lit (D.int 1)) (.bin .mod (.idx (.var 5) (.lit (D.int 3))) (.lit (D.int 4)))), (.var 1), (.var 9), (.lit (D.str "mh"))])),
  (.ife (.and (.cmp .eq (.bin .mod (.idx (.var 5) (.lit (D.int 4))) (.lit (D.int 4))) (.lit (D.int 0))) (.cmp .eq (.var 7) (.lit (D.str "let")))) [(.asg (.v 10) (.tup [(.lit (D.str "yes"))]))] []),
  (.asg (.v 11) (.tup [(.var 6), (.var 7), (.idx (.var 8) (.lit (D.int 0))), (.call i__law_users [(.slc (.var 5) [(.lit (D.int 5))] [])]), (.var 10)])),
  (.ife (.cmp .notin (.var 11) (.var 3)) [(.app 3 (.var 11))] [])]),
  (.ret (.var 3))]⟩
/-- _law_cells(script, at, many): 0 script, 1 at, 2 many, 3 k -/
def f__law_cells (i__law_cell_at : Nat) : Fn := ⟨3, 4,
  [(.ret (.lc (.v 3) (.range1 (.var 2)) [] (.call i__law_cell_at [(.var 0), (.bin .add (.var 1) (.var 3))])))]⟩
/-- _law_rule_setting(cells, top, rules): 0 cells, 1 top, 2 rules, 3 ground, 4 picks -/
def f__law_rule_setting (i__law_ground i__law_draws i__law_rules : Nat) : Fn := ⟨3, 5,
  [(.asg (.v 3) (.call i__law_ground [(.call i__law_draws [(.bin .add (.idx (.var 0) (.lit (D.int 0))) (.lit (D.int 1))), (.lit (D.int 150)), (.lit (D.int 1000))]), (.var 1)])),
  (.asg (.v 4) (.call i__law_draws [(.bin .add (.idx (.var 0) (.lit (D.int 1))) (.lit (D.int 2))), (.bin .add (.bin .mul (.lit (D.int 36)) (.var 2)) (.lit (D.int 1))), (.lit (D.int 1000))])),
  (.ret (.tup [(.var 3), (.call i__law_rules [(.slc (.var 4) [(.lit (D.int 1))] []), (.var 3), (.bin .mod (.idx (.var 4) (.lit (D.int 0))) (.bin .add (.var 2) (.lit (D.int 1))))]), (.lst [])]))]⟩
def cellV (ns : List Int) (j : Int) : Int := if j < ns.length then sget ns j.toNat else 0
theorem cell_val {T : List Fn} {i : Nat} (hT : T[i]? = some f__law_cell_at) (n : Nat) (ns : List Int) {j : Int} (hj : 0 ≤ j) (S : St') : RP (FT T (n + 1) i [.t (.lst (ns.map .int)), .t (.int j)] S) (Is S (.int (cellV ns j))) noE := by
  refine rp_fn hT rfl rfl ?_
  simp only [f__law_cell_at, pad]
  exists 1
  · have hl : j < ns.length := by have := of_decide_eq_true h; rwa [List.length_map] at this
    have a1 := at_int (ss := ns) (j := j.toNat) (by omega)
    rw [Int.toNat_of_nonneg hj] at a1
    rw [cellV, if_pos hl]
    exists 1, a1
  · have hl : ¬ j < ns.length := by have := of_decide_eq_false h; rwa [List.length_map] at this
    rw [cellV, if_neg hl]
theorem cells_ok {T : List Fn} {i iA : Nat} (hT : T[i]? = some (f__law_cells iA)) (hA : T[iA]? = some f__law_cell_at) (n : Nat) (ns : List Int) {j : Int} (hj : 0 ≤ j) (S : St') : RP (FT T (n + 2) i [.t (.lst (ns.map .int)), .t (.int j), .t (.int 2)] S) (fun v S' => S' = S ∧ ∃ a b : Int, v = .t (.lst [.int a, .int b])) noE := by
  refine rp_fn hT rfl rfl ?_
  simp only [f__law_cells, pad]
  exists 1
  have e := rangeD0 2
  rw [show rangeD 0 2 = (List.range 2).map fun k : Nat => D.int (k : Int) from e]
  refine rp_lcM (ys := List.range 2) (fun k : Nat => D.int (k : Int)) (fun k => .int (cellV ns (j + (k : Int)))) (by simp) (fun k hk acc => ?_) ?_
  · refine ⟨_, rfl, ?_⟩
    exists 1
    exact RP.of_no (cell_val hA n ns (by omega) _) fun v S1 ⟨e1, e2⟩ => ⟨e2, e1⟩
  · exists 1
    exact ⟨_, _, rfl⟩
theorem cutL_le {α : Type} (xs : List α) (l h : Option Int) : (cutL xs l h).length ≤ xs.length := by
  unfold cutL; rw [List.length_take, List.length_drop]; omega
theorem nk_ints {ns : List Int} (h : ns.length ≤ 10) : Nk 10 1 (.tup (ns.map .int)) := .tup (fun x hx => by obtain ⟨i, _, rfl⟩ := List.mem_map.mp hx; exact .int _) (by rw [List.length_map]; exact h)
theorem users_ok {T : List Fn} {i : Nat} (hT : T[i]? = some f__law_users) (n : Nat) {ps : List Int} (hl : 6 ≤ ps.length) (hl2 : ps.length ≤ 60) (hb : ∀ x ∈ ps, 0 ≤ x ∧ x < 1000) (S : St') : RP (FT T (n + 1) i [.t (.lst (ps.map .int))] S) (fun v S' => S' = S ∧ ∃ d, v = .t d ∧ Nk 10 1 d) noE := by
  refine rp_fn hT rfl rfl ?_
  simp only [f__law_users, pad]
  have g0 : idxD (.lst (ps.map .int)) (.int 0) = some (.int (sget ps 0)) := at_int (j := 0) (by omega)
  have b0 := hb _ (sget_mem (ss := ps) (j := 0) (by omega))
  generalize sget ps 0 = z at *
  have m1 : binD .mod (.int z) (.int 2) = some (.int (z % 2)) := by
    simp only [binD]; rw [if_pos (by omega)]
  have m2 : binD .fdiv (.int z) (.int 2) = some (.int (z / 2)) := by
    simp only [binD]; rw [if_pos (by omega)]
  have m3 : binD .mod (.int (z / 2)) (.int 4) = some (.int (z / 2 % 4)) := by
    simp only [binD]; rw [if_pos (by omega)]
  have s1 := slc_ints ps (some 1) (some (2 + z / 2 % 4))
  have hc := cutL_le ps (some 1) (some (2 + z / 2 % 4))
  have hq0 : 0 ≤ z / 2 % 4 ∧ z / 2 % 4 < 4 := ⟨Int.emod_nonneg _ (by omega), Int.emod_lt_of_pos _ (by omega)⟩
  have hcl := cutL_len (xs := ps) (a := 1) (b := 2 + z / 2 % 4) (by omega) (by omega) (by omega)
  generalize cutL ps (some 1) (some (2 + z / 2 % 4)) = qs at *
  have c0 : cmpD .eq (.int (z % 2)) (.int 0) = some (decide (z % 2 = 0)) := by
    simp only [cmpD, scalD, Bool.true_or, if_true, deq]
    by_cases h : z % 2 = 0 <;> simp [h]
  generalize decide (z % 2 = 0) = b1 at c0
  cases b1 with
  | true =>
    exists 1, g0, m1, no_index (⟨_, c0, _, rfl, fun h => ?_, fun h => (t_f h).elim⟩)
    exact .tup (fun x hx => absurd hx (by simp)) (by simp)
  | false =>
    exists 1, g0, m1, m2, m3, s1, no_index (⟨_, c0, _, rfl, fun h => (f_t h).elim, fun h => ?_⟩)
    refine rp_lcM (ys := qs) D.int (fun q => .int (q % 9)) (by omega) (fun q hq acc => ?_) ?_
    · refine ⟨_, rfl, ?_⟩
      exists 1
    · have es : sortsetiD (.lst (qs.map fun q => D.int (q % 9))) = some (.lst (((dset (qs.map fun q => q % 9)).mergeSort fun a b => decide (a ≤ b)).map D.int)) := by
        rw [show (qs.map fun q => D.int (q % 9)) = (qs.map fun q => q % 9).map D.int by rw [List.map_map]; rfl]
        simp only [sortsetiD, sqOf, Option.bind_some, ints_k]
        rw [if_pos (by simp; omega)]
      have hdl := dset_le _ (qs.map fun q => q % 9) rfl
      exists 1, es
      refine nk_ints ?_
      rw [List.length_mergeSort]
      simp at hdl
      omega
def yesS : MS := (.ife (.and (.cmp .eq (.bin .mod (.idx (.var 5) (.lit (D.int 4))) (.lit (D.int 4))) (.lit (D.int 0))) (.cmp .eq (.var 7) (.lit (D.str "let")))) [(.asg (.v 10) (.tup [(.lit (D.str "yes"))]))] [])
theorem nk_lit {w : Str} (h1 : PyData.strOk w = true) (h2 : w.length ≤ 10) {k : Nat} : Nk 10 k (.str w) := .str h1 h2
theorem yes_ok {F : FS} {v0 v1 v2 v3 v4 v6 v8 v9 v11 v12 : Option SV} {ss : List Int} {kd : Str} {cd : D} {S : St'} {nx bk ct : NX} {P : Po} (hl : 5 ≤ ss.length) (hc : Nk 10 4 cd) (h : ∀ d, Nk 10 4 d → nx [v0, v1, v2, v3, v4, some (.t (.lst (ss.map .int))), v6, some (.t (.str kd)), v8, v9, some (.t d), v11, v12] S) :
    OP (execS F yesS [v0, v1, v2, v3, v4, some (.t (.lst (ss.map .int))), v6, some (.t (.str kd)), v8, v9, some (.t cd), v11, v12] S) nx bk ct P := by
  have hnx := h
  have g4 : idxD (.lst (ss.map .int)) (.int 4) = some (.int (sget ss 4)) := at_int (j := 4) (by omega)
  generalize sget ss 4 = z at *
  have m1 : binD .mod (.int z) (.int 4) = some (.int (z % 4)) := by
    simp only [binD]; rw [if_pos (by omega)]
  obtain ⟨b1, c1⟩ : ∃ b1, cmpD .eq (.int (z % 4)) (.int 0) = some b1 := ⟨deq (.int (z % 4)) (.int 0), by simp only [cmpD, scalD, Bool.true_or, if_true]⟩
  obtain ⟨b2, -, c2⟩ := eq_sb kd "let"
  unfold yesS
  exists 1, g4, m1, no_index (⟨_, c1, _, rfl, fun h => ?_, fun h => ?_⟩), no_index (⟨_, c2, _, rfl, fun h => ?_, fun h => ?_⟩)
  · exact hnx _ (.tup (fun x hx => by cases List.mem_singleton.mp hx; exact nk_lit (by decide +kernel) (by decide)) (by simp))
  · exact hnx _ hc
  · exact hnx _ hc
def is5 (d : D) : Prop := ∃ a b c e f, d = .tup [a, b, c, e, f]
theorem str_at {xs : List Str} {z : Int} (h0 : 0 ≤ z) (h1 : z < xs.length) : ∃ w ∈ xs, idxD (.lst (xs.map .str)) (.int z) = some (.str w) := by
  obtain ⟨k, rfl⟩ := Int.eq_ofNat_of_zero_le h0
  have hk : k < xs.length := by omega
  exact ⟨xs[k], List.getElem_mem hk, L2.atI_nat (by rw [List.getElem?_map, List.getElem?_eq_getElem hk]; rfl)⟩
theorem rules_ok {T : List Fn} {i iC iU iA : Nat} (hT : T[i]? = some (f__law_rules iC iU)) (hC : T[iC]? = some (f__law_condition iA iC)) (hA : T[iA]? = some f__law_atom) (hU : T[iU]? = some f__law_users) {ts : List Tab} (hts : ∀ t ∈ ts, TabOk t) (h1 : 1 ≤ ts.length) (n : Nat) {ps : List Int} {many : Int} (hm0 : 0 ≤ many) (hm : many ≤ 10) (hl : 36 * many ≤ ps.length) (hb : ∀ x ∈ ps, 0 ≤ x ∧ x < 1000) (S : St') :
    RP (FT T (n + 6) i [.t (.lst (ps.map .int)), .t (.tup (ts.map tabD)), .t (.int many)] S) (fun v S' => S' = S ∧ ∃ rs : List D, v = .t (.lst rs) ∧ rs.length ≤ 10 ∧ ∀ r ∈ rs, Nk 10 6 r ∧ is5 r) noE := by
  refine rp_fn (n := n + 5) hT rfl rfl ?_
  simp only [f__law_rules, pad]
  exists 1
  refine op_range hm0 (fun J ρ S' => ∃ (rs : List D) (k4 k5 k6 k7 k8 k9 k10 k11 k12 : Option SV), ρ = [some (.t (.lst (ps.map .int))), some (.t (.tup (ts.map tabD))), some (.t (.int many)), some (.o S.length), k4, k5, k6, k7, k8, k9, k10, k11, k12] ∧ S' = S ++ [.lst rs] ∧ (rs.length : Int) ≤ J ∧ ∀ r ∈ rs, Nk 10 6 r ∧ is5 r) ⟨[], _, _, _, _, _, _, _, _, _, rfl, rfl, by simp, by simp⟩ ?_ ?_
  · rintro J ρ S' hJ0 hJ1 ⟨rs, k4, k5, k6, k7, k8, k9, k10, k11, k12, rfl, rfl, hrl, hrs⟩
    have m1 : binD .mul (.int 36) (.int J) = some (.int (36 * J)) := by
      simp only [binD]; rw [if_pos (by left; decide)]
    have s1 := slc_ints ps (some (36 * J)) (some (36 * J + 36))
    have el := cutL_len (xs := ps) (a := 36 * J) (b := 36 * J + 36) (by omega) (by omega) (by omega)
    have hbs : ∀ x ∈ cutL ps (some (36 * J)) (some (36 * J + 36)), 0 ≤ x ∧ x < 1000 := fun x hx => hb x (cutL_mem hx)
    generalize cutL ps (some (36 * J)) (some (36 * J + 36)) = ss at *
    have hsl : ss.length = 36 := by omega
    have g0 : idxD (.lst (ss.map .int)) (.int 0) = some (.int (sget ss 0)) := at_int (j := 0) (by omega)
    have g1 : idxD (.lst (ss.map .int)) (.int 1) = some (.int (sget ss 1)) := at_int (j := 1) (by omega)
    have g2 : idxD (.lst (ss.map .int)) (.int 2) = some (.int (sget ss 2)) := at_int (j := 2) (by omega)
    have g3 : idxD (.lst (ss.map .int)) (.int 3) = some (.int (sget ss 3)) := at_int (j := 3) (by omega)
    have md : ∀ (z c : Int), 0 < c → binD .mod (.int z) (.int c) = some (.int (z % c)) := fun z c hc => by
      simp only [binD]; rw [if_pos hc]
    obtain ⟨vb, hvb, e6⟩ := str_at (xs := ["read", "read", "put", "drop"]) (z := sget ss 0 % 4) (Int.emod_nonneg _ (by omega)) (Int.emod_lt_of_pos _ (by decide))
    obtain ⟨kd, hkd, e7⟩ := str_at (xs := ["let", "let", "must"]) (z := sget ss 1 % 3) (Int.emod_nonneg _ (by omega)) (Int.emod_lt_of_pos _ (by decide))
    have nvb : ∀ {k : Nat}, Nk 10 k (.str vb) := fun {k} => by
      simp only [List.mem_cons, List.not_mem_nil, or_false] at hvb
      rcases hvb with rfl | rfl | rfl | rfl <;> exact nk_lit (by decide +kernel) (by decide)
    have nkd : ∀ {k : Nat}, Nk 10 k (.str kd) := fun {k} => by
      simp only [List.mem_cons, List.not_mem_nil, or_false] at hkd
      rcases hkd with rfl | rfl | rfl <;> exact nk_lit (by decide +kernel) (by decide)
    obtain ⟨t, ht, et⟩ := tab_at h1 (sget ss 2)
    have hlt := len_tab ts
    have tok := hts t ht
    have mT : binD .mod (.int (sget ss 2)) (.int (ts.length : Nat)) = some (.int (sget ss 2 % (ts.length : Nat))) := mod_ok h1
    have t0 : idxD (tabD t) (.int 0) = some (.str t.name) := at0 _ _
    have t2 : idxD (tabD t) (.int 2) = some (.tup (t.cols.map colD)) := at2 _ _ _ _
    have ncD := tab_colsD tok
    have m0 := md (sget ss 0) 4 (by omega)
    have m1' := md (sget ss 1) 3 (by omega)
    have m3 := md (sget ss 3) 4 (by omega)
    have hp0 : 0 ≤ sget ss 3 % 4 ∧ sget ss 3 % 4 < 4 := ⟨Int.emod_nonneg _ (by omega), Int.emod_lt_of_pos _ (by omega)⟩
    obtain ⟨p, hp⟩ : ∃ p : Nat, sget ss 3 % 4 = (p : Int) := ⟨_, (Int.toNat_of_nonneg hp0.1).symm⟩
    rw [hp] at m3 hp0
    have a3 : binD .add (.int 1) (.int (p : Int)) = some (.int ((p + 1 : Nat) : Int)) := by
      simp only [binD]; congr 2; omega
    have s12 : slcD (.lst (ss.map .int)) (some 12) none = some (.lst ((ss.drop 12).map .int)) := ints_of (by omega)
    have s5 : slcD (.lst (ss.map .int)) (some 5) none = some (.lst ((ss.drop 5).map .int)) := ints_of (by omega)
    generalize sget ss 0 % 4 = z0 at *
    generalize sget ss 1 % 3 = z1 at *
    generalize sget ss 2 % (ts.length : Nat) = z2 at *
    refine ⟨_, rfl, ?_⟩
    exists 1, m1, s1, g0, m0, e6, g1, m1', e7, g2, hlt, mT, et, t2
    refine rp_lcM (ys := t.cols) colD (fun c => .str c.name) (by have := tok.len4; omega) (fun c hc acc => ?_) ?_
    · refine ⟨_, rfl, ?_⟩
      exists 1, col_at0 (colB_colD (tok.cols.each c hc))
    · have en : (t.cols.map fun c => D.str c.name) = (colNames t).map .str := by unfold colNames; rw [List.map_map]; rfl
      rw [en]
      exists 1, s12, g3, m3, a3
      have hcd := lcond_ok hC hA hts h1 (p + 1) (p + 1) (by omega) (by omega) (by omega) (n + 5 - (p + 1) - 1) (ss.drop 12) (by rw [List.length_drop]; omega) _ _ ncD "mh" (by decide +kernel) (S ++ [.lst rs])
      rw [show n + 5 - (p + 1) - 1 + (p + 1) + 1 = n + 5 by omega] at hcd
      refine RP.of_no hcd fun v S1 ⟨e1, cd, e2, hcdn⟩ => ?_
      subst e1; subst e2
      refine op_norm (by simp only [List.set_cons_succ, List.set_cons_zero]; rfl) (op_cons (yes_ok (by omega) (hcdn.mono (by omega) (by omega)) fun cd hcd => ?_))
      exists 1, t0, s5
      refine RP.of_no (users_ok hU (n + 4) (ps := ss.drop 5) (by rw [List.length_drop]; omega) (by rw [List.length_drop]; omega) (fun x hx => hbs x (List.mem_of_mem_drop hx)) _) fun v S1 ⟨e1, us, e2, hus⟩ => ?_
      subst e1; subst e2
      have hrule : Nk 10 6 (.tup [.str vb, .str kd, .str t.name, us, cd]) := nk5 nvb nkd (.nm tok.name) (hus.mono (by omega) (by omega)) (hcd.mono (by omega) (by omega))
      have h5 : is5 (.tup [.str vb, .str kd, .str t.name, us, cd]) := ⟨_, _, _, _, _, rfl⟩
      have o1 : okD (.tup [.str vb, .str kd, .str t.name, us, cd]) = true := hrule.ok.okD (by omega)
      have o2 : okD (.lst rs) = true := (Ok.lst (k := 6) fun x hx => (hrs x hx).1.ok).okD (by omega)
      obtain ⟨b9, c9⟩ : ∃ b9, cmp2' .notin (S ++ [.lst rs]) (.t (.tup [.str vb, .str kd, .str t.name, us, cd])) (.o S.length) = some b9 := by
        refine ⟨!(rs.any fun z => deq z (.tup [.str vb, .str kd, .str t.name, us, cd])), ?_⟩
        simp only [cmp2', peek, st_get, Option.bind_some, cmpD, inD, o1, o2, Bool.and_self, if_true, Option.map_some]
      exists 1, no_index (⟨_, c9, _, rfl, fun h => ?_, fun h => ?_⟩)
      · refine ⟨rs ++ [.tup [.str vb, .str kd, .str t.name, us, cd]], _, _, _, _, _, _, _, _, _, rfl, rfl, by rw [List.length_append]; simp; omega, fun r hr => ?_⟩
        rcases List.mem_append.mp hr with z | z
        · exact hrs r z
        · rw [List.mem_singleton.mp z]; exact ⟨hrule, h5⟩
      · exact ⟨rs, _, _, _, _, _, _, _, _, _, rfl, rfl, by omega, hrs⟩
  · rintro ρ S' ⟨rs, k4, k5, k6, k7, k8, k9, k10, k11, k12, rfl, rfl, hrl, hrs⟩
    exists 1
    exact ⟨by omega, hrs⟩
end M

/-! k14: the law -/
namespace M
open PySem PySem.Spec PyProof.Rows L2
theorem Nk.col {c : Col} (h : ColOk c) : Nk 10 1 (colD c) := .tup (fun x hx => by
  simp only [List.mem_cons, List.not_mem_nil, or_false] at hx
  rcases hx with rfl | rfl | rfl
  · exact .nm h.name
  · exact .int _
  · exact .bl _) (by simp)
theorem Nk.tab {t : Tab} (h : TabOk t) : Nk 10 3 (tabD t) := .tup (fun x hx => by
  simp only [List.mem_cons, List.not_mem_nil, or_false] at hx
  rcases hx with rfl | rfl | rfl
  · exact .nm h.name
  · exact .int _
  · refine .tup (fun y hy => ?_) (by rw [List.length_map]; have := h.len4; omega)
    obtain ⟨c, hc, rfl⟩ := List.mem_map.mp hy
    exact .col (h.cols.each c hc)) (by simp)
theorem Nk.ground {ts : List Tab} (h : ∀ t ∈ ts, TabOk t) (h4 : ts.length ≤ 4) : Nk 10 4 (.tup (ts.map tabD)) := .tup (fun y hy => by
  obtain ⟨t, ht, rfl⟩ := List.mem_map.mp hy
  exact .tab (h t ht)) (by rw [List.length_map]; omega)
structure SetOk (d : D) (ts : List Tab) (rs : List D) : Prop where
  shape : d = .tup [.tup (ts.map tabD), .lst rs, .lst []]
  each : ∀ t ∈ ts, TabOk t
  len1 : 1 ≤ ts.length
  len4 : ts.length ≤ 4
  rl : rs.length ≤ 10
  rules : ∀ r ∈ rs, Nk 10 6 r ∧ is5 r
theorem rule_setting_ok {T : List Fn} {i iG iD iR iCl iN iC iU iA : Nat} (hT : T[i]? = some (f__law_rule_setting iG iD iR)) (hG : T[iG]? = some (f__law_ground iCl iN)) (hCl : T[iCl]? = some (f__law_columns iN)) (hN : T[iN]? = some f__law_name) (hD : T[iD]? = some f__law_draws) (hR : T[iR]? = some (f__law_rules iC iU)) (hC : T[iC]? = some (f__law_condition iA iC)) (hA : T[iA]? = some f__law_atom) (hU : T[iU]? = some f__law_users)
    (n : Nat) (a b : Int) (S : St') : RP (FT T (n + 7) i [.t (.lst [.int a, .int b]), .t (.int 200), .t (.int 10)] S) (fun v S' => S' = S ∧ ∃ d ts rs, v = .t d ∧ SetOk d ts rs) noE := by
  refine rp_fn (n := n + 6) hT rfl rfl ?_
  simp only [f__law_rule_setting, pad]
  have i0 : idxD (.lst [.int a, .int b]) (.int 0) = some (.int a) := at0 _ _
  have i1 : idxD (.lst [.int a, .int b]) (.int 1) = some (.int b) := at1 _ _ _
  exists 1, i0
  refine RP.of_no (draws_ok hD (n + 5) (a + 1) 150 1000 (by omega) (by omega) _) fun v S1 ⟨e1, ps, e2, hpl, hpb⟩ => ?_
  subst e1; subst e2
  have hpl : ps.length = 150 := hpl
  exists 1
  refine RP.of_no (ground_ok hG hCl hN (n + 3) ps 200 (by omega) hpb (by omega) _) fun v S1 ⟨e1, us, e2, hus⟩ => ?_
  subst e1; subst e2
  have hg := sorted_ground hus
  generalize us.mergeSort tabLe = ts at hg
  have m1 : binD .mul (.int 36) (.int 10) = some (.int 360) := by
    simp only [binD]; rw [if_pos (by left; decide)]; rfl
  exists 1, i1, m1
  refine RP.of_no (draws_ok hD (n + 5) (b + 2) 361 1000 (by omega) (by omega) _) fun v S1 ⟨e1, qs, e2, hql, hqb⟩ => ?_
  subst e1; subst e2
  have hql : qs.length = 361 := hql
  have s1 : slcD (.lst (qs.map .int)) (some 1) none = some (.lst ((qs.drop 1).map .int)) := ints_of (by omega)
  have g0 : idxD (.lst (qs.map .int)) (.int 0) = some (.int (sget qs 0)) := at_int (j := 0) (by omega)
  have m2 : binD .mod (.int (sget qs 0)) (.int 11) = some (.int (sget qs 0 % 11)) := by
    simp only [binD]; rw [if_pos (by omega)]
  have hm0 := Int.emod_nonneg (sget qs 0) (b := 11) (by omega)
  have hm1 := Int.emod_lt_of_pos (sget qs 0) (b := 11) (by omega)
  generalize sget qs 0 % 11 = many at *
  exists 1, s1, g0, m2
  refine RP.of_no (rules_ok hR hC hA hU hg.each hg.len1 n (ps := qs.drop 1) hm0 (by omega) (by rw [List.length_drop]; omega) (fun x hx => hqb x (List.mem_of_mem_drop hx)) _) fun v S1 ⟨e1, rs, e2, hrl, hrs⟩ => ?_
  subst e1; subst e2
  exists 1
  exact ⟨_, ts, rs, rfl, rfl, hg.each, hg.len1, hg.len4, hrl, hrs⟩
theorem spl_setting {d : D} {ts : List Tab} {rs : List D} (h : SetOk d ts rs) : Nk 10 8 d ∧ (∀ d', Spl d d' → Good d') ∧ ∀ d' d'', Spl d d' → Spl d' d'' → Good d'' := by
  have hr : okv (.lst rs) = true := by
    simp only [okv, List.all_eq_true]
    intro r hr
    obtain ⟨a, b, c, e, f, rfl⟩ := (h.rules r hr).2
    rfl
  have hn : Nk 10 8 d := by
    rw [h.shape]
    refine .tup (fun x hx => ?_) (by simp)
    simp only [List.mem_cons, List.not_mem_nil, or_false] at hx
    rcases hx with rfl | rfl | rfl
    · exact (Nk.ground h.each h.len4).mono (by omega) (by omega)
    · exact .lst (fun y hy => ((h.rules y hy).1).mono (by omega) (by omega)) h.rl
    · exact .lst (fun y hy => absurd hy (by simp)) (by simp)
  refine ⟨hn, fun d' hs => ?_, fun d' d'' hs hs2 => ?_⟩
  · rw [h.shape] at hs
    exact good_once (g := .tup (ts.map tabD)) (rs := .lst rs) rfl hr rfl (fun _ z => by cases z) hs
  · rw [h.shape] at hs
    exact good_twice (g := .tup (ts.map tabD)) (rs := .lst rs) rfl hr rfl (fun _ z => by cases z) hs hs2
theorem addT {xs ys : List D} (h : xs.length + ys.length ≤ 1000) : binD .add (.tup xs) (.tup ys) = some (.tup (xs ++ ys)) := by
  have : xs.length + ys.length ≤ sizeLine := le_sz' (by omega)
  simp only [binD, this, if_true]
theorem addL {xs ys : List D} (h : xs.length + ys.length ≤ 1000) : binD .add (.lst xs) (.lst ys) = some (.lst (xs ++ ys)) := by
  have : xs.length + ys.length ≤ sizeLine := le_sz' (by omega)
  simp only [binD, this, if_true]
theorem nkT3 {b k : Nat} {x y z : D} (hb : 3 ≤ b) (hx : Nk b k x) (hy : Nk b k y) (hz : Nk b k z) : Nk b (k + 1) (.tup [x, y, z]) := .tup (fun w hw => by
  simp only [List.mem_cons, List.not_mem_nil, or_false] at hw
  rcases hw with rfl | rfl | rfl
  · exact hx
  · exact hy
  · exact hz) (by simpa using hb)
theorem nkE {b k : Nat} : Nk b (k + 1) (.lst []) := .lst (fun w hw => absurd hw (by simp)) (by simp)
theorem nkE' {b k : Nat} : Nk b (k + 1) (.tup []) := .tup (fun w hw => absurd hw (by simp)) (by simp)
theorem good_nil {g r v : D} (h : okv v = true) : Good (.tup [g, r, v]) := fun a b c e _ => by cases e; exact h
theorem good_lst {xs : List D} : Good (.lst xs) := fun a b c e _ => by cases e
theorem good_odd {o : D} (h : o ∈ ODD) : Good o := fun a b c e _ => by
  subst e
  have := (odd_f h).2.2.1
  simp [sizeD] at this
namespace k14
/-- law(script): 0 script, 1 at, 2 cell, 3 picks, 4 setting, 5 ground, 6 rules, 7 views, 8 once, 9 names, 10 condition, 11 users, 12 rule, 13 things, 14 one, 15 thing, 16 column, 17 pick -/
def f_law (i__law_cell_at i__law_draws i__law_rule_setting i__law_cells i__law_spoilt i__law_condition i__law_odd i_is_setting i__law_is_setting : Nat) : Fn := ⟨1, 18,
  [(.for_ (.tp [1, 2]) (.enum (.bin .add (.lst [(.call i__law_cell_at [(.var 0), (.lit (D.int 0))])]) (.slc (.var 0) [(.lit (D.int 1))] [(.lit (D.int 6))]))) [(.asg (.v 3) (.call i__law_draws [(.var 2), (.lit (D.int 300)), (.lit (D.int 1000))])),
  (.asg (.v 4) (.call i__law_rule_setting [(.call i__law_cells [(.var 0), (.var 1), (.lit (D.int 2))]), (.lit (D.int 200)), (.lit (D.int 10))])),
  (.asg (.tp [5, 6, 7]) (.var 4)),
  (.asg (.v 8) (.call i__law_spoilt [(.var 4), (.var 3)])),
  (.asg (.v 9) (.lc (.v 16) (.of (.idx (.idx (.var 5) (.lit (D.int 0))) (.lit (D.int 2)))) [] (.idx (.var 16) (.lit (D.int 0))))),
  (.asg (.v 10) (.call i__law_condition [(.slc (.var 3) [(.lit (D.int 60))] []), (.bin .add (.lit (D.int 1)) (.bin .mod (.idx (.var 3) (.lit (D.int 50))) (.lit (D.int 9)))), (.var 5), (.var 9), (.lit (D.str "lmh"))])),
  (.asg (.v 11) (.bi .tuple [(.lc (.v 17) (.of (.slc (.var 3) [(.lit (D.int 52))] [(.bin .add (.lit (D.int 52)) (.bin .mod (.idx (.var 3) (.lit (D.int 51))) (.lit (D.int 6))))])) [] (.bin .mod (.var 17) (.lit (D.int 10))))])),
  (.asg (.v 12) (.tup [(.idx (.lst [(.lit (D.str "read")), (.lit (D.str "put")), (.lit (D.str "drop"))]) (.bin .mod (.idx (.var 3) (.lit (D.int 58))) (.lit (D.int 3)))), (.lit (D.str "let")), (.idx (.idx (.var 5) (.lit (D.int 0))) (.lit (D.int 0))), (.tup []), (.var 10)])),
  (.asg (.v 13) (.lst [(.var 4), (.var 8), (.call i__law_spoilt [(.var 8), (.slc (.var 3) [(.lit (D.int 44))] [])]), (.tup [(.var 5), (.bin .add (.var 6) (.slc (.var 6) [] [(.lit (D.int 1))])), (.var 7)])])),
  (.for_ (.v 14) (.of (.lst [(.var 12), (.bin .add (.bin .add (.slc (.var 12) [] [(.lit (D.int 3))]) (.tup [(.var 11)])) (.slc (.var 12) [(.lit (D.int 4))] [])), (.bin .add (.bin .add (.slc (.var 12) [] [(.lit (D.int 3))]) (.tup [(.bi .tuple [(.fz .sortseti [(.var 11)])])])) (.slc (.var 12) [(.lit (D.int 4))] []))])) [(.asg (.v 13) (.bin .add (.var 13) (.lst [(.tup [(.var 5), (.bin .add (.var 6) (.lst [(.var 14)])), (.lst [])]), (.tup [(.var 5), (.lst [(.var 14)]), (.lst [])]), (.tup [(.var 5), (.bin .add (.lst [(.var 14)]) (.rev (.var 6))), (.tup [])])])))]),
  (.for_ (.v 15) (.of (.bin .add (.var 13) (.lst [(.tup [(.var 5), (.bi .tuple [(.var 6)]), (.lst [])]), (.bi .list [(.var 4)]), (.call i__law_odd [(.slc (.var 3) [(.lit (D.int 290))] [])])]))) [(.ife (.cmp .ne (.bi .repr [(.call i_is_setting [(.var 15)])]) (.bi .repr [(.call i__law_is_setting [(.var 15)])])) [(.ret (.lit (D.bl false)))] [])])]),
  (.ret (.lit (D.bl true)))]⟩
/-- both words are one -/
structure Both (T : List Fn) (iIS iLS : Nat) (d : D) (B : Bool) : Prop where
  one : ∀ S, RP (FT T 49 iIS [.t d] S) (Is S (.bl B)) noE
  two : ∀ S, RP (FT T 49 iLS [.t d] S) (Is S (.bl B)) noE
theorem law_ok {T : List Fn} {i iA iD iRS iCs iSp iC iO iIS iLS iGr iCl iN iR iU iAt iG iTb iAn iNm iNo iCo iF iW iAV iV iAR iRu iTo iCn iAu iHw iUs iPo iWi iS iH iP iLG iLT iLC iLN iLF iLR iLV iLO iLI iLU iLW iLS2 : Nat}
    (hT : T[i]? = some (f_law iA iD iRS iCs iSp iC iO iIS iLS)) (hA : T[iA]? = some f__law_cell_at) (hD : T[iD]? = some f__law_draws) (hRS : T[iRS]? = some (f__law_rule_setting iGr iD iR)) (hCs : T[iCs]? = some (f__law_cells iA)) (hSp : T[iSp]? = some (f__law_spoilt iO iSp)) (hC : T[iC]? = some (f__law_condition iAt iC)) (hO : T[iO]? = some f__law_odd)
    (hGr : T[iGr]? = some (f__law_ground iCl iN)) (hCl : T[iCl]? = some (f__law_columns iN)) (hN : T[iN]? = some f__law_name) (hR : T[iR]? = some (f__law_rules iC iU)) (hU : T[iU]? = some f__law_users) (hAt : T[iAt]? = some f__law_atom)
    (hIS : T[iIS]? = some (f_is_setting iG iAV iAR)) (hG : T[iG]? = some (f_is_ground iTb)) (hTb : T[iTb]? = some (f_is_table iNm iAn iNo iCo iF)) (hNm : T[iNm]? = some f_is_name) (hAn : T[iAn]? = some (f_are_names iNm)) (hNo : T[iNo]? = some f_names_of) (hCo : T[iCo]? = some (f_is_column iF iNm)) (hF : T[iF]? = some (f_is_from iW)) (hW : T[iW]? = some f_is_whole)
    (hAV : T[iAV]? = some (f_are_views iV)) (hV : T[iV]? = some (f_is_view iNm)) (hAR : T[iAR]? = some (f_are_rules iRu)) (hRu : T[iRu]? = some (f_is_rule iTo iCn iNo iAu iHw)) (hTo : T[iTo]? = some f_table_of) (hCn : T[iCn]? = some (f_is_condition iPo iS)) (hAu : T[iAu]? = some (f_are_users iUs)) (hUs : T[iUs]? = some (f_is_user iF)) (hHw : T[iHw]? = some (f_has_word iWi iHw)) (hPo : T[iPo]? = some (f_parts_of iWi iPo)) (hWi : T[iWi]? = some f_within) (hS : T[iS]? = some (f_sound iH iP)) (hH : T[iH]? = some (f_sound_has iTo iNo iS)) (hP : T[iP]? = some (f_part_fits iS iF))
    (hLS : T[iLS]? = some (f__law_is_setting iLG iLR iLV)) (hLG : T[iLG]? = some (f__law_is_ground iLF iLT)) (hLT : T[iLT]? = some (f__law_is_table iLF iLN iLC)) (hLF : T[iLF]? = some f__law_from) (hLN : T[iLN]? = some f__law_is_name) (hLC : T[iLC]? = some (f__law_is_column iLF iLN)) (hLR : T[iLR]? = some (f__law_is_rule iLO iLI iLU iLW)) (hLV : T[iLV]? = some (f__law_view_head iLN)) (hLO : T[iLO]? = some f__law_names_of) (hLI : T[iLI]? = some (f__law_is_condition iLS2)) (hLU : T[iLU]? = some (f__law_are_users iLF)) (hLW : T[iLW]? = some (f__law_within iLW)) (hLS2 : T[iLS2]? = some (f__law_sound iLS2 iLO iLF))
    (ns : List Int) (hn : ns.length ≤ 63) (S : St') :
    RP (FT T 50 i [.t (.lst (ns.map .int))] S) (fun v S' => v = .t (.bl true)) noE := by
  have both : ∀ {d : D}, Nk 12 15 d → Good d → ∃ B, Both T iIS iLS d B := fun {d} hd hg => by
    by_cases hx : ∃ g r v, d = .tup [g, r, v] ∧ groundB g = true
    · obtain ⟨g, r, v, rfl, hgb⟩ := hx
      have ok := hg g r v rfl hgb
      cases hd with
      | tup hx hl =>
        have ng := hx g (by simp)
        have nr := hx r (by simp)
        have nv := hx v (by simp)
        have G1 : ∀ S, RP (FT T 48 iG [.t g] S) (Is S (.bl true)) noE := fun S => by
          have := is_ground_ok hG hTb hW hF hNm hAn hNo hCo 43 ng.nc (by omega) S
          rwa [hgb] at this
        have G2 : ∀ S, RP (FT T 48 iLG [.t g] S) (Is S (.bl true)) noE := fun S => by
          have := lis_ground_ok hLG hLT hLF hLN hLC 44 ng.nc (by omega) S
          rwa [hgb] at this
        obtain ⟨ts, rfl, hts, h1, h4⟩ := ground_typed hgb
        refine ⟨rulesB ts 12 r && noVs v, fun S => ?_, fun S => ?_⟩
        · refine is_setting_t (b := 12) hIS 48 G1 (fun S => ?_) (fun S => are_views_ok hAV hV 46 nv (by omega) ok S) S
          exact are_rules_ok (k := 12) (by omega) (by omega) hAR 47 (fun d hd S => is_rule_ok (k := 12) (by omega) (by omega) hts hRu hTo hCn hNo hAu hHw hUs hF hW hPo hWi hS hH hP 18 hd S) nr S
        · exact lis_setting_t (k := 12) (by omega) (by omega) hLS hLV 47 G2 (fun d hd S => lis_rule_ok (k := 12) (by omega) (by omega) hts hLR hLO hLI hLU hLW hLS2 hLF 33 hd S) nr nv ok S
    · have hno : ∀ g r v, d = .tup [g, r, v] → groundB g = false := fun g r v e => by
        cases hq : groundB g with
        | false => rfl
        | true => exact absurd ⟨g, r, v, e, hq⟩ hx
      exact ⟨false, fun S => is_setting_f (b := 12) hIS 48 (fun d hd S => is_ground_ok hG hTb hW hF hNm hAn hNo hCo 43 hd (by omega) S) hd hno S, fun S => lis_setting_f (b := 12) hLS 48 (fun d hd S => lis_ground_ok hLG hLT hLF hLN hLC 44 hd (by omega) S) hd hno S⟩
  refine rp_fn hT rfl rfl ?_
  simp only [f_law, pad]
  obtain ⟨c, hc⟩ := cell_at_ok hA 48 ns S
  have g1 : slcD (.lst (ns.map .int)) (some 1) (some 6) = some (.lst ((cutL ns (some 1) (some 6)).map .int)) := slc_ints _ _ _
  have hcl := cutL_le ns (some 1) (some 6)
  have ha : [D.int c].length + ((cutL ns (some 1) (some 6)).map D.int).length ≤ sizeLine := le_sz' (by simp; omega)
  exists 1, g1, if_pos ha, no_index (RP.eq hc ?_)
  rw [show enumD ([D.int c] ++ (cutL ns (some 1) (some 6)).map D.int) = ((c :: cutL ns (some 1) (some 6)).zipIdx).map fun p => D.tup [.int (p.2 : Nat), .int p.1] from enumD_map D.int (c :: cutL ns (some 1) (some 6))]
  refine op_fixM (ys := (c :: cutL ns (some 1) (some 6)).zipIdx) (fun p => D.tup [.int (p.2 : Nat), .int p.1]) (fun rest ρ S' => ∃ k1 k2 k3 k4 k5 k6 k7 k8 k9 k10 k11 k12 k13 k14 k15 k16 k17, ρ = [some (.t (.lst (ns.map .int))), k1, k2, k3, k4, k5, k6, k7, k8, k9, k10, k11, k12, k13, k14, k15, k16, k17] ∧ S' = S) ⟨_, _, _, _, _, _, _, _, _, _, _, _, _, _, _, _, _, rfl, rfl⟩ ?_ ?_
  · rintro ⟨x, j⟩ rest ρ S' ⟨k1, k2, k3, k4, k5, k6, k7, k8, k9, k10, k11, k12, k13, k14, k15, k16, k17, rfl, rfl⟩
    refine ⟨_, rfl, ?_⟩
    exists 1
    refine RP.of_no (draws_ok hD 48 x 300 1000 (by omega) (by omega) _) fun v S1 ⟨e1, ps, e2, hpl, hpb⟩ => ?_
    subst e1; subst e2
    have hpl : ps.length = 300 := hpl
    exists 1
    refine RP.of_no (cells_ok hCs hA 47 ns (j := (j : Int)) (by omega) _) fun v S1 ⟨e1, a, b, e2⟩ => ?_
    subst e1; subst e2
    exists 1
    refine RP.of_no (rule_setting_ok hRS hGr hCl hN hD hR hC hAt hU 42 a b _) fun v S1 ⟨e1, st, ts, rs, e2, hst⟩ => ?_
    subst e1; subst e2
    obtain ⟨nst, go1, go2⟩ := spl_setting hst
    have hsh := hst.shape
    have hts := hst.each
    have ht1 := hst.len1
    have ht4 := hst.len4
    have hrl := hst.rl
    have hrs := hst.rules
    have ng := Nk.ground hts ht4
    subst hsh
    exists 1
    refine RP.of_no (spoilt_rel hSp hO (b := 10) (by omega) (by omega) 8 ps (by omega) hpb 39 _ nst _) fun v S1 ⟨e1, d1, e2, hd1, sp1⟩ => ?_
    subst e1; subst e2
    obtain ⟨t, tl, htl⟩ : ∃ t tl, ts = t :: tl := by
      cases ts with
      | nil => simp at ht1
      | cons t tl => exact ⟨t, tl, rfl⟩
    have tok : TabOk t := hts t (by rw [htl]; simp)
    have i0 : idxD (.tup (ts.map tabD)) (.int 0) = some (tabD t) := by rw [htl]; exact at0 _ _
    have t0 : idxD (tabD t) (.int 0) = some (.str t.name) := at0 _ _
    have t2 : idxD (tabD t) (.int 2) = some (.tup (t.cols.map colD)) := at2 _ _ _ _
    exists 1, i0, t2
    refine rp_lcM (ys := t.cols) colD (fun c => .str c.name) (by have := tok.len4; omega) (fun c hc acc => ?_) ?_
    · refine ⟨_, rfl, ?_⟩
      exists 1, col_at0 (colB_colD (tok.cols.each c hc))
    have en : (t.cols.map fun c => D.str c.name) = (colNames t).map .str := by unfold colNames; rw [List.map_map]; rfl
    rw [en]
    have s60 : slcD (.lst (ps.map .int)) (some 60) none = some (.lst ((ps.drop 60).map .int)) := ints_of (by omega)
    have s44 : slcD (.lst (ps.map .int)) (some 44) none = some (.lst ((ps.drop 44).map .int)) := ints_of (by omega)
    have s290 : slcD (.lst (ps.map .int)) (some 290) none = some (.lst ((ps.drop 290).map .int)) := ints_of (by omega)
    have q50 : idxD (.lst (ps.map .int)) (.int 50) = some (.int (sget ps 50)) := at_int (j := 50) (by omega)
    have q51 : idxD (.lst (ps.map .int)) (.int 51) = some (.int (sget ps 51)) := at_int (j := 51) (by omega)
    have q58 : idxD (.lst (ps.map .int)) (.int 58) = some (.int (sget ps 58)) := at_int (j := 58) (by omega)
    have md : ∀ (z c : Int), 0 < c → binD .mod (.int z) (.int c) = some (.int (z % c)) := fun z c hc => by
      simp only [binD]; rw [if_pos hc]
    have m50 := md (sget ps 50) 9 (by omega)
    have m51 := md (sget ps 51) 6 (by omega)
    have m58 := md (sget ps 58) 3 (by omega)
    have h50 : 0 ≤ sget ps 50 % 9 ∧ sget ps 50 % 9 < 9 := ⟨Int.emod_nonneg _ (by omega), Int.emod_lt_of_pos _ (by omega)⟩
    have h51 : 0 ≤ sget ps 51 % 6 ∧ sget ps 51 % 6 < 6 := ⟨Int.emod_nonneg _ (by omega), Int.emod_lt_of_pos _ (by omega)⟩
    obtain ⟨vb, hvb, e58⟩ := str_at (xs := ["read", "put", "drop"]) (z := sget ps 58 % 3) (Int.emod_nonneg _ (by omega)) (Int.emod_lt_of_pos _ (by decide))
    have nvb : ∀ {k : Nat}, Nk 10 k (.str vb) := fun {k} => by
      simp only [List.mem_cons, List.not_mem_nil, or_false] at hvb
      rcases hvb with rfl | rfl | rfl <;> exact nk_lit (by decide +kernel) (by decide)
    obtain ⟨p, hp⟩ : ∃ p : Nat, sget ps 50 % 9 = (p : Int) := ⟨_, (Int.toNat_of_nonneg h50.1).symm⟩
    rw [hp] at m50 h50
    have a3 : binD .add (.int 1) (.int (p : Int)) = some (.int ((p + 1 : Nat) : Int)) := by
      simp only [binD]; congr 2; omega
    have su := slc_ints ps (some 52) (some (52 + sget ps 51 % 6))
    have hcu := cutL_len (xs := ps) (a := 52) (b := 52 + sget ps 51 % 6) (by omega) (by omega) (by omega)
    generalize sget ps 51 % 6 = z51 at *
    generalize sget ps 58 % 3 = z58 at *
    generalize cutL ps (some 52) (some (52 + z51)) = qs at *
    exists 1, s60, q50, m50, a3
    have hcd := lcond_ok hC hAt hts ht1 (p + 1) (p + 1) (by omega) (by omega) (by omega) (49 - (p + 1) - 1) (ps.drop 60) (by rw [List.length_drop]; omega) _ _ (tab_colsD tok) "lmh" (by decide +kernel) S1
    rw [show 49 - (p + 1) - 1 + (p + 1) + 1 = 49 by omega] at hcd
    refine RP.of_no hcd fun v S1 ⟨e1, cd, e2, hcdn⟩ => ?_
    subst e1; subst e2
    exists 1, q51, m51, su
    refine rp_lcM (ys := qs) D.int (fun q => .int (q % 10)) (by omega) (fun q hq acc => ?_) ?_
    · refine ⟨_, rfl, ?_⟩
      exists 1
    rw [show (qs.map fun q => D.int (q % 10)) = (qs.map fun q => q % 10).map D.int by rw [List.map_map]; rfl]
    have hul : (qs.map fun q => q % 10).length ≤ 6 := by simp; omega
    generalize (qs.map fun q => q % 10) = us at *
    exists 1, q58, m58, e58, i0, t0, s44
    refine RP.of_no (spoilt_rel hSp hO (b := 11) (by omega) (by omega) 10 (ps.drop 44) (by rw [List.length_drop]; omega) (fun x hx => hpb x (List.mem_of_mem_drop hx)) 37 _ hd1 _) fun v S1 ⟨e1, d2, e2, hd2, sp2⟩ => ?_
    subst e1; subst e2
    have r1 : slcD (.lst rs) none (some 1) = some (.lst (rs.take 1)) := by
      have := cut_to rs (a := 1) (by omega)
      simp only [slcD, this]
      rfl
    have r2 : binD .add (.lst rs) (.lst (rs.take 1)) = some (.lst (rs ++ rs.take 1)) := addL (by simp; omega)
    have hrul : Nk 10 10 (.tup [.str vb, .str "let", .str t.name, .tup [], .tup cd]) := nk5 nvb (nk_lit (by decide +kernel) (by decide)) (.nm tok.name) nkE' (hcdn.mono (by omega) (by omega))
    have u3 : slcD (.tup [.str vb, .str "let", .str t.name, .tup [], .tup cd]) none (some 3) = some (.tup [.str vb, .str "let", .str t.name]) := rfl
    have u4 : slcD (.tup [.str vb, .str "let", .str t.name, .tup [], .tup cd]) (some 4) none = some (.tup [.tup cd]) := rfl
    have w1 : ∀ y, binD .add (.tup [.str vb, .str "let", .str t.name]) (.tup [y]) = some (.tup [.str vb, .str "let", .str t.name, y]) := fun y => addT (by simp)
    have w2 : ∀ y, binD .add (.tup [.str vb, .str "let", .str t.name, y]) (.tup [.tup cd]) = some (.tup [.str vb, .str "let", .str t.name, y, .tup cd]) := fun y => addT (by simp)
    have es : sortsetiD (.tup (us.map .int)) = some (.lst (((dset us).mergeSort fun a b => decide (a ≤ b)).map D.int)) := by
      simp only [sortsetiD, sqOf, Option.bind_some, ints_k]
      rw [if_pos (by omega)]
    have hdl := dset_le _ us rfl
    have hul2 : ((dset us).mergeSort fun a b => decide (a ≤ b)).length ≤ 6 := by rw [List.length_mergeSort]; omega
    generalize (dset us).mergeSort (fun a b => decide (a ≤ b)) = vs at *
    have rule2 : ∀ ks : List Int, ks.length ≤ 6 → Nk 10 10 (.tup [.str vb, .str "let", .str t.name, .tup (ks.map .int), .tup cd]) := fun ks hk => nk5 nvb (nk_lit (by decide +kernel) (by decide)) (.nm tok.name) ((nk_ints (by omega)).mono (by omega) (by omega)) (hcdn.mono (by omega) (by omega))
    have hr2 := rule2 us hul
    have hr3 := rule2 vs hul2
    exists 1, r1, r2, u3, u4, w1 _, w2 _, es
    have ng' : Nk 12 14 (.tup (ts.map tabD)) := ng.mono (by omega) (by omega)
    have nl : ∀ zs : List D, zs.length ≤ 12 → (∀ z ∈ zs, Nk 10 10 z) → Nk 12 14 (.lst zs) := fun zs h1 h2 => .lst (fun z hz => (h2 z hz).mono (by omega) (by omega)) h1
    have nrs : ∀ r ∈ rs, Nk 10 10 r := fun r hr => (hrs r hr).1.mono (by omega) (by omega)
    generalize hgd : D.tup (ts.map tabD) = gd at *
    have three_ok : ∀ r v, Nk 12 14 r → Nk 12 14 v → okv v = true → Nk 12 15 (.tup [gd, r, v]) ∧ Good (.tup [gd, r, v]) := fun r v hr hv ho => ⟨nkT3 (by omega) ng' hr hv, good_nil ho⟩
    generalize hst0 : D.tup [gd, D.lst rs, D.lst []] = st at *
    refine op_fix (fun l ρ S' => ∃ (tv : List D) (k14 k15 k16 k17 : Option SV), ρ = [some (.t (.lst (ns.map .int))), some (.t (.int (j : Nat))), some (.t (.int x)), some (.t (.lst (ps.map .int))), some (.t st), some (.t gd), some (.t (.lst rs)), some (.t (.lst [])), some (.t d1), some (.t (.lst ((colNames t).map .str))), some (.t (.tup cd)), some (.t (.tup (us.map .int))), some (.t (.tup [.str vb, .str "let", .str t.name, .tup [], .tup cd])), some (.t (.lst tv)), k14, k15, k16, k17] ∧ S' = S1 ∧ tv.length + 3 * l.length ≤ 13 ∧ (∀ d ∈ tv, Nk 12 15 d ∧ Good d) ∧ ∀ r ∈ l, Nk 10 10 r) ⟨_, _, _, _, _, rfl, rfl, by simp, fun d hd => ?_, fun r hr => ?_⟩ ?_ ?_
    · simp only [List.mem_cons, List.not_mem_nil, or_false] at hd
      rcases hd with rfl | rfl | rfl | rfl
      · exact ⟨nst.mono (by omega) (by omega), by rw [← hst0]; exact good_nil rfl⟩
      · exact ⟨hd1.mono (by omega) (by omega), go1 _ sp1⟩
      · exact ⟨hd2.mono (by omega) (by omega), go2 _ _ sp1 sp2⟩
      · refine three_ok _ _ (nl _ (by simp; omega) fun z hz => ?_) nkE rfl
        rcases List.mem_append.mp hz with h | h
        · exact nrs z h
        · exact nrs z (List.mem_of_mem_take h)
    · simp only [List.mem_cons, List.not_mem_nil, or_false] at hr
      rcases hr with rfl | rfl | rfl
      · exact hrul
      · exact hr2
      · exact hr3
    · rintro y l ρ S' ⟨tv, k14, k15, k16, k17, rfl, rfl, htv, hgood, hl⟩
      have hy := hl y (by simp)
      simp only [List.length_cons] at htv
      have n1 : binD .add (.lst rs) (.lst [y]) = some (.lst (rs ++ [y])) := addL (by simp; omega)
      have n2 : binD .add (.lst [y]) (.lst rs.reverse) = some (.lst ([y] ++ rs.reverse)) := addL (by simp; omega)
      have n3 : binD .add (.lst tv) (.lst [.tup [gd, .lst (rs ++ [y]), .lst []], .tup [gd, .lst [y], .lst []], .tup [gd, .lst ([y] ++ rs.reverse), .tup []]]) = some (.lst (tv ++ [.tup [gd, .lst (rs ++ [y]), .lst []], .tup [gd, .lst [y], .lst []], .tup [gd, .lst ([y] ++ rs.reverse), .tup []]])) := addL (by simp; omega)
      refine ⟨_, rfl, ?_⟩
      exists 1, n1, n2, n3
      refine ⟨_, _, _, _, _, rfl, rfl, by simp; omega, fun d hd => ?_, fun r hr => hl r (List.mem_cons_of_mem _ hr)⟩
      rcases List.mem_append.mp hd with h | h
      · exact hgood d h
      · simp only [List.mem_cons, List.not_mem_nil, or_false] at h
        rcases h with rfl | rfl | rfl
        · refine three_ok _ _ (nl _ (by simp; omega) fun z hz => ?_) nkE rfl
          rcases List.mem_append.mp hz with h | h
          · exact nrs z h
          · rw [List.mem_singleton.mp h]; exact hy
        · exact three_ok _ _ (nl _ (by simp) fun z hz => by rw [List.mem_singleton.mp hz]; exact hy) nkE rfl
        · refine three_ok _ _ (nl _ (by simp; omega) fun z hz => ?_) nkE' rfl
          rcases List.mem_append.mp hz with h | h
          · rw [List.mem_singleton.mp h]; exact hy
          · exact nrs z (List.mem_reverse.mp h)
    · rintro ρ S' ⟨tv, k14, k15, k16, k17, rfl, rfl, htv, hgood, hl⟩
      have i01 : biD .list [st] = some (.lst [gd, .lst rs, .lst []]) := by rw [← hst0]; rfl
      exists 1, s290, i01
      refine RP.of_no (odd_in hO 48 (ps.drop 290) (by rw [List.length_drop]; omega) (fun x hx => hpb x (List.mem_of_mem_drop hx)) _) fun v S1 ⟨e1, d4, e2, hd4, hod⟩ => ?_
      subst e1; subst e2
      have n4 : binD .add (.lst tv) (.lst [.tup [gd, .tup rs, .lst []], .lst [gd, .lst rs, .lst []], d4]) = some (.lst (tv ++ [.tup [gd, .tup rs, .lst []], .lst [gd, .lst rs, .lst []], d4])) := addL (by simp at *; omega)
      exists 1, n4
      refine op_fix (fun l ρ S' => ∃ (k15 : Option SV), ρ = [some (.t (.lst (ns.map .int))), some (.t (.int (j : Nat))), some (.t (.int x)), some (.t (.lst (ps.map .int))), some (.t st), some (.t gd), some (.t (.lst rs)), some (.t (.lst [])), some (.t d1), some (.t (.lst ((colNames t).map .str))), some (.t (.tup cd)), some (.t (.tup (us.map .int))), some (.t (.tup [.str vb, .str "let", .str t.name, .tup [], .tup cd])), some (.t (.lst tv)), k14, k15, k16, k17] ∧ S' = S1 ∧ ∀ d ∈ l, Nk 12 15 d ∧ Good d) ⟨_, rfl, rfl, fun d hd => ?_⟩ ?_ ?_
      · rcases List.mem_append.mp hd with h | h
        · exact hgood d h
        · simp only [List.mem_cons, List.not_mem_nil, or_false] at h
          rcases h with rfl | rfl | rfl
          · exact three_ok _ _ (.tup (fun z hz => (nrs z hz).mono (by omega) (by omega)) (by omega)) nkE rfl
          · refine ⟨.lst (fun z hz => ?_) (by simp), good_lst⟩
            simp only [List.mem_cons, List.not_mem_nil, or_false] at hz
            rcases hz with rfl | rfl | rfl
            · exact ng'
            · exact nl rs (by omega) nrs
            · exact nkE
          · exact ⟨hd4.mono (by omega) (by omega), good_odd hod⟩
      · rintro d ds ρ S' ⟨k15, rfl, rfl, hds⟩
        obtain ⟨nd, gd'⟩ := hds d List.mem_cons_self
        obtain ⟨B, hB⟩ := both nd gd'
        refine ⟨_, rfl, ?_⟩
        exists 1
        refine RP.of_no (hB.one _) fun v S1 ⟨e1, e2⟩ => ?_
        subst e1; subst e2
        exists 1
        refine RP.of_no (hB.two _) fun v S1 ⟨e1, e2⟩ => ?_
        subst e1; subst e2
        exists 1
        · rw [deq, beq_self_eq_true] at h; cases h
        · exact fun e he => hds e (List.mem_cons_of_mem _ he)
      · rintro ρ S' ⟨k15, rfl, rfl, hds⟩
        exists 1
        exact ⟨_, _, _, _, _, _, _, _, _, _, _, _, _, _, _, _, _, rfl, rfl⟩
  · rintro ρ S' ⟨k1, k2, k3, k4, k5, k6, k7, k8, k9, k10, k11, k12, k13, k14, k15, k16, k17, rfl, rfl⟩
    exists 1
end k14
end M

namespace M
open PySem PySem.Spec PyProof.Rows L2
namespace k14
theorem cb_Rules : CnBn cn_Rules := fun _ _ _ _ _ _ us hl => match us, hl with | [_, _, _, _], _ => rfl
def cs : List (Str × D) := [("KEPT_WORDS", c_KEPT_WORDS), ("LETTERS", c_LETTERS), ("MOST_PARTS", c_MOST_PARTS), ("MOST_RULES", c_MOST_RULES), ("MOST_USER", c_MOST_USER), ("MOST_VIEWS", c_MOST_VIEWS)]
def e_is_whole : En := ⟨d_is_whole, ⟨"is_whole", ["thing"]⟩, ["thing"], f_is_whole⟩
theorem b_is_whole : BnOk e_is_whole := fun _ _ _ _ _ _ us hl => match us, hl with | [_], _ => rfl
def e_is_from : En := ⟨d_is_from, ⟨"is_from", ["thing", "least", "most"]⟩, ["thing", "least", "most"], (f_is_from 0)⟩
theorem b_is_from : BnOk e_is_from := fun _ _ _ _ _ _ us hl => match us, hl with | [_, _, _], _ => rfl
def e_is_name : En := ⟨d_is_name, ⟨"is_name", ["thing"]⟩, ["thing", "sign"], f_is_name⟩
theorem b_is_name : BnOk e_is_name := fun _ _ _ _ _ _ us hl => match us, hl with | [_], _ => rfl
def e_are_names : En := ⟨d_are_names, ⟨"are_names", ["thing"]⟩, ["thing", "name"], (f_are_names 2)⟩
theorem b_are_names : BnOk e_are_names := fun _ _ _ _ _ _ us hl => match us, hl with | [_], _ => rfl
def e_is_column : En := ⟨d_is_column, ⟨"is_column", ["thing"]⟩, ["thing"], (f_is_column 1 2)⟩
theorem b_is_column : BnOk e_is_column := fun _ _ _ _ _ _ us hl => match us, hl with | [_], _ => rfl
def e_is_table : En := ⟨d_is_table, ⟨"is_table", ["thing"]⟩, ["thing", "columns", "column"], (f_is_table 2 3 7 4 1)⟩
theorem b_is_table : BnOk e_is_table := fun _ _ _ _ _ _ us hl => match us, hl with | [_], _ => rfl
def e_is_ground : En := ⟨d_is_ground, ⟨"is_ground", ["thing"]⟩, ["thing", "table", "one", "other"], (f_is_ground 5)⟩
theorem b_is_ground : BnOk e_is_ground := fun _ _ _ _ _ _ us hl => match us, hl with | [_], _ => rfl
def e_names_of : En := ⟨d_names_of, ⟨"names_of", ["table"]⟩, ["table", "column"], f_names_of⟩
theorem b_names_of : BnOk e_names_of := fun _ _ _ _ _ _ us hl => match us, hl with | [_], _ => rfl
def e_table_of : En := ⟨d_table_of, ⟨"table_of", ["ground", "name"]⟩, ["ground", "name", "table"], f_table_of⟩
theorem b_table_of : BnOk e_table_of := fun _ _ _ _ _ _ us hl => match us, hl with | [_, _], _ => rfl
def e_part_fits : En := ⟨d_part_fits, ⟨"part_fits", ["frame", "columns", "mark", "part"]⟩, ["frame", "columns", "mark", "part"], (f_part_fits 10 1)⟩
theorem b_part_fits : BnOk e_part_fits := fun _ _ _ _ _ _ us hl => match us, hl with | [_, _, _, _], _ => rfl
def e_sound : En := ⟨d_sound, ⟨"sound", ["frame", "columns", "thing"]⟩, ["frame", "columns", "thing", "shape", "mark", "part"], (f_sound 11 9)⟩
theorem b_sound : BnOk e_sound := fun _ _ _ _ _ _ us hl => match us, hl with | [_, _, _], _ => rfl
def e_sound_has : En := ⟨d_sound_has, ⟨"sound_has", ["frame", "columns", "thing"]⟩, ["frame", "columns", "thing", "table", "part"], (f_sound_has 8 7 10)⟩
theorem b_sound_has : BnOk e_sound_has := fun _ _ _ _ _ _ us hl => match us, hl with | [_, _, _], _ => rfl
def e_within : En := ⟨d_within, ⟨"within", ["condition"]⟩, ["condition"], f_within⟩
theorem b_within : BnOk e_within := fun _ _ _ _ _ _ us hl => match us, hl with | [_], _ => rfl
def e_parts_of : En := ⟨d_parts_of, ⟨"parts_of", ["condition"]⟩, ["condition", "one"], (f_parts_of 12 13)⟩
theorem b_parts_of : BnOk e_parts_of := fun _ _ _ _ _ _ us hl => match us, hl with | [_], _ => rfl
def e_has_word : En := ⟨d_has_word, ⟨"has_word", ["condition", "word"]⟩, ["condition", "word", "one"], (f_has_word 12 14)⟩
theorem b_has_word : BnOk e_has_word := fun _ _ _ _ _ _ us hl => match us, hl with | [_, _], _ => rfl
def e_is_condition : En := ⟨d_is_condition, ⟨"is_condition", ["ground", "columns", "thing"]⟩, ["ground", "columns", "thing"], (f_is_condition 13 10)⟩
theorem b_is_condition : BnOk e_is_condition := fun _ _ _ _ _ _ us hl => match us, hl with | [_, _, _], _ => rfl
def e_is_user : En := ⟨d_is_user, ⟨"is_user", ["thing"]⟩, ["thing"], (f_is_user 1)⟩
theorem b_is_user : BnOk e_is_user := fun _ _ _ _ _ _ us hl => match us, hl with | [_], _ => rfl
def e_are_users : En := ⟨d_are_users, ⟨"are_users", ["thing"]⟩, ["thing", "one", "other"], (f_are_users 16)⟩
theorem b_are_users : BnOk e_are_users := fun _ _ _ _ _ _ us hl => match us, hl with | [_], _ => rfl
def e_is_rule : En := ⟨d_is_rule, ⟨"is_rule", ["ground", "thing"]⟩, ["ground", "thing", "table", "word"], (f_is_rule 8 15 7 17 14)⟩
theorem b_is_rule : BnOk e_is_rule := fun _ _ _ _ _ _ us hl => match us, hl with | [_, _], _ => rfl
def e_is_view : En := ⟨d_is_view, ⟨"is_view", ["ground", "views", "thing"]⟩, ["ground", "views", "thing", "frame", "condition"], (f_is_view 2)⟩
theorem b_is_view : BnOk e_is_view := fun _ _ _ _ _ _ us hl => match us, hl with | [_, _, _], _ => rfl
def e_are_views : En := ⟨d_are_views, ⟨"are_views", ["ground", "thing"]⟩, ["ground", "thing", "at", "view"], (f_are_views 19)⟩
theorem b_are_views : BnOk e_are_views := fun _ _ _ _ _ _ us hl => match us, hl with | [_, _], _ => rfl
def e_are_rules : En := ⟨d_are_rules, ⟨"are_rules", ["ground", "thing"]⟩, ["ground", "thing", "rule", "at"], (f_are_rules 18)⟩
theorem b_are_rules : BnOk e_are_rules := fun _ _ _ _ _ _ us hl => match us, hl with | [_, _], _ => rfl
def e_is_setting : En := ⟨d_is_setting, ⟨"is_setting", ["thing"]⟩, ["thing"], (f_is_setting 6 20 21)⟩
theorem b_is_setting : BnOk e_is_setting := fun _ _ _ _ _ _ us hl => match us, hl with | [_], _ => rfl
def e__law_cell_at : En := ⟨d__law_cell_at, ⟨"_law_cell_at", ["script", "k"]⟩, ["script", "k"], f__law_cell_at⟩
theorem b__law_cell_at : BnOk e__law_cell_at := fun _ _ _ _ _ _ us hl => match us, hl with | [_, _], _ => rfl
def e__law_draws : En := ⟨d__law_draws, ⟨"_law_draws", ["cell", "many", "base"]⟩, ["cell", "many", "base", "found", "rest", "stirred", "k"], f__law_draws⟩
theorem b__law_draws : BnOk e__law_draws := fun _ _ _ _ _ _ us hl => match us, hl with | [_, _, _], _ => rfl
def e__law_name : En := ⟨d__law_name, ⟨"_law_name", ["some", "taken"]⟩, ["some", "taken", "letters", "size", "word", "k", "barred", "ways", "letter", "one"], f__law_name⟩
theorem b__law_name : BnOk e__law_name := fun _ _ _ _ _ _ us hl => match us, hl with | [_, _], _ => rfl
def e__law_columns : En := ⟨d__law_columns, ⟨"_law_columns", ["picks", "many", "top"]⟩, ["picks", "many", "top", "found", "room", "k", "some", "values", "empty", "one"], (f__law_columns 25)⟩
theorem b__law_columns : BnOk e__law_columns := fun _ _ _ _ _ _ us hl => match us, hl with | [_, _, _], _ => rfl
def e__law_ground : En := ⟨d__law_ground, ⟨"_law_ground", ["picks", "top"]⟩, ["picks", "top", "found", "left", "k", "some", "columns", "room", "key", "name", "one"], (f__law_ground 26 25)⟩
theorem b__law_ground : BnOk e__law_ground := fun _ _ _ _ _ _ us hl => match us, hl with | [_, _], _ => rfl
def e__law_atom : En := ⟨d__law_atom, ⟨"_law_atom", ["picks", "columns", "ways"]⟩, ["picks", "columns", "ways", "words", "word", "column", "value"], f__law_atom⟩
theorem b__law_atom : BnOk e__law_atom := fun _ _ _ _ _ _ us hl => match us, hl with | [_, _, _], _ => rfl
def e__law_condition : En := ⟨d__law_condition, ⟨"_law_condition", ["picks", "parts", "ground", "columns", "ways"]⟩, ["picks", "parts", "ground", "columns", "ways", "words", "word", "table", "names", "inner", "left", "one", "column"], (f__law_condition 28 29)⟩
theorem b__law_condition : BnOk e__law_condition := fun _ _ _ _ _ _ us hl => match us, hl with | [_, _, _, _, _], _ => rfl
def e__law_users : En := ⟨d__law_users, ⟨"_law_users", ["picks"]⟩, ["picks", "pick"], f__law_users⟩
theorem b__law_users : BnOk e__law_users := fun _ _ _ _ _ _ us hl => match us, hl with | [_], _ => rfl
def e__law_rules : En := ⟨d__law_rules, ⟨"_law_rules", ["picks", "ground", "many"]⟩, ["picks", "ground", "many", "found", "k", "some", "verb", "kind", "table", "names", "condition", "rule", "column"], (f__law_rules 29 30)⟩
theorem b__law_rules : BnOk e__law_rules := fun _ _ _ _ _ _ us hl => match us, hl with | [_, _, _], _ => rfl
def e__law_cells : En := ⟨d__law_cells, ⟨"_law_cells", ["script", "at", "many"]⟩, ["script", "at", "many", "k"], (f__law_cells 23)⟩
theorem b__law_cells : BnOk e__law_cells := fun _ _ _ _ _ _ us hl => match us, hl with | [_, _, _], _ => rfl
def e__law_odd : En := ⟨d__law_odd, ⟨"_law_odd", ["picks"]⟩, ["picks", "odd"], f__law_odd⟩
theorem b__law_odd : BnOk e__law_odd := fun _ _ _ _ _ _ us hl => match us, hl with | [_], _ => rfl
def e__law_spoilt : En := ⟨d__law_spoilt, ⟨"_law_spoilt", ["thing", "picks"]⟩, ["thing", "picks", "parts", "at", "way"], (f__law_spoilt 33 34)⟩
theorem b__law_spoilt : BnOk e__law_spoilt := fun _ _ _ _ _ _ us hl => match us, hl with | [_, _], _ => rfl
def e__law_from : En := ⟨d__law_from, ⟨"_law_from", ["thing", "least", "top"]⟩, ["thing", "least", "top"], f__law_from⟩
theorem b__law_from : BnOk e__law_from := fun _ _ _ _ _ _ us hl => match us, hl with | [_, _, _], _ => rfl
def e__law_is_name : En := ⟨d__law_is_name, ⟨"_law_is_name", ["thing"]⟩, ["thing", "barred", "sign"], f__law_is_name⟩
theorem b__law_is_name : BnOk e__law_is_name := fun _ _ _ _ _ _ us hl => match us, hl with | [_], _ => rfl
def e__law_is_column : En := ⟨d__law_is_column, ⟨"_law_is_column", ["thing"]⟩, ["thing"], (f__law_is_column 35 36)⟩
theorem b__law_is_column : BnOk e__law_is_column := fun _ _ _ _ _ _ us hl => match us, hl with | [_], _ => rfl
def e__law_is_table : En := ⟨d__law_is_table, ⟨"_law_is_table", ["thing"]⟩, ["thing", "names", "one"], (f__law_is_table 35 36 37)⟩
theorem b__law_is_table : BnOk e__law_is_table := fun _ _ _ _ _ _ us hl => match us, hl with | [_], _ => rfl
def e__law_is_ground : En := ⟨d__law_is_ground, ⟨"_law_is_ground", ["thing"]⟩, ["thing", "names", "one"], (f__law_is_ground 35 38)⟩
theorem b__law_is_ground : BnOk e__law_is_ground := fun _ _ _ _ _ _ us hl => match us, hl with | [_], _ => rfl
def e__law_names_of : En := ⟨d__law_names_of, ⟨"_law_names_of", ["ground", "name"]⟩, ["ground", "name", "table", "column"], f__law_names_of⟩
theorem b__law_names_of : BnOk e__law_names_of := fun _ _ _ _ _ _ us hl => match us, hl with | [_, _], _ => rfl
def e__law_sound : En := ⟨d__law_sound, ⟨"_law_sound", ["ground", "columns", "thing", "plain", "inside"]⟩, ["ground", "columns", "thing", "plain", "inside", "counts", "many", "names", "one"], (f__law_sound 41 40 35)⟩
theorem b__law_sound : BnOk e__law_sound := fun _ _ _ _ _ _ us hl => match us, hl with | [_, _, _, _, _], _ => rfl
def e__law_is_condition : En := ⟨d__law_is_condition, ⟨"_law_is_condition", ["ground", "columns", "thing"]⟩, ["ground", "columns", "thing", "many"], (f__law_is_condition 41)⟩
theorem b__law_is_condition : BnOk e__law_is_condition := fun _ _ _ _ _ _ us hl => match us, hl with | [_, _, _], _ => rfl
def e__law_within : En := ⟨d__law_within, ⟨"_law_within", ["thing", "word"]⟩, ["thing", "word", "one"], (f__law_within 43)⟩
theorem b__law_within : BnOk e__law_within := fun _ _ _ _ _ _ us hl => match us, hl with | [_, _], _ => rfl
def e__law_are_users : En := ⟨d__law_are_users, ⟨"_law_are_users", ["thing"]⟩, ["thing", "one"], (f__law_are_users 35)⟩
theorem b__law_are_users : BnOk e__law_are_users := fun _ _ _ _ _ _ us hl => match us, hl with | [_], _ => rfl
def e__law_is_rule : En := ⟨d__law_is_rule, ⟨"_law_is_rule", ["ground", "thing"]⟩, ["ground", "thing", "names"], (f__law_is_rule 40 42 44 43)⟩
theorem b__law_is_rule : BnOk e__law_is_rule := fun _ _ _ _ _ _ us hl => match us, hl with | [_, _], _ => rfl
def e__law_view_head : En := ⟨d__law_view_head, ⟨"_law_view_head", ["ground", "heads", "thing"]⟩, ["ground", "heads", "thing", "found"], (f__law_view_head 36)⟩
theorem b__law_view_head : BnOk e__law_view_head := fun _ _ _ _ _ _ us hl => match us, hl with | [_, _, _], _ => rfl
def e__law_is_setting : En := ⟨d__law_is_setting, ⟨"_law_is_setting", ["thing"]⟩, ["thing", "ground", "rules", "views", "heads", "view", "found", "rule", "one"], (f__law_is_setting 39 45 46)⟩
theorem b__law_is_setting : BnOk e__law_is_setting := fun _ _ _ _ _ _ us hl => match us, hl with | [_], _ => rfl
def e__law_rule_setting : En := ⟨d__law_rule_setting, ⟨"_law_rule_setting", ["cells", "top", "rules"]⟩, ["cells", "top", "rules", "ground", "picks"], (f__law_rule_setting 27 24 31)⟩
theorem b__law_rule_setting : BnOk e__law_rule_setting := fun _ _ _ _ _ _ us hl => match us, hl with | [_, _, _], _ => rfl
def e_law : En := ⟨d_law, ⟨"law", ["script"]⟩, ["script", "at", "cell", "picks", "setting", "ground", "rules", "views", "once", "names", "condition", "users", "rule", "things", "one", "thing", "column", "pick"], (f_law 23 24 48 32 34 29 33 22 47)⟩
theorem b_law : BnOk e_law := fun _ _ _ _ _ _ us hl => match us, hl with | [_], _ => rfl
def es : List En := [e_is_whole, e_is_from, e_is_name, e_are_names, e_is_column, e_is_table, e_is_ground, e_names_of, e_table_of, e_part_fits, e_sound, e_sound_has, e_within, e_parts_of, e_has_word, e_is_condition, e_is_user, e_are_users, e_is_rule, e_is_view, e_are_views, e_are_rules, e_is_setting, e__law_cell_at, e__law_draws, e__law_name, e__law_columns, e__law_ground, e__law_atom, e__law_condition, e__law_users, e__law_rules, e__law_cells, e__law_odd, e__law_spoilt, e__law_from, e__law_is_name, e__law_is_column, e__law_is_table, e__law_is_ground, e__law_names_of, e__law_sound, e__law_is_condition, e__law_within, e__law_are_users, e__law_is_rule, e__law_view_head, e__law_is_setting, e__law_rule_setting, e_law]
def T : List Fn := [f_is_whole, (f_is_from 0), f_is_name, (f_are_names 2), (f_is_column 1 2), (f_is_table 2 3 7 4 1), (f_is_ground 5), f_names_of, f_table_of, (f_part_fits 10 1), (f_sound 11 9), (f_sound_has 8 7 10), f_within, (f_parts_of 12 13), (f_has_word 12 14), (f_is_condition 13 10), (f_is_user 1), (f_are_users 16), (f_is_rule 8 15 7 17 14), (f_is_view 2), (f_are_views 19), (f_are_rules 18), (f_is_setting 6 20 21), f__law_cell_at, f__law_draws, f__law_name, (f__law_columns 25), (f__law_ground 26 25), f__law_atom, (f__law_condition 28 29), f__law_users, (f__law_rules 29 30), (f__law_cells 23), f__law_odd, (f__law_spoilt 33 34), f__law_from, f__law_is_name, (f__law_is_column 35 36), (f__law_is_table 35 36 37), (f__law_is_ground 35 38), f__law_names_of, (f__law_sound 41 40 35), (f__law_is_condition 41), (f__law_within 43), (f__law_are_users 35), (f__law_is_rule 40 42 44 43), (f__law_view_head 36), (f__law_is_setting 39 45 46), (f__law_rule_setting 27 24 31), (f_law 23 24 48 32 34 29 33 22 47)]
theorem T_eq : es.map (·.f) = T := rfl
def md : Md := ⟨es, free, cs, [cn_Rules], [("SHAPES", g_SHAPES)]⟩
theorem es_ok : md.ok = true := by decide +kernel
theorem cb_ok : ∀ c ∈ md.cl, CnBn c := by
  intro c hc
  simp only [md, List.mem_cons, List.not_mem_nil, or_false] at hc
  rcases hc with rfl
  · exact cb_Rules
theorem bn_ok : ∀ e ∈ md.es, BnOk e := by
  intro e he
  simp only [md, es, List.mem_cons, List.not_mem_nil, or_false] at he
  rcases he with rfl | rfl | rfl | rfl | rfl | rfl | rfl | rfl | rfl | rfl | rfl | rfl | rfl | rfl | rfl | rfl | rfl | rfl | rfl | rfl | rfl | rfl | rfl | rfl | rfl | rfl | rfl | rfl | rfl | rfl | rfl | rfl | rfl | rfl | rfl | rfl | rfl | rfl | rfl | rfl | rfl | rfl | rfl | rfl | rfl | rfl | rfl | rfl | rfl | rfl
  · exact b_is_whole
  · exact b_is_from
  · exact b_is_name
  · exact b_are_names
  · exact b_is_column
  · exact b_is_table
  · exact b_is_ground
  · exact b_names_of
  · exact b_table_of
  · exact b_part_fits
  · exact b_sound
  · exact b_sound_has
  · exact b_within
  · exact b_parts_of
  · exact b_has_word
  · exact b_is_condition
  · exact b_is_user
  · exact b_are_users
  · exact b_is_rule
  · exact b_is_view
  · exact b_are_views
  · exact b_are_rules
  · exact b_is_setting
  · exact b__law_cell_at
  · exact b__law_draws
  · exact b__law_name
  · exact b__law_columns
  · exact b__law_ground
  · exact b__law_atom
  · exact b__law_condition
  · exact b__law_users
  · exact b__law_rules
  · exact b__law_cells
  · exact b__law_odd
  · exact b__law_spoilt
  · exact b__law_from
  · exact b__law_is_name
  · exact b__law_is_column
  · exact b__law_is_table
  · exact b__law_is_ground
  · exact b__law_names_of
  · exact b__law_sound
  · exact b__law_is_condition
  · exact b__law_within
  · exact b__law_are_users
  · exact b__law_is_rule
  · exact b__law_view_head
  · exact b__law_is_setting
  · exact b__law_rule_setting
  · exact b_law
abbrev hk : PySem.W.Hook := hkOf 4 md
def ob (s : PySem.W.SharedT) : He.AlX := He.obsX 4 md.fa md.ds md.ts [] md.ex (HandSHeadRun.getT s)
theorem ob_eq (s : PySem.W.SharedT) : ob s = hk.obs s.abs := He.obsX_eq (HandSHeadRun.getT_eq s)
theorem run (w : World) : HandSHeadRun.RunEq Rr (PySem.W.view Rr.prog [76]) hk ob 4000 loose w :=
  run0 w

theorem law_true : ∀ ns : List Int, ns.length ≤ 63 → ∃ S', FT T 50 49 [.t (.lst (ns.map .int))] [] = .ok (.t (.bl true)) S' := by
  intro ns hn
  obtain ⟨v, S', e, rfl⟩ := RP.get (law_ok (T := T) (i := 49) (iA := 23) (iD := 24) (iRS := 48) (iCs := 32) (iSp := 34) (iC := 29) (iO := 33) (iIS := 22) (iLS := 47) (iGr := 27) (iCl := 26) (iN := 25) (iR := 31) (iU := 30) (iAt := 28) (iG := 6) (iTb := 5) (iAn := 3) (iNm := 2) (iNo := 7) (iCo := 4) (iF := 1) (iW := 0) (iAV := 20) (iV := 19) (iAR := 21) (iRu := 18) (iTo := 8) (iCn := 15) (iAu := 17) (iHw := 14) (iUs := 16) (iPo := 13) (iWi := 12) (iS := 10) (iH := 11) (iP := 9) (iLG := 39) (iLT := 38) (iLC := 37) (iLN := 36) (iLF := 35) (iLR := 45) (iLV := 46) (iLO := 40) (iLI := 42) (iLU := 44) (iLW := 43) (iLS2 := 41) rfl rfl rfl rfl rfl rfl rfl rfl rfl rfl rfl rfl rfl rfl rfl rfl rfl rfl rfl rfl rfl rfl rfl rfl rfl rfl rfl rfl rfl rfl rfl rfl rfl rfl rfl rfl rfl rfl rfl rfl rfl rfl rfl rfl rfl rfl rfl rfl rfl rfl ns hn [])
  exact ⟨S', e⟩

open PySem PySem.W PySem.Calls PyProof.Rows in
theorem ans : PySem.Challenge.rw_rowveil_k14_what_are_rules.Holds := by
  w_on; o_law
  refine HandSHeadRun.head_any (r := OpenLaw.row PySem.Challenge.rw_rowveil_k14_what_are_rules) (q := view (OpenLaw.row PySem.Challenge.rw_rowveil_k14_what_are_rules).prog [76]) (H := hk) (ob := ob) (M := 4000) (loose := loose) (d := HandSHeadRun.topDef (OpenLaw.row PySem.Challenge.rw_rowveil_k14_what_are_rules).prog 76) (kwd := []) ob_eq
    (by kernel_rfl) (fun s => by kernel_rfl) run (by kernel_rfl) (by kernel_rfl) (by kernel_rfl) (by rfl) (by first | assumption | decide +kernel) (by decide +kernel) ⟨rfl, rfl, rfl, rfl, rfl, by decide +kernel⟩ ?hw ?hc
  case hw => w_witness2
  case hc =>
    refine walk_ofM (l := PySem.Challenge.rw_rowveil_k14_what_are_rules) (n := 63) (k := 52) (x := "script") rfl (by decide) (by kernel_rfl) ⟨rfl, by decide, by decide⟩ ?F
    case F =>
      intro w mg fa h Y G hmg0
      have hmg : mg ("law" : PySem.Str) = some (.ref fa) := by
        have e : (HandSHeadRun.topDef (OpenLaw.row PySem.Challenge.rw_rowveil_k14_what_are_rules).prog 76).name = ("law" : PySem.Str) := by kernel_rfl
        rw [← e]
        exact hmg0
      exact law_end (M := md) es_ok bn_ok cb_ok (i := 49) (e := e_law) rfl rfl Y G hmg law_true


end k14
end M

theorem PySem.Challenge.cw_rowveil_k14_what_are_rules_holds : PySem.Challenge.rw_rowveil_k14_what_are_rules.Holds :=
  M.k14.ans
