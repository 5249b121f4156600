import PyProof.Rows.All
import Wide.All
import OpenK.AllK
import Wide.FinOn
import HandS.ForMost
import HandS.ForExc
import HandS.Flow
import HandS.Wide
import KE.DataEq
import KE.DataCmp
import KE.DataMinMax
import KE.SortData
import KE.DatumOrd
import HandS.IsInst
import HandS.StrMore
import HandS.WordsDict
import PyProof.StrBlock2
import HandS.More
import HandS.SetKeys
import HandS.SetFor
import KE.KDictList
import HandS.SortKw
import HandS.TryOnly
import HandS.ExcInit
import HandS.WordsExc
import HandS.ExcField
import HandS.RaiseMore
import HandS.ExcOwn
import HandS.ExcIs
import KE.IntTextLaws
import PySem.Challenge.RW_digmatrix_k13_whole_ones_in_any_order
set_option Elab.async false
set_option linter.all false
set_option autoImplicit false
set_option maxRecDepth 100000
set_option maxHeartbeats 4000000
/-! Dg: a layer of plain data (PyData) over the hand layer: each value of a def stands for a tree; lists and dicts that a def owns alone may be changed. -/
namespace Dg
open PySem PySem.Spec PyProof.Rows L2
abbrev D := PyData
abbrev Env := List (Option D)
/-- an exception of the text's own: its class by name, its fields -/
structure Exn where
  cls : Str
  flds : List (D × D)
/-- what an expression comes to -/
inductive R (α : Type) where
  | ok (a : α)
  | exc (x : Exn)
  | stk
def R.bind {α β : Type} (r : R α) (f : α → R β) : R β := match r with
  | .ok a => f a
  | .exc x => .exc x
  | .stk => .stk
@[simp] theorem R.bind_ok {α β : Type} (a : α) (f : α → R β) : (R.ok a).bind f = f a := (rfl)
@[simp] theorem R.bind_exc {α β : Type} (x : Exn) (f : α → R β) : (R.exc x).bind f = .exc x := (rfl)
@[simp] theorem R.bind_stk {α β : Type} (f : α → R β) : (R.stk).bind f = .stk := (rfl)
/-- what a statement comes to -/
inductive Out where
  | nx (r : Env)
  | ret (d : D) (r : Env)
  | brk (r : Env)
  | cnt (r : Env)
  | exc (x : Exn) (r : Env)
  | stk
def isMut : HO → Bool
  | .lst _ => true
  | .dK _ => true
  | .ins _ _ _ => true
  | _ => false
/-- all that stood stands, but for the changeable ones among M -/
def Fr (M : Addr → Prop) (H H' : Hp) : Prop := ∀ a o, H a = some o → (isMut o = true → ¬ M a) → H' a = some o
theorem Fr.refl (M : Addr → Prop) (H : Hp) : Fr M H H := fun _ _ h _ => h
theorem Fr.of_same {M : Addr → Prop} {H H' : Hp} (s : Same H H') : Fr M H H' := fun a o h _ => s a o h
theorem Fr.step {M : Addr → Prop} {H H1 H2 : Hp} (f : Fr M H H1) (s : Same H1 H2) : Fr M H H2 := fun a o h q => s a o (f a o h q)
theorem same_upd {H : Hp} {p : Addr} {o : HO} (h : H p = none) : Same H (upd H p o) := fun b x e => by
  rw [upd_ne (ne_of_none e h)]
  exact e
/-- a list that no one here changes (the script; one of the top) -/
def Lf (K : PySem.W.Frag) (H : Hp) (a : Addr) (xs : List V) : Prop :=
  (∃ o, H a = some (.frz o (.lst xs))) ∨
    ∃ (o : Obj) (its : Array Value) (n : Nat), K.lookup a = some o ∧ o.cls = .type "list" ∧ o.dict = none ∧ o.data = .seq its n ∧ its.size ≤ sizeLine ∧ Vals xs its.toList
theorem Lf.seq {K : PySem.W.Frag} {H : Hp} {a : Addr} {xs : List V} (h : Lf K H a xs) : SqL K H a xs := by
  rcases h with ⟨o, h⟩ | h
  · exact .inl (.inr ⟨o, h⟩)
  · exact .inr h
theorem lf_of {K : PySem.W.Frag} {H : Hp} {a : Addr} {xs : List V} (h : SqL K H a xs) : H a = some (.lst xs) ∨ Lf K H a xs := by
  rcases h with (h | h) | h
  · exact .inl h
  · exact .inr (.inl h)
  · exact .inr (.inr h)
theorem Lf.fr {K : PySem.W.Frag} {M : Addr → Prop} {H H' : Hp} {a : Addr} {xs : List V} (h : Lf K H a xs) (f : Fr M H H') : Lf K H' a xs := by
  rcases h with ⟨o, h⟩ | h
  · exact .inl ⟨o, f a _ h (fun z => by cases z)⟩
  · exact .inr h
theorem sqT_fr {K : PySem.W.Frag} {M : Addr → Prop} {H H' : Hp} {a : Addr} {xs : List V} (h : SqT K H a xs) (f : Fr M H H') : SqT K H' a xs := by
  rcases h with (h | ⟨o, h⟩) | h
  · exact .inl (.inl (f a _ h (fun z => by cases z)))
  · exact .inl (.inr ⟨o, f a _ h (fun z => by cases z)⟩)
  · exact .inr h
def kD : Key → D
  | .inl i => .int i
  | .inr x => .str x
/-- the object of a caught exception -/
def xcell : HO := .ext fun _ => True
def XH (H : Hp) (a C : Addr) (fs : List (Str × V)) : Prop := ∃ oe : Obj, H a = some (.frz oe xcell) ∧ oe.cls = .ref C ∧ (∃ vs, oe.data = .fields vs) ∧ match oe.dict with
  | none => fs = []
  | some d => H d = some (.xd fs)
theorem XH.go {H H' : Hp} {a C : Addr} {fs : List (Str × V)} (h : XH H a C fs) (g : ∀ b u, H b = some u → ((∃ o, u = .frz o xcell) ∨ ∃ f, u = .xd f) → H' b = some u) : XH H' a C fs := by
  obtain ⟨oe, h1, h2, h3, h4⟩ := h
  refine ⟨oe, g _ _ h1 (.inl ⟨_, rfl⟩), h2, h3, ?_⟩
  cases hd : oe.dict with
  | none =>
    rw [hd] at h4
    exact h4
  | some d =>
    rw [hd] at h4
    exact g _ _ h4 (.inr ⟨_, rfl⟩)
theorem XH.fr {M : Addr → Prop} {H H' : Hp} {a C : Addr} {fs : List (Str × V)} (h : XH H a C fs) (f : Fr M H H') : XH H' a C fs := h.go fun b u e k => f b u e fun z => by
  rcases k with ⟨o, rfl⟩ | ⟨o, rfl⟩ <;> cases z
mutual
/-- the value v stands for the tree d; A: the changeable objects in it; true: it is all one's own -/
inductive Rep (K : PySem.W.Frag) (mg : Str → Option Value) (H : Hp) : Bool → V → D → List Addr → Prop
  | non {o : Bool} : Rep K mg H o .non .none []
  | bl {o : Bool} (b : Bool) : Rep K mg H o (.bl b) (.bool b) []
  | int {o : Bool} (i : Int) : Rep K mg H o (.int i) (.int i) []
  | str {o : Bool} (x : Str) : Rep K mg H o (.str x) (.str x) []
  | lst {o : Bool} {a : Addr} {vs : List V} {ds : List D} {A : List Addr} : H a = some (.lst vs) → RepL K mg H o vs ds A → Rep K mg H o (.ref a) (.list ds) (a :: A)
  | lstF {a : Addr} {vs : List V} {ds : List D} {A : List Addr} : Lf K H a vs → RepL K mg H false vs ds A → Rep K mg H false (.ref a) (.dict [(.none, .list ds)]) A
  | tup {o : Bool} {a : Addr} {vs : List V} {ds : List D} {A : List Addr} : SqT K H a vs → RepL K mg H o vs ds A → Rep K mg H o (.ref a) (.tuple ds) A
  | dct {o : Bool} {a : Addr} {vs : List (Key × V)} {ds : List (D × D)} {A : List Addr} : H a = some (.dK vs) → RepP K mg H o vs ds A → Rep K mg H o (.ref a) (.dict ds) (a :: A)
  | dctF {a : Addr} {u : Obj} {vs : List (Key × V)} {ds : List (D × D)} {A : List Addr} : H a = some (.frz u (.dK vs)) → RepP K mg H false vs ds A → Rep K mg H false (.ref a) (.dict ds) A
  | ins {o : Bool} {a C dx : Addr} {nm : Str} {fs : List (Str × V)} {ds : List (D × D)} {A : List Addr} : H a = some (.ins C dx fs) → mg nm = some (.ref C) → RepF K mg H o fs ds A → Rep K mg H o (.ref a) (.dict ((.none, .str nm) :: ds)) (a :: A)
  | exn {o : Bool} {a C : Addr} {nm : Str} {fs : List (Str × V)} {ds : List (D × D)} {A : List Addr} : XH H a C fs → mg nm = some (.ref C) → RepF K mg H o fs ds A → Rep K mg H o (.ref a) (.dict ((.none, .tuple [.str nm]) :: ds)) A
inductive RepL (K : PySem.W.Frag) (mg : Str → Option Value) (H : Hp) : Bool → List V → List D → List Addr → Prop
  | nil {o : Bool} : RepL K mg H o [] [] []
  | cons {o : Bool} {v : V} {d : D} {vs : List V} {ds : List D} {A B : List Addr} : Rep K mg H o v d A → RepL K mg H o vs ds B → RepL K mg H o (v :: vs) (d :: ds) (A ++ B)
inductive RepP (K : PySem.W.Frag) (mg : Str → Option Value) (H : Hp) : Bool → List (Key × V) → List (D × D) → List Addr → Prop
  | nil {o : Bool} : RepP K mg H o [] [] []
  | cons {o : Bool} {k : Key} {v : V} {d : D} {vs : List (Key × V)} {ds : List (D × D)} {A B : List Addr} : Rep K mg H o v d A → RepP K mg H o vs ds B → RepP K mg H o ((k, v) :: vs) ((kD k, d) :: ds) (A ++ B)
inductive RepF (K : PySem.W.Frag) (mg : Str → Option Value) (H : Hp) : Bool → List (Str × V) → List (D × D) → List Addr → Prop
  | nil {o : Bool} : RepF K mg H o [] [] []
  | cons {o : Bool} {k : Str} {v : V} {d : D} {vs : List (Str × V)} {ds : List (D × D)} {A B : List Addr} : Rep K mg H o v d A → RepF K mg H o vs ds B → RepF K mg H o ((k, v) :: vs) ((.str k, d) :: ds) (A ++ B)
end
section
variable {K : PySem.W.Frag} {mg : Str → Option Value} {H H' : Hp}
mutual
theorem Rep.weak {o : Bool} {v : V} {d : D} {A : List Addr} : Rep K mg H o v d A → Rep K mg H false v d A
  | .non => .non
  | .bl b => .bl b
  | .int i => .int i
  | .str x => .str x
  | .lst h r => .lst h r.weak
  | .lstF h r => .lstF h r
  | .tup h r => .tup h r.weak
  | .dct h r => .dct h r.weak
  | .dctF h r => .dctF h r
  | .ins h g r => .ins h g r.weak
  | .exn h g r => .exn h g r.weak
theorem RepL.weak {o : Bool} {v : List V} {d : List D} {A : List Addr} : RepL K mg H o v d A → RepL K mg H false v d A
  | .nil => .nil
  | .cons h r => .cons h.weak r.weak
theorem RepP.weak {o : Bool} {v : List (Key × V)} {d : List (D × D)} {A : List Addr} : RepP K mg H o v d A → RepP K mg H false v d A
  | .nil => .nil
  | .cons h r => .cons h.weak r.weak
theorem RepF.weak {o : Bool} {v : List (Str × V)} {d : List (D × D)} {A : List Addr} : RepF K mg H o v d A → RepF K mg H false v d A
  | .nil => .nil
  | .cons h r => .cons h.weak r.weak
end
mutual
theorem Rep.fr {M : Addr → Prop} (f : Fr M H H') {o : Bool} {v : V} {d : D} {A : List Addr} : Rep K mg H o v d A → (∀ a ∈ A, ¬ M a) → Rep K mg H' o v d A
  | .non, _ => .non
  | .bl b, _ => .bl b
  | .int i, _ => .int i
  | .str x, _ => .str x
  | .lst h r, n => .lst (f _ _ h fun _ => n _ List.mem_cons_self) (r.fr f fun a ha => n a (List.mem_cons_of_mem _ ha))
  | .lstF h r, n => .lstF (h.fr f) (r.fr f n)
  | .tup h r, n => .tup (sqT_fr h f) (r.fr f n)
  | .dct h r, n => .dct (f _ _ h fun _ => n _ List.mem_cons_self) (r.fr f fun a ha => n a (List.mem_cons_of_mem _ ha))
  | .dctF h r, n => .dctF (f _ _ h fun z => by cases z) (r.fr f n)
  | .ins h g r, n => .ins (f _ _ h fun _ => n _ List.mem_cons_self) g (r.fr f fun a ha => n a (List.mem_cons_of_mem _ ha))
  | .exn h g r, n => .exn (h.fr f) g (r.fr f n)
theorem RepL.fr {M : Addr → Prop} (f : Fr M H H') {o : Bool} {v : List V} {d : List D} {A : List Addr} : RepL K mg H o v d A → (∀ a ∈ A, ¬ M a) → RepL K mg H' o v d A
  | .nil, _ => .nil
  | .cons h r, n => .cons (h.fr f fun a ha => n a (List.mem_append_left _ ha)) (r.fr f fun a ha => n a (List.mem_append_right _ ha))
theorem RepP.fr {M : Addr → Prop} (f : Fr M H H') {o : Bool} {v : List (Key × V)} {d : List (D × D)} {A : List Addr} : RepP K mg H o v d A → (∀ a ∈ A, ¬ M a) → RepP K mg H' o v d A
  | .nil, _ => .nil
  | .cons h r, n => .cons (h.fr f fun a ha => n a (List.mem_append_left _ ha)) (r.fr f fun a ha => n a (List.mem_append_right _ ha))
theorem RepF.fr {M : Addr → Prop} (f : Fr M H H') {o : Bool} {v : List (Str × V)} {d : List (D × D)} {A : List Addr} : RepF K mg H o v d A → (∀ a ∈ A, ¬ M a) → RepF K mg H' o v d A
  | .nil, _ => .nil
  | .cons h r, n => .cons (h.fr f fun a ha => n a (List.mem_append_left _ ha)) (r.fr f fun a ha => n a (List.mem_append_right _ ha))
end
theorem Rep.same (s : Same H H') {o : Bool} {v : V} {d : D} {A : List Addr} (h : Rep K mg H o v d A) : Rep K mg H' o v d A := h.fr (M := fun _ => False) (Fr.of_same s) fun _ _ z => z
theorem RepL.same (s : Same H H') {o : Bool} {v : List V} {d : List D} {A : List Addr} (h : RepL K mg H o v d A) : RepL K mg H' o v d A := h.fr (M := fun _ => False) (Fr.of_same s) fun _ _ z => z
theorem RepP.same (s : Same H H') {o : Bool} {v : List (Key × V)} {d : List (D × D)} {A : List Addr} (h : RepP K mg H o v d A) : RepP K mg H' o v d A := h.fr (M := fun _ => False) (Fr.of_same s) fun _ _ z => z
mutual
/-- what can be changed stands -/
theorem Rep.on {o : Bool} {v : V} {d : D} {A : List Addr} : Rep K mg H o v d A → ∀ a ∈ A, ∃ u, H a = some u ∧ isMut u = true
  | .non, _, z => by cases z
  | .bl _, _, z => by cases z
  | .int _, _, z => by cases z
  | .str _, _, z => by cases z
  | .lst h r, a, z => by
    rcases List.mem_cons.mp z with rfl | z
    · exact ⟨_, h, rfl⟩
    · exact r.on a z
  | .lstF h r, a, z => r.on a z
  | .tup h r, a, z => r.on a z
  | .dct h r, a, z => by
    rcases List.mem_cons.mp z with rfl | z
    · exact ⟨_, h, rfl⟩
    · exact r.on a z
  | .dctF h r, a, z => r.on a z
  | .ins h g r, a, z => by
    rcases List.mem_cons.mp z with rfl | z
    · exact ⟨_, h, rfl⟩
    · exact r.on a z
  | .exn h g r, a, z => r.on a z
theorem RepL.on {o : Bool} {v : List V} {d : List D} {A : List Addr} : RepL K mg H o v d A → ∀ a ∈ A, ∃ u, H a = some u ∧ isMut u = true
  | .nil, _, z => by cases z
  | .cons h r, a, z => by
    rcases List.mem_append.mp z with z | z
    · exact h.on a z
    · exact r.on a z
theorem RepP.on {o : Bool} {v : List (Key × V)} {d : List (D × D)} {A : List Addr} : RepP K mg H o v d A → ∀ a ∈ A, ∃ u, H a = some u ∧ isMut u = true
  | .nil, _, z => by cases z
  | .cons h r, a, z => by
    rcases List.mem_append.mp z with z | z
    · exact h.on a z
    · exact r.on a z
theorem RepF.on {o : Bool} {v : List (Str × V)} {d : List (D × D)} {A : List Addr} : RepF K mg H o v d A → ∀ a ∈ A, ∃ u, H a = some u ∧ isMut u = true
  | .nil, _, z => by cases z
  | .cons h r, a, z => by
    rcases List.mem_append.mp z with z | z
    · exact h.on a z
    · exact r.on a z
end
theorem Rep.old {o : Bool} {v : V} {d : D} {A : List Addr} (h : Rep K mg H o v d A) {a : Addr} (ha : a ∈ A) : H a ≠ none := fun z => by
  obtain ⟨u, q, _⟩ := h.on a ha
  rw [z] at q
  cases q
theorem RepL.old {o : Bool} {v : List V} {d : List D} {A : List Addr} (h : RepL K mg H o v d A) {a : Addr} (ha : a ∈ A) : H a ≠ none := fun z => by
  obtain ⟨u, q, _⟩ := h.on a ha
  rw [z] at q
  cases q
theorem RepL.len {o : Bool} : ∀ {v : List V} {d : List D} {A : List Addr}, RepL K mg H o v d A → v.length = d.length
  | _, _, _, .nil => rfl
  | _, _, _, .cons _ r => congrArg (· + 1) r.len
theorem RepP.len {o : Bool} : ∀ {v : List (Key × V)} {d : List (D × D)} {A : List Addr}, RepP K mg H o v d A → v.length = d.length
  | _, _, _, .nil => rfl
  | _, _, _, .cons _ r => congrArg (· + 1) r.len
theorem RepL.get {o : Bool} : ∀ {v : List V} {d : List D} {A : List Addr} {i : Nat} {x : D}, RepL K mg H o v d A → d[i]? = some x → ∃ y B, v[i]? = some y ∧ Rep K mg H o y x B ∧ ∀ a ∈ B, a ∈ A
  | _, _, _, _, _, .nil, e => by simp at e
  | _, _, _, 0, x, .cons h r, e => by
    simp at e
    subst e
    exact ⟨_, _, rfl, h, fun a ha => List.mem_append_left _ ha⟩
  | _, _, _, i + 1, x, .cons h r, e => by
    obtain ⟨y, B, h1, h2, h3⟩ := r.get (i := i) (x := x) (by simpa using e)
    exact ⟨y, B, by simpa using h1, h2, fun a ha => List.mem_append_right _ (h3 a ha)⟩
theorem RepL.app {o : Bool} : ∀ {v w : List V} {d e : List D} {A B : List Addr}, RepL K mg H o v d A → RepL K mg H o w e B → RepL K mg H o (v ++ w) (d ++ e) (A ++ B)
  | _, _, _, _, _, _, .nil, s => s
  | _, _, _, _, _, _, .cons h r, s => by
    have q := RepL.cons h (r.app s)
    rw [← List.append_assoc] at q
    exact q
theorem RepL.one {o : Bool} {v : V} {d : D} {A : List Addr} (h : Rep K mg H o v d A) : RepL K mg H o [v] [d] A := by
  have q := RepL.cons h RepL.nil
  rw [List.append_nil] at q
  exact q
mutual
/-- nothing in it can be changed -/
def imm : D → Bool
  | .list _ => false
  | .dict _ => false
  | .tuple ds => immL ds
  | _ => true
def immL : List D → Bool
  | [] => true
  | d :: ds => imm d && immL ds
end
mutual
theorem Rep.imm {o : Bool} {v : V} {d : D} {A : List Addr} : Rep K mg H o v d A → Dg.imm d = true → A = [] ∧ Rep K mg H true v d []
  | .non, _ => ⟨rfl, .non⟩
  | .bl b, _ => ⟨rfl, .bl b⟩
  | .int i, _ => ⟨rfl, .int i⟩
  | .str x, _ => ⟨rfl, .str x⟩
  | .lst h r, z => by simp [Dg.imm] at z
  | .lstF h r, z => by simp [Dg.imm] at z
  | .dct h r, z => by simp [Dg.imm] at z
  | .dctF h r, z => by simp [Dg.imm] at z
  | .ins h g r, z => by simp [Dg.imm] at z
  | .exn h g r, z => by simp [Dg.imm] at z
  | .tup h r, z => by
    obtain ⟨e, q⟩ := r.imm (by simpa [Dg.imm] using z)
    exact ⟨e, .tup h q⟩
theorem RepL.imm {o : Bool} {v : List V} {d : List D} {A : List Addr} : RepL K mg H o v d A → Dg.immL d = true → A = [] ∧ RepL K mg H true v d []
  | .nil, _ => ⟨rfl, .nil⟩
  | .cons h r, z => by
    rw [Dg.immL, Bool.and_eq_true] at z
    obtain ⟨e1, q1⟩ := h.imm z.1
    obtain ⟨e2, q2⟩ := r.imm z.2
    subst e1 e2
    exact ⟨rfl, .cons q1 q2⟩
end
theorem immL_get : ∀ {ds : List D} {i : Nat} {d : D}, immL ds = true → ds[i]? = some d → imm d = true
  | [], _, _, _, e => by simp at e
  | x :: xs, 0, d, h, e => by
    simp at e
    subst e
    rw [immL, Bool.and_eq_true] at h
    exact h.1
  | x :: xs, i + 1, d, h, e => by
    rw [immL, Bool.and_eq_true] at h
    exact immL_get (i := i) h.2 (by simpa using e)
theorem immL_app : ∀ {ds es : List D}, immL (ds ++ es) = (immL ds && immL es)
  | [], es => by simp [immL]
  | d :: ds, es => by simp [immL, immL_app (ds := ds), Bool.and_assoc]
mutual
/-- no dict in it -/
def flat : D → Bool
  | .dict _ => false
  | .list ds => flatL ds
  | .tuple ds => flatL ds
  | _ => true
def flatL : List D → Bool
  | [] => true
  | d :: ds => flat d && flatL ds
end
mutual
theorem Rep.dp {o : Bool} {v : V} {d : D} {A : List Addr} : Rep K mg H o v d A → flat d = true → Dp K H v d
  | .non, _ => .non
  | .bl b, _ => .bl b
  | .int i, _ => .int i
  | .str x, _ => .str x
  | .lst h r, z => .lst (.inl (.inl h)) (r.dp (by simpa [flat] using z))
  | .lstF h r, z => by simp [flat] at z
  | .tup h r, z => .tup h (r.dp (by simpa [flat] using z))
  | .dct h r, z => by simp [flat] at z
  | .dctF h r, z => by simp [flat] at z
  | .ins h g r, z => by simp [flat] at z
  | .exn h g r, z => by simp [flat] at z
theorem RepL.dp {o : Bool} {v : List V} {d : List D} {A : List Addr} : RepL K mg H o v d A → flatL d = true → DpAll K H v d
  | .nil, _ => .nil
  | .cons h r, z => by
    rw [flatL, Bool.and_eq_true] at z
    exact .cons (h.dp z.1) (r.dp z.2)
end
end
/-- the frame's state: H0, M0 what stood at the entry and what of it may be changed; pn: slots that keep their values; ow: the slots whose trees are one's own -/
structure Sta (K : PySem.W.Frag) (mg : Str → Option Value) (H0 : Hp) (M0 : Addr → Prop) (pn : Nat → Option V) (ow : List Nat) (σ : L2.St) (ρ : Env) (H : Hp) (As : Nat → List Addr) : Prop where
  fr : Fr M0 H0 H
  rep : ∀ i d, ρ[i]? = some (some d) → ∃ v, σ[i]? = some (some v) ∧ Rep K mg H (ow.contains i) v d (As i)
  dead : ∀ i, (∀ d, ρ[i]? ≠ some (some d)) → As i = []
  nd : ∀ i ∈ ow, (As i).Nodup
  new : ∀ i ∈ ow, ∀ a ∈ As i, H0 a = none ∨ M0 a
  sep : ∀ i ∈ ow, ∀ j, j ≠ i → ∀ a ∈ As i, a ∉ As j
  len : σ.length = ρ.length
  pin : ∀ j v, pn j = some v → σ[j]? = some (some v)
section
variable {K : PySem.W.Frag} {mg : Str → Option Value} {H0 : Hp} {M0 : Addr → Prop} {pn : Nat → Option V} {ow ow' : List Nat} {σ : L2.St} {ρ : Env} {H H' : Hp} {As : Nat → List Addr}
theorem Sta.on (S : Sta K mg H0 M0 pn ow σ ρ H As) {i : Nat} {a : Addr} (ha : a ∈ As i) : ∃ u, H a = some u ∧ isMut u = true := by
  by_cases h : ∃ d, ρ[i]? = some (some d)
  · obtain ⟨d, e⟩ := h
    obtain ⟨v, _, r⟩ := S.rep i d e
    exact r.on a ha
  · rw [S.dead i fun d e => h ⟨d, e⟩] at ha
    cases ha
theorem Sta.old (S : Sta K mg H0 M0 pn ow σ ρ H As) {i : Nat} {a : Addr} (ha : a ∈ As i) : H a ≠ none := fun z => by
  obtain ⟨u, q, _⟩ := S.on ha
  rw [z] at q
  cases q
theorem Sta.same (S : Sta K mg H0 M0 pn ow σ ρ H As) (s : Same H H') : Sta K mg H0 M0 pn ow σ ρ H' As :=
  ⟨S.fr.step s, fun i d e => by
    obtain ⟨v, h1, h2⟩ := S.rep i d e
    exact ⟨v, h1, h2.same s⟩, S.dead, S.nd, S.new, S.sep, S.len, S.pin⟩
theorem contains_mem {l : List Nat} {i : Nat} : l.contains i = true ↔ i ∈ l := by simp
theorem rep_less {v : V} {d : D} {A : List Addr} {b b' : Bool} (h : Rep K mg H b v d A) (q : b' = true → b = true) : Rep K mg H b' v d A := by
  cases b' with
  | false => exact h.weak
  | true =>
    have e := q rfl
    subst e
    exact h
theorem Sta.less (S : Sta K mg H0 M0 pn ow σ ρ H As) (h : ∀ i ∈ ow', i ∈ ow) : Sta K mg H0 M0 pn ow' σ ρ H As :=
  ⟨S.fr, fun i d e => by
    obtain ⟨v, h1, h2⟩ := S.rep i d e
    exact ⟨v, h1, rep_less h2 fun z => contains_mem.mpr (h i (contains_mem.mp z))⟩, S.dead, fun i hi => S.nd i (h i hi), fun i hi => S.new i (h i hi), fun i hi => S.sep i (h i hi), S.len, S.pin⟩
/-- an address that is new now was new, or changeable, at the entry -/
theorem Sta.was (S : Sta K mg H0 M0 pn ow σ ρ H As) {a : Addr} (h : H a = none) : H0 a = none ∨ M0 a := by
  by_cases m : M0 a
  · exact .inr m
  · refine .inl ?_
    cases e : H0 a with
    | none => rfl
    | some o =>
      have q := S.fr a o e fun _ => m
      rw [h] at q
      cases q
theorem Sta.fx (S : Sta K mg H0 M0 pn ow σ ρ H As) {A : List Addr} (fx : ∀ a ∈ A, H a = none) : ∀ a ∈ A, (H0 a = none ∨ M0 a) ∧ ∀ j, a ∉ As j := fun a ha => ⟨S.was (fx a ha), fun _ z => S.old z (fx a ha)⟩
end
end Dg

namespace Dg
open PySem PySem.Spec PyProof.Rows L2
/-- how a value lies: of trees of the slots ss, perhaps; or all one's own, of the slots ms and new things -/
inductive Kd where
  | br (ss : List Nat)
  | own (ms : List Nat)
def Kd.isOwn : Kd → Bool
  | .br _ => false
  | .own _ => true
def Kd.Ok (k : Kd) (ow : List Nat) (H : Hp) (As : Nat → List Addr) (A : List Addr) : Prop := match k with
  | .br ss => ∀ j ∈ ow, j ∉ ss → ∀ a ∈ As j, a ∉ A
  | .own ms => A.Nodup ∧ (∀ j ∈ ms, j ∈ ow) ∧ ∀ a ∈ A, H a = none ∨ ∃ j ∈ ms, a ∈ As j
/-- an exception of the text's own, by its class and dict -/
def RepX (K : PySem.W.Frag) (mg : Str → Option Value) (H : Hp) (c : Value) (dd : Option Addr) (x : Exn) (A : List Addr) : Prop :=
  ∃ C : Addr, c = .ref C ∧ mg x.cls = some (.ref C) ∧ match dd with
    | none => x.flds = [] ∧ A = []
    | some d => (∃ fs, H d = some (.xd fs) ∧ RepF K mg H true fs x.flds A) ∧ A.Nodup ∧ x.flds ≠ []
def On (X : Cx) (ow : List Nat) (σ : L2.St) (ρ : Env) (H : Hp) (As : Nat → List Addr) : Prop := ∃ H0 M0 pn, Sta X.K X.mg H0 M0 pn ow σ ρ H As
theorem On.same {X : Cx} {ow : List Nat} {σ : L2.St} {ρ : Env} {H H' : Hp} {As : Nat → List Addr} (S : On X ow σ ρ H As) (s : Same H H') : On X ow σ ρ H' As := by
  obtain ⟨H0, M0, pn, S⟩ := S
  exact ⟨H0, M0, pn, S.same s⟩
theorem On.old {X : Cx} {ow : List Nat} {σ : L2.St} {ρ : Env} {H : Hp} {As : Nat → List Addr} (S : On X ow σ ρ H As) {i : Nat} {a : Addr} (ha : a ∈ As i) : H a ≠ none := by
  obtain ⟨H0, M0, pn, S⟩ := S
  exact S.old ha
def Good (X : Cx) (W : WX) (σ : L2.St) (ow : List Nat) (k : Kd) (H : Hp) (As : Nat → List Addr) (r : R D) (Q : VK) : Prop := match r with
  | .ok d => ∀ v H' A, Same H H' → Rep X.K X.mg H' k.isOwn v d A → k.Ok ow H As A → Q v H'
  | .exc x => ∀ c dd H' A, Same H H' → RepX X.K X.mg H' c dd x A → (∀ b ∈ A, H b = none) → W c dd σ H'
  | .stk => False
/-- an expression and what it comes to -/
def DE (X : Cx) (W : WX) (ow : List Nat) (k : Kd) (e : Expr) (den : Env → R D) : Prop :=
  ∃ te, PE X e te ∧ ∀ σ ρ H As Q, On X ow σ ρ H As → Good X W σ ow k H As (den ρ) Q → te σ H Q
def GoodT (X : Cx) (W : WX) (σ : L2.St) (H : Hp) (r : R Bool) (Q : Bool → Hp → Prop) : Prop := match r with
  | .ok b => ∀ H', Same H H' → Q b H'
  | .exc x => ∀ c dd H' A, Same H H' → RepX X.K X.mg H' c dd x A → (∀ b ∈ A, H b = none) → W c dd σ H'
  | .stk => False
/-- a test -/
def DT (X : Cx) (W : WX) (ow : List Nat) (e : Expr) (den : Env → R Bool) : Prop :=
  ∃ tt, PT X e tt ∧ ∀ σ ρ H As Q, On X ow σ ρ H As → GoodT X W σ H (den ρ) Q → tt σ H Q
def DW (X : Cx) (W : WX) (ow : List Nat) (e : Expr) (den : Env → R Bool) : Prop :=
  ∃ tt, PW X e tt ∧ ∀ σ ρ H As Q, On X ow σ ρ H As → GoodT X W σ H (den ρ) Q → tt σ H Q
def GoodL (X : Cx) (W : WX) (σ : L2.St) (ow : List Nat) (k : Kd) (n : Nat) (H : Hp) (As : Nat → List Addr) (r : R (List D)) (Q : List V → Hp → Prop) : Prop := match r with
  | .ok ds => ∀ vs H' A, Same H H' → RepL X.K X.mg H' k.isOwn vs ds A → k.Ok ow H As A → vs.length = n → Q vs H'
  | .exc x => ∀ c dd H' A, Same H H' → RepX X.K X.mg H' c dd x A → (∀ b ∈ A, H b = none) → W c dd σ H'
  | .stk => False
/-- written arguments -/
def DA (X : Cx) (W : WX) (ow : List Nat) (k : Kd) (n : Nat) (es : List Expr) (den : Env → R (List D)) : Prop :=
  ∃ ta, PA X es ta ∧ ∀ σ ρ H As Q, On X ow σ ρ H As → GoodL X W σ ow k n H As (den ρ) Q → ta σ H Q
section
variable {X : Cx} {W : WX} {ow : List Nat} {k k1 k2 : Kd} {e a b : Expr} {den d1 d2 : Env → R D} {pos : Pos}
theorem PE.or2 {t u : TE} (h : PE X e t) (h' : PE X e u) : PE X e (fun σ H Q => t σ H Q ∨ u σ H Q) := by
  refine ⟨fun pins s σ H Q I q => ?_⟩
  rcases q with q | q
  · exact h.run pins s σ H Q I q
  · exact h'.run pins s σ H Q I q
/-! ### kinds -/
theorem Kd.weak {H H' : Hp} {As : Nat → List Addr} {A : List Addr} {σ : L2.St} {ρ : Env} (S : On X ow σ ρ H As) (h : k.Ok ow H As A) : ∃ ss, (Kd.br ss).Ok ow H As A ∧ ss = (match k with | .br ss => ss | .own ms => ms) := by
  cases k with
  | br ss => exact ⟨ss, h, rfl⟩
  | own ms =>
    obtain ⟨nd, hm, hf⟩ := h
    refine ⟨ms, fun j hj hn a ha hA => ?_, rfl⟩
    rcases hf a hA with z | ⟨i, hi, z⟩
    · exact S.old ha z
    · obtain ⟨H0, M0, pn, S⟩ := S
      exact S.sep j hj i (fun e => hn (e ▸ hi)) a ha z
def Kd.src : Kd → List Nat
  | .br ss => ss
  | .own ms => ms
theorem Kd.brOk {H : Hp} {As : Nat → List Addr} {A : List Addr} {σ : L2.St} {ρ : Env} (S : On X ow σ ρ H As) (h : k.Ok ow H As A) : (Kd.br k.src).Ok ow H As A := by
  obtain ⟨ss, h, rfl⟩ := Kd.weak (H' := H) S h
  cases k <;> exact h
theorem Kd.sub {H : Hp} {As : Nat → List Addr} {A B : List Addr} {ss ts : List Nat} (h : (Kd.br ss).Ok ow H As A) (hs : ∀ i ∈ ss, i ∈ ts) (hB : ∀ a ∈ B, a ∈ A) : (Kd.br ts).Ok ow H As B :=
  fun j hj hn a ha hb => h j hj (fun z => hn (hs j z)) a ha (hB a hb)
theorem nil_own {H : Hp} {As : Nat → List Addr} : (Kd.own []).Ok ow H As [] := ⟨List.nodup_nil, (fun _ h => by cases h), (fun _ h => by cases h)⟩
/-- as a value of others' -/
theorem de_br (h : DE X W ow k e den) : DE X W ow (.br k.src) e den := by
  obtain ⟨te, p, q⟩ := h
  refine ⟨te, p, fun σ ρ H As Q S g => q σ ρ H As Q S ?_⟩
  cases hd : den ρ with
  | ok d =>
    rw [hd] at g
    intro v H' A sm r z
    exact g v H' A sm r.weak (Kd.brOk S z)
  | exc x =>
    rw [hd] at g
    exact g
  | stk =>
    rw [hd] at g
    exact g
def chk (d : D) : R D := if imm d = true then .ok d else .stk
def chkE (f : Env → R D) : Env → R D := fun ρ => (f ρ).bind chk
/-- a value in which nothing can be changed is everyone's own -/
theorem de_imm (h : DE X W ow k e den) : DE X W ow (.own []) e (chkE den) := by
  obtain ⟨te, p, q⟩ := h
  refine ⟨te, p, fun σ ρ H As Q S g => q σ ρ H As Q S ?_⟩
  unfold chkE at g
  cases hd : den ρ with
  | ok d =>
    rw [hd, R.bind_ok] at g
    unfold chk at g
    by_cases hi : imm d = true
    · rw [if_pos hi] at g
      intro v H' A sm r z
      obtain ⟨rfl, r'⟩ := r.imm hi
      exact g v H' [] sm r' nil_own
    · rw [if_neg hi] at g
      exact g.elim
  | exc x =>
    rw [hd, R.bind_exc] at g
    exact g
  | stk =>
    rw [hd, R.bind_stk] at g
    exact g
/-! ### names, constants -/
def vr (i : Nat) : Env → R D := fun ρ => match ρ[i]? with
  | some (some d) => .ok d
  | _ => .stk
theorem vr_at {i : Nat} {ρ : Env} {d : D} (h : vr i ρ = .ok d) : ρ[i]? = some (some d) := by
  unfold vr at h
  split at h
  · rename_i e q
    cases h
    exact q
  · cases h
theorem vr_not {i : Nat} {ρ : Env} : (∃ d, vr i ρ = .ok d) ∨ vr i ρ = .stk := by
  unfold vr
  split
  · exact .inl ⟨_, rfl⟩
  · exact .inr rfl
theorem de_var {i : Nat} (h : PE X e (tVar i)) : DE X W ow (.br [i]) e (vr i) := by
  refine ⟨_, h, fun σ ρ H As Q S g => ?_⟩
  rcases vr_not (i := i) (ρ := ρ) with ⟨d, hd⟩ | hd
  · rw [hd] at g
    have hS := S
    obtain ⟨H0, M0, pn, S⟩ := S
    obtain ⟨v, hv, r⟩ := S.rep i d (vr_at hd)
    refine ⟨v, hv, g v H (As i) (Same.refl H) r.weak ?_⟩
    intro j hj hn a ha
    exact S.sep j hj i (fun z => hn (by rw [z]; exact List.mem_singleton_self _)) a ha
  · rw [hd] at g
    exact g.elim
/-- a slot's own tree is taken out -/
theorem de_mov {i : Nat} (h : PE X e (tVar i)) (hi : i ∈ ow) : DE X W ow (.own [i]) e (vr i) := by
  refine ⟨_, h, fun σ ρ H As Q S g => ?_⟩
  rcases vr_not (i := i) (ρ := ρ) with ⟨d, hd⟩ | hd
  · rw [hd] at g
    obtain ⟨H0, M0, pn, S⟩ := S
    obtain ⟨v, hv, r⟩ := S.rep i d (vr_at hd)
    rw [contains_mem.mpr hi] at r
    refine ⟨v, hv, g v H (As i) (Same.refl H) r ⟨S.nd i hi, fun j hj => ?_, fun a ha => .inr ⟨i, List.mem_singleton_self _, ha⟩⟩⟩
    rw [List.mem_singleton.mp hj]
    exact hi
  · rw [hd] at g
    exact g.elim
def cst (d : D) : Env → R D := fun _ => .ok d
theorem de_cst {v : V} {d : D} (h : PE X e (tC v)) (r : ∀ K mg H, Rep K mg H true v d []) : DE X W ow (.own []) e (cst d) :=
  ⟨_, h, fun σ ρ H As Q S g => g v H [] (Same.refl H) (r _ _ _) nil_own⟩
theorem de_int {i : Int} {j : Nat} : DE X W ow (.own []) (.Constant (.int i) j pos) (cst (.int i)) := de_cst pe_int fun _ _ _ => .int i
theorem de_str {x : Str} {j : Nat} : DE X W ow (.own []) (.Constant (.str x) j pos) (cst (.str x)) := de_cst pe_str fun _ _ _ => .str x
theorem de_bl {b : Bool} {j : Nat} : DE X W ow (.own []) (.Constant (.bool b) j pos) (cst (.bool b)) := de_cst pe_bl fun _ _ _ => .bl b
theorem de_non {j : Nat} : DE X W ow (.own []) (.Constant .none j pos) (cst .none) := de_cst pe_non fun _ _ _ => .non
theorem de_globI {x : Str} {i : Int} {t : Tok} (hg : Gl X x) (hm : X.mg x = some (.int i t)) (hd : (x == ("__debug__" : Str)) = false := by decide) : DE X W ow (.own []) (.Name x pos) (cst (.int i)) :=
  de_cst (v := .int i) (pe_glob hg hm ⟨t, rfl⟩ hd) fun _ _ _ => .int i
theorem de_globS {x : Str} {i : Str} {t : Tok} (hg : Gl X x) (hm : X.mg x = some (.str i t)) (hd : (x == ("__debug__" : Str)) = false := by decide) : DE X W ow (.own []) (.Name x pos) (cst (.str i)) :=
  de_cst (v := .str i) (pe_glob hg hm ⟨t, rfl⟩ hd) fun _ _ _ => .str i
/-! ### operators -/
def Fresh (X : Cx) (H : Hp) (r : R D) (Q : VK) : Prop := match r with
  | .ok d => ∀ v H' A, Same H H' → Rep X.K X.mg H' true v d A → A.Nodup → (∀ a ∈ A, H a = none) → Q v H'
  | _ => False
theorem fresh_good {σ : L2.St} {H H1 : Hp} {As : Nat → List Addr} {r : R D} {Q : VK} (s : Same H H1) (g : Good X W σ ow (.own []) H As r Q) (hx : ∀ x, r ≠ .exc x) : Fresh X H1 r Q := by
  cases r with
  | ok d => exact fun v H' A sm rp nd fr => g v H' A (s.trans sm) rp ⟨nd, (fun _ h => by cases h), fun a ha => .inl (s.free (fr a ha))⟩
  | exc x => exact hx x rfl
  | stk => exact g
/-- an operation by what its operands stand for -/
def OpD (X : Cx) (f : Value → Value → Sem Value) (g : D → D → R D) : Prop :=
  ∃ r : R2, OpR X f r ∧ (∀ x y z, g x y ≠ .exc z) ∧ ∀ H x y dx dy A B Q, Rep X.K X.mg H false x dx A → Rep X.K X.mg H false y dy B → Fresh X H (g dx dy) Q → r x y H Q
def UnD (X : Cx) (f : Value → Sem Value) (g : D → R D) : Prop :=
  ∃ r : V → Hp → VK → Prop, UnR X f r ∧ (∀ x z, g x ≠ .exc z) ∧ ∀ H x dx A Q, Rep X.K X.mg H false x dx A → Fresh X H (g dx) Q → r x H Q
def b2 (g : D → D → R D) (f1 f2 : Env → R D) : Env → R D := fun ρ => (f1 ρ).bind fun x => (f2 ρ).bind fun y => g x y
def b1 (g : D → R D) (f1 : Env → R D) : Env → R D := fun ρ => (f1 ρ).bind g
theorem t2_good {g : D → D → R D} {ta tb : TE} {r : R2} (h2 : ∀ σ ρ H As Q, On X ow σ ρ H As → Good X W σ ow k2 H As (d2 ρ) Q → tb σ H Q) (h1 : ∀ σ ρ H As Q, On X ow σ ρ H As → Good X W σ ow k1 H As (d1 ρ) Q → ta σ H Q)
    (hg : ∀ x y z, g x y ≠ .exc z) (hr : ∀ H x y dx dy A B Q, Rep X.K X.mg H false x dx A → Rep X.K X.mg H false y dy B → Fresh X H (g dx dy) Q → r x y H Q)
    {σ : L2.St} {ρ : Env} {H : Hp} {As : Nat → List Addr} {Q : VK} (S : On X ow σ ρ H As) (q : Good X W σ ow (.own []) H As (b2 g d1 d2 ρ) Q) : tOp r ta tb σ H Q := by
  refine h1 σ ρ H As _ S ?_
  unfold b2 at q
  cases e1 : d1 ρ with
  | stk =>
    rw [e1] at q
    exact q
  | exc x =>
    rw [e1] at q
    exact q
  | ok dx =>
    rw [e1, R.bind_ok] at q
    intro x H1 A s1 rx _
    refine h2 σ ρ H1 As _ (S.same s1) ?_
    cases e2 : d2 ρ with
    | stk =>
      rw [e2] at q
      exact q
    | exc x =>
      rw [e2] at q
      intro c dd H' B sm rp fx
      exact q c dd H' B (s1.trans sm) rp fun b hb => s1.free (fx b hb)
    | ok dy =>
      rw [e2, R.bind_ok] at q
      intro y H2 B s2 ry _
      exact hr H2 x y dx dy A B Q (rx.weak.same s2) ry.weak (fresh_good (s1.trans s2) q (hg dx dy))
theorem de_op {op : Operator} {g : D → D → R D} (h : OpD X (binaryOp op) g) (h1 : DE X W ow k1 a d1) (h2 : DE X W ow k2 b d2) : DE X W ow (.own []) (.BinOp a op b pos) (b2 g d1 d2) := by
  obtain ⟨r, ho, hg, hr⟩ := h
  obtain ⟨ta, p1, q1⟩ := h1
  obtain ⟨tb, p2, q2⟩ := h2
  exact ⟨_, pe_op ho p1 p2, fun σ ρ H As Q S q => t2_good q2 q1 hg hr S q⟩
theorem de_cmp {op : CmpOp} {g : D → D → R D} (h : OpD X (compareOp op) g) (h1 : DE X W ow k1 a d1) (h2 : DE X W ow k2 b d2) (hm : behindInMarks op b = false) : DE X W ow (.own []) (.Compare a [op] [b] pos) (b2 g d1 d2) := by
  obtain ⟨r, ho, hg, hr⟩ := h
  obtain ⟨ta, p1, q1⟩ := h1
  obtain ⟨tb, p2, q2⟩ := h2
  exact ⟨_, pe_cmpR ho p1 p2 hm, fun σ ρ H As Q S q => t2_good q2 q1 hg hr S q⟩
theorem de_un {op : UnaryOp} {g : D → R D} (h : UnD X (unaryOp op) g) (h1 : DE X W ow k1 a d1) : DE X W ow (.own []) (.UnaryOp op a pos) (b1 g d1) := by
  obtain ⟨r, ho, hg, hr⟩ := h
  obtain ⟨ta, p1, q1⟩ := h1
  refine ⟨_, pe_un ho p1, fun σ ρ H As Q S q => q1 σ ρ H As _ S ?_⟩
  unfold b1 at q
  cases e1 : d1 ρ with
  | stk =>
    rw [e1] at q
    exact q
  | exc x =>
    rw [e1] at q
    exact q
  | ok dx =>
    rw [e1, R.bind_ok] at q
    intro x H1 A s1 rx _
    exact hr H1 x dx A Q rx.weak (fresh_good s1 q (hg dx))
/-! ### tests -/
def tst (d : D) : R Bool := match d with
  | .bool b => .ok b
  | _ => .stk
def tb (f : Env → R D) : Env → R Bool := fun ρ => (f ρ).bind tst
theorem dt_val (h : DE X W ow k e den) (he : ∀ whole, isTrue e X.env whole = (do let v ← whole; standAt e.pos; holding [v] (truthy v)) := by intro _; rfl) : DT X W ow e (tb den) := by
  obtain ⟨te, p, q⟩ := h
  refine ⟨_, pt_val p he, fun σ ρ H As Q S g => q σ ρ H As _ S ?_⟩
  unfold tb at g
  cases hd : den ρ with
  | stk =>
    rw [hd] at g
    exact g
  | exc x =>
    rw [hd] at g
    exact g
  | ok d =>
    rw [hd, R.bind_ok] at g
    intro v H' A sm r _
    cases d with
    | bool b =>
      cases r.weak
      exact ⟨b, rfl, g H' sm⟩
    | _ => exact g.elim
def cmpT (g : D → D → R D) (f1 f2 : Env → R D) : Env → R Bool := tb (b2 g f1 f2)
theorem dt_cmp {op : CmpOp} {g : D → D → R D} (h : OpD X (compareOp op) g) (h1 : DE X W ow k1 a d1) (h2 : DE X W ow k2 b d2) (hm : behindInMarks op b = false) : DT X W ow (.Compare a [op] [b] pos) (tb (b2 g d1 d2)) := by
  obtain ⟨r, ho, hg, hr⟩ := h
  obtain ⟨ta, p1, q1⟩ := h1
  obtain ⟨tb', p2, q2⟩ := h2
  refine ⟨_, pt_cmpR ho p1 p2 hm, fun σ ρ H As Q S q => t2_good (g := g) q2 q1 hg hr S ?_⟩
  unfold tb at q
  cases hd : b2 g d1 d2 ρ with
  | stk =>
    rw [hd] at q
    exact q
  | exc x =>
    rw [hd] at q
    exact q
  | ok d =>
    rw [hd, R.bind_ok] at q
    intro v H' A sm r _
    cases d with
    | bool b =>
      cases r.weak
      exact ⟨b, rfl, q H' sm⟩
    | _ => exact q.elim
def notT (f : Env → R Bool) : Env → R Bool := fun ρ => (f ρ).bind fun b => .ok (!b)
def andT (f g : Env → R Bool) : Env → R Bool := fun ρ => (f ρ).bind fun b => if b = true then g ρ else .ok false
def orT (f g : Env → R Bool) : Env → R Bool := fun ρ => (f ρ).bind fun b => if b = true then .ok true else g ρ
theorem dt_not {f : Env → R Bool} (h : DT X W ow a f) : DT X W ow (.UnaryOp .Not a pos) (notT f) := by
  obtain ⟨te, p, q⟩ := h
  refine ⟨_, pt_not p, fun σ ρ H As Q S g => q σ ρ H As _ S ?_⟩
  unfold notT at g
  cases hd : f ρ with
  | stk =>
    rw [hd] at g
    exact g
  | exc x =>
    rw [hd] at g
    exact g
  | ok d =>
    rw [hd, R.bind_ok] at g
    exact g
theorem dw_and1 {f : Env → R Bool} (h : DT X W ow a f) : DW X W ow (.BoolOp .And [a] pos) f := by
  obtain ⟨te, p, q⟩ := h
  exact ⟨_, pw_and1 p, q⟩
theorem dw_or1 {f : Env → R Bool} (h : DT X W ow a f) : DW X W ow (.BoolOp .Or [a] pos) f := by
  obtain ⟨te, p, q⟩ := h
  exact ⟨_, pw_or1 p, q⟩
theorem dw_and {f g : Env → R Bool} {c : Expr} {rest : List Expr} {pos2 : Pos} (h : DT X W ow a f) (h2 : DW X W ow (.BoolOp .And (b :: rest) pos) g) : DW X W ow (.BoolOp .And (a :: b :: rest) pos) (andT f g) := by
  obtain ⟨te, p, q⟩ := h
  obtain ⟨tf, p2, q2⟩ := h2
  refine ⟨_, pw_and p p2, fun σ ρ H As Q S z => q σ ρ H As _ S ?_⟩
  unfold andT at z
  cases hd : f ρ with
  | stk =>
    rw [hd] at z
    exact z
  | exc x =>
    rw [hd] at z
    exact z
  | ok d =>
    rw [hd, R.bind_ok] at z
    intro H1 s1
    cases d with
    | false =>
      rw [if_neg Bool.false_ne_true] at z
      exact iteF (z H1 s1)
    | true =>
      rw [if_pos rfl] at z
      refine iteT (q2 σ ρ H1 As _ (S.same s1) ?_)
      cases hg : g ρ with
      | stk =>
        rw [hg] at z
        exact z
      | exc x =>
        rw [hg] at z
        exact fun c dd H' A sm r fx => z c dd H' A (s1.trans sm) r fun b hb => s1.free (fx b hb)
      | ok d =>
        rw [hg] at z
        exact fun H' sm => z H' (s1.trans sm)
theorem dw_or {f g : Env → R Bool} {rest : List Expr} (h : DT X W ow a f) (h2 : DW X W ow (.BoolOp .Or (b :: rest) pos) g) : DW X W ow (.BoolOp .Or (a :: b :: rest) pos) (orT f g) := by
  obtain ⟨te, p, q⟩ := h
  obtain ⟨tf, p2, q2⟩ := h2
  refine ⟨_, pw_or p p2, fun σ ρ H As Q S z => q σ ρ H As _ S ?_⟩
  unfold orT at z
  cases hd : f ρ with
  | stk =>
    rw [hd] at z
    exact z
  | exc x =>
    rw [hd] at z
    exact z
  | ok d =>
    rw [hd, R.bind_ok] at z
    intro H1 s1
    cases d with
    | true =>
      rw [if_pos rfl] at z
      exact iteT (z H1 s1)
    | false =>
      rw [if_neg Bool.false_ne_true] at z
      refine iteF (q2 σ ρ H1 As _ (S.same s1) ?_)
      cases hg : g ρ with
      | stk =>
        rw [hg] at z
        exact z
      | exc x =>
        rw [hg] at z
        exact fun c dd H' A sm r fx => z c dd H' A (s1.trans sm) r fun b hb => s1.free (fx b hb)
      | ok d =>
        rw [hg] at z
        exact fun H' sm => z H' (s1.trans sm)
theorem dt_w {f : Env → R Bool} (h : DW X W ow e f) : DT X W ow e f := by
  obtain ⟨te, p, q⟩ := h
  exact ⟨_, p.pt, q⟩
/-- a test of two comparisons: a op b op c -/
def chT (g g' : D → D → R D) (f1 f2 f3 : Env → R D) : Env → R Bool := fun ρ => (f1 ρ).bind fun x => (f2 ρ).bind fun y => ((g x y).bind tst).bind fun b => if b = true then (f3 ρ).bind fun z => (g' y z).bind tst else .ok false
/-! ### if as an expression -/
def ifE (c : Env → R Bool) (f g : Env → R D) : Env → R D := fun ρ => (c ρ).bind fun b => if b = true then f ρ else g ρ
theorem de_if {c : Expr} {f : Env → R Bool} (hc : DT X W ow c f) (h1 : DE X W ow k a d1) (h2 : DE X W ow k b d2) : DE X W ow k (.IfExp c a b pos) (ifE f d1 d2) := by
  obtain ⟨te, p, q⟩ := hc
  obtain ⟨ta, p1, q1⟩ := h1
  obtain ⟨tb', p2, q2⟩ := h2
  refine ⟨_, pe_ifExp p p1 p2, fun σ ρ H As Q S z => q σ ρ H As _ S ?_⟩
  unfold ifE at z
  have tr : ∀ H1, Same H H1 → ∀ r : R D, Good X W σ ow k H As r Q → Good X W σ ow k H1 As r Q := by
    intro H1 s1 r g
    cases r with
    | stk => exact g
    | exc x => exact fun c dd H' A sm r fx => g c dd H' A (s1.trans sm) r fun b hb => s1.free (fx b hb)
    | ok d =>
      intro v H' A sm rp ok
      refine g v H' A (s1.trans sm) rp ?_
      cases k with
      | br ss => exact ok
      | own ms => exact ⟨ok.1, ok.2.1, fun a ha => (ok.2.2 a ha).imp (fun z => s1.free z) id⟩
  cases hd : f ρ with
  | stk =>
    rw [hd] at z
    exact z
  | exc x =>
    rw [hd] at z
    exact z
  | ok d =>
    rw [hd, R.bind_ok] at z
    intro H1 s1
    cases d with
    | true =>
      rw [if_pos rfl] at z
      exact iteT (q1 σ ρ H1 As _ (S.same s1) (tr H1 s1 _ z))
    | false =>
      rw [if_neg Bool.false_ne_true] at z
      exact iteF (q2 σ ρ H1 As _ (S.same s1) (tr H1 s1 _ z))
end
end Dg

namespace Dg
open PySem PySem.Spec PyProof.Rows L2
section
variable {X : Cx} {W : WX} {ow : List Nat} {k k1 k2 : Kd} {e a b : Expr} {den d1 d2 : Env → R D} {pos : Pos}
/-! ### what may be compared: no dicts, not too deep -/
def okD (d : D) : Bool := flat d && d.plain && decide (d.depth ≤ 60)
theorem okD.flat {d : D} (h : okD d = true) : flat d = true := by
  unfold okD at h
  simp only [Bool.and_eq_true] at h
  exact h.1.1
theorem okD.plain {d : D} (h : okD d = true) : d.plain = true := by
  unfold okD at h
  simp only [Bool.and_eq_true] at h
  exact h.1.2
theorem okD.depth {d : D} (h : okD d = true) : d.depth ≤ 60 := by
  unfold okD at h
  simp only [Bool.and_eq_true, decide_eq_true_eq] at h
  exact h.2
theorem opD_bool {f : Value → Value → Sem Value} {g : D → D → R D} (hg : ∀ x y z, g x y ≠ .exc z) (hb : ∀ x y d, g x y = .ok d → (∃ b, d = .bool b) ∧ Dg.flat x = true ∧ Dg.flat y = true)
    (run : ∀ (s : Shared) (v u : Value) (d e : D) (b : Bool) (as bs : List Addr) (Q E : Value → Shared → Prop), Reads s.heap v d as → Reads s.heap u e bs → g d e = .ok (.bool b) → Q (.bool b) s → wpAny (model X.prog X.w) X.A (f v u) Q E s) : OpD X f g := by
  refine ⟨fun x y H Q => ∃ d e b, Dp X.K H x d ∧ Dp X.K H y e ∧ g d e = .ok (.bool b) ∧ Q (.bl b) H, ?_, hg, ?_⟩
  · intro pins s σ H x y v u Q I rx ry h
    obtain ⟨d, e, b, hd, he, hq, q⟩ := h
    obtain ⟨as, r1⟩ := Dp.reads I d x v hd rx
    obtain ⟨bs, r2⟩ := Dp.reads I e y u he ry
    exact run s v u d e b as bs _ _ r1 r2 hq ⟨.bl _, H, I, rfl, q⟩
  · intro H x y dx dy A B Q r1 r2 h
    cases e : g dx dy with
    | ok d =>
      obtain ⟨⟨b, rfl⟩, f1, f2⟩ := hb dx dy d e
      refine ⟨dx, dy, b, r1.dp f1, r2.dp f2, e, ?_⟩
      rw [e] at h
      exact h (.bl b) H [] (Same.refl H) (.bl b) List.nodup_nil fun a ha => by cases ha
    | exc z => exact absurd e (hg dx dy z)
    | stk =>
      rw [e] at h
      exact h.elim
def dEq (x y : D) : R D := if (okD x && okD y) = true then .ok (.bool (PyData.eqv x y)) else .stk
def dNe (x y : D) : R D := if (okD x && okD y) = true then .ok (.bool (!PyData.eqv x y)) else .stk
theorem gif {c : Bool} {z : D} {d : D} (h : (if c = true then R.ok z else R.stk) = R.ok d) : c = true ∧ z = d := by
  cases c with
  | true =>
    rw [if_pos rfl] at h
    cases h
    exact ⟨rfl, rfl⟩
  | false =>
    rw [if_neg Bool.false_ne_true] at h
    cases h
theorem gifx {c : Bool} {z : D} {x : Exn} : (if c = true then R.ok z else R.stk) ≠ R.exc x := by
  cases c with
  | true =>
    rw [if_pos rfl]
    intro h
    cases h
  | false =>
    rw [if_neg Bool.false_ne_true]
    intro h
    cases h
theorem units60 (hu : X.A.units + 64 < cLine) {d e : D} (h : d.depth ≤ 60) : X.A.units + 1 + min d.depth e.depth < cLine := by
  have := Nat.min_le_left d.depth e.depth
  omega
theorem units60' (hu : X.A.units + 64 < cLine) {d e : D} (h : d.depth ≤ 60) : X.A.units + min d.depth e.depth < cLine := by
  have := Nat.min_le_left d.depth e.depth
  omega
theorem op_dEq (hu : X.A.units + 64 < cLine) : OpD X (compareOp .Eq) dEq := by
  refine opD_bool (fun _ _ _ => gifx) (fun x y d h => ?_) fun s v u d e b as bs Q E r1 r2 h q => ?_
  · obtain ⟨h1, rfl⟩ := gif h
    rw [Bool.and_eq_true] at h1
    exact ⟨⟨_, rfl⟩, okD.flat h1.1, okD.flat h1.2⟩
  · obtain ⟨h1, h2⟩ := gif h
    rw [Bool.and_eq_true] at h1
    cases h2
    exact SeqAt.eq_plain r1 r2 (okD.plain h1.1) (okD.plain h1.2) (units60' hu (okD.depth h1.1)) q
theorem op_dNe (hu : X.A.units + 64 < cLine) : OpD X (compareOp .NotEq) dNe := by
  refine opD_bool (fun _ _ _ => gifx) (fun x y d h => ?_) fun s v u d e b as bs Q E r1 r2 h q => ?_
  · obtain ⟨h1, rfl⟩ := gif h
    rw [Bool.and_eq_true] at h1
    exact ⟨⟨_, rfl⟩, okD.flat h1.1, okD.flat h1.2⟩
  · obtain ⟨h1, h2⟩ := gif h
    rw [Bool.and_eq_true] at h1
    cases h2
    exact SeqAt.ne_plain r1 r2 (okD.plain h1.1) (okD.plain h1.2) (units60' hu (okD.depth h1.1)) q
/-! ### order -/
def isNone : D → Bool
  | .none => true
  | _ => false
theorem isNone_ne {d : D} (h : isNone d = false) : d ≠ .none := fun z => by
  subst z
  cases h
def ordD (x y : D) : Bool := (okD x && okD y) && (PySem.W.alike x y && !isNone x)
def dLt (x y : D) : R D := if ordD x y = true then .ok (.bool (PySem.W.dataLt x y)) else .stk
def dGt (x y : D) : R D := if ordD x y = true then .ok (.bool (PySem.W.dataLt y x)) else .stk
def dLe (x y : D) : R D := if ordD x y = true then .ok (.bool (!PySem.W.dataLt y x)) else .stk
def dGe (x y : D) : R D := if ordD x y = true then .ok (.bool (!PySem.W.dataLt x y)) else .stk
theorem ordD_all {x y : D} (h : ordD x y = true) : okD x = true ∧ okD y = true ∧ PySem.W.alike x y = true ∧ x ≠ .none := by
  unfold ordD at h
  simp only [Bool.and_eq_true, Bool.not_eq_true'] at h
  exact ⟨h.1.1, h.1.2, h.2.1, isNone_ne h.2.2⟩
theorem op_dLt (hu : X.A.units + 64 < cLine) : OpD X (compareOp .Lt) dLt := by
  refine opD_bool (fun _ _ _ => gifx) (fun x y d h => ?_) fun s v u d e b as bs Q E r1 r2 h q => ?_
  · obtain ⟨h1, rfl⟩ := gif h
    obtain ⟨p1, p2, p3, p4⟩ := ordD_all h1
    exact ⟨⟨_, rfl⟩, okD.flat p1, okD.flat p2⟩
  · obtain ⟨h1, h2⟩ := gif h
    obtain ⟨p1, p2, p3, p4⟩ := ordD_all h1
    cases h2
    exact PySem.W.lt_data r1 r2 p3 p4 (units60' hu (okD.depth p1)) q
theorem op_dGt (hu : X.A.units + 64 < cLine) : OpD X (compareOp .Gt) dGt := by
  refine opD_bool (fun _ _ _ => gifx) (fun x y d h => ?_) fun s v u d e b as bs Q E r1 r2 h q => ?_
  · obtain ⟨h1, rfl⟩ := gif h
    obtain ⟨p1, p2, p3, p4⟩ := ordD_all h1
    exact ⟨⟨_, rfl⟩, okD.flat p1, okD.flat p2⟩
  · obtain ⟨h1, h2⟩ := gif h
    obtain ⟨p1, p2, p3, p4⟩ := ordD_all h1
    cases h2
    exact PySem.W.gt_data r1 r2 p3 p4 (units60' hu (okD.depth p1)) q
theorem op_dLe (hu : X.A.units + 64 < cLine) : OpD X (compareOp .LtE) dLe := by
  refine opD_bool (fun _ _ _ => gifx) (fun x y d h => ?_) fun s v u d e b as bs Q E r1 r2 h q => ?_
  · obtain ⟨h1, rfl⟩ := gif h
    obtain ⟨p1, p2, p3, p4⟩ := ordD_all h1
    exact ⟨⟨_, rfl⟩, okD.flat p1, okD.flat p2⟩
  · obtain ⟨h1, h2⟩ := gif h
    obtain ⟨p1, p2, p3, p4⟩ := ordD_all h1
    cases h2
    exact PySem.W.le_data r1 r2 p3 p4 (units60' hu (okD.depth p1)) q
theorem op_dGe (hu : X.A.units + 64 < cLine) : OpD X (compareOp .GtE) dGe := by
  refine opD_bool (fun _ _ _ => gifx) (fun x y d h => ?_) fun s v u d e b as bs Q E r1 r2 h q => ?_
  · obtain ⟨h1, rfl⟩ := gif h
    obtain ⟨p1, p2, p3, p4⟩ := ordD_all h1
    exact ⟨⟨_, rfl⟩, okD.flat p1, okD.flat p2⟩
  · obtain ⟨h1, h2⟩ := gif h
    obtain ⟨p1, p2, p3, p4⟩ := ordD_all h1
    cases h2
    exact PySem.W.ge_data r1 r2 p3 p4 (units60' hu (okD.depth p1)) q
/-! ### is None -/
def dIsN (x y : D) : R D := match x, y with
  | .none, .none => .ok (.bool true)
  | .bool _, .none => .ok (.bool false)
  | .int _, .none => .ok (.bool false)
  | .str _, .none => .ok (.bool false)
  | .list _, .none => .ok (.bool false)
  | .tuple _, .none => .ok (.bool false)
  | .dict _, .none => .ok (.bool false)
  | _, _ => .stk
def dNotN (x y : D) : R D := (dIsN x y).bind fun d => match d with
  | .bool b => .ok (.bool (!b))
  | _ => .stk
theorem op_dIsN : OpD X (compareOp .Is) dIsN := by
  refine ⟨_, op_isN, fun x y z h => ?_, fun H x y dx dy A B Q r1 r2 h => ?_⟩
  · unfold dIsN at h
    split at h <;> cases h
  · unfold dIsN at h
    split at h <;> first
      | exact h.elim
      | (cases r2; cases r1 <;> exact ⟨rfl, h _ H [] (Same.refl H) (.bl _) List.nodup_nil fun a ha => by cases ha⟩)
theorem op_dNotN : OpD X (compareOp .IsNot) dNotN := by
  refine ⟨_, op_notN, fun x y z h => ?_, fun H x y dx dy A B Q r1 r2 h => ?_⟩
  · unfold dNotN dIsN at h
    split at h <;> cases h
  · unfold dNotN dIsN at h
    split at h <;> first
      | exact h.elim
      | (cases r2; cases r1 <;> exact ⟨rfl, h _ H [] (Same.refl H) (.bl _) List.nodup_nil fun a ha => by cases ha⟩)
/-! ### in, not in -/
def dIn (x y : D) : R D := match y with
  | .list ys => if (okD x && okD (.list ys)) = true then .ok (.bool (ys.any fun z => PyData.eqv z x)) else .stk
  | .tuple ys => if (okD x && okD (.tuple ys)) = true then .ok (.bool (ys.any fun z => PyData.eqv z x)) else .stk
  | .str t => match x with
    | .str z => .ok (.bool (!(Builtin.Str.occurrences t z 0 t.length 1).isEmpty))
    | _ => .stk
  | .dict kvs => match x with
    | .str z => .ok (.bool (kvs.any fun p => PyData.eqv p.1 (.str z)))
    | _ => .stk
  | _ => .stk
end
end Dg

namespace Dg
open PySem PySem.Spec PyProof.Rows L2
section
variable {X : Cx} {W : WX} {ow : List Nat} {k k1 k2 : Kd} {e a b : Expr} {den d1 d2 : Env → R D} {pos : Pos}
theorem fresh_imm {H : Hp} {d : D} {Q : VK} {v : V} (r : ∀ K mg H, Rep K mg H true v d []) (h : Fresh X H (.ok d) Q) : Q v H := h v H [] (Same.refl H) (r _ _ _) List.nodup_nil fun a ha => by cases ha
/-! ### numbers -/
def dAdd (x y : D) : R D := match x, y with
  | .int i, .int j => .ok (.int (i + j))
  | .str s, .str t => if s.length + t.length ≤ sizeLine then .ok (.str (s ++ t)) else .stk
  | .list xs, .list ys => if (immL xs && immL ys) = true ∧ xs.length + ys.length ≤ sizeLine then .ok (.list (xs ++ ys)) else .stk
  | .tuple xs, .tuple ys => if (immL xs && immL ys) = true ∧ xs ≠ [] ∧ xs.length + ys.length ≤ sizeLine then .ok (.tuple (xs ++ ys)) else .stk
  | _, _ => .stk
theorem op_dAdd : OpD X (binaryOp .Add) dAdd := by
  refine ⟨_, op_add.or (op_add_str.or (op_cat.or op_catT)), fun x y z h => ?_, fun H x y dx dy A B Q r1 r2 h => ?_⟩
  · unfold dAdd at h
    split at h <;> first | (cases h; done) | (split at h <;> cases h)
  · unfold dAdd at h
    split at h
    · cases r1
      cases r2
      exact .inl ⟨_, _, rfl, rfl, fresh_imm (fun _ _ _ => .int _) h⟩
    · cases r1
      cases r2
      split at h
      · rename_i hz
        exact .inr (.inl ⟨_, _, rfl, rfl, hz, fresh_imm (fun _ _ _ => .str _) h⟩)
      · exact h.elim
    · split at h
      · rename_i hz
        rw [Bool.and_eq_true] at hz
        cases r1 with
        | lst h1 l1 =>
          cases r2 with
          | lst h2 l2 =>
            obtain ⟨e1, q1⟩ := l1.imm hz.1.1
            obtain ⟨e2, q2⟩ := l2.imm hz.1.2
            refine .inr (.inr (.inl ⟨_, _, _, _, rfl, rfl, h1, h2, (by rw [l1.len, l2.len]; exact hz.2), fun p hp => ?_⟩))
            exact h _ _ [p] (same_upd hp) (.lst upd_same ((q1.same (same_upd hp)).app (q2.same (same_upd hp)))) (List.nodup_cons.mpr ⟨(by intro z; cases z), List.nodup_nil⟩) fun a ha => by
              rw [List.mem_singleton.mp ha]
              exact hp
      · exact h.elim
    · split at h
      · rename_i xs ys hz
        rw [Bool.and_eq_true] at hz
        cases r1 with
        | tup h1 l1 =>
          cases r2 with
          | tup h2 l2 =>
            obtain ⟨e1, q1⟩ := l1.imm hz.1.1
            obtain ⟨e2, q2⟩ := l2.imm hz.1.2
            refine .inr (.inr (.inr ⟨_, _, _, _, rfl, rfl, h1, h2, (fun z => hz.2.1 (List.length_eq_zero_iff.mp (by rw [← l1.len, z]; rfl))), (by rw [l1.len, l2.len]; exact hz.2.2), fun z => ?_, fun z p hp => ?_⟩))
            · have ey : ys = [] := List.length_eq_zero_iff.mp (by rw [← l2.len, z]; rfl)
              subst ey
              rw [List.append_nil] at h
              exact h _ H [] (Same.refl H) (.tup h1 q1) List.nodup_nil fun a ha => by cases ha
            · exact h _ _ [] (same_upd hp) (.tup (.inl (.inl upd_same)) ((q1.same (same_upd hp)).app (q2.same (same_upd hp)))) List.nodup_nil fun a ha => by cases ha
      · exact h.elim
    · exact h.elim
def dSub (x y : D) : R D := match x, y with
  | .int i, .int j => .ok (.int (i - j))
  | _, _ => .stk
theorem op_dSub : OpD X (binaryOp .Sub) dSub := by
  refine ⟨_, op_sub, fun x y z h => ?_, fun H x y dx dy A B Q r1 r2 h => ?_⟩
  · unfold dSub at h
    split at h <;> cases h
  · unfold dSub at h
    split at h
    · cases r1
      cases r2
      exact ⟨_, _, rfl, rfl, fresh_imm (fun _ _ _ => .int _) h⟩
    · exact h.elim
def smallI (i : Int) : Bool := decide (-(2 ^ 64) < i ∧ i < 2 ^ 64)
def dMul (x y : D) : R D := match x, y with
  | .int i, .int j => if (smallI i || smallI j) = true then .ok (.int (i * j)) else .stk
  | .str s, .int j => if 0 ≤ j ∧ j < 1000 ∧ s.length ≤ 1000 then .ok (.str ⟨(List.replicate j.toNat s.cps.toList).flatten.toArray⟩) else .stk
  | _, _ => .stk
def dMod (x y : D) : R D := match x, y with
  | .int i, .int j => if 0 < j then .ok (.int (i % j)) else .stk
  | _, _ => .stk
theorem op_dMod : OpD X (binaryOp .Mod) dMod := by
  refine ⟨_, op_mod, fun x y z h => ?_, fun H x y dx dy A B Q r1 r2 h => ?_⟩
  · unfold dMod at h
    split at h <;> first | (cases h; done) | (split at h <;> cases h)
  · unfold dMod at h
    split at h
    · cases r1
      cases r2
      split at h
      · rename_i hz
        exact ⟨_, _, rfl, rfl, hz, fresh_imm (fun _ _ _ => .int _) h⟩
      · exact h.elim
    · exact h.elim
def dDiv (x y : D) : R D := match x, y with
  | .int i, .int j => if 0 < j ∧ j < 1073741824 then .ok (.int (i / j)) else .stk
  | _, _ => .stk
theorem op_dDiv : OpD X (binaryOp .FloorDiv) dDiv := by
  refine ⟨_, op_fdiv, fun x y z h => ?_, fun H x y dx dy A B Q r1 r2 h => ?_⟩
  · unfold dDiv at h
    split at h <;> first | (cases h; done) | (split at h <;> cases h)
  · unfold dDiv at h
    split at h
    · cases r1
      cases r2
      split at h
      · rename_i hz
        exact ⟨_, _, rfl, rfl, hz, fresh_imm (fun _ _ _ => .int _) h⟩
      · exact h.elim
    · exact h.elim
def dPow (x y : D) : R D := match x, y with
  | .int i, .int j => if 0 ≤ j ∧ j ≤ 1000000 ∧ i.natAbs < 2 ^ 64 then .ok (.int (i ^ j.toNat)) else .stk
  | _, _ => .stk
theorem op_dPow : OpD X (binaryOp .Pow) dPow := by
  refine ⟨_, op_pow, fun x y z h => ?_, fun H x y dx dy A B Q r1 r2 h => ?_⟩
  · unfold dPow at h
    split at h <;> first | (cases h; done) | (split at h <;> cases h)
  · unfold dPow at h
    split at h
    · cases r1
      cases r2
      split at h
      · rename_i hz
        exact ⟨_, _, rfl, rfl, hz, fresh_imm (fun _ _ _ => .int _) h⟩
      · exact h.elim
    · exact h.elim
def dNeg (x : D) : R D := match x with
  | .int i => .ok (.int (-i))
  | _ => .stk
theorem un_dNeg : UnD X (unaryOp .USub) dNeg := by
  refine ⟨_, un_neg, fun x z h => ?_, fun H x dx A Q r1 h => ?_⟩
  · unfold dNeg at h
    split at h <;> cases h
  · unfold dNeg at h
    split at h
    · cases r1
      exact ⟨_, rfl, fresh_imm (fun _ _ _ => .int _) h⟩
    · exact h.elim
/-! ### in, not in -/
def dInS (neg : Bool) (x y : D) : R D := match y with
  | .list ys => if (okD x && okD (.list ys)) = true then .ok (.bool (neg != ys.any fun z => PyData.eqv z x)) else .stk
  | .tuple ys => if (okD x && okD (.tuple ys)) = true then .ok (.bool (neg != ys.any fun z => PyData.eqv z x)) else .stk
  | .str t => match x with
    | .str z => match z.cps.toList with
      | [c] => .ok (.bool (neg != decide (c ∈ t.cps.toList)))
      | _ => .stk
    | _ => .stk
  | _ => .stk
theorem one_sign {z : Str} {c : Nat} (h : z.cps.toList = [c]) : z = ⟨#[c]⟩ := by
  cases z with
  | mk a =>
    have e : a = #[c] := Array.toList_inj.mp h
    rw [e]
theorem okL_flat {ys : List D} (h : okD (.list ys) = true) : Dg.flat (.list ys) = true ∧ PyData.plainAll ys = true ∧ PyData.depthAll ys ≤ 60 := by
  refine ⟨okD.flat h, ?_, ?_⟩
  · have := okD.plain h
    rw [PyData.plain] at this
    exact this
  · have := okD.depth h
    rw [PyData.depth] at this
    omega
theorem okT_flat {ys : List D} (h : okD (.tuple ys) = true) : Dg.flat (.tuple ys) = true ∧ PyData.plainAll ys = true ∧ PyData.depthAll ys ≤ 60 := by
  refine ⟨okD.flat h, ?_, ?_⟩
  · have := okD.plain h
    rw [PyData.plain] at this
    exact this
  · have := okD.depth h
    rw [PyData.depth] at this
    omega
theorem gife {c : Bool} {z w : D} (h : (if c = true then R.ok z else R.stk) = R.ok w) : c = true ∧ z = w := gif h
theorem op_dInS (hu : X.A.units + 64 < cLine) : OpD X (compareOp .In) (dInS false) := by
  refine opD_bool (fun x y z h => ?_) (fun x y d h => ?_) fun s v u d e b as bs Q E r1 r2 h q => ?_
  · unfold dInS at h
    split at h <;> first | (cases h; done) | exact gifx h | (split at h <;> first | (cases h; done) | (split at h <;> cases h))
  · unfold dInS at h
    split at h
    · obtain ⟨h1, rfl⟩ := gif h
      rw [Bool.and_eq_true] at h1
      exact ⟨⟨_, rfl⟩, okD.flat h1.1, okD.flat h1.2⟩
    · obtain ⟨h1, rfl⟩ := gif h
      rw [Bool.and_eq_true] at h1
      exact ⟨⟨_, rfl⟩, okD.flat h1.1, okD.flat h1.2⟩
    · split at h
      · split at h
        · cases h
          exact ⟨⟨_, rfl⟩, rfl, rfl⟩
        · cases h
      · cases h
    · cases h
  · unfold dInS at h
    split at h
    · obtain ⟨h1, h2⟩ := gif h
      rw [Bool.and_eq_true] at h1
      obtain ⟨_, p2, p3⟩ := okL_flat h1.2
      cases h2
      refine SeqAt.in_list_data r2 r1 p2 (okD.plain h1.1) ?_ (by rw [Bool.false_bne] at q; exact q)
      have := Nat.min_le_left (PyData.depthAll ‹List D›) d.depth
      omega
    · obtain ⟨h1, h2⟩ := gif h
      rw [Bool.and_eq_true] at h1
      obtain ⟨_, p2, p3⟩ := okT_flat h1.2
      cases h2
      refine SeqAt.in_tuple_data r2 r1 p2 (okD.plain h1.1) ?_ (by rw [Bool.false_bne] at q; exact q)
      have := Nat.min_le_left (PyData.depthAll ‹List D›) d.depth
      omega
    · split at h
      · split at h
        · rename_i hc
          cases h
          cases r1
          cases r2
          rw [one_sign hc]
          refine PyProof.Rows.in_str ?_
          rw [PySem.StrLaws.found_one]
          rw [Bool.false_bne] at q
          exact q
        · cases h
      · cases h
    · cases h
theorem op_dNotIn (hu : X.A.units + 64 < cLine) : OpD X (compareOp .NotIn) (dInS true) := by
  refine opD_bool (fun x y z h => ?_) (fun x y d h => ?_) fun s v u d e b as bs Q E r1 r2 h q => ?_
  · unfold dInS at h
    split at h <;> first | (cases h; done) | exact gifx h | (split at h <;> first | (cases h; done) | (split at h <;> cases h))
  · unfold dInS at h
    split at h
    · obtain ⟨h1, rfl⟩ := gif h
      rw [Bool.and_eq_true] at h1
      exact ⟨⟨_, rfl⟩, okD.flat h1.1, okD.flat h1.2⟩
    · obtain ⟨h1, rfl⟩ := gif h
      rw [Bool.and_eq_true] at h1
      exact ⟨⟨_, rfl⟩, okD.flat h1.1, okD.flat h1.2⟩
    · split at h
      · split at h
        · cases h
          exact ⟨⟨_, rfl⟩, rfl, rfl⟩
        · cases h
      · cases h
    · cases h
  · unfold dInS at h
    split at h
    · obtain ⟨h1, h2⟩ := gif h
      rw [Bool.and_eq_true] at h1
      obtain ⟨_, p2, p3⟩ := okL_flat h1.2
      cases h2
      refine SeqAt.notIn_list_data r2 r1 p2 (okD.plain h1.1) ?_ (by rw [Bool.true_bne] at q; exact q)
      have := Nat.min_le_left (PyData.depthAll ‹List D›) d.depth
      omega
    · obtain ⟨h1, h2⟩ := gif h
      rw [Bool.and_eq_true] at h1
      obtain ⟨_, p2, p3⟩ := okT_flat h1.2
      cases h2
      refine SeqAt.notIn_tuple_data r2 r1 p2 (okD.plain h1.1) ?_ (by rw [Bool.true_bne] at q; exact q)
      have := Nat.min_le_left (PyData.depthAll ‹List D›) d.depth
      omega
    · split at h
      · split at h
        · rename_i hc
          cases h
          cases r1
          cases r2
          rw [one_sign hc]
          refine PyProof.Rows.notIn_str ?_
          rw [PySem.StrLaws.found_one]
          rw [Bool.true_bne] at q
          exact q
        · cases h
      · cases h
    · cases h
end
end Dg

namespace Dg
open PySem PySem.Spec PyProof.Rows L2
section
variable {X : Cx} {W : WX} {ow : List Nat} {k k1 k2 k3 : Kd} {e a b c : Expr} {den d1 d2 d3 : Env → R D} {pos p2 : Pos}
theorem repL_drop {K : PySem.W.Frag} {mg : Str → Option Value} {H : Hp} {o : Bool} : ∀ (n : Nat) {v : List V} {d : List D} {A : List Addr}, RepL K mg H o v d A → ∃ B, RepL K mg H o (v.drop n) (d.drop n) B ∧ ∀ a ∈ B, a ∈ A
  | 0, _, _, _, h => ⟨_, h, fun _ z => z⟩
  | _ + 1, _, _, _, .nil => ⟨_, .nil, fun _ z => z⟩
  | n + 1, _, _, _, .cons _ r => by
    obtain ⟨B, h, q⟩ := repL_drop n r
    exact ⟨B, h, fun a ha => List.mem_append_right _ (q a ha)⟩
theorem repL_take {K : PySem.W.Frag} {mg : Str → Option Value} {H : Hp} {o : Bool} : ∀ (n : Nat) {v : List V} {d : List D} {A : List Addr}, RepL K mg H o v d A → ∃ B, RepL K mg H o (v.take n) (d.take n) B ∧ ∀ a ∈ B, a ∈ A
  | 0, _, _, _, h => ⟨[], .nil, fun _ z => by cases z⟩
  | _ + 1, _, _, _, .nil => ⟨_, .nil, fun _ z => z⟩
  | n + 1, _, _, _, .cons h r => by
    obtain ⟨B, h', q⟩ := repL_take n r
    exact ⟨_, .cons h h', fun a ha => by
      rcases List.mem_append.mp ha with z | z
      · exact List.mem_append_left _ z
      · exact List.mem_append_right _ (q a z)⟩
def cutA {α : Type} (xs : List α) (lo hi : Option Int) : List α := (xs.drop (HT.sIx xs.length 0 lo)).take (HT.sIx xs.length xs.length hi - HT.sIx xs.length 0 lo)
theorem repL_cut {K : PySem.W.Frag} {mg : Str → Option Value} {H : Hp} {v : List V} {d : List D} (lo hi : Option Int) (h : RepL K mg H true v d []) : RepL K mg H true (cutV v lo hi) (cutA d lo hi) [] := by
  unfold cutV cutA
  rw [h.len]
  obtain ⟨B, h1, q1⟩ := repL_drop (HT.sIx d.length 0 lo) h
  obtain ⟨C, h2, q2⟩ := repL_take (HT.sIx d.length d.length hi - HT.sIx d.length 0 lo) h1
  cases C with
  | nil => exact h2
  | cons a C => exact absurd (q1 a (q2 a List.mem_cons_self)) (by intro z; cases z)
/-! ### subscripts -/
def ofO (o : Option D) : R D := match o with
  | some d => .ok d
  | none => .stk
def keq : D → D → Bool
  | .str a, .str b => decide (a = b)
  | .int a, .int b => decide (a = b)
  | _, _ => false
def lookD : List (D × D) → D → Option D
  | [], _ => none
  | (q, d) :: r, k => if keq q k = true then some d else lookD r k
def dIx (x y : D) : R D := match x, y with
  | .list xs, .int i => ofO (atI xs i)
  | .tuple xs, .int i => ofO (atI xs i)
  | .str s, .int i => if s.length ≤ sizeLine then ofO ((atI s.cps.toList i).map fun c => .str ⟨#[c]⟩) else .stk
  | .dict ((.none, .list xs) :: _), .int i => ofO (atI xs i)
  | .dict ((.none, _) :: _), _ => .stk
  | .dict kvs, y => ofO (lookD kvs y)
  | _, _ => .stk
theorem atI_get {α β : Type} {xs : List α} {ys : List β} {i : Int} {x : α} (hl : xs.length = ys.length) (h : atI xs i = some x) : ∃ j : Nat, xs[j]? = some x ∧ ∀ y, ys[j]? = some y → atI ys i = some y := by
  unfold atI at h
  cases e : ixN xs.length i with
  | none =>
    rw [e] at h
    cases h
  | some j =>
    rw [e] at h
    refine ⟨j, h, fun y hy => ?_⟩
    unfold atI
    rw [← hl, e]
    exact hy
theorem keq_iff {k : Key} {q : D} : keq (kD k) q = true ↔ q = kD k := by
  cases k with
  | inl i =>
    cases q <;> simp [keq, kD, eq_comm]
  | inr i =>
    cases q <;> simp [keq, kD, eq_comm]
theorem kD_inj {k l : Key} (h : kD k = kD l) : k = l := by
  cases k <;> cases l <;> first | (cases h; rfl) | cases h
theorem lookD_key {K : PySem.W.Frag} {mg : Str → Option Value} {H : Hp} {o : Bool} {y : D} {d : D} : ∀ {vs : List (Key × V)} {ds : List (D × D)} {A : List Addr}, RepP K mg H o vs ds A → lookD ds y = some d → ∃ k v B, y = kD k ∧ valV vs k = some v ∧ Rep K mg H o v d B ∧ ∀ a ∈ B, a ∈ A
  | _, _, _, .nil, e => by cases e
  | _, _, _, .cons (k := k) (v := v) h r, e => by
    unfold lookD at e
    by_cases hk : keq (kD k) y = true
    · rw [if_pos hk] at e
      cases e
      exact ⟨k, v, _, keq_iff.mp hk, valV_pos rfl, h, fun a ha => List.mem_append_left _ ha⟩
    · rw [if_neg hk] at e
      obtain ⟨l, w, B, e1, e2, e3, e4⟩ := lookD_key r e
      refine ⟨l, w, B, e1, ?_, e3, fun a ha => List.mem_append_right _ (e4 a ha)⟩
      rw [valV_neg]
      · exact e2
      · intro z
        apply hk
        rw [keq_iff, e1]
        exact congrArg kD z.symm
theorem rep_key {K : PySem.W.Frag} {mg : Str → Option Value} {H : Hp} {o : Bool} {k : Key} {v : V} {A : List Addr} (h : Rep K mg H o v (kD k) A) : v = kV k := by
  cases k with
  | inl i =>
    cases h
    rfl
  | inr i =>
    cases h
    rfl
theorem dIx_exc {x y : D} {z : Exn} : dIx x y ≠ .exc z := by
  intro h
  unfold dIx ofO at h
  split at h <;> first | (cases h; done) | (split at h <;> first | (cases h; done) | (split at h <;> cases h))
theorem repP_tag {K : PySem.W.Frag} {mg : Str → Option Value} {H : Hp} {o : Bool} {vs : List (Key × V)} {d : D} {ds : List (D × D)} {A : List Addr} (h : RepP K mg H o vs ((.none, d) :: ds) A) : False := by
  generalize e : ((PyData.none, d) :: ds) = q at h
  cases h with
  | nil => cases e
  | cons h r =>
    rename_i k v d' vs' ds' A' B'
    injection e with e1 e2
    injection e1 with e3 e4
    cases k <;> cases e3
/-- what is at y of x, in the abstract heap -/
theorem dIx_run {K : PySem.W.Frag} {mg : Str → Option Value} {H : Hp} {x y : V} {dx dy d : D} {A B : List Addr} (r1 : Rep K mg H false x dx A) (r2 : Rep K mg H false y dy B) (h : dIx dx dy = .ok d) :
    ∃ v C, Rep K mg H false v d C ∧ (∀ a ∈ C, a ∈ A) ∧ ((∀ Q : VK, Q v H → rIx K x y H Q) ∨ ∃ a, x = .ref a ∧ DGet H a y (some v)) := by
  unfold dIx at h
  split at h
  · cases r2
    cases r1 with
    | lst h1 l1 =>
      cases e : atI ‹List D› ‹Int› with
      | none =>
        rw [e] at h
        cases h
      | some z =>
        rw [e] at h
        cases h
        obtain ⟨j, hj, hr⟩ := atI_get l1.len.symm e
        obtain ⟨v, C, hv, rv, hc⟩ := l1.get hj
        exact ⟨v, C, rv, (fun a ha => List.mem_cons_of_mem _ (hc a ha)), .inl fun Q q => .inl ⟨_, _, _, _, rfl, rfl, .inl (.inl h1), hr v hv, q⟩⟩
  · cases r2
    cases r1 with
    | tup h1 l1 =>
      cases e : atI ‹List D› ‹Int› with
      | none =>
        rw [e] at h
        cases h
      | some z =>
        rw [e] at h
        cases h
        obtain ⟨j, hj, hr⟩ := atI_get l1.len.symm e
        obtain ⟨v, C, hv, rv, hc⟩ := l1.get hj
        exact ⟨v, C, rv, hc, .inl fun Q q => .inr (.inl ⟨_, _, _, _, rfl, rfl, h1, hr v hv, q⟩)⟩
  · cases r2
    cases r1
    split at h
    · rename_i hz
      cases e : atI (Str.cps ‹Str›).toList ‹Int› with
      | none =>
        rw [e] at h
        cases h
      | some z =>
        rw [e] at h
        cases h
        exact ⟨_, [], .str _, (fun a ha => by cases ha), .inl fun Q q => .inr (.inr ⟨_, _, _, rfl, rfl, hz, e, q⟩)⟩
    · cases h
  · cases r2
    generalize ed : PyData.dict ((PyData.none, PyData.list ‹List D›) :: ‹List (D × D)›) = q at r1
    cases r1 with
    | lstF h1 l1 =>
      injection ed with e1
      injection e1 with e2 e3
      injection e2 with e4 e5
      injection e5 with e6
      subst e6
      cases e : atI ‹List D› ‹Int› with
      | none =>
        rw [e] at h
        cases h
      | some z =>
        rw [e] at h
        cases h
        obtain ⟨j, hj, hr⟩ := atI_get l1.len.symm e
        obtain ⟨v, C, hv, rv, hc⟩ := l1.get hj
        exact ⟨v, C, rv, hc, .inl fun Q q => .inl ⟨_, _, _, _, rfl, rfl, h1.seq, hr v hv, q⟩⟩
    | dct h1 l1 =>
      injection ed with e1
      subst e1
      exact (repP_tag l1).elim
    | dctF h1 l1 =>
      injection ed with e1
      subst e1
      exact (repP_tag l1).elim
    | ins h1 h2 l1 =>
      injection ed with e1
      injection e1 with e2 e3
      injection e2 with e4 e5
      cases e5
    | exn h1 h2 l1 =>
      injection ed with e1
      injection e1 with e2 e3
      injection e2 with e4 e5
      cases e5
    | _ => cases ed
  · cases h
  · rename_i hn _
    cases e : lookD ‹List (D × D)› dy with
    | none =>
      rw [e] at h
      cases h
    | some z =>
      rw [e] at h
      cases h
      cases r1 with
      | dct h1 l1 =>
        obtain ⟨k, v, C, rfl, ev, rv, hc⟩ := lookD_key l1 e
        rw [rep_key r2]
        exact ⟨v, C, rv, (fun a ha => List.mem_cons_of_mem _ (hc a ha)), .inr ⟨_, rfl, .inl ⟨_, k, .inl h1, rfl, ev.symm⟩⟩⟩
      | dctF h1 l1 =>
        obtain ⟨k, v, C, rfl, ev, rv, hc⟩ := lookD_key l1 e
        rw [rep_key r2]
        exact ⟨v, C, rv, hc, .inr ⟨_, rfl, .inl ⟨_, k, .inr ⟨_, h1⟩, rfl, ev.symm⟩⟩⟩
      | lstF h1 l1 => exact absurd rfl (by first | exact fun z => hn _ _ z | exact hn _ _ | skip)
      | ins h1 h2 l1 => exact absurd rfl (by first | exact fun z => hn _ _ z | exact hn _ _ | skip)
      | exn h1 h2 l1 => exact absurd rfl (by first | exact fun z => hn _ _ z | exact hn _ _ | skip)
  · cases h
end
end Dg

namespace Dg
open PySem PySem.Spec PyProof.Rows L2
section
variable {X : Cx} {W : WX} {ow : List Nat} {k k1 k2 k3 : Kd} {e a b c : Expr} {den d1 d2 d3 : Env → R D} {pos p2 : Pos}
def rIxD : R2 := fun x y H Q => ∃ a v, x = .ref a ∧ DGet H a y (some v) ∧ Q v H
theorem ix_dict (hu : X.A.units + 1 < cLine) : IxR X rIxD := by
  intro value slice pins s σ H x y v u Q I rx ry h hs
  obtain ⟨a, z, rfl, g, q⟩ := h
  cases rx
  exact tail_any (dict_typeIs I g) PySem.F.slot_dict_getitem.lookup (d_getItem hu I g ry fun w' s' I' r' => ⟨z, H, I', r', q⟩) hs
theorem de_ix (hu : X.A.units + 64 < cLine) (h1 : DE X W ow k1 a d1) (h2 : DE X W ow k2 b d2) (hs : PlainIx b) : DE X W ow (.br k1.src) (.Subscript a b pos) (b2 dIx d1 d2) := by
  obtain ⟨ta, p1, q1⟩ := h1
  obtain ⟨tb, p2, q2⟩ := h2
  refine ⟨_, pe_ix (ix_seq.or (ix_dict (by omega))) p1 p2 hs, fun σ ρ H As Q S q => q1 σ ρ H As _ S ?_⟩
  unfold b2 at q
  cases e1 : d1 ρ with
  | stk =>
    rw [e1] at q
    exact q
  | exc x =>
    rw [e1] at q
    exact q
  | ok dx =>
    rw [e1, R.bind_ok] at q
    intro v H1 A s1 r1 ok1
    refine q2 σ ρ H1 As _ (S.same s1) ?_
    cases e2 : d2 ρ with
    | stk =>
      rw [e2] at q
      exact q
    | exc x =>
      rw [e2] at q
      exact fun c dd H' B sm rp fx => q c dd H' B (s1.trans sm) rp fun b hb => s1.free (fx b hb)
    | ok dy =>
      rw [e2, R.bind_ok] at q
      intro u H2 B s2 r2 ok2
      cases e3 : dIx dx dy with
      | exc x => exact absurd e3 dIx_exc
      | stk =>
        rw [e3] at q
        exact q.elim
      | ok d =>
        rw [e3] at q
        obtain ⟨v', C, rv, hc, hq⟩ := dIx_run (r1.weak.same s2) r2.weak e3
        have fin : Q v' H2 := q v' H2 C (s1.trans s2) rv (Kd.sub (Kd.brOk S ok1) (fun _ z => z) hc)
        rcases hq with hq | ⟨p, rfl, hg⟩
        · exact .inl (hq Q fin)
        · exact .inr ⟨p, v', rfl, hg, fin⟩
/-! ### slices -/
def GoodO (X : Cx) (W : WX) (σ : L2.St) (H : Hp) (r : R (Option Int)) (Q : Option Int → Hp → Prop) : Prop := match r with
  | .ok b => ∀ H', Same H H' → Q b H'
  | .exc x => ∀ c dd H' A, Same H H' → RepX X.K X.mg H' c dd x A → (∀ b ∈ A, H b = none) → W c dd σ H'
  | .stk => False
def DO (X : Cx) (W : WX) (ow : List Nat) (e : Option Expr) (den : Env → R (Option Int)) : Prop :=
  ∃ t, PO X e t ∧ ∀ σ ρ H As Q, On X ow σ ρ H As → GoodO X W σ H (den ρ) Q → t σ H Q
def noO : Env → R (Option Int) := fun _ => .ok none
def asI (d : D) : R (Option Int) := match d with
  | .int i => .ok (some i)
  | _ => .stk
def toO (f : Env → R D) : Env → R (Option Int) := fun ρ => (f ρ).bind asI
theorem do_none : DO X W ow none noO := ⟨_, po_none, fun σ ρ H As Q S q => q H (Same.refl H)⟩
theorem do_some (h : DE X W ow k e den) : DO X W ow (some e) (toO den) := by
  obtain ⟨te, p, q⟩ := h
  refine ⟨_, po_some p, fun σ ρ H As Q S g => q σ ρ H As _ S ?_⟩
  unfold toO at g
  cases hd : den ρ with
  | stk =>
    rw [hd] at g
    exact g
  | exc x =>
    rw [hd] at g
    exact g
  | ok d =>
    rw [hd, R.bind_ok] at g
    intro v H' A sm r _
    cases d with
    | int b =>
      cases r.weak
      exact ⟨b, rfl, g H' sm⟩
    | _ => exact g.elim
def dSl (x : D) (lo hi : Option Int) : R D := match x with
  | .list xs => if immL xs = true then .ok (.list (cutA xs lo hi)) else .stk
  | .str s => if s.length ≤ sizeLine then .ok (.str (cutS s lo hi)) else .stk
  | .tuple xs => if immL xs = true ∧ ¬ (HT.sIx xs.length 0 lo = 0 ∧ HT.sIx xs.length xs.length hi = xs.length) then .ok (.tuple (cutA xs lo hi)) else .stk
  | .dict ((.none, .list xs) :: _) => if immL xs = true then .ok (.list (cutA xs lo hi)) else .stk
  | _ => .stk
def slE (f : Env → R D) (l h : Env → R (Option Int)) : Env → R D := fun ρ => (f ρ).bind fun x => (l ρ).bind fun i => (h ρ).bind fun j => dSl x i j
theorem dSl_exc {x : D} {i j : Option Int} {z : Exn} : dSl x i j ≠ .exc z := by
  intro h
  unfold dSl at h
  split at h <;> first | (cases h; done) | (split at h <;> cases h)
theorem dSl_run {H : Hp} {x : V} {dx : D} {A : List Addr} {i j : Option Int} {Q : VK} (r1 : Rep X.K X.mg H false x dx A) (h : Fresh X H (dSl dx i j) Q) : rSlL X.K x i j H Q ∨ rSlT X.K x i j H Q ∨ rSlS x i j H Q := by
  unfold dSl at h
  split at h
  · cases r1 with
    | lst h1 l1 =>
      split at h
      · rename_i hz
        obtain ⟨e1, q1⟩ := l1.imm hz
        refine .inl ⟨_, _, rfl, .inl (.inl h1), fun p hp => ?_⟩
        exact h _ _ [p] (same_upd hp) (.lst upd_same (repL_cut i j (q1.same (same_upd hp)))) (List.nodup_cons.mpr ⟨(by intro z; cases z), List.nodup_nil⟩) fun a ha => by
          rw [List.mem_singleton.mp ha]
          exact hp
      · exact h.elim
  · cases r1
    split at h
    · rename_i hz
      exact .inr (.inr ⟨_, rfl, hz, fresh_imm (fun _ _ _ => .str _) h⟩)
    · exact h.elim
  · cases r1 with
    | tup h1 l1 =>
      split at h
      · rename_i hz
        obtain ⟨e1, q1⟩ := l1.imm hz.1
        refine .inr (.inl ⟨_, _, rfl, h1, (by rw [l1.len]; exact hz.2), fun p hp => ?_⟩)
        exact h _ _ [] (same_upd hp) (.tup (.inl (.inl upd_same)) (repL_cut i j (q1.same (same_upd hp)))) List.nodup_nil fun a ha => by cases ha
      · exact h.elim
  · generalize ed : PyData.dict ((PyData.none, PyData.list ‹List D›) :: ‹List (D × D)›) = q at r1
    cases r1 with
    | lstF h1 l1 =>
      injection ed with e1
      injection e1 with e2 e3
      injection e2 with e4 e5
      injection e5 with e6
      subst e6
      split at h
      · rename_i hz
        obtain ⟨e1, q1⟩ := l1.imm hz
        refine .inl ⟨_, _, rfl, h1.seq, fun p hp => ?_⟩
        exact h _ _ [p] (same_upd hp) (.lst upd_same (repL_cut i j (q1.same (same_upd hp)))) (List.nodup_cons.mpr ⟨(by intro z; cases z), List.nodup_nil⟩) fun a ha => by
          rw [List.mem_singleton.mp ha]
          exact hp
      · exact h.elim
    | dct h1 l1 =>
      injection ed with e1
      subst e1
      exact (repP_tag l1).elim
    | dctF h1 l1 =>
      injection ed with e1
      subst e1
      exact (repP_tag l1).elim
    | ins h1 h2 l1 =>
      injection ed with e1
      injection e1 with e2 e3
      injection e2 with e4 e5
      cases e5
    | exn h1 h2 l1 =>
      injection ed with e1
      injection e1 with e2 e3
      injection e2 with e4 e5
      cases e5
    | _ => cases ed
  · exact h.elim
theorem de_sl {lo hi : Option Expr} {fl fh : Env → R (Option Int)} (h1 : DE X W ow k1 a d1) (h2 : DO X W ow lo fl) (h3 : DO X W ow hi fh) : DE X W ow (.own []) (.Subscript a (.Slice lo hi none p2) pos) (slE d1 fl fh) := by
  obtain ⟨ta, p1, q1⟩ := h1
  obtain ⟨tl, pl, ql⟩ := h2
  obtain ⟨th, ph, qh⟩ := h3
  refine ⟨_, pe_slice (sl_list.or (sl_tup.or sl_str)) p1 pl ph, fun σ ρ H As Q S q => q1 σ ρ H As _ S ?_⟩
  unfold slE at q
  cases e1 : d1 ρ with
  | stk =>
    rw [e1] at q
    exact q
  | exc x =>
    rw [e1] at q
    exact q
  | ok dx =>
    rw [e1, R.bind_ok] at q
    intro v H1 A s1 r1 ok1
    refine ql σ ρ H1 As _ (S.same s1) ?_
    cases e2 : fl ρ with
    | stk =>
      rw [e2] at q
      exact q
    | exc x =>
      rw [e2] at q
      exact fun c dd H' B sm rp fx => q c dd H' B (s1.trans sm) rp fun b hb => s1.free (fx b hb)
    | ok i =>
      rw [e2, R.bind_ok] at q
      intro H2 s2
      refine qh σ ρ H2 As _ ((S.same s1).same s2) ?_
      cases e3 : fh ρ with
      | stk =>
        rw [e3] at q
        exact q
      | exc x =>
        rw [e3] at q
        exact fun c dd H' B sm rp fx => q c dd H' B (s1.trans (s2.trans sm)) rp fun b hb => s1.free (s2.free (fx b hb))
      | ok j =>
        rw [e3, R.bind_ok] at q
        intro H3 s3
        exact dSl_run (r1.weak.same (s2.trans s3)) (fresh_good (s1.trans (s2.trans s3)) q fun _ => dSl_exc)
/-! ### written arguments -/
def nilL : Env → R (List D) := fun _ => .ok []
def conL (f : Env → R D) (g : Env → R (List D)) : Env → R (List D) := fun ρ => (f ρ).bind fun d => (g ρ).bind fun ds => .ok (d :: ds)
theorem da_nil : DA X W ow (.own []) 0 [] nilL := ⟨_, pa_nil, fun σ ρ H As Q S q => q [] H [] (Same.refl H) .nil nil_own rfl⟩
theorem da_nilB : DA X W ow (.br []) 0 [] nilL := ⟨_, pa_nil, fun σ ρ H As Q S q => q [] H [] (Same.refl H) .nil (fun _ _ _ _ _ z => by cases z) rfl⟩
theorem repL_cons {K : PySem.W.Frag} {mg : Str → Option Value} {H : Hp} {o : Bool} {v : V} {vs : List V} {d : D} {ds : List D} {A B : List Addr} (h : Rep K mg H o v d A) (r : RepL K mg H o vs ds B) : RepL K mg H o (v :: vs) (d :: ds) (A ++ B) := .cons h r
/-- arguments that are one's own -/
theorem da_own {es : List Expr} {n : Nat} {m1 m2 : List Nat} {g : Env → R (List D)} (h1 : DE X W ow (.own m1) e den) (h2 : DA X W ow (.own m2) n es g) (hd : ∀ i ∈ m1, i ∉ m2)
    (hs : starEach (e :: es) X.env = (false, eval e X.env) :: starEach es X.env := by rfl) : DA X W ow (.own (m1 ++ m2)) (n + 1) (e :: es) (conL den g) := by
  obtain ⟨ta, p1, q1⟩ := h1
  obtain ⟨tb, p2, q2⟩ := h2
  refine ⟨_, pa_cons p1 p2 hs, fun σ ρ H As Q S q => q1 σ ρ H As _ S ?_⟩
  unfold conL at q
  cases e1 : den ρ with
  | stk =>
    rw [e1] at q
    exact q
  | exc x =>
    rw [e1] at q
    exact q
  | ok dx =>
    rw [e1, R.bind_ok] at q
    intro v H1 A s1 r1 ok1
    refine q2 σ ρ H1 As _ (S.same s1) ?_
    cases e2 : g ρ with
    | stk =>
      rw [e2] at q
      exact q
    | exc x =>
      rw [e2] at q
      exact fun c dd H' B sm rp fx => q c dd H' B (s1.trans sm) rp fun b hb => s1.free (fx b hb)
    | ok ds =>
      rw [e2, R.bind_ok] at q
      intro vs H2 B s2 r2 ok2 hn
      refine q (v :: vs) H2 (A ++ B) (s1.trans s2) (repL_cons (r1.same s2) r2) ⟨?_, ?_, ?_⟩ (by rw [List.length_cons, hn])
      · refine List.nodup_append.mpr ⟨ok1.1, ok2.1, fun x hx y hy z => ?_⟩
        subst z
        rcases ok2.2.2 x hy with w | ⟨j, hj, w⟩
        · exact r1.old hx w
        · rcases ok1.2.2 x hx with w' | ⟨i, hi, w'⟩
          · exact S.old w w'
          · obtain ⟨H0, M0, pn, S⟩ := S
            exact S.sep i (ok1.2.1 i hi) j (fun z => hd i hi (z ▸ hj)) x w' w
      · intro j hj
        rcases List.mem_append.mp hj with z | z
        · exact ok1.2.1 j z
        · exact ok2.2.1 j z
      · intro x hx
        rcases List.mem_append.mp hx with z | z
        · rcases ok1.2.2 x z with w | ⟨j, hj, w⟩
          · exact .inl w
          · exact .inr ⟨j, List.mem_append_left _ hj, w⟩
        · rcases ok2.2.2 x z with w | ⟨j, hj, w⟩
          · exact .inl (s1.free w)
          · exact .inr ⟨j, List.mem_append_right _ hj, w⟩
/-- arguments that may be others' -/
theorem da_br {es : List Expr} {n : Nat} {ss : List Nat} {g : Env → R (List D)} (h1 : DE X W ow k e den) (h2 : DA X W ow (.br ss) n es g)
    (hs : starEach (e :: es) X.env = (false, eval e X.env) :: starEach es X.env := by rfl) : DA X W ow (.br (k.src ++ ss)) (n + 1) (e :: es) (conL den g) := by
  obtain ⟨ta, p1, q1⟩ := h1
  obtain ⟨tb, p2, q2⟩ := h2
  refine ⟨_, pa_cons p1 p2 hs, fun σ ρ H As Q S q => q1 σ ρ H As _ S ?_⟩
  unfold conL at q
  cases e1 : den ρ with
  | stk =>
    rw [e1] at q
    exact q
  | exc x =>
    rw [e1] at q
    exact q
  | ok dx =>
    rw [e1, R.bind_ok] at q
    intro v H1 A s1 r1 ok1
    refine q2 σ ρ H1 As _ (S.same s1) ?_
    cases e2 : g ρ with
    | stk =>
      rw [e2] at q
      exact q
    | exc x =>
      rw [e2] at q
      exact fun c dd H' B sm rp fx => q c dd H' B (s1.trans sm) rp fun b hb => s1.free (fx b hb)
    | ok ds =>
      rw [e2, R.bind_ok] at q
      intro vs H2 B s2 r2 ok2 hn
      refine q (v :: vs) H2 (A ++ B) (s1.trans s2) (repL_cons (r1.weak.same s2) r2) ?_ (by rw [List.length_cons, hn])
      have o1 := Kd.brOk S ok1
      intro j hj hj2 x hx hAB
      rcases List.mem_append.mp hAB with z | z
      · exact o1 j hj (fun w => hj2 (List.mem_append_left _ w)) x hx z
      · exact ok2 j hj (fun w => hj2 (List.mem_append_right _ w)) x hx z
/-! ### tuples, lists -/
def tupE (g : Env → R (List D)) : Env → R D := fun ρ => (g ρ).bind fun ds => .ok (.tuple ds)
def lstE (g : Env → R (List D)) : Env → R D := fun ρ => (g ρ).bind fun ds => .ok (.list ds)
theorem nat1000 {n : Nat} (h : n ≤ 1000) : n ≤ sizeLine := Nat.le_of_lt (small1000 h)
theorem de_tup {es : List Expr} {n : Nat} {g : Env → R (List D)} {x1} (h : DA X W ow k n es g) (hn : n ≤ 1000 := by decide) : DE X W ow k (.Tuple es x1 pos) (tupE g) := by
  obtain ⟨ta, p, q⟩ := h
  refine ⟨_, pe_tup p, fun σ ρ H As Q S z => q σ ρ H As _ S ?_⟩
  unfold tupE at z
  cases hd : g ρ with
  | stk =>
    rw [hd] at z
    exact z
  | exc x =>
    rw [hd] at z
    exact z
  | ok d =>
    rw [hd, R.bind_ok] at z
    intro vs H' A sm r ok hl
    refine ⟨by rw [hl]; exact nat1000 hn, fun p hp => z _ _ A (sm.trans (same_upd hp)) (.tup (.inl (.inl upd_same)) (r.same (same_upd hp))) ok⟩
theorem de_lst {es : List Expr} {n : Nat} {ms : List Nat} {g : Env → R (List D)} (h : DA X W ow (.own ms) n es g) (hn : n ≤ 1000 := by decide) : DE X W ow (.own ms) (.List es pos) (lstE g) := by
  obtain ⟨ta, p, q⟩ := h
  refine ⟨_, pe_lst p, fun σ ρ H As Q S z => q σ ρ H As _ S ?_⟩
  unfold lstE at z
  cases hd : g ρ with
  | stk =>
    rw [hd] at z
    exact z
  | exc x =>
    rw [hd] at z
    exact z
  | ok d =>
    rw [hd, R.bind_ok] at z
    intro vs H' A sm r ok hl
    refine ⟨by rw [hl]; exact nat1000 hn, fun p hp => z _ _ (p :: A) (sm.trans (same_upd hp)) (.lst upd_same (r.same (same_upd hp))) ⟨?_, ok.2.1, ?_⟩⟩
    · exact List.nodup_cons.mpr ⟨fun w => r.old w hp, ok.1⟩
    · intro a ha
      rcases List.mem_cons.mp ha with rfl | ha
      · exact .inl (sm.free hp)
      · exact ok.2.2 a ha
theorem de_lstB {es : List Expr} {n : Nat} {ss : List Nat} {g : Env → R (List D)} (h : DA X W ow (.br ss) n es g) (hn : n ≤ 1000 := by decide) : DE X W ow (.br ss) (.List es pos) (lstE g) := by
  obtain ⟨ta, p, q⟩ := h
  refine ⟨_, pe_lst p, fun σ ρ H As Q S z => q σ ρ H As _ S ?_⟩
  unfold lstE at z
  cases hd : g ρ with
  | stk =>
    rw [hd] at z
    exact z
  | exc x =>
    rw [hd] at z
    exact z
  | ok d =>
    rw [hd, R.bind_ok] at z
    intro vs H' A sm r ok hl
    refine ⟨by rw [hl]; exact nat1000 hn, fun p hp => z _ _ (p :: A) (sm.trans (same_upd hp)) (.lst upd_same (r.same (same_upd hp))) ?_⟩
    intro j hj hj2 x hx hA
    rcases List.mem_cons.mp hA with w | w
    · subst w
      exact (S.same sm).old hx hp
    · exact ok j hj hj2 x hx w
def newD : Env → R D := fun _ => .ok (.dict [])
theorem de_dict0 : DE X W ow (.own []) (.Dict [] [] pos) newD := by
  refine ⟨_, pe_dnewK, fun σ ρ H As Q S q p hp => ?_⟩
  exact q _ _ [p] (same_upd hp) (.dct upd_same .nil) ⟨List.nodup_cons.mpr ⟨(by intro z; cases z), List.nodup_nil⟩, (fun _ z => by cases z), fun a ha => .inl (by rw [List.mem_singleton.mp ha]; exact hp)⟩
/-! ### calls of built-ins -/
def CallD (X : Cx) (f : Value) (g : List D → R D) : Prop :=
  ∃ r, CallR X f r ∧ (∀ xs z, g xs ≠ .exc z) ∧ ∀ H xs ds A Q, RepL X.K X.mg H false xs ds A → Fresh X H (g ds) Q → r xs H Q
def call (f : List D → R D) (g : Env → R (List D)) : Env → R D := fun ρ => (g ρ).bind f
theorem tCB_good {es : List Expr} {n : Nat} {g : Env → R (List D)} {f : List D → R D} {r : List V → Hp → VK → Prop} {ta : TA} (q : ∀ σ ρ H As Q, On X ow σ ρ H As → GoodL X W σ ow k n H As (g ρ) Q → ta σ H Q)
    (hx : ∀ xs z, f xs ≠ .exc z) (hr : ∀ H xs ds A Q, RepL X.K X.mg H false xs ds A → Fresh X H (f ds) Q → r xs H Q) {σ : L2.St} {ρ : Env} {H : Hp} {As : Nat → List Addr} {Q : VK} (S : On X ow σ ρ H As) (z : Good X W σ ow (.own []) H As (call f g ρ) Q) : tCB r ta σ H Q := by
  refine q σ ρ H As _ S ?_
  unfold call at z
  cases hd : g ρ with
  | stk =>
    rw [hd] at z
    exact z
  | exc x =>
    rw [hd] at z
    exact z
  | ok d =>
    rw [hd, R.bind_ok] at z
    intro vs H' A sm rp ok hl
    exact hr H' vs d A Q rp.weak (fresh_good sm z (hx d))
theorem de_callB {x : Str} {id : String} {f : List D → R D} {es : List Expr} {n : Nat} {g : Env → R (List D)} {p : Pos} (hf : CallD X (.builtin id) f) (hm : X.mg x = none) (hv : bootBuiltins x = some (.builtin id)) (h : DA X W ow k n (e :: es) g) (hg : Gl X x := by rfl)
    (hn : x ≠ "__name__" := by decide) (hdb : (x == ("__debug__" : Str)) = false := by decide)
    (he : starEach (e :: es) X.env = (false, eval e X.env) :: starEach es X.env := by rfl) (hpl : (backTo pos (starEach es X.env)).any (·.1) = false := by rfl) : DE X W ow (.own []) (.Call (.Name x p) (e :: es) [] pos) (call f g) := by
  obtain ⟨r, h1, hx, hr⟩ := hf
  obtain ⟨ta, pa, q⟩ := h
  exact ⟨_, pe_callB h1 hg hm hv pa hn hdb he hpl, fun σ ρ H As Q S z => tCB_good (es := es) q hx hr S z⟩
theorem de_callTy {x : Str} {T : String} {f : List D → R D} {es : List Expr} {n : Nat} {g : Env → R (List D)} {p : Pos} (hf : CallD X (.type T) f) (hm : X.mg x = none) (hv : bootBuiltins x = some (.type T)) (h : DA X W ow k n (e :: es) g) (hg : Gl X x := by rfl)
    (hn : x ≠ "__name__" := by decide) (hdb : (x == ("__debug__" : Str)) = false := by decide)
    (he : starEach (e :: es) X.env = (false, eval e X.env) :: starEach es X.env := by rfl) (hpl : (backTo pos (starEach es X.env)).any (·.1) = false := by rfl) : DE X W ow (.own []) (.Call (.Name x p) (e :: es) [] pos) (call f g) := by
  obtain ⟨r, h1, hx, hr⟩ := hf
  obtain ⟨ta, pa, q⟩ := h
  exact ⟨_, pe_callTy h1 hg hm hv pa hn hdb he hpl, fun σ ρ H As Q S z => tCB_good (es := es) q hx hr S z⟩
end
end Dg

namespace Dg
open PySem PySem.Spec PyProof.Rows L2
def kill : List Nat → Env → Env
  | [], r => r
  | i :: is, r => kill is (r.set i none)
/-! ### the state, changed -/
section
variable {K : PySem.W.Frag} {mg : Str → Option Value} {H0 : Hp} {M0 : Addr → Prop} {pn : Nat → Option V} {ow ow' : List Nat} {σ : L2.St} {ρ : Env} {H H' : Hp} {As : Nat → List Addr}
theorem Sta.kill1 (S : Sta K mg H0 M0 pn ow σ ρ H As) (i : Nat) : Sta K mg H0 M0 pn ow σ (ρ.set i none) H (fun j => if j = i then [] else As j) := by
  refine ⟨S.fr, fun j d e => ?_, fun j h => ?_, fun j hj => ?_, fun j hj a ha => ?_, fun j hj l hl a ha hb => ?_, by rw [List.length_set]; exact S.len, S.pin⟩
  · by_cases hji : j = i
    · subst hji
      by_cases hl : j < ρ.length
      · rw [List.getElem?_set_self hl] at e
        cases e
      · rw [List.getElem?_eq_none (by rw [List.length_set]; omega)] at e
        cases e
    · rw [List.getElem?_set_ne (fun z => hji z.symm)] at e
      rw [if_neg hji]
      exact S.rep j d e
  · by_cases hji : j = i
    · exact if_pos hji
    · try dsimp only
      rw [if_neg hji]
      refine S.dead j fun d e => h d ?_
      rw [List.getElem?_set_ne (fun z => hji z.symm)]
      exact e
  · try dsimp only
    split
    · exact List.nodup_nil
    · exact S.nd j hj
  · try dsimp only at ha
    split at ha
    · cases ha
    · exact S.new j hj a ha
  · try dsimp only at ha hb
    split at ha
    · cases ha
    · split at hb
      · cases hb
      · exact S.sep j hj l hl a ha hb
theorem Sta.kills : ∀ (is : List Nat) {ρ : Env} {As : Nat → List Addr}, Sta K mg H0 M0 pn ow σ ρ H As → ∃ As', Sta K mg H0 M0 pn ow σ (kill is ρ) H As' ∧ (∀ j, As' j = As j ∨ As' j = []) ∧ (∀ j ∈ is, As' j = [])
  | [], _, As, S => ⟨As, S, (fun _ => .inl rfl), (fun _ h => by cases h)⟩
  | i :: is, ρ, As, S => by
    obtain ⟨As', S', h1, h2⟩ := Sta.kills is (S.kill1 i)
    refine ⟨As', S', fun j => ?_, fun j hj => ?_⟩
    · rcases h1 j with e | e
      · rw [e]
        try dsimp only
        split
        · exact .inr rfl
        · exact .inl rfl
      · exact .inr e
    · rcases List.mem_cons.mp hj with rfl | hj
      · rcases h1 j with e | e
        · rw [e]
          exact if_pos rfl
        · exact e
      · exact h2 j hj
/-- a value comes to a slot -/
theorem Sta.put (S : Sta K mg H0 M0 pn ow σ ρ H As) {i : Nat} {o : Bool} {v : V} {d : D} {A : List Addr} (r : Rep K mg H o v d A) (hp : pn i = none)
    (h1 : o = true → A.Nodup ∧ (∀ a ∈ A, H0 a = none ∨ M0 a) ∧ ∀ a ∈ A, ∀ j, a ∉ As j) (h2 : ∀ j ∈ ow', j ≠ i → ∀ a ∈ As j, a ∉ A) (h3 : ∀ j ∈ ow', j ≠ i → j ∈ ow) (h4 : i ∈ ow' → o = true) :
    Sta K mg H0 M0 pn ow' (σ.set i (some v)) (ρ.set i (some d)) H (fun j => if j = i then (if i < ρ.length then A else []) else As j) := by
  have sep1 : i ∈ ow' → ∀ l, l ≠ i → ∀ a ∈ A, a ∉ As l := fun hi l _ a ha => (h1 (h4 hi)).2.2 a ha l
  refine ⟨S.fr, fun j e he => ?_, fun j h => ?_, fun j hj => ?_, fun j hj a ha => ?_, fun j hj l hl a ha hb => ?_, by rw [List.length_set, List.length_set]; exact S.len, fun j w hw => ?_⟩
  · by_cases hji : j = i
    · subst hji
      by_cases hl : j < ρ.length
      · rw [List.getElem?_set_self hl] at he
        cases he
        refine ⟨v, List.getElem?_set_self (by rw [S.len]; exact hl), ?_⟩
        rw [if_pos rfl, if_pos hl]
        exact rep_less r fun z => h4 (contains_mem.mp z)
      · rw [List.getElem?_eq_none (by rw [List.length_set]; omega)] at he
        cases he
    · rw [List.getElem?_set_ne (fun z => hji z.symm)] at he
      obtain ⟨w, e1, e2⟩ := S.rep j e he
      refine ⟨w, (by rw [List.getElem?_set_ne (fun z => hji z.symm)]; exact e1), ?_⟩
      rw [if_neg hji]
      exact rep_less e2 fun z => contains_mem.mpr (h3 j (contains_mem.mp z) hji)
  · by_cases hji : j = i
    · subst hji
      try dsimp only
      rw [if_pos rfl]
      by_cases hl : j < ρ.length
      · exact absurd (List.getElem?_set_self hl) (h d)
      · exact if_neg hl
    · try dsimp only
      rw [if_neg hji]
      refine S.dead j fun d e => h d ?_
      rw [List.getElem?_set_ne (fun z => hji z.symm)]
      exact e
  · try dsimp only
    by_cases hji : j = i
    · subst hji
      rw [if_pos rfl]
      split
      · exact (h1 (h4 hj)).1
      · exact List.nodup_nil
    · rw [if_neg hji]
      exact S.nd j (h3 j hj hji)
  · try dsimp only at ha
    by_cases hji : j = i
    · subst hji
      rw [if_pos rfl] at ha
      split at ha
      · exact (h1 (h4 hj)).2.1 a ha
      · cases ha
    · rw [if_neg hji] at ha
      exact S.new j (h3 j hj hji) a ha
  · try dsimp only at ha hb
    by_cases hji : j = i
    · subst hji
      rw [if_neg hl] at hb
      rw [if_pos rfl] at ha
      split at ha
      · exact sep1 hj l hl a ha hb
      · cases ha
    · rw [if_neg hji] at ha
      by_cases hli : l = i
      · subst hli
        rw [if_pos rfl] at hb
        split at hb
        · exact h2 j hj hji a ha hb
        · cases hb
      · rw [if_neg hli] at hb
        exact S.sep j (h3 j hj hji) l hl a ha hb
  · by_cases hji : j = i
    · subst hji
      rw [hp] at hw
      cases hw
    · rw [List.getElem?_set_ne (fun z => hji z.symm)]
      exact S.pin j w hw
/-- the entry is here -/
theorem Sta.rebase (S : Sta K mg H0 M0 pn ow σ ρ H As) : Sta K mg H (fun a => ∃ i ∈ ow, a ∈ As i) pn ow σ ρ H As :=
  ⟨Fr.refl _ _, S.rep, S.dead, S.nd, fun i hi a ha => .inr ⟨i, hi, ha⟩, S.sep, S.len, S.pin⟩
theorem Sta.was2 (S : Sta K mg H0 M0 pn ow σ ρ H As) {a : Addr} (h : H a = none ∨ ∃ i ∈ ow, a ∈ As i) : H0 a = none ∨ M0 a := by
  rcases h with h | ⟨i, hi, h⟩
  · exact S.was h
  · exact S.new i hi a h
theorem Fr.base (S : Sta K mg H0 M0 pn ow σ ρ H As) {H' : Hp} (f : Fr (fun a => ∃ i ∈ ow, a ∈ As i) H H') : Fr M0 H0 H' := by
  intro a o h hm
  refine f a o (S.fr a o h hm) fun hi => ?_
  rintro ⟨i, hi2, ha⟩
  rcases S.new i hi2 a ha with z | z
  · rw [h] at z
    cases z
  · exact hm hi z
theorem Sta.unbase {ow2 : List Nat} {σ2 : L2.St} {ρ2 : Env} {H2 : Hp} {As2 : Nat → List Addr} (S : Sta K mg H0 M0 pn ow σ ρ H As) (S2 : Sta K mg H (fun a => ∃ i ∈ ow, a ∈ As i) pn ow2 σ2 ρ2 H2 As2) : Sta K mg H0 M0 pn ow2 σ2 ρ2 H2 As2 :=
  ⟨Fr.base S S2.fr, S2.rep, S2.dead, S2.nd, fun i hi a ha => S.was2 (S2.new i hi a ha), S2.sep, S2.len, S2.pin⟩
end
/-! ### statements -/
/-- what a body is told: the slots that are lent and given back; the slots that are one's own at the loop's head, at an exception's rise -/
structure Cfg where
  io : List Nat
  owl : List Nat
  owx : List Nat
  pl : List Nat
  rb : Bool := false
def Post (X : Cx) (W : WX) (C : Cfg) (H0 : Hp) (M0 : Addr → Prop) (pn : Nat → Option V) (ow' : List Nat) (Dn : Ends) (o : Out) : Prop := match o with
  | .nx r => ∀ σ' H' As', Sta X.K X.mg H0 M0 pn ow' σ' r H' As' → Dn.nx σ' H'
  | .ret d r => ∀ v σ' H' As' A, Sta X.K X.mg H0 M0 pn C.io σ' r H' As' → Rep X.K X.mg H' (!C.rb) v d A → (C.rb = false → A.Nodup ∧ ∀ a ∈ A, (H0 a = none ∨ M0 a) ∧ ∀ i ∈ C.io, a ∉ As' i) → Dn.rt v H'
  | .brk r => ∀ σ' H' As', Sta X.K X.mg H0 M0 pn C.owl σ' r H' As' → Dn.bk σ' H'
  | .cnt r => ∀ σ' H' As', Sta X.K X.mg H0 M0 pn C.owl σ' r H' As' → Dn.ct σ' H'
  | .exc x r => ∀ c dd σ' H' As' A, Sta X.K X.mg H0 M0 pn C.owx σ' r H' As' → RepX X.K X.mg H' c dd x A → (∀ a ∈ A, (H0 a = none ∨ M0 a) ∧ ∀ j, a ∉ As' j) → W c dd σ' H'
  | .stk => False
def PinOk (C : Cfg) (pn : Nat → Option V) : Prop := ∀ j, j ∉ C.io ++ C.pl → pn j = none
def DS (X : Cx) (W : WX) (C : Cfg) (ow ow' : List Nat) (st : Stmt) (den : Env → Out) : Prop :=
  ∃ ts, PS X st ts ∧ ∀ H0 M0 pn σ ρ H As Dn, PinOk C pn → Sta X.K X.mg H0 M0 pn ow σ ρ H As → Post X W C H0 M0 pn ow' Dn (den ρ) → ts Dn σ H
def DSs (X : Cx) (W : WX) (C : Cfg) (ow ow' : List Nat) (st : List Stmt) (den : Env → Out) : Prop :=
  ∃ ts, PSs X st ts ∧ ∀ H0 M0 pn σ ρ H As Dn, PinOk C pn → Sta X.K X.mg H0 M0 pn ow σ ρ H As → Post X W C H0 M0 pn ow' Dn (den ρ) → ts Dn σ H
section
variable {X : Cx} {W : WX} {C : Cfg} {ow ow' ow1 ow2 : List Nat} {k k1 k2 k3 : Kd} {e a b c : Expr} {st : Stmt} {sts sts2 : List Stmt} {den d1 d2 : Env → R D} {f g : Env → Out} {pos p2 : Pos}
def nxS : Env → Out := fun r => .nx r
def seqS (f g : Env → Out) : Env → Out := fun r => match f r with
  | .nx r' => g r'
  | o => o
theorem ds_nil (h : ∀ i ∈ ow', i ∈ ow) : DSs X W C ow ow' [] nxS := ⟨_, pss_nil, fun H0 M0 pn σ ρ H As Dn hp S q => q σ H As (S.less h)⟩
theorem ds_cons (h1 : DS X W C ow ow1 st f) (h2 : DSs X W C ow1 ow' sts g) : DSs X W C ow ow' (st :: sts) (seqS f g) := by
  obtain ⟨ts, p, q⟩ := h1
  obtain ⟨tt, p2, q2⟩ := h2
  refine ⟨_, pss_cons p p2, fun H0 M0 pn σ ρ H As Dn hp S z => q H0 M0 pn σ ρ H As _ hp S ?_⟩
  unfold seqS at z
  cases hf : f ρ with
  | nx r =>
    rw [hf] at z
    exact fun σ' H' As' S' => q2 H0 M0 pn σ' r H' As' Dn hp S' z
  | ret d r =>
    rw [hf] at z
    exact z
  | brk r =>
    rw [hf] at z
    exact z
  | cnt r =>
    rw [hf] at z
    exact z
  | exc x r =>
    rw [hf] at z
    exact z
  | stk =>
    rw [hf] at z
    exact z
theorem ds_one (h1 : DS X W C ow ow' st f) : DSs X W C ow ow' [st] f := by
  obtain ⟨ts, p, q⟩ := h1
  exact ⟨_, pss_one p, q⟩
theorem ds_pass (h : ∀ i ∈ ow', i ∈ ow) : DS X W C ow ow' (.Pass pos) nxS := ⟨_, ps_pass, fun H0 M0 pn σ ρ H As Dn hp S q => q σ H As (S.less h)⟩
/-- slots that no one asks any more are forgotten -/
def dropS (is : List Nat) (f : Env → Out) : Env → Out := fun r => match f r with
  | .nx r' => .nx (kill is r')
  | o => o
theorem ds_drop (is : List Nat) (h1 : DS X W C ow ow' st f) : DS X W C ow ow' st (dropS is f) := by
  obtain ⟨ts, p, q⟩ := h1
  refine ⟨_, p, fun H0 M0 pn σ ρ H As Dn hp S z => q H0 M0 pn σ ρ H As _ hp S ?_⟩
  unfold dropS at z
  cases hf : f ρ with
  | nx r =>
    rw [hf] at z
    intro σ' H' As' S'
    obtain ⟨As2, S2, _⟩ := Sta.kills is S'
    exact z σ' H' As2 S2
  | ret d r =>
    rw [hf] at z
    exact z
  | brk r =>
    rw [hf] at z
    exact z
  | cnt r =>
    rw [hf] at z
    exact z
  | exc x r =>
    rw [hf] at z
    exact z
  | stk =>
    rw [hf] at z
    exact z
/-! ### targets -/
def setsV : List Nat → List V → L2.St → L2.St
  | i :: is, v :: vs, s => setsV is vs (s.set i (some v))
  | _, _, s => s
def setsD : List Nat → List D → Env → Env
  | i :: is, v :: vs, s => setsD is vs (s.set i (some v))
  | _, _, s => s
/-- a target: the slots, and how a value falls apart -/
def DG (X : Cx) (is : List Nat) (tg : Expr) (t : D → Option (List D)) : Prop :=
  ∃ gt, PG X tg gt ∧ ∀ H o v d A σ Q, Rep X.K X.mg H o v d A → (match t d with
    | some ds => ∀ vs, RepL X.K X.mg H o vs ds A → vs.length = is.length → Q (setsV is vs σ) H
    | none => False) → gt v σ H Q
def t1 : D → Option (List D) := fun d => some [d]
def tN (n : Nat) : D → Option (List D) := fun d => match d with
  | .tuple ds => if ds.length = n then some ds else none
  | _ => none
theorem dg_name {i : Nat} (h : PG X e (gName i)) : DG X [i] e t1 := ⟨_, h, fun H o v d A σ Q r q => q [v] (RepL.one r) rfl⟩
/-- names of a tuple target -/
def PGN (X : Cx) (is : List Nat) (es : List Expr) : Prop := ∃ gs, PGs X es gs ∧ ∀ vs σ H Q, vs.length = is.length → Q (setsV is vs σ) H → gs vs σ H Q
theorem pgn_nil : PGN X [] [] := ⟨_, pgs_nil, fun vs σ H Q hl q => by
  cases vs with
  | nil => exact ⟨rfl, q⟩
  | cons v vs => cases hl⟩
theorem pgn_cons {i : Nat} {is : List Nat} {es : List Expr} (h : PG X e (gName i)) (h2 : PGN X is es) (hs : (assignEach (e :: es) X.env).map (·.2) = assign e X.env :: (assignEach es X.env).map (·.2) := by rfl) : PGN X (i :: is) (e :: es) := by
  obtain ⟨gs, p, q⟩ := h2
  refine ⟨_, pgs_cons h p hs, fun vs σ H Q hl z => ?_⟩
  cases vs with
  | nil => cases hl
  | cons v vs => exact ⟨v, vs, rfl, q vs _ H Q (Nat.succ.inj hl) z⟩
theorem dg_tup {is : List Nat} {es : List Expr} {kt : Nat} (hc : X.calm = true) (h : PGN X is es) (hn : (assignEach es X.env).length = is.length := by rfl) (hst : (assignEach es X.env).findIdx? (·.1) = none := by rfl) : DG X is (.Tuple es kt pos) (tN is.length) := by
  obtain ⟨gs, p, q⟩ := h
  refine ⟨_, pg_tup hc p hn hst, fun H o v d A σ Q r z => ?_⟩
  unfold tN at z
  cases d with
  | tuple ds =>
    try dsimp only at z
    split at z
    · rename_i ds2 hd
      split at hd
      · rename_i hl
        cases hd
        cases r with
        | tup h1 l1 =>
          have hv : _ = is.length := l1.len.trans hl
          exact ⟨_, _, rfl, h1, hv, q _ σ H Q hv (z _ l1 hv)⟩
      · cases hd
    · exact z.elim
  | _ => exact z.elim
section
variable {K : PySem.W.Frag} {mg : Str → Option Value} {H0 : Hp} {M0 : Addr → Prop} {pn : Nat → Option V}
/-- values of one's own come to slots -/
theorem Sta.putsO : ∀ (is : List Nat) {vs : List V} {ds : List D} {A : List Addr} {ow : List Nat} {σ : L2.St} {ρ : Env} {H : Hp} {As : Nat → List Addr}, RepL K mg H true vs ds A → vs.length = is.length → Sta K mg H0 M0 pn ow σ ρ H As → (∀ i ∈ is, pn i = none) →
    A.Nodup → (∀ a ∈ A, H0 a = none ∨ M0 a) → (∀ a ∈ A, ∀ j, a ∉ As j) → ∃ As' ow', Sta K mg H0 M0 pn ow' (setsV is vs σ) (setsD is ds ρ) H As' ∧ (∀ i ∈ ow, i ∈ ow') ∧ ∀ i ∈ is, i ∈ ow'
  | [], _, _, _, ow, _, _, _, As, .nil, _, S, _, _, _, _ => ⟨As, ow, S, (fun _ z => z), (fun _ z => by cases z)⟩
  | [], _, _, _, _, _, _, _, _, .cons _ _, hl, _, _, _, _, _ => by cases hl
  | i :: is, _, _, _, _, _, _, _, _, .nil, hl, _, _, _, _, _ => by cases hl
  | i :: is, _, _, _, ow, σ, ρ, H, As, .cons (v := v) (d := d) (A := A) (B := B) h r, hl, S, hp, nd, nw, fr => by
    have nd' := List.nodup_append.mp nd
    have S1 := S.put (ow' := i :: ow) h (hp i List.mem_cons_self) (fun _ => ⟨nd'.1, fun a ha => nw a (List.mem_append_left _ ha), fun a ha => fr a (List.mem_append_left _ ha)⟩)
      (fun j hj hji a ha hA => fr a (List.mem_append_left _ hA) j ha) (fun j hj hji => (List.mem_cons.mp hj).resolve_left hji) (fun _ => rfl)
    obtain ⟨As', ow', S', h1, h2⟩ := Sta.putsO is r (Nat.succ.inj hl) S1 (fun j hj => hp j (List.mem_cons_of_mem _ hj)) nd'.2.1 (fun a ha => nw a (List.mem_append_right _ ha)) (fun a ha j => by
      try dsimp only
      split
      · split
        · exact fun hA => nd'.2.2 a hA a ha rfl
        · intro z
          cases z
      · exact fr a (List.mem_append_right _ ha) j)
    refine ⟨As', ow', S', fun j hj => h1 j (List.mem_cons_of_mem _ hj), fun j hj => ?_⟩
    rcases List.mem_cons.mp hj with rfl | hj
    · exact h1 _ List.mem_cons_self
    · exact h2 j hj
/-- values of others come to slots -/
theorem Sta.putsB : ∀ (is : List Nat) {vs : List V} {ds : List D} {A : List Addr} {ow : List Nat} {σ : L2.St} {ρ : Env} {H : Hp} {As : Nat → List Addr} {o : Bool}, RepL K mg H o vs ds A → vs.length = is.length → Sta K mg H0 M0 pn ow σ ρ H As → (∀ i ∈ is, pn i = none) →
    (∀ i ∈ ow, i ∉ is) → (∀ i ∈ ow, ∀ a ∈ As i, a ∉ A) → ∃ As', Sta K mg H0 M0 pn ow (setsV is vs σ) (setsD is ds ρ) H As'
  | [], _, _, _, ow, _, _, _, As, _, .nil, _, S, _, _, _ => ⟨As, S⟩
  | [], _, _, _, _, _, _, _, _, _, .cons _ _, hl, _, _, _, _ => by cases hl
  | i :: is, _, _, _, _, _, _, _, _, _, .nil, hl, _, _, _, _ => by cases hl
  | i :: is, _, _, _, ow, σ, ρ, H, As, o, .cons (v := v) (d := d) (A := A) (B := B) h r, hl, S, hp, ni, fr => by
    have S1 := S.put (ow' := ow) h.weak (hp i List.mem_cons_self) (fun z => by cases z)
      (fun j hj hji a ha hA => fr j hj a ha (List.mem_append_left _ hA)) (fun j hj hji => hj) (fun z => absurd List.mem_cons_self (ni i z))
    exact Sta.putsB is r (Nat.succ.inj hl) S1 (fun j hj => hp j (List.mem_cons_of_mem _ hj)) (fun j hj z => ni j hj (List.mem_cons_of_mem _ z)) (fun j hj a ha hB => by
      try dsimp only at ha
      rw [if_neg (fun z => ni j hj (by rw [z]; exact List.mem_cons_self))] at ha
      exact fr j hj a ha (List.mem_append_right _ hB))
end
/-! ### assignments -/
def asgS (ms is : List Nat) (t : D → Option (List D)) (f : Env → R D) : Env → Out := fun r => match f r with
  | .ok d => match t d with
    | some ds => .nx (setsD is ds (kill ms r))
    | none => .stk
  | .exc x => .exc x r
  | .stk => .stk
def subL (a b : List Nat) : Bool := a.all fun i => b.contains i
theorem subL_mem {a b : List Nat} (h : subL a b = true) : ∀ i ∈ a, i ∈ b := fun i hi => contains_mem.mp (List.all_eq_true.mp h i hi)
def disL (a b : List Nat) : Bool := a.all fun i => !b.contains i
theorem disL_mem {a b : List Nat} (h : disL a b = true) : ∀ i ∈ a, i ∉ b := fun i hi z => by
  have := List.all_eq_true.mp h i hi
  rw [contains_mem.mpr z] at this
  cases this
theorem setsD_len : ∀ (is : List Nat) (ds : List D) (r : Env), (setsD is ds r).length = r.length
  | [], _, _ => rfl
  | _ :: _, [], _ => rfl
  | i :: is, d :: ds, r => (setsD_len is ds _).trans List.length_set
/-- x = e, e one's own -/
theorem ds_asg {is ms : List Nat} {t : D → Option (List D)} {tg : Expr} (h1 : DE X W ow (.own ms) e den) (h2 : DG X is tg t) (hio : disL is (C.io ++ C.pl) = true) (how : subL ow' (is ++ ow) = true) (hox : subL C.owx ow = true)
    (hs : swapsWithSole [tg] e pos.line X.env = pure false := by rfl) (hw : swappedStores [tg] e X.env = pure none := by rfl) (h3 : (assignEach [tg] X.env).map (·.2) = [assign tg X.env] := by rfl) : DS X W C ow ow' (.Assign [tg] e pos) (asgS ms is t den) := by
  obtain ⟨te, p, q⟩ := h1
  obtain ⟨gt, pg, qg⟩ := h2
  refine ⟨_, ps_asg p pg hs hw h3, fun H0 M0 pn σ ρ H As Dn hp S z => q σ ρ H As _ ⟨H0, M0, pn, S⟩ ?_⟩
  unfold asgS at z
  cases hd : den ρ with
  | stk =>
    rw [hd] at z
    exact z
  | exc x =>
    rw [hd] at z
    exact fun c dd H' A sm rp fx => z c dd σ H' As A ((S.same sm).less (subL_mem hox)) rp (S.fx fx)
  | ok d =>
    rw [hd] at z
    intro v H1 A sm rp ok
    refine qg H1 true v d A σ _ rp ?_
    try dsimp only at z
    cases ht : t d with
    | none =>
      rw [ht] at z
      exact z
    | some ds =>
      rw [ht] at z
      intro vs rl hl
      obtain ⟨As1, S1, k1, k2⟩ := Sta.kills ms (S.same sm)
      have fr : ∀ a ∈ A, ∀ j, a ∉ As1 j := fun a ha j hj => by
        rcases k1 j with e | e
        · rw [e] at hj
          rcases ok.2.2 a ha with w | ⟨i, hi, w⟩
          · exact S.old hj w
          · by_cases hji : j = i
            · subst hji
              rw [k2 j hi] at e
              rw [← e] at hj
              cases hj
            · exact S.sep i (ok.2.1 i hi) j hji a w hj
        · rw [e] at hj
          cases hj
      obtain ⟨As', ow2, S', h1, h2⟩ := Sta.putsO is rl hl S1 (fun i hi => hp i (disL_mem hio i hi)) ok.1 (fun a ha => by
        rcases ok.2.2 a ha with w | ⟨i, hi, w⟩
        · exact S.was w
        · exact S.new i (ok.2.1 i hi) a w) fr
      exact z _ _ As' (S'.less fun i hi => by
        rcases List.mem_append.mp (subL_mem how i hi) with w | w
        · exact h2 i w
        · exact h1 i w)
/-- x = e, e of others -/
theorem ds_asgB {is : List Nat} {t : D → Option (List D)} {tg : Expr} (h1 : DE X W ow k e den) (h2 : DG X is tg t) (hio : disL is (C.io ++ C.pl) = true) (how : subL ow' ow = true) (hs1 : disL ow' k.src = true) (hs2 : disL ow' is = true) (hox : subL C.owx ow = true)
    (hs : swapsWithSole [tg] e pos.line X.env = pure false := by rfl) (hw : swappedStores [tg] e X.env = pure none := by rfl) (h3 : (assignEach [tg] X.env).map (·.2) = [assign tg X.env] := by rfl) : DS X W C ow ow' (.Assign [tg] e pos) (asgS [] is t den) := by
  obtain ⟨te, p, q⟩ := h1
  obtain ⟨gt, pg, qg⟩ := h2
  refine ⟨_, ps_asg p pg hs hw h3, fun H0 M0 pn σ ρ H As Dn hp S z => q σ ρ H As _ ⟨H0, M0, pn, S⟩ ?_⟩
  unfold asgS at z
  cases hd : den ρ with
  | stk =>
    rw [hd] at z
    exact z
  | exc x =>
    rw [hd] at z
    exact fun c dd H' A sm rp fx => z c dd σ H' As A ((S.same sm).less (subL_mem hox)) rp (S.fx fx)
  | ok d =>
    rw [hd] at z
    intro v H1 A sm rp ok
    refine qg H1 false v d A σ _ rp.weak ?_
    try dsimp only at z
    cases ht : t d with
    | none =>
      rw [ht] at z
      exact z
    | some ds =>
      rw [ht] at z
      intro vs rl hl
      have ok' := Kd.brOk ⟨H0, M0, pn, S⟩ ok
      obtain ⟨As', S'⟩ := Sta.putsB is rl hl ((S.same sm).less (subL_mem how)) (fun i hi => hp i (disL_mem hio i hi)) (disL_mem hs2) (fun i hi => ok' i (subL_mem how i hi) (disL_mem hs1 i hi))
      exact z _ _ As' S'
/-! ### return, expressions, if -/
def retS (f : Env → R D) : Env → Out := fun r => match f r with
  | .ok d => .ret d r
  | .exc x => .exc x r
  | .stk => .stk
theorem ds_ret {ms : List Nat} (h1 : DE X W ow (.own ms) e den) (hio : subL C.io ow = true) (hms : disL C.io ms = true) (hox : subL C.owx ow = true) : DS X W C ow ow' (.Return (some e) pos) (retS den) := by
  obtain ⟨te, p, q⟩ := h1
  refine ⟨_, ps_ret p, fun H0 M0 pn σ ρ H As Dn hp S z => q σ ρ H As _ ⟨H0, M0, pn, S⟩ ?_⟩
  unfold retS at z
  cases hd : den ρ with
  | stk =>
    rw [hd] at z
    exact z
  | exc x =>
    rw [hd] at z
    exact fun c dd H' A sm rp fx => z c dd σ H' As A ((S.same sm).less (subL_mem hox)) rp (S.fx fx)
  | ok d =>
    rw [hd] at z
    intro v H1 A sm rp ok
    refine z v σ H1 As A ((S.same sm).less (subL_mem hio)) (by cases C.rb with
      | true => exact rp.weak
      | false => exact rp) fun _ => ⟨ok.1, fun a ha => ⟨?_, fun i hi hA => ?_⟩⟩
    · rcases ok.2.2 a ha with w | ⟨j, hj, w⟩
      · exact S.was w
      · exact S.new j (ok.2.1 j hj) a w
    · rcases ok.2.2 a ha with w | ⟨j, hj, w⟩
      · exact S.old hA w
      · exact S.sep j (ok.2.1 j hj) i (fun z => disL_mem hms i hi (z ▸ hj)) a w hA
def retN : Env → Out := fun r => .ret .none r
theorem ds_retN (hio : subL C.io ow = true) : DS X W C ow ow' (.Return none pos) retN :=
  ⟨_, ps_retN, fun H0 M0 pn σ ρ H As Dn hp S z => z .non σ H As [] (S.less (subL_mem hio)) .non fun _ => ⟨List.nodup_nil, fun a ha => by cases ha⟩⟩
def expS (f : Env → R D) : Env → Out := fun r => match f r with
  | .ok _ => .nx r
  | .exc x => .exc x r
  | .stk => .stk
theorem ds_expr (h1 : DE X W ow k e den) (how : subL ow' ow = true) (hox : subL C.owx ow = true) (hs : swapsWith e none pos.line X.env = pure false := by rfl) : DS X W C ow ow' (.Expr e pos) (expS den) := by
  obtain ⟨te, p, q⟩ := h1
  refine ⟨_, ps_expr p hs, fun H0 M0 pn σ ρ H As Dn hp S z => q σ ρ H As _ ⟨H0, M0, pn, S⟩ ?_⟩
  unfold expS at z
  cases hd : den ρ with
  | stk =>
    rw [hd] at z
    exact z
  | exc x =>
    rw [hd] at z
    exact fun c dd H' A sm rp fx => z c dd σ H' As A ((S.same sm).less (subL_mem hox)) rp (S.fx fx)
  | ok d =>
    rw [hd] at z
    exact fun v H1 A sm rp ok => z σ H1 As ((S.same sm).less (subL_mem how))
def ifS (c : Env → R Bool) (f g : Env → Out) : Env → Out := fun r => match c r with
  | .ok b => if b = true then f r else g r
  | .exc x => .exc x r
  | .stk => .stk
theorem ds_if {tc : Env → R Bool} {pos : Pos} (h : DT X W ow c tc) (h1 : DSs X W C ow ow' sts f) (h2 : DSs X W C ow ow' sts2 g) (hox : subL C.owx ow = true) : DS X W C ow ow' (.If c sts sts2 pos) (ifS tc f g) := by
  obtain ⟨te, p, q⟩ := h
  obtain ⟨ta, pa, qa⟩ := h1
  obtain ⟨tb, pb, qb⟩ := h2
  refine ⟨_, ps_if p pa pb, fun H0 M0 pn σ ρ H As Dn hp S z => q σ ρ H As _ ⟨H0, M0, pn, S⟩ ?_⟩
  unfold ifS at z
  cases hd : tc ρ with
  | stk =>
    rw [hd] at z
    exact z
  | exc x =>
    rw [hd] at z
    exact fun c dd H' A sm rp fx => z c dd σ H' As A ((S.same sm).less (subL_mem hox)) rp (S.fx fx)
  | ok d =>
    rw [hd] at z
    intro H1 sm
    cases d with
    | true =>
      try dsimp only at z
      rw [if_pos rfl] at z
      exact iteT (qa H0 M0 pn σ ρ H1 As Dn hp (S.same sm) z)
    | false =>
      try dsimp only at z
      rw [if_neg Bool.false_ne_true] at z
      exact iteF (qb H0 M0 pn σ ρ H1 As Dn hp (S.same sm) z)
def brkS : Env → Out := fun r => .brk r
def cntS : Env → Out := fun r => .cnt r
theorem ds_break (h : subL C.owl ow = true) : DS X W C ow ow' (.Break pos) brkS := ⟨_, ps_break, fun H0 M0 pn σ ρ H As Dn hp S q => q σ H As (S.less (subL_mem h))⟩
theorem ds_continue (h : subL C.owl ow = true) : DS X W C ow ow' (.Continue pos) cntS := ⟨_, ps_continue, fun H0 M0 pn σ ρ H As Dn hp S q => q σ H As (S.less (subL_mem h))⟩
end
end Dg

namespace Dg
open PySem PySem.Spec PyProof.Rows L2
/-! ### what a for walks -/
structure ItOk (X : Cx) (J : It) (xs : List D) (H1 : Hp) (A : List Addr) : Prop where
  go : ∀ (M : Addr → Prop) H i, Fr M H1 H → (∀ a ∈ A, ¬ M a) → i < xs.length → J.go i H
  yld : ∀ (M : Addr → Prop) H i x H', Fr M H1 H → (∀ a ∈ A, ¬ M a) → J.yld i H x H' → Same H H' ∧ ∀ d, xs[i]? = some d → ∃ B, Rep X.K X.mg H' false x d B ∧ ∀ b ∈ B, b ∈ A
  stop : ∀ (M : Addr → Prop) H, Fr M H1 H → (∀ a ∈ A, ¬ M a) → J.stop xs.length H
def GoodI (X : Cx) (W : WX) (σ : L2.St) (ow : List Nat) (ss : List Nat) (H : Hp) (As : Nat → List Addr) (r : R (List D)) (Q : It → Hp → Prop) : Prop := match r with
  | .ok xs => ∀ J H1 A, Same H H1 → ItOk X J xs H1 A → (Kd.br ss).Ok ow H As A → (∀ a ∈ A, H1 a ≠ none) → Q J H1
  | .exc x => ∀ c dd H' A, Same H H' → RepX X.K X.mg H' c dd x A → (∀ b ∈ A, H b = none) → W c dd σ H'
  | .stk => False
def DI (X : Cx) (W : WX) (ow ss : List Nat) (tg iter : Expr) (items : Env → R (List D)) : Prop :=
  ∃ wi, PI X tg iter wi ∧ ∀ σ ρ H As Q, On X ow σ ρ H As → GoodI X W σ ow ss H As (items ρ) Q → wi σ H Q
def dItems (d : D) : R (List D) := match d with
  | .list xs => .ok xs
  | .tuple xs => .ok xs
  | .str s => .ok (s.cps.toList.map fun c => .str ⟨#[c]⟩)
  | .dict ((.none, .list xs) :: _) => .ok xs
  | _ => .stk
def itE (f : Env → R D) : Env → R (List D) := fun ρ => (f ρ).bind dItems
theorem PI.or2 {X : Cx} {tg e : Expr} {t u : TI} (h : PI X tg e t) (h' : PI X tg e u) : PI X tg e (fun σ H Q => t σ H Q ∨ u σ H Q) := by
  refine ⟨fun pins s σ H Q I q => ?_⟩
  rcases q with q | q
  · exact h.run pins s σ H Q I q
  · exact h'.run pins s σ H Q I q
section
variable {X : Cx} {W : WX} {C : Cfg} {ow ow' ow1 ow2 : List Nat} {k k1 k2 k3 : Kd} {e a b c tg : Expr} {st : Stmt} {sts sts2 : List Stmt} {den d1 d2 : Env → R D} {f g : Env → Out} {pos p2 : Pos}
theorem it_seq {H1 : Hp} {a : Addr} {vs : List V} {xs : List D} {A : List Addr} {B : List Addr} (hs : ∀ (M : Addr → Prop) H, Fr M H1 H → (∀ a ∈ A, ¬ M a) → SqL X.K H a vs) (l : RepL X.K X.mg H1 false vs xs B) (hB : ∀ b ∈ B, b ∈ A) : ItOk X (Itl X.K a) xs H1 A where
  go M H i f n h := by
    have q := hs M H f n
    exact ⟨vs, vs[i]'(by rw [l.len]; exact h), q, List.getElem?_eq_getElem _⟩
  yld M H i x H' f n h := by
    obtain ⟨rfl, h⟩ := h
    refine ⟨Same.refl _, fun d hd => ?_⟩
    obtain ⟨y, C, hy, r, hc⟩ := (l.fr f fun a ha => n a (hB a ha)).get hd
    have e := (h vs (hs M _ f n)).symm.trans hy
    cases e
    exact ⟨C, r, fun b hb => hB b (hc b hb)⟩
  stop M H f n := ⟨vs, hs M H f n, by rw [l.len]; exact Nat.le_refl _⟩
theorem it_tup {H1 : Hp} {a : Addr} {vs : List V} {xs : List D} {A : List Addr} (hs : SqT X.K H1 a vs) (l : RepL X.K X.mg H1 false vs xs A) : ItOk X (Itt X.K a) xs H1 A where
  go M H i f n h := by
    have q := sqT_fr hs f
    exact ⟨vs, vs[i]'(by rw [l.len]; exact h), q, List.getElem?_eq_getElem _⟩
  yld M H i x H' f n h := by
    obtain ⟨rfl, h⟩ := h
    refine ⟨Same.refl _, fun d hd => ?_⟩
    obtain ⟨y, C, hy, r, hc⟩ := (l.fr f n).get hd
    have e := (h vs (sqT_fr hs f)).symm.trans hy
    cases e
    exact ⟨C, r, hc⟩
  stop M H f n := ⟨vs, sqT_fr hs f, by rw [l.len]; exact Nat.le_refl _⟩
theorem it_str {H1 : Hp} {s : Str} : ItOk X (Its s) (s.cps.toList.map fun c => .str ⟨#[c]⟩) H1 [] where
  go M H i f n h := by
    show i < s.cps.size
    rw [List.length_map, Array.length_toList] at h
    exact h
  yld M H i x H' f n h := by
    obtain ⟨rfl, c, hc, rfl⟩ := h
    refine ⟨Same.refl _, fun d hd => ?_⟩
    rw [List.getElem?_map, Array.getElem?_toList, hc] at hd
    cases hd
    exact ⟨[], .str _, fun b hb => hb⟩
  stop M H f n := by
    show s.cps.size ≤ _
    rw [List.length_map, Array.length_toList]
    exact Nat.le_refl _
theorem it_range {H1 : Hp} {lo : Int} {n : Nat} : ItOk X (Itr lo n) ((List.range n).map fun (i : Nat) => .int (lo + i)) H1 [] where
  go M H i f n h := by
    rw [List.length_map, List.length_range] at h
    exact h
  yld M H i x H' f n h := by
    obtain ⟨rfl, rfl⟩ := h
    refine ⟨Same.refl _, fun d hd => ?_⟩
    rw [List.getElem?_map] at hd
    cases e : (List.range _)[i]? with
    | none =>
      rw [e] at hd
      cases hd
    | some j =>
      rw [e] at hd
      have ej : i = j := by
        obtain ⟨_, q⟩ := List.getElem?_eq_some_iff.mp e
        rw [List.getElem_range] at q
        exact q
      subst ej
      cases hd
      exact ⟨[], .int _, fun b hb => hb⟩
  stop M H f n := by
    show _ ≤ _
    rw [List.length_map, List.length_range]
    exact Nat.le_refl _
theorem di_seq (h : DE X W ow k e den) : DI X W ow k.src tg e (itE den) := by
  obtain ⟨te, p, q⟩ := h
  refine ⟨_, PI.or2 (pi_list p) (PI.or2 (pi_tup p) (pi_str p)), fun σ ρ H As Q S z => ?_⟩
  unfold itE at z
  cases hd : den ρ with
  | stk =>
    rw [hd] at z
    exact z.elim
  | exc x =>
    rw [hd] at z
    refine .inl (q σ ρ H As _ S ?_)
    rw [hd]
    exact z
  | ok d =>
    rw [hd, R.bind_ok] at z
    unfold dItems at z
    split at z
    · refine .inl (q σ ρ H As _ S ?_)
      rw [hd]
      intro v H1 A sm rp ok
      have ok' := Kd.brOk S ok
      have old := fun (a : Addr) (ha : a ∈ A) => rp.old ha
      cases rp.weak with
      | lst h1 l1 =>
        refine ⟨_, rfl, ⟨_, .inl (.inl h1)⟩, z _ H1 _ sm (it_seq (fun M H f n => .inl (.inl (f _ _ h1 fun _ => n _ List.mem_cons_self))) l1 fun b hb => List.mem_cons_of_mem _ hb) ok' old⟩
    · refine .inr (.inl (q σ ρ H As _ S ?_))
      rw [hd]
      intro v H1 A sm rp ok
      have ok' := Kd.brOk S ok
      have old := fun (a : Addr) (ha : a ∈ A) => rp.old ha
      cases rp.weak with
      | tup h1 l1 => exact ⟨_, rfl, ⟨_, h1⟩, z _ H1 _ sm (it_tup h1 l1) ok' old⟩
    · refine .inr (.inr (q σ ρ H As _ S ?_))
      rw [hd]
      intro v H1 A sm rp ok
      have ok' := Kd.brOk S ok
      cases rp.weak with
      | str s => exact ⟨_, rfl, z _ H1 [] sm it_str (fun j _ _ a _ hb => by cases hb) fun a ha => by cases ha⟩
    · refine .inl (q σ ρ H As _ S ?_)
      rw [hd]
      intro v H1 A sm rp ok
      have ok' := Kd.brOk S ok
      have old := fun (a : Addr) (ha : a ∈ A) => rp.old ha
      have rp' := rp.weak
      generalize ed : PyData.dict ((PyData.none, PyData.list ‹List D›) :: ‹List (D × D)›) = w at rp'
      cases rp' with
      | lstF h1 l1 =>
        injection ed with e1
        injection e1 with e2 e3
        injection e2 with e4 e5
        injection e5 with e6
        subst e6
        exact ⟨_, rfl, ⟨_, h1.seq⟩, z _ H1 _ sm (it_seq (fun M H f n => (h1.fr f).seq) l1 fun b hb => hb) ok' old⟩
      | dct h1 l1 =>
        injection ed with e1
        subst e1
        exact (repP_tag l1).elim
      | dctF h1 l1 =>
        injection ed with e1
        subst e1
        exact (repP_tag l1).elim
      | ins h1 h2 l1 =>
        injection ed with e1
        injection e1 with e2 e3
        injection e2 with e4 e5
        cases e5
      | exn h1 h2 l1 =>
        injection ed with e1
        injection e1 with e2 e3
        injection e2 with e4 e5
        cases e5
      | _ => cases ed
    · exact z.elim
def big62 (i : Int) : Bool := decide (-(2 ^ 62) ≤ i ∧ i < 2 ^ 62)
theorem big62_of {i : Int} (h : big62 i = true) : -(2 ^ 62) ≤ i ∧ i < 2 ^ 62 := of_decide_eq_true h
def dRange (ds : List D) : R (List D) := match ds with
  | [.int j] => if big62 j = true then .ok ((List.range j.toNat).map fun (i : Nat) => .int (0 + i)) else .stk
  | [.int i, .int j] => if (big62 i && big62 j) = true then .ok ((List.range (j - i).toNat).map fun (q : Nat) => .int (i + q)) else .stk
  | _ => .stk
def rgE (g : Env → R (List D)) : Env → R (List D) := fun ρ => (g ρ).bind dRange
theorem di_range1 {g : Env → R (List D)} {p : Pos} (hm : X.mg "range" = none) (h : DA X W ow k 1 [a] g) (hg : Gl X "range" := by rfl) (hs : starEach [a] X.env = [(false, eval a X.env)] := by rfl) : DI X W ow [] tg (.Call (.Name "range" p) [a] [] pos) (rgE g) := by
  obtain ⟨ta, pa, q⟩ := h
  refine ⟨_, pi_range1 hg hm pa hs, fun σ ρ H As Q S z => q σ ρ H As _ S ?_⟩
  unfold rgE at z
  cases hd : g ρ with
  | stk =>
    rw [hd] at z
    exact z
  | exc x =>
    rw [hd] at z
    exact z
  | ok d =>
    rw [hd, R.bind_ok] at z
    intro vs H1 A sm rp ok hl
    unfold dRange at z
    split at z
    · split at z
      · rename_i hz
        have hz' := big62_of hz
        cases rp with
        | cons r1 r2 =>
          cases r1.weak
          cases r2
          exact ⟨_, rfl, hz'.1, hz'.2, z _ H1 [] sm it_range (fun j _ _ a _ hb => by cases hb) fun a ha => by cases ha⟩
      · exact z.elim
    · have := rp.len
      rw [hl] at this
      cases this
    · exact z.elim
theorem di_range2 {g : Env → R (List D)} {p : Pos} (hm : X.mg "range" = none) (h : DA X W ow k 2 [a, b] g) (hg : Gl X "range" := by rfl) (hs : starEach [a, b] X.env = [(false, eval a X.env), (false, eval b X.env)] := by rfl) (hs2 : starEach [b] X.env = [(false, eval b X.env)] := by rfl) : DI X W ow [] tg (.Call (.Name "range" p) [a, b] [] pos) (rgE g) := by
  obtain ⟨ta, pa, q⟩ := h
  refine ⟨_, pi_range2 hg hm pa hs hs2, fun σ ρ H As Q S z => q σ ρ H As _ S ?_⟩
  unfold rgE at z
  cases hd : g ρ with
  | stk =>
    rw [hd] at z
    exact z
  | exc x =>
    rw [hd] at z
    exact z
  | ok d =>
    rw [hd, R.bind_ok] at z
    intro vs H1 A sm rp ok hl
    unfold dRange at z
    split at z
    · have := rp.len
      rw [hl] at this
      cases this
    · split at z
      · rename_i hz
        rw [Bool.and_eq_true] at hz
        have h1 := big62_of hz.1
        have h2 := big62_of hz.2
        cases rp with
        | cons r1 r2 =>
          cases r1.weak
          cases r2 with
          | cons r3 r4 =>
            cases r3.weak
            cases r4
            exact ⟨_, _, rfl, ⟨h1.1, h1.2, h2.1, h2.2⟩, z _ H1 [] sm it_range (fun j _ _ a _ hb => by cases hb) fun a ha => by cases ha⟩
      · exact z.elim
    · exact z.elim
/-! ### for -/
/-- the turns of a loop -/
def turns (is : List Nat) (t : D → Option (List D)) (ks : List Nat) (body : Env → Out) : List D → Env → Out
  | [], r => .nx r
  | x :: xs, r => match t x with
    | none => .stk
    | some ds => match body (setsD is ds r) with
      | .nx r' => turns is t ks body xs (kill ks r')
      | .cnt r' => turns is t ks body xs (kill ks r')
      | .brk r' => .nx (kill ks r')
      | o => o
def forS (is : List Nat) (t : D → Option (List D)) (ks : List Nat) (items : Env → R (List D)) (body : Env → Out) : Env → Out := fun r => match items r with
  | .ok xs => turns is t ks body xs (kill ks r)
  | .exc x => .exc x r
  | .stk => .stk
theorem ds_for {items : Env → R (List D)} {is ss ks owl : List Nat} {t : D → Option (List D)} {iter : Expr} (hp : PassesOwn (model X.prog X.w) X.A X.env X.xe) (hc : X.calm = true) (hi : DI X W ow ss tg iter items) (hg : DG X is tg t)
    (hb : DSs X W { C with owl := owl } owl owl sts f) (h1 : subL owl ow = true) (h2 : disL owl ss = true) (h3 : disL owl is = true) (h4 : disL is (C.io ++ C.pl) = true) (h5 : subL ow' owl = true) (h6 : subL C.owx ow = true)
    (hs : ∀ x, foldedSetIterable iter X.env x = pure x := by intro _; rfl) : DS X W C ow ow' (.For tg iter sts [] pos) (forS is t ks items f) := by
  obtain ⟨wi, pi, qi⟩ := hi
  obtain ⟨gt, pg, qg⟩ := hg
  obtain ⟨tb, pb, qb⟩ := hb
  refine ⟨_, ps_for hp hc pi pg pb hs, fun H0 M0 pn σ ρ H As Dn hp S z => qi σ ρ H As _ ⟨H0, M0, pn, S⟩ ?_⟩
  unfold forS at z
  cases hd : items ρ with
  | stk =>
    rw [hd] at z
    exact z
  | exc x =>
    rw [hd] at z
    exact fun c dd H' A sm rp fx => z c dd σ H' As A ((S.same sm).less (subL_mem h6)) rp (S.fx fx)
  | ok xs =>
    rw [hd] at z
    intro J H1 A sm it ok old
    have z : Post X W C H0 M0 pn ow' Dn (turns is t ks f xs (kill ks ρ)) := z
    have S1 := (S.same sm).less (subL_mem h1)
    -- what is walked stands apart from what the body changes
    have nM : ∀ a ∈ A, ¬ ∃ i ∈ owl, a ∈ As i := fun a ha => by
      rintro ⟨i, hi, h⟩
      exact ok i (subL_mem h1 i hi) (disL_mem h2 i hi) a h ha
    obtain ⟨Ak, Sk, hk1, hk2⟩ := Sta.kills ks S1
    have T0 := S1.rebase
    obtain ⟨Al, Sl, _, _⟩ := Sta.kills ks T0
    refine ⟨fun i m σ' H' => i + m = xs.length ∧ ∃ ρ' As', Sta X.K X.mg H1 (fun a => ∃ i ∈ owl, a ∈ As i) pn owl σ' ρ' H' As' ∧ Post X W C H0 M0 pn ow' Dn (turns is t ks f (xs.drop i) ρ'), ⟨xs.length, (by omega), _, _, Sl, z⟩, fun i m σ' H' hW => ?_⟩
    obtain ⟨em, ρ', As', T, zz⟩ := hW
    by_cases hl : i < xs.length
    · refine .inr ⟨it.go _ _ i T.fr nM hl, fun σ2 H2 => ∃ ρ2 As2, Sta X.K X.mg H1 (fun a => ∃ i ∈ owl, a ∈ As i) pn owl σ2 ρ2 H2 As2 ∧ Post X W C H0 M0 pn ow' Dn (turns is t ks f (xs.drop (i + 1)) ρ2), fun σ2 H2 hN => ?_, fun x H2 hy => ?_⟩
      · obtain ⟨ρ2, As2, T2, z2⟩ := hN
        exact ⟨m - 1, by omega, by omega, ρ2, As2, T2, z2⟩
      · obtain ⟨s2, hr⟩ := it.yld _ _ i x H2 T.fr nM hy
        obtain ⟨B, rB, hB⟩ := hr _ (List.getElem?_eq_getElem hl)
        refine qg H2 false x xs[i] B σ' _ rB ?_
        rw [List.drop_eq_getElem_cons hl, turns] at zz
        cases ht : t xs[i] with
        | none =>
          rw [ht] at zz
          exact zz
        | some ds =>
          rw [ht] at zz
          intro vs rl hvl
          have T2 := T.same s2
          have apart : ∀ j ∈ owl, ∀ a ∈ As' j, a ∉ B := fun j hj a ha hb => by
            rcases T.new j hj a ha with w | w
            · exact old a (hB a hb) w
            · exact nM a (hB a hb) w
          obtain ⟨As3, T3⟩ := Sta.putsB is rl hvl T2 (fun i hi => hp i (disL_mem h4 i hi)) (disL_mem h3) apart
          refine qb _ _ pn _ _ H2 As3 _ hp T3 ?_
          dsimp only at zz
          cases hf : f (setsD is ds ρ') with
          | nx r =>
            rw [hf] at zz
            intro σ4 H4 As4 T4
            obtain ⟨As5, T5, _, _⟩ := Sta.kills ks T4
            exact ⟨_, As5, T5, zz⟩
          | cnt r =>
            rw [hf] at zz
            intro σ4 H4 As4 T4
            obtain ⟨As5, T5, _, _⟩ := Sta.kills ks T4
            exact ⟨_, As5, T5, zz⟩
          | brk r =>
            rw [hf] at zz
            intro σ4 H4 As4 T4
            obtain ⟨As5, T5, _, _⟩ := Sta.kills ks T4
            exact zz σ4 H4 As5 ((S1.unbase T5).less (subL_mem h5))
          | ret d r =>
            rw [hf] at zz
            intro v σ4 H4 As4 A4 T4 r4 n4
            exact zz v σ4 H4 As4 A4 (S1.unbase T4) r4 fun e => ⟨(n4 e).1, fun a ha => ⟨S1.was2 ((n4 e).2 a ha).1, ((n4 e).2 a ha).2⟩⟩
          | exc x r =>
            rw [hf] at zz
            intro c dd σ4 H4 As4 A4 T4 r4 fx
            exact zz c dd σ4 H4 As4 A4 (S1.unbase T4) r4 fun a ha => ⟨S1.was2 (fx a ha).1, (fx a ha).2⟩
          | stk =>
            rw [hf] at zz
            exact zz
    · have ei : i = xs.length := by omega
      subst ei
      refine .inl ⟨it.stop _ _ T.fr nM, ?_⟩
      rw [List.drop_length, turns] at zz
      exact zz σ' H' As' ((S1.unbase T).less (subL_mem h5))
end
end Dg

namespace Dg
open PySem PySem.Spec PyProof.Rows L2
/-! ### slots that are wiped -/
theorem wipe_get (σ : L2.St) : ∀ (vs : List Nat) (j : Nat), (wipe σ vs)[j]? = if j ∈ vs then (σ[j]?).map fun _ => none else σ[j]?
  | [], j => by simp [wipe]
  | v :: vs, j => by
    rw [wipe]
    by_cases hj : j = v
    · subst hj
      rw [if_pos List.mem_cons_self]
      by_cases hl : j < σ.length
      · rw [List.getElem?_set_self (by rw [wipe_length]; exact hl), List.getElem?_eq_getElem hl]
        rfl
      · rw [List.getElem?_eq_none (by rw [List.length_set, wipe_length]; omega), List.getElem?_eq_none (by omega)]
        rfl
    · rw [List.getElem?_set_ne (fun z => hj z.symm), wipe_get σ vs j]
      by_cases hm : j ∈ vs
      · rw [if_pos hm, if_pos (List.mem_cons_of_mem _ hm)]
      · rw [if_neg hm, if_neg]
        intro z
        rcases List.mem_cons.mp z with z | z
        · exact hj z
        · exact hm z
theorem setsV_len : ∀ (is : List Nat) (vs : List V) (σ : L2.St), (setsV is vs σ).length = σ.length
  | [], _, _ => rfl
  | _ :: _, [], _ => rfl
  | i :: is, d :: ds, r => (setsV_len is ds _).trans List.length_set
theorem setsV_ne : ∀ (is : List Nat) (vs : List V) (σ : L2.St) (j : Nat), j ∉ is → (setsV is vs σ)[j]? = σ[j]?
  | [], _, _, _, _ => rfl
  | _ :: _, [], _, _, _ => rfl
  | i :: is, d :: ds, r, j, h => by
    rw [setsV, setsV_ne is ds _ j fun z => h (List.mem_cons_of_mem _ z), List.getElem?_set_ne fun z => h (by rw [z]; exact List.mem_cons_self)]
theorem wipe_sets (is : List Nat) (vs : List V) (σ : L2.St) : wipe (setsV is vs (wipe σ is)) is = wipe σ is := by
  apply List.ext_getElem?
  intro j
  rw [wipe_get, wipe_get]
  by_cases hj : j ∈ is
  · rw [if_pos hj, if_pos hj]
    by_cases hl : j < σ.length
    · rw [List.getElem?_eq_getElem (l := setsV is vs (wipe σ is)) (by rw [setsV_len, wipe_length]; exact hl), List.getElem?_eq_getElem hl]
      rfl
    · rw [List.getElem?_eq_none (by rw [setsV_len, wipe_length]; omega), List.getElem?_eq_none (by omega)]
  · rw [if_neg hj, if_neg hj, setsV_ne is vs _ j hj, wipe_get, if_neg hj]
theorem kill_get : ∀ (is : List Nat) (ρ : Env) (j : Nat), j ∉ is → (kill is ρ)[j]? = ρ[j]?
  | [], _, _, _ => rfl
  | i :: is, ρ, j, h => by
    rw [kill, kill_get is _ j fun z => h (List.mem_cons_of_mem _ z), List.getElem?_set_ne fun z => h (by rw [z]; exact List.mem_cons_self)]
theorem kill_in : ∀ (is : List Nat) (ρ : Env) (j : Nat) (d : D), j ∈ is → (kill is ρ)[j]? ≠ some (some d)
  | [], _, _, _, h => by cases h
  | i :: is, ρ, j, d, h => by
    rw [kill]
    by_cases hj : j ∈ is
    · exact kill_in is _ j d hj
    · rw [kill_get is _ j hj]
      rcases List.mem_cons.mp h with rfl | h
      · by_cases hl : j < ρ.length
        · rw [List.getElem?_set_self hl]
          intro z
          cases z
        · rw [List.getElem?_eq_none (by rw [List.length_set]; omega)]
          intro z
          cases z
      · exact absurd h hj
section
variable {X : Cx} {W : WX} {C : Cfg} {ow ow' ow1 ow2 : List Nat} {k k1 k2 k3 : Kd} {e a b c tg elt : Expr} {st : Stmt} {sts sts2 : List Stmt} {den d1 d2 : Env → R D} {f g : Env → Out} {pos p2 : Pos}
theorem On.wiped {σ : L2.St} {ρ : Env} {H : Hp} {As : Nat → List Addr} (is : List Nat) (S : On X ow σ ρ H As) (h : ∀ i ∈ ow2, i ∈ ow) : ∃ As', On X ow2 (wipe σ is) (kill is ρ) H As' ∧ ∀ j, As' j = As j ∨ As' j = [] := by
  obtain ⟨H0, M0, pn, S⟩ := S
  obtain ⟨As', S', h1, h2⟩ := Sta.kills is S
  refine ⟨As', ⟨H0, M0, fun _ => none, S'.fr, fun i d e => ?_, S'.dead, fun i hi => S'.nd i (h i hi), fun i hi => S'.new i (h i hi), fun i hi => S'.sep i (h i hi), by rw [wipe_length]; exact S'.len, fun j v z => by cases z⟩, h1⟩
  obtain ⟨v, e1, e2⟩ := S'.rep i d e
  have ni : i ∉ is := fun z => kill_in is ρ i d z e
  exact ⟨v, by rw [wipe_get, if_neg ni]; exact e1, rep_less e2 fun z => contains_mem.mpr (h i (contains_mem.mp z))⟩
def R.nox {α : Type} (r : R α) : R α := match r with
  | .exc _ => .stk
  | r => r
/-- a comprehension's turns -/
def compGo (is : List Nat) (t : D → Option (List D)) (c : Env → R Bool) (elt : Env → R D) (r : Env) : List D → R (List D)
  | [] => .ok []
  | x :: xs => match t x with
    | none => .stk
    | some ds => ((c (setsD is ds r)).nox).bind fun b => if b = true then (((elt (setsD is ds r)).nox).bind fun y => (compGo is t c elt r xs).bind fun ys => .ok (y :: ys)) else compGo is t c elt r xs
def compE (is : List Nat) (t : D → Option (List D)) (items : Env → R (List D)) (c : Env → R Bool) (elt : Env → R D) : Env → R D := fun r => (items r).bind fun xs => if xs.length ≤ sizeLine then (compGo is t c elt (kill is r) xs).bind fun ys => .ok (.list ys) else .stk
def yesT : Env → R Bool := fun _ => .ok true
abbrev noW : WX := fun _ _ _ _ => False
theorem blk_pe {scope : Scope} {el : Env → R D} (h : ∀ (s : Shared) (H : Hp) (C : Addr) (cl : List (Str × Addr)) (fp : List Addr), DE (X.blk s H scope (compEnvC scope cl C X.env) fp) noW ow2 k e el) :
    ∃ te, (∀ (s : Shared) (H : Hp) (C : Addr) (cl : List (Str × Addr)) (fp : List Addr), PE (X.blk s H scope (compEnvC scope cl C X.env) fp) e te) ∧ ∀ σ ρ H As Q, On X ow2 σ ρ H As → Good X noW σ ow2 k H As (el ρ) Q → te σ H Q := by
  refine ⟨fun σ H Q => ∀ (s : Shared) (H' : Hp) (C : Addr) (cl : List (Str × Addr)) (fp : List Addr) (pins : List (Addr × Obj)) (s' : Shared), Inv (X.blk s H' scope (compEnvC scope cl C X.env) fp) pins σ H s' →
    wpAny (model X.prog X.w) X.A (eval e (compEnvC scope cl C X.env)) (EP (X.blk s H' scope (compEnvC scope cl C X.env) fp) pins σ Q) (fun _ _ => False) s', fun s H C cl fp => ⟨fun pins s' σ H' Q I q => q s H C cl fp pins s' I⟩, fun σ ρ H As Q S g s H' C cl fp pins s' I => ?_⟩
  obtain ⟨te, p, q⟩ := h s H' C cl fp
  exact p.run pins s' σ H Q I (q σ ρ H As Q S g)
theorem blk_pts {scope : Scope} {el : Env → R Bool} (h : ∀ (s : Shared) (H : Hp) (C : Addr) (cl : List (Str × Addr)) (fp : List Addr), DT (X.blk s H scope (compEnvC scope cl C X.env) fp) noW ow2 e el) :
    ∃ tt, (∀ (s : Shared) (H : Hp) (C : Addr) (cl : List (Str × Addr)) (fp : List Addr), PTs (X.blk s H scope (compEnvC scope cl C X.env) fp) [e] tt) ∧ ∀ σ ρ H As Q, On X ow2 σ ρ H As → GoodT X noW σ H (el ρ) Q → tt σ H Q := by
  refine ⟨fun σ H Q => ∀ (s : Shared) (H' : Hp) (C : Addr) (cl : List (Str × Addr)) (fp : List Addr) (pins : List (Addr × Obj)) (s' : Shared), Inv (X.blk s H' scope (compEnvC scope cl C X.env) fp) pins σ H s' →
    wpAny (model X.prog X.w) X.A (forIn [e] true fun c r => if r = true then do let ok ← isTrue c (compEnvC scope cl C X.env) (eval c (compEnvC scope cl C X.env)); pure (ForInStep.yield ok) else pure (ForInStep.yield r)) (TP (X.blk s H' scope (compEnvC scope cl C X.env) fp) pins σ Q) (fun _ _ => False) s', fun s H C cl fp => ⟨fun pins s' σ H' Q I q => q s H C cl fp pins s' I⟩, fun σ ρ H As Q S g s H' C cl fp pins s' I => ?_⟩
  obtain ⟨te, p, q⟩ := h s H' C cl fp
  exact (pts_one p).run pins s' σ H Q I (q σ ρ H As Q S g)
theorem blk_pts0 {scope : Scope} : ∃ tt, (∀ (s : Shared) (H : Hp) (C : Addr) (cl : List (Str × Addr)) (fp : List Addr), PTs (X.blk s H scope (compEnvC scope cl C X.env) fp) [] tt) ∧ ∀ σ ρ H As Q, On X ow2 σ ρ H As → GoodT X noW σ H (yesT ρ) Q → tt σ H Q :=
  ⟨_, fun _ _ _ _ _ => pts_nil, fun σ ρ H As Q S g => g H (Same.refl H)⟩
theorem blk_pg {scope : Scope} {is : List Nat} {t : D → Option (List D)} (h : ∀ (s : Shared) (H : Hp) (C : Addr) (cl : List (Str × Addr)) (fp : List Addr), DG (X.blk s H scope (compEnvC scope cl C X.env) fp) is tg t) :
    ∃ gt, (∀ (s : Shared) (H : Hp) (C : Addr) (cl : List (Str × Addr)) (fp : List Addr), PG (X.blk s H scope (compEnvC scope cl C X.env) fp) tg gt) ∧ ∀ H o v d A σ Q, Rep X.K X.mg H o v d A → (match t d with
    | some ds => ∀ vs, RepL X.K X.mg H o vs ds A → vs.length = is.length → Q (setsV is vs σ) H
    | none => False) → gt v σ H Q := by
  refine ⟨fun v σ H Q => ∀ (s : Shared) (H' : Hp) (C : Addr) (cl : List (Str × Addr)) (fp : List Addr) (pins : List (Addr × Obj)) (s' : Shared) (u : Value), Inv (X.blk s H' scope (compEnvC scope cl C X.env) fp) pins σ H s' → RelV v u →
    wpAny (model X.prog X.w) X.A (assign tg (compEnvC scope cl C X.env) u) (fun _ s'' => ∃ σ' H1, Inv (X.blk s H' scope (compEnvC scope cl C X.env) fp) pins σ' H1 s'' ∧ Q σ' H1) (fun _ _ => False) s', fun s H C cl fp => ⟨fun pins s' σ H' v u Q I r q => q s H C cl fp pins s' u I r⟩, fun H o v d A σ Q r z s H' C cl fp pins s' u I ru => ?_⟩
  obtain ⟨gt, p, q⟩ := h s H' C cl fp
  exact p.run pins s' σ H v u Q I ru (q H o v d A σ Q r z)
/-- what a comprehension's loop keeps -/
def Cmp (X : Cx) (H1 : Hp) (Dd : Addr) (ds : List D) (H : Hp) : Prop := Same H1 H ∧ ∃ acc A, H Dd = some (.lst acc) ∧ RepL X.K X.mg H true acc ds A ∧ A.Nodup ∧ ∀ a ∈ A, H1 a = none ∧ a ≠ Dd
theorem compGo_len {is : List Nat} {t : D → Option (List D)} {c : Env → R Bool} {elt : Env → R D} {r : Env} : ∀ {xs ys : List D}, compGo is t c elt r xs = .ok ys → ys.length ≤ xs.length
  | [], ys, h => by
    cases h
    exact Nat.le_refl _
  | x :: xs, ys, h => by
    unfold compGo at h
    cases ht : t x with
    | none =>
      rw [ht] at h
      cases h
    | some ds =>
      rw [ht] at h
      dsimp only at h
      cases hc : (c (setsD is ds r)).nox with
      | stk =>
        rw [hc] at h
        cases h
      | exc x =>
        rw [hc] at h
        cases h
      | ok b =>
        rw [hc, R.bind_ok] at h
        cases b with
        | false =>
          rw [if_neg Bool.false_ne_true] at h
          exact Nat.le_succ_of_le (compGo_len h)
        | true =>
          rw [if_pos rfl] at h
          cases he : (elt (setsD is ds r)).nox with
          | stk =>
            rw [he] at h
            cases h
          | exc x =>
            rw [he] at h
            cases h
          | ok y =>
            rw [he, R.bind_ok] at h
            cases hg : compGo is t c elt r xs with
            | stk =>
              rw [hg] at h
              cases h
            | exc x =>
              rw [hg] at h
              cases h
            | ok zs =>
              rw [hg, R.bind_ok] at h
              cases h
              exact Nat.succ_le_succ (compGo_len hg)
theorem nox_good {σ : L2.St} {H : Hp} {As : Nat → List Addr} {r : R D} {Q : VK} (h : match r.nox with
    | .ok d => ∀ v H' A, Same H H' → Rep X.K X.mg H' k.isOwn v d A → k.Ok ow H As A → Q v H'
    | _ => False) : Good X noW σ ow k H As r Q := by
  cases r with
  | ok d => exact h
  | exc x => exact h.elim
  | stk => exact h
theorem nox_goodT {σ : L2.St} {H : Hp} {r : R Bool} {Q : Bool → Hp → Prop} (h : match r.nox with
    | .ok b => ∀ H', Same H H' → Q b H'
    | _ => False) : GoodT X noW σ H r Q := by
  cases r with
  | ok d => exact h
  | exc x => exact h.elim
  | stk => exact h
theorem comp_run {items : Env → R (List D)} {is ss : List Nat} {t : D → Option (List D)} {c : Env → R Bool} {el : Env → R D} {wi : TI} {gt : TG} {tt : TT} {te : TE}
    (qi : ∀ σ ρ H As Q, On X ow σ ρ H As → GoodI X W σ ow ss H As (items ρ) Q → wi σ H Q)
    (qg : ∀ H o v d A σ Q, Rep X.K X.mg H o v d A → (match t d with
      | some ds => ∀ vs, RepL X.K X.mg H o vs ds A → vs.length = is.length → Q (setsV is vs σ) H
      | none => False) → gt v σ H Q)
    (qt : ∀ σ ρ H As Q, On X ow2 σ ρ H As → GoodT X noW σ H (c ρ) Q → tt σ H Q)
    (qe : ∀ σ ρ H As Q, On X ow2 σ ρ H As → Good X noW σ ow2 (.own []) H As (el ρ) Q → te σ H Q)
    (h1 : subL ow2 ow = true) (h2 : disL ow2 ss = true) (h3 : disL ow2 is = true)
    {σ : L2.St} {ρ : Env} {H : Hp} {As : Nat → List Addr} {Q : VK} (S : On X ow σ ρ H As) (z : Good X W σ ow (.own []) H As (compE is t items c el ρ) Q) : tLc wi gt tt te is σ H Q := by
  refine qi σ ρ H As _ S ?_
  unfold compE at z
  cases hd : items ρ with
  | stk =>
    rw [hd] at z
    exact z
  | exc x =>
    rw [hd] at z
    exact z
  | ok xs =>
    rw [hd, R.bind_ok] at z
    intro J H1 A sm it ok old Dd hD
    by_cases hz : xs.length ≤ sizeLine
    · rw [if_pos hz] at z
      cases hg : compGo is t c el (kill is ρ) xs with
      | stk =>
        rw [hg] at z
        exact z.elim
      | exc x =>
        -- no exception comes out
        exfalso
        clear z
        have no : ∀ (xs : List D) x, compGo is t c el (kill is ρ) xs ≠ .exc x := by
          intro xs
          induction xs with
          | nil =>
            intro x h
            cases h
          | cons y ys ih =>
            intro x h
            unfold compGo at h
            cases ht : t y with
            | none =>
              rw [ht] at h
              cases h
            | some ds =>
              rw [ht] at h
              dsimp only at h
              cases hc : c (setsD is ds (kill is ρ)) with
              | stk =>
                rw [hc] at h
                cases h
              | exc x =>
                rw [hc] at h
                cases h
              | ok b =>
                rw [hc] at h
                cases b with
                | false => exact ih x h
                | true =>
                  change R.bind (R.nox (el (setsD is ds (kill is ρ)))) _ = _ at h
                  cases he : el (setsD is ds (kill is ρ)) with
                  | stk =>
                    rw [he] at h
                    cases h
                  | exc x =>
                    rw [he] at h
                    cases h
                  | ok y =>
                    rw [he] at h
                    cases hh : compGo is t c el (kill is ρ) ys with
                    | stk =>
                      rw [hh] at h
                      cases h
                    | exc x => exact ih x hh
                    | ok zs =>
                      rw [hh] at h
                      cases h
        exact no xs x hg
      | ok ys =>
        rw [hg, R.bind_ok] at z
        have S1 := S.same sm
        have sm0 : Same H1 (upd H1 Dd (.lst [])) := same_upd hD
        -- the turns
        refine ⟨fun i m H' => i + m = xs.length ∧ ∃ us, Cmp X H1 Dd us H' ∧ us.length ≤ i ∧ ∃ rest, compGo is t c el (kill is ρ) (xs.drop i) = .ok rest ∧ us ++ rest = ys, ⟨xs.length, by omega, [], ⟨sm0, [], [], upd_same, .nil, List.nodup_nil, fun a ha => by cases ha⟩, Nat.le_refl _, ys, hg, rfl⟩, fun i m H' hW => ?_⟩
        obtain ⟨em, us, ⟨smD, acc, Aa, hacc, racc, nda, nwa⟩, hlen, rest, hrest, hall⟩ := hW
        have f0 : Fr (fun _ => False) H1 H' := Fr.of_same smD
        by_cases hl : i < xs.length
        · refine .inr ⟨it.go _ _ i f0 (fun _ _ w => w) hl, fun H2 => ∃ us, Cmp X H1 Dd us H2 ∧ us.length ≤ i + 1 ∧ ∃ rest, compGo is t c el (kill is ρ) (xs.drop (i + 1)) = .ok rest ∧ us ++ rest = ys, fun H2 hN => ?_, fun x H2 hy => ?_⟩
          · obtain ⟨us', c1, c2, c3⟩ := hN
            exact ⟨m - 1, by omega, by omega, us', c1, c2, c3⟩
          · obtain ⟨s2, hr⟩ := it.yld _ _ i x H2 f0 (fun _ _ w => w) hy
            obtain ⟨B, rB, hB⟩ := hr _ (List.getElem?_eq_getElem hl)
            refine qg H2 false x xs[i] B (wipe σ is) _ rB ?_
            rw [List.drop_eq_getElem_cons hl, compGo] at hrest
            cases ht : t xs[i] with
            | none =>
              rw [ht] at hrest
              cases hrest
            | some ds =>
              rw [ht] at hrest
              dsimp only at hrest
              intro vs rl hvl
              refine ⟨wipe_sets is vs σ, ?_⟩
              -- the block's state
              obtain ⟨As2, S2, hA2⟩ := On.wiped is ((S1.same smD).same s2) (subL_mem h1)
              have S3 : ∃ As3, On X ow2 (setsV is vs (wipe σ is)) (setsD is ds (kill is ρ)) H2 As3 := by
                obtain ⟨G0, M0, pn, T⟩ := S2
                have T' : Sta X.K X.mg G0 M0 (fun _ => none) ow2 (wipe σ is) (kill is ρ) H2 As2 := ⟨T.fr, T.rep, T.dead, T.nd, T.new, T.sep, T.len, fun j v w => by cases w⟩
                obtain ⟨As3, T3⟩ := Sta.putsB is rl hvl T' (fun _ _ => rfl) (disL_mem h3) (fun j hj a ha hb => by
                  rcases hA2 j with e | e
                  · rw [e] at ha
                    exact ok j (subL_mem h1 j hj) (disL_mem h2 j hj) a ha (hB a hb)
                  · rw [e] at ha
                    cases ha)
                exact ⟨As3, G0, M0, _, T3⟩
              obtain ⟨As3, S3⟩ := S3
              refine qt _ _ H2 As3 _ S3 (nox_goodT ?_)
              cases hc : (c (setsD is ds (kill is ρ))).nox with
              | stk =>
                rw [hc] at hrest
                cases hrest
              | exc x =>
                rw [hc] at hrest
                cases hrest
              | ok b =>
                rw [hc, R.bind_ok] at hrest
                intro H3 s3
                cases b with
                | false =>
                  rw [if_neg Bool.false_ne_true] at hrest
                  refine iteF ⟨us, ⟨smD.trans (s2.trans s3), acc, Aa, s3 _ _ (s2 _ _ hacc), (racc.same s2).same s3, nda, nwa⟩, Nat.le_succ_of_le hlen, rest, hrest, hall⟩
                | true =>
                  rw [if_pos rfl] at hrest
                  refine iteT (qe _ _ H3 As3 _ (S3.same s3) (nox_good ?_))
                  cases he : (el (setsD is ds (kill is ρ))).nox with
                  | stk =>
                    rw [he] at hrest
                    cases hrest
                  | exc x =>
                    rw [he] at hrest
                    cases hrest
                  | ok y =>
                    rw [he, R.bind_ok] at hrest
                    cases hgo : compGo is t c el (kill is ρ) (xs.drop (i + 1)) with
                    | stk =>
                      rw [hgo] at hrest
                      cases hrest
                    | exc x =>
                      rw [hgo] at hrest
                      cases hrest
                    | ok zs =>
                      rw [hgo, R.bind_ok] at hrest
                      cases hrest
                      intro v H4 A4 s4 r4 k4
                      have hD4 : H4 Dd = some (.lst acc) := s4 _ _ (s3 _ _ (s2 _ _ hacc))
                      have f4 : Fr (fun a => a = Dd) H4 (upd H4 Dd (.lst (acc ++ [v]))) := fun a o h hm => by
                        by_cases e : a = Dd
                        · subst e
                          rw [hD4] at h
                          cases h
                          exact absurd rfl (hm rfl)
                        · rw [upd_ne e]
                          exact h
                      have n4 : ∀ a ∈ A4, H3 a = none := fun a ha => (k4.2.2 a ha).resolve_right fun ⟨j, hj, _⟩ => by cases hj
                      have dD : ∀ a ∈ A4, a ≠ Dd := fun a ha e => by
                        have := n4 a ha
                        rw [e, s3 _ _ (s2 _ _ hacc)] at this
                        cases this
                      refine ⟨acc, hD4, ?_, us ++ [y], ⟨fun a o h => ?_, acc ++ [v], Aa ++ A4, upd_same, ?_, ?_, ?_⟩, ?_, zs, rfl, ?_⟩
                      · have := racc.len
                        omega
                      · have h4 := s4 _ _ (s3 _ _ (s2 _ _ (smD a o h)))
                        rw [upd_ne (ne_of_none h hD)]
                        exact h4
                      · have r1 := (((racc.same s2).same s3).same s4).fr f4 fun a ha => (nwa a ha).2
                        have r2 := RepL.one (r4.fr f4 dD)
                        exact r1.app r2
                      · refine List.nodup_append.mpr ⟨nda, k4.1, fun a ha b hb e => ?_⟩
                        subst e
                        have := n4 a hb
                        exact ((racc.same s2).same s3).old ha this
                      · intro a ha
                        rcases List.mem_append.mp ha with w | w
                        · exact nwa a w
                        · exact ⟨(smD.trans (s2.trans s3)).free (n4 a w), dD a w⟩
                      · rw [List.length_append, List.length_singleton]
                        omega
                      · rw [List.append_assoc]
                        exact hall
        · have ei : i = xs.length := by omega
          subst ei
          refine .inl ⟨it.stop _ _ f0 (fun _ _ w => w), ?_⟩
          rw [List.drop_length, compGo] at hrest
          cases hrest
          rw [List.append_nil] at hall
          subst hall
          refine z _ H' (Dd :: Aa) (sm.trans smD) (.lst hacc racc) ⟨List.nodup_cons.mpr ⟨fun w => (nwa _ w).2 rfl, nda⟩, (fun _ w => by cases w), fun a ha => .inl ?_⟩
          rcases List.mem_cons.mp ha with rfl | w
          · exact sm.free hD
          · exact sm.free (nwa a w).1
    · rw [if_neg hz] at z
      exact z.elim
theorem de_comp {items : Env → R (List D)} {ss : List Nat} {is : List Nat} {own : List (Str × Nat)} {t : D → Option (List D)} {c : Env → R Bool} {el : Env → R D} {scope : Scope} {iter : Expr} {ifs : List Expr} (ow2 : List Nat) (hc : X.calm = true) (hN : X.N.Nodup) (hi : DI X W ow ss tg iter items) (ok : BlkOk X.N X.env.scope scope own) (his : own.map (·.2) = is)
    (hg : ∀ (s : Shared) (H : Hp) (C : Addr) (cl : List (Str × Addr)) (fp : List Addr), DG (X.blk s H scope (compEnvC scope cl C X.env) fp) is tg t)
    (ht : ∃ tt, (∀ (s : Shared) (H : Hp) (C : Addr) (cl : List (Str × Addr)) (fp : List Addr), PTs (X.blk s H scope (compEnvC scope cl C X.env) fp) ifs tt) ∧ ∀ σ ρ H As Q, On X ow2 σ ρ H As → GoodT X noW σ H (c ρ) Q → tt σ H Q)
    (he : ∀ (s : Shared) (H : Hp) (C : Addr) (cl : List (Str × Addr)) (fp : List Addr), DE (X.blk s H scope (compEnvC scope cl C X.env) fp) noW ow2 (.own []) elt el)
    (h1 : subL ow2 ow = true := by rfl) (h2 : disL ow2 ss = true := by rfl) (h3 : disL ow2 is = true := by rfl) (hs : ∀ x, foldedSetIterable iter X.env x = pure x := by intro _; rfl) : DE X W ow (.own []) (.ListComp elt [⟨tg, iter, ifs, 0⟩] scope pos) (compE is t items c el) := by
  obtain ⟨wi, pi, qi⟩ := hi
  obtain ⟨gt, pg, qg⟩ := blk_pg hg
  obtain ⟨tt, pt, qt⟩ := ht
  obtain ⟨te, pe, qe⟩ := blk_pe he
  subst his
  exact ⟨_, pe_lc hc hN pi ok pg pt pe hs, fun σ ρ H As Q S z => comp_run qi qg qt qe h1 h2 h3 S z⟩
end
end Dg

namespace Dg
open PySem PySem.Spec PyProof.Rows L2
section
variable {X : Cx} {W : WX} {C : Cfg} {ow ow' ow1 ow2 : List Nat} {k k1 k2 k3 : Kd} {e a b c tg elt : Expr} {st : Stmt} {sts sts2 : List Stmt} {den d1 d2 : Env → R D} {f g : Env → Out} {pos p2 : Pos}
theorem asg_run {is ms : List Nat} {t : D → Option (List D)} {te : TE} {gt : TG} (q : ∀ σ ρ H As Q, On X ow σ ρ H As → Good X W σ ow (.own ms) H As (den ρ) Q → te σ H Q)
    (qg : ∀ H o v d A σ Q, Rep X.K X.mg H o v d A → (match t d with
      | some ds => ∀ vs, RepL X.K X.mg H o vs ds A → vs.length = is.length → Q (setsV is vs σ) H
      | none => False) → gt v σ H Q) (hio : disL is (C.io ++ C.pl) = true) (how : subL ow' (is ++ ow) = true) (hox : subL C.owx ow = true)
    {H0 : Hp} {M0 : Addr → Prop} {pn : Nat → Option V} {σ : L2.St} {ρ : Env} {H : Hp} {As : Nat → List Addr} {Dn : Ends} (hp : PinOk C pn) (S : Sta X.K X.mg H0 M0 pn ow σ ρ H As) (z : Post X W C H0 M0 pn ow' Dn (asgS ms is t den ρ)) : tAsg te gt Dn σ H := by
  refine q σ ρ H As _ ⟨H0, M0, pn, S⟩ ?_
  unfold asgS at z
  cases hd : den ρ with
  | stk =>
    rw [hd] at z
    exact z
  | exc x =>
    rw [hd] at z
    exact fun c dd H' A sm rp fx => z c dd σ H' As A ((S.same sm).less (subL_mem hox)) rp (S.fx fx)
  | ok d =>
    rw [hd] at z
    intro v H1 A sm rp ok
    refine qg H1 true v d A σ _ rp ?_
    dsimp only at z
    cases ht : t d with
    | none =>
      rw [ht] at z
      exact z
    | some ds =>
      rw [ht] at z
      intro vs rl hl
      obtain ⟨As1, S1, k1, k2⟩ := Sta.kills ms (S.same sm)
      have fr : ∀ a ∈ A, ∀ j, a ∉ As1 j := fun a ha j hj => by
        rcases k1 j with e | e
        · rw [e] at hj
          rcases ok.2.2 a ha with w | ⟨i, hi, w⟩
          · exact S.old hj w
          · by_cases hji : j = i
            · subst hji
              rw [k2 j hi] at e
              rw [← e] at hj
              cases hj
            · exact S.sep i (ok.2.1 i hi) j hji a w hj
        · rw [e] at hj
          cases hj
      obtain ⟨As', ow2, S', h1, h2⟩ := Sta.putsO is rl hl S1 (fun i hi => hp i (disL_mem hio i hi)) ok.1 (fun a ha => by
        rcases ok.2.2 a ha with w | ⟨i, hi, w⟩
        · exact S.was w
        · exact S.new i (ok.2.1 i hi) a w) fr
      exact z _ _ As' (S'.less fun i hi => by
        rcases List.mem_append.mp (subL_mem how i hi) with w | w
        · exact h2 i w
        · exact h1 i w)
/-- y = [e for x in it if t] -/
theorem ds_setLc {items : Env → R (List D)} {ss is : List Nat} {own : List (Str × Nat)} {t : D → Option (List D)} {c : Env → R Bool} {el : Env → R D} {scope : Scope} {iter : Expr} {ifs : List Expr} {i : Nat} {y : Str} {py spos : Pos} (ow2 : List Nat) (hc : X.calm = true) (hN : X.N.Nodup)
    (hy : X.N[i]? = some y) (hyl : X.env.scope.names.lookup y = some .local)
    (hsw : swapsWith (.ListComp elt [⟨tg, iter, ifs, 0⟩] scope pos) (some (.Name y py)) spos.line X.env = pure true)
    (hi : DI X W ow ss tg iter items) (ok : BlkOk X.N X.env.scope scope own) (his : own.map (·.2) = is)
    (hg : ∀ (s : Shared) (H : Hp) (C : Addr) (cl : List (Str × Addr)) (fp : List Addr), DG (X.blk s H scope (compEnvC scope cl C X.env) fp) is tg t)
    (ht : ∃ tt, (∀ (s : Shared) (H : Hp) (C : Addr) (cl : List (Str × Addr)) (fp : List Addr), PTs (X.blk s H scope (compEnvC scope cl C X.env) fp) ifs tt) ∧ ∀ σ ρ H As Q, On X ow2 σ ρ H As → GoodT X noW σ H (c ρ) Q → tt σ H Q)
    (he : ∀ (s : Shared) (H : Hp) (C : Addr) (cl : List (Str × Addr)) (fp : List Addr), DE (X.blk s H scope (compEnvC scope cl C X.env) fp) noW ow2 (.own []) elt el)
    (hio : disL [i] (C.io ++ C.pl) = true) (how : subL ow' ([i] ++ ow) = true) (hox : subL C.owx ow = true)
    (h1 : subL ow2 ow = true := by rfl) (h2 : disL ow2 ss = true := by rfl) (h3 : disL ow2 is = true := by rfl) (hs : ∀ x, foldedSetIterable iter X.env x = pure x := by intro _; rfl) :
    DS X W C ow ow' (.Assign [.Name y py] (.ListComp elt [⟨tg, iter, ifs, 0⟩] scope pos) spos) (asgS [] [i] t1 (compE is t items c el)) := by
  obtain ⟨wi, pi, qi⟩ := hi
  obtain ⟨gt, pg, qg⟩ := blk_pg hg
  obtain ⟨tt, pt, qt⟩ := ht
  obtain ⟨te, pe, qe⟩ := blk_pe he
  subst his
  exact ⟨_, ps_setLc hc hN hy hyl hsw pi ok pg pt pe hs, fun H0 M0 pn σ ρ H As Dn hp S z => asg_run (ms := []) (is := [i]) (t := t1) (te := tLc wi gt tt te (own.map (·.2))) (gt := gName i) (fun σ ρ H As Q S z => comp_run qi qg qt qe h1 h2 h3 S z) (fun H o v d A σ Q r q => q [v] (RepL.one r) rfl) hio how hox hp S z⟩
/-! ### calls of the text's own defs -/
def spD (K : PySem.W.Frag) (mg : Str → Option Value) (n : Nat) (f : List D → R D) : Sp := fun vs H Q E => ∃ ds A, RepL K mg H false vs ds A ∧ vs.length = n ∧ (match f ds with
  | .ok d => ∀ v H' B, Same H H' → Rep K mg H' true v d B → B.Nodup → (∀ b ∈ B, H b = none) → Q v H'
  | .exc x => ∀ c dd H' B, Same H H' → RepX K mg H' c dd x B → (∀ b ∈ B, H b = none) → E c dd H'
  | .stk => False)
/-- the def x stands, and does as f -/
def Cal (P : Program) (w : World) (K : PySem.W.Frag) (mg : Str → Option Value) (base : Heap) (CX : CXT) (x : Str) (k n : Nat) (f : List D → R D) : Prop :=
  ∃ (addr : Addr) (fd : FuncData) (ps : List Str), FnOk P w K mg base CX k addr fd ps (spD K mg n f) ∧ mg x = some (.ref addr) ∧ PySem.W.keepIn K (.ref addr) = true ∧ Binds K fd ps []
def callP (f : List D → R D) (g : Env → R (List D)) : Env → R D := fun ρ => (g ρ).bind fun ds => (f ds).nox
theorem sp_good {n : Nat} {es : List Expr} {g : Env → R (List D)} {f : List D → R D} {ta : TA} {E : XK} (q : ∀ σ ρ H As Q, On X ow σ ρ H As → GoodL X W σ ow k n H As (g ρ) Q → ta σ H Q)
    {σ : L2.St} {ρ : Env} {H : Hp} {As : Nat → List Addr} {Q : VK} (S : On X ow σ ρ H As) (z : Good X W σ ow (.own []) H As (callP f g ρ) Q) : tCall (spD X.K X.mg n f) [] E ta σ H Q := by
  refine q σ ρ H As _ S ?_
  unfold callP at z
  cases hd : g ρ with
  | stk =>
    rw [hd] at z
    exact z
  | exc x =>
    rw [hd] at z
    exact z
  | ok d =>
    rw [hd, R.bind_ok] at z
    intro vs H' A sm rp ok hl
    rw [List.append_nil]
    refine ⟨d, A, rp.weak, hl, ?_⟩
    cases hf : f d with
    | ok y =>
      rw [hf] at z
      exact fun v H2 B s2 r2 nd fr => z v H2 B (sm.trans s2) r2 ⟨nd, (fun _ w => by cases w), fun b hb => .inl (sm.free (fr b hb))⟩
    | exc x =>
      rw [hf] at z
      exact z.elim
    | stk =>
      rw [hf] at z
      exact z
theorem de_call {x : Str} {kk n : Nat} {f : List D → R D} {es : List Expr} {g : Env → R (List D)} {p : Pos} (h : Cal X.prog X.w X.K X.mg X.base CX0 x kk n f) (hr : Room kk X.A) (ha : DA X W ow k n (e :: es) g) (hg : Gl X x := by rfl)
    (hdb : (x == ("__debug__" : Str)) = false := by decide) (he : starEach (e :: es) X.env = (false, eval e X.env) :: starEach es X.env := by rfl) (hpl : (backTo pos (starEach es X.env)).any (·.1) = false := by rfl) : DE X W ow (.own []) (.Call (.Name x p) (e :: es) [] pos) (callP f g) := by
  obtain ⟨addr, fd, ps, F, hm, hk, hb⟩ := h
  obtain ⟨ta, pa, q⟩ := ha
  exact ⟨_, pe_call F hr hg hm hk hb .nil pass0 pa hdb he hpl, fun σ ρ H As Q S z => sp_good (es := es) q S z⟩
/-! ### a def's body -/
def startD (n : Nat) (ds : List D) : Env := ds.map some ++ List.replicate (n - ds.length) none
def outR (o : Out) : R D := match o with
  | .nx _ => .ok .none
  | .ret d _ => .ok d
  | .exc x _ => .exc x
  | _ => .stk
def runF (n : Nat) (den : Env → Out) : List D → R D := fun ds => outR (den (startD n ds))
theorem repL_as {K : PySem.W.Frag} {mg : Str → Option Value} {H : Hp} {o : Bool} : ∀ {vs : List V} {ds : List D} {A : List Addr}, RepL K mg H o vs ds A → ∃ As : Nat → List Addr, (∀ i d, ds[i]? = some d → ∃ v, vs[i]? = some v ∧ Rep K mg H o v d (As i)) ∧ ∀ i, ds.length ≤ i → As i = []
  | _, _, _, .nil => ⟨fun _ => [], (fun i d h => by simp at h), (fun _ _ => rfl)⟩
  | _, _, _, .cons (v := v) (d := d) (A := A) h r => by
    obtain ⟨As, h1, h2⟩ := repL_as r
    refine ⟨fun i => match i with
      | 0 => A
      | i + 1 => As i, fun i e he => ?_, fun i hi => ?_⟩
    · cases i with
      | zero =>
        simp at he
        subst he
        exact ⟨v, rfl, h⟩
      | succ i => exact h1 i e (by simpa using he)
    · cases i with
      | zero => simp at hi
      | succ i => exact h2 i (by simpa using hi)
theorem start_sta {K : PySem.W.Frag} {mg : Str → Option Value} {H : Hp} {N : List Str} {vs : List V} {ds : List D} {A : List Addr} (r : RepL K mg H false vs ds A) : ∃ As, Sta K mg H (fun _ => False) (fun _ => none) [] (start N vs) (startD N.length ds) H As := by
  obtain ⟨As, h1, h2⟩ := repL_as r
  have hl := r.len
  refine ⟨As, Fr.refl _ _, fun i d e => ?_, fun i h => ?_, (fun i hi => by cases hi), (fun i hi => by cases hi), (fun i hi => by cases hi), ?_, (fun j v z => by cases z)⟩
  · unfold startD at e
    by_cases hi : i < ds.length
    · rw [List.getElem?_append_left (by rw [List.length_map]; exact hi), List.getElem?_map] at e
      cases he : ds[i]? with
      | none =>
        rw [he] at e
        cases e
      | some d' =>
        rw [he] at e
        cases e
        obtain ⟨v, hv, rv⟩ := h1 i d he
        refine ⟨v, ?_, rv⟩
        unfold L2.start
        rw [List.getElem?_append_left (by rw [List.length_map, hl]; exact hi), List.getElem?_map, hv]
        rfl
    · rw [List.getElem?_append_right (by rw [List.length_map]; omega), List.getElem?_replicate] at e
      split at e <;> cases e
  · refine h2 i ?_
    by_cases hi : i < ds.length
    · exfalso
      refine h ds[i] ?_
      unfold startD
      rw [List.getElem?_append_left (by rw [List.length_map]; exact hi), List.getElem?_map, List.getElem?_eq_getElem hi]
      rfl
    · omega
  · unfold L2.start startD
    simp [hl]
theorem fn_pure {P : Program} {w : World} {K : PySem.W.Frag} {mg : Str → Option Value} {base : Heap} {x qual : Str} {st : Stmt} {fa : Addr} {fd : FuncData} {N ps : List Str} {kk : Nat} {den : Env → Out} (F : Fun K x qual st fa fd) (S : FnScope N ps (defScope st))
    (hb : ∀ (cdv : Value) (A : Around) (outer : List PySem.Env) (s : Shared) (H : Hp) (E : XK), Room kk (A.deeper (envOfC qual (defScope st) s.heap.objs.size fa cdv)) → ∃ ow', DSs (cxOf CX0 P w K mg base N qual (defScope st) fa cdv A outer s H E).nox noW { io := [], owl := [], owx := [], pl := [] } [] ow' (defBody st) den) :
    FnOk P w K mg base CX0 (kk + 1) fa fd ps (spD K mg ps.length fun ds => (runF N.length den ds).nox) := by
  refine F.ok S (fun vs H Q E h => ?_) (fun cdv A outer s H vs Q E hr h => ?_)
  · obtain ⟨ds, A, _, hl, _⟩ := h
    exact hl
  · obtain ⟨ds, A', r, hl, z⟩ := h
    obtain ⟨ow', ts, p, q⟩ := hb cdv A outer s H E hr
    refine ⟨ts, p, ?_⟩
    obtain ⟨As, S0⟩ := start_sta (N := N) r
    refine q H _ _ _ _ H As _ (fun _ _ => rfl) S0 ?_
    dsimp only at z
    unfold runF at z
    cases hd : den (startD N.length ds) with
    | nx r =>
      rw [hd] at z
      exact fun σ' H' As' S' => z .non H' [] (fun a o h => S'.fr a o h fun _ => id) .non List.nodup_nil fun b hb => by cases hb
    | ret d r =>
      rw [hd] at z
      exact fun v σ' H' As' A' S' rp nf => z v H' A' (fun a o h => S'.fr a o h fun _ => id) rp (nf rfl).1 fun b hb => ((nf rfl).2 b hb).1.resolve_right id
    | brk r =>
      rw [hd] at z
      exact z.elim
    | cnt r =>
      rw [hd] at z
      exact z.elim
    | exc x r =>
      rw [hd] at z
      exact z.elim
    | stk =>
      rw [hd] at z
      exact z
theorem fn_ok {P : Program} {w : World} {K : PySem.W.Frag} {mg : Str → Option Value} {base : Heap} {x qual : Str} {st : Stmt} {fa : Addr} {fd : FuncData} {N ps : List Str} {kk n m : Nat} {den : Env → Out} {f : List D → R D} (F : Fun K x qual st fa fd) (S : FnScope N ps (defScope st))
    (hf : ∀ ds, f ds = (runF n den ds).nox) (hn : N.length = n) (hm : ps.length = m)
    (hb : ∀ (cdv : Value) (A : Around) (outer : List PySem.Env) (s : Shared) (H : Hp) (E : XK), Room kk (A.deeper (envOfC qual (defScope st) s.heap.objs.size fa cdv)) → ∃ ow', DSs (cxOf CX0 P w K mg base N qual (defScope st) fa cdv A outer s H E).nox noW { io := [], owl := [], owx := [], pl := [] } [] ow' (defBody st) den) :
    FnOk P w K mg base CX0 (kk + 1) fa fd ps (spD K mg m f) := by
  subst hn hm
  have e : f = fun ds => (runF N.length den ds).nox := funext hf
  rw [e]
  exact fn_pure F S hb
/-- the law's own promise, from what its den comes to -/
theorem law_sp {K : PySem.W.Frag} {mg : Str → Option Value} {f : List D → R D} {H : Hp} {a : Addr} {ns : List Int} (h : Lf K H a (ns.map V.int)) (hf : f [.dict [(.none, .list (ns.map .int))]] = .ok (.bool true)) : spD K mg 1 f [.ref a] H (fun v _ => v = .bl true) fun _ _ _ => False := by
  have l : RepL K mg H false (ns.map V.int) (ns.map PyData.int) [] := by
    clear hf h
    induction ns with
    | nil => exact .nil
    | cons n ns ih => exact .cons (A := []) (B := []) (.int n) ih
  refine ⟨_, [], RepL.one (.lstF h l), rfl, ?_⟩
  rw [hf]
  intro v H' B sm r nd fr
  cases r
  rfl
end
end Dg

namespace Dg
open PySem PySem.Spec PyProof.Rows L2
section
variable {X : Cx} {W : WX} {C : Cfg} {ow ow' ow1 ow2 : List Nat} {k k1 k2 k3 k4 : Kd} {e a b c d o tg elt : Expr} {st : Stmt} {sts sts2 : List Stmt} {den d1 d2 d3 d4 : Env → R D} {f g : Env → Out} {pos p2 : Pos}
theorem CallR.or2 {v : Value} {r r' : List V → Hp → VK → Prop} (h : CallR X v r) (h' : CallR X v r') : CallR X v (fun x H Q => r x H Q ∨ r' x H Q) := by
  intro pins s σ H xs us Q I rx q
  rcases q with q | q
  · exact h pins s σ H xs us Q I rx q
  · exact h' pins s σ H xs us Q I rx q
/-! ### chains of comparisons -/
def ch3 (g g' : D → D → R D) (f1 f2 f3 : Env → R D) : Env → R D := fun ρ => (f1 ρ).bind fun x => (f2 ρ).bind fun y => (g x y).bind fun q => match q with
  | .bool true => (f3 ρ).bind fun z => g' y z
  | .bool false => .ok (.bool false)
  | _ => .stk
theorem ch_good {g1 g2 : D → D → R D} {ta tb tc : TE} {r r' : R2} (q1 : ∀ σ ρ H As Q, On X ow σ ρ H As → Good X W σ ow k1 H As (d1 ρ) Q → ta σ H Q) (q2 : ∀ σ ρ H As Q, On X ow σ ρ H As → Good X W σ ow k2 H As (d2 ρ) Q → tb σ H Q)
    (q3 : ∀ σ ρ H As Q, On X ow σ ρ H As → Good X W σ ow k3 H As (d3 ρ) Q → tc σ H Q) (hg1 : ∀ x y z, g1 x y ≠ .exc z) (hr1 : ∀ H x y dx dy A B Q, Rep X.K X.mg H false x dx A → Rep X.K X.mg H false y dy B → Fresh X H (g1 dx dy) Q → r x y H Q)
    (hg2 : ∀ x y z, g2 x y ≠ .exc z) (hr2 : ∀ H x y dx dy A B Q, Rep X.K X.mg H false x dx A → Rep X.K X.mg H false y dy B → Fresh X H (g2 dx dy) Q → r' x y H Q)
    {σ : L2.St} {ρ : Env} {H : Hp} {As : Nat → List Addr} {Q : VK} (S : On X ow σ ρ H As) (z : Good X W σ ow (.own []) H As (ch3 g1 g2 d1 d2 d3 ρ) Q) : tChain r r' ta tb tc σ H Q := by
  refine q1 σ ρ H As _ S ?_
  unfold ch3 at z
  cases e1 : d1 ρ with
  | stk =>
    rw [e1] at z
    exact z
  | exc x =>
    rw [e1] at z
    exact z
  | ok dx =>
    rw [e1, R.bind_ok] at z
    intro x H1 A s1 rx _
    refine q2 σ ρ H1 As _ (S.same s1) ?_
    cases e2 : d2 ρ with
    | stk =>
      rw [e2] at z
      exact z
    | exc x =>
      rw [e2] at z
      exact fun c dd H' B sm rp fx => z c dd H' B (s1.trans sm) rp fun b hb => s1.free (fx b hb)
    | ok dy =>
      rw [e2, R.bind_ok] at z
      intro y H2 B s2 ry _
      refine hr1 H2 x y dx dy A B _ (rx.weak.same s2) ry.weak ?_
      cases e3 : g1 dx dy with
      | stk =>
        rw [e3] at z
        exact z
      | exc x => exact absurd e3 (hg1 _ _ _)
      | ok q =>
        rw [e3, R.bind_ok] at z
        intro v H3 A3 s3 r3 n3 f3
        cases q with
        | bool t =>
          cases r3
          cases t with
          | false => exact ⟨false, rfl, iteF (z (.bl false) H3 [] (s1.trans (s2.trans s3)) (.bl false) nil_own)⟩
          | true =>
            refine ⟨true, rfl, iteT ?_⟩
            refine q3 σ ρ H3 As _ (((S.same s1).same s2).same s3) ?_
            dsimp only at z
            cases e4 : d3 ρ with
            | stk =>
              rw [e4] at z
              exact z
            | exc x =>
              rw [e4] at z
              exact fun c dd H' B sm rp fx => z c dd H' B (s1.trans (s2.trans (s3.trans sm))) rp fun b hb => s1.free (s2.free (s3.free (fx b hb)))
            | ok dz =>
              rw [e4, R.bind_ok] at z
              intro w H4 A4 s4 rw' _
              exact hr2 H4 y w dy dz B A4 Q ((ry.weak.same s3).same s4) rw'.weak (fresh_good (s1.trans (s2.trans (s3.trans s4))) z (hg2 dy dz))
        | _ => exact z.elim
theorem de_chain {op op' : CmpOp} {g1 g2 : D → D → R D} (h : OpD X (compareOp op) g1) (h' : OpD X (compareOp op') g2) (h1 : DE X W ow k1 a d1) (h2 : DE X W ow k2 b d2) (h3 : DE X W ow k3 c d3)
    (hm : lastMarks [op, op'] [b, c] = false := by with_unfolding_all rfl) : DE X W ow (.own []) (.Compare a [op, op'] [b, c] pos) (ch3 g1 g2 d1 d2 d3) := by
  obtain ⟨r, ho, hg, hr⟩ := h
  obtain ⟨r', ho', hg', hr'⟩ := h'
  obtain ⟨ta, p1, q1⟩ := h1
  obtain ⟨tb, p2, q2⟩ := h2
  obtain ⟨tc, p3, q3⟩ := h3
  exact ⟨_, pe_chain ho ho' p1 p2 p3 hm, fun σ ρ H As Q S z => ch_good q1 q2 q3 hg hr hg' hr' S z⟩
theorem dt_chain {op op' : CmpOp} {g1 g2 : D → D → R D} (h : OpD X (compareOp op) g1) (h' : OpD X (compareOp op') g2) (h1 : DE X W ow k1 a d1) (h2 : DE X W ow k2 b d2) (h3 : DE X W ow k3 c d3)
    (hm : lastMarks [op, op'] [b, c] = false := by with_unfolding_all rfl) : DT X W ow (.Compare a [op, op'] [b, c] pos) (tb (ch3 g1 g2 d1 d2 d3)) := by
  obtain ⟨r, ho, hg, hr⟩ := h
  obtain ⟨r', ho', hg', hr'⟩ := h'
  obtain ⟨ta, p1, q1⟩ := h1
  obtain ⟨tb', p2, q2⟩ := h2
  obtain ⟨tc, p3, q3⟩ := h3
  refine ⟨_, pt_chain ho ho' p1 p2 p3 hm, fun σ ρ H As Q S z => ch_good (g1 := g1) (g2 := g2) q1 q2 q3 hg hr hg' hr' S ?_⟩
  unfold tb at z
  cases hd : ch3 g1 g2 d1 d2 d3 ρ with
  | stk =>
    rw [hd] at z
    exact z
  | exc x =>
    rw [hd] at z
    exact z
  | ok d =>
    rw [hd, R.bind_ok] at z
    intro v H' A sm r _
    cases d with
    | bool b =>
      cases r
      exact ⟨b, rfl, z H' sm⟩
    | _ => exact z.elim
/-! ### products -/
def strMul (s : Str) (j : Int) : Str := Txt.mul s j
def dMul2 (x y : D) : R D := match x, y with
  | .int i, .int j => if (smallI i || smallI j) = true then .ok (.int (i * j)) else .stk
  | .str s, .int j => if 0 < j ∧ j < 1000 ∧ 0 < s.length ∧ s.length ≤ 1000 then .ok (.str (Txt.mul s j)) else .stk
  | _, _ => .stk
theorem small_mul {i j : Int} (h : (smallI i || smallI j) = true) : CMul i j := by
  rw [Bool.or_eq_true] at h
  rcases h with h | h
  · exact .inl (of_decide_eq_true h)
  · exact .inr (of_decide_eq_true h)
theorem mulOk {x : Str} {n : Int} (h0 : 0 < n) (h1 : n < 1000) (h2 : 0 < x.length) (h3 : x.length ≤ 1000) : MulOk x n := by
  have e3 : x.length * n.toNat ≤ 1000000 := Nat.mul_le_mul h3 (show n.toNat ≤ 1000 by omega)
  refine ⟨?_, fun _ _ => ?_, fun _ _ => ?_⟩
  · rw [decide_eq_false (by omega), decide_eq_false (by omega)]
    rfl
  · intro z
    have h4 : (1000 : Int) ≤ (2 ^ 63 - 1) / n := by
      rw [Int.le_ediv_iff_mul_le h0]
      omega
    omega
  · have e : sizeLine = 16777216 := sizeLine_eq
    show decide (x.length * n.toNat > sizeLine) = false
    exact decide_eq_false (by omega)
theorem op_mul_str : OpR X (binaryOp .Mult) (fun x y H Q => ∃ s j, x = .str s ∧ y = .int j ∧ MulOk s j ∧ Q (.str (Txt.mul s j)) H) := by
  intro pins s σ H x y v u Q I rx ry h
  obtain ⟨z, j, rfl, rfl, hz, q⟩ := h
  obtain ⟨t, rfl⟩ := rx
  obtain ⟨t', rfl⟩ := ry
  exact SB.mul hz fun t' k => ⟨.str _, H, I.tok k, ⟨_, rfl⟩, q⟩
theorem op_dMul2 : OpD X (binaryOp .Mult) dMul2 := by
  refine ⟨_, op_mul.or op_mul_str, fun x y z h => ?_, fun H x y dx dy A B Q r1 r2 h => ?_⟩
  · unfold dMul2 at h
    split at h <;> first | (cases h; done) | (split at h <;> cases h)
  · unfold dMul2 at h
    split at h
    · cases r1
      cases r2
      split at h
      · rename_i hz
        exact .inl ⟨_, _, rfl, rfl, small_mul hz, fresh_imm (fun _ _ _ => .int _) h⟩
      · exact h.elim
    · cases r1
      cases r2
      split at h
      · rename_i hz
        exact .inr ⟨_, _, rfl, rfl, mulOk hz.1 hz.2.1 hz.2.2.1 hz.2.2.2, fresh_imm (fun _ _ _ => .str _) h⟩
      · exact h.elim
    · exact h.elim
/-! ### built-in functions -/
def dLen (ds : List D) : R D := match ds with
  | [.list xs] => .ok (.int xs.length)
  | [.tuple xs] => .ok (.int xs.length)
  | [.str s] => if s.length ≤ sizeLine then .ok (.int s.length) else .stk
  | [.dict ((.none, .list xs) :: _)] => .ok (.int xs.length)
  | [.dict ((.none, _) :: _)] => .stk
  | _ => .stk
theorem call_dLen : CallD X (.builtin "len") dLen := by
  refine ⟨_, CallR.or2 call_len_seq call_len_str, fun xs z h => ?_, fun H xs ds A Q r h => ?_⟩
  · unfold dLen at h
    split at h <;> first | (cases h; done) | (split at h <;> cases h)
  · unfold dLen at h
    split at h
    · cases r with
      | cons r1 r2 =>
        cases r2
        cases r1 with
        | lst h1 l1 => exact .inl ⟨_, _, rfl, .inl (.inl (.inl h1)), (by rw [l1.len]; exact fresh_imm (fun _ _ _ => .int _) h)⟩
    · cases r with
      | cons r1 r2 =>
        cases r2
        cases r1 with
        | tup h1 l1 => exact .inl ⟨_, _, rfl, .inr h1, (by rw [l1.len]; exact fresh_imm (fun _ _ _ => .int _) h)⟩
    · cases r with
      | cons r1 r2 =>
        cases r2
        cases r1
        split at h
        · rename_i hz
          exact .inr ⟨_, rfl, hz, fresh_imm (fun _ _ _ => .int _) h⟩
        · exact h.elim
    · cases r with
      | cons r1 r2 =>
        cases r2
        generalize ed : PyData.dict ((PyData.none, PyData.list ‹List D›) :: ‹List (D × D)›) = q at r1
        cases r1 with
        | lstF h1 l1 =>
          injection ed with e1
          injection e1 with e2 e3
          injection e2 with e4 e5
          injection e5 with e6
          subst e6
          exact .inl ⟨_, _, rfl, .inl h1.seq, (by rw [l1.len]; exact fresh_imm (fun _ _ _ => .int _) h)⟩
        | dct h1 l1 =>
          injection ed with e1
          subst e1
          exact (repP_tag l1).elim
        | dctF h1 l1 =>
          injection ed with e1
          subst e1
          exact (repP_tag l1).elim
        | ins h1 h2 l1 =>
          injection ed with e1
          injection e1 with e2 e3
          injection e2 with e4 e5
          cases e5
        | exn h1 h2 l1 =>
          injection ed with e1
          injection e1 with e2 e3
          injection e2 with e4 e5
          cases e5
        | _ => cases ed
    · exact h.elim
    · exact h.elim
def dMax2 (ds : List D) : R D := match ds with
  | [.int i, .int j] => .ok (.int (if j > i then j else i))
  | _ => .stk
def dMin2 (ds : List D) : R D := match ds with
  | [.int i, .int j] => .ok (.int (if j < i then j else i))
  | _ => .stk
theorem call_dMax2 (hc : X.calm = true) : CallD X (.builtin "max") dMax2 := by
  refine ⟨_, call_max2 hc, fun xs z h => ?_, fun H xs ds A Q r h => ?_⟩
  · unfold dMax2 at h
    split at h <;> cases h
  · unfold dMax2 at h
    split at h
    · cases r with
      | cons r1 r2 =>
        cases r2 with
        | cons r3 r4 =>
          cases r4
          cases r1
          cases r3
          exact ⟨_, _, rfl, fresh_imm (fun _ _ _ => .int _) h⟩
    · exact h.elim
theorem call_dMin2 (hc : X.calm = true) : CallD X (.builtin "min") dMin2 := by
  refine ⟨_, call_min2 hc, fun xs z h => ?_, fun H xs ds A Q r h => ?_⟩
  · unfold dMin2 at h
    split at h <;> cases h
  · unfold dMin2 at h
    split at h
    · cases r with
      | cons r1 r2 =>
        cases r2 with
        | cons r3 r4 =>
          cases r4
          cases r1
          cases r3
          exact ⟨_, _, rfl, fresh_imm (fun _ _ _ => .int _) h⟩
    · exact h.elim
def dListOf (ds : List D) : R D := match ds with
  | [.list xs] => if immL xs = true then .ok (.list xs) else .stk
  | [.tuple xs] => if immL xs = true then .ok (.list xs) else .stk
  | _ => .stk
theorem fresh_list {H : Hp} {Q : VK} {vs : List V} {xs : List D} (l : RepL X.K X.mg H true vs xs []) (h : Fresh X H (.ok (.list xs)) Q) : ∀ p, H p = none → Q (.ref p) (upd H p (.lst vs)) := fun p hp =>
  h _ _ [p] (same_upd hp) (.lst upd_same (l.same (same_upd hp))) (List.nodup_cons.mpr ⟨(by intro z; cases z), List.nodup_nil⟩) fun a ha => by
    rw [List.mem_singleton.mp ha]
    exact hp
theorem call_dListOf : CallD X (.type "list") dListOf := by
  refine ⟨_, call_list_of, fun xs z h => ?_, fun H xs ds A Q r h => ?_⟩
  · unfold dListOf at h
    split at h <;> first | (cases h; done) | (split at h <;> cases h)
  · unfold dListOf at h
    split at h
    · split at h
      · rename_i hz
        cases r with
        | cons r1 r2 =>
          cases r2
          cases r1 with
          | lst h1 l1 => exact ⟨_, _, rfl, .inl (.inl (.inl h1)), fresh_list (l1.imm hz).2 h⟩
      · exact h.elim
    · split at h
      · rename_i hz
        cases r with
        | cons r1 r2 =>
          cases r2
          cases r1 with
          | tup h1 l1 => exact ⟨_, _, rfl, .inr h1, fresh_list (l1.imm hz).2 h⟩
      · exact h.elim
    · exact h.elim
def dTupOf (ds : List D) : R D := match ds with
  | [.list xs] => if immL xs = true then .ok (.tuple xs) else .stk
  | [.tuple xs] => if immL xs = true then .ok (.tuple xs) else .stk
  | _ => .stk
theorem call_dTupOf : CallD X (.type "tuple") dTupOf := by
  refine ⟨_, call_tuple_of, fun xs z h => ?_, fun H xs ds A Q r h => ?_⟩
  · unfold dTupOf at h
    split at h <;> first | (cases h; done) | (split at h <;> cases h)
  · unfold dTupOf at h
    split at h
    · split at h
      · rename_i hz
        cases r with
        | cons r1 r2 =>
          cases r2
          cases r1 with
          | lst h1 l1 => exact ⟨_, _, rfl, .inl ⟨.inl (.inl h1), fun p hp => h _ _ [] (same_upd hp) (.tup (.inl (.inl upd_same)) ((l1.imm hz).2.same (same_upd hp))) List.nodup_nil fun a ha => by cases ha⟩⟩
      · exact h.elim
    · split at h
      · rename_i hz
        cases r with
        | cons r1 r2 =>
          cases r2
          cases r1 with
          | tup h1 l1 => exact ⟨_, _, rfl, .inr ⟨h1, h _ H [] (Same.refl H) (.tup h1 (l1.imm hz).2) List.nodup_nil fun a ha => by cases ha⟩⟩
      · exact h.elim
    · exact h.elim
def dStrOf (ds : List D) : R D := match ds with
  | [.int i] => if i.natAbs < 2 ^ 1900 then .ok (.str (toString i)) else .stk
  | _ => .stk
theorem log1920 {n : Nat} (h : n < 2 ^ 1900) : n.log2 < 1920 := by
  by_cases h0 : n = 0
  · subst h0
    decide
  · exact Nat.lt_of_lt_of_le ((Nat.log2_lt h0).mpr h) (by decide)
theorem call_dStrOf : CallD X (.type "str") dStrOf := by
  refine ⟨_, call_str_int, fun xs z h => ?_, fun H xs ds A Q r h => ?_⟩
  · unfold dStrOf at h
    split at h <;> first | (cases h; done) | (split at h <;> cases h)
  · unfold dStrOf at h
    split at h
    · split at h
      · rename_i hz
        cases r with
        | cons r1 r2 =>
          cases r2
          cases r1
          exact ⟨_, rfl, log1920 hz, fresh_imm (fun _ _ _ => .str _) h⟩
      · exact h.elim
    · exact h.elim
def dIntOf (ds : List D) : R D := match ds with
  | [.str s] => if s.length ≤ 640 then (match PySem.intText? s with
    | some n => .ok (.int n)
    | none => .stk) else .stk
  | _ => .stk
theorem call_dIntOf : CallD X (.type "int") dIntOf := by
  refine ⟨_, call_int_str, fun xs z h => ?_, fun H xs ds A Q r h => ?_⟩
  · unfold dIntOf at h
    split at h <;> first | (cases h; done) | (split at h <;> first | (cases h; done) | (split at h <;> cases h))
  · unfold dIntOf at h
    split at h
    · split at h
      · rename_i hz
        cases r with
        | cons r1 r2 =>
          cases r2
          cases r1
          split at h
          · rename_i hn
            exact ⟨_, _, rfl, hn, hz, fresh_imm (fun _ _ _ => .int _) h⟩
          · exact h.elim
      · exact h.elim
    · exact h.elim
/-! ### isinstance, of a built-in class -/
def tyName : D → Option String
  | .none => some "NoneType"
  | .bool _ => some "bool"
  | .int _ => some "int"
  | .str _ => some "str"
  | .list _ => some "list"
  | .tuple _ => some "tuple"
  | .dict ((.none, _) :: _) => none
  | .dict _ => some "dict"
def dIsi (T : String) (d : D) : R D := match tyName d with
  | some n => match kitB n T with
    | some b => .ok (.bool b)
    | none => .stk
  | none => .stk
theorem tyX_of {H : Hp} {v : V} {d : D} {A : List Addr} {n : String} (r : Rep X.K X.mg H false v d A) (h : tyName d = some n) : TyX X.K H v (.type n) := by
  cases r with
  | non =>
    cases h
    exact .base .non
  | bl b =>
    cases h
    exact .base (.bl b)
  | int b =>
    cases h
    exact .base (.int b)
  | str b =>
    cases h
    exact .base (.str b)
  | lst h1 l1 =>
    cases h
    exact .base (.lst h1)
  | lstF h1 l1 => cases h
  | tup h1 l1 =>
    cases h
    rcases h1 with (h1 | ⟨u, h1⟩) | ⟨u, its, m, h1, h2, _⟩
    · exact .base (.tup h1)
    · exact .fTuple h1
    · exact .kTuple h1 h2
  | dct h1 l1 =>
    cases l1 with
    | nil =>
      cases h
      exact .base (.dK h1)
    | cons r1 r2 =>
      rename_i k _ _ _ _ _ _
      cases k <;> (cases h; exact .base (.dK h1))
  | dctF h1 l1 =>
    cases l1 with
    | nil =>
      cases h
      exact .fDict h1
    | cons r1 r2 =>
      rename_i k _ _ _ _ _ _
      cases k <;> (cases h; exact .fDict h1)
  | ins h1 h2 l1 => cases h
  | exn h1 h2 l1 => cases h
theorem de_isi {T : Str} {n : String} {p p3 : Pos} (h1 : DE X W ow k1 a d1) (hm : X.mg "isinstance" = none) (hmT : X.mg T = none) (hvT : bootBuiltins T = some (.type n)) (hg : Gl X "isinstance" := by rfl) (hgT : Gl X T := by rfl) (hnT : T ≠ "__name__" := by decide) (hdT : (T == ("__debug__" : Str)) = false := by decide)
    (hs : starEach [a, .Name T p3] X.env = (false, eval a X.env) :: starEach [.Name T p3] X.env := by rfl) (hs2 : starEach [.Name T p3] X.env = (false, eval (.Name T p3) X.env) :: starEach [] X.env := by rfl) (hpl : (backTo pos (starEach [.Name T p3] X.env)).any (·.1) = false := by rfl) : DE X W ow (.own []) (.Call (.Name "isinstance" p) [a, .Name T p3] [] pos) (b1 (dIsi n) d1) := by
  obtain ⟨ta, p1, q1⟩ := h1
  refine ⟨_, pe_callB call_isi hg hm (by decide +kernel) (pa_cons p1 (pa_cons (pe_bltn (v := .ty n) hgT hmT hvT rfl hnT hdT) pa_nil hs2) hs) (by decide) (by decide) hs hpl, fun σ ρ H As Q S q => q1 σ ρ H As _ S ?_⟩
  unfold b1 at q
  cases e1 : d1 ρ with
  | stk =>
    rw [e1] at q
    exact q
  | exc x =>
    rw [e1] at q
    exact q
  | ok dx =>
    rw [e1, R.bind_ok] at q
    intro x H1 A s1 rx _
    unfold dIsi at q
    split at q
    · rename_i nm hn
      split at q
      · rename_i b hb
        exact ⟨x, .ty n, _, _, b, rfl, .ty n, tyX_of rx.weak hn, kit_ty hb, q (.bl b) H1 [] s1 (.bl b) nil_own⟩
      · exact q.elim
    · exact q.elim
/-! ### methods of texts -/
def dIndex (x y : D) : R D := match x, y with
  | .str s, .str t => (match Txt.index0 s t with
    | some k => .ok (.int (k : Nat))
    | none => .stk)
  | _, _ => .stk
def mth (g : D → D → R D) (f1 f2 : Env → R D) : Env → R D := fun ρ => (f1 ρ).bind fun x => match x with
  | .str _ => (f2 ρ).bind fun y => g x y
  | _ => .stk
def MthD (X : Cx) (id : String) (g : D → D → R D) : Prop :=
  ∃ r, MtR X id r ∧ (∀ x y z, g x y ≠ .exc z) ∧ ∀ H s y dy B Q, Rep X.K X.mg H false y dy B → Fresh X H (g (.str s) dy) Q → r (.str s) [y] H Q
theorem de_m1 {id : String} {name : Str} {apos : Pos} {g : D → D → R D} (slot : Slot "str" name id) (ty : typeOf (.builtin id) = pure (.type "method_descriptor")) (hm : MthD X id g) (h1 : DE X W ow k1 o d1) (h2 : DE X W ow k2 e d2)
    (hs : starEach [e] X.env = [(false, eval e X.env)] := by rfl) (hbase : attributeBase o name X.env (eval o X.env) = eval o X.env := by rfl) (hline : (apos.endLine == pos.line) = true := by rfl) :
    DE X W ow (.own []) (.Call (.Attribute o name apos) [e] [] pos) (mth g d1 d2) := by
  obtain ⟨r, hr, hx, hf⟩ := hm
  obtain ⟨ta, p1, q1⟩ := h1
  obtain ⟨tb, p2, q2⟩ := h2
  refine ⟨_, pe_m1 slot ty hr p1 p2 hs hbase hline, fun σ ρ H As Q S q => q1 σ ρ H As _ S ?_⟩
  unfold mth at q
  cases e1 : d1 ρ with
  | stk =>
    rw [e1] at q
    exact q
  | exc x =>
    rw [e1] at q
    exact q
  | ok dx =>
    rw [e1, R.bind_ok] at q
    intro x H1 A s1 rx _
    cases dx with
    | str s =>
      have rx' := rx.weak
      cases rx'
      refine ⟨⟨_, rfl⟩, q2 σ ρ H1 As _ (S.same s1) ?_⟩
      dsimp only at q
      cases e2 : d2 ρ with
      | stk =>
        rw [e2] at q
        exact q
      | exc x =>
        rw [e2] at q
        exact fun c dd H' B sm rp fx => q c dd H' B (s1.trans sm) rp fun b hb => s1.free (fx b hb)
      | ok dy =>
        rw [e2, R.bind_ok] at q
        intro y H2 B s2 ry _
        exact hf H2 _ y dy B Q ry.weak (fresh_good (s1.trans s2) q (hx _ dy))
    | _ => exact q.elim
def strsOf : List D → Option (List Str)
  | [] => some []
  | .str s :: r => (strsOf r).map (s :: ·)
  | _ :: _ => none
theorem strs_rep {H : Hp} {o : Bool} : ∀ {vs : List V} {ds : List D} {A : List Addr} {ss : List Str}, RepL X.K X.mg H o vs ds A → strsOf ds = some ss → vs = ss.map V.str
  | _, _, _, _, .nil, h => by
    cases h
    rfl
  | _, _, _, ss, .cons (d := d) r l, h => by
    cases d with
    | str s =>
      unfold strsOf at h
      cases e : strsOf ‹List D› with
      | none =>
        rw [e] at h
        cases h
      | some ts =>
        rw [e] at h
        cases h
        cases r
        rw [strs_rep l e]
        rfl
    | _ => cases h
theorem strs_imm : ∀ (ss : List Str) (K : PySem.W.Frag) (mg : Str → Option Value) (H : Hp), RepL K mg H true (ss.map V.str) (ss.map PyData.str) []
  | [], _, _, _ => .nil
  | s :: ss, K, mg, H => .cons (A := []) (B := []) (.str s) (strs_imm ss K mg H)
def dJoin (x y : D) : R D := match x, y with
  | .str s, .list ds => match strsOf ds with
    | some ss => if (ss.map (·.length)).sum + ss.length * s.length ≤ 16777216 then .ok (.str (Txt.join s ss)) else .stk
    | none => .stk
  | _, _ => .stk
theorem mt_dJoin : MthD X "str.join" dJoin := by
  refine ⟨_, mt_join, fun x y z h => ?_, fun H s y dy B Q r h => ?_⟩
  · unfold dJoin at h
    split at h <;> first | (cases h; done) | (split at h <;> first | (cases h; done) | (split at h <;> cases h))
  · unfold dJoin at h
    split at h
    · rename_i s' ds e1
      cases e1
      split at h
      · rename_i ss hss
        split at h
        · rename_i hz
          cases r with
          | lst h1 l1 =>
            have e := strs_rep l1 hss
            subst e
            exact ⟨_, _, ss, rfl, rfl, .inl (.inl (.inl h1)), hz, fresh_imm (fun _ _ _ => .str _) h⟩
        · exact h.elim
      · exact h.elim
    · exact h.elim
def dStarts (x y : D) : R D := match x, y with
  | .str s, .str t => .ok (.bool (Txt.startswith s t))
  | _, _ => .stk
theorem mt_dStarts : MthD X "str.startswith" dStarts := by
  refine ⟨_, mt_startswith, fun x y z h => ?_, fun H s y dy B Q r h => ?_⟩
  · unfold dStarts at h
    split at h <;> cases h
  · unfold dStarts at h
    split at h
    · rename_i e1
      cases e1
      cases r
      exact ⟨_, _, rfl, rfl, fresh_imm (fun _ _ _ => .bl _) h⟩
    · exact h.elim
def dSplit (x y : D) : R D := match x, y with
  | .str s, .str t => if (t.length == 0) = false ∧ s.length + 2 ≤ sizeLine then .ok (.list ((Txt.split s t).map .str)) else .stk
  | _, _ => .stk
theorem mt_dSplit : MthD X "str.split" dSplit := by
  refine ⟨_, mt_split, fun x y z h => ?_, fun H s y dy B Q r h => ?_⟩
  · unfold dSplit at h
    split at h <;> first | (cases h; done) | (split at h <;> cases h)
  · unfold dSplit at h
    split at h
    · rename_i e1
      cases e1
      cases r
      split at h
      · rename_i hz
        exact ⟨_, _, rfl, rfl, hz.1, hz.2, fresh_list (strs_imm _ _ _ _) h⟩
      · exact h.elim
    · exact h.elim
def dPart (x y : D) : R D := match x, y with
  | .str s, .str t => if (t.length == 0) = false ∧ s.length ≤ sizeLine then .ok (.tuple [.str (Txt.partition s t).1, .str (Txt.partition s t).2.1, .str (Txt.partition s t).2.2]) else .stk
  | _, _ => .stk
theorem mt_dPart : MthD X "str.partition" dPart := by
  refine ⟨_, mt_partition, fun x y z h => ?_, fun H s y dy B Q r h => ?_⟩
  · unfold dPart at h
    split at h <;> first | (cases h; done) | (split at h <;> cases h)
  · unfold dPart at h
    split at h
    · rename_i e1
      cases e1
      cases r
      split at h
      · rename_i hz
        exact ⟨_, _, rfl, rfl, hz.1, hz.2, fun p hp => h _ _ [] (same_upd hp) (.tup (.inl (.inl upd_same)) (strs_imm [_, _, _] _ _ _)) List.nodup_nil fun a ha => by cases ha⟩
      · exact h.elim
    · exact h.elim
theorem de_index {apos cpos : Pos} (hc : X.calm = true) (tk : Takes X W) (h1 : DE X W ow k1 o d1) (h2 : DE X W ow k2 e d2)
    (hbase : attributeBase o "index" X.env (eval o X.env) = eval o X.env := by rfl)
    (hfew : ((backTo cpos (starEach (e :: []) X.env)).all (fun x => !x.1) && (backToKw cpos (keywordEach [] X.env)).all (fun x => x.1.isSome)
      && decide ((e :: []).length + ([] : List Keyword).length + (if ([] : List Keyword).isEmpty then 0 else 1) < 30)) = true := by rfl)
    (hline : (apos.endLine == cpos.line) = true := by rfl) (hs : starEach (e :: []) X.env = (false, eval e X.env) :: starEach [] X.env := by rfl) (hplain : (backTo cpos (starEach [] X.env)).any (·.1) = false := by rfl) :
    DE X W ow (.own []) (.Call (.Attribute o "index" apos) [e] [] cpos) (mth dIndex d1 d2) := by
  obtain ⟨ta, p1, q1⟩ := h1
  obtain ⟨tb, p2, q2⟩ := h2
  refine ⟨_, pe_bmS PySem.F.plainAttrs_str PySem.F.slot_str_index PySem.F.type_str_index (mt_indexX hc tk) p1 (pa_cons p2 pa_nil hs) hbase hfew hline hs hplain, fun σ ρ H As Q S q => q1 σ ρ H As _ S ?_⟩
  unfold mth at q
  cases e1 : d1 ρ with
  | stk =>
    rw [e1] at q
    exact q
  | exc x =>
    rw [e1] at q
    exact q
  | ok dx =>
    rw [e1, R.bind_ok] at q
    intro x H1 A s1 rx _
    cases dx with
    | str s =>
      have rx' := rx.weak
      cases rx'
      refine ⟨rfl, q2 σ ρ H1 As _ (S.same s1) ?_⟩
      dsimp only at q
      cases e2 : d2 ρ with
      | stk =>
        rw [e2] at q
        exact q
      | exc x =>
        rw [e2] at q
        exact fun c dd H' B sm rp fx => q c dd H' B (s1.trans sm) rp fun b hb => s1.free (fx b hb)
      | ok dy =>
        rw [e2, R.bind_ok] at q
        intro y H2 B s2 ry _
        cases dy with
        | str t =>
          have ry' := ry.weak
          cases ry'
          unfold dIndex at q
          dsimp only at q
          cases ei : Txt.index0 s t with
          | none =>
            rw [ei] at q
            exact q.elim
          | some k =>
            rw [ei] at q
            exact ⟨s, t, rfl, rfl, (fun k' hk => by
              rw [ei] at hk
              cases hk
              exact q (.int (k : Nat)) H2 [] (s1.trans s2) (.int _) nil_own), fun hk => by
              rw [ei] at hk
              cases hk⟩
        | _ => exact q.elim
    | _ => exact q.elim
end
end Dg

namespace Dg
open PySem PySem.Spec PyProof.Rows L2
section
variable {K : PySem.W.Frag} {mg : Str → Option Value} {H0 : Hp} {M0 : Addr → Prop} {pn : Nat → Option V} {ow ow' : List Nat} {σ : L2.St} {ρ : Env} {H H' : Hp} {As : Nat → List Addr}
theorem Sta.killAll : ∀ (is : List Nat) {ρ : Env} {As : Nat → List Addr}, Sta K mg H0 M0 pn ow σ ρ H As → Sta K mg H0 M0 pn ow σ (kill is ρ) H (fun j => if j ∈ is then [] else As j)
  | [], ρ, As, S => by
    have e : (fun j => if j ∈ ([] : List Nat) then [] else As j) = As := by
      funext j
      rw [if_neg]
      intro z
      cases z
    rw [e]
    exact S
  | i :: is, ρ, As, S => by
    have T := Sta.killAll is (S.kill1 i)
    have e : (fun j => if j ∈ is then [] else (fun j => if j = i then [] else As j) j) = fun j => if j ∈ i :: is then [] else As j := by
      funext j
      by_cases h1 : j ∈ is
      · rw [if_pos h1, if_pos (List.mem_cons_of_mem _ h1)]
      · rw [if_neg h1]
        by_cases h2 : j = i
        · show (if j = i then [] else As j) = _
          rw [if_pos h2, if_pos (by rw [h2]; exact List.mem_cons_self)]
        · show (if j = i then [] else As j) = _
          rw [if_neg h2, if_neg]
          intro z
          rcases List.mem_cons.mp z with z | z
          · exact h2 z
          · exact h1 z
    rw [e] at T
    exact T
/-- a slot's own tree is changed where it stands -/
theorem Sta.mut (S : Sta K mg H0 M0 pn ow σ ρ H As) {i : Nat} {v : V} {d : D} {A : List Addr} (hi : i ∈ ow) (hv : σ[i]? = some (some v)) (f : Fr (fun a => a ∈ As i) H H') (r : Rep K mg H' true v d A) (nd : A.Nodup)
    (hA : ∀ a ∈ A, a ∈ As i ∨ ((H0 a = none ∨ M0 a) ∧ ∀ j, a ∉ As j)) : Sta K mg H0 M0 pn ow σ (ρ.set i (some d)) H' (fun j => if j = i then A else As j) := by
  have hl : i < ρ.length := by
    rw [← S.len]
    exact (List.getElem?_eq_some_iff.mp hv).1
  refine ⟨fun a o h hm => ?_, fun j e he => ?_, fun j h => ?_, fun j hj => ?_, fun j hj a ha => ?_, fun j hj l hl a ha hb => ?_, by rw [List.length_set]; exact S.len, S.pin⟩
  · refine f a o (S.fr a o h hm) fun hi2 ha => ?_
    rcases S.new i hi a ha with z | z
    · rw [h] at z
      cases z
    · exact hm hi2 z
  · by_cases hji : j = i
    · subst hji
      rw [List.getElem?_set_self hl] at he
      cases he
      refine ⟨v, hv, ?_⟩
      rw [if_pos rfl, contains_mem.mpr hi]
      exact r
    · rw [List.getElem?_set_ne (fun z => hji z.symm)] at he
      obtain ⟨w, e1, e2⟩ := S.rep j e he
      refine ⟨w, e1, ?_⟩
      rw [if_neg hji]
      exact e2.fr f fun a ha z => S.sep i hi j hji a z ha
  · by_cases hji : j = i
    · subst hji
      exact absurd (List.getElem?_set_self hl) (h d)
    · try dsimp only
      rw [if_neg hji]
      refine S.dead j fun d e => h d ?_
      rw [List.getElem?_set_ne (fun z => hji z.symm)]
      exact e
  · try dsimp only
    by_cases hji : j = i
    · rw [if_pos hji]
      exact nd
    · rw [if_neg hji]
      exact S.nd j hj
  · try dsimp only at ha
    by_cases hji : j = i
    · rw [if_pos hji] at ha
      rcases hA a ha with z | z
      · exact S.new i hi a z
      · exact z.1
    · rw [if_neg hji] at ha
      exact S.new j hj a ha
  · try dsimp only at ha hb
    by_cases hji : j = i
    · rw [if_pos hji] at ha
      rw [if_neg (fun z => hl (z.trans hji.symm))] at hb
      rcases hA a ha with z | z
      · exact S.sep i hi l (fun e => hl (e.trans hji.symm)) a z hb
      · exact z.2 l hb
    · rw [if_neg hji] at ha
      by_cases hli : l = i
      · rw [if_pos hli] at hb
        rcases hA a hb with z | z
        · exact S.sep j hj i (fun e => hji e.symm) a ha z
        · exact z.2 j ha
      · rw [if_neg hli] at hb
        exact S.sep j hj l hl a ha hb
end
section
variable {X : Cx} {W : WX} {C : Cfg} {ow ow' ow1 ow2 : List Nat} {k k1 k2 k3 k4 : Kd} {e a b c d o tg elt : Expr} {st : Stmt} {sts sts2 : List Stmt} {den d1 d2 d3 d4 : Env → R D} {f g : Env → Out} {pos p2 : Pos}
/-- a list's method that changes it: what is handed over is one's own -/
def MutO (X : Cx) (id : String) (g : List D → List D → Option D) : Prop :=
  ∃ r, MtR X id r ∧ ∀ H a vs xs A ws ds B Q, H a = some (.lst vs) → RepL X.K X.mg H true vs xs A → RepL X.K X.mg H true ws ds B → (a :: (A ++ B)).Nodup → ∀ d, g xs ds = some d → (∀ vs' A2, Rep X.K X.mg (upd H a (.lst vs')) true (.ref a) d A2 → A2.Nodup → (∀ z ∈ A2, z = a ∨ z ∈ A ∨ z ∈ B) → Q .non (upd H a (.lst vs'))) → r (.ref a) ws H Q
/-- .. what is handed over is looked at alone -/
def MutB (X : Cx) (id : String) (g : List D → List D → Option D) : Prop :=
  ∃ r, MtR X id r ∧ ∀ H a vs xs A ws ds B Q, H a = some (.lst vs) → RepL X.K X.mg H true vs xs A → RepL X.K X.mg H false ws ds B → (a :: A).Nodup → ∀ d, g xs ds = some d → (∀ vs' A2, Rep X.K X.mg (upd H a (.lst vs')) true (.ref a) d A2 → A2.Nodup → (∀ z ∈ A2, z = a ∨ z ∈ A) → Q .non (upd H a (.lst vs'))) → r (.ref a) ws H Q
def mutS (i : Nat) (ms : List Nat) (g : List D → List D → Option D) (f : Env → R (List D)) : Env → Out := fun ρ => match ρ[i]? with
  | some (some (.list xs)) => (match f ρ with
    | .ok ds => (match g xs ds with
      | some d => .nx ((kill ms ρ).set i (some d))
      | none => .stk)
    | .exc x => .exc x ρ
    | .stk => .stk)
  | _ => .stk
theorem upd_fr {H : Hp} {a : Addr} {o u : HO} {M : Addr → Prop} (h : H a = some o) (hm : isMut o = true) (ha : M a) : Fr M H (upd H a u) := fun b w hb hw => by
  by_cases e : b = a
  · subst e
    rw [h] at hb
    cases hb
    exact absurd ha (hw hm)
  · rw [upd_ne e]
    exact hb
theorem nodup_cons_app {a : Addr} {A B : List Addr} (h1 : (a :: A).Nodup) (h2 : B.Nodup) (h3 : ∀ z ∈ B, z ≠ a ∧ z ∉ A) : (a :: (A ++ B)).Nodup := by
  have h1' := List.nodup_cons.mp h1
  refine List.nodup_cons.mpr ⟨fun z => ?_, List.nodup_append.mpr ⟨h1'.2, h2, fun x hx y hy e => (h3 y hy).2 (e ▸ hx)⟩⟩
  rcases List.mem_append.mp z with z | z
  · exact h1'.1 z
  · exact (h3 a z).1 rfl
theorem ds_mutO {i n : Nat} {id : String} {name : Str} {ms : List Nat} {es : List Expr} {apos cpos : Pos} {g : List D → List D → Option D} {f : Env → R (List D)} (slot : Slot "list" name id) (hty : typeOf (.builtin id) = pure (.type "method_descriptor")) (hm : MutO X id g) (hv : PE X o (tVar i)) (ha : DA X W ow (.own ms) n (e :: es) f)
    (hi : ow.contains i = true) (him : ms.contains i = false) (how : subL ow' ow = true) (hox : subL C.owx ow = true)
    (hbase : attributeBase o name X.env (eval o X.env) = eval o X.env := by rfl)
    (hfew : ((backTo cpos (starEach (e :: es) X.env)).all (fun x => !x.1) && (backToKw cpos (keywordEach [] X.env)).all (fun x => x.1.isSome)
      && decide ((e :: es).length + ([] : List Keyword).length + (if ([] : List Keyword).isEmpty then 0 else 1) < 30)) = true := by rfl)
    (hline : (apos.endLine == cpos.line) = true := by rfl) (hs : starEach (e :: es) X.env = (false, eval e X.env) :: starEach es X.env := by rfl) (hplain : (backTo cpos (starEach es X.env)).any (·.1) = false := by rfl) (hsw : swapsWith (.Call (.Attribute o name apos) (e :: es) [] cpos) none pos.line X.env = pure false := by rfl) :
    DS X W C ow ow' (.Expr (.Call (.Attribute o name apos) (e :: es) [] cpos) pos) (mutS i ms g f) := by
  obtain ⟨r, hr, hq⟩ := hm
  obtain ⟨ta, pa, qa⟩ := ha
  refine ⟨_, ps_expr (pe_bm PySem.F.plainAttrs_list slot hty hr hv pa hbase hfew hline hs hplain) hsw, fun H0 M0 pn σ ρ H As Dn hp S z => ?_⟩
  have hi' := contains_mem.mp hi
  unfold mutS at z
  split at z
  · rename_i xs hρ
    obtain ⟨v, hv, rv⟩ := S.rep i _ hρ
    rw [hi] at rv
    generalize eA : As i = Ai at rv
    cases rv with
    | lst h1 l1 =>
      rename_i a vs A
      refine ⟨.ref a, hv, .inl ⟨rfl, _, .inl (.inl h1)⟩, qa σ ρ H As _ ⟨H0, M0, pn, S⟩ ?_⟩
      cases hf : f ρ with
      | stk =>
        rw [hf] at z
        exact z
      | exc x =>
        rw [hf] at z
        exact fun c dd H' A sm rp fx => z c dd σ H' As A ((S.same sm).less (subL_mem hox)) rp (S.fx fx)
      | ok ds =>
        rw [hf] at z
        intro ws H1 B sm rB ok hl
        dsimp only at z
        have S1 := S.same sm
        have ndA : (a :: A).Nodup := by
          have := S.nd i hi'
          rw [eA] at this
          exact this
        have hB : ∀ w ∈ B, w ∉ As i := fun w hw hA => by
          rcases ok.2.2 w hw with q | ⟨j, hj, q⟩
          · exact S.old hA q
          · by_cases e : i = j
            · subst e
              rw [contains_mem.mpr hj] at him
              cases him
            · exact S.sep j (ok.2.1 j hj) i e w q hA
        cases hg : g xs ds with
        | none =>
          rw [hg] at z
          exact z.elim
        | some d' =>
          rw [hg] at z
          refine hq H1 a vs xs A ws ds B _ (sm _ _ h1) (l1.same sm) rB (nodup_cons_app ndA ok.1 fun w hw => ⟨fun q => hB w hw (by rw [eA, q]; exact List.mem_cons_self), fun q => hB w hw (by rw [eA]; exact List.mem_cons_of_mem _ q)⟩) d' hg ?_
          intro vs' A2 r2 n2 h2
          have T := Sta.killAll ms S1
          have nim : i ∉ ms := fun q => by
            rw [contains_mem.mpr q] at him
            cases him
          have ei : (fun j => if j ∈ ms then [] else As j) i = a :: A := by
            show (if i ∈ ms then [] else As i) = _
            rw [if_neg nim, eA]
          refine z _ _ _ ((T.mut (i := i) hi' hv (upd_fr (sm _ _ h1) rfl (by show a ∈ (fun j => if j ∈ ms then [] else As j) i; rw [ei]; exact List.mem_cons_self)) r2 n2 fun w hw => ?_).less (subL_mem how))
          rcases h2 w hw with q | q | q
          · exact .inl (by show w ∈ (fun j => if j ∈ ms then [] else As j) i; rw [ei, q]; exact List.mem_cons_self)
          · exact .inl (by show w ∈ (fun j => if j ∈ ms then [] else As j) i; rw [ei]; exact List.mem_cons_of_mem _ q)
          · refine .inr ⟨?_, fun j hj => ?_⟩
            · rcases ok.2.2 w q with p | ⟨j, hj, p⟩
              · exact S.was p
              · exact S.new j (ok.2.1 j hj) w p
            · split at hj
              · cases hj
              · rename_i hjm
                rcases ok.2.2 w q with p | ⟨l, hl, p⟩
                · exact S.old hj p
                · exact S.sep l (ok.2.1 l hl) j (fun e => hjm (e ▸ hl)) w p hj
  · exact z.elim
theorem ds_mutB {i n : Nat} {id : String} {name : Str} {es : List Expr} {apos cpos : Pos} {g : List D → List D → Option D} {f : Env → R (List D)} (slot : Slot "list" name id) (hty : typeOf (.builtin id) = pure (.type "method_descriptor")) (hm : MutB X id g) (hv : PE X o (tVar i)) (ha : DA X W ow k n (e :: es) f)
    (hi : ow.contains i = true) (how : subL ow' ow = true) (hox : subL C.owx ow = true)
    (hbase : attributeBase o name X.env (eval o X.env) = eval o X.env := by rfl)
    (hfew : ((backTo cpos (starEach (e :: es) X.env)).all (fun x => !x.1) && (backToKw cpos (keywordEach [] X.env)).all (fun x => x.1.isSome)
      && decide ((e :: es).length + ([] : List Keyword).length + (if ([] : List Keyword).isEmpty then 0 else 1) < 30)) = true := by rfl)
    (hline : (apos.endLine == cpos.line) = true := by rfl) (hs : starEach (e :: es) X.env = (false, eval e X.env) :: starEach es X.env := by rfl) (hplain : (backTo cpos (starEach es X.env)).any (·.1) = false := by rfl) (hsw : swapsWith (.Call (.Attribute o name apos) (e :: es) [] cpos) none pos.line X.env = pure false := by rfl) :
    DS X W C ow ow' (.Expr (.Call (.Attribute o name apos) (e :: es) [] cpos) pos) (mutS i [] g f) := by
  obtain ⟨r, hr, hq⟩ := hm
  obtain ⟨ta, pa, qa⟩ := ha
  refine ⟨_, ps_expr (pe_bm PySem.F.plainAttrs_list slot hty hr hv pa hbase hfew hline hs hplain) hsw, fun H0 M0 pn σ ρ H As Dn hp S z => ?_⟩
  have hi' := contains_mem.mp hi
  unfold mutS at z
  split at z
  · rename_i xs hρ
    obtain ⟨v, hv, rv⟩ := S.rep i _ hρ
    rw [hi] at rv
    generalize eA : As i = Ai at rv
    cases rv with
    | lst h1 l1 =>
      rename_i a vs A
      refine ⟨.ref a, hv, .inl ⟨rfl, _, .inl (.inl h1)⟩, qa σ ρ H As _ ⟨H0, M0, pn, S⟩ ?_⟩
      cases hf : f ρ with
      | stk =>
        rw [hf] at z
        exact z
      | exc x =>
        rw [hf] at z
        exact fun c dd H' A sm rp fx => z c dd σ H' As A ((S.same sm).less (subL_mem hox)) rp (S.fx fx)
      | ok ds =>
        rw [hf] at z
        intro ws H1 B sm rB ok hl
        dsimp only at z
        have S1 := S.same sm
        have ndA : (a :: A).Nodup := by
          have := S.nd i hi'
          rw [eA] at this
          exact this
        cases hg : g xs ds with
        | none =>
          rw [hg] at z
          exact z.elim
        | some d' =>
          rw [hg] at z
          refine hq H1 a vs xs A ws ds B _ (sm _ _ h1) (l1.same sm) rB.weak ndA d' hg ?_
          intro vs' A2 r2 n2 h2
          refine z _ _ _ ((S1.mut (i := i) hi' hv (upd_fr (sm _ _ h1) rfl (by show a ∈ As i; rw [eA]; exact List.mem_cons_self)) r2 n2 fun w hw => .inl ?_).less (subL_mem how))
          rw [eA]
          rcases h2 w hw with q | q
          · rw [q]
            exact List.mem_cons_self
          · exact List.mem_cons_of_mem _ q
  · exact z.elim
/-! ### the methods -/
theorem repL_upd {H : Hp} {a : Addr} {u : HO} {o : Bool} {vs : List V} {ds : List D} {A : List Addr} {w : List V} (h : H a = some (.lst w)) (r : RepL X.K X.mg H o vs ds A) (ha : a ∉ A) : RepL X.K X.mg (upd H a u) o vs ds A :=
  r.fr (M := fun b => b = a) (upd_fr h rfl rfl) fun b hb e => ha (e ▸ hb)
def gAppend (xs ds : List D) : Option D := match ds with
  | [d] => if xs.length < sizeLine then some (.list (xs ++ [d])) else none
  | _ => none
theorem mu_append : MutO X "list.append" gAppend := by
  refine ⟨_, mt_append, fun H a vs xs A ws ds B Q h1 l1 rB nd d hg z => ?_⟩
  unfold gAppend at hg
  split at hg
  · split at hg
    · rename_i hlen
      cases hg
      have nd' := List.nodup_cons.mp nd
      cases rB with
      | cons r1 r2 =>
        cases r2
        rename_i v A1
        refine ⟨a, vs, v, rfl, rfl, h1, (by rw [l1.len]; exact hlen), z (vs ++ [v]) (a :: (A ++ A1)) (.lst upd_same ?_) ?_ ?_⟩
        · have q1 := repL_upd (u := .lst (vs ++ [v])) h1 l1 fun w => nd'.1 (List.mem_append_left _ w)
          have q2 := repL_upd (u := .lst (vs ++ [v])) h1 (RepL.one r1) fun w => nd'.1 (List.mem_append_right _ (List.mem_append_left _ w))
          exact q1.app q2
        · rw [List.append_nil] at nd
          exact nd
        · intro w hw
          rcases List.mem_cons.mp hw with q | q
          · exact .inl q
          · rcases List.mem_append.mp q with q | q
            · exact .inr (.inl q)
            · exact .inr (.inr (List.mem_append_left _ q))
    · cases hg
  · cases hg
end
end Dg

namespace Dg
open PySem PySem.Spec PyProof.Rows L2
section
variable {X : Cx} {W : WX} {C : Cfg} {ow ow' ow1 ow2 : List Nat} {k k1 k2 k3 k4 : Kd} {e a b c d o tg elt : Expr} {st : Stmt} {sts sts2 : List Stmt} {den d1 d2 d3 d4 : Env → R D} {f g : Env → Out} {pos p2 : Pos} {ta tb tc td : TE}
/-! ### a chain of three comparisons, as a test -/
def tCh4 (r r' r'' : R2) (ta tb tc td : TE) : TE := fun σ H Q => ta σ H fun x H1 => tb σ H1 fun y H2 => r x y H2 fun z H3 => ∃ k, z = .bl k ∧
  (if k = true then tc σ H3 fun y2 H4 => r' y y2 H4 fun z2 H5 => ∃ k2, z2 = .bl k2 ∧ (if k2 = true then td σ H5 fun y3 H6 => r'' y2 y3 H6 Q else Q (.bl false) H5) else Q (.bl false) H3)
theorem pt_chain4 {op op' op3 : CmpOp} {r r' r3 : R2} (ho : OpR X (compareOp op) r) (ho' : OpR X (compareOp op') r') (ho3 : OpR X (compareOp op3) r3) (ha : PE X a ta) (hb : PE X b tb) (hc : PE X c tc) (hd : PE X d td)
    (hm : lastMarks [op, op', op3] [b, c, d] = false := by with_unfolding_all rfl) : PT X (.Compare a [op, op', op3] [b, c, d] pos) (tTest (tCh4 r r' r3 ta tb tc td)) := by
  refine ⟨fun pins s σ H Q I h => ?_⟩
  refine isTrue_chain (thn (ha.run pins s σ H _ I h) fun v s1 ⟨x, H1, I1, r1, q1⟩ => test_link (thn (hb.run pins s1 σ H1 _ I1 q1) fun u s2 ⟨y, H2, I2, r2, q2⟩ =>
    thn (ho pins s2 σ H2 x y v u _ I2 r1 r2 q2) fun d s3 ⟨z, H3, I3, r3, k, e, q3⟩ => ?_)) hm
  subst e
  cases r3
  refine wpAny_truthy_bool ?_
  cases k with
  | false =>
    obtain ⟨k', e', q'⟩ := q3
    cases e'
    exact ite_ff ⟨H3, I3, q'⟩
  | true =>
    refine ite_tt (test_link (thn (hc.run pins s3 σ H3 _ I3 q3) fun w' s4 ⟨z', H4, I4, r4, q4⟩ => thn (ho' pins s4 σ H4 y z' u w' _ I4 r2 r4 q4) fun d' s5 ⟨z2, H5, I5, r5, k2, e2, q5⟩ => ?_))
    subst e2
    cases r5
    refine wpAny_truthy_bool ?_
    cases k2 with
    | false =>
      obtain ⟨k', e', q'⟩ := q5
      cases e'
      exact ite_ff ⟨H5, I5, q'⟩
    | true =>
      refine ite_tt (test_last (thn (hd.run pins s5 σ H5 _ I5 q5) fun w6 s6 ⟨z6, H6, I6, r6, q6⟩ => thn (ho3 pins s6 σ H6 z' z6 w' w6 _ I6 r4 r6 q6) fun d7 s7 ⟨z7, H7, I7, r7, k7, e7, q7⟩ => ?_))
      subst e7
      cases r7
      exact wpAny_truthy_bool ⟨H7, I7, q7⟩
def ch4 (g1 g2 g3 : D → D → R D) (f1 f2 f3 f4 : Env → R D) : Env → R D := fun ρ => (f1 ρ).bind fun x => (f2 ρ).bind fun y => (g1 x y).bind fun q => match q with
  | .bool true => (f3 ρ).bind fun z => (g2 y z).bind fun q2 => match q2 with
    | .bool true => (f4 ρ).bind fun w => g3 z w
    | .bool false => .ok (.bool false)
    | _ => .stk
  | .bool false => .ok (.bool false)
  | _ => .stk
theorem ch4_good {g1 g2 g3 : D → D → R D} {ta tb tc td : TE} {r r' r3 : R2} (q1 : ∀ σ ρ H As Q, On X ow σ ρ H As → Good X W σ ow k1 H As (d1 ρ) Q → ta σ H Q) (q2 : ∀ σ ρ H As Q, On X ow σ ρ H As → Good X W σ ow k2 H As (d2 ρ) Q → tb σ H Q)
    (q3 : ∀ σ ρ H As Q, On X ow σ ρ H As → Good X W σ ow k3 H As (d3 ρ) Q → tc σ H Q) (q4 : ∀ σ ρ H As Q, On X ow σ ρ H As → Good X W σ ow k4 H As (d4 ρ) Q → td σ H Q)
    (hg1 : ∀ x y z, g1 x y ≠ .exc z) (hr1 : ∀ H x y dx dy A B Q, Rep X.K X.mg H false x dx A → Rep X.K X.mg H false y dy B → Fresh X H (g1 dx dy) Q → r x y H Q)
    (hg2 : ∀ x y z, g2 x y ≠ .exc z) (hr2 : ∀ H x y dx dy A B Q, Rep X.K X.mg H false x dx A → Rep X.K X.mg H false y dy B → Fresh X H (g2 dx dy) Q → r' x y H Q)
    (hg3 : ∀ x y z, g3 x y ≠ .exc z) (hr3 : ∀ H x y dx dy A B Q, Rep X.K X.mg H false x dx A → Rep X.K X.mg H false y dy B → Fresh X H (g3 dx dy) Q → r3 x y H Q)
    {σ : L2.St} {ρ : Env} {H : Hp} {As : Nat → List Addr} {Q : VK} (S : On X ow σ ρ H As) (z : Good X W σ ow (.own []) H As (ch4 g1 g2 g3 d1 d2 d3 d4 ρ) Q) : tCh4 r r' r3 ta tb tc td σ H Q := by
  refine q1 σ ρ H As _ S ?_
  unfold ch4 at z
  cases e1 : d1 ρ with
  | stk =>
    rw [e1] at z
    exact z
  | exc x =>
    rw [e1] at z
    exact z
  | ok dx =>
    rw [e1, R.bind_ok] at z
    intro x H1 A s1 rx _
    refine q2 σ ρ H1 As _ (S.same s1) ?_
    cases e2 : d2 ρ with
    | stk =>
      rw [e2] at z
      exact z
    | exc x =>
      rw [e2] at z
      exact fun c dd H' B sm rp fx => z c dd H' B (s1.trans sm) rp fun b hb => s1.free (fx b hb)
    | ok dy =>
      rw [e2, R.bind_ok] at z
      intro y H2 B s2 ry _
      refine hr1 H2 x y dx dy A B _ (rx.weak.same s2) ry.weak ?_
      cases e3 : g1 dx dy with
      | stk =>
        rw [e3] at z
        exact z
      | exc x => exact absurd e3 (hg1 _ _ _)
      | ok q =>
        rw [e3, R.bind_ok] at z
        intro v H3 A3 s3 r3 n3 f3
        cases q with
        | bool t =>
          cases r3
          cases t with
          | false => exact ⟨false, rfl, iteF (z (.bl false) H3 [] (s1.trans (s2.trans s3)) (.bl false) nil_own)⟩
          | true =>
            refine ⟨true, rfl, iteT ?_⟩
            refine q3 σ ρ H3 As _ (((S.same s1).same s2).same s3) ?_
            dsimp only at z
            cases e4 : d3 ρ with
            | stk =>
              rw [e4] at z
              exact z
            | exc x =>
              rw [e4] at z
              exact fun c dd H' B sm rp fx => z c dd H' B (s1.trans (s2.trans (s3.trans sm))) rp fun b hb => s1.free (s2.free (s3.free (fx b hb)))
            | ok dz =>
              rw [e4, R.bind_ok] at z
              intro w H4 A4 s4 rw' _
              refine hr2 H4 y w dy dz B A4 _ ((ry.weak.same s3).same s4) rw'.weak ?_
              cases e5 : g2 dy dz with
              | stk =>
                rw [e5] at z
                exact z
              | exc x => exact absurd e5 (hg2 _ _ _)
              | ok q2 =>
                rw [e5, R.bind_ok] at z
                intro v5 H5 A5 s5 r5 n5 f5
                cases q2 with
                | bool t2 =>
                  cases r5
                  cases t2 with
                  | false => exact ⟨false, rfl, iteF (z (.bl false) H5 [] (s1.trans (s2.trans (s3.trans (s4.trans s5)))) (.bl false) nil_own)⟩
                  | true =>
                    refine ⟨true, rfl, iteT ?_⟩
                    refine q4 σ ρ H5 As _ (((((S.same s1).same s2).same s3).same s4).same s5) ?_
                    dsimp only at z
                    cases e6 : d4 ρ with
                    | stk =>
                      rw [e6] at z
                      exact z
                    | exc x =>
                      rw [e6] at z
                      exact fun c dd H' B sm rp fx => z c dd H' B (s1.trans (s2.trans (s3.trans (s4.trans (s5.trans sm))))) rp fun b hb => s1.free (s2.free (s3.free (s4.free (s5.free (fx b hb)))))
                    | ok dw =>
                      rw [e6, R.bind_ok] at z
                      intro w6 H6 A6 s6 rw6 _
                      exact hr3 H6 w w6 dz dw A4 A6 Q ((rw'.weak.same s5).same s6) rw6.weak (fresh_good (s1.trans (s2.trans (s3.trans (s4.trans (s5.trans s6))))) z (hg3 dz dw))
                | _ => exact z.elim
        | _ => exact z.elim
theorem dt_chain4 {op op' op3 : CmpOp} {g1 g2 g3 : D → D → R D} (h : OpD X (compareOp op) g1) (h' : OpD X (compareOp op') g2) (h6 : OpD X (compareOp op3) g3) (h1 : DE X W ow k1 a d1) (h2 : DE X W ow k2 b d2) (h3 : DE X W ow k3 c d3) (h4 : DE X W ow k4 d d4)
    (hm : lastMarks [op, op', op3] [b, c, d] = false := by with_unfolding_all rfl) : DT X W ow (.Compare a [op, op', op3] [b, c, d] pos) (Dg.tb (ch4 g1 g2 g3 d1 d2 d3 d4)) := by
  obtain ⟨r, ho, hg, hr⟩ := h
  obtain ⟨r', ho', hg', hr'⟩ := h'
  obtain ⟨r3, ho3, hg3, hr3⟩ := h6
  obtain ⟨ta, p1, q1⟩ := h1
  obtain ⟨tb', p2, q2⟩ := h2
  obtain ⟨tc, p3, q3⟩ := h3
  obtain ⟨td, p4, q4⟩ := h4
  refine ⟨_, pt_chain4 ho ho' ho3 p1 p2 p3 p4 hm, fun σ ρ H As Q S z => ch4_good (g1 := g1) (g2 := g2) (g3 := g3) q1 q2 q3 q4 hg hr hg' hr' hg3 hr3 S ?_⟩
  unfold Dg.tb at z
  cases hd : ch4 g1 g2 g3 d1 d2 d3 d4 ρ with
  | stk =>
    rw [hd] at z
    exact z
  | exc x =>
    rw [hd] at z
    exact z
  | ok d =>
    rw [hd, R.bind_ok] at z
    intro v H' A sm r _
    cases d with
    | bool b =>
      cases r
      exact ⟨b, rfl, z H' sm⟩
    | _ => exact z.elim
end
end Dg

namespace Dg
open PySem PySem.Spec PyProof.Rows L2
/-! ### dicts that change: d[k] = v -/
def isKey : D → Bool
  | .int _ => true
  | .str _ => true
  | _ => false
theorem isKey_kD {y : D} (h : isKey y = true) : ∃ k : Key, y = kD k := by
  cases y with
  | int i => exact ⟨.inl i, rfl⟩
  | str i => exact ⟨.inr i, rfl⟩
  | _ => cases h
def putD : List (D × D) → D → D → Option (List (D × D))
  | [], k, v => some [(k, v)]
  | (q, w) :: r, k, v => if keq q k = true then (if (r.any fun p => keq p.1 k) = true then none else some ((q, v) :: r)) else (putD r k v).map ((q, w) :: ·)
def tagD : List (D × D) → Bool
  | (.none, _) :: _ => true
  | _ => false
def putT (kvs : List (D × D)) (k v : D) : Option (List (D × D)) := if tagD kvs = false ∧ isKey k = true ∧ kvs.length < sizeLine then putD kvs k v else none
theorem putK_neg {p : Key × V} {r : List (Key × V)} {k : Key} {v : V} (h : ¬ p.1 = k) : putK (p :: r) k v = p :: putK r k v := by
  unfold putK
  rw [List.any_cons, decide_eq_false h, Bool.false_or, List.map_cons, if_neg h]
  split <;> rfl
theorem putK_pos {p : Key × V} {r : List (Key × V)} {k : Key} {v : V} (h : p.1 = k) (hr : (r.any fun q => decide (q.1 = k)) = false) : putK (p :: r) k v = (k, v) :: r := by
  unfold putK
  rw [List.any_cons, decide_eq_true h, Bool.true_or, if_pos rfl, List.map_cons, if_pos h, h]
  congr 1
  have : ∀ q ∈ r, (if q.1 = k then (q.1, v) else q) = q := fun q hq => by
    rw [if_neg]
    intro z
    have : (r.any fun q => decide (q.1 = k)) = true := List.any_eq_true.mpr ⟨q, hq, decide_eq_true z⟩
    rw [hr] at this
    cases this
  calc r.map _ = r.map id := List.map_congr_left this
    _ = r := List.map_id r
section
variable {K : PySem.W.Frag} {mg : Str → Option Value} {H : Hp} {o : Bool}
theorem repP_len : ∀ {vs : List (Key × V)} {ds : List (D × D)} {A : List Addr}, RepP K mg H o vs ds A → vs.length = ds.length
  | _, _, _, .nil => rfl
  | _, _, _, .cons _ r => by rw [List.length_cons, List.length_cons, repP_len r]
theorem repP_any {k : Key} : ∀ {vs : List (Key × V)} {ds : List (D × D)} {A : List Addr}, RepP K mg H o vs ds A → (vs.any fun q => decide (q.1 = k)) = ds.any fun p => keq p.1 (kD k)
  | _, _, _, .nil => rfl
  | _, _, _, .cons (k := k2) _ r => by
    rw [List.any_cons, List.any_cons, repP_any r]
    congr 1
    rw [Bool.eq_iff_iff, decide_eq_true_eq]
    show k2 = k ↔ keq (kD k2) (kD k) = true
    rw [keq_iff]
    exact ⟨fun e => by rw [e], fun e => (kD_inj e).symm⟩
theorem repP_put {k : Key} {v : V} {d : D} {B : List Addr} (rv : Rep K mg H o v d B) : ∀ {vs : List (Key × V)} {ds es : List (D × D)} {A : List Addr}, RepP K mg H o vs ds A → putD ds (kD k) d = some es → (A ++ B).Nodup → ∃ A', RepP K mg H o (putK vs k v) es A' ∧ A'.Nodup ∧ ∀ z ∈ A', z ∈ A ∨ z ∈ B
  | _, _, _, _, .nil, e, nd => by
    cases e
    exact ⟨B ++ [], .cons rv .nil, by rw [List.append_nil]; exact nd, fun z hz => .inr (by rw [List.append_nil] at hz; exact hz)⟩
  | _, _, es, _, .cons (k := k2) (v := v2) (d := d2) (vs := vs2) (ds := ds2) (A := A1) (B := A2) h r, e, nd => by
    unfold putD at e
    by_cases hk : keq (kD k2) (kD k) = true
    · rw [if_pos hk] at e
      split at e
      · cases e
      · rename_i hn
        cases e
        have hk2 := kD_inj (keq_iff.mp hk)
        subst hk2
        have ha : (vs2.any fun q => decide (q.1 = k)) = false := by
          rw [repP_any r]
          simpa using hn
        rw [putK_pos rfl ha]
        refine ⟨B ++ A2, .cons rv r, ?_, fun z hz => ?_⟩
        · rw [List.append_assoc] at nd
          have n2 := (List.nodup_append.mp nd).2.1
          exact (List.perm_append_comm.nodup_iff).mp n2
        · rcases List.mem_append.mp hz with q | q
          · exact .inr q
          · exact .inl (List.mem_append_right _ q)
    · rw [if_neg hk] at e
      have hne : ¬ k2 = k := fun z => hk (keq_iff.mpr (by rw [z]))
      cases ep : putD ds2 (kD k) d with
      | none =>
        rw [ep] at e
        cases e
      | some es2 =>
        rw [ep] at e
        cases e
        rw [List.append_assoc] at nd
        have nd3 := List.nodup_append.mp nd
        obtain ⟨A', q1, q2, q3⟩ := repP_put rv r ep nd3.2.1
        rw [putK_neg (p := (k2, v2)) hne]
        refine ⟨A1 ++ A', .cons h q1, List.nodup_append.mpr ⟨nd3.1, q2, fun x hx y hy => nd3.2.2 x hx y ?_⟩, fun z hz => ?_⟩
        · rcases q3 y hy with q | q
          · exact List.mem_append_left _ q
          · exact List.mem_append_right _ q
        · rcases List.mem_append.mp hz with q | q
          · exact .inl (List.mem_append_left _ q)
          · rcases q3 z q with q | q
            · exact .inl (List.mem_append_right _ q)
            · exact .inr q
end
section
variable {X : Cx} {W : WX} {C : Cfg} {ow ow' ow1 ow2 : List Nat} {k k1 k2 k3 k4 : Kd} {e a b c d o ik value tg elt : Expr} {st : Stmt} {sts sts2 : List Stmt} {den d1 d2 d3 d4 dv dk : Env → R D} {f g : Env → Out} {pos pos' p2 : Pos}
def dputS (i : Nat) (ms : List Nat) (dk dv : Env → R D) : Env → Out := fun ρ => match dv ρ with
  | .ok v => (match ρ[i]? with
    | some (some (.dict kvs)) => (match dk ρ with
      | .ok y => (match putT kvs y v with
        | some es => .nx ((kill ms ρ).set i (some (.dict es)))
        | none => .stk)
      | .exc x => .exc x ρ
      | .stk => .stk)
    | _ => .stk)
  | .exc x => .exc x ρ
  | .stk => .stk
theorem repP_upd {H : Hp} {a : Addr} {u w : HO} {o : Bool} {vs : List (Key × V)} {ds : List (D × D)} {A : List Addr} (h : H a = some w) (hm : isMut w = true) (r : RepP X.K X.mg H o vs ds A) (ha : a ∉ A) : RepP X.K X.mg (upd H a u) o vs ds A :=
  r.fr (M := fun b => b = a) (upd_fr h hm rfl) fun b hb e => ha (e ▸ hb)
theorem ds_dput {i : Nat} {ms : List Nat} (hu : X.A.units + 64 < cLine) (h1 : DE X W ow (.own ms) value dv) (ho : PE X o (tVar i)) (h2 : DE X W ow k2 ik dk)
    (hi : ow.contains i = true) (him : ms.contains i = false) (how : subL ow' ow = true) (hox : subL C.owx ow = true)
    (hs : swapsWith value (some (.Subscript o ik pos')) pos.line X.env = pure false := by rfl) :
    DS X W C ow ow' (.Assign [.Subscript o ik pos'] value pos) (dputS i ms dk dv) := by
  obtain ⟨tv, pv, qv⟩ := h1
  obtain ⟨ty, py, qy⟩ := h2
  refine ⟨_, ps_dput (by omega) ho py pv hs, fun H0 M0 pn σ ρ H As Dn hp S z => qv σ ρ H As _ ⟨H0, M0, pn, S⟩ ?_⟩
  have hi' := contains_mem.mp hi
  unfold dputS at z
  cases hd : dv ρ with
  | stk =>
    rw [hd] at z
    exact z
  | exc x =>
    rw [hd] at z
    exact fun c dd H' A sm rp fx => z c dd σ H' As A ((S.same sm).less (subL_mem hox)) rp (S.fx fx)
  | ok dval =>
    rw [hd] at z
    intro v H1 B s1 rB ok
    dsimp only at z
    split at z
    · rename_i kvs hρ
      obtain ⟨w, hw, rw1⟩ := S.rep i _ hρ
      rw [hi] at rw1
      generalize eA : As i = Ai at rw1
      refine ⟨w, hw, qy σ ρ H1 As _ ⟨H0, M0, pn, S.same s1⟩ ?_⟩
      cases hk : dk ρ with
      | stk =>
        rw [hk] at z
        exact z
      | exc x =>
        rw [hk] at z
        exact fun c dd H' A sm rp fx => z c dd σ H' As A (((S.same s1).same sm).less (subL_mem hox)) rp ((S.same s1).fx fx)
      | ok dkey =>
        rw [hk] at z
        intro y H3 Ak s3 rk _
        dsimp only at z
        cases hp3 : putT kvs dkey dval with
        | none =>
          rw [hp3] at z
          exact z.elim
        | some es =>
          rw [hp3] at z
          unfold putT at hp3
          split at hp3
          · rename_i hg
            obtain ⟨kk, rfl⟩ := isKey_kD hg.2.1
            have ey := rep_key rk
            subst ey
            cases rw1 with
            | dct hh l1 =>
              rename_i a vs A
              have S3 := (S.same s1).same s3
              have hh3 := s3 _ _ (s1 _ _ hh)
              have ndA : (a :: A).Nodup := by
                have := S.nd i hi'
                rw [eA] at this
                exact this
              have hB : ∀ w ∈ B, w ∉ As i := fun w hw hA => by
                rcases ok.2.2 w hw with q | ⟨j, hj, q⟩
                · exact S.old hA q
                · by_cases e : i = j
                  · subst e
                    rw [contains_mem.mpr hj] at him
                    cases him
                  · exact S.sep j (ok.2.1 j hj) i e w q hA
              have nd1 := nodup_cons_app ndA ok.1 fun w hw => ⟨fun q => hB w hw (by rw [eA, q]; exact List.mem_cons_self), fun q => hB w hw (by rw [eA]; exact List.mem_cons_of_mem _ q)⟩
              have nd2 := List.nodup_cons.mp nd1
              have lA := repP_upd (u := .dK (putK vs kk v)) hh3 rfl ((l1.same s1).same s3) fun q => nd2.1 (List.mem_append_left _ q)
              have lB := (rB.same s3).fr (M := fun b => b = a) (upd_fr (u := .dK (putK vs kk v)) hh3 rfl rfl) fun b hb e => nd2.1 (List.mem_append_right _ (e ▸ hb))
              obtain ⟨A', q1, q2, q3⟩ := repP_put lB lA hp3 nd2.2
              refine ⟨a, _, rfl, DPut.k hh3 (by rw [repP_len l1]; exact hg.2.2), ?_⟩
              have T := Sta.killAll ms S3
              have nim : i ∉ ms := fun q => by
                rw [contains_mem.mpr q] at him
                cases him
              have ei : (fun j => if j ∈ ms then [] else As j) i = a :: A := by
                show (if i ∈ ms then [] else As i) = _
                rw [if_neg nim, eA]
              have nA' : a ∉ A' := fun q => by
                rcases q3 a q with q | q
                · exact nd2.1 (List.mem_append_left _ q)
                · exact nd2.1 (List.mem_append_right _ q)
              refine z _ _ _ ((T.mut (i := i) hi' hw (upd_fr hh3 rfl (by show a ∈ (fun j => if j ∈ ms then [] else As j) i; rw [ei]; exact List.mem_cons_self)) (.dct upd_same q1) (List.nodup_cons.mpr ⟨nA', q2⟩) fun w hw => ?_).less (subL_mem how))
              rcases List.mem_cons.mp hw with q | q
              · exact .inl (by show w ∈ (fun j => if j ∈ ms then [] else As j) i; rw [ei, q]; exact List.mem_cons_self)
              rcases q3 w q with q | q
              · exact .inl (by show w ∈ (fun j => if j ∈ ms then [] else As j) i; rw [ei]; exact List.mem_cons_of_mem _ q)
              · refine .inr ⟨?_, fun j hj => ?_⟩
                · rcases ok.2.2 w q with p | ⟨j, hj, p⟩
                  · exact S.was p
                  · exact S.new j (ok.2.1 j hj) w p
                · split at hj
                  · cases hj
                  · rename_i hjm
                    rcases ok.2.2 w q with p | ⟨l, hl, p⟩
                    · exact S.old hj p
                    · exact S.sep l (ok.2.1 l hl) j (fun e => hjm (e ▸ hl)) w p hj
            | ins h1 h2 l1 =>
              have := hg.1
              cases this
            | exn h1 h2 l1 =>
              have := hg.1
              cases this
          · cases hp3
    · exact z.elim
end
end Dg

namespace Dg
open PySem PySem.Spec PyProof.Rows L2
/-! ### least of texts; insert -/
theorem strLt_of {prog : Program} {w : World} {A : Around} {P : Nat → Value → Prop} (hu : A.units + 8 < cLine) (val : Nat → Str) (hval : ∀ i v, P i v → ∃ t, v = .str (val i) t) :
    CmpOf prog w A .Lt P (fun i j => PySem.W.dataLt (.str (val i)) (.str (val j))) := fun i j vi vj s Q E hi hj hq => by
  obtain ⟨t, rfl⟩ := hval i vi hi
  obtain ⟨u, rfl⟩ := hval j vj hj
  refine PySem.W.rcLt_alike (.str (val i)) (.str (val j)) A s _ _ [] [] (Reads.str _ _) (Reads.str _ _) (by simp [PySem.W.alike]) (fun e => by cases e) ?_ prog w E Q hq
  simp only [PyData.depth]
  omega
section
variable {prog : Program} {w : World} {A : Around} {E : Value → Shared → Prop} {s : Shared}
theorem min_two_strs {a b : Str} {t u : Tok} {Q : Value → Shared → Prop} (hh : A.handled = none) (hu : A.units + 16 < cLine)
    (h : ∀ h' tk, (∀ c o, s.heap.get? c = some o → h'.get? c = some o) → Q (if PySem.W.dataLt (.str b) (.str a) = true then .str b u else .str a t) { s with heap := h', toks := tk }) :
    wpAny (model prog w) A (PySem.call (Value.builtin "min") [Value.str a t, Value.str b u]) Q E s := by
  have hT : (s.heap.push { cls := .type "tuple", data := .seq #[.str a t, .str b u] }).IsTuple s.heap.objs.size #[.str a t, .str b u] := ⟨_, Heap.get?_push_size _ rfl, rfl, 0, rfl⟩
  refine call_min_two (wpAny_pyIter_tuple hT ?_)
  have hsz : (s.heap.push { cls := .type "tuple", data := .seq #[.str a t, .str b u] }).objs.size = s.heap.objs.size + 1 := Heap.size_push ..
  refine ⟨_, [_, s.heap.objs.size], [_], _, _, _, _, rfl, Walks.tuple (A := A.in1) hh _ s.heap.objs.size (by rw [hsz]; exact Nat.ne_of_lt (Nat.lt_succ_self _)) #[.str a t, .str b u],
    ⟨⟨_, Heap.get?_push_size _ rfl, rfl, rfl⟩, hT.push _⟩, fun c hc => ?_, Nat.succ_pos _, strLt_of (A := A.in1) (by show A.units + 1 + 8 < cLine; omega) (fun i => if i = 0 then a else b) (fun i v hv => ?_), fun v h' tk hP hk => ?_⟩
  · show c < ((s.heap.push _).push _).objs.size
    rw [Heap.size_push, hsz]
    rcases List.mem_cons.mp hc with rfl | hc
    · rw [hsz]; exact Nat.lt_succ_self _
    · rcases List.mem_cons.mp hc with rfl | hc
      · exact Nat.lt_succ_of_lt (Nat.lt_succ_self _)
      · cases hc
  · match i, hv with
    | 0, hv =>
      cases hv
      exact ⟨_, rfl⟩
    | 1, hv =>
      cases hv
      exact ⟨_, rfl⟩
    | n + 2, hv => simp at hv
  · have hold : ∀ c o, s.heap.get? c = some o → h'.get? c = some o := fun c o e => by
      refine hk c o (fun hm => ?_) (Heap.get?_push_of_some _ (Heap.get?_push_of_some _ e))
      rcases List.mem_cons.mp hm with e1 | hm
      · have := Heap.lt_size e; rw [e1, hsz] at this; exact Nat.lt_irrefl _ (Nat.lt_of_succ_lt this)
      · cases hm
    have := h h' tk hold
    have hv : v = if PySem.W.dataLt (.str b) (.str a) = true then Value.str b u else Value.str a t := by
      have hP' : (#[Value.str a t, Value.str b u] : Array Value)[argBest (fun i j => PySem.W.dataLt (.str (if i = 0 then a else b)) (.str (if j = 0 then a else b))) 1]? = some v := hP
      by_cases hba : PySem.W.dataLt (.str b) (.str a) = true
      · have e : argBest (fun i j => PySem.W.dataLt (.str (if i = 0 then a else b)) (.str (if j = 0 then a else b))) 1 = 1 := by simp [argBest, hba]
        rw [e] at hP'
        rw [if_pos hba]
        exact (Option.some.inj hP').symm
      · have e : argBest (fun i j => PySem.W.dataLt (.str (if i = 0 then a else b)) (.str (if j = 0 then a else b))) 1 = 0 := by simp [argBest, hba]
        rw [e] at hP'
        rw [if_neg hba]
        exact (Option.some.inj hP').symm
    rw [hv]; exact this
end
section
variable {X : Cx}
theorem call_minS2 (hc : X.calm = true) (hu : X.A.units + 64 < cLine) : CallR X (.builtin "min") (fun xs H Q => ∃ a b, xs = [.str a, .str b] ∧ Q (.str (if PySem.W.dataLt (.str b) (.str a) = true then b else a)) H) := by
  intro pins s σ H xs us Q I r h
  obtain ⟨i, j, rfl, q⟩ := h
  obtain ⟨u, w', rfl, ⟨t, rfl⟩, ⟨t', rfl⟩⟩ := vals2 r
  refine min_two_strs (I.ok.hd hc) (by omega) fun h' tk k => ⟨_, H, I.kept k, ?_, q⟩
  by_cases hj : PySem.W.dataLt (.str j) (.str i) = true
  · rw [if_pos hj, if_pos hj]; exact ⟨_, rfl⟩
  · rw [if_neg hj, if_neg hj]; exact ⟨_, rfl⟩
def dMinS2 (ds : List D) : R D := match ds with
  | [.str a, .str b] => .ok (.str (if PySem.W.dataLt (.str b) (.str a) = true then b else a))
  | _ => .stk
theorem call_dMinS2 (hc : X.calm = true) (hu : X.A.units + 64 < cLine) : CallD X (.builtin "min") dMinS2 := by
  refine ⟨_, call_minS2 hc hu, fun xs z h => ?_, fun H xs ds A Q r h => ?_⟩
  · unfold dMinS2 at h
    split at h <;> cases h
  · unfold dMinS2 at h
    split at h
    · cases r with
      | cons r1 r2 =>
        cases r2 with
        | cons r3 r4 =>
          cases r4
          cases r1
          cases r3
          exact ⟨_, _, rfl, fresh_imm (fun _ _ _ => .str _) h⟩
    · exact h.elim
/-- min of a list of texts -/
theorem call_minSL (hc : X.calm = true) (hu : X.A.units + 64 < cLine) : CallR X (.builtin "min") (fun xs H Q => ∃ a x ss, xs = [.ref a] ∧ Dp X.K H (.ref a) (.list ((x :: ss).map PyData.str)) ∧ Q (.str (PySem.W.minOf x ss)) H) := by
  intro pins s σ H xs us Q I r h
  obtain ⟨a, x, ss, rfl, hd, q⟩ := h
  obtain ⟨as, rd⟩ := Dp.reads I _ _ (Value.ref a) hd rfl
  rw [Vals.ref1 r]
  cases rd with
  | list h1 h2 h3 h4 =>
    refine PySem.W.min_list_datum (x := x) (xs := ss) (I.ok.hd hc) ⟨_, h1, h2, _, h3⟩ ⟨_, h4⟩ (by show X.A.units + 1 + 0 < cLine; omega) fun i v h' tk hi hold k => ⟨.str _, H, I.kept k, ?_, q⟩
    obtain ⟨bs, hr⟩ := hold
    revert hr
    show Reads h' v (.str _) bs → _
    intro hr
    cases hr
    exact ⟨_, rfl⟩
theorem flatL_strs : ∀ ss : List Str, flatL (ss.map PyData.str) = true
  | [] => rfl
  | s :: ss => by
    rw [List.map_cons, flatL, flatL_strs ss]
    rfl
theorem strsOf_eq : ∀ {ds : List D} {ss : List Str}, strsOf ds = some ss → ds = ss.map .str
  | [], _, h => by
    cases h
    rfl
  | d :: ds, ss, h => by
    cases d with
    | str s =>
      unfold strsOf at h
      cases e : strsOf ds with
      | none =>
        rw [e] at h
        cases h
      | some ts =>
        rw [e] at h
        cases h
        rw [strsOf_eq e]
        rfl
    | _ => cases h
def dMinSL (ds : List D) : R D := match ds with
  | [.list xs] => (match strsOf xs with
    | some (x :: ss) => .ok (.str (PySem.W.minOf x ss))
    | _ => .stk)
  | _ => .stk
theorem call_dMinSL (hc : X.calm = true) (hu : X.A.units + 64 < cLine) : CallD X (.builtin "min") dMinSL := by
  refine ⟨_, call_minSL hc hu, fun xs z h => ?_, fun H xs ds A Q r h => ?_⟩
  · unfold dMinSL at h
    split at h <;> first | (cases h; done) | (split at h <;> cases h)
  · unfold dMinSL at h
    split at h
    · split at h
      · rename_i x ss hss
        have e := strsOf_eq hss
        subst e
        cases r with
        | cons r1 r2 =>
          cases r2
          generalize ed : PyData.list ((x :: ss).map PyData.str) = q at r1
          cases r1 with
          | lst h1 l1 =>
            cases ed
            exact ⟨_, x, ss, rfl, (Rep.lst (o := false) h1 l1).dp (by simp only [flat]; exact flatL_strs (x :: ss)), fresh_imm (fun _ _ _ => .str _) h⟩
          | _ => cases ed
      · exact h.elim
    · exact h.elim
/-- all that min does here -/
def dMin (ds : List D) : R D := match ds with
  | [.int i, .int j] => dMin2 [.int i, .int j]
  | [.str a, .str b] => dMinS2 [.str a, .str b]
  | ds => dMinSL ds
theorem call_dMin (hc : X.calm = true) (hu : X.A.units + 64 < cLine) : CallD X (.builtin "min") dMin := by
  obtain ⟨r1, c1, x1, q1⟩ := call_dMin2 (X := X) hc
  obtain ⟨r2, c2, x2, q2⟩ := call_dMinS2 hc hu
  obtain ⟨r3, c3, x3, q3⟩ := call_dMinSL hc hu
  refine ⟨_, Dg.CallR.or2 c1 (Dg.CallR.or2 c2 c3), fun xs z h => ?_, fun H xs ds A Q r h => ?_⟩
  · unfold dMin at h
    split at h
    · exact x1 _ _ h
    · exact x2 _ _ h
    · exact x3 _ _ h
  · unfold dMin at h
    split at h
    · exact .inl (q1 H xs _ A Q r h)
    · exact .inr (.inl (q2 H xs _ A Q r h))
    · exact .inr (.inr (q3 H xs _ A Q r h))
/-! ### xs.insert(i, y) of lists without changeable parts -/
def gInsert (xs ds : List D) : Option D := match ds with
  | [.int i, d] => if (immL xs && imm d) = true ∧ xs.length < sizeLine ∧ big62 i = true ∧ 0 ≤ i then some (.list (xs.take i.toNat ++ [d] ++ xs.drop i.toNat)) else none
  | _ => none
theorem nil_of {B : List Addr} (q : ∀ a ∈ B, a ∈ ([] : List Addr)) : B = [] := by
  cases B with
  | nil => rfl
  | cons b r => cases q b List.mem_cons_self
theorem mu_insert : MutO X "list.insert" gInsert := by
  refine ⟨_, mt_insert, fun H a vs xs A ws ds B Q h1 l1 rB nd d hg z => ?_⟩
  unfold gInsert at hg
  split at hg
  · rename_i i dd
    split at hg
    · rename_i hc
      cases hg
      rw [Bool.and_eq_true] at hc
      obtain ⟨rfl, l2⟩ := l1.imm hc.1.1
      cases rB with
      | cons r1 r2 =>
        cases r2 with
        | @cons _ v _ _ _ _ _ r3 r4 =>
          cases r4
          cases r1
          obtain ⟨rfl, r5⟩ := r3.imm hc.1.2
          have hb := big62_of hc.2.2.1
          refine ⟨a, vs, i, v, rfl, rfl, h1, (by rw [l1.len]; exact hc.2.1), hc.2.2.2, by omega, z _ [a] (.lst upd_same ?_) (List.nodup_cons.mpr ⟨List.not_mem_nil, List.nodup_nil⟩) fun z hz => .inl (List.mem_singleton.mp hz)⟩
          obtain ⟨B1, t1, e1⟩ := repL_take i.toNat l2
          obtain ⟨B2, t2, e2⟩ := repL_drop i.toNat l2
          cases nil_of e1
          cases nil_of e2
          have q1 := repL_upd (u := .lst (vs.take i.toNat ++ [v] ++ vs.drop i.toNat)) h1 t1 List.not_mem_nil
          have q2 := repL_upd (u := .lst (vs.take i.toNat ++ [v] ++ vs.drop i.toNat)) h1 t2 List.not_mem_nil
          have q3 := repL_upd (u := .lst (vs.take i.toNat ++ [v] ++ vs.drop i.toNat)) h1 (RepL.one r5) List.not_mem_nil
          exact (q1.app q3).app q2
    · cases hg
  · cases hg
end
end Dg

namespace Dg
open PySem PySem.Spec PyProof.Rows L2
/-! ### and, or, not as values (of truth values) -/
section
variable {X : Cx} {W : WX} {ow : List Nat} {k k1 k2 : Kd} {a b : Expr} {rest : List Expr} {d1 d2 : Env → R D} {pos : Pos}
theorem Good.later {σ : L2.St} {H H1 : Hp} {As : Nat → List Addr} {Q : VK} (s1 : Same H H1) {r : R D} (g : Good X W σ ow k H As r Q) : Good X W σ ow k H1 As r Q := by
  cases r with
  | stk => exact g
  | exc x => exact fun c dd H' A sm r fx => g c dd H' A (s1.trans sm) r fun b hb => s1.free (fx b hb)
  | ok d =>
    intro v H' A sm rp ok
    refine g v H' A (s1.trans sm) rp ?_
    cases k with
    | br ss => exact ok
    | own ms => exact ⟨ok.1, ok.2.1, fun a ha => (ok.2.2 a ha).imp (fun z => s1.free z) id⟩
def andE (f g : Env → R D) : Env → R D := fun ρ => (f ρ).bind fun x => match x with
  | .bool true => g ρ
  | .bool false => .ok (.bool false)
  | _ => .stk
def orE (f g : Env → R D) : Env → R D := fun ρ => (f ρ).bind fun x => match x with
  | .bool true => .ok (.bool true)
  | .bool false => g ρ
  | _ => .stk
def notE (f : Env → R D) : Env → R D := fun ρ => (f ρ).bind fun x => match x with
  | .bool b => .ok (.bool (!b))
  | _ => .stk
theorem de_and1 (h : DE X W ow k a d1) : DE X W ow k (.BoolOp .And [a] pos) d1 := by
  obtain ⟨te, p, q⟩ := h
  exact ⟨_, pe_one p, q⟩
theorem de_or1 (h : DE X W ow k a d1) : DE X W ow k (.BoolOp .Or [a] pos) d1 := by
  obtain ⟨te, p, q⟩ := h
  exact ⟨_, pe_one p, q⟩
theorem de_and (h1 : DE X W ow k1 a d1) (h2 : DE X W ow (.own []) (.BoolOp .And (b :: rest) pos) d2) : DE X W ow (.own []) (.BoolOp .And (a :: b :: rest) pos) (andE d1 d2) := by
  obtain ⟨ta, p1, q1⟩ := h1
  obtain ⟨tb', p2, q2⟩ := h2
  refine ⟨_, pe_and p1 p2, fun σ ρ H As Q S z => q1 σ ρ H As _ S ?_⟩
  unfold andE at z
  cases hd : d1 ρ with
  | stk =>
    rw [hd] at z
    exact z
  | exc x =>
    rw [hd] at z
    exact z
  | ok d =>
    rw [hd, R.bind_ok] at z
    intro x H1 A s1 rx _
    cases d with
    | bool c =>
      cases rx.weak
      cases c with
      | true => exact ⟨true, rfl, iteT (q2 σ ρ H1 As _ (S.same s1) (Good.later s1 z))⟩
      | false => exact ⟨false, rfl, iteF (z (.bl false) H1 [] s1 (.bl false) nil_own)⟩
    | _ => exact z.elim
theorem de_or (h1 : DE X W ow k1 a d1) (h2 : DE X W ow (.own []) (.BoolOp .Or (b :: rest) pos) d2) : DE X W ow (.own []) (.BoolOp .Or (a :: b :: rest) pos) (orE d1 d2) := by
  obtain ⟨ta, p1, q1⟩ := h1
  obtain ⟨tb', p2, q2⟩ := h2
  refine ⟨_, pe_or p1 p2, fun σ ρ H As Q S z => q1 σ ρ H As _ S ?_⟩
  unfold orE at z
  cases hd : d1 ρ with
  | stk =>
    rw [hd] at z
    exact z
  | exc x =>
    rw [hd] at z
    exact z
  | ok d =>
    rw [hd, R.bind_ok] at z
    intro x H1 A s1 rx _
    cases d with
    | bool c =>
      cases rx.weak
      cases c with
      | true => exact ⟨true, rfl, iteT (z (.bl true) H1 [] s1 (.bl true) nil_own)⟩
      | false => exact ⟨false, rfl, iteF (q2 σ ρ H1 As _ (S.same s1) (Good.later s1 z))⟩
    | _ => exact z.elim
theorem de_not (h1 : DE X W ow k1 a d1) : DE X W ow (.own []) (.UnaryOp .Not a pos) (notE d1) := by
  obtain ⟨ta, p1, q1⟩ := h1
  refine ⟨_, pe_not p1, fun σ ρ H As Q S z => q1 σ ρ H As _ S ?_⟩
  unfold notE at z
  cases hd : d1 ρ with
  | stk =>
    rw [hd] at z
    exact z
  | exc x =>
    rw [hd] at z
    exact z
  | ok d =>
    rw [hd, R.bind_ok] at z
    intro x H1 A s1 rx _
    cases d with
    | bool c =>
      cases rx.weak
      exact ⟨c, rfl, z (.bl (!c)) H1 [] s1 (.bl (!c)) nil_own⟩
    | _ => exact z.elim
end
end Dg

namespace Dg
open PySem PySem.Spec PyProof.Rows L2
/-! ### d[k].append(v): an own dict's own list is changed where it stands -/
def setD : List (D × D) → D → D → List (D × D)
  | [], _, _ => []
  | (q, w) :: r, k, v => if keq q k = true then (q, v) :: r else (q, w) :: setD r k v
theorem repP_set {K : PySem.W.Frag} {mg : Str → Option Value} {H : Hp} {k : Key} {d : D} : ∀ {vs : List (Key × V)} {ds : List (D × D)} {A : List Addr}, RepP K mg H true vs ds A → A.Nodup → lookD ds (kD k) = some d →
    ∃ v B, valV vs k = some v ∧ Rep K mg H true v d B ∧ B.Nodup ∧ (∀ a ∈ B, a ∈ A) ∧ ∀ (H' : Hp) (M : Addr → Prop) (d' : D) (B' : List Addr), Fr M H H' → (∀ a ∈ A, M a → a ∈ B) → Rep K mg H' true v d' B' → B'.Nodup → (∀ a ∈ B', a ∈ B ∨ a ∉ A) →
      ∃ A', RepP K mg H' true vs (setD ds (kD k) d') A' ∧ A'.Nodup ∧ ∀ a ∈ A', a ∈ A ∨ a ∈ B'
  | _, _, _, .nil, _, e => by cases e
  | _, _, _, .cons (k := k2) (v := v2) (d := d2) (vs := vs2) (ds := ds2) (A := A1) (B := A2) h r, nd, e => by
    have nd3 := List.nodup_append.mp nd
    unfold lookD at e
    by_cases hk : keq (kD k2) (kD k) = true
    · rw [if_pos hk] at e
      cases e
      have hk2 := kD_inj (keq_iff.mp hk)
      subst hk2
      refine ⟨v2, A1, valV_pos rfl, h, nd3.1, fun a ha => List.mem_append_left _ ha, fun H' M d' B' fr hM r' nB hB => ?_⟩
      unfold setD
      rw [if_pos hk]
      refine ⟨B' ++ A2, .cons r' (r.fr fr fun a ha m => nd3.2.2 a (hM a (List.mem_append_right _ ha) m) a ha rfl), List.nodup_append.mpr ⟨nB, nd3.2.1, fun x hx y hy e => ?_⟩, fun a ha => ?_⟩
      · subst e
        rcases hB x hx with q | q
        · exact nd3.2.2 x q x hy rfl
        · exact q (List.mem_append_right _ hy)
      · rcases List.mem_append.mp ha with q | q
        · exact .inr q
        · exact .inl (List.mem_append_right _ q)
    · rw [if_neg hk] at e
      have hne : ¬ k2 = k := fun z => hk (keq_iff.mpr (by rw [z]))
      obtain ⟨v, B, e1, e2, e3, e4, e5⟩ := repP_set r nd3.2.1 e
      refine ⟨v, B, by rw [valV_neg]; exact e1; exact hne, e2, e3, fun a ha => List.mem_append_right _ (e4 a ha), fun H' M d' B' fr hM r' nB hB => ?_⟩
      obtain ⟨A', q1, q2, q3⟩ := e5 H' M d' B' fr (fun a ha m => hM a (List.mem_append_right _ ha) m) r' nB (fun a ha => (hB a ha).imp id fun z w => z (List.mem_append_right _ w))
      unfold setD
      rw [if_neg hk]
      refine ⟨A1 ++ A', .cons (h.fr fr fun a ha m => nd3.2.2 a ha a (e4 a (hM a (List.mem_append_left _ ha) m)) rfl) q1, List.nodup_append.mpr ⟨nd3.1, q2, fun x hx y hy e => ?_⟩, fun a ha => ?_⟩
      · subst e
        rcases q3 x hy with q | q
        · exact nd3.2.2 x hx x q rfl
        · rcases hB x q with w | w
          · exact nd3.2.2 x hx x (e4 x w) rfl
          · exact w (List.mem_append_left _ hx)
      · rcases List.mem_append.mp ha with q | q
        · exact .inl (List.mem_append_left _ q)
        · exact (q3 a q).imp (fun w => List.mem_append_right _ w) id
def pathS (i : Nat) (ms : List Nat) (dk : Env → R D) (g : List D → List D → Option D) (f : Env → R (List D)) : Env → Out := fun ρ => match ρ[i]? with
  | some (some (.dict kvs)) => (match dk ρ with
    | .ok y => (match (if tagD kvs = false ∧ isKey y = true then lookD kvs y else none) with
      | some (.list xs) => (match f ρ with
        | .ok ds => (match g xs ds with
          | some d => .nx ((kill ms ρ).set i (some (.dict (setD kvs y d))))
          | none => .stk)
        | .exc x => .exc x ρ
        | .stk => .stk)
      | _ => .stk)
    | .exc x => .exc x ρ
    | .stk => .stk)
  | _ => .stk
section
variable {X : Cx} {W : WX} {C : Cfg} {ow ow' ow1 ow2 : List Nat} {k k1 k2 k3 k4 : Kd} {e a b c d o ik tg elt : Expr} {st : Stmt} {sts sts2 : List Stmt} {dk den d1 d2 d3 d4 : Env → R D} {f : Env → R (List D)} {pos p2 spos : Pos}
theorem ds_pathD {i n : Nat} {id : String} {name : Str} {ms : List Nat} {es : List Expr} {apos cpos : Pos} {g : List D → List D → Option D} (hu : X.A.units + 64 < cLine) (slot : Slot "list" name id) (hty : typeOf (.builtin id) = pure (.type "method_descriptor")) (hm : MutO X id g) (hv : PE X o (tVar i)) (hk : DE X W ow k2 ik dk) (hns : NoSl ik) (ha : DA X W ow (.own ms) n (e :: es) f)
    (hi : ow.contains i = true) (him : ms.contains i = false) (how : subL ow' ow = true) (hox : subL C.owx ow = true)
    (hbase : attributeBase (.Subscript o ik spos) name X.env (eval (.Subscript o ik spos) X.env) = eval (.Subscript o ik spos) X.env := by rfl)
    (hfew : ((backTo cpos (starEach (e :: es) X.env)).all (fun x => !x.1) && (backToKw cpos (keywordEach [] X.env)).all (fun x => x.1.isSome)
      && decide ((e :: es).length + ([] : List Keyword).length + (if ([] : List Keyword).isEmpty then 0 else 1) < 30)) = true := by rfl)
    (hline : (apos.endLine == cpos.line) = true := by rfl) (hs : starEach (e :: es) X.env = (false, eval e X.env) :: starEach es X.env := by rfl) (hplain : (backTo cpos (starEach es X.env)).any (·.1) = false := by rfl) (hsw : swapsWith (.Call (.Attribute (.Subscript o ik spos) name apos) (e :: es) [] cpos) none pos.line X.env = pure false := by rfl) :
    DS X W C ow ow' (.Expr (.Call (.Attribute (.Subscript o ik spos) name apos) (e :: es) [] cpos) pos) (pathS i ms dk g f) := by
  obtain ⟨r, hr, hq⟩ := hm
  obtain ⟨ta, pa, qa⟩ := ha
  obtain ⟨ty, py, qy⟩ := hk
  refine ⟨_, ps_expr (pe_bm PySem.F.plainAttrs_list slot hty hr (pe_dget (by omega) hv py hns) pa hbase hfew hline hs hplain) hsw, fun H0 M0 pn σ ρ H As Dn hp S z => ?_⟩
  have hi' := contains_mem.mp hi
  unfold pathS at z
  split at z
  · rename_i kvs hρ
    obtain ⟨w0, hw, rv⟩ := S.rep i _ hρ
    rw [hi] at rv
    generalize eA : As i = Ai at rv
    refine ⟨w0, hw, qy σ ρ H As _ ⟨H0, M0, pn, S⟩ ?_⟩
    cases hdk : dk ρ with
    | stk =>
      rw [hdk] at z
      exact z
    | exc x =>
      rw [hdk] at z
      exact fun c dd H' A sm rp fx => z c dd σ H' As A ((S.same sm).less (subL_mem hox)) rp (S.fx fx)
    | ok dy =>
      rw [hdk] at z
      intro y H1 Ay s1 ry _
      dsimp only at z
      split at z
      · rename_i xs hxs
        split at hxs
        · rename_i hg
          obtain ⟨kk, rfl⟩ := isKey_kD hg.2
          have ey := rep_key ry
          subst ey
          cases rv with
          | dct hh l1 =>
            rename_i a vs A
            have ndA : (a :: A).Nodup := by
              have := S.nd i hi'
              rw [eA] at this
              exact this
            have ndA2 := List.nodup_cons.mp ndA
            have S1 := S.same s1
            obtain ⟨v, B, e1, e2, e3, e4, e5⟩ := repP_set (l1.same s1) ndA2.2 hxs
            have hh1 := s1 _ _ hh
            cases e2 with
            | lst hb lb =>
              rename_i b ws Bx
              refine ⟨a, .ref b, rfl, e1 ▸ DGet.k hh1, .inl ⟨rfl, _, .inl (.inl hb)⟩, qa σ ρ H1 As _ ⟨H0, M0, pn, S1⟩ ?_⟩
              cases hf : f ρ with
              | stk =>
                rw [hf] at z
                exact z
              | exc x =>
                rw [hf] at z
                exact fun c dd H' A sm rp fx => z c dd σ H' As A ((S1.same sm).less (subL_mem hox)) rp (S1.fx fx)
              | ok ds =>
                rw [hf] at z
                intro us H2 Bu s2 rB ok hl
                dsimp only at z
                have S2 := S1.same s2
                have hB : ∀ w ∈ Bu, w ∉ As i := fun w hw hA => by
                  rcases ok.2.2 w hw with q | ⟨j, hj, q⟩
                  · exact S1.old hA q
                  · by_cases e : i = j
                    · subst e
                      rw [contains_mem.mpr hj] at him
                      cases him
                    · exact S.sep j (ok.2.1 j hj) i e w q hA
                have inA : ∀ w ∈ b :: Bx, w ∈ As i := fun w hw => by
                  rw [eA]
                  exact List.mem_cons_of_mem _ (e4 w hw)
                cases hg2 : g xs ds with
                | none =>
                  rw [hg2] at z
                  exact z.elim
                | some d' =>
                  rw [hg2] at z
                  have hb2 := s2 _ _ hb
                  refine hq H2 b ws xs Bx us ds Bu _ hb2 (lb.same s2) rB (nodup_cons_app e3 ok.1 fun w hw => ⟨fun q => hB w hw (inA w (by rw [q]; exact List.mem_cons_self)), fun q => hB w hw (inA w (List.mem_cons_of_mem _ q))⟩) d' hg2 ?_
                  intro vs' A2 r2 n2 h2
                  have fr : Fr (fun x => x = b) H1 (upd H2 b (.lst vs')) := fun x u hx hm => upd_fr (u := .lst vs') (M := fun x => x = b) hb2 rfl rfl x u (s2 x u hx) hm
                  obtain ⟨A', q1, q2, q3⟩ := e5 (upd H2 b (.lst vs')) (fun x => x = b) d' A2 fr (fun x hx m => by rw [m]; exact List.mem_cons_self) r2 n2 (fun x hx => by
                    rcases h2 x hx with q | q | q
                    · exact .inl (by rw [q]; exact List.mem_cons_self)
                    · exact .inl (List.mem_cons_of_mem _ q)
                    · exact .inr fun w => hB x q (by rw [eA]; exact List.mem_cons_of_mem _ w))
                  have hab : a ≠ b := fun q => ndA2.1 (e4 a (by rw [q]; exact List.mem_cons_self))
                  have ha2 : (upd H2 b (.lst vs')) a = some (.dK vs) := by
                    rw [upd_ne hab]
                    exact s2 _ _ hh1
                  have T := Sta.killAll ms S2
                  have nim : i ∉ ms := fun q => by
                    rw [contains_mem.mpr q] at him
                    cases him
                  have ei : (fun j => if j ∈ ms then [] else As j) i = a :: A := by
                    show (if i ∈ ms then [] else As i) = _
                    rw [if_neg nim, eA]
                  have nA' : a ∉ A' := fun q => by
                    rcases q3 a q with q | q
                    · exact ndA2.1 q
                    · rcases h2 a q with q | q | q
                      · exact hab q
                      · exact ndA2.1 (e4 a (List.mem_cons_of_mem _ q))
                      · exact hB a q (by rw [eA]; exact List.mem_cons_self)
                  have bin : b ∈ (fun j => if j ∈ ms then [] else As j) i := by
                    rw [ei]
                    exact List.mem_cons_of_mem _ (e4 b List.mem_cons_self)
                  refine z _ _ _ ((T.mut (i := i) hi' hw (upd_fr hb2 rfl bin) (.dct ha2 q1) (List.nodup_cons.mpr ⟨nA', q2⟩) fun w hw => ?_).less (subL_mem how))
                  have fromU : ∀ w ∈ Bu, (H0 w = none ∨ M0 w) ∧ ∀ j, w ∉ (fun j => if j ∈ ms then [] else As j) j := fun w q => by
                    refine ⟨?_, fun j hj => ?_⟩
                    · rcases ok.2.2 w q with p | ⟨j, hj, p⟩
                      · exact S1.was p
                      · exact S.new j (ok.2.1 j hj) w p
                    · dsimp only at hj
                      split at hj
                      · cases hj
                      · rename_i hjm
                        rcases ok.2.2 w q with p | ⟨l, hl, p⟩
                        · exact S1.old hj p
                        · exact S.sep l (ok.2.1 l hl) j (fun e => hjm (e ▸ hl)) w p hj
                  rcases List.mem_cons.mp hw with q | q
                  · exact .inl (by show w ∈ (fun j => if j ∈ ms then [] else As j) i; rw [ei, q]; exact List.mem_cons_self)
                  rcases q3 w q with q | q
                  · exact .inl (by show w ∈ (fun j => if j ∈ ms then [] else As j) i; rw [ei]; exact List.mem_cons_of_mem _ q)
                  · rcases h2 w q with q | q | q
                    · exact .inl (by rw [q]; exact bin)
                    · exact .inl (by show w ∈ (fun j => if j ∈ ms then [] else As j) i; rw [ei]; exact List.mem_cons_of_mem _ (e4 w (List.mem_cons_of_mem _ q)))
                    · exact .inr (fromU w q)
          | ins h1 h2 l1 =>
            have := hg.1
            cases this
          | exn h1 h2 l1 =>
            have := hg.1
            cases this
        · cases hxs
      · exact z.elim
  · exact z.elim
end
end Dg

namespace Dg
open PySem PySem.Spec PyProof.Rows L2
/-! ### what is never reached; while; a slot lent and taken back -/
def stkS : Env → Out := fun _ => .stk
def wturns (ks : List Nat) (tc : Env → R Bool) (body : Env → Out) : Nat → Env → Out
  | 0, _ => .stk
  | n + 1, ρ => match tc ρ with
    | .ok b => if b = true then (match body ρ with
      | .nx r => wturns ks tc body n (kill ks r)
      | .cnt r => wturns ks tc body n (kill ks r)
      | .brk r => .nx (kill ks r)
      | o => o) else .nx ρ
    | .exc x => .exc x ρ
    | .stk => .stk
open Classical in
noncomputable def whileS (ks : List Nat) (tc : Env → R Bool) (body : Env → Out) : Env → Out := fun ρ => if h : ∃ n, wturns ks tc body n (kill ks ρ) ≠ .stk then wturns ks tc body h.choose (kill ks ρ) else .stk
theorem wturns_mono {ks : List Nat} {tc : Env → R Bool} {body : Env → Out} : ∀ (n m : Nat) (ρ : Env), wturns ks tc body n ρ ≠ .stk → n ≤ m → wturns ks tc body m ρ = wturns ks tc body n ρ
  | 0, _, _, h, _ => absurd rfl h
  | n + 1, 0, _, _, h => absurd h (Nat.not_succ_le_zero n)
  | n + 1, m + 1, ρ, h, hl => by
    have ih := fun r hr => wturns_mono (ks := ks) (tc := tc) (body := body) n m r hr (Nat.le_of_succ_le_succ hl)
    unfold wturns at h ⊢
    cases e : tc ρ with
    | exc x => rfl
    | stk => rfl
    | ok b =>
      rw [e] at h
      dsimp only at h ⊢
      by_cases hb : b = true
      · rw [if_pos hb] at h ⊢
        rw [if_pos hb]
        cases e2 : body ρ with
        | nx r =>
          rw [e2] at h
          exact ih _ h
        | cnt r =>
          rw [e2] at h
          exact ih _ h
        | _ => rfl
      · rw [if_neg hb, if_neg hb]
theorem whileS_of {ks : List Nat} {tc : Env → R Bool} {body : Env → Out} {n : Nat} {ρ : Env} {o : Out} (h : wturns ks tc body n (kill ks ρ) = o) (ho : o ≠ .stk) : whileS ks tc body ρ = o := by
  have hx : ∃ n, wturns ks tc body n (kill ks ρ) ≠ .stk := ⟨n, by rw [h]; exact ho⟩
  unfold whileS
  rw [dif_pos hx]
  have h2 := hx.choose_spec
  rcases Nat.le_total n hx.choose with l | l
  · rw [← h]
    exact wturns_mono n _ _ (by rw [h]; exact ho) l
  · rw [← h]
    exact (wturns_mono _ n _ h2 l).symm
section
variable {X : Cx} {W : WX} {C : Cfg} {ow ow' ow1 ow2 : List Nat} {k k1 k2 k3 : Kd} {e a b c tg : Expr} {st : Stmt} {sts sts2 : List Stmt} {den d1 d2 : Env → R D} {f g : Env → Out} {pos p2 : Pos}
theorem ds_stk (h : ∃ ts, PS X st ts) : DS X W C ow ow' st stkS := by
  obtain ⟨ts, p⟩ := h
  exact ⟨ts, p, fun H0 M0 pn σ ρ H As Dn hp S z => z.elim⟩
theorem ps_false : PS X st (fun _ _ _ => False) := ⟨fun pins s σ H D I h => h.elim⟩
theorem ds_never : DS X W C ow ow' st stkS := ds_stk ⟨_, ps_false⟩
theorem ds_while {tc : Env → R Bool} {ks owl : List Nat} (hp : PassesOwn (model X.prog X.w) X.A X.env X.xe) (ht : DT X W owl c tc) (hb : DSs X W { C with owl := owl } owl owl sts f) (h1 : subL owl ow = true) (h5 : subL ow' owl = true) (h6 : subL C.owx owl = true) : DS X W C ow ow' (.While c sts [] pos) (whileS ks tc f) := by
  obtain ⟨tt, pt, qt⟩ := ht
  obtain ⟨tb, pb, qb⟩ := hb
  refine ⟨_, ps_while hp pt pb, fun H0 M0 pn σ ρ H As Dn hp S z => ?_⟩
  unfold whileS at z
  split at z
  · rename_i hx
    generalize hx.choose = n at z
    obtain ⟨Ak, Sk, _, _⟩ := Sta.kills ks (S.less (subL_mem h1))
    refine ⟨fun m σ' H' => ∃ ρ' As', Sta X.K X.mg H0 M0 pn owl σ' ρ' H' As' ∧ Post X W C H0 M0 pn ow' Dn (wturns ks tc f m ρ'), ⟨n, _, _, Sk, z⟩, fun m σ' H' hW => ?_⟩
    obtain ⟨ρ', As', T, zz⟩ := hW
    cases m with
    | zero => exact zz.elim
    | succ m =>
      refine qt σ' ρ' H' As' _ ⟨_, _, _, T⟩ ?_
      unfold wturns at zz
      cases e : tc ρ' with
      | stk =>
        rw [e] at zz
        exact zz
      | exc x =>
        rw [e] at zz
        exact fun c dd H1 A sm rp fx => zz c dd σ' H1 As' A ((T.same sm).less (subL_mem h6)) rp (T.fx fx)
      | ok b =>
        rw [e] at zz
        intro H1 sm
        cases b with
        | false =>
          dsimp only at zz
          rw [if_neg Bool.false_ne_true] at zz ⊢
          exact zz σ' H1 As' ((T.same sm).less (subL_mem h5))
        | true =>
          dsimp only at zz
          rw [if_pos rfl] at zz ⊢
          refine ⟨fun σ2 H2 => ∃ ρ2 As2, Sta X.K X.mg H0 M0 pn owl σ2 ρ2 H2 As2 ∧ Post X W C H0 M0 pn ow' Dn (wturns ks tc f m ρ2), fun σ2 H2 h => ⟨m, Nat.lt_succ_self m, h⟩, qb H0 M0 pn σ' ρ' H1 As' _ hp (T.same sm) ?_⟩
          cases hf : f ρ' with
          | nx r =>
            rw [hf] at zz
            intro σ4 H4 As4 T4
            obtain ⟨As5, T5, _, _⟩ := Sta.kills ks T4
            exact ⟨_, As5, T5, zz⟩
          | cnt r =>
            rw [hf] at zz
            intro σ4 H4 As4 T4
            obtain ⟨As5, T5, _, _⟩ := Sta.kills ks T4
            exact ⟨_, As5, T5, zz⟩
          | brk r =>
            rw [hf] at zz
            intro σ4 H4 As4 T4
            obtain ⟨As5, T5, _, _⟩ := Sta.kills ks T4
            exact zz σ4 H4 As5 (T5.less (subL_mem h5))
          | ret d r =>
            rw [hf] at zz
            exact zz
          | exc x r =>
            rw [hf] at zz
            exact zz
          | stk =>
            rw [hf] at zz
            exact zz
  · exact z.elim
end
end Dg
namespace Dg
open PySem PySem.Spec PyProof.Rows L2
/-! ### a slot lent: what a statement walks over comes back as one's own -/
def mixE (ps ow : List Nat) : Nat → Env → Env → Env
  | _, _, [] => []
  | n, ρ, y :: r => (if ps.contains n then ρ.headD none else if ow.contains n then y else none) :: mixE ps ow (n + 1) ρ.tail r
theorem mixE_at (ps ow : List Nat) : ∀ (ρ r : Env) (n j : Nat), (mixE ps ow n ρ r)[j]? = if j < r.length then some (if ps.contains (n + j) then (ρ[j]?).join else if ow.contains (n + j) then (r[j]?).join else none) else none
  | ρ, [], n, j => by simp [mixE]
  | ρ, x :: r, n, 0 => by
    rw [mixE]
    cases ρ <;> simp
  | ρ, x :: r, n, j + 1 => by
    rw [mixE, List.getElem?_cons_succ, mixE_at ps ow ρ.tail r (n + 1) j]
    have e : n + 1 + j = n + (j + 1) := by omega
    rw [e]
    have e2 : ρ.tail[j]? = ρ[j + 1]? := by cases ρ <;> simp
    simp [e2]
theorem mixE_len (ps ow : List Nat) : ∀ (ρ r : Env) (n : Nat), (mixE ps ow n ρ r).length = r.length
  | ρ, [], n => rfl
  | ρ, x :: r, n => by rw [mixE, List.length_cons, List.length_cons, mixE_len ps ow ρ.tail r (n + 1)]
def lendS (ps ow : List Nat) (f : Env → Out) : Env → Out := fun ρ => match f ρ with
  | .nx r => .nx (mixE ps ow 0 ρ r)
  | o => o
section
variable {K : PySem.W.Frag} {mg : Str → Option Value} {H0 : Hp} {M0 : Addr → Prop} {pn pn' : Nat → Option V} {ow ow' : List Nat} {σ : L2.St} {ρ : Env} {H H' : Hp} {As : Nat → List Addr}
theorem Sta.repin (S : Sta K mg H0 M0 pn' ow σ ρ H As) (h : ∀ j v, pn j = some v → pn' j = some v) : Sta K mg H0 M0 pn ow σ ρ H As :=
  ⟨S.fr, S.rep, S.dead, S.nd, S.new, S.sep, S.len, fun j v e => S.pin j v (h j v e)⟩
theorem Sta.withPin (S : Sta K mg H0 M0 pn ow σ ρ H As) (h : ∀ j v, pn' j = some v → σ[j]? = some (some v)) : Sta K mg H0 M0 pn' ow σ ρ H As :=
  ⟨S.fr, S.rep, S.dead, S.nd, S.new, S.sep, S.len, h⟩
end
section
variable {X : Cx} {W : WX} {C : Cfg} {ow ow' owi ow1 ow2 : List Nat} {k k1 k2 k3 : Kd} {e a b c tg : Expr} {st : Stmt} {sts sts2 : List Stmt} {den d1 d2 : Env → R D} {f g : Env → Out} {pos p2 : Pos}
theorem join_some {α : Type} {x : Option (Option α)} {v : α} (h : x.join = some v) : x = some (some v) := by
  cases x with
  | none => cases h
  | some y =>
    cases y with
    | none => cases h
    | some z =>
      cases h
      rfl
theorem ds_lend {i : Nat} {ps : List Nat} (h : DS X W { C with pl := ps ++ C.pl } owi ow1 st f) (hsub : subL owi ow = true) (hi : ow.contains i = true) (hip : ps.contains i = true) (hpo : disL ps owi = true) (hp1 : disL ps ow1 = true) (how : subL ow' (i :: ow1) = true) : DS X W C ow ow' st (lendS ps ow1 f) := by
  obtain ⟨ts, p, q⟩ := h
  refine ⟨ts, p, fun H0 M0 pn σ ρ H As Dn hp S z => ?_⟩
  have S1 := S.less (subL_mem hsub)
  have hi' := contains_mem.mp hi
  have hip' := contains_mem.mp hip
  have nps : ∀ j ∈ ps, j ∉ owi := disL_mem hpo
  have nps1 : ∀ j ∈ ps, j ∉ ow1 := disL_mem hp1
  -- the pins
  generalize epn : (fun j => if j ∈ ps then (σ[j]?).join else pn j) = pn'
  have pnw : ∀ j v, pn j = some v → pn' j = some v := fun j v e => by
    rw [← epn]
    dsimp only
    split
    · rw [S.pin j v e]
      rfl
    · exact e
  have pnS : ∀ j v, pn' j = some v → σ[j]? = some (some v) := fun j v e => by
    rw [← epn] at e
    dsimp only at e
    split at e
    · exact join_some e
    · exact S.pin j v e
  have hp' : PinOk { C with pl := ps ++ C.pl } pn' := fun j hj => by
    have hj1 : j ∉ C.io ++ (ps ++ C.pl) := hj
    rw [← epn]
    dsimp only
    rw [if_neg (fun w => hj1 (List.mem_append_right _ (List.mem_append_left _ w)))]
    exact hp j fun w => hj1 (by
      rcases List.mem_append.mp w with w | w
      · exact List.mem_append_left _ w
      · exact List.mem_append_right _ (List.mem_append_right _ w))
  have T0 := S1.rebase.withPin pnS
  refine q H _ pn' σ ρ H As Dn hp' T0 ?_
  unfold lendS at z
  cases hf : f ρ with
  | stk =>
    rw [hf] at z
    exact z
  | exc x r =>
    rw [hf] at z
    intro c dd σ4 H4 As4 A4 T4 r4 fx
    exact z c dd σ4 H4 As4 A4 (S1.unbase (T4.repin pnw)) r4 fun a ha => ⟨S1.was2 (fx a ha).1, (fx a ha).2⟩
  | ret d r =>
    rw [hf] at z
    intro v σ4 H4 As4 A4 T4 r4 n4
    exact z v σ4 H4 As4 A4 (S1.unbase (T4.repin pnw)) r4 fun e => ⟨(n4 e).1, fun a ha => ⟨S1.was2 ((n4 e).2 a ha).1, ((n4 e).2 a ha).2⟩⟩
  | brk r =>
    rw [hf] at z
    intro σ4 H4 As4 T4
    exact z σ4 H4 As4 (S1.unbase (T4.repin pnw))
  | cnt r =>
    rw [hf] at z
    intro σ4 H4 As4 T4
    exact z σ4 H4 As4 (S1.unbase (T4.repin pnw))
  | nx r =>
    rw [hf] at z
    intro σ4 H4 As4 T4
    -- what is lent stands
    have keep : ∀ j ∈ ps, ∀ a ∈ As j, ¬ ∃ l ∈ owi, a ∈ As l := fun j hj a ha ⟨l, hl, hal⟩ => S1.sep l hl j (fun e => nps j hj (e ▸ hl)) a hal ha
    have iow1 : i ∉ ow1 := nps1 i hip'
    refine z σ4 H4 (fun j => if j ∈ ps then (if j < r.length then As j else []) else if j ∈ ow1 then As4 j else []) (Sta.less (ow := i :: ow1) ?_ (subL_mem how))
    have fr0 : Fr M0 H0 H4 := Fr.base S1 T4.fr
    have hlen : σ4.length = r.length := T4.len
    refine ⟨fr0, fun j d e => ?_, fun j hn => ?_, fun j hj => ?_, fun j hj a ha => ?_, fun j hj l hl a ha hb => ?_, ?_, fun j v e => T4.pin j v (pnw j v e)⟩
    · rw [mixE_at, Nat.zero_add] at e
      split at e
      · rename_i hjl
        by_cases hj : j ∈ ps
        · rw [if_pos (contains_mem.mpr hj)] at e
          have e2 : ρ[j]? = some (some d) := join_some (Option.some.inj e)
          obtain ⟨v, hv, rv⟩ := S.rep j d e2
          refine ⟨v, T4.pin j v (by rw [← epn]; show (if j ∈ ps then (σ[j]?).join else pn j) = _; rw [if_pos hj, hv]; rfl), ?_⟩
          rw [if_pos hj, if_pos hjl]
          have r4 := rv.fr T4.fr (keep j hj)
          refine rep_less r4 fun w => ?_
          rcases List.mem_cons.mp (contains_mem.mp w) with q | q
          · rw [q]
            exact hi
          · exact absurd q (nps1 j hj)
        · rw [if_neg (fun w => hj (contains_mem.mp w))] at e
          by_cases hj1 : j ∈ ow1
          · rw [if_pos (contains_mem.mpr hj1)] at e
            obtain ⟨v, hv, rv⟩ := T4.rep j d (join_some (Option.some.inj e))
            refine ⟨v, hv, ?_⟩
            rw [if_neg hj, if_pos hj1]
            exact rep_less rv fun w => contains_mem.mpr hj1
          · rw [if_neg (fun w => hj1 (contains_mem.mp w))] at e
            cases e
      · cases e
    · by_cases hj : j ∈ ps
      · rw [if_pos hj]
        by_cases hjl : j < r.length
        · rw [if_pos hjl]
          refine S.dead j fun d e => hn d ?_
          rw [mixE_at, Nat.zero_add, if_pos hjl, if_pos (contains_mem.mpr hj), e]
          rfl
        · rw [if_neg hjl]
      · rw [if_neg hj]
        by_cases hj1 : j ∈ ow1
        · rw [if_pos hj1]
          refine T4.dead j fun d e => hn d ?_
          rw [mixE_at, Nat.zero_add, if_pos (List.getElem?_eq_some_iff.mp e).1, if_neg (fun w => hj (contains_mem.mp w)), if_pos (contains_mem.mpr hj1), e]
          rfl
        · rw [if_neg hj1]
    · rcases List.mem_cons.mp hj with hj | hj
      · rw [hj, if_pos hip']
        split
        · exact S.nd i hi'
        · exact List.nodup_nil
      · rw [if_neg (fun w => nps1 j w hj), if_pos hj]
        exact T4.nd j hj
    · rcases List.mem_cons.mp hj with hj | hj
      · rw [hj, if_pos hip'] at ha
        split at ha
        · exact S.new i hi' a ha
        · cases ha
      · rw [if_neg (fun w => nps1 j w hj), if_pos hj] at ha
        exact S1.was2 (T4.new j hj a ha)
    · have older : ∀ l ∈ ps, ∀ a ∈ As l, ∀ j ∈ ow1, a ∉ As4 j := fun l hl a ha j hj hA => by
        rcases T4.new j hj a hA with w | w
        · exact S.old ha w
        · exact keep l hl a ha w
      rcases List.mem_cons.mp hj with hj | hj
      · rw [hj, if_pos hip'] at ha
        split at ha
        · by_cases hlp : l ∈ ps
          · rw [if_pos hlp] at hb
            split at hb
            · exact S.sep i hi' l (fun e => hl (e.trans hj.symm)) a ha hb
            · cases hb
          · rw [if_neg hlp] at hb
            split at hb
            · rename_i hl1
              exact older i hip' a ha l hl1 hb
            · cases hb
        · cases ha
      · rw [if_neg (fun w => nps1 j w hj), if_pos hj] at ha
        by_cases hlp : l ∈ ps
        · rw [if_pos hlp] at hb
          split at hb
          · exact older l hlp a hb j hj ha
          · cases hb
        · rw [if_neg hlp] at hb
          split at hb
          · exact T4.sep j hj l hl a ha hb
          · cases hb
    · rw [mixE_len]
      exact hlen
end
end Dg

namespace Dg
open PySem PySem.Spec PyProof.Rows L2
/-! ### xs.reverse() -/
section
variable {K : PySem.W.Frag} {mg : Str → Option Value} {H : Hp} {o : Bool}
theorem RepL.rev : ∀ {vs : List V} {ds : List D} {A : List Addr}, RepL K mg H o vs ds A → ∃ A', RepL K mg H o vs.reverse ds.reverse A' ∧ A'.Perm A
  | _, _, _, .nil => ⟨[], .nil, .nil⟩
  | _, _, _, .cons (v := v) (d := d) (A := A) (B := B) h r => by
    obtain ⟨A', q, p⟩ := r.rev
    refine ⟨A' ++ A, ?_, ?_⟩
    · rw [List.reverse_cons, List.reverse_cons]
      exact q.app (RepL.one h)
    · exact List.perm_append_comm.trans (p.append_left A)
end
def gReverse (xs ds : List D) : Option D := match ds with
  | [] => some (.list xs.reverse)
  | _ => none
section
variable {X : Cx} {W : WX} {C : Cfg} {ow ow' ow1 ow2 : List Nat} {k k1 k2 k3 k4 : Kd} {e a b c d o ik value tg elt : Expr} {st : Stmt} {sts sts2 : List Stmt} {den d1 d2 d3 d4 dv dk dd : Env → R D} {f : Env → R (List D)} {pos pos' p2 apos cpos spos : Pos}
theorem mu_reverse : MutB X "list.reverse" gReverse := by
  refine ⟨rReverse, mt_reverse, fun H a vs xs A ws ds B Q h1 l1 rB nd d hg z => ?_⟩
  unfold gReverse at hg
  split at hg
  · cases hg
    cases rB
    have nd' := List.nodup_cons.mp nd
    obtain ⟨A', q, p⟩ := (repL_upd (u := .lst vs.reverse) h1 l1 nd'.1).rev
    refine ⟨a, vs, rfl, rfl, h1, z vs.reverse (a :: A') (.lst upd_same q) (List.nodup_cons.mpr ⟨fun w => nd'.1 (p.mem_iff.mp w), (p.nodup_iff).mpr nd'.2⟩) fun w hw => ?_⟩
    rcases List.mem_cons.mp hw with q | q
    · exact .inl q
    · exact .inr (p.mem_iff.mp q)
  · cases hg
theorem ds_mut0 {i : Nat} {id : String} {name : Str} {g : List D → List D → Option D} (slot : Slot "list" name id) (hty : typeOf (.builtin id) = pure (.type "method_descriptor")) (hm : MutB X id g) (hv : PE X o (tVar i))
    (hi : ow.contains i = true) (how : subL ow' ow = true)
    (hbase : attributeBase o name X.env (eval o X.env) = eval o X.env := by rfl)
    (hline : (apos.endLine == cpos.line) = true := by rfl) (hsw : swapsWith (.Call (.Attribute o name apos) [] [] cpos) none pos.line X.env = pure false := by rfl) :
    DS X W C ow ow' (.Expr (.Call (.Attribute o name apos) [] [] cpos) pos) (mutS i [] g nilL) := by
  obtain ⟨r, hr, hq⟩ := hm
  refine ⟨_, ps_expr (pe_bm0 PySem.F.plainAttrs_list slot hty hr hv hbase hline) hsw, fun H0 M0 pn σ ρ H As Dn hp S z => ?_⟩
  have hi' := contains_mem.mp hi
  unfold mutS at z
  split at z
  · rename_i xs hρ
    obtain ⟨v, hv, rv⟩ := S.rep i _ hρ
    rw [hi] at rv
    generalize eA : As i = Ai at rv
    cases rv with
    | lst h1 l1 =>
      rename_i a vs A
      refine ⟨.ref a, hv, .inl ⟨rfl, _, .inl (.inl h1)⟩, ?_⟩
      have z : Post X W C H0 M0 pn ow' Dn (match g xs [] with
        | some d => .nx (ρ.set i (some d))
        | none => .stk) := z
      have ndA : (a :: A).Nodup := by
        have := S.nd i hi'
        rw [eA] at this
        exact this
      cases hg : g xs [] with
      | none =>
        rw [hg] at z
        exact z.elim
      | some d' =>
        rw [hg] at z
        refine hq H a vs xs A [] [] [] _ h1 l1 .nil ndA d' hg ?_
        intro vs' A2 r2 n2 h2
        refine z _ _ _ ((S.mut (i := i) hi' hv (upd_fr h1 rfl (by show a ∈ As i; rw [eA]; exact List.mem_cons_self)) r2 n2 fun w hw => .inl ?_).less (subL_mem how))
        rw [eA]
        rcases h2 w hw with q | q
        · rw [q]
          exact List.mem_cons_self
        · exact List.mem_cons_of_mem _ q
  · exact z.elim
/-! ### d.get(k, z) -/
def getE (f g h : Env → R D) : Env → R D := fun ρ => (f ρ).bind fun x => match x with
  | .dict kvs => if tagD kvs = false then (g ρ).bind fun y => (h ρ).bind fun z => if isKey y = true then .ok ((lookD kvs y).getD z) else .stk else .stk
  | _ => .stk
theorem lookD_none {K : PySem.W.Frag} {mg : Str → Option Value} {H : Hp} {o : Bool} {kk : Key} : ∀ {vs : List (Key × V)} {ds : List (D × D)} {A : List Addr}, RepP K mg H o vs ds A → lookD ds (kD kk) = none → valV vs kk = none
  | _, _, _, .nil, _ => rfl
  | _, _, _, .cons (k := k2) h r, e => by
    unfold lookD at e
    split at e
    · cases e
    · rename_i hk
      rw [valV_neg]
      · exact lookD_none r e
      · exact fun z => hk (keq_iff.mpr (congrArg kD (Eq.symm z)))
theorem rep_dictN {K : PySem.W.Frag} {mg : Str → Option Value} {H : Hp} {o : Bool} {v : V} {kvs : List (D × D)} {A : List Addr} (r : Rep K mg H o v (.dict kvs) A) (ht : tagD kvs = false) : ∃ a vs A', v = .ref a ∧ RepP K mg H o vs kvs A' ∧ (∀ b ∈ A', b ∈ A) ∧ (H a = some (.dK vs) ∧ A = a :: A' ∨ ∃ u, H a = some (.frz u (.dK vs))) := by
  generalize ed : PyData.dict kvs = q at r
  cases r with
  | lstF h1 l1 =>
    injection ed with e1
    subst e1
    cases ht
  | dct h1 l1 =>
    injection ed with e1
    subst e1
    exact ⟨_, _, _, rfl, l1, fun b hb => List.mem_cons_of_mem _ hb, .inl ⟨h1, rfl⟩⟩
  | dctF h1 l1 =>
    injection ed with e1
    subst e1
    exact ⟨_, _, _, rfl, l1, fun b hb => hb, .inr ⟨_, h1⟩⟩
  | ins h1 h2 l1 =>
    injection ed with e1
    subst e1
    cases ht
  | exn h1 h2 l1 =>
    injection ed with e1
    subst e1
    cases ht
  | _ => cases ed
theorem de_get (hu : X.A.units + 64 < cLine) (h1 : DE X W ow k1 a d1) (h2 : DE X W ow k2 b d2) (h3 : DE X W ow k3 c d3) (m : M2 X a "get" apos b c cpos := by exact ⟨rfl, rfl, rfl, rfl⟩) : DE X W ow (.br (k1.src ++ k3.src)) (.Call (.Attribute a "get" apos) [b, c] [] cpos) (getE d1 d2 d3) := by
  obtain ⟨ta, p1, q1⟩ := h1
  obtain ⟨tb, p2, q2⟩ := h2
  obtain ⟨tc, p3, q3⟩ := h3
  refine ⟨_, pe_dget2 (by omega) p1 p2 p3 m, fun σ ρ H As Q S q => q1 σ ρ H As _ S ?_⟩
  unfold getE at q
  cases e1 : d1 ρ with
  | stk =>
    rw [e1] at q
    exact q
  | exc x =>
    rw [e1] at q
    exact q
  | ok dx =>
    rw [e1, R.bind_ok] at q
    intro v H1 A s1 r1 ok1
    split at q
    · rename_i kvs
      split at q
      · rename_i ht
        obtain ⟨p, vs, A', rfl, l1, hA, hp⟩ := rep_dictN r1.weak ht
        have rd : ∀ {H2 : Hp}, Same H1 H2 → Rd H2 p (.dK vs) := fun s2 => by
          rcases hp with ⟨w, _⟩ | ⟨u, w⟩
          · exact .inl (s2 _ _ w)
          · exact .inr ⟨u, s2 _ _ w⟩
        refine ⟨p, rfl, .inl ⟨vs, rd (Same.refl _)⟩, q2 σ ρ H1 As _ (S.same s1) ?_⟩
        cases e2 : d2 ρ with
        | stk =>
          rw [e2] at q
          exact q.elim
        | exc x =>
          rw [e2] at q
          exact fun c dd H' B sm rp fx => q c dd H' B (s1.trans sm) rp fun b hb => s1.free (fx b hb)
        | ok dy =>
          rw [e2, R.bind_ok] at q
          intro u H2 B s2 r2 ok2
          have s12 := s1.trans s2
          refine q3 σ ρ H2 As _ (S.same s12) ?_
          cases e3 : d3 ρ with
          | stk =>
            rw [e3] at q
            exact q.elim
          | exc x =>
            rw [e3] at q
            exact fun c dd H' B sm rp fx => q c dd H' B (s12.trans sm) rp fun b hb => s12.free (fx b hb)
          | ok dz =>
            rw [e3, R.bind_ok] at q
            intro z H3 B3 s3 r3 ok3
            split at q
            · rename_i hk
              obtain ⟨kk, rfl⟩ := isKey_kD hk
              have ey := rep_key r2
              subst ey
              refine ⟨valV vs kk, .inl ⟨vs, kk, rd (s2.trans s3), rfl, rfl⟩, ?_⟩
              cases el : lookD kvs (kD kk) with
              | none =>
                rw [el] at q
                rw [lookD_none l1 el]
                have o3 := Kd.brOk (S.same s12) ok3
                exact q z H3 B3 (s12.trans s3) r3.weak fun j hj hn a ha hb => o3 j hj (fun w => hn (List.mem_append_right _ w)) a ha hb
              | some d =>
                rw [el] at q
                obtain ⟨k', v', C, e4, e5, e6, e7⟩ := lookD_key l1 el
                have := kD_inj e4.symm
                subst this
                rw [e5]
                exact q v' H3 C (s12.trans s3) ((e6.same s2).same s3) (Kd.sub (Kd.brOk S ok1) (fun i hi => List.mem_append_left _ hi) fun a ha => hA a (e7 a ha))
            · exact q.elim
      · exact q.elim
    · exact q.elim
/-! ### d.setdefault(k, z).append(v) -/
def sdfS (i : Nat) (ms : List Nat) (dk dd : Env → R D) (g : List D → List D → Option D) (f : Env → R (List D)) : Env → Out := fun ρ => match ρ[i]? with
  | some (some (.dict kvs)) => if tagD kvs = false then (match dk ρ with
    | .ok y => (match dd ρ with
      | .ok z => if isKey y = true ∧ kvs.length < sizeLine then (match lookD kvs y with
        | some _ => pathS i ms (fun _ => .ok y) g f ρ
        | none => (match putD kvs y z with
          | some es => pathS i ms (fun _ => .ok y) g f (ρ.set i (some (.dict es)))
          | none => .stk)) else .stk
      | .exc x => .exc x ρ
      | .stk => .stk)
    | .exc x => .exc x ρ
    | .stk => .stk) else .stk
  | _ => .stk
theorem path_core {i n : Nat} {ms : List Nat} {g : List D → List D → Option D} {ta : TA} {r : V → List V → Hp → VK → Prop} {kk : Key} (qa : ∀ σ ρ H As Q, On X ow σ ρ H As → GoodL X W σ ow (.own ms) n H As (f ρ) Q → ta σ H Q)
    (hq : ∀ H a vs xs A ws ds B Q, H a = some (.lst vs) → RepL X.K X.mg H true vs xs A → RepL X.K X.mg H true ws ds B → (a :: (A ++ B)).Nodup → ∀ d, g xs ds = some d → (∀ vs' A2, Rep X.K X.mg (upd H a (.lst vs')) true (.ref a) d A2 → A2.Nodup → (∀ z ∈ A2, z = a ∨ z ∈ A ∨ z ∈ B) → Q .non (upd H a (.lst vs'))) → r (.ref a) ws H Q)
    (hi : ow.contains i = true) (him : ms.contains i = false) (how : subL ow' ow = true) (hox : subL C.owx ow = true)
    {H0 : Hp} {M0 : Addr → Prop} {pn : Nat → Option V} {σ : L2.St} {ρ : Env} {H1 : Hp} {As : Nat → List Addr} {Dn : Ends} {kvs : List (D × D)} {a : Addr} {vs : List (Key × V)} {A : List Addr} (S1 : Sta X.K X.mg H0 M0 pn ow σ ρ H1 As) (hρ : ρ[i]? = some (some (.dict kvs))) (hw : σ[i]? = some (some (.ref a))) (eA : As i = a :: A) (hh1 : H1 a = some (.dK vs)) (l1 : RepP X.K X.mg H1 true vs kvs A)
    (z : Post X W C H0 M0 pn ow' Dn (pathS i ms (fun _ => .ok (kD kk)) g f ρ)) : ∃ v, valV vs kk = some v ∧ tyV X.K "list" v H1 ∧ ta σ H1 fun us H2 => r v us H2 fun _ H3 => Dn.nx σ H3 := by
  have hi' := contains_mem.mp hi
  unfold pathS at z
  rw [hρ] at z
  dsimp only at z
  have ndA : (a :: A).Nodup := by
    have := S1.nd i hi'
    rw [eA] at this
    exact this
  have ndA2 := List.nodup_cons.mp ndA
  split at z
  · rename_i xs hxs
    split at hxs
    · rename_i hg
      obtain ⟨v, B, e1, e2, e3, e4, e5⟩ := repP_set l1 ndA2.2 hxs
      cases e2 with
      | lst hb lb =>
        rename_i b ws Bx
        refine ⟨.ref b, e1, .inl ⟨rfl, _, .inl (.inl hb)⟩, qa σ ρ H1 As _ ⟨H0, M0, pn, S1⟩ ?_⟩
        cases hf : f ρ with
        | stk =>
          rw [hf] at z
          exact z
        | exc x =>
          rw [hf] at z
          exact fun c dd H' A sm rp fx => z c dd σ H' As A ((S1.same sm).less (subL_mem hox)) rp (S1.fx fx)
        | ok ds =>
          rw [hf] at z
          intro us H2 Bu s2 rB ok hl
          dsimp only at z
          have S2 := S1.same s2
          have hB : ∀ w ∈ Bu, w ∉ As i := fun w hw hA => by
            rcases ok.2.2 w hw with q | ⟨j, hj, q⟩
            · exact S1.old hA q
            · by_cases e : i = j
              · subst e
                rw [contains_mem.mpr hj] at him
                cases him
              · exact S1.sep j (ok.2.1 j hj) i e w q hA
          have inA : ∀ w ∈ b :: Bx, w ∈ As i := fun w hw => by
            rw [eA]
            exact List.mem_cons_of_mem _ (e4 w hw)
          cases hg2 : g xs ds with
          | none =>
            rw [hg2] at z
            exact z.elim
          | some d' =>
            rw [hg2] at z
            have hb2 := s2 _ _ hb
            refine hq H2 b ws xs Bx us ds Bu _ hb2 (lb.same s2) rB (nodup_cons_app e3 ok.1 fun w hw => ⟨fun q => hB w hw (inA w (by rw [q]; exact List.mem_cons_self)), fun q => hB w hw (inA w (List.mem_cons_of_mem _ q))⟩) d' hg2 ?_
            intro vs' A2 r2 n2 h2
            have fr : Fr (fun x => x = b) H1 (upd H2 b (.lst vs')) := fun x u hx hm => upd_fr (u := .lst vs') (M := fun x => x = b) hb2 rfl rfl x u (s2 x u hx) hm
            obtain ⟨A', q1, q2, q3⟩ := e5 (upd H2 b (.lst vs')) (fun x => x = b) d' A2 fr (fun x hx m => by rw [m]; exact List.mem_cons_self) r2 n2 (fun x hx => by
              rcases h2 x hx with q | q | q
              · exact .inl (by rw [q]; exact List.mem_cons_self)
              · exact .inl (List.mem_cons_of_mem _ q)
              · exact .inr fun w => hB x q (by rw [eA]; exact List.mem_cons_of_mem _ w))
            have hab : a ≠ b := fun q => ndA2.1 (e4 a (by rw [q]; exact List.mem_cons_self))
            have ha2 : (upd H2 b (.lst vs')) a = some (.dK vs) := by
              rw [upd_ne hab]
              exact s2 _ _ hh1
            have T := Sta.killAll ms S2
            have nim : i ∉ ms := fun q => by
              rw [contains_mem.mpr q] at him
              cases him
            have ei : (fun j => if j ∈ ms then [] else As j) i = a :: A := by
              show (if i ∈ ms then [] else As i) = _
              rw [if_neg nim, eA]
            have nA' : a ∉ A' := fun q => by
              rcases q3 a q with q | q
              · exact ndA2.1 q
              · rcases h2 a q with q | q | q
                · exact hab q
                · exact ndA2.1 (e4 a (List.mem_cons_of_mem _ q))
                · exact hB a q (by rw [eA]; exact List.mem_cons_self)
            have bin : b ∈ (fun j => if j ∈ ms then [] else As j) i := by
              rw [ei]
              exact List.mem_cons_of_mem _ (e4 b List.mem_cons_self)
            refine z _ _ _ ((T.mut (i := i) hi' hw (upd_fr hb2 rfl bin) (.dct ha2 q1) (List.nodup_cons.mpr ⟨nA', q2⟩) fun w hw => ?_).less (subL_mem how))
            have fromU : ∀ w ∈ Bu, (H0 w = none ∨ M0 w) ∧ ∀ j, w ∉ (fun j => if j ∈ ms then [] else As j) j := fun w q => by
              refine ⟨?_, fun j hj => ?_⟩
              · rcases ok.2.2 w q with p | ⟨j, hj, p⟩
                · exact S1.was p
                · exact S1.new j (ok.2.1 j hj) w p
              · dsimp only at hj
                split at hj
                · cases hj
                · rename_i hjm
                  rcases ok.2.2 w q with p | ⟨l, hl, p⟩
                  · exact S1.old hj p
                  · exact S1.sep l (ok.2.1 l hl) j (fun e => hjm (e ▸ hl)) w p hj
            rcases List.mem_cons.mp hw with q | q
            · exact .inl (by show w ∈ (fun j => if j ∈ ms then [] else As j) i; rw [ei, q]; exact List.mem_cons_self)
            rcases q3 w q with q | q
            · exact .inl (by show w ∈ (fun j => if j ∈ ms then [] else As j) i; rw [ei]; exact List.mem_cons_of_mem _ q)
            · rcases h2 w q with q | q | q
              · exact .inl (by rw [q]; exact bin)
              · exact .inl (by show w ∈ (fun j => if j ∈ ms then [] else As j) i; rw [ei]; exact List.mem_cons_of_mem _ (e4 w (List.mem_cons_of_mem _ q)))
              · exact .inr (fromU w q)
    · cases hxs
  · exact z.elim
theorem ds_setapp {i n : Nat} {id : String} {name : Str} {ms : List Nat} {es : List Expr} {sap scp : Pos} {g : List D → List D → Option D} (slot : Slot "list" name id) (hty : typeOf (.builtin id) = pure (.type "method_descriptor")) (hm : MutO X id g) (hv : PE X o (tVar i)) (hk : DE X W ow k2 ik dk) (hd : DE X W ow (.own []) value dd) (ha : DA X W ow (.own ms) n (e :: es) f)
    (hi : ow.contains i = true) (him : ms.contains i = false) (how : subL ow' ow = true) (hox : subL C.owx ow = true)
    (m : M2 X o "setdefault" sap ik value scp := by exact ⟨rfl, rfl, rfl, rfl⟩)
    (hbase : attributeBase (.Call (.Attribute o "setdefault" sap) [ik, value] [] scp) name X.env (eval (.Call (.Attribute o "setdefault" sap) [ik, value] [] scp) X.env) = eval (.Call (.Attribute o "setdefault" sap) [ik, value] [] scp) X.env := by rfl)
    (hfew : ((backTo cpos (starEach (e :: es) X.env)).all (fun x => !x.1) && (backToKw cpos (keywordEach [] X.env)).all (fun x => x.1.isSome)
      && decide ((e :: es).length + ([] : List Keyword).length + (if ([] : List Keyword).isEmpty then 0 else 1) < 30)) = true := by rfl)
    (hline : (apos.endLine == cpos.line) = true := by rfl) (hs : starEach (e :: es) X.env = (false, eval e X.env) :: starEach es X.env := by rfl) (hplain : (backTo cpos (starEach es X.env)).any (·.1) = false := by rfl) (hsw : swapsWith (.Call (.Attribute (.Call (.Attribute o "setdefault" sap) [ik, value] [] scp) name apos) (e :: es) [] cpos) none pos.line X.env = pure false := by rfl) :
    DS X W C ow ow' (.Expr (.Call (.Attribute (.Call (.Attribute o "setdefault" sap) [ik, value] [] scp) name apos) (e :: es) [] cpos) pos) (sdfS i ms dk dd g f) := by
  obtain ⟨r, hr, hq⟩ := hm
  obtain ⟨ta, pa, qa⟩ := ha
  obtain ⟨ty, py, qy⟩ := hk
  obtain ⟨tx, px, qx⟩ := hd
  refine ⟨_, ps_expr (pe_bm PySem.F.plainAttrs_list slot hty hr (pe_dsetd hv py px m) pa hbase hfew hline hs hplain) hsw, fun H0 M0 pn σ ρ H As Dn hp S z => ?_⟩
  have hi' := contains_mem.mp hi
  unfold sdfS at z
  split at z
  · rename_i kvs hρ
    split at z
    · rename_i ht
      obtain ⟨w0, hw, rv⟩ := S.rep i _ hρ
      rw [hi] at rv
      generalize eA : As i = Ai at rv
      generalize ed : PyData.dict kvs = q at rv
      cases rv with
      | dct hh l1 =>
        injection ed with e1
        subst e1
        rename_i a vs A
        refine ⟨.ref a, hw, a, rfl, .inl ⟨vs, .inl hh⟩, qy σ ρ H As _ ⟨H0, M0, pn, S⟩ ?_⟩
        cases hdk : dk ρ with
        | stk =>
          rw [hdk] at z
          exact z
        | exc x =>
          rw [hdk] at z
          exact fun c dd H' A sm rp fx => z c dd σ H' As A ((S.same sm).less (subL_mem hox)) rp (S.fx fx)
        | ok dy =>
          rw [hdk] at z
          intro y H1 Ay s1 ry _
          dsimp only at z
          refine qx σ ρ H1 As _ ⟨H0, M0, pn, S.same s1⟩ ?_
          cases hdd : dd ρ with
          | stk =>
            rw [hdd] at z
            exact z
          | exc x =>
            rw [hdd] at z
            exact fun c dd H' A sm rp fx => z c dd σ H' As A (((S.same s1).same sm).less (subL_mem hox)) rp ((S.same s1).fx fx)
          | ok dz =>
            rw [hdd] at z
            intro zv H2 B s2 rz okz
            dsimp only at z
            split at z
            · rename_i hg
              obtain ⟨kk, rfl⟩ := isKey_kD hg.1
              have ey := rep_key ry
              subst ey
              have S2 := (S.same s1).same s2
              have hh2 := s2 _ _ (s1 _ _ hh)
              have l2 := (l1.same s1).same s2
              refine ⟨vs, kk, hh2, rfl, by rw [repP_len l1]; exact hg.2, ?_, ?_⟩
              · intro v ev
                cases el : lookD kvs (kD kk) with
                | none =>
                  rw [lookD_none l1 el] at ev
                  cases ev
                | some d0 =>
                  rw [el] at z
                  obtain ⟨v', e1, e2, e3⟩ := path_core (kk := kk) qa hq hi him how hox S2 hρ hw eA hh2 l2 z
                  rw [e1] at ev
                  cases ev
                  exact ⟨e2, e3⟩
              · intro en
                cases el : lookD kvs (kD kk) with
                | some d0 =>
                  obtain ⟨k', v', C', e4, e5, e6, e7⟩ := lookD_key l1 el
                  have := kD_inj e4.symm
                  subst this
                  rw [e5] at en
                  cases en
                | none =>
                  rw [el] at z
                  dsimp only at z
                  cases ep : putD kvs (kD kk) dz with
                  | none =>
                    rw [ep] at z
                    exact z.elim
                  | some es =>
                    rw [ep] at z
                    dsimp only at z
                    have ndA : (a :: A).Nodup := by
                      have := S.nd i hi'
                      rw [eA] at this
                      exact this
                    have hB : ∀ w ∈ B, w ∉ As i := fun w hw hA => by
                      rcases okz.2.2 w hw with q | ⟨j, hj, q⟩
                      · exact (S.same s1).old hA q
                      · cases hj
                    have nd1 := nodup_cons_app ndA okz.1 fun w hw => ⟨fun q => hB w hw (by rw [eA, q]; exact List.mem_cons_self), fun q => hB w hw (by rw [eA]; exact List.mem_cons_of_mem _ q)⟩
                    have nd2 := List.nodup_cons.mp nd1
                    have lA := repP_upd (u := .dK (putK vs kk zv)) hh2 rfl l2 fun q => nd2.1 (List.mem_append_left _ q)
                    have lB := rz.fr (M := fun b => b = a) (upd_fr (u := .dK (putK vs kk zv)) hh2 rfl rfl) fun b hb e => nd2.1 (List.mem_append_right _ (e ▸ hb))
                    obtain ⟨A', q1, q2, q3⟩ := repP_put lB lA ep nd2.2
                    have nA' : a ∉ A' := fun q => by
                      rcases q3 a q with q | q
                      · exact nd2.1 (List.mem_append_left _ q)
                      · exact nd2.1 (List.mem_append_right _ q)
                    have T := S2.mut (i := i) hi' hw (upd_fr (u := .dK (putK vs kk zv)) hh2 rfl (by show a ∈ As i; rw [eA]; exact List.mem_cons_self)) (.dct upd_same q1) (List.nodup_cons.mpr ⟨nA', q2⟩) fun w hw => by
                      rcases List.mem_cons.mp hw with q | q
                      · exact .inl (by rw [eA, q]; exact List.mem_cons_self)
                      rcases q3 w q with q | q
                      · exact .inl (by rw [eA]; exact List.mem_cons_of_mem _ q)
                      · refine .inr ⟨?_, fun j hj => ?_⟩
                        · rcases okz.2.2 w q with p | ⟨j, hj, p⟩
                          · exact (S.same s1).was p
                          · cases hj
                        · rcases okz.2.2 w q with p | ⟨l, hl, p⟩
                          · exact (S.same s1).old hj p
                          · cases hl
                    have hl : i < ρ.length := (List.getElem?_eq_some_iff.mp hρ).1
                    obtain ⟨v', e1, e2, e3⟩ := path_core (kk := kk) (A := A') qa hq hi him how hox T (List.getElem?_set_self hl) hw (if_pos rfl) upd_same q1 z
                    rw [valV_put, if_pos rfl] at e1
                    cases e1
                    exact ⟨e2, e3⟩
            · exact z.elim
      | ins h1 h2 l1 =>
        injection ed with e1
        subst e1
        cases ht
      | exn h1 h2 l1 =>
        injection ed with e1
        subst e1
        cases ht
      | _ => cases ed
    · exact z.elim
  · exact z.elim
end
end Dg

namespace Dg
open PySem PySem.Spec PyProof.Rows L2
/-! ### sorted -/
def tupNe : D → Bool
  | .tuple (_ :: _) => true
  | _ => false
def notTup : D → Bool
  | .none => false
  | .tuple _ => false
  | _ => true
def sortOk (ds : List D) : Bool := ds.all okD && (ds.all fun d => ds.all fun e => PySem.W.alike d e) && (ds.all tupNe || ds.all notTup) && decide (ds.length ≤ sizeLine)
def leD (a b : D) : Bool := !PySem.W.dataLt b a
def strsD : List (D × D) → Option (List Str)
  | [] => some []
  | (.str x, _) :: r => (strsD r).map (x :: ·)
  | _ :: _ => none
def dSorted (ds : List D) : R D := match ds with
  | [.list xs] => if (immL xs && sortOk xs) = true then .ok (.list (xs.mergeSort leD)) else .stk
  | [.dict kvs] => match strsD kvs with
    | some ks => if ks.length < 64 then .ok (.list ((ks.map PyData.str).mergeSort leD)) else .stk
    | none => .stk
  | _ => .stk
theorem okD_units {d : D} (h : okD d = true) : d.depth ≤ 60 := okD.depth h
section
variable {X : Cx}
def rSortedD (K : PySem.W.Frag) : List V → Hp → VK → Prop := fun vs H Q => ∃ (a : Addr) (bs : List (V × D)), vs = [V.ref a] ∧ SqL K H a (bs.map Prod.fst) ∧ (∀ b ∈ bs, Dp K H b.1 b.2) ∧ sortOk (bs.map Prod.snd) = true ∧
  ∀ p : Addr, H p = none → Q (.ref p) (upd H p (.lst ((bs.mergeSort (PySem.W.dataLe false Prod.snd)).map Prod.fst)))
theorem each_vals : ∀ {bs : List (V × D)} {out : List Value}, PySem.W.EachIs (fun v (b : V × D) => RelV b.1 v) out bs → Vals (bs.map Prod.fst) out
  | _, _, .nil => .nil
  | _, _, .cons h r => .cons h (each_vals r)
theorem vals_each : ∀ {bs : List (V × D)} {out : List Value}, Vals (bs.map Prod.fst) out → PySem.W.EachIs (fun v (b : V × D) => RelV b.1 v) out bs
  | [], _, .nil => .nil
  | _ :: _, _, .cons h r => .cons h (vals_each r)
theorem each_reads {pins : List (Addr × Obj)} {σ : L2.St} {H : Hp} {s : Shared} (I : Inv X pins σ H s) : ∀ {bs : List (V × D)} {out : List Value}, (∀ b ∈ bs, Dp X.K H b.1 b.2) → PySem.W.EachIs (fun v (b : V × D) => RelV b.1 v) out bs → PySem.W.EachIs (fun v (b : V × D) => ∃ as, Reads s.heap v b.2 as) out bs
  | _, _, _, .nil => .nil
  | _, _, h, .cons r l => .cons (Dp.reads I _ _ _ (h _ List.mem_cons_self) r) (each_reads I (fun b hb => h b (List.mem_cons_of_mem _ hb)) l)
theorem sortOk_all {ds : List D} (h : sortOk ds = true) : (∀ d ∈ ds, okD d = true) ∧ PySem.W.AllAlike ds ∧ PySem.W.Sortable ds ∧ ds.length ≤ sizeLine := by
  unfold sortOk at h
  simp only [Bool.and_eq_true, Bool.or_eq_true, List.all_eq_true, decide_eq_true_eq] at h
  obtain ⟨⟨⟨h1, h2⟩, h3⟩, h4⟩ := h
  refine ⟨h1, fun d hd d' hd' => h2 d hd d' hd', ?_, h4⟩
  rcases h3 with h3 | h3
  · refine .inl fun d hd => ?_
    have := h3 d hd
    unfold tupNe at this
    split at this
    · exact ⟨_, _, rfl⟩
    · cases this
  · refine .inr fun d hd => ?_
    have := h3 d hd
    refine ⟨fun e => ?_, fun xs e => ?_⟩
    · rw [e] at this
      cases this
    · rw [e] at this
      cases this
theorem cr_sortedD (hu : X.A.units + 64 < cLine) : CallR X (.builtin "sorted") (rSortedD X.K) := by
  intro pins s σ H vs us Q I r h
  obtain ⟨a, bs, rfl, hs, hD, hok, q⟩ := h
  obtain ⟨h1, h2, h3, h4⟩ := sortOk_all hok
  obtain ⟨its, rv, hl, hz⟩ := I.list hs
  rw [Vals.ref1 r]
  have ev := vals_each rv
  refine PySem.W.sorted_data (R := fun v (b : V × D) => RelV b.1 v) (enc := Prod.snd) hl.isList ev (each_reads I hD ev) h2 h3 (by rw [List.length_map] at h4; exact h4) (fun b hb => ?_) fun out hlen hout => ?_
  · have := okD_units (h1 b.2 (List.mem_map.mpr ⟨b, hb, rfl⟩))
    omega
  · obtain ⟨ep, he'⟩ := PyProof.Rows.sortedAll_at s.heap its out.toArray
    have hv := each_vals hout
    refine ⟨.ref _, upd H (s.heap.objs.size + 1) (.lst ((bs.mergeSort (PySem.W.dataLe false Prod.snd)).map Prod.fst)), I.laid (t' := s.toks) (fun _ _ => PyProof.Rows.sortedAll_old) (Nat.le_succ _) ⟨?_, out, ep, hv, he'⟩, rfl, q _ (I.hok.fresh (Nat.le_succ _))⟩
    rw [List.length_map] at h4
    rw [List.length_map, List.length_mergeSort]
    exact h4
theorem repL_pairs {K : PySem.W.Frag} {mg : Str → Option Value} {H : Hp} : ∀ {bs : List (V × D)}, (∀ b ∈ bs, Rep K mg H true b.1 b.2 []) → RepL K mg H true (bs.map Prod.fst) (bs.map Prod.snd) []
  | [], _ => .nil
  | b :: bs, h => by
    have := RepL.cons (h b List.mem_cons_self) (repL_pairs fun c hc => h c (List.mem_cons_of_mem _ hc))
    exact this
theorem repL_zip {K : PySem.W.Frag} {mg : Str → Option Value} {H : Hp} {o : Bool} : ∀ {vs : List V} {ds : List D} {A : List Addr}, RepL K mg H o vs ds A → (∀ b ∈ vs.zip ds, ∃ B, Rep K mg H o b.1 b.2 B ∧ ∀ a ∈ B, a ∈ A) ∧ (vs.zip ds).map Prod.fst = vs ∧ (vs.zip ds).map Prod.snd = ds
  | _, _, _, .nil => ⟨(fun b hb => by cases hb), rfl, rfl⟩
  | _, _, _, .cons h r => by
    obtain ⟨h1, h2, h3⟩ := repL_zip r
    refine ⟨fun b hb => ?_, by rw [List.zip_cons_cons, List.map_cons, h2], by rw [List.zip_cons_cons, List.map_cons, h3]⟩
    rw [List.zip_cons_cons] at hb
    rcases List.mem_cons.mp hb with e | hb
    · subst e
      exact ⟨_, h, fun a ha => List.mem_append_left _ ha⟩
    · obtain ⟨B, q1, q2⟩ := h1 b hb
      exact ⟨B, q1, fun a ha => List.mem_append_right _ (q2 a ha)⟩
theorem sort_snd (bs : List (V × D)) : (bs.mergeSort (PySem.W.dataLe false Prod.snd)).map Prod.snd = (bs.map Prod.snd).mergeSort leD :=
  List.map_mergeSort fun a _ b _ => rfl
theorem strsD_keys {K : PySem.W.Frag} {mg : Str → Option Value} {H : Hp} {o : Bool} : ∀ {vs : List (Key × V)} {ds : List (D × D)} {A : List Addr} {ks : List Str}, RepP K mg H o vs ds A → strsD ds = some ks → vs.map (·.1) = ks.map Sum.inr
  | _, _, _, _, .nil, e => by
    cases e
    rfl
  | _, _, _, _, .cons (k := k) (ds := ds2) h r, e => by
    cases k with
    | inl i => cases e
    | inr x =>
      have e : (strsD ds2).map (x :: ·) = some _ := e
      cases e2 : strsD ds2 with
      | none =>
        rw [e2] at e
        cases e
      | some k2 =>
        rw [e2] at e
        cases e
        rw [List.map_cons, List.map_cons, strsD_keys r e2]
theorem strsD_tag {ds : List (D × D)} {ks : List Str} (h : strsD ds = some ks) : tagD ds = false := by
  cases ds with
  | nil => rfl
  | cons p r =>
    obtain ⟨a, b⟩ := p
    cases a <;> first | rfl | cases h
/-- two sorted orders of the same texts are one -/
theorem leD_str (a b : Str) : leD (.str a) (.str b) = decide (a.cps.toList ≤ b.cps.toList) := by
  unfold leD
  rw [PySem.W.dataLt_str]
  exact PySem.W.not_lt_str _ _
theorem leStr_trans (a b c : Str) (h1 : decide (a.cps.toList ≤ b.cps.toList) = true) (h2 : decide (b.cps.toList ≤ c.cps.toList) = true) : decide (a.cps.toList ≤ c.cps.toList) = true :=
  decide_eq_true (Std.le_trans (of_decide_eq_true h1) (of_decide_eq_true h2))
theorem leStr_total (a b : Str) : (decide (a.cps.toList ≤ b.cps.toList) || decide (b.cps.toList ≤ a.cps.toList)) = true := by
  rw [Bool.or_eq_true, decide_eq_true_eq, decide_eq_true_eq]
  exact Std.le_total
theorem str_ext {a b : Str} (h : a.cps.toList = b.cps.toList) : a = b := by
  cases a
  cases b
  congr 1
  exact Array.toList_inj.mp h
def sortS (ks : List Str) : List Str := ks.mergeSort fun a b => decide (a.cps.toList ≤ b.cps.toList)
theorem sortS_eq {ys ks : List Str} (hp : ys.Perm ks) (hs : ys.Pairwise fun a b => a.cps.toList ≤ b.cps.toList) : ys = sortS ks := by
  refine List.Perm.eq_of_pairwise (le := fun a b : Str => a.cps.toList ≤ b.cps.toList) (fun a b _ _ h1 h2 => str_ext (Std.le_antisymm h1 h2)) hs ?_ (hp.trans (List.mergeSort_perm ks _).symm)
  exact (List.pairwise_mergeSort leStr_trans leStr_total ks).imp fun h => of_decide_eq_true h
theorem sort_strs (ks : List Str) : (ks.map PyData.str).mergeSort leD = (sortS ks).map .str :=
  (List.map_mergeSort fun a _ b _ => (leD_str a b).symm).symm
theorem risingS_pw : ∀ (l : List Str) (p : Str), risingS p l = true → (p :: l).Pairwise fun a b => a.cps.toList ≤ b.cps.toList
  | [], p, _ => List.pairwise_singleton _ _
  | x :: r, p, h => by
    unfold risingS at h
    rw [Bool.and_eq_true, ltCps_eq, PySem.W.not_lt_str] at h
    have h1 := of_decide_eq_true h.1
    have ih := risingS_pw r x h.2
    refine List.pairwise_cons.mpr ⟨fun y hy => ?_, ih⟩
    rcases List.mem_cons.mp hy with e | hy
    · rw [e]
      exact h1
    · exact Std.le_trans h1 (List.rel_of_pairwise_cons ih hy)
theorem sortedS_pw : ∀ (l : List Str), sortedS l = true → l.Pairwise fun a b => a.cps.toList ≤ b.cps.toList
  | [], _ => List.Pairwise.nil
  | x :: r, h => risingS_pw r x h
theorem call_dSorted (hc : X.calm = true) (hu : X.A.units + 64 < cLine) : CallD X (.builtin "sorted") dSorted := by
  refine ⟨_, CallR.or2 (cr_sortedD hu) (call_sortedD hc), fun xs z h => ?_, fun H xs ds A Q r h => ?_⟩
  · unfold dSorted at h
    split at h
    · split at h <;> cases h
    · split at h
      · split at h <;> cases h
      · cases h
    · cases h
  · unfold dSorted at h
    split at h
    · cases r with
      | cons r1 r2 =>
        cases r2
        split at h
        · rename_i hz
          rw [Bool.and_eq_true] at hz
          cases r1 with
          | lst h1 l1 =>
            obtain ⟨e1, l2⟩ := l1.imm hz.1
            obtain ⟨z1, z2, z3⟩ := repL_zip l2
            refine .inl ⟨_, _, rfl, .inl (.inl (by rw [z2]; exact h1)), fun b hb => ?_, by rw [z3]; exact hz.2, ?_⟩
            · obtain ⟨B, q, _⟩ := z1 b hb
              exact q.weak.dp (okD.flat ((sortOk_all hz.2).1 b.2 (by rw [← z3]; exact List.mem_map.mpr ⟨b, hb, rfl⟩)))
            · have lr := repL_pairs (K := X.K) (mg := X.mg) (H := H) (bs := (_ : List (V × D)).mergeSort (PySem.W.dataLe false Prod.snd)) fun b hb => by
                obtain ⟨B, q, hB⟩ := z1 b ((List.mergeSort_perm _ _).mem_iff.mp hb)
                have : B = [] := List.eq_nil_iff_forall_not_mem.mpr fun a ha => by cases hB a ha
                rw [this] at q
                exact q
              rw [sort_snd, z3] at lr
              exact fresh_list lr h
        · exact h.elim
    · cases r with
      | cons r1 r2 =>
        cases r2
        split at h
        · rename_i ks hks
          split at h
          · rename_i h64
            obtain ⟨a, vs, A', rfl, l1, _, hp⟩ := rep_dictN r1 (strsD_tag hks)
            rw [sort_strs] at h
            have rd : Rd H a (.dK vs) := by
              rcases hp with ⟨w, _⟩ | ⟨u, w⟩
              · exact .inl w
              · exact .inr ⟨u, w⟩
            refine .inr ⟨a, vs, ks, rfl, rd, strsD_keys l1 hks, h64, fun ys p hperm hsort hp => ?_⟩
            rw [sortS_eq hperm (sortedS_pw ys hsort)]
            refine fresh_list ?_ h p hp
            have : ∀ l : List Str, RepL X.K X.mg H true (l.map V.str) (l.map PyData.str) [] := fun l => by
              induction l with
              | nil => exact .nil
              | cons x l ih => exact .cons (A := []) (B := []) (.str x) ih
            exact this _
          · exact h.elim
        · exact h.elim
    · exact h.elim
end
end Dg

namespace Dg
open PySem PySem.Spec PyProof.Rows L2
/-! ### a, b = x, y -/
def parS (ms is : List Nat) (g : Env → R (List D)) : Env → Out := fun r => match g r with
  | .ok ds => if ds.length = is.length then .nx (setsD is ds (kill ms r)) else .stk
  | .exc x => .exc x r
  | .stk => .stk
section
variable {X : Cx} {W : WX} {C : Cfg} {ow ow' ow1 ow2 : List Nat} {k k1 k2 k3 : Kd} {e a b c tg : Expr} {st : Stmt} {sts sts2 : List Stmt} {den d1 d2 : Env → R D} {f g : Env → Out} {pos p2 : Pos}
theorem ds_par {i j k2 kt : Nat} {x y : Str} {px py pt pt2 : Pos} {ms : List Nat} {g : Env → R (List D)} (hc : X.calm = true) (hN : X.N.Nodup) (hi : X.N[i]? = some x) (hj : X.N[j]? = some y) (hij : i ≠ j) (hx : X.env.scope.names.lookup x = some .local) (hy : X.env.scope.names.lookup y = some .local)
    (ha : DA X W ow (.own ms) 2 [a, b] g) (hio : disL [i, j] (C.io ++ C.pl) = true) (how : subL ow' ([i, j] ++ ow) = true) (hox : subL C.owx ow = true)
    (hw : swappedStores [.Tuple [.Name x px, .Name y py] kt pt] (.Tuple [a, b] k2 pt2) X.env = pure (some [x, y]) := by rfl)
    (hs : swapsWithSole [.Tuple [.Name x px, .Name y py] kt pt] (.Tuple [a, b] k2 pt2) pos.line X.env = pure false := by rfl) :
    DS X W C ow ow' (.Assign [.Tuple [.Name x px, .Name y py] kt pt] (.Tuple [a, b] k2 pt2) pos) (parS ms [i, j] g) := by
  obtain ⟨ta, pa, qa⟩ := ha
  refine ⟨_, ps_par hc hN hi hj hij hx hy pa hw, fun H0 M0 pn σ ρ H As Dn hp S z => qa σ ρ H As _ ⟨H0, M0, pn, S⟩ ?_⟩
  unfold parS at z
  cases hd : g ρ with
  | stk =>
    rw [hd] at z
    exact z
  | exc x =>
    rw [hd] at z
    exact fun c dd H' A sm rp fx => z c dd σ H' As A ((S.same sm).less (subL_mem hox)) rp (S.fx fx)
  | ok ds =>
    rw [hd] at z
    intro vs H1 A sm rl ok hl
    dsimp only at z
    split at z
    · match vs, hl with
      | [v, w], _ =>
        refine ⟨v, w, rfl, ?_⟩
        obtain ⟨As1, S1, k1, k2⟩ := Sta.kills ms (S.same sm)
        have fr : ∀ a ∈ A, ∀ j, a ∉ As1 j := fun a ha j hj => by
          rcases k1 j with e | e
          · rw [e] at hj
            rcases ok.2.2 a ha with w | ⟨i, hi, w⟩
            · exact S.old hj w
            · by_cases hji : j = i
              · subst hji
                rw [k2 j hi] at e
                rw [← e] at hj
                cases hj
              · exact S.sep i (ok.2.1 i hi) j hji a w hj
          · rw [e] at hj
            cases hj
        obtain ⟨As', ow2, S', h1, h2⟩ := Sta.putsO [i, j] rl rfl S1 (fun i hi => hp i (disL_mem hio i hi)) ok.1 (fun a ha => by
          rcases ok.2.2 a ha with w | ⟨i, hi, w⟩
          · exact S.was w
          · exact S.new i (ok.2.1 i hi) a w) fr
        exact z _ _ As' (S'.less fun i hi => by
          rcases List.mem_append.mp (subL_mem how i hi) with w | w
          · exact h2 i w
          · exact h1 i w)
    · exact z.elim
end
end Dg

namespace Dg
open PySem PySem.Spec PyProof.Rows L2
/-! ### k in a dict -/
def dInD (neg : Bool) (x y : D) : R D := match y with
  | .dict kvs => if tagD kvs = false ∧ isKey x = true then .ok (.bool (neg != (lookD kvs x).isSome)) else .stk
  | _ => .stk
def rInDK (neg : Bool) : R2 := fun x y H Q => ∃ a o, y = .ref a ∧ DGet H a x o ∧ Q (.bl (neg != o.isSome)) H
section
variable {X : Cx}
theorem or_inDK (hu : X.A.units + 64 < cLine) : OpR X (compareOp .In) (rInDK false) := by
  intro pins s σ H x y v u Q I rx ry q
  obtain ⟨a, o, rfl, g, q⟩ := q
  cases ry
  exact d_in (by omega) I g rx fun s' I' => ⟨.bl o.isSome, H, I', rfl, by rw [Bool.false_bne] at q; exact q⟩
theorem or_notInDK (hu : X.A.units + 64 < cLine) : OpR X (compareOp .NotIn) (rInDK true) := by
  intro pins s σ H x y v u Q I rx ry q
  obtain ⟨a, o, rfl, g, q⟩ := q
  cases ry
  exact d_notIn (by omega) I g rx fun s' I' => ⟨.bl (!o.isSome), H, I', rfl, by rw [Bool.true_bne] at q; exact q⟩
theorem inDK_run {neg : Bool} {H : Hp} {x y : V} {dx dy : D} {A B : List Addr} {Q : VK} (r1 : Rep X.K X.mg H false x dx A) (r2 : Rep X.K X.mg H false y dy B) (h : Fresh X H (dInD neg dx dy) Q) : rInDK neg x y H Q := by
  unfold dInD at h
  split at h
  · split at h
    · rename_i hg
      obtain ⟨kk, rfl⟩ := isKey_kD hg.2
      have ey := rep_key r1
      subst ey
      obtain ⟨a, vs, A', rfl, l1, hA, hp⟩ := rep_dictN r2 hg.1
      have rd : Rd H a (.dK vs) := by
        rcases hp with ⟨w, _⟩ | ⟨u, w⟩
        · exact .inl w
        · exact .inr ⟨u, w⟩
      refine ⟨a, valV vs kk, rfl, .inl ⟨vs, kk, rd, rfl, rfl⟩, ?_⟩
      have e : (valV vs kk).isSome = (lookD ‹List (D × D)› (kD kk)).isSome := by
        cases el : lookD ‹List (D × D)› (kD kk) with
        | none => rw [lookD_none l1 el]; rfl
        | some d =>
          obtain ⟨k', v', C, e4, e5, e6, e7⟩ := lookD_key l1 el
          have := kD_inj e4.symm
          subst this
          rw [e5]
          rfl
      rw [e]
      exact fresh_imm (fun _ _ _ => .bl _) h
    · exact h.elim
  · exact h.elim
theorem dInD_exc {neg : Bool} {x y : D} {z : Exn} : dInD neg x y ≠ .exc z := by
  intro h
  unfold dInD at h
  split at h
  · split at h <;> cases h
  · cases h
theorem op_dInD (hu : X.A.units + 64 < cLine) : OpD X (compareOp .In) (dInD false) :=
  ⟨_, or_inDK hu, (fun _ _ _ => dInD_exc), fun H x y dx dy A B Q r1 r2 h => inDK_run r1 r2 h⟩
theorem op_dNotInD (hu : X.A.units + 64 < cLine) : OpD X (compareOp .NotIn) (dInD true) :=
  ⟨_, or_notInDK hu, (fun _ _ _ => dInD_exc), fun H x y dx dy A B Q r1 r2 h => inDK_run r1 r2 h⟩
end
end Dg

namespace Dg
open PySem PySem.Spec PyProof.Rows L2
/-! ### and, or, not as values, of truth values alone -/
def bolE (f : Env → R D) : Env → R D := fun ρ => (f ρ).bind fun d => match d with
  | .bool b => .ok (.bool b)
  | _ => .stk
theorem de_bool {X : Cx} {W : WX} {ow : List Nat} {k : Kd} {e : Expr} {den : Env → R D} (h : DE X W ow k e den) : DE X W ow k e (bolE den) := by
  obtain ⟨te, p, q⟩ := h
  refine ⟨te, p, fun σ ρ H As Q S g => q σ ρ H As Q S ?_⟩
  unfold bolE at g
  cases hd : den ρ with
  | stk =>
    rw [hd] at g
    exact g
  | exc x =>
    rw [hd] at g
    exact g
  | ok d =>
    rw [hd, R.bind_ok] at g
    cases d with
    | bool b => exact g
    | _ => exact g.elim
end Dg

namespace Dg
open PySem PySem.Spec PyProof.Rows L2
/-! ### sets of texts and whole numbers that are sorted at once -/
def vKey : Value → Key
  | .int i _ => .inl i
  | .str z _ => .inr z
  | _ => .inl 0
theorem vKey_of {k : Key} {u : Value} (r : RelV (kV k) u) : vKey u = k := by
  cases k with
  | inl i =>
    obtain ⟨t, rfl⟩ := r
    rfl
  | inr z =>
    obtain ⟨t, rfl⟩ := r
    rfl
def RowK (w : World) (e : Int × Value) : Prop := ∃ k, RelV (kV k) e.2 ∧ e.1 = keyH w k
def ksOf (es : Array (Int × Value)) : List Key := es.toList.map fun e => vKey e.2
structure TabK (w : World) (es : Array (Int × Value)) (t : SetTable) : Prop where
  row : ∀ e ∈ es.toList, RowK w e
  nd : (ksOf es).Nodup
  few : es.size < scanBound
  fit : t.fits es.size = true
  ris : Ris t.place.toList
  led : w.params.followText "set-order" = true ∨ t.led = true
section
variable {P : Program} {w : World} {es : Array (Int × Value)} {t : SetTable}
theorem rows_elems (hrow : ∀ e ∈ es.toList, RowK w e) : ElemsOf (mixKind P w) es.toList := fun e he => by
  obtain ⟨k, r, eh⟩ := hrow e he
  exact ⟨⟨k, kV_is r, eh⟩, key_scan r⟩
theorem rows_mem (hrow : ∀ e ∈ es.toList, RowK w e) (k : Key) : k ∈ ksOf es ↔ ∃ e ∈ es.toList, (mixKind P w).is k e.2 = true := by
  unfold ksOf
  rw [List.mem_map]
  refine ⟨fun ⟨e, he, q⟩ => ?_, fun ⟨e, he, q⟩ => ?_⟩
  · obtain ⟨k2, r, _⟩ := hrow e he
    rw [vKey_of r] at q
    subst q
    exact ⟨e, he, kV_is r⟩
  · obtain ⟨k2, r, _⟩ := hrow e he
    exact ⟨e, he, (vKey_of r).trans ((mixKind P w).inj e.2 k2 k (kV_is r) q)⟩
theorem TabK.relay (T : TabK w es t) (n : Nat) : TabK w (relayAll t es n).1 (relayAll t es n).2.1 ∧ (ksOf (relayAll t es n).1).Perm (ksOf es) ∧ (relayAll t es n).1.size = es.size := by
  have p := relayAll_perm t es n
  have z : (relayAll t es n).1.size = es.size := by rw [← Array.length_toList, p.length_eq, Array.length_toList]
  have pk : (ksOf (relayAll t es n).1).Perm (ksOf es) := p.map _
  exact ⟨⟨fun e he => T.row e (p.mem_iff.mp he), pk.nodup_iff.mpr T.nd, by rw [z]; exact T.few, relayAll_fits t es n, relayAll_ris t es n, T.led.imp id fun q => by rw [relayAll_led]; exact q⟩, pk, z⟩
theorem TabK.lay (T : TabK w es t) {k : Key} {u : Value} (r : RelV (kV k) u) (hk : k ∉ ksOf es) (room : es.size + 1 < scanBound) :
    TabK w (layNew t es (keyH w k) u).1 (layNew t es (keyH w k) u).2.1 ∧ (ksOf (layNew t es (keyH w k) u).1).Perm (k :: ksOf es) ∧ (layNew t es (keyH w k) u).1.size = es.size + 1 := by
  have p := layNew_perm t es (keyH w k) u
  rw [Array.toList_push] at p
  have p2 := p.trans (List.perm_append_singleton _ _)
  have pk : (ksOf (layNew t es (keyH w k) u).1).Perm (k :: ksOf es) := by
    have := p2.map fun e => vKey e.2
    rw [List.map_cons, vKey_of r] at this
    exact this
  have z : (layNew t es (keyH w k) u).1.size = es.size + 1 := by rw [← Array.length_toList, p2.length_eq, List.length_cons, Array.length_toList]
  refine ⟨⟨fun e he => ?_, pk.nodup_iff.mpr (List.nodup_cons.mpr ⟨hk, T.nd⟩), by rw [z]; exact room, layNew_fits t es (keyH w k) u, layNew_ris t es (keyH w k) u T.ris, T.led.imp id fun q => by rw [layNew_led]; exact q⟩, pk, z⟩
  rcases List.mem_cons.mp (p2.mem_iff.mp he) with q | q
  · rw [q]
    exact ⟨k, r, rfl⟩
  · exact T.row e q
theorem TabK.off (T : TabK w es t) : TabK w es { t with plain := false } := ⟨T.row, T.nd, T.few, SetTable.fits_plain_off T.fit, T.ris, T.led⟩
end
/-- a set of keys; M: its members, n: how many -/
def SetG (w : World) (h : Heap) (a : Addr) (M : Key → Prop) (n : Nat) : Prop :=
  ∃ o es ep t, h.get? a = some o ∧ o.ExactSet ∧ o.data = .set es ep t ∧ TabK w es t ∧ (∀ k, M k ↔ k ∈ ksOf es) ∧ es.size = n
section
variable {P : Program} {w : World} {A : Around} {E : Value → Shared → Prop} {s : Shared} {a : Addr} {M M' : Key → Prop} {n : Nat}
theorem SetG.at {h h' : Heap} (R : SetG w h a M n) (k : ∀ o, h.get? a = some o → h'.get? a = some o) : SetG w h' a M n := by
  obtain ⟨o, es, ep, t, ho, r⟩ := R
  exact ⟨o, es, ep, t, k o ho, r⟩
theorem SetG.congr {h : Heap} (R : SetG w h a M n) (e : ∀ k, M' k ↔ M k) : SetG w h a M' n := by
  obtain ⟨o, es, ep, t, ho, hx, hd, T, hm, hn⟩ := R
  exact ⟨o, es, ep, t, ho, hx, hd, T, fun k => (e k).trans (hm k), hn⟩
theorem store_tail {g : Bool → Sem Unit} (hg : ∀ (b : Bool) (s₁ : Shared) (Q' : Unit → Shared → Prop), Q' () s₁ → wpAny (model P w) A (g b) Q' E s₁)
    {o : Obj} {es : Array (Int × Value)} {ep : Nat} {t : SetTable} (ho : s.heap.get? a = some o) (hex : o.ExactSet) (hd : o.data = .set es ep t)
    {fs : Array (Int × Value)} {t2 : SetTable} (T : TabK w fs t2) (hm : ∀ k, M k ↔ k ∈ ksOf fs) {wasDummy : Bool} {R : Option Bool → Shared → Prop}
    (hR : ∀ h', Heap.SameBut a s.heap h' → SetG w h' a M fs.size → R (some true) { s with heap := h' }) :
    wpAny (model P w) A (do
        storeSet a fs t2
        if (!wasDummy && t2.tooFull) = true then do
            g (relayAll t2 fs (SetTable.grown fs.size)).2.2
            storeSet a (relayAll t2 fs (SetTable.grown fs.size)).1 (relayAll t2 fs (SetTable.grown fs.size)).2.1
            pure (some true)
          else pure (some true)) R E s := by
  refine wpAny_bind (wpAny_storeSet_of ho hd ?_ (fits_of_scanBound T.few))
  have at1 := store_at (es' := fs) (t' := t2) ho hd
  have sb := Heap.SameBut.update s.heap a (Obj.putSet fs t2)
  split
  · obtain ⟨T2, pk, z⟩ := T.relay (SetTable.grown fs.size)
    generalize relayAll t2 fs (SetTable.grown fs.size) = Z at T2 pk z ⊢
    obtain ⟨gs, t3, gave⟩ := Z
    dsimp only at T2 pk z ⊢
    refine wpAny_bind (hg _ _ _ (wpAny_bind (wpAny_storeSet_of at1 rfl ?_ (fits_of_scanBound T2.few))))
    have at2 := store_at (es' := gs) (t' := t3) at1 rfl
    exact wpAny_pure (hR _ (sb.trans (Heap.SameBut.update _ a _)) ⟨_, gs, _, t3, at2, hex, rfl, T2, fun k => (hm k).trans pk.mem_iff.symm, z⟩)
  · exact wpAny_pure (hR _ sb ⟨_, fs, _, t2, at1, hex, rfl, T, hm, rfl⟩)
theorem setG_add {k : Key} {u : Value} {Q : Bool → Shared → Prop} (r : RelV (kV k) u) (R : SetG w s.heap a M n) (room : n + 1 < scanBound)
    (hQ : ∀ h' b m, Heap.SameBut a s.heap h' → SetG w h' a (fun j => M j ∨ j = k) m → m ≤ n + 1 → Q b { s with heap := h' }) :
    wpAny (model P w) A (setAddHashed a u ((mixKind P w).hash k)) Q E s := by
  obtain ⟨o, es, ep, t, ho, hex, hd, T, hm, hn⟩ := R
  have hsc := key_scan r
  have hel : ElemsOf (mixKind P w) es.toList := rows_elems T.row
  unfold setAddHashed setAddHashedIn
  refine wpAny_holding (wpAny_bind (wpAny_setState_of ho hd T.fit ?_))
  dsimp only
  rw [byScan_of hsc T.few hel]
  simp only [↓reduceIte]
  unfold setAddByScan
  refine wpAny_bind (wpAny_bind (wpAny_rule (wpAny_bind (wpAny_setScan_of (kV_is r) ho hd T.fit hel ?_))))
  cases hfi : List.findIdx? (fun e => (mixKind P w).is k e.2) es.toList with
  | some j =>
    dsimp only
    obtain ⟨hj, pj, _⟩ := List.findIdx?_eq_some_iff_getElem.mp hfi
    have hk : k ∈ ksOf es := (rows_mem (P := P) T.row k).mpr ⟨es.toList[j], List.getElem_mem hj, pj⟩
    exact wpAny_pure (wpAny_pure (hQ s.heap _ n (Heap.SameBut.refl a s.heap) ⟨o, es, ep, t, ho, hex, hd, T, fun i => ⟨fun z => z.elim (hm i).mp (fun e => e ▸ hk), fun z => .inl ((hm i).mpr z)⟩, hn⟩ (Nat.le_succ n)))
  | none =>
    dsimp only
    have hk : k ∉ ksOf es := fun z => by
      obtain ⟨e, he, q⟩ := (rows_mem (P := P) T.row k).mp z
      have c := List.findIdx?_eq_none_iff.mp hfi e he
      rw [q] at c
      cases c
    have hgw : ∀ (b : Bool) {s₁ : Shared} {Q' : Unit → Shared → Prop}, Q' () s₁ → wpAny (model P w) A (match b with | true => rule "set.scan.the-table-gave-way" | false => pure ()) Q' E s₁ :=
      fun b s₁ Q' q => by cases b <;> first | exact wpAny_pure q | exact wpAny_rule q
    obtain ⟨T1, pk, z⟩ := T.lay r hk (by rw [hn]; exact room)
    have eh : (mixKind P w).hash k = keyH w k := rfl
    rw [eh]
    generalize layNew t es (keyH w k) u = Z at T1 pk z ⊢
    obtain ⟨fs, t1, wasDummy, gave⟩ := Z
    dsimp only at T1 pk z ⊢
    have m1 : ∀ i, (M i ∨ i = k) ↔ i ∈ ksOf fs := fun i => by
      rw [pk.mem_iff, List.mem_cons, hm i]
      exact Or.comm
    have fin : ∀ h', Heap.SameBut a s.heap h' → SetG w h' a (fun j => M j ∨ j = k) fs.size → Q true { s with heap := h' } := fun h' sb q => hQ h' _ _ sb q (by omega)
    have hg : ∀ (b : Bool) (s₁ : Shared) (Q' : Unit → Shared → Prop), Q' () s₁ → wpAny (model P w) A (match b with | true => rule "set.scan.the-table-gave-way" | false => pure ()) Q' E s₁ := fun b s₁ Q' q => hgw b q
    refine wpAny_bind (hgw _ ?_)
    split
    · refine wpAny_bind ?_
      rw [hashByValue_scannable 8 hsc]
      refine wpAny_pure ?_
      refine store_tail (M := fun j => M j ∨ j = k) ?_ ho hex hd ?_ m1 ?_
      · intro b s₁ Q' q; cases b <;> first | exact wpAny_pure q | exact wpAny_rule q
      · first | (split <;> first | exact T1 | exact T1.off) | exact T1
      · intro h' sb q
        exact wpAny_pure (fin h' sb q)
    · refine wpAny_bind (wpAny_pure ?_)
      simp only [↓reduceIte]
      refine store_tail (M := fun j => M j ∨ j = k) ?_ ho hex hd T1 m1 ?_
      · intro b s₁ Q' q; cases b <;> first | exact wpAny_pure q | exact wpAny_rule q
      · intro h' sb q
        exact wpAny_pure (fin h' sb q)
theorem setG_new {h : Heap} (ho : h.get? a = some { cls := .type "set", dict := none, data := .set #[] 0 (.fresh 0 0 (!w.params.followText "set-order")) }) : SetG w h a (fun _ => False) 0 :=
  ⟨_, #[], 0, _, ho, ⟨rfl, rfl, rfl⟩, rfl, ⟨(fun e he => by simp at he), List.nodup_nil, by decide, by rfl, List.Pairwise.nil, by
    show _ ∨ (!w.params.followText "set-order") = true
    cases w.params.followText "set-order"
    · exact .inr rfl
    · exact .inl rfl⟩, fun k => ⟨False.elim, fun q => by cases q⟩, rfl⟩
end
section
variable {P : Program} {w : World} {A : Around} {E : Value → Shared → Prop} {s : Shared}
theorem upd_keys {I : Addr} {fp wr : List Addr} {G : Array GenState → Array GenState → Prop} {n : Nat} {Pv : Nat → Value → Prop} {St : Nat → Shared → Prop} {R : Result → Shared → Prop}
    (W : WalksS P w A.in1 I fp wr G n Pv St) (D : Addr) (hD : D ∉ fp) (ks : List Key) (hn : n = ks.length) (room : ks.length + 1 < scanBound) (hv : ∀ i v, Pv i v → ∃ k, ks[i]? = some k ∧ RelV (kV k) v) :
    ∀ (m i : Nat) (s : Shared), n - i = m → i ≤ n → St i s → (∃ c, c ≤ i ∧ SetG w s.heap D (fun j => j ∈ ks.take i) c) →
      (∀ s' c, Moved (D :: wr) G s s' → c ≤ n → SetG w s'.heap D (fun j => j ∈ ks) c → R (.ok (.ret .none)) s') →
      codeAny (model P w) A (.builtin "set.update.loop" ⟨[.ref D, .ref I], []⟩) R s := by
  have hDw : D ∉ wr := fun h => hD (W.sub _ h)
  have up : ∀ b ∈ wr, b ∈ D :: wr := fun b hb => List.mem_cons_of_mem _ hb
  intro m
  induction m with
  | zero =>
    intro i s e hi st ⟨c, hc, hS⟩ hR
    obtain rfl : i = n := by omega
    refine codeAny_builtin F.entry_set_update_loop ?_
    rw [Around.under_plainId F.plain_set_update_loop _]
    refine wpAny_bind (m := pyNext (.ref I)) (W.done s _ _ st fun s' mv => ?_)
    rw [List.take_of_length_le (by omega)] at hS
    exact wpAny_pure (hR s' c (mv.mono up) hc (hS.at fun o q => mv.heap D o hDw q))
  | succ m ih =>
    intro i s e hi st ⟨c, hc, hS⟩ hR
    have hlt : i < n := by omega
    refine codeAny_builtin F.entry_set_update_loop ?_
    rw [Around.under_plainId F.plain_set_update_loop _]
    refine wpAny_bind (m := pyNext (.ref I)) (W.item i s _ _ hlt st fun v s' hP st' mv => ?_)
    obtain ⟨k, hk, rv⟩ := hv i v hP
    have hS' : SetG w s'.heap D (fun j => j ∈ ks.take i) c := hS.at fun o q => mv.heap D o hDw q
    refine wpAny_bind (m := holding [v] (setAdd D v)) (wpAny_holding ?_)
    unfold setAdd
    refine wpAny_holding (wpAny_bind ((mixKind P w).pyHash (kV_is rv) ?_))
    refine setG_add (s := { s' with toks := s'.toks + 1 }) rv hS' (by omega) fun h' b c2 sb hS2 hc2 => ?_
    have hS3 : SetG w h' D (fun j => j ∈ ks.take (i + 1)) c2 := hS2.congr fun j => by
      rw [List.take_add_one, hk, List.mem_append, Option.toList_some, List.mem_singleton]
    refine wpAny_pure ⟨plainId_quiet F.plain_set_update_loop _, ih (i + 1) _ (by omega) hlt (W.frame _ s' _ _ st' (Nat.le_succ _) fun b hb o q => ?_) ⟨_, by omega, hS3⟩ fun s2 c3 mv2 hc3 hS4 => ?_⟩
    · rw [sb.2 b (fun z : b = D => hD (by rw [← z]; exact hb))]
      exact q
    · refine hR s2 c3 (Moved.trans W.gtrans ((mv.mono up).then_heap (Nat.le_succ _) fun b o hb q => ?_) mv2) hc3 hS4
      rw [sb.2 b (fun z : b = D => hb (by rw [z]; exact List.mem_cons_self))]
      exact q
theorem vals_at : ∀ {ks : List Key} {us : List Value}, Vals (ks.map kV) us → ∀ (i : Nat) (v : Value), us[i]? = some v → ∃ k, ks[i]? = some k ∧ RelV (kV k) v
  | [], _, .nil, i, v, h => by cases h
  | _ :: _, _, .cons r _, 0, v, h => by
    cases h
    exact ⟨_, rfl, r⟩
  | _ :: ks, _, .cons _ l, i + 1, v, h => vals_at (ks := ks) l i v h
abbrev set0 (w : World) : Obj := { cls := .type "set", dict := none, data := .set #[] 0 (.fresh 0 0 (!w.params.followText "set-order")) }
theorem call_setG {l : Addr} {its : Array Value} (ks : List Key) {Q : Value → Shared → Prop} (hh : A.handled = none) (hl : s.heap.IsList l its) (hit : Vals (ks.map kV) its.toList) (room : ks.length + 1 < scanBound)
    (h : ∀ (h' : Heap) (tk c : Nat), SetG w h' s.heap.objs.size (fun j => j ∈ ks) c → c ≤ ks.length → (∀ b o, s.heap.get? b = some o → h'.get? b = some o) → Q (.ref s.heap.objs.size) { s with heap := h', toks := tk }) :
    wpAny (model P w) A (PySem.call (.type "set") [.ref l]) Q E s := by
  have hlen : its.size = ks.length := by
    have q := hit.length
    rw [List.length_map, Array.length_toList] at q
    exact q.symm
  obtain ⟨c, tl, hmro⟩ := F.called_set.mro
  have hmade := F.called_set.made
  have hsub := F.called_set.sub
  refine wpAny_call (codeAny_of_tree ?_)
  show wpAny _ _ (callAny (.type "set") _) _ _ _
  refine wpAny_pure ⟨Code.quiet_builtin _ (by decide +kernel), codeAny_builtin F.entry_type_call ?_⟩
  rw [Around.under_plain (weight_type_call_type "set" [.ref l] []) rfl]
  have h1 := F.called_set.notType
  have h2 := F.called_set.canCreate
  have hct := F.typeCall_set_1 (.ref l)
  repeat (any_goals (first | assumption | wp_step))
  refine codeAny_mono (code_set_led1 (.ref l) (E := E) (Q₁ := fun obj s₁ => obj = .ref s.heap.objs.size ∧ s₁ = { s with heap := s.heap.push (set0 w) }) ⟨rfl, rfl⟩) fun r s₁ hr => ?_
  cases r with
  | error e => exact hr
  | ok fl =>
    cases fl with
    | ret obj =>
      obtain ⟨rfl, rfl⟩ := hr
      have hS : (s.heap.push (set0 w)).get? s.heap.objs.size = some (set0 w) := Heap.get?_push_size _ rfl
      have hT : Shared.TypeIs { s with heap := s.heap.push (set0 w) } (.ref s.heap.objs.size) "set" := ⟨_, hS, rfl⟩
      have hli := F.called_set.init.lookup
      have hbi := F.called_set.init.bind (.ref s.heap.objs.size)
      repeat (any_goals (first | assumption | wp_step))
      refine codeAny_mono (codeAny_call_builtin (R := wants (fun r s₂ => r = .none ∧ ∃ h' tk c, s₂ = { s with heap := h', toks := tk } ∧ SetG w h' s.heap.objs.size (fun j => j ∈ ks) c ∧ c ≤ ks.length ∧
          (∀ b o, s.heap.get? b = some o → h'.get? b = some o)) E) F.called_set.init.plain F.entry_set_init (check_set_init_1 hT ?_)) fun r₂ s₂ hr₂ => ?_
      · obtain ⟨ol, hol, hcl, nl, hdl⟩ := hl
        obtain ⟨ocls, odict, odata, oslots⟩ := ol
        simp only at hcl hdl
        subst hcl; subst hdl
        have hol' : (s.heap.push (set0 w)).get? l = some { cls := .type "list", dict := odict, data := .seq its nl, slots := oslots } := Heap.get?_push_of_some _ hol
        have hsls := F.sub_list_set
        have hslf := F.sub_list_frozenset
        have hne : (Value.type "list" == Value.type "dict") = false := by decide
        have hl1 : (s.heap.push (set0 w)).IsList l its := ⟨_, hol', rfl, nl, rfl⟩
        unfold Builtin.«set.__init__» noKeywords Builtin.Frozenset.updateFrom
        generalize hPI : pyIter = PI
        wp_walk
        subst hPI
        refine wpAny_pyIter_list hl1 ?_
        refine wpAny_bind (wpAny_runValue ?_)
        have hlS : l < s.heap.objs.size := Heap.lt_size hol
        have hh3 : A.in1.in1.in1.handled = none := by simp [hh]
        have hz1 : (s.heap.push (set0 w)).objs.size = s.heap.objs.size + 1 := Heap.size_push ..
        have ne1 : l ≠ (s.heap.push (set0 w)).objs.size := by
          rw [hz1]
          exact Nat.ne_of_lt (Nat.lt_succ_of_lt hlS)
        have ne2 : s.heap.objs.size ∉ [(s.heap.push (set0 w)).objs.size, l] := by
          rw [hz1]
          intro z
          rcases List.mem_cons.mp z with z | z
          · exact Nat.ne_of_lt (Nat.lt_succ_self _) z
          · exact Nat.ne_of_gt hlS (List.mem_singleton.mp z)
        refine upd_keys ((Walks.list hh3 _ l ne1 its).toS) s.heap.objs.size
          ne2 ks hlen room (fun i v hv => vals_at hit i v (by rw [Array.getElem?_toList]; exact hv)) (its.size - 0) 0 _ (by omega) (Nat.zero_le _)
          ⟨⟨_, Heap.get?_push_size _ rfl, rfl, rfl⟩, (hl1.push _)⟩ ?hS0 ?hR
        case hS0 =>
          exact ⟨0, Nat.le_refl 0, (setG_new (Heap.get?_push_of_some _ hS)).congr fun k => ⟨fun z => (by cases z), False.elim⟩⟩
        case hR =>
          intro s' c' mv hc' hS'
          obtain ⟨h', g2, d', tk', os'⟩ := s'
          have eg : g2 = s.gens := mv.gens
          have ed : d' = s.drawn := mv.drawn
          have eo : os' = s.os := mv.os
          subst eg; subst ed; subst eo
          show wpAny _ _ _ _ _ _
          refine wpAny_pure ?_
          show wpAny _ _ (ret Value.none) _ _ _
          rw [hlen] at hc'
          refine wpAny_pure ⟨rfl, h', tk', c', rfl, hS', hc', fun b o e => ?_⟩
          have hb0 : b < s.heap.objs.size := Heap.lt_size e
          refine mv.heap b o ?_ (Heap.get?_push_of_some _ (Heap.get?_push_of_some _ e))
          rw [hz1]
          intro z
          rcases List.mem_cons.mp z with z | z
          · exact Nat.ne_of_lt hb0 z
          · exact Nat.ne_of_lt (Nat.lt_succ_of_lt hb0) (List.mem_singleton.mp z)
      · cases r₂ with
        | error e => exact hr₂
        | ok fl₂ =>
          cases fl₂ with
          | ret r =>
            obtain ⟨rfl, h', tk, c', rfl, hS', hc', hk'⟩ := hr₂
            repeat (any_goals (first | assumption | wp_step))
            exact h _ _ _ hS' hc' hk'
          | _ => exact hr₂.elim
    | _ => exact hr.elim
end
end Dg

namespace Dg
open PySem PySem.Spec PyProof.Rows L2
def kindOf : Key → Bool
  | .inl _ => false
  | .inr _ => true
theorem vals_keys : ∀ (vs : List Value), (∀ v ∈ vs, ∃ k, RelV (kV k) v) → Vals ((vs.map vKey).map kV) vs
  | [], _ => .nil
  | v :: vs, h => by
    obtain ⟨k, r⟩ := h v List.mem_cons_self
    have := vals_keys vs fun u hu => h u (List.mem_cons_of_mem _ hu)
    rw [List.map_cons, List.map_cons, vKey_of r]
    exact .cons r this
theorem each_keys : ∀ {ks : List Key} {us : List Value}, Vals (ks.map kV) us → PySem.W.EachIs (fun v (k : Key) => RelV (kV k) v) us ks
  | [], _, .nil => .nil
  | _ :: _, _, .cons r l => .cons r (each_keys l)
theorem keys_each : ∀ {ks : List Key} {us : List Value}, PySem.W.EachIs (fun v (k : Key) => RelV (kV k) v) us ks → Vals (ks.map kV) us
  | [], _, .nil => .nil
  | _ :: _, _, .cons r l => .cons r (keys_each l)
theorem reads_key {k : Key} {u : Value} (r : RelV (kV k) u) (h : Heap) : Reads h u (kD k) [] := by
  cases k with
  | inl i =>
    obtain ⟨t, rfl⟩ := r
    exact .int _ _
  | inr z =>
    obtain ⟨t, rfl⟩ := r
    exact .str _ _
theorem each_weak {R R' : Value → Key → Prop} (f : ∀ v k, R v k → R' v k) : ∀ {us : List Value} {ks : List Key}, PySem.W.EachIs R us ks → PySem.W.EachIs R' us ks
  | _, _, .nil => .nil
  | _, _, .cons r l => .cons (f _ _ r) (each_weak f l)
theorem alike_key {a b : Key} (h : kindOf a = kindOf b) : PySem.W.alike (kD a) (kD b) = true := by
  cases a <;> cases b <;> first | rfl | cases h
section
variable {P : Program} {w : World} {A : Around} {E : Value → Shared → Prop} {s : Shared} {a : Addr} {M : Key → Prop} {n : Nat}
theorem sorted_setG {Q : Value → Shared → Prop} (R : SetG w s.heap a M n) (hh : A.handled = none) (hu : A.units + 64 < cLine) (h1 : ∀ k j, M k → M j → kindOf k = kindOf j)
    (hQ : ∀ s' p (out : List Value) (c : Nat) (ys : List Key), (∀ b o, s.heap.get? b = some o → s'.heap.get? b = some o) → s'.gens = s.gens → s'.os = s.os → s.heap.objs.size ≤ p →
      s'.heap.get? p = some (seqObj "list" out.toArray c) → ys.Nodup → (∀ k, k ∈ ys ↔ M k) → ys.length ≤ sizeLine → Vals ((ys.mergeSort (PySem.W.dataLe false kD)).map kV) out → Q (.ref p) s') :
    wpAny (model P w) A (PySem.call (.builtin "sorted") [.ref a]) Q E s := by
  obtain ⟨o, es, ep, t, ho, hex, hd, T, hm, hn⟩ := R
  refine Calls.call_function_entry kind_sorted plain_sorted entry_sorted (args_sorted1 _) ?_
  unfold Builtin.«sorted»
  refine wpAny_bind (m := checkCount "sorted" 1 1 _) (wpAny_pure (wpAny_bind (collect_set (A := A.in1) hh ⟨o, ho, hex.1, hd⟩ T.fit T.few T.ris T.led fun s1 vs k1 hz g1 o1 pm => ?_)))
  have hvl : vs.length = es.size := by rw [pm.length_eq, List.length_map, Array.length_toList]
  have hks : ((vs.map vKey)).Perm (ksOf es) := by
    have q := pm.map vKey
    rw [List.map_map] at q
    exact q
  have hrv : ∀ v ∈ vs, ∃ k, RelV (kV k) v := fun v hv => by
    obtain ⟨e, he, q⟩ := List.mem_map.mp (pm.mem_iff.mp hv)
    obtain ⟨k, r, _⟩ := T.row e he
    exact ⟨k, by rw [← q]; exact r⟩
  have hV := vals_keys vs hrv
  have hmem : ∀ k, k ∈ vs.map vKey ↔ M k := fun k => hks.mem_iff.trans (hm k).symm
  have few := T.few
  have hsz : es.size ≤ sizeLine := by
    rw [sizeLine_eq]
    unfold scanBound at few
    omega
  have hlen : (vs.map vKey).length ≤ sizeLine := by
    rw [List.length_map, hvl]
    exact hsz
  refine wpAny_bind (wpAny_newList ?_ (by rw [hvl]; exact hsz))
  have hoL : (s1.heap.push (seqObj "list" vs.toArray 0)).get? s1.heap.objs.size = some (seqObj "list" vs.toArray 0) := Heap.get?_push_size _ rfl
  have ev := each_keys hV
  refine wpAny_bind (wpAny_holding (PySem.W.list_sort_data (s := { s1 with heap := s1.heap.push (seqObj "list" vs.toArray 0) }) (bs := vs.map vKey) (enc := kD) hoL ev (each_weak (fun v k r => ⟨[], reads_key r _, (fun z => by cases z)⟩) ev) ?_ ?_ hlen ?_ fun out hol hout => ?_))
  · intro d hd2 e he2
    obtain ⟨k, hk, rfl⟩ := List.mem_map.mp hd2
    obtain ⟨j, hj, rfl⟩ := List.mem_map.mp he2
    exact alike_key (h1 k j ((hmem k).mp hk) ((hmem j).mp hj))
  · refine .inr fun d hd2 => ?_
    obtain ⟨k, hk, rfl⟩ := List.mem_map.mp hd2
    cases k with
    | inl i => exact ⟨(fun z => by cases z), fun xs z => by cases z⟩
    | inr i => exact ⟨(fun z => by cases z), fun xs z => by cases z⟩
  · intro k hk
    have : (kD k).depth ≤ 1 := by
      cases k with
      | inl i =>
        show PyData.depth (.int i) ≤ 1
        simp [PyData.depth]
      | inr i =>
        show PyData.depth (.str i) ≤ 1
        simp [PyData.depth]
    have e : A.in1.units = A.units + 1 := rfl
    rw [e]
    omega
  · obtain ⟨c, hc⟩ := sortedHeap_at (vs := vs) (out := out.toArray) hoL
    refine wpAny_pure ⟨_, rfl, hQ _ s1.heap.objs.size out c (vs.map vKey) (fun b u e => ?_) g1 o1 hz hc (hks.nodup_iff.mpr T.nd) hmem hlen (keys_each hout)⟩
    have q := k1 b u e
    have hlt := Heap.lt_size q
    exact (sortedHeap_old (Nat.ne_of_lt hlt) (by rw [size_push']; exact Nat.lt_succ_of_lt hlt)).trans (Heap.get?_push_of_some _ q)
end
/-- a set of those keys, at a -/
def SetO (w : World) (a : Addr) (ks : List Key) : HO := .ext fun h => ∃ c, SetG w h a (fun j => j ∈ ks) c
section
variable {X : Cx}
theorem setO_new {P : Program} {w : World} {H : Hp} {h : Heap} {a : Addr} {ks : List Key} {c : Nat} (R : SetG w h a (fun j => j ∈ ks) c) : ObjOk P w H h a (SetO w a ks) := by
  have ⟨o, _, _, _, ho, _⟩ := R
  exact ⟨⟨c, R⟩, ⟨o, ho⟩, fun h1 h2 ⟨c2, p⟩ k => ⟨c2, p.at k⟩⟩
def rSetG (K : PySem.W.Frag) (w : World) : List V → Hp → VK → Prop := fun xs H Q => ∃ (l : Addr) (ks : List Key), xs = [V.ref l] ∧ SqL K H l (ks.map kV) ∧ ks.length + 1 < scanBound ∧ ∀ a, H a = none → Q (.ref a) (upd H a (SetO w a ks))
theorem cr_setG (hc : X.calm = true) : CallR X (.type "set") (rSetG X.K X.w) := by
  intro pins s σ H xs us Q I r h
  obtain ⟨l, ks, rfl, hl, room, q⟩ := h
  obtain ⟨its, rv, pl, _⟩ := I.list hl
  rw [Vals.ref1 r]
  exact call_setG (P := X.prog) (w := X.w) ks (I.ok.hd hc) pl.isList rv room fun h' tk c R _ k =>
    ⟨.ref s.heap.objs.size, upd H s.heap.objs.size (SetO X.w s.heap.objs.size ks), I.laid (t' := tk) k (Nat.le_refl _) (setO_new R), rfl, q _ (I.hok.fresh (Nat.le_refl _))⟩
def rSortG (w : World) : List V → Hp → VK → Prop := fun vs H Q => ∃ (a : Addr) (ks : List Key), vs = [V.ref a] ∧ H a = some (SetO w a ks) ∧ (∀ k ∈ ks, ∀ j ∈ ks, kindOf k = kindOf j) ∧
  ∀ (ys : List Key) (p : Addr), H p = none → ys.Nodup → (∀ k, k ∈ ys ↔ k ∈ ks) → Q (.ref p) (upd H p (.lst ((ys.mergeSort (PySem.W.dataLe false kD)).map kV)))
theorem cr_sortG (hc : X.calm = true) (hu : X.A.units + 64 < cLine) : CallR X (.builtin "sorted") (rSortG X.w) := by
  intro pins s σ H vs us Q I r h
  obtain ⟨a, ks, rfl, ha, h1, q⟩ := h
  obtain ⟨c, R⟩ := (I.hok a _ ha).1
  rw [Vals.ref1 r]
  refine sorted_setG R (I.ok.hd hc) hu (fun k j hk hj => h1 k hk j hj) fun s' p out c2 ys k g o hp hg nd hm hy hv => ?_
  have hn : H p = none := I.hok.fresh hp
  have hlen : ((ys.mergeSort (PySem.W.dataLe false kD)).map kV).length ≤ sizeLine := by
    rw [List.length_map, List.length_mergeSort]
    exact hy
  have J : Inv X pins σ (upd H p (.lst ((ys.mergeSort (PySem.W.dataLe false kD)).map kV))) { s with heap := s'.heap, gens := s'.gens, drawn := s'.drawn, toks := s'.toks } :=
    I.call (ch := []) (Un.laid k hp hn) (I.hok.laid k hp ⟨hlen, out, c2, hv, hg⟩) (by rw [g]; exact I.bare) (fun _ z => nomatch z)
  have e : s' = { s with heap := s'.heap, gens := s'.gens, drawn := s'.drawn, toks := s'.toks } := by
    cases s'
    cases s
    cases o
    rfl
  rw [e]
  exact ⟨.ref p, _, J, rfl, q ys p hn nd hm⟩
end
/-! ### what it comes to -/
def keyD : D → Option Key
  | .int i => some (.inl i)
  | .str z => some (.inr z)
  | _ => none
def keysD : List D → Option (List Key)
  | [] => some []
  | d :: r => match keyD d, keysD r with
    | some k, some ks => some (k :: ks)
    | _, _ => none
def uniq : List Key → List Key
  | [] => []
  | k :: r => if (r.any fun j => decide (j = k)) = true then uniq r else k :: uniq r
theorem any_mem {k : Key} {r : List Key} : (r.any fun j => decide (j = k)) = true ↔ k ∈ r := by
  rw [List.any_eq_true]
  exact ⟨fun ⟨j, hj, e⟩ => (of_decide_eq_true e) ▸ hj, fun h => ⟨k, h, decide_eq_true rfl⟩⟩
def oneKind (ks : List Key) : Bool := ks.all fun k => ks.all fun j => kindOf k == kindOf j
def dSetSort : List D → R D
  | [.list xs] => match keysD xs with
    | some ks => if (decide (ks.length + 1 < scanBound) && oneKind ks) = true then .ok (.list (((uniq ks).map kD).mergeSort leD)) else .stk
    | none => .stk
  | _ => .stk
theorem mem_uniq {k : Key} : ∀ {ks : List Key}, k ∈ uniq ks ↔ k ∈ ks
  | [] => Iff.rfl
  | j :: r => by
    rw [uniq]
    by_cases h : (r.any fun i => decide (i = j)) = true
    · rw [if_pos h, mem_uniq, List.mem_cons]
      exact ⟨.inr, fun z => z.elim (fun e => by rw [e]; exact any_mem.mp h) id⟩
    · rw [if_neg h, List.mem_cons, List.mem_cons, mem_uniq]
theorem uniq_nodup : ∀ (ks : List Key), (uniq ks).Nodup
  | [] => List.nodup_nil
  | j :: r => by
    rw [uniq]
    by_cases h : (r.any fun i => decide (i = j)) = true
    · rw [if_pos h]
      exact uniq_nodup r
    · rw [if_neg h]
      exact List.nodup_cons.mpr ⟨fun z => h (any_mem.mpr (mem_uniq.mp z)), uniq_nodup r⟩
theorem uniq_perm {ys ks : List Key} (nd : ys.Nodup) (hm : ∀ k, k ∈ ys ↔ k ∈ ks) : ys.Perm (uniq ks) :=
  (List.perm_ext_iff_of_nodup nd (uniq_nodup ks)).mpr fun k => (hm k).trans mem_uniq.symm
theorem rep_keyD {K : PySem.W.Frag} {mg : Str → Option Value} {H : Hp} {o : Bool} {v : V} {d : D} {A : List Addr} {k : Key} (r : Rep K mg H o v d A) (h : keyD d = some k) : v = kV k ∧ d = kD k := by
  cases d <;> first | (cases h; done) | skip
  · cases h
    cases r
    exact ⟨rfl, rfl⟩
  · cases h
    cases r
    exact ⟨rfl, rfl⟩
theorem repL_keys {K : PySem.W.Frag} {mg : Str → Option Value} {H : Hp} {o : Bool} : ∀ {vs : List V} {ds : List D} {A : List Addr} {ks : List Key}, RepL K mg H o vs ds A → keysD ds = some ks → vs = ks.map kV
  | _, _, _, _, .nil, e => by
    cases e
    rfl
  | _, _, _, _, .cons (d := d) (ds := ds) h r, e => by
    unfold keysD at e
    split at e
    · rename_i k ks hk hks
      cases e
      rw [List.map_cons, repL_keys r hks, (rep_keyD h hk).1]
    · cases e
theorem kinds_split : ∀ {ks : List Key}, (∀ k ∈ ks, ∀ j ∈ ks, kindOf k = kindOf j) → (∃ is : List Int, ks = is.map Sum.inl) ∨ ∃ zs : List Str, ks = zs.map Sum.inr
  | [], _ => .inl ⟨[], rfl⟩
  | k :: r, h => by
    have ih := kinds_split fun a ha b hb => h a (List.mem_cons_of_mem _ ha) b (List.mem_cons_of_mem _ hb)
    cases k with
    | inl i =>
      rcases ih with ⟨is, e⟩ | ⟨zs, e⟩
      · exact .inl ⟨i :: is, by rw [e]; rfl⟩
      · cases zs with
        | nil => exact .inl ⟨[i], by rw [e]; rfl⟩
        | cons z zs =>
          have := h (.inl i) List.mem_cons_self (.inr z) (by rw [e]; exact List.mem_cons_of_mem _ List.mem_cons_self)
          cases this
    | inr x =>
      rcases ih with ⟨is, e⟩ | ⟨zs, e⟩
      · cases is with
        | nil => exact .inr ⟨[x], by rw [e]; rfl⟩
        | cons z zs =>
          have := h (.inr x) List.mem_cons_self (.inl z) (by rw [e]; exact List.mem_cons_of_mem _ List.mem_cons_self)
          cases this
      · exact .inr ⟨x :: zs, by rw [e]; rfl⟩
theorem leD_int (a b : Int) : leD (.int a) (.int b) = decide (a ≤ b) := by
  unfold leD
  rw [PySem.W.dataLt_int]
  by_cases h : a ≤ b
  · rw [decide_eq_true h, decide_eq_false (by omega)]
    rfl
  · rw [decide_eq_false h, decide_eq_true (by omega)]
    rfl
theorem leZ_trans (a b c : Int) (h1 : decide (a ≤ b) = true) (h2 : decide (b ≤ c) = true) : decide (a ≤ c) = true :=
  decide_eq_true (Int.le_trans (of_decide_eq_true h1) (of_decide_eq_true h2))
theorem leZ_total (a b : Int) : (decide (a ≤ b) || decide (b ≤ a)) = true := by
  rw [Bool.or_eq_true, decide_eq_true_eq, decide_eq_true_eq]
  exact Int.le_total a b
def sortZ (is : List Int) : List Int := is.mergeSort fun a b => decide (a ≤ b)
theorem sort_ints (is : List Int) : (is.map PyData.int).mergeSort leD = (sortZ is).map .int :=
  (List.map_mergeSort fun a _ b _ => (leD_int a b).symm).symm
theorem sortZ_perm {is js : List Int} (h : is.Perm js) : sortZ is = sortZ js := by
  refine List.Perm.eq_of_pairwise (le := fun a b : Int => a ≤ b) (fun a b _ _ h1 h2 => Int.le_antisymm h1 h2) ?_ ?_ (((List.mergeSort_perm is _).trans h).trans (List.mergeSort_perm js _).symm)
  · exact (List.pairwise_mergeSort leZ_trans leZ_total is).imp fun h => of_decide_eq_true h
  · exact (List.pairwise_mergeSort leZ_trans leZ_total js).imp fun h => of_decide_eq_true h
theorem sortS_perm {is js : List Str} (h : is.Perm js) : sortS is = sortS js :=
  sortS_eq ((List.mergeSort_perm is _).trans h) ((List.pairwise_mergeSort leStr_trans leStr_total is).imp fun h => of_decide_eq_true h)
def inlK : Key → Option Int
  | .inl i => some i
  | .inr _ => none
def inrK : Key → Option Str
  | .inl _ => none
  | .inr z => some z
theorem inl_back (is : List Int) : (is.map (Sum.inl : Int → Key)).filterMap inlK = is := by
  rw [List.filterMap_map]
  exact List.filterMap_some
theorem inr_back (zs : List Str) : (zs.map (Sum.inr : Str → Key)).filterMap inrK = zs := by
  rw [List.filterMap_map]
  exact List.filterMap_some
theorem keys_sorted {ys ks : List Key} (h1 : ∀ k ∈ ks, ∀ j ∈ ks, kindOf k = kindOf j) (p : ys.Perm ks) : (ys.map kD).mergeSort leD = (ks.map kD).mergeSort leD := by
  have h2 : ∀ k ∈ ys, ∀ j ∈ ys, kindOf k = kindOf j := fun k hk j hj => h1 k (p.mem_iff.mp hk) j (p.mem_iff.mp hj)
  have inl : ∀ is : List Int, (is.map (Sum.inl : Int → Key)).map kD = is.map PyData.int := fun is => by rw [List.map_map]; rfl
  have inr : ∀ zs : List Str, (zs.map (Sum.inr : Str → Key)).map kD = zs.map PyData.str := fun zs => by rw [List.map_map]; rfl
  rcases kinds_split h1 with ⟨js, rfl⟩ | ⟨js, rfl⟩
  · rcases kinds_split h2 with ⟨is, rfl⟩ | ⟨zs, rfl⟩
    · rw [inl, inl, sort_ints, sort_ints, sortZ_perm (is := is) (js := js) (by have q := p.filterMap inlK; rw [inl_back, inl_back] at q; exact q)]
    · cases zs with
      | nil =>
        have := List.Perm.nil_eq p
        rw [← this]
        rfl
      | cons z zs =>
        have := p.mem_iff.mp List.mem_cons_self
        obtain ⟨_, _, e⟩ := List.mem_map.mp this
        cases e
  · rcases kinds_split h2 with ⟨is, rfl⟩ | ⟨zs, rfl⟩
    · cases is with
      | nil =>
        have := List.Perm.nil_eq p
        rw [← this]
        rfl
      | cons z zs =>
        have := p.mem_iff.mp List.mem_cons_self
        obtain ⟨_, _, e⟩ := List.mem_map.mp this
        cases e
    · rw [inr, inr, sort_strs, sort_strs, sortS_perm (is := zs) (js := js) (by have q := p.filterMap inrK; rw [inr_back, inr_back] at q; exact q)]
theorem repL_kD {K : PySem.W.Frag} {mg : Str → Option Value} {H : Hp} : ∀ (ks : List Key), RepL K mg H true (ks.map kV) (ks.map kD) []
  | [] => .nil
  | .inl i :: r => .cons (A := []) (B := []) (.int i) (repL_kD r)
  | .inr x :: r => .cons (A := []) (B := []) (.str x) (repL_kD r)
section
variable {X : Cx} {W : WX} {ow : List Nat} {k : Kd} {e : Expr} {pos : Pos}
theorem de_sortSet {g : Env → R (List D)} {n : Nat} {p1 p2 p3 : Pos} (hc : X.calm = true) (hu : X.A.units + 64 < cLine) (hm : X.mg "sorted" = none) (hm2 : X.mg "set" = none) (h : DA X W ow k n [e] g)
    (hv : bootBuiltins "sorted" = some (.builtin "sorted") := by decide +kernel) (hv2 : bootBuiltins "set" = some (.type "set") := by decide +kernel) (hg : Gl X "sorted" := by rfl) (hg2 : Gl X "set" := by rfl)
    (he : starEach [e] X.env = [(false, eval e X.env)] := by rfl) (he2 : starEach [.Call (.Name "set" p1) [e] [] p2] X.env = [(false, eval (.Call (.Name "set" p1) [e] [] p2) X.env)] := by rfl) :
    DE X W ow (.own []) (.Call (.Name "sorted" p3) [.Call (.Name "set" p1) [e] [] p2] [] pos) (call dSetSort g) := by
  obtain ⟨ta, pa, q⟩ := h
  refine ⟨tCB (rSortG X.w) (tCons (tCB (rSetG X.K X.w) ta) tNil), pe_callB (cr_sortG hc hu) hg hm hv (pa_cons (pe_callTy (cr_setG hc) hg2 hm2 hv2 pa (by decide) (by decide) he rfl) pa_nil he2) (by decide) (by decide) he2 rfl, fun σ ρ H As Q S z => ?_⟩
  refine tCB_good (f := dSetSort) (es := [e]) (r := fun vs H Q => rSetG X.K X.w vs H fun x H1 => rSortG X.w [x] H1 Q) q (fun xs z h => ?_) (fun H xs ds A Q r h => ?_) S z
  · unfold dSetSort at h
    split at h
    · split at h
      · split at h <;> cases h
      · cases h
    · cases h
  · unfold dSetSort at h
    split at h
    · split at h
      · rename_i xs2 ks hks
        split at h
        · rename_i hz
          rw [Bool.and_eq_true, decide_eq_true_eq] at hz
          obtain ⟨h64, hone⟩ := hz
          have hk : ∀ k ∈ ks, ∀ j ∈ ks, kindOf k = kindOf j := fun k hk j hj => by
            unfold oneKind at hone
            rw [List.all_eq_true] at hone
            have := hone k hk
            rw [List.all_eq_true] at this
            exact beq_iff_eq.mp (this j hj)
          cases r with
          | cons r1 r2 =>
            cases r2
            cases r1 with
            | lst h1 l1 =>
              refine ⟨_, ks, rfl, .inl ?_, h64, fun a ha => ⟨a, ks, rfl, upd_same, hk, fun ys p hp nd hmem => ?_⟩⟩
              · rw [← repL_keys l1 hks]
                exact .inl h1
              · have sm : Same H (upd H a (SetO X.w a ks)) := same_upd ha
                refine h _ _ [p] (sm.trans (same_upd hp)) ?_ (List.nodup_cons.mpr ⟨(by intro z; cases z), List.nodup_nil⟩) fun b hb => by
                  rw [List.mem_singleton.mp hb]
                  exact sm.free hp
                have e1 : (ys.mergeSort (PySem.W.dataLe false kD)).map kD = ((uniq ks).map kD).mergeSort leD := by
                  rw [← keys_sorted (ys := ys) (fun k hk2 j hj => hk k (mem_uniq.mp hk2) j (mem_uniq.mp hj)) (uniq_perm nd hmem)]
                  exact List.map_mergeSort fun a _ b _ => rfl
                rw [← e1]
                exact .lst upd_same (repL_kD _)
        · exact h.elim
      · exact h.elim
    · exact h.elim
end
end Dg

namespace Dg
open PySem PySem.Spec PyProof.Rows L2
/-! ### a dict that is walked stands still -/
theorem fr_lock {H : Hp} {a : Addr} {u x : HO} (h : H a = some u) (hu : isMut u = true) : Fr (fun b => b = a) H (upd H a x) := fun b o e n => by
  by_cases z : b = a
  · subst z
    rw [h] at e
    cases e
    exact absurd rfl (n hu)
  · rw [upd_ne z]
    exact e
section
variable {K : PySem.W.Frag} {mg : Str → Option Value} {H : Hp} {a : Addr} {od : Obj} {vs : List (Key × V)}
mutual
theorem Rep.unlock (ha : H a = some (.frz od (.dK vs))) {o : Bool} {v : V} {d : D} {A : List Addr} : Rep K mg H o v d A → ∃ A', Rep K mg (upd H a (.dK vs)) o v d A' ∧ (∀ b ∈ A', b ∈ A ∨ b = a) ∧ (o = true → A' = A)
  | .non => ⟨[], .non, (fun b hb => .inl hb), fun _ => rfl⟩
  | .bl b => ⟨[], .bl b, (fun b hb => .inl hb), fun _ => rfl⟩
  | .int i => ⟨[], .int i, (fun b hb => .inl hb), fun _ => rfl⟩
  | .str x => ⟨[], .str x, (fun b hb => .inl hb), fun _ => rfl⟩
  | .lst (a := b) h r => by
    obtain ⟨A', r', h1, h2⟩ := r.unlock ha
    have ne : b ≠ a := fun z => by rw [z, ha] at h; cases h
    refine ⟨b :: A', .lst (by rw [upd_ne ne]; exact h) r', fun c hc => ?_, fun z => by rw [h2 z]⟩
    rcases List.mem_cons.mp hc with w | w
    · exact .inl (w ▸ List.mem_cons_self)
    · exact (h1 c w).imp (List.mem_cons_of_mem _) id
  | .lstF (a := b) h r => by
    obtain ⟨A', r', h1, h2⟩ := r.unlock ha
    refine ⟨A', .lstF ?_ r', h1, fun z => by cases z⟩
    rcases h with ⟨o, h⟩ | h
    · exact .inl ⟨o, by rw [upd_ne (fun z => by rw [z, ha] at h; cases h)]; exact h⟩
    · exact .inr h
  | .tup (a := b) h r => by
    obtain ⟨A', r', h1, h2⟩ := r.unlock ha
    refine ⟨A', .tup ?_ r', h1, h2⟩
    rcases h with (h | ⟨o, h⟩) | h
    · exact .inl (.inl (by rw [upd_ne (fun z => by rw [z, ha] at h; cases h)]; exact h))
    · exact .inl (.inr ⟨o, by rw [upd_ne (fun z => by rw [z, ha] at h; cases h)]; exact h⟩)
    · exact .inr h
  | .dct (a := b) h r => by
    obtain ⟨A', r', h1, h2⟩ := r.unlock ha
    have ne : b ≠ a := fun z => by rw [z, ha] at h; cases h
    refine ⟨b :: A', .dct (by rw [upd_ne ne]; exact h) r', fun c hc => ?_, fun z => by rw [h2 z]⟩
    rcases List.mem_cons.mp hc with w | w
    · exact .inl (w ▸ List.mem_cons_self)
    · exact (h1 c w).imp (List.mem_cons_of_mem _) id
  | .dctF (a := b) h r => by
    obtain ⟨A', r', h1, h2⟩ := r.unlock ha
    by_cases ne : b = a
    · subst ne
      rw [ha] at h
      cases h
      refine ⟨b :: A', .dct upd_same r', fun c hc => ?_, fun z => by cases z⟩
      rcases List.mem_cons.mp hc with w | w
      · exact .inr w
      · exact h1 c w
    · exact ⟨A', .dctF (by rw [upd_ne ne]; exact h) r', h1, fun z => by cases z⟩
  | .ins (a := b) h g r => by
    obtain ⟨A', r', h1, h2⟩ := r.unlock ha
    have ne : b ≠ a := fun z => by rw [z, ha] at h; cases h
    refine ⟨b :: A', .ins (by rw [upd_ne ne]; exact h) g r', fun c hc => ?_, fun z => by rw [h2 z]⟩
    rcases List.mem_cons.mp hc with w | w
    · exact .inl (w ▸ List.mem_cons_self)
    · exact (h1 c w).imp (List.mem_cons_of_mem _) id
  | .exn (a := b) h g r => by
    obtain ⟨A', r', h1, h2⟩ := r.unlock ha
    exact ⟨A', .exn (h.go fun b u e k => by
      have ne : b ≠ a := fun z => by
        rw [z, ha] at e
        cases e
        rcases k with ⟨o, k⟩ | ⟨o, k⟩ <;> cases k
      rw [upd_ne ne]
      exact e) g r', h1, h2⟩
theorem RepL.unlock (ha : H a = some (.frz od (.dK vs))) {o : Bool} {v : List V} {d : List D} {A : List Addr} : RepL K mg H o v d A → ∃ A', RepL K mg (upd H a (.dK vs)) o v d A' ∧ (∀ b ∈ A', b ∈ A ∨ b = a) ∧ (o = true → A' = A)
  | .nil => ⟨[], .nil, (fun b hb => .inl hb), fun _ => rfl⟩
  | .cons h r => by
    obtain ⟨A', r', h1, h2⟩ := h.unlock ha
    obtain ⟨B', s', g1, g2⟩ := r.unlock ha
    refine ⟨A' ++ B', .cons r' s', fun c hc => ?_, fun z => by rw [h2 z, g2 z]⟩
    rcases List.mem_append.mp hc with w | w
    · exact (h1 c w).imp (List.mem_append_left _) id
    · exact (g1 c w).imp (List.mem_append_right _) id
theorem RepP.unlock (ha : H a = some (.frz od (.dK vs))) {o : Bool} {v : List (Key × V)} {d : List (D × D)} {A : List Addr} : RepP K mg H o v d A → ∃ A', RepP K mg (upd H a (.dK vs)) o v d A' ∧ (∀ b ∈ A', b ∈ A ∨ b = a) ∧ (o = true → A' = A)
  | .nil => ⟨[], .nil, (fun b hb => .inl hb), fun _ => rfl⟩
  | .cons h r => by
    obtain ⟨A', r', h1, h2⟩ := h.unlock ha
    obtain ⟨B', s', g1, g2⟩ := r.unlock ha
    refine ⟨A' ++ B', .cons r' s', fun c hc => ?_, fun z => by rw [h2 z, g2 z]⟩
    rcases List.mem_append.mp hc with w | w
    · exact (h1 c w).imp (List.mem_append_left _) id
    · exact (g1 c w).imp (List.mem_append_right _) id
theorem RepF.unlock (ha : H a = some (.frz od (.dK vs))) {o : Bool} {v : List (Str × V)} {d : List (D × D)} {A : List Addr} : RepF K mg H o v d A → ∃ A', RepF K mg (upd H a (.dK vs)) o v d A' ∧ (∀ b ∈ A', b ∈ A ∨ b = a) ∧ (o = true → A' = A)
  | .nil => ⟨[], .nil, (fun b hb => .inl hb), fun _ => rfl⟩
  | .cons h r => by
    obtain ⟨A', r', h1, h2⟩ := h.unlock ha
    obtain ⟨B', s', g1, g2⟩ := r.unlock ha
    refine ⟨A' ++ B', .cons r' s', fun c hc => ?_, fun z => by rw [h2 z, g2 z]⟩
    rcases List.mem_append.mp hc with w | w
    · exact (h1 c w).imp (List.mem_append_left _) id
    · exact (g1 c w).imp (List.mem_append_right _) id
end
theorem Sta.unlock {H1 Hb : Hp} {M : Addr → Prop} {pn : Nat → Option V} {ow : List Nat} {σ : L2.St} {ρ : Env} {As : Nat → List Addr} (S : Sta K mg H1 M pn ow σ ρ H As) (ha : H a = some (.frz od (.dK vs)))
    (hfr : Fr M Hb (upd H a (.dK vs))) (hn : ∀ b, H1 b = none → Hb b = none) : ∃ As', Sta K mg Hb M pn ow σ ρ (upd H a (.dK vs)) As' ∧ (∀ j ∈ ow, As' j = As j) ∧ ∀ j, ∀ b ∈ As' j, b ∈ As j ∨ b = a := by
  have nA : ∀ j, a ∉ As j := fun j h => by
    obtain ⟨u, q, m⟩ := S.on h
    rw [ha] at q
    cases q
    cases m
  have each : ∀ j, ∃ A', (∀ d, ρ[j]? = some (some d) → ∃ v, σ[j]? = some (some v) ∧ Rep K mg (upd H a (.dK vs)) (ow.contains j) v d A') ∧ (j ∈ ow → A' = As j) ∧ (∀ b ∈ A', b ∈ As j ∨ b = a) ∧ ((∀ d, ρ[j]? ≠ some (some d)) → A' = []) := fun j => by
    by_cases h : ∃ d, ρ[j]? = some (some d)
    · obtain ⟨d, e⟩ := h
      obtain ⟨v, hv, r⟩ := S.rep j d e
      obtain ⟨A', r', h1, h2⟩ := r.unlock ha
      refine ⟨A', fun d' e' => ?_, fun hj => h2 (contains_mem.mpr hj), h1, fun z => absurd e (z d)⟩
      rw [e] at e'
      cases e'
      exact ⟨v, hv, r'⟩
    · have hd := S.dead j fun d e => h ⟨d, e⟩
      exact ⟨[], (fun d e => absurd ⟨d, e⟩ h), (fun _ => hd.symm), (fun b hb => by cases hb), fun _ => rfl⟩
  obtain ⟨f, hf⟩ := Classical.axiomOfChoice each
  refine ⟨f, ⟨hfr, fun j d e => (hf j).1 d e, fun j h => (hf j).2.2.2 h, fun j hj => ?_, fun j hj b hb => ?_, fun j hj l hl b hb hc => ?_, S.len, S.pin⟩, fun j hj => (hf j).2.1 hj, fun j => (hf j).2.2.1⟩
  · rw [(hf j).2.1 hj]
    exact S.nd j hj
  · rw [(hf j).2.1 hj] at hb
    exact (S.new j hj b hb).imp (hn b) id
  · rw [(hf j).2.1 hj] at hb
    rcases (hf l).2.2.1 b hc with w | w
    · exact S.sep j hj l hl b hb w
    · exact nA j (w ▸ hb)
end
/-! ### statements in states of a kind -/
def noX (f : Env → Out) : Env → Out := fun ρ => match f ρ with
  | .exc _ _ => .stk
  | o => o
def DSP (Pre : L2.St → Env → Hp → (Nat → List Addr) → Prop) (X : Cx) (W : WX) (C : Cfg) (ow ow' : List Nat) (st : Stmt) (den : Env → Out) : Prop :=
  ∃ ts, PS X st ts ∧ ∀ H0 M0 pn σ ρ H As Dn, PinOk C pn → Sta X.K X.mg H0 M0 pn ow σ ρ H As → Pre σ ρ H As → Post X W C H0 M0 pn ow' Dn (den ρ) → ts Dn σ H
/-- the slot's dict is locked -/
def Lkd (i : Nat) : L2.St → Env → Hp → (Nat → List Addr) → Prop := fun σ ρ H As => ∃ a od vs, σ[i]? = some (some (.ref a)) ∧ H a = some (.frz od (.dK vs))
/-- the slot's dict stands apart -/
def Apart (X : Cx) (i : Nat) : L2.St → Env → Hp → (Nat → List Addr) → Prop := fun σ ρ H As => ∃ a vs kvs B, σ[i]? = some (some (.ref a)) ∧ ρ[i]? = some (some (.dict kvs)) ∧ H a = some (.dK vs) ∧ RepP X.K X.mg H false vs kvs B ∧ As i = a :: B ∧ a ∉ B ∧ ∀ j, j ≠ i → a ∉ As j
section
variable {X : Cx} {W : WX} {C : Cfg} {ow ow' owi ow1 ow2 : List Nat} {k k1 k2 k3 : Kd} {e b c tg : Expr} {st : Stmt} {sts sts2 : List Stmt} {den d1 d2 : Env → R D} {f g : Env → Out} {pos p2 : Pos}
theorem dsp_lock {i : Nat} (h : DSP (Lkd i) X W C owi ow1 st f) (hi : i ∉ owi) : DSP (Apart X i) X W C owi ow1 st (noX f) := by
  obtain ⟨ts, p, q⟩ := h
  refine ⟨_, ps_lock p, fun H0 M0 pn σ ρ H As Dn hp S pre z => ?_⟩
  obtain ⟨a, vs, kvs, B, hσ, hρ, ha, hB, eA, naB, hsep⟩ := pre
  refine ⟨a, .dK vs, ha, trivial, fun od => ?_⟩
  have fr1 : Fr (fun b => b = a) H (upd H a (.frz od (.dK vs))) := fr_lock ha rfl
  have T : Sta X.K X.mg (upd H a (.frz od (.dK vs))) (fun b => ∃ l ∈ owi, b ∈ As l) pn owi σ ρ (upd H a (.frz od (.dK vs))) (fun j => if j = i then B else As j) := by
    refine ⟨Fr.refl _ _, fun j d e => ?_, fun j hn => ?_, fun j hj => ?_, fun j hj b hb => ?_, fun j hj l hl b hb hc => ?_, S.len, S.pin⟩
    · by_cases hj : j = i
      · subst hj
        rw [hρ] at e
        cases e
        refine ⟨_, hσ, ?_⟩
        rw [if_pos rfl, Bool.eq_false_iff.mpr fun w => hi (contains_mem.mp w)]
        exact .dctF upd_same (hB.fr fr1 fun b hb w => naB (w ▸ hb))
      · obtain ⟨v, hv, r⟩ := S.rep j d e
        rw [if_neg hj]
        exact ⟨v, hv, r.fr fr1 fun b hb w => hsep j hj (w ▸ hb)⟩
    · by_cases hj : j = i
      · subst hj
        exact absurd hρ (hn _)
      · try dsimp only
        rw [if_neg hj]
        exact S.dead j hn
    · have hj2 : j ≠ i := fun w => hi (w ▸ hj)
      try dsimp only
      rw [if_neg hj2]
      exact S.nd j hj
    · have hj2 : j ≠ i := fun w => hi (w ▸ hj)
      try dsimp only at hb
      rw [if_neg hj2] at hb
      exact .inr ⟨j, hj, hb⟩
    · have hj2 : j ≠ i := fun w => hi (w ▸ hj)
      try dsimp only at hb hc
      rw [if_neg hj2] at hb
      by_cases hl2 : l = i
      · rw [if_pos hl2] at hc
        refine S.sep j hj l hl b hb ?_
        rw [hl2, eA]
        exact List.mem_cons_of_mem _ hc
      · rw [if_neg hl2] at hc
        exact S.sep j hj l hl b hb hc
  have none1 : ∀ b, (upd H a (.frz od (.dK vs))) b = none → H b = none := fun b hb => by
    by_cases w : b = a
    · rw [w, upd_same] at hb
      cases hb
    · rw [upd_ne w] at hb
      exact hb
  have frz : ∀ {H4 : Hp}, Fr (fun b => ∃ l ∈ owi, b ∈ As l) (upd H a (.frz od (.dK vs))) H4 → H4 a = some (.frz od (.dK vs)) := fun f => f a _ upd_same fun w => by cases w
  have frU : ∀ {H4 : Hp}, Fr (fun b => ∃ l ∈ owi, b ∈ As l) (upd H a (.frz od (.dK vs))) H4 → Fr (fun b => ∃ l ∈ owi, b ∈ As l) H (upd H4 a (.dK vs)) := fun f b o hb hm => by
    by_cases w : b = a
    · subst w
      rw [ha] at hb
      cases hb
      exact upd_same
    · rw [upd_ne w]
      exact f b o (by rw [upd_ne w]; exact hb) hm
  refine q _ _ pn σ ρ _ _ _ hp T ⟨a, od, vs, hσ, upd_same⟩ ?_
  unfold noX at z
  cases hf : f ρ with
  | stk =>
    rw [hf] at z
    exact z
  | nx r =>
    rw [hf] at z
    intro σ4 H4 As4 T4
    obtain ⟨As5, T5, _, _⟩ := T4.unlock (frz T4.fr) (frU T4.fr) none1
    exact ⟨frz T4.fr, z σ4 _ As5 (S.unbase T5)⟩
  | brk r =>
    rw [hf] at z
    intro σ4 H4 As4 T4
    obtain ⟨As5, T5, _, _⟩ := T4.unlock (frz T4.fr) (frU T4.fr) none1
    exact ⟨frz T4.fr, z σ4 _ As5 (S.unbase T5)⟩
  | cnt r =>
    rw [hf] at z
    intro σ4 H4 As4 T4
    obtain ⟨As5, T5, _, _⟩ := T4.unlock (frz T4.fr) (frU T4.fr) none1
    exact ⟨frz T4.fr, z σ4 _ As5 (S.unbase T5)⟩
  | ret d r =>
    rw [hf] at z
    intro v σ4 H4 As4 A4 T4 r4 n4
    obtain ⟨As5, T5, e5, _⟩ := T4.unlock (frz T4.fr) (frU T4.fr) none1
    obtain ⟨A5, r5, _, eA5⟩ := r4.unlock (frz T4.fr)
    refine ⟨frz T4.fr, z v σ4 _ As5 A5 (S.unbase T5) r5 fun e => ?_⟩
    rw [eA5 (by rw [e]; rfl)]
    refine ⟨(n4 e).1, fun b hb => ⟨S.was2 (((n4 e).2 b hb).1.imp (none1 b) id), fun j hj w => ?_⟩⟩
    rw [e5 j hj] at w
    exact ((n4 e).2 b hb).2 j hj w
  | exc x r =>
    rw [hf] at z
    exact z.elim
def DIP (Pre : L2.St → Env → Hp → (Nat → List Addr) → Prop) (X : Cx) (W : WX) (ow ss : List Nat) (tg iter : Expr) (items : Env → R (List D)) : Prop :=
  ∃ wi, PI X tg iter wi ∧ ∀ σ ρ H As Q, On X ow σ ρ H As → Pre σ ρ H As → GoodI X W σ ow ss H As (items ρ) Q → wi σ H Q
def onlyS (G : Env → Bool) (f : Env → Out) : Env → Out := fun ρ => if G ρ = true then f ρ else .stk
theorem dsp_for {Pre : L2.St → Env → Hp → (Nat → List Addr) → Prop} {items : Env → R (List D)} {is ss ks owl : List Nat} {t : D → Option (List D)} {iter : Expr} (hp : PassesOwn (model X.prog X.w) X.A X.env X.xe) (hc : X.calm = true) (hi : DIP Pre X W ow ss tg iter items) (hg : DG X is tg t)
    (hb : DSs X W { C with owl := owl } owl owl sts f) (h1 : subL owl ow = true) (h2 : disL owl ss = true) (h3 : disL owl is = true) (h4 : disL is (C.io ++ C.pl) = true) (h5 : subL ow' owl = true) (h6 : subL C.owx ow = true)
    (hs : ∀ x, foldedSetIterable iter X.env x = pure x := by intro _; rfl) : DSP Pre X W C ow ow' (.For tg iter sts [] pos) (forS is t ks items f) := by
  obtain ⟨wi, pi, qi⟩ := hi
  obtain ⟨gt, pg, qg⟩ := hg
  obtain ⟨tb, pb, qb⟩ := hb
  refine ⟨_, ps_for hp hc pi pg pb hs, fun H0 M0 pn σ ρ H As Dn hp S pre z => qi σ ρ H As _ ⟨H0, M0, pn, S⟩ pre ?_⟩
  unfold forS at z
  cases hd : items ρ with
  | stk =>
    rw [hd] at z
    exact z
  | exc x =>
    rw [hd] at z
    exact fun c dd H' A sm rp fx => z c dd σ H' As A ((S.same sm).less (subL_mem h6)) rp (S.fx fx)
  | ok xs =>
    rw [hd] at z
    intro J H1 A sm it ok old
    have z : Post X W C H0 M0 pn ow' Dn (turns is t ks f xs (kill ks ρ)) := z
    have S1 := (S.same sm).less (subL_mem h1)
    -- what is walked stands apart from what the body changes
    have nM : ∀ a ∈ A, ¬ ∃ i ∈ owl, a ∈ As i := fun a ha => by
      rintro ⟨i, hi, h⟩
      exact ok i (subL_mem h1 i hi) (disL_mem h2 i hi) a h ha
    obtain ⟨Ak, Sk, hk1, hk2⟩ := Sta.kills ks S1
    have T0 := S1.rebase
    obtain ⟨Al, Sl, _, _⟩ := Sta.kills ks T0
    refine ⟨fun i m σ' H' => i + m = xs.length ∧ ∃ ρ' As', Sta X.K X.mg H1 (fun a => ∃ i ∈ owl, a ∈ As i) pn owl σ' ρ' H' As' ∧ Post X W C H0 M0 pn ow' Dn (turns is t ks f (xs.drop i) ρ'), ⟨xs.length, (by omega), _, _, Sl, z⟩, fun i m σ' H' hW => ?_⟩
    obtain ⟨em, ρ', As', T, zz⟩ := hW
    by_cases hl : i < xs.length
    · refine .inr ⟨it.go _ _ i T.fr nM hl, fun σ2 H2 => ∃ ρ2 As2, Sta X.K X.mg H1 (fun a => ∃ i ∈ owl, a ∈ As i) pn owl σ2 ρ2 H2 As2 ∧ Post X W C H0 M0 pn ow' Dn (turns is t ks f (xs.drop (i + 1)) ρ2), fun σ2 H2 hN => ?_, fun x H2 hy => ?_⟩
      · obtain ⟨ρ2, As2, T2, z2⟩ := hN
        exact ⟨m - 1, by omega, by omega, ρ2, As2, T2, z2⟩
      · obtain ⟨s2, hr⟩ := it.yld _ _ i x H2 T.fr nM hy
        obtain ⟨B, rB, hB⟩ := hr _ (List.getElem?_eq_getElem hl)
        refine qg H2 false x xs[i] B σ' _ rB ?_
        rw [List.drop_eq_getElem_cons hl, turns] at zz
        cases ht : t xs[i] with
        | none =>
          rw [ht] at zz
          exact zz
        | some ds =>
          rw [ht] at zz
          intro vs rl hvl
          have T2 := T.same s2
          have apart : ∀ j ∈ owl, ∀ a ∈ As' j, a ∉ B := fun j hj a ha hb => by
            rcases T.new j hj a ha with w | w
            · exact old a (hB a hb) w
            · exact nM a (hB a hb) w
          obtain ⟨As3, T3⟩ := Sta.putsB is rl hvl T2 (fun i hi => hp i (disL_mem h4 i hi)) (disL_mem h3) apart
          refine qb _ _ pn _ _ H2 As3 _ hp T3 ?_
          dsimp only at zz
          cases hf : f (setsD is ds ρ') with
          | nx r =>
            rw [hf] at zz
            intro σ4 H4 As4 T4
            obtain ⟨As5, T5, _, _⟩ := Sta.kills ks T4
            exact ⟨_, As5, T5, zz⟩
          | cnt r =>
            rw [hf] at zz
            intro σ4 H4 As4 T4
            obtain ⟨As5, T5, _, _⟩ := Sta.kills ks T4
            exact ⟨_, As5, T5, zz⟩
          | brk r =>
            rw [hf] at zz
            intro σ4 H4 As4 T4
            obtain ⟨As5, T5, _, _⟩ := Sta.kills ks T4
            exact zz σ4 H4 As5 ((S1.unbase T5).less (subL_mem h5))
          | ret d r =>
            rw [hf] at zz
            intro v σ4 H4 As4 A4 T4 r4 n4
            exact zz v σ4 H4 As4 A4 (S1.unbase T4) r4 fun e => ⟨(n4 e).1, fun a ha => ⟨S1.was2 ((n4 e).2 a ha).1, ((n4 e).2 a ha).2⟩⟩
          | exc x r =>
            rw [hf] at zz
            intro c dd σ4 H4 As4 A4 T4 r4 fx
            exact zz c dd σ4 H4 As4 A4 (S1.unbase T4) r4 fun a ha => ⟨S1.was2 (fx a ha).1, (fx a ha).2⟩
          | stk =>
            rw [hf] at zz
            exact zz
    · have ei : i = xs.length := by omega
      subst ei
      refine .inl ⟨it.stop _ _ T.fr nM, ?_⟩
      rw [List.drop_length, turns] at zz
      exact zz σ' H' As' ((S1.unbase T).less (subL_mem h5))
theorem dsp_lend {Pre : L2.St → Env → Hp → (Nat → List Addr) → Prop} {G : Env → Bool} {i : Nat} {ps : List Nat} (hG : ∀ H0 M0 pn σ ρ H As, Sta X.K X.mg H0 M0 pn ow σ ρ H As → G ρ = true → Pre σ ρ H As) (h : DSP Pre X W { C with pl := ps ++ C.pl } owi ow1 st f) (hsub : subL owi ow = true) (hi : ow.contains i = true) (hip : ps.contains i = true) (hpo : disL ps owi = true) (hp1 : disL ps ow1 = true) (how : subL ow' (i :: ow1) = true) : DS X W C ow ow' st (onlyS G (lendS ps ow1 f)) := by
  obtain ⟨ts, p, q⟩ := h
  refine ⟨ts, p, fun H0 M0 pn σ ρ H As Dn hp S z => ?_⟩
  unfold onlyS at z
  split at z
  rotate_left
  · exact z.elim
  rename_i hgρ
  have pre := hG _ _ _ _ _ _ _ S hgρ
  have S1 := S.less (subL_mem hsub)
  have hi' := contains_mem.mp hi
  have hip' := contains_mem.mp hip
  have nps : ∀ j ∈ ps, j ∉ owi := disL_mem hpo
  have nps1 : ∀ j ∈ ps, j ∉ ow1 := disL_mem hp1
  -- the pins
  generalize epn : (fun j => if j ∈ ps then (σ[j]?).join else pn j) = pn'
  have pnw : ∀ j v, pn j = some v → pn' j = some v := fun j v e => by
    rw [← epn]
    dsimp only
    split
    · rw [S.pin j v e]
      rfl
    · exact e
  have pnS : ∀ j v, pn' j = some v → σ[j]? = some (some v) := fun j v e => by
    rw [← epn] at e
    dsimp only at e
    split at e
    · exact join_some e
    · exact S.pin j v e
  have hp' : PinOk { C with pl := ps ++ C.pl } pn' := fun j hj => by
    have hj1 : j ∉ C.io ++ (ps ++ C.pl) := hj
    rw [← epn]
    dsimp only
    rw [if_neg (fun w => hj1 (List.mem_append_right _ (List.mem_append_left _ w)))]
    exact hp j fun w => hj1 (by
      rcases List.mem_append.mp w with w | w
      · exact List.mem_append_left _ w
      · exact List.mem_append_right _ (List.mem_append_right _ w))
  have T0 := S1.rebase.withPin pnS
  refine q H _ pn' σ ρ H As Dn hp' T0 pre ?_
  unfold lendS at z
  cases hf : f ρ with
  | stk =>
    rw [hf] at z
    exact z
  | exc x r =>
    rw [hf] at z
    intro c dd σ4 H4 As4 A4 T4 r4 fx
    exact z c dd σ4 H4 As4 A4 (S1.unbase (T4.repin pnw)) r4 fun a ha => ⟨S1.was2 (fx a ha).1, (fx a ha).2⟩
  | ret d r =>
    rw [hf] at z
    intro v σ4 H4 As4 A4 T4 r4 n4
    exact z v σ4 H4 As4 A4 (S1.unbase (T4.repin pnw)) r4 fun e => ⟨(n4 e).1, fun a ha => ⟨S1.was2 ((n4 e).2 a ha).1, ((n4 e).2 a ha).2⟩⟩
  | brk r =>
    rw [hf] at z
    intro σ4 H4 As4 T4
    exact z σ4 H4 As4 (S1.unbase (T4.repin pnw))
  | cnt r =>
    rw [hf] at z
    intro σ4 H4 As4 T4
    exact z σ4 H4 As4 (S1.unbase (T4.repin pnw))
  | nx r =>
    rw [hf] at z
    intro σ4 H4 As4 T4
    -- what is lent stands
    have keep : ∀ j ∈ ps, ∀ a ∈ As j, ¬ ∃ l ∈ owi, a ∈ As l := fun j hj a ha ⟨l, hl, hal⟩ => S1.sep l hl j (fun e => nps j hj (e ▸ hl)) a hal ha
    have iow1 : i ∉ ow1 := nps1 i hip'
    refine z σ4 H4 (fun j => if j ∈ ps then (if j < r.length then As j else []) else if j ∈ ow1 then As4 j else []) (Sta.less (ow := i :: ow1) ?_ (subL_mem how))
    have fr0 : Fr M0 H0 H4 := Fr.base S1 T4.fr
    have hlen : σ4.length = r.length := T4.len
    refine ⟨fr0, fun j d e => ?_, fun j hn => ?_, fun j hj => ?_, fun j hj a ha => ?_, fun j hj l hl a ha hb => ?_, ?_, fun j v e => T4.pin j v (pnw j v e)⟩
    · rw [mixE_at, Nat.zero_add] at e
      split at e
      · rename_i hjl
        by_cases hj : j ∈ ps
        · rw [if_pos (contains_mem.mpr hj)] at e
          have e2 : ρ[j]? = some (some d) := join_some (Option.some.inj e)
          obtain ⟨v, hv, rv⟩ := S.rep j d e2
          refine ⟨v, T4.pin j v (by rw [← epn]; show (if j ∈ ps then (σ[j]?).join else pn j) = _; rw [if_pos hj, hv]; rfl), ?_⟩
          rw [if_pos hj, if_pos hjl]
          have r4 := rv.fr T4.fr (keep j hj)
          refine rep_less r4 fun w => ?_
          rcases List.mem_cons.mp (contains_mem.mp w) with q | q
          · rw [q]
            exact hi
          · exact absurd q (nps1 j hj)
        · rw [if_neg (fun w => hj (contains_mem.mp w))] at e
          by_cases hj1 : j ∈ ow1
          · rw [if_pos (contains_mem.mpr hj1)] at e
            obtain ⟨v, hv, rv⟩ := T4.rep j d (join_some (Option.some.inj e))
            refine ⟨v, hv, ?_⟩
            rw [if_neg hj, if_pos hj1]
            exact rep_less rv fun w => contains_mem.mpr hj1
          · rw [if_neg (fun w => hj1 (contains_mem.mp w))] at e
            cases e
      · cases e
    · by_cases hj : j ∈ ps
      · rw [if_pos hj]
        by_cases hjl : j < r.length
        · rw [if_pos hjl]
          refine S.dead j fun d e => hn d ?_
          rw [mixE_at, Nat.zero_add, if_pos hjl, if_pos (contains_mem.mpr hj), e]
          rfl
        · rw [if_neg hjl]
      · rw [if_neg hj]
        by_cases hj1 : j ∈ ow1
        · rw [if_pos hj1]
          refine T4.dead j fun d e => hn d ?_
          rw [mixE_at, Nat.zero_add, if_pos (List.getElem?_eq_some_iff.mp e).1, if_neg (fun w => hj (contains_mem.mp w)), if_pos (contains_mem.mpr hj1), e]
          rfl
        · rw [if_neg hj1]
    · rcases List.mem_cons.mp hj with hj | hj
      · rw [hj, if_pos hip']
        split
        · exact S.nd i hi'
        · exact List.nodup_nil
      · rw [if_neg (fun w => nps1 j w hj), if_pos hj]
        exact T4.nd j hj
    · rcases List.mem_cons.mp hj with hj | hj
      · rw [hj, if_pos hip'] at ha
        split at ha
        · exact S.new i hi' a ha
        · cases ha
      · rw [if_neg (fun w => nps1 j w hj), if_pos hj] at ha
        exact S1.was2 (T4.new j hj a ha)
    · have older : ∀ l ∈ ps, ∀ a ∈ As l, ∀ j ∈ ow1, a ∉ As4 j := fun l hl a ha j hj hA => by
        rcases T4.new j hj a hA with w | w
        · exact S.old ha w
        · exact keep l hl a ha w
      rcases List.mem_cons.mp hj with hj | hj
      · rw [hj, if_pos hip'] at ha
        split at ha
        · by_cases hlp : l ∈ ps
          · rw [if_pos hlp] at hb
            split at hb
            · exact S.sep i hi' l (fun e => hl (e.trans hj.symm)) a ha hb
            · cases hb
          · rw [if_neg hlp] at hb
            split at hb
            · rename_i hl1
              exact older i hip' a ha l hl1 hb
            · cases hb
        · cases ha
      · rw [if_neg (fun w => nps1 j w hj), if_pos hj] at ha
        by_cases hlp : l ∈ ps
        · rw [if_pos hlp] at hb
          split at hb
          · exact older l hlp a hb j hj ha
          · cases hb
        · rw [if_neg hlp] at hb
          split at hb
          · exact T4.sep j hj l hl a ha hb
          · cases hb
    · rw [mixE_len]
      exact hlen
/-! ### for x in d, for x in d.values() -/
def isDct (i : Nat) (ρ : Env) : Bool := match ρ[i]? with
  | some (some (.dict kvs)) => !tagD kvs
  | _ => false
theorem apart_of {i : Nat} (hi : i ∈ ow) (H0 : Hp) (M0 : Addr → Prop) (pn : Nat → Option V) (σ : L2.St) (ρ : Env) (H : Hp) (As : Nat → List Addr) (S : Sta X.K X.mg H0 M0 pn ow σ ρ H As) (hd : isDct i ρ = true) : Apart X i σ ρ H As := by
  unfold isDct at hd
  split at hd
  · rename_i kvs hρ
    obtain ⟨v, hv, r⟩ := S.rep i _ hρ
    rw [contains_mem.mpr hi] at r
    have hz := S.nd i hi
    have hs := S.sep i hi
    generalize eA : As i = A at r hz hs
    generalize ed : PyData.dict kvs = w at r
    cases r with
    | dct h1 l1 =>
      injection ed with e1
      subst e1
      exact ⟨_, _, kvs, _, hv, hρ, h1, l1.weak, eA, (List.nodup_cons.mp hz).1, fun j hj => hs j hj _ List.mem_cons_self⟩
    | ins h1 h2 l1 =>
      injection ed with e1
      subst e1
      cases hd
    | exn h1 h2 l1 =>
      injection ed with e1
      subst e1
      cases hd
    | _ => cases ed
  · cases hd
def dVals : D → R (List D)
  | .dict kvs => if tagD kvs = true then .stk else .ok (kvs.map (·.2))
  | _ => .stk
def dKeys : D → R (List D)
  | .dict kvs => if tagD kvs = true then .stk else .ok (kvs.map (·.1))
  | _ => .stk
def valsE (f : Env → R D) : Env → R (List D) := fun ρ => (f ρ).bind dVals
def keysE (f : Env → R D) : Env → R (List D) := fun ρ => (f ρ).bind dKeys
theorem RepP.vals {K : PySem.W.Frag} {mg : Str → Option Value} {H : Hp} {o : Bool} : ∀ {vs : List (Key × V)} {ds : List (D × D)} {A : List Addr}, RepP K mg H o vs ds A → RepL K mg H o (vs.map (·.2)) (ds.map (·.2)) A
  | _, _, _, .nil => .nil
  | _, _, _, .cons h r => .cons h r.vals
theorem RepP.keys {K : PySem.W.Frag} {mg : Str → Option Value} {H : Hp} {o : Bool} : ∀ {vs : List (Key × V)} {ds : List (D × D)} {A : List Addr}, RepP K mg H o vs ds A → ds.map (·.1) = vs.map fun p => kD p.1
  | _, _, _, .nil => rfl
  | _, _, _, .cons h r => by
    rw [List.map_cons, List.map_cons, r.keys]
theorem it_vals {H1 : Hp} {a : Addr} {od : Obj} {vs : List (Key × V)} {xs : List D} {A : List Addr} (hs : H1 a = some (.frz od (.dK vs))) (l : RepL X.K X.mg H1 false (vs.map (·.2)) xs A) : ItOk X (Itd a od vs) xs H1 A where
  go M H i f n h := by
    refine ⟨f _ _ hs (fun z => by cases z), ?_⟩
    rw [← l.len, List.length_map] at h
    exact h
  yld M H i x H' f n h := by
    obtain ⟨rfl, k, hk⟩ := h
    refine ⟨Same.refl _, fun d hd => ?_⟩
    obtain ⟨y, C, hy, r, hc⟩ := (l.fr f n).get hd
    rw [List.getElem?_map, hk] at hy
    cases hy
    exact ⟨C, r, hc⟩
  stop M H f n := ⟨f _ _ hs (fun z => by cases z), by rw [← l.len, List.length_map]; exact Nat.le_refl _⟩
theorem rep_kV {K : PySem.W.Frag} {mg : Str → Option Value} {H : Hp} {o : Bool} (k : Key) : Rep K mg H o (kV k) (kD k) [] := by
  cases k with
  | inl i => exact .int i
  | inr x => exact .str x
theorem it_keys {H1 : Hp} {a : Addr} {od : Obj} {vs : List (Key × V)} (hs : H1 a = some (.frz od (.dK vs))) : ItOk X (Itk a od vs) (vs.map fun p => kD p.1) H1 [] where
  go M H i f n h := by
    refine ⟨f _ _ hs (fun z => by cases z), ?_⟩
    rw [List.length_map] at h
    exact h
  yld M H i x H' f n h := by
    obtain ⟨rfl, k, v, hk, rfl⟩ := h
    refine ⟨Same.refl _, fun d hd => ?_⟩
    rw [List.getElem?_map, hk] at hd
    cases hd
    exact ⟨[], rep_kV k, fun b hb => by cases hb⟩
  stop M H f n := ⟨f _ _ hs (fun z => by cases z), by rw [List.length_map]; exact Nat.le_refl _⟩
/-- a locked dict of the slot i -/
theorem dct_locked {i : Nat} {K : PySem.W.Frag} {mg : Str → Option Value} {H : Hp} {o : Bool} {a : Addr} {od : Obj} {ws : List (Key × V)} {kvs : List (D × D)} {A : List Addr} (r : Rep K mg H o (.ref a) (.dict kvs) A) (ht : ¬ tagD kvs = true) (h : H a = some (.frz od (.dK ws))) : RepP K mg H false ws kvs A := by
  obtain ⟨b, vs, A', e, l, hA, w⟩ := rep_dictN r (Bool.eq_false_iff.mpr ht)
  cases e
  generalize ed : PyData.dict kvs = q at r
  cases r with
  | dct h1 l1 =>
    rw [h] at h1
    cases h1
  | dctF h1 l1 =>
    injection ed with e1
    subst e1
    rw [h] at h1
    cases h1
    exact l1
  | lstF h1 l1 =>
    injection ed with e1
    subst e1
    exact absurd rfl ht
  | ins h1 h2 l1 =>
    injection ed with e1
    subst e1
    exact absurd rfl ht
  | exn h1 h2 l1 =>
    injection ed with e1
    subst e1
    exact absurd rfl ht
  | _ => cases ed
theorem dip_vals {i : Nat} {p3 : Pos} (h : PE X e (tVar i)) (hbase : attributeBase e "values" X.env (eval e X.env) = eval e X.env := by rfl) (hline : (p3.endLine == p2.line) = true := by rfl) :
    DIP (Lkd i) X W ow [i] tg (.Call (.Attribute e "values" p3) [] [] p2) (valsE (vr i)) := by
  refine ⟨_, pi_values h hbase hline, fun σ ρ H As Q S pre z => ?_⟩
  obtain ⟨a, od, ws, hσ, ha⟩ := pre
  obtain ⟨H0, M0, pn, S⟩ := S
  unfold valsE vr at z
  split at z
  · rename_i d hd
    rw [R.bind_ok] at z
    obtain ⟨v, hv, r⟩ := S.rep i d hd
    rw [hσ] at hv
    cases hv
    refine ⟨_, hσ, a, od, ws, rfl, ha, ?_⟩
    unfold dVals at z
    split at z
    · split at z
      · exact z.elim
      · rename_i ht
        have l := (dct_locked (i := i) r ht ha)
        refine z _ H (As i) (Same.refl _) ?_ ?_ (fun b hb => S.old hb)
        · obtain ⟨B, l2, hB⟩ : ∃ B, RepL X.K X.mg H false (ws.map (·.2)) (_ : List D) B ∧ ∀ b ∈ B, b ∈ As i := ⟨As i, l.vals, fun b hb => hb⟩
          exact it_vals ha l.vals
        · intro j hj hn b hb hb2
          exact S.sep j hj i (fun e => hn (by rw [e]; exact List.mem_singleton.mpr rfl)) b hb hb2
    · exact z.elim
  · exact z.elim
theorem dip_keys {i : Nat} (h : PE X e (tVar i)) : DIP (Lkd i) X W ow [i] tg e (keysE (vr i)) := by
  refine ⟨_, pi_keys h, fun σ ρ H As Q S pre z => ?_⟩
  obtain ⟨a, od, ws, hσ, ha⟩ := pre
  obtain ⟨H0, M0, pn, S⟩ := S
  unfold keysE vr at z
  split at z
  · rename_i d hd
    rw [R.bind_ok] at z
    obtain ⟨v, hv, r⟩ := S.rep i d hd
    rw [hσ] at hv
    cases hv
    refine ⟨_, hσ, a, od, rfl, .inl ⟨ws, ha, ?_⟩⟩
    unfold dKeys at z
    split at z
    · split at z
      · exact z.elim
      · rename_i ht
        have l := (dct_locked (i := i) r ht ha)
        rw [l.keys] at z
        exact z _ H [] (Same.refl _) (it_keys ha) (fun j hj hn b hb hb2 => by cases hb2) (fun b hb => by cases hb)
    · exact z.elim
  · exact z.elim
/-- for x in d.values() / for k in d, d the slot i of one's own: the body sees it, and it comes back -/
theorem ds_forD {i : Nat} {ps is ss ks owl owi : List Nat} {items : Env → R (List D)} {t : D → Option (List D)} {iter : Expr} (hp : PassesOwn (model X.prog X.w) X.A X.env X.xe) (hc : X.calm = true) (hi : DIP (Lkd i) X W owi ss tg iter items) (hg : DG X is tg t)
    (hb : DSs X W { C with owl := owl, pl := ps ++ C.pl } owl owl sts f) (h1 : subL owl owi = true) (h2 : disL owl ss = true) (h3 : disL owl is = true) (h4 : disL is (C.io ++ (ps ++ C.pl)) = true) (h5 : subL ow1 owl = true) (h6 : subL C.owx owi = true)
    (hsub : subL owi ow = true) (hio : ow.contains i = true) (hip : ps.contains i = true) (hpo : disL ps owi = true) (hp1 : disL ps ow1 = true) (how : subL ow' (i :: ow1) = true)
    (hs : ∀ x, foldedSetIterable iter X.env x = pure x := by intro _; rfl) : DS X W C ow ow' (.For tg iter sts [] pos) (onlyS (isDct i) (lendS ps ow1 (noX (forS is t ks items f)))) :=
  dsp_lend (apart_of (contains_mem.mp hio)) (dsp_lock (dsp_for (C := { C with pl := ps ++ C.pl }) hp hc hi hg hb h1 h2 h3 h4 h5 h6 hs) (disL_mem hpo i (contains_mem.mp hip))) hsub hio hip hpo hp1 how
end
end Dg

namespace Dg
open PySem PySem.Spec PyProof.Rows L2
/-! ### len of a dict -/
def dLenD (ds : List D) : R D := match ds with
  | [.dict kvs] => if tagD kvs = true then .stk else .ok (.int kvs.length)
  | _ => .stk
section
variable {X : Cx}
theorem cr_lenD : CallR X (.builtin "len") (fun xs H Q => ∃ a kvs, xs = [V.ref a] ∧ Rd H a (.dK kvs) ∧ Q (.int kvs.length) H) := by
  intro pins s σ H xs us Q I r h
  obtain ⟨a, kvs, rfl, ha, q⟩ := h
  obtain ⟨u, rfl, ru⟩ := vals1 r
  cases ru
  exact d_len I ha fun t s' I' => ⟨.int kvs.length, H, I', ⟨t, rfl⟩, q⟩
theorem call_dLenD : CallD X (.builtin "len") dLenD := by
  refine ⟨_, cr_lenD, fun xs z h => ?_, fun H xs ds A Q r h => ?_⟩
  · unfold dLenD at h
    split at h
    · split at h <;> cases h
    · cases h
  · unfold dLenD at h
    split at h
    · split at h
      · exact h.elim
      · rename_i ht
        cases r with
        | cons r1 r2 =>
          cases r2
          obtain ⟨a, vs, A', rfl, l1, _, hp⟩ := rep_dictN r1 (Bool.eq_false_iff.mpr ht)
          refine ⟨a, vs, rfl, ?_, ?_⟩
          · rcases hp with ⟨w, _⟩ | ⟨u, w⟩
            · exact .inl w
            · exact .inr ⟨u, w⟩
          · rw [l1.len]
            exact fresh_imm (fun _ _ _ => .int _) h
    · exact h.elim
end
end Dg

namespace Dg
open PySem PySem.Spec PyProof.Rows L2
/-! ### list(d.values()) -/
theorem kv_vals {κ : Type} {kvs : List (κ × V)} {vs : List (κ × Value)} (r : KV kvs vs) : Vals (kvs.map (·.2)) (vs.map (·.2)) := by
  unfold KV at r
  induction r with
  | nil => exact .nil
  | cons r t ih => exact .cons r.2 ih
def tListVals (td : TE) : TE := fun σ H Q => td σ H fun x H1 => ∃ a kvs, x = V.ref a ∧ Rd H1 a (.dK kvs) ∧ ∀ p, H1 p = none → Q (.ref p) (upd H1 p (.lst (kvs.map (·.2))))
section
variable {X : Cx} {W : WX} {ow : List Nat} {k : Kd} {o : Expr} {td : TE} {den : Env → R D} {p pos apos mpos : Pos}
theorem pe_listVals (hc : X.calm = true) (hg : Gl X "list") (hm : X.mg "list" = none) (hd : PE X o td) (hbase : attributeBase o "values" X.env (eval o X.env) = eval o X.env := by rfl) (hline : (apos.endLine == mpos.line) = true := by rfl)
    (hse : starEach [Expr.Call (.Attribute o "values" apos) [] [] mpos] X.env = [(false, eval (Expr.Call (.Attribute o "values" apos) [] [] mpos) X.env)] := by rfl) :
    PE X (.Call (.Name "list" p) [.Call (.Attribute o "values" apos) [] [] mpos] [] pos) (tListVals td) := by
  refine ⟨fun pins s σ H Q I h => ?_⟩
  refine wpAny_Call_Name_kw (ld_blt I hg hm (u := .type "list") (by first | rfl | decide +kernel) ?_ (by first | decide +kernel | decide) (by first | decide +kernel | decide))
  rw [hse]
  refine PySem.callWith_type1 (wpAny_Call_method0_late hbase hline (thn (hd.run pins s σ H _ I h) fun v s1 ⟨x, H1, I1, r1, a, kvs, ex, ha, q⟩ => ?_))
  subst ex
  obtain rfl : v = Value.ref a := r1
  obtain ⟨hz, hsys, vs, rel, dof⟩ := dk_rd I1.hok ha
  obtain ⟨ep, dat⟩ := dof.dictAt
  obtain ⟨ob, es, ho, ex, hdat, hko, hpr, hnd⟩ := id dat
  refine ⟨"dict", "dict.values", F.plainAttrs_dict, F.slot_dict_values, F.type_dict_values, ⟨ob, ho, ex.1⟩, fun b e => ?_, Calls.callWith_builtin rfl (PySem.evalArgs_none ?_)⟩
  · cases e
    exact ⟨ob, ho, ex.2.1⟩
  refine call_meetsIn F.slot_dict_values ⟨ob, ho, ex.1⟩ F.entry_dict_values (F.args_dict_values_1 _) (meets_dict_values (mixKind X.prog X.w) a hsys) ⟨⟨vs, dof⟩, ?_⟩
  have up : ∀ b u, s1.heap.get? b = some u → (s1.heap.push { cls := .type "dict_values", data := .fields #[.ref a] }).get? b = some u := fun b u e => Heap.get?_push_of_some _ e
  have I2 : Inv X pins σ H1 { s1 with heap := s1.heap.push { cls := .type "dict_values", data := .fields #[.ref a] } } := I1.kept (t' := s1.toks) up
  have hl : kvs.length = vs.length := KV.length rel
  refine PySem.W.kdl_call (PySem.W.kdl_values (knd := mixKind X.prog X.w) (d := a) (r := s1.heap.objs.size) (kvs := vs) (ep := ep)) (I2.ok.hd hc) ⟨⟨_, Heap.get?_push_size _ rfl, rfl, rfl⟩, dat.keep up⟩ (by rw [← hl]; exact hz) fun h' tk acc c k hp hacc => ?_
  have ea : acc.toList = vs.map (·.2) := PySem.W.kdl_vals_eq acc.toList (by rw [Array.length_toList]; exact hacc.1) fun j v e => hacc.2 j v (by rw [← Array.getElem?_toList]; exact e)
  have new : ObjOk X.prog X.w (upd H1 (s1.heap.push { cls := .type "dict_values", data := .fields #[.ref a] }).objs.size (.lst (kvs.map (·.2)))) h' (s1.heap.push { cls := .type "dict_values", data := .fields #[.ref a] }).objs.size (.lst (kvs.map (·.2))) :=
    ⟨by rw [List.length_map]; exact hz, vs.map (·.2), c, kv_vals rel, by rw [← ea, Array.toArray_toList]; exact hp⟩
  exact ⟨.ref _, _, I2.laid (t' := tk) k (Nat.le_refl _) new, rfl, q _ (I2.hok.fresh (Nat.le_refl _))⟩
def dListVals : D → R D
  | .dict kvs => if (!tagD kvs && immL (kvs.map (·.2))) = true then .ok (.list (kvs.map (·.2))) else .stk
  | _ => .stk
theorem de_listVals (hc : X.calm = true) (hm : X.mg "list" = none) (h : DE X W ow k o den) (hg : Gl X "list" := by rfl) (hbase : attributeBase o "values" X.env (eval o X.env) = eval o X.env := by rfl) (hline : (apos.endLine == mpos.line) = true := by rfl)
    (hse : starEach [Expr.Call (.Attribute o "values" apos) [] [] mpos] X.env = [(false, eval (Expr.Call (.Attribute o "values" apos) [] [] mpos) X.env)] := by rfl) :
    DE X W ow (.own []) (.Call (.Name "list" p) [.Call (.Attribute o "values" apos) [] [] mpos] [] pos) (b1 dListVals den) := by
  obtain ⟨te, pe, q⟩ := h
  refine ⟨_, pe_listVals hc hg hm pe hbase hline hse, fun σ ρ H As Q S z => q σ ρ H As _ S ?_⟩
  unfold b1 at z
  cases hd : den ρ with
  | stk =>
    rw [hd] at z
    exact z
  | exc x =>
    rw [hd] at z
    exact z
  | ok d =>
    rw [hd, R.bind_ok] at z
    intro v H1 A sm rp ok
    unfold dListVals at z
    split at z
    · split at z
      · rename_i kvs hz
        rw [Bool.and_eq_true, Bool.not_eq_true'] at hz
        obtain ⟨a, vs, A', rfl, l1, _, hp⟩ := rep_dictN rp.weak hz.1
        refine ⟨a, vs, rfl, ?_, fun p hp2 => ?_⟩
        · rcases hp with ⟨w, _⟩ | ⟨u, w⟩
          · exact .inl w
          · exact .inr ⟨u, w⟩
        · obtain ⟨_, l2⟩ := l1.vals.imm hz.2
          exact fresh_list l2 (fresh_good sm z (fun x e => by cases e)) p hp2
      · exact z.elim
    · exact z.elim
end
end Dg

namespace Dg
open PySem PySem.Spec PyProof.Rows L2
/-! ### comprehensions over a dict -/
def DEP (Pre : L2.St → Env → Hp → (Nat → List Addr) → Prop) (X : Cx) (W : WX) (ow : List Nat) (k : Kd) (e : Expr) (den : Env → R D) : Prop :=
  ∃ te, PE X e te ∧ ∀ σ ρ H As Q, On X ow σ ρ H As → Pre σ ρ H As → Good X W σ ow k H As (den ρ) Q → te σ H Q
def onlyE (G : Env → Bool) (f : Env → R D) : Env → R D := fun ρ => if G ρ = true then (f ρ).nox else .stk
section
variable {X : Cx} {W : WX} {C : Cfg} {ow ow' owi ow1 ow2 : List Nat} {k k1 k2 k3 : Kd} {e a b c tg elt : Expr} {st : Stmt} {sts sts2 : List Stmt} {den d1 d2 : Env → R D} {f g : Env → Out} {pos p2 : Pos}
theorem de_lock {i : Nat} (h : DEP (Lkd i) X W owi (.own []) e den) (hio : ow.contains i = true) (hsub : subL owi ow = true) (hni : owi.contains i = false) : DE X W ow (.own []) e (onlyE (isDct i) den) := by
  obtain ⟨te, p, q⟩ := h
  refine ⟨_, pe_lock p, fun σ ρ H As Q S z => ?_⟩
  unfold onlyE at z
  split at z
  rotate_left
  · exact z.elim
  rename_i hd
  have hi : i ∉ owi := fun w => by
    rw [contains_mem.mpr w] at hni
    cases hni
  obtain ⟨H0, M0, pn, S⟩ := S
  obtain ⟨a, vs, kvs, B, hσ, hρ, ha, hB, eA, naB, hsep⟩ := apart_of (contains_mem.mp hio) _ _ _ _ _ _ _ S hd
  refine ⟨a, .dK vs, ha, trivial, fun od => ?_⟩
  have S := S.less (subL_mem hsub)
  have fr1 : Fr (fun b => b = a) H (upd H a (.frz od (.dK vs))) := fr_lock ha rfl
  have T : Sta X.K X.mg (upd H a (.frz od (.dK vs))) (fun b => ∃ l ∈ owi, b ∈ As l) pn owi σ ρ (upd H a (.frz od (.dK vs))) (fun j => if j = i then B else As j) := by
    refine ⟨Fr.refl _ _, fun j d e => ?_, fun j hn => ?_, fun j hj => ?_, fun j hj b hb => ?_, fun j hj l hl b hb hc => ?_, S.len, S.pin⟩
    · by_cases hj : j = i
      · subst hj
        rw [hρ] at e
        cases e
        refine ⟨_, hσ, ?_⟩
        rw [if_pos rfl, Bool.eq_false_iff.mpr fun w => hi (contains_mem.mp w)]
        exact .dctF upd_same (hB.fr fr1 fun b hb w => naB (w ▸ hb))
      · obtain ⟨v, hv, r⟩ := S.rep j d e
        rw [if_neg hj]
        exact ⟨v, hv, r.fr fr1 fun b hb w => hsep j hj (w ▸ hb)⟩
    · by_cases hj : j = i
      · subst hj
        exact absurd hρ (hn _)
      · rw [if_neg hj]
        exact S.dead j hn
    · rw [if_neg (fun (w : j = i) => hi (w ▸ hj))]
      exact S.nd j hj
    · rw [if_neg (fun (w : j = i) => hi (w ▸ hj))] at hb
      exact .inr ⟨j, hj, hb⟩
    · rw [if_neg (fun (w : j = i) => hi (w ▸ hj))] at hb
      by_cases hl2 : l = i
      · rw [if_pos hl2] at hc
        refine S.sep j hj l hl b hb ?_
        rw [hl2, eA]
        exact List.mem_cons_of_mem _ hc
      · rw [if_neg hl2] at hc
        exact S.sep j hj l hl b hb hc
  have none1 : ∀ b, (upd H a (.frz od (.dK vs))) b = none → H b = none := fun b hb => by
    by_cases w : b = a
    · rw [w, upd_same] at hb
      cases hb
    · rw [upd_ne w] at hb
      exact hb
  refine q σ ρ _ _ _ ⟨_, _, _, T⟩ ⟨a, od, vs, hσ, upd_same⟩ ?_
  cases hf : den ρ with
  | stk =>
    rw [hf] at z
    exact z
  | exc x =>
    rw [hf] at z
    exact z.elim
  | ok d =>
    rw [hf] at z
    intro v H4 A4 sm r4 ok
    have h4 : H4 a = some (.frz od (.dK vs)) := sm a _ upd_same
    refine ⟨h4, ?_⟩
    obtain ⟨A5, r5, _, e5⟩ := r4.unlock h4
    rw [e5 rfl] at r5
    refine z v _ A4 (fun b o hb => ?_) r5 ⟨ok.1, (fun j hj => by cases hj), fun b hb => ?_⟩
    · by_cases w : b = a
      · subst w
        rw [ha] at hb
        cases hb
        exact upd_same
      · rw [upd_ne w]
        exact sm b o (by rw [upd_ne w]; exact hb)
    · rcases ok.2.2 b hb with w | ⟨j, hj, _⟩
      · exact .inl (none1 b w)
      · cases hj
theorem comp_at {items : Env → R (List D)} {is ss : List Nat} {t : D → Option (List D)} {c : Env → R Bool} {el : Env → R D} {wi : TI} {gt : TG} {tt : TT} {te : TE}
    (qg : ∀ H o v d A σ Q, Rep X.K X.mg H o v d A → (match t d with
      | some ds => ∀ vs, RepL X.K X.mg H o vs ds A → vs.length = is.length → Q (setsV is vs σ) H
      | none => False) → gt v σ H Q)
    (qt : ∀ σ ρ H As Q, On X ow2 σ ρ H As → GoodT X noW σ H (c ρ) Q → tt σ H Q)
    (qe : ∀ σ ρ H As Q, On X ow2 σ ρ H As → Good X noW σ ow2 (.own []) H As (el ρ) Q → te σ H Q)
    (h1 : subL ow2 ow = true) (h2 : disL ow2 ss = true) (h3 : disL ow2 is = true)
    {σ : L2.St} {ρ : Env} {H : Hp} {As : Nat → List Addr} {Q : VK} (qi : ∀ Q, GoodI X W σ ow ss H As (items ρ) Q → wi σ H Q) (S : On X ow σ ρ H As) (z : Good X W σ ow (.own []) H As (compE is t items c el ρ) Q) : tLc wi gt tt te is σ H Q := by
  refine qi _ ?_
  unfold compE at z
  cases hd : items ρ with
  | stk =>
    rw [hd] at z
    exact z
  | exc x =>
    rw [hd] at z
    exact z
  | ok xs =>
    rw [hd, R.bind_ok] at z
    intro J H1 A sm it ok old Dd hD
    by_cases hz : xs.length ≤ sizeLine
    · rw [if_pos hz] at z
      cases hg : compGo is t c el (kill is ρ) xs with
      | stk =>
        rw [hg] at z
        exact z.elim
      | exc x =>
        -- no exception comes out
        exfalso
        clear z
        have no : ∀ (xs : List D) x, compGo is t c el (kill is ρ) xs ≠ .exc x := by
          intro xs
          induction xs with
          | nil =>
            intro x h
            cases h
          | cons y ys ih =>
            intro x h
            unfold compGo at h
            cases ht : t y with
            | none =>
              rw [ht] at h
              cases h
            | some ds =>
              rw [ht] at h
              dsimp only at h
              cases hc : c (setsD is ds (kill is ρ)) with
              | stk =>
                rw [hc] at h
                cases h
              | exc x =>
                rw [hc] at h
                cases h
              | ok b =>
                rw [hc] at h
                cases b with
                | false => exact ih x h
                | true =>
                  change R.bind (R.nox (el (setsD is ds (kill is ρ)))) _ = _ at h
                  cases he : el (setsD is ds (kill is ρ)) with
                  | stk =>
                    rw [he] at h
                    cases h
                  | exc x =>
                    rw [he] at h
                    cases h
                  | ok y =>
                    rw [he] at h
                    cases hh : compGo is t c el (kill is ρ) ys with
                    | stk =>
                      rw [hh] at h
                      cases h
                    | exc x => exact ih x hh
                    | ok zs =>
                      rw [hh] at h
                      cases h
        exact no xs x hg
      | ok ys =>
        rw [hg, R.bind_ok] at z
        have S1 := S.same sm
        have sm0 : Same H1 (upd H1 Dd (.lst [])) := same_upd hD
        -- the turns
        refine ⟨fun i m H' => i + m = xs.length ∧ ∃ us, Cmp X H1 Dd us H' ∧ us.length ≤ i ∧ ∃ rest, compGo is t c el (kill is ρ) (xs.drop i) = .ok rest ∧ us ++ rest = ys, ⟨xs.length, by omega, [], ⟨sm0, [], [], upd_same, .nil, List.nodup_nil, fun a ha => by cases ha⟩, Nat.le_refl _, ys, hg, rfl⟩, fun i m H' hW => ?_⟩
        obtain ⟨em, us, ⟨smD, acc, Aa, hacc, racc, nda, nwa⟩, hlen, rest, hrest, hall⟩ := hW
        have f0 : Fr (fun _ => False) H1 H' := Fr.of_same smD
        by_cases hl : i < xs.length
        · refine .inr ⟨it.go _ _ i f0 (fun _ _ w => w) hl, fun H2 => ∃ us, Cmp X H1 Dd us H2 ∧ us.length ≤ i + 1 ∧ ∃ rest, compGo is t c el (kill is ρ) (xs.drop (i + 1)) = .ok rest ∧ us ++ rest = ys, fun H2 hN => ?_, fun x H2 hy => ?_⟩
          · obtain ⟨us', c1, c2, c3⟩ := hN
            exact ⟨m - 1, by omega, by omega, us', c1, c2, c3⟩
          · obtain ⟨s2, hr⟩ := it.yld _ _ i x H2 f0 (fun _ _ w => w) hy
            obtain ⟨B, rB, hB⟩ := hr _ (List.getElem?_eq_getElem hl)
            refine qg H2 false x xs[i] B (wipe σ is) _ rB ?_
            rw [List.drop_eq_getElem_cons hl, compGo] at hrest
            cases ht : t xs[i] with
            | none =>
              rw [ht] at hrest
              cases hrest
            | some ds =>
              rw [ht] at hrest
              dsimp only at hrest
              intro vs rl hvl
              refine ⟨wipe_sets is vs σ, ?_⟩
              -- the block's state
              obtain ⟨As2, S2, hA2⟩ := On.wiped is ((S1.same smD).same s2) (subL_mem h1)
              have S3 : ∃ As3, On X ow2 (setsV is vs (wipe σ is)) (setsD is ds (kill is ρ)) H2 As3 := by
                obtain ⟨G0, M0, pn, T⟩ := S2
                have T' : Sta X.K X.mg G0 M0 (fun _ => none) ow2 (wipe σ is) (kill is ρ) H2 As2 := ⟨T.fr, T.rep, T.dead, T.nd, T.new, T.sep, T.len, fun j v w => by cases w⟩
                obtain ⟨As3, T3⟩ := Sta.putsB is rl hvl T' (fun _ _ => rfl) (disL_mem h3) (fun j hj a ha hb => by
                  rcases hA2 j with e | e
                  · rw [e] at ha
                    exact ok j (subL_mem h1 j hj) (disL_mem h2 j hj) a ha (hB a hb)
                  · rw [e] at ha
                    cases ha)
                exact ⟨As3, G0, M0, _, T3⟩
              obtain ⟨As3, S3⟩ := S3
              refine qt _ _ H2 As3 _ S3 (nox_goodT ?_)
              cases hc : (c (setsD is ds (kill is ρ))).nox with
              | stk =>
                rw [hc] at hrest
                cases hrest
              | exc x =>
                rw [hc] at hrest
                cases hrest
              | ok b =>
                rw [hc, R.bind_ok] at hrest
                intro H3 s3
                cases b with
                | false =>
                  rw [if_neg Bool.false_ne_true] at hrest
                  refine iteF ⟨us, ⟨smD.trans (s2.trans s3), acc, Aa, s3 _ _ (s2 _ _ hacc), (racc.same s2).same s3, nda, nwa⟩, Nat.le_succ_of_le hlen, rest, hrest, hall⟩
                | true =>
                  rw [if_pos rfl] at hrest
                  refine iteT (qe _ _ H3 As3 _ (S3.same s3) (nox_good ?_))
                  cases he : (el (setsD is ds (kill is ρ))).nox with
                  | stk =>
                    rw [he] at hrest
                    cases hrest
                  | exc x =>
                    rw [he] at hrest
                    cases hrest
                  | ok y =>
                    rw [he, R.bind_ok] at hrest
                    cases hgo : compGo is t c el (kill is ρ) (xs.drop (i + 1)) with
                    | stk =>
                      rw [hgo] at hrest
                      cases hrest
                    | exc x =>
                      rw [hgo] at hrest
                      cases hrest
                    | ok zs =>
                      rw [hgo, R.bind_ok] at hrest
                      cases hrest
                      intro v H4 A4 s4 r4 k4
                      have hD4 : H4 Dd = some (.lst acc) := s4 _ _ (s3 _ _ (s2 _ _ hacc))
                      have f4 : Fr (fun a => a = Dd) H4 (upd H4 Dd (.lst (acc ++ [v]))) := fun a o h hm => by
                        by_cases e : a = Dd
                        · subst e
                          rw [hD4] at h
                          cases h
                          exact absurd rfl (hm rfl)
                        · rw [upd_ne e]
                          exact h
                      have n4 : ∀ a ∈ A4, H3 a = none := fun a ha => (k4.2.2 a ha).resolve_right fun ⟨j, hj, _⟩ => by cases hj
                      have dD : ∀ a ∈ A4, a ≠ Dd := fun a ha e => by
                        have := n4 a ha
                        rw [e, s3 _ _ (s2 _ _ hacc)] at this
                        cases this
                      refine ⟨acc, hD4, ?_, us ++ [y], ⟨fun a o h => ?_, acc ++ [v], Aa ++ A4, upd_same, ?_, ?_, ?_⟩, ?_, zs, rfl, ?_⟩
                      · have := racc.len
                        omega
                      · have h4 := s4 _ _ (s3 _ _ (s2 _ _ (smD a o h)))
                        rw [upd_ne (ne_of_none h hD)]
                        exact h4
                      · have r1 := (((racc.same s2).same s3).same s4).fr f4 fun a ha => (nwa a ha).2
                        have r2 := RepL.one (r4.fr f4 dD)
                        exact r1.app r2
                      · refine List.nodup_append.mpr ⟨nda, k4.1, fun a ha b hb e => ?_⟩
                        subst e
                        have := n4 a hb
                        exact ((racc.same s2).same s3).old ha this
                      · intro a ha
                        rcases List.mem_append.mp ha with w | w
                        · exact nwa a w
                        · exact ⟨(smD.trans (s2.trans s3)).free (n4 a w), dD a w⟩
                      · rw [List.length_append, List.length_singleton]
                        omega
                      · rw [List.append_assoc]
                        exact hall
        · have ei : i = xs.length := by omega
          subst ei
          refine .inl ⟨it.stop _ _ f0 (fun _ _ w => w), ?_⟩
          rw [List.drop_length, compGo] at hrest
          cases hrest
          rw [List.append_nil] at hall
          subst hall
          refine z _ H' (Dd :: Aa) (sm.trans smD) (.lst hacc racc) ⟨List.nodup_cons.mpr ⟨fun w => (nwa _ w).2 rfl, nda⟩, (fun _ w => by cases w), fun a ha => .inl ?_⟩
          rcases List.mem_cons.mp ha with rfl | w
          · exact sm.free hD
          · exact sm.free (nwa a w).1
    · rw [if_neg hz] at z
      exact z.elim
theorem dep_comp {Pre : L2.St → Env → Hp → (Nat → List Addr) → Prop} {items : Env → R (List D)} {ss : List Nat} {is : List Nat} {own : List (Str × Nat)} {t : D → Option (List D)} {c : Env → R Bool} {el : Env → R D} {scope : Scope} {iter : Expr} {ifs : List Expr} (ow2 : List Nat) (hc : X.calm = true) (hN : X.N.Nodup) (hi : DIP Pre X W ow ss tg iter items) (ok : BlkOk X.N X.env.scope scope own) (his : own.map (·.2) = is)
    (hg : ∀ (s : Shared) (H : Hp) (C : Addr) (cl : List (Str × Addr)) (fp : List Addr), DG (X.blk s H scope (compEnvC scope cl C X.env) fp) is tg t)
    (ht : ∃ tt, (∀ (s : Shared) (H : Hp) (C : Addr) (cl : List (Str × Addr)) (fp : List Addr), PTs (X.blk s H scope (compEnvC scope cl C X.env) fp) ifs tt) ∧ ∀ σ ρ H As Q, On X ow2 σ ρ H As → GoodT X noW σ H (c ρ) Q → tt σ H Q)
    (he : ∀ (s : Shared) (H : Hp) (C : Addr) (cl : List (Str × Addr)) (fp : List Addr), DE (X.blk s H scope (compEnvC scope cl C X.env) fp) noW ow2 (.own []) elt el)
    (h1 : subL ow2 ow = true := by rfl) (h2 : disL ow2 ss = true := by rfl) (h3 : disL ow2 is = true := by rfl) (hs : ∀ x, foldedSetIterable iter X.env x = pure x := by intro _; rfl) : DEP Pre X W ow (.own []) (.ListComp elt [⟨tg, iter, ifs, 0⟩] scope pos) (compE is t items c el) := by
  obtain ⟨wi, pi, qi⟩ := hi
  obtain ⟨gt, pg, qg⟩ := blk_pg hg
  obtain ⟨tt, pt, qt⟩ := ht
  obtain ⟨te, pe, qe⟩ := blk_pe he
  subst his
  exact ⟨_, pe_lc hc hN pi ok pg pt pe hs, fun σ ρ H As Q S pre z => comp_at qg qt qe h1 h2 h3 (fun Q => qi σ ρ H As Q S pre) S z⟩
end
end Dg

namespace Dg
open PySem PySem.Spec PyProof.Rows L2
/-! ### xs = [.. for k in d ..] -/
section
variable {X : Cx} {W : WX} {C : Cfg} {ow ow' owi ow1 ow2 : List Nat} {k k1 k2 k3 : Kd} {e a b c tg elt : Expr} {st : Stmt} {sts sts2 : List Stmt} {den d1 d2 : Env → R D} {f g : Env → Out} {pos p2 : Pos}
theorem asg_at {is ms : List Nat} {t : D → Option (List D)} {te : TE} {gt : TG} 
    (qg : ∀ H o v d A σ Q, Rep X.K X.mg H o v d A → (match t d with
      | some ds => ∀ vs, RepL X.K X.mg H o vs ds A → vs.length = is.length → Q (setsV is vs σ) H
      | none => False) → gt v σ H Q) (hio : disL is (C.io ++ C.pl) = true) (how : subL ow' (is ++ ow) = true) (hox : subL C.owx ow = true)
    {H0 : Hp} {M0 : Addr → Prop} {pn : Nat → Option V} {σ : L2.St} {ρ : Env} {H : Hp} {As : Nat → List Addr} {Dn : Ends} (q : ∀ Q, Good X W σ ow (.own ms) H As (den ρ) Q → te σ H Q) (hp : PinOk C pn) (S : Sta X.K X.mg H0 M0 pn ow σ ρ H As) (z : Post X W C H0 M0 pn ow' Dn (asgS ms is t den ρ)) : tAsg te gt Dn σ H := by
  refine q _ ?_
  unfold asgS at z
  cases hd : den ρ with
  | stk =>
    rw [hd] at z
    exact z
  | exc x =>
    rw [hd] at z
    exact fun c dd H' A sm rp fx => z c dd σ H' As A ((S.same sm).less (subL_mem hox)) rp (S.fx fx)
  | ok d =>
    rw [hd] at z
    intro v H1 A sm rp ok
    refine qg H1 true v d A σ _ rp ?_
    dsimp only at z
    cases ht : t d with
    | none =>
      rw [ht] at z
      exact z
    | some ds =>
      rw [ht] at z
      intro vs rl hl
      obtain ⟨As1, S1, k1, k2⟩ := Sta.kills ms (S.same sm)
      have fr : ∀ a ∈ A, ∀ j, a ∉ As1 j := fun a ha j hj => by
        rcases k1 j with e | e
        · rw [e] at hj
          rcases ok.2.2 a ha with w | ⟨i, hi, w⟩
          · exact S.old hj w
          · by_cases hji : j = i
            · subst hji
              rw [k2 j hi] at e
              rw [← e] at hj
              cases hj
            · exact S.sep i (ok.2.1 i hi) j hji a w hj
        · rw [e] at hj
          cases hj
      obtain ⟨As', ow2, S', h1, h2⟩ := Sta.putsO is rl hl S1 (fun i hi => hp i (disL_mem hio i hi)) ok.1 (fun a ha => by
        rcases ok.2.2 a ha with w | ⟨i, hi, w⟩
        · exact S.was w
        · exact S.new i (ok.2.1 i hi) a w) fr
      exact z _ _ As' (S'.less fun i hi => by
        rcases List.mem_append.mp (subL_mem how i hi) with w | w
        · exact h2 i w
        · exact h1 i w)
/-- y = [e for x in it if t] -/
theorem dsp_setLc {Pre : L2.St → Env → Hp → (Nat → List Addr) → Prop} {items : Env → R (List D)} {ss is : List Nat} {own : List (Str × Nat)} {t : D → Option (List D)} {c : Env → R Bool} {el : Env → R D} {scope : Scope} {iter : Expr} {ifs : List Expr} {i : Nat} {y : Str} {py spos : Pos} (ow2 : List Nat) (hc : X.calm = true) (hN : X.N.Nodup)
    (hy : X.N[i]? = some y) (hyl : X.env.scope.names.lookup y = some .local)
    (hsw : swapsWith (.ListComp elt [⟨tg, iter, ifs, 0⟩] scope pos) (some (.Name y py)) spos.line X.env = pure true)
    (hi : DIP Pre X W ow ss tg iter items) (ok : BlkOk X.N X.env.scope scope own) (his : own.map (·.2) = is)
    (hg : ∀ (s : Shared) (H : Hp) (C : Addr) (cl : List (Str × Addr)) (fp : List Addr), DG (X.blk s H scope (compEnvC scope cl C X.env) fp) is tg t)
    (ht : ∃ tt, (∀ (s : Shared) (H : Hp) (C : Addr) (cl : List (Str × Addr)) (fp : List Addr), PTs (X.blk s H scope (compEnvC scope cl C X.env) fp) ifs tt) ∧ ∀ σ ρ H As Q, On X ow2 σ ρ H As → GoodT X noW σ H (c ρ) Q → tt σ H Q)
    (he : ∀ (s : Shared) (H : Hp) (C : Addr) (cl : List (Str × Addr)) (fp : List Addr), DE (X.blk s H scope (compEnvC scope cl C X.env) fp) noW ow2 (.own []) elt el)
    (hio : disL [i] (C.io ++ C.pl) = true) (how : subL ow' ([i] ++ ow) = true) (hox : subL C.owx ow = true)
    (h1 : subL ow2 ow = true := by rfl) (h2 : disL ow2 ss = true := by rfl) (h3 : disL ow2 is = true := by rfl) (hs : ∀ x, foldedSetIterable iter X.env x = pure x := by intro _; rfl) :
    DSP Pre X W C ow ow' (.Assign [.Name y py] (.ListComp elt [⟨tg, iter, ifs, 0⟩] scope pos) spos) (asgS [] [i] t1 (compE is t items c el)) := by
  obtain ⟨wi, pi, qi⟩ := hi
  obtain ⟨gt, pg, qg⟩ := blk_pg hg
  obtain ⟨tt, pt, qt⟩ := ht
  obtain ⟨te, pe, qe⟩ := blk_pe he
  subst his
  exact ⟨_, ps_setLc hc hN hy hyl hsw pi ok pg pt pe hs, fun H0 M0 pn σ ρ H As Dn hp S pre z => asg_at (ms := []) (is := [i]) (t := t1) (te := tLc wi gt tt te (own.map (·.2))) (gt := gName i) (fun H o v d A σ Q r q => q [v] (RepL.one r) rfl) hio how hox (fun Q z => comp_at qg qt qe h1 h2 h3 (fun Q => qi σ ρ H As Q ⟨H0, M0, pn, S⟩ pre) ⟨H0, M0, pn, S⟩ z) hp S z⟩
theorem compGo_nx {is : List Nat} {t : D → Option (List D)} {c : Env → R Bool} {el : Env → R D} {r : Env} : ∀ (xs : List D) (x : Exn), compGo is t c el r xs ≠ .exc x
  | [], x, h => by cases h
  | y :: ys, x, h => by
    unfold compGo at h
    split at h
    · cases h
    · cases h1 : c (setsD is _ r) with
      | ok b =>
        rw [h1] at h
        cases b with
        | true =>
          cases h2 : el (setsD is _ r) with
          | ok d =>
            rw [h2] at h
            cases h3 : compGo is t c el r ys with
            | ok zs =>
              simp [R.nox, h3] at h
            | exc z => exact compGo_nx ys z h3
            | stk =>
              simp [R.nox, h3] at h
          | exc z =>
            rw [h2] at h
            cases h
          | stk =>
            rw [h2] at h
            cases h
        | false => exact compGo_nx ys x h
      | exc z =>
        rw [h1] at h
        cases h
      | stk =>
        rw [h1] at h
        cases h
theorem compE_nx {is : List Nat} {t : D → Option (List D)} {items : Env → R (List D)} {c : Env → R Bool} {el : Env → R D} (h : ∀ ρ x, items ρ ≠ .exc x) (ρ : Env) (x : Exn) : compE is t items c el ρ ≠ .exc x := by
  unfold compE
  cases hi : items ρ with
  | ok xs =>
    rw [R.bind_ok]
    split
    · cases hg : compGo is t c el (kill is ρ) xs with
      | ok ys =>
        intro z
        cases z
      | exc z => exact absurd hg (compGo_nx xs z)
      | stk =>
        intro z
        cases z
    · intro z
      cases z
  | exc z => exact absurd hi (h ρ z)
  | stk =>
    intro z
    cases z
theorem keysE_nx (i : Nat) (ρ : Env) (x : Exn) : keysE (vr i) ρ ≠ .exc x := by
  unfold keysE vr
  split
  · rename_i d _
    rw [R.bind_ok]
    unfold dKeys
    split
    · split <;> (intro z; cases z)
    · intro z
      cases z
  · intro z
    cases z
theorem valsE_nx (i : Nat) (ρ : Env) (x : Exn) : valsE (vr i) ρ ≠ .exc x := by
  unfold valsE vr
  split
  · rename_i d _
    rw [R.bind_ok]
    unfold dVals
    split
    · split <;> (intro z; cases z)
    · intro z
      cases z
  · intro z
    cases z
theorem asg_nx {ms is : List Nat} {t : D → Option (List D)} (h : ∀ ρ x, den ρ ≠ .exc x) : noX (asgS ms is t den) = asgS ms is t den := by
  funext ρ
  unfold noX asgS
  cases hd : den ρ with
  | ok d =>
    dsimp only
    cases t d <;> rfl
  | exc x => exact absurd hd (h ρ x)
  | stk => rfl
/-- the whole: d is the slot i of one's own -/
theorem ds_lockS {i : Nat} {ps : List Nat} (hn : noX f = f) (h : DSP (Lkd i) X W { C with pl := ps ++ C.pl } owi ow1 st f)
    (hsub : subL owi ow = true) (hio : ow.contains i = true) (hip : ps.contains i = true) (hpo : disL ps owi = true) (hp1 : disL ps ow1 = true) (how : subL ow' (i :: ow1) = true) : DS X W C ow ow' st (onlyS (isDct i) (lendS ps ow1 f)) := by
  have h2 := dsp_lock h (disL_mem hpo i (contains_mem.mp hip))
  rw [hn] at h2
  exact dsp_lend (apart_of (contains_mem.mp hio)) h2 hsub hio hip hpo hp1 how
end
end Dg

namespace Dg
open PySem PySem.Spec PyProof.Rows L2
/-! ### all, any of a list of bools -/
def boolsD : List D → Option (List Bool)
  | [] => some []
  | .bool b :: r => (boolsD r).map (b :: ·)
  | _ :: _ => none
theorem repL_bools {K : PySem.W.Frag} {mg : Str → Option Value} {H : Hp} {o : Bool} : ∀ {vs : List V} {ds : List D} {A : List Addr} {bs : List Bool}, RepL K mg H o vs ds A → boolsD ds = some bs → vs = bs.map V.bl
  | _, _, _, _, .nil, e => by
    cases e
    rfl
  | _, _, _, _, .cons (d := d) (ds := ds) h r, e => by
    cases d with
    | bool b =>
      have e : (boolsD ds).map (b :: ·) = some _ := e
      cases e2 : boolsD ds with
      | none =>
        rw [e2] at e
        cases e
      | some k2 =>
        rw [e2] at e
        cases e
        cases h
        rw [List.map_cons, repL_bools r e2]
    | _ => cases e
def dAll : List D → R D
  | [.list xs] => match boolsD xs with
    | some bs => .ok (.bool (bs.all id))
    | none => .stk
  | _ => .stk
def dAny : List D → R D
  | [.list xs] => match boolsD xs with
    | some bs => .ok (.bool (bs.any id))
    | none => .stk
  | _ => .stk
section
variable {X : Cx}
theorem call_dAll (hc : X.calm = true) : CallD X (.builtin "all") dAll := by
  refine ⟨_, cr_all hc, fun xs z h => ?_, fun H xs ds A Q r h => ?_⟩
  · unfold dAll at h
    split at h
    · split at h <;> cases h
    · cases h
  · unfold dAll at h
    split at h
    · split at h
      · rename_i bs hb
        cases r with
        | cons r1 r2 =>
          cases r2
          cases r1 with
          | lst h1 l1 => exact ⟨_, bs, rfl, .inl (.inl (by rw [← repL_bools l1 hb]; exact h1)), fresh_imm (fun _ _ _ => .bl _) h⟩
      · exact h.elim
    · exact h.elim
theorem call_dAny (hc : X.calm = true) : CallD X (.builtin "any") dAny := by
  refine ⟨_, cr_any hc, fun xs z h => ?_, fun H xs ds A Q r h => ?_⟩
  · unfold dAny at h
    split at h
    · split at h <;> cases h
    · cases h
  · unfold dAny at h
    split at h
    · split at h
      · rename_i bs hb
        cases r with
        | cons r1 r2 =>
          cases r2
          cases r1 with
          | lst h1 l1 => exact ⟨_, bs, rfl, .inl (.inl (by rw [← repL_bools l1 hb]; exact h1)), fresh_imm (fun _ _ _ => .bl _) h⟩
      · exact h.elim
    · exact h.elim
end
end Dg

namespace Dg
open PySem PySem.Spec PyProof.Rows L2
/-! ### x[i][j].append(v): a list within one's own value is changed where it stands -/
def stepA (x y : D) : Option D := match x, y with
  | .list xs, .int i => atI xs i
  | .tuple xs, .int i => atI xs i
  | .dict kvs, y => if tagD kvs = false ∧ isKey y = true then lookD kvs y else none
  | _, _ => none
def setI (xs : List D) (i : Int) (d : D) : List D := match ixN xs.length i with
  | some j => xs.set j d
  | none => xs
def putA (x y d : D) : D := match x, y with
  | .list xs, .int i => .list (setI xs i d)
  | .tuple xs, .int i => .tuple (setI xs i d)
  | .dict kvs, y => .dict (setD kvs y d)
  | x, _ => x
theorem repL_set {K : PySem.W.Frag} {mg : Str → Option Value} {H : Hp} {d : D} : ∀ {vs : List V} {ds : List D} {A : List Addr} {j : Nat}, RepL K mg H true vs ds A → A.Nodup → ds[j]? = some d →
    ∃ v B, vs[j]? = some v ∧ Rep K mg H true v d B ∧ B.Nodup ∧ (∀ a ∈ B, a ∈ A) ∧ ∀ (H' : Hp) (M : Addr → Prop) (d' : D) (B' : List Addr), Fr M H H' → (∀ a ∈ A, M a → a ∈ B) → Rep K mg H' true v d' B' → B'.Nodup → (∀ a ∈ B', a ∈ B ∨ a ∉ A) →
      ∃ A', RepL K mg H' true vs (ds.set j d') A' ∧ A'.Nodup ∧ ∀ a ∈ A', a ∈ A ∨ a ∈ B'
  | _, _, _, _, .nil, _, e => by cases e
  | _, _, _, 0, .cons (v := v2) (d := d2) (vs := vs2) (ds := ds2) (A := A1) (B := A2) h r, nd, e => by
    have nd3 := List.nodup_append.mp nd
    cases e
    refine ⟨v2, A1, rfl, h, nd3.1, fun a ha => List.mem_append_left _ ha, fun H' M d' B' fr hM r' nB hB => ?_⟩
    refine ⟨B' ++ A2, .cons r' (r.fr fr fun a ha m => nd3.2.2 a (hM a (List.mem_append_right _ ha) m) a ha rfl), List.nodup_append.mpr ⟨nB, nd3.2.1, fun x hx y hy e => ?_⟩, fun a ha => ?_⟩
    · subst e
      rcases hB x hx with q | q
      · exact nd3.2.2 x q x hy rfl
      · exact q (List.mem_append_right _ hy)
    · rcases List.mem_append.mp ha with q | q
      · exact .inr q
      · exact .inl (List.mem_append_right _ q)
  | _, _, _, j + 1, .cons (v := v2) (d := d2) (vs := vs2) (ds := ds2) (A := A1) (B := A2) h r, nd, e => by
    have nd3 := List.nodup_append.mp nd
    obtain ⟨v, B, e1, e2, e3, e4, e5⟩ := repL_set (j := j) r nd3.2.1 e
    refine ⟨v, B, e1, e2, e3, fun a ha => List.mem_append_right _ (e4 a ha), fun H' M d' B' fr hM r' nB hB => ?_⟩
    obtain ⟨A', q1, q2, q3⟩ := e5 H' M d' B' fr (fun a ha m => hM a (List.mem_append_right _ ha) m) r' nB (fun a ha => (hB a ha).imp id fun z w => z (List.mem_append_right _ w))
    refine ⟨A1 ++ A', .cons (h.fr fr fun a ha m => nd3.2.2 a ha a (e4 a (hM a (List.mem_append_left _ ha) m)) rfl) q1, List.nodup_append.mpr ⟨nd3.1, q2, fun x hx y hy e => ?_⟩, fun a ha => ?_⟩
    · subst e
      rcases q3 x hy with q | q
      · exact nd3.2.2 x hx x q rfl
      · rcases hB x q with w | w
        · exact nd3.2.2 x hx x (e4 x w) rfl
        · exact w (List.mem_append_left _ hx)
    · rcases List.mem_append.mp ha with q | q
      · exact .inl (List.mem_append_left _ q)
      · exact (q3 a q).imp (fun w => List.mem_append_right _ w) id
theorem atI_ix {α β : Type} {xs : List α} {ys : List β} {i : Int} {x : α} (hl : ys.length = xs.length) (h : atI xs i = some x) : ∃ j : Nat, ixN xs.length i = some j ∧ xs[j]? = some x ∧ ∀ y, ys[j]? = some y → atI ys i = some y := by
  unfold atI at h
  cases e : ixN xs.length i with
  | none =>
    rw [e] at h
    cases h
  | some j =>
    rw [e] at h
    refine ⟨j, rfl, h, fun y hy => ?_⟩
    unfold atI
    rw [hl, e]
    exact hy
/-- v (that stands for x, over B) within w (over A) -/
structure Hole (K : PySem.W.Frag) (mg : Str → Option Value) (H : Hp) (w : V) (A : List Addr) (v : V) (x : D) (B : List Addr) (put : D → D) : Prop where
  rep : Rep K mg H true v x B
  nd : B.Nodup
  sub : ∀ a ∈ B, a ∈ A
  back : ∀ (H' : Hp) (M : Addr → Prop) (d' : D) (B' : List Addr), Fr M H H' → (∀ a ∈ A, M a → a ∈ B) → Rep K mg H' true v d' B' → B'.Nodup → (∀ a ∈ B', a ∈ B ∨ a ∉ A) → ∃ A', Rep K mg H' true w (put d') A' ∧ A'.Nodup ∧ ∀ a ∈ A', a ∈ A ∨ a ∈ B'
theorem Hole.start {K : PySem.W.Frag} {mg : Str → Option Value} {H : Hp} {w : V} {x : D} {A : List Addr} (r : Rep K mg H true w x A) (nd : A.Nodup) : Hole K mg H w A w x A fun d => d :=
  ⟨r, nd, fun _ h => h, fun H' M d' B' _ _ r' n' _ => ⟨B', r', n', fun _ h => .inr h⟩⟩
theorem Hole.same {K : PySem.W.Frag} {mg : Str → Option Value} {H H1 : Hp} {w v : V} {x : D} {A B : List Addr} {put : D → D} (h : Hole K mg H w A v x B put) (s : Same H H1) : Hole K mg H1 w A v x B put :=
  ⟨h.rep.same s, h.nd, h.sub, fun H' M d' B' f q1 q2 q3 q4 => h.back H' M d' B' (fun a o e z => f a o (s a o e) z) q1 q2 q3 q4⟩
theorem Hole.step {K : PySem.W.Frag} {mg : Str → Option Value} {H : Hp} {w v : V} {x y d : D} {A B C : List Addr} {u : V} {put : D → D} (h : Hole K mg H w A v x B put) (ry : Rep K mg H false u y C) (e : stepA x y = some d) :
    ∃ v' B', Hole K mg H w A v' d B' (fun z => put (putA x y z)) ∧ ((∀ Q : VK, Q v' H → rIx K v u H Q) ∨ ∃ a, v = .ref a ∧ DGet H a u (some v')) := by
  obtain ⟨r, nd, sub, back⟩ := h
  unfold stepA at e
  split at e
  · cases ry
    cases r with
    | lst h1 l1 =>
      rename_i xs i b vs A1
      have ndB := List.nodup_cons.mp nd
      obtain ⟨j, hj, hx, hv⟩ := atI_ix l1.len e
      obtain ⟨v', B2, g1, g2, g3, g4, g5⟩ := repL_set l1 ndB.2 hx
      refine ⟨v', B2, ⟨g2, g3, fun a ha => sub a (List.mem_cons_of_mem _ (g4 a ha)), fun H' M d' B' fr hM r' nB hB => ?_⟩, .inl fun Q q => .inl ⟨_, _, _, _, rfl, rfl, .inl (.inl h1), hv v' g1, q⟩⟩
      have inA : ∀ a ∈ A1, a ∈ A := fun a ha => sub a (List.mem_cons_of_mem _ ha)
      have bA : b ∈ A := sub b List.mem_cons_self
      obtain ⟨A2, q1, q2, q3⟩ := g5 H' M d' B' fr (fun a ha m => hM a (inA a ha) m) r' nB fun a ha => (hB a ha).imp id fun z w => z (inA a w)
      have hb : H' b = some (.lst vs) := fr b _ h1 fun _ m => ndB.1 (g4 b (hM b bA m))
      have nb : b ∉ A2 := fun z => by
        rcases q3 b z with q | q
        · exact ndB.1 q
        · rcases hB b q with q | q
          · exact ndB.1 (g4 b q)
          · exact q bA
      obtain ⟨A3, p1, p2, p3⟩ := back H' M (.list (xs.set j d')) (b :: A2) fr (fun a ha m => List.mem_cons_of_mem _ (g4 a (hM a ha m))) (.lst hb q1) (List.nodup_cons.mpr ⟨nb, q2⟩) fun a ha => by
        rcases List.mem_cons.mp ha with q | q
        · exact .inl (by rw [q]; exact List.mem_cons_self)
        · rcases q3 a q with q | q
          · exact .inl (List.mem_cons_of_mem _ q)
          · exact (hB a q).imp (fun z => List.mem_cons_of_mem _ (g4 a z)) id
      refine ⟨A3, ?_, p2, fun a ha => ?_⟩
      · show Rep K mg H' true w (put (.list (setI xs i d'))) A3
        unfold setI
        rw [hj]
        exact p1
      · rcases p3 a ha with q | q
        · exact .inl q
        · rcases List.mem_cons.mp q with q | q
          · exact .inl (by rw [q]; exact bA)
          · exact (q3 a q).imp (inA a) id
  · cases ry
    cases r with
    | tup h1 l1 =>
      rename_i xs i b vs
      obtain ⟨j, hj, hx, hv⟩ := atI_ix l1.len e
      obtain ⟨v', B2, g1, g2, g3, g4, g5⟩ := repL_set l1 nd hx
      refine ⟨v', B2, ⟨g2, g3, fun a ha => sub a (g4 a ha), fun H' M d' B' fr hM r' nB hB => ?_⟩, .inl fun Q q => .inr (.inl ⟨_, _, _, _, rfl, rfl, h1, hv v' g1, q⟩)⟩
      obtain ⟨A2, q1, q2, q3⟩ := g5 H' M d' B' fr (fun a ha m => hM a (sub a ha) m) r' nB fun a ha => (hB a ha).imp id fun z w => z (sub a w)
      obtain ⟨A3, p1, p2, p3⟩ := back H' M (.tuple (xs.set j d')) A2 fr (fun a ha m => g4 a (hM a ha m)) (.tup (sqT_fr h1 fr) q1) q2 fun a ha => by
        rcases q3 a ha with q | q
        · exact .inl q
        · exact (hB a q).imp (g4 a) id
      refine ⟨A3, ?_, p2, fun a ha => ?_⟩
      · show Rep K mg H' true w (put (.tuple (setI xs i d'))) A3
        unfold setI
        rw [hj]
        exact p1
      · rcases p3 a ha with q | q
        · exact .inl q
        · exact (q3 a q).imp (sub a) id
  · split at e
    · rename_i kvs hg
      obtain ⟨kk, rfl⟩ := isKey_kD hg.2
      have ey := rep_key ry
      subst ey
      generalize ed : PyData.dict kvs = q at r
      cases r with
      | dct h1 l1 =>
        injection ed with e1
        subst e1
        rename_i b vs A1
        have ndB := List.nodup_cons.mp nd
        obtain ⟨v', B2, g1, g2, g3, g4, g5⟩ := repP_set l1 ndB.2 e
        refine ⟨v', B2, ⟨g2, g3, fun a ha => sub a (List.mem_cons_of_mem _ (g4 a ha)), fun H' M d' B' fr hM r' nB hB => ?_⟩, .inr ⟨_, rfl, g1 ▸ DGet.k h1⟩⟩
        have inA : ∀ a ∈ A1, a ∈ A := fun a ha => sub a (List.mem_cons_of_mem _ ha)
        have bA : b ∈ A := sub b List.mem_cons_self
        obtain ⟨A2, q1, q2, q3⟩ := g5 H' M d' B' fr (fun a ha m => hM a (inA a ha) m) r' nB fun a ha => (hB a ha).imp id fun z w => z (inA a w)
        have hb : H' b = some (.dK vs) := fr b _ h1 fun _ m => ndB.1 (g4 b (hM b bA m))
        have nb : b ∉ A2 := fun z => by
          rcases q3 b z with q | q
          · exact ndB.1 q
          · rcases hB b q with q | q
            · exact ndB.1 (g4 b q)
            · exact q bA
        obtain ⟨A3, p1, p2, p3⟩ := back H' M (.dict (setD kvs (kD kk) d')) (b :: A2) fr (fun a ha m => List.mem_cons_of_mem _ (g4 a (hM a ha m))) (.dct hb q1) (List.nodup_cons.mpr ⟨nb, q2⟩) fun a ha => by
          rcases List.mem_cons.mp ha with q | q
          · exact .inl (by rw [q]; exact List.mem_cons_self)
          · rcases q3 a q with q | q
            · exact .inl (List.mem_cons_of_mem _ q)
            · exact (hB a q).imp (fun z => List.mem_cons_of_mem _ (g4 a z)) id
        refine ⟨A3, p1, p2, fun a ha => ?_⟩
        rcases p3 a ha with q | q
        · exact .inl q
        · rcases List.mem_cons.mp q with q | q
          · exact .inl (by rw [q]; exact bA)
          · exact (q3 a q).imp (inA a) id
      | ins h1 h2 l1 =>
        injection ed with e1
        subst e1
        have := hg.1
        cases this
      | exn h1 h2 l1 =>
        injection ed with e1
        subst e1
        have := hg.1
        cases this
      | _ => cases ed
    · cases e
  · cases e
/-- a path into one's own value -/
abbrev PthD := D × (D → D)
def GoodP (X : Cx) (W : WX) (σ : L2.St) (i : Nat) (H : Hp) (As : Nat → List Addr) (r : R PthD) (Q : VK) : Prop := match r with
  | .ok p => ∀ w v H' B, Same H H' → σ[i]? = some (some w) → Hole X.K X.mg H' w (As i) v p.1 B p.2 → Q v H'
  | .exc x => ∀ c dd H' A, Same H H' → RepX X.K X.mg H' c dd x A → (∀ b ∈ A, H b = none) → W c dd σ H'
  | .stk => False
def DPa (X : Cx) (W : WX) (ow : List Nat) (i : Nat) (e : Expr) (den : Env → R PthD) : Prop :=
  ∃ te, PE X e te ∧ ∀ σ ρ H As Q, On X ow σ ρ H As → GoodP X W σ i H As (den ρ) Q → te σ H Q
def vrP (i : Nat) : Env → R PthD := fun ρ => match ρ[i]? with
  | some (some x) => .ok (x, fun d => d)
  | _ => .stk
def ixP (p : Env → R PthD) (dk : Env → R D) : Env → R PthD := fun ρ => (p ρ).bind fun q => (dk ρ).bind fun y => match stepA q.1 y with
  | some d => .ok (d, fun z => q.2 (putA q.1 y z))
  | none => .stk
section
variable {X : Cx} {W : WX} {C : Cfg} {ow ow' : List Nat} {k k2 : Kd} {e o ik : Expr} {dk : Env → R D} {p : Env → R PthD} {f : Env → R (List D)} {pos spos : Pos}
theorem dp_var {i : Nat} (hv : PE X o (tVar i)) (hi : ow.contains i = true) : DPa X W ow i o (vrP i) := by
  refine ⟨_, hv, fun σ ρ H As Q S q => ?_⟩
  obtain ⟨H0, M0, pn, S⟩ := S
  unfold vrP at q
  split at q
  · rename_i x hρ
    obtain ⟨w0, hw, rv⟩ := S.rep i _ hρ
    rw [hi] at rv
    exact ⟨w0, hw, q w0 w0 H (As i) (fun _ _ h => h) hw (Hole.start rv (S.nd i (contains_mem.mp hi)))⟩
  · exact q.elim
theorem dp_ix {i : Nat} (hu : X.A.units + 64 < cLine) (hp : DPa X W ow i o p) (hk : DE X W ow k2 ik dk) (hs : PlainIx ik) : DPa X W ow i (.Subscript o ik spos) (ixP p dk) := by
  obtain ⟨ta, p1, q1⟩ := hp
  obtain ⟨tb, p2, q2⟩ := hk
  refine ⟨_, pe_ix (ix_seq.or (ix_dict (by omega))) p1 p2 hs, fun σ ρ H As Q S q => q1 σ ρ H As _ S ?_⟩
  unfold ixP at q
  cases e1 : p ρ with
  | stk =>
    rw [e1] at q
    exact q
  | exc x =>
    rw [e1] at q
    exact q
  | ok dx =>
    rw [e1, R.bind_ok] at q
    intro w v H1 A s1 hw ho
    refine q2 σ ρ H1 As _ (S.same s1) ?_
    cases e2 : dk ρ with
    | stk =>
      rw [e2] at q
      exact q
    | exc x =>
      rw [e2] at q
      exact fun c dd H' B sm rp fx => q c dd H' B (s1.trans sm) rp fun b hb => s1.free (fx b hb)
    | ok dy =>
      rw [e2, R.bind_ok] at q
      intro u H2 B s2 r2 ok2
      cases e3 : stepA dx.1 dy with
      | none =>
        rw [e3] at q
        exact q.elim
      | some d =>
        rw [e3] at q
        obtain ⟨v', B', ho', hq⟩ := (ho.same s2).step r2.weak e3
        have fin : Q v' H2 := q w v' H2 B' (s1.trans s2) hw ho'
        rcases hq with hq | ⟨p, rfl, hg⟩
        · exact .inl (hq Q fin)
        · exact .inr ⟨p, v', rfl, hg, fin⟩
def mutP (i : Nat) (ms : List Nat) (p : Env → R PthD) (g : List D → List D → Option D) (f : Env → R (List D)) : Env → Out := fun ρ => match p ρ with
  | .ok q => (match q.1 with
    | .list xs => (match f ρ with
      | .ok ds => (match g xs ds with
        | some d => .nx ((kill ms ρ).set i (some (q.2 d)))
        | none => .stk)
      | .exc x => .exc x ρ
      | .stk => .stk)
    | _ => .stk)
  | .exc x => .exc x ρ
  | .stk => .stk
theorem ds_mutP {i n : Nat} {id : String} {name : Str} {ms : List Nat} {es : List Expr} {apos cpos : Pos} {g : List D → List D → Option D} (slot : Slot "list" name id) (hty : typeOf (.builtin id) = pure (.type "method_descriptor")) (hm : MutO X id g) (hp : DPa X W ow i o p) (ha : DA X W ow (.own ms) n (e :: es) f)
    (hi : ow.contains i = true) (him : ms.contains i = false) (how : subL ow' ow = true) (hox : subL C.owx ow = true)
    (hbase : attributeBase o name X.env (eval o X.env) = eval o X.env := by rfl)
    (hfew : ((backTo cpos (starEach (e :: es) X.env)).all (fun x => !x.1) && (backToKw cpos (keywordEach [] X.env)).all (fun x => x.1.isSome)
      && decide ((e :: es).length + ([] : List Keyword).length + (if ([] : List Keyword).isEmpty then 0 else 1) < 30)) = true := by rfl)
    (hline : (apos.endLine == cpos.line) = true := by rfl) (hs : starEach (e :: es) X.env = (false, eval e X.env) :: starEach es X.env := by rfl) (hplain : (backTo cpos (starEach es X.env)).any (·.1) = false := by rfl) (hsw : swapsWith (.Call (.Attribute o name apos) (e :: es) [] cpos) none pos.line X.env = pure false := by rfl) :
    DS X W C ow ow' (.Expr (.Call (.Attribute o name apos) (e :: es) [] cpos) pos) (mutP i ms p g f) := by
  obtain ⟨r, hr, hq⟩ := hm
  obtain ⟨ta, pa, qa⟩ := ha
  obtain ⟨ty, py, qy⟩ := hp
  refine ⟨_, ps_expr (pe_bm PySem.F.plainAttrs_list slot hty hr py pa hbase hfew hline hs hplain) hsw, fun H0 M0 pn σ ρ H As Dn hp S z => ?_⟩
  have hi' := contains_mem.mp hi
  unfold mutP at z
  refine qy σ ρ H As _ ⟨H0, M0, pn, S⟩ ?_
  cases hdk : p ρ with
  | stk =>
    rw [hdk] at z
    exact z
  | exc x =>
    rw [hdk] at z
    exact fun c dd H' A sm rp fx => z c dd σ H' As A ((S.same sm).less (subL_mem hox)) rp (S.fx fx)
  | ok q0 =>
    rw [hdk] at z
    intro w0 v H1 B s1 hw ho
    dsimp only at z
    have S1 := S.same s1
    split at z
    · rename_i xs hxs
      obtain ⟨rv, e3, e4, e5⟩ := ho
      rw [hxs] at rv
      cases rv with
      | lst hb lb =>
        rename_i b ws Bx
        refine ⟨.inl ⟨rfl, _, .inl (.inl hb)⟩, qa σ ρ H1 As _ ⟨H0, M0, pn, S1⟩ ?_⟩
        cases hf : f ρ with
        | stk =>
          rw [hf] at z
          exact z
        | exc x =>
          rw [hf] at z
          exact fun c dd H' A sm rp fx => z c dd σ H' As A ((S1.same sm).less (subL_mem hox)) rp (S1.fx fx)
        | ok ds =>
          rw [hf] at z
          intro us H2 Bu s2 rB ok hl
          dsimp only at z
          have S2 := S1.same s2
          have hB : ∀ w ∈ Bu, w ∉ As i := fun w hw hA => by
            rcases ok.2.2 w hw with q | ⟨j, hj, q⟩
            · exact S1.old hA q
            · by_cases e : i = j
              · subst e
                rw [contains_mem.mpr hj] at him
                cases him
              · exact S.sep j (ok.2.1 j hj) i e w q hA
          cases hg2 : g xs ds with
          | none =>
            rw [hg2] at z
            exact z.elim
          | some d' =>
            rw [hg2] at z
            have hb2 := s2 _ _ hb
            refine hq H2 b ws xs Bx us ds Bu _ hb2 (lb.same s2) rB (nodup_cons_app e3 ok.1 fun w hw => ⟨fun q => hB w hw (e4 w (by rw [q]; exact List.mem_cons_self)), fun q => hB w hw (e4 w (List.mem_cons_of_mem _ q))⟩) d' hg2 ?_
            intro vs' A2 r2 n2 h2
            have fr : Fr (fun x => x = b) H1 (upd H2 b (.lst vs')) := fun x u hx hm => upd_fr (u := .lst vs') (M := fun x => x = b) hb2 rfl rfl x u (s2 x u hx) hm
            obtain ⟨A', q1, q2, q3⟩ := e5 (upd H2 b (.lst vs')) (fun x => x = b) d' A2 fr (fun x hx m => by rw [m]; exact List.mem_cons_self) r2 n2 (fun x hx => by
              rcases h2 x hx with q | q | q
              · exact .inl (by rw [q]; exact List.mem_cons_self)
              · exact .inl (List.mem_cons_of_mem _ q)
              · exact .inr fun w => hB x q w)
            have T := Sta.killAll ms S2
            have nim : i ∉ ms := fun q => by
              rw [contains_mem.mpr q] at him
              cases him
            have ei : (fun j => if j ∈ ms then [] else As j) i = As i := by
              show (if i ∈ ms then [] else As i) = _
              rw [if_neg nim]
            have bin : b ∈ (fun j => if j ∈ ms then [] else As j) i := by
              rw [ei]
              exact e4 b List.mem_cons_self
            refine z _ _ _ ((T.mut (i := i) hi' hw (upd_fr hb2 rfl bin) q1 q2 fun w hw => ?_).less (subL_mem how))
            have fromU : ∀ w ∈ Bu, (H0 w = none ∨ M0 w) ∧ ∀ j, w ∉ (fun j => if j ∈ ms then [] else As j) j := fun w q => by
              refine ⟨?_, fun j hj => ?_⟩
              · rcases ok.2.2 w q with p | ⟨j, hj, p⟩
                · exact S1.was p
                · exact S.new j (ok.2.1 j hj) w p
              · dsimp only at hj
                split at hj
                · cases hj
                · rename_i hjm
                  rcases ok.2.2 w q with p | ⟨l, hl, p⟩
                  · exact S1.old hj p
                  · exact S.sep l (ok.2.1 l hl) j (fun e => hjm (e ▸ hl)) w p hj
            rcases q3 w hw with q | q
            · exact .inl (by show w ∈ (fun j => if j ∈ ms then [] else As j) i; rw [ei]; exact q)
            · rcases h2 w q with q | q | q
              · exact .inl (by rw [q]; exact bin)
              · exact .inl (by show w ∈ (fun j => if j ∈ ms then [] else As j) i; rw [ei]; exact e4 w (List.mem_cons_of_mem _ q))
              · exact .inr (fromU w q)
    · exact z.elim
/-! ### xs.extend(ys), the items of ys being no changeable things -/
def gExtend (xs ds : List D) : Option D := match ds with
  | [.list ys] => if immL ys = true ∧ xs.length + ys.length ≤ sizeLine then some (.list (xs ++ ys)) else none
  | _ => none
theorem mu_extend : MutB X "list.extend" gExtend := by
  refine ⟨_, mt_extend, fun H a vs xs A ws ds B Q h1 l1 rB nd d hg z => ?_⟩
  unfold gExtend at hg
  split at hg
  · split at hg
    · rename_i ys hlen
      cases hg
      have nd' := List.nodup_cons.mp nd
      cases rB with
      | cons r1 r2 =>
        cases r2
        cases r1 with
        | lst h2 l2 =>
          rename_i b zs A2
          obtain ⟨rfl, l3⟩ := l2.imm hlen.1
          refine ⟨a, b, vs, zs, rfl, rfl, h1, h2, (by rw [l1.len, l2.len]; exact hlen.2), z (vs ++ zs) (a :: A) (.lst upd_same ?_) nd fun w hw => ?_⟩
          · have q1 := repL_upd (u := .lst (vs ++ zs)) h1 l1 nd'.1
            have q2 := repL_upd (u := .lst (vs ++ zs)) h1 l3 (fun w => by cases w)
            have := q1.app q2
            rw [List.append_nil] at this
            exact this
          · exact List.mem_cons.mp hw
    · cases hg
  · cases hg
end
end Dg

namespace Dg
open PySem PySem.Spec PyProof.Rows L2
/-! ### max(xs, default=j) of a list of ints -/
def maxI (j : Int) (is : List Int) : Int := match is with
  | [] => j
  | x :: xs => PySem.W.maxOf x xs
def intsOf : List D → Option (List Int)
  | [] => some []
  | .int i :: r => (intsOf r).map (i :: ·)
  | _ :: _ => none
theorem intsOf_eq : ∀ {ds : List D} {is : List Int}, intsOf ds = some is → ds = is.map .int
  | [], _, h => by
    cases h
    rfl
  | d :: ds, is, h => by
    cases d with
    | int i =>
      unfold intsOf at h
      cases e : intsOf ds with
      | none =>
        rw [e] at h
        cases h
      | some js =>
        rw [e] at h
        cases h
        rw [intsOf_eq e]
        rfl
    | _ => cases h
theorem intsOf_map : ∀ is : List Int, intsOf (is.map PyData.int) = some is
  | [] => rfl
  | i :: is => by
    rw [List.map_cons, intsOf, intsOf_map is]
    rfl
theorem flatL_ints : ∀ is : List Int, flatL (is.map PyData.int) = true
  | [] => rfl
  | i :: is => by
    rw [List.map_cons, flatL, flatL_ints is]
    rfl
def dMaxDf (x y : D) : R D := match x, y with
  | .list xs, .int j => (match intsOf xs with
    | some is => .ok (.int (maxI j is))
    | none => .stk)
  | _, _ => .stk
section
variable {X : Cx} {W : WX} {C : Cfg} {ow ow' : List Nat} {k1 k2 : Kd} {e e2 : Expr} {d1 d2 : Env → R D} {pos p : Pos}
theorem cr_maxDf (hc : X.calm = true) (hu : X.A.units + 64 < cLine) : CallRK X (.builtin "max") [Str.ofString "default"] (fun vs zs H Q => ∃ a j is, vs = [.ref a] ∧ zs = [.int j] ∧ Dp X.K H (.ref a) (.list (is.map PyData.int)) ∧ Q (.int (maxI j is)) H) := by
  intro pins s σ H vs zs us ws Q I r rz h
  obtain ⟨a, j, is, rfl, rfl, hd, q⟩ := h
  obtain ⟨as, rd⟩ := Dp.reads I _ _ (Value.ref a) hd rfl
  rw [Vals.ref1 r]
  obtain ⟨w1, rfl, t, rfl⟩ := vals1 rz
  cases rd with
  | list h1 h2 h3 h4 =>
    refine PySem.W.max_list_datum_default (xs := is) (I.ok.hd hc) ⟨_, h1, h2, _, h3⟩ ⟨_, h4⟩ (by show X.A.units + 1 + 0 < cLine; omega) (fun e h' tk k => ⟨.int _, H, I.kept k, ⟨_, rfl⟩, ?_⟩) fun y ys i v h' tk e hi hold k => ⟨.int (PySem.W.maxOf y ys), H, I.kept k, ?_, ?_⟩
    · subst e
      exact q
    · obtain ⟨bs, hr⟩ := hold
      revert hr
      show Reads h' v (.int _) bs → _
      intro hr
      cases hr
      exact ⟨_, rfl⟩
    · subst e
      exact q
theorem de_maxDf {pk p2 : Pos} {kn : Option Str} (hc : X.calm = true) (hu : X.A.units + 64 < cLine) (hm : X.mg "max" = none) (h1 : DE X W ow k1 e d1) (h2 : DE X W ow k2 e2 d2) (hg : Gl X "max" := by rfl) (hs : starEach [e] X.env = (false, eval e X.env) :: starEach [] X.env := by rfl)
    (he : backTo pos (starEach [e] X.env) = (false, eval e X.env) :: backTo pos (starEach [] X.env) := by rfl) (hpl : (backTo pos (starEach [e] X.env)).any (·.1) = false := by rfl)
    (hall : (backToKw pos (keywordEach [⟨kn, e2, pk⟩] X.env)).all (·.1.isSome) = true := by rfl) (hnone : (backToKw pos (keywordEach [⟨kn, e2, pk⟩] X.env)).any (·.1.isNone) = false := by rfl) (hks : (backToKw pos (keywordEach [⟨kn, e2, pk⟩] X.env)).filterMap (·.1) = [Str.ofString "default"] := by rfl) :
    DE X W ow (.own []) (.Call (.Name "max" p2) [e] [⟨kn, e2, pk⟩] pos) (b2 dMaxDf d1 d2) := by
  obtain ⟨ta, p1, q1⟩ := h1
  obtain ⟨tb, p2, q2⟩ := h2
  refine ⟨_, pe_callBK (cr_maxDf hc hu) hg hm (by decide +kernel) (pa_cons p1 pa_nil hs) (pk_cons p2 pk_nil) (by decide) (by decide) he hpl hall hnone hks, fun σ ρ H As Q S q => q1 σ ρ H As _ S ?_⟩
  unfold b2 at q
  cases e1 : d1 ρ with
  | stk =>
    rw [e1] at q
    exact q
  | exc x =>
    rw [e1] at q
    exact q
  | ok dx =>
    rw [e1, R.bind_ok] at q
    intro v H1 A s1 r1 ok1
    refine q2 σ ρ H1 As _ (S.same s1) ?_
    cases e2 : d2 ρ with
    | stk =>
      rw [e2] at q
      exact q
    | exc x =>
      rw [e2] at q
      exact fun c dd H' B sm rp fx => q c dd H' B (s1.trans sm) rp fun b hb => s1.free (fx b hb)
    | ok dy =>
      rw [e2, R.bind_ok] at q
      intro u H2 B s2 r2 ok2
      unfold dMaxDf at q
      split at q
      · rename_i xs j
        split at q
        · rename_i is his
          have e3 := intsOf_eq his
          subst e3
          have r1' := (r1.weak.same s2)
          have r2' := r2.weak
          cases r2'
          generalize ed : PyData.list (is.map PyData.int) = z at r1'
          cases r1' with
          | lst h1 l1 =>
            cases ed
            exact ⟨_, j, is, rfl, rfl, (Rep.lst (o := false) h1 l1).dp (by simp only [flat]; exact flatL_ints is), q _ H2 [] (s1.trans s2) (.int _) ⟨List.nodup_nil, (fun i h => by cases h), fun a h => by cases h⟩⟩
          | _ => cases ed
        · exact q.elim
      · exact q.elim
end
/-! ### for x in xs: x.append(c), the lists of one's own list -/
def appAll (c : D) : List D → Option (List D)
  | [] => some []
  | .list xs :: r => if xs.length < sizeLine then (appAll c r).map (.list (xs ++ [c]) :: ·) else none
  | _ :: _ => none
theorem appAll_len {c : D} : ∀ {ds es : List D}, appAll c ds = some es → es.length = ds.length
  | [], _, h => by
    cases h
    rfl
  | d :: ds, es, h => by
    cases d with
    | list xs =>
      unfold appAll at h
      split at h
      · cases e : appAll c ds with
        | none =>
          rw [e] at h
          cases h
        | some fs =>
          rw [e] at h
          cases h
          rw [List.length_cons, List.length_cons, appAll_len e]
      · cases h
    | _ => cases h
theorem appAll_at {c : D} : ∀ {ds es : List D} {k : Nat} {d : D}, appAll c ds = some es → ds[k]? = some d → ∃ xs, d = .list xs ∧ xs.length < sizeLine ∧ es[k]? = some (.list (xs ++ [c]))
  | [], _, _, _, _, h => by simp at h
  | d :: ds, es, k, d2, h, hk => by
    cases d with
    | list xs =>
      unfold appAll at h
      split at h
      · rename_i hl
        cases e : appAll c ds with
        | none =>
          rw [e] at h
          cases h
        | some fs =>
          rw [e] at h
          cases h
          cases k with
          | zero =>
            cases hk
            exact ⟨xs, rfl, hl, rfl⟩
          | succ k => exact appAll_at (k := k) e hk
      · cases h
    | _ => cases h
theorem set_drop {α : Type} {es ds : List α} {k : Nat} {d : α} (hl : es.length = ds.length) (hk : k < ds.length) (he : es[k]? = some d) : (es.take k ++ ds.drop k).set k d = es.take (k + 1) ++ ds.drop (k + 1) := by
  have hk2 : k < es.length := by omega
  have e1 : (es.take k).length = k := by
    rw [List.length_take]
    omega
  rw [List.set_append_right _ _ (by omega), e1, Nat.sub_self, List.drop_eq_getElem_cons hk, List.set_cons_zero, List.take_succ, he, List.append_assoc]
  rfl
def forAppS (i j : Nat) (c : D) : Env → Out := fun ρ => match ρ[i]?, ρ[j]? with
  | some (some (.list ds)), some _ => (match appAll c ds with
    | some es => .nx ((ρ.set j none).set i (some (.list es)))
    | none => .stk)
  | _, _ => .stk
section
variable {K : PySem.W.Frag} {mg : Str → Option Value} {H0 : Hp} {M0 : Addr → Prop} {pn : Nat → Option V} {ow : List Nat} {σ : L2.St} {ρ : Env} {H : Hp} {As : Nat → List Addr}
theorem Sta.setDead (S : Sta K mg H0 M0 pn ow σ ρ H As) {j : Nat} (hp : pn j = none) (hd : ∀ d, ρ[j]? ≠ some (some d)) (v : V) : Sta K mg H0 M0 pn ow (σ.set j (some v)) ρ H As := by
  refine ⟨S.fr, fun i d h => ?_, S.dead, S.nd, S.new, S.sep, by rw [List.length_set]; exact S.len, fun i w h => ?_⟩
  · obtain ⟨w, h1, h2⟩ := S.rep i d h
    have hne : j ≠ i := fun e => hd d (e ▸ h)
    exact ⟨w, by rw [List.getElem?_set_ne hne]; exact h1, h2⟩
  · have hne : j ≠ i := fun e => by
      rw [e] at hp
      rw [hp] at h
      cases h
    rw [List.getElem?_set_ne hne]
    exact S.pin i w h
end
section
variable {X : Cx} {W : WX} {C : Cfg} {ow ow' : List Nat} {o ce iter tg : Expr} {pos spos apos cpos : Pos}
theorem ds_forApp {i j : Nat} {cv : V} {c : D} (hp : PassesOwn (model X.prog X.w) X.A X.env X.xe) (hc : X.calm = true) (hv : PE X iter (tVar i)) (hg : PG X tg (gName j)) (ho : PE X o (tVar j)) (hce : PE X ce (tC cv)) (hr : ∀ K mg H, Rep K mg H true cv c [])
    (hi : ow.contains i = true) (hj : ow.contains j = false) (hjp : (C.io ++ C.pl).contains j = false) (how : subL ow' ow = true)
    (hbase : attributeBase o "append" X.env (eval o X.env) = eval o X.env := by rfl)
    (hfew : ((backTo cpos (starEach [ce] X.env)).all (fun x => !x.1) && (backToKw cpos (keywordEach [] X.env)).all (fun x => x.1.isSome)
      && decide (([ce] : List Expr).length + ([] : List Keyword).length + (if ([] : List Keyword).isEmpty then 0 else 1) < 30)) = true := by rfl)
    (hline : (apos.endLine == cpos.line) = true := by rfl) (hs : starEach [ce] X.env = (false, eval ce X.env) :: starEach [] X.env := by rfl) (hplain : (backTo cpos (starEach [] X.env)).any (·.1) = false := by rfl) (hsw : swapsWith (.Call (.Attribute o "append" apos) [ce] [] cpos) none spos.line X.env = pure false := by rfl)
    (hsi : ∀ x, foldedSetIterable iter X.env x = pure x := by intro _; rfl) :
    DS X W C ow ow' (.For tg iter [.Expr (.Call (.Attribute o "append" apos) [ce] [] cpos) spos] [] pos) (forAppS i j c) := by
  obtain ⟨r, hmr, hmq⟩ := mu_append (X := X)
  refine ⟨_, ps_for hp hc (pi_list hv) hg (pss_one (ps_expr (pe_bm PySem.F.plainAttrs_list PySem.F.slot_list_append PySem.F.type_list_append hmr ho (pa_cons hce pa_nil hs) hbase hfew hline hs hplain) hsw)) hsi, fun H0 M0 pn σ ρ H As Dn hpn S z => ?_⟩
  have hi' := contains_mem.mp hi
  have hji : j ≠ i := fun e => by
    rw [e, hi] at hj
    cases hj
  have pj : pn j = none := hpn j fun w => by
    rw [contains_mem.mpr w] at hjp
    cases hjp
  unfold forAppS at z
  split at z
  · rename_i ds _ hρ hjl1
    have hjl0 := (List.getElem?_eq_some_iff.mp hjl1).1
    cases ha : appAll c ds with
    | none =>
      rw [ha] at z
      exact z.elim
    | some es =>
      rw [ha] at z
      dsimp only at z
      have hel := appAll_len ha
      obtain ⟨w0, hw, rv⟩ := S.rep i _ hρ
      rw [hi] at rv
      have rv2 := rv
      generalize eA : As i = Ai at rv
      cases rv with
      | lst h1 l1 =>
        rename_i a vs A
        have Sk : Sta X.K X.mg H0 M0 pn ow σ (ρ.set j none) H (fun l => if l ∈ [j] then [] else As l) := Sta.killAll [j] S
        have hρ2 : (ρ.set j none)[i]? = some (some (.list ds)) := by
          rw [List.getElem?_set_ne hji]
          exact hρ
        refine ⟨.ref a, hw, a, rfl, ⟨_, .inl (.inl h1)⟩, fun k m σ' H' => k + m = ds.length ∧ σ'[i]? = some (some (.ref a)) ∧ ∃ As', Sta X.K X.mg H0 M0 pn ow σ' ((ρ.set j none).set i (some (.list (es.take k ++ ds.drop k)))) H' As', ⟨ds.length, by omega, hw, fun l => if l ∈ [j] then [] else As l, ?_⟩, fun k m σ' H' hW => ?_⟩
        · rw [List.take_zero, List.nil_append, List.drop_zero]
          have e0 : (ρ.set j none).set i (some (.list ds)) = ρ.set j none := by
            apply List.ext_getElem?
            intro l
            by_cases e : i = l
            · subst e
              rw [List.getElem?_set_self (by rw [List.length_set]; exact (List.getElem?_eq_some_iff.mp hρ).1), hρ2]
            · rw [List.getElem?_set_ne e]
          rw [e0]
          exact Sk
        · obtain ⟨em, hwi, As', T⟩ := hW
          have hil : i < (ρ.set j none).length := (List.getElem?_eq_some_iff.mp hρ2).1
          have hcur : ((ρ.set j none).set i (some (.list (es.take k ++ ds.drop k))))[i]? = some (some (.list (es.take k ++ ds.drop k))) := List.getElem?_set_self hil
          obtain ⟨w1, hw1, rv1⟩ := T.rep i _ hcur
          rw [hi] at rv1
          rw [hwi] at hw1
          cases hw1
          generalize eA1 : As' i = Ai1 at rv1
          cases rv1 with
          | lst h2 l2 =>
            rename_i vs2 A1
            have hlen : vs2.length = ds.length := by
              rw [l2.len, List.length_append, List.length_take, List.length_drop]
              omega
            have sq : SqL X.K H' a vs2 := .inl (.inl h2)
            by_cases hk : k < ds.length
            · refine .inr ⟨⟨vs2, vs2[k]'(by omega), sq, List.getElem?_eq_getElem _⟩, fun σ2 H2 => σ2[i]? = some (some (.ref a)) ∧ ∃ As2, Sta X.K X.mg H0 M0 pn ow σ2 ((ρ.set j none).set i (some (.list (es.take (k + 1) ++ ds.drop (k + 1))))) H2 As2, fun σ2 H2 hN => ⟨m - 1, by omega, by omega, hN⟩, fun x H2 hy => ?_⟩
              obtain ⟨rfl, hx⟩ := hy
              have hx := hx vs2 sq
              have hdk : ds[k]? = some ds[k] := List.getElem?_eq_getElem hk
              have hck : (es.take k ++ ds.drop k)[k]? = some ds[k] := by
                have e1 : (es.take k).length = k := by
                  rw [List.length_take]
                  omega
                rw [List.getElem?_append_right (by omega), e1, Nat.sub_self, List.getElem?_drop, Nat.add_zero, hdk]
              obtain ⟨xs, exs, hxl, hes⟩ := appAll_at ha hdk
              have ndA : (a :: A1).Nodup := by
                have := T.nd i hi'
                rw [eA1] at this
                exact this
              have ndA2 := List.nodup_cons.mp ndA
              obtain ⟨v, B, g1, g2, g3, g4, g5⟩ := repL_set l2 ndA2.2 hck
              rw [g1] at hx
              cases hx
              rw [exs] at g2
              cases g2 with
              | lst hb lb =>
                rename_i b ws Bx
                have T2 := T.setDead (j := j) pj (fun d h => by
                  rw [List.getElem?_set_ne (Ne.symm hji)] at h
                  by_cases hjl : j < ρ.length
                  · rw [List.getElem?_set_self hjl] at h
                    cases h
                  · rw [List.getElem?_eq_none (by rw [List.length_set]; omega)] at h
                    cases h) (.ref b)
                have hjl : j < σ'.length := by
                  rw [T.len, List.length_set, List.length_set]
                  exact hjl0
                · refine ⟨.ref b, List.getElem?_set_self hjl, .inl ⟨rfl, _, .inl (.inl hb)⟩, ?_⟩
                  have hwi2 : (σ'.set j (some (.ref b)))[i]? = some (some (.ref a)) := by
                    rw [List.getElem?_set_ne hji]
                    exact hwi
                  show r (.ref b) [cv] H2 _
                  refine hmq H2 b ws xs Bx [cv] [c] [] _ hb lb (RepL.one (hr _ _ _)) (by rw [List.append_nil]; exact g3) (.list (xs ++ [c])) (by show (if xs.length < sizeLine then some (PyData.list (xs ++ [c])) else none) = _; rw [if_pos hxl]) ?_
                  intro ws' A2 r2 n2 h3
                  have fr : Fr (fun x => x = b) H2 (upd H2 b (.lst ws')) := fun x u hx hm => upd_fr (u := .lst ws') (M := fun x => x = b) hb rfl rfl x u hx hm
                  obtain ⟨A', q1, q2, q3⟩ := g5 (upd H2 b (.lst ws')) (fun x => x = b) (.list (xs ++ [c])) A2 fr (fun x hx m => by rw [m]; exact List.mem_cons_self) r2 n2 (fun x hx => by
                    rcases h3 x hx with q | q | q
                    · exact .inl (by rw [q]; exact List.mem_cons_self)
                    · exact .inl (List.mem_cons_of_mem _ q)
                    · cases q)
                  have hab : a ≠ b := fun q => ndA2.1 (g4 a (by rw [q]; exact List.mem_cons_self))
                  have ha2 : (upd H2 b (.lst ws')) a = some (.lst vs2) := by
                    rw [upd_ne hab]
                    exact h2
                  have inA : ∀ x ∈ A', x ∈ A1 := fun x hx => by
                    rcases q3 x hx with q | q
                    · exact q
                    · rcases h3 x q with q | q | q
                      · exact g4 x (by rw [q]; exact List.mem_cons_self)
                      · exact g4 x (List.mem_cons_of_mem _ q)
                      · cases q
                  have bin : b ∈ As' i := by
                    rw [eA1]
                    exact List.mem_cons_of_mem _ (g4 b List.mem_cons_self)
                  have T3 := T2.mut (i := i) hi' hwi2 (upd_fr hb rfl bin) (.lst ha2 q1) (List.nodup_cons.mpr ⟨fun q => ndA2.1 (inA a q), q2⟩) fun x hx => .inl (by
                    rw [eA1]
                    rcases List.mem_cons.mp hx with q | q
                    · rw [q]
                      exact List.mem_cons_self
                    · exact List.mem_cons_of_mem _ (inA x q))
                  rw [List.set_set, set_drop hel hk hes] at T3
                  exact ⟨hwi2, _, T3⟩
            · have ek : k = ds.length := by omega
              refine .inl ⟨⟨vs2, sq, by omega⟩, ?_⟩
              rw [ek, List.drop_length, List.append_nil, ← hel, List.take_length] at T
              exact z σ' H' As' (T.less (subL_mem how))
  · exact z.elim
end
end Dg

namespace Dg
open PySem PySem.Spec PyProof.Rows L2
/-! ### a dict of others, walked: it stands still meanwhile -/
section
variable {K : PySem.W.Frag} {mg : Str → Option Value} {H : Hp} {a : Addr} {od : Obj} {vs : List (Key × V)}
mutual
theorem Rep.lockB (ha : H a = some (.dK vs)) {o : Bool} (ho : o = false) {v : V} {d : D} {A : List Addr} : Rep K mg H o v d A → ∃ A', Rep K mg (upd H a (.frz od (.dK vs))) o v d A' ∧ ∀ b ∈ A', b ∈ A ∧ b ≠ a
  | .non => ⟨[], .non, fun b hb => by cases hb⟩
  | .bl b => ⟨[], .bl b, fun b hb => by cases hb⟩
  | .int i => ⟨[], .int i, fun b hb => by cases hb⟩
  | .str x => ⟨[], .str x, fun b hb => by cases hb⟩
  | .lst (a := b) h r => by
    obtain ⟨A', r', h1⟩ := r.lockB ha ho
    have ne : b ≠ a := fun z => by rw [z, ha] at h; cases h
    refine ⟨b :: A', .lst (by rw [upd_ne ne]; exact h) r', fun c hc => ?_⟩
    rcases List.mem_cons.mp hc with w | w
    · exact ⟨w ▸ List.mem_cons_self, w ▸ ne⟩
    · exact ⟨List.mem_cons_of_mem _ (h1 c w).1, (h1 c w).2⟩
  | .lstF (a := b) h r => by
    obtain ⟨A', r', h1⟩ := r.lockB ha rfl
    refine ⟨A', .lstF ?_ r', h1⟩
    rcases h with ⟨o, h⟩ | h
    · exact .inl ⟨o, by rw [upd_ne (fun z => by rw [z, ha] at h; cases h)]; exact h⟩
    · exact .inr h
  | .tup (a := b) h r => by
    obtain ⟨A', r', h1⟩ := r.lockB ha ho
    refine ⟨A', .tup ?_ r', h1⟩
    rcases h with (h | ⟨o, h⟩) | h
    · exact .inl (.inl (by rw [upd_ne (fun z => by rw [z, ha] at h; cases h)]; exact h))
    · exact .inl (.inr ⟨o, by rw [upd_ne (fun z => by rw [z, ha] at h; cases h)]; exact h⟩)
    · exact .inr h
  | .dct (a := b) h r => by
    obtain ⟨A', r', h1⟩ := r.lockB ha ho
    by_cases ne : b = a
    · subst ne
      rw [ha] at h
      cases h
      subst ho
      exact ⟨A', .dctF upd_same r', fun c hc => ⟨List.mem_cons_of_mem _ (h1 c hc).1, (h1 c hc).2⟩⟩
    · refine ⟨b :: A', .dct (by rw [upd_ne ne]; exact h) r', fun c hc => ?_⟩
      rcases List.mem_cons.mp hc with w | w
      · exact ⟨w ▸ List.mem_cons_self, w ▸ ne⟩
      · exact ⟨List.mem_cons_of_mem _ (h1 c w).1, (h1 c w).2⟩
  | .dctF (a := b) h r => by
    obtain ⟨A', r', h1⟩ := r.lockB ha rfl
    have ne : b ≠ a := fun z => by rw [z, ha] at h; cases h
    exact ⟨A', .dctF (by rw [upd_ne ne]; exact h) r', h1⟩
  | .ins (a := b) h g r => by
    obtain ⟨A', r', h1⟩ := r.lockB ha ho
    have ne : b ≠ a := fun z => by rw [z, ha] at h; cases h
    refine ⟨b :: A', .ins (by rw [upd_ne ne]; exact h) g r', fun c hc => ?_⟩
    rcases List.mem_cons.mp hc with w | w
    · exact ⟨w ▸ List.mem_cons_self, w ▸ ne⟩
    · exact ⟨List.mem_cons_of_mem _ (h1 c w).1, (h1 c w).2⟩
  | .exn (a := b) h g r => by
    obtain ⟨A', r', h1⟩ := r.lockB ha ho
    exact ⟨A', .exn (h.go fun b u e k => by
      have ne : b ≠ a := fun z => by
        rw [z, ha] at e
        cases e
        rcases k with ⟨o, k⟩ | ⟨o, k⟩ <;> cases k
      rw [upd_ne ne]
      exact e) g r', h1⟩
theorem RepL.lockB (ha : H a = some (.dK vs)) {o : Bool} (ho : o = false) {v : List V} {d : List D} {A : List Addr} : RepL K mg H o v d A → ∃ A', RepL K mg (upd H a (.frz od (.dK vs))) o v d A' ∧ ∀ b ∈ A', b ∈ A ∧ b ≠ a
  | .nil => ⟨[], .nil, fun b hb => by cases hb⟩
  | .cons h r => by
    obtain ⟨A', r', h1⟩ := h.lockB ha ho
    obtain ⟨B', s', g1⟩ := r.lockB ha ho
    refine ⟨A' ++ B', .cons r' s', fun c hc => ?_⟩
    rcases List.mem_append.mp hc with w | w
    · exact ⟨List.mem_append_left _ (h1 c w).1, (h1 c w).2⟩
    · exact ⟨List.mem_append_right _ (g1 c w).1, (g1 c w).2⟩
theorem RepP.lockB (ha : H a = some (.dK vs)) {o : Bool} (ho : o = false) {v : List (Key × V)} {d : List (D × D)} {A : List Addr} : RepP K mg H o v d A → ∃ A', RepP K mg (upd H a (.frz od (.dK vs))) o v d A' ∧ ∀ b ∈ A', b ∈ A ∧ b ≠ a
  | .nil => ⟨[], .nil, fun b hb => by cases hb⟩
  | .cons h r => by
    obtain ⟨A', r', h1⟩ := h.lockB ha ho
    obtain ⟨B', s', g1⟩ := r.lockB ha ho
    refine ⟨A' ++ B', .cons r' s', fun c hc => ?_⟩
    rcases List.mem_append.mp hc with w | w
    · exact ⟨List.mem_append_left _ (h1 c w).1, (h1 c w).2⟩
    · exact ⟨List.mem_append_right _ (g1 c w).1, (g1 c w).2⟩
theorem RepF.lockB (ha : H a = some (.dK vs)) {o : Bool} (ho : o = false) {v : List (Str × V)} {d : List (D × D)} {A : List Addr} : RepF K mg H o v d A → ∃ A', RepF K mg (upd H a (.frz od (.dK vs))) o v d A' ∧ ∀ b ∈ A', b ∈ A ∧ b ≠ a
  | .nil => ⟨[], .nil, fun b hb => by cases hb⟩
  | .cons h r => by
    obtain ⟨A', r', h1⟩ := h.lockB ha ho
    obtain ⟨B', s', g1⟩ := r.lockB ha ho
    refine ⟨A' ++ B', .cons r' s', fun c hc => ?_⟩
    rcases List.mem_append.mp hc with w | w
    · exact ⟨List.mem_append_left _ (h1 c w).1, (h1 c w).2⟩
    · exact ⟨List.mem_append_right _ (g1 c w).1, (g1 c w).2⟩
end
theorem Sta.lockB {H0 : Hp} {M0 : Addr → Prop} {pn : Nat → Option V} {ow : List Nat} {σ : L2.St} {ρ : Env} {As : Nat → List Addr} (S : Sta K mg H0 M0 pn ow σ ρ H As) (ha : H a = some (.dK vs)) (hna : ∀ j ∈ ow, a ∉ As j) :
    ∃ As', Sta K mg (upd H a (.frz od (.dK vs))) (fun b => ∃ l ∈ ow, b ∈ As l) pn ow σ ρ (upd H a (.frz od (.dK vs))) As' ∧ ∀ j ∈ ow, As' j = As j := by
  have fr1 : Fr (fun b => b = a) H (upd H a (.frz od (.dK vs))) := fr_lock ha rfl
  have each : ∀ j, ∃ A', (∀ d, ρ[j]? = some (some d) → ∃ v, σ[j]? = some (some v) ∧ Rep K mg (upd H a (.frz od (.dK vs))) (ow.contains j) v d A') ∧ (j ∈ ow → A' = As j) ∧ (∀ b ∈ A', b ∈ As j) ∧ ((∀ d, ρ[j]? ≠ some (some d)) → A' = []) := fun j => by
    by_cases h : ∃ d, ρ[j]? = some (some d)
    · obtain ⟨d, e⟩ := h
      obtain ⟨v, hv, r⟩ := S.rep j d e
      by_cases hj : j ∈ ow
      · refine ⟨As j, fun d' e' => ?_, fun _ => rfl, fun b hb => hb, fun z => absurd e (z d)⟩
        rw [e] at e'
        cases e'
        exact ⟨v, hv, r.fr fr1 fun b hb w => hna j hj (w ▸ hb)⟩
      · have hc : ow.contains j = false := Bool.eq_false_iff.mpr fun w => hj (contains_mem.mp w)
        rw [hc] at r
        obtain ⟨A', r', h1⟩ := r.lockB (od := od) ha rfl
        refine ⟨A', fun d' e' => ?_, fun z => absurd z hj, fun b hb => (h1 b hb).1, fun z => absurd e (z d)⟩
        rw [e] at e'
        cases e'
        rw [hc]
        exact ⟨v, hv, r'⟩
    · have hd := S.dead j fun d e => h ⟨d, e⟩
      exact ⟨[], (fun d e => absurd ⟨d, e⟩ h), (fun _ => hd.symm), (fun b hb => by cases hb), fun _ => rfl⟩
  obtain ⟨f, hf⟩ := Classical.axiomOfChoice each
  refine ⟨f, ⟨Fr.refl _ _, fun j d e => (hf j).1 d e, fun j h => (hf j).2.2.2 h, fun j hj => ?_, fun j hj b hb => ?_, fun j hj l hl b hb hc => ?_, S.len, S.pin⟩, fun j hj => (hf j).2.1 hj⟩
  · rw [(hf j).2.1 hj]
    exact S.nd j hj
  · rw [(hf j).2.1 hj] at hb
    exact .inr ⟨j, hj, hb⟩
  · rw [(hf j).2.1 hj] at hb
    exact S.sep j hj l hl b hb ((hf l).2.2.1 b hc)
end
section
variable {X : Cx} {W : WX} {C : Cfg} {ow ow' ow1 : List Nat} {e tg : Expr} {st : Stmt} {sts : List Stmt} {f : Env → Out} {pos p2 : Pos}
theorem PS.or2 {t u : TS} (h : PS X st t) (h' : PS X st u) : PS X st (fun D σ H => t D σ H ∨ u D σ H) := by
  refine ⟨fun pins s σ H D I q => ?_⟩
  rcases q with q | q
  · exact h.run pins s σ H D I q
  · exact h'.run pins s σ H D I q
theorem dsp_lockB {i : Nat} (h : DSP (Lkd i) X W C ow ow1 st f) (hi : ow.contains i = false) : DS X W C ow ow1 st (onlyS (isDct i) (noX f)) := by
  obtain ⟨ts, p, q⟩ := h
  refine ⟨_, PS.or2 (ps_lock p) p, fun H0 M0 pn σ ρ H As Dn hp S z => ?_⟩
  unfold onlyS at z
  split at z
  rotate_left
  · exact z.elim
  rename_i hd
  unfold isDct at hd
  split at hd
  rotate_left
  · cases hd
  rename_i kvs hρ
  obtain ⟨v, hσ, r⟩ := S.rep i _ hρ
  rw [hi] at r
  obtain ⟨a, vs, A', rfl, l, hA', hcase⟩ := rep_dictN r (by simpa using hd)
  have zz : ∀ {o : Out}, noX f ρ = o → Post X W C H0 M0 pn ow1 Dn o := fun e => e ▸ z
  rcases hcase with ⟨ha, hmem⟩ | ⟨u, ha⟩
  · have hni : i ∉ ow := fun w => by
      rw [contains_mem.mpr w] at hi
      cases hi
    have hna : ∀ j ∈ ow, a ∉ As j := fun j hj w => S.sep j hj i (fun e => hni (e ▸ hj)) a w (by rw [hmem]; exact List.mem_cons_self)
    refine .inl ⟨a, .dK vs, ha, trivial, fun od => ?_⟩
    obtain ⟨Ak, T, eT⟩ := S.lockB (od := od) ha hna
    have none1 : ∀ b, (upd H a (.frz od (.dK vs))) b = none → H b = none := fun b hb => by
      by_cases w : b = a
      · rw [w, upd_same] at hb
        cases hb
      · rw [upd_ne w] at hb
        exact hb
    have frz : ∀ {H4 : Hp}, Fr (fun b => ∃ l ∈ ow, b ∈ As l) (upd H a (.frz od (.dK vs))) H4 → H4 a = some (.frz od (.dK vs)) := fun f => f a _ upd_same fun w => by cases w
    have frU : ∀ {H4 : Hp}, Fr (fun b => ∃ l ∈ ow, b ∈ As l) (upd H a (.frz od (.dK vs))) H4 → Fr (fun b => ∃ l ∈ ow, b ∈ As l) H (upd H4 a (.dK vs)) := fun f b o hb hm => by
      by_cases w : b = a
      · subst w
        rw [ha] at hb
        cases hb
        exact upd_same
      · rw [upd_ne w]
        exact f b o (by rw [upd_ne w]; exact hb) hm
    refine q _ _ pn σ ρ _ _ _ hp T ⟨a, od, vs, hσ, upd_same⟩ ?_
    unfold noX at z
    cases hf : f ρ with
    | stk =>
      rw [hf] at z
      exact z
    | nx r =>
      rw [hf] at z
      intro σ4 H4 As4 T4
      obtain ⟨As5, T5, _, _⟩ := T4.unlock (frz T4.fr) (frU T4.fr) none1
      exact ⟨frz T4.fr, z σ4 _ As5 (S.unbase T5)⟩
    | brk r =>
      rw [hf] at z
      intro σ4 H4 As4 T4
      obtain ⟨As5, T5, _, _⟩ := T4.unlock (frz T4.fr) (frU T4.fr) none1
      exact ⟨frz T4.fr, z σ4 _ As5 (S.unbase T5)⟩
    | cnt r =>
      rw [hf] at z
      intro σ4 H4 As4 T4
      obtain ⟨As5, T5, _, _⟩ := T4.unlock (frz T4.fr) (frU T4.fr) none1
      exact ⟨frz T4.fr, z σ4 _ As5 (S.unbase T5)⟩
    | ret d r =>
      rw [hf] at z
      intro v σ4 H4 As4 A4 T4 r4 n4
      obtain ⟨As5, T5, e5, _⟩ := T4.unlock (frz T4.fr) (frU T4.fr) none1
      obtain ⟨A5, r5, _, eA5⟩ := r4.unlock (frz T4.fr)
      refine ⟨frz T4.fr, z v σ4 _ As5 A5 (S.unbase T5) r5 fun e => ?_⟩
      rw [eA5 (by rw [e]; rfl)]
      refine ⟨(n4 e).1, fun b hb => ⟨S.was2 (((n4 e).2 b hb).1.imp (none1 b) id), fun j hj w => ?_⟩⟩
      rw [e5 j hj] at w
      exact ((n4 e).2 b hb).2 j hj w
    | exc x r =>
      rw [hf] at z
      exact z.elim
  · refine .inr (q H0 M0 pn σ ρ H As Dn hp S ⟨a, u, vs, hσ, ha⟩ ?_)
    unfold noX at z
    cases hf : f ρ with
    | exc x r =>
      rw [hf] at z
      exact z.elim
    | _ =>
      rw [hf] at z
      exact z
/-- for x in d.values() / for k in d, d the slot i of others -/
theorem ds_forB {i : Nat} {is ss ks owl : List Nat} {items : Env → R (List D)} {t : D → Option (List D)} {iter : Expr} (hp : PassesOwn (model X.prog X.w) X.A X.env X.xe) (hc : X.calm = true) (hi : DIP (Lkd i) X W ow ss tg iter items) (hg : DG X is tg t)
    (hb : DSs X W { C with owl := owl } owl owl sts f) (h1 : subL owl ow = true) (h2 : disL owl ss = true) (h3 : disL owl is = true) (h4 : disL is (C.io ++ C.pl) = true) (h5 : subL ow' owl = true) (h6 : subL C.owx ow = true) (hio : ow.contains i = false)
    (hs : ∀ x, foldedSetIterable iter X.env x = pure x := by intro _; rfl) : DS X W C ow ow' (.For tg iter sts [] pos) (onlyS (isDct i) (noX (forS is t ks items f))) :=
  dsp_lockB (dsp_for hp hc hi hg hb h1 h2 h3 h4 h5 h6 hs) hio
end
end Dg

namespace Dg
open PySem PySem.Spec PyProof.Rows L2
/-! ### dict(xs) of a list of pairs -/
def pairsD : List D → Option (List (D × D))
  | [] => some []
  | .tuple [k, v] :: r => if isKey k = true ∧ imm v = true then (pairsD r).map ((k, v) :: ·) else none
  | _ :: _ => none
def putsAll : List (D × D) → List (D × D) → Option (List (D × D))
  | d, [] => some d
  | d, (k, v) :: r => (putD d k v).bind fun d' => putsAll d' r
def dDictP (ds : List D) : R D := match ds with
  | [.list xs] => (match pairsD xs with
    | some ps => (match putsAll [] ps with
      | some es => .ok (.dict es)
      | none => .stk)
    | none => .stk)
  | _ => .stk
theorem repP_merge {K : PySem.W.Frag} {mg : Str → Option Value} {H : Hp} : ∀ {more : List (Key × V)} {ps : List (D × D)} {B : List Addr}, RepP K mg H true more ps B → B = [] → ∀ {acc : List (Key × V)} {ad es : List (D × D)}, RepP K mg H true acc ad [] → putsAll ad ps = some es → RepP K mg H true (mergeK acc more) es []
  | _, _, _, .nil, _, acc, ad, es, ra, e => by
    cases e
    exact ra
  | _, _, _, .cons (k := k) (v := v) (d := d) (vs := vs) (ds := ds) (A := A1) (B := B1) h r, hB, acc, ad, es, ra, e => by
    have hA1 : A1 = [] := (List.append_eq_nil_iff.mp hB).1
    have hB1 : B1 = [] := (List.append_eq_nil_iff.mp hB).2
    subst hA1
    rw [putsAll] at e
    cases hp : putD ad (kD k) d with
    | none =>
      rw [hp] at e
      cases e
    | some a2 =>
      rw [hp] at e
      obtain ⟨A', q1, _, q3⟩ := repP_put h ra hp List.nodup_nil
      have : A' = [] := List.eq_nil_iff_forall_not_mem.mpr fun z hz => by
        rcases q3 z hz with w | w <;> cases w
      subst this
      exact repP_merge r hB1 q1 e
theorem rep_pairs {K : PySem.W.Frag} {mg : Str → Option Value} {H : Hp} : ∀ {vs : List V} {xs : List D} {A : List Addr} {ps : List (D × D)}, RepL K mg H false vs xs A → pairsD xs = some ps → ∃ (ad : List Addr) (kvs : List (Key × V)), vs = ad.map V.ref ∧ Paired (fun p kv => SqT K H p [kV kv.1, kv.2]) ad kvs ∧ RepP K mg H true kvs ps []
  | _, _, _, _, .nil, e => by
    cases e
    exact ⟨[], [], rfl, .nil, .nil⟩
  | _, _, _, ps, .cons (d := d) h r, e => by
    cases d with
    | tuple zs =>
      match zs, e, h with
      | [k, v], e, h =>
        rw [pairsD] at e
        split at e
        · rename_i hk
          cases he : pairsD _ with
          | none =>
            rw [he] at e
            cases e
          | some qs =>
            rw [he] at e
            cases e
            obtain ⟨ad, kvs, e1, e2, e3⟩ := rep_pairs r he
            obtain ⟨kk, rfl⟩ := isKey_kD hk.1
            cases h with
            | tup hs l =>
              cases l with
              | cons r1 l2 =>
                cases l2 with
                | cons r2 l3 =>
                  cases l3
                  have ek := rep_key r1
                  subst ek
                  obtain ⟨_, r2'⟩ := r2.imm hk.2
                  refine ⟨_ :: ad, (kk, _) :: kvs, by rw [e1]; rfl, .cons hs e2, ?_⟩
                  exact RepP.cons (A := []) (B := []) r2' e3
        · cases e
      | [], e, _ => cases e
      | [_], e, _ => cases e
      | _ :: _ :: _ :: _, e, _ => cases e
    | _ => cases e
section
variable {X : Cx}
theorem call_dDictP (hc : X.calm = true) : CallD X (.type "dict") dDictP := by
  refine ⟨_, call_dictP hc, fun xs z h => ?_, fun H xs ds A Q r h => ?_⟩
  · unfold dDictP at h
    split at h <;> first | (cases h; done) | (split at h <;> first | (cases h; done) | (split at h <;> cases h))
  · unfold dDictP at h
    split at h
    · rename_i zs
      cases r with
      | cons r1 r2 =>
        cases r2
        split at h
        · rename_i ps hps
          split at h
          · rename_i es hes
            cases r1 with
            | lst h1 l1 =>
              obtain ⟨ad, kvs, e1, e2, e3⟩ := rep_pairs l1 hps
              subst e1
              have rm := repP_merge e3 rfl (acc := []) (ad := []) .nil hes
              refine ⟨_, ad, kvs, rfl, .inl (.inl h1), e2, fun p hp => ?_⟩
              have rs : RepP X.K X.mg (upd H p (.dK (mergeK [] kvs))) true (mergeK [] kvs) es [] := rm.fr (Fr.of_same (M := fun _ => False) (same_upd hp)) fun _ _ z => z
              exact h _ _ [p] (same_upd hp) (.dct upd_same rs) (List.nodup_cons.mpr ⟨(by intro z; cases z), List.nodup_nil⟩) fun a ha => by
                rw [List.mem_singleton.mp ha]
                exact hp
          · exact h.elim
        · exact h.elim
    · exact h.elim
end
end Dg

namespace Dg
open PySem PySem.Spec PyProof.Rows L2
/-! ### defs that may raise -/
theorem fn_pureX {P : Program} {w : World} {K : PySem.W.Frag} {mg : Str → Option Value} {base : Heap} {x qual : Str} {st : Stmt} {fa : Addr} {fd : FuncData} {N ps : List Str} {kk : Nat} {den : Env → Out} (F : Fun K x qual st fa fd) (S : FnScope N ps (defScope st))
    (hb : ∀ (cdv : Value) (A : Around) (outer : List PySem.Env) (s : Shared) (H : Hp) (E : XK), Room kk (A.deeper (envOfC qual (defScope st) s.heap.objs.size fa cdv)) → ∃ ow', DSs (cxOf (L2.CX P w) P w K mg base N qual (defScope st) fa cdv A outer s H E) (fun cls d _ H' => E cls d H') { io := [], owl := [], owx := [], pl := [] } [] ow' (defBody st) den) :
    FnOk P w K mg base (L2.CX P w) (kk + 1) fa fd ps (spD K mg ps.length fun ds => runF N.length den ds) := by
  refine F.okX S (fun vs H Q E h => ?_) (fun cdv A outer s H vs Q E hr h => ?_)
  · obtain ⟨ds, A, _, hl, _⟩ := h
    exact hl
  · obtain ⟨ds, A', r, hl, z⟩ := h
    obtain ⟨ow', ts, p, q⟩ := hb cdv A outer s H E hr
    refine ⟨ts, p, ?_⟩
    obtain ⟨As, S0⟩ := start_sta (N := N) r
    refine q H _ _ _ _ H As _ (fun _ _ => rfl) S0 ?_
    dsimp only at z
    unfold runF at z
    cases hd : den (startD N.length ds) with
    | nx r =>
      rw [hd] at z
      exact fun σ' H' As' S' => z .non H' [] (fun a o h => S'.fr a o h fun _ => id) .non List.nodup_nil fun b hb => by cases hb
    | ret d r =>
      rw [hd] at z
      exact fun v σ' H' As' A' S' rp nf => z v H' A' (fun a o h => S'.fr a o h fun _ => id) rp (nf rfl).1 fun b hb => ((nf rfl).2 b hb).1.resolve_right id
    | brk r =>
      rw [hd] at z
      exact z.elim
    | cnt r =>
      rw [hd] at z
      exact z.elim
    | exc x r =>
      rw [hd] at z
      exact fun c dd σ' H' As' A' S' rp fx => z c dd H' A' (fun a o h => S'.fr a o h fun _ => id) rp fun b hb => (fx b hb).1.resolve_right id
    | stk =>
      rw [hd] at z
      exact z
theorem fn_okX {P : Program} {w : World} {K : PySem.W.Frag} {mg : Str → Option Value} {base : Heap} {x qual : Str} {st : Stmt} {fa : Addr} {fd : FuncData} {N ps : List Str} {kk n m : Nat} {den : Env → Out} {f : List D → R D} (F : Fun K x qual st fa fd) (S : FnScope N ps (defScope st))
    (hf : ∀ ds, f ds = runF n den ds) (hn : N.length = n) (hm : ps.length = m)
    (hb : ∀ (cdv : Value) (A : Around) (outer : List PySem.Env) (s : Shared) (H : Hp) (E : XK), Room kk (A.deeper (envOfC qual (defScope st) s.heap.objs.size fa cdv)) → ∃ ow', DSs (cxOf (L2.CX P w) P w K mg base N qual (defScope st) fa cdv A outer s H E) (fun cls d _ H' => E cls d H') { io := [], owl := [], owx := [], pl := [] } [] ow' (defBody st) den) :
    FnOk P w K mg base (L2.CX P w) (kk + 1) fa fd ps (spD K mg m f) := by
  subst hn hm
  have e : f = fun ds => runF N.length den ds := funext hf
  rw [e]
  exact fn_pureX F S hb
def callX (f : List D → R D) (g : Env → R (List D)) : Env → R D := fun ρ => (g ρ).bind f
section
variable {X : Cx} {W : WX} {C : Cfg} {ow ow' ow1 owh : List Nat} {k : Kd} {e : Expr} {es : List Expr} {st : Stmt} {f g : Env → Out} {pos p p2 : Pos}
/-- a call that may raise, where that is taken -/
theorem de_callX {x : Str} {kk n : Nat} {f : List D → R D} {g : Env → R (List D)} (h : Cal X.prog X.w X.K X.mg X.base (L2.CX X.prog X.w) x kk n f) (hr : Room kk X.A) (tk : Takes X W) (ha : DA X W ow k n (e :: es) g) (hg : Gl X x := by rfl)
    (hdb : (x == ("__debug__" : Str)) = false := by decide) (he : starEach (e :: es) X.env = (false, eval e X.env) :: starEach es X.env := by rfl) (hpl : (backTo pos (starEach es X.env)).any (·.1) = false := by rfl) : DE X W ow (.own []) (.Call (.Name x p) (e :: es) [] pos) (callX f g) := by
  obtain ⟨addr, fd, ps, F, hm, hk, hb⟩ := h
  obtain ⟨ta, pa, q⟩ := ha
  refine ⟨_, pe_callS F hr hg hm hk hb (fun σ => passAt tk σ) pa hdb he hpl, fun σ ρ H As Q S z => ?_⟩
  refine q σ ρ H As _ S ?_
  unfold callX at z
  cases hd : g ρ with
  | stk =>
    rw [hd] at z
    exact z
  | exc x =>
    rw [hd] at z
    exact z
  | ok d =>
    rw [hd, R.bind_ok] at z
    intro vs H' A sm rp ok hl
    refine ⟨d, A, rp.weak, hl, ?_⟩
    cases hf : f d with
    | ok y =>
      rw [hf] at z
      exact fun v H2 B s2 r2 nd fr => z v H2 B (sm.trans s2) r2 ⟨nd, (fun _ w => by cases w), fun b hb => .inl (sm.free (fr b hb))⟩
    | exc x =>
      rw [hf] at z
      exact fun c dd H2 B s2 r2 fr => z c dd H2 B (sm.trans s2) r2 fun b hb => sm.free (fr b hb)
    | stk =>
      rw [hf] at z
      exact z
/-- .. where nothing may come out -/
theorem de_callN {x : Str} {kk n : Nat} {f : List D → R D} {g : Env → R (List D)} (h : Cal X.prog X.w X.K X.mg X.base (L2.CX X.prog X.w) x kk n f) (hr : Room kk X.A) (ha : DA X W ow k n (e :: es) g) (hg : Gl X x := by rfl)
    (hdb : (x == ("__debug__" : Str)) = false := by decide) (he : starEach (e :: es) X.env = (false, eval e X.env) :: starEach es X.env := by rfl) (hpl : (backTo pos (starEach es X.env)).any (·.1) = false := by rfl) : DE X W ow (.own []) (.Call (.Name x p) (e :: es) [] pos) (callP f g) := by
  obtain ⟨addr, fd, ps, F, hm, hk, hb⟩ := h
  obtain ⟨ta, pa, q⟩ := ha
  refine ⟨_, pe_callS (E := fun _ _ _ _ => False) F hr hg hm hk hb (fun σ pins H s e s' I c => ?_) pa hdb he hpl, fun σ ρ H As Q S z => ?_⟩
  · obtain ⟨_, _, _, _, _, _, _, _, _, _, _, _, w⟩ := c
    exact w.elim
  refine q σ ρ H As _ S ?_
  unfold callP at z
  cases hd : g ρ with
  | stk =>
    rw [hd] at z
    exact z
  | exc x =>
    rw [hd] at z
    exact z
  | ok d =>
    rw [hd, R.bind_ok] at z
    intro vs H' A sm rp ok hl
    refine ⟨d, A, rp.weak, hl, ?_⟩
    cases hf : f d with
    | ok y =>
      rw [hf] at z
      exact fun v H2 B s2 r2 nd fr => z v H2 B (sm.trans s2) r2 ⟨nd, (fun _ w => by cases w), fun b hb => .inl (sm.free (fr b hb))⟩
    | exc x =>
      rw [hf] at z
      exact z.elim
    | stk =>
      rw [hf] at z
      exact z
/-! ### try -/
/-- which classes a clause takes; what is not told is not served -/
def tryS (tab : Str → Option Bool) (body suite : Env → Out) : Env → Out := fun ρ => match body ρ with
  | .exc x r => (match tab x.cls with
    | some true => noX suite r
    | some false => .exc x r
    | none => .stk)
  | o => o
theorem noX_post {g : Env → Out} {H0 : Hp} {M0 : Addr → Prop} {pn : Nat → Option V} {Dn : Ends} {ρ : Env} {X' : Cx} (hK : X'.K = X.K) (hm : X'.mg = X.mg) (z : Post X W C H0 M0 pn ow' Dn (noX g ρ)) : Post X' noW C H0 M0 pn ow' Dn (g ρ) := by
  unfold Post at z ⊢
  unfold noX at z
  cases hg : g ρ with
  | exc x r =>
    rw [hg] at z
    exact z.elim
  | nx r =>
    rw [hg] at z
    rw [hK, hm]
    exact z
  | ret d r =>
    rw [hg] at z
    rw [hK, hm]
    exact z
  | brk r =>
    rw [hg] at z
    rw [hK, hm]
    exact z
  | cnt r =>
    rw [hg] at z
    rw [hK, hm]
    exact z
  | stk =>
    rw [hg] at z
    exact z
theorem pss_imp {sts : List Stmt} {t t' : TS} (h : PSs X sts t) (i : ∀ D σ H, t' D σ H → t D σ H) : PSs X sts t' := ⟨fun pins s σ H D I z => h.run pins s σ H D I (i _ _ _ z)⟩
open Classical in
theorem ds_tryOnly {cn : Str} {cv : Value} {tab : Str → Option Bool} {body suite : List Stmt} {b₀ : Stmt} {np pos' : Pos} (owh : List Nat) (hs : X.stack = X.env :: X.outer) (hf : X.env.frame = some X.env.locals) (hc : Names X cn cv) (tk : Takes X W)
    (htab : ∀ nm A b, X.mg nm = some (.ref A) → tab nm = some b → PySem.W.exmOne X.K (.ref A) cv = some b)
    (hb : ∀ (W' : WX) (pn : List (Addr × Obj)) (xe : Value → Shared → Prop), Takes (X.tr pn xe) W' → PassesOwn (model X.prog X.w) X.A X.env xe → DSs (X.tr pn xe) W' { C with owx := owh } ow ow' body f)
    (hsu : ∀ (a : Addr) (oe : Obj) (pn : List (Addr × Obj)), DSs (X.suite a ((a, oe) :: pn)) noW C owh ow' (b₀ :: suite) g)
    (h1 : subL C.owx owh = true) :
    DS X W C ow ow' (.Try body [.ExceptHandler (some (.Name cn np)) none (b₀ :: suite) pos'] [] [] pos) (tryS tab f g) := by
  let tb : WX → TS := fun W' D σ H => ∀ pn xe h1 h2, (hb W' pn xe h1 h2).choose D σ H
  let ts : Addr → Value → Option Addr → TS := fun a _ _ D σ H => ∀ oe pn, (hsu a oe pn).choose D σ H
  refine ⟨_, ps_try_only (tb := tb) (ts := ts) hs hf hc tk (fun W' pn xe h1 h2 => pss_imp (hb W' pn xe h1 h2).choose_spec.1 fun D σ H z => z pn xe h1 h2) (fun a oe cls d pn _ _ => pss_imp (hsu a oe pn).choose_spec.1 fun D σ H z => z oe pn), fun H0 M0 pn σ ρ H As Dn hp S z => ?_⟩
  intro pn' xe' k1 k2
  refine (hb _ pn' xe' k1 k2).choose_spec.2 H0 M0 pn σ ρ H As Dn hp S ?_
  unfold tryS at z
  cases hfr : f ρ with
  | nx r =>
    rw [hfr] at z
    exact z
  | ret d r =>
    rw [hfr] at z
    exact z
  | brk r =>
    rw [hfr] at z
    exact z
  | cnt r =>
    rw [hfr] at z
    exact z
  | stk =>
    rw [hfr] at z
    exact z
  | exc x r =>
    rw [hfr] at z
    dsimp only at z
    intro c dd σ' H' As' A S' rx fx
    have rx0 := rx
    obtain ⟨Ca, rfl, hm, _⟩ := rx
    cases ht : tab x.cls with
    | none =>
      rw [ht] at z
      exact z.elim
    | some b =>
      rw [ht] at z
      refine ⟨b, htab _ _ _ hm ht, fun hbt a ha oe pn2 => ?_, fun hbf => ?_⟩
      · subst hbt
        dsimp only at z
        exact (hsu a oe pn2).choose_spec.2 H0 M0 pn σ' r H' As' Dn hp S' (noX_post rfl rfl z)
      · subst hbf
        dsimp only at z
        exact z _ dd σ' H' As' A (S'.less (subL_mem h1)) rx0 fx
end
/-! ### raise -/
section
variable {K : PySem.W.Frag} {mg : Str → Option Value} {H H' : Hp}
theorem ext_lst {P : Heap → Prop} {xs : List V} : HO.ext P ≠ .lst xs := fun z => by cases z
mutual
/-- what is none of the told ones may go -/
theorem Rep.skip {a : Addr} (g : ∀ b u, H b = some u → b ≠ a → H' b = some u) (ha : ∃ P, H a = some (HO.ext P)) {o : Bool} {v : V} {d : D} {A : List Addr} : Rep K mg H o v d A → Rep K mg H' o v d A
  | .non => .non
  | .bl b => .bl b
  | .int i => .int i
  | .str x => .str x
  | .lst h r => .lst (g _ _ h fun z => by obtain ⟨P, q⟩ := ha; rw [z, q] at h; cases h) (r.skip g ha)
  | .lstF h r => .lstF (by
      rcases h with ⟨u, h⟩ | h
      · exact .inl ⟨u, g _ _ h fun z => by obtain ⟨P, q⟩ := ha; rw [z, q] at h; cases h⟩
      · exact .inr h) (r.skip g ha)
  | .tup h r => .tup (by
      rcases h with (h | ⟨u, h⟩) | h
      · exact .inl (.inl (g _ _ h fun z => by obtain ⟨P, q⟩ := ha; rw [z, q] at h; cases h))
      · exact .inl (.inr ⟨u, g _ _ h fun z => by obtain ⟨P, q⟩ := ha; rw [z, q] at h; cases h⟩)
      · exact .inr h) (r.skip g ha)
  | .dct h r => .dct (g _ _ h fun z => by obtain ⟨P, q⟩ := ha; rw [z, q] at h; cases h) (r.skip g ha)
  | .dctF h r => .dctF (g _ _ h fun z => by obtain ⟨P, q⟩ := ha; rw [z, q] at h; cases h) (r.skip g ha)
  | .ins h q r => .ins (g _ _ h fun z => by obtain ⟨P, q⟩ := ha; rw [z, q] at h; cases h) q (r.skip g ha)
  | .exn h q r => .exn (h.go fun b u e k => g _ _ e fun z => by
      obtain ⟨P, q⟩ := ha
      rw [z, q] at e
      cases e
      rcases k with ⟨o, k⟩ | ⟨o, k⟩ <;> cases k) q (r.skip g ha)
theorem RepL.skip {a : Addr} (g : ∀ b u, H b = some u → b ≠ a → H' b = some u) (ha : ∃ P, H a = some (HO.ext P)) {o : Bool} {v : List V} {d : List D} {A : List Addr} : RepL K mg H o v d A → RepL K mg H' o v d A
  | .nil => .nil
  | .cons h r => .cons (h.skip g ha) (r.skip g ha)
theorem RepP.skip {a : Addr} (g : ∀ b u, H b = some u → b ≠ a → H' b = some u) (ha : ∃ P, H a = some (HO.ext P)) {o : Bool} {v : List (Key × V)} {d : List (D × D)} {A : List Addr} : RepP K mg H o v d A → RepP K mg H' o v d A
  | .nil => .nil
  | .cons h r => .cons (h.skip g ha) (r.skip g ha)
theorem RepF.skip {a : Addr} (g : ∀ b u, H b = some u → b ≠ a → H' b = some u) (ha : ∃ P, H a = some (HO.ext P)) {o : Bool} {v : List (Str × V)} {d : List (D × D)} {A : List Addr} : RepF K mg H o v d A → RepF K mg H' o v d A
  | .nil => .nil
  | .cons h r => .cons (h.skip g ha) (r.skip g ha)
end
/-- __init__(self, x) with the one line self.f = e -/
def spI (K : PySem.W.Frag) (mg : Str → Option Value) (f : Str) (den : Env → R D) : Sp := fun vs H Q _ => ∃ (a C : Addr) (v : V) (d : D) (A : List Addr), vs = [.ref a, v] ∧ OexC K C ∧ PySem.W.findIn K (.ref C) f = some none ∧ H a = some (exo a C none) ∧ Rep K mg H false v d A ∧
  (match den [none, some d] with
  | .ok y => ∀ (dx : Addr) (v' : V) (H1 : Hp) (B : List Addr), Same H H1 → Rep K mg H1 true v' y B → B.Nodup → (∀ b ∈ B, H b = none) → H1 dx = none → dx ≠ a → Q .non (upd (upd H1 dx (exd dx [(f, v')])) a (exo a C (some dx)))
  | _ => False)
theorem init_ok {P : Program} {w : World} {base : Heap} {x qual : Str} {st : Stmt} {fa : Addr} {fd : FuncData} {p1 p2 f : Str} {kk : Nat} {den : Env → R D} {e : Expr} {np ap pos : Pos} (F : Fun K x qual st fa fd) (S : FnScope [p1, p2] [p1, p2] (defScope st)) (hbd : defBody st = [.Assign [.Attribute (.Name p1 np) f ap] e pos])
    (hb : ∀ (cdv : Value) (A : Around) (outer : List PySem.Env) (s : Shared) (H : Hp) (E : XK), Room kk (A.deeper (envOfC qual (defScope st) s.heap.objs.size fa cdv)) →
      DE (cxOf CX0 P w K mg base [p1, p2] qual (defScope st) fa cdv A outer s H E).nox noW [] (.own []) e den ∧ PE (cxOf CX0 P w K mg base [p1, p2] qual (defScope st) fa cdv A outer s H E).nox (.Name p1 np) (tVar 0) ∧
      swapsWith e (some (.Attribute (.Name p1 np) f ap)) pos.line (cxOf CX0 P w K mg base [p1, p2] qual (defScope st) fa cdv A outer s H E).nox.env = pure false) :
    FnOk P w K mg base CX0 (kk + 1) fa fd [p1, p2] (spI K mg f den) := by
  refine F.ok S (fun vs H Q E h => ?_) (fun cdv A outer s H vs Q E hr h => ?_)
  · obtain ⟨a, C, v, d, A, rfl, _⟩ := h
    rfl
  · obtain ⟨a, C, v, d, A', rfl, T, hno, ha, r, z⟩ := h
    obtain ⟨⟨te, pe, qe⟩, po, sw⟩ := hb cdv A outer s H E hr
    refine ⟨_, by rw [hbd]; exact pss_one (ps_ost po pe sw), ?_⟩
    have S0 : Sta K mg H (fun _ => False) (fun _ => none) [] (start [p1, p2] [.ref a, v]) [none, some d] H (fun i => if i = 1 then A' else []) := by
      refine ⟨Fr.refl _ _, fun i d' e' => ?_, fun i hn => ?_, (fun i hi => by cases hi), (fun i hi => by cases hi), (fun i hi => by cases hi), rfl, (fun j v z => by cases z)⟩
      · match i, e' with
        | 1, e' =>
          cases e'
          exact ⟨v, rfl, r⟩
      · by_cases hi : i = 1
        · subst hi
          exact absurd rfl (hn d)
        · rw [if_neg hi]
    refine qe _ _ _ _ _ ⟨_, _, _, S0⟩ ?_
    cases hd : den [none, some d] with
    | exc x =>
      rw [hd] at z
      exact z.elim
    | stk =>
      rw [hd] at z
      exact z.elim
    | ok y =>
      rw [hd] at z
      intro v' H1 B sm rp ok
      have fr : ∀ b ∈ B, H b = none := fun b hb => by
        rcases ok.2.2 b hb with w | ⟨j, hj, _⟩
        · exact w
        · cases hj
      refine ⟨.ref a, rfl, a, C, rfl, T, hno, .inl ⟨sm a _ ha, fun dx hdx hda => ?_⟩⟩
      exact z dx v' H1 B sm rp ok.1 fr hdx hda
end
def raiseS (cls f : Str) (den : Env → R D) (g : Env → R (List D)) : Env → Out := fun ρ => match g ρ with
  | .ok [d] => (match den [none, some d] with
    | .ok y => .exc ⟨cls, [(.str f, y)]⟩ ρ
    | _ => .stk)
  | .exc x => .exc x ρ
  | _ => .stk
section
variable {X : Cx} {W : WX} {C : Cfg} {ow ow' : List Nat} {k : Kd} {e : Expr} {es : List Expr} {pos p p2 : Pos}
/-- raise X(e), X's own __init__ being told by spI -/
theorem ds_raiseI {x f : Str} {Ca fI : Addr} {kk : Nat} {fd : FuncData} {ps : List Str} {den : Env → R D} {g : Env → R (List D)} (hc : X.calm = true) (tk : Takes X W) (T : OexC X.K Ca) (hno : PySem.W.findIn X.K (.ref Ca) f = some none) (iC : PySem.W.findIn X.K (.ref Ca) "__init__" = some (some (.ref fI))) (tI : PySem.W.typeIn X.K (.ref fI) = some (.type "function"))
    (F1 : FnOk X.prog X.w X.K X.mg X.base CX0 kk fI fd ps (spI X.K X.mg f den)) (hr : Room (kk + 1) X.A) (hb : Binds X.K fd ps []) (hm : X.mg x = some (.ref Ca)) (ha : DA X W ow k 1 [e] g) (hox : subL C.owx ow = true) (hg : Gl X x := by rfl)
    (hdb : (x == ("__debug__" : Str)) = false := by decide) (he : starEach [e] X.env = (false, eval e X.env) :: starEach [] X.env := by rfl) (hpl : (backTo pos (starEach [] X.env)).any (·.1) = false := by rfl) :
    DS X W C ow ow' (.Raise (some (.Call (.Name x p) [e] [] pos)) none p2) (raiseS x f den g) := by
  obtain ⟨ta, pa, q⟩ := ha
  refine ⟨_, ps_raise hc tk (pmk_oex T iC tI F1 hr hb .nil pass0 hg hm pa hdb he hpl), fun H0 M0 pn σ ρ H As Dn hp S z => ?_⟩
  refine q σ ρ H As _ ⟨H0, M0, pn, S⟩ ?_
  unfold raiseS at z
  cases hd : g ρ with
  | stk =>
    rw [hd] at z
    exact z
  | exc x =>
    rw [hd] at z
    exact fun c dd H' A sm rp fx => z c dd σ H' As A ((S.same sm).less (subL_mem hox)) rp (S.fx fx)
  | ok ds =>
    rw [hd] at z
    intro vs H1 A sm rp ok hl
    match ds, vs, rp, hl, z with
    | [d], [v], rp, _, z =>
      refine ⟨(by decide : (1 : Nat) ≤ 1000), fun a hna => ?_⟩
      have rv : ∃ A1, Rep X.K X.mg H1 false v d A1 := by
        cases rp with
        | cons h r => exact ⟨_, h.weak⟩
      obtain ⟨A1, rv⟩ := rv
      have sa : Same H1 (upd H1 a (exo a Ca none)) := same_upd hna
      refine ⟨a, Ca, v, d, A1, rfl, T, hno, upd_same, rv.same sa, ?_⟩
      dsimp only at z
      cases hy : den [none, some d] with
      | exc x =>
        rw [hy] at z
        exact z.elim
      | stk =>
        rw [hy] at z
        exact z.elim
      | ok y =>
        rw [hy] at z
        intro dx v' H2 B s2 r2 nd fr hdx hda
        have hdx1 : H1 dx = none := by
          have w := s2.free hdx
          rwa [upd_ne hda] at w
        refine ⟨rfl, dx, [(f, v')], upd_same, by rw [upd_ne hda, upd_same], hdx1, ?_⟩
        have ea2 : H2 a = some (exo a Ca none) := s2 a _ upd_same
        have dn : ∀ b u, H2 b = some u → b ≠ a → (upd (del (upd (upd H2 dx (exd dx [(f, v')])) a (exo a Ca (some dx))) a) dx (.xd [(f, v')])) b = some u := fun b u hb hba => by
          have hbd : b ≠ dx := fun w => by
            rw [w, hdx] at hb
            cases hb
          rw [upd_ne hbd, del_ne hba, upd_ne hba, upd_ne hbd]
          exact hb
        have sm3 : Same H1 (upd (del (upd (upd H2 dx (exd dx [(f, v')])) a (exo a Ca (some dx))) a) dx (.xd [(f, v')])) := fun b u hb => by
          have hba : b ≠ a := fun w => by
            rw [w, hna] at hb
            cases hb
          refine dn b u (s2 b u ?_) hba
          rw [upd_ne hba]
          exact hb
        have r3 := r2.skip dn ⟨_, ea2⟩
        have frA : ∀ b ∈ B, H b = none := fun b hb => sm.free (sa.free (fr b hb))
        refine z (.ref Ca) (some dx) σ _ As (B ++ []) ((S.same (sm.trans sm3)).less (subL_mem hox)) ⟨Ca, rfl, hm, ⟨_, upd_same, .cons r3 .nil⟩, by rw [List.append_nil]; exact nd, fun z => by cases z⟩ (S.fx fun b hb => ?_)
        rw [List.append_nil] at hb
        exact frA b hb
/-- what the text says of a class that is raised -/
def MkC (P : Program) (w : World) (K : PySem.W.Frag) (mg : Str → Option Value) (base : Heap) (x f : Str) (den : Env → R D) (kk : Nat) : Prop :=
  ∃ (Ca fI : Addr) (fd : FuncData) (ps : List Str), OexC K Ca ∧ PySem.W.findIn K (.ref Ca) f = some none ∧ PySem.W.findIn K (.ref Ca) "__init__" = some (some (.ref fI)) ∧ PySem.W.typeIn K (.ref fI) = some (.type "function") ∧
    FnOk P w K mg base CX0 kk fI fd ps (spI K mg f den) ∧ Binds K fd ps [] ∧ mg x = some (.ref Ca)
theorem ds_raiseM {x f : Str} {kk : Nat} {den : Env → R D} {g : Env → R (List D)} (h : MkC X.prog X.w X.K X.mg X.base x f den kk) (hc : X.calm = true) (tk : Takes X W) (hr : Room (kk + 1) X.A) (ha : DA X W ow k 1 [e] g) (hox : subL C.owx ow = true) (hg : Gl X x := by rfl)
    (hdb : (x == ("__debug__" : Str)) = false := by decide) (he : starEach [e] X.env = (false, eval e X.env) :: starEach [] X.env := by rfl) (hpl : (backTo pos (starEach [] X.env)).any (·.1) = false := by rfl) :
    DS X W C ow ow' (.Raise (some (.Call (.Name x p) [e] [] pos)) none p2) (raiseS x f den g) := by
  obtain ⟨Ca, fI, fd, ps, T, hno, iC, tI, F1, hb, hm⟩ := h
  exact ds_raiseI hc tk T hno iC tI F1 hr hb hm ha hox hg hdb he hpl
end
end Dg

namespace Dg
open PySem PySem.Spec PyProof.Rows L2
/-! ### xs.index(t), texts -/
def findI (t : Str) : List Str → Option Nat
  | [] => none
  | s :: r => if s = t then some 0 else (findI t r).map (· + 1)
theorem findI_spec (t : Str) : ∀ (ss : List Str) (j : Nat), findI t ss = some j → ss[j]? = some t ∧ ∀ m s, m < j → ss[m]? = some s → s ≠ t
  | [], _, h => by cases h
  | s :: r, j, h => by
    unfold findI at h
    by_cases e : s = t
    · rw [if_pos e] at h
      cases h
      exact ⟨by rw [e]; rfl, fun m s hm => by omega⟩
    · rw [if_neg e] at h
      cases hr : findI t r with
      | none =>
        rw [hr] at h
        cases h
      | some k =>
        rw [hr] at h
        cases h
        obtain ⟨h1, h2⟩ := findI_spec t r k hr
        refine ⟨h1, fun m s' hm hs => ?_⟩
        cases m with
        | zero =>
          cases hs
          exact e
        | succ m => exact h2 m s' (Nat.lt_of_succ_lt_succ hm) hs
theorem findI_none (t : Str) : ∀ (ss : List Str), findI t ss = none → t ∉ ss
  | [], _, h => by cases h
  | s :: r, hn, h => by
    unfold findI at hn
    by_cases e : s = t
    · rw [if_pos e] at hn
      cases hn
    · rw [if_neg e] at hn
      cases hr : findI t r with
      | some k =>
        rw [hr] at hn
        cases hn
      | none =>
        rcases List.mem_cons.mp h with w | w
        · exact e w.symm
        · exact findI_none t r hr w
def dLIndex (x y : D) : R D := match x, y with
  | .list xs, .str t => (match strsOf xs with
    | some ss => (match findI t ss with
      | some j => .ok (.int (j : Nat))
      | none => .stk)
    | none => .stk)
  | _, _ => .stk
def mthL (g : D → D → R D) (f1 f2 : Env → R D) : Env → R D := fun ρ => (f1 ρ).bind fun x => match x with
  | .list _ => (f2 ρ).bind fun y => g x y
  | _ => .stk
section
variable {X : Cx} {W : WX} {ow : List Nat} {k k1 k2 : Kd} {e o : Expr} {d1 d2 : Env → R D}
theorem de_lindex {apos cpos : Pos} (h1 : DE X W ow k1 o d1) (h2 : DE X W ow k2 e d2)
    (hbase : attributeBase o "index" X.env (eval o X.env) = eval o X.env := by rfl)
    (hfew : ((backTo cpos (starEach (e :: []) X.env)).all (fun x => !x.1) && (backToKw cpos (keywordEach [] X.env)).all (fun x => x.1.isSome)
      && decide ((e :: []).length + ([] : List Keyword).length + (if ([] : List Keyword).isEmpty then 0 else 1) < 30)) = true := by rfl)
    (hline : (apos.endLine == cpos.line) = true := by rfl) (hs : starEach (e :: []) X.env = (false, eval e X.env) :: starEach [] X.env := by rfl) (hplain : (backTo cpos (starEach [] X.env)).any (·.1) = false := by rfl) :
    DE X W ow (.own []) (.Call (.Attribute o "index" apos) [e] [] cpos) (mthL dLIndex d1 d2) := by
  obtain ⟨ta, p1, q1⟩ := h1
  obtain ⟨tb, p2, q2⟩ := h2
  refine ⟨_, pe_bm PySem.F.plainAttrs_list PySem.F.slot_list_index PySem.F.type_list_index mt_index p1 (pa_cons p2 pa_nil hs) hbase hfew hline hs hplain, fun σ ρ H As Q S q => q1 σ ρ H As _ S ?_⟩
  unfold mthL at q
  cases e1 : d1 ρ with
  | stk =>
    rw [e1] at q
    exact q
  | exc x =>
    rw [e1] at q
    exact q
  | ok dx =>
    rw [e1, R.bind_ok] at q
    intro x H1 A s1 rx _
    cases dx with
    | list xs =>
      have rx' := rx.weak
      cases rx' with
      | @lst _ a vs _ A1 ha rl =>
        refine ⟨.inl ⟨rfl, vs, .inl (.inl ha)⟩, q2 σ ρ H1 As _ (S.same s1) ?_⟩
        dsimp only at q
        cases e2 : d2 ρ with
        | stk =>
          rw [e2] at q
          exact q
        | exc x =>
          rw [e2] at q
          exact fun c dd H' B sm rp fx => q c dd H' B (s1.trans sm) rp fun b hb => s1.free (fx b hb)
        | ok dy =>
          rw [e2, R.bind_ok] at q
          intro y H2 B s2 ry _
          cases dy with
          | str t =>
            have ry' := ry.weak
            cases ry'
            unfold dLIndex at q
            dsimp only at q
            cases es : strsOf xs with
            | none =>
              rw [es] at q
              exact q.elim
            | some ss =>
              rw [es] at q
              dsimp only at q
              cases ei : findI t ss with
              | none =>
                rw [ei] at q
                exact q.elim
              | some j =>
                rw [ei] at q
                obtain ⟨f1, f2⟩ := findI_spec t ss j ei
                have ev := strs_rep rl es
                subst ev
                refine ⟨a, ss.map V.str, .str t, j, .str t, rfl, rfl, .inl (.inl (s2 _ _ ha)), rfl, ?_, ?_, ?_, ?_, ?_⟩
                · rw [List.all_map]
                  exact List.all_eq_true.mpr fun _ _ => rfl
                · rw [List.getElem?_map, f1]
                  rfl
                · exact beq_self_eq_true t
                · intro m z' hm hz
                  rw [List.getElem?_map] at hz
                  cases hq : ss[m]? with
                  | none =>
                    rw [hq] at hz
                    cases hz
                  | some s' =>
                    rw [hq] at hz
                    cases hz
                    exact beq_false_of_ne (f2 m s' hm hq)
                · exact q _ H2 [] (s1.trans s2) (.int _) ⟨List.nodup_nil, (fun _ w => by cases w), (fun _ w => by cases w)⟩
          | _ => exact q.elim
    | _ => exact q.elim
end
end Dg

namespace Dg
open PySem PySem.Spec PyProof.Rows L2
/-! ### str of a number or a text -/
def dStrP (ds : List D) : R D := match ds with
  | [.int i] => if i.natAbs < 2 ^ 1900 then .ok (.str (toString i)) else .stk
  | [.str s] => .ok (.str s)
  | _ => .stk
theorem call_dStrP {X : Cx} : CallD X (.type "str") dStrP := by
  refine ⟨_, CallR.or2 call_str_int SkE.call_str_str, fun xs z h => ?_, fun H xs ds A Q r h => ?_⟩
  · unfold dStrP at h
    split at h <;> first | (cases h; done) | (split at h <;> cases h)
  · unfold dStrP at h
    split at h
    · split at h
      · rename_i hz
        cases r with
        | cons r1 r2 =>
          cases r2
          cases r1
          exact .inl ⟨_, rfl, log1920 hz, fresh_imm (fun _ _ _ => .str _) h⟩
      · exact h.elim
    · cases r with
      | cons r1 r2 =>
        cases r2
        cases r1
        exact .inr ⟨_, rfl, fresh_imm (fun _ _ _ => .str _) h⟩
    · exact h.elim
end Dg

namespace Dg
open PySem PySem.Spec PyProof.Rows L2
/-! ### for x in reversed(a list) -/
def dRev (d : D) : R (List D) := match d with
  | .list xs => .ok xs.reverse
  | _ => .stk
def rvE (f : Env → R D) : Env → R (List D) := fun ρ => (f ρ).bind dRev
section
variable {X : Cx} {W : WX} {ow : List Nat} {k : Kd} {e tg : Expr} {den : Env → R D} {p pos : Pos}
theorem it_rev {H1 : Hp} {a : Addr} {vs : List V} {xs : List D} {A B : List Addr} (hs : ∀ (M : Addr → Prop) H, Fr M H1 H → (∀ a ∈ A, ¬ M a) → SqL X.K H a vs) (l : RepL X.K X.mg H1 false vs xs B) (hB : ∀ b ∈ B, b ∈ A) : ItOk X (Itv X.K a vs.length) xs.reverse H1 A where
  go M H i f n h := by
    rw [List.length_reverse, ← l.len] at h
    exact ⟨h, vs, vs[vs.length - 1 - i]'(by omega), hs M H f n, List.getElem?_eq_getElem _⟩
  yld M H i x H' f n h := by
    obtain ⟨rfl, h⟩ := h
    refine ⟨Same.refl _, fun d hd => ?_⟩
    have hi : i < xs.length := by
      have := (List.getElem?_eq_some_iff.mp hd).1
      rwa [List.length_reverse] at this
    rw [List.getElem?_reverse hi, ← l.len] at hd
    obtain ⟨y, C, hy, r, hc⟩ := (l.fr f fun a ha => n a (hB a ha)).get hd
    have e := (h vs (hs M _ f n)).symm.trans hy
    cases e
    exact ⟨C, r, fun b hb => hB b (hc b hb)⟩
  stop M H f n := by
    show vs.length ≤ xs.reverse.length
    rw [List.length_reverse, l.len]
    exact Nat.le_refl _
theorem di_rev (hm : X.mg "reversed" = none) (h : DE X W ow k e den) (hg : Gl X "reversed" := by rfl) (hs : starEach [e] X.env = [(false, eval e X.env)] := by rfl) : DI X W ow k.src tg (.Call (.Name "reversed" p) [e] [] pos) (rvE den) := by
  obtain ⟨te, pe, q⟩ := h
  refine ⟨_, pi_reversed hg hm (pa_cons pe pa_nil hs) hs, fun σ ρ H As Q S z => q σ ρ H As _ S ?_⟩
  unfold rvE at z
  cases hd : den ρ with
  | stk =>
    rw [hd] at z
    exact z
  | exc x =>
    rw [hd] at z
    exact z
  | ok d =>
    rw [hd, R.bind_ok] at z
    intro v H1 A sm rp ok
    cases d with
    | list xs =>
      have ok' := Kd.brOk S ok
      have old := fun (a : Addr) (ha : a ∈ A) => rp.old ha
      cases rp.weak with
      | @lst _ a vs _ B h1 l1 =>
        exact ⟨_, vs, rfl, .inl (.inl h1), z _ H1 _ sm (it_rev (fun M H f n => .inl (.inl (f _ _ h1 fun _ => n _ List.mem_cons_self))) l1 fun b hb => List.mem_cons_of_mem _ hb) ok' old⟩
    | _ => exact z.elim
end
/-! ### try: body, except C as e: y = ('lit', e.f) -/
def tryA (i : Nat) (tab : Str → Option Bool) (body : Env → Out) (g : Exn → Env → Out) : Env → Out := fun ρ => match body ρ with
  | .exc x r => (match tab x.cls with
    | some true => (match r[i]? with
      | some _ => (match g x (r.set i none) with
        | .nx r' => .nx (r'.set i none)
        | _ => .stk)
      | none => .stk)
    | some false => .exc x r
    | none => .stk)
  | o => o
def fldR (f : Str) (sv : Str → Bool) (G : D → Bool) (x : Exn) : R D := match x.flds with
  | [(.str f', d)] => if (f' = f ∧ sv x.cls = true) ∧ G d = true then .ok d else .stk
  | _ => .stk
def readT (j : Nat) (lit f : Str) (sv : Str → Bool) (G : D → Bool) : Exn → Env → Out := fun x ρ => match fldR f sv G x with
  | .ok d => .nx (ρ.set j (some (.tuple [.str lit, d])))
  | _ => .stk
theorem fldR_inv {f : Str} {sv : Str → Bool} {G : D → Bool} {x : Exn} {d : D} (h : fldR f sv G x = .ok d) : x.flds = [(.str f, d)] ∧ sv x.cls = true ∧ G d = true := by
  unfold fldR at h
  split at h
  · rename_i f' d' e
    by_cases hc : (f' = f ∧ sv x.cls = true) ∧ G d' = true
    · rw [if_pos hc] at h
      cases h
      rw [e, hc.1.1]
      exact ⟨rfl, hc.1.2, hc.2⟩
    · rw [if_neg hc] at h
      cases h
  · cases h
theorem Sta.junk {K : PySem.W.Frag} {mg : Str → Option Value} {H0 : Hp} {M0 : Addr → Prop} {pn : Nat → Option V} {ow : List Nat} {σ : L2.St} {ρ : Env} {H : Hp} {As : Nat → List Addr} (S : Sta K mg H0 M0 pn ow σ ρ H As) {i : Nat} (hi : i ∉ ow) (hp : pn i = none) (w : Option V) :
    Sta K mg H0 M0 pn ow (σ.set i w) (ρ.set i none) H (fun j => if j = i then [] else As j) := by
  refine ⟨S.fr, fun j d e => ?_, fun j h => ?_, fun j hj => ?_, fun j hj a ha => ?_, fun j hj l hl a ha hb => ?_, by rw [List.length_set, List.length_set]; exact S.len, fun j v hv => ?_⟩
  · by_cases hji : j = i
    · subst hji
      rw [List.getElem?_set] at e
      simp at e
    · rw [List.getElem?_set_ne (Ne.symm hji)] at e
      obtain ⟨v, h1, h2⟩ := S.rep j d e
      refine ⟨v, by rw [List.getElem?_set_ne (Ne.symm hji)]; exact h1, ?_⟩
      rw [if_neg hji]
      exact h2
  · by_cases hji : j = i
    · rw [if_pos hji]
    · rw [if_neg hji]
      refine S.dead j fun d e => h d ?_
      rw [List.getElem?_set_ne (Ne.symm hji)]
      exact e
  · have hji : j ≠ i := fun z => hi (z ▸ hj)
    rw [if_neg hji]
    exact S.nd j hj
  · have hji : j ≠ i := fun z => hi (z ▸ hj)
    rw [if_neg hji] at ha
    exact S.new j hj a ha
  · have hji : j ≠ i := fun z => hi (z ▸ hj)
    rw [if_neg hji] at ha
    by_cases hli : l = i
    · rw [if_pos hli] at hb
      cases hb
    · rw [if_neg hli] at hb
      exact S.sep j hj l hl a ha hb
  · have hji : j ≠ i := fun z => by
      rw [z, hp] at hv
      cases hv
    rw [List.getElem?_set_ne (Ne.symm hji)]
    exact S.pin j v hv
/-- the suite's slot i holds the exception -/
structure XS (X : Cx) (H0 : Hp) (M0 : Addr → Prop) (i : Nat) (a : Addr) (cls : Value) (d : Option Addr) (x : Exn) (σ : L2.St) (H : Hp) (As : Nat → List Addr) (A : List Addr) : Prop where
  at_ : σ[i]? = some (some (.ref a))
  rep : RepX X.K X.mg H cls d x A
  new : ∀ b ∈ A, (H0 b = none ∨ M0 b) ∧ ∀ j, b ∉ As j
def DSU (X : Cx) (i : Nat) (a : Addr) (cls : Value) (d : Option Addr) (C : Cfg) (ow ow' : List Nat) (sts : List Stmt) (g : Exn → Env → Out) : Prop :=
  ∃ ts, PSs X sts ts ∧ ∀ x H0 M0 pn σ ρ H As A Dn, PinOk C pn → Sta X.K X.mg H0 M0 pn ow σ ρ H As → XS X H0 M0 i a cls d x σ H As A → Post X noW C H0 M0 pn ow' Dn (g x ρ) → ts Dn σ H
section
variable {X : Cx} {W : WX} {C : Cfg} {ow ow' : List Nat} {f : Env → Out} {g : Exn → Env → Out} {pos : Pos}
open Classical in
theorem ds_tryAs {cn n : Str} {cv : Value} {i : Nat} {tab : Str → Option Bool} {body suite : List Stmt} {b₀ : Stmt} {np pos' : Pos} (owh : List Nat) (hs : X.stack = X.env :: X.outer) (hf : X.env.frame = some X.env.locals) (hN : X.N.Nodup) (hi : X.N[i]? = some n) (hln : X.env.kindOf n = some .local) (hc : Names X cn cv) (tk : Takes X W)
    (htab : ∀ nm A b, X.mg nm = some (.ref A) → tab nm = some b → PySem.W.exmOne X.K (.ref A) cv = some b)
    (hb : ∀ (W' : WX) (pn : List (Addr × Obj)) (xe : Value → Shared → Prop), Takes (X.tr pn xe) W' → PassesOwn (model X.prog X.w) X.A X.env xe → DSs (X.tr pn xe) W' { C with owx := owh } ow ow' body f)
    (hsu : ∀ (a : Addr) (oe : Obj) (cls : Value) (d : Option Addr) (pn : List (Addr × Obj)), Zc cls d oe → (∃ vs, oe.data = .fields vs) → DSU (X.suite a ((a, oe) :: pn)) i a cls d C owh ow' (b₀ :: suite) g)
    (h1 : subL C.owx owh = true) (h2 : disL [i] owh = true) (h3 : disL [i] ow' = true) (hio : disL [i] (C.io ++ C.pl) = true) :
    DS X W C ow ow' (.Try body [.ExceptHandler (some (.Name cn np)) (some n) (b₀ :: suite) pos'] [] [] pos) (tryA i tab f g) := by
  let tb : WX → TS := fun W' D σ H => ∀ pn xe h1 h2, (hb W' pn xe h1 h2).choose D σ H
  let ts : Addr → Value → Option Addr → TS := fun a cls d D σ H => ∀ oe pn hz hf, (hsu a oe cls d pn hz hf).choose D σ H
  refine ⟨_, ps_try_as (tb := tb) (ts := ts) hs hf hN hi hln hc tk (fun W' pn xe h1 h2 => pss_imp (hb W' pn xe h1 h2).choose_spec.1 fun D σ H z => z pn xe h1 h2) (fun a oe cls d pn hz hf => pss_imp (hsu a oe cls d pn hz hf).choose_spec.1 fun D σ H z => z oe pn hz hf), fun H0 M0 pn σ ρ H As Dn hp S z => ?_⟩
  intro pn' xe' k1 k2
  have pi : pn i = none := hp i (disL_mem hio i List.mem_cons_self)
  have hi1 := disL_mem h2 i List.mem_cons_self
  have hi2 := disL_mem h3 i List.mem_cons_self
  refine (hb _ pn' xe' k1 k2).choose_spec.2 H0 M0 pn σ ρ H As Dn hp S ?_
  unfold tryA at z
  cases hfr : f ρ with
  | nx r =>
    rw [hfr] at z
    exact z
  | ret d r =>
    rw [hfr] at z
    exact z
  | brk r =>
    rw [hfr] at z
    exact z
  | cnt r =>
    rw [hfr] at z
    exact z
  | stk =>
    rw [hfr] at z
    exact z
  | exc x r =>
    rw [hfr] at z
    dsimp only at z
    intro c dd σ' H' As' A S' rx fx
    have rx0 := rx
    obtain ⟨Ca, rfl, hm, _⟩ := rx
    cases ht : tab x.cls with
    | none =>
      rw [ht] at z
      exact z.elim
    | some b =>
      rw [ht] at z
      refine ⟨b, htab _ _ _ hm ht, fun hbt a ha oe pn2 hz hfl => ?_, fun hbf => ?_⟩
      · subst hbt
        dsimp only at z
        cases hri : r[i]? with
        | none =>
          rw [hri] at z
          exact z.elim
        | some w =>
          rw [hri] at z
          dsimp only at z
          have hlt : i < σ'.length := by
            rw [S'.len]
            exact (List.getElem?_eq_some_iff.mp hri).1
          have S2 := S'.junk hi1 pi (some (.ref a))
          refine (hsu a oe _ dd pn2 hz hfl).choose_spec.2 x H0 M0 pn _ _ H' _ A _ hp S2 ⟨by rw [List.getElem?_set_self hlt], rx0, fun b hb => ⟨(fx b hb).1, fun j hj => ?_⟩⟩ ?_
          · by_cases hji : j = i
            · rw [if_pos hji] at hj
              cases hj
            · rw [if_neg hji] at hj
              exact (fx b hb).2 j hj
          · cases hg : g x (r.set i none) with
            | nx r' =>
              rw [hg] at z
              exact fun σ3 H3 As3 S3 => z _ _ _ (S3.junk hi2 pi none)
            | ret d r' =>
              rw [hg] at z
              exact z.elim
            | brk r' =>
              rw [hg] at z
              exact z.elim
            | cnt r' =>
              rw [hg] at z
              exact z.elim
            | exc y r' =>
              rw [hg] at z
              exact z.elim
            | stk =>
              rw [hg] at z
              exact z.elim
      · subst hbf
        dsimp only at z
        exact z _ dd σ' H' As' A (S'.less (subL_mem h1)) rx0 fx
theorem dsu_readT {i j : Nat} {a : Addr} {cls : Value} {d : Option Addr} {oe : Obj} {pn0 : List (Addr × Obj)} {lit fld : Str} {sv : Str → Bool} {G : D → Bool} {y n : Str} {py p1 p2 p3 p4 spos : Pos} {c1 c2 : Nat}
    (hz : Zc cls d oe) (hfl : ∃ vs, oe.data = .fields vs)
    (hX : ∀ nm A, sv nm = true → X.mg nm = some (.ref A) → XfC X.K A ∧ PySem.W.findIn X.K (.ref A) fld = some none)
    (hv : PE (X.suite a ((a, oe) :: pn0)) (.Name n p2) (tVar i)) (hg : PG (X.suite a ((a, oe) :: pn0)) (.Name y py) (gName j))
    (hio : disL [j] (C.io ++ C.pl) = true) (how : subL ow' (j :: ow) = true)
    (hb : attributeBase (.Name n p2) fld (X.suite a ((a, oe) :: pn0)).env (eval (.Name n p2) (X.suite a ((a, oe) :: pn0)).env) = eval (.Name n p2) (X.suite a ((a, oe) :: pn0)).env := by rfl)
    (hse : starEach [.Attribute (.Name n p2) fld p3] (X.suite a ((a, oe) :: pn0)).env = (false, eval (.Attribute (.Name n p2) fld p3) (X.suite a ((a, oe) :: pn0)).env) :: starEach [] (X.suite a ((a, oe) :: pn0)).env := by rfl)
    (hse2 : starEach [.Constant (.str lit) c1 p1, .Attribute (.Name n p2) fld p3] (X.suite a ((a, oe) :: pn0)).env = (false, eval (.Constant (.str lit) c1 p1) (X.suite a ((a, oe) :: pn0)).env) :: starEach [.Attribute (.Name n p2) fld p3] (X.suite a ((a, oe) :: pn0)).env := by rfl)
    (hsw : swapsWithSole [.Name y py] (.Tuple [.Constant (.str lit) c1 p1, .Attribute (.Name n p2) fld p3] c2 p4) spos.line (X.suite a ((a, oe) :: pn0)).env = pure false := by rfl) (hw : swappedStores [.Name y py] (.Tuple [.Constant (.str lit) c1 p1, .Attribute (.Name n p2) fld p3] c2 p4) (X.suite a ((a, oe) :: pn0)).env = pure none := by rfl)
    (h3 : (assignEach [.Name y py] (X.suite a ((a, oe) :: pn0)).env).map (·.2) = [assign (.Name y py) (X.suite a ((a, oe) :: pn0)).env] := by rfl) :
    DSU (X.suite a ((a, oe) :: pn0)) i a cls d C ow ow' [.Assign [.Name y py] (.Tuple [.Constant (.str lit) c1 p1, .Attribute (.Name n p2) fld p3] c2 p4) spos] (readT j lit fld sv G) := by
  by_cases hC : ∃ Ca, cls = .ref Ca ∧ XfC X.K Ca ∧ PySem.W.findIn X.K (.ref Ca) fld = some none
  · obtain ⟨Ca, ec, T, hno⟩ := hC
    refine ⟨_, pss_one (ps_asg (pe_tup (pa_cons pe_str (pa_cons (pe_xf T hno hz hfl hv hb) pa_nil hse) hse2)) hg hsw hw h3), fun x H0 M0 pn σ ρ H As A Dn hp S xs z => ?_⟩
    obtain ⟨h_at, ⟨C1, e1, hm, hd⟩, hnew⟩ := xs
    unfold readT at z
    obtain ⟨xc, xf⟩ := x
    cases hfl2 : fldR fld sv G ⟨xc, xf⟩ with
    | exc y =>
      rw [hfl2] at z
      exact z.elim
    | stk =>
      rw [hfl2] at z
      exact z.elim
    | ok dv =>
      rw [hfl2] at z
      obtain ⟨ef, _⟩ := fldR_inv hfl2
      dsimp only at ef hd z
      subst ef
      cases d with
      | none => exact absurd hd.1 (by intro w; cases w)
      | some dd =>
        obtain ⟨⟨fs, ha, rf⟩, nd, _⟩ := hd
        cases rf with
        | @cons _ k v _ fs2 _ A1 B1 rv rr =>
          cases rr
          rw [List.append_nil] at nd hnew
          show ∃ w, σ[i]? = some (some w) ∧ _
          refine ⟨_, h_at, rfl, ec, dd, _, v, rfl, ha, by simp [List.lookup], ?_⟩
          refine ⟨by show 2 ≤ sizeLine; rw [sizeLine_eq]; omega, fun p hpn => ?_⟩
          have sm : Same H (upd H p (.tup [.str lit, v])) := same_upd hpn
          have pj : pn j = none := hp j (disL_mem hio j List.mem_cons_self)
          have rt : Rep X.K X.mg (upd H p (.tup [.str lit, v])) true (.ref p) (.tuple [.str lit, dv]) ([] ++ (A1 ++ [])) := .tup (.inl (.inl upd_same)) (.cons (.str lit) (.cons (rv.same sm) .nil))
          rw [List.append_nil, List.nil_append] at rt
          refine z _ _ _ ((S.same sm).put (ow' := ow') rt pj (fun _ => ⟨nd, fun b hb => (hnew b hb).1, fun b hb j' => (hnew b hb).2 j'⟩) (fun j' hj' hne b hb hb2 => (hnew b hb2).2 j' hb) (fun j' hj' hne => ?_) (fun _ => rfl))
          rcases List.mem_cons.mp (subL_mem how j' hj') with w | w
          · exact absurd w hne
          · exact w
  · refine ⟨fun _ _ _ => False, ⟨fun pins s σ H D I h => h.elim⟩, fun x H0 M0 pn σ ρ H As A Dn hp S xs z => ?_⟩
    obtain ⟨h_at, ⟨C1, e1, hm, hd⟩, hnew⟩ := xs
    unfold readT at z
    cases hfl2 : fldR fld sv G x with
    | exc y =>
      rw [hfl2] at z
      exact z.elim
    | stk =>
      rw [hfl2] at z
      exact z.elim
    | ok dv => exact hC ⟨C1, e1, hX _ _ (fldR_inv hfl2).2.1 hm⟩
end
end Dg

namespace Dg
open PySem PySem.Spec PyProof.Rows L2
/-! ### a part of one's own tree, taken out for good -/
section
variable {K : PySem.W.Frag} {mg : Str → Option Value} {H : Hp}
theorem RepL.getS {o : Bool} : ∀ {v : List V} {d : List D} {A : List Addr} {i : Nat} {x : D}, RepL K mg H o v d A → d[i]? = some x → ∃ y B, v[i]? = some y ∧ Rep K mg H o y x B ∧ B.Sublist A
  | _, _, _, _, _, .nil, e => by simp at e
  | _, _, _, 0, x, .cons h r, e => by
    simp at e
    subst e
    exact ⟨_, _, rfl, h, List.sublist_append_left _ _⟩
  | _, _, _, i + 1, x, .cons h r, e => by
    obtain ⟨y, B, h1, h2, h3⟩ := r.getS (i := i) (x := x) (by simpa using e)
    exact ⟨y, B, by simpa using h1, h2, h3.trans (List.sublist_append_right _ _)⟩
theorem lookD_keyS {o : Bool} {y : D} {d : D} : ∀ {vs : List (Key × V)} {ds : List (D × D)} {A : List Addr}, RepP K mg H o vs ds A → lookD ds y = some d → ∃ k v B, y = kD k ∧ valV vs k = some v ∧ Rep K mg H o v d B ∧ B.Sublist A
  | _, _, _, .nil, e => by cases e
  | _, _, _, .cons (k := k) (v := v) h r, e => by
    unfold lookD at e
    by_cases hk : keq (kD k) y = true
    · rw [if_pos hk] at e
      cases e
      exact ⟨k, v, _, keq_iff.mp hk, valV_pos rfl, h, List.sublist_append_left _ _⟩
    · rw [if_neg hk] at e
      obtain ⟨l, w, B, e1, e2, e3, e4⟩ := lookD_keyS r e
      refine ⟨l, w, B, e1, ?_, e3, e4.trans (List.sublist_append_right _ _)⟩
      rw [valV_neg]
      · exact e2
      · intro z
        apply hk
        rw [keq_iff, e1]
        exact congrArg kD z.symm
def dIxO (x y : D) : R D := match x, y with
  | .list xs, .int i => ofO (atI xs i)
  | .tuple xs, .int i => ofO (atI xs i)
  | .dict ((.none, _) :: _), _ => .stk
  | .dict kvs, y => ofO (lookD kvs y)
  | _, _ => .stk
theorem dIxO_run {x y : V} {dx dy d : D} {A B : List Addr} (r1 : Rep K mg H true x dx A) (r2 : Rep K mg H false y dy B) (h : dIxO dx dy = .ok d) :
    ∃ v C, Rep K mg H true v d C ∧ C.Sublist A ∧ ((∀ Q : VK, Q v H → rIx K x y H Q) ∨ ∃ a, x = .ref a ∧ DGet H a y (some v)) := by
  unfold dIxO at h
  split at h
  · cases r2
    cases r1 with
    | lst h1 l1 =>
      cases e : atI ‹List D› ‹Int› with
      | none =>
        rw [e] at h
        cases h
      | some z =>
        rw [e] at h
        cases h
        obtain ⟨j, hj, hr⟩ := atI_get l1.len.symm e
        obtain ⟨v, C, hv, rv, hc⟩ := l1.getS hj
        exact ⟨v, C, rv, hc.cons _, .inl fun Q q => .inl ⟨_, _, _, _, rfl, rfl, .inl (.inl h1), hr v hv, q⟩⟩
  · cases r2
    cases r1 with
    | tup h1 l1 =>
      cases e : atI ‹List D› ‹Int› with
      | none =>
        rw [e] at h
        cases h
      | some z =>
        rw [e] at h
        cases h
        obtain ⟨j, hj, hr⟩ := atI_get l1.len.symm e
        obtain ⟨v, C, hv, rv, hc⟩ := l1.getS hj
        exact ⟨v, C, rv, hc, .inl fun Q q => .inr (.inl ⟨_, _, _, _, rfl, rfl, h1, hr v hv, q⟩)⟩
  · cases h
  · rename_i hn
    cases e : lookD ‹List (D × D)› dy with
    | none =>
      rw [e] at h
      cases h
    | some z =>
      rw [e] at h
      cases h
      cases r1 with
      | dct h1 l1 =>
        obtain ⟨k, v, C, rfl, ev, rv, hc⟩ := lookD_keyS l1 e
        rw [rep_key r2]
        exact ⟨v, C, rv, hc.cons _, .inr ⟨_, rfl, .inl ⟨_, k, .inl h1, rfl, ev.symm⟩⟩⟩
      | ins h1 h2 l1 => exact absurd rfl (hn _ _)
      | exn h1 h2 l1 => exact absurd rfl (hn _ _)
  · cases h
theorem dIxO_exc {x y : D} {z : Exn} : dIxO x y ≠ .exc z := by
  intro h
  unfold dIxO ofO at h
  split at h <;> first | (cases h; done) | (split at h <;> first | (cases h; done) | (split at h <;> cases h))
end
section
variable {X : Cx} {W : WX} {ow ms : List Nat} {k2 : Kd} {a b : Expr} {d1 d2 : Env → R D} {pos : Pos}
theorem de_ixO (hu : X.A.units + 64 < cLine) (h1 : DE X W ow (.own ms) a d1) (h2 : DE X W ow k2 b d2) (hs : PlainIx b) : DE X W ow (.own ms) (.Subscript a b pos) (b2 dIxO d1 d2) := by
  obtain ⟨ta, p1, q1⟩ := h1
  obtain ⟨tb, p2, q2⟩ := h2
  refine ⟨_, pe_ix (ix_seq.or (ix_dict (by omega))) p1 p2 hs, fun σ ρ H As Q S q => q1 σ ρ H As _ S ?_⟩
  unfold b2 at q
  cases e1 : d1 ρ with
  | stk =>
    rw [e1] at q
    exact q
  | exc x =>
    rw [e1] at q
    exact q
  | ok dx =>
    rw [e1, R.bind_ok] at q
    intro v H1 A s1 r1 ok1
    refine q2 σ ρ H1 As _ (S.same s1) ?_
    cases e2 : d2 ρ with
    | stk =>
      rw [e2] at q
      exact q
    | exc x =>
      rw [e2] at q
      exact fun c dd H' B sm rp fx => q c dd H' B (s1.trans sm) rp fun b hb => s1.free (fx b hb)
    | ok dy =>
      rw [e2, R.bind_ok] at q
      intro u H2 B s2 r2 ok2
      cases e3 : dIxO dx dy with
      | exc x => exact absurd e3 dIxO_exc
      | stk =>
        rw [e3] at q
        exact q.elim
      | ok d =>
        rw [e3] at q
        obtain ⟨v', C, rv, hc, hq⟩ := dIxO_run (r1.same s2) r2.weak e3
        have fin : Q v' H2 := q v' H2 C (s1.trans s2) rv ⟨ok1.1.sublist hc, ok1.2.1, fun b hb => ok1.2.2 b (hc.subset hb)⟩
        rcases hq with hq | ⟨p, rfl, hg⟩
        · exact .inl (hq Q fin)
        · exact .inr ⟨p, v', rfl, hg, fin⟩
end
end Dg

namespace Dg
open PySem PySem.Spec PyProof.Rows L2
/-! ### min and max of a list of numbers -/
section
variable {X : Cx}
theorem call_minIL (hc : X.calm = true) (hu : X.A.units + 64 < cLine) : CallR X (.builtin "min") (fun xs H Q => ∃ a, ∃ x : Int, ∃ ss : List Int, xs = [.ref a] ∧ Dp X.K H (.ref a) (.list ((x :: ss).map PyData.int)) ∧ Q (.int (PySem.W.minOf x ss)) H) := by
  intro pins s σ H xs us Q I r h
  obtain ⟨a, x, ss, rfl, hd, q⟩ := h
  obtain ⟨as, rd⟩ := Dp.reads I _ _ (Value.ref a) hd rfl
  rw [Vals.ref1 r]
  cases rd with
  | list h1 h2 h3 h4 =>
    refine PySem.W.min_list_datum (x := x) (xs := ss) (I.ok.hd hc) ⟨_, h1, h2, _, h3⟩ ⟨_, h4⟩ (by show X.A.units + 1 + 0 < cLine; omega) fun i v h' tk hi hold k => ⟨.int _, H, I.kept k, ?_, q⟩
    obtain ⟨bs, hr⟩ := hold
    revert hr
    show Reads h' v (.int _) bs → _
    intro hr
    cases hr
    exact ⟨_, rfl⟩
theorem call_maxIL (hc : X.calm = true) (hu : X.A.units + 64 < cLine) : CallR X (.builtin "max") (fun xs H Q => ∃ a, ∃ x : Int, ∃ ss : List Int, xs = [.ref a] ∧ Dp X.K H (.ref a) (.list ((x :: ss).map PyData.int)) ∧ Q (.int (PySem.W.maxOf x ss)) H) := by
  intro pins s σ H xs us Q I r h
  obtain ⟨a, x, ss, rfl, hd, q⟩ := h
  obtain ⟨as, rd⟩ := Dp.reads I _ _ (Value.ref a) hd rfl
  rw [Vals.ref1 r]
  cases rd with
  | list h1 h2 h3 h4 =>
    refine PySem.W.max_list_datum (x := x) (xs := ss) (I.ok.hd hc) ⟨_, h1, h2, _, h3⟩ ⟨_, h4⟩ (by show X.A.units + 1 + 0 < cLine; omega) fun i v h' tk hi hold k => ⟨.int _, H, I.kept k, ?_, q⟩
    obtain ⟨bs, hr⟩ := hold
    revert hr
    show Reads h' v (.int _) bs → _
    intro hr
    cases hr
    exact ⟨_, rfl⟩
end
def dMinL (ds : List D) : R D := match ds with
  | [.list xs] => (match strsOf xs with
    | some (x :: ss) => .ok (.str (PySem.W.minOf x ss))
    | some [] => .stk
    | none => (match intsOf xs with
      | some (x :: is) => .ok (.int (PySem.W.minOf x is))
      | _ => .stk))
  | _ => .stk
def dMaxL (ds : List D) : R D := match ds with
  | [.list xs] => (match intsOf xs with
    | some (x :: is) => .ok (.int (PySem.W.maxOf x is))
    | _ => .stk)
  | _ => .stk
theorem call_dMinL {X : Cx} (hc : X.calm = true) (hu : X.A.units + 64 < cLine) : CallD X (.builtin "min") dMinL := by
  refine ⟨_, CallR.or2 (call_minSL hc hu) (call_minIL hc hu), fun xs z h => ?_, fun H xs ds A Q r h => ?_⟩
  · unfold dMinL at h
    split at h
    · split at h
      · cases h
      · cases h
      · split at h <;> cases h
    · cases h
  · unfold dMinL at h
    split at h
    · split at h
      · rename_i x ss hss
        have e := strsOf_eq hss
        subst e
        cases r with
        | cons r1 r2 =>
          cases r2
          generalize ed : PyData.list ((x :: ss).map PyData.str) = q at r1
          cases r1 with
          | lst h1 l1 =>
            cases ed
            exact .inl ⟨_, x, ss, rfl, (Rep.lst (o := false) h1 l1).dp (by simp only [flat]; exact flatL_strs (x :: ss)), fresh_imm (fun _ _ _ => .str _) h⟩
          | _ => cases ed
      · exact h.elim
      · split at h
        · rename_i x ss hss
          have e := intsOf_eq hss
          subst e
          cases r with
          | cons r1 r2 =>
            cases r2
            generalize ed : PyData.list ((x :: ss).map PyData.int) = q at r1
            cases r1 with
            | lst h1 l1 =>
              cases ed
              exact .inr ⟨_, x, ss, rfl, (Rep.lst (o := false) h1 l1).dp (by simp only [flat]; exact flatL_ints (x :: ss)), fresh_imm (fun _ _ _ => .int _) h⟩
            | _ => cases ed
        · exact h.elim
    · exact h.elim
theorem call_dMaxL {X : Cx} (hc : X.calm = true) (hu : X.A.units + 64 < cLine) : CallD X (.builtin "max") dMaxL := by
  refine ⟨_, call_maxIL hc hu, fun xs z h => ?_, fun H xs ds A Q r h => ?_⟩
  · unfold dMaxL at h
    split at h
    · split at h <;> cases h
    · cases h
  · unfold dMaxL at h
    split at h
    · split at h
      · rename_i x ss hss
        have e := intsOf_eq hss
        subst e
        cases r with
        | cons r1 r2 =>
          cases r2
          generalize ed : PyData.list ((x :: ss).map PyData.int) = q at r1
          cases r1 with
          | lst h1 l1 =>
            cases ed
            exact ⟨_, x, ss, rfl, (Rep.lst (o := false) h1 l1).dp (by simp only [flat]; exact flatL_ints (x :: ss)), fresh_imm (fun _ _ _ => .int _) h⟩
          | _ => cases ed
      · exact h.elim
    · exact h.elim
end Dg

namespace Dg
open PySem PySem.Spec PyProof.Rows L2
/-! ### d != {} -/
def dNeE (x y : D) : R D := match x, y with
  | .dict ((.none, _) :: _), _ => .stk
  | .dict kvs, .dict [] => .ok (.bool (!kvs.isEmpty))
  | _, _ => .stk
theorem op_neE {X : Cx} (hu : X.A.units + 64 < cLine) : OpR X (compareOp .NotEq) (fun x y H Q => ∃ a b ks, x = .ref a ∧ y = .ref b ∧ Rd H a (.dK ks) ∧ Rd H b (.dK []) ∧ Q (.bl (!ks.isEmpty)) H) := by
  intro pins s σ H x y v u Q I rx ry h
  obtain ⟨a, b, ks, rfl, rfl, ea, eb, q⟩ := h
  obtain rfl : v = Value.ref a := rx
  obtain rfl : u = Value.ref b := ry
  obtain ⟨_, ya, va, ra, da⟩ := dk_rd I.hok ea
  obtain ⟨_, yb, vb, rb, db⟩ := dk_rd I.hok eb
  have la : ks.length = va.length := ra.length
  have lb : 0 = vb.length := rb.length
  have e : (!ks.isEmpty) = !(va.length == vb.length && true) := by
    rw [← la, ← lb]
    cases ks <;> rfl
  refine PySem.W.keq_ne (knd := mixKind X.prog X.w) (r := true) ya yb da db (by omega) (fun hl => hits_all rb ra fun p hp => ?_) (fin_bl I q e)
  have : ks = [] := List.length_eq_zero_iff.mp (by omega)
  rw [this] at hp
  cases hp
theorem rep_dk {K : PySem.W.Frag} {mg : Str → Option Value} {H : Hp} {x : V} {kvs : List (D × D)} {A : List Addr} (r : Rep K mg H false x (.dict kvs) A) (hn : ∀ d r, kvs ≠ (.none, d) :: r) : ∃ a vs, x = .ref a ∧ Rd H a (.dK vs) ∧ vs.length = kvs.length := by
  have len : ∀ {vs : List (Key × V)} {ds : List (D × D)} {A : List Addr}, RepP K mg H false vs ds A → vs.length = ds.length := by
    intro vs ds A h
    induction vs generalizing ds A with
    | nil =>
      cases h
      rfl
    | cons v vs ih =>
      cases h with
      | cons h r =>
        rw [List.length_cons, List.length_cons, ih r]
  cases r with
  | dct h1 l1 => exact ⟨_, _, rfl, .inl h1, len l1⟩
  | dctF h1 l1 => exact ⟨_, _, rfl, .inr ⟨_, h1⟩, len l1⟩
  | lstF h1 l1 => exact absurd rfl (hn _ _)
  | ins h1 h2 l1 => exact absurd rfl (hn _ _)
  | exn h1 h2 l1 => exact absurd rfl (hn _ _)
theorem op_dNeE {X : Cx} (hu : X.A.units + 64 < cLine) : OpD X (compareOp .NotEq) dNeE := by
  refine ⟨_, op_neE hu, fun x y z h => ?_, fun H x y dx dy A B Q r1 r2 h => ?_⟩
  · unfold dNeE at h
    split at h <;> cases h
  · unfold dNeE at h
    split at h
    · exact h.elim
    · rename_i kvs hn
      obtain ⟨a, vs, rfl, ha, la⟩ := rep_dk r1 fun d r e => hn d r (by rw [e])
      obtain ⟨b, ws, rfl, hb, lb⟩ := rep_dk r2 fun d r e => by cases e
      have ew : ws = [] := List.length_eq_zero_iff.mp lb
      subst ew
      refine ⟨a, b, vs, rfl, rfl, ha, hb, ?_⟩
      have e : (!vs.isEmpty) = !kvs.isEmpty := by
        cases vs with
        | nil =>
          have : kvs = [] := List.length_eq_zero_iff.mp la.symm
          rw [this]
          rfl
        | cons v vs =>
          cases kvs with
          | nil => cases la
          | cons k kvs => rfl
      rw [e]
      exact h (.bl _) H [] (Same.refl H) (.bl _) List.nodup_nil fun a ha => by cases ha
    · exact h.elim
end Dg

namespace Dg
open PySem PySem.Spec PyProof.Rows L2
/-! ### sum of a list of numbers -/
theorem ints_rep {X : Cx} {H : Hp} {o : Bool} : ∀ {vs : List V} {ns : List Int} {A : List Addr}, RepL X.K X.mg H o vs (ns.map PyData.int) A → vs = ns.map V.int
  | _, [], _, .nil => rfl
  | _, n :: ns, _, .cons r1 r2 => by
    rw [List.map_cons, ints_rep r2]
    cases r1
    rfl
def dSum (ds : List D) : R D := match ds with
  | [.list xs] => (match intsOf xs with
    | some is => .ok (.int is.sum)
    | _ => .stk)
  | _ => .stk
theorem call_dSum {X : Cx} (hc : X.calm = true) : CallD X (.builtin "sum") dSum := by
  refine ⟨_, cr_sum hc, fun xs z h => ?_, fun H xs ds A Q r h => ?_⟩
  · unfold dSum at h
    split at h
    · split at h <;> cases h
    · cases h
  · unfold dSum at h
    split at h
    · split at h
      · rename_i ss hss
        have e := intsOf_eq hss
        subst e
        cases r with
        | cons r1 r2 =>
          cases r2
          generalize ed : PyData.list (ss.map PyData.int) = q at r1
          cases r1 with
          | lst h1 l1 =>
            cases ed
            have e2 := ints_rep (X := X) l1
            subst e2
            exact ⟨_, ss, rfl, .inl (.of h1), fresh_imm (fun _ _ _ => .int _) h⟩
          | _ => cases ed
      · exact h.elim
    · exact h.elim

/-! ### xs[i] = v in one's own list -/
theorem repL_put {K : PySem.W.Frag} {mg : Str → Option Value} {H : Hp} {v : V} {d : D} {B : List Addr} (rv : Rep K mg H true v d B) : ∀ {vs : List V} {ds : List D} {A : List Addr} {j : Nat}, RepL K mg H true vs ds A → j < ds.length → (A ++ B).Nodup →
    ∃ A', RepL K mg H true (vs.set j v) (ds.set j d) A' ∧ A'.Nodup ∧ ∀ a ∈ A', a ∈ A ∨ a ∈ B
  | _, _, _, _, .nil, hj, _ => absurd hj (Nat.not_lt_zero _)
  | _, _, _, 0, .cons (A := A1) (B := A2) h r, _, nd => by
    refine ⟨B ++ A2, .cons rv r, ?_, fun z hz => ?_⟩
    · rw [List.append_assoc] at nd
      exact (List.perm_append_comm.nodup_iff).mp (List.nodup_append.mp nd).2.1
    · rcases List.mem_append.mp hz with q | q
      · exact .inr q
      · exact .inl (List.mem_append_right _ q)
  | _, _, _, j + 1, .cons (A := A1) (B := A2) h r, hj, nd => by
    rw [List.append_assoc] at nd
    have nd3 := List.nodup_append.mp nd
    obtain ⟨A', q1, q2, q3⟩ := repL_put rv (j := j) r (Nat.lt_of_succ_lt_succ hj) nd3.2.1
    refine ⟨A1 ++ A', .cons h q1, List.nodup_append.mpr ⟨nd3.1, q2, fun x hx y hy => nd3.2.2 x hx y ?_⟩, fun z hz => ?_⟩
    · rcases q3 y hy with q | q
      · exact List.mem_append_left _ q
      · exact List.mem_append_right _ q
    · rcases List.mem_append.mp hz with q | q
      · exact .inl (List.mem_append_left _ q)
      · rcases q3 z q with q | q
        · exact .inl (List.mem_append_right _ q)
        · exact .inr q
theorem repL_ln {K : PySem.W.Frag} {mg : Str → Option Value} {H : Hp} {o : Bool} : ∀ {vs : List V} {ds : List D} {A : List Addr}, RepL K mg H o vs ds A → vs.length = ds.length
  | _, _, _, .nil => rfl
  | _, _, _, .cons _ r => congrArg (· + 1) (repL_ln r)
section
variable {X : Cx} {W : WX} {C : Cfg} {ow ow' : List Nat} {k2 : Kd} {o ik value : Expr} {dv dk : Env → R D} {pos pos' : Pos}
def lputS (i : Nat) (ms : List Nat) (dk dv : Env → R D) : Env → Out := fun ρ => match dv ρ with
  | .ok v => (match ρ[i]? with
    | some (some (.list xs)) => (match dk ρ with
      | .ok (.int y) => (match ixN xs.length y with
        | some j => .nx ((kill ms ρ).set i (some (.list (xs.set j v))))
        | none => .stk)
      | .exc x => .exc x ρ
      | _ => .stk)
    | _ => .stk)
  | .exc x => .exc x ρ
  | .stk => .stk
theorem ds_lput {i : Nat} {ms : List Nat} (hu : X.A.units + 64 < cLine) (h1 : DE X W ow (.own ms) value dv) (ho : PE X o (tVar i)) (h2 : DE X W ow k2 ik dk)
    (hi : ow.contains i = true) (him : ms.contains i = false) (how : subL ow' ow = true) (hox : subL C.owx ow = true)
    (ha : ∀ v, assign (.Subscript o ik pos') X.env v = (do
      let ov ← holding [v] (eval o X.env)
      let iv ← holding [v, ov] (eval ik X.env)
      standAt pos'
      holding [v, ov, iv] (setItem ov iv v)
      release [v, ov, iv] []) := by intro _; rfl)
    (hs : swapsWithSole [.Subscript o ik pos'] value pos.line X.env = pure false := by rfl) (hw : swappedStores [.Subscript o ik pos'] value X.env = pure none := by rfl) :
    DS X W C ow ow' (.Assign [.Subscript o ik pos'] value pos) (lputS i ms dk dv) := by
  obtain ⟨tv, pv, qv⟩ := h1
  obtain ⟨ty, py, qy⟩ := h2
  refine ⟨_, ps_asg pv (pg_sub ho py set_list ha) hs hw, fun H0 M0 pn σ ρ H As Dn hp S z => qv σ ρ H As _ ⟨H0, M0, pn, S⟩ ?_⟩
  have hi' := contains_mem.mp hi
  unfold lputS at z
  cases hd : dv ρ with
  | stk =>
    rw [hd] at z
    exact z
  | exc x =>
    rw [hd] at z
    exact fun c dd H' A sm rp fx => z c dd σ H' As A ((S.same sm).less (subL_mem hox)) rp (S.fx fx)
  | ok dval =>
    rw [hd] at z
    intro v H1 B s1 rB ok
    dsimp only at z
    split at z
    · rename_i xs hρ
      obtain ⟨w, hw2, rw1⟩ := S.rep i _ hρ
      rw [hi] at rw1
      generalize eA : As i = Ai at rw1
      refine ⟨w, hw2, qy σ ρ H1 As _ ⟨H0, M0, pn, S.same s1⟩ ?_⟩
      cases hk : dk ρ with
      | stk =>
        rw [hk] at z
        exact z
      | exc x =>
        rw [hk] at z
        exact fun c dd H' A sm rp fx => z c dd σ H' As A (((S.same s1).same sm).less (subL_mem hox)) rp ((S.same s1).fx fx)
      | ok dkey =>
        rw [hk] at z
        intro y H3 Ak s3 rk _
        cases dkey with
        | int ky =>
          dsimp only at z
          cases hp3 : ixN xs.length ky with
          | none =>
            rw [hp3] at z
            exact z.elim
          | some j =>
            rw [hp3] at z
            have ey : y = V.int ky := rep_key (k := .inl ky) rk
            subst ey
            have hj := (ixN_seq hp3).2.1
            cases rw1 with
            | lst hh l1 =>
              rename_i a vs A
              have S3 := (S.same s1).same s3
              have hh3 := s3 _ _ (s1 _ _ hh)
              have ndA : (a :: A).Nodup := by
                have := S.nd i hi'
                rw [eA] at this
                exact this
              have hB : ∀ w ∈ B, w ∉ As i := fun w hw hA => by
                rcases ok.2.2 w hw with q | ⟨j, hj, q⟩
                · exact S.old hA q
                · by_cases e : i = j
                  · subst e
                    rw [contains_mem.mpr hj] at him
                    cases him
                  · exact S.sep j (ok.2.1 j hj) i e w q hA
              have nd1 := nodup_cons_app ndA ok.1 fun w hw => ⟨fun q => hB w hw (by rw [eA, q]; exact List.mem_cons_self), fun q => hB w hw (by rw [eA]; exact List.mem_cons_of_mem _ q)⟩
              have nd2 := List.nodup_cons.mp nd1
              have lA := ((l1.same s1).same s3).fr (M := fun b => b = a) (upd_fr (u := .lst (vs.set j v)) hh3 rfl rfl) fun b hb e => nd2.1 (List.mem_append_left _ (e ▸ hb))
              have lB := (rB.same s3).fr (M := fun b => b = a) (upd_fr (u := .lst (vs.set j v)) hh3 rfl rfl) fun b hb e => nd2.1 (List.mem_append_right _ (e ▸ hb))
              obtain ⟨A', q1, q2, q3⟩ := repL_put (j := j) lB lA hj nd2.2
              refine ⟨a, vs, ky, j, rfl, rfl, hh3, by rw [repL_ln l1]; exact hp3, ?_⟩
              have T := Sta.killAll ms S3
              have nim : i ∉ ms := fun q => by
                rw [contains_mem.mpr q] at him
                cases him
              have ei : (fun j => if j ∈ ms then [] else As j) i = a :: A := by
                show (if i ∈ ms then [] else As i) = _
                rw [if_neg nim, eA]
              have nA' : a ∉ A' := fun q => by
                rcases q3 a q with q | q
                · exact nd2.1 (List.mem_append_left _ q)
                · exact nd2.1 (List.mem_append_right _ q)
              refine z _ _ _ ((T.mut (i := i) hi' hw2 (upd_fr hh3 rfl (by show a ∈ (fun j => if j ∈ ms then [] else As j) i; rw [ei]; exact List.mem_cons_self)) (.lst upd_same q1) (List.nodup_cons.mpr ⟨nA', q2⟩) fun w hw => ?_).less (subL_mem how))
              rcases List.mem_cons.mp hw with q | q
              · exact .inl (by show w ∈ (fun j => if j ∈ ms then [] else As j) i; rw [ei, q]; exact List.mem_cons_self)
              rcases q3 w q with q | q
              · exact .inl (by show w ∈ (fun j => if j ∈ ms then [] else As j) i; rw [ei]; exact List.mem_cons_of_mem _ q)
              · refine .inr ⟨?_, fun j hj => ?_⟩
                · rcases ok.2.2 w q with p | ⟨j, hj, p⟩
                  · exact S.was p
                  · exact S.new j (ok.2.1 j hj) w p
                · split at hj
                  · cases hj
                  · rename_i hjm
                    rcases ok.2.2 w q with p | ⟨l, hl, p⟩
                    · exact S.old hj p
                    · exact S.sep l (ok.2.1 l hl) j (fun e => hjm (e ▸ hl)) w p hj
        | _ => exact z.elim
    · exact z.elim
end
end Dg

namespace Dg
open PySem PySem.Spec PyProof.Rows L2
/-! ### raise C('text'), C without an own __init__; a suite that asks isinstance of the caught one -/
def raise0 (cls : Str) : Env → Out := fun ρ => .exc ⟨cls, []⟩ ρ
def MkO (K : PySem.W.Frag) (mg : Str → Option Value) (x : Str) : Prop :=
  ∃ C, PySem.W.excIn K C [.type "ValueError", .type "Exception", .type "BaseException", .type "object"] "ValueError.__new__" = true ∧ mg x = some (.ref C) ∧ PySem.W.keepIn K (.ref C) = true ∧ PySem.W.subIn K (.ref C) (.type "BaseException") = some true ∧ PySem.W.typeIn K (.ref C) = some (.type "type")
section
variable {X : Cx} {W : WX} {C : Cfg} {ow ow' : List Nat} {pos p p2 p3 : Pos}
theorem ds_raise0 {x m : Str} {j : Nat} (h : MkO X.K X.mg x) (hc : X.calm = true) (tk : Takes X W) (hox : subL C.owx ow = true) (hg : Gl X x := by rfl) (hdb : (x == ("__debug__" : Str)) = false := by decide) :
    DS X W C ow ow' (.Raise (some (.Call (.Name x p) [.Constant (.str m) j p2] [] pos)) none p3) (raise0 x) := by
  obtain ⟨Ca, q, hm, hk, hb, ht⟩ := h
  refine ⟨_, ps_raise hc tk (pmk_own PySem.F.excBase_ValueError q hm hk (raises_own hb ht) hg hdb), fun H0 M0 pn σ ρ H As Dn hp S z => ?_⟩
  exact z (.ref Ca) none σ H As [] (S.less (subL_mem hox)) ⟨Ca, rfl, hm, rfl, rfl⟩ fun b hb => by cases hb
end
/-- an expression that tells a truth value, while slot i holds the caught one -/
def ArgI (X : Cx) (i : Nat) (a : Addr) (e : Expr) (b : Bool) : Prop := ∃ te, PE X e te ∧ ∀ σ H Q, σ[i]? = some (some (.ref a)) → Q (.bl b) H → te σ H Q
def ArgsI (X : Cx) (i : Nat) (a : Addr) (es : List Expr) (bs : List Bool) : Prop := ∃ ta, PA X es ta ∧ ∀ σ H Q, σ[i]? = some (some (.ref a)) → Q (bs.map V.bl) H → ta σ H Q
section
variable {X : Cx} {i : Nat} {a : Addr} {e : Expr} {es : List Expr} {b : Bool} {bs : List Bool} {p p2 p3 pos : Pos} {n T : Str}
theorem argsI_nil : ArgsI X i a [] [] := ⟨_, pa_nil, fun σ H Q h q => q⟩
theorem argsI_cons (h1 : ArgI X i a e b) (h2 : ArgsI X i a es bs) (hs : starEach (e :: es) X.env = (false, eval e X.env) :: starEach es X.env := by rfl) : ArgsI X i a (e :: es) (b :: bs) := by
  obtain ⟨te, p1, q1⟩ := h1
  obtain ⟨ta, p2, q2⟩ := h2
  refine ⟨_, pa_cons p1 p2 hs, fun σ H Q h q => q1 σ H _ h ?_⟩
  exact q2 σ H _ h q
theorem argI_own {D B : Addr} {oe : Obj} {pn : List (Addr × Obj)} (E : ExcC X.K D) (hz : Zc (.ref D) none oe) (hf : ∃ vs, oe.data = .fields vs) (hk : PySem.W.kitOne X.K (.ref D) (.ref B) = some b) (hmT : X.mg T = some (.ref B)) (hm : X.mg "isinstance" = none)
    (hv : PE (X.suite a ((a, oe) :: pn)) (.Name n p2) (tVar i)) (hg : Gl (X.suite a ((a, oe) :: pn)) "isinstance" := by rfl) (hgT : Gl (X.suite a ((a, oe) :: pn)) T := by rfl) (hdT : (T == ("__debug__" : Str)) = false := by decide)
    (hs : starEach [.Name n p2, .Name T p3] (X.suite a ((a, oe) :: pn)).env = (false, eval (.Name n p2) (X.suite a ((a, oe) :: pn)).env) :: starEach [.Name T p3] (X.suite a ((a, oe) :: pn)).env := by rfl) (hs2 : starEach [.Name T p3] (X.suite a ((a, oe) :: pn)).env = (false, eval (.Name T p3) (X.suite a ((a, oe) :: pn)).env) :: starEach [] (X.suite a ((a, oe) :: pn)).env := by rfl) (hpl : (backTo pos (starEach [.Name T p3] (X.suite a ((a, oe) :: pn)).env)).any (·.1) = false := by rfl) :
    ArgI (X.suite a ((a, oe) :: pn)) i a (.Call (.Name "isinstance" p) [.Name n p2, .Name T p3] [] pos) b := by
  refine ⟨_, pe_callB (call_isE E hz hf) hg hm (by decide +kernel) (pa_cons hv (pa_cons (pe_glob (v := .ref B) hgT hmT rfl hdT) pa_nil hs2) hs) (by decide) (by decide) hs hpl, fun σ H Q h q => ?_⟩
  exact ⟨_, h, ⟨.ref B, .ref B, b, rfl, fun u r => r, hk, q⟩⟩
theorem argI_ty {D : Addr} {oe : Obj} {pn : List (Addr × Obj)} {ty : String} (E : ExcC X.K D) (hz : Zc (.ref D) none oe) (hf : ∃ vs, oe.data = .fields vs) (hk : PySem.W.kitOne X.K (.ref D) (.type ty) = some b) (hmT : X.mg T = none) (hvT : bootBuiltins T = some (.type ty)) (hm : X.mg "isinstance" = none)
    (hv : PE (X.suite a ((a, oe) :: pn)) (.Name n p2) (tVar i)) (hg : Gl (X.suite a ((a, oe) :: pn)) "isinstance" := by rfl) (hgT : Gl (X.suite a ((a, oe) :: pn)) T := by rfl) (hnT : T ≠ "__name__" := by decide) (hdT : (T == ("__debug__" : Str)) = false := by decide)
    (hs : starEach [.Name n p2, .Name T p3] (X.suite a ((a, oe) :: pn)).env = (false, eval (.Name n p2) (X.suite a ((a, oe) :: pn)).env) :: starEach [.Name T p3] (X.suite a ((a, oe) :: pn)).env := by rfl) (hs2 : starEach [.Name T p3] (X.suite a ((a, oe) :: pn)).env = (false, eval (.Name T p3) (X.suite a ((a, oe) :: pn)).env) :: starEach [] (X.suite a ((a, oe) :: pn)).env := by rfl) (hpl : (backTo pos (starEach [.Name T p3] (X.suite a ((a, oe) :: pn)).env)).any (·.1) = false := by rfl) :
    ArgI (X.suite a ((a, oe) :: pn)) i a (.Call (.Name "isinstance" p) [.Name n p2, .Name T p3] [] pos) b := by
  refine ⟨_, pe_callB (call_isE E hz hf) hg hm (by decide +kernel) (pa_cons hv (pa_cons (pe_bltn (v := .ty ty) hgT hmT hvT rfl hnT hdT) pa_nil hs2) hs) (by decide) (by decide) hs hpl, fun σ H Q h q => ?_⟩
  exact ⟨_, h, ⟨.ty ty, .type ty, b, rfl, fun u r => r, hk, q⟩⟩
end
def readI (j : Nat) (only : Str) (bs : List Bool) : Exn → Env → Out := fun x ρ => if x.cls = only ∧ x.flds = [] then .nx (ρ.set j (some (.tuple (bs.map .bool)))) else .stk
theorem bools_rep {K : PySem.W.Frag} {mg : Str → Option Value} {H : Hp} : ∀ bs : List Bool, RepL K mg H true (bs.map V.bl) (bs.map PyData.bool) []
  | [] => .nil
  | b :: bs => .cons (A := []) (B := []) (.bl b) (bools_rep bs)
theorem dsu_isT {X : Cx} {C : Cfg} {ow ow' : List Nat} {i j : Nat} {a A : Addr} {cls : Value} {d : Option Addr} {oe : Obj} {pn0 : List (Addr × Obj)} {only y : Str} {bs : List Bool} {es : List Expr} {py p4 spos : Pos} {c2 : Nat}
    (hA : X.mg only = some (.ref A)) (hbl : bs.length ≤ 100)
    (hX : d = none → cls = .ref A → ArgsI (X.suite a ((a, oe) :: pn0)) i a es bs)
    (hg : PG (X.suite a ((a, oe) :: pn0)) (.Name y py) (gName j))
    (hio : disL [j] (C.io ++ C.pl) = true) (how : subL ow' (j :: ow) = true)
    (hsw : swapsWithSole [.Name y py] (.Tuple es c2 p4) spos.line (X.suite a ((a, oe) :: pn0)).env = pure false := by rfl) (hw : swappedStores [.Name y py] (.Tuple es c2 p4) (X.suite a ((a, oe) :: pn0)).env = pure none := by rfl)
    (h3 : (assignEach [.Name y py] (X.suite a ((a, oe) :: pn0)).env).map (·.2) = [assign (.Name y py) (X.suite a ((a, oe) :: pn0)).env] := by rfl) :
    DSU (X.suite a ((a, oe) :: pn0)) i a cls d C ow ow' [.Assign [.Name y py] (.Tuple es c2 p4) spos] (readI j only bs) := by
  by_cases hC : d = none ∧ cls = .ref A
  · obtain ⟨ta, pa, qa⟩ := hX hC.1 hC.2
    refine ⟨_, pss_one (ps_asg (pe_tup pa) hg hsw hw h3), fun x H0 M0 pn σ ρ H As A2 Dn hp S xs z => ?_⟩
    unfold readI at z
    by_cases hx : x.cls = only ∧ x.flds = []
    · rw [if_pos hx] at z
      refine qa σ H _ xs.at_ ⟨by rw [List.length_map, sizeLine_eq]; omega, fun p hpn => ?_⟩
      have sm : Same H (upd H p (.tup (bs.map V.bl))) := same_upd hpn
      have pj : pn j = none := hp j (disL_mem hio j List.mem_cons_self)
      have rt : Rep X.K X.mg (upd H p (.tup (bs.map V.bl))) true (.ref p) (.tuple (bs.map .bool)) [] := .tup (.inl (.inl upd_same)) (bools_rep bs)
      refine z _ _ _ ((S.same sm).put (ow' := ow') rt pj (fun _ => ⟨List.nodup_nil, (fun b hb => by cases hb), fun b hb => by cases hb⟩) (fun j' hj' hne b hb hb2 => by cases hb2) (fun j' hj' hne => ?_) (fun _ => rfl))
      rcases List.mem_cons.mp (subL_mem how j' hj') with w | w
      · exact absurd w hne
      · exact w
    · rw [if_neg hx] at z
      exact z.elim
  · refine ⟨fun _ _ _ => False, ⟨fun pins s σ H D I h => h.elim⟩, fun x H0 M0 pn σ ρ H As A2 Dn hp S xs z => ?_⟩
    unfold readI at z
    by_cases hx : x.cls = only ∧ x.flds = []
    · obtain ⟨_, ⟨C1, e1, hm, hd⟩, _⟩ := xs
      refine hC ⟨?_, ?_⟩
      · cases d with
        | none => rfl
        | some dd => exact absurd hx.2 hd.2.2
      · have hm : X.mg x.cls = some (.ref C1) := hm
        rw [hx.1, hA] at hm
        cases hm
        exact e1
    · rw [if_neg hx] at z
      exact z.elim
end Dg

/-! Two except clauses that bear one name: after the pattern of the hand layer's one named clause, the test of a clause told once for both. -/
namespace Dg
open PySem PySem.Spec PyProof.Rows L2
section
variable {X : Cx} {n : Str} {i : Nat} {tb : WX → TS} {Wout : WX}
theorem ps_try_as2 {x1 x2 : Str} {c1 c2 : Value} {body su1 su2 : List Stmt} {b1 b2 : Stmt} {np1 np2 pos pos1 pos2 : Pos} {ts1 ts2 : Addr → Value → Option Addr → TS} (hs : X.stack = X.env :: X.outer) (hf : X.env.frame = some X.env.locals) (hN : X.N.Nodup) (hi : X.N[i]? = some n) (hln : X.env.kindOf n = some .local) (hc1 : Names X x1 c1) (hc2 : Names X x2 c2) (tk : Takes X Wout)
    (hb : ∀ (W : WX) (pn : List (Addr × Obj)) (xe : Value → Shared → Prop), Takes (X.tr pn xe) W → PassesOwn (model X.prog X.w) X.A X.env xe → PSs (X.tr pn xe) body (tb W))
    (hs1 : ∀ (a : Addr) (oe : Obj) (cls : Value) (d : Option Addr) (pn : List (Addr × Obj)), Zc cls d oe → (∃ vs, oe.data = .fields vs) → PSs (X.suite a ((a, oe) :: pn)) (b1 :: su1) (ts1 a cls d))
    (hs2 : ∀ (a : Addr) (oe : Obj) (cls : Value) (d : Option Addr) (pn : List (Addr × Obj)), Zc cls d oe → (∃ vs, oe.data = .fields vs) → PSs (X.suite a ((a, oe) :: pn)) (b2 :: su2) (ts2 a cls d)) :
    PS X (.Try body [.ExceptHandler (some (.Name x1 np1)) (some n) (b1 :: su1) pos1, .ExceptHandler (some (.Name x2 np2)) (some n) (b2 :: su2) pos2] [] [] pos) (fun D σ H => tb (wAs X.K c1 i ts1 (wAs X.K c2 i ts2 Wout D) D) D σ H) := by
  refine ⟨fun pins s σ H D I h => ?_⟩
  have ok := I.ok
  have hfr : X.A.frames = some (X.env :: X.outer) := by rw [ok.frames, hs]
  have hloc : Loc X.env.scope n := .inl hln
  refine wpAny_Try_except (wpAny_mono ((hb (wAs X.K c1 i ts1 (wAs X.K c2 i ts2 Wout D) D) (X.pn ++ pins) _ (fun u s' xx => ?_) PassesOwn.looking).run [] s σ H D (I.toTry _) h) (fun f s1 hsp => ?_) (fun e s1 he => he))
  · obtain ⟨a, B, sI, pins', σ', H', cls, d, rfl, J', nb, up, sky, na, os, ag, w⟩ := xx
    have J : Inv X pins σ' H' sI := J'.ofTry ok
    rw [show (X.tr (X.pn ++ pins) _).stack = X.stack from rfl, hs] at sky
    show wpAny (model X.prog X.w) X.A (noteFrame (.ref a) X.env) _ _ _
    refine Sky.land Zc.steady hfr hf sky fun h3 fl3 up3 => ?_
    have J3 : Inv X pins σ' H' { s' with heap := h3 } := J.landed nb fl3.1 (up.trans up3) os ag
    obtain ⟨oe3, vs3, he3, hz3, hd3⟩ := fl3.there
    have nfr : a ∉ frs (X.env :: X.outer) := fun hm => by
      obtain ⟨_, o', e', hnf⟩ := fl3.2.2.1.mem hm
      rw [he3] at e'
      cases e'
      exact hnf _ hd3
    have nL : a ≠ X.env.locals := fun z => nfr (List.mem_filterMap.mpr ⟨X.env, List.mem_cons_self, by rw [hf, z]⟩)
    have nF : a ∉ X.fs := fun hm => by
      obtain ⟨e, he, q⟩ := List.mem_filterMap.mp hm
      exact nfr (List.mem_filterMap.mpr ⟨e, List.mem_cons_of_mem _ he, q⟩)
    -- one clause, whatever stands behind it
    have clause : ∀ {x : Str} {c : Value} {su : List Stmt} {b₀ : Stmt} {np p' : Pos} {ts : Addr → Value → Option Addr → TS} {rest : List ExceptHandler} {b : Bool}, Names X x c →
        (∀ (a : Addr) (oe : Obj) (cls : Value) (d : Option Addr) (pn : List (Addr × Obj)), Zc cls d oe → (∃ vs, oe.data = .fields vs) → PSs (X.suite a ((a, oe) :: pn)) (b₀ :: su) (ts a cls d)) → PySem.W.exmOne X.K cls c = some b →
        (b = true → ∀ a, H' a = none → ts a cls d { nx := fun σ' H' => D.nx (σ'.set i none) H', rt := D.rt, bk := fun σ' H' => D.bk (σ'.set i none) H', ct := fun σ' H' => D.ct (σ'.set i none) H' } (σ'.set i (some (.ref a))) H') →
        (b = false → wpAny (model X.prog X.w) X.A (handleBy (.ref a) X.env rest) (SP X pins D) X.xe { s' with heap := h3 }) →
        wpAny (model X.prog X.w) X.A (handleBy (.ref a) X.env (.ExceptHandler (some (.Name x np)) (some n) (b₀ :: su) p' :: rest)) (SP X pins D) X.xe { s' with heap := h3 } := by
      intro x c su b₀ np p' ts rest b hc hsu hb1 hyes hno
      have S3 := J3.suite he3 hd3 na nL nF
      refine wpAny_handleBy_cons (codeAny_handlers_test ?_) (by intro q; cases q)
      have LM := PySem.W.exm_one (M := model X.prog X.w) J3.kIn (fun A Q E s k q => wpAny_typeOf_ref (k _ _ he3) (by rw [hz3.1]; exact q)) hb1
      have test : ∀ {Q : Value → Shared → Prop} {E : Value → Shared → Prop}, Q c { s' with heap := h3 } → wpAny (model X.prog X.w) (X.A.mark (some (.ref a))) (eval (.Name x np) X.env) Q E { s' with heap := h3 } := fun {Q E} q => by
        obtain ⟨hg, hdbg, hm | ⟨hm, hv, hnn⟩⟩ := hc
        · exact ld_glob (X := X.suite a ((a, oe3) :: (X.pn ++ pins))) S3 hg hm q hdbg
        · exact ld_blt (X := X.suite a ((a, oe3) :: (X.pn ++ pins))) S3 hg hm hv q hnn hdbg
      refine test (LM.here ?_)
      cases b with
      | false => exact hno rfl
      | true =>
        refine codeAny_handlers_suite_as (HandSPX.lands_againZ fl3 fun h4 fl4 up4 => ?_)
        have J4 : Inv X pins σ' H' { s' with heap := h4 } := J.landed nb fl4.1 ((up.trans up3).trans up4) os ag
        obtain ⟨oe4, vs4, he4, hz4, hd4⟩ := fl4.there
        refine store_ok (X := X.suite a ((a, oe4) :: (X.pn ++ pins))) (v := .ref a) (J4.suite he4 hd4 na nL nF) hN hi hloc rfl (fun s5 S5 => ?_) (.inr hln)
        refine wpAny_mono ((hsu a oe4 cls d (X.pn ++ pins) hz4 ⟨_, hd4⟩).run [] s5 _ H' _ S5 (hyes rfl a na)) (fun f s6 hsp => ?_) (fun _ _ z => False.elim z)
        cases f with
        | ret u =>
          obtain ⟨v6, σ6, H6, S6, r6, q6⟩ := hsp
          exact gone_ok (S6.unsuite ok) hN hi hln fun s7 J7 => ⟨_, _, _, J7, r6, q6⟩
        | _ =>
          obtain ⟨σ6, H6, S6, q6⟩ := hsp
          exact gone_ok (S6.unsuite ok) hN hi hln fun s7 J7 => ⟨_, _, J7, q6⟩
    obtain ⟨b, hb1, y1, w2⟩ := w
    refine clause hc1 hs1 hb1 y1 fun e1 => ?_
    obtain ⟨b', hb2, y2, w3⟩ := w2 e1
    refine clause hc2 hs2 hb2 y2 fun e2 => ?_
    refine wpAny_handleBy_nil ?_
    obtain ⟨k1, k2, k3, oe, vs, T, oT, ts', he, hz, hd, h1, hr⟩ := id fl3
    unfold PySem.passOn
    refine wpAny_bind (wpAny_field he hd h1 ?_)
    rw [if_neg (show ¬ ((Value.ref T == Value.none) = true) from by simp)]
    have fin : wpAny (model X.prog X.w) X.A (setFlight (.ref a) X.env.frame) (fun _ s4 => wpAny (model X.prog X.w) X.A (throw (.ref a) : Sem Flow) (SP X pins D) X.xe s4) X.xe { s' with heap := h3 } := by
      rw [hf]
      refine HandSPX.setFlight_upZ fl3 fun h4 hh4 up4 => wpAny_throw (tk _ _ ?_)
      exact ⟨a, B, sI, pins, σ', H', cls, d, rfl, J, nb, (up.trans up3).trans up4, .inr (.inr (by rw [hs]; exact hh4)), na, os, ag, w3 e2⟩
    first
      | exact wpAny_bind (wpAny_pure (wpAny_bind fin))
      | exact wpAny_bind fin
  · cases f with
    | next =>
      obtain ⟨σ', H', J', q⟩ := hsp
      exact wpAny_execs_nil ⟨σ', H', J'.ofTry ok, q⟩
    | ret u =>
      obtain ⟨v, σ', H', J', r, q⟩ := hsp
      exact ⟨v, σ', H', J'.ofTry ok, r, q⟩
    | _ =>
      obtain ⟨σ', H', J', q⟩ := hsp
      exact ⟨σ', H', J'.ofTry ok, q⟩
end

def clauseO (i : Nat) (g : Exn → Env → Out) (x : Exn) (r : Env) : Out := match r[i]? with
  | some _ => (match g x (r.set i none) with
    | .nx r' => .nx (r'.set i none)
    | _ => .stk)
  | none => .stk
def tryA2 (i : Nat) (tab1 tab2 : Str → Option Bool) (body : Env → Out) (g1 g2 : Exn → Env → Out) : Env → Out := fun ρ => match body ρ with
  | .exc x r => (match tab1 x.cls with
    | some true => clauseO i g1 x r
    | some false => (match tab2 x.cls with
      | some true => clauseO i g2 x r
      | some false => .exc x r
      | none => .stk)
    | none => .stk)
  | o => o
section
variable {X : Cx} {W : WX} {C : Cfg} {ow ow' : List Nat} {f : Env → Out} {g1 g2 : Exn → Env → Out} {pos : Pos}
theorem clause_run {i : Nat} {a : Addr} {cls : Value} {d : Option Addr} {owh : List Nat} {sts : List Stmt} {g : Exn → Env → Out} {X' : Cx} {H0 : Hp} {M0 : Addr → Prop} {pn : Nat → Option V} {σ' : L2.St} {r : Env} {H' : Hp} {As' : Nat → List Addr} {A : List Addr} {Dn : Ends} {x : Exn}
    (hK : X'.K = X.K) (hG : X'.mg = X.mg) (h : DSU X' i a cls d C owh ow' sts g) (hi1 : i ∉ owh) (hi2 : i ∉ ow') (pi : pn i = none) (hp : PinOk C pn) (S' : Sta X.K X.mg H0 M0 pn owh σ' r H' As') (rx : RepX X.K X.mg H' cls d x A) (fx : ∀ b ∈ A, (H0 b = none ∨ M0 b) ∧ ∀ j, b ∉ As' j)
    (z : Post X W C H0 M0 pn ow' Dn (clauseO i g x r)) : h.choose { nx := fun σ' H' => Dn.nx (σ'.set i none) H', rt := Dn.rt, bk := fun σ' H' => Dn.bk (σ'.set i none) H', ct := fun σ' H' => Dn.ct (σ'.set i none) H' } (σ'.set i (some (.ref a))) H' := by
  unfold clauseO at z
  cases hri : r[i]? with
  | none =>
    rw [hri] at z
    exact z.elim
  | some w =>
    rw [hri] at z
    dsimp only at z
    have hlt : i < σ'.length := by
      rw [S'.len]
      exact (List.getElem?_eq_some_iff.mp hri).1
    have S2 := S'.junk hi1 pi (some (.ref a))
    rw [← hK, ← hG] at S2 rx
    refine h.choose_spec.2 x H0 M0 pn _ _ H' _ A _ hp S2 ⟨by rw [List.getElem?_set_self hlt], rx, fun b hb => ⟨(fx b hb).1, fun j hj => ?_⟩⟩ ?_
    · by_cases hji : j = i
      · rw [if_pos hji] at hj
        cases hj
      · rw [if_neg hji] at hj
        exact (fx b hb).2 j hj
    · cases hg : g x (r.set i none) with
      | nx r' =>
        rw [hg] at z
        intro σ3 H3 As3 S3
        have S4 : Sta X.K X.mg H0 M0 pn ow' σ3 r' H3 As3 := by
          rw [← hK, ← hG]
          exact S3
        exact z _ _ _ (S4.junk hi2 pi none)
      | _ =>
        rw [hg] at z
        exact z.elim
theorem ds_tryAs2 {cn1 cn2 n : Str} {cv1 cv2 : Value} {i : Nat} {tab1 tab2 : Str → Option Bool} {body su1 su2 : List Stmt} {b1 b2 : Stmt} {np1 np2 p1 p2 : Pos} (owh : List Nat) (hs : X.stack = X.env :: X.outer) (hf : X.env.frame = some X.env.locals) (hN : X.N.Nodup) (hi : X.N[i]? = some n) (hln : X.env.kindOf n = some .local) (hc1 : Names X cn1 cv1) (hc2 : Names X cn2 cv2) (tk : Takes X W)
    (ht1 : ∀ nm A b, X.mg nm = some (.ref A) → tab1 nm = some b → PySem.W.exmOne X.K (.ref A) cv1 = some b) (ht2 : ∀ nm A b, X.mg nm = some (.ref A) → tab2 nm = some b → PySem.W.exmOne X.K (.ref A) cv2 = some b)
    (hb : ∀ (W' : WX) (pn : List (Addr × Obj)) (xe : Value → Shared → Prop), Takes (X.tr pn xe) W' → PassesOwn (model X.prog X.w) X.A X.env xe → DSs (X.tr pn xe) W' { C with owx := owh } ow ow' body f)
    (hsu1 : ∀ (a : Addr) (oe : Obj) (cls : Value) (d : Option Addr) (pn : List (Addr × Obj)), Zc cls d oe → (∃ vs, oe.data = .fields vs) → DSU (X.suite a ((a, oe) :: pn)) i a cls d C owh ow' (b1 :: su1) g1)
    (hsu2 : ∀ (a : Addr) (oe : Obj) (cls : Value) (d : Option Addr) (pn : List (Addr × Obj)), Zc cls d oe → (∃ vs, oe.data = .fields vs) → DSU (X.suite a ((a, oe) :: pn)) i a cls d C owh ow' (b2 :: su2) g2)
    (h1 : subL C.owx owh = true) (h2 : disL [i] owh = true) (h3 : disL [i] ow' = true) (hio : disL [i] (C.io ++ C.pl) = true) :
    DS X W C ow ow' (.Try body [.ExceptHandler (some (.Name cn1 np1)) (some n) (b1 :: su1) p1, .ExceptHandler (some (.Name cn2 np2)) (some n) (b2 :: su2) p2] [] [] pos) (tryA2 i tab1 tab2 f g1 g2) := by
  let tb : WX → TS := fun W' D σ H => ∀ pn xe h1 h2, (hb W' pn xe h1 h2).choose D σ H
  let ts1 : Addr → Value → Option Addr → TS := fun a cls d D σ H => ∀ oe pn hz hf, (hsu1 a oe cls d pn hz hf).choose D σ H
  let ts2 : Addr → Value → Option Addr → TS := fun a cls d D σ H => ∀ oe pn hz hf, (hsu2 a oe cls d pn hz hf).choose D σ H
  refine ⟨_, ps_try_as2 (tb := tb) (ts1 := ts1) (ts2 := ts2) hs hf hN hi hln hc1 hc2 tk (fun W' pn xe h1 h2 => pss_imp (hb W' pn xe h1 h2).choose_spec.1 fun D σ H z => z pn xe h1 h2) (fun a oe cls d pn hz hf => pss_imp (hsu1 a oe cls d pn hz hf).choose_spec.1 fun D σ H z => z oe pn hz hf) (fun a oe cls d pn hz hf => pss_imp (hsu2 a oe cls d pn hz hf).choose_spec.1 fun D σ H z => z oe pn hz hf), fun H0 M0 pn σ ρ H As Dn hp S z => ?_⟩
  intro pn' xe' k1 k2
  have pi : pn i = none := hp i (disL_mem hio i List.mem_cons_self)
  have hi1 := disL_mem h2 i List.mem_cons_self
  have hi2 := disL_mem h3 i List.mem_cons_self
  refine (hb _ pn' xe' k1 k2).choose_spec.2 H0 M0 pn σ ρ H As Dn hp S ?_
  unfold tryA2 at z
  cases hfr : f ρ with
  | exc x r =>
    rw [hfr] at z
    dsimp only at z
    intro c dd σ' H' As' A S' rx fx
    have rx0 := rx
    obtain ⟨Ca, rfl, hm, _⟩ := rx
    cases t1 : tab1 x.cls with
    | none =>
      rw [t1] at z
      exact z.elim
    | some b =>
      rw [t1] at z
      refine ⟨b, ht1 _ _ _ hm t1, fun hbt a ha oe pn2 hz hfl => ?_, fun hbf => ?_⟩
      · subst hbt
        exact clause_run (X := X) (X' := X.suite a ((a, oe) :: pn2)) rfl rfl (hsu1 a oe _ dd pn2 hz hfl) hi1 hi2 pi hp S' rx0 fx z
      · subst hbf
        dsimp only at z
        cases t2 : tab2 x.cls with
        | none =>
          rw [t2] at z
          exact z.elim
        | some b' =>
          rw [t2] at z
          refine ⟨b', ht2 _ _ _ hm t2, fun hbt a ha oe pn2 hz hfl => ?_, fun hbf => ?_⟩
          · subst hbt
            exact clause_run (X := X) (X' := X.suite a ((a, oe) :: pn2)) rfl rfl (hsu2 a oe _ dd pn2 hz hfl) hi1 hi2 pi hp S' rx0 fx z
          · subst hbf
            dsimp only at z
            exact z _ dd σ' H' As' A (S'.less (subL_mem h1)) rx0 fx
  | _ =>
    rw [hfr] at z
    exact z
end
end Dg

/-! isinstance of a caught exception, whether it has fields or not: after the pattern of the hand layer's one without fields. -/
namespace PySem.W
open PySem PySem.Spec PySem.Calls PyProof.Rows
section
variable {prog : Program} {w : World} {A : Around} {E : Value → Shared → Prop} {s : Shared} {K : Frag} {x D : Addr} {ox : Obj} {od : Option Obj}
theorem dg_find {C : Addr} {name : Str} {a g : Value} (hc : (clsIn K C).isSome = true) (ha : findIn K (.ref C) name = some (some a)) (hg : specialIn K a "__get__" = some (some g)) (ht : takesIn K a = some true) : findObj K C od name = some (.bind g a) := by
  cases hcd : clsIn K C with
  | none =>
    rw [hcd] at hc
    cases hc
  | some cd =>
    unfold findObj
    rw [hcd, Option.bind_some, ha, Option.bind_some]
    simp [hg, ht]
theorem dg_class {Q : Option Value → Shared → Prop} (Ex : L2.ExcC K D) (X : K.In s.heap) (I : InstAt s.heap x ox D od) (h : Q (some (.ref D)) { s with toks := s.toks + 1 }) : wpAny (model prog w) A (getAttr? (.ref x) "__class__") Q E s := by
  have hcl : (clsIn K D).isSome = true := by
    obtain ⟨cd, hc, _⟩ := any_some Ex.hd
    rw [hc]
    rfl
  obtain ⟨hp, g, d, t, os⟩ := s
  have T := I.type (M := model prog w)
  have F := looks_find (M := model prog w) X I (dg_find (od := od) hcl Ex.ha Ex.hn Ex.ht)
  have one : (onTheHeap (Value.ref D) && Value.builtin "BaseException.__getattribute__" == Value.builtin "object.__getattribute__") = false := by
    rw [show (Value.builtin "BaseException.__getattribute__" == Value.builtin "object.__getattribute__") = false from by decide +kernel]
    rfl
  unfold getAttr? getAttrBy? getAttrBy
  refine wpAny_bind (wpAny_mkText (wpAny_bind (wpAny_attempt (wpAny_holding (wpAny_bind (T.at (wpAny_bind ((looks_findIn (M := model prog w) X Ex.hg).at ?_))))))))
  show wpAny _ _ (if (onTheHeap (Value.ref D) && Value.builtin "BaseException.__getattribute__" == Value.builtin "object.__getattribute__") = true then _ else _) _ _ _
  rw [one, if_neg Bool.false_ne_true]
  unfold getAttrByItsOwn hookBefore
  refine wpAny_bind ?_
  rw [if_pos (show onTheHeap (Value.ref D) = true from rfl)]
  refine (looks_findIn (M := model prog w) X Ex.hk).at (wpAny_bind (wpAny_attempt (wpAny_holding ?_)))
  unfold callGetattribute
  rw [show (false && onTheHeap (Value.builtin "BaseException.__getattribute__")) = false from rfl, if_neg Bool.false_ne_true]
  unfold boundAndCalled
  rw [PySem.F.excAttr_ValueError.ga.bind (.ref x)]
  refine wpAny_bind (wpAny_pure ?_)
  show wpAny _ _ (call (.builtin "BaseException.__getattribute__") [.ref x, .str "__class__" t]) _ _ _
  refine wpAny_call (codeAny_call_builtin PySem.F.excAttr_ValueError.ga.plain PySem.F.entry_bexc_ga ?_)
  refine @check_slot (model prog w) _ _ ⟨hp, g, d, t + 1, os⟩ "BaseException.__getattribute__" "BaseException" "__getattribute__" (.ref x) [.str "__class__" t] [] _ (by decide +kernel) (by decide +kernel) (T.andThen (looks_subIn X Ex.hs)) (PySem.F.args_bexc_ga (.ref x) (.str "__class__" t)) ?_
  unfold Builtin.«object.__getattribute__»
  refine wpAny_bind (wpAny_of_eq (a := ((Value.ref x : Value), [Value.str "__class__" t])) (by first | rfl | (simp only [slotArgs]; rfl)) ?_)
  refine wpAny_bind (wpAny_pure (wpAny_bind (T.at (wpAny_bind (F.at ?_)))))
  show wpAny _ _ (holding [Value.builtin "object.__class__"] (call (.builtin "getset_descriptor.__get__") [.builtin "object.__class__", .ref x, .ref D]) >>= ret) _ _ _
  refine wpAny_bind (wpAny_holding (wpAny_call (class_get (s := ⟨hp, g, d, t + 1, os⟩) (ox := ox) (od := od) X I Ex.hm ?_)))
  refine wpAny_pure ?_
  show wpAny _ _ (handedOut (.ref D)) _ _ _
  rw [handedOut_of (v := .ref D) rfl]
  first
    | exact wpAny_pure (wpAny_pure h)
    | exact wpAny_pure h
    | exact wpAny_pure (wpAny_bind (wpAny_pure (wpAny_pure h)))
theorem dg_kitx (Ex : L2.ExcC K D) : KitX K (.ref x) (.ref D) (fun h => InstAt h x ox D od) where
  ty := fun _ _ _ I => I.type
  it := fun M h X _ => by
    obtain ⟨cdD, hcD, _⟩ := any_some Ex.hd
    unfold clsIn at hcD
    split at hcD
    · rename_i c' d' cd' sl' ho
      intro A' Q' E' s' k q
      unfold isType loadHead
      exact wpAny_bind (wpAny_loadPart (k _ _ (X _ _ ho)) (wpAny_pure q))
    · cases hcD
  ne := fun h tp dd its n sl X htp => by
    obtain ⟨cdD, hcD, _⟩ := any_some Ex.hd
    refine Bool.eq_false_iff.mpr fun q => ?_
    have e : D = tp := Value.ref.inj (beq_iff_eq.mp q)
    subst e
    unfold clsIn at hcD
    split at hcD
    · rename_i c' d' cd' sl' ho
      have z := (X _ _ ho).symm.trans htp
      cases z
    · cases hcD
  ca := fun X I k => dg_class Ex X I k
end
end PySem.W
namespace Dg
open PySem PySem.Spec PyProof.Rows L2
/-- isinstance(e, c), e the exception that the suite holds, of any kind -/
def rIsE2 (K : PySem.W.Frag) (D a : Addr) (d : Option Addr) : List V → Hp → VK → Prop := fun xs H Q => ∃ (c : V) (cv : Value) (b : Bool), xs = [.ref a, c] ∧ (∀ u, RelV c u → u = cv) ∧ PySem.W.kitOne K (.ref D) cv = some b ∧ (∀ dd, d = some dd → ∃ fs, H dd = some (.xd fs)) ∧ Q (.bl b) H
theorem call_isE2 {X : Cx} {a D : Addr} {d : Option Addr} {oe : Obj} {pn : List (Addr × Obj)} (C : ExcC X.K D) (hz : Zc (.ref D) d oe) (hf : ∃ vs, oe.data = .fields vs) : CallR (X.suite a ((a, oe) :: pn)) (.builtin "isinstance") (rIsE2 X.K D a d) := by
  intro pins s σ H xs us Q I r h
  obtain ⟨c, cv, b, rfl, hcv, e, hd, q⟩ := h
  cases r with
  | cons rx rr =>
    cases rr with
    | cons rt rr =>
      cases rr
      cases rx
      have ec := hcv _ rt
      subst ec
      obtain ⟨hget, _⟩ := I.pin (a, oe) (List.mem_append.mpr (.inl List.mem_cons_self))
      obtain ⟨vs, hv⟩ := hf
      have J : ∃ od, PySem.W.InstAt s.heap a oe D od := by
        cases d with
        | none => exact ⟨none, hget, hz.1, by unfold PySem.W.notCls; rw [hv] <;> rfl, by rw [hz.2]; trivial⟩
        | some dd =>
          obtain ⟨fs, hfs⟩ := hd dd rfl
          have hx : ObjOk X.prog X.w H s.heap dd (.xd fs) := I.hok dd _ hfs
          obtain ⟨mA, hns, hr⟩ := hx
          obtain ⟨od, ho, _⟩ := lookIn_ns hns
          exact ⟨some od, hget, hz.1, by unfold PySem.W.notCls; rw [hv] <;> rfl, by rw [hz.2]; exact ho⟩
      obtain ⟨od, J⟩ := J
      exact PySem.W.kia_one (PySem.W.dg_kitx (od := od) C) I.kIn J e (fun z => nomatch z) fun tk => ⟨.bl b, H, I.kept (t' := tk) fun _ _ z => z, rfl, q⟩
end Dg

/-! Any number of except clauses, with names or without; the caught exception is a tree of its own. After the pattern of the hand layer's clauses. -/
namespace Dg
open PySem PySem.Spec PyProof.Rows L2
def delE (i : Nat) (D : Ends) : Ends := { nx := fun σ' H' => D.nx (σ'.set i none) H', rt := D.rt, bk := fun σ' H' => D.bk (σ'.set i none) H', ct := fun σ' H' => D.ct (σ'.set i none) H' }
/-- what the clauses wish of an exception of the body, one after the other -/
def wG (K : PySem.W.Frag) (Wout : WX) (D : Ends) : List (Value × Option Nat × (Addr → TS)) → WX
  | [] => Wout
  | (c, nm, ts) :: r => fun cls d σ H => ∃ b, PySem.W.exmOne K cls c = some b ∧
      (b = true → ∀ a oe, H a = none → Zc cls d oe → (∃ vs, oe.data = .fields vs) → (match nm with
        | none => ts a D σ (upd H a (.frz oe xcell))
        | some i => ts a (delE i D) (σ.set i (some (.ref a))) (upd H a (.frz oe xcell)))) ∧ (b = false → wG K Wout D r cls d σ H)
inductive HdG (X : Cx) : List ExceptHandler → List (Value × Option Nat × (Addr → TS)) → Prop
  | nil : HdG X [] []
  | only {x : Str} {c : Value} {ts : Addr → TS} {b₀ : Stmt} {suite : List Stmt} {np pos' : Pos} {hds : List ExceptHandler} {l : List (Value × Option Nat × (Addr → TS))} (hc : Names X x c)
      (hsu : ∀ (a : Addr) (pn : List (Addr × Obj)), PSs (X.suite a pn) (b₀ :: suite) (ts a)) (r : HdG X hds l) : HdG X (.ExceptHandler (some (.Name x np)) none (b₀ :: suite) pos' :: hds) ((c, none, ts) :: l)
  | as_ {x n : Str} {c : Value} {i : Nat} {ts : Addr → TS} {b₀ : Stmt} {suite : List Stmt} {np pos' : Pos} {hds : List ExceptHandler} {l : List (Value × Option Nat × (Addr → TS))} (hc : Names X x c) (hi : X.N[i]? = some n) (hln : X.env.kindOf n = some .local)
      (hsu : ∀ (a : Addr) (pn : List (Addr × Obj)), PSs (X.suite a pn) (b₀ :: suite) (ts a)) (r : HdG X hds l) : HdG X (.ExceptHandler (some (.Name x np)) (some n) (b₀ :: suite) pos' :: hds) ((c, some i, ts) :: l)
section
variable {X : Cx} {pins : List (Addr × Obj)} {σ : L2.St} {H : Hp} {s sI : Shared}
theorem inv_suiteX (I : Inv X pins σ H s) {a : Addr} {oe : Obj} {vs : Array Value} (ha : s.heap.get? a = some oe) (hd : oe.data = .fields vs) (na : H a = none) (n0 : X.s_0.heap.get? a = none) (nL : a ≠ X.env.locals) (np : ∀ p ∈ X.pn ++ pins, p.1 ≠ a) :
    Inv (X.suite a (X.pn ++ pins)) [] σ (upd H a (.frz oe xcell)) s := by
  have nea : ∀ {b : Addr} {u : HO}, H b = some u → b ≠ a := fun e => ne_of_none e na
  refine ⟨I.ok.suite _ _, I.os, I.bare, ⟨I.base.keep, I.base.slot, fun b o e n hx => ?_, I.base.there, fun b xs e => ?_, fun b o u e => ?_, fun b ps e => ?_⟩, I.loc, I.cell, ?_, fun x c e => ?_, fun p hp => ?_, fun b u e => ?_, I.len⟩
  · have hb : b ≠ a := fun z => by
      rw [z] at e
      rw [show X.s_0.heap.get? a = none from n0] at e
      cases e
    rw [upd_ne hb]
    exact I.base.free b o e n hx
  · have q := I.base.tups b xs e
    rw [upd_ne (nea q)]
    exact q
  · have q := I.base.frzs b o u e
    rw [upd_ne (nea q)]
    exact q
  · obtain ⟨m, q⟩ := I.base.tbls b ps e
    exact ⟨m, by rw [upd_ne (nea q)]; exact q⟩
  · rw [show (upd H a (.frz oe xcell)) (X.suite a (X.pn ++ pins)).env.locals = H X.env.locals from upd_ne (Ne.symm nL)]
    exact I.free
  · have hc : c ≠ a := fun z => by
      obtain ⟨v, o, ho, hv⟩ := I.cell x c e
      rw [z, ha] at ho
      cases ho
      rw [hd] at hv
      cases hv
    rw [upd_ne hc]
    exact I.freeC x c e
  · have hp' : p ∈ X.pn ++ pins := by
      have : p ∈ (X.pn ++ pins) ++ ([] : List (Addr × Obj)) := hp
      rw [List.append_nil] at this
      exact this
    obtain ⟨q1, q2, q3, q4, q5⟩ := I.pin p hp'
    exact ⟨q1, by rw [upd_ne (np p hp')]; exact q2, q3, q4, q5⟩
  · by_cases hb : b = a
    · subst hb
      rw [upd_same] at e
      cases e
      exact ⟨ha, trivial, ⟨_, ha⟩, fun _ _ _ _ => trivial⟩
    · rw [upd_ne hb] at e
      exact (I.hok b u e).stay (fun _ _ _ q => q) (fun c q => by rw [upd_ne (nea q)]; exact q) fun c xs q => by rw [upd_ne (nea q)]; exact q
theorem inv_unsuiteX {a : Addr} (I : Inv (X.suite a (X.pn ++ pins)) [] σ H s) (ok : X.Ok) : Inv X pins σ H s :=
  ⟨ok, I.os, I.bare, I.base, I.loc, I.cell, I.free, I.freeC, fun p hp => I.pin p (List.mem_append_left _ hp), I.hok, I.len⟩
end
section
variable {X : Cx} {body : List Stmt} {h₀ : ExceptHandler} {hds : List ExceptHandler} {l : List (Value × Option Nat × (Addr → TS))} {pos : Pos} {tb : WX → TS} {Wout : WX}
theorem ps_try_gen (hs : X.stack = X.env :: X.outer) (hf : X.env.frame = some X.env.locals) (hN : X.N.Nodup) (hex : X.ex = []) (tk : Takes X Wout)
    (hb : ∀ (W : WX) (pn : List (Addr × Obj)) (xe : Value → Shared → Prop), Takes (X.tr pn xe) W → PassesOwn (model X.prog X.w) X.A X.env xe → PSs (X.tr pn xe) body (tb W))
    (hh : HdG X (h₀ :: hds) l) : PS X (.Try body (h₀ :: hds) [] [] pos) (fun D σ H => tb (wG X.K Wout D l) D σ H) := by
  refine ⟨fun pins s σ H D I h => ?_⟩
  have ok := I.ok
  have hfr : X.A.frames = some (X.env :: X.outer) := by rw [ok.frames, hs]
  refine wpAny_Try_except ?_
  refine wpAny_mono ((hb (wG X.K Wout D l) (X.pn ++ pins) (fun e s₁ => wpAny (model X.prog X.w) X.A (noteFrame e X.env) (fun _ s₂ => wpAny (model X.prog X.w) X.A (setFlight e none) (fun _ s₃ =>
    wpAny (model X.prog X.w) X.A (handleBy e X.env (h₀ :: hds)) (SP X pins D) X.xe s₃) X.xe s₂) X.xe s₁) (fun u s' xx => ?_) PassesOwn.looking).run [] s σ H D (I.toTry _) h) (fun f s1 hsp => ?_) (fun e s1 he => he)
  · -- the catch
    obtain ⟨a, B, sI, pins', σ', H', cls, d, rfl, J', nb, up, sky, na, os, ag, w⟩ := xx
    have J : Inv X pins σ' H' sI := J'.ofTry ok
    have sky' : Sky B (X.env :: X.outer) a (Zc cls d) X.env.locals s'.heap := by rw [← hs]; exact sky
    show wpAny (model X.prog X.w) X.A (noteFrame (.ref a) X.env) _ _ _
    refine Sky.land Zc.steady hfr hf sky' fun h3 fl3 up3 => ?_
    have J3 : Inv X pins σ' H' { s' with heap := h3 } := J.landed nb fl3.1 (up.trans up3) os ag
    obtain ⟨oe3, vs3, he3, hz3, hd3⟩ := fl3.there
    have notFr : ∀ {h : Heap} {o : Obj} {vs : Array Value}, h.FunFrames B (X.env :: X.outer) → h.get? a = some o → o.data = .fields vs → a ∉ frs (X.env :: X.outer) := fun {h o vs} ff e dd hm => by
      obtain ⟨_, o', e', hnf⟩ := ff.mem hm
      rw [e] at e'; cases e'
      exact hnf _ dd
    have nfr := notFr fl3.2.2.1 he3 hd3
    have nL : a ≠ X.env.locals := fun z => nfr (List.mem_filterMap.mpr ⟨X.env, List.mem_cons_self, by rw [hf, z]⟩)
    have nF : a ∉ X.fs := fun hm => by
      obtain ⟨e, he, q⟩ := List.mem_filterMap.mp hm
      exact nfr (List.mem_filterMap.mpr ⟨e, List.mem_cons_of_mem _ he, q⟩)
    have nI : sI.heap.get? a = none := by
      cases e : sI.heap.get? a with
      | none => rfl
      | some o =>
        have q := nb a o e (by rw [hs]; exact nfr)
        rw [fl3.2.1] at q
        cases q
    have n0 : X.s_0.heap.get? a = none := by
      cases e : X.s_0.heap.get? a with
      | none => rfl
      | some o =>
        have hx : a ∉ X.ex := fun z => by
          rw [hex] at z
          cases z
        obtain ⟨o', q⟩ := J.base.there a o e hx
        rw [nI] at q
        cases q
    have npn : ∀ p ∈ X.pn ++ pins, p.1 ≠ a := fun p hp z => by
      have q := (J.pin p hp).1
      rw [z, nI] at q
      cases q
    have go : ∀ {hds' : List ExceptHandler} {l' : List (Value × Option Nat × (Addr → TS))}, HdG X hds' l' → wG X.K Wout D l' cls d σ' H' →
        wpAny (model X.prog X.w) X.A (handleBy (.ref a) X.env hds') (SP X pins D) X.xe { s' with heap := h3 } := by
      intro hds' l' hk
      have LT : PySem.W.Looks (model X.prog X.w) h3 (typeOf (.ref a)) cls := fun A Q E s k q => wpAny_typeOf_ref (k _ _ he3) (by rw [hz3.1]; exact q)
      have S3 := J3.suite he3 hd3 na nL nF
      have test : ∀ {x : Str} {c : Value} {np : Pos} {Q : Value → Shared → Prop} {E : Value → Shared → Prop}, Names X x c → Q c { s' with heap := h3 } → wpAny (model X.prog X.w) (X.A.mark (some (.ref a))) (eval (.Name x np) X.env) Q E { s' with heap := h3 } := fun {x c np Q E} hc q => by
        obtain ⟨hg, hdbg, hm | ⟨hm, hv, hnn⟩⟩ := hc
        · exact ld_glob (X := X.suite a ((a, oe3) :: (X.pn ++ pins))) S3 hg hm q hdbg
        · exact ld_blt (X := X.suite a ((a, oe3) :: (X.pn ++ pins))) S3 hg hm hv q hnn hdbg
      induction hk with
      | nil =>
        intro w
        refine wpAny_handleBy_nil ?_
        obtain ⟨k1, k2, k3, oe, vs, T, oT, ts', he, hz, hd, h1, hr⟩ := id fl3
        unfold PySem.passOn
        refine wpAny_bind (wpAny_field he hd h1 ?_)
        rw [if_neg (show ¬ ((Value.ref T == Value.none) = true) from by simp)]
        have fin : wpAny (model X.prog X.w) X.A (setFlight (.ref a) X.env.frame) (fun _ s4 => wpAny (model X.prog X.w) X.A (throw (.ref a) : Sem Flow) (SP X pins D) X.xe s4) X.xe { s' with heap := h3 } := by
          rw [hf]
          refine HandSPX.setFlight_upZ fl3 fun h4 hh4 up4 => wpAny_throw (tk _ _ ?_)
          exact ⟨a, B, sI, pins, σ', H', cls, d, rfl, J, nb, (up.trans up3).trans up4, .inr (.inr (by rw [hs]; exact hh4)), na, os, ag, w⟩
        first
          | exact wpAny_bind (wpAny_pure (wpAny_bind fin))
          | exact wpAny_bind fin
      | @only x c ts b₀ suite np pos' hds2 l2 hc hsu r ih =>
        intro w
        obtain ⟨b, hb1, hyes, hno⟩ := w
        refine wpAny_handleBy_cons (codeAny_handlers_test ?_) (by intro q; cases q)
        have LM := PySem.W.exm_one (M := model X.prog X.w) (J3.kIn) LT hb1
        refine test hc (LM.here ?_)
        cases b with
        | true =>
          refine codeAny_handlers_suite ?_
          refine HandSPX.lands_againZ fl3 fun h4 fl4 up4 => ?_
          have J4 : Inv X pins σ' H' { s' with heap := h4 } := J.landed nb fl4.1 ((up.trans up3).trans up4) os ag
          obtain ⟨oe4, vs4, he4, hz4, hd4⟩ := fl4.there
          have S4 := inv_suiteX J4 he4 hd4 na n0 nL npn
          refine wpAny_mono ((hsu a (X.pn ++ pins)).run [] _ _ _ _ S4 (hyes rfl a oe4 na hz4 ⟨_, hd4⟩)) (fun f s6 hsp => ?_) (fun _ _ z => False.elim z)
          cases f with
          | ret u =>
            obtain ⟨v6, σ6, H6, S6, r6, q6⟩ := hsp
            exact ⟨_, _, _, inv_unsuiteX S6 ok, r6, q6⟩
          | _ =>
            obtain ⟨σ6, H6, S6, q6⟩ := hsp
            exact ⟨_, _, inv_unsuiteX S6 ok, q6⟩
        | false =>
          show wpAny _ X.A (handleBy (.ref a) X.env hds2) _ _ _
          exact ih (hno rfl)
      | @as_ x n c i ts b₀ suite np pos' hds2 l2 hc hi hln hsu r ih =>
        intro w
        obtain ⟨b, hb1, hyes, hno⟩ := w
        refine wpAny_handleBy_cons (codeAny_handlers_test ?_) (by intro q; cases q)
        have LM := PySem.W.exm_one (M := model X.prog X.w) (J3.kIn) LT hb1
        refine test hc (LM.here ?_)
        cases b with
        | true =>
          have hloc : Loc X.env.scope n := .inl hln
          refine codeAny_handlers_suite_as (HandSPX.lands_againZ fl3 fun h4 fl4 up4 => ?_)
          have J4 : Inv X pins σ' H' { s' with heap := h4 } := J.landed nb fl4.1 ((up.trans up3).trans up4) os ag
          obtain ⟨oe4, vs4, he4, hz4, hd4⟩ := fl4.there
          have S4 := inv_suiteX J4 he4 hd4 na n0 nL npn
          refine store_ok (X := X.suite a (X.pn ++ pins)) (v := .ref a) S4 hN hi hloc rfl (fun s5 S5 => ?_) (.inr hln)
          refine wpAny_mono ((hsu a (X.pn ++ pins)).run [] s5 _ _ _ S5 (hyes rfl a oe4 na hz4 ⟨_, hd4⟩)) (fun f s6 hsp => ?_) (fun _ _ z => False.elim z)
          cases f with
          | ret u =>
            obtain ⟨v6, σ6, H6, S6, r6, q6⟩ := hsp
            exact gone_ok (inv_unsuiteX S6 ok) hN hi hln fun s7 J7 => ⟨_, _, _, J7, r6, q6⟩
          | _ =>
            obtain ⟨σ6, H6, S6, q6⟩ := hsp
            exact gone_ok (inv_unsuiteX S6 ok) hN hi hln fun s7 J7 => ⟨_, _, J7, q6⟩
        | false =>
          show wpAny _ X.A (handleBy (.ref a) X.env hds2) _ _ _
          exact ih (hno rfl)
    exact go hh w
  · cases f with
    | next =>
      obtain ⟨σ', H', J', q⟩ := hsp
      exact wpAny_execs_nil ⟨σ', H', J'.ofTry ok, q⟩
    | brk =>
      obtain ⟨σ', H', J', q⟩ := hsp
      exact ⟨σ', H', J'.ofTry ok, q⟩
    | cont =>
      obtain ⟨σ', H', J', q⟩ := hsp
      exact ⟨σ', H', J'.ofTry ok, q⟩
    | ret u =>
      obtain ⟨v, σ', H', J', r, q⟩ := hsp
      exact ⟨v, σ', H', J'.ofTry ok, r, q⟩
end
end Dg

namespace Dg
open PySem PySem.Spec PyProof.Rows L2
/-! ### try with any clauses, in the layer -/
def xD (x : Exn) : D := .dict ((.none, .tuple [.str x.cls]) :: x.flds)
def delO (i : Nat) : Out → Out
  | .nx r => .nx (r.set i none)
  | .ret d r => .ret d r
  | _ => .stk
abbrev Hnd := (Str → Option Bool) × Option Nat × (Env → Out)
def hands : List Hnd → Exn → Env → Out
  | [], x, r => .exc x r
  | (tab, nm, g) :: rest, x, r => match tab x.cls with
    | some true => (match nm with
      | none => noX g r
      | some i => if i < r.length then delO i (noX g (r.set i (some (xD x)))) else .stk)
    | some false => hands rest x r
    | none => .stk
def tryG (hs : List Hnd) (body : Env → Out) : Env → Out := fun ρ => match body ρ with
  | .exc x r => hands hs x r
  | o => o
inductive DH (X : Cx) (C : Cfg) (owh ow' : List Nat) : List ExceptHandler → List Hnd → Prop
  | nil : DH X C owh ow' [] []
  | only {x : Str} {cv : Value} {tab : Str → Option Bool} {g : Env → Out} {b₀ : Stmt} {suite : List Stmt} {np pos' : Pos} {hds : List ExceptHandler} {l : List Hnd} (hc : Names X x cv)
      (htab : ∀ nm A b, X.mg nm = some (.ref A) → tab nm = some b → PySem.W.exmOne X.K (.ref A) cv = some b)
      (hsu : ∀ (a : Addr) (pn : List (Addr × Obj)), DSs (X.suite a pn) noW C owh ow' (b₀ :: suite) g) (r : DH X C owh ow' hds l) : DH X C owh ow' (.ExceptHandler (some (.Name x np)) none (b₀ :: suite) pos' :: hds) ((tab, none, g) :: l)
  | as_ {x n : Str} {cv : Value} {i : Nat} {tab : Str → Option Bool} {g : Env → Out} {b₀ : Stmt} {suite : List Stmt} {np pos' : Pos} {hds : List ExceptHandler} {l : List Hnd} (hc : Names X x cv) (hi : X.N[i]? = some n) (hln : X.env.kindOf n = some .local)
      (htab : ∀ nm A b, X.mg nm = some (.ref A) → tab nm = some b → PySem.W.exmOne X.K (.ref A) cv = some b) (h2 : disL [i] owh = true) (h3 : disL [i] ow' = true) (hio : disL [i] (C.io ++ C.pl) = true)
      (hsu : ∀ (a : Addr) (pn : List (Addr × Obj)), DSs (X.suite a pn) noW C (i :: owh) ow' (b₀ :: suite) g) (r : DH X C owh ow' hds l) : DH X C owh ow' (.ExceptHandler (some (.Name x np)) (some n) (b₀ :: suite) pos' :: hds) ((tab, some i, g) :: l)
section
variable {X : Cx} {W : WX} {C : Cfg} {ow ow' owh : List Nat} {f : Env → Out} {pos : Pos}
/-- the caught exception comes to its slot -/
theorem xn_sta {H0 : Hp} {M0 : Addr → Prop} {pn : Nat → Option V} {σ : L2.St} {ρ : Env} {H : Hp} {As : Nat → List Addr} {a i : Nat} {oe : Obj} {Ca : Addr} {dd : Option Addr} {x : Exn} {A : List Addr} (S : Sta X.K X.mg H0 M0 pn owh σ ρ H As) (rx : RepX X.K X.mg H (.ref Ca) dd x A) (fx : ∀ b ∈ A, (H0 b = none ∨ M0 b) ∧ ∀ j, b ∉ As j)
    (na : H a = none) (hz : Zc (.ref Ca) dd oe) (hf : ∃ vs, oe.data = .fields vs) (pi : pn i = none) :
    ∃ As', Sta X.K X.mg H0 M0 pn (i :: owh) (σ.set i (some (.ref a))) (ρ.set i (some (xD x))) (upd H a (.frz oe xcell)) As' := by
  have sm : Same H (upd H a (.frz oe xcell)) := same_upd na
  obtain ⟨C1, e1, hm, hd⟩ := rx
  cases e1
  have rt : Rep X.K X.mg (upd H a (.frz oe xcell)) true (.ref a) (xD x) A ∧ A.Nodup := by
    unfold xD
    cases dd with
    | none =>
      rw [show x.flds = [] from hd.1, show A = [] from hd.2]
      refine ⟨.exn (fs := []) ⟨oe, upd_same, hz.1, hf, ?_⟩ hm .nil, List.nodup_nil⟩
      rw [hz.2]
    | some d =>
      obtain ⟨⟨fs, ha, rf⟩, nd, _⟩ := hd
      refine ⟨.exn (fs := fs) ⟨oe, upd_same, hz.1, hf, ?_⟩ hm (rf.fr (M := fun _ => False) (Fr.of_same sm) fun _ _ z => z), nd⟩
      rw [hz.2]
      exact sm _ _ ha
  refine ⟨_, (S.same sm).put (ow' := i :: owh) rt.1 pi (fun _ => ⟨rt.2, fun b hb => (fx b hb).1, fun b hb j => (fx b hb).2 j⟩) (fun j' hj' hne b hb hb2 => (fx b hb2).2 j' hb) (fun j' hj' hne => ?_) (fun _ => rfl)⟩
  rcases List.mem_cons.mp hj' with w | w
  · exact absurd w hne
  · exact w
open Classical in
theorem ds_tryG {body : List Stmt} {h₀ : ExceptHandler} {hds : List ExceptHandler} {l : List Hnd} (owh : List Nat) (hs : X.stack = X.env :: X.outer) (hf : X.env.frame = some X.env.locals) (hN : X.N.Nodup) (hex : X.ex = []) (tk : Takes X W)
    (hb : ∀ (W' : WX) (pn : List (Addr × Obj)) (xe : Value → Shared → Prop), Takes (X.tr pn xe) W' → PassesOwn (model X.prog X.w) X.A X.env xe → DSs (X.tr pn xe) W' { C with owx := owh } ow ow' body f)
    (hh : DH X C owh ow' (h₀ :: hds) l) (h1 : subL C.owx owh = true) :
    DS X W C ow ow' (.Try body (h₀ :: hds) [] [] pos) (tryG l f) := by
  let tb : WX → TS := fun W' D σ H => ∀ pn xe h1 h2, (hb W' pn xe h1 h2).choose D σ H
  -- the clauses, one by one
  have cl : ∀ {hds' : List ExceptHandler} {l' : List Hnd}, DH X C owh ow' hds' l' → ∃ L, HdG X hds' L ∧
      ∀ H0 M0 pn Dn, PinOk C pn → ∀ x Ca dd σ r H As A, Sta X.K X.mg H0 M0 pn owh σ r H As → RepX X.K X.mg H (.ref Ca) dd x A → (∀ b ∈ A, (H0 b = none ∨ M0 b) ∧ ∀ j, b ∉ As j) → Post X W C H0 M0 pn ow' Dn (hands l' x r) → wG X.K W Dn L (.ref Ca) dd σ H := by
    intro hds' l' hk
    induction hk with
    | nil => exact ⟨[], .nil, fun H0 M0 pn Dn hp x Ca dd σ r H As A S rx fx z => z _ dd σ H As A (S.less (subL_mem h1)) rx fx⟩
    | @only x cv tab g b₀ suite np pos' hds2 l2 hc htab hsu r ih =>
      obtain ⟨L, hL, q⟩ := ih
      refine ⟨_, .only (ts := fun a D σ H => ∀ pn, (hsu a pn).choose D σ H) hc (fun a pn => pss_imp (hsu a pn).choose_spec.1 fun D σ H z => z pn) hL, fun H0 M0 pn Dn hp x Ca dd σ r H As A S rx fx z => ?_⟩
      have rx0 := rx
      obtain ⟨C1, e1, hm, hd⟩ := rx
      cases e1
      unfold hands at z
      cases ht : tab x.cls with
      | none =>
        rw [ht] at z
        exact z.elim
      | some b =>
        rw [ht] at z
        refine ⟨b, htab _ _ _ hm ht, fun hbt a oe na hz hfl => ?_, fun hbf => ?_⟩
        · subst hbt
          intro pn2
          exact (hsu a pn2).choose_spec.2 H0 M0 pn σ _ _ As Dn hp (S.same (same_upd na)) (noX_post rfl rfl z)
        · subst hbf
          exact q H0 M0 pn Dn hp x Ca dd σ _ H As A S rx0 fx z
    | @as_ x n cv i tab g b₀ suite np pos' hds2 l2 hc hi hln htab h2 h3 hio hsu r ih =>
      obtain ⟨L, hL, q⟩ := ih
      refine ⟨_, .as_ (ts := fun a D σ H => ∀ pn, (hsu a pn).choose D σ H) hc hi hln (fun a pn => pss_imp (hsu a pn).choose_spec.1 fun D σ H z => z pn) hL, fun H0 M0 pn Dn hp x Ca dd σ r H As A S rx fx z => ?_⟩
      have rx0 := rx
      obtain ⟨C1, e1, hm, hd⟩ := rx
      cases e1
      unfold hands at z
      have pi : pn i = none := hp i (disL_mem hio i List.mem_cons_self)
      have hi2 := disL_mem h3 i List.mem_cons_self
      cases ht : tab x.cls with
      | none =>
        rw [ht] at z
        exact z.elim
      | some b =>
        rw [ht] at z
        refine ⟨b, htab _ _ _ hm ht, fun hbt a oe na hz hfl => ?_, fun hbf => ?_⟩
        · subst hbt
          intro pn2
          dsimp only at z
          by_cases hlt : i < r.length
          · rw [if_pos hlt] at z
            obtain ⟨As', S'⟩ := xn_sta (i := i) S rx0 fx na hz hfl pi
            refine (hsu a pn2).choose_spec.2 H0 M0 pn _ _ _ As' (delE i Dn) hp S' (noX_post (W := W) rfl rfl ?_)
            cases hg : noX g (r.set i (some (xD x))) with
            | nx r' =>
              rw [hg] at z
              exact fun σ3 H3 As3 S3 => z _ _ _ (S3.junk hi2 pi none)
            | ret d r' =>
              rw [hg] at z
              exact z
            | brk r' =>
              rw [hg] at z
              exact z.elim
            | cnt r' =>
              rw [hg] at z
              exact z.elim
            | exc y r' =>
              rw [hg] at z
              exact z.elim
            | stk =>
              rw [hg] at z
              exact z.elim
          · rw [if_neg hlt] at z
            exact z.elim
        · subst hbf
          exact q H0 M0 pn Dn hp x Ca dd σ _ H As A S rx0 fx z
  obtain ⟨L, hL, q⟩ := cl hh
  refine ⟨_, ps_try_gen (tb := tb) hs hf hN hex tk (fun W' pn xe h1 h2 => pss_imp (hb W' pn xe h1 h2).choose_spec.1 fun D σ H z => z pn xe h1 h2) hL, fun H0 M0 pn σ ρ H As Dn hp S z => ?_⟩
  intro pn' xe' k1 k2
  refine (hb _ pn' xe' k1 k2).choose_spec.2 H0 M0 pn σ ρ H As Dn hp S ?_
  unfold tryG at z
  cases hfr : f ρ with
  | exc x r =>
    rw [hfr] at z
    intro c dd σ' H' As' A S' rx fx
    have rx0 := rx
    obtain ⟨Ca, rfl, hm, _⟩ := rx
    exact q H0 M0 pn Dn hp x Ca dd σ' r H' As' A S' rx0 fx z
  | _ =>
    rw [hfr] at z
    exact z
end
end Dg

namespace Dg
open PySem PySem.Spec PyProof.Rows L2
/-! ### isinstance of an exception's tree; its fields -/
def rIsX (K : PySem.W.Frag) : List V → Hp → VK → Prop := fun xs H Q => ∃ (a D : Addr) (fs : List (Str × V)) (c : V) (cv : Value) (b : Bool), xs = [.ref a, c] ∧ XH H a D fs ∧ ExcC K D ∧ (∀ u, RelV c u → u = cv) ∧ PySem.W.kitOne K (.ref D) cv = some b ∧ Q (.bl b) H
theorem call_isX {X : Cx} : CallR X (.builtin "isinstance") (rIsX X.K) := by
  intro pins s σ H xs us Q I r h
  obtain ⟨a, D, fs, c, cv, b, rfl, hx, C, hcv, e, q⟩ := h
  obtain ⟨oe, hfz, hcls, hfl, hdct⟩ := hx
  cases r with
  | cons rx rr =>
    cases rr with
    | cons rt rr =>
      cases rr
      cases rx
      have ec := hcv _ rt
      subst ec
      have hget : s.heap.get? a = some oe := (I.hok a _ hfz).1
      obtain ⟨vs, hv⟩ := hfl
      have J : ∃ od, PySem.W.InstAt s.heap a oe D od := by
        cases hd : oe.dict with
        | none => exact ⟨none, hget, hcls, by unfold PySem.W.notCls; rw [hv] <;> rfl, by rw [hd]; trivial⟩
        | some dd =>
          rw [hd] at hdct
          have hx : ObjOk X.prog X.w H s.heap dd (.xd fs) := I.hok dd _ hdct
          obtain ⟨mA, hns, hr⟩ := hx
          obtain ⟨od, ho, _⟩ := lookIn_ns hns
          exact ⟨some od, hget, hcls, by unfold PySem.W.notCls; rw [hv] <;> rfl, by rw [hd]; exact ho⟩
      obtain ⟨od, J⟩ := J
      exact PySem.W.kia_one (PySem.W.dg_kitx (od := od) C) I.kIn J e (fun z => nomatch z) fun tk => ⟨.bl b, H, I.kept (t' := tk) fun _ _ z => z, rfl, q⟩
def dIsx (tab : Str → Option Bool) (x : D) : R D := match x with
  | .dict ((.none, .tuple [.str nm]) :: _) => (match tab nm with
    | some b => .ok (.bool b)
    | none => .stk)
  | _ => .stk
theorem exn_inv {K : PySem.W.Frag} {mg : Str → Option Value} {H : Hp} {o : Bool} {v : V} {nm : Str} {ds : List (D × D)} {A : List Addr} (r : Rep K mg H o v (.dict ((.none, .tuple [.str nm]) :: ds)) A) : ∃ a C fs, v = .ref a ∧ XH H a C fs ∧ mg nm = some (.ref C) ∧ RepF K mg H o fs ds A := by
  generalize ed : PyData.dict ((.none, .tuple [.str nm]) :: ds) = w at r
  cases r with
  | exn h1 h2 l1 =>
    injection ed with e1
    injection e1 with e2 e3
    injection e2 with e4 e5
    injection e5 with e6
    injection e6 with e7 e8
    injection e7 with e9
    subst e9 e3
    exact ⟨_, _, _, rfl, h1, h2, l1⟩
  | ins h1 h2 l1 =>
    injection ed with e1
    injection e1 with e2 e3
    injection e2 with e4 e5
    cases e5
  | lstF h1 l1 =>
    injection ed with e1
    injection e1 with e2 e3
    injection e2 with e4 e5
    cases e5
  | dct h1 l1 =>
    injection ed with e1
    subst e1
    exact (repP_tag l1).elim
  | dctF h1 l1 =>
    injection ed with e1
    subst e1
    exact (repP_tag l1).elim
  | _ => cases ed
section
variable {X : Cx} {W : WX} {ow ms : List Nat} {k1 : Kd} {a e : Expr} {d1 : Env → R D} {pos p p3 : Pos} {T : Str} {tab : Str → Option Bool}
theorem isx_good {te : TE} (q1 : ∀ σ ρ H As Q, On X ow σ ρ H As → Good X W σ ow k1 H As (d1 ρ) Q → te σ H Q) {cv : Value} {c : V} (hcv : ∀ u, RelV c u → u = cv)
    (hX : ∀ nm A b, tab nm = some b → X.mg nm = some (.ref A) → ExcC X.K A ∧ PySem.W.kitOne X.K (.ref A) cv = some b)
    {σ : L2.St} {ρ : Env} {H : Hp} {As : Nat → List Addr} {Q : VK} (S : On X ow σ ρ H As) (q : Good X W σ ow (.own []) H As (b1 (dIsx tab) d1 ρ) Q) : te σ H fun x H1 => rIsX X.K [x, c] H1 Q := by
  refine q1 σ ρ H As _ S ?_
  unfold b1 at q
  cases e1 : d1 ρ with
  | stk =>
    rw [e1] at q
    exact q
  | exc x =>
    rw [e1] at q
    exact q
  | ok dx =>
    rw [e1, R.bind_ok] at q
    intro x H1 A s1 rx _
    unfold dIsx at q
    split at q
    · rename_i nm ds
      split at q
      · rename_i b hb
        obtain ⟨a, C, fs, rfl, hx, hm, _⟩ := exn_inv rx
        obtain ⟨hC, hk⟩ := hX _ _ _ hb hm
        exact ⟨a, C, fs, c, cv, b, rfl, hx, hC, hcv, hk, q (.bl b) H1 [] s1 (.bl b) nil_own⟩
      · exact q.elim
    · exact q.elim
theorem de_isx {B : Addr} (h1 : DE X W ow k1 a d1) (hm : X.mg "isinstance" = none) (hmT : X.mg T = some (.ref B)) (hX : ∀ nm A b, tab nm = some b → X.mg nm = some (.ref A) → ExcC X.K A ∧ PySem.W.kitOne X.K (.ref A) (.ref B) = some b)
    (hg : Gl X "isinstance" := by rfl) (hgT : Gl X T := by rfl) (hdT : (T == ("__debug__" : Str)) = false := by decide)
    (hs : starEach [a, .Name T p3] X.env = (false, eval a X.env) :: starEach [.Name T p3] X.env := by rfl) (hs2 : starEach [.Name T p3] X.env = (false, eval (.Name T p3) X.env) :: starEach [] X.env := by rfl) (hpl : (backTo pos (starEach [.Name T p3] X.env)).any (·.1) = false := by rfl) :
    DE X W ow (.own []) (.Call (.Name "isinstance" p) [a, .Name T p3] [] pos) (b1 (dIsx tab) d1) := by
  obtain ⟨ta, p1, q1⟩ := h1
  exact ⟨_, pe_callB call_isX hg hm (by decide +kernel) (pa_cons p1 (pa_cons (pe_glob (v := .ref B) hgT hmT rfl hdT) pa_nil hs2) hs) (by decide) (by decide) hs hpl, fun σ ρ H As Q S q => isx_good (c := .ref B) (cv := .ref B) q1 (fun u r => r) hX S q⟩
theorem de_isxT {n : String} (h1 : DE X W ow k1 a d1) (hm : X.mg "isinstance" = none) (hmT : X.mg T = none) (hvT : bootBuiltins T = some (.type n)) (hX : ∀ nm A b, tab nm = some b → X.mg nm = some (.ref A) → ExcC X.K A ∧ PySem.W.kitOne X.K (.ref A) (.type n) = some b)
    (hg : Gl X "isinstance" := by rfl) (hgT : Gl X T := by rfl) (hnT : T ≠ "__name__" := by decide) (hdT : (T == ("__debug__" : Str)) = false := by decide)
    (hs : starEach [a, .Name T p3] X.env = (false, eval a X.env) :: starEach [.Name T p3] X.env := by rfl) (hs2 : starEach [.Name T p3] X.env = (false, eval (.Name T p3) X.env) :: starEach [] X.env := by rfl) (hpl : (backTo pos (starEach [.Name T p3] X.env)).any (·.1) = false := by rfl) :
    DE X W ow (.own []) (.Call (.Name "isinstance" p) [a, .Name T p3] [] pos) (b1 (dIsx tab) d1) := by
  obtain ⟨ta, p1, q1⟩ := h1
  exact ⟨_, pe_callB call_isX hg hm (by decide +kernel) (pa_cons p1 (pa_cons (pe_bltn (v := .ty n) hgT hmT hvT rfl hnT hdT) pa_nil hs2) hs) (by decide) (by decide) hs hpl, fun σ ρ H As Q S q => isx_good (c := .ty n) (cv := .type n) q1 (fun u r => r) hX S q⟩
end
/-! ### e.f -/
theorem repF_one {K : PySem.W.Frag} {mg : Str → Option Value} {H : Hp} {o : Bool} {f : Str} {d : D} {fs : List (Str × V)} {A : List Addr} (r : RepF K mg H o fs [(.str f, d)] A) : ∃ v, fs.lookup f = some v ∧ Rep K mg H o v d A := by
  cases r with
  | @cons _ k v _ fs2 _ A1 B1 rv rr =>
    cases rr
    rw [List.append_nil]
    exact ⟨v, by simp [List.lookup], rv⟩
/-- the one field of an exception; what is not as G asks is not served -/
def dAtx (sv : Str → Bool) (f : Str) (G : D → Bool) (x : D) : R D := match x with
  | .dict ((.none, .tuple [.str nm]) :: ds) => (match fldR f sv G ⟨nm, ds⟩ with
    | .ok d => .ok d
    | _ => .stk)
  | _ => .stk
theorem dAtx_exc {sv : Str → Bool} {f : Str} {G : D → Bool} {x : D} {z : Exn} : dAtx sv f G x ≠ .exc z := by
  intro h
  unfold dAtx at h
  split at h
  · split at h <;> cases h
  · cases h
theorem dAtx_run {K : PySem.W.Frag} {mg : Str → Option Value} {H : Hp} {o : Bool} {v : V} {A : List Addr} {sv : Str → Bool} {f : Str} {G : D → Bool} {x d : D} (r : Rep K mg H o v x A) (h : dAtx sv f G x = .ok d) :
    ∃ nm a C fs u B, v = .ref a ∧ sv nm = true ∧ mg nm = some (.ref C) ∧ XH H a C fs ∧ fs.lookup f = some u ∧ Rep K mg H o u d B ∧ B.Sublist A := by
  unfold dAtx at h
  split at h
  · rename_i nm ds
    split at h
    · rename_i d' hd
      cases h
      obtain ⟨e1, e2, _⟩ := fldR_inv hd
      dsimp only at e1 e2
      subst e1
      obtain ⟨a, C, fs, rfl, hx, hm, rf⟩ := exn_inv r
      obtain ⟨u, l, ru⟩ := repF_one rf
      exact ⟨nm, a, C, fs, u, A, rfl, e2, hm, hx, l, ru, List.Sublist.refl _⟩
    · cases h
  · cases h
def tXfH (K : PySem.W.Frag) (f : Str) (te : TE) : TE := fun σ H Q => te σ H fun x H1 => ∃ (a C : Addr) (fs : List (Str × V)) (v : V), x = .ref a ∧ XH H1 a C fs ∧ XfC K C ∧ PySem.W.findIn K (.ref C) f = some none ∧ fs.lookup f = some v ∧ Q v H1
theorem pe_xfH {X : Cx} {e : Expr} {te : TE} {pos : Pos} {n : Str} (he : PE X e te) (hb : attributeBase e n X.env (eval e X.env) = eval e X.env := by rfl) : PE X (.Attribute e n pos) (tXfH X.K n te) := by
  refine ⟨fun pins s σ H Q I h => ?_⟩
  refine attr_of hb (thn (he.run pins s σ H _ I h) fun u s1 hh => ?_)
  obtain ⟨x, H1, I1, rx, a, C, fs, v, rfl, hx, T, hno, l, q⟩ := hh
  obtain rfl : u = Value.ref a := rx
  obtain ⟨oe, hfz, hcls, hfl, hdct⟩ := hx
  have ha : s1.heap.get? a = some oe := (I1.hok a _ hfz).1
  obtain ⟨vs, hd⟩ := hfl
  cases hdd : oe.dict with
  | none =>
    rw [hdd] at hdct
    rw [show fs = [] from hdct] at l
    cases l
  | some dd =>
    rw [hdd] at hdct
    have hx : ObjOk X.prog X.w H1 s1.heap dd (.xd fs) := I1.hok dd _ hdct
    obtain ⟨mA, hns, hr⟩ := hx
    obtain ⟨od, ho, hl⟩ := lookIn_ns hns
    obtain ⟨u, hu, ru⟩ := RelO.some_of (v := v) (o := mA n) (by rw [← l]; exact hr n)
    have J : PySem.W.InstAt s1.heap a oe C (some od) := ⟨ha, hcls, by unfold PySem.W.notCls; rw [hd] <;> rfl, by rw [hdd]; exact ho⟩
    exact HandSPX.exc_get I1.kIn J T.ga T.gg T.exC (PySem.W.findObj_own T.hdC hno rfl (by rw [hl, hu])) (handed_of ru) ⟨v, H1, I1.tok _, ru, q⟩
section
variable {X : Cx} {W : WX} {ow ms : List Nat} {k1 : Kd} {a e : Expr} {d1 : Env → R D} {pos : Pos} {f : Str} {sv : Str → Bool} {G : D → Bool}
theorem de_atx (h1 : DE X W ow k1 e d1) (hX : ∀ nm A, sv nm = true → X.mg nm = some (.ref A) → XfC X.K A ∧ PySem.W.findIn X.K (.ref A) f = some none) (hb : attributeBase e f X.env (eval e X.env) = eval e X.env := by rfl) :
    DE X W ow (.br k1.src) (.Attribute e f pos) (b1 (dAtx sv f G) d1) := by
  obtain ⟨ta, p1, q1⟩ := de_br h1
  refine ⟨_, pe_xfH p1 hb, fun σ ρ H As Q S q => q1 σ ρ H As _ S ?_⟩
  unfold b1 at q
  cases e1 : d1 ρ with
  | stk =>
    rw [e1] at q
    exact q
  | exc x =>
    rw [e1] at q
    exact q
  | ok dx =>
    rw [e1, R.bind_ok] at q
    intro v H1 A s1 rx ok
    cases e3 : dAtx sv f G dx with
    | exc x => exact absurd e3 dAtx_exc
    | stk =>
      rw [e3] at q
      exact q.elim
    | ok d =>
      rw [e3] at q
      obtain ⟨nm, b, C, fs, u, B, rfl, hs, hm, hx, l, ru, hB⟩ := dAtx_run rx.weak e3
      obtain ⟨T, hno⟩ := hX _ _ hs hm
      exact ⟨b, C, fs, u, rfl, hx, T, hno, l, q u H1 B s1 ru fun j hj hn c hc hb => ok j hj hn c hc (hB.subset hb)⟩
theorem de_atxO (h1 : DE X W ow (.own ms) e d1) (hX : ∀ nm A, sv nm = true → X.mg nm = some (.ref A) → XfC X.K A ∧ PySem.W.findIn X.K (.ref A) f = some none) (hb : attributeBase e f X.env (eval e X.env) = eval e X.env := by rfl) :
    DE X W ow (.own ms) (.Attribute e f pos) (b1 (dAtx sv f G) d1) := by
  obtain ⟨ta, p1, q1⟩ := h1
  refine ⟨_, pe_xfH p1 hb, fun σ ρ H As Q S q => q1 σ ρ H As _ S ?_⟩
  unfold b1 at q
  cases e1 : d1 ρ with
  | stk =>
    rw [e1] at q
    exact q
  | exc x =>
    rw [e1] at q
    exact q
  | ok dx =>
    rw [e1, R.bind_ok] at q
    intro v H1 A s1 rx ok
    cases e3 : dAtx sv f G dx with
    | exc x => exact absurd e3 dAtx_exc
    | stk =>
      rw [e3] at q
      exact q.elim
    | ok d =>
      rw [e3] at q
      obtain ⟨nm, b, C, fs, u, B, rfl, hs, hm, hx, l, ru, hB⟩ := dAtx_run rx e3
      obtain ⟨T, hno⟩ := hX _ _ hs hm
      exact ⟨b, C, fs, u, rfl, hx, T, hno, l, q u H1 B s1 ru ⟨ok.1.sublist hB, ok.2.1, fun c hc => ok.2.2 c (hB.subset hc)⟩⟩
end
end Dg

/-! Dg53: defs that call no def and raise nothing, called while an exception is handled. -/
namespace Dg
open PySem PySem.Spec PyProof.Rows L2
structure RoomC (k : Nat) (A : Around) : Prop where
  dpt : A.depth + 3 * k + 5 < recursionLimit
  unt : A.units + 16 * k + 200 < cLine
theorem roomC_of {k : Nat} {A : Around} (r : Room k A) : RoomC k A := ⟨r.dp, r.un⟩
theorem RoomC.mark {k : Nat} {A : Around} (r : RoomC k A) (h : Option Value) : RoomC k (A.mark h) := ⟨r.dpt, r.unt⟩
theorem RoomC.less {j k : Nat} {A : Around} (r : RoomC k A) (h : j ≤ k) : RoomC j A := ⟨by have := r.dpt; omega, by have := r.unt; omega⟩
theorem RoomC.under {k : Nat} {A : Around} (r : RoomC (k + 1) A) (env : PySem.Env) : RoomC k (A.deeper env) := by
  have d := r.dpt
  have u := r.unt
  refine ⟨?_, ?_⟩
  · show A.depth + 1 + 3 * k + 5 < _
    omega
  · show A.units + 3 + 16 * k + 200 < _
    omega
theorem RoomC.units {k : Nat} {A : Around} (r : RoomC k A) : A.units + 64 < cLine := by
  have u := r.unt
  omega
structure FnC (P : Program) (w : World) (K : PySem.W.Frag) (mg : Str → Option Value) (base : Heap) (k : Nat) (f : Addr) (fd : FuncData) (ps : List Str) (sp : Sp) : Prop where
  len : ∀ vs H Q, sp vs H Q E0 → vs.length = ps.length
  run : ∀ (A : Around) (outer : List PySem.Env) (s : Shared) (H : Hp) (args : Args) (us : List Value) (vs : List V) (Q : VK), RoomC k A → Env0 P w K mg base A outer s H → BindsTo s fd args (ps.zip us) → Vals vs us → sp vs H Q E0 →
    codeAny (model P w) A (.call (.ref f) args) (CR CX0 outer P w H s Q E0) s
abbrev cxC (P : Program) (w : World) (K : PySem.W.Frag) (mg : Str → Option Value) (base : Heap) (N : List Str) (qual : Str) (scope : Scope) (f : Addr) (cd : Value) (A : Around) (outer : List PySem.Env) (s : Shared) (H : Hp) : Cx :=
  { cxOf CX0 P w K mg base N qual scope f cd A outer s H E0 with calm := false }
theorem inv_startC {P : Program} {w : World} {K : PySem.W.Frag} {mg : Str → Option Value} {base : Heap} {N ps : List Str} {qual : Str} {scope : Scope} {f : Addr} {cd : Value} {A : Around} {outer : List PySem.Env} {s s1 : Shared} {H : Hp} {us : List Value} {vs : List V}
    (S : FnScope N ps scope) (e0 : Env0 P w K mg base A outer s H) (hl : vs.length = ps.length) (r : Vals vs us)
    (x : InCallC s s.heap.objs.size (bindL (envOfC qual scope s.heap.objs.size f cd).kindOf (ps.zip us) fun _ => none) (cellsFrom (s.heap.objs.size + 1) scope.names []) (bindC (envOfC qual scope s.heap.objs.size f cd).kindOf (ps.zip us) fun _ => none) s1) :
    Inv (cxC P w K mg base N qual scope f cd A outer s H) [] (L2.start N vs) H s1 := by
  have e1 : Env0 P w K mg base { A with handled := none } outer s H := ⟨e0.frames, e0.mod, e0.bs, e0.bsz, e0.funs, e0.frf, e0.hok, e0.bare⟩
  have J := inv_start (CX := CX0) (E := E0) (qual := qual) (cd := cd) (f := f) S rfl e1 hl r x
  have ok := J.ok
  have ok2 : (cxC P w K mg base N qual scope f cd A outer s H).Ok := ⟨ok.mod, ok.kind, ok.glob, ok.blt, ok.above, ok.inj, ok.has, ok.cab, (fun z => Bool.noConfusion (show false = true from z)), Around.frames_deeper e0.frames, ok.stk, ok.exf, ok.bs, ok.bsz, ok.noex, ok.exfs, ok.funs, ok.frf⟩
  exact ⟨ok2, J.os, J.bare, J.base, J.loc, J.cell, J.free, J.freeC, J.pin, J.hok, J.len⟩
theorem fnC_of {P : Program} {w : World} {K : PySem.W.Frag} {mg : Str → Option Value} {base : Heap} {x qual : Str} {st : Stmt} {f : Addr} {fd : FuncData} {N ps : List Str} {k : Nat} {sp : Sp} (F : Fun K x qual st f fd) (S : FnScope N ps (defScope st)) (len : ∀ vs H Q, sp vs H Q E0 → vs.length = ps.length)
    (hbody : ∀ (cdv : Value) (A : Around) (outer : List PySem.Env) (s : Shared) (H : Hp) (vs : List V) (Q : VK), RoomC k (A.deeper (envOfC qual (defScope st) s.heap.objs.size f cdv)) → sp vs H Q E0 →
      ∃ t, PSs (cxC P w K mg base N qual (defScope st) f cdv A outer s H).nox (defBody st) t ∧ t { nx := fun _ H' => Q .non H', rt := Q } (L2.start N vs) H) : FnC P w K mg base (k + 1) f fd ps sp := by
  obtain ⟨oc, od, kV, doc, pm, an, cdv, ct, osl, rfl, lk, hcd⟩ := F.ex
  refine ⟨len, fun A outer s H args us vs Q hr e0 hbi rv hsp => ?_⟩
  have hl := len _ _ _ hsp
  have KX : K.In s.heap := e0.mod.kin.keeps fun b o q => (e0.bs b o q).1
  have lim : s.heap.NoLimit := e0.mod.nolimit.keeps fun b o q => (e0.bs b o q).1
  have hk : ∀ y ∈ ps.zip us, (defScope st).names.lookup y.1 = some .local ∨ ((defScope st).names.lookup y.1 = some .cell ∧ ((cellsFrom (s.heap.objs.size + 1) (defScope st).names []).lookup y.1).isSome = true) := by
    rintro ⟨n, v⟩ hy
    rcases S.par n (List.of_mem_zip hy).1 with z | z
    · exact .inl z
    · exact .inr ⟨z, PySem.W.cellsFrom_some _ _ _ (.inl z)⟩
  have dp : A.depth < recursionLimit := by
    have := hr.dpt
    omega
  refine codeAny_call_function dp (KX _ _ lk) rfl S.co S.gen rfl (PySem.W.codeRec_of KX hcd) (hbi _ _ _ _ ?_)
  refine wpAny_newFunctionEnv_cells S.kind hk fun env he s1 y => ?_
  subst he
  refine ⟨lim.keeps y.toInCall.keep, codeAny_func ?_⟩
  obtain ⟨t, ht, hq⟩ := hbody cdv A outer s H vs Q (hr.under _) hsp
  have J : Inv (cxC P w K mg base N qual (defScope st) f cdv A outer s H) [] (L2.start N vs) H s1 := inv_startC S e0 hl rv y
  refine wpAny_mono (ht.nox.run [] s1 (L2.start N vs) H _ J hq) (fun fl s' hs => ?_) fun e s' z => z
  cases fl with
  | ret u =>
    obtain ⟨v, σ', H', J', rv', q⟩ := hs
    exact ⟨v, H', J'.os, J'.bare, J'.base, J'.hok, rv', q⟩
  | next =>
    obtain ⟨σ', H', J', q⟩ := hs
    exact ⟨.non, H', J'.os, J'.bare, J'.base, J'.hok, rfl, q⟩
  | brk =>
    obtain ⟨_, _, _, q⟩ := hs
    exact q.elim
  | cont =>
    obtain ⟨_, _, _, q⟩ := hs
    exact q.elim
theorem fnC_pure {P : Program} {w : World} {K : PySem.W.Frag} {mg : Str → Option Value} {base : Heap} {x qual : Str} {st : Stmt} {fa : Addr} {fd : FuncData} {N ps : List Str} {kk n m : Nat} {den : Env → Out} {f : List D → R D} (F : Fun K x qual st fa fd) (S : FnScope N ps (defScope st))
    (hf : ∀ ds, f ds = (runF n den ds).nox) (hn : N.length = n) (hm : ps.length = m)
    (hb : ∀ (cdv : Value) (A : Around) (outer : List PySem.Env) (s : Shared) (H : Hp), RoomC kk (A.deeper (envOfC qual (defScope st) s.heap.objs.size fa cdv)) → ∃ ow', DSs (cxC P w K mg base N qual (defScope st) fa cdv A outer s H).nox noW { io := [], owl := [], owx := [], pl := [] } [] ow' (defBody st) den) :
    FnC P w K mg base (kk + 1) fa fd ps (spD K mg m f) := by
  subst hn hm
  have ef : f = fun ds => (runF N.length den ds).nox := funext hf
  rw [ef]
  refine fnC_of F S (fun vs H Q h => ?_) (fun cdv A outer s H vs Q hr h => ?_)
  · obtain ⟨ds, A, _, hl, _⟩ := h
    exact hl
  · obtain ⟨ds, A', r, hl, z⟩ := h
    obtain ⟨ow', ts, p, q⟩ := hb cdv A outer s H hr
    refine ⟨ts, p, ?_⟩
    obtain ⟨As, S0⟩ := start_sta (N := N) r
    refine q H _ _ _ _ H As _ (fun _ _ => rfl) S0 ?_
    dsimp only at z
    unfold runF at z
    cases hd : den (startD N.length ds) with
    | nx r =>
      rw [hd] at z
      exact fun σ' H' As' S' => z .non H' [] (fun a o h => S'.fr a o h fun _ => id) .non List.nodup_nil fun b hb => by cases hb
    | ret d r =>
      rw [hd] at z
      exact fun v σ' H' As' A' S' rp nf => z v H' A' (fun a o h => S'.fr a o h fun _ => id) rp (nf rfl).1 fun b hb => ((nf rfl).2 b hb).1.resolve_right id
    | brk r =>
      rw [hd] at z
      exact z.elim
    | cnt r =>
      rw [hd] at z
      exact z.elim
    | exc x r =>
      rw [hd] at z
      exact z.elim
    | stk =>
      rw [hd] at z
      exact z
/-- the def x stands, and does as f, whatever is handled -/
def CalC (P : Program) (w : World) (K : PySem.W.Frag) (mg : Str → Option Value) (base : Heap) (x : Str) (k n : Nat) (f : List D → R D) : Prop :=
  ∃ (addr : Addr) (fd : FuncData) (ps : List Str), FnC P w K mg base k addr fd ps (spD K mg n f) ∧ mg x = some (.ref addr) ∧ PySem.W.keepIn K (.ref addr) = true ∧ Binds K fd ps []
section
variable {X : Cx} {W : WX} {ow : List Nat} {k : Kd} {e : Expr} {es : List Expr} {pos p : Pos}
theorem pe_callC {x : Str} {kk : Nat} {f : Addr} {fd : FuncData} {ps : List Str} {sp : Sp} {t : TA} (F : FnC X.prog X.w X.K X.mg X.base kk f fd ps sp) (hr : RoomC kk X.A) (hg : Gl X x) (hm : X.mg x = some (.ref f)) (hk : PySem.W.keepIn X.K (.ref f) = true) (hb : Binds X.K fd ps []) (ha : PA X (e :: es) t)
    (hdb : (x == ("__debug__" : Str)) = false := by decide) (he : starEach (e :: es) X.env = (false, eval e X.env) :: starEach es X.env := by rfl) (hpl : (backTo pos (starEach es X.env)).any (·.1) = false := by rfl) : PE X (.Call (.Name x p) (e :: es) [] pos) (tCall sp [] E0 t) := by
  refine ⟨fun pins s σ H Q J h => ?_⟩
  refine wpAny_Call_Name_kw (ld_glob J hg hm ?_ hdb)
  refine PySem.W.callWith_K (h₀ := X.base) J.ok.mod.kin hk (thn (ha.run pos pins s σ H _ J h) fun us s2 z => ?_) he hpl
  obtain ⟨vs, H2, J2, rv, q⟩ := z
  refine ⟨J2.kIn, ?_⟩
  rw [List.append_nil] at q
  have hl : us.length = ps.length := by
    rw [← rv.length]
    exact F.len _ _ _ q
  have b := hb s2 us J2.kIn (by rw [List.append_nil]; exact hl)
  rw [List.append_nil] at b
  refine wpAny_call (codeAny_mono (F.run X.A X.stack s2 H2 ⟨us, []⟩ us vs Q hr J2.env0 b rv q) fun rr s' hq => ?_)
  cases rr with
  | error e => exact hq.elim
  | ok fl =>
    cases fl with
    | ret u => exact J2.after hq
    | next => exact hq.elim
    | brk => exact hq.elim
    | cont => exact hq.elim
theorem de_callC {x : Str} {kk n : Nat} {f : List D → R D} {g : Env → R (List D)} (h : CalC X.prog X.w X.K X.mg X.base x kk n f) (hr : RoomC kk X.A) (ha : DA X W ow k n (e :: es) g) (hg : Gl X x := by rfl)
    (hdb : (x == ("__debug__" : Str)) = false := by decide) (he : starEach (e :: es) X.env = (false, eval e X.env) :: starEach es X.env := by rfl) (hpl : (backTo pos (starEach es X.env)).any (·.1) = false := by rfl) : DE X W ow (.own []) (.Call (.Name x p) (e :: es) [] pos) (callP f g) := by
  obtain ⟨addr, fd, ps, F, hm, hk, hb⟩ := h
  obtain ⟨ta, pa, q⟩ := ha
  exact ⟨_, pe_callC F hr hg hm hk hb pa hdb he hpl, fun σ ρ H As Q S z => sp_good (es := es) q S z⟩
end
end Dg

/-! Dg50: what a def is not handed stays out of its reach; defs that give back what they were handed. -/
namespace Dg
open PySem PySem.Spec PyProof.Rows L2
def insOf : HO → Option Addr
  | .ins _ dx _ => some dx
  | .frz _ u => insOf u
  | _ => none
theorem stay2 {P : Program} {w : World} {H H' : Hp} {h h' : Heap} {a : Addr} {o : HO} (x : ObjOk P w H h a o) (k : ∀ u, h.get? a = some u → h'.get? a = some u)
    (kd : ∀ dx, insOf o = some dx → H dx = some (.own a) → (∀ u, h.get? dx = some u → h'.get? dx = some u) ∧ H' dx = some (.own a)) (ht : ∀ b xs, H b = some (.tup xs) → H' b = some (.tup xs)) : ObjOk P w H' h' a o := by
  induction o with
  | ins C dx fs =>
    obtain ⟨d, z, ne, e, mA, ⟨od, es, ep, e2, c⟩, r⟩ := x
    obtain ⟨k1, k2⟩ := kd dx rfl d
    exact ⟨k2, z, ne, k _ e, mA, ⟨od, es, ep, k1 _ e2, c⟩, r⟩
  | frz ob u ih => obtain ⟨e, q⟩ := x; exact ⟨k _ e, ih q kd⟩
  | lst xs => obtain ⟨z, its, n, r, e⟩ := x; exact ⟨z, its, n, r, k _ e⟩
  | tup xs => obtain ⟨z, its, r, ob, e, c⟩ := x; exact ⟨z, its, r, ob, k _ e, c⟩
  | dK kvs => obtain ⟨z, y, vs, r, ob, es, ep, e, c⟩ := x; exact ⟨z, y, vs, r, ob, es, ep, k _ e, c⟩
  | dT kvs =>
    obtain ⟨z, y, xs, r, ob, es, ep, e, c⟩ := x
    exact ⟨z, y, xs, Paired.mapP r fun p q z => ⟨z.1, ht _ _ z.2.1, z.2.2⟩, ob, es, ep, k _ e, c⟩
  | set S n => obtain ⟨ob, es, ep, t, e, c⟩ := x; exact ⟨ob, es, ep, t, k _ e, c⟩
  | own y => obtain ⟨ob, e⟩ := x; exact ⟨ob, k _ e⟩
  | xd fs => obtain ⟨mA, ⟨od, es, ep, e, c⟩, r⟩ := x; exact ⟨mA, ⟨od, es, ep, k _ e, c⟩, r⟩
  | rng lo hi => obtain ⟨t, u, v, e⟩ := x; exact ⟨t, u, v, k _ e⟩
  | tbl ps =>
    have e : h.get? a = some { cls := .none, data := .fields ps } := x
    show h'.get? a = some { cls := .none, data := .fields ps }
    exact k _ e
  | met f y =>
    have e : h.get? a = some (PySem.W.methodObj (.ref f) (.ref y)) := x
    show h'.get? a = some (PySem.W.methodObj (.ref f) (.ref y))
    exact k _ e
  | ext φ => obtain ⟨p, ⟨o, e⟩, st⟩ := x; exact ⟨st _ _ p fun o q => k _ q, ⟨o, k _ e⟩, st⟩
/-- a part of the tracked things: all that never changes, but the dicts of the instances that are left out -/
structure Part (H Hs : Hp) : Prop where
  sub : ∀ a o, Hs a = some o → H a = some o
  keep : ∀ a o, H a = some o → isMut o = false → (∀ x, o ≠ .own x) → Hs a = some o
  own : ∀ a o dx, H a = some o → insOf o = some dx → H dx = some (.own a) → (Hs a = none ↔ Hs dx = none)
def Hid (H Hs : Hp) (b : Addr) : Prop := Hs b = none ∧ H b ≠ none
open Classical in
noncomputable def glue (H Hs H' : Hp) : Hp := fun b => if Hid H Hs b then H b else H' b
/-- what a def is not handed stays -/
def spF (sp : Sp) : Sp := fun vs H Q E => ∃ Hs, Part H Hs ∧ sp vs Hs (fun v H' => (∀ b, Hid H Hs b → H' b = none) → Q v (glue H Hs H')) E0
theorem glue_hid {H Hs H' : Hp} {b : Addr} (h : Hid H Hs b) : glue H Hs H' b = H b := if_pos h
theorem glue_not {H Hs H' : Hp} {b : Addr} (h : ¬ Hid H Hs b) : glue H Hs H' b = H' b := if_neg h
theorem Part.not_hid {H Hs : Hp} (p : Part H Hs) {b : Addr} {o : HO} (h : Hs b = some o) : ¬ Hid H Hs b := fun z => by
  rw [z.1] at h
  cases h
theorem Part.see {H Hs : Hp} (p : Part H Hs) {b : Addr} {o : HO} (h : H b = some o) (n : ¬ Hid H Hs b) : Hs b = some o := by
  cases e : Hs b with
  | none => exact absurd ⟨e, by rw [h]; intro z; cases z⟩ n
  | some u =>
    have := p.sub b u e
    rw [h] at this
    cases this
    rfl
theorem objOk_get {P : Program} {w : World} {H : Hp} {h : Heap} {a : Addr} {o : HO} (x : ObjOk P w H h a o) : ∃ ob, h.get? a = some ob := by
  cases o with
  | lst xs => obtain ⟨_, _, _, _, e⟩ := x; exact ⟨_, e⟩
  | tup xs => obtain ⟨z, its, r, ob, e, c⟩ := x; exact ⟨_, e⟩
  | dK kvs => obtain ⟨_, _, _, _, o, _, _, e, _⟩ := x; exact ⟨_, e⟩
  | dT kvs => obtain ⟨_, _, _, _, o, _, _, e, _⟩ := x; exact ⟨_, e⟩
  | set S n => obtain ⟨o, _, _, _, e, _⟩ := x; exact ⟨_, e⟩
  | ins C dx fs => obtain ⟨_, _, _, e, _⟩ := x; exact ⟨_, e⟩
  | own y => obtain ⟨_, e⟩ := x; exact ⟨_, e⟩
  | xd fs => obtain ⟨_, ⟨_, _, _, e, _⟩, _⟩ := x; exact ⟨_, e⟩
  | rng lo hi => obtain ⟨_, _, _, e⟩ := x; exact ⟨_, e⟩
  | frz ob u => obtain ⟨e, _⟩ := x; exact ⟨_, e⟩
  | tbl ps => exact ⟨_, (show h.get? a = some _ from x)⟩
  | met f y => exact ⟨_, (show h.get? a = some _ from x)⟩
  | ext φ => obtain ⟨_, ⟨_, e⟩, _⟩ := x; exact ⟨_, e⟩
theorem frame_ok {P : Program} {w : World} {K : PySem.W.Frag} {mg : Str → Option Value} {base : Heap} {k : Nat} {f : Addr} {fd : FuncData} {ps : List Str} {sp : Sp} (F : FnOk P w K mg base CX0 k f fd ps sp) : FnOk P w K mg base CX0 k f fd ps (spF sp) := by
  refine ⟨fun vs H Q E h => ?_, fun A outer s H args us vs Q E hr e0 hb rv h => ?_⟩
  · obtain ⟨Hs, _, h⟩ := h
    exact F.len _ _ _ _ h
  · obtain ⟨Hs, p, h⟩ := h
    have there : ∀ {b : Addr} {o : HO}, H b = some o → ∃ ob, s.heap.get? b = some ob := fun {b o} e => objOk_get (e0.hok b o e)
    have e0' : Env0 P w K mg base A outer s Hs := ⟨e0.frames, e0.mod, fun b o e => ⟨(e0.bs b o e).1, ?_⟩, e0.bsz, e0.funs, fun b hb => ?_, fun a o e => ?_, e0.bare⟩
    · refine codeAny_mono (F.run A outer s Hs args us vs _ E0 hr e0' hb rv h) fun r s' hr => ?_
      unfold CR at hr ⊢
      cases r with
      | error e => exact hr
      | ok fl =>
        cases fl with
        | ret u =>
          obtain ⟨v, H', os, ag, un, hok, ru, q⟩ := hr
          have hid : ∀ b, Hid H Hs b → H' b = none := fun b hb => by
            cases e : H b with
            | none => exact absurd e hb.2
            | some o =>
              obtain ⟨ob, ho⟩ := there e
              exact un.free b ob ho hb.1 (by simp)
          have nfr : ∀ b, Hid H Hs b → b ∉ frs outer := fun b hb hm => hb.2 (e0.frf b hm)
          refine ⟨v, glue H Hs H', os, ag, ⟨fun b o e n hf hx => ?_, fun b o e n hf hx => ?_, fun b o e n hx => ?_, un.there, fun b xs e => ?_, fun b o u e => ?_, fun b ps e => ?_⟩, fun a o e => ?_, ru, q hid⟩
          · refine un.keep b o e ?_ hf hx
            cases q : Hs b with
            | none => rfl
            | some u =>
              rw [p.sub b u q] at n
              cases n
          · refine un.slot b o e ?_ hf hx
            cases q : Hs b with
            | none => rfl
            | some u =>
              rw [p.sub b u q] at n
              cases n
          · have nh : ¬ Hid H Hs b := fun z => z.2 n
            rw [glue_not nh]
            refine un.free b o e ?_ hx
            cases q : Hs b with
            | none => rfl
            | some u =>
              rw [p.sub b u q] at n
              cases n
          · by_cases hb : Hid H Hs b
            · rw [glue_hid hb]
              exact e
            · rw [glue_not hb]
              exact un.tups b xs (p.see e hb)
          · by_cases hb : Hid H Hs b
            · rw [glue_hid hb]
              exact e
            · rw [glue_not hb]
              exact un.frzs b o u (p.see e hb)
          · by_cases hb : Hid H Hs b
            · exact ⟨#[], by rw [glue_hid hb, e]; simp⟩
            · rw [glue_not hb]
              exact un.tbls b ps (p.see e hb)
          · by_cases ha : Hid H Hs a
            · rw [glue_hid ha] at e
              refine stay2 (e0.hok a o e) (fun u q => un.keep a u q ha.1 (nfr a ha) (by simp)) (fun dx hd hb => ?_) fun b xs hb => ?_
              · have hdx : Hid H Hs dx := ⟨(p.own a o dx e hd hb).mp ha.1, by rw [hb]; intro z; cases z⟩
                exact ⟨fun u q => un.keep dx u q hdx.1 (nfr dx hdx) (by simp), by rw [glue_hid hdx]; exact hb⟩
              · by_cases hbH : Hid H Hs b
                · rw [glue_hid hbH]
                  exact hb
                · rw [glue_not hbH]
                  exact un.tups b xs (p.see hb hbH)
            · rw [glue_not ha] at e
              have nh : ∀ {b : Addr} {u : HO}, H' b = some u → ¬ Hid H Hs b := fun {b u} q z => by
                rw [hid b z] at q
                cases q
              exact (hok a o e).stay (fun _ _ _ q => q) (fun b hb => by rw [glue_not (nh hb)]; exact hb) fun b xs hb => by rw [glue_not (nh hb)]; exact hb
        | _ => exact hr
    · cases q : Hs b with
      | none => rfl
      | some u =>
        have := p.sub b u q
        rw [(e0.bs b o e).2] at this
        cases this
    · cases q : Hs b with
      | none => rfl
      | some u =>
        have := p.sub b u q
        rw [e0.frf b hb] at this
        cases this
    · refine stay2 (e0.hok a o (p.sub a o e)) (fun _ q => q) (fun dx hd hb => ⟨fun _ q => q, ?_⟩) fun b xs hb => p.keep b _ hb rfl fun x z => by cases z
      cases q : Hs dx with
      | none =>
        have := (p.own a o dx (p.sub a o e) hd hb).mpr q
        rw [e] at this
        cases this
      | some u =>
        have := p.sub dx u q
        rw [hb] at this
        cases this
        rfl
open Classical in
noncomputable def partOf (H : Hp) (A : List Addr) : Hp := fun b => match H b with
  | none => none
  | some (.own x) => if ∃ u, H x = some u ∧ isMut u = true ∧ x ∉ A then none else some (.own x)
  | some u => if isMut u = true ∧ b ∉ A then none else some u
theorem partOf_eq {H : Hp} {A : List Addr} {b : Addr} {o : HO} (h : H b = some o) (n : ∀ x, o ≠ .own x) : partOf H A b = if isMut o = true ∧ b ∉ A then none else some o := by
  unfold partOf
  rw [h]
  cases o with
  | own x => exact absurd rfl (n x)
  | _ => rfl
theorem partOf_own {H : Hp} {A : List Addr} {b x : Addr} (h : H b = some (.own x)) : partOf H A b = if ∃ u, H x = some u ∧ isMut u = true ∧ x ∉ A then none else some (.own x) := by
  unfold partOf
  rw [h]
theorem insOf_own {o : HO} {dx : Addr} (h : insOf o = some dx) : (∀ x, o ≠ .own x) := fun x z => by
  subst z
  cases h
theorem part_of {H : Hp} {A : List Addr} : Part H (partOf H A) where
  sub a o h := by
    cases e : H a with
    | none =>
      unfold partOf at h
      rw [e] at h
      cases h
    | some u =>
      by_cases n : ∃ x, u = .own x
      · obtain ⟨x, rfl⟩ := n
        rw [partOf_own e] at h
        split at h
        · cases h
        · exact h
      · rw [partOf_eq e fun x z => n ⟨x, z⟩] at h
        split at h
        · cases h
        · exact h
  keep a o h m n := by
    rw [partOf_eq h n, if_neg fun z => by rw [m] at z; cases z.1]
  own a o dx h hd hb := by
    rw [partOf_eq h (insOf_own hd), partOf_own hb]
    by_cases q : isMut o = true ∧ a ∉ A
    · rw [if_pos q, if_pos ⟨o, h, q⟩]
    · rw [if_neg q, if_neg]
      · exact ⟨fun z => (by cases z), fun z => (by cases z)⟩
      · rintro ⟨u, hu, q2⟩
        rw [h] at hu
        cases hu
        exact q q2
theorem partOf_in {H : Hp} {A : List Addr} {b : Addr} {o : HO} (h : H b = some o) (m : isMut o = true) (hb : b ∈ A) : partOf H A b = some o := by
  rw [partOf_eq h (fun x z => by subst z; cases m), if_neg fun z => z.2 hb]
section
variable {K : PySem.W.Frag} {mg : Str → Option Value} {H H' : Hp} {A0 : List Addr}
def Keeps0 (H H' : Hp) (A0 : List Addr) : Prop := ∀ b u, H b = some u → (∀ x, u ≠ .own x) → (isMut u = true → b ∈ A0) → H' b = some u
theorem keeps_part {A : List Addr} : Keeps0 H (partOf H A) A := fun b u h n m => by
  rw [partOf_eq h n, if_neg fun z => z.2 (m z.1)]
theorem Lf.keep0 {a : Addr} {xs : List V} (h : Lf K H a xs) (g : Keeps0 H H' A0) : Lf K H' a xs := by
  rcases h with ⟨o, h⟩ | h
  · exact .inl ⟨o, g a _ h (fun x z => by cases z) fun z => by cases z⟩
  · exact .inr h
theorem sqT_keep0 {a : Addr} {xs : List V} (h : SqT K H a xs) (g : Keeps0 H H' A0) : SqT K H' a xs := by
  rcases h with (h | ⟨o, h⟩) | h
  · exact .inl (.inl (g a _ h (fun x z => by cases z) fun z => by cases z))
  · exact .inl (.inr ⟨o, g a _ h (fun x z => by cases z) fun z => by cases z⟩)
  · exact .inr h
mutual
/-- all of a tree stands in its part -/
theorem Rep.keep0 (g : Keeps0 H H' A0) {o : Bool} {v : V} {d : D} {A : List Addr} : Rep K mg H o v d A → (∀ a ∈ A, a ∈ A0) → Rep K mg H' o v d A
  | .non, _ => .non
  | .bl b, _ => .bl b
  | .int i, _ => .int i
  | .str x, _ => .str x
  | .lst h r, n => .lst (g _ _ h (fun x z => by cases z) fun _ => n _ List.mem_cons_self) (r.keep0 g fun a ha => n a (List.mem_cons_of_mem _ ha))
  | .lstF h r, n => .lstF (h.keep0 g) (r.keep0 g n)
  | .tup h r, n => .tup (sqT_keep0 h g) (r.keep0 g n)
  | .dct h r, n => .dct (g _ _ h (fun x z => by cases z) fun _ => n _ List.mem_cons_self) (r.keep0 g fun a ha => n a (List.mem_cons_of_mem _ ha))
  | .dctF h r, n => .dctF (g _ _ h (fun x z => by cases z) fun z => by cases z) (r.keep0 g n)
  | .ins h q r, n => .ins (g _ _ h (fun x z => by cases z) fun _ => n _ List.mem_cons_self) q (r.keep0 g fun a ha => n a (List.mem_cons_of_mem _ ha))
  | .exn h q r, n => .exn (h.go fun b u e k => g b u e (fun x z => by rcases k with ⟨o, rfl⟩ | ⟨o, rfl⟩ <;> cases z) fun z => by rcases k with ⟨o, rfl⟩ | ⟨o, rfl⟩ <;> cases z) q (r.keep0 g n)
theorem RepL.keep0 (g : Keeps0 H H' A0) {o : Bool} {v : List V} {d : List D} {A : List Addr} : RepL K mg H o v d A → (∀ a ∈ A, a ∈ A0) → RepL K mg H' o v d A
  | .nil, _ => .nil
  | .cons h r, n => .cons (h.keep0 g fun a ha => n a (List.mem_append_left _ ha)) (r.keep0 g fun a ha => n a (List.mem_append_right _ ha))
theorem RepP.keep0 (g : Keeps0 H H' A0) {o : Bool} {v : List (Key × V)} {d : List (D × D)} {A : List Addr} : RepP K mg H o v d A → (∀ a ∈ A, a ∈ A0) → RepP K mg H' o v d A
  | .nil, _ => .nil
  | .cons h r, n => .cons (h.keep0 g fun a ha => n a (List.mem_append_left _ ha)) (r.keep0 g fun a ha => n a (List.mem_append_right _ ha))
theorem RepF.keep0 (g : Keeps0 H H' A0) {o : Bool} {v : List (Str × V)} {d : List (D × D)} {A : List Addr} : RepF K mg H o v d A → (∀ a ∈ A, a ∈ A0) → RepF K mg H' o v d A
  | .nil, _ => .nil
  | .cons h r, n => .cons (h.keep0 g fun a ha => n a (List.mem_append_left _ ha)) (r.keep0 g fun a ha => n a (List.mem_append_right _ ha))
end
end
/-- what is told may share with what was handed in -/
def spB (K : PySem.W.Frag) (mg : Str → Option Value) (n : Nat) (f : List D → R D) : Sp := fun vs H Q E => ∃ ds A, RepL K mg H false vs ds A ∧ vs.length = n ∧ (match f ds with
  | .ok d => ∀ v H' B, Same H H' → Rep K mg H' false v d B → (∀ b ∈ B, H b = none ∨ b ∈ A) → Q v H'
  | _ => False)
def CalB (P : Program) (w : World) (K : PySem.W.Frag) (mg : Str → Option Value) (base : Heap) (x : Str) (k n : Nat) (f : List D → R D) : Prop :=
  ∃ (addr : Addr) (fd : FuncData) (ps : List Str), FnOk P w K mg base CX0 k addr fd ps (spB K mg n f) ∧ mg x = some (.ref addr) ∧ PySem.W.keepIn K (.ref addr) = true ∧ Binds K fd ps []
theorem fnB_pure {P : Program} {w : World} {K : PySem.W.Frag} {mg : Str → Option Value} {base : Heap} {x qual : Str} {st : Stmt} {fa : Addr} {fd : FuncData} {N ps : List Str} {kk n m : Nat} {den : Env → Out} {f : List D → R D} (F : Fun K x qual st fa fd) (S : FnScope N ps (defScope st))
    (hf : ∀ ds, f ds = (runF n den ds).nox) (hn : N.length = n) (hm : ps.length = m)
    (hb : ∀ (cdv : Value) (A : Around) (outer : List PySem.Env) (s : Shared) (H : Hp) (E : XK), Room kk (A.deeper (envOfC qual (defScope st) s.heap.objs.size fa cdv)) → ∃ ow', DSs (cxOf CX0 P w K mg base N qual (defScope st) fa cdv A outer s H E).nox noW { io := [], owl := [], owx := [], pl := [], rb := true } [] ow' (defBody st) den) :
    FnOk P w K mg base CX0 (kk + 1) fa fd ps (spB K mg m f) := by
  subst hn hm
  have e : f = fun ds => (runF N.length den ds).nox := funext hf
  rw [e]
  refine (frame_ok (sp := fun vs H Q E => ∃ ds A, RepL K mg H false vs ds A ∧ vs.length = ps.length ∧ (match (runF N.length den ds).nox with
    | .ok d => ∀ v H' B, Same H H' → Rep K mg H' false v d B → Q v H'
    | _ => False)) (F.ok S (fun vs H Q E h => ?_) (fun cdv A outer s H vs Q E hr h => ?_))).imp fun vs H Q E h => ?_
  · obtain ⟨ds, A, _, hl, _⟩ := h
    exact hl
  · obtain ⟨ds, A', r, hl, z⟩ := h
    obtain ⟨ow', ts, p, q⟩ := hb cdv A outer s H E hr
    refine ⟨ts, p, ?_⟩
    obtain ⟨As, S0⟩ := start_sta (N := N) r
    refine q H _ _ _ _ H As _ (fun _ _ => rfl) S0 ?_
    unfold runF at z
    cases hd : den (startD N.length ds) with
    | nx r =>
      rw [hd] at z
      exact fun σ' H' As' S' => z .non H' [] (fun a o h => S'.fr a o h fun _ => id) .non
    | ret d r =>
      rw [hd] at z
      exact fun v σ' H' As' A' S' rp nf => z v H' A' (fun a o h => S'.fr a o h fun _ => id) rp
    | _ =>
      rw [hd] at z
      exact z.elim
  · obtain ⟨ds, A, r, hl, z⟩ := h
    dsimp only at z
    refine ⟨partOf H A, part_of, ds, A, r.keep0 keeps_part fun _ h => h, hl, ?_⟩
    cases hd : (runF N.length den ds).nox with
    | ok d =>
      rw [hd] at z
      intro v H' B sm rp hid
      have nh : ∀ {b : Addr} {u : HO}, H' b = some u → ¬ Hid H (partOf H A) b := fun {b u} q z => by
        rw [hid b z] at q
        cases q
      have smg : Same H' (glue H (partOf H A) H') := fun b u e => by
        rw [glue_not (nh e)]
        exact e
      refine z v _ B (fun b u e => ?_) (rp.same smg) fun b hb => ?_
      · by_cases hh : Hid H (partOf H A) b
        · rw [glue_hid hh]
          exact e
        · rw [glue_not hh]
          exact sm b u (part_of.see e hh)
      · obtain ⟨u, hu, mu⟩ := rp.on b hb
        cases e : H b with
        | none => exact .inl rfl
        | some u0 =>
          have h1 := part_of.see e (nh hu)
          have h2 := sm b u0 h1
          rw [hu] at h2
          cases h2
          refine .inr (Classical.byContradiction fun hn => ?_)
          rw [partOf_eq e (fun x z => by subst z; cases mu), if_pos ⟨mu, hn⟩] at h1
          cases h1
    | _ =>
      rw [hd] at z
      exact z.elim
section
variable {X : Cx} {W : WX} {C : Cfg} {ow ow' : List Nat} {k : Kd} {e : Expr} {es : List Expr} {den : Env → R D} {pos p : Pos}
/-- return, of what may be others' -/
theorem ds_retB (h1 : DE X W ow k e den) (hrb : C.rb = true) (hio : subL C.io ow = true) (hox : subL C.owx ow = true) : DS X W C ow ow' (.Return (some e) pos) (retS den) := by
  obtain ⟨te, p, q⟩ := de_br h1
  refine ⟨_, ps_ret p, fun H0 M0 pn σ ρ H As Dn hp S z => q σ ρ H As _ ⟨H0, M0, pn, S⟩ ?_⟩
  unfold retS at z
  cases hd : den ρ with
  | stk =>
    rw [hd] at z
    exact z
  | exc x =>
    rw [hd] at z
    exact fun c dd H' A sm rp fx => z c dd σ H' As A ((S.same sm).less (subL_mem hox)) rp (S.fx fx)
  | ok d =>
    rw [hd] at z
    intro v H1 A sm rp ok
    exact z v σ H1 As A ((S.same sm).less (subL_mem hio)) (by rw [hrb]; exact rp) fun e => by rw [hrb] at e; cases e
theorem de_callB2 {x : Str} {kk n : Nat} {f : List D → R D} {g : Env → R (List D)} (h : CalB X.prog X.w X.K X.mg X.base x kk n f) (hr : Room kk X.A) (ha : DA X W ow k n (e :: es) g) (hg : Gl X x := by rfl)
    (hdb : (x == ("__debug__" : Str)) = false := by decide) (he : starEach (e :: es) X.env = (false, eval e X.env) :: starEach es X.env := by rfl) (hpl : (backTo pos (starEach es X.env)).any (·.1) = false := by rfl) : DE X W ow (.br k.src) (.Call (.Name x p) (e :: es) [] pos) (callP f g) := by
  obtain ⟨addr, fd, ps, F, hm, hk, hb⟩ := h
  obtain ⟨ta, pa, q⟩ := ha
  refine ⟨_, pe_call F hr hg hm hk hb .nil pass0 pa hdb he hpl (E := E0), fun σ ρ H As Q S z => q σ ρ H As _ S ?_⟩
  unfold callP at z
  cases hd : g ρ with
  | stk =>
    rw [hd] at z
    exact z
  | exc x =>
    rw [hd] at z
    exact z
  | ok d =>
    rw [hd, R.bind_ok] at z
    intro vs H' A sm rp ok hl
    rw [List.append_nil]
    refine ⟨d, A, rp.weak, hl, ?_⟩
    cases hf : f d with
    | ok y =>
      rw [hf] at z
      have ok' := Kd.brOk S ok
      exact fun v H2 B s2 r2 fr => z v H2 B (sm.trans s2) r2 fun j hj hn a ha hb => by
        rcases fr a hb with w | w
        · exact S.old ha (sm.free w)
        · exact ok' j hj hn a ha w
    | exc x =>
      rw [hf] at z
      exact z.elim
    | stk =>
      rw [hf] at z
      exact z
end
end Dg

/-! Dg54: comprehensions whose items may be others'. -/
namespace Dg
open PySem PySem.Spec PyProof.Rows L2
section
variable {K : PySem.W.Frag} {mg : Str → Option Value} {H0 : Hp} {M0 : Addr → Prop} {pn : Nat → Option V}
theorem Sta.putsB2 : ∀ (is : List Nat) {vs : List V} {ds : List D} {A : List Addr} {ow : List Nat} {σ : L2.St} {ρ : Env} {H : Hp} {As : Nat → List Addr} {o : Bool}, RepL K mg H o vs ds A → vs.length = is.length → Sta K mg H0 M0 pn ow σ ρ H As → (∀ i ∈ is, pn i = none) →
    (∀ i ∈ ow, i ∉ is) → (∀ i ∈ ow, ∀ a ∈ As i, a ∉ A) → ∃ As', Sta K mg H0 M0 pn ow (setsV is vs σ) (setsD is ds ρ) H As' ∧ ∀ j a, a ∈ As' j → a ∈ As j ∨ a ∈ A
  | [], _, _, _, ow, _, _, _, As, _, .nil, _, S, _, _, _ => ⟨As, S, fun _ _ h => .inl h⟩
  | [], _, _, _, _, _, _, _, _, _, .cons _ _, hl, _, _, _, _ => by cases hl
  | i :: is, _, _, _, _, _, _, _, _, _, .nil, hl, _, _, _, _ => by cases hl
  | i :: is, _, _, _, ow, σ, ρ, H, As, o, .cons (v := v) (d := d) (A := A) (B := B) h r, hl, S, hp, ni, fr => by
    have S1 := S.put (ow' := ow) h.weak (hp i List.mem_cons_self) (fun z => by cases z)
      (fun j hj hji a ha hA => fr j hj a ha (List.mem_append_left _ hA)) (fun j hj hji => hj) (fun z => absurd List.mem_cons_self (ni i z))
    obtain ⟨As', S', h'⟩ := Sta.putsB2 is r (Nat.succ.inj hl) S1 (fun j hj => hp j (List.mem_cons_of_mem _ hj)) (fun j hj z => ni j hj (List.mem_cons_of_mem _ z)) (fun j hj a ha hB => by
      try dsimp only at ha
      rw [if_neg (fun z => ni j hj (by rw [z]; exact List.mem_cons_self))] at ha
      exact fr j hj a ha (List.mem_append_right _ hB))
    refine ⟨As', S', fun j a ha => ?_⟩
    rcases h' j a ha with w | w
    · try dsimp only at w
      by_cases e : j = i
      · rw [if_pos e] at w
        split at w
        · exact .inr (List.mem_append_left _ w)
        · cases w
      · rw [if_neg e] at w
        exact .inl w
    · exact .inr (List.mem_append_right _ w)
end
theorem repL_cutB {K : PySem.W.Frag} {mg : Str → Option Value} {H : Hp} {o : Bool} {v : List V} {d : List D} {A : List Addr} (lo hi : Option Int) (h : RepL K mg H o v d A) : ∃ B, RepL K mg H o (cutV v lo hi) (cutA d lo hi) B ∧ ∀ b ∈ B, b ∈ A := by
  unfold cutV cutA
  rw [h.len]
  obtain ⟨B, h1, q1⟩ := repL_drop (HT.sIx d.length 0 lo) h
  obtain ⟨B2, h2, q2⟩ := repL_take (HT.sIx d.length d.length hi - HT.sIx d.length 0 lo) h1
  exact ⟨B2, h2, fun b hb => q1 b (q2 b hb)⟩
section
variable {X : Cx} {W : WX} {C : Cfg} {ow ow' ow1 ow2 : List Nat} {k k1 k2 k3 : Kd} {e a b c tg elt : Expr} {es : List Expr} {st : Stmt} {sts sts2 : List Stmt} {den d1 d2 : Env → R D} {f g : Env → Out} {pos p2 p : Pos}
/-- an expression whose tree is new, or of those that stand in slots -/
def GoodX (X : Cx) (H : Hp) (As : Nat → List Addr) (r : R D) (Q : VK) : Prop := match r with
  | .ok d => ∀ v H' A, Same H H' → Rep X.K X.mg H' false v d A → (∀ a ∈ A, H a = none ∨ ∃ i, a ∈ As i) → Q v H'
  | _ => False
def DEx (X : Cx) (ow : List Nat) (e : Expr) (den : Env → R D) : Prop := ∃ te, PE X e te ∧ ∀ σ ρ H As Q, On X ow σ ρ H As → GoodX X H As (den ρ) Q → te σ H Q
theorem dex_var {i : Nat} (h : PE X e (tVar i)) : DEx X ow e (vr i) := by
  refine ⟨_, h, fun σ ρ H As Q S g => ?_⟩
  rcases vr_not (i := i) (ρ := ρ) with ⟨d, hd⟩ | hd
  · rw [hd] at g
    obtain ⟨H0, M0, pn, S⟩ := S
    obtain ⟨v, hv, r⟩ := S.rep i d (vr_at hd)
    exact ⟨v, hv, g v H (As i) (Same.refl H) r.weak fun a ha => .inr ⟨i, ha⟩⟩
  · rw [hd] at g
    exact g.elim
theorem dex_own {ms : List Nat} (h : DE X noW ow (.own ms) e den) : DEx X ow e den := by
  obtain ⟨te, p, q⟩ := h
  refine ⟨te, p, fun σ ρ H As Q S g => q σ ρ H As Q S ?_⟩
  cases hd : den ρ with
  | ok d =>
    rw [hd] at g
    exact fun v H' A sm rp ok => g v H' A sm rp.weak fun a ha => (ok.2.2 a ha).imp id fun ⟨i, _, w⟩ => ⟨i, w⟩
  | exc x =>
    rw [hd] at g
    exact g.elim
  | stk =>
    rw [hd] at g
    exact g
def GoodLX (X : Cx) (n : Nat) (H : Hp) (As : Nat → List Addr) (r : R (List D)) (Q : List V → Hp → Prop) : Prop := match r with
  | .ok ds => ∀ vs H' A, Same H H' → RepL X.K X.mg H' false vs ds A → (∀ a ∈ A, H a = none ∨ ∃ i, a ∈ As i) → vs.length = n → Q vs H'
  | _ => False
def DAx (X : Cx) (ow : List Nat) (n : Nat) (es : List Expr) (g : Env → R (List D)) : Prop := ∃ ta, PA X es ta ∧ ∀ σ ρ H As Q, On X ow σ ρ H As → GoodLX X n H As (g ρ) Q → ta σ H Q
theorem dax_nil : DAx X ow 0 [] nilL := ⟨_, pa_nil, fun σ ρ H As Q S q => q [] H [] (Same.refl H) .nil (fun _ z => by cases z) rfl⟩
theorem dax_cons {n : Nat} {g : Env → R (List D)} (h1 : DEx X ow e den) (h2 : DAx X ow n es g) (hs : starEach (e :: es) X.env = (false, eval e X.env) :: starEach es X.env := by rfl) : DAx X ow (n + 1) (e :: es) (conL den g) := by
  obtain ⟨ta, p1, q1⟩ := h1
  obtain ⟨tb, p2, q2⟩ := h2
  refine ⟨_, pa_cons p1 p2 hs, fun σ ρ H As Q S q => q1 σ ρ H As _ S ?_⟩
  unfold conL at q
  cases e1 : den ρ with
  | stk =>
    rw [e1] at q
    exact q
  | exc x =>
    rw [e1] at q
    exact q
  | ok dx =>
    rw [e1, R.bind_ok] at q
    intro v H1 A s1 r1 ok1
    refine q2 σ ρ H1 As _ (S.same s1) ?_
    cases e2 : g ρ with
    | stk =>
      rw [e2] at q
      exact q
    | exc x =>
      rw [e2] at q
      exact q
    | ok ds =>
      rw [e2, R.bind_ok] at q
      intro vs H2 B s2 r2 ok2 hn
      refine q (v :: vs) H2 (A ++ B) (s1.trans s2) (repL_cons (r1.same s2) r2) (fun a ha => ?_) (by rw [List.length_cons, hn])
      rcases List.mem_append.mp ha with w | w
      · exact ok1 a w
      · exact (ok2 a w).imp (fun z => s1.free z) id
theorem dex_callB {x : Str} {kk n : Nat} {f : List D → R D} {g : Env → R (List D)} (h : CalB X.prog X.w X.K X.mg X.base x kk n f) (hr : Room kk X.A) (ha : DAx X ow n (e :: es) g) (hg : Gl X x := by rfl)
    (hdb : (x == ("__debug__" : Str)) = false := by decide) (he : starEach (e :: es) X.env = (false, eval e X.env) :: starEach es X.env := by rfl) (hpl : (backTo pos (starEach es X.env)).any (·.1) = false := by rfl) : DEx X ow (.Call (.Name x p) (e :: es) [] pos) (callP f g) := by
  obtain ⟨addr, fd, ps, F, hm, hk, hb⟩ := h
  obtain ⟨ta, pa, q⟩ := ha
  refine ⟨_, pe_call F hr hg hm hk hb .nil pass0 pa hdb he hpl (E := E0), fun σ ρ H As Q S z => q σ ρ H As _ S ?_⟩
  unfold callP at z
  cases hd : g ρ with
  | stk =>
    rw [hd] at z
    exact z
  | exc x =>
    rw [hd] at z
    exact z
  | ok d =>
    rw [hd, R.bind_ok] at z
    intro vs H' A sm rp ok hl
    rw [List.append_nil]
    refine ⟨d, A, rp, hl, ?_⟩
    cases hf : f d with
    | ok y =>
      rw [hf] at z
      exact fun v H2 B s2 r2 fr => z v H2 B (sm.trans s2) r2 fun b hb => by
        rcases fr b hb with w | w
        · exact .inl (sm.free w)
        · exact ok b w
    | exc x =>
      rw [hf] at z
      exact z.elim
    | stk =>
      rw [hf] at z
      exact z
theorem blk_pex {scope : Scope} {el : Env → R D} (h : ∀ (s : Shared) (H : Hp) (C : Addr) (cl : List (Str × Addr)) (fp : List Addr), DEx (X.blk s H scope (compEnvC scope cl C X.env) fp) ow2 e el) :
    ∃ te, (∀ (s : Shared) (H : Hp) (C : Addr) (cl : List (Str × Addr)) (fp : List Addr), PE (X.blk s H scope (compEnvC scope cl C X.env) fp) e te) ∧ ∀ σ ρ H As Q, On X ow2 σ ρ H As → GoodX X H As (el ρ) Q → te σ H Q := by
  refine ⟨fun σ H Q => ∀ (s : Shared) (H' : Hp) (C : Addr) (cl : List (Str × Addr)) (fp : List Addr) (pins : List (Addr × Obj)) (s' : Shared), Inv (X.blk s H' scope (compEnvC scope cl C X.env) fp) pins σ H s' →
    wpAny (model X.prog X.w) X.A (eval e (compEnvC scope cl C X.env)) (EP (X.blk s H' scope (compEnvC scope cl C X.env) fp) pins σ Q) (fun _ _ => False) s', fun s H C cl fp => ⟨fun pins s' σ H' Q I q => q s H C cl fp pins s' I⟩, fun σ ρ H As Q S g s H' C cl fp pins s' I => ?_⟩
  obtain ⟨te, p, q⟩ := h s H' C cl fp
  exact p.run pins s' σ H Q I (q σ ρ H As Q S g)
def CmpX (X : Cx) (H1 : Hp) (Dd : Addr) (ds : List D) (H : Hp) : Prop := Same H1 H ∧ ∃ acc A, H Dd = some (.lst acc) ∧ RepL X.K X.mg H false acc ds A ∧ ∀ a ∈ A, a ≠ Dd
theorem nox_goodX {H : Hp} {As : Nat → List Addr} {r : R D} {Q : VK} (h : match r.nox with
    | .ok d => ∀ v H' A, Same H H' → Rep X.K X.mg H' false v d A → (∀ a ∈ A, H a = none ∨ ∃ i, a ∈ As i) → Q v H'
    | _ => False) : GoodX X H As r Q := by
  cases r with
  | ok d => exact h
  | exc x => exact h.elim
  | stk => exact h
theorem comp_runX {items : Env → R (List D)} {is ss : List Nat} {t : D → Option (List D)} {c : Env → R Bool} {el : Env → R D} {wi : TI} {gt : TG} {tt : TT} {te : TE}
    (qi : ∀ σ ρ H As Q, On X ow σ ρ H As → GoodI X W σ ow ss H As (items ρ) Q → wi σ H Q)
    (qg : ∀ H o v d A σ Q, Rep X.K X.mg H o v d A → (match t d with
      | some ds => ∀ vs, RepL X.K X.mg H o vs ds A → vs.length = is.length → Q (setsV is vs σ) H
      | none => False) → gt v σ H Q)
    (qt : ∀ σ ρ H As Q, On X ow2 σ ρ H As → GoodT X noW σ H (c ρ) Q → tt σ H Q)
    (qe : ∀ σ ρ H As Q, On X ow2 σ ρ H As → GoodX X H As (el ρ) Q → te σ H Q)
    (h1 : subL ow2 ow = true) (h2 : disL ow2 ss = true) (h3 : disL ow2 is = true)
    {σ : L2.St} {ρ : Env} {H : Hp} {As : Nat → List Addr} {Q : VK} (S : On X ow σ ρ H As) (z : Good X W σ ow (.br ow) H As (compE is t items c el ρ) Q) : tLc wi gt tt te is σ H Q := by
  refine qi σ ρ H As _ S ?_
  unfold compE at z
  cases hd : items ρ with
  | stk =>
    rw [hd] at z
    exact z
  | exc x =>
    rw [hd] at z
    exact z
  | ok xs =>
    rw [hd, R.bind_ok] at z
    intro J H1 A sm it ok old Dd hD
    by_cases hz : xs.length ≤ sizeLine
    · rw [if_pos hz] at z
      cases hg : compGo is t c el (kill is ρ) xs with
      | stk =>
        rw [hg] at z
        exact z.elim
      | exc x =>
        -- no exception comes out
        exfalso
        clear z
        have no : ∀ (xs : List D) x, compGo is t c el (kill is ρ) xs ≠ .exc x := by
          intro xs
          induction xs with
          | nil =>
            intro x h
            cases h
          | cons y ys ih =>
            intro x h
            unfold compGo at h
            cases ht : t y with
            | none =>
              rw [ht] at h
              cases h
            | some ds =>
              rw [ht] at h
              dsimp only at h
              cases hc : c (setsD is ds (kill is ρ)) with
              | stk =>
                rw [hc] at h
                cases h
              | exc x =>
                rw [hc] at h
                cases h
              | ok b =>
                rw [hc] at h
                cases b with
                | false => exact ih x h
                | true =>
                  change R.bind (R.nox (el (setsD is ds (kill is ρ)))) _ = _ at h
                  cases he : el (setsD is ds (kill is ρ)) with
                  | stk =>
                    rw [he] at h
                    cases h
                  | exc x =>
                    rw [he] at h
                    cases h
                  | ok y =>
                    rw [he] at h
                    cases hh : compGo is t c el (kill is ρ) ys with
                    | stk =>
                      rw [hh] at h
                      cases h
                    | exc x => exact ih x hh
                    | ok zs =>
                      rw [hh] at h
                      cases h
        exact no xs x hg
      | ok ys =>
        rw [hg, R.bind_ok] at z
        have S1 := S.same sm
        have sm0 : Same H1 (upd H1 Dd (.lst [])) := same_upd hD
        -- the turns
        refine ⟨fun i m H' => i + m = xs.length ∧ ∃ us, CmpX X H1 Dd us H' ∧ us.length ≤ i ∧ ∃ rest, compGo is t c el (kill is ρ) (xs.drop i) = .ok rest ∧ us ++ rest = ys, ⟨xs.length, by omega, [], ⟨sm0, [], [], upd_same, .nil, fun a ha => by cases ha⟩, Nat.le_refl _, ys, hg, rfl⟩, fun i m H' hW => ?_⟩
        obtain ⟨em, us, ⟨smD, acc, Aa, hacc, racc, nwa⟩, hlen, rest, hrest, hall⟩ := hW
        have f0 : Fr (fun _ => False) H1 H' := Fr.of_same smD
        by_cases hl : i < xs.length
        · refine .inr ⟨it.go _ _ i f0 (fun _ _ w => w) hl, fun H2 => ∃ us, CmpX X H1 Dd us H2 ∧ us.length ≤ i + 1 ∧ ∃ rest, compGo is t c el (kill is ρ) (xs.drop (i + 1)) = .ok rest ∧ us ++ rest = ys, fun H2 hN => ?_, fun x H2 hy => ?_⟩
          · obtain ⟨us', c1, c2, c3⟩ := hN
            exact ⟨m - 1, by omega, by omega, us', c1, c2, c3⟩
          · obtain ⟨s2, hr⟩ := it.yld _ _ i x H2 f0 (fun _ _ w => w) hy
            obtain ⟨B, rB, hB⟩ := hr _ (List.getElem?_eq_getElem hl)
            refine qg H2 false x xs[i] B (wipe σ is) _ rB ?_
            rw [List.drop_eq_getElem_cons hl, compGo] at hrest
            cases ht : t xs[i] with
            | none =>
              rw [ht] at hrest
              cases hrest
            | some ds =>
              rw [ht] at hrest
              dsimp only at hrest
              intro vs rl hvl
              refine ⟨wipe_sets is vs σ, ?_⟩
              -- the block's state
              obtain ⟨As2, S2, hA2⟩ := On.wiped is ((S1.same smD).same s2) (subL_mem h1)
              have S3 : ∃ As3, On X ow2 (setsV is vs (wipe σ is)) (setsD is ds (kill is ρ)) H2 As3 ∧ ∀ j a, a ∈ As3 j → H1 a ≠ none := by
                obtain ⟨G0, M0, pn, T⟩ := S2
                have T' : Sta X.K X.mg G0 M0 (fun _ => none) ow2 (wipe σ is) (kill is ρ) H2 As2 := ⟨T.fr, T.rep, T.dead, T.nd, T.new, T.sep, T.len, fun j v w => by cases w⟩
                obtain ⟨As3, T3, h3A⟩ := Sta.putsB2 is rl hvl T' (fun _ _ => rfl) (disL_mem h3) (fun j hj a ha hb => by
                  rcases hA2 j with e | e
                  · rw [e] at ha
                    exact ok j (subL_mem h1 j hj) (disL_mem h2 j hj) a ha (hB a hb)
                  · rw [e] at ha
                    cases ha)
                refine ⟨As3, ⟨G0, M0, _, T3⟩, fun j a ha => ?_⟩
                rcases h3A j a ha with w | w
                · rcases hA2 j with e | e
                  · rw [e] at w
                    exact S1.old w
                  · rw [e] at w
                    cases w
                · exact old a (hB a w)
              obtain ⟨As3, S3, hold⟩ := S3
              refine qt _ _ H2 As3 _ S3 (nox_goodT ?_)
              cases hc : (c (setsD is ds (kill is ρ))).nox with
              | stk =>
                rw [hc] at hrest
                cases hrest
              | exc x =>
                rw [hc] at hrest
                cases hrest
              | ok b =>
                rw [hc, R.bind_ok] at hrest
                intro H3 s3
                cases b with
                | false =>
                  rw [if_neg Bool.false_ne_true] at hrest
                  refine iteF ⟨us, ⟨smD.trans (s2.trans s3), acc, Aa, s3 _ _ (s2 _ _ hacc), (racc.same s2).same s3, nwa⟩, Nat.le_succ_of_le hlen, rest, hrest, hall⟩
                | true =>
                  rw [if_pos rfl] at hrest
                  refine iteT (qe _ _ H3 As3 _ (S3.same s3) (nox_goodX ?_))
                  cases he : (el (setsD is ds (kill is ρ))).nox with
                  | stk =>
                    rw [he] at hrest
                    cases hrest
                  | exc x =>
                    rw [he] at hrest
                    cases hrest
                  | ok y =>
                    rw [he, R.bind_ok] at hrest
                    cases hgo : compGo is t c el (kill is ρ) (xs.drop (i + 1)) with
                    | stk =>
                      rw [hgo] at hrest
                      cases hrest
                    | exc x =>
                      rw [hgo] at hrest
                      cases hrest
                    | ok zs =>
                      rw [hgo, R.bind_ok] at hrest
                      cases hrest
                      intro v H4 A4 s4 r4 k4
                      have hD4 : H4 Dd = some (.lst acc) := s4 _ _ (s3 _ _ (s2 _ _ hacc))
                      have f4 : Fr (fun a => a = Dd) H4 (upd H4 Dd (.lst (acc ++ [v]))) := fun a o h hm => by
                        by_cases e : a = Dd
                        · subst e
                          rw [hD4] at h
                          cases h
                          exact absurd rfl (hm rfl)
                        · rw [upd_ne e]
                          exact h
                      have dD : ∀ a ∈ A4, a ≠ Dd := fun a ha e => by
                        rcases k4 a ha with w | ⟨i, w⟩
                        · rw [e, s3 _ _ (s2 _ _ hacc)] at w
                          cases w
                        · refine hold i a w ?_
                          rw [e]
                          exact hD
                      refine ⟨acc, hD4, ?_, us ++ [y], ⟨fun a o h => ?_, acc ++ [v], Aa ++ A4, upd_same, ?_, ?_⟩, ?_, zs, rfl, ?_⟩
                      · have := racc.len
                        omega
                      · have h4 := s4 _ _ (s3 _ _ (s2 _ _ (smD a o h)))
                        rw [upd_ne (ne_of_none h hD)]
                        exact h4
                      · have r1 := (((racc.same s2).same s3).same s4).fr f4 fun a ha => nwa a ha
                        have r2 := RepL.one (r4.fr f4 dD)
                        exact r1.app r2
                      · intro a ha
                        exact (List.mem_append.mp ha).elim (nwa a) (dD a)
                      · rw [List.length_append, List.length_singleton]
                        omega
                      · rw [List.append_assoc]
                        exact hall
        · have ei : i = xs.length := by omega
          subst ei
          refine .inl ⟨it.stop _ _ f0 (fun _ _ w => w), ?_⟩
          rw [List.drop_length, compGo] at hrest
          cases hrest
          rw [List.append_nil] at hall
          subst hall
          exact z _ H' (Dd :: Aa) (sm.trans smD) (.lst hacc racc) fun j hj hn => absurd hj hn
    · rw [if_neg hz] at z
      exact z.elim
theorem asg_runB {is : List Nat} {ss : List Nat} {t : D → Option (List D)} {te : TE} {gt : TG} (q : ∀ σ ρ H As Q, On X ow σ ρ H As → Good X W σ ow (.br ss) H As (den ρ) Q → te σ H Q)
    (qg : ∀ H o v d A σ Q, Rep X.K X.mg H o v d A → (match t d with
      | some ds => ∀ vs, RepL X.K X.mg H o vs ds A → vs.length = is.length → Q (setsV is vs σ) H
      | none => False) → gt v σ H Q) (hio : disL is (C.io ++ C.pl) = true) (how : subL ow' ow = true) (hs1 : disL ow' ss = true) (hs2 : disL ow' is = true) (hox : subL C.owx ow = true)
    {H0 : Hp} {M0 : Addr → Prop} {pn : Nat → Option V} {σ : L2.St} {ρ : Env} {H : Hp} {As : Nat → List Addr} {Dn : Ends} (hp : PinOk C pn) (S : Sta X.K X.mg H0 M0 pn ow σ ρ H As) (z : Post X W C H0 M0 pn ow' Dn (asgS [] is t den ρ)) : tAsg te gt Dn σ H := by
  refine q σ ρ H As _ ⟨H0, M0, pn, S⟩ ?_
  unfold asgS at z
  cases hd : den ρ with
  | stk =>
    rw [hd] at z
    exact z
  | exc x =>
    rw [hd] at z
    exact fun c dd H' A sm rp fx => z c dd σ H' As A ((S.same sm).less (subL_mem hox)) rp (S.fx fx)
  | ok d =>
    rw [hd] at z
    intro v H1 A sm rp ok
    refine qg H1 false v d A σ _ rp.weak ?_
    try dsimp only at z
    cases ht : t d with
    | none =>
      rw [ht] at z
      exact z
    | some ds =>
      rw [ht] at z
      intro vs rl hl
      have ok' := Kd.brOk ⟨H0, M0, pn, S⟩ ok
      obtain ⟨As', S'⟩ := Sta.putsB is rl hl ((S.same sm).less (subL_mem how)) (fun i hi => hp i (disL_mem hio i hi)) (disL_mem hs2) (fun i hi => ok' i (subL_mem how i hi) (disL_mem hs1 i hi))
      exact z _ _ As' S'
/-- y = [e for x in it if t], e maybe others' -/
theorem ds_setLcX {items : Env → R (List D)} {ss is : List Nat} {own : List (Str × Nat)} {t : D → Option (List D)} {c : Env → R Bool} {el : Env → R D} {scope : Scope} {iter : Expr} {ifs : List Expr} {i : Nat} {y : Str} {py spos : Pos} (ow2 : List Nat) (hc : X.calm = true) (hN : X.N.Nodup)
    (hy : X.N[i]? = some y) (hyl : X.env.scope.names.lookup y = some .local)
    (hsw : swapsWith (.ListComp elt [⟨tg, iter, ifs, 0⟩] scope pos) (some (.Name y py)) spos.line X.env = pure true)
    (hi : DI X W ow ss tg iter items) (ok : BlkOk X.N X.env.scope scope own) (his : own.map (·.2) = is)
    (hg : ∀ (s : Shared) (H : Hp) (C : Addr) (cl : List (Str × Addr)) (fp : List Addr), DG (X.blk s H scope (compEnvC scope cl C X.env) fp) is tg t)
    (ht : ∃ tt, (∀ (s : Shared) (H : Hp) (C : Addr) (cl : List (Str × Addr)) (fp : List Addr), PTs (X.blk s H scope (compEnvC scope cl C X.env) fp) ifs tt) ∧ ∀ σ ρ H As Q, On X ow2 σ ρ H As → GoodT X noW σ H (c ρ) Q → tt σ H Q)
    (he : ∀ (s : Shared) (H : Hp) (C : Addr) (cl : List (Str × Addr)) (fp : List Addr), DEx (X.blk s H scope (compEnvC scope cl C X.env) fp) ow2 elt el)
    (hio : disL [i] (C.io ++ C.pl) = true) (how : subL ow' ow = true) (hs1 : disL ow' ow = true) (hs2 : disL ow' [i] = true) (hox : subL C.owx ow = true)
    (h1 : subL ow2 ow = true := by rfl) (h2 : disL ow2 ss = true := by rfl) (h3 : disL ow2 is = true := by rfl) (hs : ∀ x, foldedSetIterable iter X.env x = pure x := by intro _; rfl) :
    DS X W C ow ow' (.Assign [.Name y py] (.ListComp elt [⟨tg, iter, ifs, 0⟩] scope pos) spos) (asgS [] [i] t1 (compE is t items c el)) := by
  obtain ⟨wi, pi, qi⟩ := hi
  obtain ⟨gt, pg, qg⟩ := blk_pg hg
  obtain ⟨tt, pt, qt⟩ := ht
  obtain ⟨te, pe, qe⟩ := blk_pex he
  subst his
  exact ⟨_, ps_setLc hc hN hy hyl hsw pi ok pg pt pe hs, fun H0 M0 pn σ ρ H As Dn hp S z => asg_runB (is := [i]) (ss := ow) (t := t1) (te := tLc wi gt tt te (own.map (·.2))) (gt := gName i) (fun σ ρ H As Q S z => comp_runX qi qg qt qe h1 h2 h3 S z) (fun H o v d A σ Q r q => q [v] (RepL.one r) rfl) hio how hs1 hs2 hox hp S z⟩
theorem de_compX {items : Env → R (List D)} {ss : List Nat} {is : List Nat} {own : List (Str × Nat)} {t : D → Option (List D)} {c : Env → R Bool} {el : Env → R D} {scope : Scope} {iter : Expr} {ifs : List Expr} (ow2 : List Nat) (hc : X.calm = true) (hN : X.N.Nodup) (hi : DI X W ow ss tg iter items) (ok : BlkOk X.N X.env.scope scope own) (his : own.map (·.2) = is)
    (hg : ∀ (s : Shared) (H : Hp) (C : Addr) (cl : List (Str × Addr)) (fp : List Addr), DG (X.blk s H scope (compEnvC scope cl C X.env) fp) is tg t)
    (ht : ∃ tt, (∀ (s : Shared) (H : Hp) (C : Addr) (cl : List (Str × Addr)) (fp : List Addr), PTs (X.blk s H scope (compEnvC scope cl C X.env) fp) ifs tt) ∧ ∀ σ ρ H As Q, On X ow2 σ ρ H As → GoodT X noW σ H (c ρ) Q → tt σ H Q)
    (he : ∀ (s : Shared) (H : Hp) (C : Addr) (cl : List (Str × Addr)) (fp : List Addr), DEx (X.blk s H scope (compEnvC scope cl C X.env) fp) ow2 elt el)
    (h1 : subL ow2 ow = true := by rfl) (h2 : disL ow2 ss = true := by rfl) (h3 : disL ow2 is = true := by rfl) (hs : ∀ x, foldedSetIterable iter X.env x = pure x := by intro _; rfl) : DE X W ow (.br ow) (.ListComp elt [⟨tg, iter, ifs, 0⟩] scope p2) (compE is t items c el) := by
  obtain ⟨wi, pi, qi⟩ := hi
  obtain ⟨gt, pg, qg⟩ := blk_pg hg
  obtain ⟨tt, pt, qt⟩ := ht
  obtain ⟨te, pe, qe⟩ := blk_pex he
  subst his
  exact ⟨_, pe_lc hc hN pi ok pg pt pe hs, fun σ ρ H As Q S z => comp_runX qi qg qt qe h1 h2 h3 S z⟩
/-! ### slices of lists of others' trees -/
def dSlB (x : D) (lo hi : Option Int) : R D := match x with
  | .list xs => .ok (.list (cutA xs lo hi))
  | _ => .stk
def slEB (f : Env → R D) (l h : Env → R (Option Int)) : Env → R D := fun ρ => (f ρ).bind fun x => (l ρ).bind fun i => (h ρ).bind fun j => dSlB x i j
theorem de_slB {lo hi : Option Expr} {fl fh : Env → R (Option Int)} (h1 : DE X W ow k1 a d1) (h2 : DO X W ow lo fl) (h3 : DO X W ow hi fh) : DE X W ow (.br k1.src) (.Subscript a (.Slice lo hi none p2) p) (slEB d1 fl fh) := by
  obtain ⟨ta, p1, q1⟩ := h1
  obtain ⟨tl, pl, ql⟩ := h2
  obtain ⟨th, ph, qh⟩ := h3
  refine ⟨_, pe_slice sl_list p1 pl ph, fun σ ρ H As Q S q => q1 σ ρ H As _ S ?_⟩
  unfold slEB at q
  cases e1 : d1 ρ with
  | stk =>
    rw [e1] at q
    exact q
  | exc x =>
    rw [e1] at q
    exact q
  | ok dx =>
    rw [e1, R.bind_ok] at q
    intro v H1 A s1 r1 ok1
    refine ql σ ρ H1 As _ (S.same s1) ?_
    cases e2 : fl ρ with
    | stk =>
      rw [e2] at q
      exact q
    | exc x =>
      rw [e2] at q
      exact fun c dd H' B sm rp fx => q c dd H' B (s1.trans sm) rp fun b hb => s1.free (fx b hb)
    | ok i =>
      rw [e2, R.bind_ok] at q
      intro H2 s2
      refine qh σ ρ H2 As _ ((S.same s1).same s2) ?_
      cases e3 : fh ρ with
      | stk =>
        rw [e3] at q
        exact q
      | exc x =>
        rw [e3] at q
        exact fun c dd H' B sm rp fx => q c dd H' B (s1.trans (s2.trans sm)) rp fun b hb => s1.free (s2.free (fx b hb))
      | ok j =>
        rw [e3, R.bind_ok] at q
        intro H3 s3
        have ok2 := Kd.brOk S ok1
        have r3 := r1.weak.same (s2.trans s3)
        have S3 := ((S.same s1).same s2).same s3
        unfold dSlB at q
        split at q
        · cases r3 with
          | lst h1 l1 =>
            refine ⟨_, _, rfl, .inl (.inl h1), fun pp hp => ?_⟩
            obtain ⟨B, l2, hB⟩ := repL_cutB i j (l1.same (same_upd hp))
            refine q _ _ (pp :: B) ((s1.trans (s2.trans s3)).trans (same_upd hp)) (.lst upd_same l2) fun jj hj hn a ha hb => ?_
            rcases List.mem_cons.mp hb with w | w
            · rw [w] at ha
              exact S3.old ha hp
            · exact ok2 jj hj hn a ha (List.mem_cons_of_mem _ (hB a w))
        · exact q.elim
end
end Dg

/-! Dg55: + and sorted of lists whose items are others' lists. -/
namespace Dg
open PySem PySem.Spec PyProof.Rows L2
def dAddB (x y : D) : R D := match x, y with
  | .list xs, .list ys => if xs.length + ys.length ≤ sizeLine then .ok (.list (xs ++ ys)) else .stk
  | _, _ => .stk
def dSortB (x : D) : R D := match x with
  | .list xs => if sortOk xs = true then .ok (.list (xs.mergeSort leD)) else .stk
  | _ => .stk
theorem repL_each {K : PySem.W.Frag} {mg : Str → Option Value} {H : Hp} {A : List Addr} : ∀ {bs : List (V × D)}, (∀ b ∈ bs, ∃ B, Rep K mg H false b.1 b.2 B ∧ ∀ a ∈ B, a ∈ A) → ∃ C, RepL K mg H false (bs.map Prod.fst) (bs.map Prod.snd) C ∧ ∀ a ∈ C, a ∈ A
  | [], _ => ⟨[], .nil, fun _ z => by cases z⟩
  | b :: bs, h => by
    obtain ⟨B, r, hB⟩ := h b List.mem_cons_self
    obtain ⟨C, rs, hC⟩ := repL_each fun c hc => h c (List.mem_cons_of_mem _ hc)
    exact ⟨B ++ C, .cons r rs, fun a ha => (List.mem_append.mp ha).elim (hB a) (hC a)⟩
section
variable {X : Cx} {W : WX} {ow : List Nat} {k1 k2 : Kd} {a b : Expr} {d1 d2 : Env → R D} {pos p : Pos}
theorem de_addB (h1 : DE X W ow k1 a d1) (h2 : DE X W ow k2 b d2) : DE X W ow (.br (k1.src ++ k2.src)) (.BinOp a .Add b pos) (b2 dAddB d1 d2) := by
  obtain ⟨ta, p1, q1⟩ := h1
  obtain ⟨tb, p2, q2⟩ := h2
  refine ⟨_, pe_op op_cat p1 p2, fun σ ρ H As Q S q => q1 σ ρ H As _ S ?_⟩
  unfold b2 at q
  cases e1 : d1 ρ with
  | stk =>
    rw [e1] at q
    exact q
  | exc x =>
    rw [e1] at q
    exact q
  | ok dx =>
    rw [e1, R.bind_ok] at q
    intro x H1 A s1 rx ok1
    refine q2 σ ρ H1 As _ (S.same s1) ?_
    cases e2 : d2 ρ with
    | stk =>
      rw [e2] at q
      exact q
    | exc x =>
      rw [e2] at q
      exact fun c dd H' B sm rp fx => q c dd H' B (s1.trans sm) rp fun b hb => s1.free (fx b hb)
    | ok dy =>
      rw [e2, R.bind_ok] at q
      intro y H2 B s2 ry ok2
      have o1 := Kd.brOk S ok1
      have o2 := Kd.brOk (S.same s1) ok2
      have r1 := rx.weak.same s2
      have r2 := ry.weak
      have S2 := (S.same s1).same s2
      unfold dAddB at q
      split at q
      · cases r1 with
        | lst g1 l1 =>
          cases r2 with
          | lst g2 l2 =>
            split at q
            · rename_i hz
              refine ⟨_, _, _, _, rfl, rfl, g1, g2, (by rw [l1.len, l2.len]; exact hz), fun pp hp => ?_⟩
              refine q _ _ (pp :: (_ ++ _)) ((s1.trans s2).trans (same_upd hp)) (.lst upd_same ((l1.same (same_upd hp)).app (l2.same (same_upd hp)))) fun j hj hn z hz2 hb => ?_
              rcases List.mem_cons.mp hb with w | w
              · rw [w] at hz2
                exact S2.old hz2 hp
              · rcases List.mem_append.mp w with w | w
                · exact o1 j hj (fun u => hn (List.mem_append_left _ u)) z hz2 (List.mem_cons_of_mem _ w)
                · exact o2 j hj (fun u => hn (List.mem_append_right _ u)) z hz2 (List.mem_cons_of_mem _ w)
            · exact q.elim
      · exact q.elim
theorem de_sortB (h1 : DE X W ow k1 a d1) (hu : X.A.units + 64 < cLine) (hm : X.mg "sorted" = none) (hg : Gl X "sorted" := by rfl)
    (hs : starEach [a] X.env = (false, eval a X.env) :: starEach [] X.env := by rfl) (hpl : (backTo pos (starEach [] X.env)).any (·.1) = false := by rfl) :
    DE X W ow (.br k1.src) (.Call (.Name "sorted" p) [a] [] pos) (b1 dSortB d1) := by
  obtain ⟨ta, p1, q1⟩ := h1
  refine ⟨_, pe_callB (cr_sortedD hu) hg hm (by decide +kernel) (pa_cons p1 pa_nil hs) (by decide) (by decide) hs hpl, fun σ ρ H As Q S q => q1 σ ρ H As _ S ?_⟩
  unfold b1 at q
  cases e1 : d1 ρ with
  | stk =>
    rw [e1] at q
    exact q
  | exc x =>
    rw [e1] at q
    exact q
  | ok dx =>
    rw [e1, R.bind_ok] at q
    intro x H1 A s1 rx ok1
    have o1 := Kd.brOk S ok1
    have r1 := rx.weak
    have S1 := S.same s1
    unfold dSortB at q
    split at q
    · split at q
      · rename_i hz
        cases r1 with
        | lst g1 l1 =>
          obtain ⟨z1, z2, z3⟩ := repL_zip l1
          refine ⟨_, _, rfl, .inl (.inl (by rw [z2]; exact g1)), fun b hb => ?_, by rw [z3]; exact hz, fun pp hp => ?_⟩
          · obtain ⟨B, q, _⟩ := z1 b hb
            exact q.dp (okD.flat ((sortOk_all hz).1 b.2 (by rw [← z3]; exact List.mem_map.mpr ⟨b, hb, rfl⟩)))
          · obtain ⟨C, lr, hC⟩ := repL_each (K := X.K) (mg := X.mg) (H := H1) (bs := (_ : List (V × D)).mergeSort (PySem.W.dataLe false Prod.snd)) fun b hb => z1 b ((List.mergeSort_perm _ _).mem_iff.mp hb)
            rw [sort_snd, z3] at lr
            refine q _ _ (pp :: C) (s1.trans (same_upd hp)) (.lst upd_same (lr.same (same_upd hp))) fun j hj hn z hz2 hb => ?_
            rcases List.mem_cons.mp hb with w | w
            · rw [w] at hz2
              exact S1.old hz2 hp
            · exact o1 j hj hn z hz2 (List.mem_cons_of_mem _ (hC z w))
      · exact q.elim
    · exact q.elim
end
end Dg

/-! Dv: what the layer's operations come to on plain values -/
namespace Dg
open PySem PySem.Spec PyProof.Rows L2
theorem okD_int (i : Int) : okD (.int i) = true := by simp [okD, flat, PyData.plain, PyData.depth]
theorem okD_str (i : Str) : okD (.str i) = true := by simp [okD, flat, PyData.plain, PyData.depth]
theorem okD_bool (i : Bool) : okD (.bool i) = true := by simp [okD, flat, PyData.plain, PyData.depth]
theorem okD_none : okD .none = true := by simp [okD, flat, PyData.plain, PyData.depth]
theorem beq_dec {α : Type} [BEq α] [LawfulBEq α] [DecidableEq α] (a b : α) : (a == b) = decide (a = b) := by
  rw [Bool.eq_iff_iff, beq_iff_eq, decide_eq_true_eq]
@[simp] theorem dEq_int (i j : Int) : dEq (.int i) (.int j) = .ok (.bool (decide (i = j))) := by
  unfold dEq
  rw [okD_int, okD_int, if_pos (show (true && true) = true from rfl)]
  simp only [PyData.eqv, beq_dec]
@[simp] theorem dEq_str (i j : Str) : dEq (.str i) (.str j) = .ok (.bool (decide (i = j))) := by
  unfold dEq
  rw [okD_str, okD_str, if_pos (show (true && true) = true from rfl)]
  simp only [PyData.eqv, beq_dec]
@[simp] theorem dEq_bool (i j : Bool) : dEq (.bool i) (.bool j) = .ok (.bool (decide (i = j))) := by
  unfold dEq
  rw [okD_bool, okD_bool, if_pos (show (true && true) = true from rfl)]
  simp only [PyData.eqv, beq_dec]
@[simp] theorem dEq_none_none : dEq .none .none = .ok (.bool true) := by
  unfold dEq
  rw [okD_none, if_pos (show (true && true) = true from rfl)]
  simp only [PyData.eqv]
@[simp] theorem dEq_none_int (i : Int) : dEq .none (.int i) = .ok (.bool false) := by
  unfold dEq
  rw [okD_none, okD_int, if_pos (show (true && true) = true from rfl)]
  simp only [PyData.eqv]
@[simp] theorem dEq_int_none (i : Int) : dEq (.int i) .none = .ok (.bool false) := by
  unfold dEq
  rw [okD_none, okD_int, if_pos (show (true && true) = true from rfl)]
  simp only [PyData.eqv]
@[simp] theorem dNe_int (i j : Int) : dNe (.int i) (.int j) = .ok (.bool (!decide (i = j))) := by
  unfold dNe
  rw [okD_int, okD_int, if_pos (show (true && true) = true from rfl)]
  simp only [PyData.eqv, beq_dec]
@[simp] theorem dNe_str (i j : Str) : dNe (.str i) (.str j) = .ok (.bool (!decide (i = j))) := by
  unfold dNe
  rw [okD_str, okD_str, if_pos (show (true && true) = true from rfl)]
  simp only [PyData.eqv, beq_dec]
@[simp] theorem dNe_bool (i j : Bool) : dNe (.bool i) (.bool j) = .ok (.bool (!decide (i = j))) := by
  unfold dNe
  rw [okD_bool, okD_bool, if_pos (show (true && true) = true from rfl)]
  simp only [PyData.eqv, beq_dec]
@[simp] theorem dNe_none_none : dNe .none .none = .ok (.bool false) := by
  unfold dNe
  rw [okD_none, if_pos (show (true && true) = true from rfl)]
  simp only [PyData.eqv]
  rfl
@[simp] theorem dNe_none_int (i : Int) : dNe .none (.int i) = .ok (.bool true) := by
  unfold dNe
  rw [okD_none, okD_int, if_pos (show (true && true) = true from rfl)]
  simp only [PyData.eqv]
  rfl
@[simp] theorem dNe_int_none (i : Int) : dNe (.int i) .none = .ok (.bool true) := by
  unfold dNe
  rw [okD_none, okD_int, if_pos (show (true && true) = true from rfl)]
  simp only [PyData.eqv]
  rfl
theorem ord_int (i j : Int) : ordD (.int i) (.int j) = true := by simp [ordD, okD_int, PySem.W.alike, isNone]
theorem ord_str (i j : Str) : ordD (.str i) (.str j) = true := by simp [ordD, okD_str, PySem.W.alike, isNone]
@[simp] theorem dLt_int (i j : Int) : dLt (.int i) (.int j) = .ok (.bool (decide (i < j))) := by
  unfold dLt
  rw [ord_int, if_pos rfl, PySem.W.dataLt_int]
@[simp] theorem dGt_int (i j : Int) : dGt (.int i) (.int j) = .ok (.bool (decide (j < i))) := by
  unfold dGt
  rw [ord_int, if_pos rfl, PySem.W.dataLt_int]
@[simp] theorem dLe_int (i j : Int) : dLe (.int i) (.int j) = .ok (.bool (decide (i ≤ j))) := by
  unfold dLe
  rw [ord_int, if_pos rfl, PySem.W.dataLt_int]
  congr 2
  rw [Bool.eq_iff_iff]
  simp
@[simp] theorem dGe_int (i j : Int) : dGe (.int i) (.int j) = .ok (.bool (decide (j ≤ i))) := by
  unfold dGe
  rw [ord_int, if_pos rfl, PySem.W.dataLt_int]
  congr 2
  rw [Bool.eq_iff_iff]
  simp
/-- a text's order -/
def ltS (a b : Str) : Bool := decide (a.cps.toList < b.cps.toList)
@[simp] theorem dLt_str (i j : Str) : dLt (.str i) (.str j) = .ok (.bool (ltS i j)) := by
  unfold dLt
  rw [ord_str, if_pos rfl, PySem.W.dataLt_str]
  rfl
@[simp] theorem dGe_str (i j : Str) : dGe (.str i) (.str j) = .ok (.bool (!ltS i j)) := by
  unfold dGe
  rw [ord_str, if_pos rfl, PySem.W.dataLt_str]
  rfl
@[simp] theorem dAdd_int (i j : Int) : dAdd (.int i) (.int j) = .ok (.int (i + j)) := (rfl)
@[simp] theorem dSub_int (i j : Int) : dSub (.int i) (.int j) = .ok (.int (i - j)) := (rfl)
theorem dMod_int {i j : Int} (h : 0 < j) : dMod (.int i) (.int j) = .ok (.int (i % j)) := if_pos h
theorem dDiv_int {i j : Int} (h : 0 < j ∧ j < 1073741824) : dDiv (.int i) (.int j) = .ok (.int (i / j)) := if_pos h
theorem dMul_left {i j : Int} (h : smallI i = true) : dMul2 (.int i) (.int j) = .ok (.int (i * j)) := by
  unfold dMul2
  simp [h]
theorem dMul_right {i j : Int} (h : smallI j = true) : dMul2 (.int i) (.int j) = .ok (.int (i * j)) := by
  unfold dMul2
  simp [h]
@[simp] theorem dNeg_int (i : Int) : dNeg (.int i) = .ok (.int (-i)) := (rfl)
@[simp] theorem dIsN_none : dIsN .none .none = .ok (.bool true) := (rfl)
@[simp] theorem dIsN_int (i : Int) : dIsN (.int i) .none = .ok (.bool false) := (rfl)
@[simp] theorem dIsN_str (i : Str) : dIsN (.str i) .none = .ok (.bool false) := (rfl)
@[simp] theorem dIsN_list (i : List D) : dIsN (.list i) .none = .ok (.bool false) := (rfl)
@[simp] theorem dIsN_tup (i : List D) : dIsN (.tuple i) .none = .ok (.bool false) := (rfl)
@[simp] theorem tst_bool (b : Bool) : tst (.bool b) = .ok b := (rfl)
@[simp] theorem chk_int (i : Int) : chk (.int i) = .ok (.int i) := (rfl)
@[simp] theorem chk_str (i : Str) : chk (.str i) = .ok (.str i) := (rfl)
@[simp] theorem chk_bool (i : Bool) : chk (.bool i) = .ok (.bool i) := (rfl)
@[simp] theorem chk_none : chk .none = .ok .none := (rfl)
@[simp] theorem nox_ok {α : Type} (a : α) : (R.ok a).nox = R.ok a := (rfl)
@[simp] theorem nox_stk {α : Type} : (R.stk : R α).nox = R.stk := (rfl)
/-- the layer's words, opened -/
theorem vr_def (i : Nat) (ρ : Env) : vr i ρ = match ρ[i]? with
  | some (some d) => .ok d
  | _ => .stk := (rfl)
def sgn (c : Nat) : D := .str ⟨#[c]⟩
@[simp] theorem dInS_sgn (neg : Bool) (c : Nat) (t : Str) : dInS neg (.str ⟨#[c]⟩) (.str t) = .ok (.bool (neg != decide (c ∈ t.cps.toList))) := (rfl)
theorem dItems_str (s : Str) : dItems (.str s) = .ok (s.cps.toList.map sgn) := (rfl)
/-! ### statements, as steps from one outcome to the next -/
def Out.seq (o : Out) (g : Env → Out) : Out := match o with
  | .nx r => g r
  | o => o
def R.out {α : Type} (r : R α) (ρ : Env) (k : α → Out) : Out := match r with
  | .ok a => k a
  | .exc x => .exc x ρ
  | .stk => .stk
def Out.turn (o : Out) (ks : List Nat) (k : Env → Out) : Out := match o with
  | .nx r => k (kill ks r)
  | .cnt r => k (kill ks r)
  | .brk r => .nx (kill ks r)
  | o => o
@[simp] theorem seq_nx (r : Env) (g : Env → Out) : (Out.nx r).seq g = g r := (rfl)
@[simp] theorem seq_ret (d : D) (r : Env) (g : Env → Out) : (Out.ret d r).seq g = .ret d r := (rfl)
@[simp] theorem seq_brk (r : Env) (g : Env → Out) : (Out.brk r).seq g = .brk r := (rfl)
@[simp] theorem seq_cnt (r : Env) (g : Env → Out) : (Out.cnt r).seq g = .cnt r := (rfl)
@[simp] theorem seq_exc (x : Exn) (r : Env) (g : Env → Out) : (Out.exc x r).seq g = .exc x r := (rfl)
@[simp] theorem seq_stk (g : Env → Out) : (Out.stk).seq g = .stk := (rfl)
@[simp] theorem out_ok {α : Type} (a : α) (ρ : Env) (k : α → Out) : (R.ok a).out ρ k = k a := (rfl)
@[simp] theorem out_exc {α : Type} (a : Exn) (ρ : Env) (k : α → Out) : (R.exc a).out ρ k = .exc a ρ := (rfl)
@[simp] theorem out_stk {α : Type} (ρ : Env) (k : α → Out) : (R.stk).out ρ k = .stk := (rfl)
@[simp] theorem turn_nx (r : Env) (ks : List Nat) (k : Env → Out) : (Out.nx r).turn ks k = k (kill ks r) := (rfl)
@[simp] theorem turn_cnt (r : Env) (ks : List Nat) (k : Env → Out) : (Out.cnt r).turn ks k = k (kill ks r) := (rfl)
@[simp] theorem turn_brk (r : Env) (ks : List Nat) (k : Env → Out) : (Out.brk r).turn ks k = .nx (kill ks r) := (rfl)
@[simp] theorem turn_ret (d : D) (r : Env) (ks : List Nat) (k : Env → Out) : (Out.ret d r).turn ks k = .ret d r := (rfl)
@[simp] theorem turn_exc (x : Exn) (r : Env) (ks : List Nat) (k : Env → Out) : (Out.exc x r).turn ks k = .exc x r := (rfl)
@[simp] theorem turn_stk (ks : List Nat) (k : Env → Out) : (Out.stk).turn ks k = .stk := (rfl)
section
variable {c : Prop} [Decidable c] {α β : Type}
@[simp] theorem ite_seq (a b : Out) (g : Env → Out) : (if c then a else b).seq g = if c then a.seq g else b.seq g := by split <;> rfl
@[simp] theorem ite_turn (a b : Out) (ks : List Nat) (g : Env → Out) : (if c then a else b).turn ks g = if c then a.turn ks g else b.turn ks g := by split <;> rfl
@[simp] theorem ite_out (a b : R α) (ρ : Env) (k : α → Out) : (if c then a else b).out ρ k = if c then a.out ρ k else b.out ρ k := by split <;> rfl
@[simp] theorem ite_bind (a b : R α) (k : α → R β) : (if c then a else b).bind k = if c then a.bind k else b.bind k := by split <;> rfl
@[simp] theorem ite_nox (a b : R α) : (if c then a else b).nox = if c then a.nox else b.nox := by split <;> rfl
@[simp] theorem ite_outR (a b : Out) : outR (if c then a else b) = if c then outR a else outR b := by split <;> rfl
end
@[simp] theorem outR_nx (r : Env) : outR (.nx r) = .ok .none := (rfl)
@[simp] theorem outR_ret (d : D) (r : Env) : outR (.ret d r) = .ok d := (rfl)
@[simp] theorem outR_exc (x : Exn) (r : Env) : outR (.exc x r) = .exc x := (rfl)
@[simp] theorem outR_stk : outR .stk = .stk := (rfl)
section
variable (f g h : Env → R D) (c d : Env → R Bool) (l : Env → R (List D)) (u v : Env → Out) (ρ : Env) (ms is ks : List Nat) (t : D → Option (List D)) (op op2 : D → D → R D) (i : Nat)
@[simp] theorem e_seqS : seqS u v ρ = (u ρ).seq v := (rfl)
@[simp] theorem e_nxS : nxS ρ = .nx ρ := (rfl)
@[simp] theorem e_ifS : ifS c u v ρ = (c ρ).out ρ fun b => if b = true then u ρ else v ρ := by
  unfold ifS
  cases c ρ <;> rfl
@[simp] theorem e_retS : retS f ρ = (f ρ).out ρ fun d => .ret d ρ := by
  unfold retS
  cases f ρ <;> rfl
@[simp] theorem e_retN : retN ρ = .ret .none ρ := (rfl)
@[simp] theorem e_brkS : brkS ρ = .brk ρ := (rfl)
@[simp] theorem e_cntS : cntS ρ = .cnt ρ := (rfl)
@[simp] theorem e_expS : expS f ρ = (f ρ).out ρ fun _ => .nx ρ := by
  unfold expS
  cases f ρ <;> rfl
@[simp] theorem e_asg1 : asgS ms is t1 f ρ = (f ρ).out ρ fun d => .nx (setsD is [d] (kill ms ρ)) := by
  unfold asgS
  cases f ρ <;> rfl
theorem e_asgS : asgS ms is t f ρ = (f ρ).out ρ fun d => match t d with
    | some ds => .nx (setsD is ds (kill ms ρ))
    | none => .stk := by
  unfold asgS
  cases f ρ <;> rfl
@[simp] theorem e_b2 : b2 op f g ρ = (f ρ).bind fun x => (g ρ).bind fun y => op x y := (rfl)
@[simp] theorem e_b1 (op : D → R D) : b1 op f ρ = (f ρ).bind op := (rfl)
@[simp] theorem e_cst (d : D) : cst d ρ = .ok d := (rfl)
@[simp] theorem e_vr : vr i ρ = match ρ[i]? with
  | some (some d) => .ok d
  | _ => .stk := (rfl)
@[simp] theorem e_chkE : chkE f ρ = (f ρ).bind chk := (rfl)
@[simp] theorem e_tb : Dg.tb f ρ = (f ρ).bind tst := (rfl)
@[simp] theorem e_notT : notT c ρ = (c ρ).bind fun b => .ok (!b) := (rfl)
@[simp] theorem e_andT : andT c d ρ = (c ρ).bind fun b => if b = true then d ρ else .ok false := (rfl)
@[simp] theorem e_orT : orT c d ρ = (c ρ).bind fun b => if b = true then .ok true else d ρ := (rfl)
@[simp] theorem e_ifE : ifE c f g ρ = (c ρ).bind fun b => if b = true then f ρ else g ρ := (rfl)
theorem e_ch3 : ch3 op op2 f g h ρ = (f ρ).bind fun x => (g ρ).bind fun y => ((op x y).bind tst).bind fun b => if b = true then (h ρ).bind fun z => op2 y z else .ok (.bool false) := by
  unfold ch3
  cases f ρ with
  | ok x =>
    cases g ρ with
    | ok y =>
      simp only [R.bind_ok]
      cases op x y with
      | ok q =>
        cases q with
        | bool b => cases b <;> rfl
        | _ => rfl
      | exc z => rfl
      | stk => rfl
    | exc z => rfl
    | stk => rfl
  | exc z => rfl
  | stk => rfl
@[simp] theorem e_call (k : List D → R D) : call k l ρ = (l ρ).bind k := (rfl)
@[simp] theorem e_callP (k : List D → R D) : callP k l ρ = (l ρ).bind fun ds => (k ds).nox := (rfl)
@[simp] theorem e_nilL : nilL ρ = .ok [] := (rfl)
@[simp] theorem e_conL : conL f l ρ = (f ρ).bind fun d => (l ρ).bind fun ds => .ok (d :: ds) := (rfl)
@[simp] theorem e_tupE : tupE l ρ = (l ρ).bind fun ds => .ok (.tuple ds) := (rfl)
@[simp] theorem e_lstE : lstE l ρ = (l ρ).bind fun ds => .ok (.list ds) := (rfl)
@[simp] theorem e_newD : newD ρ = .ok (.dict []) := (rfl)
@[simp] theorem e_slE (a b : Env → R (Option Int)) : slE f a b ρ = (f ρ).bind fun x => (a ρ).bind fun i => (b ρ).bind fun j => dSl x i j := (rfl)
@[simp] theorem e_noO : noO ρ = .ok none := (rfl)
@[simp] theorem e_toO : toO f ρ = (f ρ).bind asI := (rfl)
@[simp] theorem e_itE : itE f ρ = (f ρ).bind dItems := (rfl)
@[simp] theorem e_rgE : rgE l ρ = (l ρ).bind dRange := (rfl)
@[simp] theorem e_mth : mth op f g ρ = (f ρ).bind fun x => match x with
  | .str _ => (g ρ).bind fun y => op x y
  | _ => .stk := (rfl)
@[simp] theorem e_yesT : yesT ρ = .ok true := (rfl)
@[simp] theorem asI_int (j : Int) : asI (.int j) = .ok (some j) := (rfl)
theorem e_forS : forS is t ks l u ρ = (l ρ).out ρ fun xs => turns is t ks u xs (kill ks ρ) := by
  unfold forS
  cases l ρ <;> rfl
theorem turns_cons1 (x : D) (xs : List D) : turns is t1 ks u (x :: xs) ρ = (u (setsD is [x] ρ)).turn ks fun r => turns is t1 ks u xs r := by
  rw [turns]
  simp only [t1]
  cases u (setsD is [x] ρ) <;> rfl
theorem turns_consN (x : D) (xs ds : List D) (h : t x = some ds) : turns is t ks u (x :: xs) ρ = (u (setsD is ds ρ)).turn ks fun r => turns is t ks u xs r := by
  rw [turns, h]
  simp only
  cases u (setsD is ds ρ) <;> rfl
theorem turns_nil : turns is t ks u [] ρ = .nx ρ := (rfl)
theorem e_compE (elt : Env → R D) : compE is t l c elt ρ = (l ρ).bind fun xs => if xs.length ≤ sizeLine then (compGo is t c elt (kill is ρ) xs).bind fun ys => .ok (.list ys) else .stk := (rfl)
end
@[simp] theorem kill_nil (ρ : Env) : kill [] ρ = ρ := (rfl)
@[simp] theorem kill_cons (i : Nat) (is : List Nat) (ρ : Env) : kill (i :: is) ρ = kill is (ρ.set i none) := (rfl)
@[simp] theorem setsD_nil (ds : List D) (ρ : Env) : setsD [] ds ρ = ρ := by cases ds <;> rfl
@[simp] theorem setsD_cons (i : Nat) (is : List Nat) (d : D) (ds : List D) (ρ : Env) : setsD (i :: is) (d :: ds) ρ = setsD is ds (ρ.set i (some d)) := (rfl)
@[simp] theorem mutS_eq (i : Nat) (ms : List Nat) (g : List D → List D → Option D) (f : Env → R (List D)) (ρ : Env) : mutS i ms g f ρ = match ρ[i]? with
  | some (some (.list xs)) => (f ρ).out ρ fun ds => match g xs ds with
    | some d => .nx ((kill ms ρ).set i (some d))
    | none => .stk
  | _ => .stk := by
  unfold mutS
  generalize ρ[i]? = o
  rcases o with _ | _ | d
  · rfl
  · rfl
  · cases d <;> first | rfl | (cases f ρ <;> rfl)
/-- a comprehension without a test, each element given -/
theorem compGo_map {is : List Nat} {t : D → Option (List D)} {elt : Env → R D} {ρ : Env} {α : Type} (en : α → D) (g : α → D) : ∀ (xs : List α), (∀ x ∈ xs, ∃ ds, t (en x) = some ds ∧ elt (setsD is ds ρ) = .ok (g x)) → compGo is t yesT elt ρ (xs.map en) = .ok (xs.map g)
  | [], _ => rfl
  | x :: xs, h => by
    obtain ⟨ds, e1, e2⟩ := h x List.mem_cons_self
    have ih := compGo_map en g xs fun y hy => h y (List.mem_cons_of_mem _ hy)
    rw [List.map_cons, compGo, e1]
    simp only [e_yesT, nox_ok, R.bind_ok, if_pos, e2, ih, List.map_cons]
/-- .. with a test -/
theorem compGo_filter {is : List Nat} {t : D → Option (List D)} {c : Env → R Bool} {elt : Env → R D} {ρ : Env} {α : Type} (en : α → D) (p : α → Bool) (g : α → D) : ∀ (xs : List α), (∀ x ∈ xs, ∃ ds, t (en x) = some ds ∧ c (setsD is ds ρ) = .ok (p x) ∧ (p x = true → elt (setsD is ds ρ) = .ok (g x))) → compGo is t c elt ρ (xs.map en) = .ok ((xs.filter p).map g)
  | [], _ => rfl
  | x :: xs, h => by
    obtain ⟨ds, e1, e2, e3⟩ := h x List.mem_cons_self
    have ih := compGo_filter en p g xs fun y hy => h y (List.mem_cons_of_mem _ hy)
    rw [List.map_cons, compGo, e1]
    simp only [e2, nox_ok, R.bind_ok]
    cases hp : p x with
    | false =>
      rw [List.filter_cons_of_neg (by rw [hp]; exact Bool.false_ne_true), if_neg Bool.false_ne_true]
      exact ih
    | true =>
      rw [List.filter_cons_of_pos hp, if_pos rfl, e3 hp]
      simp only [nox_ok, R.bind_ok, ih, List.map_cons]
/-- a loop as a fold -/
theorem turns_fold {is ks : List Nat} {t : D → Option (List D)} {body : Env → Out} {α S : Type} (en : α → D) (st : S → Env) (step : S → α → S) : ∀ (xs : List α) (s : S), (∀ s, ∀ x ∈ xs, ∃ ds, t (en x) = some ds ∧ ∃ r, (body (setsD is ds (st s)) = .nx r ∨ body (setsD is ds (st s)) = .cnt r) ∧ kill ks r = st (step s x)) → turns is t ks body (xs.map en) (st s) = .nx (st (xs.foldl step s))
  | [], s, _ => rfl
  | x :: xs, s, h => by
    obtain ⟨ds, e1, r, e2, e3⟩ := h s x List.mem_cons_self
    rw [List.map_cons, turns_consN _ _ _ _ _ _ _ _ e1]
    have ih := turns_fold en st step xs (step s x) fun s y hy => h s y (List.mem_cons_of_mem _ hy)
    rcases e2 with e2 | e2 <;> (rw [e2]; simp only [turn_nx, turn_cnt, e3, ih, List.foldl_cons])
/-- .. with what holds of the state at each turn (the items taken so far) -/
theorem turns_foldI {is ks : List Nat} {t : D → Option (List D)} {body : Env → Out} {α S : Type} (en : α → D) (st : S → Env) (step : S → α → S) (I : Nat → S → Prop) : ∀ (xs : List α) (n : Nat) (s : S), I n s → (∀ n s, ∀ x ∈ xs, I n s → I (n + 1) (step s x) ∧ ∃ ds, t (en x) = some ds ∧ ∃ r, (body (setsD is ds (st s)) = .nx r ∨ body (setsD is ds (st s)) = .cnt r) ∧ kill ks r = st (step s x)) → turns is t ks body (xs.map en) (st s) = .nx (st (xs.foldl step s)) ∧ I (n + xs.length) (xs.foldl step s)
  | [], n, s, hI, _ => ⟨rfl, hI⟩
  | x :: xs, n, s, hI, h => by
    obtain ⟨hI2, ds, e1, r, e2, e3⟩ := h n s x List.mem_cons_self hI
    rw [List.map_cons, turns_consN _ _ _ _ _ _ _ _ e1]
    obtain ⟨ih1, ih2⟩ := turns_foldI en st step I xs (n + 1) (step s x) hI2 fun n s y hy => h n s y (List.mem_cons_of_mem _ hy)
    refine ⟨?_, ?_⟩
    · rcases e2 with e2 | e2 <;> (rw [e2]; simp only [turn_nx, turn_cnt, e3, ih1, List.foldl_cons])
    · rw [List.length_cons, Nat.add_comm xs.length 1, ← Nat.add_assoc]
      exact ih2
/-- a loop that searches: it goes on where p holds, and hands back d where it doesn't -/
theorem turns_search {is ks : List Nat} {t : D → Option (List D)} {body : Env → Out} {α : Type} {ρ : Env} {d : D} (en : α → D) (p : α → Bool) : ∀ (xs : List α), (∀ x ∈ xs, ∃ ds, t (en x) = some ds ∧ (p x = true → ∃ r, (body (setsD is ds ρ) = .nx r ∨ body (setsD is ds ρ) = .cnt r) ∧ kill ks r = ρ) ∧ (p x = false → ∃ r, body (setsD is ds ρ) = .ret d r)) →
    (xs.all p = true → turns is t ks body (xs.map en) ρ = .nx ρ) ∧ (xs.all p = false → ∃ r, turns is t ks body (xs.map en) ρ = .ret d r)
  | [], _ => ⟨(fun _ => rfl), (fun h => by cases h)⟩
  | x :: xs, h => by
    obtain ⟨ds, e1, e2, e3⟩ := h x List.mem_cons_self
    obtain ⟨i1, i2⟩ := turns_search en p xs fun y hy => h y (List.mem_cons_of_mem _ hy)
    rw [List.map_cons, turns_consN _ _ _ _ _ _ _ _ e1, List.all_cons]
    cases hp : p x with
    | true =>
      obtain ⟨r, e4, e5⟩ := e2 hp
      rw [Bool.true_and]
      rcases e4 with e4 | e4 <;> (rw [e4]; simp only [turn_nx, turn_cnt, e5]; exact ⟨i1, i2⟩)
    | false =>
      obtain ⟨r, e4⟩ := e3 hp
      rw [e4, Bool.false_and]
      exact ⟨(fun z => by cases z), (fun _ => ⟨r, rfl⟩)⟩
end Dg

/-! Dv2: values of laws in common: trees that can be compared, positions, texts, ranges -/
namespace Dg
open PySem PySem.Spec PyProof.Rows L2
/-! ### trees of a depth -/
def OkN (n : Nat) (d : D) : Prop := flat d = true ∧ d.plain = true ∧ d.depth ≤ n
theorem okN_int (n : Nat) (i : Int) : OkN n (.int i) := ⟨rfl, rfl, Nat.zero_le _⟩
theorem okN_str (n : Nat) (i : Str) : OkN n (.str i) := ⟨rfl, rfl, Nat.zero_le _⟩
theorem okN_bool (n : Nat) (i : Bool) : OkN n (.bool i) := ⟨rfl, rfl, Nat.zero_le _⟩
theorem okN_none (n : Nat) : OkN n .none := ⟨rfl, rfl, Nat.zero_le _⟩
theorem okN_all {n : Nat} : ∀ {ds : List D}, (∀ d ∈ ds, OkN n d) → flatL ds = true ∧ PyData.plainAll ds = true ∧ PyData.depthAll ds ≤ n
  | [], _ => ⟨rfl, rfl, Nat.zero_le _⟩
  | d :: ds, h => by
    obtain ⟨a, b, c⟩ := okN_all fun z hz => h z (List.mem_cons_of_mem _ hz)
    obtain ⟨a1, b1, c1⟩ := h d List.mem_cons_self
    refine ⟨?_, ?_, ?_⟩
    · simp [flatL, a, a1]
    · simp [PyData.plainAll, b, b1]
    · simp only [PyData.depthAll]
      omega
theorem okN_list {n : Nat} {ds : List D} (h : ∀ d ∈ ds, OkN n d) : OkN (n + 1) (.list ds) := by
  obtain ⟨a, b, c⟩ := okN_all h
  refine ⟨?_, ?_, ?_⟩
  · simpa [flat] using a
  · simpa [PyData.plain] using b
  · simp only [PyData.depth]
    omega
theorem okN_tup {n : Nat} {ds : List D} (h : ∀ d ∈ ds, OkN n d) : OkN (n + 1) (.tuple ds) := by
  obtain ⟨a, b, c⟩ := okN_all h
  refine ⟨?_, ?_, ?_⟩
  · simpa [flat] using a
  · simpa [PyData.plain] using b
  · simp only [PyData.depth]
    omega
theorem OkN.ok {n : Nat} {d : D} (h : OkN n d) (hn : n ≤ 60 := by decide) : okD d = true := by
  unfold okD
  rw [h.1, h.2.1, decide_eq_true (Nat.le_trans h.2.2 hn)]
  rfl
theorem dEq_self {d : D} (h : okD d = true) : dEq d d = .ok (.bool true) := by
  unfold dEq
  rw [h, if_pos (show (true && true) = true from rfl), PySem.SeqAt.eqv_refl_plain d (okD.plain h)]
theorem dNe_self {d : D} (h : okD d = true) : dNe d d = .ok (.bool false) := by
  unfold dNe
  rw [h, if_pos (show (true && true) = true from rfl), PySem.SeqAt.eqv_refl_plain d (okD.plain h)]
  rfl
/-! ### immutable trees -/
theorem immL_of {ds : List D} (h : ∀ d ∈ ds, imm d = true) : immL ds = true := by
  induction ds with
  | nil => rfl
  | cons d ds ih =>
    rw [immL, h d List.mem_cons_self, ih fun z hz => h z (List.mem_cons_of_mem _ hz)]
    rfl
theorem immL_map {α : Type} (f : α → D) (xs : List α) (h : ∀ x, imm (f x) = true) : immL (xs.map f) = true := immL_of fun d hd => by
  obtain ⟨x, _, e⟩ := List.mem_map.mp hd
  rw [← e]
  exact h x
@[simp] theorem imm_int (i : Int) : imm (.int i) = true := (rfl)
@[simp] theorem imm_str (i : Str) : imm (.str i) = true := (rfl)
/-! ### operations at plain values -/
theorem dMod_pos {i j : Int} (h : 0 < j) : dMod (.int i) (.int j) = .ok (.int (i % j)) := if_pos h
theorem small_of {i : Int} (h : -(2 ^ 64) < i ∧ i < 2 ^ 64) : smallI i = true := decide_eq_true h
theorem dPow_nat {i j : Int} (h : 0 ≤ j ∧ j ≤ 1000000 ∧ i.natAbs < 2 ^ 64) : dPow (.int i) (.int j) = .ok (.int (i ^ j.toNat)) := if_pos h
theorem dAdd_strs {a b : Str} (h : a.length + b.length ≤ sizeLine) : dAdd (.str a) (.str b) = .ok (.str (a ++ b)) := if_pos h
theorem dAdd_lists {a b : List D} (h : (immL a && immL b) = true ∧ a.length + b.length ≤ sizeLine) : dAdd (.list a) (.list b) = .ok (.list (a ++ b)) := if_pos h
theorem dIx_str1 {a : Str} (h : a.length ≤ sizeLine) {i : Int} {k : Nat} (hi : i = k) (hk : k < a.cps.toList.length) : dIx (.str a) (.int i) = .ok (.str ⟨#[a.cps.toList[k]]⟩) := by
  subst hi
  show (if a.length ≤ sizeLine then ofO ((atI a.cps.toList (k : Int)).map fun c => PyData.str ⟨#[c]⟩) else .stk) = _
  rw [if_pos h, show atI a.cps.toList (k : Int) = some a.cps.toList[k] from atI_nat (List.getElem?_eq_getElem hk)]
  rfl
theorem dIx_listN {xs : List D} {i : Int} {k : Nat} (hi : i = k) (hk : k < xs.length) : dIx (.list xs) (.int i) = .ok xs[k] := by
  subst hi
  show ofO (atI xs (k : Int)) = _
  rw [show atI xs (k : Int) = some xs[k] from atI_nat (List.getElem?_eq_getElem hk)]
  rfl
theorem dIx_two {x y : D} {i : Int} (h : i = 0 ∨ i = 1) : dIx (.list [x, y]) (.int i) = .ok (if i = 0 then x else y) := by
  rcases h with h | h
  · subst h
    rfl
  · subst h
    rfl
theorem dLen_list (xs : List D) : dLen [.list xs] = .ok (.int xs.length) := (rfl)
theorem dLen_strN {a : Str} (h : a.length ≤ sizeLine) : dLen [.str a] = .ok (.int a.length) := if_pos h
theorem dMax_int (i j : Int) : dMax2 [.int i, .int j] = .ok (.int (if j > i then j else i)) := (rfl)
theorem dMin_int (i j : Int) : dMin2 [.int i, .int j] = .ok (.int (if j < i then j else i)) := (rfl)
theorem dItems_list (xs : List D) : dItems (.list xs) = .ok xs := (rfl)
theorem dRange_one {j : Nat} (h : big62 j = true) : dRange [.int j] = .ok ((List.range j).map fun (i : Nat) => .int i) := by
  show (if big62 (j : Int) = true then R.ok ((List.range (j : Int).toNat).map fun (i : Nat) => PyData.int (0 + i)) else R.stk) = _
  rw [if_pos h]
  simp
/-! ### a script's cells -/
def scrD (ns : List Int) : D := .dict [(.none, .list (ns.map .int))]
theorem dLen_scr (ns : List Int) : dLen [scrD ns] = .ok (.int ns.length) := by
  unfold scrD dLen
  simp
theorem dIx_scr (ns : List Int) (k : Nat) (h : k < ns.length) : dIx (scrD ns) (.int k) = .ok (.int (ns.getD k 0)) := by
  show ofO (atI (ns.map PyData.int) (k : Int)) = _
  rw [show atI (ns.map PyData.int) (k : Int) = some ((ns.map PyData.int)[k]'(by rw [List.length_map]; exact h)) from atI_nat (List.getElem?_eq_getElem (by rw [List.length_map]; exact h))]
  rw [List.getElem_map, List.getD_eq_getElem?_getD, List.getElem?_eq_getElem h]
  rfl
theorem dSl_scr (ns : List Int) (a b : Option Int) : dSl (scrD ns) a b = .ok (.list ((cutA ns a b).map .int)) := by
  show (if immL (ns.map PyData.int) = true then R.ok (PyData.list (cutA (ns.map PyData.int) a b)) else .stk) = _
  rw [if_pos (immL_map _ ns imm_int)]
  unfold cutA
  rw [List.length_map, ← List.map_drop, ← List.map_take]
theorem cutA_len {α : Type} (xs : List α) (a b : Nat) : (cutA xs (some (a : Int)) (some (b : Int))).length ≤ b - a := by
  unfold cutA
  rw [HT.sIx_nat, HT.sIx_nat, List.length_take]
  omega
/-- the laws' mixing of a cell -/
def part (c k m : Int) : Int := (c % 99991 + 17) * (48271 + 7919 * k) % 65537 * (k + 3) % 8191 % m
theorem part_pos (c k : Int) {m : Int} (h : 0 < m) : 0 ≤ part c k m ∧ part c k m < m := ⟨Int.emod_nonneg _ (by omega), Int.emod_lt_of_pos _ h⟩
theorem part_nat (c k : Int) {m : Nat} (h : 0 < m) : ∃ j : Nat, part c k m = j ∧ j < m := by
  obtain ⟨a, b⟩ := part_pos c k (m := m) (by omega)
  exact ⟨(part c k m).toNat, by omega, by omega⟩
theorem part_two (c k : Int) : part c k 2 = 0 ∨ part c k 2 = 1 := by
  obtain ⟨a, b⟩ := part_pos c k (m := 2) (by decide)
  omega
theorem part_ok (c k m : Int) (h : 0 < m) (ρ : Env) (h0 : ρ[0]? = some (some (.int c))) (h1 : ρ[1]? = some (some (.int k))) (h2 : ρ[2]? = some (some (.int m))) :
    b2 dMod (b2 dMod (b2 dMul2 (b2 dMod (b2 dMul2 (b2 dAdd (b2 dMod (vr 0) (cst (.int 99991))) (cst (.int 17))) (b2 dAdd (cst (.int 48271)) (b2 dMul2 (cst (.int 7919)) (vr 1)))) (cst (.int 65537))) (b2 dAdd (vr 1) (cst (.int 3)))) (cst (.int 8191))) (vr 2) ρ = .ok (.int (part c k m)) := by
  have a1 := Int.emod_nonneg c (show (99991 : Int) ≠ 0 by decide)
  have a2 := Int.emod_lt_of_pos c (show (0 : Int) < 99991 by decide)
  have b1 := Int.emod_nonneg ((c % 99991 + 17) * (48271 + 7919 * k)) (show (65537 : Int) ≠ 0 by decide)
  have b2 := Int.emod_lt_of_pos ((c % 99991 + 17) * (48271 + 7919 * k)) (show (0 : Int) < 65537 by decide)
  have s1 : smallI (c % 99991 + 17) = true := small_of (by omega)
  have s2 : smallI ((c % 99991 + 17) * (48271 + 7919 * k) % 65537) = true := small_of (by omega)
  have s3 : smallI 7919 = true := by decide
  have m1 := dMod_pos (i := c) (j := 99991) (by decide)
  have m2 := dMod_pos (i := (c % 99991 + 17) * (48271 + 7919 * k)) (j := 65537) (by decide)
  have m3 := dMod_pos (i := (c % 99991 + 17) * (48271 + 7919 * k) % 65537 * (k + 3)) (j := 8191) (by decide)
  have m4 := dMod_pos (i := (c % 99991 + 17) * (48271 + 7919 * k) % 65537 * (k + 3) % 8191) (j := m) h
  simp only [e_b2, e_vr, e_cst, h0, h1, h2, R.bind_ok, m1, dAdd_int, dMul_left s3, dMul_left s1, m2, dMul_left s2, m3, m4]
  rfl
end Dg

/-! Dt1: from trees to typed values. A def's typed mirror (t_NAME) is printed by gent.py; the lemmas here bring what its den comes to into that form. -/
namespace Dg
open PySem PySem.Spec PyProof.Rows L2
def R.rc {α β : Type} (r : R α) (f : α → β) (e : Exn → β) (z : β) : β := match r with
  | .ok a => f a
  | .exc x => e x
  | .stk => z
def R.map {α β : Type} (r : R α) (g : α → β) : R β := match r with
  | .ok a => .ok (g a)
  | .exc x => .exc x
  | .stk => .stk
def Out.cs {β : Type} (o : Out) (n : Env → β) (r : D → β) (b c : Env → β) (e : Exn → β) (z : β) : β := match o with
  | .nx ρ => n ρ
  | .ret d _ => r d
  | .brk ρ => b ρ
  | .cnt ρ => c ρ
  | .exc x _ => e x
  | .stk => z
section
variable {α β γ : Type} {r : R α} {f : α → β} {e : Exn → β} {z : β}
theorem rc_ok (a : α) : (R.ok a).rc f e z = f a := (rfl)
theorem rc_exc (x : Exn) : (R.exc x : R α).rc f e z = e x := (rfl)
theorem rc_stk : (R.stk : R α).rc f e z = z := (rfl)
theorem rc_bind {k : γ → R α} {q : R γ} : (q.bind k).rc f e z = q.rc (fun a => (k a).rc f e z) e z := by cases q <;> rfl
theorem rc_map {g : γ → α} {q : R γ} : (q.map g).rc f e z = q.rc (fun a => f (g a)) e z := by cases q <;> rfl
theorem rc_ite {c : Prop} [Decidable c] {p q : R α} : (if c then p else q).rc f e z = if c then p.rc f e z else q.rc f e z := by split <;> rfl
theorem rc_cg {f' : α → β} (h : ∀ a, f a = f' a) : r.rc f e z = r.rc f' e z := by
  cases r
  · exact h _
  · rfl
  · rfl
theorem map_ok (g : α → β) (a : α) : (R.ok a).map g = .ok (g a) := (rfl)
theorem map_stk (g : α → β) : (R.stk : R α).map g = .stk := (rfl)
theorem bind_map {g : γ → α} {q : R γ} {k : α → R β} : (q.map g).bind k = q.bind fun a => k (g a) := by cases q <;> rfl
theorem map_nox {g : α → β} : (r.map g).nox = r.nox.map g := by cases r <;> rfl
theorem nox_nox : r.nox.nox = r.nox := by cases r <;> rfl
theorem map_nox_rc {g : α → β} : r.nox.map g = r.rc (fun v => .ok (g v)) (fun _ => .stk) .stk := by cases r <;> rfl
theorem map_map {g : α → β} {h : β → γ} : (r.map g).map h = r.map fun a => h (g a) := by cases r <;> rfl
end
theorem ite_cg {β : Type} {c : Prop} [Decidable c] {a a' b b' : β} (h1 : c → a = a') (h2 : ¬ c → b = b') : (if c then a else b) = if c then a' else b' := by
  split
  · exact h1 ‹_›
  · exact h2 ‹_›
section
variable {β : Type} (n : Env → β) (r : D → β) (b c : Env → β) (e : Exn → β) (z : β)
/-- what follows, told with its text alone -/
def kS (g : Env → Out) : Env → β := fun ρ => (g ρ).cs n r b c e z
def kK (ks : List Nat) : Env → β := fun ρ => n (kill ks ρ)
def kM (ps ow : List Nat) (ρ0 : Env) : Env → β := fun ρ => n (mixE ps ow 0 ρ0 ρ)
theorem kS_ap (g : Env → Out) (ρ : Env) : kS n r b c e z g ρ = (g ρ).cs n r b c e z := (rfl)
theorem kK_ap (ks : List Nat) (ρ : Env) : kK n ks ρ = n (kill ks ρ) := (rfl)
theorem kM_ap (ps ow : List Nat) (ρ0 ρ : Env) : kM n ps ow ρ0 ρ = n (mixE ps ow 0 ρ0 ρ) := (rfl)
variable (f g : Env → Out) (ρ : Env) (t : Env → R Bool) (d : Env → R D) (l : Env → R (List D)) (ms is ks ps ow : List Nat) (i : Nat)
theorem cs_seqS : (seqS f g ρ).cs n r b c e z = (f ρ).cs (kS n r b c e z g) r b c e z := by
  unfold seqS kS
  cases f ρ <;> rfl
theorem cs_nxS : (nxS ρ).cs n r b c e z = n ρ := (rfl)
theorem cs_stkS : (stkS ρ).cs n r b c e z = z := (rfl)
theorem cs_ifS : (ifS t f g ρ).cs n r b c e z = (t ρ).rc (fun q => if q = true then (f ρ).cs n r b c e z else (g ρ).cs n r b c e z) e z := by
  unfold ifS
  cases t ρ with
  | ok q =>
    dsimp only [R.rc]
    split <;> rfl
  | _ => rfl
theorem cs_retS : (retS d ρ).cs n r b c e z = (d ρ).rc r e z := by
  unfold retS
  cases d ρ <;> rfl
theorem cs_retN : (retN ρ).cs n r b c e z = r .none := (rfl)
theorem cs_asg1 : (asgS ms is t1 d ρ).cs n r b c e z = (d ρ).rc (fun v => n (setsD is [v] (kill ms ρ))) e z := by
  unfold asgS
  cases d ρ <;> rfl
def tupR (k : Nat) (d : D) : R (List D) := match d with
  | .tuple ds => if ds.length = k then .ok ds else .stk
  | _ => .stk
theorem cs_asgN (k : Nat) : (asgS ms is (tN k) d ρ).cs n r b c e z = (d ρ).rc (fun v => (tupR k v).rc (fun ds => n (setsD is ds (kill ms ρ))) e z) e z := by
  unfold asgS tN tupR
  cases d ρ with
  | ok v =>
    dsimp only [R.rc]
    cases v with
    | tuple ds =>
      dsimp only
      by_cases h : ds.length = k
      · rw [if_pos h, if_pos h]
        rfl
      · rw [if_neg h, if_neg h]
        rfl
    | _ => rfl
  | _ => rfl
theorem cs_expS : (expS d ρ).cs n r b c e z = (d ρ).rc (fun _ => n ρ) e z := by
  unfold expS
  cases d ρ <;> rfl
theorem cs_forS (t' : D → Option (List D)) (u : Env → Out) : (forS is t' ks l u ρ).cs n r b c e z = (l ρ).rc (fun xs => (turns is t' ks u xs (kill ks ρ)).cs n r b c e z) e z := by
  unfold forS
  cases l ρ <;> rfl
theorem cs_parS : (parS ms is l ρ).cs n r b c e z = (l ρ).rc (fun ds => if ds.length = is.length then n (setsD is ds (kill ms ρ)) else z) e z := by
  unfold parS
  cases l ρ with
  | ok ds =>
    dsimp only [R.rc]
    split <;> rfl
  | _ => rfl
def slL (o : Option (Option D)) : R (List D) := match o with
  | some (some (.list xs)) => .ok xs
  | _ => .stk
def slD (o : Option (Option D)) : R (List (D × D)) := match o with
  | some (some (.dict xs)) => .ok xs
  | _ => .stk
def optR {α : Type} (o : Option α) : R α := match o with
  | some a => .ok a
  | none => .stk
theorem cs_mutS (g : List D → List D → Option D) : (mutS i ms g l ρ).cs n r b c e z = (slL ρ[i]?).rc (fun xs => (l ρ).rc (fun ds => (optR (g xs ds)).rc (fun d => n ((kill ms ρ).set i (some d))) e z) e z) e z := by
  rw [mutS_eq]
  generalize ρ[i]? = o
  rcases o with _ | _ | d
  · rfl
  · rfl
  · cases d with
    | list xs =>
      dsimp only [slL, R.rc]
      cases l ρ with
      | ok ds =>
        dsimp only [R.out, R.rc]
        cases g xs ds <;> rfl
      | _ => rfl
    | _ => rfl
theorem cs_dputS (dk dv : Env → R D) : (dputS i ms dk dv ρ).cs n r b c e z = (dv ρ).rc (fun v => (slD ρ[i]?).rc (fun kvs => (dk ρ).rc (fun y => (optR (putT kvs y v)).rc (fun es => n ((kill ms ρ).set i (some (.dict es)))) e z) e z) e z) e z := by
  unfold dputS
  cases dv ρ with
  | ok v =>
    dsimp only [R.rc]
    generalize ρ[i]? = o
    rcases o with _ | _ | d
    · rfl
    · rfl
    · cases d with
      | dict kvs =>
        dsimp only [slD, R.rc]
        cases dk ρ with
        | ok y =>
          dsimp only [R.rc]
          cases putT kvs y v <;> rfl
        | _ => rfl
      | _ => rfl
  | _ => rfl
theorem cs_lendS : (lendS ps ow f ρ).cs n r b c e z = (f ρ).cs (kM n ps ow ρ) r b c e z := by
  unfold lendS
  cases f ρ <;> rfl
end
theorem f_cs (n : Nat) (d : Env → Out) (ds : List D) : (runF n d ds).nox = (d (startD n ds)).cs (fun _ => .ok .none) .ok (fun _ => .stk) (fun _ => .stk) (fun _ => .stk) .stk := by
  unfold runF outR
  cases d (startD n ds) <;> rfl
/-! ### loops -/
def forR {α S : Type} : List α → S → (α → S → R S) → R S
  | [], s, _ => .ok s
  | x :: xs, s, f => (f x s).bind fun s => forR xs s f
theorem turns_forR {is ks : List Nat} {t : D → Option (List D)} {body : Env → Out} {α S : Type} (en : α → D) (st : S → Env) (f : α → S → R S)
    (hb : ∀ (x : α) (s : S), ∃ ds, t (en x) = some ds ∧ ∀ (β : Type) (m : Env → β) (r : D → β) (b : Env → β) (e : Exn → β) (z : β), (body (setsD is ds (st s))).cs (kK m ks) r b (kK m ks) e z = (f x s).rc (fun s' => m (st s')) e z) :
    ∀ (xs : List α) (s : S) {β : Type} (n : Env → β) (r : D → β) (b c : Env → β) (e : Exn → β) (z : β), (turns is t ks body (xs.map en) (st s)).cs n r b c e z = (forR xs s f).rc (fun s' => n (st s')) e z
  | [], s, β, n, r, b, c, e, z => rfl
  | x :: xs, s, β, n, r, b, c, e, z => by
    obtain ⟨ds, h1, h2⟩ := hb x s
    rw [List.map_cons, turns_consN _ _ _ _ _ _ _ _ h1, forR, rc_bind]
    have ih := fun s' => turns_forR en st f hb xs s' n r b c e z
    have h3 := h2 β (fun ρ => (turns is t ks body (xs.map en) ρ).cs n r b c e z) r (fun ρ => n (kill ks ρ)) e z
    have h4 : ((body (setsD is ds (st s))).turn ks fun r => turns is t ks body (xs.map en) r).cs n r b c e z = (body (setsD is ds (st s))).cs (kK (fun ρ => (turns is t ks body (xs.map en) ρ).cs n r b c e z) ks) r (fun ρ => n (kill ks ρ)) (kK (fun ρ => (turns is t ks body (xs.map en) ρ).cs n r b c e z) ks) e z := by
      cases body (setsD is ds (st s)) <;> rfl
    rw [h4, h3]
    exact rc_cg ih
/-- a loop in which a return may stand -/
inductive Ct (S V : Type) where
  | nx (s : S)
  | ret (v : V)
  | exc (x : Exn)
  | stk
def Ct.cc {S V β : Type} (o : Ct S V) (n : S → β) (r : V → β) (e : Exn → β) (z : β) : β := match o with
  | .nx s => n s
  | .ret v => r v
  | .exc x => e x
  | .stk => z
def R.toC {α S V : Type} (r : R α) (k : α → Ct S V) : Ct S V := r.rc k .exc .stk
def Ct.toR {S V : Type} (o : Ct S V) (k : S → R V) : R V := o.cc k .ok .exc .stk
def Ct.seq {S S' V : Type} (o : Ct S V) (k : S → Ct S' V) : Ct S' V := o.cc k .ret .exc .stk
section
variable {S S' V α β : Type} {n : S → β} {r : V → β} {e : Exn → β} {z : β}
theorem cc_nx (s : S) : (Ct.nx s : Ct S V).cc n r e z = n s := (rfl)
theorem cc_ret (s : V) : (Ct.ret s : Ct S V).cc n r e z = r s := (rfl)
theorem cc_stk : (Ct.stk : Ct S V).cc n r e z = z := (rfl)
theorem cc_toC {q : R α} {k : α → Ct S V} : (q.toC k).cc n r e z = q.rc (fun a => (k a).cc n r e z) e z := by cases q <;> rfl
theorem cc_ite {c : Prop} [Decidable c] {p q : Ct S V} : (if c then p else q).cc n r e z = if c then p.cc n r e z else q.cc n r e z := by split <;> rfl
theorem cc_seq {o : Ct S' V} {k : S' → Ct S V} : (o.seq k).cc n r e z = o.cc (fun s => (k s).cc n r e z) r e z := by cases o <;> rfl
theorem cc_cg {n' : S → β} {r' : V → β} {o : Ct S V} (h : ∀ a, n a = n' a) (h2 : ∀ a, r a = r' a) : o.cc n r e z = o.cc n' r' e z := by
  cases o
  · exact h _
  · exact h2 _
  · rfl
  · rfl
theorem rc_toR {f : V → β} {o : Ct S V} {k : S → R V} : (o.toR k).rc f e z = o.cc (fun s => (k s).rc f e z) f e z := by cases o <;> rfl
end
def forC {α S V : Type} : List α → S → (α → S → Ct S V) → Ct S V
  | [], s, _ => .nx s
  | x :: xs, s, f => (f x s).seq fun s => forC xs s f
theorem turns_forC {is ks : List Nat} {t : D → Option (List D)} {body : Env → Out} {α S V : Type} (en : α → D) (ev : V → D) (st : S → Env) (f : α → S → Ct S V)
    (hb : ∀ (x : α) (s : S), ∃ ds, t (en x) = some ds ∧ ∀ (β : Type) (m : Env → β) (r : D → β) (b : Env → β) (e : Exn → β) (z : β), (body (setsD is ds (st s))).cs (kK m ks) r b (kK m ks) e z = (f x s).cc (fun s' => m (st s')) (fun v => r (ev v)) e z) :
    ∀ (xs : List α) (s : S) {β : Type} (n : Env → β) (r : D → β) (b c : Env → β) (e : Exn → β) (z : β), (turns is t ks body (xs.map en) (st s)).cs n r b c e z = (forC xs s f).cc (fun s' => n (st s')) (fun v => r (ev v)) e z
  | [], s, β, n, r, b, c, e, z => rfl
  | x :: xs, s, β, n, r, b, c, e, z => by
    obtain ⟨ds, h1, h2⟩ := hb x s
    rw [List.map_cons, turns_consN _ _ _ _ _ _ _ _ h1, forC, cc_seq]
    have ih := fun s' => turns_forC en ev st f hb xs s' n r b c e z
    have h3 := h2 β (fun ρ => (turns is t ks body (xs.map en) ρ).cs n r b c e z) r (fun ρ => n (kill ks ρ)) e z
    have h4 : ((body (setsD is ds (st s))).turn ks fun r => turns is t ks body (xs.map en) r).cs n r b c e z = (body (setsD is ds (st s))).cs (kK (fun ρ => (turns is t ks body (xs.map en) ρ).cs n r b c e z) ks) r (fun ρ => n (kill ks ρ)) (kK (fun ρ => (turns is t ks body (xs.map en) ρ).cs n r b c e z) ks) e z := by
      cases body (setsD is ds (st s)) <;> rfl
    rw [h4, h3]
    exact cc_cg ih fun _ => rfl
/-- a comprehension -/
def compGoR {α β : Type} : List α → (α → R Bool) → (α → R β) → R (List β)
  | [], _, _ => .ok []
  | x :: xs, c, f => (c x).nox.bind fun b => if b = true then (f x).nox.bind fun y => (compGoR xs c f).bind fun ys => .ok (y :: ys) else compGoR xs c f
def compR {α β : Type} (xs : List α) (c : α → R Bool) (f : α → R β) : R (List β) := if xs.length ≤ sizeLine then compGoR xs c f else .stk
theorem compGo_R {is : List Nat} {t : D → Option (List D)} {c : Env → R Bool} {elt : Env → R D} {ρ : Env} {α β : Type} (en : α → D) (ev : β → D) (cc : α → R Bool) (ff : α → R β)
    (h : ∀ x, ∃ ds, t (en x) = some ds ∧ c (setsD is ds ρ) = cc x ∧ elt (setsD is ds ρ) = (ff x).map ev) : ∀ xs : List α, compGo is t c elt ρ (xs.map en) = (compGoR xs cc ff).map (List.map ev)
  | [] => rfl
  | x :: xs => by
    obtain ⟨ds, h1, h2, h3⟩ := h x
    rw [List.map_cons, compGo, h1, compGoR]
    dsimp only
    rw [h2, h3, compGo_R en ev cc ff h xs]
    cases cc x with
    | ok b =>
      cases b with
      | true =>
        dsimp only [R.bind, R.nox]
        rw [if_pos rfl, if_pos rfl]
        cases ff x with
        | ok y =>
          dsimp only [R.map, R.bind, R.nox]
          cases compGoR xs cc ff <;> rfl
        | _ => rfl
      | false => rfl
    | _ => rfl
theorem compE_R {is : List Nat} {t : D → Option (List D)} {l : Env → R (List D)} {c : Env → R Bool} {elt : Env → R D} {ρ : Env} {α β : Type} (en : α → D) (ev : β → D) (cc : α → R Bool) (ff : α → R β) (items : R (List α)) (hl : l ρ = items.map (List.map en))
    (h : ∀ x, ∃ ds, t (en x) = some ds ∧ c (setsD is ds (kill is ρ)) = cc x ∧ elt (setsD is ds (kill is ρ)) = (ff x).map ev) : compE is t l c elt ρ = items.bind fun xs => (compR xs cc ff).map fun ys => .list (ys.map ev) := by
  rw [e_compE, hl]
  cases items with
  | ok xs =>
    dsimp only [R.map, R.bind]
    rw [List.length_map, compGo_R en ev cc ff h]
    unfold compR
    split
    · cases compGoR xs cc ff <;> rfl
    · rfl
  | _ => rfl
/-! ### tests -/
def andB (a b : R Bool) : R Bool := a.bind fun x => if x = true then b else .ok false
def orB (a b : R Bool) : R Bool := a.bind fun x => if x = true then .ok true else b
def notB (a : R Bool) : R Bool := a.bind fun x => .ok (!x)
theorem e_andB (c d : Env → R Bool) (ρ : Env) : andT c d ρ = andB (c ρ) (d ρ) := (rfl)
theorem e_orB (c d : Env → R Bool) (ρ : Env) : orT c d ρ = orB (c ρ) (d ρ) := (rfl)
theorem e_notB (c : Env → R Bool) (ρ : Env) : notT c ρ = notB (c ρ) := (rfl)
theorem andB_ok (p q : Bool) : andB (.ok p) (.ok q) = .ok (p && q) := by cases p <;> rfl
theorem orB_ok (p q : Bool) : orB (.ok p) (.ok q) = .ok (p || q) := by cases p <;> rfl
theorem notB_ok (p : Bool) : notB (.ok p) = .ok (!p) := (rfl)
def bD (b : R Bool) : R D := b.map .bool
theorem e_andE (f g : Env → R D) (ρ : Env) : (andE f g ρ).bind tst = andB ((f ρ).bind tst) ((g ρ).bind tst) := by
  unfold andE andB
  cases f ρ with
  | ok d =>
    cases d with
    | bool b => cases b <;> rfl
    | _ => rfl
  | _ => rfl
section
variable {α β γ : Type} (r : R α) (k : α → R β) (g : β → R γ) (h : β → γ)
theorem bind_assoc : (r.bind k).bind g = r.bind fun a => (k a).bind g := by cases r <;> rfl
theorem map_bind : (r.bind k).map h = r.bind fun a => (k a).map h := by cases r <;> rfl
theorem map_ite {c : Prop} [Decidable c] (p q : R β) : (if c then p else q).map h = if c then p.map h else q.map h := by split <;> rfl
theorem bind_cg {k' : α → R β} (hh : ∀ a, k a = k' a) : r.bind k = r.bind k' := by
  cases r
  · exact hh _
  · rfl
  · rfl
end
theorem eqI {α : Type} {a b : α} (h : a = b) : a = b := by
  rw [h]
theorem cons_cg {α : Type} {a b : α} {as bs : List α} (h : a = b) (h2 : as = bs) : a :: as = b :: bs := by rw [h, h2]
end Dg

/-! Dt2: while; encoders of typed values, and what the operations come to on them -/
namespace Dg
open PySem PySem.Spec PyProof.Rows L2
/-! ### while -/
def wloopC {S V : Type} (c : S → R Bool) (f : S → Ct S V) : Nat → S → Ct S V
  | 0, _ => .stk
  | n + 1, s => (c s).toC fun b => if b = true then (f s).seq (wloopC c f n) else .nx s
open Classical in
noncomputable def whileC {S V : Type} (c : S → R Bool) (f : S → Ct S V) (s : S) : Ct S V := if h : ∃ n, wloopC c f n s ≠ .stk then wloopC c f h.choose s else .stk
theorem wloopC_mono {S V : Type} {c : S → R Bool} {f : S → Ct S V} : ∀ (n m : Nat) (s : S), wloopC c f n s ≠ .stk → n ≤ m → wloopC c f m s = wloopC c f n s
  | 0, _, _, h, _ => absurd rfl h
  | n + 1, 0, _, _, h => absurd h (Nat.not_succ_le_zero n)
  | n + 1, m + 1, s, h, hl => by
    have ih := fun r hr => wloopC_mono (c := c) (f := f) n m r hr (Nat.le_of_succ_le_succ hl)
    unfold wloopC at h ⊢
    cases e : c s with
    | exc x => rfl
    | stk => rfl
    | ok b =>
      rw [e] at h
      dsimp only [R.toC, R.rc] at h ⊢
      by_cases hb : b = true
      · rw [if_pos hb] at h ⊢
        rw [if_pos hb]
        cases e2 : f s with
        | nx r =>
          rw [e2] at h
          exact ih _ h
        | _ => rfl
      · rw [if_neg hb, if_neg hb]
theorem whileC_of {S V : Type} {c : S → R Bool} {f : S → Ct S V} {n : Nat} {s : S} {o : Ct S V} (h : wloopC c f n s = o) (ho : o ≠ .stk) : whileC c f s = o := by
  have hx : ∃ n, wloopC c f n s ≠ .stk := ⟨n, by rw [h]; exact ho⟩
  unfold whileC
  rw [dif_pos hx]
  have h2 := hx.choose_spec
  rcases Nat.le_total n hx.choose with l | l
  · rw [← h]
    exact wloopC_mono n _ _ (by rw [h]; exact ho) l
  · rw [← h]
    exact (wloopC_mono _ n _ h2 l).symm
theorem wturns_C {ks : List Nat} {tc : Env → R Bool} {body : Env → Out} {S V : Type} (ev : V → D) (st : S → Env) (c : S → R Bool) (f : S → Ct S V) (hc : ∀ s, tc (st s) = c s)
    (hb : ∀ s, ∀ (β : Type) (m : Env → β) (r : D → β) (b : Env → β) (e : Exn → β) (z : β), (body (st s)).cs (kK m ks) r b (kK m ks) e z = (f s).cc (fun s' => m (st s')) (fun v => r (ev v)) e z) :
    ∀ (k : Nat) (s : S) {β : Type} (n : Env → β) (r : D → β) (b c' : Env → β) (e : Exn → β) (z : β), (wturns ks tc body k (st s)).cs n r b c' e z = (wloopC c f k s).cc (fun s' => n (st s')) (fun v => r (ev v)) e z
  | 0, s, β, n, r, b, c', e, z => rfl
  | k + 1, s, β, n, r, b, c', e, z => by
    unfold wturns wloopC
    rw [hc s]
    cases c s with
    | exc x => rfl
    | stk => rfl
    | ok q =>
      dsimp only [R.toC, R.rc]
      by_cases hq : q = true
      · rw [if_pos hq, if_pos hq, cc_seq]
        have ih := fun s' => wturns_C ev st c f hc hb k s' n r b c' e z
        have h3 := hb s β (fun ρ => (wturns ks tc body k ρ).cs n r b c' e z) r (fun ρ => n (kill ks ρ)) e z
        refine Eq.trans ?_ (h3.trans (cc_cg ih fun _ => rfl))
        cases body (st s) <;> rfl
      · rw [if_neg hq, if_neg hq]
        rfl
theorem whileS_C {ks : List Nat} {tc : Env → R Bool} {body : Env → Out} {S V : Type} (ev : V → D) (st : S → Env) (c : S → R Bool) (f : S → Ct S V) (hc : ∀ s, tc (st s) = c s)
    (hb : ∀ s, ∀ (β : Type) (m : Env → β) (r : D → β) (b : Env → β) (e : Exn → β) (z : β), (body (st s)).cs (kK m ks) r b (kK m ks) e z = (f s).cc (fun s' => m (st s')) (fun v => r (ev v)) e z)
    (s : S) {ρ : Env} (hρ : kill ks ρ = st s) {β : Type} (n : Env → β) (r : D → β) (b c' : Env → β) (e : Exn → β) (z : β) : (whileS ks tc body ρ).cs n r b c' e z = (whileC c f s).cc (fun s' => n (st s')) (fun v => r (ev v)) e z := by
  have key : ∀ k, (wturns ks tc body k (kill ks ρ) ≠ .stk) ↔ wloopC c f k s ≠ .stk := fun k => by
    have h := wturns_C ev st c f hc hb k s (β := Bool) (fun _ => true) (fun _ => true) (fun _ => true) (fun _ => true) (fun _ => true) false
    rw [hρ]
    constructor
    · intro h1 h2
      rw [h2] at h
      cases hw : wturns ks tc body k (st s) <;> rw [hw] at h <;> first | exact h1 hw | cases h
    · intro h1 h2
      rw [h2] at h
      cases hw : wloopC c f k s <;> rw [hw] at h <;> first | exact h1 hw | cases h
  by_cases hx : ∃ k, wturns ks tc body k (kill ks ρ) ≠ .stk
  · obtain ⟨k, hk⟩ := hx
    have h1 := whileS_of rfl hk
    have h2 := whileC_of rfl ((key k).mp hk)
    rw [h1, h2, hρ]
    exact wturns_C ev st c f hc hb k s n r b c' e z
  · have hy : ¬ ∃ k, wloopC c f k s ≠ .stk := fun ⟨k, hk⟩ => hx ⟨k, (key k).mpr hk⟩
    unfold whileS whileC
    rw [dif_neg hx, dif_neg hy]
    rfl
def Ct.ofR {S V : Type} (r : R S) : Ct S V := r.toC .nx
/-! ### encoders -/
def eT2 {α β : Type} (e1 : α → D) (e2 : β → D) (p : α × β) : D := .tuple [e1 p.1, e2 p.2]
def eT3 {α β γ : Type} (e1 : α → D) (e2 : β → D) (e3 : γ → D) (p : α × β × γ) : D := .tuple [e1 p.1, e2 p.2.1, e3 p.2.2]
def eT4 {α β γ δ : Type} (e1 : α → D) (e2 : β → D) (e3 : γ → D) (e4 : δ → D) (p : α × β × γ × δ) : D := .tuple [e1 p.1, e2 p.2.1, e3 p.2.2.1, e4 p.2.2.2]
def eL {α : Type} (e : α → D) (xs : List α) : D := .list (xs.map e)
def eP {α : Type} (e : α → D) (p : Str × α) : D × D := (.str p.1, e p.2)
def eD {α : Type} (e : α → D) (d : List (Str × α)) : D := .dict (d.map (eP e))
def eO {α : Type} (e : α → D) (o : Option α) : D := match o with
  | none => .none
  | some a => e a
structure Tie where
  kind : Str
  a : Str
  b : Str
  gap : Option Int
  deriving DecidableEq
def eTie (t : Tie) : D := match t.gap with
  | none => .tuple [.str t.kind, .str t.a, .str t.b]
  | some g => .tuple [.str t.kind, .str t.a, .str t.b, .int g]
section
variable {α β γ δ : Type} {e : α → D} {e1 : α → D} {e2 : β → D} {e3 : γ → D} {e4 : δ → D}
theorem eL_ap (xs : List α) : eL e xs = .list (xs.map e) := (rfl)
theorem eD_ap (xs : List (Str × α)) : eD e xs = .dict (xs.map (eP e)) := (rfl)
theorem eP_ap (p : Str × α) : eP e p = (.str p.1, e p.2) := (rfl)
theorem eO_none : eO e none = .none := (rfl)
theorem eO_some (a : α) : eO e (some a) = e a := (rfl)
theorem fold_T2 (e1 : α → D) (e2 : β → D) (a : α) (b : β) : PyData.tuple [e1 a, e2 b] = eT2 e1 e2 (a, b) := (rfl)
theorem fold_T3 (e1 : α → D) (e2 : β → D) (e3 : γ → D) (a : α) (b : β) (c : γ) : PyData.tuple [e1 a, e2 b, e3 c] = eT3 e1 e2 e3 (a, b, c) := (rfl)
theorem fold_T4 (e1 : α → D) (e2 : β → D) (e3 : γ → D) (e4 : δ → D) (a : α) (b : β) (c : γ) (d : δ) : PyData.tuple [e1 a, e2 b, e3 c, e4 d] = eT4 e1 e2 e3 e4 (a, b, c, d) := (rfl)
theorem fold_tie3 (k a b : Str) : PyData.tuple [.str k, .str a, .str b] = eTie ⟨k, a, b, none⟩ := (rfl)
theorem fold_tie4 (k a b : Str) (g : Int) : PyData.tuple [.str k, .str a, .str b, .int g] = eTie ⟨k, a, b, some g⟩ := (rfl)
/-! ### immutable, comparable -/
class EI (e : α → D) : Prop where
  imm : ∀ x, Dg.imm (e x) = true
class EG (k : Nat) [DecidableEq α] (e : α → D) : Prop where
  ok : ∀ x, OkN k (e x)
  inj : ∀ x y, PyData.eqv (e x) (e y) = decide (x = y)
instance : EI PyData.str := ⟨fun _ => rfl⟩
instance : EI PyData.int := ⟨fun _ => rfl⟩
instance : EI PyData.bool := ⟨fun _ => rfl⟩
instance [EI e1] [EI e2] : EI (eT2 e1 e2) := ⟨fun p => by simp [eT2, Dg.imm, immL, EI.imm]⟩
instance [EI e1] [EI e2] [EI e3] : EI (eT3 e1 e2 e3) := ⟨fun p => by simp [eT3, Dg.imm, immL, EI.imm]⟩
instance [EI e1] [EI e2] [EI e3] [EI e4] : EI (eT4 e1 e2 e3 e4) := ⟨fun p => by simp [eT4, Dg.imm, immL, EI.imm]⟩
instance : EI eTie := ⟨fun t => by
  unfold eTie
  split <;> rfl⟩
instance [EI e] : EI (eO e) := ⟨fun o => by
  cases o with
  | none => rfl
  | some a => exact EI.imm (e := e) a⟩
variable (k : Nat)
instance : EG k PyData.str := ⟨fun x => okN_str k x, fun x y => by simp only [PyData.eqv, beq_dec]⟩
instance : EG k PyData.int := ⟨fun x => okN_int k x, fun x y => by simp only [PyData.eqv, beq_dec]⟩
instance : EG k PyData.bool := ⟨fun x => okN_bool k x, fun x y => by simp only [PyData.eqv, beq_dec]⟩
theorem okN_mono {n m : Nat} {d : D} (h : OkN n d) (l : n ≤ m) : OkN m d := ⟨h.1, h.2.1, Nat.le_trans h.2.2 l⟩
theorem eqvAll_map [DecidableEq α] (h : ∀ x y, PyData.eqv (e x) (e y) = decide (x = y)) : ∀ xs ys : List α, PyData.eqvAll (xs.map e) (ys.map e) = decide (xs = ys)
  | [], [] => by simp [PyData.eqvAll]
  | [], y :: ys => by simp [PyData.eqvAll]
  | x :: xs, [] => by simp [PyData.eqvAll]
  | x :: xs, y :: ys => by
    rw [List.map_cons, List.map_cons, PyData.eqvAll, h, eqvAll_map h xs ys]
    by_cases h1 : x = y <;> by_cases h2 : xs = ys <;> simp [h1, h2]
instance [DecidableEq α] [EG k e] : EG (k + 1) (eL e) := ⟨fun xs => okN_list fun d hd => by
    obtain ⟨x, _, rfl⟩ := List.mem_map.mp hd
    exact EG.ok x, fun xs ys => by
    simp only [eL, PyData.eqv]
    exact eqvAll_map (EG.inj k) xs ys⟩
instance [DecidableEq α] [DecidableEq β] [EG k e1] [EG k e2] : EG (k + 1) (eT2 e1 e2) := ⟨fun p => okN_tup fun d hd => by
    simp only [List.mem_cons, List.not_mem_nil, or_false] at hd
    rcases hd with rfl | rfl
    · exact EG.ok p.1
    · exact EG.ok p.2, fun p q => by
    simp only [eT2, PyData.eqv, PyData.eqvAll, EG.inj k, Bool.and_true]
    rw [Bool.eq_iff_iff]
    simp [Prod.ext_iff]⟩
instance [DecidableEq α] [DecidableEq β] [DecidableEq γ] [EG k e1] [EG k e2] [EG k e3] : EG (k + 1) (eT3 e1 e2 e3) := ⟨fun p => okN_tup fun d hd => by
    simp only [List.mem_cons, List.not_mem_nil, or_false] at hd
    rcases hd with rfl | rfl | rfl
    · exact EG.ok p.1
    · exact EG.ok p.2.1
    · exact EG.ok p.2.2, fun p q => by
    simp only [eT3, PyData.eqv, PyData.eqvAll, EG.inj k, Bool.and_true]
    rw [Bool.eq_iff_iff]
    simp [Prod.ext_iff]⟩
instance [DecidableEq α] [DecidableEq β] [DecidableEq γ] [DecidableEq δ] [EG k e1] [EG k e2] [EG k e3] [EG k e4] : EG (k + 1) (eT4 e1 e2 e3 e4) := ⟨fun p => okN_tup fun d hd => by
    simp only [List.mem_cons, List.not_mem_nil, or_false] at hd
    rcases hd with rfl | rfl | rfl | rfl
    · exact EG.ok p.1
    · exact EG.ok p.2.1
    · exact EG.ok p.2.2.1
    · exact EG.ok p.2.2.2, fun p q => by
    simp only [eT4, PyData.eqv, PyData.eqvAll, EG.inj k, Bool.and_true]
    rw [Bool.eq_iff_iff]
    simp [Prod.ext_iff]⟩
instance : EG (k + 1) eTie := ⟨fun t => by
    unfold eTie
    split <;> (refine okN_tup fun d hd => ?_; simp only [List.mem_cons, List.not_mem_nil, or_false] at hd)
    · rcases hd with rfl | rfl | rfl <;> exact okN_str _ _
    · rcases hd with rfl | rfl | rfl | rfl
      · exact okN_str _ _
      · exact okN_str _ _
      · exact okN_str _ _
      · exact okN_int _ _, fun t u => by
    obtain ⟨k1, a1, b1, g1⟩ := t
    obtain ⟨k2, a2, b2, g2⟩ := u
    rw [Bool.eq_iff_iff]
    cases g1 <;> cases g2 <;> simp [eTie, PyData.eqv, PyData.eqvAll]⟩
end
end Dg

/-! Dt3: what the operations come to on encoded values -/
namespace Dg
open PySem PySem.Spec PyProof.Rows L2
section
variable {α β γ δ : Type} {e : α → D} {e1 : α → D} {e2 : β → D} {e3 : γ → D} {e4 : δ → D}
/-! ### subscripts -/
theorem atI_map (xs : List α) (i : Int) : atI (xs.map e) i = (atI xs i).map e := by
  unfold atI
  rw [List.length_map]
  cases ixN xs.length i with
  | none => rfl
  | some j => simp
def ixR (xs : List α) (i : Int) : R α := optR (atI xs i)
theorem ofO_map (o : Option α) : ofO (o.map e) = (optR o).map e := by cases o <;> rfl
theorem ix_L (xs : List α) (i : Int) : dIx (.list (xs.map e)) (.int i) = (ixR xs i).map e := by
  show ofO (atI (xs.map e) i) = _
  rw [atI_map, ofO_map]
  rfl
theorem ix_lit (e : α → D) (xs : List α) (i : Int) : dIx (.list (xs.map e)) (.int i) = (ixR xs i).map e := ix_L xs i
theorem ix_T2_0 (p : α × β) : dIx (eT2 e1 e2 p) (.int 0) = .ok (e1 p.1) := (rfl)
theorem ix_T2_1 (p : α × β) : dIx (eT2 e1 e2 p) (.int 1) = .ok (e2 p.2) := (rfl)
theorem ix_T3_0 (p : α × β × γ) : dIx (eT3 e1 e2 e3 p) (.int 0) = .ok (e1 p.1) := (rfl)
theorem ix_T3_1 (p : α × β × γ) : dIx (eT3 e1 e2 e3 p) (.int 1) = .ok (e2 p.2.1) := (rfl)
theorem ix_T3_2 (p : α × β × γ) : dIx (eT3 e1 e2 e3 p) (.int 2) = .ok (e3 p.2.2) := (rfl)
theorem ix_T4_0 (p : α × β × γ × δ) : dIx (eT4 e1 e2 e3 e4 p) (.int 0) = .ok (e1 p.1) := (rfl)
theorem ix_T4_1 (p : α × β × γ × δ) : dIx (eT4 e1 e2 e3 e4 p) (.int 1) = .ok (e2 p.2.1) := (rfl)
theorem ix_T4_2 (p : α × β × γ × δ) : dIx (eT4 e1 e2 e3 e4 p) (.int 2) = .ok (e3 p.2.2.1) := (rfl)
theorem ix_T4_3 (p : α × β × γ × δ) : dIx (eT4 e1 e2 e3 e4 p) (.int 3) = .ok (e4 p.2.2.2) := (rfl)
theorem ix_tie0 (t : Tie) : dIx (eTie t) (.int 0) = .ok (.str t.kind) := by
  unfold eTie
  split <;> rfl
theorem ix_tie1 (t : Tie) : dIx (eTie t) (.int 1) = .ok (.str t.a) := by
  unfold eTie
  split <;> rfl
theorem ix_tie2 (t : Tie) : dIx (eTie t) (.int 2) = .ok (.str t.b) := by
  unfold eTie
  split <;> rfl
theorem ix_tie3 (t : Tie) : dIx (eTie t) (.int 3) = (optR t.gap).map .int := by
  unfold eTie
  split
  · rename_i h
    rw [h]
    rfl
  · rename_i g h
    rw [h]
    rfl
theorem sl_tie (t : Tie) : dSl (eTie t) (some 1) (some 3) = .ok (.tuple [.str t.a, .str t.b]) := by
  unfold eTie
  split <;> rfl
def dget (d : List (Str × α)) (k : Str) : Option α := match d with
  | [] => none
  | (q, v) :: r => if q = k then some v else dget r k
def dhas (d : List (Str × α)) (k : Str) : Bool := (dget d k).isSome
theorem lookD_map (k : Str) : ∀ d : List (Str × α), lookD (d.map (eP e)) (.str k) = (dget d k).map e
  | [] => rfl
  | (q, v) :: r => by
    rw [List.map_cons, eP_ap, lookD, dget, lookD_map k r]
    by_cases h : q = k
    · rw [if_pos h, if_pos (by simp [keq, h])]
      rfl
    · rw [if_neg h, if_neg (by simp [keq, h])]
theorem tag_map : ∀ d : List (Str × α), tagD (d.map (eP e)) = false
  | [] => rfl
  | _ :: _ => rfl
theorem ix_D (d : List (Str × α)) (k : Str) : dIx (.dict (d.map (eP e))) (.str k) = (optR (dget d k)).map e := by
  rw [← ofO_map, ← lookD_map]
  cases d with
  | nil => rfl
  | cons p r => rfl
theorem in_D (neg : Bool) (d : List (Str × α)) (k : Str) : dInD neg (.str k) (.dict (d.map (eP e))) = .ok (.bool (neg != dhas d k)) := by
  show (if tagD (d.map (eP e)) = false ∧ isKey (.str k) = true then R.ok (PyData.bool (neg != (lookD (d.map (eP e)) (.str k)).isSome)) else .stk) = _
  rw [tag_map, lookD_map, if_pos ⟨rfl, rfl⟩]
  rw [Option.isSome_map]
  rfl
/-- d[k] = v -/
def putO (d : List (Str × α)) (k : Str) (v : α) : Option (List (Str × α)) := match d with
  | [] => some [(k, v)]
  | (q, w) :: r => if q = k then (if dhas r k = true then none else some ((q, v) :: r)) else (putO r k v).map ((q, w) :: ·)
def putR (d : List (Str × α)) (k : Str) (v : α) : R (List (Str × α)) := if d.length < sizeLine then optR (putO d k v) else .stk
theorem any_has (k : Str) : ∀ d : List (Str × α), ((d.map (eP e)).any fun p => keq p.1 (.str k)) = dhas d k
  | [] => rfl
  | (q, v) :: r => by
    rw [List.map_cons, List.any_cons, any_has k r]
    by_cases h : q = k
    · simp [h, eP, keq, dhas, dget]
    · simp [h, eP, keq, dhas, dget]
theorem putD_map (k : Str) (v : α) : ∀ d : List (Str × α), putD (d.map (eP e)) (.str k) (e v) = (putO d k v).map (List.map (eP e))
  | [] => rfl
  | (q, w) :: r => by
    rw [List.map_cons, eP_ap, putD, putO, putD_map k v r, any_has]
    by_cases h : q = k
    · rw [if_pos (by simp [keq, h]), if_pos h]
      split <;> rfl
    · rw [if_neg (by simp [keq, h]), if_neg h]
      cases putO r k v <;> rfl
theorem put_E (e : α → D) (d : List (Str × α)) (k : Str) (v : α) : optR (putT (d.map (eP e)) (.str k) (e v)) = (putR d k v).map (List.map (eP e)) := by
  unfold putT putR
  rw [tag_map, List.length_map, putD_map]
  by_cases h : d.length < sizeLine
  · rw [if_pos ⟨rfl, rfl, h⟩, if_pos h]
    cases putO d k v <;> rfl
  · rw [if_neg (fun z => h z.2.2), if_neg h]
    rfl
/-! ### lengths, lists -/
theorem len_L (xs : List D) : dLen [.list xs] = .ok (.int xs.length) := (rfl)
theorem app_L (xs : List D) (d : D) : optR (gAppend xs [d]) = if xs.length < sizeLine then .ok (.list (xs ++ [d])) else .stk := by
  unfold gAppend
  dsimp only
  split <;> rfl
def appR (xs : List α) (x : α) : R (List α) := if xs.length < sizeLine then .ok (xs ++ [x]) else .stk
theorem app_E (e : α → D) (xs : List α) (x : α) : optR (gAppend (xs.map e) [e x]) = (appR xs x).map fun l => .list (l.map e) := by
  rw [app_L, List.length_map]
  unfold appR
  split
  · show _ = R.ok (PyData.list ((xs ++ [x]).map e))
    rw [List.map_append]
    rfl
  · rfl
theorem rev_L (xs : List D) : optR (gReverse xs []) = .ok (.list xs.reverse) := (rfl)
theorem it_L (xs : List D) : dItems (.list xs) = .ok xs := (rfl)
theorem it_T (xs : List D) : dItems (.tuple xs) = .ok xs := (rfl)
def signs (s : Str) : List Str := s.cps.toList.map fun c => ⟨#[c]⟩
theorem it_S (s : Str) : dItems (.str s) = .ok ((signs s).map .str) := by
  unfold signs
  rw [List.map_map]
  rfl
theorem it_D (d : List D) : True := trivial
theorem tup2 (a b : D) : tupR 2 (.tuple [a, b]) = .ok [a, b] := (rfl)
theorem tup_T2 (p : α × β) : tupR 2 (eT2 e1 e2 p) = .ok [e1 p.1, e2 p.2] := (rfl)
theorem tup_T3 (p : α × β × γ) : tupR 3 (eT3 e1 e2 e3 p) = .ok [e1 p.1, e2 p.2.1, e3 p.2.2] := (rfl)
theorem tup_T4 (p : α × β × γ × δ) : tupR 4 (eT4 e1 e2 e3 e4 p) = .ok [e1 p.1, e2 p.2.1, e3 p.2.2.1, e4 p.2.2.2] := (rfl)
theorem tN_T2 (p : α × β) : tN 2 (eT2 e1 e2 p) = some [e1 p.1, e2 p.2] := (rfl)
theorem tN_T3 (p : α × β × γ) : tN 3 (eT3 e1 e2 e3 p) = some [e1 p.1, e2 p.2.1, e3 p.2.2] := (rfl)
theorem tN_T4 (p : α × β × γ × δ) : tN 4 (eT4 e1 e2 e3 e4 p) = some [e1 p.1, e2 p.2.1, e3 p.2.2.1, e4 p.2.2.2] := (rfl)
/-! ### comparisons -/
theorem eq_E (e : α → D) [DecidableEq α] [EG 8 e] (x y : α) : dEq (e x) (e y) = .ok (.bool (decide (x = y))) := by
  unfold dEq
  rw [(EG.ok (k := 8) x).ok, (EG.ok (k := 8) y).ok, if_pos (show (true && true) = true from rfl), EG.inj 8]
theorem ne_E (e : α → D) [DecidableEq α] [EG 8 e] (x y : α) : dNe (e x) (e y) = .ok (.bool (!decide (x = y))) := by
  unfold dNe
  rw [(EG.ok (k := 8) x).ok, (EG.ok (k := 8) y).ok, if_pos (show (true && true) = true from rfl), EG.inj 8]
theorem eq_L [DecidableEq α] [EG 8 (eL e)] (xs ys : List α) : dEq (.list (xs.map e)) (.list (ys.map e)) = .ok (.bool (decide (xs = ys))) := eq_E (eL e) xs ys
theorem ne_L [DecidableEq α] [EG 8 (eL e)] (xs ys : List α) : dNe (.list (xs.map e)) (.list (ys.map e)) = .ok (.bool (!decide (xs = ys))) := ne_E (eL e) xs ys
theorem eq_nil [DecidableEq α] [EG 8 (eL e)] (xs : List α) : dEq (.list (xs.map e)) (.list []) = .ok (.bool (decide (xs = []))) := eq_E (eL e) xs []
theorem ne_nil [DecidableEq α] [EG 8 (eL e)] (xs : List α) : dNe (.list (xs.map e)) (.list []) = .ok (.bool (!decide (xs = []))) := ne_E (eL e) xs []
theorem in_E (e : α → D) [DecidableEq α] [EG 8 e] (neg : Bool) (x : α) (xs : List α) : dInS neg (e x) (.list (xs.map e)) = .ok (.bool (neg != decide (x ∈ xs))) := by
  have h : (xs.map e).any (fun z => PyData.eqv z (e x)) = decide (x ∈ xs) := by
    rw [List.any_map, Bool.eq_iff_iff, List.any_eq_true, decide_eq_true_eq]
    constructor
    · rintro ⟨y, hy, h⟩
      have h : PyData.eqv (e y) (e x) = true := h
      rw [EG.inj 8, decide_eq_true_eq] at h
      exact h ▸ hy
    · intro h
      refine ⟨x, h, ?_⟩
      show PyData.eqv (e x) (e x) = true
      rw [EG.inj 8, decide_eq_true rfl]
  have ok2 : okD (.list (xs.map e)) = true := (okN_list (n := 8) fun d hd => by
    obtain ⟨y, _, rfl⟩ := List.mem_map.mp hd
    exact EG.ok y).ok
  show (if (okD (e x) && okD (.list (xs.map e))) = true then R.ok (PyData.bool (neg != (xs.map e).any fun z => PyData.eqv z (e x))) else .stk) = _
  rw [(EG.ok (k := 8) x).ok, ok2, if_pos (show (true && true) = true from rfl), h]
theorem in_2 (neg : Bool) (x a b : Str) : dInS neg (.str x) (.tuple [.str a, .str b]) = .ok (.bool (neg != (decide (x = a) || decide (x = b)))) := by
  have ok2 : okD (.tuple [.str a, .str b]) = true := (okN_tup (n := 0) fun d hd => by
    simp only [List.mem_cons, List.not_mem_nil, or_false] at hd
    rcases hd with rfl | rfl <;> exact okN_str _ _).ok
  show (if (okD (.str x) && okD (.tuple [.str a, .str b])) = true then R.ok (PyData.bool (neg != [PyData.str a, .str b].any fun z => PyData.eqv z (.str x))) else .stk) = _
  rw [okD_str, ok2, if_pos (show (true && true) = true from rfl)]
  simp only [List.any_cons, List.any_nil, Bool.or_false, PyData.eqv, beq_dec]
  rw [show decide (a = x) = decide (x = a) from by simp [eq_comm], show decide (b = x) = decide (x = b) from by simp [eq_comm]]
theorem chk_E (e : α → D) [EI e] (x : α) : chk (e x) = .ok (e x) := if_pos (EI.imm x)
theorem immL_E [EI e] (xs : List α) : immL (xs.map e) = true := immL_of fun d hd => by
  obtain ⟨x, _, rfl⟩ := List.mem_map.mp hd
  exact EI.imm x
theorem lof_L [EI e] (xs : List α) : dListOf [.list (xs.map e)] = .ok (.list (xs.map e)) := if_pos (immL_E xs)
def addS (a b : Str) : R Str := if a.length + b.length ≤ sizeLine then .ok (a ++ b) else .stk
theorem add_S (a b : Str) : dAdd (.str a) (.str b) = (addS a b).map .str := by
  show (if a.length + b.length ≤ sizeLine then R.ok (PyData.str (a ++ b)) else .stk) = _
  unfold addS
  split <;> rfl
def addL (a b : List α) : R (List α) := if a.length + b.length ≤ sizeLine then .ok (a ++ b) else .stk
theorem add_E (e : α → D) [EI e] (a b : List α) : dAdd (.list (a.map e)) (.list (b.map e)) = (addL a b).map fun l => .list (l.map e) := by
  show (if (immL (a.map e) && immL (b.map e)) = true ∧ (a.map e).length + (b.map e).length ≤ sizeLine then R.ok (PyData.list (a.map e ++ b.map e)) else .stk) = _
  rw [immL_E, immL_E, List.length_map, List.length_map]
  unfold addL
  by_cases h : a.length + b.length ≤ sizeLine
  · rw [if_pos ⟨rfl, h⟩, if_pos h, ← List.map_append]
    rfl
  · rw [if_neg (fun z => h z.2), if_neg h]
    rfl
def modR (i j : Int) : R Int := if 0 < j then .ok (i % j) else .stk
theorem mod_I (i j : Int) : dMod (.int i) (.int j) = (modR i j).map .int := by
  show (if 0 < j then R.ok (PyData.int (i % j)) else .stk) = _
  unfold modR
  split <;> rfl
def divR (i j : Int) : R Int := if 0 < j ∧ j < 1073741824 then .ok (i / j) else .stk
theorem div_I (i j : Int) : dDiv (.int i) (.int j) = (divR i j).map .int := by
  show (if 0 < j ∧ j < 1073741824 then R.ok (PyData.int (i / j)) else .stk) = _
  unfold divR
  split <;> rfl
def mulR (i j : Int) : R Int := if (smallI i || smallI j) = true then .ok (i * j) else .stk
theorem mul_I (i j : Int) : dMul2 (.int i) (.int j) = (mulR i j).map .int := by
  show (if (smallI i || smallI j) = true then R.ok (PyData.int (i * j)) else .stk) = _
  unfold mulR
  split <;> rfl
def powR (i j : Int) : R Int := if 0 ≤ j ∧ j ≤ 1000000 ∧ i.natAbs < 2 ^ 64 then .ok (i ^ j.toNat) else .stk
theorem pow_I (i j : Int) : dPow (.int i) (.int j) = (powR i j).map .int := by
  show (if 0 ≤ j ∧ j ≤ 1000000 ∧ i.natAbs < 2 ^ 64 then R.ok (PyData.int (i ^ j.toNat)) else .stk) = _
  unfold powR
  split <;> rfl
theorem sl_E [EI e] (xs : List α) (a b : Option Int) : dSl (.list (xs.map e)) a b = .ok (.list ((cutA xs a b).map e)) := by
  show (if immL (xs.map e) = true then R.ok (PyData.list (cutA (xs.map e) a b)) else .stk) = _
  rw [if_pos (immL_E xs)]
  unfold cutA
  rw [List.length_map, ← List.map_drop, ← List.map_take]
def cutR (s : Str) (a b : Option Int) : R Str := if s.length ≤ sizeLine then .ok (cutS s a b) else .stk
theorem sl_S (s : Str) (a b : Option Int) : dSl (.str s) a b = (cutR s a b).map .str := by
  show (if s.length ≤ sizeLine then R.ok (PyData.str (cutS s a b)) else .stk) = _
  unfold cutR
  split <;> rfl
def minS (a b : Str) : Str := if PySem.W.dataLt (.str b) (.str a) = true then b else a
theorem min_S (a b : Str) : dMin [.str a, .str b] = .ok (.str (minS a b)) := (rfl)
theorem min_I (a b : Int) : dMin [.int a, .int b] = .ok (.int (if b < a then b else a)) := (rfl)
theorem max_I (a b : Int) : dMax2 [.int a, .int b] = .ok (.int (if b > a then b else a)) := (rfl)
theorem strsOf_map : ∀ xs : List Str, strsOf (xs.map .str) = some xs
  | [] => rfl
  | x :: xs => by
    rw [List.map_cons, strsOf, strsOf_map xs]
    rfl
def minSL : List Str → R Str
  | [] => .stk
  | x :: xs => .ok (PySem.W.minOf x xs)
theorem min_L (xs : List Str) : dMin [.list (xs.map .str)] = (minSL xs).map .str := by
  show dMinSL [.list (xs.map .str)] = _
  unfold dMinSL
  dsimp only
  rw [strsOf_map]
  cases xs <;> rfl
def sortedSR (xs : List Str) : R (List Str) := if xs.length ≤ sizeLine then .ok (sortS xs) else .stk
theorem sortOk_strs (xs : List Str) : sortOk (xs.map .str) = decide (xs.length ≤ sizeLine) := by
  have h1 : (xs.map PyData.str).all okD = true := List.all_eq_true.mpr fun d hd => by
    obtain ⟨x, _, rfl⟩ := List.mem_map.mp hd
    exact okD_str x
  have h2 : ((xs.map PyData.str).all fun d => (xs.map PyData.str).all fun e => PySem.W.alike d e) = true := List.all_eq_true.mpr fun d hd => List.all_eq_true.mpr fun f hf => by
    obtain ⟨x, _, rfl⟩ := List.mem_map.mp hd
    obtain ⟨y, _, rfl⟩ := List.mem_map.mp hf
    rfl
  have h3 : (xs.map PyData.str).all notTup = true := List.all_eq_true.mpr fun d hd => by
    obtain ⟨x, _, rfl⟩ := List.mem_map.mp hd
    rfl
  unfold sortOk
  rw [h1, h2, h3, List.length_map, Bool.or_true, Bool.true_and, Bool.true_and, Bool.true_and]
theorem sorted_S (xs : List Str) : dSorted [.list (xs.map .str)] = (sortedSR xs).map fun l => .list (l.map .str) := by
  show (if (immL (xs.map PyData.str) && sortOk (xs.map .str)) = true then R.ok (PyData.list ((xs.map PyData.str).mergeSort leD)) else .stk) = _
  rw [immL_E, sortOk_strs, Bool.true_and, sort_strs]
  unfold sortedSR
  by_cases h : xs.length ≤ sizeLine
  · rw [decide_eq_true h, if_pos rfl, if_pos h]
    rfl
  · rw [decide_eq_false h, if_neg Bool.false_ne_true, if_neg h]
    rfl
def rangeR (j : Int) : R (List Int) := if big62 j = true then .ok ((List.range j.toNat).map fun (i : Nat) => (i : Int)) else .stk
theorem range_1 (j : Int) : dRange [.int j] = (rangeR j).map (List.map .int) := by
  show (if big62 j = true then R.ok ((List.range j.toNat).map fun (i : Nat) => PyData.int (0 + i)) else R.stk) = _
  unfold rangeR
  split
  · show _ = R.ok _
    rw [List.map_map]
    congr 1
    refine List.map_congr_left fun i _ => ?_
    show PyData.int (0 + i) = PyData.int i
    rw [Int.zero_add]
  · rfl
def rangeR2 (i j : Int) : R (List Int) := if (big62 i && big62 j) = true then .ok ((List.range (j - i).toNat).map fun (q : Nat) => i + (q : Int)) else .stk
theorem range_2 (i j : Int) : dRange [.int i, .int j] = (rangeR2 i j).map (List.map .int) := by
  show (if (big62 i && big62 j) = true then R.ok ((List.range (j - i).toNat).map fun (q : Nat) => PyData.int (i + q)) else R.stk) = _
  unfold rangeR2
  split
  · show _ = R.ok _
    rw [List.map_map]
    rfl
  · rfl
def strR (i : Int) : R Str := if i.natAbs < 2 ^ 1900 then .ok (toString i) else .stk
def joinR (s : Str) (ss : List Str) : R Str := if (ss.map (·.length)).sum + ss.length * s.length ≤ 16777216 then .ok (Txt.join s ss) else .stk
theorem join_S (s : Str) (ss : List Str) : dJoin (.str s) (.list (ss.map .str)) = (joinR s ss).map .str := by
  unfold dJoin joinR
  dsimp only
  rw [strsOf_map]
  dsimp only
  split <;> rfl
theorem isi_str (x : Str) : dIsi "str" (.str x) = .ok (.bool true) := (rfl)
theorem isi_int (x : Int) : dIsi "int" (.int x) = .ok (.bool true) := (rfl)
theorem isi_boolint (x : Int) : dIsi "bool" (.int x) = .ok (.bool false) := (rfl)
theorem isi_bool (x : Bool) : dIsi "bool" (.bool x) = .ok (.bool true) := (rfl)
theorem isi_list (xs : List D) : dIsi "list" (.list xs) = .ok (.bool true) := (rfl)
theorem isi_T2 (p : α × β) : dIsi "tuple" (eT2 e1 e2 p) = .ok (.bool true) := (rfl)
theorem isi_T3 (p : α × β × γ) : dIsi "tuple" (eT3 e1 e2 e3 p) = .ok (.bool true) := (rfl)
theorem isi_T4 (p : α × β × γ × δ) : dIsi "tuple" (eT4 e1 e2 e3 e4 p) = .ok (.bool true) := (rfl)
theorem isi_tie (t : Tie) : dIsi "tuple" (eTie t) = .ok (.bool true) := by
  unfold eTie
  split <;> rfl
/-! ### a script -/
def scrIx (ns : List Int) (i : Int) : R Int := ixR ns i
theorem ix_scr (ns : List Int) (i : Int) : dIx (scrD ns) (.int i) = (ixR ns i).map .int := by
  show ofO (atI (ns.map PyData.int) i) = _
  rw [atI_map, ofO_map]
  rfl
/-! ### the laws' mixing -/
def partR (c k m : Int) : R Int := if 0 < m then .ok (part c k m) else .stk
/-! ### .get, .setdefault(k, []).append(v) -/
def getK (x : D) (gy hz : R D) : R D := match x with
  | .dict kvs => if tagD kvs = false then gy.bind fun y => hz.bind fun z => if isKey y = true then .ok ((lookD kvs y).getD z) else .stk else .stk
  | _ => .stk
theorem e_getE (f g h : Env → R D) (ρ : Env) : getE f g h ρ = (f ρ).bind fun x => getK x (g ρ) (h ρ) := by
  unfold getE getK
  cases f ρ with
  | ok x =>
    cases x with
    | dict kvs =>
      rfl
    | _ => rfl
  | _ => rfl
theorem get_Lnil (d : List (Str × List α)) (k : Str) : getK (.dict (d.map (eP (eL e)))) (.ok (.str k)) (.ok (.list [])) = .ok (.list (((dget d k).getD []).map e)) := by
  show (if tagD (d.map (eP (eL e))) = false then R.ok ((lookD (d.map (eP (eL e))) (.str k)).getD (.list [])) else .stk) = _
  rw [tag_map, if_pos rfl, lookD_map]
  cases dget d k <;> rfl
theorem get_E (e : α → D) (d : List (Str × α)) (k : Str) (z : α) : getK (.dict (d.map (eP e))) (.ok (.str k)) (.ok (e z)) = .ok (e ((dget d k).getD z)) := by
  show (if tagD (d.map (eP e)) = false then R.ok ((lookD (d.map (eP e)) (.str k)).getD (e z)) else .stk) = _
  rw [tag_map, if_pos rfl, lookD_map]
  cases dget d k <;> rfl
/-- d.setdefault(k, []).append(v) -/
def setO (d : List (Str × α)) (k : Str) (v : α) : List (Str × α) := match d with
  | [] => []
  | (q, w) :: r => if q = k then (q, v) :: r else (q, w) :: setO r k v
def pushR (d : List (Str × List α)) (k : Str) (v : α) : R (List (Str × List α)) := if d.length < sizeLine then (match dget d k with
  | some xs => (appR xs v).map fun ys => setO d k ys
  | none => .ok (d ++ [(k, [v])])) else .stk
theorem setD_map (k : Str) (v : α) : ∀ d : List (Str × α), setD (d.map (eP e)) (.str k) (e v) = (setO d k v).map (eP e)
  | [] => rfl
  | (q, w) :: r => by
    rw [List.map_cons, eP_ap, setD, setO, setD_map k v r]
    by_cases h : q = k
    · rw [if_pos (by simp [keq, h]), if_pos h]
      rfl
    · rw [if_neg (by simp [keq, h]), if_neg h]
      rfl
theorem putO_none {k : Str} {v : α} : ∀ {d : List (Str × α)}, dget d k = none → putO d k v = some (d ++ [(k, v)])
  | [], _ => rfl
  | (q, w) :: r, h => by
    unfold dget at h
    unfold putO
    split at h
    · cases h
    · rename_i hq
      rw [if_neg hq, putO_none h]
      rfl
theorem setO_app {k : Str} {v w : α} : ∀ {d : List (Str × α)}, dget d k = none → setO (d ++ [(k, w)]) k v = d ++ [(k, v)]
  | [], _ => by simp [setO]
  | (q, u) :: r, h => by
    unfold dget at h
    split at h
    · cases h
    · rename_i hq
      rw [List.cons_append, setO, if_neg hq, setO_app h]
      rfl
theorem dget_app {k : Str} {w : α} : ∀ {d : List (Str × α)}, dget d k = none → dget (d ++ [(k, w)]) k = some w
  | [], _ => by simp [dget]
  | (q, u) :: r, h => by
    unfold dget at h
    split at h
    · cases h
    · rename_i hq
      rw [List.cons_append, dget, if_neg hq, dget_app h]
section
variable {ε : Type} (n : Env → ε) (r : D → ε) (b c : Env → ε) (ex : Exn → ε) (z : ε)
theorem cs_pathK (i : Nat) (k : Str) (f : Env → R (List D)) (ρ : Env) (d : List (Str × List α)) (v : α) (h : ρ[i]? = some (some (.dict (d.map (eP (eL e)))))) (hf : f ρ = .ok [e v]) :
    (pathS i [] (fun _ => .ok (.str k)) gAppend f ρ).cs n r b c ex z = (optR (dget d k)).rc (fun xs => (appR xs v).rc (fun ys => n (ρ.set i (some (.dict ((setO d k ys).map (eP (eL e))))))) ex z) ex z := by
  unfold pathS
  rw [h]
  dsimp only
  rw [if_pos (show tagD (d.map (eP (eL e))) = false ∧ isKey (.str k) = true from ⟨tag_map d, rfl⟩), lookD_map]
  cases hd : dget d k with
  | none => rfl
  | some xs =>
    show Out.cs (match f ρ with
      | .ok ds => (match gAppend (xs.map e) ds with
        | some d' => Out.nx ((kill [] ρ).set i (some (.dict (setD (d.map (eP (eL e))) (.str k) d'))))
        | none => .stk)
      | .exc x => .exc x ρ
      | .stk => .stk) n r b c ex z = _
    rw [hf]
    dsimp only [optR, R.rc]
    have ha := app_E e xs v
    unfold appR at ha ⊢
    by_cases hl : xs.length < sizeLine
    · rw [if_pos hl] at ha ⊢
      cases hg : gAppend (xs.map e) [e v] with
      | none =>
        rw [hg] at ha
        cases ha
      | some d' =>
        rw [hg] at ha
        have : d' = eL e (xs ++ [v]) := by
          injection ha
        rw [this]
        dsimp only
        rw [setD_map (e := eL e) k (xs ++ [v]) d]
        rfl
    · rw [if_neg hl] at ha ⊢
      cases hg : gAppend (xs.map e) [e v] with
      | none => rfl
      | some d' =>
        rw [hg] at ha
        cases ha
theorem cs_sdfS (i : Nat) (dk dd : Env → R D) (f : Env → R (List D)) (ρ : Env) (d : List (Str × List α)) (k : Str) (v : α) (h : ρ[i]? = some (some (.dict (d.map (eP (eL e)))))) (hk : dk ρ = .ok (.str k)) (hd : dd ρ = .ok (.list []))
    (hf : ∀ x, f (ρ.set i x) = .ok [e v]) : (sdfS i [] dk dd gAppend f ρ).cs n r b c ex z = (pushR d k v).rc (fun d' => n (ρ.set i (some (.dict (d'.map (eP (eL e))))))) ex z := by
  have hi : i < ρ.length := (List.getElem?_eq_some_iff.mp h).1
  unfold sdfS
  rw [h]
  dsimp only
  rw [if_pos (tag_map d), hk, hd]
  dsimp only
  unfold pushR
  rw [List.length_map]
  by_cases hl : d.length < sizeLine
  · rw [if_pos ⟨rfl, hl⟩, if_pos hl, lookD_map]
    cases hg : dget d k with
    | some xs =>
      have hself : ρ.set i (some (.dict (d.map (eP (eL e))))) = ρ := by
        refine List.ext_getElem? fun j => ?_
        by_cases hj : i = j
        · subst hj
          rw [List.getElem?_set_self hi, h]
        · rw [List.getElem?_set_ne hj]
      have hf2 := hf (some (.dict (d.map (eP (eL e)))))
      rw [hself] at hf2
      show (pathS i [] (fun _ => .ok (.str k)) gAppend f ρ).cs n r b c ex z = _
      rw [cs_pathK n r b c ex z i k f ρ d v h hf2, hg]
      show (appR xs v).rc _ ex z = R.rc (R.map (appR xs v) _) _ ex z
      rw [rc_map]
    | none =>
      have hp : putD (d.map (eP (eL e))) (.str k) (.list []) = some ((d ++ [(k, [])]).map (eP (eL e))) := by
        have := putD_map (e := eL e) k [] d
        rw [putO_none hg] at this
        exact this
      show Out.cs (match putD (d.map (eP (eL e))) (.str k) (.list []) with
        | some es => pathS i [] (fun _ => .ok (.str k)) gAppend f (ρ.set i (some (.dict es)))
        | none => .stk) n r b c ex z = _
      rw [hp]
      dsimp only
      refine (cs_pathK (e := e) n r b c ex z i k f (ρ.set i (some (PyData.dict (List.map (eP (eL e)) (d ++ [(k, ([] : List α))]))))) (d ++ [(k, ([] : List α))]) v (List.getElem?_set_self hi) (hf _)).trans ?_
      rw [dget_app hg]
      have h0 : appR ([] : List α) v = .ok [v] := by
        unfold appR
        exact if_pos (show 0 < sizeLine by decide +kernel)
      dsimp only [optR, R.rc]
      rw [h0]
      dsimp only
      rw [List.set_set, setO_app hg]
  · rw [if_neg (fun w => hl w.2), if_neg hl]
    rfl
end
end
end Dg

/-! Dt4: more operations -/
namespace Dg
open PySem PySem.Spec PyProof.Rows L2
def ixSR (s : Str) (i : Int) : R Str := if s.length ≤ sizeLine then (optR (atI s.cps.toList i)).map fun c => ⟨#[c]⟩ else .stk
theorem ix_S (s : Str) (i : Int) : dIx (.str s) (.int i) = (ixSR s i).map .str := by
  show (if s.length ≤ sizeLine then ofO ((atI s.cps.toList i).map fun c => PyData.str ⟨#[c]⟩) else .stk) = _
  unfold ixSR
  split
  · cases atI s.cps.toList i <;> rfl
  · rfl
def lenR (s : Str) : R Int := if s.length ≤ sizeLine then .ok s.length else .stk
theorem len_S (s : Str) : dLen [.str s] = (lenR s).map .int := by
  show (if s.length ≤ sizeLine then R.ok (PyData.int s.length) else .stk) = _
  unfold lenR
  split <;> rfl
theorem str_I (i : Int) : dStrOf [.int i] = (strR i).map .str := by
  show (if i.natAbs < 2 ^ 1900 then R.ok (PyData.str (toString i)) else .stk) = _
  unfold strR
  split <;> rfl
theorem nox_partR (c k m : Int) : (partR c k m).nox = partR c k m := by
  unfold partR
  split <;> rfl
theorem cs_sdfP {α ε : Type} {e : α → D} {n : Env → ε} {r : D → ε} {b c : Env → ε} {ex : Exn → ε} {z : ε} {i : Nat} {dk dd : Env → R D} {f : Env → R (List D)} {ρ : Env} {d : List (Str × List α)} {k : Str} {v : α} {F : List (Str × List α) → ε} (h : ρ[i]? = some (some (.dict (d.map (eP (eL e)))))) (hk : dk ρ = .ok (.str k)) (hd : dd ρ = .ok (.list []))
    (hf : ∀ x, f (ρ.set i x) = .ok [e v]) (hn : ∀ d', n (ρ.set i (some (.dict (d'.map (eP (eL e)))))) = F d') : (pushR d k v).rc F ex z = (sdfS i [] dk dd gAppend f ρ).cs n r b c ex z := by
  rw [cs_sdfS n r b c ex z i dk dd f ρ d k v h hk hd hf]
  exact rc_cg fun d' => (hn d').symm
def lenOk {α : Type} (xs : List α) : R Unit := if xs.length < sizeLine then .ok () else .stk
theorem app_dead {α : Type} (e : α → D) (xs : List α) (d : D) : optR (gAppend (xs.map e) [d]) = (lenOk xs).map fun _ => .list (xs.map e ++ [d]) := by
  rw [app_L, List.length_map]
  unfold lenOk
  split <;> rfl
def insR {α : Type} (xs : List α) (i : Int) (x : α) : R (List α) := if xs.length < sizeLine ∧ big62 i = true ∧ 0 ≤ i then .ok (xs.take i.toNat ++ [x] ++ xs.drop i.toNat) else .stk
theorem ins_E {α : Type} (e : α → D) [EI e] (xs : List α) (i : Int) (x : α) : optR (gInsert (xs.map e) [.int i, e x]) = (insR xs i x).map fun l => .list (l.map e) := by
  unfold gInsert insR
  dsimp only
  rw [immL_E, EI.imm x, List.length_map]
  by_cases h : xs.length < sizeLine ∧ big62 i = true ∧ 0 ≤ i
  · rw [if_pos ⟨rfl, h⟩, if_pos h]
    show R.ok _ = R.ok _
    simp only [List.map_append, List.map_take, List.map_drop, List.map_cons, List.map_nil]
  · rw [if_neg (fun z => h z.2), if_neg h]
    rfl
theorem slL_some (xs : List D) : slL (some (some (.list xs))) = .ok xs := (rfl)
theorem slD_some (xs : List (D × D)) : slD (some (some (.dict xs))) = .ok xs := (rfl)
theorem e_bolE (f : Env → R D) (ρ : Env) : bolE f ρ = ((f ρ).bind tst).map .bool := by
  unfold bolE
  cases f ρ with
  | ok d => cases d <;> rfl
  | _ => rfl
theorem e_orE (f g : Env → R D) (ρ : Env) : (orE f g ρ).bind tst = orB ((f ρ).bind tst) ((g ρ).bind tst) := by
  unfold orE orB
  cases f ρ with
  | ok d =>
    cases d with
    | bool b => cases b <;> rfl
    | _ => rfl
  | _ => rfl
theorem e_notE (f : Env → R D) (ρ : Env) : (notE f ρ).bind tst = notB ((f ρ).bind tst) := by
  unfold notE notB
  cases f ρ with
  | ok d => cases d <;> rfl
  | _ => rfl
theorem map_b {α β : Type} (r : R α) (g : α → β) : r.map g = r.bind fun a => .ok (g a) := by cases r <;> rfl
theorem nox_bind {α β : Type} (r : R α) (k : α → R β) : (r.bind k).nox = r.nox.bind fun a => (k a).nox := by cases r <;> rfl
theorem rmap_ok {α β : Type} (g : α → β) (a : α) : (R.ok a).map g = .ok (g a) := (rfl)
theorem outlen2 (a b : D) (i j : Nat) : (([a, b] : List D).length = ([i, j] : List Nat).length) = True := eq_true rfl
theorem if_tt {α : Type} (a b : α) : (if True then a else b) = a := if_pos trivial
end Dg
namespace Dg
open PySem PySem.Spec PyProof.Rows L2
theorem part_tr (c k m : Int) : (runF 3 (retS (b2 dMod (b2 dMod (b2 dMul2 (b2 dMod (b2 dMul2 (b2 dAdd (b2 dMod (vr 0) (cst (.int 99991))) (cst (.int 17))) (b2 dAdd (cst (.int 48271)) (b2 dMul2 (cst (.int 7919)) (vr 1)))) (cst (.int 65537))) (b2 dAdd (vr 1) (cst (.int 3)))) (cst (.int 8191))) (vr 2))) [.int c, .int k, .int m]).nox = (partR c k m).map .int := by
  unfold partR runF startD
  by_cases h : 0 < m
  · have := part_ok c k m h [some (.int c), some (.int k), some (.int m)] rfl rfl rfl
    rw [if_pos h]
    show (outR (retS _ [some (.int c), some (.int k), some (.int m)])).nox = _
    rw [e_retS, this]
    rfl
  · have a1 := Int.emod_nonneg c (show (99991 : Int) ≠ 0 by decide)
    have a2 := Int.emod_lt_of_pos c (show (0 : Int) < 99991 by decide)
    have b1 := Int.emod_nonneg ((c % 99991 + 17) * (48271 + 7919 * k)) (show (65537 : Int) ≠ 0 by decide)
    have b2 := Int.emod_lt_of_pos ((c % 99991 + 17) * (48271 + 7919 * k)) (show (0 : Int) < 65537 by decide)
    have s1 : smallI (c % 99991 + 17) = true := small_of (by omega)
    have s2 : smallI ((c % 99991 + 17) * (48271 + 7919 * k) % 65537) = true := small_of (by omega)
    have s3 : smallI 7919 = true := by decide
    have m1 := dMod_pos (i := c) (j := 99991) (by decide)
    have m2 := dMod_pos (i := (c % 99991 + 17) * (48271 + 7919 * k)) (j := 65537) (by decide)
    have m3 := dMod_pos (i := (c % 99991 + 17) * (48271 + 7919 * k) % 65537 * (k + 3)) (j := 8191) (by decide)
    have m4 : dMod (.int ((c % 99991 + 17) * (48271 + 7919 * k) % 65537 * (k + 3) % 8191)) (.int m) = .stk := if_neg h
    rw [if_neg h]
    show (outR (retS _ [some (.int c), some (.int k), some (.int m)])).nox = _
    rw [e_retS]
    simp only [e_b2, e_vr, e_cst, List.getElem?_cons_zero, List.getElem?_cons_succ, R.bind_ok, m1, dAdd_int, dMul_left s3, dMul_left s1, m2, dMul_left s2, m3, m4]
    rfl
end Dg

/-! Dt5: typed values, more: dicts walked over, sets sorted. -/
namespace Dg
open PySem PySem.Spec PyProof.Rows L2
section
variable {β : Type} (n : Env → β) (r : D → β) (b c : Env → β) (e : Exn → β) (z : β)
variable (f g : Env → Out) (ρ : Env) (d : Env → R D) (ps ow : List Nat) (i : Nat)
theorem cs_onlyS (G : Env → Bool) : (onlyS G f ρ).cs n r b c e z = if G ρ = true then (f ρ).cs n r b c e z else z := by
  unfold onlyS
  split <;> rfl
theorem cs_noX : (noX f ρ).cs n r b c e z = (f ρ).cs n r b c (fun _ => z) z := by
  unfold noX
  cases f ρ <;> rfl
def isDO (o : Option (Option D)) : Bool := match o with
  | some (some (.dict kvs)) => !tagD kvs
  | _ => false
theorem isDct_at : isDct i ρ = isDO ρ[i]? := (rfl)
theorem e_valsE : valsE d ρ = (d ρ).bind dVals := (rfl)
theorem e_keysE : keysE d ρ = (d ρ).bind dKeys := (rfl)
theorem mixE_cons (k : Nat) (y : Option D) (r : Env) : mixE ps ow k ρ (y :: r) = (if ps.contains k then ρ.headD none else if ow.contains k then y else none) :: mixE ps ow (k + 1) ρ.tail r := (rfl)
theorem mixE_nil (k : Nat) : mixE ps ow k ρ [] = [] := (rfl)
end
section
variable {α : Type} (e : α → D) (d : List (Str × α))
theorem isDO_P : isDO (some (some (.dict (d.map (eP e))))) = true := by
  show (!tagD (d.map (eP e))) = true
  rw [tag_map]
  rfl
theorem vals_P : dVals (.dict (d.map (eP e))) = .ok ((d.map (·.2)).map e) := by
  show (if tagD (d.map (eP e)) = true then R.stk else R.ok ((d.map (eP e)).map (·.2))) = _
  rw [tag_map, if_neg Bool.false_ne_true, List.map_map, List.map_map]
  rfl
theorem keys_P : dKeys (.dict (d.map (eP e))) = .ok ((d.map (·.1)).map .str) := by
  show (if tagD (d.map (eP e)) = true then R.stk else R.ok ((d.map (eP e)).map (·.1))) = _
  rw [tag_map, if_neg Bool.false_ne_true, List.map_map, List.map_map]
  rfl
theorem lenD_P : dLenD [.dict (d.map (eP e))] = .ok (.int d.length) := by
  show (if tagD (d.map (eP e)) = true then R.stk else R.ok (PyData.int (d.map (eP e)).length)) = _
  rw [tag_map, if_neg Bool.false_ne_true, List.length_map]
theorem listvals_P [EI e] : dListVals (.dict (d.map (eP e))) = .ok (.list ((d.map (·.2)).map e)) := by
  have h : (d.map (eP e)).map (·.2) = (d.map (·.2)).map e := by
    rw [List.map_map, List.map_map]
    rfl
  show (if (!tagD (d.map (eP e)) && immL ((d.map (eP e)).map (·.2))) = true then R.ok (PyData.list ((d.map (eP e)).map (·.2))) else R.stk) = _
  rw [tag_map, h, immL_E]
  rfl
theorem e_onlyE (G : Env → Bool) (f : Env → R D) (ρ : Env) : onlyE G f ρ = if G ρ = true then (f ρ).nox else .stk := (rfl)
def sortedDR (d : List (Str × α)) : R (List Str) := if d.length < 64 then .ok (sortS (d.map (·.1))) else .stk
theorem strsD_P : strsD (d.map (eP e)) = some (d.map (·.1)) := by
  induction d with
  | nil => rfl
  | cons p r ih =>
    show (strsD (r.map (eP e))).map (p.1 :: ·) = _
    rw [ih]
    rfl
theorem sorted_P : dSorted [.dict (d.map (eP e))] = (sortedDR d).map fun l => .list (l.map .str) := by
  show (match strsD (d.map (eP e)) with
    | some ks => if ks.length < 64 then R.ok (PyData.list ((ks.map PyData.str).mergeSort leD)) else .stk
    | none => .stk) = _
  rw [strsD_P]
  dsimp only
  rw [List.length_map, sort_strs]
  unfold sortedDR
  split <;> rfl
end
theorem bools_P (bs : List Bool) : boolsD (bs.map .bool) = some bs := by
  induction bs with
  | nil => rfl
  | cons b r ih =>
    show (boolsD (r.map .bool)).map (b :: ·) = _
    rw [ih]
    rfl
theorem all_P (bs : List Bool) : dAll [.list (bs.map .bool)] = .ok (.bool (bs.all id)) := by
  show (match boolsD (bs.map .bool) with
    | some bs => R.ok (PyData.bool (bs.all id))
    | none => .stk) = _
  rw [bools_P]
theorem any_P (bs : List Bool) : dAny [.list (bs.map .bool)] = .ok (.bool (bs.any id)) := by
  show (match boolsD (bs.map .bool) with
    | some bs => R.ok (PyData.bool (bs.any id))
    | none => .stk) = _
  rw [bools_P]
/-! ### d[k].append(v) -/
def lookR (kvs : List (D × D)) (y : D) : R (List D) := match (if tagD kvs = false ∧ isKey y = true then lookD kvs y else none) with
  | some (.list xs) => .ok xs
  | _ => .stk
section
variable {β : Type} (n : Env → β) (r : D → β) (b c : Env → β) (e : Exn → β) (z : β)
theorem cs_pathS (i : Nat) (ms : List Nat) (dk : Env → R D) (g : List D → List D → Option D) (f : Env → R (List D)) (ρ : Env) : (pathS i ms dk g f ρ).cs n r b c e z = (slD ρ[i]?).rc (fun kvs => (dk ρ).rc (fun y => (lookR kvs y).rc (fun xs => (f ρ).rc (fun ds => (optR (g xs ds)).rc (fun d => n ((kill ms ρ).set i (some (.dict (setD kvs y d))))) e z) e z) e z) e z) e z := by
  unfold pathS
  generalize ρ[i]? = o
  rcases o with _ | _ | d
  · rfl
  · rfl
  · cases d with
    | dict kvs =>
      dsimp only [slD, R.rc]
      cases dk ρ with
      | ok y =>
        dsimp only [R.rc]
        unfold lookR
        cases hq : (if tagD kvs = false ∧ isKey y = true then lookD kvs y else none) with
        | none => rfl
        | some w =>
          cases w with
          | list xs =>
            dsimp only [R.rc]
            cases f ρ with
            | ok ds =>
              dsimp only [R.rc]
              cases g xs ds <;> rfl
            | _ => rfl
          | _ => rfl
      | _ => rfl
    | _ => rfl
end
section
variable {α : Type} {e : α → D}
theorem lookR_P (d : List (Str × List α)) (k : Str) : lookR (d.map (eP (eL e))) (.str k) = (optR (dget d k)).map (List.map e) := by
  unfold lookR
  rw [tag_map, if_pos ⟨rfl, rfl⟩, lookD_map]
  cases dget d k <;> rfl
theorem setD_P (d : List (Str × List α)) (k : Str) (xs : List α) : setD (d.map (eP (eL e))) (.str k) (.list (xs.map e)) = (setO d k xs).map (eP (eL e)) := setD_map (e := eL e) k xs d
end
def uniqS : List Str → List Str
  | [] => []
  | k :: r => if (r.any fun j => decide (j = k)) = true then uniqS r else k :: uniqS r
theorem mem_uniqS {k : Str} : ∀ {ks : List Str}, k ∈ uniqS ks ↔ k ∈ ks
  | [] => Iff.rfl
  | j :: r => by
    have am : (r.any fun i => decide (i = j)) = true ↔ j ∈ r := by
      rw [List.any_eq_true]
      exact ⟨fun ⟨i, hi, e⟩ => (of_decide_eq_true e) ▸ hi, fun h => ⟨j, h, decide_eq_true rfl⟩⟩
    rw [uniqS]
    by_cases h : (r.any fun i => decide (i = j)) = true
    · rw [if_pos h, mem_uniqS, List.mem_cons]
      exact ⟨.inr, fun z => z.elim (fun e => by rw [e]; exact am.mp h) id⟩
    · rw [if_neg h, List.mem_cons, List.mem_cons, mem_uniqS]
theorem uniqS_len : ∀ (ks : List Str), (uniqS ks).length ≤ ks.length
  | [] => Nat.le_refl _
  | j :: r => by
    have := uniqS_len r
    rw [uniqS]
    split
    · rw [List.length_cons]
      omega
    · rw [List.length_cons, List.length_cons]
      omega
theorem uniqS_nodup : ∀ (ks : List Str), (uniqS ks).Nodup
  | [] => List.nodup_nil
  | j :: r => by
    rw [uniqS]
    by_cases h : (r.any fun i => decide (i = j)) = true
    · rw [if_pos h]
      exact uniqS_nodup r
    · rw [if_neg h]
      refine List.nodup_cons.mpr ⟨fun z => h ?_, uniqS_nodup r⟩
      rw [List.any_eq_true]
      exact ⟨j, mem_uniqS.mp z, decide_eq_true rfl⟩
theorem uniq_S : ∀ (xs : List Str), uniq (xs.map Sum.inr) = (uniqS xs).map Sum.inr
  | [] => rfl
  | k :: r => by
    have e : ((r.map (Sum.inr : Str → Key)).any fun j => decide (j = Sum.inr k)) = r.any fun j => decide (j = k) := by
      rw [List.any_map]
      congr 1
      funext j
      exact key_rr j k
    rw [List.map_cons, uniq, uniqS, e, uniq_S r]
    split <;> rfl
def sortedSetR (xs : List Str) : R (List Str) := if xs.length + 1 < scanBound then .ok (sortS (uniqS xs)) else .stk
theorem keysD_S : ∀ (xs : List Str), keysD (xs.map .str) = some (xs.map Sum.inr)
  | [] => rfl
  | x :: r => by
    rw [List.map_cons, keysD, keysD_S r]
    rfl
theorem oneKind_S (xs : List Str) : oneKind (xs.map Sum.inr) = true := by
  unfold oneKind
  rw [List.all_eq_true]
  intro k hk
  rw [List.all_eq_true]
  intro j hj
  obtain ⟨_, _, rfl⟩ := List.mem_map.mp hk
  obtain ⟨_, _, rfl⟩ := List.mem_map.mp hj
  rfl
theorem setsort_S (xs : List Str) : dSetSort [.list (xs.map .str)] = (sortedSetR xs).map fun l => .list (l.map .str) := by
  show (match keysD (xs.map .str) with
    | some ks => if (decide (ks.length + 1 < scanBound) && oneKind ks) = true then R.ok (PyData.list (((uniq ks).map kD).mergeSort leD)) else .stk
    | none => .stk) = _
  rw [keysD_S]
  dsimp only
  have e : ((uniqS xs).map (Sum.inr : Str → Key)).map kD = (uniqS xs).map PyData.str := by
    rw [List.map_map]
    rfl
  rw [oneKind_S, Bool.and_true, List.length_map, uniq_S, e, sort_strs]
  unfold sortedSetR
  by_cases h : xs.length + 1 < scanBound
  · rw [decide_eq_true h, if_pos rfl, if_pos h]
    rfl
  · rw [decide_eq_false h, if_neg Bool.false_ne_true, if_neg h]
    rfl
section
variable {α β : Type} {r : R α} {f : α → R β}
theorem nox_sortedSetR (xs : List Str) : (sortedSetR xs).nox = sortedSetR xs := by
  unfold sortedSetR
  split <;> rfl
theorem nox_sortedDR (d : List (Str × α)) : (sortedDR d).nox = sortedDR d := by
  unfold sortedDR
  split <;> rfl
end
end Dg

/-! Tm: plain lemmas on the mirrors' words: loops, comprehensions, dicts told by a function on their keys -/
namespace Dg
open PySem PySem.Spec PyProof.Rows L2
theorem line_ge : 100000 ≤ sizeLine := by decide +kernel
theorem appR_ok {α : Type} {xs : List α} {x : α} (h : xs.length < 100000) : appR xs x = .ok (xs ++ [x]) := if_pos (Nat.lt_of_lt_of_le h line_ge)
theorem addL_ok {α : Type} {a b : List α} (h : a.length + b.length ≤ 100000) : addL a b = .ok (a ++ b) := if_pos (Nat.le_trans h line_ge)
theorem addS_ok {a b : Str} (h : a.length + b.length ≤ 100000) : addS a b = .ok (a ++ b) := if_pos (Nat.le_trans h line_ge)
theorem lenOk_ok {α : Type} {xs : List α} (h : xs.length < 100000) : lenOk xs = .ok () := if_pos (Nat.lt_of_lt_of_le h line_ge)
theorem cutR_ok {s : Str} {a b : Option Int} (h : s.length ≤ 100000) : cutR s a b = .ok (cutS s a b) := if_pos (Nat.le_trans h line_ge)
theorem partR_ok {c k m : Int} (h : 0 < m) : partR c k m = .ok (part c k m) := if_pos h
theorem modR_ok {i j : Int} (h : 0 < j) : modR i j = .ok (i % j) := if_pos h
theorem rangeR_nat {n : Nat} (h : n < 2 ^ 62) : rangeR (n : Int) = .ok ((List.range n).map fun (i : Nat) => (i : Int)) := by
  unfold rangeR
  rw [if_pos (show big62 (n : Int) = true from decide_eq_true (by omega)), Int.toNat_natCast]
theorem ixR_nat {α : Type} {xs : List α} {k : Nat} (h : k < xs.length) : ixR xs (k : Int) = .ok xs[k] := by
  unfold ixR
  rw [show atI xs (k : Int) = some xs[k] from atI_nat (List.getElem?_eq_getElem h)]
  rfl
theorem ixR_of {α : Type} {xs : List α} {i : Int} {k : Nat} (hi : i = k) (h : k < xs.length) : ixR xs i = .ok xs[k] := by
  subst hi
  exact ixR_nat h
theorem ixR_neg1 {α : Type} {xs : List α} (h : 0 < xs.length) : ixR xs (-1) = .ok (xs[xs.length - 1]'(by omega)) := by
  unfold ixR atI
  have e : ixN xs.length (-1) = some (xs.length - 1) := by
    unfold ixN
    rw [if_neg (by omega), if_pos (by omega)]
    congr 1
    omega
  rw [e]
  show optR xs[xs.length - 1]? = _
  rw [List.getElem?_eq_getElem (by omega)]
  rfl
section
variable {α β S K : Type}
theorem forR_nil {s : S} {f : α → S → R S} : forR [] s f = .ok s := rfl
theorem forR_cons {x : α} {xs : List α} {s s' : S} {f : α → S → R S} (h : f x s = .ok s') : forR (x :: xs) s f = forR xs s' f := by
  rw [forR, h]
  rfl
/-- a loop whose state is told by st -/
theorem forR_st {f : α → S → R S} (st : K → S) (g : α → K → K) (I : K → Prop) : ∀ (xs : List α) (k : K), I k → (∀ x ∈ xs, ∀ k, I k → f x (st k) = .ok (st (g x k)) ∧ I (g x k)) → forR xs (st k) f = .ok (st (xs.foldl (fun k x => g x k) k)) ∧ I (xs.foldl (fun k x => g x k) k)
  | [], k, hI, _ => ⟨rfl, hI⟩
  | x :: xs, k, hI, h => by
    obtain ⟨h1, h2⟩ := h x List.mem_cons_self k hI
    rw [forR_cons h1]
    exact forR_st st g I xs (g x k) h2 fun y hy => h y (List.mem_cons_of_mem _ hy)
/-- .. with what holds after each item, told by the items gone through -/
theorem forR_inv {f : α → S → R S} (P : List α → S → Prop) : ∀ (xs done : List α) (s : S), P done s → (∀ d x s, x ∈ xs → P d s → ∃ s', f x s = .ok s' ∧ P (d ++ [x]) s') → ∃ s', forR xs s f = .ok s' ∧ P (done ++ xs) s'
  | [], done, s, hP, _ => ⟨s, rfl, by rw [List.append_nil]; exact hP⟩
  | x :: xs, done, s, hP, h => by
    obtain ⟨s', h1, h2⟩ := h done x s List.mem_cons_self hP
    rw [forR_cons h1]
    obtain ⟨s2, h3, h4⟩ := forR_inv P xs (done ++ [x]) s' h2 fun d y s hy => h d y s (List.mem_cons_of_mem _ hy)
    exact ⟨s2, h3, by rw [List.append_assoc] at h4; exact h4⟩
theorem forR_pre {f : α → S → R S} (P : List α → S → Prop) {all : List α} {s0 : S} (h0 : P [] s0) (h : ∀ d x rest s, all = d ++ x :: rest → P d s → ∃ s', f x s = .ok s' ∧ P (d ++ [x]) s') : ∃ s', forR all s0 f = .ok s' ∧ P all s' := by
  have key : ∀ (xs done : List α) (s : S), all = done ++ xs → P done s → ∃ s', forR xs s f = .ok s' ∧ P all s' := by
    intro xs
    induction xs with
    | nil =>
      intro done s e hP
      rw [List.append_nil] at e
      rw [e]
      exact ⟨s, rfl, hP⟩
    | cons x xs ih =>
      intro done s e hP
      obtain ⟨s', h1, h2⟩ := h done x xs s e hP
      rw [forR_cons h1]
      exact ih (done ++ [x]) s' (by rw [List.append_assoc]; exact e) h2
  exact key all [] s0 rfl h0
theorem pre_mem {all d rest : List α} {x : α} (e : all = d ++ x :: rest) : x ∈ all := by
  rw [e]
  exact List.mem_append_right _ List.mem_cons_self
theorem pre_len {all d rest : List α} {x : α} (e : all = d ++ x :: rest) : d.length < all.length := by
  rw [e, List.length_append, List.length_cons]
  omega
theorem compR_ok {xs : List α} {c : α → R Bool} {f : α → R β} (p : α → Bool) (h : α → β) (hl : xs.length ≤ 100000) (hc : ∀ x ∈ xs, c x = .ok (p x) ∧ (p x = true → f x = .ok (h x))) : compR xs c f = .ok ((xs.filter p).map h) := by
  have key : ∀ xs : List α, (∀ x ∈ xs, c x = .ok (p x) ∧ (p x = true → f x = .ok (h x))) → compGoR xs c f = .ok ((xs.filter p).map h) := by
    intro xs
    induction xs with
    | nil => intro _; rfl
    | cons x xs ih =>
      intro hc
      obtain ⟨h1, h2⟩ := hc x List.mem_cons_self
      have ih := ih fun y hy => hc y (List.mem_cons_of_mem _ hy)
      rw [compGoR, h1]
      show (if p x = true then _ else _) = _
      by_cases hp : p x = true
      · rw [if_pos hp, h2 hp, List.filter_cons_of_pos hp, ih]
        rfl
      · rw [if_neg hp, List.filter_cons_of_neg hp, ih]
  unfold compR
  rw [if_pos (Nat.le_trans hl line_ge), key xs hc]
theorem compR_map {xs : List α} {f : α → R β} (h : α → β) (hl : xs.length ≤ 100000) (hc : ∀ x ∈ xs, f x = .ok (h x)) : compR xs (fun _ => .ok true) f = .ok (xs.map h) := by
  rw [compR_ok (fun _ => true) h hl fun x hx => ⟨rfl, fun _ => hc x hx⟩, List.filter_eq_self.mpr fun _ _ => rfl]
end
/-! ### a dict on given keys -/
section
variable {α : Type}
def dmap (us : List Str) (J : Str → α) : List (Str × α) := us.map fun u => (u, J u)
def fset (J : Str → α) (u : Str) (v : α) : Str → α := fun w => if w = u then v else J w
theorem dmap_congr {us : List Str} {J K : Str → α} (h : ∀ u ∈ us, J u = K u) : dmap us J = dmap us K := List.map_congr_left fun u hu => by rw [h u hu]
theorem dmap_len (us : List Str) (J : Str → α) : (dmap us J).length = us.length := List.length_map _
theorem dget_dmap {J : Str → α} {u : Str} : ∀ {us : List Str}, u ∈ us → dget (dmap us J) u = some (J u)
  | [], h => by cases h
  | w :: us, h => by
    show (if w = u then some (J w) else dget (dmap us J) u) = _
    by_cases e : w = u
    · rw [if_pos e, e]
    · rw [if_neg e]
      exact dget_dmap ((List.mem_cons.mp h).resolve_left fun z => e z.symm)
theorem dget_dmap_none {J : Str → α} {u : Str} : ∀ {us : List Str}, u ∉ us → dget (dmap us J) u = none
  | [], _ => rfl
  | w :: us, h => by
    show (if w = u then some (J w) else dget (dmap us J) u) = _
    rw [if_neg (fun e => h (by rw [e]; exact List.mem_cons_self))]
    exact dget_dmap_none fun z => h (List.mem_cons_of_mem _ z)
theorem putO_dmap {J : Str → α} {u : Str} {v : α} : ∀ {us : List Str}, us.Nodup → u ∈ us → putO (dmap us J) u v = some (dmap us (fset J u v))
  | [], _, h => by cases h
  | w :: us, nd, h => by
    have nd' := List.nodup_cons.mp nd
    show (if w = u then (if dhas (dmap us J) u = true then none else some ((w, v) :: dmap us J)) else (putO (dmap us J) u v).map ((w, J w) :: ·)) = _
    by_cases e : w = u
    · subst e
      rw [if_pos rfl]
      have h0 : dhas (dmap us J) w = false := by
        unfold dhas
        rw [dget_dmap_none nd'.1]
        rfl
      rw [h0, if_neg Bool.false_ne_true]
      show some ((w, v) :: dmap us J) = some ((w, fset J w v w) :: dmap us (fset J w v))
      rw [show fset J w v w = v from if_pos rfl, dmap_congr (J := J) (K := fset J w v) fun u hu => (if_neg (fun z : u = w => nd'.1 (by rw [← z]; exact hu))).symm]
    · rw [if_neg e, putO_dmap nd'.2 ((List.mem_cons.mp h).resolve_left fun z => e z.symm)]
      show some ((w, J w) :: dmap us (fset J u v)) = some ((w, fset J u v w) :: dmap us (fset J u v))
      rw [show fset J u v w = J w from if_neg e]
theorem putR_dmap {us : List Str} {J : Str → α} {u : Str} {v : α} (nd : us.Nodup) (h : u ∈ us) (hl : us.length < 100000) : putR (dmap us J) u v = .ok (dmap us (fset J u v)) := by
  unfold putR
  rw [if_pos (by rw [dmap_len]; exact Nat.lt_of_lt_of_le hl line_ge), putO_dmap nd h]
  rfl
theorem putR_new {us : List Str} {J : Str → α} {u : Str} {v : α} (h : u ∉ us) (hv : v = J u) (hl : us.length < 100000) : putR (dmap us J) u v = .ok (dmap (us ++ [u]) J) := by
  unfold putR
  rw [if_pos (by rw [dmap_len]; exact Nat.lt_of_lt_of_le hl line_ge), putO_none (dget_dmap_none h), hv]
  unfold dmap
  rw [List.map_append]
  rfl
/-- a dict made key by key -/
theorem dict_made {f : Str → List (Str × α) → R (List (Str × α))} (J : Str → α) {us : List Str} (nd : us.Nodup) (hl : us.length < 100000) (hf : ∀ u ∈ us, ∀ s, f u s = (putR s u (J u)).bind fun d => .ok d) : forR us [] f = .ok (dmap us J) := by
  have key : ∀ (rest done : List Str), done ++ rest = us → forR rest (dmap done J) f = .ok (dmap us J) := by
    intro rest
    induction rest with
    | nil =>
      intro done e
      rw [List.append_nil] at e
      rw [e]
      rfl
    | cons u rest ih =>
      intro done e
      have hu : u ∈ us := by
        rw [← e]
        exact List.mem_append_right _ List.mem_cons_self
      have hnd : u ∉ done := by
        rw [← e] at nd
        exact fun z => (List.nodup_append.mp nd).2.2 u z u List.mem_cons_self rfl
      have hlen : done.length < 100000 := by
        rw [← e, List.length_append] at hl
        omega
      rw [forR_cons (s' := dmap (done ++ [u]) J)]
      · exact ih (done ++ [u]) (by rw [List.append_assoc]; exact e)
      · rw [hf u hu, putR_new hnd rfl hlen]
        rfl
  exact key us [] rfl
end
/-! ### texts in order -/
def leS (a b : Str) : Prop := a.cps.toList ≤ b.cps.toList
theorem leS_refl (a : Str) : leS a a := Std.le_refl _
theorem leS_trans {a b c : Str} (h : leS a b) (h2 : leS b c) : leS a c := Std.le_trans h h2
theorem leS_antisymm {a b : Str} (h : leS a b) (h2 : leS b a) : a = b := str_ext (Std.le_antisymm h h2)
theorem leS_total (a b : Str) : leS a b ∨ leS b a := Std.le_total
theorem minS_or (a b : Str) : minS a b = a ∨ minS a b = b := by
  unfold minS
  split
  · exact .inr rfl
  · exact .inl rfl
theorem minS_left (a b : Str) : leS (minS a b) a := by
  unfold minS
  rw [PySem.W.dataLt_str]
  split
  · rename_i h
    exact Std.le_of_lt (of_decide_eq_true h)
  · exact leS_refl a
theorem minS_right (a b : Str) : leS (minS a b) b := by
  unfold minS
  rw [PySem.W.dataLt_str]
  split
  · exact leS_refl b
  · rename_i h
    have : ¬ b.cps.toList < a.cps.toList := fun z => h (decide_eq_true z)
    exact Std.not_lt.mp this
end Dg

/-! Dt6: pairs of texts, sorted -/
namespace Dg
open PySem PySem.Spec PyProof.Rows L2
theorem in_E2 {α : Type} (e : α → D) [DecidableEq α] [EG 8 e] (neg : Bool) (x : α) (xs : List α) [Decidable (x ∈ xs)] : dInS neg (e x) (.list (xs.map e)) = .ok (.bool (neg != decide (x ∈ xs))) := by
  rw [in_E e neg x xs]
  congr 3
  exact decide_eq_decide.mpr Iff.rfl
theorem eq_E2 {α : Type} (e : α → D) [DecidableEq α] [EG 8 e] (x y : α) [Decidable (x = y)] : dEq (e x) (e y) = .ok (.bool (decide (x = y))) := by
  rw [eq_E e x y]
  congr 2
  exact decide_eq_decide.mpr Iff.rfl
abbrev eSS : Str × Str → D := eT2 PyData.str PyData.str
def leP (a b : Str × Str) : Bool := leD (eSS a) (eSS b)
def sortP (xs : List (Str × Str)) : List (Str × Str) := xs.mergeSort leP
def sortedPR (xs : List (Str × Str)) : R (List (Str × Str)) := if xs.length ≤ sizeLine then .ok (sortP xs) else .stk
theorem sort_P (xs : List (Str × Str)) : (xs.map eSS).mergeSort leD = (sortP xs).map eSS := (List.map_mergeSort (r := leP) (s := leD) (f := eSS) fun a _ b _ => rfl).symm
theorem okD_SS (p : Str × Str) : okD (eSS p) = true := by
  unfold okD eSS eT2
  simp [flat, flatL, PyData.plain, PyData.plainAll, PyData.depth, PyData.depthAll]
theorem alike_SS (p q : Str × Str) : PySem.W.alike (eSS p) (eSS q) = true := by
  unfold eSS eT2
  simp [PySem.W.alike, PySem.W.alikeAll]
theorem sortOk_SS (xs : List (Str × Str)) : sortOk (xs.map eSS) = decide (xs.length ≤ sizeLine) := by
  have h1 : (xs.map eSS).all okD = true := List.all_eq_true.mpr fun d hd => by
    obtain ⟨x, _, rfl⟩ := List.mem_map.mp hd
    exact okD_SS x
  have h2 : ((xs.map eSS).all fun d => (xs.map eSS).all fun e => PySem.W.alike d e) = true := List.all_eq_true.mpr fun d hd => List.all_eq_true.mpr fun f hf => by
    obtain ⟨x, _, rfl⟩ := List.mem_map.mp hd
    obtain ⟨y, _, rfl⟩ := List.mem_map.mp hf
    exact alike_SS x y
  have h3 : (xs.map eSS).all tupNe = true := List.all_eq_true.mpr fun d hd => by
    obtain ⟨x, _, rfl⟩ := List.mem_map.mp hd
    rfl
  unfold sortOk
  rw [h1, h2, h3, List.length_map, Bool.true_or, Bool.true_and, Bool.true_and, Bool.true_and]
theorem sorted_PP (xs : List (Str × Str)) : dSorted [.list (xs.map eSS)] = (sortedPR xs).map fun l => .list (l.map eSS) := by
  show (if (immL (xs.map eSS) && sortOk (xs.map eSS)) = true then R.ok (PyData.list ((xs.map eSS).mergeSort leD)) else .stk) = _
  rw [immL_E, sortOk_SS, Bool.true_and, sort_P]
  unfold sortedPR
  by_cases h : xs.length ≤ sizeLine
  · rw [decide_eq_true h, if_pos rfl, if_pos h]
    rfl
  · rw [decide_eq_false h, if_neg Bool.false_ne_true, if_neg h]
    rfl
/-! ### the order of pairs -/
theorem ltP_eq (a b : Str × Str) : PySem.W.dataLt (eSS a) (eSS b) = if a.1 = b.1 then decide (a.2.cps.toList < b.2.cps.toList) else decide (a.1.cps.toList < b.1.cps.toList) := by
  unfold eSS eT2
  rw [PySem.W.dataLt_pair (by simp [PySem.W.alike]) (by simp [PySem.W.alike]), PySem.W.dataLt_str, PySem.W.dataLt_str]
  simp only [PyData.eqv, beq_iff_eq]
  by_cases h : a.1 = b.1
  · rw [if_pos h, if_pos h]
    by_cases h2 : a.2 = b.2
    · rw [if_pos h2, h2]
      exact (decide_eq_false (fun h => Std.lt_irrefl h)).symm
    · rw [if_neg h2]
  · rw [if_neg h, if_neg h]
theorem leP_iff (a b : Str × Str) : leP a b = true ↔ (a.1 = b.1 ∧ leS a.2 b.2) ∨ (¬ a.1 = b.1 ∧ leS a.1 b.1) := by
  unfold leP leD
  rw [ltP_eq, Bool.not_eq_true']
  by_cases h : b.1 = a.1
  · rw [if_pos h, decide_eq_false_iff_not]
    exact ⟨fun q => .inl ⟨h.symm, Std.not_lt.mp q⟩, fun q => q.elim (fun w => Std.not_lt.mpr w.2) fun w => absurd h.symm w.1⟩
  · rw [if_neg h, decide_eq_false_iff_not]
    exact ⟨fun q => .inr ⟨fun w => h w.symm, Std.not_lt.mp q⟩, fun q => q.elim (fun w => absurd w.1.symm h) fun w => Std.not_lt.mpr w.2⟩
theorem leP_total (a b : Str × Str) : (leP a b || leP b a) = true := by
  rw [Bool.or_eq_true, leP_iff, leP_iff]
  by_cases h : a.1 = b.1
  · rcases leS_total a.2 b.2 with q | q
    · exact .inl (.inl ⟨h, q⟩)
    · exact .inr (.inl ⟨h.symm, q⟩)
  · rcases leS_total a.1 b.1 with q | q
    · exact .inl (.inr ⟨h, q⟩)
    · exact .inr (.inr ⟨fun w => h w.symm, q⟩)
theorem leP_trans (a b c : Str × Str) (h1 : leP a b = true) (h2 : leP b c = true) : leP a c = true := by
  rw [leP_iff] at h1 h2 ⊢
  rcases h1 with ⟨e1, q1⟩ | ⟨n1, q1⟩ <;> rcases h2 with ⟨e2, q2⟩ | ⟨n2, q2⟩
  · exact .inl ⟨e1.trans e2, leS_trans q1 q2⟩
  · exact .inr ⟨fun w => n2 (e1.symm.trans w), by rw [e1]; exact q2⟩
  · exact .inr ⟨fun w => n1 (w.trans e2.symm), by rw [← e2]; exact q1⟩
  · refine .inr ⟨fun w => n1 ?_, leS_trans q1 q2⟩
    exact leS_antisymm q1 (by rw [w]; exact q2)
theorem leP_antisymm (a b : Str × Str) (h1 : leP a b = true) (h2 : leP b a = true) : a = b := by
  rw [leP_iff] at h1 h2
  rcases h1 with ⟨e1, q1⟩ | ⟨n1, q1⟩
  · rcases h2 with ⟨_, q2⟩ | ⟨n2, _⟩
    · exact Prod.ext e1 (leS_antisymm q1 q2)
    · exact absurd e1.symm n2
  · rcases h2 with ⟨e2, _⟩ | ⟨_, q2⟩
    · exact absurd e2.symm n1
    · exact absurd (leS_antisymm q1 q2) n1
theorem sortP_perm {xs ys : List (Str × Str)} (h : xs.Perm ys) : sortP xs = sortP ys :=
  List.Perm.eq_of_pairwise (le := fun a b => leP a b = true) (fun a b _ _ h1 h2 => leP_antisymm a b h1 h2) (List.pairwise_mergeSort leP_trans leP_total xs) (List.pairwise_mergeSort leP_trans leP_total ys) (((List.mergeSort_perm xs _).trans h).trans (List.mergeSort_perm ys _).symm)
theorem mem_sortP {x : Str × Str} {xs : List (Str × Str)} : x ∈ sortP xs ↔ x ∈ xs := (List.mergeSort_perm xs _).mem_iff
end Dg

/-! Dt7: lists within lists, changed; extend -/
namespace Dg
open PySem PySem.Spec PyProof.Rows L2
def slP (o : Option (Option D)) : R D := match o with
  | some (some x) => .ok x
  | _ => .stk
def asL (d : D) : R (List D) := match d with
  | .list xs => .ok xs
  | _ => .stk
def stpR (x y : D) : R D := optR (stepA x y)
theorem slP_some (x : D) : slP (some (some x)) = .ok x := (rfl)
theorem asL_list (xs : List D) : asL (.list xs) = .ok xs := (rfl)
theorem e_vrP (i : Nat) (ρ : Env) : vrP i ρ = (slP ρ[i]?).map fun x => (x, fun d => d) := by
  unfold vrP
  generalize ρ[i]? = o
  rcases o with _ | _ | d <;> rfl
theorem e_ixP (p : Env → R PthD) (dk : Env → R D) (ρ : Env) : ixP p dk ρ = (p ρ).bind fun q => (dk ρ).bind fun y => (stpR q.1 y).map fun d => (d, fun z => q.2 (putA q.1 y z)) := by
  unfold ixP stpR
  cases p ρ with
  | ok q =>
    rw [R.bind_ok, R.bind_ok]
    cases dk ρ with
    | ok y =>
      rw [R.bind_ok, R.bind_ok]
      cases stepA q.1 y <;> rfl
    | _ => rfl
  | _ => rfl
section
variable {β : Type} (n : Env → β) (r : D → β) (b c : Env → β) (e : Exn → β) (z : β)
theorem cs_mutP (i : Nat) (ms : List Nat) (p : Env → R PthD) (g : List D → List D → Option D) (f : Env → R (List D)) (ρ : Env) : (mutP i ms p g f ρ).cs n r b c e z = (p ρ).rc (fun q => (asL q.1).rc (fun xs => (f ρ).rc (fun ds => (optR (g xs ds)).rc (fun d => n ((kill ms ρ).set i (some (q.2 d)))) e z) e z) e z) e z := by
  unfold mutP
  cases p ρ with
  | ok q =>
    obtain ⟨x, put⟩ := q
    dsimp only [R.rc]
    cases x with
    | list xs =>
      dsimp only [asL]
      cases f ρ with
      | ok ds =>
        dsimp only
        cases g xs ds <;> rfl
      | _ => rfl
    | _ => rfl
  | _ => rfl
end
def setIx {α : Type} (xs : List α) (i : Int) (v : α) : List α := match ixN xs.length i with
  | some j => xs.set j v
  | none => xs
theorem setIx_len {α : Type} (xs : List α) (i : Int) (v : α) : (setIx xs i v).length = xs.length := by
  unfold setIx
  split
  · exact List.length_set
  · rfl
section
variable {α β : Type} {e : α → D} {e1 : α → D} {e2 : β → D}
theorem setI_map (e : α → D) (xs : List α) (i : Int) (v : α) : setI (xs.map e) i (e v) = (setIx xs i v).map e := by
  unfold setI setIx
  rw [List.length_map]
  cases ixN xs.length i with
  | some j => exact List.map_set.symm
  | none => rfl
theorem stp_L (xs : List α) (i : Int) : stpR (.list (xs.map e)) (.int i) = (ixR xs i).map e := by
  show optR (atI (xs.map e) i) = _
  rw [atI_map]
  unfold ixR
  cases atI xs i <;> rfl
theorem put_LL (xs : List (List α)) (i : Int) (v : List α) : putA (.list (xs.map (eL e))) (.int i) (.list (v.map e)) = .list ((setIx xs i v).map (eL e)) := congrArg PyData.list (setI_map (eL e) xs i v)
theorem ext_E (e : α → D) [EI e] (xs ys : List α) : optR (gExtend (xs.map e) [.list (ys.map e)]) = (addL xs ys).map fun l => .list (l.map e) := by
  show optR (if immL (ys.map e) = true ∧ (xs.map e).length + (ys.map e).length ≤ sizeLine then some (PyData.list (xs.map e ++ ys.map e)) else none) = _
  rw [immL_E, List.length_map, List.length_map]
  unfold addL
  by_cases h : xs.length + ys.length ≤ sizeLine
  · rw [if_pos ⟨rfl, h⟩, if_pos h, ← List.map_append]
    rfl
  · rw [if_neg (fun z => h z.2), if_neg h]
    rfl
end
/-! ### max with a default; for x in xs: x.append(c) -/
theorem maxdf_E (xs : List Int) (j : Int) : dMaxDf (.list (xs.map .int)) (.int j) = .ok (.int (maxI j xs)) := by
  unfold dMaxDf
  dsimp only
  rw [intsOf_map]
def isS (o : Option (Option D)) : R Unit := match o with
  | some _ => .ok ()
  | none => .stk
theorem isS_some (x : Option D) : isS (some x) = .ok () := (rfl)
def appAllR {α : Type} (c : α) (xs : List (List α)) : R (List (List α)) := if (xs.all fun x => decide (x.length < sizeLine)) = true then .ok (xs.map (· ++ [c])) else .stk
theorem appAll_E {α : Type} (e : α → D) (c : α) : ∀ xs : List (List α), appAll (e c) (xs.map (eL e)) = if (xs.all fun x => decide (x.length < sizeLine)) = true then some ((xs.map (· ++ [c])).map (eL e)) else none
  | [] => rfl
  | x :: xs => by
    rw [List.map_cons, List.all_cons]
    show (if (x.map e).length < sizeLine then (appAll (e c) (xs.map (eL e))).map _ else none) = _
    rw [List.length_map, appAll_E e c xs]
    by_cases h : x.length < sizeLine
    · rw [if_pos h, decide_eq_true h, Bool.true_and]
      by_cases h2 : (xs.all fun x => decide (x.length < sizeLine)) = true
      · rw [if_pos h2, if_pos h2]
        show some (_ :: _) = some (_ :: _)
        rw [← List.map_singleton, ← List.map_append]
        rfl
      · rw [if_neg h2, if_neg h2]
        rfl
    · rw [if_neg h, decide_eq_false h, Bool.false_and, if_neg Bool.false_ne_true]
theorem appAll_S (c : Str) (xs : List (List Str)) : optR (appAll (.str c) (xs.map (eL PyData.str))) = (appAllR c xs).map (List.map (eL PyData.str)) := by
  rw [appAll_E PyData.str c xs]
  unfold appAllR
  split <;> rfl
section
variable {β : Type} (n : Env → β) (r : D → β) (b c : Env → β) (e : Exn → β) (z : β)
theorem cs_forAppS (i j : Nat) (x : D) (ρ : Env) : (forAppS i j x ρ).cs n r b c e z = (slL ρ[i]?).rc (fun ds => (isS ρ[j]?).rc (fun _ => (optR (appAll x ds)).rc (fun es => n ((ρ.set j none).set i (some (.list es)))) e z) e z) e z := by
  unfold forAppS
  generalize ρ[i]? = o
  generalize ρ[j]? = p
  rcases o with _ | _ | d
  · rfl
  · rfl
  · cases d with
    | list ds =>
      rcases p with _ | y
      · rfl
      · dsimp only [slL, isS, R.rc]
        cases appAll x ds <;> rfl
    | _ => rfl
end
/-! ### dict(xs) of pairs -/
def dputs {α : Type} : List (Str × α) → List (Str × α) → Option (List (Str × α))
  | d, [] => some d
  | d, p :: r => (putO d p.1 p.2).bind fun d' => dputs d' r
def dictPR {α : Type} (xs : List (Str × α)) : R (List (Str × α)) := optR (dputs [] xs)
theorem pairsD_E {α : Type} (e : α → D) [EI e] : ∀ xs : List (Str × α), pairsD (xs.map (eT2 PyData.str e)) = some (xs.map (eP e))
  | [] => rfl
  | x :: xs => by
    rw [List.map_cons, List.map_cons]
    show (if isKey (PyData.str x.1) = true ∧ imm (e x.2) = true then (pairsD (xs.map (eT2 PyData.str e))).map ((PyData.str x.1, e x.2) :: ·) else none) = _
    rw [if_pos ⟨rfl, EI.imm x.2⟩, pairsD_E e xs]
    rfl
theorem putsAll_E {α : Type} (e : α → D) : ∀ (xs d : List (Str × α)), putsAll (d.map (eP e)) (xs.map (eP e)) = (dputs d xs).map (List.map (eP e))
  | [], d => rfl
  | x :: xs, d => by
    rw [List.map_cons]
    show (putD (d.map (eP e)) (.str x.1) (e x.2)).bind (fun d' => putsAll d' (xs.map (eP e))) = _
    rw [putD_map]
    unfold dputs
    cases putO d x.1 x.2 with
    | none => rfl
    | some d2 => exact putsAll_E e xs d2
theorem dictP_E {α : Type} (e : α → D) [EI e] (xs : List (Str × α)) : dDictP [.list (xs.map (eT2 PyData.str e))] = (dictPR xs).map fun d => .dict (d.map (eP e)) := by
  unfold dDictP
  dsimp only
  rw [pairsD_E]
  dsimp only
  have h := putsAll_E e xs []
  rw [List.map_nil] at h
  rw [h]
  unfold dictPR
  cases dputs [] xs <;> rfl
/-! ### a list of two unlike things -/
def eH2 {α β : Type} (e1 : α → D) (e2 : β → D) (p : α × β) : D := .list [e1 p.1, e2 p.2]
theorem ix_H0 {α β : Type} {e1 : α → D} {e2 : β → D} (p : α × β) : dIx (eH2 e1 e2 p) (.int 0) = .ok (e1 p.1) := (rfl)
theorem ix_H1 {α β : Type} {e1 : α → D} {e2 : β → D} (p : α × β) : dIx (eH2 e1 e2 p) (.int 1) = .ok (e2 p.2) := (rfl)
instance {α β : Type} {e1 : α → D} {e2 : β → D} (k : Nat) [DecidableEq α] [DecidableEq β] [EG k e1] [EG k e2] : EG (k + 1) (eH2 e1 e2) := ⟨fun p => okN_list fun d hd => by
    simp only [List.mem_cons, List.not_mem_nil, or_false] at hd
    rcases hd with rfl | rfl
    · exact EG.ok p.1
    · exact EG.ok p.2, fun p q => by
    simp only [eH2, PyData.eqv, PyData.eqvAll, EG.inj k, Bool.and_true]
    rw [Bool.eq_iff_iff]
    simp [Prod.ext_iff]⟩
theorem e_ch3T (op op2 : D → D → R D) (f g h : Env → R D) (ρ : Env) : (ch3 op op2 f g h ρ).bind tst = (f ρ).bind fun x => (g ρ).bind fun y => andB ((op x y).bind tst) ((h ρ).bind fun z => (op2 y z).bind tst) := by
  rw [e_ch3]
  cases f ρ with
  | ok x =>
    rw [R.bind_ok, R.bind_ok]
    cases g ρ with
    | ok y =>
      rw [R.bind_ok, R.bind_ok]
      cases (op x y).bind tst with
      | ok p =>
        cases p with
        | true =>
          show ((h ρ).bind fun z => op2 y z).bind tst = (h ρ).bind fun z => (op2 y z).bind tst
          cases h ρ <;> rfl
        | false => rfl
      | _ => rfl
    | _ => rfl
  | _ => rfl
end Dg

/-! Dt8: defs that raise, try .. except. -/
namespace Dg
open PySem PySem.Spec PyProof.Rows L2
section
variable {β : Type} {n : Env → β} {r : D → β} {b c : Env → β} {e : Exn → β} {z : β} {g : Env → Out} {ρ : Env}
def tryM (o : Option Bool) (a b z : β) : β := match o with
  | some true => a
  | some false => b
  | none => z
theorem cs_tryE {tab : Str → Option Bool} {d : Env → R D} : (tryS tab (seqS (expS d) nxS) g ρ).cs n r b c e z = (d ρ).rc (fun _ => n ρ) (fun x => tryM (tab x.cls) ((noX g ρ).cs n r b c e z) (e x) z) z := by
  unfold tryS seqS expS tryM
  cases hd : d ρ with
  | ok v => rfl
  | stk => rfl
  | exc x =>
    dsimp only [R.rc]
    cases tab x.cls with
    | none => rfl
    | some q => cases q <;> rfl
theorem cs_tryA {tab : Str → Option Bool} {d : Env → R D} {ms is : List Nat} : (tryS tab (seqS (asgS ms is t1 d) nxS) g ρ).cs n r b c e z = (d ρ).rc (fun v => n (setsD is [v] (kill ms ρ))) (fun x => tryM (tab x.cls) ((noX g ρ).cs n r b c e z) (e x) z) z := by
  unfold tryS seqS asgS tryM
  cases hd : d ρ with
  | ok v => rfl
  | stk => rfl
  | exc x =>
    dsimp only [R.rc]
    cases tab x.cls with
    | none => rfl
    | some q => cases q <;> rfl
def raiseR (den : Env → R D) (ds : List D) : R D := match ds with
  | [d] => (den [none, some d]).nox
  | _ => .stk
theorem raiseR_1 {den : Env → R D} {d : D} : raiseR den [d] = (den [none, some d]).nox := (rfl)
theorem cs_raiseS {cls f : Str} {den : Env → R D} {l : Env → R (List D)} : (raiseS cls f den l ρ).cs n r b c e z = (l ρ).rc (fun ds => (raiseR den ds).rc (fun y => e ⟨cls, [(.str f, y)]⟩) (fun _ => z) z) e z := by
  unfold raiseS
  cases hl : l ρ with
  | stk => rfl
  | exc x => rfl
  | ok ds =>
    match ds with
    | [] => rfl
    | [d] =>
      dsimp only [R.rc, raiseR]
      cases den [none, some d] <;> rfl
    | _ :: _ :: _ => rfl
theorem e_callX {f : List D → R D} {l : Env → R (List D)} : callX f l ρ = (l ρ).bind f := (rfl)
theorem f_csX (k : Nat) (d : Env → Out) (ds : List D) : runF k d ds = (d (startD k ds)).cs (fun _ => .ok .none) .ok (fun _ => .stk) (fun _ => .stk) .exc .stk := by
  unfold runF outR
  cases d (startD k ds) <;> rfl
end
theorem map_rcX {α β : Type} {r : R α} {g : α → β} : r.map g = r.rc (fun v => .ok (g v)) .exc .stk := by cases r <;> rfl
theorem rc_nox {α β : Type} {r : R α} {f : α → β} {e : Exn → β} {z : β} : r.nox.rc f e z = r.rc f (fun _ => z) z := by cases r <;> rfl
theorem cc_exc {S V β : Type} {n : S → β} {r : V → β} {e : Exn → β} {z : β} (x : Exn) : (Ct.exc x : Ct S V).cc n r e z = e x := (rfl)
/-- try: r, except those of tab: h -/
def tryR {α : Type} (r : R α) (tab : Str → Option Bool) (h : R α) : R α := match r with
  | .exc x => tryM (tab x.cls) h.nox (.exc x) .stk
  | o => o
theorem rc_tryR {α β : Type} {r h : R α} {tab : Str → Option Bool} {f : α → β} {e : Exn → β} {z : β} : (tryR r tab h).rc f e z = r.rc f (fun x => tryM (tab x.cls) (h.rc f (fun _ => z) z) (e x) z) z := by
  unfold tryR tryM
  cases r with
  | ok v => rfl
  | stk => rfl
  | exc x =>
    dsimp only [R.rc]
    cases tab x.cls with
    | none => rfl
    | some q =>
      cases q
      · rfl
      · dsimp only
        cases h <;> rfl
theorem rc_cg2 {α β : Type} {r : R α} {f f' : α → β} {e e' : Exn → β} {z : β} (h : ∀ a, f a = f' a) (h2 : ∀ x, e x = e' x) : r.rc f e z = r.rc f' e' z := by
  cases r
  · exact h _
  · exact h2 _
  · rfl
theorem tryM_cg {β : Type} {o : Option Bool} {a a' b b' z : β} (h : a = a') (h2 : b = b') : tryM o a b z = tryM o a' b' z := by
  rw [h, h2]
def idxR (xs : List Str) (t : Str) : R Int := match findI t xs with
  | some j => .ok (j : Nat)
  | none => .stk
def asListR (d : D) : R D := match d with
  | .list _ => .ok d
  | _ => .stk
theorem e_mthL {g : D → D → R D} {f1 f2 : Env → R D} {ρ : Env} : mthL g f1 f2 ρ = (f1 ρ).bind fun x => (asListR x).bind fun x => (f2 ρ).bind fun y => g x y := by
  unfold mthL
  congr 1
  funext x
  cases x <;> rfl
theorem asList_L (xs : List D) : asListR (.list xs) = .ok (.list xs) := (rfl)
theorem lindex_S (xs : List Str) (t : Str) : dLIndex (.list (xs.map PyData.str)) (.str t) = (idxR xs t).map PyData.int := by
  unfold dLIndex idxR
  dsimp only
  rw [strsOf_map]
  dsimp only
  cases findI t xs <;> rfl
def Ct.noxC {S V : Type} (o : Ct S V) : Ct S V := match o with
  | .exc _ => .stk
  | o => o
theorem cc_nox {S V β : Type} {o : Ct S V} {n : S → β} {r : V → β} {e : Exn → β} {z : β} : o.noxC.cc n r e z = o.cc n r (fun _ => z) z := by cases o <;> rfl
theorem try_hit {α : Type} {cls : Str} {fl : List (D × D)} {tab : Str → Option Bool} {h : R α} (e : tab cls = some true) : tryR (.exc ⟨cls, fl⟩) tab h = h.nox := by
  unfold tryR
  show tryM (tab cls) _ _ _ = _
  rw [e]
  rfl
theorem try_ok {α : Type} {a : α} {tab : Str → Option Bool} {h : R α} : tryR (.ok a) tab h = .ok a := (rfl)
end Dg

/-! Dt9: cells (a text or a number), rows (a text, then cells); sorted numbers. -/
namespace Dg
open PySem PySem.Spec PyProof.Rows L2
inductive Cell where
  | s (x : Str)
  | i (x : Int)
  deriving DecidableEq
def eCell : Cell → D
  | .s x => .str x
  | .i x => .int x
def eCells (cs : List Cell) : D := .tuple (cs.map eCell)
abbrev Row := Str × List Cell
def eRow (r : Row) : D := .tuple (.str r.1 :: r.2.map eCell)
def tieCells (t : Tie) : List Cell := .s t.kind :: .s t.a :: .s t.b :: (match t.gap with
  | none => []
  | some g => [.i g])
def tieRow (t : Tie) : Row := (t.kind, .s t.a :: .s t.b :: (match t.gap with
  | none => []
  | some g => [.i g]))
theorem eRow_tie (t : Tie) : eRow (tieRow t) = eTie t := by
  unfold eRow tieRow eTie
  cases t.gap <;> rfl
theorem immL_cells : ∀ cs : List Cell, immL (cs.map eCell) = true
  | [] => rfl
  | .s x :: r => immL_cells r
  | .i x :: r => immL_cells r
instance : EI eCell := ⟨fun c => by cases c <;> rfl⟩
instance : EI eCells := ⟨fun c => immL_cells c⟩
instance : EI eRow := ⟨fun r => immL_cells r.2⟩
def strC : Cell → R Str
  | .s x => .ok x
  | .i n => strR n
theorem str_C (c : Cell) : dStrP [eCell c] = (strC c).map PyData.str := by
  cases c with
  | s x => rfl
  | i n =>
    show (if n.natAbs < 2 ^ 1900 then R.ok (PyData.str (toString n)) else .stk) = (strR n).map PyData.str
    unfold strR
    split <;> rfl
theorem str_IP (n : Int) : dStrP [.int n] = (strR n).map PyData.str := by
  show (if n.natAbs < 2 ^ 1900 then R.ok (PyData.str (toString n)) else .stk) = (strR n).map PyData.str
  unfold strR
  split <;> rfl
theorem it_tie (t : Tie) : dItems (eTie t) = .ok ((tieCells t).map eCell) := by
  unfold eTie tieCells
  cases t.gap <;> rfl
theorem it_cells (cs : List Cell) : dItems (eCells cs) = .ok (cs.map eCell) := (rfl)
theorem it_c4 (p : Str × Str × Int × Int) : dItems (eT4 PyData.str PyData.str PyData.int PyData.int p) = .ok (([.s p.1, .s p.2.1, .i p.2.2.1, .i p.2.2.2] : List Cell).map eCell) := (rfl)
theorem ix_row0 (r : Row) : dIx (eRow r) (.int 0) = .ok (.str r.1) := by
  show ofO (atI (PyData.str r.1 :: r.2.map eCell) ((0 : Nat) : Int)) = _
  rw [atI_nat (v := PyData.str r.1) rfl]
  rfl
theorem sl_row1 (r : Row) : dSl (eRow r) (some (1 : Int)) none = .ok (eCells r.2) := by
  show (if immL (PyData.str r.1 :: r.2.map eCell) = true ∧ ¬ (HT.sIx (PyData.str r.1 :: r.2.map eCell).length 0 (some (1 : Int)) = 0 ∧ HT.sIx (PyData.str r.1 :: r.2.map eCell).length (PyData.str r.1 :: r.2.map eCell).length none = (PyData.str r.1 :: r.2.map eCell).length) then R.ok (PyData.tuple (cutA (PyData.str r.1 :: r.2.map eCell) (some (1 : Int)) none)) else R.stk) = _
  have h1 : HT.sIx (PyData.str r.1 :: r.2.map eCell).length 0 (some (1 : Int)) = 1 := by
    rw [show (1 : Int) = ((1 : Nat) : Int) from rfl, HT.sIx_nat, List.length_cons]
    omega
  rw [if_pos ⟨immL_cells r.2, by rw [h1]; omega⟩]
  have h2 : cutA (PyData.str r.1 :: r.2.map eCell) (some (1 : Int)) none = r.2.map eCell := by
    unfold cutA
    rw [h1, HT.sIx_none, List.drop_one, List.tail_cons, List.take_of_length_le (by rw [List.length_cons]; omega)]
  rw [h2]
  rfl
theorem add_row2 (a : Str) (p : Int × Int) : dAdd (.tuple [.str a]) (eT2 PyData.int PyData.int p) = .ok (eRow (a, [.i p.1, .i p.2])) := by
  unfold dAdd eT2
  dsimp only
  rw [if_pos ⟨rfl, (fun z => by cases z), by show 1 + 2 ≤ sizeLine; rw [sizeLine_eq]; omega⟩]
  rfl
theorem add_row4 (a : Str) (p : Str × Str × Int × Int) : dAdd (.tuple [.str a]) (eT4 PyData.str PyData.str PyData.int PyData.int p) = .ok (eRow (a, [.s p.1, .s p.2.1, .i p.2.2.1, .i p.2.2.2])) := by
  unfold dAdd eT4
  dsimp only
  rw [if_pos ⟨rfl, (fun z => by cases z), by show 1 + 4 ≤ sizeLine; rw [sizeLine_eq]; omega⟩]
  rfl
theorem app_rowT (xs : List Row) (t : Tie) : optR (gAppend (xs.map eRow) [eTie t]) = (appR xs (tieRow t)).map fun l => .list (l.map eRow) := by
  rw [← eRow_tie]
  exact app_E eRow xs (tieRow t)
theorem app_row2 (xs : List Row) (a b : Str) : optR (gAppend (xs.map eRow) [.tuple [.str a, .str b]]) = (appR xs (a, [.s b])).map fun l => .list (l.map eRow) := app_E eRow xs (a, [.s b])
theorem app_row2e (xs : List Row) (p : Str × Str) : optR (gAppend (xs.map eRow) [eT2 PyData.str PyData.str p]) = (appR xs (p.1, [.s p.2])).map fun l => .list (l.map eRow) := app_E eRow xs (p.1, [.s p.2])
/-! ### sorted numbers -/
def leI (a b : Int) : Bool := leD (.int a) (.int b)
def sortI (xs : List Int) : List Int := xs.mergeSort leI
def sortedIR (xs : List Int) : R (List Int) := if xs.length ≤ sizeLine then .ok (sortI xs) else .stk
theorem sort_I (xs : List Int) : (xs.map PyData.int).mergeSort leD = (sortI xs).map PyData.int := (List.map_mergeSort (r := leI) (s := leD) (f := PyData.int) fun a _ b _ => rfl).symm
theorem okD_I (p : Int) : okD (.int p) = true := by
  unfold okD
  simp [flat, PyData.plain, PyData.depth]
theorem sortOk_I (xs : List Int) : sortOk (xs.map PyData.int) = decide (xs.length ≤ sizeLine) := by
  have h1 : (xs.map PyData.int).all okD = true := List.all_eq_true.mpr fun d hd => by
    obtain ⟨x, _, rfl⟩ := List.mem_map.mp hd
    exact okD_I x
  have h2 : ((xs.map PyData.int).all fun d => (xs.map PyData.int).all fun e => PySem.W.alike d e) = true := List.all_eq_true.mpr fun d hd => List.all_eq_true.mpr fun f hf => by
    obtain ⟨x, _, rfl⟩ := List.mem_map.mp hd
    obtain ⟨y, _, rfl⟩ := List.mem_map.mp hf
    rfl
  have h3 : (xs.map PyData.int).all notTup = true := List.all_eq_true.mpr fun d hd => by
    obtain ⟨x, _, rfl⟩ := List.mem_map.mp hd
    rfl
  unfold sortOk
  rw [h1, h2, h3, List.length_map, Bool.or_true, Bool.true_and, Bool.true_and, Bool.true_and]
theorem sorted_II (xs : List Int) : dSorted [.list (xs.map PyData.int)] = (sortedIR xs).map fun l => .list (l.map PyData.int) := by
  show (if (immL (xs.map PyData.int) && sortOk (xs.map PyData.int)) = true then R.ok (PyData.list ((xs.map PyData.int).mergeSort leD)) else .stk) = _
  rw [immL_E, sortOk_I, Bool.true_and, sort_I]
  unfold sortedIR
  by_cases h : xs.length ≤ sizeLine
  · rw [decide_eq_true h, if_pos rfl, if_pos h]
    rfl
  · rw [decide_eq_false h, if_neg Bool.false_ne_true, if_neg h]
    rfl
end Dg

/-! Dt10: min, max of numbers; reversed; a value or another; parts taken out. -/
namespace Dg
open PySem PySem.Spec PyProof.Rows L2
def minIL : List Int → R Int
  | [] => .stk
  | x :: xs => .ok (PySem.W.minOf x xs)
def maxIL : List Int → R Int
  | [] => .stk
  | x :: xs => .ok (PySem.W.maxOf x xs)
theorem minL_S (xs : List Str) : dMinL [.list (xs.map .str)] = (minSL xs).map .str := by
  unfold dMinL
  dsimp only
  rw [strsOf_map]
  cases xs <;> rfl
theorem minL_I (xs : List Int) (x : Int) : dMinL [.list ((x :: xs).map .int)] = (minIL (x :: xs)).map .int := by
  unfold dMinL
  dsimp only
  rw [intsOf_map]
  rfl
theorem maxL_I (xs : List Int) : dMaxL [.list (xs.map .int)] = (maxIL xs).map .int := by
  unfold dMaxL
  dsimp only
  rw [intsOf_map]
  cases xs <;> rfl
theorem minL_In (xs : List Int) : dMinL [.list (xs.map .int)] = (minIL xs).map .int := by
  cases xs with
  | nil => rfl
  | cons x r => exact minL_I r x
section
variable {α β γ : Type} {e : α → D} {e1 : α → D} {e2 : β → D} {e3 : γ → D} {ρ : Env}
theorem e_rvE {f : Env → R D} : rvE f ρ = (f ρ).bind dRev := (rfl)
theorem rev_E (xs : List α) : dRev (.list (xs.map e)) = .ok (xs.reverse.map e) := by
  show R.ok (xs.map e).reverse = _
  rw [List.map_reverse]
theorem ixO_T3_0 (p : α × β × γ) : dIxO (eT3 e1 e2 e3 p) (.int 0) = .ok (e1 p.1) := (rfl)
theorem ixO_T3_1 (p : α × β × γ) : dIxO (eT3 e1 e2 e3 p) (.int 1) = .ok (e2 p.2.1) := (rfl)
theorem ixO_T3_2 (p : α × β × γ) : dIxO (eT3 e1 e2 e3 p) (.int 2) = .ok (e3 p.2.2) := (rfl)
theorem ixO_D (d : List (Str × α)) (k : Str) : dIxO (.dict (d.map (eP e))) (.str k) = (optR (dget d k)).map e := by
  rw [← ix_D]
  cases d with
  | nil => rfl
  | cons p r => rfl
/-- one of two -/
def eSum (e1 : α → D) (e2 : β → D) : α ⊕ β → D
  | .inl a => e1 a
  | .inr b => e2 b
theorem eSum_l (a : α) : eSum e1 e2 (.inl a) = e1 a := (rfl)
theorem eSum_r (b : β) : eSum e1 e2 (.inr b) = e2 b := (rfl)
end
def eU : Unit → D := fun _ => .none
theorem eU_ap (u : Unit) : eU u = .none := (rfl)
theorem dNotN_none : dNotN .none .none = .ok (.bool false) := (rfl)
theorem dNotN_T3 {α β γ : Type} {e1 : α → D} {e2 : β → D} {e3 : γ → D} (p : α × β × γ) : dNotN (eT3 e1 e2 e3 p) .none = .ok (.bool true) := (rfl)
/-! ### what a caught exception holds -/
open Classical in
noncomputable def isE {β : Type} (e : β → D) : D → Bool := fun d => decide (∃ b, e b = d)
open Classical in
noncomputable def decE {β : Type} (e : β → D) (d : D) : R β := if h : ∃ b, e b = d then .ok h.choose else .stk
noncomputable def fldE {β : Type} (f : Str) (sv : Str → Bool) (e : β → D) (x : Exn) : R β := (fldR f sv (isE e) x).bind (decE e)
open Classical in
theorem decE_of {β : Type} {e : β → D} {d : D} (h : isE e d = true) : (decE e d).map e = .ok d := by
  have h2 : ∃ b, e b = d := of_decide_eq_true h
  unfold decE
  rw [dif_pos h2]
  show R.ok _ = R.ok _
  rw [h2.choose_spec]
theorem fld_E {β : Type} {f : Str} {sv : Str → Bool} {e : β → D} {x : Exn} : fldR f sv (isE e) x = (fldE f sv e x).map e := by
  unfold fldE
  cases h : fldR f sv (isE e) x with
  | ok d =>
    show _ = (decE e d).map e
    rw [decE_of (fldR_inv h).2.2]
  | exc y => rfl
  | stk => rfl
open Classical in
theorem fldE_ok {β : Type} {f cls : Str} {sv : Str → Bool} {e : β → D} {b : β} (hs : sv cls = true) (inj : ∀ x y, e x = e y → x = y) : fldE f sv e ⟨cls, [(.str f, e b)]⟩ = .ok b := by
  have h : ∃ b', e b' = e b := ⟨b, rfl⟩
  have h1 : fldR f sv (isE e) ⟨cls, [(.str f, e b)]⟩ = .ok (e b) := if_pos ⟨⟨rfl, hs⟩, decide_eq_true h⟩
  unfold fldE
  rw [h1]
  show decE e (e b) = _
  unfold decE
  rw [dif_pos h, inj _ _ h.choose_spec]
def tryX {α : Type} (r : R α) (tab : Str → Option Bool) (h : Exn → R α) : R α := match r with
  | .exc x => tryM (tab x.cls) (h x).nox (.exc x) .stk
  | o => o
theorem rc_tryX {α β : Type} {r : R α} {h : Exn → R α} {tab : Str → Option Bool} {f : α → β} {e : Exn → β} {z : β} : (tryX r tab h).rc f e z = r.rc f (fun x => tryM (tab x.cls) ((h x).rc f (fun _ => z) z) (e x) z) z := by
  unfold tryX tryM
  cases r with
  | ok v => rfl
  | stk => rfl
  | exc x =>
    dsimp only [R.rc]
    cases tab x.cls with
    | none => rfl
    | some q =>
      cases q
      · rfl
      · dsimp only
        cases h x <;> rfl
theorem readT_eq {j : Nat} {lit f : Str} {sv : Str → Bool} {G : D → Bool} {x : Exn} {ρ : Env} : readT j lit f sv G x ρ = (match fldR f sv G x with
    | .ok d => .nx (ρ.set j (some (.tuple [.str lit, d])))
    | _ => .stk) := (rfl)
section
variable {β : Type} {n : Env → β} {r : D → β} {b c : Env → β} {e : Exn → β} {z : β} {ρ : Env}
theorem cs_tryX {i j : Nat} {tab : Str → Option Bool} {d : Env → R D} {ms is : List Nat} {lit f : Str} {sv : Str → Bool} {G : D → Bool} : (tryA i tab (seqS (asgS ms is t1 d) nxS) (readT j lit f sv G) ρ).cs n r b c e z =
    (d ρ).rc (fun v => n (setsD is [v] (kill ms ρ))) (fun x => tryM (tab x.cls) ((isS ρ[i]?).rc (fun _ => (fldR f sv G x).rc (fun dv => n (((ρ.set i none).set j (some (.tuple [.str lit, dv]))).set i none)) (fun _ => z) z) (fun _ => z) z) (e x) z) z := by
  unfold tryA seqS asgS tryM
  cases hd : d ρ with
  | ok v => rfl
  | stk => rfl
  | exc x =>
    dsimp only [R.rc]
    cases tab x.cls with
    | none => rfl
    | some q =>
      cases q with
      | false => rfl
      | true =>
        dsimp only
        cases hi : ρ[i]? with
        | none => rfl
        | some w =>
          dsimp only [isS]
          rw [readT_eq]
          cases fldR f sv G x <;> rfl
end
/-- one of two, told by a word -/
def altC {α β γ : Type} (p : Str × (α ⊕ β)) (f : Str → α → γ) (g : Str → β → γ) : γ := match p with
  | (w, .inl a) => f w a
  | (w, .inr b) => g w b
theorem altC_l {α β γ : Type} {w : Str} {a : α} {f : Str → α → γ} {g : Str → β → γ} : altC (w, .inl a) f g = f w a := (rfl)
theorem altC_r {α β γ : Type} {w : Str} {b : β} {f : Str → α → γ} {g : Str → β → γ} : altC (w, .inr b) f g = g w b := (rfl)
theorem orB_t {x : R Bool} : orB (.ok true) x = .ok true := (rfl)
theorem notB_f : notB (.ok false) = .ok true := (rfl)
theorem neE_D {α : Type} {e : α → D} (d : List (Str × α)) : dNeE (.dict (d.map (eP e))) (.dict []) = .ok (.bool (!d.isEmpty)) := by
  cases d <;> rfl
theorem isi_lT3 {α β γ : Type} {e1 : α → D} {e2 : β → D} {e3 : γ → D} (p : α × β × γ) : dIsi "list" (eT3 e1 e2 e3 p) = .ok (.bool false) := (rfl)
theorem app_deadR {α : Type} (e : α → D) (xs : List α) (d : D) : optR (gAppend (xs.map e).reverse [d]) = (lenOk xs.reverse).map fun _ => .list ((xs.map e).reverse ++ [d]) := by
  rw [← List.map_reverse]
  exact app_dead e xs.reverse d
theorem tryX_hit {α : Type} {cls : Str} {fl : List (D × D)} {tab : Str → Option Bool} {h : Exn → R α} (e : tab cls = some true) : tryX (.exc ⟨cls, fl⟩) tab h = (h ⟨cls, fl⟩).nox := by
  unfold tryX
  show tryM (tab cls) _ _ _ = _
  rw [e]
  rfl
theorem tryX_ok {α : Type} {a : α} {tab : Str → Option Bool} {h : Exn → R α} : tryX (.ok a) tab h = .ok a := (rfl)
theorem tryX_pass {α : Type} {cls : Str} {fl : List (D × D)} {tab : Str → Option Bool} {h : Exn → R α} (e : tab cls = some false) : tryX (.exc ⟨cls, fl⟩) tab h = .exc ⟨cls, fl⟩ := by
  unfold tryX
  show tryM (tab cls) _ _ _ = _
  rw [e]
  rfl
end Dg

/-! Dt11: sums; stores in lists; what is changed and never looked at again. -/
namespace Dg
open PySem PySem.Spec PyProof.Rows L2
theorem sum_I (xs : List Int) : dSum [.list (xs.map .int)] = .ok (.int xs.sum) := by
  unfold dSum
  dsimp only
  rw [intsOf_map]
def setAtO (xs : List D) (y v : D) : Option (List D) := match y with
  | .int k => (match ixN xs.length k with
    | some j => some (xs.set j v)
    | none => none)
  | _ => none
def putLR {α : Type} (xs : List α) (k : Int) (v : α) : R (List α) := match ixN xs.length k with
  | some j => .ok (xs.set j v)
  | none => .stk
section
variable {β : Type} {n : Env → β} {r : D → β} {b c : Env → β} {e : Exn → β} {z : β} {ρ : Env}
theorem cs_lputS {i : Nat} {ms : List Nat} {dk dv : Env → R D} : (lputS i ms dk dv ρ).cs n r b c e z = (dv ρ).rc (fun v => (slL ρ[i]?).rc (fun xs => (dk ρ).rc (fun y => (optR (setAtO xs y v)).rc (fun l => n ((kill ms ρ).set i (some (.list l)))) e z) e z) e z) e z := by
  unfold lputS
  cases dv ρ with
  | ok v =>
    dsimp only [R.rc]
    generalize ρ[i]? = o
    rcases o with _ | _ | d
    · rfl
    · rfl
    · cases d with
      | list xs =>
        dsimp only [slL]
        cases dk ρ with
        | ok y =>
          cases y with
          | int k =>
            dsimp only [setAtO]
            cases ixN xs.length k <;> rfl
          | _ => rfl
        | _ => rfl
      | _ => rfl
  | _ => rfl
end
section
variable {α β γ δ : Type} {e : α → D} {e1 : α → D} {e2 : β → D} {e3 : γ → D} {e4 : δ → D}
theorem putL_E (e : α → D) (xs : List α) (k : Int) (v : α) : optR (setAtO (xs.map e) (.int k) (e v)) = (putLR xs k v).map (List.map e) := by
  unfold setAtO putLR
  rw [List.length_map]
  dsimp only
  cases ixN xs.length k with
  | none => rfl
  | some j =>
    show R.ok ((xs.map e).set j (e v)) = R.ok ((xs.set j v).map e)
    rw [List.map_set]
theorem len_T2 (p : α × β) : dLen [eT2 e1 e2 p] = .ok (.int 2) := (rfl)
theorem len_T3 (p : α × β × γ) : dLen [eT3 e1 e2 e3 p] = .ok (.int 3) := (rfl)
theorem len_T4 (p : α × β × γ × δ) : dLen [eT4 e1 e2 e3 e4 p] = .ok (.int 4) := (rfl)
theorem dIsN_T2 (p : α × β) : dIsN (eT2 e1 e2 p) .none = .ok (.bool false) := (rfl)
theorem dIsN_T3 (p : α × β × γ) : dIsN (eT3 e1 e2 e3 p) .none = .ok (.bool false) := (rfl)
theorem dIsN_T4 (p : α × β × γ × δ) : dIsN (eT4 e1 e2 e3 e4 p) .none = .ok (.bool false) := (rfl)
theorem in_l2 (neg : Bool) (x a b : Str) : dInS neg (.str x) (.list [.str a, .str b]) = .ok (.bool (neg != decide (x ∈ [a, b]))) := in_E2 PyData.str neg x [a, b]
theorem stp_T2_0 (p : α × β) : stpR (eT2 e1 e2 p) (.int 0) = .ok (e1 p.1) := (rfl)
theorem stp_T2_1 (p : α × β) : stpR (eT2 e1 e2 p) (.int 1) = .ok (e2 p.2) := (rfl)
theorem stp_pT2_01 (p : α × β) (z : D) : stpR (putA (eT2 e1 e2 p) (.int 0) z) (.int 1) = .ok (e2 p.2) := (rfl)
end
theorem orB_f {x : R Bool} : orB (.ok false) x = x := (rfl)
/-! ### one of two, each behind its own word -/
section
variable {α β γ : Type} {w1 w2 : Str} {e1 : α → D} {e2 : β → D}
def eW (w1 w2 : Str) (e1 : α → D) (e2 : β → D) : α ⊕ β → D
  | .inl a => .tuple [.str w1, e1 a]
  | .inr b => .tuple [.str w2, e2 b]
theorem eW_l (a : α) : eW w1 w2 e1 e2 (.inl a) = .tuple [.str w1, e1 a] := (rfl)
theorem eW_r (b : β) : eW w1 w2 e1 e2 (.inr b) = .tuple [.str w2, e2 b] := (rfl)
def altW (p : α ⊕ β) (f : α → γ) (g : β → γ) : γ := match p with
  | .inl a => f a
  | .inr b => g b
theorem altW_l {a : α} {f : α → γ} {g : β → γ} : altW (.inl a) f g = f a := (rfl)
theorem altW_r {b : β} {f : α → γ} {g : β → γ} : altW (.inr b) f g = g b := (rfl)
end
end Dg

/-! Dt12: a suite that asks isinstance of the caught one. -/
namespace Dg
open PySem PySem.Spec PyProof.Rows L2
def eBs : List Bool → D := fun l => .tuple (l.map .bool)
def tryI {α : Type} (r : R α) (tab : Str → Option Bool) (only : Str) (bs : List Bool) : R (List Bool) := match r with
  | .ok _ => .ok []
  | .exc x => tryM (tab x.cls) (if x.cls = only ∧ x.flds = [] then .ok bs else .stk) (.exc x) .stk
  | .stk => .stk
theorem rc_tryI {α β : Type} {r : R α} {tab : Str → Option Bool} {only : Str} {bs : List Bool} {f : List Bool → β} {e : Exn → β} {z : β} : (tryI r tab only bs).rc f e z = r.rc (fun _ => f []) (fun x => tryM (tab x.cls) (if x.cls = only ∧ x.flds = [] then f bs else z) (e x) z) z := by
  unfold tryI tryM
  cases r with
  | ok v => rfl
  | stk => rfl
  | exc x =>
    dsimp only [R.rc]
    cases tab x.cls with
    | none => rfl
    | some q =>
      cases q
      · rfl
      · dsimp only
        by_cases h : x.cls = only ∧ x.flds = []
        · rw [if_pos h, if_pos h]
        · rw [if_neg h, if_neg h]
section
variable {β : Type} {n : Env → β} {r : D → β} {b c : Env → β} {e : Exn → β} {z : β} {ρ : Env}
theorem cs_tryI {i j : Nat} {tab : Str → Option Bool} {d : Env → R D} {only : Str} {bs : List Bool} : (tryA i tab (seqS (expS d) nxS) (readI j only bs) ρ).cs n r b c e z =
    (d ρ).rc (fun _ => n ρ) (fun x => tryM (tab x.cls) ((isS ρ[i]?).rc (fun _ => if x.cls = only ∧ x.flds = [] then n (((ρ.set i none).set j (some (.tuple (bs.map .bool)))).set i none) else z) (fun _ => z) z) (e x) z) z := by
  unfold tryA seqS expS tryM
  cases hd : d ρ with
  | ok v => rfl
  | stk => rfl
  | exc x =>
    dsimp only [R.rc]
    cases tab x.cls with
    | none => rfl
    | some q =>
      cases q with
      | false => rfl
      | true =>
        dsimp only
        cases hi : ρ[i]? with
        | none => rfl
        | some w =>
          dsimp only [isS, readI]
          by_cases h : x.cls = only ∧ x.flds = []
          · rw [if_pos h, if_pos h]
            rfl
          · rw [if_neg h, if_neg h]
            rfl
end
theorem cs_raise0 {β : Type} {n : Env → β} {r : D → β} {b c : Env → β} {e : Exn → β} {z : β} {ρ : Env} {cls : Str} : (raise0 cls ρ).cs n r b c e z = e ⟨cls, []⟩ := (rfl)
theorem tryI_hit {α : Type} {cls : Str} {tab : Str → Option Bool} {bs : List Bool} (e : tab cls = some true) : tryI (.exc ⟨cls, []⟩ : R α) tab cls bs = .ok bs := by
  unfold tryI
  show tryM (tab cls) _ _ _ = _
  rw [e]
  exact if_pos ⟨rfl, rfl⟩
end Dg

/-! Dt13: two named clauses; one of three, each behind its own word. -/
namespace Dg
open PySem PySem.Spec PyProof.Rows L2
def tryX2 {α : Type} (r : R α) (tab1 tab2 : Str → Option Bool) (h1 h2 : Exn → R α) : R α := match r with
  | .exc x => tryM (tab1 x.cls) (h1 x).nox (tryM (tab2 x.cls) (h2 x).nox (.exc x) .stk) .stk
  | o => o
theorem rc_tryX2 {α β : Type} {r : R α} {h1 h2 : Exn → R α} {tab1 tab2 : Str → Option Bool} {f : α → β} {e : Exn → β} {z : β} : (tryX2 r tab1 tab2 h1 h2).rc f e z = r.rc f (fun x => tryM (tab1 x.cls) ((h1 x).rc f (fun _ => z) z) (tryM (tab2 x.cls) ((h2 x).rc f (fun _ => z) z) (e x) z) z) z := by
  unfold tryX2 tryM
  cases r with
  | ok v => rfl
  | stk => rfl
  | exc x =>
    dsimp only [R.rc]
    cases tab1 x.cls with
    | none => rfl
    | some q =>
      cases q with
      | true =>
        dsimp only
        cases h1 x <;> rfl
      | false =>
        dsimp only
        cases tab2 x.cls with
        | none => rfl
        | some q =>
          cases q with
          | true =>
            dsimp only
            cases h2 x <;> rfl
          | false => rfl
section
variable {β : Type} {n : Env → β} {r : D → β} {b c : Env → β} {e : Exn → β} {z : β} {ρ : Env}
theorem cs_clauseO {i j : Nat} {lit f : Str} {sv : Str → Bool} {G : D → Bool} {x : Exn} : (clauseO i (readT j lit f sv G) x ρ).cs n r b c e z = (isS ρ[i]?).rc (fun _ => (fldR f sv G x).rc (fun dv => n (((ρ.set i none).set j (some (.tuple [.str lit, dv]))).set i none)) (fun _ => z) z) (fun _ => z) z := by
  unfold clauseO
  cases hi : ρ[i]? with
  | none => rfl
  | some w =>
    dsimp only [isS]
    rw [readT_eq]
    cases fldR f sv G x <;> rfl
theorem cs_tryX2 {i j : Nat} {tab1 tab2 : Str → Option Bool} {d : Env → R D} {ms is : List Nat} {lit1 f1 lit2 f2 : Str} {sv1 sv2 : Str → Bool} {G1 G2 : D → Bool} : (tryA2 i tab1 tab2 (seqS (asgS ms is t1 d) nxS) (readT j lit1 f1 sv1 G1) (readT j lit2 f2 sv2 G2) ρ).cs n r b c e z =
    (d ρ).rc (fun v => n (setsD is [v] (kill ms ρ))) (fun x => tryM (tab1 x.cls) ((isS ρ[i]?).rc (fun _ => (fldR f1 sv1 G1 x).rc (fun dv => n (((ρ.set i none).set j (some (.tuple [.str lit1, dv]))).set i none)) (fun _ => z) z) (fun _ => z) z) (tryM (tab2 x.cls) ((isS ρ[i]?).rc (fun _ => (fldR f2 sv2 G2 x).rc (fun dv => n (((ρ.set i none).set j (some (.tuple [.str lit2, dv]))).set i none)) (fun _ => z) z) (fun _ => z) z) (e x) z) z) z := by
  unfold tryA2 seqS asgS tryM
  cases hd : d ρ with
  | ok v => rfl
  | stk => rfl
  | exc x =>
    dsimp only [R.rc]
    cases tab1 x.cls with
    | none => rfl
    | some q =>
      cases q with
      | true =>
        dsimp only
        exact cs_clauseO
      | false =>
        dsimp only
        cases tab2 x.cls with
        | none => rfl
        | some q =>
          cases q with
          | true =>
            dsimp only
            exact cs_clauseO
          | false => rfl
end
section
variable {α β γ δ : Type} {w1 w2 w3 : Str} {e1 : α → D} {e2 : β → D} {e3 : γ → D}
def eW3 (w1 w2 w3 : Str) (e1 : α → D) (e2 : β → D) (e3 : γ → D) : α ⊕ (β ⊕ γ) → D
  | .inl a => .tuple [.str w1, e1 a]
  | .inr (.inl b) => .tuple [.str w2, e2 b]
  | .inr (.inr c) => .tuple [.str w3, e3 c]
theorem eW3_1 (a : α) : eW3 w1 w2 w3 e1 e2 e3 (.inl a) = .tuple [.str w1, e1 a] := (rfl)
theorem eW3_2 (a : β) : eW3 w1 w2 w3 e1 e2 e3 (.inr (.inl a)) = .tuple [.str w2, e2 a] := (rfl)
theorem eW3_3 (a : γ) : eW3 w1 w2 w3 e1 e2 e3 (.inr (.inr a)) = .tuple [.str w3, e3 a] := (rfl)
def altW3 (p : α ⊕ (β ⊕ γ)) (f : α → δ) (g : β → δ) (h : γ → δ) : δ := match p with
  | .inl a => f a
  | .inr (.inl b) => g b
  | .inr (.inr c) => h c
theorem altW3_1 {a : α} {f : α → δ} {g : β → δ} {h : γ → δ} : altW3 (.inl a) f g h = f a := (rfl)
theorem altW3_2 {a : β} {f : α → δ} {g : β → δ} {h : γ → δ} : altW3 (.inr (.inl a)) f g h = g a := (rfl)
theorem altW3_3 {a : γ} {f : α → δ} {g : β → δ} {h : γ → δ} : altW3 (.inr (.inr a)) f g h = h a := (rfl)
end
end Dg

/-! Dt14: try with any clauses; the caught exception's class and field. -/
namespace Dg
open PySem PySem.Spec PyProof.Rows L2
section
variable {β : Type} {n : Env → β} {r : D → β} {b c : Env → β} {e : Exn → β} {z : β} {ρ : Env}
theorem cs_tryGA {hs : List Hnd} {d : Env → R D} {ms is : List Nat} : (tryG hs (seqS (asgS ms is t1 d) nxS) ρ).cs n r b c e z = (d ρ).rc (fun v => n (setsD is [v] (kill ms ρ))) (fun x => (hands hs x ρ).cs n r b c e z) z := by
  unfold tryG seqS asgS
  cases hd : d ρ <;> rfl
theorem cs_tryGE {hs : List Hnd} {d : Env → R D} : (tryG hs (seqS (expS d) nxS) ρ).cs n r b c e z = (d ρ).rc (fun _ => n ρ) (fun x => (hands hs x ρ).cs n r b c e z) z := by
  unfold tryG seqS expS
  cases hd : d ρ <;> rfl
theorem cs_hands_nil {x : Exn} : (hands [] x ρ).cs n r b c e z = e x := (rfl)
theorem cs_hands_no {x : Exn} {tab : Str → Option Bool} {g : Env → Out} {rest : List Hnd} : (hands ((tab, none, g) :: rest) x ρ).cs n r b c e z = tryM (tab x.cls) ((noX g ρ).cs n r b c e z) ((hands rest x ρ).cs n r b c e z) z := by
  rw [hands]
  cases tab x.cls with
  | none => rfl
  | some q => cases q <;> rfl
theorem cs_hands_as {x : Exn} {i : Nat} {tab : Str → Option Bool} {g : Env → Out} {rest : List Hnd} : (hands ((tab, some i, g) :: rest) x ρ).cs n r b c e z = tryM (tab x.cls) ((isS ρ[i]?).rc (fun _ => (g (ρ.set i (some (xD x)))).cs (fun r' => n (r'.set i none)) r (fun _ => z) (fun _ => z) (fun _ => z) z) (fun _ => z) z) ((hands rest x ρ).cs n r b c e z) z := by
  rw [hands]
  cases tab x.cls with
  | none => rfl
  | some q =>
    cases q with
    | false => rfl
    | true =>
      show (if i < ρ.length then delO i (noX g (ρ.set i (some (xD x)))) else .stk).cs n r b c e z = _
      by_cases h : i < ρ.length
      · rw [if_pos h, List.getElem?_eq_getElem h]
        show _ = (g (ρ.set i (some (xD x)))).cs _ _ _ _ _ _
        unfold noX
        cases g (ρ.set i (some (xD x))) <;> rfl
      · rw [if_neg h, List.getElem?_eq_none (by omega)]
        rfl
end
def handT {α : Type} : List ((Str → Option Bool) × (Exn → R α)) → Exn → R α
  | [], x => .exc x
  | (tab, h) :: rest, x => tryM (tab x.cls) (h x).nox (handT rest x) .stk
def tryT {α : Type} (r : R α) (hs : List ((Str → Option Bool) × (Exn → R α))) : R α := match r with
  | .exc x => handT hs x
  | o => o
theorem rc_tryT {α β : Type} {r : R α} {hs : List ((Str → Option Bool) × (Exn → R α))} {f : α → β} {e : Exn → β} {z : β} : (tryT r hs).rc f e z = r.rc f (fun x => (handT hs x).rc f e z) z := by
  unfold tryT
  cases r <;> rfl
theorem rc_handT_nil {α β : Type} {x : Exn} {f : α → β} {e : Exn → β} {z : β} : (handT ([] : List ((Str → Option Bool) × (Exn → R α))) x).rc f e z = e x := (rfl)
theorem rc_handT_cons {α β : Type} {x : Exn} {tab : Str → Option Bool} {h : Exn → R α} {rest : List ((Str → Option Bool) × (Exn → R α))} {f : α → β} {e : Exn → β} {z : β} : (handT ((tab, h) :: rest) x).rc f e z = tryM (tab x.cls) ((h x).rc f (fun _ => z) z) ((handT rest x).rc f e z) z := by
  rw [handT]
  unfold tryM
  cases tab x.cls with
  | none => rfl
  | some q =>
    cases q with
    | false => rfl
    | true =>
      dsimp only
      cases h x <;> rfl
def bO (o : Option Bool) : R D := match o with
  | some b => .ok (.bool b)
  | none => .stk
theorem bO_some (b : Bool) : bO (some b) = .ok (.bool b) := (rfl)
theorem isx_X {tab : Str → Option Bool} {cls : Str} {fl : List (D × D)} : dIsx tab (xD ⟨cls, fl⟩) = bO (tab cls) := by
  show (match tab cls with
    | some b => R.ok (PyData.bool b)
    | none => .stk) = _
  cases tab cls <;> rfl
theorem isx_at {tab : Str → Option Bool} {cls : Str} {fl : List (D × D)} {b : Bool} (h : tab cls = some b) : dIsx tab (xD ⟨cls, fl⟩) = .ok (.bool b) := by
  rw [isx_X, h]
  rfl
theorem fldE_exc {β : Type} {f : Str} {sv : Str → Bool} {e : β → D} {x y : Exn} : fldE f sv e x ≠ .exc y := by
  unfold fldE fldR
  intro h
  split at h
  · split at h
    · unfold decE at h
      rw [R.bind_ok] at h
      split at h <;> cases h
    · cases h
  · cases h
theorem atx_X {β : Type} {f : Str} {sv : Str → Bool} {e : β → D} {x : Exn} : dAtx sv f (isE e) (xD x) = (fldE f sv e x).map e := by
  have h := fld_E (f := f) (sv := sv) (e := e) (x := x)
  show (match fldR f sv (isE e) x with
    | .ok d => R.ok d
    | _ => .stk) = _
  rw [h]
  cases hq : fldE f sv e x with
  | ok v => rfl
  | stk => rfl
  | exc y => exact absurd hq fldE_exc
end Dg
namespace Dg
open PySem PySem.Spec PyProof.Rows L2
/-! one branch for each class that may be caught -/
def byC {α : Type} (x : Exn) : List (Str × R α) → R α
  | [] => .stk
  | (c, h) :: r => if x.cls = c then h else byC x r
theorem byC_hit {α : Type} {c : Str} {fl : List (D × D)} {h : R α} {r : List (Str × R α)} : byC ⟨c, fl⟩ ((c, h) :: r) = h := if_pos rfl
theorem byC_miss {α : Type} {c c' : Str} {fl : List (D × D)} {h : R α} {r : List (Str × R α)} (hn : ¬ c' = c) : byC ⟨c', fl⟩ ((c, h) :: r) = byC ⟨c', fl⟩ r := if_neg hn
theorem andB_ff (x : R Bool) : andB (.ok false) x = .ok false := (rfl)
theorem andB_tt (x : R Bool) : andB (.ok true) x = x := by
  cases x <;> rfl
theorem orB_ff (x : R Bool) : orB (.ok false) x = x := by
  cases x <;> rfl
theorem notB_tt : notB (.ok true) = .ok false := (rfl)
theorem dIsN_O {α : Type} {e : α → D} (h : ∀ a, dIsN (e a) .none = .ok (.bool false)) (o : Option α) : dIsN (eO e o) .none = .ok (.bool o.isNone) := by
  cases o with
  | none => rfl
  | some a => exact h a
theorem dNotN_O {α : Type} {e : α → D} (h : ∀ a, dNotN (e a) .none = .ok (.bool true)) (o : Option α) : dNotN (eO e o) .none = .ok (.bool o.isSome) := by
  cases o with
  | none => rfl
  | some a => exact h a
theorem eq_IO (n : Int) (o : Option Int) : dEq (.int n) (eO PyData.int o) = .ok (.bool (decide (some n = o))) := by
  cases o with
  | none => rfl
  | some a =>
    show dEq (.int n) (.int a) = _
    rw [dEq_int]
    congr 2
    exact decide_eq_decide.mpr ⟨fun h => by rw [h], fun h => Option.some.inj h⟩
def idD : D → D := fun d => d
theorem getK_bind {α β : Type} {e : α → D} (d : List (Str × α)) (k : Str) (r : R β) (f : β → R D) : getK (.dict (d.map (eP e))) (.ok (.str k)) (r.bind f) = r.bind fun a => getK (.dict (d.map (eP e))) (.ok (.str k)) (f a) := by
  cases r with
  | ok a => rfl
  | exc x =>
    show (if tagD (d.map (eP e)) = false then R.exc x else .stk) = _
    rw [tag_map, if_pos rfl]
    rfl
  | stk =>
    show (if tagD (d.map (eP e)) = false then R.stk else .stk) = _
    rw [tag_map, if_pos rfl]
    rfl
theorem ixO_L {α : Type} {e : α → D} (xs : List α) (i : Int) : dIxO (.list (xs.map e)) (.int i) = (ixR xs i).map e := ix_L xs i
end Dg

/-! Dt15: lists of lists, one behind the other, sorted. -/
namespace Dg
open PySem PySem.Spec PyProof.Rows L2
theorem addB_E {α : Type} (e : α → D) (a b : List α) : dAddB (.list (a.map e)) (.list (b.map e)) = (addL a b).map fun l => .list (l.map e) := by
  show (if (a.map e).length + (b.map e).length ≤ sizeLine then R.ok (PyData.list (a.map e ++ b.map e)) else .stk) = _
  rw [List.length_map, List.length_map]
  unfold addL
  by_cases h : a.length + b.length ≤ sizeLine
  · rw [if_pos h, if_pos h, ← List.map_append]
    rfl
  · rw [if_neg h, if_neg h]
    rfl
def leLL (a b : List Str) : Bool := leD (.list (a.map .str)) (.list (b.map .str))
def sortLL (xs : List (List Str)) : List (List Str) := xs.mergeSort leLL
def sortedLLR (xs : List (List Str)) : R (List (List Str)) := if sortOk (xs.map (eL PyData.str)) = true then .ok (sortLL xs) else .stk
theorem sort_LL (xs : List (List Str)) : (xs.map (eL PyData.str)).mergeSort leD = (sortLL xs).map (eL PyData.str) := (List.map_mergeSort (r := leLL) (s := leD) (f := eL PyData.str) fun a _ b _ => rfl).symm
theorem sortB_LL (xs : List (List Str)) : dSortB (.list (xs.map (eL PyData.str))) = (sortedLLR xs).map fun l => .list (l.map (eL PyData.str)) := by
  show (if sortOk (xs.map (eL PyData.str)) = true then R.ok (PyData.list ((xs.map (eL PyData.str)).mergeSort leD)) else .stk) = _
  unfold sortedLLR
  by_cases h : sortOk (xs.map (eL PyData.str)) = true
  · rw [if_pos h, if_pos h, sort_LL]
    rfl
  · rw [if_neg h, if_neg h]
    rfl
end Dg

/-! Mc: signs of names, cells, positions: plain -/
namespace Dg
open PySem PySem.Spec PyProof.Rows L2
def signsT : Str := Str.ofString "abcdefghijklmnopqrstuvwxyz0123456789-"
theorem signs_len : signsT.length = 37 := by decide +kernel
def signAt (n : Int) : Nat := signsT.cps.toList.getD (n % 37).toNat 0
theorem signs_inj : ∀ i j : Fin 37, signsT.cps.toList.getD i.1 0 = signsT.cps.toList.getD j.1 0 → i = j := by decide +kernel
theorem signAt_inj {a b : Int} (h : signAt a = signAt b) : a % 37 = b % 37 := by
  have a1 := Int.emod_nonneg a (show (37 : Int) ≠ 0 by decide)
  have a2 := Int.emod_lt_of_pos a (show (0 : Int) < 37 by decide)
  have b1 := Int.emod_nonneg b (show (37 : Int) ≠ 0 by decide)
  have b2 := Int.emod_lt_of_pos b (show (0 : Int) < 37 by decide)
  have := signs_inj ⟨(a % 37).toNat, by omega⟩ ⟨(b % 37).toNat, by omega⟩ h
  have := congrArg Fin.val this
  dsimp only at this
  omega
theorem sign_len : signsT.cps.toList.length = 37 := by
  rw [Array.length_toList]
  exact signs_len
theorem sign_ix (n : Int) : ixSR signsT (n % 37) = .ok ⟨#[signAt n]⟩ := by
  have a := Int.emod_nonneg n (show (37 : Int) ≠ 0 by decide)
  have b := Int.emod_lt_of_pos n (show (0 : Int) < 37 by decide)
  have hl : (n % 37).toNat < signsT.cps.toList.length := by
    rw [sign_len]
    omega
  obtain ⟨k, hk⟩ : ∃ k : Nat, n % 37 = (k : Int) := ⟨(n % 37).toNat, by omega⟩
  unfold signAt
  rw [hk] at hl ⊢
  rw [Int.toNat_natCast] at hl ⊢
  unfold ixSR
  rw [if_pos (by rw [signs_len]; exact Nat.le_trans (by decide) line_ge), show atI signsT.cps.toList (k : Int) = some signsT.cps.toList[k] from atI_nat (List.getElem?_eq_getElem hl)]
  rw [List.getD_eq_getElem?_getD, List.getElem?_eq_getElem hl]
  rfl
theorem signAt_mem (n : Int) : signAt n ∈ signsT.cps.toList := by
  have a := Int.emod_nonneg n (show (37 : Int) ≠ 0 by decide)
  have b := Int.emod_lt_of_pos n (show (0 : Int) < 37 by decide)
  unfold signAt
  rw [List.getD_eq_getElem?_getD, List.getElem?_eq_getElem (by rw [sign_len]; omega)]
  exact List.getElem_mem _
/-- a text of the signs told by f -/
def nameBy (f : Nat → Int) (j : Nat) : Str := ⟨((List.range j).map fun i => signAt (f i)).toArray⟩
theorem nameBy_len (f : Nat → Int) (j : Nat) : (nameBy f j).length = j := by simp [nameBy, Str.length]
theorem nameBy_list (f : Nat → Int) (j : Nat) : (nameBy f j).cps.toList = (List.range j).map fun i => signAt (f i) := rfl
theorem nameBy_zero (f : Nat → Int) : nameBy f 0 = Str.ofString "" := by
  have : Str.ofString "" = ⟨#[]⟩ := by decide +kernel
  rw [this]
  rfl
theorem app_list (a b : Str) : (a ++ b).cps.toList = a.cps.toList ++ b.cps.toList := by
  show (a.cps ++ b.cps).toList = _
  rw [Array.toList_append]
theorem nameBy_succ (f : Nat → Int) (j : Nat) : nameBy f j ++ ⟨#[signAt (f j)]⟩ = nameBy f (j + 1) := by
  apply str_ext
  rw [app_list, nameBy_list, nameBy_list, List.range_succ, List.map_append]
  rfl
theorem cutTo (s : Str) (n : Nat) : (cutS s none (some (n : Int))).cps.toList = s.cps.toList.take n := by
  unfold cutS
  rw [HT.sIx_nat, HT.sIx_none]
  simp only [List.drop_zero, Nat.sub_zero]
  show s.cps.toList.take (min n s.length) = _
  have : s.length = s.cps.toList.length := by simp [Str.length]
  rw [this]
  rcases Nat.le_total n s.cps.toList.length with h | h
  · rw [Nat.min_eq_left h]
  · rw [Nat.min_eq_right h, List.take_of_length_le (Nat.le_refl _), List.take_of_length_le h]
theorem cut_nameBy (f : Nat → Int) (j n : Nat) (h : n ≤ j) : cutS (nameBy f j) none (some (n : Int)) = nameBy f n := by
  apply str_ext
  rw [cutTo, nameBy_list, nameBy_list, ← List.map_take, List.take_range, Nat.min_eq_left h]
theorem nameBy_at (f : Nat → Int) (n j : Nat) (h : j < n) : (nameBy f n).cps.toList[j]? = some (signAt (f j)) := by
  rw [nameBy_list]
  simp [h]
/-- a name: one to twelve of the signs -/
def NameOk (s : Str) : Prop := 1 ≤ s.length ∧ s.length ≤ 12 ∧ ∀ c ∈ s.cps.toList, c ∈ signsT.cps.toList
theorem nameBy_ok (f : Nat → Int) (n : Nat) (h1 : 1 ≤ n) (h2 : n ≤ 12) : NameOk (nameBy f n) := by
  refine ⟨by rw [nameBy_len]; exact h1, by rw [nameBy_len]; exact h2, fun c hc => ?_⟩
  rw [nameBy_list] at hc
  obtain ⟨i, _, rfl⟩ := List.mem_map.mp hc
  exact signAt_mem _
theorem range_pre {n : Nat} {d rest : List Int} {x : Int} (e : (List.range n).map (fun (i : Nat) => (i : Int)) = d ++ x :: rest) : x = (d.length : Int) ∧ d.length < n := by
  have hl : d.length < ((List.range n).map (fun (i : Nat) => (i : Int))).length := pre_len e
  rw [List.length_map, List.length_range] at hl
  refine ⟨?_, hl⟩
  have h1 : ((List.range n).map (fun (i : Nat) => (i : Int)))[d.length]? = some x := by
    rw [e, List.getElem?_append_right (Nat.le_refl _), Nat.sub_self]
    rfl
  simp [hl] at h1
  exact h1.symm
theorem nodup_map_range {α : Type} (f : Nat → α) (m : Nat) (h : ∀ k l, k < m → l < m → f k = f l → k = l) : ((List.range m).map f).Nodup := by
  rw [List.Nodup, List.pairwise_map]
  refine List.Pairwise.imp_of_mem (fun {a b} ha hb hab e => hab (h a b (List.mem_range.mp ha) (List.mem_range.mp hb) e)) List.nodup_range
theorem cutA_to {α : Type} (xs : List α) (n : Nat) : cutA xs none (some (n : Int)) = xs.take n := by
  unfold cutA
  rw [HT.sIx_nat, HT.sIx_none, List.drop_zero, Nat.sub_zero]
  rcases Nat.le_total n xs.length with h | h
  · rw [Nat.min_eq_left h]
  · rw [Nat.min_eq_right h, List.take_of_length_le (Nat.le_refl _), List.take_of_length_le h]
theorem cutA_from {α : Type} (xs : List α) (n : Nat) : cutA xs (some (n : Int)) none = xs.drop n := by
  unfold cutA
  rw [HT.sIx_nat, HT.sIx_none]
  rcases Nat.le_total n xs.length with h | h
  · rw [Nat.min_eq_left h, List.take_of_length_le (by rw [List.length_drop]; exact Nat.le_refl _)]
  · rw [Nat.min_eq_right h, List.drop_of_length_le (Nat.le_refl _), List.drop_of_length_le h, List.take_nil]
theorem part_nat' (c k : Int) {m : Int} (h : 0 < m) : ∃ j : Nat, part c k m = (j : Int) ∧ (j : Int) < m := by
  obtain ⟨a, b⟩ := part_pos c k h
  exact ⟨(part c k m).toNat, by omega, by omega⟩
theorem ixR_mem {α : Type} {xs : List α} {i : Int} (h0 : 0 ≤ i) (h1 : i < xs.length) : ∃ x ∈ xs, ixR xs i = .ok x := by
  have hk : i.toNat < xs.length := by omega
  exact ⟨xs[i.toNat], List.getElem_mem _, ixR_of (by omega) hk⟩
theorem ixR_get {α : Type} {xs : List α} {k : Nat} {x : α} (h : xs[k]? = some x) : ixR xs (k : Int) = .ok x := by
  obtain ⟨h1, h2⟩ := List.getElem?_eq_some_iff.mp h
  rw [ixR_nat h1, h2]
end Dg

namespace Dg
open PySem PySem.Spec PyProof.Rows L2
/-! ### what each def comes to -/
noncomputable def d__law_part : Env → Out := (retS (b2 dMod (b2 dMod (b2 dMul2 (b2 dMod (b2 dMul2 (b2 dAdd (b2 dMod (vr 0) (cst (.int 99991))) (cst (.int 17))) (b2 dAdd (cst (.int 48271)) (b2 dMul2 (cst (.int 7919)) (vr 1)))) (cst (.int 65537))) (b2 dAdd (vr 1) (cst (.int 3)))) (cst (.int 8191))) (vr 2)))
noncomputable def f__law_part : List D → R D := fun ds => (runF 3 d__law_part ds).nox
noncomputable def lb__law_names_1 : Env → Out := (seqS (asgS [] [10] t1 (callP f__law_part (conL (vr 0) (conL (b2 dAdd (vr 9) (cst (.int 2))) (conL (cst (.int 37)) nilL))))) (seqS (ifS (tb (b2 dEq (vr 9) (vr 5))) (seqS (asgS [] [10] t1 (b2 dAdd (vr 10) (vr 7))) nxS) nxS) (seqS (asgS [] [8] t1 (b2 dAdd (vr 8) (b2 dIx (vr 3) (b2 dMod (vr 10) (cst (.int 37)))))) nxS)))
noncomputable def lb__law_names_2 : Env → Out := (seqS (asgS [] [8] t1 (cst (.str ""))) (seqS (forS [9] t1 [9, 10] (rgE (conL (vr 4) nilL)) lb__law_names_1) (seqS (mutS 6 [] gAppend (conL (chkE (vr 8)) nilL)) nxS)))
noncomputable def cp__law_names_1 : Env → R D := (compE [7] t1 (rgE (conL (vr 2) nilL)) yesT (slE (b2 dIx (vr 6) (cst (.int 0))) noO (toO (b2 dSub (vr 4) (vr 7)))))
noncomputable def d__law_names : Env → Out := (seqS (asgS [] [3] t1 (cst (.str "abcdefghijklmnopqrstuvwxyz0123456789-"))) (seqS (asgS [] [4] t1 (b2 dAdd (cst (.int 1)) (callP f__law_part (conL (vr 0) (conL (cst (.int 0)) (conL (cst (.int 12)) nilL)))))) (seqS (asgS [] [5] t1 (callP f__law_part (conL (vr 1) (conL (cst (.int 1)) (conL (vr 4) nilL))))) (seqS (asgS [] [6] t1 (lstE nilL)) (seqS (forS [7] t1 [7, 8, 9, 10] (rgE (conL (vr 2) nilL)) lb__law_names_2) (seqS (ifS (andT (tb (b2 dGe (vr 4) (vr 2))) (tb (b2 dEq (b2 dMod (vr 1) (cst (.int 2))) (cst (.int 1))))) (retS cp__law_names_1) nxS) (retS (vr 6))))))))
noncomputable def f__law_names : List D → R D := fun ds => (runF 11 d__law_names ds).nox
noncomputable def d__law_cell_at : Env → Out := (seqS (ifS (tb (b2 dLt (vr 1) (call dLen (conL (vr 0) nilL)))) (retS (chkE (b2 dIx (vr 0) (vr 1)))) nxS) (retS (cst (.int 0))))
noncomputable def f__law_cell_at : List D → R D := fun ds => (runF 2 d__law_cell_at ds).nox
noncomputable def d__law_units : Env → Out := (retS (slE (callP f__law_names (conL (callP f__law_cell_at (conL (vr 0) (conL (cst (.int 0)) nilL))) (conL (callP f__law_cell_at (conL (vr 0) (conL (cst (.int 1)) nilL))) (conL (cst (.int 9)) nilL)))) noO (toO (b2 dAdd (cst (.int 1)) (b2 dMod (callP f__law_cell_at (conL (vr 0) (conL (cst (.int 2)) nilL))) (cst (.int 9)))))))
noncomputable def f__law_units : List D → R D := fun ds => (runF 1 d__law_units ds).nox
noncomputable def lb__law_ties_1 : Env → Out := (seqS (asgS [] [4] t1 (b2 dIx (vr 0) (callP f__law_part (conL (vr 3) (conL (cst (.int 2)) (conL (call dLen (conL (vr 0) nilL)) nilL)))))) (seqS (asgS [] [5] t1 (b2 dIx (vr 0) (callP f__law_part (conL (vr 3) (conL (cst (.int 3)) (conL (call dLen (conL (vr 0) nilL)) nilL)))))) (seqS (asgS [] [6] t1 (b2 dIx (lstE (conL (cst (.str "over")) (conL (cst (.str "cuts")) (conL (cst (.str "fills")) (conL (cst (.str "after")) (conL (cst (.str "same")) (conL (cst (.str "same")) nilL))))))) (callP f__law_part (conL (vr 3) (conL (cst (.int 4)) (conL (cst (.int 6)) nilL)))))) (seqS (asgS [] [7] t1 (tupE (conL (chkE (vr 6)) (conL (chkE (vr 4)) (conL (chkE (vr 5)) nilL))))) (seqS (ifS (tb (b2 dEq (vr 6) (cst (.str "after")))) (seqS (asgS [] [7] t1 (tupE (conL (chkE (vr 6)) (conL (chkE (vr 4)) (conL (chkE (vr 5)) (conL (b2 dMod (b2 dMul2 (vr 3) (cst (.int 48271))) (b2 dPow (cst (.int 10)) (cst (.int 60)))) nilL)))))) nxS) nxS) (seqS (ifS (tb (b2 (dInS true) (vr 7) (vr 2))) (seqS (mutS 2 [] gAppend (conL (chkE (vr 7)) nilL)) nxS) nxS) nxS))))))
noncomputable def d__law_ties : Env → Out := (seqS (asgS [] [2] t1 (lstE nilL)) (seqS (forS [3] t1 [3, 4, 5, 6, 7] (itE (vr 1)) lb__law_ties_1) (retS (vr 2))))
noncomputable def f__law_ties : List D → R D := fun ds => (runF 8 d__law_ties ds).nox
noncomputable def lb__law_turned_1 : Env → Out := (seqS (mutS 2 [] gInsert (conL (callP f__law_part (conL (vr 1) (conL (vr 3) (conL (b2 dAdd (call dLen (conL (vr 2) nilL)) (cst (.int 1))) nilL)))) (conL (chkE (b2 dIx (vr 0) (vr 3))) nilL))) nxS)
noncomputable def d__law_turned : Env → Out := (seqS (asgS [] [2] t1 (lstE nilL)) (seqS (forS [3] t1 [3] (rgE (conL (call dLen (conL (vr 0) nilL)) nilL)) lb__law_turned_1) (retS (vr 2))))
noncomputable def f__law_turned : List D → R D := fun ds => (runF 4 d__law_turned ds).nox
noncomputable def lb__law_other_ties_1 : Env → Out := (seqS (asgS [] [4] t1 (b2 dIx (vr 0) (vr 3))) (seqS (ifS (andT (tb (b2 dEq (b2 dIx (vr 4) (cst (.int 0))) (cst (.str "same")))) (tb (b2 dEq (b2 dMod (b2 dMod (b2 dMul2 (b2 dAdd (vr 1) (vr 3)) (cst (.int 48271))) (cst (.int 65537))) (cst (.int 2))) (cst (.int 1))))) (seqS (asgS [] [4] t1 (tupE (conL (cst (.str "same")) (conL (chkE (b2 dIx (vr 4) (cst (.int 2)))) (conL (chkE (b2 dIx (vr 4) (cst (.int 1)))) nilL))))) nxS) nxS) (seqS (ifS (andT (tb (b2 dEq (b2 dIx (vr 4) (cst (.int 0))) (cst (.str "same")))) (tb (b2 (dInS true) (vr 4) (vr 2)))) (seqS (mutS 2 [] gInsert (conL (callP f__law_part (conL (vr 1) (conL (vr 3) (conL (b2 dAdd (call dLen (conL (vr 2) nilL)) (cst (.int 1))) nilL)))) (conL (chkE (vr 4)) nilL))) nxS) nxS) nxS)))
noncomputable def d__law_other_ties : Env → Out := (seqS (asgS [] [2] t1 (lstE nilL)) (seqS (forS [3] t1 [3, 4] (rgE (conL (call dLen (conL (vr 0) nilL)) nilL)) lb__law_other_ties_1) (retS (vr 2))))
noncomputable def f__law_other_ties : List D → R D := fun ds => (runF 5 d__law_other_ties ds).nox
noncomputable def lb_joined_1 : Env → Out := (seqS (dputS 2 [] (vr 3) (chkE (vr 3))) nxS)
noncomputable def lb_joined_2 : Env → Out := (seqS (ifS (orT (tb (b2 dEq (b2 dIx (vr 2) (vr 3)) (vr 5))) (tb (b2 dEq (b2 dIx (vr 2) (vr 3)) (vr 6)))) (seqS (dputS 2 [] (vr 3) (call dMin (conL (vr 5) (conL (vr 6) nilL)))) nxS) nxS) nxS)
noncomputable def lb_joined_3 : Env → Out := (seqS (ifS (tb (b2 dEq (b2 dIx (vr 4) (cst (.int 0))) (cst (.str "same")))) (seqS (asgS [] [5] t1 (chkE (b2 dIx (vr 2) (b2 dIx (vr 4) (cst (.int 1)))))) (seqS (asgS [] [6] t1 (chkE (b2 dIx (vr 2) (b2 dIx (vr 4) (cst (.int 2)))))) (seqS (forS [3] t1 [3] (itE (vr 0)) lb_joined_2) nxS))) nxS) nxS)
noncomputable def d_joined : Env → Out := (seqS (asgS [] [2] t1 newD) (seqS (forS [3] t1 [3] (itE (vr 0)) lb_joined_1) (seqS (forS [4] t1 [3, 4, 5, 6] (itE (vr 1)) lb_joined_3) (retS (vr 2)))))
noncomputable def f_joined : List D → R D := fun ds => (runF 7 d_joined ds).nox
noncomputable def cp_names_of_ones_1 : Env → R D := (compE [3] t1 (itE (vr 0)) (tb (b2 dEq (b2 dIx (vr 2) (vr 3)) (vr 3))) (chkE (vr 3)))
noncomputable def d_names_of_ones : Env → Out := (seqS (asgS [] [2] t1 (callP f_joined (conL (vr 0) (conL (vr 1) nilL)))) (retS (call dSorted (conL cp_names_of_ones_1 nilL))))
noncomputable def f_names_of_ones : List D → R D := fun ds => (runF 4 d_names_of_ones ds).nox
noncomputable def cp_ones_1 : Env → R D := (compE [5] t1 (itE (vr 0)) (tb (b2 dEq (b2 dIx (vr 2) (vr 5)) (vr 4))) (chkE (vr 5)))
noncomputable def lb_ones_1 : Env → Out := (seqS (mutS 3 [] gAppend (conL (call dSorted (conL cp_ones_1 nilL)) nilL)) nxS)
noncomputable def d_ones : Env → Out := (seqS (asgS [] [2] t1 (callP f_joined (conL (vr 0) (conL (vr 1) nilL)))) (seqS (asgS [] [3] t1 (lstE nilL)) (seqS (forS [4] t1 [4] (itE (callP f_names_of_ones (conL (vr 0) (conL (vr 1) nilL)))) lb_ones_1) (retS (vr 3)))))
noncomputable def f_ones : List D → R D := fun ds => (runF 6 d_ones ds).nox
noncomputable def lb__law_list_of_1 : Env → Out := (seqS (ifS (tb (b2 (dInS false) (vr 1) (vr 2))) (retS (vr 2)) nxS) nxS)
noncomputable def d__law_list_of : Env → Out := (seqS (forS [2] t1 [2] (itE (vr 0)) lb__law_list_of_1) (retS (lstE nilL)))
noncomputable def f__law_list_of : List D → R D := fun ds => (runF 3 d__law_list_of ds).nox
noncomputable def d_one_of : Env → Out := (retS (chkE (b2 dIx (callP f_joined (conL (vr 0) (conL (vr 1) nilL))) (vr 2))))
noncomputable def f_one_of : List D → R D := fun ds => (runF 3 d_one_of ds).nox
noncomputable def lb_law_1 : Env → Out := (seqS (asgS [] [8] t1 (callP f__law_list_of (conL (vr 6) (conL (vr 7) nilL)))) (seqS (ifS (orT (tb (b2 dEq (vr 8) (lstE nilL))) (tb (b2 dNe (callP f_one_of (conL (call dListOf (conL (vr 1) nilL)) (conL (call dListOf (conL (vr 2) nilL)) (conL (vr 7) nilL)))) (b2 dIx (vr 8) (cst (.int 0)))))) (retS (cst (.bool false))) nxS) (seqS (ifS (tb (b2 dNe (callP f_one_of (conL (call dListOf (conL (vr 4) nilL)) (conL (call dListOf (conL (vr 5) nilL)) (conL (vr 7) nilL)))) (b2 dIx (vr 8) (cst (.int 0))))) (retS (cst (.bool false))) nxS) nxS)))
noncomputable def cp_law_1 : Env → R D := (compE [14] t1 (itE (vr 6)) (andT (tb (b2 dNe (vr 14) (vr 11))) (tb (b2 dNe (vr 14) (vr 12)))) (vr 14))
noncomputable def cp_law_2 : Env → R D := (compE [17] t1 (itE (lstE (conL (tupE (conL (cst (.str "same")) (conL (chkE (vr 9)) (conL (chkE (vr 10)) nilL)))) nilL))) (tb (b2 (dInS true) (vr 17) (vr 2))) (chkE (vr 17)))
noncomputable def d_law : Env → Out := (seqS (asgS [] [1] t1 (callP f__law_units (conL (vr 0) nilL))) (seqS (asgS [] [2] t1 (callP f__law_ties (conL (vr 1) (conL (slE (vr 0) (toO (cst (.int 4))) (toO (cst (.int 63)))) nilL)))) (seqS (asgS [] [3] t1 (callP f__law_cell_at (conL (vr 0) (conL (cst (.int 3)) nilL)))) (seqS (asgS [] [4] t1 (callP f__law_turned (conL (vr 1) (conL (vr 3) nilL)))) (seqS (asgS [] [5] t1 (callP f__law_other_ties (conL (vr 2) (conL (vr 3) nilL)))) (seqS (asgS [] [6] t1 (callP f_ones (conL (call dListOf (conL (vr 1) nilL)) (conL (call dListOf (conL (vr 2) nilL)) nilL)))) (seqS (ifS (tb (b2 dNe (callP f_ones (conL (call dListOf (conL (vr 4) nilL)) (conL (call dListOf (conL (vr 5) nilL)) nilL))) (vr 6))) (retS (cst (.bool false))) nxS) (seqS (lendS [0, 1, 6, 9, 10, 11, 12, 13, 14, 15, 16, 17] [2, 3, 4, 5] (forS [7] t1 [7, 8] (itE (vr 1)) lb_law_1)) (seqS (asgS [] [9] t1 (chkE (b2 dIx (vr 1) (callP f__law_part (conL (vr 3) (conL (cst (.int 20)) (conL (call dLen (conL (vr 1) nilL)) nilL))))))) (seqS (asgS [] [10] t1 (chkE (b2 dIx (vr 1) (callP f__law_part (conL (vr 3) (conL (cst (.int 21)) (conL (call dLen (conL (vr 1) nilL)) nilL))))))) (seqS (asgS [] [11] t1 (callP f__law_list_of (conL (vr 6) (conL (vr 9) nilL)))) (seqS (asgS [] [12] t1 (callP f__law_list_of (conL (vr 6) (conL (vr 10) nilL)))) (seqS (asgS [] [13] t1 cp_law_1) (seqS (asgS [] [15] t1 (call dSetSort (conL (b2 dAdd (vr 11) (vr 12)) nilL))) (seqS (asgS [] [16] t1 cp_law_2) (retS (b2 dEq (callP f_ones (conL (call dListOf (conL (vr 4) nilL)) (conL (b2 dAdd (call dListOf (conL (vr 2) nilL)) (vr 16)) nilL))) (b1 dSortB (b2 dAddB (vr 13) (lstE (conL (vr 15) nilL)))))))))))))))))))))
noncomputable def f_law : List D → R D := fun ds => (runF 18 d_law ds).nox
end Dg

namespace Dg
open PySem PySem.Spec PyProof.Rows L2
def topS (i : Nat) : Stmt := PySem.Challenge.pw_digmatrix_k13_whole_ones_in_any_order.main.body.getD i (.Pass ⟨0, 0, 0, 0⟩)
abbrev s__law_part : Stmt := topS 7
abbrev N__law_part : List Str := ["_law_cell", "_law_k", "_law_many"]
theorem sc__law_part : FnScope N__law_part ["_law_cell", "_law_k", "_law_many"] (defScope s__law_part) := ⟨rfl, rfl, rfl, by decide +kernel, rfl, by decide +kernel, by decide +kernel⟩
abbrev s__law_names : Stmt := topS 8
abbrev N__law_names : List Str := ["_law_one", "_law_other", "_law_many", "_law_signs", "_law_size", "_law_at", "_law_names_here", "_law_k", "_law_name", "_law_j", "_law_number"]
theorem sc__law_names : FnScope N__law_names ["_law_one", "_law_other", "_law_many"] (defScope s__law_names) := ⟨rfl, rfl, rfl, by decide +kernel, rfl, by decide +kernel, by decide +kernel⟩
abbrev s__law_cell_at : Stmt := topS 6
abbrev N__law_cell_at : List Str := ["_law_script", "_law_k"]
theorem sc__law_cell_at : FnScope N__law_cell_at ["_law_script", "_law_k"] (defScope s__law_cell_at) := ⟨rfl, rfl, rfl, by decide +kernel, rfl, by decide +kernel, by decide +kernel⟩
abbrev s__law_units : Stmt := topS 9
abbrev N__law_units : List Str := ["_law_script"]
theorem sc__law_units : FnScope N__law_units ["_law_script"] (defScope s__law_units) := ⟨rfl, rfl, rfl, by decide +kernel, rfl, by decide +kernel, by decide +kernel⟩
abbrev s__law_ties : Stmt := topS 10
abbrev N__law_ties : List Str := ["_law_units_here", "_law_cells", "_law_ties_here", "_law_cell", "_law_one", "_law_other", "_law_kind", "_law_tie"]
theorem sc__law_ties : FnScope N__law_ties ["_law_units_here", "_law_cells"] (defScope s__law_ties) := ⟨rfl, rfl, rfl, by decide +kernel, rfl, by decide +kernel, by decide +kernel⟩
abbrev s__law_turned : Stmt := topS 11
abbrev N__law_turned : List Str := ["_law_units_here", "_law_cell", "_law_turned_here", "_law_k"]
theorem sc__law_turned : FnScope N__law_turned ["_law_units_here", "_law_cell"] (defScope s__law_turned) := ⟨rfl, rfl, rfl, by decide +kernel, rfl, by decide +kernel, by decide +kernel⟩
abbrev s__law_other_ties : Stmt := topS 12
abbrev N__law_other_ties : List Str := ["_law_ties_here", "_law_cell", "_law_other", "_law_k", "_law_tie"]
theorem sc__law_other_ties : FnScope N__law_other_ties ["_law_ties_here", "_law_cell"] (defScope s__law_other_ties) := ⟨rfl, rfl, rfl, by decide +kernel, rfl, by decide +kernel, by decide +kernel⟩
abbrev s_joined : Stmt := topS 1
abbrev N_joined : List Str := ["units", "ties", "name_of", "unit", "tie", "here", "there"]
theorem sc_joined : FnScope N_joined ["units", "ties"] (defScope s_joined) := ⟨rfl, rfl, rfl, by decide +kernel, rfl, by decide +kernel, by decide +kernel⟩
abbrev s_names_of_ones : Stmt := topS 3
abbrev N_names_of_ones : List Str := ["units", "ties", "name_of", "unit"]
theorem sc_names_of_ones : FnScope N_names_of_ones ["units", "ties"] (defScope s_names_of_ones) := ⟨rfl, rfl, rfl, by decide +kernel, rfl, by decide +kernel, by decide +kernel⟩
abbrev s_ones : Stmt := topS 4
abbrev N_ones : List Str := ["units", "ties", "name_of", "groups", "name", "unit"]
theorem sc_ones : FnScope N_ones ["units", "ties"] (defScope s_ones) := ⟨rfl, rfl, rfl, by decide +kernel, rfl, by decide +kernel, by decide +kernel⟩
abbrev s__law_list_of : Stmt := topS 13
abbrev N__law_list_of : List Str := ["_law_groups", "_law_name", "_law_group"]
theorem sc__law_list_of : FnScope N__law_list_of ["_law_groups", "_law_name"] (defScope s__law_list_of) := ⟨rfl, rfl, rfl, by decide +kernel, rfl, by decide +kernel, by decide +kernel⟩
abbrev s_one_of : Stmt := topS 2
abbrev N_one_of : List Str := ["units", "ties", "name"]
theorem sc_one_of : FnScope N_one_of ["units", "ties", "name"] (defScope s_one_of) := ⟨rfl, rfl, rfl, by decide +kernel, rfl, by decide +kernel, by decide +kernel⟩
abbrev s_law : Stmt := topS 14
abbrev N_law : List Str := ["_law_script", "_law_units_here", "_law_ties_here", "_law_cell", "_law_turned_here", "_law_other", "_law_groups", "_law_name", "_law_due", "_law_first", "_law_second", "_law_here", "_law_there", "_law_rest", "_law_group", "_law_joined_list", "_law_added", "_law_tie"]
theorem sc_law : FnScope N_law ["_law_script"] (defScope s_law) := ⟨rfl, rfl, rfl, by decide +kernel, rfl, by decide +kernel, by decide +kernel⟩
/-- what the top has written -/
structure Txt (K : PySem.W.Frag) (mg : Str → Option Value) : Prop where
  f__law_part : ∃ fa fd, Fun K "_law_part" "_law_part" s__law_part fa fd ∧ mg "_law_part" = some (.ref fa)
  f__law_names : ∃ fa fd, Fun K "_law_names" "_law_names" s__law_names fa fd ∧ mg "_law_names" = some (.ref fa)
  f__law_cell_at : ∃ fa fd, Fun K "_law_cell_at" "_law_cell_at" s__law_cell_at fa fd ∧ mg "_law_cell_at" = some (.ref fa)
  f__law_units : ∃ fa fd, Fun K "_law_units" "_law_units" s__law_units fa fd ∧ mg "_law_units" = some (.ref fa)
  f__law_ties : ∃ fa fd, Fun K "_law_ties" "_law_ties" s__law_ties fa fd ∧ mg "_law_ties" = some (.ref fa)
  f__law_turned : ∃ fa fd, Fun K "_law_turned" "_law_turned" s__law_turned fa fd ∧ mg "_law_turned" = some (.ref fa)
  f__law_other_ties : ∃ fa fd, Fun K "_law_other_ties" "_law_other_ties" s__law_other_ties fa fd ∧ mg "_law_other_ties" = some (.ref fa)
  f_joined : ∃ fa fd, Fun K "joined" "joined" s_joined fa fd ∧ mg "joined" = some (.ref fa)
  f_names_of_ones : ∃ fa fd, Fun K "names_of_ones" "names_of_ones" s_names_of_ones fa fd ∧ mg "names_of_ones" = some (.ref fa)
  f_ones : ∃ fa fd, Fun K "ones" "ones" s_ones fa fd ∧ mg "ones" = some (.ref fa)
  f__law_list_of : ∃ fa fd, Fun K "_law_list_of" "_law_list_of" s__law_list_of fa fd ∧ mg "_law_list_of" = some (.ref fa)
  f_one_of : ∃ fa fd, Fun K "one_of" "one_of" s_one_of fa fd ∧ mg "one_of" = some (.ref fa)
  f_law : ∃ fa fd, Fun K "law" "law" s_law fa fd ∧ mg "law" = some (.ref fa)
  n_len : mg "len" = none
  n_list : mg "list" = none
  n_min : mg "min" = none
  n_range : mg "range" = none
  n_set : mg "set" = none
  n_sorted : mg "sorted" = none
section
variable {P : Program} {w : World} {K : PySem.W.Frag} {mg : Str → Option Value} {base : Heap}
theorem fok__law_part (T : Txt K mg) {fa : Addr} {fd : FuncData} (F : Fun K "_law_part" "_law_part" s__law_part fa fd) : FnOk P w K mg base CX0 1 fa fd ["_law_cell", "_law_k", "_law_many"] (spD K mg 3 f__law_part) :=
  fn_ok (kk := 0) (n := 3) (m := 3) (den := d__law_part) F sc__law_part (fun _ => rfl) rfl rfl fun cdv A outer s H E hr => by
    have hu := hr.units
    exact ⟨[], (ds_one (ds_ret (de_op op_dMod (de_op op_dMod (de_op op_dMul2 (de_op op_dMod (de_op op_dMul2 (de_op op_dAdd (de_op op_dMod (de_var (pv 0)) de_int) de_int) (de_op op_dAdd de_int (de_op op_dMul2 de_int (de_var (pv 1))))) de_int) (de_op op_dAdd (de_var (pv 1)) de_int)) de_int) (de_var (pv 2))) rfl rfl rfl))⟩
theorem ok__law_part (T : Txt K mg) : Cal P w K mg base CX0 "_law_part" 1 3 f__law_part := by
  obtain ⟨fa, fd, F, hm⟩ := T.f__law_part
  exact ⟨fa, fd, ["_law_cell", "_law_k", "_law_many"], fok__law_part T F, hm, F.kp, F.binds (ps := ["_law_cell", "_law_k", "_law_many"]) fun _ _ _ _ _ _ us hl => match us, hl with | [_, _, _], _ => rfl⟩
theorem fok__law_names (T : Txt K mg) {fa : Addr} {fd : FuncData} (F : Fun K "_law_names" "_law_names" s__law_names fa fd) : FnOk P w K mg base CX0 2 fa fd ["_law_one", "_law_other", "_law_many"] (spD K mg 3 f__law_names) :=
  fn_ok (kk := 1) (n := 11) (m := 3) (den := d__law_names) F sc__law_names (fun _ => rfl) rfl rfl fun cdv A outer s H E hr => by
    have hu := hr.units
    exact ⟨[], (ds_cons (ds_asg (ow' := [3]) de_str (dg_name (pg_name (i := 3) sc__law_names.nd rfl (by first | exact Or.inl rfl | exact Or.inr rfl))) rfl rfl rfl) (ds_cons (ds_asg (ow' := [3, 4]) (de_op op_dAdd de_int (de_call (ok__law_part T) (hr.mono (by decide)) (da_br (de_var (pv 0)) (da_br de_int (da_br de_int da_nilB))))) (dg_name (pg_name (i := 4) sc__law_names.nd rfl (by first | exact Or.inl rfl | exact Or.inr rfl))) rfl rfl rfl) (ds_cons (ds_asg (ow' := [3, 4, 5]) (de_call (ok__law_part T) (hr.mono (by decide)) (da_br (de_var (pv 1)) (da_br de_int (da_br (de_var (pv 4)) da_nilB)))) (dg_name (pg_name (i := 5) sc__law_names.nd rfl (by first | exact Or.inl rfl | exact Or.inr rfl))) rfl rfl rfl) (ds_cons (ds_asg (ow' := [3, 4, 5, 6]) (de_lst da_nil) (dg_name (pg_name (i := 6) sc__law_names.nd rfl (by first | exact Or.inl rfl | exact Or.inr rfl))) rfl rfl rfl) (ds_cons (ds_for (owl := [3, 4, 5, 6]) (ow' := [3, 4, 5, 6]) (ks := [7, 8, 9, 10]) PassesOwn.never rfl (di_range1 T.n_range (da_br (de_var (pv 2)) da_nilB)) (dg_name (pg_name (i := 7) sc__law_names.nd rfl (by first | exact Or.inl rfl | exact Or.inr rfl))) (ds_cons (ds_asg (ow' := [3, 4, 5, 6, 8]) de_str (dg_name (pg_name (i := 8) sc__law_names.nd rfl (by first | exact Or.inl rfl | exact Or.inr rfl))) rfl rfl rfl) (ds_cons (ds_for (owl := [3, 4, 5, 6, 8]) (ow' := [3, 4, 5, 6, 8]) (ks := [9, 10]) PassesOwn.never rfl (di_range1 T.n_range (da_br (de_var (pv 4)) da_nilB)) (dg_name (pg_name (i := 9) sc__law_names.nd rfl (by first | exact Or.inl rfl | exact Or.inr rfl))) (ds_cons (ds_asg (ow' := [3, 4, 5, 6, 8, 10]) (de_call (ok__law_part T) (hr.mono (by decide)) (da_br (de_var (pv 0)) (da_br (de_op op_dAdd (de_var (pv 9)) de_int) (da_br de_int da_nilB)))) (dg_name (pg_name (i := 10) sc__law_names.nd rfl (by first | exact Or.inl rfl | exact Or.inr rfl))) rfl rfl rfl) (ds_cons (ds_if (ow' := [3, 4, 5, 6, 8, 10]) (dt_cmp (op_dEq hu) (de_var (pv 9)) (de_var (pv 5)) (nomark _)) (ds_cons (ds_asg (ow' := [3, 4, 5, 6, 8, 10]) (de_op op_dAdd (de_var (pv 10)) (de_var (pv 7))) (dg_name (pg_name (i := 10) sc__law_names.nd rfl (by first | exact Or.inl rfl | exact Or.inr rfl))) rfl rfl rfl) (ds_nil (by decide))) (ds_nil (by decide)) rfl) (ds_cons (ds_asg (ow' := [3, 4, 5, 6, 8, 10]) (de_op op_dAdd (de_var (pv 8)) (de_ix hu (de_var (pv 3)) (de_op op_dMod (de_var (pv 10)) de_int) (fun _ _ => rfl))) (dg_name (pg_name (i := 8) sc__law_names.nd rfl (by first | exact Or.inl rfl | exact Or.inr rfl))) rfl rfl rfl) (ds_nil (by decide))))) rfl rfl rfl rfl rfl rfl) (ds_cons (ds_mutO (ow' := [3, 4, 5, 6, 8]) PySem.F.slot_list_append PySem.F.type_list_append mu_append (pv 6) (da_own (de_imm (de_var (pv 8))) da_nil (by decide)) rfl rfl rfl rfl) (ds_nil (by decide))))) rfl rfl rfl rfl rfl rfl) (ds_cons (ds_if (ow' := [3, 4, 5, 6]) (dt_w (dw_and (c := .Name "a" ⟨0, 0, 0, 0⟩) (pos2 := ⟨0, 0, 0, 0⟩) (dt_cmp (op_dGe hu) (de_var (pv 4)) (de_var (pv 2)) (nomark _)) (dw_and1 (dt_cmp (op_dEq hu) (de_op op_dMod (de_var (pv 1)) de_int) de_int (nomark _))))) (ds_one (ds_ret (de_comp [] rfl sc__law_names.nd (di_range1 T.n_range (da_br (de_var (pv 2)) da_nilB)) (blkOk_by (own := [("_law_k", 7)]) (N := N__law_names) (sc := defScope s__law_names) (by decide +kernel)) rfl (fun _ _ _ _ _ => (dg_name (pg_name (i := 7) sc__law_names.nd rfl (by first | exact Or.inl rfl | exact Or.inr rfl)))) blk_pts0 (fun _ _ _ _ _ => (de_sl (de_ix hu (de_var (pv 6)) de_int (fun _ _ => rfl)) do_none (do_some (de_op op_dSub (de_var (pv 4)) (de_var (pv 7))))))) rfl rfl rfl)) (ds_nil (by decide)) rfl) (ds_one (ds_ret (de_mov (pv 6) (by decide)) rfl rfl rfl))))))))⟩
theorem ok__law_names (T : Txt K mg) : Cal P w K mg base CX0 "_law_names" 2 3 f__law_names := by
  obtain ⟨fa, fd, F, hm⟩ := T.f__law_names
  exact ⟨fa, fd, ["_law_one", "_law_other", "_law_many"], fok__law_names T F, hm, F.kp, F.binds (ps := ["_law_one", "_law_other", "_law_many"]) fun _ _ _ _ _ _ us hl => match us, hl with | [_, _, _], _ => rfl⟩
theorem fok__law_cell_at (T : Txt K mg) {fa : Addr} {fd : FuncData} (F : Fun K "_law_cell_at" "_law_cell_at" s__law_cell_at fa fd) : FnOk P w K mg base CX0 1 fa fd ["_law_script", "_law_k"] (spD K mg 2 f__law_cell_at) :=
  fn_ok (kk := 0) (n := 2) (m := 2) (den := d__law_cell_at) F sc__law_cell_at (fun _ => rfl) rfl rfl fun cdv A outer s H E hr => by
    have hu := hr.units
    exact ⟨[], (ds_cons (ds_if (ow' := []) (dt_cmp (op_dLt hu) (de_var (pv 1)) (de_callB call_dLen T.n_len PySem.boot_len (da_br (de_var (pv 0)) da_nilB)) (nomark _)) (ds_one (ds_ret (de_imm (de_ix hu (de_var (pv 0)) (de_var (pv 1)) (fun _ _ => rfl))) rfl rfl rfl)) (ds_nil (by decide)) rfl) (ds_one (ds_ret de_int rfl rfl rfl)))⟩
theorem ok__law_cell_at (T : Txt K mg) : Cal P w K mg base CX0 "_law_cell_at" 1 2 f__law_cell_at := by
  obtain ⟨fa, fd, F, hm⟩ := T.f__law_cell_at
  exact ⟨fa, fd, ["_law_script", "_law_k"], fok__law_cell_at T F, hm, F.kp, F.binds (ps := ["_law_script", "_law_k"]) fun _ _ _ _ _ _ us hl => match us, hl with | [_, _], _ => rfl⟩
theorem fok__law_units (T : Txt K mg) {fa : Addr} {fd : FuncData} (F : Fun K "_law_units" "_law_units" s__law_units fa fd) : FnOk P w K mg base CX0 3 fa fd ["_law_script"] (spD K mg 1 f__law_units) :=
  fn_ok (kk := 2) (n := 1) (m := 1) (den := d__law_units) F sc__law_units (fun _ => rfl) rfl rfl fun cdv A outer s H E hr => by
    have hu := hr.units
    exact ⟨[], (ds_one (ds_ret (de_sl (de_call (ok__law_names T) (hr.mono (by decide)) (da_br (de_call (ok__law_cell_at T) (hr.mono (by decide)) (da_br (de_var (pv 0)) (da_br de_int da_nilB))) (da_br (de_call (ok__law_cell_at T) (hr.mono (by decide)) (da_br (de_var (pv 0)) (da_br de_int da_nilB))) (da_br de_int da_nilB)))) do_none (do_some (de_op op_dAdd de_int (de_op op_dMod (de_call (ok__law_cell_at T) (hr.mono (by decide)) (da_br (de_var (pv 0)) (da_br de_int da_nilB))) de_int)))) rfl rfl rfl))⟩
theorem ok__law_units (T : Txt K mg) : Cal P w K mg base CX0 "_law_units" 3 1 f__law_units := by
  obtain ⟨fa, fd, F, hm⟩ := T.f__law_units
  exact ⟨fa, fd, ["_law_script"], fok__law_units T F, hm, F.kp, F.binds (ps := ["_law_script"]) fun _ _ _ _ _ _ us hl => match us, hl with | [_], _ => rfl⟩
theorem fok__law_ties (T : Txt K mg) {fa : Addr} {fd : FuncData} (F : Fun K "_law_ties" "_law_ties" s__law_ties fa fd) : FnOk P w K mg base CX0 2 fa fd ["_law_units_here", "_law_cells"] (spD K mg 2 f__law_ties) :=
  fn_ok (kk := 1) (n := 8) (m := 2) (den := d__law_ties) F sc__law_ties (fun _ => rfl) rfl rfl fun cdv A outer s H E hr => by
    have hu := hr.units
    exact ⟨[], (ds_cons (ds_asg (ow' := [2]) (de_lst da_nil) (dg_name (pg_name (i := 2) sc__law_ties.nd rfl (by first | exact Or.inl rfl | exact Or.inr rfl))) rfl rfl rfl) (ds_cons (ds_for (owl := [2]) (ow' := [2]) (ks := [3, 4, 5, 6, 7]) PassesOwn.never rfl (di_seq (de_var (pv 1))) (dg_name (pg_name (i := 3) sc__law_ties.nd rfl (by first | exact Or.inl rfl | exact Or.inr rfl))) (ds_cons (ds_asgB (ow' := [2]) (de_ix hu (de_var (pv 0)) (de_call (ok__law_part T) (hr.mono (by decide)) (da_br (de_var (pv 3)) (da_br de_int (da_br (de_callB call_dLen T.n_len PySem.boot_len (da_br (de_var (pv 0)) da_nilB)) da_nilB)))) (fun _ _ => rfl)) (dg_name (pg_name (i := 4) sc__law_ties.nd rfl (by first | exact Or.inl rfl | exact Or.inr rfl))) rfl rfl rfl rfl rfl) (ds_cons (ds_asgB (ow' := [2]) (de_ix hu (de_var (pv 0)) (de_call (ok__law_part T) (hr.mono (by decide)) (da_br (de_var (pv 3)) (da_br de_int (da_br (de_callB call_dLen T.n_len PySem.boot_len (da_br (de_var (pv 0)) da_nilB)) da_nilB)))) (fun _ _ => rfl)) (dg_name (pg_name (i := 5) sc__law_ties.nd rfl (by first | exact Or.inl rfl | exact Or.inr rfl))) rfl rfl rfl rfl rfl) (ds_cons (ds_asgB (ow' := [2]) (de_ix hu (de_lst (da_own de_str (da_own de_str (da_own de_str (da_own de_str (da_own de_str (da_own de_str da_nil (by decide)) (by decide)) (by decide)) (by decide)) (by decide)) (by decide))) (de_call (ok__law_part T) (hr.mono (by decide)) (da_br (de_var (pv 3)) (da_br de_int (da_br de_int da_nilB)))) (fun _ _ => rfl)) (dg_name (pg_name (i := 6) sc__law_ties.nd rfl (by first | exact Or.inl rfl | exact Or.inr rfl))) rfl rfl rfl rfl rfl) (ds_cons (ds_asg (ow' := [2, 7]) (de_tup (da_own (de_imm (de_var (pv 6))) (da_own (de_imm (de_var (pv 4))) (da_own (de_imm (de_var (pv 5))) da_nil (by decide)) (by decide)) (by decide))) (dg_name (pg_name (i := 7) sc__law_ties.nd rfl (by first | exact Or.inl rfl | exact Or.inr rfl))) rfl rfl rfl) (ds_cons (ds_if (ow' := [2, 7]) (dt_cmp (op_dEq hu) (de_var (pv 6)) de_str (nomark _)) (ds_cons (ds_asg (ow' := [2, 7]) (de_tup (da_own (de_imm (de_var (pv 6))) (da_own (de_imm (de_var (pv 4))) (da_own (de_imm (de_var (pv 5))) (da_own (de_op op_dMod (de_op op_dMul2 (de_var (pv 3)) de_int) (de_op op_dPow de_int de_int)) da_nil (by decide)) (by decide)) (by decide)) (by decide))) (dg_name (pg_name (i := 7) sc__law_ties.nd rfl (by first | exact Or.inl rfl | exact Or.inr rfl))) rfl rfl rfl) (ds_nil (by decide))) (ds_nil (by decide)) rfl) (ds_cons (ds_if (ow' := [2, 7]) (dt_cmp (op_dNotIn hu) (de_var (pv 7)) (de_var (pv 2)) rfl) (ds_cons (ds_mutO (ow' := [2, 7]) PySem.F.slot_list_append PySem.F.type_list_append mu_append (pv 2) (da_own (de_imm (de_var (pv 7))) da_nil (by decide)) rfl rfl rfl rfl) (ds_nil (by decide))) (ds_nil (by decide)) rfl) (ds_nil (by decide)))))))) rfl rfl rfl rfl rfl rfl) (ds_one (ds_ret (de_mov (pv 2) (by decide)) rfl rfl rfl))))⟩
theorem ok__law_ties (T : Txt K mg) : Cal P w K mg base CX0 "_law_ties" 2 2 f__law_ties := by
  obtain ⟨fa, fd, F, hm⟩ := T.f__law_ties
  exact ⟨fa, fd, ["_law_units_here", "_law_cells"], fok__law_ties T F, hm, F.kp, F.binds (ps := ["_law_units_here", "_law_cells"]) fun _ _ _ _ _ _ us hl => match us, hl with | [_, _], _ => rfl⟩
theorem fok__law_turned (T : Txt K mg) {fa : Addr} {fd : FuncData} (F : Fun K "_law_turned" "_law_turned" s__law_turned fa fd) : FnOk P w K mg base CX0 2 fa fd ["_law_units_here", "_law_cell"] (spD K mg 2 f__law_turned) :=
  fn_ok (kk := 1) (n := 4) (m := 2) (den := d__law_turned) F sc__law_turned (fun _ => rfl) rfl rfl fun cdv A outer s H E hr => by
    have hu := hr.units
    exact ⟨[], (ds_cons (ds_asg (ow' := [2]) (de_lst da_nil) (dg_name (pg_name (i := 2) sc__law_turned.nd rfl (by first | exact Or.inl rfl | exact Or.inr rfl))) rfl rfl rfl) (ds_cons (ds_for (owl := [2]) (ow' := [2]) (ks := [3]) PassesOwn.never rfl (di_range1 T.n_range (da_br (de_callB call_dLen T.n_len PySem.boot_len (da_br (de_var (pv 0)) da_nilB)) da_nilB)) (dg_name (pg_name (i := 3) sc__law_turned.nd rfl (by first | exact Or.inl rfl | exact Or.inr rfl))) (ds_cons (ds_mutO (ow' := [2]) PySem.F.slot_list_insert PySem.F.type_list_insert mu_insert (pv 2) (da_own (de_call (ok__law_part T) (hr.mono (by decide)) (da_br (de_var (pv 1)) (da_br (de_var (pv 3)) (da_br (de_op op_dAdd (de_callB call_dLen T.n_len PySem.boot_len (da_br (de_var (pv 2)) da_nilB)) de_int) da_nilB)))) (da_own (de_imm (de_ix hu (de_var (pv 0)) (de_var (pv 3)) (fun _ _ => rfl))) da_nil (by decide)) (by decide)) rfl rfl rfl rfl) (ds_nil (by decide))) rfl rfl rfl rfl rfl rfl) (ds_one (ds_ret (de_mov (pv 2) (by decide)) rfl rfl rfl))))⟩
theorem ok__law_turned (T : Txt K mg) : Cal P w K mg base CX0 "_law_turned" 2 2 f__law_turned := by
  obtain ⟨fa, fd, F, hm⟩ := T.f__law_turned
  exact ⟨fa, fd, ["_law_units_here", "_law_cell"], fok__law_turned T F, hm, F.kp, F.binds (ps := ["_law_units_here", "_law_cell"]) fun _ _ _ _ _ _ us hl => match us, hl with | [_, _], _ => rfl⟩
theorem fok__law_other_ties (T : Txt K mg) {fa : Addr} {fd : FuncData} (F : Fun K "_law_other_ties" "_law_other_ties" s__law_other_ties fa fd) : FnOk P w K mg base CX0 2 fa fd ["_law_ties_here", "_law_cell"] (spD K mg 2 f__law_other_ties) :=
  fn_ok (kk := 1) (n := 5) (m := 2) (den := d__law_other_ties) F sc__law_other_ties (fun _ => rfl) rfl rfl fun cdv A outer s H E hr => by
    have hu := hr.units
    exact ⟨[], (ds_cons (ds_asg (ow' := [2]) (de_lst da_nil) (dg_name (pg_name (i := 2) sc__law_other_ties.nd rfl (by first | exact Or.inl rfl | exact Or.inr rfl))) rfl rfl rfl) (ds_cons (ds_for (owl := [2]) (ow' := [2]) (ks := [3, 4]) PassesOwn.never rfl (di_range1 T.n_range (da_br (de_callB call_dLen T.n_len PySem.boot_len (da_br (de_var (pv 0)) da_nilB)) da_nilB)) (dg_name (pg_name (i := 3) sc__law_other_ties.nd rfl (by first | exact Or.inl rfl | exact Or.inr rfl))) (ds_cons (ds_asgB (ow' := [2]) (de_ix hu (de_var (pv 0)) (de_var (pv 3)) (fun _ _ => rfl)) (dg_name (pg_name (i := 4) sc__law_other_ties.nd rfl (by first | exact Or.inl rfl | exact Or.inr rfl))) rfl rfl rfl rfl rfl) (ds_cons (ds_if (ow' := [2]) (dt_w (dw_and (c := .Name "a" ⟨0, 0, 0, 0⟩) (pos2 := ⟨0, 0, 0, 0⟩) (dt_cmp (op_dEq hu) (de_ix hu (de_var (pv 4)) de_int (fun _ _ => rfl)) de_str (nomark _)) (dw_and1 (dt_cmp (op_dEq hu) (de_op op_dMod (de_op op_dMod (de_op op_dMul2 (de_op op_dAdd (de_var (pv 1)) (de_var (pv 3))) de_int) de_int) de_int) de_int (nomark _))))) (ds_cons (ds_asg (ow' := [2, 4]) (de_tup (da_own de_str (da_own (de_imm (de_ix hu (de_var (pv 4)) de_int (fun _ _ => rfl))) (da_own (de_imm (de_ix hu (de_var (pv 4)) de_int (fun _ _ => rfl))) da_nil (by decide)) (by decide)) (by decide))) (dg_name (pg_name (i := 4) sc__law_other_ties.nd rfl (by first | exact Or.inl rfl | exact Or.inr rfl))) rfl rfl rfl) (ds_nil (by decide))) (ds_nil (by decide)) rfl) (ds_cons (ds_if (ow' := [2]) (dt_w (dw_and (c := .Name "a" ⟨0, 0, 0, 0⟩) (pos2 := ⟨0, 0, 0, 0⟩) (dt_cmp (op_dEq hu) (de_ix hu (de_var (pv 4)) de_int (fun _ _ => rfl)) de_str (nomark _)) (dw_and1 (dt_cmp (op_dNotIn hu) (de_var (pv 4)) (de_var (pv 2)) rfl)))) (ds_cons (ds_mutO (ow' := [2]) PySem.F.slot_list_insert PySem.F.type_list_insert mu_insert (pv 2) (da_own (de_call (ok__law_part T) (hr.mono (by decide)) (da_br (de_var (pv 1)) (da_br (de_var (pv 3)) (da_br (de_op op_dAdd (de_callB call_dLen T.n_len PySem.boot_len (da_br (de_var (pv 2)) da_nilB)) de_int) da_nilB)))) (da_own (de_imm (de_var (pv 4))) da_nil (by decide)) (by decide)) rfl rfl rfl rfl) (ds_nil (by decide))) (ds_nil (by decide)) rfl) (ds_nil (by decide))))) rfl rfl rfl rfl rfl rfl) (ds_one (ds_ret (de_mov (pv 2) (by decide)) rfl rfl rfl))))⟩
theorem ok__law_other_ties (T : Txt K mg) : Cal P w K mg base CX0 "_law_other_ties" 2 2 f__law_other_ties := by
  obtain ⟨fa, fd, F, hm⟩ := T.f__law_other_ties
  exact ⟨fa, fd, ["_law_ties_here", "_law_cell"], fok__law_other_ties T F, hm, F.kp, F.binds (ps := ["_law_ties_here", "_law_cell"]) fun _ _ _ _ _ _ us hl => match us, hl with | [_, _], _ => rfl⟩
theorem fok_joined (T : Txt K mg) {fa : Addr} {fd : FuncData} (F : Fun K "joined" "joined" s_joined fa fd) : FnOk P w K mg base CX0 1 fa fd ["units", "ties"] (spD K mg 2 f_joined) :=
  fn_ok (kk := 0) (n := 7) (m := 2) (den := d_joined) F sc_joined (fun _ => rfl) rfl rfl fun cdv A outer s H E hr => by
    have hu := hr.units
    exact ⟨[], (ds_cons (ds_asg (ow' := [2]) de_dict0 (dg_name (pg_name (i := 2) sc_joined.nd rfl (by first | exact Or.inl rfl | exact Or.inr rfl))) rfl rfl rfl) (ds_cons (ds_for (owl := [2]) (ow' := [2]) (ks := [3]) PassesOwn.never rfl (di_seq (de_var (pv 0))) (dg_name (pg_name (i := 3) sc_joined.nd rfl (by first | exact Or.inl rfl | exact Or.inr rfl))) (ds_cons (ds_dput (ow' := [2]) hu (de_imm (de_var (pv 3))) (pv 2) (de_var (pv 3)) rfl rfl rfl rfl) (ds_nil (by decide))) rfl rfl rfl rfl rfl rfl) (ds_cons (ds_for (owl := [2]) (ow' := [2]) (ks := [3, 4, 5, 6]) PassesOwn.never rfl (di_seq (de_var (pv 1))) (dg_name (pg_name (i := 4) sc_joined.nd rfl (by first | exact Or.inl rfl | exact Or.inr rfl))) (ds_cons (ds_if (ow' := [2]) (dt_cmp (op_dEq hu) (de_ix hu (de_var (pv 4)) de_int (fun _ _ => rfl)) de_str (nomark _)) (ds_cons (ds_asg (ow' := [2, 5]) (de_imm (de_ix hu (de_var (pv 2)) (de_ix hu (de_var (pv 4)) de_int (fun _ _ => rfl)) (fun _ _ => rfl))) (dg_name (pg_name (i := 5) sc_joined.nd rfl (by first | exact Or.inl rfl | exact Or.inr rfl))) rfl rfl rfl) (ds_cons (ds_asg (ow' := [2, 5, 6]) (de_imm (de_ix hu (de_var (pv 2)) (de_ix hu (de_var (pv 4)) de_int (fun _ _ => rfl)) (fun _ _ => rfl))) (dg_name (pg_name (i := 6) sc_joined.nd rfl (by first | exact Or.inl rfl | exact Or.inr rfl))) rfl rfl rfl) (ds_cons (ds_for (owl := [2, 5, 6]) (ow' := [2, 5, 6]) (ks := [3]) PassesOwn.never rfl (di_seq (de_var (pv 0))) (dg_name (pg_name (i := 3) sc_joined.nd rfl (by first | exact Or.inl rfl | exact Or.inr rfl))) (ds_cons (ds_if (ow' := [2, 5, 6]) (dt_w (dw_or (dt_cmp (op_dEq hu) (de_ix hu (de_var (pv 2)) (de_var (pv 3)) (fun _ _ => rfl)) (de_var (pv 5)) (nomark _)) (dw_or1 (dt_cmp (op_dEq hu) (de_ix hu (de_var (pv 2)) (de_var (pv 3)) (fun _ _ => rfl)) (de_var (pv 6)) (nomark _))))) (ds_cons (ds_dput (ow' := [2, 5, 6]) hu (de_callB (call_dMin rfl hu) T.n_min (by decide +kernel) (da_br (de_var (pv 5)) (da_br (de_var (pv 6)) da_nilB))) (pv 2) (de_var (pv 3)) rfl rfl rfl rfl) (ds_nil (by decide))) (ds_nil (by decide)) rfl) (ds_nil (by decide))) rfl rfl rfl rfl rfl rfl) (ds_nil (by decide))))) (ds_nil (by decide)) rfl) (ds_nil (by decide))) rfl rfl rfl rfl rfl rfl) (ds_one (ds_ret (de_mov (pv 2) (by decide)) rfl rfl rfl)))))⟩
theorem ok_joined (T : Txt K mg) : Cal P w K mg base CX0 "joined" 1 2 f_joined := by
  obtain ⟨fa, fd, F, hm⟩ := T.f_joined
  exact ⟨fa, fd, ["units", "ties"], fok_joined T F, hm, F.kp, F.binds (ps := ["units", "ties"]) fun _ _ _ _ _ _ us hl => match us, hl with | [_, _], _ => rfl⟩
theorem fok_names_of_ones (T : Txt K mg) {fa : Addr} {fd : FuncData} (F : Fun K "names_of_ones" "names_of_ones" s_names_of_ones fa fd) : FnOk P w K mg base CX0 2 fa fd ["units", "ties"] (spD K mg 2 f_names_of_ones) :=
  fn_ok (kk := 1) (n := 4) (m := 2) (den := d_names_of_ones) F sc_names_of_ones (fun _ => rfl) rfl rfl fun cdv A outer s H E hr => by
    have hu := hr.units
    exact ⟨[], (ds_cons (ds_asg (ow' := [2]) (de_call (ok_joined T) (hr.mono (by decide)) (da_br (de_var (pv 0)) (da_br (de_var (pv 1)) da_nilB))) (dg_name (pg_name (i := 2) sc_names_of_ones.nd rfl (by first | exact Or.inl rfl | exact Or.inr rfl))) rfl rfl rfl) (ds_one (ds_ret (de_callB (call_dSorted rfl hu) T.n_sorted (by decide +kernel) (da_br (de_comp [] rfl sc_names_of_ones.nd (di_seq (de_var (pv 0))) (blkOk_by (own := [("unit", 3)]) (N := N_names_of_ones) (sc := defScope s_names_of_ones) (by decide +kernel)) rfl (fun _ _ _ _ _ => (dg_name (pg_name (i := 3) sc_names_of_ones.nd rfl (by first | exact Or.inl rfl | exact Or.inr rfl)))) (blk_pts fun _ _ _ _ _ => (dt_cmp (op_dEq hu) (de_ix hu (de_var (pv 2)) (de_var (pv 3)) (fun _ _ => rfl)) (de_var (pv 3)) (nomark _))) (fun _ _ _ _ _ => (de_imm (de_var (pv 3))))) da_nilB)) rfl rfl rfl)))⟩
theorem ok_names_of_ones (T : Txt K mg) : Cal P w K mg base CX0 "names_of_ones" 2 2 f_names_of_ones := by
  obtain ⟨fa, fd, F, hm⟩ := T.f_names_of_ones
  exact ⟨fa, fd, ["units", "ties"], fok_names_of_ones T F, hm, F.kp, F.binds (ps := ["units", "ties"]) fun _ _ _ _ _ _ us hl => match us, hl with | [_, _], _ => rfl⟩
theorem fok_ones (T : Txt K mg) {fa : Addr} {fd : FuncData} (F : Fun K "ones" "ones" s_ones fa fd) : FnOk P w K mg base CX0 3 fa fd ["units", "ties"] (spD K mg 2 f_ones) :=
  fn_ok (kk := 2) (n := 6) (m := 2) (den := d_ones) F sc_ones (fun _ => rfl) rfl rfl fun cdv A outer s H E hr => by
    have hu := hr.units
    exact ⟨[], (ds_cons (ds_asg (ow' := [2]) (de_call (ok_joined T) (hr.mono (by decide)) (da_br (de_var (pv 0)) (da_br (de_var (pv 1)) da_nilB))) (dg_name (pg_name (i := 2) sc_ones.nd rfl (by first | exact Or.inl rfl | exact Or.inr rfl))) rfl rfl rfl) (ds_cons (ds_asg (ow' := [2, 3]) (de_lst da_nil) (dg_name (pg_name (i := 3) sc_ones.nd rfl (by first | exact Or.inl rfl | exact Or.inr rfl))) rfl rfl rfl) (ds_cons (ds_for (owl := [2, 3]) (ow' := [2, 3]) (ks := [4]) PassesOwn.never rfl (di_seq (de_call (ok_names_of_ones T) (hr.mono (by decide)) (da_br (de_var (pv 0)) (da_br (de_var (pv 1)) da_nilB)))) (dg_name (pg_name (i := 4) sc_ones.nd rfl (by first | exact Or.inl rfl | exact Or.inr rfl))) (ds_cons (by refine ds_mutO (n := 1) (ow' := [2, 3]) PySem.F.slot_list_append PySem.F.type_list_append mu_append (pv 3) ?_ rfl rfl rfl rfl; exact (by refine da_own (m1 := []) (m2 := []) ?_ ?_ (by decide); exact (de_callB (call_dSorted rfl hu) T.n_sorted (by decide +kernel) (da_br (de_comp [] rfl sc_ones.nd (di_seq (de_var (pv 0))) (blkOk_by (own := [("unit", 5)]) (N := N_ones) (sc := defScope s_ones) (by decide +kernel)) rfl (fun _ _ _ _ _ => (dg_name (pg_name (i := 5) sc_ones.nd rfl (by first | exact Or.inl rfl | exact Or.inr rfl)))) (blk_pts fun _ _ _ _ _ => (dt_cmp (op_dEq hu) (de_ix hu (de_var (pv 2)) (de_var (pv 5)) (fun _ _ => rfl)) (de_var (pv 4)) (nomark _))) (fun _ _ _ _ _ => (de_imm (de_var (pv 5))))) da_nilB)); exact da_nil)) (ds_nil (by decide))) rfl rfl rfl rfl rfl rfl) (ds_one (ds_ret (de_mov (pv 3) (by decide)) rfl rfl rfl)))))⟩
theorem ok_ones (T : Txt K mg) : Cal P w K mg base CX0 "ones" 3 2 f_ones := by
  obtain ⟨fa, fd, F, hm⟩ := T.f_ones
  exact ⟨fa, fd, ["units", "ties"], fok_ones T F, hm, F.kp, F.binds (ps := ["units", "ties"]) fun _ _ _ _ _ _ us hl => match us, hl with | [_, _], _ => rfl⟩
theorem okb__law_list_of (T : Txt K mg) : CalB P w K mg base "_law_list_of" 1 2 f__law_list_of := by
  obtain ⟨fa, fd, F, hm⟩ := T.f__law_list_of
  refine ⟨fa, fd, ["_law_groups", "_law_name"], fnB_pure (kk := 0) (n := 3) (m := 2) (den := d__law_list_of) F sc__law_list_of (fun _ => rfl) rfl rfl fun cdv A outer s H E hr => ?_, hm, F.kp, F.binds (ps := ["_law_groups", "_law_name"]) fun _ _ _ _ _ _ us hl => match us, hl with | [_, _], _ => rfl⟩
  have hu := hr.units
  exact ⟨[], (ds_cons (ds_for (owl := []) (ow' := []) (ks := [2]) PassesOwn.never rfl (di_seq (de_var (pv 0))) (dg_name (pg_name (i := 2) sc__law_list_of.nd rfl (by first | exact Or.inl rfl | exact Or.inr rfl))) (ds_cons (ds_if (ow' := []) (dt_cmp (op_dInS hu) (de_var (pv 1)) (de_var (pv 2)) rfl) (ds_one (ds_retB (de_var (pv 2)) rfl rfl rfl)) (ds_nil (by decide)) rfl) (ds_nil (by decide))) rfl rfl rfl rfl rfl rfl) (ds_one (ds_retB (de_lst da_nil) rfl rfl rfl)))⟩
theorem fok_one_of (T : Txt K mg) {fa : Addr} {fd : FuncData} (F : Fun K "one_of" "one_of" s_one_of fa fd) : FnOk P w K mg base CX0 2 fa fd ["units", "ties", "name"] (spD K mg 3 f_one_of) :=
  fn_ok (kk := 1) (n := 3) (m := 3) (den := d_one_of) F sc_one_of (fun _ => rfl) rfl rfl fun cdv A outer s H E hr => by
    have hu := hr.units
    exact ⟨[], (ds_one (ds_ret (de_imm (de_ix hu (de_call (ok_joined T) (hr.mono (by decide)) (da_br (de_var (pv 0)) (da_br (de_var (pv 1)) da_nilB))) (de_var (pv 2)) (fun _ _ => rfl))) rfl rfl rfl))⟩
theorem ok_one_of (T : Txt K mg) : Cal P w K mg base CX0 "one_of" 2 3 f_one_of := by
  obtain ⟨fa, fd, F, hm⟩ := T.f_one_of
  exact ⟨fa, fd, ["units", "ties", "name"], fok_one_of T F, hm, F.kp, F.binds (ps := ["units", "ties", "name"]) fun _ _ _ _ _ _ us hl => match us, hl with | [_, _, _], _ => rfl⟩
theorem fok_law (T : Txt K mg) {fa : Addr} {fd : FuncData} (F : Fun K "law" "law" s_law fa fd) : FnOk P w K mg base CX0 4 fa fd ["_law_script"] (spD K mg 1 f_law) :=
  fn_ok (kk := 3) (n := 18) (m := 1) (den := d_law) F sc_law (fun _ => rfl) rfl rfl fun cdv A outer s H E hr => by
    have hu := hr.units
    exact ⟨[], (ds_cons (ds_asg (ow' := [1]) (de_call (ok__law_units T) (hr.mono (by decide)) (da_br (de_var (pv 0)) da_nilB)) (dg_name (pg_name (i := 1) sc_law.nd rfl (by first | exact Or.inl rfl | exact Or.inr rfl))) rfl rfl rfl) (ds_cons (ds_asg (ow' := [1, 2]) (de_call (ok__law_ties T) (hr.mono (by decide)) (da_br (de_var (pv 1)) (da_br (de_sl (de_var (pv 0)) (do_some de_int) (do_some de_int)) da_nilB))) (dg_name (pg_name (i := 2) sc_law.nd rfl (by first | exact Or.inl rfl | exact Or.inr rfl))) rfl rfl rfl) (ds_cons (ds_asg (ow' := [1, 2, 3]) (de_call (ok__law_cell_at T) (hr.mono (by decide)) (da_br (de_var (pv 0)) (da_br de_int da_nilB))) (dg_name (pg_name (i := 3) sc_law.nd rfl (by first | exact Or.inl rfl | exact Or.inr rfl))) rfl rfl rfl) (ds_cons (ds_asg (ow' := [1, 2, 3, 4]) (de_call (ok__law_turned T) (hr.mono (by decide)) (da_br (de_var (pv 1)) (da_br (de_var (pv 3)) da_nilB))) (dg_name (pg_name (i := 4) sc_law.nd rfl (by first | exact Or.inl rfl | exact Or.inr rfl))) rfl rfl rfl) (ds_cons (ds_asg (ow' := [1, 2, 3, 4, 5]) (de_call (ok__law_other_ties T) (hr.mono (by decide)) (da_br (de_var (pv 2)) (da_br (de_var (pv 3)) da_nilB))) (dg_name (pg_name (i := 5) sc_law.nd rfl (by first | exact Or.inl rfl | exact Or.inr rfl))) rfl rfl rfl) (ds_cons (ds_asg (ow' := [1, 2, 3, 4, 5, 6]) (de_call (ok_ones T) (hr.mono (by decide)) (da_br (de_callTy call_dListOf T.n_list (by decide +kernel) (da_br (de_var (pv 1)) da_nilB)) (da_br (de_callTy call_dListOf T.n_list (by decide +kernel) (da_br (de_var (pv 2)) da_nilB)) da_nilB))) (dg_name (pg_name (i := 6) sc_law.nd rfl (by first | exact Or.inl rfl | exact Or.inr rfl))) rfl rfl rfl) (ds_cons (ds_if (ow' := [1, 2, 3, 4, 5, 6]) (dt_cmp (op_dNe hu) (de_call (ok_ones T) (hr.mono (by decide)) (da_br (de_callTy call_dListOf T.n_list (by decide +kernel) (da_br (de_var (pv 4)) da_nilB)) (da_br (de_callTy call_dListOf T.n_list (by decide +kernel) (da_br (de_var (pv 5)) da_nilB)) da_nilB))) (de_var (pv 6)) (nomark _)) (ds_one (ds_ret de_bl rfl rfl rfl)) (ds_nil (by decide)) rfl) (ds_cons (ds_lend (i := 1) (ps := [0, 1, 6, 9, 10, 11, 12, 13, 14, 15, 16, 17]) (owi := [2, 3, 4, 5]) (ow1 := [2, 3, 4, 5]) (ow' := [1, 2, 3, 4, 5]) (ds_for (owl := [2, 3, 4, 5]) (ow' := [2, 3, 4, 5]) (ks := [7, 8]) PassesOwn.never rfl (di_seq (de_var (pv 1))) (dg_name (pg_name (i := 7) sc_law.nd rfl (by first | exact Or.inl rfl | exact Or.inr rfl))) (ds_cons (ds_asgB (ow' := [2, 3, 4, 5]) (de_callB2 (okb__law_list_of T) (hr.mono (by decide)) (da_br (de_var (pv 6)) (da_br (de_var (pv 7)) da_nilB))) (dg_name (pg_name (i := 8) sc_law.nd rfl (by first | exact Or.inl rfl | exact Or.inr rfl))) rfl rfl rfl rfl rfl) (ds_cons (ds_if (ow' := [2, 3, 4, 5]) (dt_w (dw_or (dt_cmp (op_dEq hu) (de_var (pv 8)) (de_lst da_nil) (nomark _)) (dw_or1 (dt_cmp (op_dNe hu) (de_call (ok_one_of T) (hr.mono (by decide)) (da_br (de_callTy call_dListOf T.n_list (by decide +kernel) (da_br (de_var (pv 1)) da_nilB)) (da_br (de_callTy call_dListOf T.n_list (by decide +kernel) (da_br (de_var (pv 2)) da_nilB)) (da_br (de_var (pv 7)) da_nilB)))) (de_ix hu (de_var (pv 8)) de_int (fun _ _ => rfl)) (nomark _))))) (ds_one (ds_ret de_bl rfl rfl rfl)) (ds_nil (by decide)) rfl) (ds_cons (ds_if (ow' := [2, 3, 4, 5]) (dt_cmp (op_dNe hu) (de_call (ok_one_of T) (hr.mono (by decide)) (da_br (de_callTy call_dListOf T.n_list (by decide +kernel) (da_br (de_var (pv 4)) da_nilB)) (da_br (de_callTy call_dListOf T.n_list (by decide +kernel) (da_br (de_var (pv 5)) da_nilB)) (da_br (de_var (pv 7)) da_nilB)))) (de_ix hu (de_var (pv 8)) de_int (fun _ _ => rfl)) (nomark _)) (ds_one (ds_ret de_bl rfl rfl rfl)) (ds_nil (by decide)) rfl) (ds_nil (by decide))))) rfl rfl rfl rfl rfl rfl) rfl rfl rfl rfl rfl rfl) (ds_cons (ds_asg (ow' := [1, 2, 3, 4, 5, 9]) (de_imm (de_ix hu (de_var (pv 1)) (de_call (ok__law_part T) (hr.mono (by decide)) (da_br (de_var (pv 3)) (da_br de_int (da_br (de_callB call_dLen T.n_len PySem.boot_len (da_br (de_var (pv 1)) da_nilB)) da_nilB)))) (fun _ _ => rfl))) (dg_name (pg_name (i := 9) sc_law.nd rfl (by first | exact Or.inl rfl | exact Or.inr rfl))) rfl rfl rfl) (ds_cons (ds_asg (ow' := [1, 2, 3, 4, 5, 9, 10]) (de_imm (de_ix hu (de_var (pv 1)) (de_call (ok__law_part T) (hr.mono (by decide)) (da_br (de_var (pv 3)) (da_br de_int (da_br (de_callB call_dLen T.n_len PySem.boot_len (da_br (de_var (pv 1)) da_nilB)) da_nilB)))) (fun _ _ => rfl))) (dg_name (pg_name (i := 10) sc_law.nd rfl (by first | exact Or.inl rfl | exact Or.inr rfl))) rfl rfl rfl) (ds_cons (ds_asgB (ow' := [1, 2, 3, 4, 5, 10]) (de_callB2 (okb__law_list_of T) (hr.mono (by decide)) (da_br (de_var (pv 6)) (da_br (de_var (pv 9)) da_nilB))) (dg_name (pg_name (i := 11) sc_law.nd rfl (by first | exact Or.inl rfl | exact Or.inr rfl))) rfl rfl rfl rfl rfl) (ds_cons (ds_asgB (ow' := [1, 2, 3, 4, 5]) (de_callB2 (okb__law_list_of T) (hr.mono (by decide)) (da_br (de_var (pv 6)) (da_br (de_var (pv 10)) da_nilB))) (dg_name (pg_name (i := 12) sc_law.nd rfl (by first | exact Or.inl rfl | exact Or.inr rfl))) rfl rfl rfl rfl rfl) (ds_cons (ds_setLcX (ow' := []) (i := 13) [] rfl sc_law.nd rfl rfl (sw_true rfl rfl rfl (by decide +kernel)) (di_seq (de_var (pv 6))) (blkOk_by (own := [("_law_group", 14)]) (N := N_law) (sc := defScope s_law) (by decide +kernel)) rfl (fun _ _ _ _ _ => (dg_name (pg_name (i := 14) sc_law.nd rfl (by first | exact Or.inl rfl | exact Or.inr rfl)))) (blk_pts fun _ _ _ _ _ => (dt_w (dw_and (c := .Name "a" ⟨0, 0, 0, 0⟩) (pos2 := ⟨0, 0, 0, 0⟩) (dt_cmp (op_dNe hu) (de_var (pv 14)) (de_var (pv 11)) (nomark _)) (dw_and1 (dt_cmp (op_dNe hu) (de_var (pv 14)) (de_var (pv 12)) (nomark _)))))) (fun _ _ _ _ _ => (dex_var (pv 14))) rfl rfl rfl rfl rfl) (ds_cons (ds_asg (ow' := [15]) (de_sortSet rfl hu T.n_sorted T.n_set (da_br (de_op op_dAdd (de_var (pv 11)) (de_var (pv 12))) da_nilB)) (dg_name (pg_name (i := 15) sc_law.nd rfl (by first | exact Or.inl rfl | exact Or.inr rfl))) rfl rfl rfl) (ds_cons (ds_setLc (ow' := [15, 16]) (i := 16) [] rfl sc_law.nd rfl rfl (sw_true rfl rfl rfl (by decide +kernel)) (di_seq (de_lst (da_own (de_tup (da_own de_str (da_own (de_imm (de_var (pv 9))) (da_own (de_imm (de_var (pv 10))) da_nil (by decide)) (by decide)) (by decide))) da_nil (by decide)))) (blkOk_by (own := [("_law_tie", 17)]) (N := N_law) (sc := defScope s_law) (by decide +kernel)) rfl (fun _ _ _ _ _ => (dg_name (pg_name (i := 17) sc_law.nd rfl (by first | exact Or.inl rfl | exact Or.inr rfl)))) (blk_pts fun _ _ _ _ _ => (dt_cmp (op_dNotIn hu) (de_var (pv 17)) (de_var (pv 2)) rfl)) (fun _ _ _ _ _ => (de_imm (de_var (pv 17)))) rfl rfl rfl) (ds_one (ds_ret (de_cmp (op_dEq hu) (de_call (ok_ones T) (hr.mono (by decide)) (da_br (de_callTy call_dListOf T.n_list (by decide +kernel) (da_br (de_var (pv 4)) da_nilB)) (da_br (de_op op_dAdd (de_callTy call_dListOf T.n_list (by decide +kernel) (da_br (de_var (pv 2)) da_nilB)) (de_var (pv 16))) da_nilB))) (de_sortB (de_addB (de_var (pv 13)) (de_lst (da_own (de_mov (pv 15) (by decide)) da_nil (by decide)))) hu T.n_sorted) (nomark _)) rfl rfl rfl)))))))))))))))))⟩
theorem ok_law (T : Txt K mg) : Cal P w K mg base CX0 "law" 4 1 f_law := by
  obtain ⟨fa, fd, F, hm⟩ := T.f_law
  exact ⟨fa, fd, ["_law_script"], fok_law T F, hm, F.kp, F.binds (ps := ["_law_script"]) fun _ _ _ _ _ _ us hl => match us, hl with | [_], _ => rfl⟩
end
theorem txt_mk {K : PySem.W.Frag} {h : Heap} {mg : Str → Option Value} (X : K.In h) (G : h.Ns mainGlobals mg) {f0 f1 f2 f3 f4 f5 f6 f7 f8 f9 f10 f11 f12 : Addr}
    {od0 an0 od1 an1 od2 an2 od3 an3 od4 an4 od5 an5 od6 an6 od7 an7 od8 an8 od9 an9 od10 an10 od11 an11 od12 an12 : Option Addr} {sl0 sl1 sl2 sl3 sl4 sl5 sl6 sl7 sl8 sl9 sl10 sl11 sl12 : Array (Option Value)} {oc0 kV0 dc0 pm0 cd0 ct0 oc1 kV1 dc1 pm1 cd1 ct1 oc2 kV2 dc2 pm2 cd2 ct2 oc3 kV3 dc3 pm3 cd3 ct3 oc4 kV4 dc4 pm4 cd4 ct4 oc5 kV5 dc5 pm5 cd5 ct5 oc6 kV6 dc6 pm6 cd6 ct6 oc7 kV7 dc7 pm7 cd7 ct7 oc8 kV8 dc8 pm8 cd8 ct8 oc9 kV9 dc9 pm9 cd9 ct9 oc10 kV10 dc10 pm10 cd10 ct10 oc11 kV11 dc11 pm11 cd11 ct11 oc12 kV12 dc12 pm12 cd12 ct12 : Value}
    (a0 : PySem.W.nsIn K mainGlobals "_law_part" = some (some (.ref f0))) (l0 : K.lookup f0 = some ⟨oc0, od0, .func (PySem.W.fnOf "_law_part" "_law_part" (defArgs s__law_part) (defBody s__law_part) (defScope s__law_part) .none kV0 dc0 pm0 an0 cd0 ct0), sl0⟩) (c0 : PySem.W.codeIn K cd0 "_law_part" = true) (k0 : PySem.W.keepIn K (.ref f0) = true)
    (a1 : PySem.W.nsIn K mainGlobals "_law_names" = some (some (.ref f1))) (l1 : K.lookup f1 = some ⟨oc1, od1, .func (PySem.W.fnOf "_law_names" "_law_names" (defArgs s__law_names) (defBody s__law_names) (defScope s__law_names) .none kV1 dc1 pm1 an1 cd1 ct1), sl1⟩) (c1 : PySem.W.codeIn K cd1 "_law_names" = true) (k1 : PySem.W.keepIn K (.ref f1) = true)
    (a2 : PySem.W.nsIn K mainGlobals "_law_cell_at" = some (some (.ref f2))) (l2 : K.lookup f2 = some ⟨oc2, od2, .func (PySem.W.fnOf "_law_cell_at" "_law_cell_at" (defArgs s__law_cell_at) (defBody s__law_cell_at) (defScope s__law_cell_at) .none kV2 dc2 pm2 an2 cd2 ct2), sl2⟩) (c2 : PySem.W.codeIn K cd2 "_law_cell_at" = true) (k2 : PySem.W.keepIn K (.ref f2) = true)
    (a3 : PySem.W.nsIn K mainGlobals "_law_units" = some (some (.ref f3))) (l3 : K.lookup f3 = some ⟨oc3, od3, .func (PySem.W.fnOf "_law_units" "_law_units" (defArgs s__law_units) (defBody s__law_units) (defScope s__law_units) .none kV3 dc3 pm3 an3 cd3 ct3), sl3⟩) (c3 : PySem.W.codeIn K cd3 "_law_units" = true) (k3 : PySem.W.keepIn K (.ref f3) = true)
    (a4 : PySem.W.nsIn K mainGlobals "_law_ties" = some (some (.ref f4))) (l4 : K.lookup f4 = some ⟨oc4, od4, .func (PySem.W.fnOf "_law_ties" "_law_ties" (defArgs s__law_ties) (defBody s__law_ties) (defScope s__law_ties) .none kV4 dc4 pm4 an4 cd4 ct4), sl4⟩) (c4 : PySem.W.codeIn K cd4 "_law_ties" = true) (k4 : PySem.W.keepIn K (.ref f4) = true)
    (a5 : PySem.W.nsIn K mainGlobals "_law_turned" = some (some (.ref f5))) (l5 : K.lookup f5 = some ⟨oc5, od5, .func (PySem.W.fnOf "_law_turned" "_law_turned" (defArgs s__law_turned) (defBody s__law_turned) (defScope s__law_turned) .none kV5 dc5 pm5 an5 cd5 ct5), sl5⟩) (c5 : PySem.W.codeIn K cd5 "_law_turned" = true) (k5 : PySem.W.keepIn K (.ref f5) = true)
    (a6 : PySem.W.nsIn K mainGlobals "_law_other_ties" = some (some (.ref f6))) (l6 : K.lookup f6 = some ⟨oc6, od6, .func (PySem.W.fnOf "_law_other_ties" "_law_other_ties" (defArgs s__law_other_ties) (defBody s__law_other_ties) (defScope s__law_other_ties) .none kV6 dc6 pm6 an6 cd6 ct6), sl6⟩) (c6 : PySem.W.codeIn K cd6 "_law_other_ties" = true) (k6 : PySem.W.keepIn K (.ref f6) = true)
    (a7 : PySem.W.nsIn K mainGlobals "joined" = some (some (.ref f7))) (l7 : K.lookup f7 = some ⟨oc7, od7, .func (PySem.W.fnOf "joined" "joined" (defArgs s_joined) (defBody s_joined) (defScope s_joined) .none kV7 dc7 pm7 an7 cd7 ct7), sl7⟩) (c7 : PySem.W.codeIn K cd7 "joined" = true) (k7 : PySem.W.keepIn K (.ref f7) = true)
    (a8 : PySem.W.nsIn K mainGlobals "names_of_ones" = some (some (.ref f8))) (l8 : K.lookup f8 = some ⟨oc8, od8, .func (PySem.W.fnOf "names_of_ones" "names_of_ones" (defArgs s_names_of_ones) (defBody s_names_of_ones) (defScope s_names_of_ones) .none kV8 dc8 pm8 an8 cd8 ct8), sl8⟩) (c8 : PySem.W.codeIn K cd8 "names_of_ones" = true) (k8 : PySem.W.keepIn K (.ref f8) = true)
    (a9 : PySem.W.nsIn K mainGlobals "ones" = some (some (.ref f9))) (l9 : K.lookup f9 = some ⟨oc9, od9, .func (PySem.W.fnOf "ones" "ones" (defArgs s_ones) (defBody s_ones) (defScope s_ones) .none kV9 dc9 pm9 an9 cd9 ct9), sl9⟩) (c9 : PySem.W.codeIn K cd9 "ones" = true) (k9 : PySem.W.keepIn K (.ref f9) = true)
    (a10 : PySem.W.nsIn K mainGlobals "_law_list_of" = some (some (.ref f10))) (l10 : K.lookup f10 = some ⟨oc10, od10, .func (PySem.W.fnOf "_law_list_of" "_law_list_of" (defArgs s__law_list_of) (defBody s__law_list_of) (defScope s__law_list_of) .none kV10 dc10 pm10 an10 cd10 ct10), sl10⟩) (c10 : PySem.W.codeIn K cd10 "_law_list_of" = true) (k10 : PySem.W.keepIn K (.ref f10) = true)
    (a11 : PySem.W.nsIn K mainGlobals "one_of" = some (some (.ref f11))) (l11 : K.lookup f11 = some ⟨oc11, od11, .func (PySem.W.fnOf "one_of" "one_of" (defArgs s_one_of) (defBody s_one_of) (defScope s_one_of) .none kV11 dc11 pm11 an11 cd11 ct11), sl11⟩) (c11 : PySem.W.codeIn K cd11 "one_of" = true) (k11 : PySem.W.keepIn K (.ref f11) = true)
    (a12 : PySem.W.nsIn K mainGlobals "law" = some (some (.ref f12))) (l12 : K.lookup f12 = some ⟨oc12, od12, .func (PySem.W.fnOf "law" "law" (defArgs s_law) (defBody s_law) (defScope s_law) .none kV12 dc12 pm12 an12 cd12 ct12), sl12⟩) (c12 : PySem.W.codeIn K cd12 "law" = true) (k12 : PySem.W.keepIn K (.ref f12) = true)
    (zn_len : PySem.W.nsIn K mainGlobals "len" = some none)
    (zn_list : PySem.W.nsIn K mainGlobals "list" = some none)
    (zn_min : PySem.W.nsIn K mainGlobals "min" = some none)
    (zn_range : PySem.W.nsIn K mainGlobals "range" = some none)
    (zn_set : PySem.W.nsIn K mainGlobals "set" = some none)
    (zn_sorted : PySem.W.nsIn K mainGlobals "sorted" = some none) : Txt K mg :=
  ⟨⟨_, _, fun_mk (st := s__law_part) l0 c0 k0, PySem.W.mg_of X G a0⟩, ⟨_, _, fun_mk (st := s__law_names) l1 c1 k1, PySem.W.mg_of X G a1⟩, ⟨_, _, fun_mk (st := s__law_cell_at) l2 c2 k2, PySem.W.mg_of X G a2⟩, ⟨_, _, fun_mk (st := s__law_units) l3 c3 k3, PySem.W.mg_of X G a3⟩, ⟨_, _, fun_mk (st := s__law_ties) l4 c4 k4, PySem.W.mg_of X G a4⟩, ⟨_, _, fun_mk (st := s__law_turned) l5 c5 k5, PySem.W.mg_of X G a5⟩, ⟨_, _, fun_mk (st := s__law_other_ties) l6 c6 k6, PySem.W.mg_of X G a6⟩, ⟨_, _, fun_mk (st := s_joined) l7 c7 k7, PySem.W.mg_of X G a7⟩, ⟨_, _, fun_mk (st := s_names_of_ones) l8 c8 k8, PySem.W.mg_of X G a8⟩, ⟨_, _, fun_mk (st := s_ones) l9 c9 k9, PySem.W.mg_of X G a9⟩, ⟨_, _, fun_mk (st := s__law_list_of) l10 c10 k10, PySem.W.mg_of X G a10⟩, ⟨_, _, fun_mk (st := s_one_of) l11 c11 k11, PySem.W.mg_of X G a11⟩, ⟨_, _, fun_mk (st := s_law) l12 c12 k12, PySem.W.mg_of X G a12⟩, PySem.W.mg_none_of X G zn_len, PySem.W.mg_none_of X G zn_list, PySem.W.mg_none_of X G zn_min, PySem.W.mg_none_of X G zn_range, PySem.W.mg_none_of X G zn_set, PySem.W.mg_none_of X G zn_sorted⟩
def spLaw (K : PySem.W.Frag) : Sp := fun vs H Q _ => ∃ (a : Addr) (ns : List Int), vs = [.ref a] ∧ Lf K H a (ns.map V.int) ∧ ns.length ≤ 63 ∧ ∀ H', Q (.bl true) H'
theorem law_all {P : Program} {w : World} {K : PySem.W.Frag} {h : Heap} {mg : Str → Option Value} {fa : Addr} (T : Txt K mg) (hfa : mg "law" = some (.ref fa)) (ht : ∀ ns : List Int, ns.length ≤ 63 → f_law [.dict [(.none, .list (ns.map .int))]] = .ok (.bool true)) :
    ∃ fd : FuncData, (∀ (s : Shared) (v : Value), BindsTo s fd ⟨[v], []⟩ [("_law_script", v)]) ∧ ∀ base : Heap, K.In base → base.Ns mainGlobals mg → FnOk P w K mg base CX0 4 fa fd ["_law_script"] (spLaw K) := by
  obtain ⟨fa2, fd, F, hm⟩ := T.f_law
  cases hfa.symm.trans hm
  refine ⟨fd, fun s v => ?_, fun base _ _ => (fok_law T F).imp fun vs H Q E h => ?_⟩
  · obtain ⟨oc, od, kV, doc, pm, an, cdv, ct, osl, rfl, lk, hcd⟩ := F.ex
    exact .of_eq rfl
  · obtain ⟨a, ns, rfl, hs, hl, q⟩ := h
    obtain ⟨ds, A, r, e, z⟩ := law_sp (mg := mg) hs (ht ns hl)
    refine ⟨ds, A, r, e, ?_⟩
    cases hf : f_law ds with
    | ok d =>
      rw [hf] at z
      intro v H2 B s2 r2 n2 f2
      have z := z v H2 B s2 r2 n2 f2
      subst z
      exact q H2
    | exc x =>
      rw [hf] at z
      exact fun c dd H2 B s2 r2 fx => (z c dd H2 B s2 r2 fx).elim
    | stk =>
      rw [hf] at z
      exact z
end Dg

set_option synthInstance.maxSize 2000
set_option synthInstance.maxHeartbeats 2000000
namespace Dg
open PySem PySem.Spec PyProof.Rows L2
local macro_rules
  | `(tactic| simp_arith [$ls,*]) => `(tactic| try simp only [cs_seqS, cs_nxS, cs_stkS, cs_ifS, cs_retS, cs_retN, cs_asg1, cs_asgN, cs_expS, cs_forS, cs_parS, cs_mutS, cs_dputS, cs_lendS, cs_onlyS, cs_pathS, cs_mutP, cs_forAppS, isS_some, maxdf_E, e_vrP, e_ixP, slP_some, asL_list, stp_L, put_LL, lookR_P, setD_P, all_P, any_P, cs_noX, isDct_at, isDO_P, e_valsE, e_keysE, vals_P, keys_P, listvals_P, e_onlyE, lenD_P, sorted_P, sorted_PP, setsort_S, mixE_cons, mixE_nil, List.headD_cons, List.tail_cons, List.contains_cons, List.contains_nil, Nat.reduceBEq, Bool.or_false, Bool.or_true, Bool.true_or, Bool.false_or, ↓reduceIte, Bool.false_eq_true, kS_ap, kK_ap, kM_ap,
      rc_ok, rc_exc, rc_stk, rc_bind, rc_map, rc_ite, rc_toR, cc_nx, cc_ret, cc_stk, cc_toC, cc_ite, cc_seq, map_ok, map_stk, bind_map, map_nox, map_map, bind_assoc, map_bind, map_ite, nox_ok, nox_stk, nox_partR, ite_bind, ite_nox, R.bind_ok, R.bind_exc, R.bind_stk,
      e_b2, e_b1, e_cst, e_vr, e_chkE, e_tb, e_andB, e_orB, e_notB, e_andE, e_orE, e_notE, e_bolE, e_ifE, e_call, e_callP, e_nilL, e_conL, e_tupE, e_lstE, e_newD, e_slE, e_noO, e_toO, e_itE, e_rgE, e_mth, e_yesT, e_getE,
      List.getElem?_cons_zero, List.getElem?_cons_succ, List.set_cons_zero, List.set_cons_succ, setsD_cons, setsD_nil, kill_cons, kill_nil, List.length_map, List.map_cons, List.map_nil, List.map_append, List.map_reverse, List.length_cons, List.length_nil, List.cons_append, List.nil_append, List.replicate, List.append_nil, Nat.zero_add, Nat.reduceAdd, Nat.reduceSub, Nat.sub_self,
      slL_some, slD_some, rev_L, it_L, it_T, it_S, tup2, tup_T2, tup_T3, tup_T4, asI_int, tst_bool, chk_int, chk_str, chk_bool, chk_none, outlen2, if_tt,
      dEq_int, dEq_str, dEq_bool, dEq_none_none, dEq_none_int, dEq_int_none, dNe_int, dNe_str, dNe_bool, dNe_none_none, dNe_none_int, dNe_int_none, dLt_int, dGt_int, dLe_int, dGe_int, dLt_str, dGe_str, dAdd_int, dSub_int, dNeg_int, dIsN_none, dIsN_int, dIsN_str, dIsN_list, dIsN_tup,
      ix_L, ix_T2_0, ix_T2_1, ix_T3_0, ix_T3_1, ix_T3_2, ix_T4_0, ix_T4_1, ix_T4_2, ix_T4_3, ix_tie0, ix_tie1, ix_tie2, ix_tie3, sl_tie, ix_D, in_D, in_2, len_L, dLen_scr, lof_L, add_S, mod_I, div_I, mul_I, pow_I, sl_E, sl_S, dSl_scr, min_S, min_I, max_I, min_L, sorted_S, range_1, range_2, join_S,
      isi_str, isi_int, isi_boolint, isi_bool, isi_list, isi_T2, isi_T3, isi_T4, isi_tie, ix_scr, eL_ap, eD_ap, eO_none, eO_some, $ls,*])
local macro_rules
  | `(tactic| decreasing_trivial) => `(tactic| (first | rfl | (repeat' (first | rfl | refine cons_cg ?_ ?_ | (simp only [List.map_cons, List.map_nil, List.map_append, List.map_reverse, kill_cons, kill_nil, List.set_cons_zero, List.set_cons_succ]; done)))))

theorem tr__law_part (c k m : Int) : f__law_part [.int c, .int k, .int m] = (partR c k m).map .int := part_tr c k m
/-! ### _law_names -/
noncomputable def ts__law_names_1 (one : Int) (signs_ : Str) (at_ : Int) (k : Int) (j : Int) (s_ : Str) : (R Str) := let name := s_; (partR one (j + (2 : Int)) (37 : Int)).bind fun y5 => let number : Int := y5; ((if (decide (j = at_)) = true then let number : Int := (number + k); .ok (number) else .ok (number) : R Int)).bind fun p6 => let number := p6; (modR number (37 : Int)).bind fun y7 => (ixSR signs_ y7).bind fun y8 => (addS name y8).bind fun y9 => let name : Str := y9; .ok (name)
def st__law_names_1 (one : Int) (signs_ : Str) (at_ : Int) (k : Int) (j1 : Option D) (j2 : Option D) (j4 : Option D) (j6 : Option D) (s_ : Str) : Env := [some (PyData.int one), j1, j2, some (PyData.str signs_), j4, some (PyData.int at_), j6, some (PyData.int k), some (PyData.str s_), none, none]
theorem tb__law_names_1 (one : Int) (signs_ : Str) (at_ : Int) (k : Int) (j1 : Option D) (j2 : Option D) (j4 : Option D) (j6 : Option D) (x : Int) (s : Str) : ∃ ds, t1 (PyData.int x) = some ds ∧ ∀ (β : Type) (m : Env → β) (r : D → β) (b : Env → β) (e : Exn → β) (z : β), (lb__law_names_1 (setsD [9] ds ((st__law_names_1 one signs_ at_ k j1 j2 j4 j6) s))).cs (kK m [9, 10]) r b (kK m [9, 10]) e z = ((ts__law_names_1 one signs_ at_ k) x s).rc (fun s' => m ((st__law_names_1 one signs_ at_ k j1 j2 j4 j6) s')) e z := by
  refine ⟨_, rfl, fun β m r b e z => ?_⟩
  simp_arith [lb__law_names_1, ts__law_names_1, st__law_names_1, tr__law_part, ix_S, st__law_names_1, app_E PyData.str]
  all_goals (repeat' first | with_reducible rfl | with_reducible refine ite_cg (fun _ => ?_) (fun _ => ?_) | with_reducible refine rc_cg (fun _ => ?_) | with_reducible refine cc_cg (fun _ => ?_) (fun _ => ?_))
theorem tl__law_names_1 {β : Type} {n : Env → β} {r : D → β} {b c : Env → β} {e : Exn → β} {z : β} {one : Int} {signs_ : Str} {at_ : Int} {k : Int} {j1 : Option D} {j2 : Option D} {j4 : Option D} {j6 : Option D} {xs : (List Int)} {s : Str} {F : Str → β} {ds : List D} {ρ : Env} (hd : xs.map PyData.int = ds) (hρ : (st__law_names_1 one signs_ at_ k j1 j2 j4 j6) s = ρ) (hn : ∀ s', n ((st__law_names_1 one signs_ at_ k j1 j2 j4 j6) s') = F s') : (forR xs s (ts__law_names_1 one signs_ at_ k)).rc F e z = (turns [9] t1 [9, 10] lb__law_names_1 ds ρ).cs n r b c e z := by
  subst hd hρ
  rw [turns_forR PyData.int (st__law_names_1 one signs_ at_ k j1 j2 j4 j6) (ts__law_names_1 one signs_ at_ k) (tb__law_names_1 one signs_ at_ k j1 j2 j4 j6)]
  exact rc_cg fun s => (hn s).symm
noncomputable def ts__law_names_2 (one : Int) (signs_ : Str) (size : Int) (at_ : Int) (k : Int) (s_ : (List Str)) : (R (List Str)) := let names_here := s_; let name : Str := ("" : Str); (rangeR size).bind fun y4 => (forR y4 (name : Str) (ts__law_names_1 one signs_ at_ k)).bind fun p10 => let name := p10; (appR names_here name).bind fun names_here => .ok (names_here)
def st__law_names_2 (one : Int) (signs_ : Str) (size : Int) (at_ : Int) (j1 : Option D) (j2 : Option D) (s_ : (List Str)) : Env := [some (PyData.int one), j1, j2, some (PyData.str signs_), some (PyData.int size), some (PyData.int at_), some (PyData.list (List.map PyData.str s_)), none, none, none, none]
theorem tb__law_names_2 (one : Int) (signs_ : Str) (size : Int) (at_ : Int) (j1 : Option D) (j2 : Option D) (x : Int) (s : (List Str)) : ∃ ds, t1 (PyData.int x) = some ds ∧ ∀ (β : Type) (m : Env → β) (r : D → β) (b : Env → β) (e : Exn → β) (z : β), (lb__law_names_2 (setsD [7] ds ((st__law_names_2 one signs_ size at_ j1 j2) s))).cs (kK m [7, 8, 9, 10]) r b (kK m [7, 8, 9, 10]) e z = ((ts__law_names_2 one signs_ size at_) x s).rc (fun s' => m ((st__law_names_2 one signs_ size at_ j1 j2) s')) e z := by
  refine ⟨_, rfl, fun β m r b e z => ?_⟩
  simp_arith [lb__law_names_2, ts__law_names_2, st__law_names_2, tr__law_part, ix_S, st__law_names_1, app_E PyData.str, st__law_names_2]
  all_goals (repeat' first | with_reducible rfl | with_reducible refine ite_cg (fun _ => ?_) (fun _ => ?_) | with_reducible refine rc_cg (fun _ => ?_) | (symm; (with_reducible apply tl__law_names_1); (focus decreasing_trivial); (focus decreasing_trivial); intro _; simp_arith [tr__law_part, ix_S, st__law_names_1, app_E PyData.str, st__law_names_2]) | with_reducible refine cc_cg (fun _ => ?_) (fun _ => ?_))
theorem tl__law_names_2 {β : Type} {n : Env → β} {r : D → β} {b c : Env → β} {e : Exn → β} {z : β} {one : Int} {signs_ : Str} {size : Int} {at_ : Int} {j1 : Option D} {j2 : Option D} {xs : (List Int)} {s : (List Str)} {F : (List Str) → β} {ds : List D} {ρ : Env} (hd : xs.map PyData.int = ds) (hρ : (st__law_names_2 one signs_ size at_ j1 j2) s = ρ) (hn : ∀ s', n ((st__law_names_2 one signs_ size at_ j1 j2) s') = F s') : (forR xs s (ts__law_names_2 one signs_ size at_)).rc F e z = (turns [7] t1 [7, 8, 9, 10] lb__law_names_2 ds ρ).cs n r b c e z := by
  subst hd hρ
  rw [turns_forR PyData.int (st__law_names_2 one signs_ size at_ j1 j2) (ts__law_names_2 one signs_ size at_) (tb__law_names_2 one signs_ size at_ j1 j2)]
  exact rc_cg fun s => (hn s).symm
theorem tc__law_names_1 (many : Int) (size : Int) (names_here : (List Str)) (j0 : Option D) (j1 : Option D) (j3 : Option D) (j5 : Option D) (j7 : Option D) (j8 : Option D) (j9 : Option D) (j10 : Option D) : cp__law_names_1 [j0, j1, some (PyData.int many), j3, some (PyData.int size), j5, some (PyData.list (List.map PyData.str names_here)), j7, j8, j9, j10] = R.bind ((rangeR many).bind fun y18 => .ok y18) fun xs => (compR xs (fun x19 => (.ok true)) (fun x19 => (ixR names_here (0 : Int)).bind fun y20 => (cutR y20 none (some (size - x19))).bind fun y21 => .ok (y21))).map fun ys => PyData.list (ys.map PyData.str) := by
  unfold cp__law_names_1
  refine (compE_R PyData.int PyData.str (fun x19 => (.ok true)) (fun x19 => (ixR names_here (0 : Int)).bind fun y20 => (cutR y20 none (some (size - x19))).bind fun y21 => .ok (y21)) ((rangeR many).bind fun y18 => .ok y18) ?_ (fun x => ⟨_, rfl, ?_, ?_⟩)).trans rfl
  · simp_arith [map_b, nox_bind, tr__law_part, ix_S, st__law_names_1, app_E PyData.str, st__law_names_2]
  · simp_arith [map_b, nox_bind, tr__law_part, ix_S, st__law_names_1, app_E PyData.str, st__law_names_2]
  · simp_arith [map_b, nox_bind, tr__law_part, ix_S, st__law_names_1, app_E PyData.str, st__law_names_2]
noncomputable def t__law_names (one : Int) (other : Int) (many : Int) : R (List Str) := R.nox (let signs_ : Str := ("abcdefghijklmnopqrstuvwxyz0123456789-" : Str); (partR one (0 : Int) (12 : Int)).bind fun y1 => let size : Int := ((1 : Int) + y1); (partR other (1 : Int) size).bind fun y2 => let at_ : Int := y2; let names_here : (List Str) := []; (rangeR many).bind fun y3 => (forR y3 (names_here : (List Str)) (ts__law_names_2 one signs_ size at_)).bind fun p11 => let names_here := p11; ((andB (.ok (decide (many ≤ size))) ((modR other (2 : Int)).bind fun y12 => .ok ((decide (y12 = (1 : Int))))))).bind fun q13 => (if q13 = true then (rangeR many).bind fun y14 => (compR y14 (fun x15 => (.ok true)) (fun x15 => (ixR names_here (0 : Int)).bind fun y16 => (cutR y16 none (some (size - x15))).bind fun y17 => .ok (y17))).bind fun y22 => .ok (y22) else .ok (names_here)))
theorem nx__law_names (one : Int) (other : Int) (many : Int) : (t__law_names one other many).nox = t__law_names one other many := nox_nox
theorem tr__law_names (one : Int) (other : Int) (many : Int) : f__law_names [(PyData.int one), (PyData.int other), (PyData.int many)] = (t__law_names one other many).map (eL PyData.str) := by
  unfold f__law_names
  rw [f_cs]
  unfold t__law_names
  rw [map_nox_rc]
  simp_arith [d__law_names, startD, tr__law_part, ix_S, st__law_names_1, app_E PyData.str, st__law_names_2, tc__law_names_1]
  all_goals (repeat' first | with_reducible rfl | with_reducible refine ite_cg (fun _ => ?_) (fun _ => ?_) | with_reducible refine rc_cg (fun _ => ?_) | (symm; (with_reducible apply tl__law_names_1); (focus decreasing_trivial); (focus decreasing_trivial); intro _; simp_arith [tr__law_part, ix_S, st__law_names_1, app_E PyData.str, st__law_names_2, tc__law_names_1]) | (symm; (with_reducible apply tl__law_names_2); (focus decreasing_trivial); (focus decreasing_trivial); intro _; simp_arith [tr__law_part, ix_S, st__law_names_1, app_E PyData.str, st__law_names_2, tc__law_names_1]) | with_reducible refine cc_cg (fun _ => ?_) (fun _ => ?_))
/-! ### _law_cell_at -/
noncomputable def t__law_cell_at (script : List Int) (k : Int) : R Int := R.nox ((if decide (k < (script.length : Int)) = true then (ixR script k).bind fun y1 => .ok (y1) else .ok ((0 : Int))))
theorem nx__law_cell_at (script : List Int) (k : Int) : (t__law_cell_at script k).nox = t__law_cell_at script k := nox_nox
theorem tr__law_cell_at (script : List Int) (k : Int) : f__law_cell_at [(scrD script), (PyData.int k)] = (t__law_cell_at script k).map PyData.int := by
  unfold f__law_cell_at
  rw [f_cs]
  unfold t__law_cell_at
  rw [map_nox_rc]
  simp_arith [d__law_cell_at, startD, rc_ok]
  all_goals (repeat' first | with_reducible rfl | with_reducible refine ite_cg (fun _ => ?_) (fun _ => ?_) | with_reducible refine rc_cg (fun _ => ?_) | with_reducible refine cc_cg (fun _ => ?_) (fun _ => ?_))
/-! ### _law_units -/
noncomputable def t__law_units (script : List Int) : R (List Str) := R.nox ((t__law_cell_at script (0 : Int)).bind fun y1 => (t__law_cell_at script (1 : Int)).bind fun y2 => (t__law_names y1 y2 (9 : Int)).bind fun y3 => (t__law_cell_at script (2 : Int)).bind fun y4 => (modR y4 (9 : Int)).bind fun y5 => .ok ((cutA y3 none (some ((1 : Int) + y5)))))
theorem nx__law_units (script : List Int) : (t__law_units script).nox = t__law_units script := nox_nox
theorem tr__law_units (script : List Int) : f__law_units [(scrD script)] = (t__law_units script).map (eL PyData.str) := by
  unfold f__law_units
  rw [f_cs]
  unfold t__law_units
  rw [map_nox_rc]
  simp_arith [d__law_units, startD, tr__law_cell_at, nx__law_cell_at, tr__law_names, nx__law_names]
  all_goals (repeat' first | with_reducible rfl | with_reducible refine ite_cg (fun _ => ?_) (fun _ => ?_) | with_reducible refine rc_cg (fun _ => ?_) | with_reducible refine cc_cg (fun _ => ?_) (fun _ => ?_))
/-! ### _law_ties -/
theorem sx_0 : ∀ (x0 x1 x2 x3 x4 x5 : Str) (i : Int), dIx (.list [(PyData.str x0), (PyData.str x1), (PyData.str x2), (PyData.str x3), (PyData.str x4), (PyData.str x5)]) (.int i) = (ixR [x0, x1, x2, x3, x4, x5] i).map PyData.str := fun x0 x1 x2 x3 x4 x5 i => ix_lit PyData.str [x0, x1, x2, x3, x4, x5] i
noncomputable def ts__law_ties_1 (units_here : (List Str)) (cell : Int) (s_ : (List Tie)) : (R (List Tie)) := let ties_here := s_; (partR cell (2 : Int) (units_here.length : Int)).bind fun y1 => (ixR units_here y1).bind fun y2 => let one : Str := y2; (partR cell (3 : Int) (units_here.length : Int)).bind fun y3 => (ixR units_here y3).bind fun y4 => let other : Str := y4; (partR cell (4 : Int) (6 : Int)).bind fun y5 => (ixR [("over" : Str), ("cuts" : Str), ("fills" : Str), ("after" : Str), ("same" : Str), ("same" : Str)] y5).bind fun y6 => let kind : Str := y6; let tie : Tie := (⟨kind, one, other, none⟩ : Tie); ((if (decide (kind = ("after" : Str))) = true then (mulR cell (48271 : Int)).bind fun y7 => (powR (10 : Int) (60 : Int)).bind fun y8 => (modR y7 y8).bind fun y9 => let tie : Tie := (⟨kind, one, other, some y9⟩ : Tie); .ok (tie) else .ok (tie) : R Tie)).bind fun p10 => let tie := p10; (if (true != decide (tie ∈ ties_here)) = true then (appR ties_here tie).bind fun ties_here => .ok (ties_here) else .ok (ties_here))
def st__law_ties_1 (units_here : (List Str)) (j1 : Option D) (s_ : (List Tie)) : Env := [some (PyData.list (List.map PyData.str units_here)), j1, some (PyData.list (List.map eTie s_)), none, none, none, none, none]
theorem tb__law_ties_1 (units_here : (List Str)) (j1 : Option D) (x : Int) (s : (List Tie)) : ∃ ds, t1 (PyData.int x) = some ds ∧ ∀ (β : Type) (m : Env → β) (r : D → β) (b : Env → β) (e : Exn → β) (z : β), (lb__law_ties_1 (setsD [3] ds ((st__law_ties_1 units_here j1) s))).cs (kK m [3, 4, 5, 6, 7]) r b (kK m [3, 4, 5, 6, 7]) e z = ((ts__law_ties_1 units_here) x s).rc (fun s' => m ((st__law_ties_1 units_here j1) s')) e z := by
  refine ⟨_, rfl, fun β m r b e z => ?_⟩
  simp_arith [lb__law_ties_1, ts__law_ties_1, st__law_ties_1, tr__law_part, sx_0, fold_tie3, fold_tie4, in_E2 eTie, in_l2, app_E eTie, st__law_ties_1, chk_E eTie]
  all_goals (repeat' first | with_reducible rfl | with_reducible refine ite_cg (fun _ => ?_) (fun _ => ?_) | with_reducible refine rc_cg (fun _ => ?_) | with_reducible refine cc_cg (fun _ => ?_) (fun _ => ?_))
theorem tl__law_ties_1 {β : Type} {n : Env → β} {r : D → β} {b c : Env → β} {e : Exn → β} {z : β} {units_here : (List Str)} {j1 : Option D} {xs : (List Int)} {s : (List Tie)} {F : (List Tie) → β} {ds : List D} {ρ : Env} (hd : xs.map PyData.int = ds) (hρ : (st__law_ties_1 units_here j1) s = ρ) (hn : ∀ s', n ((st__law_ties_1 units_here j1) s') = F s') : (forR xs s (ts__law_ties_1 units_here)).rc F e z = (turns [3] t1 [3, 4, 5, 6, 7] lb__law_ties_1 ds ρ).cs n r b c e z := by
  subst hd hρ
  rw [turns_forR PyData.int (st__law_ties_1 units_here j1) (ts__law_ties_1 units_here) (tb__law_ties_1 units_here j1)]
  exact rc_cg fun s => (hn s).symm
noncomputable def t__law_ties (units_here : (List Str)) (cells : (List Int)) : R (List Tie) := R.nox (let ties_here : (List Tie) := []; (forR cells (ties_here : (List Tie)) (ts__law_ties_1 units_here)).bind fun p11 => let ties_here := p11; .ok (ties_here))
theorem nx__law_ties (units_here : (List Str)) (cells : (List Int)) : (t__law_ties units_here cells).nox = t__law_ties units_here cells := nox_nox
theorem tr__law_ties (units_here : (List Str)) (cells : (List Int)) : f__law_ties [(PyData.list (List.map PyData.str units_here)), (PyData.list (List.map PyData.int cells))] = (t__law_ties units_here cells).map (eL eTie) := by
  unfold f__law_ties
  rw [f_cs]
  unfold t__law_ties
  rw [map_nox_rc]
  simp_arith [d__law_ties, startD, tr__law_part, sx_0, fold_tie3, fold_tie4, in_E2 eTie, in_l2, app_E eTie, st__law_ties_1, chk_E eTie]
  all_goals (repeat' first | with_reducible rfl | with_reducible refine ite_cg (fun _ => ?_) (fun _ => ?_) | with_reducible refine rc_cg (fun _ => ?_) | (symm; (with_reducible apply tl__law_ties_1); (focus decreasing_trivial); (focus decreasing_trivial); intro _; simp_arith [tr__law_part, sx_0, fold_tie3, fold_tie4, in_E2 eTie, in_l2, app_E eTie, st__law_ties_1, chk_E eTie]) | with_reducible refine cc_cg (fun _ => ?_) (fun _ => ?_))
/-! ### _law_turned -/
noncomputable def ts__law_turned_1 (units_here : (List Str)) (cell : Int) (k : Int) (s_ : (List Str)) : (R (List Str)) := let turned_here := s_; (partR cell k ((turned_here.length : Int) + (1 : Int))).bind fun y2 => (ixR units_here k).bind fun y3 => (insR turned_here y2 y3).bind fun turned_here => .ok (turned_here)
def st__law_turned_1 (units_here : (List Str)) (cell : Int) (s_ : (List Str)) : Env := [some (PyData.list (List.map PyData.str units_here)), some (PyData.int cell), some (PyData.list (List.map PyData.str s_)), none]
theorem tb__law_turned_1 (units_here : (List Str)) (cell : Int) (x : Int) (s : (List Str)) : ∃ ds, t1 (PyData.int x) = some ds ∧ ∀ (β : Type) (m : Env → β) (r : D → β) (b : Env → β) (e : Exn → β) (z : β), (lb__law_turned_1 (setsD [3] ds ((st__law_turned_1 units_here cell ) s))).cs (kK m [3]) r b (kK m [3]) e z = ((ts__law_turned_1 units_here cell) x s).rc (fun s' => m ((st__law_turned_1 units_here cell ) s')) e z := by
  refine ⟨_, rfl, fun β m r b e z => ?_⟩
  simp_arith [lb__law_turned_1, ts__law_turned_1, st__law_turned_1, tr__law_part, ins_E PyData.str, st__law_turned_1]
  all_goals (repeat' first | with_reducible rfl | with_reducible refine ite_cg (fun _ => ?_) (fun _ => ?_) | with_reducible refine rc_cg (fun _ => ?_) | with_reducible refine cc_cg (fun _ => ?_) (fun _ => ?_))
theorem tl__law_turned_1 {β : Type} {n : Env → β} {r : D → β} {b c : Env → β} {e : Exn → β} {z : β} {units_here : (List Str)} {cell : Int} {xs : (List Int)} {s : (List Str)} {F : (List Str) → β} {ds : List D} {ρ : Env} (hd : xs.map PyData.int = ds) (hρ : (st__law_turned_1 units_here cell ) s = ρ) (hn : ∀ s', n ((st__law_turned_1 units_here cell ) s') = F s') : (forR xs s (ts__law_turned_1 units_here cell)).rc F e z = (turns [3] t1 [3] lb__law_turned_1 ds ρ).cs n r b c e z := by
  subst hd hρ
  rw [turns_forR PyData.int (st__law_turned_1 units_here cell ) (ts__law_turned_1 units_here cell) (tb__law_turned_1 units_here cell )]
  exact rc_cg fun s => (hn s).symm
noncomputable def t__law_turned (units_here : (List Str)) (cell : Int) : R (List Str) := R.nox (let turned_here : (List Str) := []; (rangeR (units_here.length : Int)).bind fun y1 => (forR y1 (turned_here : (List Str)) (ts__law_turned_1 units_here cell)).bind fun p4 => let turned_here := p4; .ok (turned_here))
theorem nx__law_turned (units_here : (List Str)) (cell : Int) : (t__law_turned units_here cell).nox = t__law_turned units_here cell := nox_nox
theorem tr__law_turned (units_here : (List Str)) (cell : Int) : f__law_turned [(PyData.list (List.map PyData.str units_here)), (PyData.int cell)] = (t__law_turned units_here cell).map (eL PyData.str) := by
  unfold f__law_turned
  rw [f_cs]
  unfold t__law_turned
  rw [map_nox_rc]
  simp_arith [d__law_turned, startD, tr__law_part, ins_E PyData.str, st__law_turned_1]
  all_goals (repeat' first | with_reducible rfl | with_reducible refine ite_cg (fun _ => ?_) (fun _ => ?_) | with_reducible refine rc_cg (fun _ => ?_) | (symm; (with_reducible apply tl__law_turned_1); (focus decreasing_trivial); (focus decreasing_trivial); intro _; simp_arith [tr__law_part, ins_E PyData.str, st__law_turned_1]) | with_reducible refine cc_cg (fun _ => ?_) (fun _ => ?_))
/-! ### _law_other_ties -/
noncomputable def ts__law_other_ties_1 (ties_here : (List Tie)) (cell : Int) (k : Int) (s_ : (List Tie)) : (R (List Tie)) := let other := s_; (ixR ties_here k).bind fun y2 => let tie : Tie := y2; ((andB (.ok ((decide (tie.kind = ("same" : Str))))) ((mulR (cell + k) (48271 : Int)).bind fun y3 => (modR y3 (65537 : Int)).bind fun y4 => (modR y4 (2 : Int)).bind fun y5 => .ok ((decide (y5 = (1 : Int))))))).bind fun q6 => ((if q6 = true then let tie : Tie := (⟨("same" : Str), tie.b, tie.a, none⟩ : Tie); .ok (tie) else .ok (tie) : R Tie)).bind fun p7 => let tie := p7; ((andB (.ok ((decide (tie.kind = ("same" : Str))))) (.ok ((true != decide (tie ∈ other)))))).bind fun q8 => (if q8 = true then (partR cell k ((other.length : Int) + (1 : Int))).bind fun y9 => (insR other y9 tie).bind fun other => .ok (other) else .ok (other))
def st__law_other_ties_1 (ties_here : (List Tie)) (cell : Int) (s_ : (List Tie)) : Env := [some (PyData.list (List.map eTie ties_here)), some (PyData.int cell), some (PyData.list (List.map eTie s_)), none, none]
theorem tb__law_other_ties_1 (ties_here : (List Tie)) (cell : Int) (x : Int) (s : (List Tie)) : ∃ ds, t1 (PyData.int x) = some ds ∧ ∀ (β : Type) (m : Env → β) (r : D → β) (b : Env → β) (e : Exn → β) (z : β), (lb__law_other_ties_1 (setsD [3] ds ((st__law_other_ties_1 ties_here cell ) s))).cs (kK m [3, 4]) r b (kK m [3, 4]) e z = ((ts__law_other_ties_1 ties_here cell) x s).rc (fun s' => m ((st__law_other_ties_1 ties_here cell ) s')) e z := by
  refine ⟨_, rfl, fun β m r b e z => ?_⟩
  simp_arith [lb__law_other_ties_1, ts__law_other_ties_1, st__law_other_ties_1, fold_tie3, in_E2 eTie, in_l2, tr__law_part, ins_E eTie, st__law_other_ties_1, chk_E eTie]
  all_goals (repeat' first | with_reducible rfl | with_reducible refine ite_cg (fun _ => ?_) (fun _ => ?_) | with_reducible refine rc_cg (fun _ => ?_) | with_reducible refine cc_cg (fun _ => ?_) (fun _ => ?_))
theorem tl__law_other_ties_1 {β : Type} {n : Env → β} {r : D → β} {b c : Env → β} {e : Exn → β} {z : β} {ties_here : (List Tie)} {cell : Int} {xs : (List Int)} {s : (List Tie)} {F : (List Tie) → β} {ds : List D} {ρ : Env} (hd : xs.map PyData.int = ds) (hρ : (st__law_other_ties_1 ties_here cell ) s = ρ) (hn : ∀ s', n ((st__law_other_ties_1 ties_here cell ) s') = F s') : (forR xs s (ts__law_other_ties_1 ties_here cell)).rc F e z = (turns [3] t1 [3, 4] lb__law_other_ties_1 ds ρ).cs n r b c e z := by
  subst hd hρ
  rw [turns_forR PyData.int (st__law_other_ties_1 ties_here cell ) (ts__law_other_ties_1 ties_here cell) (tb__law_other_ties_1 ties_here cell )]
  exact rc_cg fun s => (hn s).symm
noncomputable def t__law_other_ties (ties_here : (List Tie)) (cell : Int) : R (List Tie) := R.nox (let other : (List Tie) := []; (rangeR (ties_here.length : Int)).bind fun y1 => (forR y1 (other : (List Tie)) (ts__law_other_ties_1 ties_here cell)).bind fun p10 => let other := p10; .ok (other))
theorem nx__law_other_ties (ties_here : (List Tie)) (cell : Int) : (t__law_other_ties ties_here cell).nox = t__law_other_ties ties_here cell := nox_nox
theorem tr__law_other_ties (ties_here : (List Tie)) (cell : Int) : f__law_other_ties [(PyData.list (List.map eTie ties_here)), (PyData.int cell)] = (t__law_other_ties ties_here cell).map (eL eTie) := by
  unfold f__law_other_ties
  rw [f_cs]
  unfold t__law_other_ties
  rw [map_nox_rc]
  simp_arith [d__law_other_ties, startD, fold_tie3, in_E2 eTie, in_l2, tr__law_part, ins_E eTie, st__law_other_ties_1, chk_E eTie]
  all_goals (repeat' first | with_reducible rfl | with_reducible refine ite_cg (fun _ => ?_) (fun _ => ?_) | with_reducible refine rc_cg (fun _ => ?_) | (symm; (with_reducible apply tl__law_other_ties_1); (focus decreasing_trivial); (focus decreasing_trivial); intro _; simp_arith [fold_tie3, in_E2 eTie, in_l2, tr__law_part, ins_E eTie, st__law_other_ties_1, chk_E eTie]) | with_reducible refine cc_cg (fun _ => ?_) (fun _ => ?_))
/-! ### joined -/
noncomputable def ts_joined_1  (unit : Str) (s_ : (List (Str × Str))) : (R (List (Str × Str))) := let name_of := s_; (putR name_of unit unit).bind fun name_of => .ok (name_of)
def st_joined_1  (j0 : Option D) (j1 : Option D) (j4 : Option D) (j5 : Option D) (j6 : Option D) (s_ : (List (Str × Str))) : Env := [j0, j1, some (PyData.dict (List.map (eP PyData.str) s_)), none, j4, j5, j6]
theorem tb_joined_1  (j0 : Option D) (j1 : Option D) (j4 : Option D) (j5 : Option D) (j6 : Option D) (x : Str) (s : (List (Str × Str))) : ∃ ds, t1 (PyData.str x) = some ds ∧ ∀ (β : Type) (m : Env → β) (r : D → β) (b : Env → β) (e : Exn → β) (z : β), (lb_joined_1 (setsD [3] ds ((st_joined_1  j0 j1 j4 j5 j6) s))).cs (kK m [3]) r b (kK m [3]) e z = ((ts_joined_1 ) x s).rc (fun s' => m ((st_joined_1  j0 j1 j4 j5 j6) s')) e z := by
  refine ⟨_, rfl, fun β m r b e z => ?_⟩
  simp_arith [lb_joined_1, ts_joined_1, st_joined_1, put_E PyData.str, st_joined_1, chk_E eTie]
  all_goals (repeat' first | with_reducible rfl | with_reducible refine ite_cg (fun _ => ?_) (fun _ => ?_) | with_reducible refine rc_cg (fun _ => ?_) | with_reducible refine cc_cg (fun _ => ?_) (fun _ => ?_))
theorem tl_joined_1 {β : Type} {n : Env → β} {r : D → β} {b c : Env → β} {e : Exn → β} {z : β}  {j0 : Option D} {j1 : Option D} {j4 : Option D} {j5 : Option D} {j6 : Option D} {xs : (List Str)} {s : (List (Str × Str))} {F : (List (Str × Str)) → β} {ds : List D} {ρ : Env} (hd : xs.map PyData.str = ds) (hρ : (st_joined_1  j0 j1 j4 j5 j6) s = ρ) (hn : ∀ s', n ((st_joined_1  j0 j1 j4 j5 j6) s') = F s') : (forR xs s (ts_joined_1 )).rc F e z = (turns [3] t1 [3] lb_joined_1 ds ρ).cs n r b c e z := by
  subst hd hρ
  rw [turns_forR PyData.str (st_joined_1  j0 j1 j4 j5 j6) (ts_joined_1 ) (tb_joined_1  j0 j1 j4 j5 j6)]
  exact rc_cg fun s => (hn s).symm
noncomputable def ts_joined_2 (here : Str) (there : Str) (unit : Str) (s_ : (List (Str × Str))) : (R (List (Str × Str))) := let name_of := s_; ((orB ((optR (dget name_of unit)).bind fun y4 => .ok ((decide (y4 = here)))) ((optR (dget name_of unit)).bind fun y5 => .ok ((decide (y5 = there)))))).bind fun q6 => (if q6 = true then (putR name_of unit (minS here there)).bind fun name_of => .ok (name_of) else .ok (name_of))
def st_joined_2 (here : Str) (there : Str) (j0 : Option D) (j1 : Option D) (j4 : Option D) (s_ : (List (Str × Str))) : Env := [j0, j1, some (PyData.dict (List.map (eP PyData.str) s_)), none, j4, some (PyData.str here), some (PyData.str there)]
theorem tb_joined_2 (here : Str) (there : Str) (j0 : Option D) (j1 : Option D) (j4 : Option D) (x : Str) (s : (List (Str × Str))) : ∃ ds, t1 (PyData.str x) = some ds ∧ ∀ (β : Type) (m : Env → β) (r : D → β) (b : Env → β) (e : Exn → β) (z : β), (lb_joined_2 (setsD [3] ds ((st_joined_2 here there j0 j1 j4) s))).cs (kK m [3]) r b (kK m [3]) e z = ((ts_joined_2 here there) x s).rc (fun s' => m ((st_joined_2 here there j0 j1 j4) s')) e z := by
  refine ⟨_, rfl, fun β m r b e z => ?_⟩
  simp_arith [lb_joined_2, ts_joined_2, st_joined_2, put_E PyData.str, st_joined_1, st_joined_2, chk_E eTie]
  all_goals (repeat' first | with_reducible rfl | with_reducible refine ite_cg (fun _ => ?_) (fun _ => ?_) | with_reducible refine rc_cg (fun _ => ?_) | (symm; (with_reducible apply tl_joined_1); (focus decreasing_trivial); (focus decreasing_trivial); intro _; simp_arith [put_E PyData.str, st_joined_1, st_joined_2, chk_E eTie]) | with_reducible refine cc_cg (fun _ => ?_) (fun _ => ?_))
theorem tl_joined_2 {β : Type} {n : Env → β} {r : D → β} {b c : Env → β} {e : Exn → β} {z : β} {here : Str} {there : Str} {j0 : Option D} {j1 : Option D} {j4 : Option D} {xs : (List Str)} {s : (List (Str × Str))} {F : (List (Str × Str)) → β} {ds : List D} {ρ : Env} (hd : xs.map PyData.str = ds) (hρ : (st_joined_2 here there j0 j1 j4) s = ρ) (hn : ∀ s', n ((st_joined_2 here there j0 j1 j4) s') = F s') : (forR xs s (ts_joined_2 here there)).rc F e z = (turns [3] t1 [3] lb_joined_2 ds ρ).cs n r b c e z := by
  subst hd hρ
  rw [turns_forR PyData.str (st_joined_2 here there j0 j1 j4) (ts_joined_2 here there) (tb_joined_2 here there j0 j1 j4)]
  exact rc_cg fun s => (hn s).symm
noncomputable def ts_joined_3 (units : (List Str)) (tie : Tie) (s_ : (List (Str × Str))) : (R (List (Str × Str))) := let name_of := s_; (if (decide (tie.kind = ("same" : Str))) = true then (optR (dget name_of tie.a)).bind fun y2 => let here : Str := y2; (optR (dget name_of tie.b)).bind fun y3 => let there : Str := y3; (forR units (name_of : (List (Str × Str))) (ts_joined_2 here there)).bind fun p7 => let name_of := p7; .ok (name_of) else .ok (name_of))
def st_joined_3 (units : (List Str)) (j1 : Option D) (s_ : (List (Str × Str))) : Env := [some (PyData.list (List.map PyData.str units)), j1, some (PyData.dict (List.map (eP PyData.str) s_)), none, none, none, none]
theorem tb_joined_3 (units : (List Str)) (j1 : Option D) (x : Tie) (s : (List (Str × Str))) : ∃ ds, t1 (eTie x) = some ds ∧ ∀ (β : Type) (m : Env → β) (r : D → β) (b : Env → β) (e : Exn → β) (z : β), (lb_joined_3 (setsD [4] ds ((st_joined_3 units j1) s))).cs (kK m [3, 4, 5, 6]) r b (kK m [3, 4, 5, 6]) e z = ((ts_joined_3 units) x s).rc (fun s' => m ((st_joined_3 units j1) s')) e z := by
  refine ⟨_, rfl, fun β m r b e z => ?_⟩
  simp_arith [lb_joined_3, ts_joined_3, st_joined_3, put_E PyData.str, st_joined_1, st_joined_2, st_joined_3, chk_E eTie]
  all_goals (repeat' first | with_reducible rfl | with_reducible refine ite_cg (fun _ => ?_) (fun _ => ?_) | with_reducible refine rc_cg (fun _ => ?_) | (symm; (with_reducible apply tl_joined_1); (focus decreasing_trivial); (focus decreasing_trivial); intro _; simp_arith [put_E PyData.str, st_joined_1, st_joined_2, st_joined_3, chk_E eTie]) | (symm; (with_reducible apply tl_joined_2); (focus decreasing_trivial); (focus decreasing_trivial); intro _; simp_arith [put_E PyData.str, st_joined_1, st_joined_2, st_joined_3, chk_E eTie]) | with_reducible refine cc_cg (fun _ => ?_) (fun _ => ?_))
theorem tl_joined_3 {β : Type} {n : Env → β} {r : D → β} {b c : Env → β} {e : Exn → β} {z : β} {units : (List Str)} {j1 : Option D} {xs : (List Tie)} {s : (List (Str × Str))} {F : (List (Str × Str)) → β} {ds : List D} {ρ : Env} (hd : xs.map eTie = ds) (hρ : (st_joined_3 units j1) s = ρ) (hn : ∀ s', n ((st_joined_3 units j1) s') = F s') : (forR xs s (ts_joined_3 units)).rc F e z = (turns [4] t1 [3, 4, 5, 6] lb_joined_3 ds ρ).cs n r b c e z := by
  subst hd hρ
  rw [turns_forR eTie (st_joined_3 units j1) (ts_joined_3 units) (tb_joined_3 units j1)]
  exact rc_cg fun s => (hn s).symm
noncomputable def t_joined (units : (List Str)) (ties : (List Tie)) : R (List (Str × Str)) := R.nox (let name_of : (List (Str × Str)) := []; (forR units (name_of : (List (Str × Str))) (ts_joined_1 )).bind fun p1 => let name_of := p1; (forR ties (name_of : (List (Str × Str))) (ts_joined_3 units)).bind fun p8 => let name_of := p8; .ok (name_of))
theorem nx_joined (units : (List Str)) (ties : (List Tie)) : (t_joined units ties).nox = t_joined units ties := nox_nox
theorem tr_joined (units : (List Str)) (ties : (List Tie)) : f_joined [(PyData.list (List.map PyData.str units)), (PyData.list (List.map eTie ties))] = (t_joined units ties).map (eD PyData.str) := by
  unfold f_joined
  rw [f_cs]
  unfold t_joined
  rw [map_nox_rc]
  simp_arith [d_joined, startD, put_E PyData.str, st_joined_1, st_joined_2, st_joined_3, chk_E eTie]
  all_goals (repeat' first | with_reducible rfl | with_reducible refine ite_cg (fun _ => ?_) (fun _ => ?_) | with_reducible refine rc_cg (fun _ => ?_) | (symm; (with_reducible apply tl_joined_1); (focus decreasing_trivial); (focus decreasing_trivial); intro _; simp_arith [put_E PyData.str, st_joined_1, st_joined_2, st_joined_3, chk_E eTie]) | (symm; (with_reducible apply tl_joined_2); (focus decreasing_trivial); (focus decreasing_trivial); intro _; simp_arith [put_E PyData.str, st_joined_1, st_joined_2, st_joined_3, chk_E eTie]) | (symm; (with_reducible apply tl_joined_3); (focus decreasing_trivial); (focus decreasing_trivial); intro _; simp_arith [put_E PyData.str, st_joined_1, st_joined_2, st_joined_3, chk_E eTie]) | with_reducible refine cc_cg (fun _ => ?_) (fun _ => ?_))
/-! ### names_of_ones -/
theorem tc_names_of_ones_1 (units : (List Str)) (name_of : (List (Str × Str))) (j1 : Option D) (j3 : Option D) : cp_names_of_ones_1 [some (PyData.list (List.map PyData.str units)), j1, some (PyData.dict (List.map (eP PyData.str) name_of)), j3] = R.bind ((.ok units)) fun xs => (compR xs (fun x4 => ((optR (dget name_of x4)).bind fun y5 => .ok ((decide (y5 = x4))))) (fun x4 => (.ok (x4)))).map fun ys => PyData.list (ys.map PyData.str) := by
  unfold cp_names_of_ones_1
  refine (compE_R PyData.str PyData.str (fun x4 => ((optR (dget name_of x4)).bind fun y5 => .ok ((decide (y5 = x4))))) (fun x4 => (.ok (x4))) ((.ok units)) ?_ (fun x => ⟨_, rfl, ?_, ?_⟩)).trans rfl
  · simp_arith [map_b, nox_bind, tr_joined, nx_joined, chk_E eTie]
  · simp_arith [map_b, nox_bind, tr_joined, nx_joined, chk_E eTie]
  · simp_arith [map_b, nox_bind, tr_joined, nx_joined, chk_E eTie]
noncomputable def t_names_of_ones (units : (List Str)) (ties : (List Tie)) : R (List Str) := R.nox ((t_joined units ties).bind fun y1 => let name_of : (List (Str × Str)) := y1; (compR units (fun x2 => ((optR (dget name_of x2)).bind fun y3 => .ok ((decide (y3 = x2))))) (fun x2 => (.ok (x2)))).bind fun y6 => (sortedSR y6).bind fun y7 => .ok (y7))
theorem nx_names_of_ones (units : (List Str)) (ties : (List Tie)) : (t_names_of_ones units ties).nox = t_names_of_ones units ties := nox_nox
theorem tr_names_of_ones (units : (List Str)) (ties : (List Tie)) : f_names_of_ones [(PyData.list (List.map PyData.str units)), (PyData.list (List.map eTie ties))] = (t_names_of_ones units ties).map (eL PyData.str) := by
  unfold f_names_of_ones
  rw [f_cs]
  unfold t_names_of_ones
  rw [map_nox_rc]
  simp_arith [d_names_of_ones, startD, tr_joined, nx_joined, tc_names_of_ones_1, chk_E eTie]
  all_goals (repeat' first | with_reducible rfl | with_reducible refine ite_cg (fun _ => ?_) (fun _ => ?_) | with_reducible refine rc_cg (fun _ => ?_) | with_reducible refine cc_cg (fun _ => ?_) (fun _ => ?_))
/-! ### ones -/
theorem sx_1 : ∀ (xs : (List (List Str))) (x : (List Str)), optR (gAppend (xs.map (eL PyData.str)) [.list (x.map PyData.str)]) = (appR xs x).map (fun l => PyData.list (l.map (eL PyData.str))) := fun xs x => app_E (eL PyData.str) xs x
theorem sx_2 : ∀ (xs : (List (List Str))), optR (gAppend (xs.map (eL PyData.str)) [.list []]) = (appR xs []).map (fun l => PyData.list (l.map (eL PyData.str))) := fun xs => app_E (eL PyData.str) xs []
theorem tc_ones_1 (units : (List Str)) (name_of : (List (Str × Str))) (name : Str) (j1 : Option D) (j3 : Option D) (j5 : Option D) : cp_ones_1 [some (PyData.list (List.map PyData.str units)), j1, some (PyData.dict (List.map (eP PyData.str) name_of)), j3, some (PyData.str name), j5] = R.bind ((.ok units)) fun xs => (compR xs (fun x5 => ((optR (dget name_of x5)).bind fun y6 => .ok ((decide (y6 = name))))) (fun x5 => (.ok (x5)))).map fun ys => PyData.list (ys.map PyData.str) := by
  unfold cp_ones_1
  refine (compE_R PyData.str PyData.str (fun x5 => ((optR (dget name_of x5)).bind fun y6 => .ok ((decide (y6 = name))))) (fun x5 => (.ok (x5))) ((.ok units)) ?_ (fun x => ⟨_, rfl, ?_, ?_⟩)).trans rfl
  · simp_arith [map_b, nox_bind, tr_joined, nx_joined, tr_names_of_ones, nx_names_of_ones, app_E (eL PyData.str), sx_1, sx_2, chk_E eTie]
  · simp_arith [map_b, nox_bind, tr_joined, nx_joined, tr_names_of_ones, nx_names_of_ones, app_E (eL PyData.str), sx_1, sx_2, chk_E eTie]
  · simp_arith [map_b, nox_bind, tr_joined, nx_joined, tr_names_of_ones, nx_names_of_ones, app_E (eL PyData.str), sx_1, sx_2, chk_E eTie]
noncomputable def ts_ones_1 (units : (List Str)) (name_of : (List (Str × Str))) (name : Str) (s_ : (List (List Str))) : (R (List (List Str))) := let groups := s_; (compR units (fun x3 => ((optR (dget name_of x3)).bind fun y4 => .ok ((decide (y4 = name))))) (fun x3 => (.ok (x3)))).bind fun y7 => (sortedSR y7).bind fun y8 => (appR groups y8).bind fun groups => .ok (groups)
def st_ones_1 (units : (List Str)) (name_of : (List (Str × Str))) (j1 : Option D) (j5 : Option D) (s_ : (List (List Str))) : Env := [some (PyData.list (List.map PyData.str units)), j1, some (PyData.dict (List.map (eP PyData.str) name_of)), some (PyData.list (List.map (eL PyData.str) s_)), none, j5]
theorem tb_ones_1 (units : (List Str)) (name_of : (List (Str × Str))) (j1 : Option D) (j5 : Option D) (x : Str) (s : (List (List Str))) : ∃ ds, t1 (PyData.str x) = some ds ∧ ∀ (β : Type) (m : Env → β) (r : D → β) (b : Env → β) (e : Exn → β) (z : β), (lb_ones_1 (setsD [4] ds ((st_ones_1 units name_of j1 j5) s))).cs (kK m [4]) r b (kK m [4]) e z = ((ts_ones_1 units name_of) x s).rc (fun s' => m ((st_ones_1 units name_of j1 j5) s')) e z := by
  refine ⟨_, rfl, fun β m r b e z => ?_⟩
  simp_arith [lb_ones_1, ts_ones_1, st_ones_1, tr_joined, nx_joined, tr_names_of_ones, nx_names_of_ones, tc_ones_1, app_E (eL PyData.str), sx_1, sx_2, st_ones_1, chk_E eTie]
  all_goals (repeat' first | with_reducible rfl | with_reducible refine ite_cg (fun _ => ?_) (fun _ => ?_) | with_reducible refine rc_cg (fun _ => ?_) | with_reducible refine cc_cg (fun _ => ?_) (fun _ => ?_))
theorem tl_ones_1 {β : Type} {n : Env → β} {r : D → β} {b c : Env → β} {e : Exn → β} {z : β} {units : (List Str)} {name_of : (List (Str × Str))} {j1 : Option D} {j5 : Option D} {xs : (List Str)} {s : (List (List Str))} {F : (List (List Str)) → β} {ds : List D} {ρ : Env} (hd : xs.map PyData.str = ds) (hρ : (st_ones_1 units name_of j1 j5) s = ρ) (hn : ∀ s', n ((st_ones_1 units name_of j1 j5) s') = F s') : (forR xs s (ts_ones_1 units name_of)).rc F e z = (turns [4] t1 [4] lb_ones_1 ds ρ).cs n r b c e z := by
  subst hd hρ
  rw [turns_forR PyData.str (st_ones_1 units name_of j1 j5) (ts_ones_1 units name_of) (tb_ones_1 units name_of j1 j5)]
  exact rc_cg fun s => (hn s).symm
noncomputable def t_ones (units : (List Str)) (ties : (List Tie)) : R (List (List Str)) := R.nox ((t_joined units ties).bind fun y1 => let name_of : (List (Str × Str)) := y1; let groups : (List (List Str)) := []; (t_names_of_ones units ties).bind fun y2 => (forR y2 (groups : (List (List Str))) (ts_ones_1 units name_of)).bind fun p9 => let groups := p9; .ok (groups))
theorem nx_ones (units : (List Str)) (ties : (List Tie)) : (t_ones units ties).nox = t_ones units ties := nox_nox
theorem tr_ones (units : (List Str)) (ties : (List Tie)) : f_ones [(PyData.list (List.map PyData.str units)), (PyData.list (List.map eTie ties))] = (t_ones units ties).map (eL (eL PyData.str)) := by
  unfold f_ones
  rw [f_cs]
  unfold t_ones
  rw [map_nox_rc]
  simp_arith [d_ones, startD, tr_joined, nx_joined, tr_names_of_ones, nx_names_of_ones, tc_ones_1, app_E (eL PyData.str), sx_1, sx_2, st_ones_1, chk_E eTie]
  all_goals (repeat' first | with_reducible rfl | with_reducible refine ite_cg (fun _ => ?_) (fun _ => ?_) | with_reducible refine rc_cg (fun _ => ?_) | (symm; (with_reducible apply tl_ones_1); (focus decreasing_trivial); (focus decreasing_trivial); intro _; simp_arith [tr_joined, nx_joined, tr_names_of_ones, nx_names_of_ones, tc_ones_1, app_E (eL PyData.str), sx_1, sx_2, st_ones_1, chk_E eTie]) | with_reducible refine cc_cg (fun _ => ?_) (fun _ => ?_))
/-! ### _law_list_of -/
noncomputable def ts__law_list_of_1 (name : Str) (group : (List Str)) (s_ : Unit) : (Ct Unit (List Str)) := (if (false != decide (name ∈ group)) = true then .ret (group) else .nx (()))
def st__law_list_of_1 (name : Str) (j0 : Option D) (s_ : Unit) : Env := [j0, some (PyData.str name), none]
theorem tb__law_list_of_1 (name : Str) (j0 : Option D) (x : (List Str)) (s : Unit) : ∃ ds, t1 ((eL PyData.str) x) = some ds ∧ ∀ (β : Type) (m : Env → β) (r : D → β) (b : Env → β) (e : Exn → β) (z : β), (lb__law_list_of_1 (setsD [2] ds ((st__law_list_of_1 name j0) s))).cs (kK m [2]) r b (kK m [2]) e z = ((ts__law_list_of_1 name) x s).cc (fun s' => m ((st__law_list_of_1 name j0) s')) (fun v => r ((eL PyData.str) v)) e z := by
  refine ⟨_, rfl, fun β m r b e z => ?_⟩
  simp_arith [lb__law_list_of_1, ts__law_list_of_1, st__law_list_of_1, in_E2 PyData.str, in_l2, st__law_list_of_1]
  all_goals (repeat' first | with_reducible rfl | with_reducible refine ite_cg (fun _ => ?_) (fun _ => ?_) | with_reducible refine rc_cg (fun _ => ?_) | with_reducible refine cc_cg (fun _ => ?_) (fun _ => ?_))
theorem tl__law_list_of_1 {β : Type} {n : Env → β} {r : D → β} {b c : Env → β} {e : Exn → β} {z : β} {name : Str} {j0 : Option D} {xs : (List (List Str))} {s : Unit} {F : Unit → β} {ds : List D} {ρ : Env} (hd : xs.map (eL PyData.str) = ds) (hρ : (st__law_list_of_1 name j0) s = ρ) (hn : ∀ s', n ((st__law_list_of_1 name j0) s') = F s') : (forC xs s (ts__law_list_of_1 name)).cc F (fun v => r (PyData.list (List.map PyData.str v))) e z = (turns [2] t1 [2] lb__law_list_of_1 ds ρ).cs n r b c e z := by
  subst hd hρ
  rw [turns_forC (eL PyData.str) (eL PyData.str) (st__law_list_of_1 name j0) (ts__law_list_of_1 name) (tb__law_list_of_1 name j0)]
  exact cc_cg (fun s => (hn s).symm) fun _ => rfl
noncomputable def t__law_list_of (groups : (List (List Str))) (name : Str) : R (List Str) := R.nox ((forC groups (() : Unit) (ts__law_list_of_1 name)).toR fun p1 => .ok ([]))
theorem nx__law_list_of (groups : (List (List Str))) (name : Str) : (t__law_list_of groups name).nox = t__law_list_of groups name := nox_nox
theorem tr__law_list_of (groups : (List (List Str))) (name : Str) : f__law_list_of [(PyData.list (List.map (eL PyData.str) groups)), (PyData.str name)] = (t__law_list_of groups name).map (eL PyData.str) := by
  unfold f__law_list_of
  rw [f_cs]
  unfold t__law_list_of
  rw [map_nox_rc]
  simp_arith [d__law_list_of, startD, in_E2 PyData.str, in_l2, st__law_list_of_1]
  all_goals (repeat' first | with_reducible rfl | with_reducible refine ite_cg (fun _ => ?_) (fun _ => ?_) | with_reducible refine rc_cg (fun _ => ?_) | (symm; (with_reducible apply tl__law_list_of_1); (focus decreasing_trivial); (focus decreasing_trivial); intro _; simp_arith [in_E2 PyData.str, in_l2, st__law_list_of_1]) | with_reducible refine cc_cg (fun _ => ?_) (fun _ => ?_))
/-! ### one_of -/
noncomputable def t_one_of (units : (List Str)) (ties : (List Tie)) (name : Str) : R Str := R.nox ((t_joined units ties).bind fun y1 => (optR (dget y1 name)).bind fun y2 => .ok (y2))
theorem nx_one_of (units : (List Str)) (ties : (List Tie)) (name : Str) : (t_one_of units ties name).nox = t_one_of units ties name := nox_nox
theorem tr_one_of (units : (List Str)) (ties : (List Tie)) (name : Str) : f_one_of [(PyData.list (List.map PyData.str units)), (PyData.list (List.map eTie ties)), (PyData.str name)] = (t_one_of units ties name).map PyData.str := by
  unfold f_one_of
  rw [f_cs]
  unfold t_one_of
  rw [map_nox_rc]
  simp_arith [d_one_of, startD, tr_joined, nx_joined, chk_E eTie]
  all_goals (repeat' first | with_reducible rfl | with_reducible refine ite_cg (fun _ => ?_) (fun _ => ?_) | with_reducible refine rc_cg (fun _ => ?_) | with_reducible refine cc_cg (fun _ => ?_) (fun _ => ?_))
/-! ### law -/
theorem sx_3 : ∀ (x0 : Tie) (i : Int), dIx (.list [(eTie x0)]) (.int i) = (ixR [x0] i).map eTie := fun x0 i => ix_lit eTie [x0] i
theorem sx_4 : ∀ (x0 : (List Str)) (i : Int), dIx (.list [(PyData.list (List.map PyData.str x0))]) (.int i) = (ixR [x0] i).map (eL PyData.str) := fun x0 i => ix_lit (eL PyData.str) [x0] i
theorem sx_5 : ∀ (a : (List (List Str))) (x0 : (List Str)), dAddB (.list (a.map (eL PyData.str))) (.list [(PyData.list (List.map PyData.str x0))]) = (addL a [x0]).map (fun l => PyData.list (l.map (eL PyData.str))) := fun a x0 => addB_E (eL PyData.str) a [x0]
noncomputable def ts_law_1 (units_here : (List Str)) (ties_here : (List Tie)) (turned_here : (List Str)) (other : (List Tie)) (groups : (List (List Str))) (name : Str) (s_ : Unit) : (Ct Unit Bool) := (t__law_list_of groups name).toC fun y8 => let due : (List Str) := y8; ((orB (.ok ((decide (due = [])))) ((t_one_of units_here ties_here name).bind fun y9 => (ixR due (0 : Int)).bind fun y10 => .ok ((!decide (y9 = y10)))))).toC fun q11 => (if q11 = true then .ret (false) else (t_one_of turned_here other name).toC fun y12 => (ixR due (0 : Int)).toC fun y13 => (if (!decide (y12 = y13)) = true then .ret (false) else .nx (())))
def st_law_1 (units_here : (List Str)) (ties_here : (List Tie)) (turned_here : (List Str)) (other : (List Tie)) (groups : (List (List Str))) (j0 : Option D) (j3 : Option D) (j9 : Option D) (j10 : Option D) (j11 : Option D) (j12 : Option D) (j13 : Option D) (j14 : Option D) (j15 : Option D) (j16 : Option D) (j17 : Option D) (s_ : Unit) : Env := [j0, some (PyData.list (List.map PyData.str units_here)), some (PyData.list (List.map eTie ties_here)), j3, some (PyData.list (List.map PyData.str turned_here)), some (PyData.list (List.map eTie other)), some (PyData.list (List.map (eL PyData.str) groups)), none, none, j9, j10, j11, j12, j13, j14, j15, j16, j17]
theorem tb_law_1 (units_here : (List Str)) (ties_here : (List Tie)) (turned_here : (List Str)) (other : (List Tie)) (groups : (List (List Str))) (j0 : Option D) (j3 : Option D) (j9 : Option D) (j10 : Option D) (j11 : Option D) (j12 : Option D) (j13 : Option D) (j14 : Option D) (j15 : Option D) (j16 : Option D) (j17 : Option D) (x : Str) (s : Unit) : ∃ ds, t1 (PyData.str x) = some ds ∧ ∀ (β : Type) (m : Env → β) (r : D → β) (b : Env → β) (e : Exn → β) (z : β), (lb_law_1 (setsD [7] ds ((st_law_1 units_here ties_here turned_here other groups j0 j3 j9 j10 j11 j12 j13 j14 j15 j16 j17) s))).cs (kK m [7, 8]) r b (kK m [7, 8]) e z = ((ts_law_1 units_here ties_here turned_here other groups) x s).cc (fun s' => m ((st_law_1 units_here ties_here turned_here other groups j0 j3 j9 j10 j11 j12 j13 j14 j15 j16 j17) s')) (fun v => r (PyData.bool v)) e z := by
  refine ⟨_, rfl, fun β m r b e z => ?_⟩
  simp_arith [lb_law_1, ts_law_1, st_law_1, tr__law_units, nx__law_units, tr__law_ties, nx__law_ties, tr__law_cell_at, nx__law_cell_at, tr__law_turned, nx__law_turned, tr__law_other_ties, nx__law_other_ties, tr_ones, nx_ones, ne_E (eL (eL PyData.str)), ne_L, ne_nil, tr__law_list_of, nx__law_list_of, eq_E (eL PyData.str), eq_L, eq_nil, tr_one_of, nx_one_of, st_law_1, tr__law_part, ne_E (eL PyData.str), add_E PyData.str, fold_tie3, sx_3, in_E2 eTie, in_l2, add_E eTie, sx_4, addB_E (eL PyData.str), sx_5, sortB_LL, eq_E (eL (eL PyData.str)), chk_E eTie]
  all_goals (repeat' first | with_reducible rfl | with_reducible refine ite_cg (fun _ => ?_) (fun _ => ?_) | with_reducible refine rc_cg (fun _ => ?_) | with_reducible refine cc_cg (fun _ => ?_) (fun _ => ?_))
theorem tl_law_1 {β : Type} {n : Env → β} {r : D → β} {b c : Env → β} {e : Exn → β} {z : β} {units_here : (List Str)} {ties_here : (List Tie)} {turned_here : (List Str)} {other : (List Tie)} {groups : (List (List Str))} {j0 : Option D} {j3 : Option D} {j9 : Option D} {j10 : Option D} {j11 : Option D} {j12 : Option D} {j13 : Option D} {j14 : Option D} {j15 : Option D} {j16 : Option D} {j17 : Option D} {xs : (List Str)} {s : Unit} {F : Unit → β} {ds : List D} {ρ : Env} (hd : xs.map PyData.str = ds) (hρ : (st_law_1 units_here ties_here turned_here other groups j0 j3 j9 j10 j11 j12 j13 j14 j15 j16 j17) s = ρ) (hn : ∀ s', n ((st_law_1 units_here ties_here turned_here other groups j0 j3 j9 j10 j11 j12 j13 j14 j15 j16 j17) s') = F s') : (forC xs s (ts_law_1 units_here ties_here turned_here other groups)).cc F (fun v => r (PyData.bool v)) e z = (turns [7] t1 [7, 8] lb_law_1 ds ρ).cs n r b c e z := by
  subst hd hρ
  rw [turns_forC PyData.str PyData.bool (st_law_1 units_here ties_here turned_here other groups j0 j3 j9 j10 j11 j12 j13 j14 j15 j16 j17) (ts_law_1 units_here ties_here turned_here other groups) (tb_law_1 units_here ties_here turned_here other groups j0 j3 j9 j10 j11 j12 j13 j14 j15 j16 j17)]
  exact cc_cg (fun s => (hn s).symm) fun _ => rfl
theorem tc_law_1 (groups : (List (List Str))) (here : (List Str)) (there : (List Str)) (j0 : Option D) (j1 : Option D) (j2 : Option D) (j3 : Option D) (j4 : Option D) (j5 : Option D) (j7 : Option D) (j8 : Option D) (j9 : Option D) (j10 : Option D) (j13 : Option D) (j14 : Option D) (j15 : Option D) (j16 : Option D) (j17 : Option D) : cp_law_1 [j0, j1, j2, j3, j4, j5, some (PyData.list (List.map (eL PyData.str) groups)), j7, j8, j9, j10, some (PyData.list (List.map PyData.str here)), some (PyData.list (List.map PyData.str there)), j13, j14, j15, j16, j17] = R.bind ((.ok groups)) fun xs => (compR xs (fun x22 => (andB (.ok ((!decide (x22 = here)))) (.ok ((!decide (x22 = there)))))) (fun x22 => (.ok (x22)))).map fun ys => PyData.list (ys.map (eL PyData.str)) := by
  unfold cp_law_1
  refine (compE_R (eL PyData.str) (eL PyData.str) (fun x22 => (andB (.ok ((!decide (x22 = here)))) (.ok ((!decide (x22 = there)))))) (fun x22 => (.ok (x22))) ((.ok groups)) ?_ (fun x => ⟨_, rfl, ?_, ?_⟩)).trans rfl
  · simp_arith [map_b, nox_bind, tr__law_units, nx__law_units, tr__law_ties, nx__law_ties, tr__law_cell_at, nx__law_cell_at, tr__law_turned, nx__law_turned, tr__law_other_ties, nx__law_other_ties, tr_ones, nx_ones, ne_E (eL (eL PyData.str)), ne_L, ne_nil, tr__law_list_of, nx__law_list_of, eq_E (eL PyData.str), eq_L, eq_nil, tr_one_of, nx_one_of, st_law_1, tr__law_part, ne_E (eL PyData.str), add_E PyData.str, fold_tie3, sx_3, in_E2 eTie, in_l2, add_E eTie, sx_4, addB_E (eL PyData.str), sx_5, sortB_LL, eq_E (eL (eL PyData.str)), chk_E eTie]
  · simp_arith [map_b, nox_bind, tr__law_units, nx__law_units, tr__law_ties, nx__law_ties, tr__law_cell_at, nx__law_cell_at, tr__law_turned, nx__law_turned, tr__law_other_ties, nx__law_other_ties, tr_ones, nx_ones, ne_E (eL (eL PyData.str)), ne_L, ne_nil, tr__law_list_of, nx__law_list_of, eq_E (eL PyData.str), eq_L, eq_nil, tr_one_of, nx_one_of, st_law_1, tr__law_part, ne_E (eL PyData.str), add_E PyData.str, fold_tie3, sx_3, in_E2 eTie, in_l2, add_E eTie, sx_4, addB_E (eL PyData.str), sx_5, sortB_LL, eq_E (eL (eL PyData.str)), chk_E eTie]
  · simp_arith [map_b, nox_bind, tr__law_units, nx__law_units, tr__law_ties, nx__law_ties, tr__law_cell_at, nx__law_cell_at, tr__law_turned, nx__law_turned, tr__law_other_ties, nx__law_other_ties, tr_ones, nx_ones, ne_E (eL (eL PyData.str)), ne_L, ne_nil, tr__law_list_of, nx__law_list_of, eq_E (eL PyData.str), eq_L, eq_nil, tr_one_of, nx_one_of, st_law_1, tr__law_part, ne_E (eL PyData.str), add_E PyData.str, fold_tie3, sx_3, in_E2 eTie, in_l2, add_E eTie, sx_4, addB_E (eL PyData.str), sx_5, sortB_LL, eq_E (eL (eL PyData.str)), chk_E eTie]
theorem tc_law_2 (ties_here : (List Tie)) (first : Str) (second : Str) (j0 : Option D) (j1 : Option D) (j3 : Option D) (j4 : Option D) (j5 : Option D) (j6 : Option D) (j7 : Option D) (j8 : Option D) (j11 : Option D) (j12 : Option D) (j13 : Option D) (j14 : Option D) (j15 : Option D) (j16 : Option D) (j17 : Option D) : cp_law_2 [j0, j1, some (PyData.list (List.map eTie ties_here)), j3, j4, j5, j6, j7, j8, some (PyData.str first), some (PyData.str second), j11, j12, j13, j14, j15, j16, j17] = R.bind ((.ok [(⟨("same" : Str), first, second, none⟩ : Tie)])) fun xs => (compR xs (fun x27 => (.ok ((true != decide (x27 ∈ ties_here))))) (fun x27 => (.ok (x27)))).map fun ys => PyData.list (ys.map eTie) := by
  unfold cp_law_2
  refine (compE_R eTie eTie (fun x27 => (.ok ((true != decide (x27 ∈ ties_here))))) (fun x27 => (.ok (x27))) ((.ok [(⟨("same" : Str), first, second, none⟩ : Tie)])) ?_ (fun x => ⟨_, rfl, ?_, ?_⟩)).trans rfl
  · simp_arith [map_b, nox_bind, tr__law_units, nx__law_units, tr__law_ties, nx__law_ties, tr__law_cell_at, nx__law_cell_at, tr__law_turned, nx__law_turned, tr__law_other_ties, nx__law_other_ties, tr_ones, nx_ones, ne_E (eL (eL PyData.str)), ne_L, ne_nil, tr__law_list_of, nx__law_list_of, eq_E (eL PyData.str), eq_L, eq_nil, tr_one_of, nx_one_of, st_law_1, tr__law_part, ne_E (eL PyData.str), tc_law_1, add_E PyData.str, fold_tie3, sx_3, in_E2 eTie, in_l2, add_E eTie, sx_4, addB_E (eL PyData.str), sx_5, sortB_LL, eq_E (eL (eL PyData.str)), chk_E eTie]
  · simp_arith [map_b, nox_bind, tr__law_units, nx__law_units, tr__law_ties, nx__law_ties, tr__law_cell_at, nx__law_cell_at, tr__law_turned, nx__law_turned, tr__law_other_ties, nx__law_other_ties, tr_ones, nx_ones, ne_E (eL (eL PyData.str)), ne_L, ne_nil, tr__law_list_of, nx__law_list_of, eq_E (eL PyData.str), eq_L, eq_nil, tr_one_of, nx_one_of, st_law_1, tr__law_part, ne_E (eL PyData.str), tc_law_1, add_E PyData.str, fold_tie3, sx_3, in_E2 eTie, in_l2, add_E eTie, sx_4, addB_E (eL PyData.str), sx_5, sortB_LL, eq_E (eL (eL PyData.str)), chk_E eTie]
  · simp_arith [map_b, nox_bind, tr__law_units, nx__law_units, tr__law_ties, nx__law_ties, tr__law_cell_at, nx__law_cell_at, tr__law_turned, nx__law_turned, tr__law_other_ties, nx__law_other_ties, tr_ones, nx_ones, ne_E (eL (eL PyData.str)), ne_L, ne_nil, tr__law_list_of, nx__law_list_of, eq_E (eL PyData.str), eq_L, eq_nil, tr_one_of, nx_one_of, st_law_1, tr__law_part, ne_E (eL PyData.str), tc_law_1, add_E PyData.str, fold_tie3, sx_3, in_E2 eTie, in_l2, add_E eTie, sx_4, addB_E (eL PyData.str), sx_5, sortB_LL, eq_E (eL (eL PyData.str)), chk_E eTie]
noncomputable def t_law (script : List Int) : R Bool := R.nox ((t__law_units script).bind fun y1 => let units_here : (List Str) := y1; (t__law_ties units_here (cutA script (some (4 : Int)) (some (63 : Int)))).bind fun y2 => let ties_here : (List Tie) := y2; (t__law_cell_at script (3 : Int)).bind fun y3 => let cell : Int := y3; (t__law_turned units_here cell).bind fun y4 => let turned_here : (List Str) := y4; (t__law_other_ties ties_here cell).bind fun y5 => let other : (List Tie) := y5; (t_ones units_here ties_here).bind fun y6 => let groups : (List (List Str)) := y6; (t_ones turned_here other).bind fun y7 => (if (!decide (y7 = groups)) = true then .ok (false) else (forC units_here (() : Unit) (ts_law_1 units_here ties_here turned_here other groups)).toR fun p14 => (partR cell (20 : Int) (units_here.length : Int)).bind fun y15 => (ixR units_here y15).bind fun y16 => let first : Str := y16; (partR cell (21 : Int) (units_here.length : Int)).bind fun y17 => (ixR units_here y17).bind fun y18 => let second : Str := y18; (t__law_list_of groups first).bind fun y19 => let here : (List Str) := y19; (t__law_list_of groups second).bind fun y20 => let there : (List Str) := y20; (compR groups (fun x21 => (andB (.ok ((!decide (x21 = here)))) (.ok ((!decide (x21 = there)))))) (fun x21 => (.ok (x21)))).bind fun y23 => let rest : (List (List Str)) := y23; (addL (here : (List Str)) there).bind fun y24 => (sortedSetR y24).bind fun y25 => let joined_list : (List Str) := y25; (compR [(⟨("same" : Str), first, second, none⟩ : Tie)] (fun x26 => (.ok ((true != decide (x26 ∈ ties_here))))) (fun x26 => (.ok (x26)))).bind fun y28 => let added : (List Tie) := y28; (addL (ties_here : (List Tie)) added).bind fun y29 => (t_ones turned_here y29).bind fun y30 => (addL (rest : (List (List Str))) [joined_list]).bind fun y31 => (sortedLLR y31).bind fun y32 => .ok ((decide (y30 = y32)))))
theorem nx_law (script : List Int) : (t_law script).nox = t_law script := nox_nox
theorem tr_law (script : List Int) : f_law [(scrD script)] = (t_law script).map PyData.bool := by
  unfold f_law
  rw [f_cs]
  unfold t_law
  rw [map_nox_rc]
  simp_arith [d_law, startD, tr__law_units, nx__law_units, tr__law_ties, nx__law_ties, tr__law_cell_at, nx__law_cell_at, tr__law_turned, nx__law_turned, tr__law_other_ties, nx__law_other_ties, tr_ones, nx_ones, ne_E (eL (eL PyData.str)), ne_L, ne_nil, tr__law_list_of, nx__law_list_of, eq_E (eL PyData.str), eq_L, eq_nil, tr_one_of, nx_one_of, st_law_1, tr__law_part, ne_E (eL PyData.str), tc_law_1, add_E PyData.str, fold_tie3, sx_3, in_E2 eTie, in_l2, tc_law_2, add_E eTie, sx_4, addB_E (eL PyData.str), sx_5, sortB_LL, eq_E (eL (eL PyData.str)), chk_E eTie]
  all_goals (repeat' first | with_reducible rfl | with_reducible refine ite_cg (fun _ => ?_) (fun _ => ?_) | with_reducible refine rc_cg (fun _ => ?_) | (symm; (with_reducible apply tl_law_1); (focus decreasing_trivial); (focus decreasing_trivial); intro _; simp_arith [tr__law_units, nx__law_units, tr__law_ties, nx__law_ties, tr__law_cell_at, nx__law_cell_at, tr__law_turned, nx__law_turned, tr__law_other_ties, nx__law_other_ties, tr_ones, nx_ones, ne_E (eL (eL PyData.str)), ne_L, ne_nil, tr__law_list_of, nx__law_list_of, eq_E (eL PyData.str), eq_L, eq_nil, tr_one_of, nx_one_of, st_law_1, tr__law_part, ne_E (eL PyData.str), tc_law_1, add_E PyData.str, fold_tie3, sx_3, in_E2 eTie, in_l2, tc_law_2, add_E eTie, sx_4, addB_E (eL PyData.str), sx_5, sortB_LL, eq_E (eL (eL PyData.str)), chk_E eTie]) | with_reducible refine cc_cg (fun _ => ?_) (fun _ => ?_))
end Dg

/-! Mj: units joined by same ties; what joined and the laws' own labels come to -/
namespace Dg
open PySem PySem.Spec PyProof.Rows L2
/-- a same tie of ts between u and v, either way -/
def Sm (ts : List Tie) (u v : Str) : Prop := ∃ t ∈ ts, t.kind = Str.ofString "same" ∧ ((t.a = u ∧ t.b = v) ∨ (t.a = v ∧ t.b = u))
inductive Cn (ts : List Tie) : Str → Str → Prop
  | refl (u : Str) : Cn ts u u
  | step {u v w : Str} : Cn ts u v → Sm ts v w → Cn ts u w
theorem Sm.symm {ts : List Tie} {u v : Str} (h : Sm ts u v) : Sm ts v u := by
  obtain ⟨t, h1, h2, h3⟩ := h
  exact ⟨t, h1, h2, h3.symm⟩
theorem Cn.one {ts : List Tie} {u v : Str} (h : Sm ts u v) : Cn ts u v := .step (.refl u) h
theorem Cn.trans {ts : List Tie} {u v w : Str} (h : Cn ts u v) (h2 : Cn ts v w) : Cn ts u w := by
  induction h2 with
  | refl => exact h
  | step _ h3 ih => exact .step ih h3
theorem Cn.symm {ts : List Tie} {u v : Str} (h : Cn ts u v) : Cn ts v u := by
  induction h with
  | refl => exact .refl _
  | step _ h3 ih => exact (Cn.one h3.symm).trans ih
theorem Cn.mono {ts ts' : List Tie} {u v : Str} (hs : ∀ t ∈ ts, t ∈ ts') (h : Cn ts u v) : Cn ts' u v := by
  induction h with
  | refl => exact .refl _
  | step _ h3 ih =>
    obtain ⟨t, h1, h2⟩ := h3
    exact .step ih ⟨t, hs t h1, h2⟩
/-- each same tie lies between units -/
def TiesIn (us : List Str) (ts : List Tie) : Prop := ∀ t ∈ ts, t.a ∈ us ∧ t.b ∈ us
theorem Cn.inU {us : List Str} {ts : List Tie} {u v : Str} (ht : TiesIn us ts) (h : Cn ts u v) (hu : u ∈ us) : v ∈ us := by
  induction h with
  | refl => exact hu
  | step _ h3 ih =>
    obtain ⟨t, h1, h2, h3 | h3⟩ := h3
    · rw [← h3.2]
      exact (ht t h1).2
    · rw [← h3.1]
      exact (ht t h1).1
/-- J names each unit's least one -/
structure IsLab (us : List Str) (ts : List Tie) (J : Str → Str) : Prop where
  cn : ∀ u ∈ us, Cn ts u (J u)
  le : ∀ u ∈ us, ∀ v, Cn ts u v → leS (J u) v
theorem IsLab.mem {us : List Str} {ts : List Tie} {J : Str → Str} (h : IsLab us ts J) (ht : TiesIn us ts) {u : Str} (hu : u ∈ us) : J u ∈ us := (h.cn u hu).inU ht hu
theorem IsLab.uniq {us : List Str} {ts : List Tie} {J K : Str → Str} (h : IsLab us ts J) (h2 : IsLab us ts K) : ∀ u ∈ us, J u = K u := fun u hu => leS_antisymm (h.le u hu _ (h2.cn u hu)) (h2.le u hu _ (h.cn u hu))
theorem IsLab.eq {us : List Str} {ts : List Tie} {J : Str → Str} (h : IsLab us ts J) {u v : Str} (hu : u ∈ us) (hv : v ∈ us) (hc : Cn ts u v) : J u = J v :=
  leS_antisymm (h.le u hu _ (hc.trans (h.cn v hv))) (h.le v hv _ (hc.symm.trans (h.cn u hu)))
theorem IsLab.iff {us : List Str} {ts : List Tie} {J : Str → Str} (h : IsLab us ts J) {u v : Str} (hu : u ∈ us) (hv : v ∈ us) : J u = J v ↔ Cn ts u v :=
  ⟨fun e => (h.cn u hu).trans (by rw [e]; exact (h.cn v hv).symm), h.eq hu hv⟩
theorem IsLab.idem {us : List Str} {ts : List Tie} {J : Str → Str} (h : IsLab us ts J) (ht : TiesIn us ts) {u : Str} (hu : u ∈ us) : J (J u) = J u := (h.eq hu (h.mem ht hu) (h.cn u hu)).symm
theorem isLab_nil (us : List Str) : IsLab us [] id := ⟨fun u _ => .refl u, fun u _ v h => by
  have : u = v := by
    induction h with
    | refl => rfl
    | step _ h3 _ =>
      obtain ⟨t, h1, _⟩ := h3
      cases h1
  rw [← this]
  exact leS_refl u⟩
/-- one tie more -/
theorem cn_snoc {ts : List Tie} {t : Tie} (hk : t.kind = Str.ofString "same") {u v : Str} (h : Cn (ts ++ [t]) u v) : Cn ts u v ∨ (Cn ts u t.a ∧ Cn ts t.b v) ∨ (Cn ts u t.b ∧ Cn ts t.a v) := by
  induction h with
  | refl => exact .inl (.refl _)
  | step _ h3 ih =>
    obtain ⟨s, h1, h2, h4⟩ := h3
    rcases List.mem_append.mp h1 with h1 | h1
    · have hs : Sm ts _ _ := ⟨s, h1, h2, h4⟩
      rcases ih with ih | ⟨p, q⟩ | ⟨p, q⟩
      · exact .inl (.step ih hs)
      · exact .inr (.inl ⟨p, .step q hs⟩)
      · exact .inr (.inr ⟨p, .step q hs⟩)
    · have e := List.mem_singleton.mp h1
      subst e
      rcases h4 with ⟨rfl, rfl⟩ | ⟨rfl, rfl⟩
      · rcases ih with ih | ⟨p, q⟩ | ⟨p, q⟩
        · exact .inr (.inl ⟨ih, .refl _⟩)
        · exact .inr (.inl ⟨p, .refl _⟩)
        · exact .inl p
      · rcases ih with ih | ⟨p, q⟩ | ⟨p, q⟩
        · exact .inr (.inr ⟨ih, .refl _⟩)
        · exact .inl p
        · exact .inr (.inr ⟨p, .refl _⟩)
theorem cn_other {ts : List Tie} {t : Tie} (hk : ¬ t.kind = Str.ofString "same") {u v : Str} (h : Cn (ts ++ [t]) u v) : Cn ts u v := by
  induction h with
  | refl => exact .refl _
  | step _ h3 ih =>
    obtain ⟨s, h1, h2, h4⟩ := h3
    rcases List.mem_append.mp h1 with h1 | h1
    · exact .step ih ⟨s, h1, h2, h4⟩
    · rw [List.mem_singleton.mp h1] at h2
      exact absurd h2 hk
def relab (J : Str → Str) (here there : Str) : Str → Str := fun u => if J u = here ∨ J u = there then minS here there else J u
theorem isLab_snoc {us : List Str} {ts : List Tie} {J : Str → Str} {t : Tie} (h : IsLab us ts J) (ha : t.a ∈ us) (hb : t.b ∈ us) (hk : t.kind = Str.ofString "same") : IsLab us (ts ++ [t]) (relab J (J t.a) (J t.b)) := by
  have mono : ∀ {u v}, Cn ts u v → Cn (ts ++ [t]) u v := fun h => h.mono fun s hs => List.mem_append_left _ hs
  have hab : Cn (ts ++ [t]) t.a t.b := .one ⟨t, List.mem_append_right _ List.mem_cons_self, hk, .inl ⟨rfl, rfl⟩⟩
  have cm : Cn (ts ++ [t]) t.a (minS (J t.a) (J t.b)) := by
    rcases minS_or (J t.a) (J t.b) with e | e <;> rw [e]
    · exact mono (h.cn _ ha)
    · exact hab.trans (mono (h.cn _ hb))
  refine ⟨fun u hu => ?_, fun u hu v hv => ?_⟩
  · unfold relab
    split
    · rename_i e
      rcases e with e | e
      · exact (mono ((h.iff hu ha).mp e)).trans cm
      · exact (mono ((h.iff hu hb).mp e)).trans (hab.symm.trans cm)
    · exact mono (h.cn u hu)
  · unfold relab
    rcases cn_snoc hk hv with c | ⟨c1, c2⟩ | ⟨c1, c2⟩
    · split
      · rename_i e
        rcases e with e | e
        · exact leS_trans (minS_left _ _) (by rw [← e]; exact h.le u hu v c)
        · exact leS_trans (minS_right _ _) (by rw [← e]; exact h.le u hu v c)
      · exact h.le u hu v c
    · rw [if_pos (.inl (h.eq hu ha c1))]
      exact leS_trans (minS_right _ _) (h.le _ hb v c2)
    · rw [if_pos (.inr (h.eq hu hb c1))]
      exact leS_trans (minS_left _ _) (h.le _ ha v c2)
theorem isLab_other {us : List Str} {ts : List Tie} {J : Str → Str} {t : Tie} (h : IsLab us ts J) (hk : ¬ t.kind = Str.ofString "same") : IsLab us (ts ++ [t]) J :=
  ⟨fun u hu => (h.cn u hu).mono fun s hs => List.mem_append_left _ hs, fun u hu v hv => h.le u hu v (cn_other hk hv)⟩
/-! ### joined -/
theorem j2_loop {us : List Str} (nd : us.Nodup) (hl : us.length < 100000) (here there : Str) (J : Str → Str) : forR us (dmap us J) (ts_joined_2 here there) = .ok (dmap us (relab J here there)) := by
  let g : Str → (Str → Str) → Str → Str := fun u K => if K u = here ∨ K u = there then fset K u (minS here there) else K
  have h1 := forR_st (f := ts_joined_2 here there) (dmap us) g (fun _ => True) us J trivial fun u hu K _ => by
    refine ⟨?_, trivial⟩
    unfold ts_joined_2
    dsimp only
    rw [dget_dmap hu]
    show (orB (.ok (decide (K u = here))) (.ok (decide (K u = there)))).bind _ = _
    rw [orB_ok]
    show (if (decide (K u = here) || decide (K u = there)) = true then _ else _) = _
    by_cases hc : K u = here ∨ K u = there
    · rw [if_pos (by simpa using hc), putR_dmap nd hu hl]
      show R.ok _ = R.ok (dmap us (if K u = here ∨ K u = there then _ else K))
      rw [if_pos hc]
    · rw [if_neg (by simpa using hc)]
      show R.ok _ = R.ok (dmap us (if K u = here ∨ K u = there then _ else K))
      rw [if_neg hc]
  rw [h1.1]
  congr 1
  have key : ∀ (l : List Str) (K : Str → Str), (∀ w, K w = J w ∨ K w = relab J here there w) → ∀ w, (l.foldl (fun K u => g u K) K w = if w ∈ l then relab J here there w else K w) := by
    intro l
    induction l with
    | nil => intro K _ w; simp
    | cons u l ih =>
      intro K hK w
      rw [List.foldl_cons]
      have gw : ∀ w, g u K w = if w = u then relab J here there w else K w := by
        intro w
        show (if K u = here ∨ K u = there then fset K u (minS here there) else K) w = _
        have mm : minS here there = here ∨ minS here there = there := minS_or here there
        by_cases hc : K u = here ∨ K u = there
        · rw [if_pos hc]
          by_cases e : w = u
          · subst e
            rw [if_pos rfl, show fset K w (minS here there) w = minS here there from if_pos rfl]
            unfold relab
            rcases hK w with q | q
            · rw [if_pos (by rw [← q]; exact hc)]
            · unfold relab at q
              split at q
              · rename_i h; rw [if_pos h]
              · rename_i h; rw [q] at hc; exact absurd hc h
          · rw [if_neg e, show fset K u (minS here there) w = K w from if_neg e]
        · rw [if_neg hc]
          by_cases e : w = u
          · subst e
            rw [if_pos rfl]
            rcases hK w with q | q
            · unfold relab
              rw [if_neg (by rw [← q]; exact hc), q]
            · exact q
          · rw [if_neg e]
      rw [ih (g u K) (fun w => by
        rw [gw w]
        by_cases e : w = u
        · rw [if_pos e]; exact .inr rfl
        · rw [if_neg e]; exact hK w) w, gw w]
      by_cases e1 : w ∈ l
      · rw [if_pos e1, if_pos (List.mem_cons_of_mem _ e1)]
      · rw [if_neg e1]
        by_cases e : w = u
        · rw [if_pos e, if_pos (by rw [e]; exact List.mem_cons_self)]
        · rw [if_neg e, if_neg (fun z => (List.mem_cons.mp z).elim e e1)]
  exact dmap_congr fun w hw => by rw [key us J (fun w => .inl rfl) w, if_pos hw]
theorem m_joined {us : List Str} {ts : List Tie} (nd : us.Nodup) (hl : us.length < 100000) (ht : TiesIn us ts) : ∃ J, t_joined us ts = .ok (dmap us J) ∧ IsLab us ts J := by
  have h1 : forR us [] ts_joined_1 = .ok (dmap us id) := dict_made (f := ts_joined_1) id nd hl fun u _ s => rfl
  obtain ⟨s, h2, J, h3, h4⟩ := forR_inv (f := ts_joined_3 us) (fun d s => ∃ J, s = dmap us J ∧ IsLab us d J) ts [] (dmap us id) ⟨id, rfl, isLab_nil us⟩ fun d t s ht0 hs => by
    obtain ⟨J, rfl, hJ⟩ := hs
    obtain ⟨ha, hb⟩ := ht t ht0
    by_cases hk : t.kind = Str.ofString "same"
    · refine ⟨_, ?_, relab J (J t.a) (J t.b), rfl, isLab_snoc hJ ha hb hk⟩
      unfold ts_joined_3
      dsimp only
      rw [dget_dmap ha, dget_dmap hb, if_pos (decide_eq_true hk)]
      show (forR us (dmap us J) (ts_joined_2 (J t.a) (J t.b))).bind _ = _
      rw [j2_loop nd hl]
      rfl
    · refine ⟨_, ?_, J, rfl, isLab_other hJ hk⟩
      unfold ts_joined_3
      dsimp only
      rw [if_neg (by simpa using hk)]
  refine ⟨J, ?_, by rw [List.nil_append] at h4; exact h4⟩
  unfold t_joined
  dsimp only
  rw [h1]
  show R.nox ((forR ts (dmap us id) (ts_joined_3 us)).bind _) = _
  rw [h2, h3]
  rfl
end Dg

/-! Mu: units by drawn names, turned about; ties between any two; what ones tells -/
namespace Dg
open PySem PySem.Spec PyProof.Rows L2
theorem u_cell (ns : List Int) (k : Nat) : t__law_cell_at ns (k : Int) = .ok (ns.getD k 0) := by
  unfold t__law_cell_at
  by_cases h : k < ns.length
  · rw [if_pos (by simpa using h), ixR_nat h, R.bind_ok, List.getD_eq_getElem?_getD, List.getElem?_eq_getElem h]
    rfl
  · rw [if_neg (by simpa using h), List.getD_eq_getElem?_getD, List.getElem?_eq_none (by omega)]
    rfl
def num1 (one at_ k : Int) (j : Nat) : Int := if (j : Int) = at_ then part one (j + 2) 37 + k else part one (j + 2) 37
theorem n1_inner (one at_ k : Int) (n : Nat) (hn : n ≤ 12) : forR ((List.range n).map fun (i : Nat) => (i : Int)) (Str.ofString "") (ts__law_names_1 one signsT at_ k) = .ok (nameBy (num1 one at_ k) n) := by
  obtain ⟨s, h1, h2⟩ := forR_pre (f := ts__law_names_1 one signsT at_ k) (fun d s => s = nameBy (num1 one at_ k) d.length) (all := (List.range n).map fun (i : Nat) => (i : Int)) (s0 := Str.ofString "") (nameBy_zero _).symm fun d x rest s e hs => by
    obtain ⟨rfl, hd⟩ := range_pre e
    subst hs
    refine ⟨_, ?_, rfl⟩
    unfold ts__law_names_1
    dsimp only
    rw [partR_ok (by decide), R.bind_ok, List.length_append, List.length_singleton, ← nameBy_succ]
    have key : ∀ n : Int, (modR n 37).bind (fun y9 => (ixSR signsT y9).bind fun y10 => (addS (nameBy (num1 one at_ k) d.length) y10).bind fun y11 => R.ok y11) = .ok (nameBy (num1 one at_ k) d.length ++ ⟨#[signAt n]⟩) := fun n => by
      rw [modR_ok (by decide), R.bind_ok, sign_ix, R.bind_ok, addS_ok (by rw [nameBy_len]; show d.length + 1 ≤ 100000; omega)]
      rfl
    by_cases hc : (d.length : Int) = at_
    · rw [if_pos (by simpa using hc), R.bind_ok, key]
      rw [show num1 one at_ k d.length = part one (d.length + 2) 37 + k from if_pos hc]
    · rw [if_neg (by simpa using hc), R.bind_ok, key]
      rw [show num1 one at_ k d.length = part one (d.length + 2) 37 from if_neg hc]
  rw [h1, h2, List.length_map, List.length_range]
theorem m_names1 (one other : Int) : ∃ ns : List Str, t__law_names one other 9 = .ok ns ∧ ns.length = 9 ∧ ns.Nodup := by
  obtain ⟨p1, p2⟩ := part_pos one 0 (m := 12) (by decide)
  obtain ⟨q1, q2⟩ := part_pos other 1 (m := 1 + part one 0 12) (by omega)
  generalize hsize : 1 + part one 0 12 = size at *
  generalize hat : part other 1 size = at_ at *
  obtain ⟨n, rfl, n1, n2⟩ : ∃ n : Nat, size = n ∧ 1 ≤ n ∧ n ≤ 12 := ⟨size.toNat, by omega, by omega, by omega⟩
  obtain ⟨m, rfl, m1⟩ : ∃ m : Nat, at_ = m ∧ m < n := ⟨at_.toNat, by omega, by omega⟩
  obtain ⟨s, h1, rfl, _⟩ := forR_pre (f := ts__law_names_2 one signsT n m) (fun d s => s = (List.range d.length).map (fun (k : Nat) => nameBy (num1 one m k) n) ∧ d.length ≤ 9) (all := (List.range 9).map fun (i : Nat) => (i : Int)) (s0 := []) ⟨rfl, by simp⟩ fun d x rest s e hs => by
    obtain ⟨rfl, hd⟩ := range_pre e
    obtain ⟨rfl, _⟩ := hs
    refine ⟨_, ?_, rfl, by rw [List.length_append, List.length_singleton]; omega⟩
    unfold ts__law_names_2
    dsimp only
    rw [rangeR_nat (by omega), R.bind_ok]
    have hi := n1_inner one m d.length n n2
    rw [show ("" : Str) = Str.ofString "" from rfl, hi, R.bind_ok, List.length_append, List.length_singleton, List.range_succ, List.map_append]
    rw [appR_ok (by rw [List.length_map, List.length_range]; omega)]
    rfl
  rw [List.length_map, List.length_range] at h1
  have hr : rangeR 9 = .ok ((List.range 9).map fun (i : Nat) => (i : Int)) := rangeR_nat (n := 9) (by decide)
  have start : t__law_names one other 9 = if (decide ((9 : Int) ≤ n) && decide (other % 2 = 1)) = true then .ok ((List.range 9).map fun (k : Nat) => nameBy (num1 one m 0) (n - k)) else .ok ((List.range 9).map fun (k : Nat) => nameBy (num1 one m k) n) := by
    unfold t__law_names
    dsimp only
    rw [partR_ok (by decide), R.bind_ok, hsize, partR_ok (by omega), R.bind_ok, hat, hr, R.bind_ok]
    rw [show ("abcdefghijklmnopqrstuvwxyz0123456789-" : Str) = signsT from rfl, h1, R.bind_ok, modR_ok (by decide), R.bind_ok, andB_ok, R.bind_ok]
    by_cases hc : (decide ((9 : Int) ≤ n) && decide (other % 2 = 1)) = true
    · rw [if_pos hc, if_pos hc, R.bind_ok]
      rw [Bool.and_eq_true, decide_eq_true_eq] at hc
      have h0 : ixR ((List.range 9).map fun (k : Nat) => nameBy (num1 one m k) n) 0 = .ok (nameBy (num1 one m 0) n) := ixR_get (k := 0) (by simp [List.range_succ])
      rw [compR_map (fun x => nameBy (num1 one m 0) (n - x.toNat)) (by rw [List.length_map, List.length_range]; omega) fun x hx => by
        obtain ⟨i, hi, rfl⟩ := List.mem_map.mp hx
        rw [List.mem_range] at hi
        rw [h0, R.bind_ok, show (n : Int) - (i : Int) = ((n - i : Nat) : Int) by omega, cutR_ok (by rw [nameBy_len]; omega), R.bind_ok, cut_nameBy _ _ _ (by omega), Int.toNat_natCast], R.bind_ok, List.map_map]
      rfl
    · rw [if_neg hc, if_neg hc]
      rfl
  rw [start]
  by_cases hc : (decide ((9 : Int) ≤ n) && decide (other % 2 = 1)) = true
  · rw [if_pos hc]
    rw [Bool.and_eq_true, decide_eq_true_eq] at hc
    refine ⟨_, rfl, by rw [List.length_map, List.length_range], nodup_map_range _ 9 fun k l hk hl e => ?_⟩
    have e1 := congrArg Str.length e
    rw [nameBy_len, nameBy_len] at e1
    omega
  · rw [if_neg hc]
    refine ⟨_, rfl, by rw [List.length_map, List.length_range], nodup_map_range _ 9 fun k l hk hl e => ?_⟩
    have e1 := nameBy_at (num1 one m k) n m m1
    rw [e, nameBy_at _ _ _ m1] at e1
    have e2 := signAt_inj (Option.some.inj e1)
    unfold num1 at e2
    rw [if_pos rfl, if_pos rfl] at e2
    omega
theorem m_units (ns : List Int) : ∃ us, t__law_units ns = .ok us ∧ us.Nodup ∧ 1 ≤ us.length ∧ us.length ≤ 9 := by
  have c0 : t__law_cell_at ns 0 = .ok (ns.getD 0 0) := u_cell ns 0
  have c1 : t__law_cell_at ns 1 = .ok (ns.getD 1 0) := u_cell ns 1
  have c2 : t__law_cell_at ns 2 = .ok (ns.getD 2 0) := u_cell ns 2
  generalize ns.getD 2 0 = c at c2
  obtain ⟨xs, h1, h2, h3⟩ := m_names1 (ns.getD 0 0) (ns.getD 1 0)
  have a1 := Int.emod_nonneg c (show (9 : Int) ≠ 0 by decide)
  have a2 := Int.emod_lt_of_pos c (show (0 : Int) < 9 by decide)
  refine ⟨xs.take (1 + (c % 9).toNat), ?_, h3.sublist (List.take_sublist _ _), ?_, ?_⟩
  · unfold t__law_units
    rw [c0, R.bind_ok, c1, R.bind_ok, h1, R.bind_ok, c2, R.bind_ok, modR_ok (by decide), R.bind_ok, show (1 : Int) + c % 9 = ((1 + (c % 9).toNat : Nat) : Int) by omega, cutA_to]
    rfl
  · rw [List.length_take]
    omega
  · rw [List.length_take]
    omega
theorem m_turned (us : List Str) (c : Int) (hl : us.length < 100) : ∃ vs, t__law_turned us c = .ok vs ∧ vs.Perm us := by
  obtain ⟨vs, h1, h2⟩ := forR_pre (f := ts__law_turned_1 us c) (fun d s => s.Perm (us.take d.length)) (all := (List.range us.length).map fun (i : Nat) => (i : Int)) (s0 := []) (by simp) fun d x rest s e hs => by
    obtain ⟨rfl, hd⟩ := range_pre e
    have hsl : s.length = d.length := by
      rw [hs.length_eq, List.length_take]
      omega
    obtain ⟨p1, p2⟩ := part_pos c d.length (m := (s.length : Int) + 1) (by omega)
    refine ⟨_, ?_, (?_ : (s.take (part c d.length ((s.length : Int) + 1)).toNat ++ [us[d.length]] ++ s.drop (part c d.length ((s.length : Int) + 1)).toNat).Perm (us.take (d ++ [(d.length : Int)]).length))⟩
    · unfold ts__law_turned_1
      dsimp only
      rw [partR_ok (by omega), R.bind_ok, ixR_nat hd, R.bind_ok]
      unfold insR
      rw [if_pos ⟨by have := line_ge; omega, decide_eq_true (by omega), p1⟩]
      rfl
    · rw [List.length_append, List.length_singleton, List.take_succ, List.getElem?_eq_getElem hd, List.append_assoc]
      refine List.perm_middle.trans ?_
      rw [show ([] : List Str).append (s.drop (part c d.length ((s.length : Int) + 1)).toNat) = s.drop (part c d.length ((s.length : Int) + 1)).toNat from rfl, List.take_append_drop]
      exact (List.Perm.cons _ hs).trans (List.perm_append_singleton _ _).symm
  refine ⟨vs, ?_, ?_⟩
  · unfold t__law_turned
    dsimp only
    rw [rangeR_nat (by omega), R.bind_ok, h1]
    rfl
  · rw [List.length_map, List.length_range, List.take_length] at h2
    exact h2
theorem ten60 : powR 10 60 = .ok (10 ^ 60) := if_pos (show (0 : Int) ≤ 60 ∧ (60 : Int) ≤ 1000000 ∧ (10 : Int).natAbs < 2 ^ 64 by decide)
theorem m_ties1 (us : List Str) (hu : 0 < us.length) (cs : List Int) (hc : cs.length ≤ 100) : ∃ ts, t__law_ties us cs = .ok ts ∧ TiesIn us ts ∧ ts.length ≤ cs.length := by
  obtain ⟨ts, h1, h2, h3⟩ := forR_pre (f := ts__law_ties_1 us) (fun d ts => TiesIn us ts ∧ ts.length ≤ d.length) (all := cs) (s0 := []) ⟨(fun t h => by cases h), Nat.le_refl _⟩ fun d c rest s e hP => by
    obtain ⟨p1, p2⟩ := hP
    have hd := pre_len e
    obtain ⟨j, hj, hj2⟩ := part_nat' c 2 (m := (us.length : Int)) (by omega)
    obtain ⟨j', hj', hj2'⟩ := part_nat' c 3 (m := (us.length : Int)) (by omega)
    obtain ⟨a, ha, ea⟩ := ixR_mem (xs := us) (i := (j : Int)) (by omega) hj2
    obtain ⟨b, hb, eb⟩ := ixR_mem (xs := us) (i := (j' : Int)) (by omega) hj2'
    obtain ⟨k1, k2⟩ := part_pos c 4 (m := 6) (by decide)
    obtain ⟨kd, _, ek⟩ := ixR_mem (xs := [("over" : Str), ("cuts" : Str), ("fills" : Str), ("after" : Str), ("same" : Str), ("same" : Str)]) (i := part c 4 6) k1 k2
    have fin : ∀ t : Tie, t.a = a → t.b = b → ∃ s', (if (true != decide (t ∈ s)) = true then (appR s t).bind fun s => .ok s else R.ok s) = .ok s' ∧ TiesIn us s' ∧ s'.length ≤ (d ++ [c]).length := fun t e1 e2 => by
      by_cases hin : t ∈ s
      · exact ⟨s, by rw [if_neg (by simpa using hin)], p1, by rw [List.length_append]; omega⟩
      · refine ⟨s ++ [t], by rw [if_pos (by simpa using hin), appR_ok (by omega)]; rfl, fun t2 h2 => ?_, by rw [List.length_append, List.length_append]; simpa using p2⟩
        rcases List.mem_append.mp h2 with w | w
        · exact p1 t2 w
        · rw [List.mem_singleton.mp w, e1, e2]
          exact ⟨ha, hb⟩
    unfold ts__law_ties_1
    dsimp only
    rw [partR_ok (by omega), R.bind_ok, hj, ea, R.bind_ok, partR_ok (by omega), R.bind_ok, hj', eb, R.bind_ok, partR_ok (by decide), R.bind_ok, ek, R.bind_ok]
    have hm : mulR c 48271 = .ok (c * 48271) := by
      unfold mulR
      rw [show smallI 48271 = true by decide, Bool.or_true, if_pos rfl]
    rw [hm, R.bind_ok, ten60, R.bind_ok, modR_ok (by decide), R.bind_ok]
    by_cases hk : kd = ("after" : Str)
    · rw [decide_eq_true hk, if_pos rfl, R.bind_ok]
      exact fin _ rfl rfl
    · rw [decide_eq_false hk, if_neg Bool.false_ne_true, R.bind_ok]
      exact fin _ rfl rfl
  refine ⟨ts, ?_, h2, h3⟩
  unfold t__law_ties
  dsimp only
  rw [h1]
  rfl
/-! ### the lists of all ones -/
theorem u_memS {x : Str} {xs : List Str} : x ∈ sortS xs ↔ x ∈ xs := (List.mergeSort_perm xs _).mem_iff
theorem u_lenS (xs : List Str) : (sortS xs).length = xs.length := List.length_mergeSort xs
theorem u_sorted {xs : List Str} : (sortS xs).Pairwise fun a b => leS a b := (List.pairwise_mergeSort leStr_trans leStr_total xs).imp fun h => of_decide_eq_true h
theorem u_ndS {xs : List Str} (h : xs.Nodup) : (sortS xs).Nodup := (List.mergeSort_perm xs _).nodup_iff.mpr h
theorem u_sortedSR {xs : List Str} (h : xs.length < 100000) : sortedSR xs = .ok (sortS xs) := if_pos (by have := line_ge; omega)
def headsU (us : List Str) (J : Str → Str) : List Str := sortS (us.filter fun u => decide (J u = u))
def grpU (us : List Str) (J : Str → Str) (n : Str) : List Str := sortS (us.filter fun u => decide (J u = n))
theorem mem_heads {us : List Str} {J : Str → Str} {u : Str} : u ∈ headsU us J ↔ u ∈ us ∧ J u = u := by
  unfold headsU
  rw [u_memS, List.mem_filter, decide_eq_true_eq]
theorem mem_grp {us : List Str} {J : Str → Str} {n u : Str} : u ∈ grpU us J n ↔ u ∈ us ∧ J u = n := by
  unfold grpU
  rw [u_memS, List.mem_filter, decide_eq_true_eq]
theorem grp_nd {us : List Str} {J : Str → Str} {n : Str} (nd : us.Nodup) : (grpU us J n).Nodup := u_ndS (nd.sublist List.filter_sublist)
theorem heads_nd {us : List Str} {J : Str → Str} (nd : us.Nodup) : (headsU us J).Nodup := u_ndS (nd.sublist List.filter_sublist)
theorem grp_len {us : List Str} {J : Str → Str} {n : Str} : (grpU us J n).length ≤ us.length := by
  unfold grpU
  rw [u_lenS]
  exact List.length_filter_le _ _
theorem heads_len {us : List Str} {J : Str → Str} : (headsU us J).length ≤ us.length := by
  unfold headsU
  rw [u_lenS]
  exact List.length_filter_le _ _
def grpsU (us : List Str) (J : Str → Str) : List (List Str) := (headsU us J).map (grpU us J)
theorem m_onesL {us : List Str} {ts : List Tie} {J : Str → Str} (nd : us.Nodup) (hl : us.length < 10000) (ht : TiesIn us ts) (hJ : IsLab us ts J) : t_ones us ts = .ok (grpsU us J) := by
  obtain ⟨K, h1, hK⟩ := m_joined nd (by omega) ht
  rw [dmap_congr (hK.uniq hJ)] at h1
  have fl : ∀ p : Str → Bool, (us.filter p).length < 100000 := fun p => Nat.lt_of_le_of_lt (List.length_filter_le _ _) (by omega)
  have h2 : t_names_of_ones us ts = .ok (headsU us J) := by
    unfold t_names_of_ones
    dsimp only
    rw [h1, R.bind_ok]
    have hc := compR_ok (xs := us) (c := fun x2 => (optR (dget (dmap us J) x2)).bind fun y3 => R.ok (decide (y3 = x2))) (f := fun x2 => R.ok x2) (fun u => decide (J u = u)) (fun u => u) (by omega) fun u hu => ⟨by rw [dget_dmap hu]; rfl, fun _ => rfl⟩
    rw [hc, R.bind_ok, List.map_id', u_sortedSR (fl _)]
    rfl
  obtain ⟨s, h3, rfl, _⟩ := forR_pre (f := ts_ones_1 us (dmap us J)) (fun d s => s = d.map (grpU us J) ∧ d.length ≤ us.length) (all := headsU us J) (s0 := []) ⟨rfl, Nat.zero_le _⟩ fun d n rest s e hs => by
    obtain ⟨rfl, _⟩ := hs
    have hd := pre_len e
    have hh : (headsU us J).length ≤ us.length := heads_len
    refine ⟨d.map (grpU us J) ++ [grpU us J n], ?_, by rw [List.map_append]; rfl, by rw [List.length_append, List.length_singleton]; omega⟩
    unfold ts_ones_1
    dsimp only
    have hc := compR_ok (xs := us) (c := fun x3 => (optR (dget (dmap us J) x3)).bind fun y3 => R.ok (decide (y3 = n))) (f := fun x2 => R.ok x2) (fun u => decide (J u = n)) (fun u => u) (by omega) fun u hu => ⟨by rw [dget_dmap hu]; rfl, fun _ => rfl⟩
    rw [hc, R.bind_ok, List.map_id', u_sortedSR (fl _), R.bind_ok, appR_ok (by rw [List.length_map]; omega)]
    rfl
  unfold t_ones
  dsimp only
  rw [h1, R.bind_ok, h2, R.bind_ok, h3]
  rfl
/-- a list of ones is begun by the one -/
theorem grp_first {us : List Str} {ts : List Tie} {J : Str → Str} (ht : TiesIn us ts) (hJ : IsLab us ts J) {n : Str} (hn : n ∈ headsU us J) : ∃ r, grpU us J n = n :: r := by
  obtain ⟨n1, n2⟩ := mem_heads.mp hn
  have hin : n ∈ grpU us J n := mem_grp.mpr ⟨n1, n2⟩
  have hs : (grpU us J n).Pairwise fun a b => leS a b := u_sorted
  cases e : grpU us J n with
  | nil =>
    rw [e] at hin
    cases hin
  | cons x r =>
    rw [e] at hin hs
    have hx := mem_grp.mp (show x ∈ grpU us J n by rw [e]; exact List.mem_cons_self)
    have le1 : leS n x := by
      have := hJ.le x hx.1 x (.refl x)
      rw [hx.2] at this
      exact this
    rcases List.mem_cons.mp hin with q | q
    · exact ⟨r, by rw [q]⟩
    · exact ⟨r, by rw [leS_antisymm le1 (List.rel_of_pairwise_cons hs q)]⟩
theorem heads_of {us : List Str} {ts : List Tie} {J : Str → Str} (ht : TiesIn us ts) (hJ : IsLab us ts J) {u : Str} (hu : u ∈ us) : J u ∈ headsU us J := mem_heads.mpr ⟨hJ.mem ht hu, hJ.idem ht hu⟩
theorem ltS_of {a b : Str} (h : leS a b) (hn : a ≠ b) : ltS a b = true := decide_eq_true (Std.not_le.mp fun z => hn (leS_antisymm h z))
end Dg

/-! M13: the law k13 -/
namespace Dg
open PySem PySem.Spec PyProof.Rows L2
theorem tc_ok {α S V : Type} (a : α) (k : α → Ct S V) : (R.ok a).toC k = k a := rfl
theorem op_ok {α : Type} (a : α) : optR (some a) = .ok a := rfl
theorem bne_t {b : Bool} : (true != b) = !b := by cases b <;> rfl
theorem bne_f {b : Bool} : (false != b) = b := by cases b <;> rfl
theorem r_forC {α V : Type} {f : α → Unit → Ct Unit V} : ∀ {xs : List α}, (∀ x ∈ xs, f x () = .nx ()) → forC xs () f = .nx ()
  | [], _ => rfl
  | x :: xs, h => by
    rw [forC, h x List.mem_cons_self]
    exact r_forC fun y hy => h y (List.mem_cons_of_mem _ hy)
theorem forC_pre {α S V : Type} {f : α → S → Ct S V} (P : List α → S → Prop) (Rt : V → Prop) {all : List α} {s0 : S} (h0 : P [] s0) (h : ∀ d x rest s, all = d ++ x :: rest → P d s → (∃ s', f x s = .nx s' ∧ P (d ++ [x]) s') ∨ ∃ v, f x s = .ret v ∧ Rt v) : (∃ s', forC all s0 f = .nx s' ∧ P all s') ∨ ∃ v, forC all s0 f = .ret v ∧ Rt v := by
  have key : ∀ (xs done : List α) (s : S), all = done ++ xs → P done s → (∃ s', forC xs s f = .nx s' ∧ P all s') ∨ ∃ v, forC xs s f = .ret v ∧ Rt v := by
    intro xs
    induction xs with
    | nil =>
      intro done s e hP
      rw [List.append_nil] at e
      rw [e]
      exact .inl ⟨s, rfl, hP⟩
    | cons x xs ih =>
      intro done s e hP
      rcases h done x xs s e hP with ⟨s', h1, h2⟩ | ⟨v, h1, h2⟩
      · have := ih (done ++ [x]) s' (by rw [List.append_assoc]; exact e) h2
        rw [forC, h1]
        exact this
      · rw [forC, h1]
        exact .inr ⟨v, rfl, h2⟩
  exact key all [] s0 rfl h0
theorem ixR0 {α : Type} (x : α) (r : List α) : ixR (x :: r) (0 : Int) = .ok x := ixR_get (k := 0) rfl
/-! ### same ties, turned or not -/
def EndsAs (t u : Tie) : Prop := (t.a = u.a ∧ t.b = u.b) ∨ (t.a = u.b ∧ t.b = u.a)
def Sam (t : Tie) : Prop := t.kind = Str.ofString "same"
theorem sm_of {ts os : List Tie} (h : ∀ t ∈ os, Sam t ∧ ∃ u ∈ ts, Sam u ∧ EndsAs t u) {x y : Str} (s : Sm os x y) : Sm ts x y := by
  obtain ⟨t, ht, _, e⟩ := s
  obtain ⟨_, u, hu, hs, e2⟩ := h t ht
  refine ⟨u, hu, hs, ?_⟩
  rcases e with ⟨e, f⟩ | ⟨e, f⟩ <;> rcases e2 with ⟨g, k⟩ | ⟨g, k⟩
  · exact .inl ⟨g.symm.trans e, k.symm.trans f⟩
  · exact .inr ⟨k.symm.trans f, g.symm.trans e⟩
  · exact .inr ⟨g.symm.trans e, k.symm.trans f⟩
  · exact .inl ⟨k.symm.trans f, g.symm.trans e⟩
theorem cn_of {ts os : List Tie} (h : ∀ x y, Sm os x y → Sm ts x y) {x y : Str} (c : Cn os x y) : Cn ts x y := by
  induction c with
  | refl => exact .refl _
  | step _ s ih => exact .step ih (h _ _ s)
theorem m_other {us : List Str} {ts : List Tie} (ht : TiesIn us ts) (hl : ts.length ≤ 100) (c : Int) : ∃ os, t__law_other_ties ts c = .ok os ∧ (∀ t ∈ os, Sam t ∧ ∃ u ∈ ts, Sam u ∧ EndsAs t u) ∧ (∀ u ∈ ts, Sam u → ∃ t ∈ os, Sam t ∧ EndsAs u t) ∧ os.length ≤ ts.length := by
  obtain ⟨os, h1, h2, h3, h4⟩ := forR_pre (f := ts__law_other_ties_1 ts c) (fun d os => (∀ t ∈ os, Sam t ∧ ∃ u ∈ ts, Sam u ∧ EndsAs t u) ∧ (∀ u ∈ ts.take d.length, Sam u → ∃ t ∈ os, Sam t ∧ EndsAs u t) ∧ os.length ≤ d.length) (all := (List.range ts.length).map fun (i : Nat) => (i : Int)) (s0 := []) ⟨(fun t h => by cases h), (fun u h => by simp at h), Nat.le_refl _⟩ fun d x rest s e hP => by
    obtain ⟨rfl, hd⟩ := range_pre e
    obtain ⟨p1, p2, p3⟩ := hP
    have htk : ∀ u, u ∈ ts.take (d ++ [(d.length : Int)]).length ↔ u ∈ ts.take d.length ∨ u = ts[d.length] := fun u => by
      rw [List.length_append, List.length_singleton, List.take_succ_eq_append_getElem hd, List.mem_append, List.mem_singleton]
    have hm : mulR (c + (d.length : Int)) 48271 = .ok ((c + (d.length : Int)) * 48271) := by
      unfold mulR
      rw [show smallI 48271 = true by decide, Bool.or_true, if_pos rfl]
    unfold ts__law_other_ties_1
    dsimp only
    rw [ixR_nat hd, R.bind_ok]
    try dsimp only
    rw [hm, R.bind_ok, modR_ok (by decide), R.bind_ok, modR_ok (by decide), R.bind_ok, show ("same" : Str) = Str.ofString "same" from rfl, andB_ok, R.bind_ok]
    -- what is put in, or not
    have fin : ∀ t : Tie, (Sam ts[d.length] → Sam t ∧ EndsAs t ts[d.length]) → (Sam t → Sam ts[d.length]) → ∃ s', ((andB (.ok (decide (t.kind = Str.ofString "same"))) (.ok (true != decide (t ∈ s)))).bind fun q8 => if q8 = true then (partR c (d.length : Int) ((s.length : Int) + 1)).bind fun y9 => (insR s y9 t).bind fun other => .ok other else .ok s) = .ok s' ∧ (∀ t ∈ s', Sam t ∧ ∃ u ∈ ts, Sam u ∧ EndsAs t u) ∧ (∀ u ∈ ts.take (d ++ [(d.length : Int)]).length, Sam u → ∃ t ∈ s', Sam t ∧ EndsAs u t) ∧ s'.length ≤ (d ++ [(d.length : Int)]).length := fun t e1 e2 => by
      have sym : EndsAs t ts[d.length] → EndsAs ts[d.length] t := fun z => by
        rcases z with ⟨a, b⟩ | ⟨a, b⟩
        · exact .inl ⟨a.symm, b.symm⟩
        · exact .inr ⟨b.symm, a.symm⟩
      have dl : (d ++ [(d.length : Int)]).length = d.length + 1 := by rw [List.length_append, List.length_singleton]
      rw [andB_ok, R.bind_ok, bne_t]
      by_cases hk : t.kind = Str.ofString "same"
      · by_cases hin : t ∈ s
        · rw [decide_eq_true hin, Bool.not_true, Bool.and_false, if_neg (by decide)]
          refine ⟨s, rfl, p1, fun u hu hs => ?_, by omega⟩
          rcases (htk u).mp hu with w | w
          · exact p2 u w hs
          · rw [w] at hs ⊢
            exact ⟨t, hin, hk, sym (e1 hs).2⟩
        · rw [decide_eq_true hk, decide_eq_false hin, if_pos (by decide)]
          obtain ⟨q1, q2⟩ := part_pos c d.length (m := (s.length : Int) + 1) (by omega)
          rw [partR_ok (by omega), R.bind_ok]
          have hi : insR s (part c d.length ((s.length : Int) + 1)) t = .ok (s.take (part c d.length ((s.length : Int) + 1)).toNat ++ [t] ++ s.drop (part c d.length ((s.length : Int) + 1)).toNat) := if_pos ⟨by have := line_ge; omega, decide_eq_true (by omega), q1⟩
          have mm : ∀ z, z ∈ s.take (part c d.length ((s.length : Int) + 1)).toNat ++ [t] ++ s.drop (part c d.length ((s.length : Int) + 1)).toNat ↔ z ∈ s ∨ z = t := fun z => by
            have h0 := List.take_append_drop (part c d.length ((s.length : Int) + 1)).toNat s
            have h1 : z ∈ s ↔ z ∈ s.take (part c d.length ((s.length : Int) + 1)).toNat ∨ z ∈ s.drop (part c d.length ((s.length : Int) + 1)).toNat := by
              rw [← List.mem_append, h0]
            rw [List.mem_append, List.mem_append, List.mem_singleton, h1]
            constructor
            · rintro ((a | a) | a)
              · exact .inl (.inl a)
              · exact .inr a
              · exact .inl (.inr a)
            · rintro ((a | a) | a)
              · exact .inl (.inl a)
              · exact .inr a
              · exact .inl (.inr a)
          rw [hi, R.bind_ok]
          refine ⟨_, rfl, fun z hz => ?_, fun u hu hs => ?_, ?_⟩
          · rcases (mm z).mp hz with w | w
            · exact p1 z w
            · rw [w]
              exact ⟨hk, ts[d.length], List.getElem_mem hd, e2 hk, (e1 (e2 hk)).2⟩
          · rcases (htk u).mp hu with w | w
            · obtain ⟨t2, g1, g2⟩ := p2 u w hs
              exact ⟨t2, (mm t2).mpr (.inl g1), g2⟩
            · rw [w] at hs ⊢
              exact ⟨t, (mm t).mpr (.inr rfl), hk, sym (e1 hs).2⟩
          · rw [List.length_append, List.length_append, List.length_singleton, List.length_take, List.length_drop]
            omega
      · rw [decide_eq_false hk, Bool.false_and, if_neg (by decide)]
        refine ⟨s, rfl, p1, fun u hu hs => ?_, by omega⟩
        rcases (htk u).mp hu with w | w
        · exact p2 u w hs
        · rw [w] at hs
          exact absurd (e1 hs).1 hk
    generalize hb : (decide (ts[d.length].kind = Str.ofString "same") && decide ((c + (d.length : Int)) * 48271 % 65537 % 2 = 1)) = b
    cases b with
    | true =>
      have hk := of_decide_eq_true (Bool.and_eq_true_iff.mp hb).1
      rw [if_pos rfl, R.bind_ok]
      exact fin ⟨Str.ofString "same", ts[d.length].b, ts[d.length].a, none⟩ (fun _ => ⟨rfl, .inr ⟨rfl, rfl⟩⟩) (fun _ => hk)
    | false =>
      rw [if_neg (by decide), R.bind_ok]
      exact fin ts[d.length] (fun h => ⟨h, .inl ⟨rfl, rfl⟩⟩) (fun h => h)
  rw [List.length_map, List.length_range, List.take_length] at h3
  rw [List.length_map, List.length_range] at h4
  refine ⟨os, ?_, h2, h3, h4⟩
  unfold t__law_other_ties
  dsimp only
  rw [rangeR_nat (by omega), R.bind_ok, h1]
  rfl
/-! ### the lists are alike in any order -/
theorem isLab_as {us vs : List Str} {ts os : List Tie} {J : Str → Str} (h : IsLab us ts J) (hm : ∀ x, x ∈ vs ↔ x ∈ us) (h1 : ∀ x y, Cn ts x y ↔ Cn os x y) : IsLab vs os J :=
  ⟨fun u hu => (h1 _ _).mp (h.cn u ((hm u).mp hu)), fun u hu v c => h.le u ((hm u).mp hu) v ((h1 _ _).mpr c)⟩
theorem perm_sortS {xs ys : List Str} (h : xs.Perm ys) : sortS xs = sortS ys := sortS_perm h
theorem heads_perm {us vs : List Str} {J : Str → Str} (h : vs.Perm us) : headsU vs J = headsU us J := perm_sortS (h.filter _)
theorem grp_perm {us vs : List Str} {J : Str → Str} (h : vs.Perm us) (n : Str) : grpU vs J n = grpU us J n := perm_sortS (h.filter _)
theorem grps_perm {us vs : List Str} {J : Str → Str} (h : vs.Perm us) : grpsU vs J = grpsU us J := by
  unfold grpsU
  rw [heads_perm h]
  exact List.map_congr_left fun n _ => grp_perm h n
section
variable {us : List Str} {ts : List Tie} {J : Str → Str}
theorem m_oneof (nd : us.Nodup) (hul : us.length < 100) (ht : TiesIn us ts) (hJ : IsLab us ts J) {u : Str} (hu : u ∈ us) : t_one_of us ts u = .ok (J u) := by
  obtain ⟨K, h1, hK⟩ := m_joined nd (by omega) ht
  unfold t_one_of
  rw [h1, R.bind_ok, dget_dmap hu, op_ok, R.bind_ok, hK.uniq hJ u hu]
  rfl
theorem m_listof (ht : TiesIn us ts) (hJ : IsLab us ts J) {u : Str} (hu : u ∈ us) : t__law_list_of (grpsU us J) u = .ok (grpU us J (J u)) := by
  have hh := heads_of ht hJ hu
  have key : forC (grpsU us J) () (ts__law_list_of_1 u) = .ret (grpU us J (J u)) := by
    rcases forC_pre (f := ts__law_list_of_1 u) (fun d _ => ∀ g ∈ d, u ∉ g) (fun v => v = grpU us J (J u)) (all := grpsU us J) (s0 := ()) (fun g h => by cases h) (fun d g rest s e hP => by
      obtain ⟨n, hn, rfl⟩ := List.mem_map.mp (pre_mem e)
      by_cases hin : u ∈ grpU us J n
      · right
        refine ⟨grpU us J n, ?_, by rw [(mem_grp.mp hin).2]⟩
        unfold ts__law_list_of_1
        rw [bne_f, if_pos (decide_eq_true hin)]
      · left
        refine ⟨(), ?_, fun g hg => ?_⟩
        · unfold ts__law_list_of_1
          rw [bne_f, if_neg (by rw [decide_eq_false hin]; decide)]
        · rcases List.mem_append.mp hg with w | w
          · exact hP g w
          · rw [List.mem_singleton.mp w]
            exact hin) with ⟨_, _, h⟩ | ⟨v, h, rfl⟩
    · exact absurd (mem_grp.mpr ⟨hu, rfl⟩) (h _ (List.mem_map.mpr ⟨J u, hh, rfl⟩))
    · exact h
  unfold t__law_list_of
  rw [key]
  rfl
/-! ### lists of texts, by their first ones -/
theorem tok_list (x : Str) (r : List Str) : PySem.W.keyToks (.list ((x :: r).map PyData.str)) = .inl 1 :: (.inr x.cps.toList :: PySem.W.keyToksAll (r.map PyData.str)) := by
  rw [List.map_cons, PySem.W.keyToks, PySem.W.keyToksAll, PySem.W.keyToks]
  rfl
theorem leLL_hd {x y : Str} {r s : List Str} (h : (x :: r) = (y :: s) ∨ x ≠ y) : leLL (x :: r) (y :: s) = decide (x.cps.toList ≤ y.cps.toList) := by
  unfold leLL leD PySem.W.dataLt
  rcases h with h | h
  · injection h with h1 h2
    subst h1 h2
    have := PySem.W.lex_pre (PySem.W.keyToks (.list ((x :: r).map PyData.str))) [] []
    rw [List.append_nil] at this
    rw [this, decide_eq_true (Std.le_refl _)]
    rfl
  · rw [← leD_str]
    unfold leD PySem.W.dataLt
    rw [tok_list, tok_list, lex_self (O := itemOrd)]
    have hne : (Sum.inr y.cps.toList : Int ⊕ List Nat) ≠ Sum.inr x.cps.toList := fun z => h (str_ext (Sum.inr.inj z)).symm
    rw [PySem.W.lex_atom hne]
    rfl
theorem alikeAll_str : ∀ xs ys : List Str, PySem.W.alikeAll (xs.map PyData.str) (ys.map PyData.str) = true
  | [], _ => by
    rw [List.map_nil, PySem.W.alikeAll]
  | _ :: _, [] => by
    rw [List.map_nil, List.map_cons, PySem.W.alikeAll]
  | x :: xs, y :: ys => by
    rw [List.map_cons, List.map_cons, PySem.W.alikeAll, alikeAll_str xs ys, PySem.W.alike]
    rfl
theorem sortOk_LL {xs : List (List Str)} (hl : xs.length < 1000) : sortOk (xs.map (eL PyData.str)) = true := by
  unfold sortOk
  simp only [Bool.and_eq_true, Bool.or_eq_true, List.all_eq_true, decide_eq_true_eq, List.mem_map, List.length_map]
  refine ⟨⟨⟨?_, ?_⟩, .inr ?_⟩, by have := line_ge; omega⟩
  · rintro d ⟨l, _, rfl⟩
    have h := EG.ok (k := 8) (e := eL PyData.str) l
    obtain ⟨q1, q2, q3⟩ := h
    unfold okD
    rw [q1, q2, decide_eq_true (by omega)]
    rfl
  · rintro d ⟨l, _, rfl⟩ e ⟨m, _, rfl⟩
    unfold eL
    rw [PySem.W.alike]
    exact alikeAll_str l m
  · rintro d ⟨l, _, rfl⟩
    rfl
/-- a sorted list of groups: by their first ones -/
theorem sortLL_by {xs : List (List Str)} {g : Str → List Str} (h1 : ∀ x ∈ xs, ∃ n r, x = n :: r ∧ x = g n) : sortLL xs = (sortS (xs.map fun x => x.headD (Str.ofString ""))).map g := by
  have hm : (sortLL xs).map (fun x => x.headD (Str.ofString "")) = sortS (xs.map fun x => x.headD (Str.ofString "")) := by
    unfold sortLL sortS
    refine List.map_mergeSort fun a ha b hb => ?_
    obtain ⟨n, r, rfl, e1⟩ := h1 a ha
    obtain ⟨m, s, rfl, e2⟩ := h1 b hb
    by_cases e : n = m
    · refine leLL_hd (.inl ?_)
      rw [e1, e2, e]
    · exact leLL_hd (.inr e)
  rw [← hm, List.map_map]
  have : ∀ x ∈ sortLL xs, (g ∘ fun x => x.headD (Str.ofString "")) x = x := fun x hx => by
    obtain ⟨n, r, rfl, e⟩ := h1 x ((List.mergeSort_perm _ _).mem_iff.mp hx)
    exact e.symm
  rw [List.map_congr_left this, List.map_id']
end
theorem law_typed (ns : List Int) (hns : ns.length ≤ 63) : t_law ns = .ok true := by
  obtain ⟨us, h1, nd, l1, l2⟩ := m_units ns
  have c3 : t__law_cell_at ns 3 = .ok (ns.getD 3 0) := u_cell ns 3
  generalize ns.getD 3 0 = c at c3
  obtain ⟨vs, h2, hp⟩ := m_turned us c (by omega)
  have ndv : vs.Nodup := hp.nodup_iff.mpr nd
  have hlen := hp.length_eq
  have hcut : (cutA ns (some (4 : Int)) (some (63 : Int))).length ≤ 100 := by
    unfold cutA
    rw [List.length_take, List.length_drop]
    omega
  obtain ⟨ts, h3, ht, hl3⟩ := m_ties1 us (by omega) _ hcut
  obtain ⟨os, h4, o1, o2, o3⟩ := m_other ht (by omega) c
  obtain ⟨J, _, hJ⟩ := m_joined nd (by omega) ht
  have hmem : ∀ x, x ∈ vs ↔ x ∈ us := fun x => hp.mem_iff
  have hto : TiesIn vs os := fun t h => by
    obtain ⟨_, u, hu, _, e⟩ := o1 t h
    obtain ⟨a, b⟩ := ht u hu
    rcases e with ⟨e, f⟩ | ⟨e, f⟩
    · exact ⟨(hmem _).mpr (by rw [e]; exact a), (hmem _).mpr (by rw [f]; exact b)⟩
    · exact ⟨(hmem _).mpr (by rw [e]; exact b), (hmem _).mpr (by rw [f]; exact a)⟩
  have sm1 : ∀ x y, Sm os x y → Sm ts x y := fun x y s => sm_of o1 s
  have sm2 : ∀ x y, Sm ts x y → Sm os x y := fun x y s => by
    obtain ⟨t, htm, hk, e⟩ := s
    obtain ⟨u, hu, hs, e2⟩ := o2 t htm hk
    refine ⟨u, hu, hs, ?_⟩
    rcases e with ⟨e, f⟩ | ⟨e, f⟩ <;> rcases e2 with ⟨g, k⟩ | ⟨g, k⟩
    · exact .inl ⟨g.symm.trans e, k.symm.trans f⟩
    · exact .inr ⟨k.symm.trans f, g.symm.trans e⟩
    · exact .inr ⟨g.symm.trans e, k.symm.trans f⟩
    · exact .inl ⟨k.symm.trans f, g.symm.trans e⟩
  have cnE : ∀ x y, Cn ts x y ↔ Cn os x y := fun x y => ⟨cn_of sm2, cn_of sm1⟩
  have hJo : IsLab vs os J := isLab_as hJ hmem cnE
  have g1 := m_onesL nd (by omega) ht hJ
  have g2 := m_onesL ndv (by omega) hto hJo
  rw [grps_perm hp] at g2
  -- each unit's list
  have loop : forC us () (ts_law_1 us ts vs os (grpsU us J)) = .nx () := r_forC fun u hu => by
    obtain ⟨r, er⟩ := grp_first ht hJ (heads_of ht hJ hu)
    unfold ts_law_1
    rw [m_listof ht hJ hu, tc_ok]
    try dsimp only
    rw [er, decide_eq_false (by intro z; cases z), m_oneof nd (by omega) ht hJ hu, R.bind_ok, ixR0, R.bind_ok, decide_eq_true rfl, orB_ok, tc_ok, if_neg (by decide), m_oneof ndv (by omega) hto hJo ((hmem u).mpr hu), tc_ok, tc_ok, decide_eq_true rfl, if_neg (by decide)]
  have hlp : 0 < (us.length : Int) := by omega
  obtain ⟨a1, a2⟩ := part_pos c 20 (m := (us.length : Int)) hlp
  obtain ⟨b1, b2⟩ := part_pos c 21 (m := (us.length : Int)) hlp
  obtain ⟨fi, hfi, efi⟩ := ixR_mem (xs := us) a1 a2
  obtain ⟨se, hse, ese⟩ := ixR_mem (xs := us) b1 b2
  -- with one more same tie
  have lab2 : ∀ add : List Tie, (add = [⟨Str.ofString "same", fi, se, none⟩] ∨ (add = [] ∧ (⟨Str.ofString "same", fi, se, none⟩ : Tie) ∈ ts)) → IsLab us (ts ++ add) (relab J (J fi) (J se)) := fun add ha => by
    rcases ha with rfl | ⟨rfl, hin⟩
    · exact isLab_snoc (t := ⟨Str.ofString "same", fi, se, none⟩) hJ hfi hse rfl
    · rw [List.append_nil]
      have e : J fi = J se := hJ.eq hfi hse (.one ⟨_, hin, rfl, .inl ⟨rfl, rfl⟩⟩)
      have e2 : relab J (J fi) (J se) = J := by
        funext u
        unfold relab
        rw [← e]
        by_cases z : J u = J fi
        · rw [if_pos (.inl z), z]
          rcases minS_or (J fi) (J fi) with q | q <;> exact q
        · rw [if_neg (fun w => w.elim z z)]
      rw [e2]
      exact hJ
  have finish : ∀ add : List Tie, (add = [⟨Str.ofString "same", fi, se, none⟩] ∨ (add = [] ∧ (⟨Str.ofString "same", fi, se, none⟩ : Tie) ∈ ts)) → add.length ≤ 1 → t_ones vs (ts ++ add) = .ok (sortLL ((grpsU us J).filter (fun g => !decide (g = grpU us J (J fi)) && !decide (g = grpU us J (J se))) ++ [sortS (uniqS (grpU us J (J fi) ++ grpU us J (J se)))])) := fun add ha hal => by
    have hL := lab2 add ha
    have tin : TiesIn us (ts ++ add) := fun t h => by
      rcases List.mem_append.mp h with w | w
      · exact ht t w
      · rcases ha with rfl | ⟨rfl, _⟩
        · rw [List.mem_singleton.mp w]
          exact ⟨hfi, hse⟩
        · cases w
    have tinv : TiesIn vs (ts ++ add) := fun t h => ⟨(hmem _).mpr (tin t h).1, (hmem _).mpr (tin t h).2⟩
    have hLv : IsLab vs (ts ++ add) (relab J (J fi) (J se)) := isLab_as hL hmem fun _ _ => Iff.rfl
    rw [m_onesL ndv (by omega) tinv hLv, grps_perm hp]
    refine congrArg R.ok ?_
    -- the new lists
    have hh1 := heads_of ht hJ hfi
    have hh2 := heads_of ht hJ hse
    have mm : minS (J fi) (J se) = J fi ∨ minS (J fi) (J se) = J se := minS_or _ _
    have i1 : J (J fi) = J fi := (mem_heads.mp hh1).2
    have i2 : J (J se) = J se := (mem_heads.mp hh2).2
    have jm : J (minS (J fi) (J se)) = minS (J fi) (J se) := by
      rcases mm with e | e <;> rw [e]
      · exact i1
      · exact i2
    have mus : minS (J fi) (J se) ∈ us := by
      rcases mm with e | e <;> rw [e]
      · exact (mem_heads.mp hh1).1
      · exact (mem_heads.mp hh2).1
    have rel : ∀ u, relab J (J fi) (J se) u = if J u = J fi ∨ J u = J se then minS (J fi) (J se) else J u := fun u => rfl
    have relm : relab J (J fi) (J se) (minS (J fi) (J se)) = minS (J fi) (J se) := by
      rw [rel, jm, if_pos mm]
    have gm : sortS (uniqS (grpU us J (J fi) ++ grpU us J (J se))) = grpU us (relab J (J fi) (J se)) (minS (J fi) (J se)) := by
      refine sortS_perm ((List.perm_ext_iff_of_nodup (uniqS_nodup _) (nd.sublist List.filter_sublist)).mpr fun x => ?_)
      rw [mem_uniqS, List.mem_append, mem_grp, mem_grp, List.mem_filter, decide_eq_true_eq, rel]
      constructor
      · rintro (⟨a, b⟩ | ⟨a, b⟩)
        · exact ⟨a, if_pos (.inl b)⟩
        · exact ⟨a, if_pos (.inr b)⟩
      · rintro ⟨a, b⟩
        by_cases z : J x = J fi ∨ J x = J se
        · exact z.imp (fun z => ⟨a, z⟩) fun z => ⟨a, z⟩
        · rw [if_neg z] at b
          rcases mm with e | e
          · exact absurd (.inl (b.trans e)) z
          · exact absurd (.inr (b.trans e)) z
    have gn : ∀ n, n ∈ headsU us J → n ≠ J fi → n ≠ J se → grpU us J n = grpU us (relab J (J fi) (J se)) n := fun n hn n1 n2 => by
      refine sortS_perm ((List.perm_ext_iff_of_nodup (nd.sublist List.filter_sublist) (nd.sublist List.filter_sublist)).mpr fun x => ?_)
      rw [List.mem_filter, List.mem_filter, decide_eq_true_eq, decide_eq_true_eq, rel]
      refine and_congr_right fun _ => ?_
      by_cases z : J x = J fi ∨ J x = J se
      · rw [if_pos z]
        constructor
        · intro w
          rw [w] at z
          exact absurd z fun z => z.elim n1 n2
        · intro w
          rcases mm with e | e
          · exact absurd (w.symm.trans e) n1
          · exact absurd (w.symm.trans e) n2
      · rw [if_neg z]
    have inj : ∀ n m, n ∈ headsU us J → m ∈ headsU us J → grpU us J n = grpU us J m → n = m := fun n m hn hm e => by
      obtain ⟨r, er⟩ := grp_first ht hJ hn
      obtain ⟨s, es⟩ := grp_first ht hJ hm
      rw [er, es] at e
      injection e
    have rest : ∀ g, g ∈ (grpsU us J).filter (fun g => !decide (g = grpU us J (J fi)) && !decide (g = grpU us J (J se))) ↔ ∃ n ∈ headsU us J, n ≠ J fi ∧ n ≠ J se ∧ g = grpU us J n := fun g => by
      rw [List.mem_filter]
      unfold grpsU
      rw [List.mem_map, Bool.and_eq_true, Bool.not_eq_true', Bool.not_eq_true', decide_eq_false_iff_not, decide_eq_false_iff_not]
      constructor
      · rintro ⟨⟨n, hn, rfl⟩, q1, q2⟩
        exact ⟨n, hn, fun z => q1 (by rw [z]), fun z => q2 (by rw [z]), rfl⟩
      · rintro ⟨n, hn, q1, q2, rfl⟩
        exact ⟨⟨n, hn, rfl⟩, fun z => q1 (inj _ _ hn hh1 z), fun z => q2 (inj _ _ hn hh2 z)⟩
    have hdm : minS (J fi) (J se) ∈ headsU us (relab J (J fi) (J se)) := mem_heads.mpr ⟨mus, relm⟩
    have by1 := sortLL_by (xs := (grpsU us J).filter (fun g => !decide (g = grpU us J (J fi)) && !decide (g = grpU us J (J se))) ++ [sortS (uniqS (grpU us J (J fi) ++ grpU us J (J se)))]) (g := grpU us (relab J (J fi) (J se))) fun x hx => by
      rcases List.mem_append.mp hx with w | w
      · obtain ⟨n, hn, n1, n2, rfl⟩ := (rest x).mp w
        obtain ⟨r, er⟩ := grp_first ht hJ hn
        exact ⟨n, r, er, gn n hn n1 n2⟩
      · rw [List.mem_singleton.mp w, gm]
        obtain ⟨r, er⟩ := grp_first tin hL hdm
        exact ⟨_, r, er, rfl⟩
    rw [by1]
    refine congrArg (List.map (grpU us (relab J (J fi) (J se)))) ?_
    refine sortS_perm ((List.perm_ext_iff_of_nodup (nd.sublist List.filter_sublist) ?_).mpr fun x => ?_)
    · rw [List.map_append]
      refine List.nodup_append.mpr ⟨?_, by simp, ?_⟩
      · have : ((headsU us J).map (grpU us J)).filter (fun g => !decide (g = grpU us J (J fi)) && !decide (g = grpU us J (J se))) = ((headsU us J).filter fun n => !decide (grpU us J n = grpU us J (J fi)) && !decide (grpU us J n = grpU us J (J se))).map (grpU us J) := by
          rw [List.filter_map]
          rfl
        rw [show (grpsU us J).filter (fun g => !decide (g = grpU us J (J fi)) && !decide (g = grpU us J (J se))) = _ from this, List.map_map]
        have hid : ∀ n ∈ (headsU us J).filter fun n => !decide (grpU us J n = grpU us J (J fi)) && !decide (grpU us J n = grpU us J (J se)), ((fun x : List Str => x.headD (Str.ofString "")) ∘ grpU us J) n = n := fun n hn => by
          obtain ⟨r, er⟩ := grp_first ht hJ (List.mem_filter.mp hn).1
          show (grpU us J n).headD _ = n
          rw [er]
          rfl
        rw [List.map_congr_left hid, List.map_id']
        exact (heads_nd nd).sublist List.filter_sublist
      · intro a ha b hb
        rw [List.map_cons, List.map_nil, List.mem_singleton] at hb
        obtain ⟨g, hg, rfl⟩ := List.mem_map.mp ha
        obtain ⟨n, hn, n1, n2, rfl⟩ := (rest g).mp hg
        obtain ⟨r, er⟩ := grp_first ht hJ hn
        obtain ⟨r2, er2⟩ := grp_first tin hL hdm
        rw [hb, gm, er, er2]
        show n ≠ minS (J fi) (J se)
        rcases mm with e | e <;> rw [e]
        · exact n1
        · exact n2
    · rw [List.mem_filter, decide_eq_true_eq, List.mem_map]
      constructor
      · rintro ⟨xu, hx⟩
        by_cases z : J x = J fi ∨ J x = J se
        · have ex : x = minS (J fi) (J se) := by
            rw [rel, if_pos z] at hx
            exact hx.symm
          refine ⟨_, List.mem_append_right _ List.mem_cons_self, ?_⟩
          obtain ⟨r2, er2⟩ := grp_first tin hL hdm
          rw [gm, er2, ex]
          rfl
        · have ex : J x = x := by
            rw [rel, if_neg z] at hx
            exact hx
          have hxh : x ∈ headsU us J := mem_heads.mpr ⟨xu, ex⟩
          rw [ex] at z
          refine ⟨grpU us J x, List.mem_append_left _ ((rest _).mpr ⟨x, hxh, fun w => z (.inl w), fun w => z (.inr w), rfl⟩), ?_⟩
          obtain ⟨r, er⟩ := grp_first ht hJ hxh
          rw [er]
          rfl
      · rintro ⟨g, hg, rfl⟩
        rcases List.mem_append.mp hg with w | w
        · obtain ⟨n, hn, n1, n2, rfl⟩ := (rest g).mp w
          obtain ⟨r, er⟩ := grp_first ht hJ hn
          rw [er]
          show n ∈ us ∧ relab J (J fi) (J se) n = n
          obtain ⟨q1, q2⟩ := mem_heads.mp hn
          refine ⟨q1, ?_⟩
          rw [rel, q2, if_neg (fun z => z.elim n1 n2)]
        · rw [List.mem_singleton.mp w, gm]
          obtain ⟨r2, er2⟩ := grp_first tin hL hdm
          rw [er2]
          exact ⟨mus, relm⟩
  have hgl : ∀ n, (grpU us J n).length ≤ us.length := fun n => grp_len
  have ggl : (grpsU us J).length ≤ us.length := by
    unfold grpsU
    rw [List.length_map]
    exact heads_len
  have cr := compR_ok (xs := grpsU us J) (c := fun x21 => (andB (.ok ((!decide (x21 = grpU us J (J fi))))) (.ok ((!decide (x21 = grpU us J (J se))))))) (f := fun x21 => (.ok (x21))) (fun g => !decide (g = grpU us J (J fi)) && !decide (g = grpU us J (J se))) (fun g => g) (by omega) fun g _ => ⟨by rw [andB_ok], fun _ => rfl⟩
  rw [List.map_id'] at cr
  have srt : sortedSetR (grpU us J (J fi) ++ grpU us J (J se)) = .ok (sortS (uniqS (grpU us J (J fi) ++ grpU us J (J se)))) := if_pos (by
    rw [List.length_append]
    have := hgl (J fi)
    have := hgl (J se)
    unfold scanBound
    omega)
  have hg1 := hgl (J fi)
  have hg2 := hgl (J se)
  have cadd := compR_ok (xs := [(⟨Str.ofString "same", fi, se, none⟩ : Tie)]) (c := fun x26 => (.ok ((true != decide (x26 ∈ ts))))) (f := fun x26 => (.ok (x26))) (fun t => !decide (t ∈ ts)) (fun t => t) (by simp) fun t _ => ⟨by rw [bne_t], fun _ => rfl⟩
  rw [List.map_id'] at cadd
  have hadd : ([(⟨Str.ofString "same", fi, se, none⟩ : Tie)].filter (fun t => !decide (t ∈ ts)) = [⟨Str.ofString "same", fi, se, none⟩] ∨ ([(⟨Str.ofString "same", fi, se, none⟩ : Tie)].filter (fun t => !decide (t ∈ ts)) = [] ∧ (⟨Str.ofString "same", fi, se, none⟩ : Tie) ∈ ts)) := by
    by_cases z : (⟨Str.ofString "same", fi, se, none⟩ : Tie) ∈ ts
    · right
      exact ⟨List.filter_cons_of_neg (by rw [decide_eq_true z]; decide), z⟩
    · left
      exact List.filter_cons_of_pos (by rw [decide_eq_false z]; rfl)
  generalize hA : [(⟨Str.ofString "same", fi, se, none⟩ : Tie)].filter (fun t => !decide (t ∈ ts)) = add at cadd hadd
  have hal : add.length ≤ 1 := by
    rcases hadd with e | ⟨e, _⟩ <;> rw [e] <;> simp
  have e30 := finish add hadd hal
  have rl : ((grpsU us J).filter fun g => !decide (g = grpU us J (J fi)) && !decide (g = grpU us J (J se))).length ≤ (grpsU us J).length := List.length_filter_le _ _
  have e32 : sortedLLR ((grpsU us J).filter (fun g => !decide (g = grpU us J (J fi)) && !decide (g = grpU us J (J se))) ++ [sortS (uniqS (grpU us J (J fi) ++ grpU us J (J se)))]) = .ok (sortLL ((grpsU us J).filter (fun g => !decide (g = grpU us J (J fi)) && !decide (g = grpU us J (J se))) ++ [sortS (uniqS (grpU us J (J fi) ++ grpU us J (J se)))])) := if_pos (sortOk_LL (by
    rw [List.length_append, List.length_singleton]
    omega))
  unfold t_law
  rw [h1, R.bind_ok]
  try dsimp only
  rw [h3, R.bind_ok]
  try dsimp only
  rw [c3, R.bind_ok]
  try dsimp only
  rw [h2, R.bind_ok]
  try dsimp only
  rw [h4, R.bind_ok]
  try dsimp only
  rw [g1, R.bind_ok]
  try dsimp only
  rw [g2, R.bind_ok, decide_eq_true (rfl : grpsU us J = grpsU us J), if_neg (by decide), loop]
  show R.nox (R.bind (partR c 20 (us.length : Int)) _) = _
  rw [partR_ok hlp, R.bind_ok, efi, R.bind_ok]
  try dsimp only
  rw [partR_ok hlp, R.bind_ok, ese, R.bind_ok]
  try dsimp only
  rw [m_listof ht hJ hfi, R.bind_ok]
  try dsimp only
  rw [m_listof ht hJ hse, R.bind_ok]
  try dsimp only
  rw [cr, R.bind_ok]
  try dsimp only
  rw [addL_ok (by omega), R.bind_ok, srt, R.bind_ok]
  try dsimp only
  rw [show ("same" : Str) = Str.ofString "same" from rfl, cadd, R.bind_ok]
  try dsimp only
  rw [addL_ok (by omega), R.bind_ok, e30, R.bind_ok, addL_ok (by rw [List.length_singleton]; omega), R.bind_ok, e32, R.bind_ok, decide_eq_true rfl]
  rfl
theorem law_true (ns : List Int) (hns : ns.length ≤ 63) : f_law [.dict [(.none, .list (ns.map .int))]] = .ok (.bool true) := by
  have := tr_law ns
  rw [law_typed ns hns] at this
  exact this
end Dg

open PySem PySem.W PyProof.Rows
set_option maxRecDepth 100000 in
set_option maxHeartbeats 0 in
theorem PySem.Challenge.cw_digmatrix_k13_whole_ones_in_any_order_holds : PySem.Challenge.rw_digmatrix_k13_whole_ones_in_any_order.Holds := by
  w_on; o_law; k_head; (case hw => w_witness2)
  k_fill
  refine L2.walk_of (l := PySem.Challenge.rw_digmatrix_k13_whole_ones_in_any_order) (n := 63) (k := 4) (x := "_law_script") (CX := fun _ => L2.CX0) (sp := fun w => Dg.spLaw _) rfl (by decide) rfl ⟨rfl, by decide, by decide⟩ (fun w h Y => PySem.W.kIn_of Y) ?F (fun _ H a ns hl hO hS => ⟨a, ns, rfl, (Dg.lf_of hS).resolve_left (fun e => by rcases hO a with z | ⟨o, xs, z⟩ <;> (rw [e] at z; cases z)), hl, fun _ => rfl⟩) (fun _ _ _ _ _ h => h)
  case F =>
    intro w mg fa h KX G hmg
    refine Dg.law_all (h := h) (T := ?T) hmg Dg.law_true
    refine' Dg.txt_mk KX G ?a0 ?l0 ?c0 ?k0 ?a1 ?l1 ?c1 ?k1 ?a2 ?l2 ?c2 ?k2 ?a3 ?l3 ?c3 ?k3 ?a4 ?l4 ?c4 ?k4 ?a5 ?l5 ?c5 ?k5 ?a6 ?l6 ?c6 ?k6 ?a7 ?l7 ?c7 ?k7 ?a8 ?l8 ?c8 ?k8 ?a9 ?l9 ?c9 ?k9 ?a10 ?l10 ?c10 ?k10 ?a11 ?l11 ?c11 ?k11 ?a12 ?l12 ?c12 ?k12 ?zn_len ?zn_list ?zn_min ?zn_range ?zn_set ?zn_sorted
    (case a0 => k_is); (case l0 => k_is); (case c0 => k_is); (case k0 => k_is); (case a1 => k_is); (case l1 => k_is); (case c1 => k_is); (case k1 => k_is); (case a2 => k_is); (case l2 => k_is); (case c2 => k_is); (case k2 => k_is); (case a3 => k_is); (case l3 => k_is); (case c3 => k_is); (case k3 => k_is); (case a4 => k_is); (case l4 => k_is); (case c4 => k_is); (case k4 => k_is); (case a5 => k_is); (case l5 => k_is); (case c5 => k_is); (case k5 => k_is); (case a6 => k_is); (case l6 => k_is); (case c6 => k_is); (case k6 => k_is); (case a7 => k_is); (case l7 => k_is); (case c7 => k_is); (case k7 => k_is); (case a8 => k_is); (case l8 => k_is); (case c8 => k_is); (case k8 => k_is); (case a9 => k_is); (case l9 => k_is); (case c9 => k_is); (case k9 => k_is); (case a10 => k_is); (case l10 => k_is); (case c10 => k_is); (case k10 => k_is); (case a11 => k_is); (case l11 => k_is); (case c11 => k_is); (case k11 => k_is); (case a12 => k_is); (case l12 => k_is); (case c12 => k_is); (case k12 => k_is); (case zn_len => k_is); (case zn_list => k_is); (case zn_min => k_is); (case zn_range => k_is); (case zn_set => k_is); (case zn_sorted => k_is)
