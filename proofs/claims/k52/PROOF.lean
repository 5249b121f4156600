import PyProof.Rows.All
import Wide.All
import OpenK.AllK
import Wide.FinOn
import HandS.ForMost
import HandS.ForExc
import HandS.Flow
import HandS.Wide
import KE.DataEq
import KE.DataCmp
import KE.DataMinMax
import KE.SortData
import KE.DatumOrd
import HandS.IsInst
import HandS.StrMore
import HandS.WordsDict
import PyProof.StrBlock2
import KE.IntTextLaws
import PySem.Challenge.RW_digmatrix_k52_periods
set_option Elab.async false
set_option linter.all false
set_option autoImplicit false
set_option maxRecDepth 100000
set_option maxHeartbeats 4000000
/-! Dg: a layer of plain data (PyData) over the hand layer: each value of a def stands for a tree; lists and dicts that a def owns alone may be changed. -/
namespace Dg
open PySem PySem.Spec PyProof.Rows L2
abbrev D := PyData
abbrev Env := List (Option D)
/-- an exception of the text's own: its class by name, its fields -/
structure Exn where
  cls : Str
  flds : List (D × D)
/-- what an expression comes to -/
inductive R (α : Type) where
  | ok (a : α)
  | exc (x : Exn)
  | stk
def R.bind {α β : Type} (r : R α) (f : α → R β) : R β := match r with
  | .ok a => f a
  | .exc x => .exc x
  | .stk => .stk
@[simp] theorem R.bind_ok {α β : Type} (a : α) (f : α → R β) : (R.ok a).bind f = f a := (rfl)
@[simp] theorem R.bind_exc {α β : Type} (x : Exn) (f : α → R β) : (R.exc x).bind f = .exc x := (rfl)
@[simp] theorem R.bind_stk {α β : Type} (f : α → R β) : (R.stk).bind f = .stk := (rfl)
/-- what a statement comes to -/
inductive Out where
  | nx (r : Env)
  | ret (d : D) (r : Env)
  | brk (r : Env)
  | cnt (r : Env)
  | exc (x : Exn) (r : Env)
  | stk
def isMut : HO → Bool
  | .lst _ => true
  | .dK _ => true
  | .ins _ _ _ => true
  | _ => false
/-- all that stood stands, but for the changeable ones among M -/
def Fr (M : Addr → Prop) (H H' : Hp) : Prop := ∀ a o, H a = some o → (isMut o = true → ¬ M a) → H' a = some o
theorem Fr.refl (M : Addr → Prop) (H : Hp) : Fr M H H := fun _ _ h _ => h
theorem Fr.of_same {M : Addr → Prop} {H H' : Hp} (s : Same H H') : Fr M H H' := fun a o h _ => s a o h
theorem Fr.step {M : Addr → Prop} {H H1 H2 : Hp} (f : Fr M H H1) (s : Same H1 H2) : Fr M H H2 := fun a o h q => s a o (f a o h q)
theorem same_upd {H : Hp} {p : Addr} {o : HO} (h : H p = none) : Same H (upd H p o) := fun b x e => by
  rw [upd_ne (ne_of_none e h)]
  exact e
/-- a list that no one here changes (the script; one of the top) -/
def Lf (K : PySem.W.Frag) (H : Hp) (a : Addr) (xs : List V) : Prop :=
  (∃ o, H a = some (.frz o (.lst xs))) ∨
    ∃ (o : Obj) (its : Array Value) (n : Nat), K.lookup a = some o ∧ o.cls = .type "list" ∧ o.dict = none ∧ o.data = .seq its n ∧ its.size ≤ sizeLine ∧ Vals xs its.toList
theorem Lf.seq {K : PySem.W.Frag} {H : Hp} {a : Addr} {xs : List V} (h : Lf K H a xs) : SqL K H a xs := by
  rcases h with ⟨o, h⟩ | h
  · exact .inl (.inr ⟨o, h⟩)
  · exact .inr h
theorem lf_of {K : PySem.W.Frag} {H : Hp} {a : Addr} {xs : List V} (h : SqL K H a xs) : H a = some (.lst xs) ∨ Lf K H a xs := by
  rcases h with (h | h) | h
  · exact .inl h
  · exact .inr (.inl h)
  · exact .inr (.inr h)
theorem Lf.fr {K : PySem.W.Frag} {M : Addr → Prop} {H H' : Hp} {a : Addr} {xs : List V} (h : Lf K H a xs) (f : Fr M H H') : Lf K H' a xs := by
  rcases h with ⟨o, h⟩ | h
  · exact .inl ⟨o, f a _ h (fun z => by cases z)⟩
  · exact .inr h
theorem sqT_fr {K : PySem.W.Frag} {M : Addr → Prop} {H H' : Hp} {a : Addr} {xs : List V} (h : SqT K H a xs) (f : Fr M H H') : SqT K H' a xs := by
  rcases h with (h | ⟨o, h⟩) | h
  · exact .inl (.inl (f a _ h (fun z => by cases z)))
  · exact .inl (.inr ⟨o, f a _ h (fun z => by cases z)⟩)
  · exact .inr h
def kD : Key → D
  | .inl i => .int i
  | .inr x => .str x
mutual
/-- the value v stands for the tree d; A: the changeable objects in it; true: it is all one's own -/
inductive Rep (K : PySem.W.Frag) (mg : Str → Option Value) (H : Hp) : Bool → V → D → List Addr → Prop
  | non {o : Bool} : Rep K mg H o .non .none []
  | bl {o : Bool} (b : Bool) : Rep K mg H o (.bl b) (.bool b) []
  | int {o : Bool} (i : Int) : Rep K mg H o (.int i) (.int i) []
  | str {o : Bool} (x : Str) : Rep K mg H o (.str x) (.str x) []
  | lst {o : Bool} {a : Addr} {vs : List V} {ds : List D} {A : List Addr} : H a = some (.lst vs) → RepL K mg H o vs ds A → Rep K mg H o (.ref a) (.list ds) (a :: A)
  | lstF {a : Addr} {vs : List V} {ds : List D} {A : List Addr} : Lf K H a vs → RepL K mg H false vs ds A → Rep K mg H false (.ref a) (.dict [(.none, .list ds)]) A
  | tup {o : Bool} {a : Addr} {vs : List V} {ds : List D} {A : List Addr} : SqT K H a vs → RepL K mg H o vs ds A → Rep K mg H o (.ref a) (.tuple ds) A
  | dct {o : Bool} {a : Addr} {vs : List (Key × V)} {ds : List (D × D)} {A : List Addr} : H a = some (.dK vs) → RepP K mg H o vs ds A → Rep K mg H o (.ref a) (.dict ds) (a :: A)
  | dctF {a : Addr} {u : Obj} {vs : List (Key × V)} {ds : List (D × D)} {A : List Addr} : H a = some (.frz u (.dK vs)) → RepP K mg H false vs ds A → Rep K mg H false (.ref a) (.dict ds) A
  | ins {o : Bool} {a C dx : Addr} {nm : Str} {fs : List (Str × V)} {ds : List (D × D)} {A : List Addr} : H a = some (.ins C dx fs) → mg nm = some (.ref C) → RepF K mg H o fs ds A → Rep K mg H o (.ref a) (.dict ((.none, .str nm) :: ds)) (a :: A)
inductive RepL (K : PySem.W.Frag) (mg : Str → Option Value) (H : Hp) : Bool → List V → List D → List Addr → Prop
  | nil {o : Bool} : RepL K mg H o [] [] []
  | cons {o : Bool} {v : V} {d : D} {vs : List V} {ds : List D} {A B : List Addr} : Rep K mg H o v d A → RepL K mg H o vs ds B → RepL K mg H o (v :: vs) (d :: ds) (A ++ B)
inductive RepP (K : PySem.W.Frag) (mg : Str → Option Value) (H : Hp) : Bool → List (Key × V) → List (D × D) → List Addr → Prop
  | nil {o : Bool} : RepP K mg H o [] [] []
  | cons {o : Bool} {k : Key} {v : V} {d : D} {vs : List (Key × V)} {ds : List (D × D)} {A B : List Addr} : Rep K mg H o v d A → RepP K mg H o vs ds B → RepP K mg H o ((k, v) :: vs) ((kD k, d) :: ds) (A ++ B)
inductive RepF (K : PySem.W.Frag) (mg : Str → Option Value) (H : Hp) : Bool → List (Str × V) → List (D × D) → List Addr → Prop
  | nil {o : Bool} : RepF K mg H o [] [] []
  | cons {o : Bool} {k : Str} {v : V} {d : D} {vs : List (Str × V)} {ds : List (D × D)} {A B : List Addr} : Rep K mg H o v d A → RepF K mg H o vs ds B → RepF K mg H o ((k, v) :: vs) ((.str k, d) :: ds) (A ++ B)
end
section
variable {K : PySem.W.Frag} {mg : Str → Option Value} {H H' : Hp}
mutual
theorem Rep.weak {o : Bool} {v : V} {d : D} {A : List Addr} : Rep K mg H o v d A → Rep K mg H false v d A
  | .non => .non
  | .bl b => .bl b
  | .int i => .int i
  | .str x => .str x
  | .lst h r => .lst h r.weak
  | .lstF h r => .lstF h r
  | .tup h r => .tup h r.weak
  | .dct h r => .dct h r.weak
  | .dctF h r => .dctF h r
  | .ins h g r => .ins h g r.weak
theorem RepL.weak {o : Bool} {v : List V} {d : List D} {A : List Addr} : RepL K mg H o v d A → RepL K mg H false v d A
  | .nil => .nil
  | .cons h r => .cons h.weak r.weak
theorem RepP.weak {o : Bool} {v : List (Key × V)} {d : List (D × D)} {A : List Addr} : RepP K mg H o v d A → RepP K mg H false v d A
  | .nil => .nil
  | .cons h r => .cons h.weak r.weak
theorem RepF.weak {o : Bool} {v : List (Str × V)} {d : List (D × D)} {A : List Addr} : RepF K mg H o v d A → RepF K mg H false v d A
  | .nil => .nil
  | .cons h r => .cons h.weak r.weak
end
mutual
theorem Rep.fr {M : Addr → Prop} (f : Fr M H H') {o : Bool} {v : V} {d : D} {A : List Addr} : Rep K mg H o v d A → (∀ a ∈ A, ¬ M a) → Rep K mg H' o v d A
  | .non, _ => .non
  | .bl b, _ => .bl b
  | .int i, _ => .int i
  | .str x, _ => .str x
  | .lst h r, n => .lst (f _ _ h fun _ => n _ List.mem_cons_self) (r.fr f fun a ha => n a (List.mem_cons_of_mem _ ha))
  | .lstF h r, n => .lstF (h.fr f) (r.fr f n)
  | .tup h r, n => .tup (sqT_fr h f) (r.fr f n)
  | .dct h r, n => .dct (f _ _ h fun _ => n _ List.mem_cons_self) (r.fr f fun a ha => n a (List.mem_cons_of_mem _ ha))
  | .dctF h r, n => .dctF (f _ _ h fun z => by cases z) (r.fr f n)
  | .ins h g r, n => .ins (f _ _ h fun _ => n _ List.mem_cons_self) g (r.fr f fun a ha => n a (List.mem_cons_of_mem _ ha))
theorem RepL.fr {M : Addr → Prop} (f : Fr M H H') {o : Bool} {v : List V} {d : List D} {A : List Addr} : RepL K mg H o v d A → (∀ a ∈ A, ¬ M a) → RepL K mg H' o v d A
  | .nil, _ => .nil
  | .cons h r, n => .cons (h.fr f fun a ha => n a (List.mem_append_left _ ha)) (r.fr f fun a ha => n a (List.mem_append_right _ ha))
theorem RepP.fr {M : Addr → Prop} (f : Fr M H H') {o : Bool} {v : List (Key × V)} {d : List (D × D)} {A : List Addr} : RepP K mg H o v d A → (∀ a ∈ A, ¬ M a) → RepP K mg H' o v d A
  | .nil, _ => .nil
  | .cons h r, n => .cons (h.fr f fun a ha => n a (List.mem_append_left _ ha)) (r.fr f fun a ha => n a (List.mem_append_right _ ha))
theorem RepF.fr {M : Addr → Prop} (f : Fr M H H') {o : Bool} {v : List (Str × V)} {d : List (D × D)} {A : List Addr} : RepF K mg H o v d A → (∀ a ∈ A, ¬ M a) → RepF K mg H' o v d A
  | .nil, _ => .nil
  | .cons h r, n => .cons (h.fr f fun a ha => n a (List.mem_append_left _ ha)) (r.fr f fun a ha => n a (List.mem_append_right _ ha))
end
theorem Rep.same (s : Same H H') {o : Bool} {v : V} {d : D} {A : List Addr} (h : Rep K mg H o v d A) : Rep K mg H' o v d A := h.fr (M := fun _ => False) (Fr.of_same s) fun _ _ z => z
theorem RepL.same (s : Same H H') {o : Bool} {v : List V} {d : List D} {A : List Addr} (h : RepL K mg H o v d A) : RepL K mg H' o v d A := h.fr (M := fun _ => False) (Fr.of_same s) fun _ _ z => z
theorem RepP.same (s : Same H H') {o : Bool} {v : List (Key × V)} {d : List (D × D)} {A : List Addr} (h : RepP K mg H o v d A) : RepP K mg H' o v d A := h.fr (M := fun _ => False) (Fr.of_same s) fun _ _ z => z
mutual
/-- what can be changed stands -/
theorem Rep.on {o : Bool} {v : V} {d : D} {A : List Addr} : Rep K mg H o v d A → ∀ a ∈ A, ∃ u, H a = some u ∧ isMut u = true
  | .non, _, z => by cases z
  | .bl _, _, z => by cases z
  | .int _, _, z => by cases z
  | .str _, _, z => by cases z
  | .lst h r, a, z => by
    rcases List.mem_cons.mp z with rfl | z
    · exact ⟨_, h, rfl⟩
    · exact r.on a z
  | .lstF h r, a, z => r.on a z
  | .tup h r, a, z => r.on a z
  | .dct h r, a, z => by
    rcases List.mem_cons.mp z with rfl | z
    · exact ⟨_, h, rfl⟩
    · exact r.on a z
  | .dctF h r, a, z => r.on a z
  | .ins h g r, a, z => by
    rcases List.mem_cons.mp z with rfl | z
    · exact ⟨_, h, rfl⟩
    · exact r.on a z
theorem RepL.on {o : Bool} {v : List V} {d : List D} {A : List Addr} : RepL K mg H o v d A → ∀ a ∈ A, ∃ u, H a = some u ∧ isMut u = true
  | .nil, _, z => by cases z
  | .cons h r, a, z => by
    rcases List.mem_append.mp z with z | z
    · exact h.on a z
    · exact r.on a z
theorem RepP.on {o : Bool} {v : List (Key × V)} {d : List (D × D)} {A : List Addr} : RepP K mg H o v d A → ∀ a ∈ A, ∃ u, H a = some u ∧ isMut u = true
  | .nil, _, z => by cases z
  | .cons h r, a, z => by
    rcases List.mem_append.mp z with z | z
    · exact h.on a z
    · exact r.on a z
theorem RepF.on {o : Bool} {v : List (Str × V)} {d : List (D × D)} {A : List Addr} : RepF K mg H o v d A → ∀ a ∈ A, ∃ u, H a = some u ∧ isMut u = true
  | .nil, _, z => by cases z
  | .cons h r, a, z => by
    rcases List.mem_append.mp z with z | z
    · exact h.on a z
    · exact r.on a z
end
theorem Rep.old {o : Bool} {v : V} {d : D} {A : List Addr} (h : Rep K mg H o v d A) {a : Addr} (ha : a ∈ A) : H a ≠ none := fun z => by
  obtain ⟨u, q, _⟩ := h.on a ha
  rw [z] at q
  cases q
theorem RepL.old {o : Bool} {v : List V} {d : List D} {A : List Addr} (h : RepL K mg H o v d A) {a : Addr} (ha : a ∈ A) : H a ≠ none := fun z => by
  obtain ⟨u, q, _⟩ := h.on a ha
  rw [z] at q
  cases q
theorem RepL.len {o : Bool} : ∀ {v : List V} {d : List D} {A : List Addr}, RepL K mg H o v d A → v.length = d.length
  | _, _, _, .nil => rfl
  | _, _, _, .cons _ r => congrArg (· + 1) r.len
theorem RepP.len {o : Bool} : ∀ {v : List (Key × V)} {d : List (D × D)} {A : List Addr}, RepP K mg H o v d A → v.length = d.length
  | _, _, _, .nil => rfl
  | _, _, _, .cons _ r => congrArg (· + 1) r.len
theorem RepL.get {o : Bool} : ∀ {v : List V} {d : List D} {A : List Addr} {i : Nat} {x : D}, RepL K mg H o v d A → d[i]? = some x → ∃ y B, v[i]? = some y ∧ Rep K mg H o y x B ∧ ∀ a ∈ B, a ∈ A
  | _, _, _, _, _, .nil, e => by simp at e
  | _, _, _, 0, x, .cons h r, e => by
    simp at e
    subst e
    exact ⟨_, _, rfl, h, fun a ha => List.mem_append_left _ ha⟩
  | _, _, _, i + 1, x, .cons h r, e => by
    obtain ⟨y, B, h1, h2, h3⟩ := r.get (i := i) (x := x) (by simpa using e)
    exact ⟨y, B, by simpa using h1, h2, fun a ha => List.mem_append_right _ (h3 a ha)⟩
theorem RepL.app {o : Bool} : ∀ {v w : List V} {d e : List D} {A B : List Addr}, RepL K mg H o v d A → RepL K mg H o w e B → RepL K mg H o (v ++ w) (d ++ e) (A ++ B)
  | _, _, _, _, _, _, .nil, s => s
  | _, _, _, _, _, _, .cons h r, s => by
    have q := RepL.cons h (r.app s)
    rw [← List.append_assoc] at q
    exact q
theorem RepL.one {o : Bool} {v : V} {d : D} {A : List Addr} (h : Rep K mg H o v d A) : RepL K mg H o [v] [d] A := by
  have q := RepL.cons h RepL.nil
  rw [List.append_nil] at q
  exact q
mutual
/-- nothing in it can be changed -/
def imm : D → Bool
  | .list _ => false
  | .dict _ => false
  | .tuple ds => immL ds
  | _ => true
def immL : List D → Bool
  | [] => true
  | d :: ds => imm d && immL ds
end
mutual
theorem Rep.imm {o : Bool} {v : V} {d : D} {A : List Addr} : Rep K mg H o v d A → Dg.imm d = true → A = [] ∧ Rep K mg H true v d []
  | .non, _ => ⟨rfl, .non⟩
  | .bl b, _ => ⟨rfl, .bl b⟩
  | .int i, _ => ⟨rfl, .int i⟩
  | .str x, _ => ⟨rfl, .str x⟩
  | .lst h r, z => by simp [Dg.imm] at z
  | .lstF h r, z => by simp [Dg.imm] at z
  | .dct h r, z => by simp [Dg.imm] at z
  | .dctF h r, z => by simp [Dg.imm] at z
  | .ins h g r, z => by simp [Dg.imm] at z
  | .tup h r, z => by
    obtain ⟨e, q⟩ := r.imm (by simpa [Dg.imm] using z)
    exact ⟨e, .tup h q⟩
theorem RepL.imm {o : Bool} {v : List V} {d : List D} {A : List Addr} : RepL K mg H o v d A → Dg.immL d = true → A = [] ∧ RepL K mg H true v d []
  | .nil, _ => ⟨rfl, .nil⟩
  | .cons h r, z => by
    rw [Dg.immL, Bool.and_eq_true] at z
    obtain ⟨e1, q1⟩ := h.imm z.1
    obtain ⟨e2, q2⟩ := r.imm z.2
    subst e1 e2
    exact ⟨rfl, .cons q1 q2⟩
end
theorem immL_get : ∀ {ds : List D} {i : Nat} {d : D}, immL ds = true → ds[i]? = some d → imm d = true
  | [], _, _, _, e => by simp at e
  | x :: xs, 0, d, h, e => by
    simp at e
    subst e
    rw [immL, Bool.and_eq_true] at h
    exact h.1
  | x :: xs, i + 1, d, h, e => by
    rw [immL, Bool.and_eq_true] at h
    exact immL_get (i := i) h.2 (by simpa using e)
theorem immL_app : ∀ {ds es : List D}, immL (ds ++ es) = (immL ds && immL es)
  | [], es => by simp [immL]
  | d :: ds, es => by simp [immL, immL_app (ds := ds), Bool.and_assoc]
mutual
/-- no dict in it -/
def flat : D → Bool
  | .dict _ => false
  | .list ds => flatL ds
  | .tuple ds => flatL ds
  | _ => true
def flatL : List D → Bool
  | [] => true
  | d :: ds => flat d && flatL ds
end
mutual
theorem Rep.dp {o : Bool} {v : V} {d : D} {A : List Addr} : Rep K mg H o v d A → flat d = true → Dp K H v d
  | .non, _ => .non
  | .bl b, _ => .bl b
  | .int i, _ => .int i
  | .str x, _ => .str x
  | .lst h r, z => .lst (.inl (.inl h)) (r.dp (by simpa [flat] using z))
  | .lstF h r, z => by simp [flat] at z
  | .tup h r, z => .tup h (r.dp (by simpa [flat] using z))
  | .dct h r, z => by simp [flat] at z
  | .dctF h r, z => by simp [flat] at z
  | .ins h g r, z => by simp [flat] at z
theorem RepL.dp {o : Bool} {v : List V} {d : List D} {A : List Addr} : RepL K mg H o v d A → flatL d = true → DpAll K H v d
  | .nil, _ => .nil
  | .cons h r, z => by
    rw [flatL, Bool.and_eq_true] at z
    exact .cons (h.dp z.1) (r.dp z.2)
end
end
/-- the frame's state: H0, M0 what stood at the entry and what of it may be changed; pn: slots that keep their values; ow: the slots whose trees are one's own -/
structure Sta (K : PySem.W.Frag) (mg : Str → Option Value) (H0 : Hp) (M0 : Addr → Prop) (pn : Nat → Option V) (ow : List Nat) (σ : L2.St) (ρ : Env) (H : Hp) (As : Nat → List Addr) : Prop where
  fr : Fr M0 H0 H
  rep : ∀ i d, ρ[i]? = some (some d) → ∃ v, σ[i]? = some (some v) ∧ Rep K mg H (ow.contains i) v d (As i)
  dead : ∀ i, (∀ d, ρ[i]? ≠ some (some d)) → As i = []
  nd : ∀ i ∈ ow, (As i).Nodup
  new : ∀ i ∈ ow, ∀ a ∈ As i, H0 a = none ∨ M0 a
  sep : ∀ i ∈ ow, ∀ j, j ≠ i → ∀ a ∈ As i, a ∉ As j
  len : σ.length = ρ.length
  pin : ∀ j v, pn j = some v → σ[j]? = some (some v)
section
variable {K : PySem.W.Frag} {mg : Str → Option Value} {H0 : Hp} {M0 : Addr → Prop} {pn : Nat → Option V} {ow ow' : List Nat} {σ : L2.St} {ρ : Env} {H H' : Hp} {As : Nat → List Addr}
theorem Sta.on (S : Sta K mg H0 M0 pn ow σ ρ H As) {i : Nat} {a : Addr} (ha : a ∈ As i) : ∃ u, H a = some u ∧ isMut u = true := by
  by_cases h : ∃ d, ρ[i]? = some (some d)
  · obtain ⟨d, e⟩ := h
    obtain ⟨v, _, r⟩ := S.rep i d e
    exact r.on a ha
  · rw [S.dead i fun d e => h ⟨d, e⟩] at ha
    cases ha
theorem Sta.old (S : Sta K mg H0 M0 pn ow σ ρ H As) {i : Nat} {a : Addr} (ha : a ∈ As i) : H a ≠ none := fun z => by
  obtain ⟨u, q, _⟩ := S.on ha
  rw [z] at q
  cases q
theorem Sta.same (S : Sta K mg H0 M0 pn ow σ ρ H As) (s : Same H H') : Sta K mg H0 M0 pn ow σ ρ H' As :=
  ⟨S.fr.step s, fun i d e => by
    obtain ⟨v, h1, h2⟩ := S.rep i d e
    exact ⟨v, h1, h2.same s⟩, S.dead, S.nd, S.new, S.sep, S.len, S.pin⟩
theorem contains_mem {l : List Nat} {i : Nat} : l.contains i = true ↔ i ∈ l := by simp
theorem rep_less {v : V} {d : D} {A : List Addr} {b b' : Bool} (h : Rep K mg H b v d A) (q : b' = true → b = true) : Rep K mg H b' v d A := by
  cases b' with
  | false => exact h.weak
  | true =>
    have e := q rfl
    subst e
    exact h
theorem Sta.less (S : Sta K mg H0 M0 pn ow σ ρ H As) (h : ∀ i ∈ ow', i ∈ ow) : Sta K mg H0 M0 pn ow' σ ρ H As :=
  ⟨S.fr, fun i d e => by
    obtain ⟨v, h1, h2⟩ := S.rep i d e
    exact ⟨v, h1, rep_less h2 fun z => contains_mem.mpr (h i (contains_mem.mp z))⟩, S.dead, fun i hi => S.nd i (h i hi), fun i hi => S.new i (h i hi), fun i hi => S.sep i (h i hi), S.len, S.pin⟩
/-- an address that is new now was new, or changeable, at the entry -/
theorem Sta.was (S : Sta K mg H0 M0 pn ow σ ρ H As) {a : Addr} (h : H a = none) : H0 a = none ∨ M0 a := by
  by_cases m : M0 a
  · exact .inr m
  · refine .inl ?_
    cases e : H0 a with
    | none => rfl
    | some o =>
      have q := S.fr a o e fun _ => m
      rw [h] at q
      cases q
end
end Dg

namespace Dg
open PySem PySem.Spec PyProof.Rows L2
/-- how a value lies: of trees of the slots ss, perhaps; or all one's own, of the slots ms and new things -/
inductive Kd where
  | br (ss : List Nat)
  | own (ms : List Nat)
def Kd.isOwn : Kd → Bool
  | .br _ => false
  | .own _ => true
def Kd.Ok (k : Kd) (ow : List Nat) (H : Hp) (As : Nat → List Addr) (A : List Addr) : Prop := match k with
  | .br ss => ∀ j ∈ ow, j ∉ ss → ∀ a ∈ As j, a ∉ A
  | .own ms => A.Nodup ∧ (∀ j ∈ ms, j ∈ ow) ∧ ∀ a ∈ A, H a = none ∨ ∃ j ∈ ms, a ∈ As j
/-- an exception of the text's own, by its class and dict -/
def RepX (K : PySem.W.Frag) (mg : Str → Option Value) (H : Hp) (c : Value) (dd : Option Addr) (x : Exn) (A : List Addr) : Prop :=
  ∃ C : Addr, c = .ref C ∧ mg x.cls = some (.ref C) ∧ match dd with
    | none => x.flds = [] ∧ A = []
    | some d => ∃ fs, H d = some (.xd fs) ∧ RepF K mg H false fs x.flds A
def On (X : Cx) (ow : List Nat) (σ : L2.St) (ρ : Env) (H : Hp) (As : Nat → List Addr) : Prop := ∃ H0 M0 pn, Sta X.K X.mg H0 M0 pn ow σ ρ H As
theorem On.same {X : Cx} {ow : List Nat} {σ : L2.St} {ρ : Env} {H H' : Hp} {As : Nat → List Addr} (S : On X ow σ ρ H As) (s : Same H H') : On X ow σ ρ H' As := by
  obtain ⟨H0, M0, pn, S⟩ := S
  exact ⟨H0, M0, pn, S.same s⟩
theorem On.old {X : Cx} {ow : List Nat} {σ : L2.St} {ρ : Env} {H : Hp} {As : Nat → List Addr} (S : On X ow σ ρ H As) {i : Nat} {a : Addr} (ha : a ∈ As i) : H a ≠ none := by
  obtain ⟨H0, M0, pn, S⟩ := S
  exact S.old ha
def Good (X : Cx) (W : WX) (σ : L2.St) (ow : List Nat) (k : Kd) (H : Hp) (As : Nat → List Addr) (r : R D) (Q : VK) : Prop := match r with
  | .ok d => ∀ v H' A, Same H H' → Rep X.K X.mg H' k.isOwn v d A → k.Ok ow H As A → Q v H'
  | .exc x => ∀ c dd H' A, Same H H' → RepX X.K X.mg H' c dd x A → W c dd σ H'
  | .stk => False
/-- an expression and what it comes to -/
def DE (X : Cx) (W : WX) (ow : List Nat) (k : Kd) (e : Expr) (den : Env → R D) : Prop :=
  ∃ te, PE X e te ∧ ∀ σ ρ H As Q, On X ow σ ρ H As → Good X W σ ow k H As (den ρ) Q → te σ H Q
def GoodT (X : Cx) (W : WX) (σ : L2.St) (H : Hp) (r : R Bool) (Q : Bool → Hp → Prop) : Prop := match r with
  | .ok b => ∀ H', Same H H' → Q b H'
  | .exc x => ∀ c dd H' A, Same H H' → RepX X.K X.mg H' c dd x A → W c dd σ H'
  | .stk => False
/-- a test -/
def DT (X : Cx) (W : WX) (ow : List Nat) (e : Expr) (den : Env → R Bool) : Prop :=
  ∃ tt, PT X e tt ∧ ∀ σ ρ H As Q, On X ow σ ρ H As → GoodT X W σ H (den ρ) Q → tt σ H Q
def DW (X : Cx) (W : WX) (ow : List Nat) (e : Expr) (den : Env → R Bool) : Prop :=
  ∃ tt, PW X e tt ∧ ∀ σ ρ H As Q, On X ow σ ρ H As → GoodT X W σ H (den ρ) Q → tt σ H Q
def GoodL (X : Cx) (W : WX) (σ : L2.St) (ow : List Nat) (k : Kd) (n : Nat) (H : Hp) (As : Nat → List Addr) (r : R (List D)) (Q : List V → Hp → Prop) : Prop := match r with
  | .ok ds => ∀ vs H' A, Same H H' → RepL X.K X.mg H' k.isOwn vs ds A → k.Ok ow H As A → vs.length = n → Q vs H'
  | .exc x => ∀ c dd H' A, Same H H' → RepX X.K X.mg H' c dd x A → W c dd σ H'
  | .stk => False
/-- written arguments -/
def DA (X : Cx) (W : WX) (ow : List Nat) (k : Kd) (n : Nat) (es : List Expr) (den : Env → R (List D)) : Prop :=
  ∃ ta, PA X es ta ∧ ∀ σ ρ H As Q, On X ow σ ρ H As → GoodL X W σ ow k n H As (den ρ) Q → ta σ H Q
section
variable {X : Cx} {W : WX} {ow : List Nat} {k k1 k2 : Kd} {e a b : Expr} {den d1 d2 : Env → R D} {pos : Pos}
theorem PE.or2 {t u : TE} (h : PE X e t) (h' : PE X e u) : PE X e (fun σ H Q => t σ H Q ∨ u σ H Q) := by
  refine ⟨fun pins s σ H Q I q => ?_⟩
  rcases q with q | q
  · exact h.run pins s σ H Q I q
  · exact h'.run pins s σ H Q I q
/-! ### kinds -/
theorem Kd.weak {H H' : Hp} {As : Nat → List Addr} {A : List Addr} {σ : L2.St} {ρ : Env} (S : On X ow σ ρ H As) (h : k.Ok ow H As A) : ∃ ss, (Kd.br ss).Ok ow H As A ∧ ss = (match k with | .br ss => ss | .own ms => ms) := by
  cases k with
  | br ss => exact ⟨ss, h, rfl⟩
  | own ms =>
    obtain ⟨nd, hm, hf⟩ := h
    refine ⟨ms, fun j hj hn a ha hA => ?_, rfl⟩
    rcases hf a hA with z | ⟨i, hi, z⟩
    · exact S.old ha z
    · obtain ⟨H0, M0, pn, S⟩ := S
      exact S.sep j hj i (fun e => hn (e ▸ hi)) a ha z
def Kd.src : Kd → List Nat
  | .br ss => ss
  | .own ms => ms
theorem Kd.brOk {H : Hp} {As : Nat → List Addr} {A : List Addr} {σ : L2.St} {ρ : Env} (S : On X ow σ ρ H As) (h : k.Ok ow H As A) : (Kd.br k.src).Ok ow H As A := by
  obtain ⟨ss, h, rfl⟩ := Kd.weak (H' := H) S h
  cases k <;> exact h
theorem Kd.sub {H : Hp} {As : Nat → List Addr} {A B : List Addr} {ss ts : List Nat} (h : (Kd.br ss).Ok ow H As A) (hs : ∀ i ∈ ss, i ∈ ts) (hB : ∀ a ∈ B, a ∈ A) : (Kd.br ts).Ok ow H As B :=
  fun j hj hn a ha hb => h j hj (fun z => hn (hs j z)) a ha (hB a hb)
theorem nil_own {H : Hp} {As : Nat → List Addr} : (Kd.own []).Ok ow H As [] := ⟨List.nodup_nil, (fun _ h => by cases h), (fun _ h => by cases h)⟩
/-- as a value of others' -/
theorem de_br (h : DE X W ow k e den) : DE X W ow (.br k.src) e den := by
  obtain ⟨te, p, q⟩ := h
  refine ⟨te, p, fun σ ρ H As Q S g => q σ ρ H As Q S ?_⟩
  cases hd : den ρ with
  | ok d =>
    rw [hd] at g
    intro v H' A sm r z
    exact g v H' A sm r.weak (Kd.brOk S z)
  | exc x =>
    rw [hd] at g
    exact g
  | stk =>
    rw [hd] at g
    exact g
def chk (d : D) : R D := if imm d = true then .ok d else .stk
def chkE (f : Env → R D) : Env → R D := fun ρ => (f ρ).bind chk
/-- a value in which nothing can be changed is everyone's own -/
theorem de_imm (h : DE X W ow k e den) : DE X W ow (.own []) e (chkE den) := by
  obtain ⟨te, p, q⟩ := h
  refine ⟨te, p, fun σ ρ H As Q S g => q σ ρ H As Q S ?_⟩
  unfold chkE at g
  cases hd : den ρ with
  | ok d =>
    rw [hd, R.bind_ok] at g
    unfold chk at g
    by_cases hi : imm d = true
    · rw [if_pos hi] at g
      intro v H' A sm r z
      obtain ⟨rfl, r'⟩ := r.imm hi
      exact g v H' [] sm r' nil_own
    · rw [if_neg hi] at g
      exact g.elim
  | exc x =>
    rw [hd, R.bind_exc] at g
    exact g
  | stk =>
    rw [hd, R.bind_stk] at g
    exact g
/-! ### names, constants -/
def vr (i : Nat) : Env → R D := fun ρ => match ρ[i]? with
  | some (some d) => .ok d
  | _ => .stk
theorem vr_at {i : Nat} {ρ : Env} {d : D} (h : vr i ρ = .ok d) : ρ[i]? = some (some d) := by
  unfold vr at h
  split at h
  · rename_i e q
    cases h
    exact q
  · cases h
theorem vr_not {i : Nat} {ρ : Env} : (∃ d, vr i ρ = .ok d) ∨ vr i ρ = .stk := by
  unfold vr
  split
  · exact .inl ⟨_, rfl⟩
  · exact .inr rfl
theorem de_var {i : Nat} (h : PE X e (tVar i)) : DE X W ow (.br [i]) e (vr i) := by
  refine ⟨_, h, fun σ ρ H As Q S g => ?_⟩
  rcases vr_not (i := i) (ρ := ρ) with ⟨d, hd⟩ | hd
  · rw [hd] at g
    have hS := S
    obtain ⟨H0, M0, pn, S⟩ := S
    obtain ⟨v, hv, r⟩ := S.rep i d (vr_at hd)
    refine ⟨v, hv, g v H (As i) (Same.refl H) r.weak ?_⟩
    intro j hj hn a ha
    exact S.sep j hj i (fun z => hn (by rw [z]; exact List.mem_singleton_self _)) a ha
  · rw [hd] at g
    exact g.elim
/-- a slot's own tree is taken out -/
theorem de_mov {i : Nat} (h : PE X e (tVar i)) (hi : i ∈ ow) : DE X W ow (.own [i]) e (vr i) := by
  refine ⟨_, h, fun σ ρ H As Q S g => ?_⟩
  rcases vr_not (i := i) (ρ := ρ) with ⟨d, hd⟩ | hd
  · rw [hd] at g
    obtain ⟨H0, M0, pn, S⟩ := S
    obtain ⟨v, hv, r⟩ := S.rep i d (vr_at hd)
    rw [contains_mem.mpr hi] at r
    refine ⟨v, hv, g v H (As i) (Same.refl H) r ⟨S.nd i hi, fun j hj => ?_, fun a ha => .inr ⟨i, List.mem_singleton_self _, ha⟩⟩⟩
    rw [List.mem_singleton.mp hj]
    exact hi
  · rw [hd] at g
    exact g.elim
def cst (d : D) : Env → R D := fun _ => .ok d
theorem de_cst {v : V} {d : D} (h : PE X e (tC v)) (r : ∀ K mg H, Rep K mg H true v d []) : DE X W ow (.own []) e (cst d) :=
  ⟨_, h, fun σ ρ H As Q S g => g v H [] (Same.refl H) (r _ _ _) nil_own⟩
theorem de_int {i : Int} {j : Nat} : DE X W ow (.own []) (.Constant (.int i) j pos) (cst (.int i)) := de_cst pe_int fun _ _ _ => .int i
theorem de_str {x : Str} {j : Nat} : DE X W ow (.own []) (.Constant (.str x) j pos) (cst (.str x)) := de_cst pe_str fun _ _ _ => .str x
theorem de_bl {b : Bool} {j : Nat} : DE X W ow (.own []) (.Constant (.bool b) j pos) (cst (.bool b)) := de_cst pe_bl fun _ _ _ => .bl b
theorem de_non {j : Nat} : DE X W ow (.own []) (.Constant .none j pos) (cst .none) := de_cst pe_non fun _ _ _ => .non
theorem de_globI {x : Str} {i : Int} {t : Tok} (hg : Gl X x) (hm : X.mg x = some (.int i t)) (hd : (x == ("__debug__" : Str)) = false := by decide) : DE X W ow (.own []) (.Name x pos) (cst (.int i)) :=
  de_cst (v := .int i) (pe_glob hg hm ⟨t, rfl⟩ hd) fun _ _ _ => .int i
theorem de_globS {x : Str} {i : Str} {t : Tok} (hg : Gl X x) (hm : X.mg x = some (.str i t)) (hd : (x == ("__debug__" : Str)) = false := by decide) : DE X W ow (.own []) (.Name x pos) (cst (.str i)) :=
  de_cst (v := .str i) (pe_glob hg hm ⟨t, rfl⟩ hd) fun _ _ _ => .str i
/-! ### operators -/
def Fresh (X : Cx) (H : Hp) (r : R D) (Q : VK) : Prop := match r with
  | .ok d => ∀ v H' A, Same H H' → Rep X.K X.mg H' true v d A → A.Nodup → (∀ a ∈ A, H a = none) → Q v H'
  | _ => False
theorem fresh_good {σ : L2.St} {H H1 : Hp} {As : Nat → List Addr} {r : R D} {Q : VK} (s : Same H H1) (g : Good X W σ ow (.own []) H As r Q) (hx : ∀ x, r ≠ .exc x) : Fresh X H1 r Q := by
  cases r with
  | ok d => exact fun v H' A sm rp nd fr => g v H' A (s.trans sm) rp ⟨nd, (fun _ h => by cases h), fun a ha => .inl (s.free (fr a ha))⟩
  | exc x => exact hx x rfl
  | stk => exact g
/-- an operation by what its operands stand for -/
def OpD (X : Cx) (f : Value → Value → Sem Value) (g : D → D → R D) : Prop :=
  ∃ r : R2, OpR X f r ∧ (∀ x y z, g x y ≠ .exc z) ∧ ∀ H x y dx dy A B Q, Rep X.K X.mg H false x dx A → Rep X.K X.mg H false y dy B → Fresh X H (g dx dy) Q → r x y H Q
def UnD (X : Cx) (f : Value → Sem Value) (g : D → R D) : Prop :=
  ∃ r : V → Hp → VK → Prop, UnR X f r ∧ (∀ x z, g x ≠ .exc z) ∧ ∀ H x dx A Q, Rep X.K X.mg H false x dx A → Fresh X H (g dx) Q → r x H Q
def b2 (g : D → D → R D) (f1 f2 : Env → R D) : Env → R D := fun ρ => (f1 ρ).bind fun x => (f2 ρ).bind fun y => g x y
def b1 (g : D → R D) (f1 : Env → R D) : Env → R D := fun ρ => (f1 ρ).bind g
theorem t2_good {g : D → D → R D} {ta tb : TE} {r : R2} (h2 : ∀ σ ρ H As Q, On X ow σ ρ H As → Good X W σ ow k2 H As (d2 ρ) Q → tb σ H Q) (h1 : ∀ σ ρ H As Q, On X ow σ ρ H As → Good X W σ ow k1 H As (d1 ρ) Q → ta σ H Q)
    (hg : ∀ x y z, g x y ≠ .exc z) (hr : ∀ H x y dx dy A B Q, Rep X.K X.mg H false x dx A → Rep X.K X.mg H false y dy B → Fresh X H (g dx dy) Q → r x y H Q)
    {σ : L2.St} {ρ : Env} {H : Hp} {As : Nat → List Addr} {Q : VK} (S : On X ow σ ρ H As) (q : Good X W σ ow (.own []) H As (b2 g d1 d2 ρ) Q) : tOp r ta tb σ H Q := by
  refine h1 σ ρ H As _ S ?_
  unfold b2 at q
  cases e1 : d1 ρ with
  | stk =>
    rw [e1] at q
    exact q
  | exc x =>
    rw [e1] at q
    exact q
  | ok dx =>
    rw [e1, R.bind_ok] at q
    intro x H1 A s1 rx _
    refine h2 σ ρ H1 As _ (S.same s1) ?_
    cases e2 : d2 ρ with
    | stk =>
      rw [e2] at q
      exact q
    | exc x =>
      rw [e2] at q
      intro c dd H' B sm rp
      exact q c dd H' B (s1.trans sm) rp
    | ok dy =>
      rw [e2, R.bind_ok] at q
      intro y H2 B s2 ry _
      exact hr H2 x y dx dy A B Q (rx.weak.same s2) ry.weak (fresh_good (s1.trans s2) q (hg dx dy))
theorem de_op {op : Operator} {g : D → D → R D} (h : OpD X (binaryOp op) g) (h1 : DE X W ow k1 a d1) (h2 : DE X W ow k2 b d2) : DE X W ow (.own []) (.BinOp a op b pos) (b2 g d1 d2) := by
  obtain ⟨r, ho, hg, hr⟩ := h
  obtain ⟨ta, p1, q1⟩ := h1
  obtain ⟨tb, p2, q2⟩ := h2
  exact ⟨_, pe_op ho p1 p2, fun σ ρ H As Q S q => t2_good q2 q1 hg hr S q⟩
theorem de_cmp {op : CmpOp} {g : D → D → R D} (h : OpD X (compareOp op) g) (h1 : DE X W ow k1 a d1) (h2 : DE X W ow k2 b d2) (hm : behindInMarks op b = false) : DE X W ow (.own []) (.Compare a [op] [b] pos) (b2 g d1 d2) := by
  obtain ⟨r, ho, hg, hr⟩ := h
  obtain ⟨ta, p1, q1⟩ := h1
  obtain ⟨tb, p2, q2⟩ := h2
  exact ⟨_, pe_cmpR ho p1 p2 hm, fun σ ρ H As Q S q => t2_good q2 q1 hg hr S q⟩
theorem de_un {op : UnaryOp} {g : D → R D} (h : UnD X (unaryOp op) g) (h1 : DE X W ow k1 a d1) : DE X W ow (.own []) (.UnaryOp op a pos) (b1 g d1) := by
  obtain ⟨r, ho, hg, hr⟩ := h
  obtain ⟨ta, p1, q1⟩ := h1
  refine ⟨_, pe_un ho p1, fun σ ρ H As Q S q => q1 σ ρ H As _ S ?_⟩
  unfold b1 at q
  cases e1 : d1 ρ with
  | stk =>
    rw [e1] at q
    exact q
  | exc x =>
    rw [e1] at q
    exact q
  | ok dx =>
    rw [e1, R.bind_ok] at q
    intro x H1 A s1 rx _
    exact hr H1 x dx A Q rx.weak (fresh_good s1 q (hg dx))
/-! ### tests -/
def tst (d : D) : R Bool := match d with
  | .bool b => .ok b
  | _ => .stk
def tb (f : Env → R D) : Env → R Bool := fun ρ => (f ρ).bind tst
theorem dt_val (h : DE X W ow k e den) (he : ∀ whole, isTrue e X.env whole = (do let v ← whole; standAt e.pos; holding [v] (truthy v)) := by intro _; rfl) : DT X W ow e (tb den) := by
  obtain ⟨te, p, q⟩ := h
  refine ⟨_, pt_val p he, fun σ ρ H As Q S g => q σ ρ H As _ S ?_⟩
  unfold tb at g
  cases hd : den ρ with
  | stk =>
    rw [hd] at g
    exact g
  | exc x =>
    rw [hd] at g
    exact g
  | ok d =>
    rw [hd, R.bind_ok] at g
    intro v H' A sm r _
    cases d with
    | bool b =>
      cases r.weak
      exact ⟨b, rfl, g H' sm⟩
    | _ => exact g.elim
def cmpT (g : D → D → R D) (f1 f2 : Env → R D) : Env → R Bool := tb (b2 g f1 f2)
theorem dt_cmp {op : CmpOp} {g : D → D → R D} (h : OpD X (compareOp op) g) (h1 : DE X W ow k1 a d1) (h2 : DE X W ow k2 b d2) (hm : behindInMarks op b = false) : DT X W ow (.Compare a [op] [b] pos) (tb (b2 g d1 d2)) := by
  obtain ⟨r, ho, hg, hr⟩ := h
  obtain ⟨ta, p1, q1⟩ := h1
  obtain ⟨tb', p2, q2⟩ := h2
  refine ⟨_, pt_cmpR ho p1 p2 hm, fun σ ρ H As Q S q => t2_good (g := g) q2 q1 hg hr S ?_⟩
  unfold tb at q
  cases hd : b2 g d1 d2 ρ with
  | stk =>
    rw [hd] at q
    exact q
  | exc x =>
    rw [hd] at q
    exact q
  | ok d =>
    rw [hd, R.bind_ok] at q
    intro v H' A sm r _
    cases d with
    | bool b =>
      cases r.weak
      exact ⟨b, rfl, q H' sm⟩
    | _ => exact q.elim
def notT (f : Env → R Bool) : Env → R Bool := fun ρ => (f ρ).bind fun b => .ok (!b)
def andT (f g : Env → R Bool) : Env → R Bool := fun ρ => (f ρ).bind fun b => if b = true then g ρ else .ok false
def orT (f g : Env → R Bool) : Env → R Bool := fun ρ => (f ρ).bind fun b => if b = true then .ok true else g ρ
theorem dt_not {f : Env → R Bool} (h : DT X W ow a f) : DT X W ow (.UnaryOp .Not a pos) (notT f) := by
  obtain ⟨te, p, q⟩ := h
  refine ⟨_, pt_not p, fun σ ρ H As Q S g => q σ ρ H As _ S ?_⟩
  unfold notT at g
  cases hd : f ρ with
  | stk =>
    rw [hd] at g
    exact g
  | exc x =>
    rw [hd] at g
    exact g
  | ok d =>
    rw [hd, R.bind_ok] at g
    exact g
theorem dw_and1 {f : Env → R Bool} (h : DT X W ow a f) : DW X W ow (.BoolOp .And [a] pos) f := by
  obtain ⟨te, p, q⟩ := h
  exact ⟨_, pw_and1 p, q⟩
theorem dw_or1 {f : Env → R Bool} (h : DT X W ow a f) : DW X W ow (.BoolOp .Or [a] pos) f := by
  obtain ⟨te, p, q⟩ := h
  exact ⟨_, pw_or1 p, q⟩
theorem dw_and {f g : Env → R Bool} {c : Expr} {rest : List Expr} {pos2 : Pos} (h : DT X W ow a f) (h2 : DW X W ow (.BoolOp .And (b :: rest) pos) g) : DW X W ow (.BoolOp .And (a :: b :: rest) pos) (andT f g) := by
  obtain ⟨te, p, q⟩ := h
  obtain ⟨tf, p2, q2⟩ := h2
  refine ⟨_, pw_and p p2, fun σ ρ H As Q S z => q σ ρ H As _ S ?_⟩
  unfold andT at z
  cases hd : f ρ with
  | stk =>
    rw [hd] at z
    exact z
  | exc x =>
    rw [hd] at z
    exact z
  | ok d =>
    rw [hd, R.bind_ok] at z
    intro H1 s1
    cases d with
    | false =>
      rw [if_neg Bool.false_ne_true] at z
      exact iteF (z H1 s1)
    | true =>
      rw [if_pos rfl] at z
      refine iteT (q2 σ ρ H1 As _ (S.same s1) ?_)
      cases hg : g ρ with
      | stk =>
        rw [hg] at z
        exact z
      | exc x =>
        rw [hg] at z
        exact fun c dd H' A sm r => z c dd H' A (s1.trans sm) r
      | ok d =>
        rw [hg] at z
        exact fun H' sm => z H' (s1.trans sm)
theorem dw_or {f g : Env → R Bool} {rest : List Expr} (h : DT X W ow a f) (h2 : DW X W ow (.BoolOp .Or (b :: rest) pos) g) : DW X W ow (.BoolOp .Or (a :: b :: rest) pos) (orT f g) := by
  obtain ⟨te, p, q⟩ := h
  obtain ⟨tf, p2, q2⟩ := h2
  refine ⟨_, pw_or p p2, fun σ ρ H As Q S z => q σ ρ H As _ S ?_⟩
  unfold orT at z
  cases hd : f ρ with
  | stk =>
    rw [hd] at z
    exact z
  | exc x =>
    rw [hd] at z
    exact z
  | ok d =>
    rw [hd, R.bind_ok] at z
    intro H1 s1
    cases d with
    | true =>
      rw [if_pos rfl] at z
      exact iteT (z H1 s1)
    | false =>
      rw [if_neg Bool.false_ne_true] at z
      refine iteF (q2 σ ρ H1 As _ (S.same s1) ?_)
      cases hg : g ρ with
      | stk =>
        rw [hg] at z
        exact z
      | exc x =>
        rw [hg] at z
        exact fun c dd H' A sm r => z c dd H' A (s1.trans sm) r
      | ok d =>
        rw [hg] at z
        exact fun H' sm => z H' (s1.trans sm)
theorem dt_w {f : Env → R Bool} (h : DW X W ow e f) : DT X W ow e f := by
  obtain ⟨te, p, q⟩ := h
  exact ⟨_, p.pt, q⟩
/-- a test of two comparisons: a op b op c -/
def chT (g g' : D → D → R D) (f1 f2 f3 : Env → R D) : Env → R Bool := fun ρ => (f1 ρ).bind fun x => (f2 ρ).bind fun y => ((g x y).bind tst).bind fun b => if b = true then (f3 ρ).bind fun z => (g' y z).bind tst else .ok false
/-! ### if as an expression -/
def ifE (c : Env → R Bool) (f g : Env → R D) : Env → R D := fun ρ => (c ρ).bind fun b => if b = true then f ρ else g ρ
theorem de_if {c : Expr} {f : Env → R Bool} (hc : DT X W ow c f) (h1 : DE X W ow k a d1) (h2 : DE X W ow k b d2) : DE X W ow k (.IfExp c a b pos) (ifE f d1 d2) := by
  obtain ⟨te, p, q⟩ := hc
  obtain ⟨ta, p1, q1⟩ := h1
  obtain ⟨tb', p2, q2⟩ := h2
  refine ⟨_, pe_ifExp p p1 p2, fun σ ρ H As Q S z => q σ ρ H As _ S ?_⟩
  unfold ifE at z
  have tr : ∀ H1, Same H H1 → ∀ r : R D, Good X W σ ow k H As r Q → Good X W σ ow k H1 As r Q := by
    intro H1 s1 r g
    cases r with
    | stk => exact g
    | exc x => exact fun c dd H' A sm r => g c dd H' A (s1.trans sm) r
    | ok d =>
      intro v H' A sm rp ok
      refine g v H' A (s1.trans sm) rp ?_
      cases k with
      | br ss => exact ok
      | own ms => exact ⟨ok.1, ok.2.1, fun a ha => (ok.2.2 a ha).imp (fun z => s1.free z) id⟩
  cases hd : f ρ with
  | stk =>
    rw [hd] at z
    exact z
  | exc x =>
    rw [hd] at z
    exact z
  | ok d =>
    rw [hd, R.bind_ok] at z
    intro H1 s1
    cases d with
    | true =>
      rw [if_pos rfl] at z
      exact iteT (q1 σ ρ H1 As _ (S.same s1) (tr H1 s1 _ z))
    | false =>
      rw [if_neg Bool.false_ne_true] at z
      exact iteF (q2 σ ρ H1 As _ (S.same s1) (tr H1 s1 _ z))
end
end Dg

namespace Dg
open PySem PySem.Spec PyProof.Rows L2
section
variable {X : Cx} {W : WX} {ow : List Nat} {k k1 k2 : Kd} {e a b : Expr} {den d1 d2 : Env → R D} {pos : Pos}
/-! ### what may be compared: no dicts, not too deep -/
def okD (d : D) : Bool := flat d && d.plain && decide (d.depth ≤ 60)
theorem okD.flat {d : D} (h : okD d = true) : flat d = true := by
  unfold okD at h
  simp only [Bool.and_eq_true] at h
  exact h.1.1
theorem okD.plain {d : D} (h : okD d = true) : d.plain = true := by
  unfold okD at h
  simp only [Bool.and_eq_true] at h
  exact h.1.2
theorem okD.depth {d : D} (h : okD d = true) : d.depth ≤ 60 := by
  unfold okD at h
  simp only [Bool.and_eq_true, decide_eq_true_eq] at h
  exact h.2
theorem opD_bool {f : Value → Value → Sem Value} {g : D → D → R D} (hg : ∀ x y z, g x y ≠ .exc z) (hb : ∀ x y d, g x y = .ok d → (∃ b, d = .bool b) ∧ Dg.flat x = true ∧ Dg.flat y = true)
    (run : ∀ (s : Shared) (v u : Value) (d e : D) (b : Bool) (as bs : List Addr) (Q E : Value → Shared → Prop), Reads s.heap v d as → Reads s.heap u e bs → g d e = .ok (.bool b) → Q (.bool b) s → wpAny (model X.prog X.w) X.A (f v u) Q E s) : OpD X f g := by
  refine ⟨fun x y H Q => ∃ d e b, Dp X.K H x d ∧ Dp X.K H y e ∧ g d e = .ok (.bool b) ∧ Q (.bl b) H, ?_, hg, ?_⟩
  · intro pins s σ H x y v u Q I rx ry h
    obtain ⟨d, e, b, hd, he, hq, q⟩ := h
    obtain ⟨as, r1⟩ := Dp.reads I d x v hd rx
    obtain ⟨bs, r2⟩ := Dp.reads I e y u he ry
    exact run s v u d e b as bs _ _ r1 r2 hq ⟨.bl _, H, I, rfl, q⟩
  · intro H x y dx dy A B Q r1 r2 h
    cases e : g dx dy with
    | ok d =>
      obtain ⟨⟨b, rfl⟩, f1, f2⟩ := hb dx dy d e
      refine ⟨dx, dy, b, r1.dp f1, r2.dp f2, e, ?_⟩
      rw [e] at h
      exact h (.bl b) H [] (Same.refl H) (.bl b) List.nodup_nil fun a ha => by cases ha
    | exc z => exact absurd e (hg dx dy z)
    | stk =>
      rw [e] at h
      exact h.elim
def dEq (x y : D) : R D := if (okD x && okD y) = true then .ok (.bool (PyData.eqv x y)) else .stk
def dNe (x y : D) : R D := if (okD x && okD y) = true then .ok (.bool (!PyData.eqv x y)) else .stk
theorem gif {c : Bool} {z : D} {d : D} (h : (if c = true then R.ok z else R.stk) = R.ok d) : c = true ∧ z = d := by
  cases c with
  | true =>
    rw [if_pos rfl] at h
    cases h
    exact ⟨rfl, rfl⟩
  | false =>
    rw [if_neg Bool.false_ne_true] at h
    cases h
theorem gifx {c : Bool} {z : D} {x : Exn} : (if c = true then R.ok z else R.stk) ≠ R.exc x := by
  cases c with
  | true =>
    rw [if_pos rfl]
    intro h
    cases h
  | false =>
    rw [if_neg Bool.false_ne_true]
    intro h
    cases h
theorem units60 (hu : X.A.units + 64 < cLine) {d e : D} (h : d.depth ≤ 60) : X.A.units + 1 + min d.depth e.depth < cLine := by
  have := Nat.min_le_left d.depth e.depth
  omega
theorem units60' (hu : X.A.units + 64 < cLine) {d e : D} (h : d.depth ≤ 60) : X.A.units + min d.depth e.depth < cLine := by
  have := Nat.min_le_left d.depth e.depth
  omega
theorem op_dEq (hu : X.A.units + 64 < cLine) : OpD X (compareOp .Eq) dEq := by
  refine opD_bool (fun _ _ _ => gifx) (fun x y d h => ?_) fun s v u d e b as bs Q E r1 r2 h q => ?_
  · obtain ⟨h1, rfl⟩ := gif h
    rw [Bool.and_eq_true] at h1
    exact ⟨⟨_, rfl⟩, okD.flat h1.1, okD.flat h1.2⟩
  · obtain ⟨h1, h2⟩ := gif h
    rw [Bool.and_eq_true] at h1
    cases h2
    exact SeqAt.eq_plain r1 r2 (okD.plain h1.1) (okD.plain h1.2) (units60' hu (okD.depth h1.1)) q
theorem op_dNe (hu : X.A.units + 64 < cLine) : OpD X (compareOp .NotEq) dNe := by
  refine opD_bool (fun _ _ _ => gifx) (fun x y d h => ?_) fun s v u d e b as bs Q E r1 r2 h q => ?_
  · obtain ⟨h1, rfl⟩ := gif h
    rw [Bool.and_eq_true] at h1
    exact ⟨⟨_, rfl⟩, okD.flat h1.1, okD.flat h1.2⟩
  · obtain ⟨h1, h2⟩ := gif h
    rw [Bool.and_eq_true] at h1
    cases h2
    exact SeqAt.ne_plain r1 r2 (okD.plain h1.1) (okD.plain h1.2) (units60' hu (okD.depth h1.1)) q
/-! ### order -/
def isNone : D → Bool
  | .none => true
  | _ => false
theorem isNone_ne {d : D} (h : isNone d = false) : d ≠ .none := fun z => by
  subst z
  cases h
def ordD (x y : D) : Bool := (okD x && okD y) && (PySem.W.alike x y && !isNone x)
def dLt (x y : D) : R D := if ordD x y = true then .ok (.bool (PySem.W.dataLt x y)) else .stk
def dGt (x y : D) : R D := if ordD x y = true then .ok (.bool (PySem.W.dataLt y x)) else .stk
def dLe (x y : D) : R D := if ordD x y = true then .ok (.bool (!PySem.W.dataLt y x)) else .stk
def dGe (x y : D) : R D := if ordD x y = true then .ok (.bool (!PySem.W.dataLt x y)) else .stk
theorem ordD_all {x y : D} (h : ordD x y = true) : okD x = true ∧ okD y = true ∧ PySem.W.alike x y = true ∧ x ≠ .none := by
  unfold ordD at h
  simp only [Bool.and_eq_true, Bool.not_eq_true'] at h
  exact ⟨h.1.1, h.1.2, h.2.1, isNone_ne h.2.2⟩
theorem op_dLt (hu : X.A.units + 64 < cLine) : OpD X (compareOp .Lt) dLt := by
  refine opD_bool (fun _ _ _ => gifx) (fun x y d h => ?_) fun s v u d e b as bs Q E r1 r2 h q => ?_
  · obtain ⟨h1, rfl⟩ := gif h
    obtain ⟨p1, p2, p3, p4⟩ := ordD_all h1
    exact ⟨⟨_, rfl⟩, okD.flat p1, okD.flat p2⟩
  · obtain ⟨h1, h2⟩ := gif h
    obtain ⟨p1, p2, p3, p4⟩ := ordD_all h1
    cases h2
    exact PySem.W.lt_data r1 r2 p3 p4 (units60' hu (okD.depth p1)) q
theorem op_dGt (hu : X.A.units + 64 < cLine) : OpD X (compareOp .Gt) dGt := by
  refine opD_bool (fun _ _ _ => gifx) (fun x y d h => ?_) fun s v u d e b as bs Q E r1 r2 h q => ?_
  · obtain ⟨h1, rfl⟩ := gif h
    obtain ⟨p1, p2, p3, p4⟩ := ordD_all h1
    exact ⟨⟨_, rfl⟩, okD.flat p1, okD.flat p2⟩
  · obtain ⟨h1, h2⟩ := gif h
    obtain ⟨p1, p2, p3, p4⟩ := ordD_all h1
    cases h2
    exact PySem.W.gt_data r1 r2 p3 p4 (units60' hu (okD.depth p1)) q
theorem op_dLe (hu : X.A.units + 64 < cLine) : OpD X (compareOp .LtE) dLe := by
  refine opD_bool (fun _ _ _ => gifx) (fun x y d h => ?_) fun s v u d e b as bs Q E r1 r2 h q => ?_
  · obtain ⟨h1, rfl⟩ := gif h
    obtain ⟨p1, p2, p3, p4⟩ := ordD_all h1
    exact ⟨⟨_, rfl⟩, okD.flat p1, okD.flat p2⟩
  · obtain ⟨h1, h2⟩ := gif h
    obtain ⟨p1, p2, p3, p4⟩ := ordD_all h1
    cases h2
    exact PySem.W.le_data r1 r2 p3 p4 (units60' hu (okD.depth p1)) q
theorem op_dGe (hu : X.A.units + 64 < cLine) : OpD X (compareOp .GtE) dGe := by
  refine opD_bool (fun _ _ _ => gifx) (fun x y d h => ?_) fun s v u d e b as bs Q E r1 r2 h q => ?_
  · obtain ⟨h1, rfl⟩ := gif h
    obtain ⟨p1, p2, p3, p4⟩ := ordD_all h1
    exact ⟨⟨_, rfl⟩, okD.flat p1, okD.flat p2⟩
  · obtain ⟨h1, h2⟩ := gif h
    obtain ⟨p1, p2, p3, p4⟩ := ordD_all h1
    cases h2
    exact PySem.W.ge_data r1 r2 p3 p4 (units60' hu (okD.depth p1)) q
/-! ### is None -/
def dIsN (x y : D) : R D := match x, y with
  | .none, .none => .ok (.bool true)
  | .bool _, .none => .ok (.bool false)
  | .int _, .none => .ok (.bool false)
  | .str _, .none => .ok (.bool false)
  | .list _, .none => .ok (.bool false)
  | .tuple _, .none => .ok (.bool false)
  | .dict _, .none => .ok (.bool false)
  | _, _ => .stk
def dNotN (x y : D) : R D := (dIsN x y).bind fun d => match d with
  | .bool b => .ok (.bool (!b))
  | _ => .stk
theorem op_dIsN : OpD X (compareOp .Is) dIsN := by
  refine ⟨_, op_isN, fun x y z h => ?_, fun H x y dx dy A B Q r1 r2 h => ?_⟩
  · unfold dIsN at h
    split at h <;> cases h
  · unfold dIsN at h
    split at h <;> first
      | exact h.elim
      | (cases r2; cases r1 <;> exact ⟨rfl, h _ H [] (Same.refl H) (.bl _) List.nodup_nil fun a ha => by cases ha⟩)
theorem op_dNotN : OpD X (compareOp .IsNot) dNotN := by
  refine ⟨_, op_notN, fun x y z h => ?_, fun H x y dx dy A B Q r1 r2 h => ?_⟩
  · unfold dNotN dIsN at h
    split at h <;> cases h
  · unfold dNotN dIsN at h
    split at h <;> first
      | exact h.elim
      | (cases r2; cases r1 <;> exact ⟨rfl, h _ H [] (Same.refl H) (.bl _) List.nodup_nil fun a ha => by cases ha⟩)
/-! ### in, not in -/
def dIn (x y : D) : R D := match y with
  | .list ys => if (okD x && okD (.list ys)) = true then .ok (.bool (ys.any fun z => PyData.eqv z x)) else .stk
  | .tuple ys => if (okD x && okD (.tuple ys)) = true then .ok (.bool (ys.any fun z => PyData.eqv z x)) else .stk
  | .str t => match x with
    | .str z => .ok (.bool (!(Builtin.Str.occurrences t z 0 t.length 1).isEmpty))
    | _ => .stk
  | .dict kvs => match x with
    | .str z => .ok (.bool (kvs.any fun p => PyData.eqv p.1 (.str z)))
    | _ => .stk
  | _ => .stk
end
end Dg

namespace Dg
open PySem PySem.Spec PyProof.Rows L2
section
variable {X : Cx} {W : WX} {ow : List Nat} {k k1 k2 : Kd} {e a b : Expr} {den d1 d2 : Env → R D} {pos : Pos}
theorem fresh_imm {H : Hp} {d : D} {Q : VK} {v : V} (r : ∀ K mg H, Rep K mg H true v d []) (h : Fresh X H (.ok d) Q) : Q v H := h v H [] (Same.refl H) (r _ _ _) List.nodup_nil fun a ha => by cases ha
/-! ### numbers -/
def dAdd (x y : D) : R D := match x, y with
  | .int i, .int j => .ok (.int (i + j))
  | .str s, .str t => if s.length + t.length ≤ sizeLine then .ok (.str (s ++ t)) else .stk
  | .list xs, .list ys => if (immL xs && immL ys) = true ∧ xs.length + ys.length ≤ sizeLine then .ok (.list (xs ++ ys)) else .stk
  | .tuple xs, .tuple ys => if (immL xs && immL ys) = true ∧ xs ≠ [] ∧ xs.length + ys.length ≤ sizeLine then .ok (.tuple (xs ++ ys)) else .stk
  | _, _ => .stk
theorem op_dAdd : OpD X (binaryOp .Add) dAdd := by
  refine ⟨_, op_add.or (op_add_str.or (op_cat.or op_catT)), fun x y z h => ?_, fun H x y dx dy A B Q r1 r2 h => ?_⟩
  · unfold dAdd at h
    split at h <;> first | (cases h; done) | (split at h <;> cases h)
  · unfold dAdd at h
    split at h
    · cases r1
      cases r2
      exact .inl ⟨_, _, rfl, rfl, fresh_imm (fun _ _ _ => .int _) h⟩
    · cases r1
      cases r2
      split at h
      · rename_i hz
        exact .inr (.inl ⟨_, _, rfl, rfl, hz, fresh_imm (fun _ _ _ => .str _) h⟩)
      · exact h.elim
    · split at h
      · rename_i hz
        rw [Bool.and_eq_true] at hz
        cases r1 with
        | lst h1 l1 =>
          cases r2 with
          | lst h2 l2 =>
            obtain ⟨e1, q1⟩ := l1.imm hz.1.1
            obtain ⟨e2, q2⟩ := l2.imm hz.1.2
            refine .inr (.inr (.inl ⟨_, _, _, _, rfl, rfl, h1, h2, (by rw [l1.len, l2.len]; exact hz.2), fun p hp => ?_⟩))
            exact h _ _ [p] (same_upd hp) (.lst upd_same ((q1.same (same_upd hp)).app (q2.same (same_upd hp)))) (List.nodup_cons.mpr ⟨(by intro z; cases z), List.nodup_nil⟩) fun a ha => by
              rw [List.mem_singleton.mp ha]
              exact hp
      · exact h.elim
    · split at h
      · rename_i xs ys hz
        rw [Bool.and_eq_true] at hz
        cases r1 with
        | tup h1 l1 =>
          cases r2 with
          | tup h2 l2 =>
            obtain ⟨e1, q1⟩ := l1.imm hz.1.1
            obtain ⟨e2, q2⟩ := l2.imm hz.1.2
            refine .inr (.inr (.inr ⟨_, _, _, _, rfl, rfl, h1, h2, (fun z => hz.2.1 (List.length_eq_zero_iff.mp (by rw [← l1.len, z]; rfl))), (by rw [l1.len, l2.len]; exact hz.2.2), fun z => ?_, fun z p hp => ?_⟩))
            · have ey : ys = [] := List.length_eq_zero_iff.mp (by rw [← l2.len, z]; rfl)
              subst ey
              rw [List.append_nil] at h
              exact h _ H [] (Same.refl H) (.tup h1 q1) List.nodup_nil fun a ha => by cases ha
            · exact h _ _ [] (same_upd hp) (.tup (.inl (.inl upd_same)) ((q1.same (same_upd hp)).app (q2.same (same_upd hp)))) List.nodup_nil fun a ha => by cases ha
      · exact h.elim
    · exact h.elim
def dSub (x y : D) : R D := match x, y with
  | .int i, .int j => .ok (.int (i - j))
  | _, _ => .stk
theorem op_dSub : OpD X (binaryOp .Sub) dSub := by
  refine ⟨_, op_sub, fun x y z h => ?_, fun H x y dx dy A B Q r1 r2 h => ?_⟩
  · unfold dSub at h
    split at h <;> cases h
  · unfold dSub at h
    split at h
    · cases r1
      cases r2
      exact ⟨_, _, rfl, rfl, fresh_imm (fun _ _ _ => .int _) h⟩
    · exact h.elim
def smallI (i : Int) : Bool := decide (-(2 ^ 64) < i ∧ i < 2 ^ 64)
def dMul (x y : D) : R D := match x, y with
  | .int i, .int j => if (smallI i || smallI j) = true then .ok (.int (i * j)) else .stk
  | .str s, .int j => if 0 ≤ j ∧ j < 1000 ∧ s.length ≤ 1000 then .ok (.str ⟨(List.replicate j.toNat s.cps.toList).flatten.toArray⟩) else .stk
  | _, _ => .stk
def dMod (x y : D) : R D := match x, y with
  | .int i, .int j => if 0 < j then .ok (.int (i % j)) else .stk
  | _, _ => .stk
theorem op_dMod : OpD X (binaryOp .Mod) dMod := by
  refine ⟨_, op_mod, fun x y z h => ?_, fun H x y dx dy A B Q r1 r2 h => ?_⟩
  · unfold dMod at h
    split at h <;> first | (cases h; done) | (split at h <;> cases h)
  · unfold dMod at h
    split at h
    · cases r1
      cases r2
      split at h
      · rename_i hz
        exact ⟨_, _, rfl, rfl, hz, fresh_imm (fun _ _ _ => .int _) h⟩
      · exact h.elim
    · exact h.elim
def dDiv (x y : D) : R D := match x, y with
  | .int i, .int j => if 0 < j ∧ j < 1073741824 then .ok (.int (i / j)) else .stk
  | _, _ => .stk
theorem op_dDiv : OpD X (binaryOp .FloorDiv) dDiv := by
  refine ⟨_, op_fdiv, fun x y z h => ?_, fun H x y dx dy A B Q r1 r2 h => ?_⟩
  · unfold dDiv at h
    split at h <;> first | (cases h; done) | (split at h <;> cases h)
  · unfold dDiv at h
    split at h
    · cases r1
      cases r2
      split at h
      · rename_i hz
        exact ⟨_, _, rfl, rfl, hz, fresh_imm (fun _ _ _ => .int _) h⟩
      · exact h.elim
    · exact h.elim
def dPow (x y : D) : R D := match x, y with
  | .int i, .int j => if 0 ≤ j ∧ j ≤ 1000000 ∧ i.natAbs < 2 ^ 64 then .ok (.int (i ^ j.toNat)) else .stk
  | _, _ => .stk
theorem op_dPow : OpD X (binaryOp .Pow) dPow := by
  refine ⟨_, op_pow, fun x y z h => ?_, fun H x y dx dy A B Q r1 r2 h => ?_⟩
  · unfold dPow at h
    split at h <;> first | (cases h; done) | (split at h <;> cases h)
  · unfold dPow at h
    split at h
    · cases r1
      cases r2
      split at h
      · rename_i hz
        exact ⟨_, _, rfl, rfl, hz, fresh_imm (fun _ _ _ => .int _) h⟩
      · exact h.elim
    · exact h.elim
def dNeg (x : D) : R D := match x with
  | .int i => .ok (.int (-i))
  | _ => .stk
theorem un_dNeg : UnD X (unaryOp .USub) dNeg := by
  refine ⟨_, un_neg, fun x z h => ?_, fun H x dx A Q r1 h => ?_⟩
  · unfold dNeg at h
    split at h <;> cases h
  · unfold dNeg at h
    split at h
    · cases r1
      exact ⟨_, rfl, fresh_imm (fun _ _ _ => .int _) h⟩
    · exact h.elim
/-! ### in, not in -/
def dInS (neg : Bool) (x y : D) : R D := match y with
  | .list ys => if (okD x && okD (.list ys)) = true then .ok (.bool (neg != ys.any fun z => PyData.eqv z x)) else .stk
  | .tuple ys => if (okD x && okD (.tuple ys)) = true then .ok (.bool (neg != ys.any fun z => PyData.eqv z x)) else .stk
  | .str t => match x with
    | .str z => match z.cps.toList with
      | [c] => .ok (.bool (neg != decide (c ∈ t.cps.toList)))
      | _ => .stk
    | _ => .stk
  | _ => .stk
theorem one_sign {z : Str} {c : Nat} (h : z.cps.toList = [c]) : z = ⟨#[c]⟩ := by
  cases z with
  | mk a =>
    have e : a = #[c] := Array.toList_inj.mp h
    rw [e]
theorem okL_flat {ys : List D} (h : okD (.list ys) = true) : Dg.flat (.list ys) = true ∧ PyData.plainAll ys = true ∧ PyData.depthAll ys ≤ 60 := by
  refine ⟨okD.flat h, ?_, ?_⟩
  · have := okD.plain h
    rw [PyData.plain] at this
    exact this
  · have := okD.depth h
    rw [PyData.depth] at this
    omega
theorem okT_flat {ys : List D} (h : okD (.tuple ys) = true) : Dg.flat (.tuple ys) = true ∧ PyData.plainAll ys = true ∧ PyData.depthAll ys ≤ 60 := by
  refine ⟨okD.flat h, ?_, ?_⟩
  · have := okD.plain h
    rw [PyData.plain] at this
    exact this
  · have := okD.depth h
    rw [PyData.depth] at this
    omega
theorem gife {c : Bool} {z w : D} (h : (if c = true then R.ok z else R.stk) = R.ok w) : c = true ∧ z = w := gif h
theorem op_dInS (hu : X.A.units + 64 < cLine) : OpD X (compareOp .In) (dInS false) := by
  refine opD_bool (fun x y z h => ?_) (fun x y d h => ?_) fun s v u d e b as bs Q E r1 r2 h q => ?_
  · unfold dInS at h
    split at h <;> first | (cases h; done) | exact gifx h | (split at h <;> first | (cases h; done) | (split at h <;> cases h))
  · unfold dInS at h
    split at h
    · obtain ⟨h1, rfl⟩ := gif h
      rw [Bool.and_eq_true] at h1
      exact ⟨⟨_, rfl⟩, okD.flat h1.1, okD.flat h1.2⟩
    · obtain ⟨h1, rfl⟩ := gif h
      rw [Bool.and_eq_true] at h1
      exact ⟨⟨_, rfl⟩, okD.flat h1.1, okD.flat h1.2⟩
    · split at h
      · split at h
        · cases h
          exact ⟨⟨_, rfl⟩, rfl, rfl⟩
        · cases h
      · cases h
    · cases h
  · unfold dInS at h
    split at h
    · obtain ⟨h1, h2⟩ := gif h
      rw [Bool.and_eq_true] at h1
      obtain ⟨_, p2, p3⟩ := okL_flat h1.2
      cases h2
      refine SeqAt.in_list_data r2 r1 p2 (okD.plain h1.1) ?_ (by rw [Bool.false_bne] at q; exact q)
      have := Nat.min_le_left (PyData.depthAll ‹List D›) d.depth
      omega
    · obtain ⟨h1, h2⟩ := gif h
      rw [Bool.and_eq_true] at h1
      obtain ⟨_, p2, p3⟩ := okT_flat h1.2
      cases h2
      refine SeqAt.in_tuple_data r2 r1 p2 (okD.plain h1.1) ?_ (by rw [Bool.false_bne] at q; exact q)
      have := Nat.min_le_left (PyData.depthAll ‹List D›) d.depth
      omega
    · split at h
      · split at h
        · rename_i hc
          cases h
          cases r1
          cases r2
          rw [one_sign hc]
          refine PyProof.Rows.in_str ?_
          rw [PySem.StrLaws.found_one]
          rw [Bool.false_bne] at q
          exact q
        · cases h
      · cases h
    · cases h
theorem op_dNotIn (hu : X.A.units + 64 < cLine) : OpD X (compareOp .NotIn) (dInS true) := by
  refine opD_bool (fun x y z h => ?_) (fun x y d h => ?_) fun s v u d e b as bs Q E r1 r2 h q => ?_
  · unfold dInS at h
    split at h <;> first | (cases h; done) | exact gifx h | (split at h <;> first | (cases h; done) | (split at h <;> cases h))
  · unfold dInS at h
    split at h
    · obtain ⟨h1, rfl⟩ := gif h
      rw [Bool.and_eq_true] at h1
      exact ⟨⟨_, rfl⟩, okD.flat h1.1, okD.flat h1.2⟩
    · obtain ⟨h1, rfl⟩ := gif h
      rw [Bool.and_eq_true] at h1
      exact ⟨⟨_, rfl⟩, okD.flat h1.1, okD.flat h1.2⟩
    · split at h
      · split at h
        · cases h
          exact ⟨⟨_, rfl⟩, rfl, rfl⟩
        · cases h
      · cases h
    · cases h
  · unfold dInS at h
    split at h
    · obtain ⟨h1, h2⟩ := gif h
      rw [Bool.and_eq_true] at h1
      obtain ⟨_, p2, p3⟩ := okL_flat h1.2
      cases h2
      refine SeqAt.notIn_list_data r2 r1 p2 (okD.plain h1.1) ?_ (by rw [Bool.true_bne] at q; exact q)
      have := Nat.min_le_left (PyData.depthAll ‹List D›) d.depth
      omega
    · obtain ⟨h1, h2⟩ := gif h
      rw [Bool.and_eq_true] at h1
      obtain ⟨_, p2, p3⟩ := okT_flat h1.2
      cases h2
      refine SeqAt.notIn_tuple_data r2 r1 p2 (okD.plain h1.1) ?_ (by rw [Bool.true_bne] at q; exact q)
      have := Nat.min_le_left (PyData.depthAll ‹List D›) d.depth
      omega
    · split at h
      · split at h
        · rename_i hc
          cases h
          cases r1
          cases r2
          rw [one_sign hc]
          refine PyProof.Rows.notIn_str ?_
          rw [PySem.StrLaws.found_one]
          rw [Bool.true_bne] at q
          exact q
        · cases h
      · cases h
    · cases h
end
end Dg

namespace Dg
open PySem PySem.Spec PyProof.Rows L2
section
variable {X : Cx} {W : WX} {ow : List Nat} {k k1 k2 k3 : Kd} {e a b c : Expr} {den d1 d2 d3 : Env → R D} {pos p2 : Pos}
theorem repL_drop {K : PySem.W.Frag} {mg : Str → Option Value} {H : Hp} {o : Bool} : ∀ (n : Nat) {v : List V} {d : List D} {A : List Addr}, RepL K mg H o v d A → ∃ B, RepL K mg H o (v.drop n) (d.drop n) B ∧ ∀ a ∈ B, a ∈ A
  | 0, _, _, _, h => ⟨_, h, fun _ z => z⟩
  | _ + 1, _, _, _, .nil => ⟨_, .nil, fun _ z => z⟩
  | n + 1, _, _, _, .cons _ r => by
    obtain ⟨B, h, q⟩ := repL_drop n r
    exact ⟨B, h, fun a ha => List.mem_append_right _ (q a ha)⟩
theorem repL_take {K : PySem.W.Frag} {mg : Str → Option Value} {H : Hp} {o : Bool} : ∀ (n : Nat) {v : List V} {d : List D} {A : List Addr}, RepL K mg H o v d A → ∃ B, RepL K mg H o (v.take n) (d.take n) B ∧ ∀ a ∈ B, a ∈ A
  | 0, _, _, _, h => ⟨[], .nil, fun _ z => by cases z⟩
  | _ + 1, _, _, _, .nil => ⟨_, .nil, fun _ z => z⟩
  | n + 1, _, _, _, .cons h r => by
    obtain ⟨B, h', q⟩ := repL_take n r
    exact ⟨_, .cons h h', fun a ha => by
      rcases List.mem_append.mp ha with z | z
      · exact List.mem_append_left _ z
      · exact List.mem_append_right _ (q a z)⟩
def cutA {α : Type} (xs : List α) (lo hi : Option Int) : List α := (xs.drop (HT.sIx xs.length 0 lo)).take (HT.sIx xs.length xs.length hi - HT.sIx xs.length 0 lo)
theorem repL_cut {K : PySem.W.Frag} {mg : Str → Option Value} {H : Hp} {v : List V} {d : List D} (lo hi : Option Int) (h : RepL K mg H true v d []) : RepL K mg H true (cutV v lo hi) (cutA d lo hi) [] := by
  unfold cutV cutA
  rw [h.len]
  obtain ⟨B, h1, q1⟩ := repL_drop (HT.sIx d.length 0 lo) h
  obtain ⟨C, h2, q2⟩ := repL_take (HT.sIx d.length d.length hi - HT.sIx d.length 0 lo) h1
  cases C with
  | nil => exact h2
  | cons a C => exact absurd (q1 a (q2 a List.mem_cons_self)) (by intro z; cases z)
/-! ### subscripts -/
def ofO (o : Option D) : R D := match o with
  | some d => .ok d
  | none => .stk
def keq : D → D → Bool
  | .str a, .str b => decide (a = b)
  | .int a, .int b => decide (a = b)
  | _, _ => false
def lookD : List (D × D) → D → Option D
  | [], _ => none
  | (q, d) :: r, k => if keq q k = true then some d else lookD r k
def dIx (x y : D) : R D := match x, y with
  | .list xs, .int i => ofO (atI xs i)
  | .tuple xs, .int i => ofO (atI xs i)
  | .str s, .int i => if s.length ≤ sizeLine then ofO ((atI s.cps.toList i).map fun c => .str ⟨#[c]⟩) else .stk
  | .dict ((.none, .list xs) :: _), .int i => ofO (atI xs i)
  | .dict ((.none, _) :: _), _ => .stk
  | .dict kvs, y => ofO (lookD kvs y)
  | _, _ => .stk
theorem atI_get {α β : Type} {xs : List α} {ys : List β} {i : Int} {x : α} (hl : xs.length = ys.length) (h : atI xs i = some x) : ∃ j : Nat, xs[j]? = some x ∧ ∀ y, ys[j]? = some y → atI ys i = some y := by
  unfold atI at h
  cases e : ixN xs.length i with
  | none =>
    rw [e] at h
    cases h
  | some j =>
    rw [e] at h
    refine ⟨j, h, fun y hy => ?_⟩
    unfold atI
    rw [← hl, e]
    exact hy
theorem keq_iff {k : Key} {q : D} : keq (kD k) q = true ↔ q = kD k := by
  cases k with
  | inl i =>
    cases q <;> simp [keq, kD, eq_comm]
  | inr i =>
    cases q <;> simp [keq, kD, eq_comm]
theorem kD_inj {k l : Key} (h : kD k = kD l) : k = l := by
  cases k <;> cases l <;> first | (cases h; rfl) | cases h
theorem lookD_key {K : PySem.W.Frag} {mg : Str → Option Value} {H : Hp} {o : Bool} {y : D} {d : D} : ∀ {vs : List (Key × V)} {ds : List (D × D)} {A : List Addr}, RepP K mg H o vs ds A → lookD ds y = some d → ∃ k v B, y = kD k ∧ valV vs k = some v ∧ Rep K mg H o v d B ∧ ∀ a ∈ B, a ∈ A
  | _, _, _, .nil, e => by cases e
  | _, _, _, .cons (k := k) (v := v) h r, e => by
    unfold lookD at e
    by_cases hk : keq (kD k) y = true
    · rw [if_pos hk] at e
      cases e
      exact ⟨k, v, _, keq_iff.mp hk, valV_pos rfl, h, fun a ha => List.mem_append_left _ ha⟩
    · rw [if_neg hk] at e
      obtain ⟨l, w, B, e1, e2, e3, e4⟩ := lookD_key r e
      refine ⟨l, w, B, e1, ?_, e3, fun a ha => List.mem_append_right _ (e4 a ha)⟩
      rw [valV_neg]
      · exact e2
      · intro z
        apply hk
        rw [keq_iff, e1]
        exact congrArg kD z.symm
theorem rep_key {K : PySem.W.Frag} {mg : Str → Option Value} {H : Hp} {o : Bool} {k : Key} {v : V} {A : List Addr} (h : Rep K mg H o v (kD k) A) : v = kV k := by
  cases k with
  | inl i =>
    cases h
    rfl
  | inr i =>
    cases h
    rfl
theorem dIx_exc {x y : D} {z : Exn} : dIx x y ≠ .exc z := by
  intro h
  unfold dIx ofO at h
  split at h <;> first | (cases h; done) | (split at h <;> first | (cases h; done) | (split at h <;> cases h))
theorem repP_tag {K : PySem.W.Frag} {mg : Str → Option Value} {H : Hp} {o : Bool} {vs : List (Key × V)} {d : D} {ds : List (D × D)} {A : List Addr} (h : RepP K mg H o vs ((.none, d) :: ds) A) : False := by
  generalize e : ((PyData.none, d) :: ds) = q at h
  cases h with
  | nil => cases e
  | cons h r =>
    rename_i k v d' vs' ds' A' B'
    injection e with e1 e2
    injection e1 with e3 e4
    cases k <;> cases e3
/-- what is at y of x, in the abstract heap -/
theorem dIx_run {K : PySem.W.Frag} {mg : Str → Option Value} {H : Hp} {x y : V} {dx dy d : D} {A B : List Addr} (r1 : Rep K mg H false x dx A) (r2 : Rep K mg H false y dy B) (h : dIx dx dy = .ok d) :
    ∃ v C, Rep K mg H false v d C ∧ (∀ a ∈ C, a ∈ A) ∧ ((∀ Q : VK, Q v H → rIx K x y H Q) ∨ ∃ a, x = .ref a ∧ DGet H a y (some v)) := by
  unfold dIx at h
  split at h
  · cases r2
    cases r1 with
    | lst h1 l1 =>
      cases e : atI ‹List D› ‹Int› with
      | none =>
        rw [e] at h
        cases h
      | some z =>
        rw [e] at h
        cases h
        obtain ⟨j, hj, hr⟩ := atI_get l1.len.symm e
        obtain ⟨v, C, hv, rv, hc⟩ := l1.get hj
        exact ⟨v, C, rv, (fun a ha => List.mem_cons_of_mem _ (hc a ha)), .inl fun Q q => .inl ⟨_, _, _, _, rfl, rfl, .inl (.inl h1), hr v hv, q⟩⟩
  · cases r2
    cases r1 with
    | tup h1 l1 =>
      cases e : atI ‹List D› ‹Int› with
      | none =>
        rw [e] at h
        cases h
      | some z =>
        rw [e] at h
        cases h
        obtain ⟨j, hj, hr⟩ := atI_get l1.len.symm e
        obtain ⟨v, C, hv, rv, hc⟩ := l1.get hj
        exact ⟨v, C, rv, hc, .inl fun Q q => .inr (.inl ⟨_, _, _, _, rfl, rfl, h1, hr v hv, q⟩)⟩
  · cases r2
    cases r1
    split at h
    · rename_i hz
      cases e : atI (Str.cps ‹Str›).toList ‹Int› with
      | none =>
        rw [e] at h
        cases h
      | some z =>
        rw [e] at h
        cases h
        exact ⟨_, [], .str _, (fun a ha => by cases ha), .inl fun Q q => .inr (.inr ⟨_, _, _, rfl, rfl, hz, e, q⟩)⟩
    · cases h
  · cases r2
    generalize ed : PyData.dict ((PyData.none, PyData.list ‹List D›) :: ‹List (D × D)›) = q at r1
    cases r1 with
    | lstF h1 l1 =>
      injection ed with e1
      injection e1 with e2 e3
      injection e2 with e4 e5
      injection e5 with e6
      subst e6
      cases e : atI ‹List D› ‹Int› with
      | none =>
        rw [e] at h
        cases h
      | some z =>
        rw [e] at h
        cases h
        obtain ⟨j, hj, hr⟩ := atI_get l1.len.symm e
        obtain ⟨v, C, hv, rv, hc⟩ := l1.get hj
        exact ⟨v, C, rv, hc, .inl fun Q q => .inl ⟨_, _, _, _, rfl, rfl, h1.seq, hr v hv, q⟩⟩
    | dct h1 l1 =>
      injection ed with e1
      subst e1
      exact (repP_tag l1).elim
    | dctF h1 l1 =>
      injection ed with e1
      subst e1
      exact (repP_tag l1).elim
    | ins h1 h2 l1 =>
      injection ed with e1
      injection e1 with e2 e3
      injection e2 with e4 e5
      cases e5
    | _ => cases ed
  · cases h
  · rename_i hn _
    cases e : lookD ‹List (D × D)› dy with
    | none =>
      rw [e] at h
      cases h
    | some z =>
      rw [e] at h
      cases h
      cases r1 with
      | dct h1 l1 =>
        obtain ⟨k, v, C, rfl, ev, rv, hc⟩ := lookD_key l1 e
        rw [rep_key r2]
        exact ⟨v, C, rv, (fun a ha => List.mem_cons_of_mem _ (hc a ha)), .inr ⟨_, rfl, .inl ⟨_, k, .inl h1, rfl, ev.symm⟩⟩⟩
      | dctF h1 l1 =>
        obtain ⟨k, v, C, rfl, ev, rv, hc⟩ := lookD_key l1 e
        rw [rep_key r2]
        exact ⟨v, C, rv, hc, .inr ⟨_, rfl, .inl ⟨_, k, .inr ⟨_, h1⟩, rfl, ev.symm⟩⟩⟩
      | lstF h1 l1 => exact absurd rfl (by first | exact fun z => hn _ _ z | exact hn _ _ | skip)
      | ins h1 h2 l1 => exact absurd rfl (by first | exact fun z => hn _ _ z | exact hn _ _ | skip)
  · cases h
end
end Dg

namespace Dg
open PySem PySem.Spec PyProof.Rows L2
section
variable {X : Cx} {W : WX} {ow : List Nat} {k k1 k2 k3 : Kd} {e a b c : Expr} {den d1 d2 d3 : Env → R D} {pos p2 : Pos}
def rIxD : R2 := fun x y H Q => ∃ a v, x = .ref a ∧ DGet H a y (some v) ∧ Q v H
theorem ix_dict (hu : X.A.units + 1 < cLine) : IxR X rIxD := by
  intro value slice pins s σ H x y v u Q I rx ry h hs
  obtain ⟨a, z, rfl, g, q⟩ := h
  cases rx
  exact tail_any (dict_typeIs I g) PySem.F.slot_dict_getitem.lookup (d_getItem hu I g ry fun w' s' I' r' => ⟨z, H, I', r', q⟩) hs
theorem de_ix (hu : X.A.units + 64 < cLine) (h1 : DE X W ow k1 a d1) (h2 : DE X W ow k2 b d2) (hs : PlainIx b) : DE X W ow (.br k1.src) (.Subscript a b pos) (b2 dIx d1 d2) := by
  obtain ⟨ta, p1, q1⟩ := h1
  obtain ⟨tb, p2, q2⟩ := h2
  refine ⟨_, pe_ix (ix_seq.or (ix_dict (by omega))) p1 p2 hs, fun σ ρ H As Q S q => q1 σ ρ H As _ S ?_⟩
  unfold b2 at q
  cases e1 : d1 ρ with
  | stk =>
    rw [e1] at q
    exact q
  | exc x =>
    rw [e1] at q
    exact q
  | ok dx =>
    rw [e1, R.bind_ok] at q
    intro v H1 A s1 r1 ok1
    refine q2 σ ρ H1 As _ (S.same s1) ?_
    cases e2 : d2 ρ with
    | stk =>
      rw [e2] at q
      exact q
    | exc x =>
      rw [e2] at q
      exact fun c dd H' B sm rp => q c dd H' B (s1.trans sm) rp
    | ok dy =>
      rw [e2, R.bind_ok] at q
      intro u H2 B s2 r2 ok2
      cases e3 : dIx dx dy with
      | exc x => exact absurd e3 dIx_exc
      | stk =>
        rw [e3] at q
        exact q.elim
      | ok d =>
        rw [e3] at q
        obtain ⟨v', C, rv, hc, hq⟩ := dIx_run (r1.weak.same s2) r2.weak e3
        have fin : Q v' H2 := q v' H2 C (s1.trans s2) rv (Kd.sub (Kd.brOk S ok1) (fun _ z => z) hc)
        rcases hq with hq | ⟨p, rfl, hg⟩
        · exact .inl (hq Q fin)
        · exact .inr ⟨p, v', rfl, hg, fin⟩
/-! ### slices -/
def GoodO (X : Cx) (W : WX) (σ : L2.St) (H : Hp) (r : R (Option Int)) (Q : Option Int → Hp → Prop) : Prop := match r with
  | .ok b => ∀ H', Same H H' → Q b H'
  | .exc x => ∀ c dd H' A, Same H H' → RepX X.K X.mg H' c dd x A → W c dd σ H'
  | .stk => False
def DO (X : Cx) (W : WX) (ow : List Nat) (e : Option Expr) (den : Env → R (Option Int)) : Prop :=
  ∃ t, PO X e t ∧ ∀ σ ρ H As Q, On X ow σ ρ H As → GoodO X W σ H (den ρ) Q → t σ H Q
def noO : Env → R (Option Int) := fun _ => .ok none
def asI (d : D) : R (Option Int) := match d with
  | .int i => .ok (some i)
  | _ => .stk
def toO (f : Env → R D) : Env → R (Option Int) := fun ρ => (f ρ).bind asI
theorem do_none : DO X W ow none noO := ⟨_, po_none, fun σ ρ H As Q S q => q H (Same.refl H)⟩
theorem do_some (h : DE X W ow k e den) : DO X W ow (some e) (toO den) := by
  obtain ⟨te, p, q⟩ := h
  refine ⟨_, po_some p, fun σ ρ H As Q S g => q σ ρ H As _ S ?_⟩
  unfold toO at g
  cases hd : den ρ with
  | stk =>
    rw [hd] at g
    exact g
  | exc x =>
    rw [hd] at g
    exact g
  | ok d =>
    rw [hd, R.bind_ok] at g
    intro v H' A sm r _
    cases d with
    | int b =>
      cases r.weak
      exact ⟨b, rfl, g H' sm⟩
    | _ => exact g.elim
def dSl (x : D) (lo hi : Option Int) : R D := match x with
  | .list xs => if immL xs = true then .ok (.list (cutA xs lo hi)) else .stk
  | .str s => if s.length ≤ sizeLine then .ok (.str (cutS s lo hi)) else .stk
  | .tuple xs => if immL xs = true ∧ ¬ (HT.sIx xs.length 0 lo = 0 ∧ HT.sIx xs.length xs.length hi = xs.length) then .ok (.tuple (cutA xs lo hi)) else .stk
  | .dict ((.none, .list xs) :: _) => if immL xs = true then .ok (.list (cutA xs lo hi)) else .stk
  | _ => .stk
def slE (f : Env → R D) (l h : Env → R (Option Int)) : Env → R D := fun ρ => (f ρ).bind fun x => (l ρ).bind fun i => (h ρ).bind fun j => dSl x i j
theorem dSl_exc {x : D} {i j : Option Int} {z : Exn} : dSl x i j ≠ .exc z := by
  intro h
  unfold dSl at h
  split at h <;> first | (cases h; done) | (split at h <;> cases h)
theorem dSl_run {H : Hp} {x : V} {dx : D} {A : List Addr} {i j : Option Int} {Q : VK} (r1 : Rep X.K X.mg H false x dx A) (h : Fresh X H (dSl dx i j) Q) : rSlL X.K x i j H Q ∨ rSlT X.K x i j H Q ∨ rSlS x i j H Q := by
  unfold dSl at h
  split at h
  · cases r1 with
    | lst h1 l1 =>
      split at h
      · rename_i hz
        obtain ⟨e1, q1⟩ := l1.imm hz
        refine .inl ⟨_, _, rfl, .inl (.inl h1), fun p hp => ?_⟩
        exact h _ _ [p] (same_upd hp) (.lst upd_same (repL_cut i j (q1.same (same_upd hp)))) (List.nodup_cons.mpr ⟨(by intro z; cases z), List.nodup_nil⟩) fun a ha => by
          rw [List.mem_singleton.mp ha]
          exact hp
      · exact h.elim
  · cases r1
    split at h
    · rename_i hz
      exact .inr (.inr ⟨_, rfl, hz, fresh_imm (fun _ _ _ => .str _) h⟩)
    · exact h.elim
  · cases r1 with
    | tup h1 l1 =>
      split at h
      · rename_i hz
        obtain ⟨e1, q1⟩ := l1.imm hz.1
        refine .inr (.inl ⟨_, _, rfl, h1, (by rw [l1.len]; exact hz.2), fun p hp => ?_⟩)
        exact h _ _ [] (same_upd hp) (.tup (.inl (.inl upd_same)) (repL_cut i j (q1.same (same_upd hp)))) List.nodup_nil fun a ha => by cases ha
      · exact h.elim
  · generalize ed : PyData.dict ((PyData.none, PyData.list ‹List D›) :: ‹List (D × D)›) = q at r1
    cases r1 with
    | lstF h1 l1 =>
      injection ed with e1
      injection e1 with e2 e3
      injection e2 with e4 e5
      injection e5 with e6
      subst e6
      split at h
      · rename_i hz
        obtain ⟨e1, q1⟩ := l1.imm hz
        refine .inl ⟨_, _, rfl, h1.seq, fun p hp => ?_⟩
        exact h _ _ [p] (same_upd hp) (.lst upd_same (repL_cut i j (q1.same (same_upd hp)))) (List.nodup_cons.mpr ⟨(by intro z; cases z), List.nodup_nil⟩) fun a ha => by
          rw [List.mem_singleton.mp ha]
          exact hp
      · exact h.elim
    | dct h1 l1 =>
      injection ed with e1
      subst e1
      exact (repP_tag l1).elim
    | dctF h1 l1 =>
      injection ed with e1
      subst e1
      exact (repP_tag l1).elim
    | ins h1 h2 l1 =>
      injection ed with e1
      injection e1 with e2 e3
      injection e2 with e4 e5
      cases e5
    | _ => cases ed
  · exact h.elim
theorem de_sl {lo hi : Option Expr} {fl fh : Env → R (Option Int)} (h1 : DE X W ow k1 a d1) (h2 : DO X W ow lo fl) (h3 : DO X W ow hi fh) : DE X W ow (.own []) (.Subscript a (.Slice lo hi none p2) pos) (slE d1 fl fh) := by
  obtain ⟨ta, p1, q1⟩ := h1
  obtain ⟨tl, pl, ql⟩ := h2
  obtain ⟨th, ph, qh⟩ := h3
  refine ⟨_, pe_slice (sl_list.or (sl_tup.or sl_str)) p1 pl ph, fun σ ρ H As Q S q => q1 σ ρ H As _ S ?_⟩
  unfold slE at q
  cases e1 : d1 ρ with
  | stk =>
    rw [e1] at q
    exact q
  | exc x =>
    rw [e1] at q
    exact q
  | ok dx =>
    rw [e1, R.bind_ok] at q
    intro v H1 A s1 r1 ok1
    refine ql σ ρ H1 As _ (S.same s1) ?_
    cases e2 : fl ρ with
    | stk =>
      rw [e2] at q
      exact q
    | exc x =>
      rw [e2] at q
      exact fun c dd H' B sm rp => q c dd H' B (s1.trans sm) rp
    | ok i =>
      rw [e2, R.bind_ok] at q
      intro H2 s2
      refine qh σ ρ H2 As _ ((S.same s1).same s2) ?_
      cases e3 : fh ρ with
      | stk =>
        rw [e3] at q
        exact q
      | exc x =>
        rw [e3] at q
        exact fun c dd H' B sm rp => q c dd H' B (s1.trans (s2.trans sm)) rp
      | ok j =>
        rw [e3, R.bind_ok] at q
        intro H3 s3
        exact dSl_run (r1.weak.same (s2.trans s3)) (fresh_good (s1.trans (s2.trans s3)) q fun _ => dSl_exc)
/-! ### written arguments -/
def nilL : Env → R (List D) := fun _ => .ok []
def conL (f : Env → R D) (g : Env → R (List D)) : Env → R (List D) := fun ρ => (f ρ).bind fun d => (g ρ).bind fun ds => .ok (d :: ds)
theorem da_nil : DA X W ow (.own []) 0 [] nilL := ⟨_, pa_nil, fun σ ρ H As Q S q => q [] H [] (Same.refl H) .nil nil_own rfl⟩
theorem da_nilB : DA X W ow (.br []) 0 [] nilL := ⟨_, pa_nil, fun σ ρ H As Q S q => q [] H [] (Same.refl H) .nil (fun _ _ _ _ _ z => by cases z) rfl⟩
theorem repL_cons {K : PySem.W.Frag} {mg : Str → Option Value} {H : Hp} {o : Bool} {v : V} {vs : List V} {d : D} {ds : List D} {A B : List Addr} (h : Rep K mg H o v d A) (r : RepL K mg H o vs ds B) : RepL K mg H o (v :: vs) (d :: ds) (A ++ B) := .cons h r
/-- arguments that are one's own -/
theorem da_own {es : List Expr} {n : Nat} {m1 m2 : List Nat} {g : Env → R (List D)} (h1 : DE X W ow (.own m1) e den) (h2 : DA X W ow (.own m2) n es g) (hd : ∀ i ∈ m1, i ∉ m2)
    (hs : starEach (e :: es) X.env = (false, eval e X.env) :: starEach es X.env := by rfl) : DA X W ow (.own (m1 ++ m2)) (n + 1) (e :: es) (conL den g) := by
  obtain ⟨ta, p1, q1⟩ := h1
  obtain ⟨tb, p2, q2⟩ := h2
  refine ⟨_, pa_cons p1 p2 hs, fun σ ρ H As Q S q => q1 σ ρ H As _ S ?_⟩
  unfold conL at q
  cases e1 : den ρ with
  | stk =>
    rw [e1] at q
    exact q
  | exc x =>
    rw [e1] at q
    exact q
  | ok dx =>
    rw [e1, R.bind_ok] at q
    intro v H1 A s1 r1 ok1
    refine q2 σ ρ H1 As _ (S.same s1) ?_
    cases e2 : g ρ with
    | stk =>
      rw [e2] at q
      exact q
    | exc x =>
      rw [e2] at q
      exact fun c dd H' B sm rp => q c dd H' B (s1.trans sm) rp
    | ok ds =>
      rw [e2, R.bind_ok] at q
      intro vs H2 B s2 r2 ok2 hn
      refine q (v :: vs) H2 (A ++ B) (s1.trans s2) (repL_cons (r1.same s2) r2) ⟨?_, ?_, ?_⟩ (by rw [List.length_cons, hn])
      · refine List.nodup_append.mpr ⟨ok1.1, ok2.1, fun x hx y hy z => ?_⟩
        subst z
        rcases ok2.2.2 x hy with w | ⟨j, hj, w⟩
        · exact r1.old hx w
        · rcases ok1.2.2 x hx with w' | ⟨i, hi, w'⟩
          · exact S.old w w'
          · obtain ⟨H0, M0, pn, S⟩ := S
            exact S.sep i (ok1.2.1 i hi) j (fun z => hd i hi (z ▸ hj)) x w' w
      · intro j hj
        rcases List.mem_append.mp hj with z | z
        · exact ok1.2.1 j z
        · exact ok2.2.1 j z
      · intro x hx
        rcases List.mem_append.mp hx with z | z
        · rcases ok1.2.2 x z with w | ⟨j, hj, w⟩
          · exact .inl w
          · exact .inr ⟨j, List.mem_append_left _ hj, w⟩
        · rcases ok2.2.2 x z with w | ⟨j, hj, w⟩
          · exact .inl (s1.free w)
          · exact .inr ⟨j, List.mem_append_right _ hj, w⟩
/-- arguments that may be others' -/
theorem da_br {es : List Expr} {n : Nat} {ss : List Nat} {g : Env → R (List D)} (h1 : DE X W ow k e den) (h2 : DA X W ow (.br ss) n es g)
    (hs : starEach (e :: es) X.env = (false, eval e X.env) :: starEach es X.env := by rfl) : DA X W ow (.br (k.src ++ ss)) (n + 1) (e :: es) (conL den g) := by
  obtain ⟨ta, p1, q1⟩ := h1
  obtain ⟨tb, p2, q2⟩ := h2
  refine ⟨_, pa_cons p1 p2 hs, fun σ ρ H As Q S q => q1 σ ρ H As _ S ?_⟩
  unfold conL at q
  cases e1 : den ρ with
  | stk =>
    rw [e1] at q
    exact q
  | exc x =>
    rw [e1] at q
    exact q
  | ok dx =>
    rw [e1, R.bind_ok] at q
    intro v H1 A s1 r1 ok1
    refine q2 σ ρ H1 As _ (S.same s1) ?_
    cases e2 : g ρ with
    | stk =>
      rw [e2] at q
      exact q
    | exc x =>
      rw [e2] at q
      exact fun c dd H' B sm rp => q c dd H' B (s1.trans sm) rp
    | ok ds =>
      rw [e2, R.bind_ok] at q
      intro vs H2 B s2 r2 ok2 hn
      refine q (v :: vs) H2 (A ++ B) (s1.trans s2) (repL_cons (r1.weak.same s2) r2) ?_ (by rw [List.length_cons, hn])
      have o1 := Kd.brOk S ok1
      intro j hj hj2 x hx hAB
      rcases List.mem_append.mp hAB with z | z
      · exact o1 j hj (fun w => hj2 (List.mem_append_left _ w)) x hx z
      · exact ok2 j hj (fun w => hj2 (List.mem_append_right _ w)) x hx z
/-! ### tuples, lists -/
def tupE (g : Env → R (List D)) : Env → R D := fun ρ => (g ρ).bind fun ds => .ok (.tuple ds)
def lstE (g : Env → R (List D)) : Env → R D := fun ρ => (g ρ).bind fun ds => .ok (.list ds)
theorem nat1000 {n : Nat} (h : n ≤ 1000) : n ≤ sizeLine := Nat.le_of_lt (small1000 h)
theorem de_tup {es : List Expr} {n : Nat} {g : Env → R (List D)} {x1} (h : DA X W ow k n es g) (hn : n ≤ 1000 := by decide) : DE X W ow k (.Tuple es x1 pos) (tupE g) := by
  obtain ⟨ta, p, q⟩ := h
  refine ⟨_, pe_tup p, fun σ ρ H As Q S z => q σ ρ H As _ S ?_⟩
  unfold tupE at z
  cases hd : g ρ with
  | stk =>
    rw [hd] at z
    exact z
  | exc x =>
    rw [hd] at z
    exact z
  | ok d =>
    rw [hd, R.bind_ok] at z
    intro vs H' A sm r ok hl
    refine ⟨by rw [hl]; exact nat1000 hn, fun p hp => z _ _ A (sm.trans (same_upd hp)) (.tup (.inl (.inl upd_same)) (r.same (same_upd hp))) ok⟩
theorem de_lst {es : List Expr} {n : Nat} {ms : List Nat} {g : Env → R (List D)} (h : DA X W ow (.own ms) n es g) (hn : n ≤ 1000 := by decide) : DE X W ow (.own ms) (.List es pos) (lstE g) := by
  obtain ⟨ta, p, q⟩ := h
  refine ⟨_, pe_lst p, fun σ ρ H As Q S z => q σ ρ H As _ S ?_⟩
  unfold lstE at z
  cases hd : g ρ with
  | stk =>
    rw [hd] at z
    exact z
  | exc x =>
    rw [hd] at z
    exact z
  | ok d =>
    rw [hd, R.bind_ok] at z
    intro vs H' A sm r ok hl
    refine ⟨by rw [hl]; exact nat1000 hn, fun p hp => z _ _ (p :: A) (sm.trans (same_upd hp)) (.lst upd_same (r.same (same_upd hp))) ⟨?_, ok.2.1, ?_⟩⟩
    · exact List.nodup_cons.mpr ⟨fun w => r.old w hp, ok.1⟩
    · intro a ha
      rcases List.mem_cons.mp ha with rfl | ha
      · exact .inl (sm.free hp)
      · exact ok.2.2 a ha
theorem de_lstB {es : List Expr} {n : Nat} {ss : List Nat} {g : Env → R (List D)} (h : DA X W ow (.br ss) n es g) (hn : n ≤ 1000 := by decide) : DE X W ow (.br ss) (.List es pos) (lstE g) := by
  obtain ⟨ta, p, q⟩ := h
  refine ⟨_, pe_lst p, fun σ ρ H As Q S z => q σ ρ H As _ S ?_⟩
  unfold lstE at z
  cases hd : g ρ with
  | stk =>
    rw [hd] at z
    exact z
  | exc x =>
    rw [hd] at z
    exact z
  | ok d =>
    rw [hd, R.bind_ok] at z
    intro vs H' A sm r ok hl
    refine ⟨by rw [hl]; exact nat1000 hn, fun p hp => z _ _ (p :: A) (sm.trans (same_upd hp)) (.lst upd_same (r.same (same_upd hp))) ?_⟩
    intro j hj hj2 x hx hA
    rcases List.mem_cons.mp hA with w | w
    · subst w
      exact (S.same sm).old hx hp
    · exact ok j hj hj2 x hx w
def newD : Env → R D := fun _ => .ok (.dict [])
theorem de_dict0 : DE X W ow (.own []) (.Dict [] [] pos) newD := by
  refine ⟨_, pe_dnewK, fun σ ρ H As Q S q p hp => ?_⟩
  exact q _ _ [p] (same_upd hp) (.dct upd_same .nil) ⟨List.nodup_cons.mpr ⟨(by intro z; cases z), List.nodup_nil⟩, (fun _ z => by cases z), fun a ha => .inl (by rw [List.mem_singleton.mp ha]; exact hp)⟩
/-! ### calls of built-ins -/
def CallD (X : Cx) (f : Value) (g : List D → R D) : Prop :=
  ∃ r, CallR X f r ∧ (∀ xs z, g xs ≠ .exc z) ∧ ∀ H xs ds A Q, RepL X.K X.mg H false xs ds A → Fresh X H (g ds) Q → r xs H Q
def call (f : List D → R D) (g : Env → R (List D)) : Env → R D := fun ρ => (g ρ).bind f
theorem tCB_good {es : List Expr} {n : Nat} {g : Env → R (List D)} {f : List D → R D} {r : List V → Hp → VK → Prop} {ta : TA} (q : ∀ σ ρ H As Q, On X ow σ ρ H As → GoodL X W σ ow k n H As (g ρ) Q → ta σ H Q)
    (hx : ∀ xs z, f xs ≠ .exc z) (hr : ∀ H xs ds A Q, RepL X.K X.mg H false xs ds A → Fresh X H (f ds) Q → r xs H Q) {σ : L2.St} {ρ : Env} {H : Hp} {As : Nat → List Addr} {Q : VK} (S : On X ow σ ρ H As) (z : Good X W σ ow (.own []) H As (call f g ρ) Q) : tCB r ta σ H Q := by
  refine q σ ρ H As _ S ?_
  unfold call at z
  cases hd : g ρ with
  | stk =>
    rw [hd] at z
    exact z
  | exc x =>
    rw [hd] at z
    exact z
  | ok d =>
    rw [hd, R.bind_ok] at z
    intro vs H' A sm rp ok hl
    exact hr H' vs d A Q rp.weak (fresh_good sm z (hx d))
theorem de_callB {x : Str} {id : String} {f : List D → R D} {es : List Expr} {n : Nat} {g : Env → R (List D)} {p : Pos} (hf : CallD X (.builtin id) f) (hm : X.mg x = none) (hv : bootBuiltins x = some (.builtin id)) (h : DA X W ow k n (e :: es) g) (hg : Gl X x := by rfl)
    (hn : x ≠ "__name__" := by decide) (hdb : (x == ("__debug__" : Str)) = false := by decide)
    (he : starEach (e :: es) X.env = (false, eval e X.env) :: starEach es X.env := by rfl) (hpl : (backTo pos (starEach es X.env)).any (·.1) = false := by rfl) : DE X W ow (.own []) (.Call (.Name x p) (e :: es) [] pos) (call f g) := by
  obtain ⟨r, h1, hx, hr⟩ := hf
  obtain ⟨ta, pa, q⟩ := h
  exact ⟨_, pe_callB h1 hg hm hv pa hn hdb he hpl, fun σ ρ H As Q S z => tCB_good (es := es) q hx hr S z⟩
theorem de_callTy {x : Str} {T : String} {f : List D → R D} {es : List Expr} {n : Nat} {g : Env → R (List D)} {p : Pos} (hf : CallD X (.type T) f) (hm : X.mg x = none) (hv : bootBuiltins x = some (.type T)) (h : DA X W ow k n (e :: es) g) (hg : Gl X x := by rfl)
    (hn : x ≠ "__name__" := by decide) (hdb : (x == ("__debug__" : Str)) = false := by decide)
    (he : starEach (e :: es) X.env = (false, eval e X.env) :: starEach es X.env := by rfl) (hpl : (backTo pos (starEach es X.env)).any (·.1) = false := by rfl) : DE X W ow (.own []) (.Call (.Name x p) (e :: es) [] pos) (call f g) := by
  obtain ⟨r, h1, hx, hr⟩ := hf
  obtain ⟨ta, pa, q⟩ := h
  exact ⟨_, pe_callTy h1 hg hm hv pa hn hdb he hpl, fun σ ρ H As Q S z => tCB_good (es := es) q hx hr S z⟩
end
end Dg

namespace Dg
open PySem PySem.Spec PyProof.Rows L2
def kill : List Nat → Env → Env
  | [], r => r
  | i :: is, r => kill is (r.set i none)
/-! ### the state, changed -/
section
variable {K : PySem.W.Frag} {mg : Str → Option Value} {H0 : Hp} {M0 : Addr → Prop} {pn : Nat → Option V} {ow ow' : List Nat} {σ : L2.St} {ρ : Env} {H H' : Hp} {As : Nat → List Addr}
theorem Sta.kill1 (S : Sta K mg H0 M0 pn ow σ ρ H As) (i : Nat) : Sta K mg H0 M0 pn ow σ (ρ.set i none) H (fun j => if j = i then [] else As j) := by
  refine ⟨S.fr, fun j d e => ?_, fun j h => ?_, fun j hj => ?_, fun j hj a ha => ?_, fun j hj l hl a ha hb => ?_, by rw [List.length_set]; exact S.len, S.pin⟩
  · by_cases hji : j = i
    · subst hji
      by_cases hl : j < ρ.length
      · rw [List.getElem?_set_self hl] at e
        cases e
      · rw [List.getElem?_eq_none (by rw [List.length_set]; omega)] at e
        cases e
    · rw [List.getElem?_set_ne (fun z => hji z.symm)] at e
      rw [if_neg hji]
      exact S.rep j d e
  · by_cases hji : j = i
    · exact if_pos hji
    · try dsimp only
      rw [if_neg hji]
      refine S.dead j fun d e => h d ?_
      rw [List.getElem?_set_ne (fun z => hji z.symm)]
      exact e
  · try dsimp only
    split
    · exact List.nodup_nil
    · exact S.nd j hj
  · try dsimp only at ha
    split at ha
    · cases ha
    · exact S.new j hj a ha
  · try dsimp only at ha hb
    split at ha
    · cases ha
    · split at hb
      · cases hb
      · exact S.sep j hj l hl a ha hb
theorem Sta.kills : ∀ (is : List Nat) {ρ : Env} {As : Nat → List Addr}, Sta K mg H0 M0 pn ow σ ρ H As → ∃ As', Sta K mg H0 M0 pn ow σ (kill is ρ) H As' ∧ (∀ j, As' j = As j ∨ As' j = []) ∧ (∀ j ∈ is, As' j = [])
  | [], _, As, S => ⟨As, S, (fun _ => .inl rfl), (fun _ h => by cases h)⟩
  | i :: is, ρ, As, S => by
    obtain ⟨As', S', h1, h2⟩ := Sta.kills is (S.kill1 i)
    refine ⟨As', S', fun j => ?_, fun j hj => ?_⟩
    · rcases h1 j with e | e
      · rw [e]
        try dsimp only
        split
        · exact .inr rfl
        · exact .inl rfl
      · exact .inr e
    · rcases List.mem_cons.mp hj with rfl | hj
      · rcases h1 j with e | e
        · rw [e]
          exact if_pos rfl
        · exact e
      · exact h2 j hj
/-- a value comes to a slot -/
theorem Sta.put (S : Sta K mg H0 M0 pn ow σ ρ H As) {i : Nat} {o : Bool} {v : V} {d : D} {A : List Addr} (r : Rep K mg H o v d A) (hp : pn i = none)
    (h1 : o = true → A.Nodup ∧ (∀ a ∈ A, H0 a = none ∨ M0 a) ∧ ∀ a ∈ A, ∀ j, a ∉ As j) (h2 : ∀ j ∈ ow', j ≠ i → ∀ a ∈ As j, a ∉ A) (h3 : ∀ j ∈ ow', j ≠ i → j ∈ ow) (h4 : i ∈ ow' → o = true) :
    Sta K mg H0 M0 pn ow' (σ.set i (some v)) (ρ.set i (some d)) H (fun j => if j = i then (if i < ρ.length then A else []) else As j) := by
  have sep1 : i ∈ ow' → ∀ l, l ≠ i → ∀ a ∈ A, a ∉ As l := fun hi l _ a ha => (h1 (h4 hi)).2.2 a ha l
  refine ⟨S.fr, fun j e he => ?_, fun j h => ?_, fun j hj => ?_, fun j hj a ha => ?_, fun j hj l hl a ha hb => ?_, by rw [List.length_set, List.length_set]; exact S.len, fun j w hw => ?_⟩
  · by_cases hji : j = i
    · subst hji
      by_cases hl : j < ρ.length
      · rw [List.getElem?_set_self hl] at he
        cases he
        refine ⟨v, List.getElem?_set_self (by rw [S.len]; exact hl), ?_⟩
        rw [if_pos rfl, if_pos hl]
        exact rep_less r fun z => h4 (contains_mem.mp z)
      · rw [List.getElem?_eq_none (by rw [List.length_set]; omega)] at he
        cases he
    · rw [List.getElem?_set_ne (fun z => hji z.symm)] at he
      obtain ⟨w, e1, e2⟩ := S.rep j e he
      refine ⟨w, (by rw [List.getElem?_set_ne (fun z => hji z.symm)]; exact e1), ?_⟩
      rw [if_neg hji]
      exact rep_less e2 fun z => contains_mem.mpr (h3 j (contains_mem.mp z) hji)
  · by_cases hji : j = i
    · subst hji
      try dsimp only
      rw [if_pos rfl]
      by_cases hl : j < ρ.length
      · exact absurd (List.getElem?_set_self hl) (h d)
      · exact if_neg hl
    · try dsimp only
      rw [if_neg hji]
      refine S.dead j fun d e => h d ?_
      rw [List.getElem?_set_ne (fun z => hji z.symm)]
      exact e
  · try dsimp only
    by_cases hji : j = i
    · subst hji
      rw [if_pos rfl]
      split
      · exact (h1 (h4 hj)).1
      · exact List.nodup_nil
    · rw [if_neg hji]
      exact S.nd j (h3 j hj hji)
  · try dsimp only at ha
    by_cases hji : j = i
    · subst hji
      rw [if_pos rfl] at ha
      split at ha
      · exact (h1 (h4 hj)).2.1 a ha
      · cases ha
    · rw [if_neg hji] at ha
      exact S.new j (h3 j hj hji) a ha
  · try dsimp only at ha hb
    by_cases hji : j = i
    · subst hji
      rw [if_neg hl] at hb
      rw [if_pos rfl] at ha
      split at ha
      · exact sep1 hj l hl a ha hb
      · cases ha
    · rw [if_neg hji] at ha
      by_cases hli : l = i
      · subst hli
        rw [if_pos rfl] at hb
        split at hb
        · exact h2 j hj hji a ha hb
        · cases hb
      · rw [if_neg hli] at hb
        exact S.sep j (h3 j hj hji) l hl a ha hb
  · by_cases hji : j = i
    · subst hji
      rw [hp] at hw
      cases hw
    · rw [List.getElem?_set_ne (fun z => hji z.symm)]
      exact S.pin j w hw
/-- the entry is here -/
theorem Sta.rebase (S : Sta K mg H0 M0 pn ow σ ρ H As) : Sta K mg H (fun a => ∃ i ∈ ow, a ∈ As i) pn ow σ ρ H As :=
  ⟨Fr.refl _ _, S.rep, S.dead, S.nd, fun i hi a ha => .inr ⟨i, hi, ha⟩, S.sep, S.len, S.pin⟩
theorem Sta.was2 (S : Sta K mg H0 M0 pn ow σ ρ H As) {a : Addr} (h : H a = none ∨ ∃ i ∈ ow, a ∈ As i) : H0 a = none ∨ M0 a := by
  rcases h with h | ⟨i, hi, h⟩
  · exact S.was h
  · exact S.new i hi a h
theorem Fr.base (S : Sta K mg H0 M0 pn ow σ ρ H As) {H' : Hp} (f : Fr (fun a => ∃ i ∈ ow, a ∈ As i) H H') : Fr M0 H0 H' := by
  intro a o h hm
  refine f a o (S.fr a o h hm) fun hi => ?_
  rintro ⟨i, hi2, ha⟩
  rcases S.new i hi2 a ha with z | z
  · rw [h] at z
    cases z
  · exact hm hi z
theorem Sta.unbase {ow2 : List Nat} {σ2 : L2.St} {ρ2 : Env} {H2 : Hp} {As2 : Nat → List Addr} (S : Sta K mg H0 M0 pn ow σ ρ H As) (S2 : Sta K mg H (fun a => ∃ i ∈ ow, a ∈ As i) pn ow2 σ2 ρ2 H2 As2) : Sta K mg H0 M0 pn ow2 σ2 ρ2 H2 As2 :=
  ⟨Fr.base S S2.fr, S2.rep, S2.dead, S2.nd, fun i hi a ha => S.was2 (S2.new i hi a ha), S2.sep, S2.len, S2.pin⟩
end
/-! ### statements -/
/-- what a body is told: the slots that are lent and given back; the slots that are one's own at the loop's head, at an exception's rise -/
structure Cfg where
  io : List Nat
  owl : List Nat
  owx : List Nat
def Post (X : Cx) (W : WX) (C : Cfg) (H0 : Hp) (M0 : Addr → Prop) (pn : Nat → Option V) (ow' : List Nat) (Dn : Ends) (o : Out) : Prop := match o with
  | .nx r => ∀ σ' H' As', Sta X.K X.mg H0 M0 pn ow' σ' r H' As' → Dn.nx σ' H'
  | .ret d r => ∀ v σ' H' As' A, Sta X.K X.mg H0 M0 pn C.io σ' r H' As' → Rep X.K X.mg H' true v d A → A.Nodup → (∀ a ∈ A, (H0 a = none ∨ M0 a) ∧ ∀ i ∈ C.io, a ∉ As' i) → Dn.rt v H'
  | .brk r => ∀ σ' H' As', Sta X.K X.mg H0 M0 pn C.owl σ' r H' As' → Dn.bk σ' H'
  | .cnt r => ∀ σ' H' As', Sta X.K X.mg H0 M0 pn C.owl σ' r H' As' → Dn.ct σ' H'
  | .exc x r => ∀ c dd σ' H' As' A, Sta X.K X.mg H0 M0 pn C.owx σ' r H' As' → RepX X.K X.mg H' c dd x A → W c dd σ' H'
  | .stk => False
def PinOk (C : Cfg) (pn : Nat → Option V) : Prop := ∀ j, j ∉ C.io → pn j = none
def DS (X : Cx) (W : WX) (C : Cfg) (ow ow' : List Nat) (st : Stmt) (den : Env → Out) : Prop :=
  ∃ ts, PS X st ts ∧ ∀ H0 M0 pn σ ρ H As Dn, PinOk C pn → Sta X.K X.mg H0 M0 pn ow σ ρ H As → Post X W C H0 M0 pn ow' Dn (den ρ) → ts Dn σ H
def DSs (X : Cx) (W : WX) (C : Cfg) (ow ow' : List Nat) (st : List Stmt) (den : Env → Out) : Prop :=
  ∃ ts, PSs X st ts ∧ ∀ H0 M0 pn σ ρ H As Dn, PinOk C pn → Sta X.K X.mg H0 M0 pn ow σ ρ H As → Post X W C H0 M0 pn ow' Dn (den ρ) → ts Dn σ H
section
variable {X : Cx} {W : WX} {C : Cfg} {ow ow' ow1 ow2 : List Nat} {k k1 k2 k3 : Kd} {e a b c : Expr} {st : Stmt} {sts sts2 : List Stmt} {den d1 d2 : Env → R D} {f g : Env → Out} {pos p2 : Pos}
def nxS : Env → Out := fun r => .nx r
def seqS (f g : Env → Out) : Env → Out := fun r => match f r with
  | .nx r' => g r'
  | o => o
theorem ds_nil (h : ∀ i ∈ ow', i ∈ ow) : DSs X W C ow ow' [] nxS := ⟨_, pss_nil, fun H0 M0 pn σ ρ H As Dn hp S q => q σ H As (S.less h)⟩
theorem ds_cons (h1 : DS X W C ow ow1 st f) (h2 : DSs X W C ow1 ow' sts g) : DSs X W C ow ow' (st :: sts) (seqS f g) := by
  obtain ⟨ts, p, q⟩ := h1
  obtain ⟨tt, p2, q2⟩ := h2
  refine ⟨_, pss_cons p p2, fun H0 M0 pn σ ρ H As Dn hp S z => q H0 M0 pn σ ρ H As _ hp S ?_⟩
  unfold seqS at z
  cases hf : f ρ with
  | nx r =>
    rw [hf] at z
    exact fun σ' H' As' S' => q2 H0 M0 pn σ' r H' As' Dn hp S' z
  | ret d r =>
    rw [hf] at z
    exact z
  | brk r =>
    rw [hf] at z
    exact z
  | cnt r =>
    rw [hf] at z
    exact z
  | exc x r =>
    rw [hf] at z
    exact z
  | stk =>
    rw [hf] at z
    exact z
theorem ds_one (h1 : DS X W C ow ow' st f) : DSs X W C ow ow' [st] f := by
  obtain ⟨ts, p, q⟩ := h1
  exact ⟨_, pss_one p, q⟩
theorem ds_pass (h : ∀ i ∈ ow', i ∈ ow) : DS X W C ow ow' (.Pass pos) nxS := ⟨_, ps_pass, fun H0 M0 pn σ ρ H As Dn hp S q => q σ H As (S.less h)⟩
/-- slots that no one asks any more are forgotten -/
def dropS (is : List Nat) (f : Env → Out) : Env → Out := fun r => match f r with
  | .nx r' => .nx (kill is r')
  | o => o
theorem ds_drop (is : List Nat) (h1 : DS X W C ow ow' st f) : DS X W C ow ow' st (dropS is f) := by
  obtain ⟨ts, p, q⟩ := h1
  refine ⟨_, p, fun H0 M0 pn σ ρ H As Dn hp S z => q H0 M0 pn σ ρ H As _ hp S ?_⟩
  unfold dropS at z
  cases hf : f ρ with
  | nx r =>
    rw [hf] at z
    intro σ' H' As' S'
    obtain ⟨As2, S2, _⟩ := Sta.kills is S'
    exact z σ' H' As2 S2
  | ret d r =>
    rw [hf] at z
    exact z
  | brk r =>
    rw [hf] at z
    exact z
  | cnt r =>
    rw [hf] at z
    exact z
  | exc x r =>
    rw [hf] at z
    exact z
  | stk =>
    rw [hf] at z
    exact z
/-! ### targets -/
def setsV : List Nat → List V → L2.St → L2.St
  | i :: is, v :: vs, s => setsV is vs (s.set i (some v))
  | _, _, s => s
def setsD : List Nat → List D → Env → Env
  | i :: is, v :: vs, s => setsD is vs (s.set i (some v))
  | _, _, s => s
/-- a target: the slots, and how a value falls apart -/
def DG (X : Cx) (is : List Nat) (tg : Expr) (t : D → Option (List D)) : Prop :=
  ∃ gt, PG X tg gt ∧ ∀ H o v d A σ Q, Rep X.K X.mg H o v d A → (match t d with
    | some ds => ∀ vs, RepL X.K X.mg H o vs ds A → vs.length = is.length → Q (setsV is vs σ) H
    | none => False) → gt v σ H Q
def t1 : D → Option (List D) := fun d => some [d]
def tN (n : Nat) : D → Option (List D) := fun d => match d with
  | .tuple ds => if ds.length = n then some ds else none
  | _ => none
theorem dg_name {i : Nat} (h : PG X e (gName i)) : DG X [i] e t1 := ⟨_, h, fun H o v d A σ Q r q => q [v] (RepL.one r) rfl⟩
/-- names of a tuple target -/
def PGN (X : Cx) (is : List Nat) (es : List Expr) : Prop := ∃ gs, PGs X es gs ∧ ∀ vs σ H Q, vs.length = is.length → Q (setsV is vs σ) H → gs vs σ H Q
theorem pgn_nil : PGN X [] [] := ⟨_, pgs_nil, fun vs σ H Q hl q => by
  cases vs with
  | nil => exact ⟨rfl, q⟩
  | cons v vs => cases hl⟩
theorem pgn_cons {i : Nat} {is : List Nat} {es : List Expr} (h : PG X e (gName i)) (h2 : PGN X is es) (hs : (assignEach (e :: es) X.env).map (·.2) = assign e X.env :: (assignEach es X.env).map (·.2) := by rfl) : PGN X (i :: is) (e :: es) := by
  obtain ⟨gs, p, q⟩ := h2
  refine ⟨_, pgs_cons h p hs, fun vs σ H Q hl z => ?_⟩
  cases vs with
  | nil => cases hl
  | cons v vs => exact ⟨v, vs, rfl, q vs _ H Q (Nat.succ.inj hl) z⟩
theorem dg_tup {is : List Nat} {es : List Expr} {kt : Nat} (hc : X.calm = true) (h : PGN X is es) (hn : (assignEach es X.env).length = is.length := by rfl) (hst : (assignEach es X.env).findIdx? (·.1) = none := by rfl) : DG X is (.Tuple es kt pos) (tN is.length) := by
  obtain ⟨gs, p, q⟩ := h
  refine ⟨_, pg_tup hc p hn hst, fun H o v d A σ Q r z => ?_⟩
  unfold tN at z
  cases d with
  | tuple ds =>
    try dsimp only at z
    split at z
    · rename_i ds2 hd
      split at hd
      · rename_i hl
        cases hd
        cases r with
        | tup h1 l1 =>
          have hv : _ = is.length := l1.len.trans hl
          exact ⟨_, _, rfl, h1, hv, q _ σ H Q hv (z _ l1 hv)⟩
      · cases hd
    · exact z.elim
  | _ => exact z.elim
section
variable {K : PySem.W.Frag} {mg : Str → Option Value} {H0 : Hp} {M0 : Addr → Prop} {pn : Nat → Option V}
/-- values of one's own come to slots -/
theorem Sta.putsO : ∀ (is : List Nat) {vs : List V} {ds : List D} {A : List Addr} {ow : List Nat} {σ : L2.St} {ρ : Env} {H : Hp} {As : Nat → List Addr}, RepL K mg H true vs ds A → vs.length = is.length → Sta K mg H0 M0 pn ow σ ρ H As → (∀ i ∈ is, pn i = none) →
    A.Nodup → (∀ a ∈ A, H0 a = none ∨ M0 a) → (∀ a ∈ A, ∀ j, a ∉ As j) → ∃ As' ow', Sta K mg H0 M0 pn ow' (setsV is vs σ) (setsD is ds ρ) H As' ∧ (∀ i ∈ ow, i ∈ ow') ∧ ∀ i ∈ is, i ∈ ow'
  | [], _, _, _, ow, _, _, _, As, .nil, _, S, _, _, _, _ => ⟨As, ow, S, (fun _ z => z), (fun _ z => by cases z)⟩
  | [], _, _, _, _, _, _, _, _, .cons _ _, hl, _, _, _, _, _ => by cases hl
  | i :: is, _, _, _, _, _, _, _, _, .nil, hl, _, _, _, _, _ => by cases hl
  | i :: is, _, _, _, ow, σ, ρ, H, As, .cons (v := v) (d := d) (A := A) (B := B) h r, hl, S, hp, nd, nw, fr => by
    have nd' := List.nodup_append.mp nd
    have S1 := S.put (ow' := i :: ow) h (hp i List.mem_cons_self) (fun _ => ⟨nd'.1, fun a ha => nw a (List.mem_append_left _ ha), fun a ha => fr a (List.mem_append_left _ ha)⟩)
      (fun j hj hji a ha hA => fr a (List.mem_append_left _ hA) j ha) (fun j hj hji => (List.mem_cons.mp hj).resolve_left hji) (fun _ => rfl)
    obtain ⟨As', ow', S', h1, h2⟩ := Sta.putsO is r (Nat.succ.inj hl) S1 (fun j hj => hp j (List.mem_cons_of_mem _ hj)) nd'.2.1 (fun a ha => nw a (List.mem_append_right _ ha)) (fun a ha j => by
      try dsimp only
      split
      · split
        · exact fun hA => nd'.2.2 a hA a ha rfl
        · intro z
          cases z
      · exact fr a (List.mem_append_right _ ha) j)
    refine ⟨As', ow', S', fun j hj => h1 j (List.mem_cons_of_mem _ hj), fun j hj => ?_⟩
    rcases List.mem_cons.mp hj with rfl | hj
    · exact h1 _ List.mem_cons_self
    · exact h2 j hj
/-- values of others come to slots -/
theorem Sta.putsB : ∀ (is : List Nat) {vs : List V} {ds : List D} {A : List Addr} {ow : List Nat} {σ : L2.St} {ρ : Env} {H : Hp} {As : Nat → List Addr} {o : Bool}, RepL K mg H o vs ds A → vs.length = is.length → Sta K mg H0 M0 pn ow σ ρ H As → (∀ i ∈ is, pn i = none) →
    (∀ i ∈ ow, i ∉ is) → (∀ i ∈ ow, ∀ a ∈ As i, a ∉ A) → ∃ As', Sta K mg H0 M0 pn ow (setsV is vs σ) (setsD is ds ρ) H As'
  | [], _, _, _, ow, _, _, _, As, _, .nil, _, S, _, _, _ => ⟨As, S⟩
  | [], _, _, _, _, _, _, _, _, _, .cons _ _, hl, _, _, _, _ => by cases hl
  | i :: is, _, _, _, _, _, _, _, _, _, .nil, hl, _, _, _, _ => by cases hl
  | i :: is, _, _, _, ow, σ, ρ, H, As, o, .cons (v := v) (d := d) (A := A) (B := B) h r, hl, S, hp, ni, fr => by
    have S1 := S.put (ow' := ow) h.weak (hp i List.mem_cons_self) (fun z => by cases z)
      (fun j hj hji a ha hA => fr j hj a ha (List.mem_append_left _ hA)) (fun j hj hji => hj) (fun z => absurd List.mem_cons_self (ni i z))
    exact Sta.putsB is r (Nat.succ.inj hl) S1 (fun j hj => hp j (List.mem_cons_of_mem _ hj)) (fun j hj z => ni j hj (List.mem_cons_of_mem _ z)) (fun j hj a ha hB => by
      try dsimp only at ha
      rw [if_neg (fun z => ni j hj (by rw [z]; exact List.mem_cons_self))] at ha
      exact fr j hj a ha (List.mem_append_right _ hB))
end
/-! ### assignments -/
def asgS (ms is : List Nat) (t : D → Option (List D)) (f : Env → R D) : Env → Out := fun r => match f r with
  | .ok d => match t d with
    | some ds => .nx (setsD is ds (kill ms r))
    | none => .stk
  | .exc x => .exc x r
  | .stk => .stk
def subL (a b : List Nat) : Bool := a.all fun i => b.contains i
theorem subL_mem {a b : List Nat} (h : subL a b = true) : ∀ i ∈ a, i ∈ b := fun i hi => contains_mem.mp (List.all_eq_true.mp h i hi)
def disL (a b : List Nat) : Bool := a.all fun i => !b.contains i
theorem disL_mem {a b : List Nat} (h : disL a b = true) : ∀ i ∈ a, i ∉ b := fun i hi z => by
  have := List.all_eq_true.mp h i hi
  rw [contains_mem.mpr z] at this
  cases this
theorem setsD_len : ∀ (is : List Nat) (ds : List D) (r : Env), (setsD is ds r).length = r.length
  | [], _, _ => rfl
  | _ :: _, [], _ => rfl
  | i :: is, d :: ds, r => (setsD_len is ds _).trans List.length_set
/-- x = e, e one's own -/
theorem ds_asg {is ms : List Nat} {t : D → Option (List D)} {tg : Expr} (h1 : DE X W ow (.own ms) e den) (h2 : DG X is tg t) (hio : disL is C.io = true) (how : subL ow' (is ++ ow) = true) (hox : subL C.owx ow = true)
    (hs : swapsWithSole [tg] e pos.line X.env = pure false := by rfl) (hw : swappedStores [tg] e X.env = pure none := by rfl) (h3 : (assignEach [tg] X.env).map (·.2) = [assign tg X.env] := by rfl) : DS X W C ow ow' (.Assign [tg] e pos) (asgS ms is t den) := by
  obtain ⟨te, p, q⟩ := h1
  obtain ⟨gt, pg, qg⟩ := h2
  refine ⟨_, ps_asg p pg hs hw h3, fun H0 M0 pn σ ρ H As Dn hp S z => q σ ρ H As _ ⟨H0, M0, pn, S⟩ ?_⟩
  unfold asgS at z
  cases hd : den ρ with
  | stk =>
    rw [hd] at z
    exact z
  | exc x =>
    rw [hd] at z
    exact fun c dd H' A sm rp => z c dd σ H' As A ((S.same sm).less (subL_mem hox)) rp
  | ok d =>
    rw [hd] at z
    intro v H1 A sm rp ok
    refine qg H1 true v d A σ _ rp ?_
    try dsimp only at z
    cases ht : t d with
    | none =>
      rw [ht] at z
      exact z
    | some ds =>
      rw [ht] at z
      intro vs rl hl
      obtain ⟨As1, S1, k1, k2⟩ := Sta.kills ms (S.same sm)
      have fr : ∀ a ∈ A, ∀ j, a ∉ As1 j := fun a ha j hj => by
        rcases k1 j with e | e
        · rw [e] at hj
          rcases ok.2.2 a ha with w | ⟨i, hi, w⟩
          · exact S.old hj w
          · by_cases hji : j = i
            · subst hji
              rw [k2 j hi] at e
              rw [← e] at hj
              cases hj
            · exact S.sep i (ok.2.1 i hi) j hji a w hj
        · rw [e] at hj
          cases hj
      obtain ⟨As', ow2, S', h1, h2⟩ := Sta.putsO is rl hl S1 (fun i hi => hp i (disL_mem hio i hi)) ok.1 (fun a ha => by
        rcases ok.2.2 a ha with w | ⟨i, hi, w⟩
        · exact S.was w
        · exact S.new i (ok.2.1 i hi) a w) fr
      exact z _ _ As' (S'.less fun i hi => by
        rcases List.mem_append.mp (subL_mem how i hi) with w | w
        · exact h2 i w
        · exact h1 i w)
/-- x = e, e of others -/
theorem ds_asgB {is : List Nat} {t : D → Option (List D)} {tg : Expr} (h1 : DE X W ow k e den) (h2 : DG X is tg t) (hio : disL is C.io = true) (how : subL ow' ow = true) (hs1 : disL ow' k.src = true) (hs2 : disL ow' is = true) (hox : subL C.owx ow = true)
    (hs : swapsWithSole [tg] e pos.line X.env = pure false := by rfl) (hw : swappedStores [tg] e X.env = pure none := by rfl) (h3 : (assignEach [tg] X.env).map (·.2) = [assign tg X.env] := by rfl) : DS X W C ow ow' (.Assign [tg] e pos) (asgS [] is t den) := by
  obtain ⟨te, p, q⟩ := h1
  obtain ⟨gt, pg, qg⟩ := h2
  refine ⟨_, ps_asg p pg hs hw h3, fun H0 M0 pn σ ρ H As Dn hp S z => q σ ρ H As _ ⟨H0, M0, pn, S⟩ ?_⟩
  unfold asgS at z
  cases hd : den ρ with
  | stk =>
    rw [hd] at z
    exact z
  | exc x =>
    rw [hd] at z
    exact fun c dd H' A sm rp => z c dd σ H' As A ((S.same sm).less (subL_mem hox)) rp
  | ok d =>
    rw [hd] at z
    intro v H1 A sm rp ok
    refine qg H1 false v d A σ _ rp.weak ?_
    try dsimp only at z
    cases ht : t d with
    | none =>
      rw [ht] at z
      exact z
    | some ds =>
      rw [ht] at z
      intro vs rl hl
      have ok' := Kd.brOk ⟨H0, M0, pn, S⟩ ok
      obtain ⟨As', S'⟩ := Sta.putsB is rl hl ((S.same sm).less (subL_mem how)) (fun i hi => hp i (disL_mem hio i hi)) (disL_mem hs2) (fun i hi => ok' i (subL_mem how i hi) (disL_mem hs1 i hi))
      exact z _ _ As' S'
/-! ### return, expressions, if -/
def retS (f : Env → R D) : Env → Out := fun r => match f r with
  | .ok d => .ret d r
  | .exc x => .exc x r
  | .stk => .stk
theorem ds_ret {ms : List Nat} (h1 : DE X W ow (.own ms) e den) (hio : subL C.io ow = true) (hms : disL C.io ms = true) (hox : subL C.owx ow = true) : DS X W C ow ow' (.Return (some e) pos) (retS den) := by
  obtain ⟨te, p, q⟩ := h1
  refine ⟨_, ps_ret p, fun H0 M0 pn σ ρ H As Dn hp S z => q σ ρ H As _ ⟨H0, M0, pn, S⟩ ?_⟩
  unfold retS at z
  cases hd : den ρ with
  | stk =>
    rw [hd] at z
    exact z
  | exc x =>
    rw [hd] at z
    exact fun c dd H' A sm rp => z c dd σ H' As A ((S.same sm).less (subL_mem hox)) rp
  | ok d =>
    rw [hd] at z
    intro v H1 A sm rp ok
    refine z v σ H1 As A ((S.same sm).less (subL_mem hio)) rp ok.1 fun a ha => ⟨?_, fun i hi hA => ?_⟩
    · rcases ok.2.2 a ha with w | ⟨j, hj, w⟩
      · exact S.was w
      · exact S.new j (ok.2.1 j hj) a w
    · rcases ok.2.2 a ha with w | ⟨j, hj, w⟩
      · exact S.old hA w
      · exact S.sep j (ok.2.1 j hj) i (fun z => disL_mem hms i hi (z ▸ hj)) a w hA
def retN : Env → Out := fun r => .ret .none r
theorem ds_retN (hio : subL C.io ow = true) : DS X W C ow ow' (.Return none pos) retN :=
  ⟨_, ps_retN, fun H0 M0 pn σ ρ H As Dn hp S z => z .non σ H As [] (S.less (subL_mem hio)) .non List.nodup_nil fun a ha => by cases ha⟩
def expS (f : Env → R D) : Env → Out := fun r => match f r with
  | .ok _ => .nx r
  | .exc x => .exc x r
  | .stk => .stk
theorem ds_expr (h1 : DE X W ow k e den) (how : subL ow' ow = true) (hox : subL C.owx ow = true) (hs : swapsWith e none pos.line X.env = pure false := by rfl) : DS X W C ow ow' (.Expr e pos) (expS den) := by
  obtain ⟨te, p, q⟩ := h1
  refine ⟨_, ps_expr p hs, fun H0 M0 pn σ ρ H As Dn hp S z => q σ ρ H As _ ⟨H0, M0, pn, S⟩ ?_⟩
  unfold expS at z
  cases hd : den ρ with
  | stk =>
    rw [hd] at z
    exact z
  | exc x =>
    rw [hd] at z
    exact fun c dd H' A sm rp => z c dd σ H' As A ((S.same sm).less (subL_mem hox)) rp
  | ok d =>
    rw [hd] at z
    exact fun v H1 A sm rp ok => z σ H1 As ((S.same sm).less (subL_mem how))
def ifS (c : Env → R Bool) (f g : Env → Out) : Env → Out := fun r => match c r with
  | .ok b => if b = true then f r else g r
  | .exc x => .exc x r
  | .stk => .stk
theorem ds_if {tc : Env → R Bool} {pos : Pos} (h : DT X W ow c tc) (h1 : DSs X W C ow ow' sts f) (h2 : DSs X W C ow ow' sts2 g) (hox : subL C.owx ow = true) : DS X W C ow ow' (.If c sts sts2 pos) (ifS tc f g) := by
  obtain ⟨te, p, q⟩ := h
  obtain ⟨ta, pa, qa⟩ := h1
  obtain ⟨tb, pb, qb⟩ := h2
  refine ⟨_, ps_if p pa pb, fun H0 M0 pn σ ρ H As Dn hp S z => q σ ρ H As _ ⟨H0, M0, pn, S⟩ ?_⟩
  unfold ifS at z
  cases hd : tc ρ with
  | stk =>
    rw [hd] at z
    exact z
  | exc x =>
    rw [hd] at z
    exact fun c dd H' A sm rp => z c dd σ H' As A ((S.same sm).less (subL_mem hox)) rp
  | ok d =>
    rw [hd] at z
    intro H1 sm
    cases d with
    | true =>
      try dsimp only at z
      rw [if_pos rfl] at z
      exact iteT (qa H0 M0 pn σ ρ H1 As Dn hp (S.same sm) z)
    | false =>
      try dsimp only at z
      rw [if_neg Bool.false_ne_true] at z
      exact iteF (qb H0 M0 pn σ ρ H1 As Dn hp (S.same sm) z)
def brkS : Env → Out := fun r => .brk r
def cntS : Env → Out := fun r => .cnt r
theorem ds_break (h : subL C.owl ow = true) : DS X W C ow ow' (.Break pos) brkS := ⟨_, ps_break, fun H0 M0 pn σ ρ H As Dn hp S q => q σ H As (S.less (subL_mem h))⟩
theorem ds_continue (h : subL C.owl ow = true) : DS X W C ow ow' (.Continue pos) cntS := ⟨_, ps_continue, fun H0 M0 pn σ ρ H As Dn hp S q => q σ H As (S.less (subL_mem h))⟩
end
end Dg

namespace Dg
open PySem PySem.Spec PyProof.Rows L2
/-! ### what a for walks -/
structure ItOk (X : Cx) (J : It) (xs : List D) (H1 : Hp) (A : List Addr) : Prop where
  go : ∀ (M : Addr → Prop) H i, Fr M H1 H → (∀ a ∈ A, ¬ M a) → i < xs.length → J.go i H
  yld : ∀ (M : Addr → Prop) H i x H', Fr M H1 H → (∀ a ∈ A, ¬ M a) → J.yld i H x H' → Same H H' ∧ ∀ d, xs[i]? = some d → ∃ B, Rep X.K X.mg H' false x d B ∧ ∀ b ∈ B, b ∈ A
  stop : ∀ (M : Addr → Prop) H, Fr M H1 H → (∀ a ∈ A, ¬ M a) → J.stop xs.length H
def GoodI (X : Cx) (W : WX) (σ : L2.St) (ow : List Nat) (ss : List Nat) (H : Hp) (As : Nat → List Addr) (r : R (List D)) (Q : It → Hp → Prop) : Prop := match r with
  | .ok xs => ∀ J H1 A, Same H H1 → ItOk X J xs H1 A → (Kd.br ss).Ok ow H As A → (∀ a ∈ A, H1 a ≠ none) → Q J H1
  | .exc x => ∀ c dd H' A, Same H H' → RepX X.K X.mg H' c dd x A → W c dd σ H'
  | .stk => False
def DI (X : Cx) (W : WX) (ow ss : List Nat) (tg iter : Expr) (items : Env → R (List D)) : Prop :=
  ∃ wi, PI X tg iter wi ∧ ∀ σ ρ H As Q, On X ow σ ρ H As → GoodI X W σ ow ss H As (items ρ) Q → wi σ H Q
def dItems (d : D) : R (List D) := match d with
  | .list xs => .ok xs
  | .tuple xs => .ok xs
  | .str s => .ok (s.cps.toList.map fun c => .str ⟨#[c]⟩)
  | .dict ((.none, .list xs) :: _) => .ok xs
  | _ => .stk
def itE (f : Env → R D) : Env → R (List D) := fun ρ => (f ρ).bind dItems
theorem PI.or2 {X : Cx} {tg e : Expr} {t u : TI} (h : PI X tg e t) (h' : PI X tg e u) : PI X tg e (fun σ H Q => t σ H Q ∨ u σ H Q) := by
  refine ⟨fun pins s σ H Q I q => ?_⟩
  rcases q with q | q
  · exact h.run pins s σ H Q I q
  · exact h'.run pins s σ H Q I q
section
variable {X : Cx} {W : WX} {C : Cfg} {ow ow' ow1 ow2 : List Nat} {k k1 k2 k3 : Kd} {e a b c tg : Expr} {st : Stmt} {sts sts2 : List Stmt} {den d1 d2 : Env → R D} {f g : Env → Out} {pos p2 : Pos}
theorem it_seq {H1 : Hp} {a : Addr} {vs : List V} {xs : List D} {A : List Addr} {B : List Addr} (hs : ∀ (M : Addr → Prop) H, Fr M H1 H → (∀ a ∈ A, ¬ M a) → SqL X.K H a vs) (l : RepL X.K X.mg H1 false vs xs B) (hB : ∀ b ∈ B, b ∈ A) : ItOk X (Itl X.K a) xs H1 A where
  go M H i f n h := by
    have q := hs M H f n
    exact ⟨vs, vs[i]'(by rw [l.len]; exact h), q, List.getElem?_eq_getElem _⟩
  yld M H i x H' f n h := by
    obtain ⟨rfl, h⟩ := h
    refine ⟨Same.refl _, fun d hd => ?_⟩
    obtain ⟨y, C, hy, r, hc⟩ := (l.fr f fun a ha => n a (hB a ha)).get hd
    have e := (h vs (hs M _ f n)).symm.trans hy
    cases e
    exact ⟨C, r, fun b hb => hB b (hc b hb)⟩
  stop M H f n := ⟨vs, hs M H f n, by rw [l.len]; exact Nat.le_refl _⟩
theorem it_tup {H1 : Hp} {a : Addr} {vs : List V} {xs : List D} {A : List Addr} (hs : SqT X.K H1 a vs) (l : RepL X.K X.mg H1 false vs xs A) : ItOk X (Itt X.K a) xs H1 A where
  go M H i f n h := by
    have q := sqT_fr hs f
    exact ⟨vs, vs[i]'(by rw [l.len]; exact h), q, List.getElem?_eq_getElem _⟩
  yld M H i x H' f n h := by
    obtain ⟨rfl, h⟩ := h
    refine ⟨Same.refl _, fun d hd => ?_⟩
    obtain ⟨y, C, hy, r, hc⟩ := (l.fr f n).get hd
    have e := (h vs (sqT_fr hs f)).symm.trans hy
    cases e
    exact ⟨C, r, hc⟩
  stop M H f n := ⟨vs, sqT_fr hs f, by rw [l.len]; exact Nat.le_refl _⟩
theorem it_str {H1 : Hp} {s : Str} : ItOk X (Its s) (s.cps.toList.map fun c => .str ⟨#[c]⟩) H1 [] where
  go M H i f n h := by
    show i < s.cps.size
    rw [List.length_map, Array.length_toList] at h
    exact h
  yld M H i x H' f n h := by
    obtain ⟨rfl, c, hc, rfl⟩ := h
    refine ⟨Same.refl _, fun d hd => ?_⟩
    rw [List.getElem?_map, Array.getElem?_toList, hc] at hd
    cases hd
    exact ⟨[], .str _, fun b hb => hb⟩
  stop M H f n := by
    show s.cps.size ≤ _
    rw [List.length_map, Array.length_toList]
    exact Nat.le_refl _
theorem it_range {H1 : Hp} {lo : Int} {n : Nat} : ItOk X (Itr lo n) ((List.range n).map fun (i : Nat) => .int (lo + i)) H1 [] where
  go M H i f n h := by
    rw [List.length_map, List.length_range] at h
    exact h
  yld M H i x H' f n h := by
    obtain ⟨rfl, rfl⟩ := h
    refine ⟨Same.refl _, fun d hd => ?_⟩
    rw [List.getElem?_map] at hd
    cases e : (List.range _)[i]? with
    | none =>
      rw [e] at hd
      cases hd
    | some j =>
      rw [e] at hd
      have ej : i = j := by
        obtain ⟨_, q⟩ := List.getElem?_eq_some_iff.mp e
        rw [List.getElem_range] at q
        exact q
      subst ej
      cases hd
      exact ⟨[], .int _, fun b hb => hb⟩
  stop M H f n := by
    show _ ≤ _
    rw [List.length_map, List.length_range]
    exact Nat.le_refl _
theorem di_seq (h : DE X W ow k e den) : DI X W ow k.src tg e (itE den) := by
  obtain ⟨te, p, q⟩ := h
  refine ⟨_, PI.or2 (pi_list p) (PI.or2 (pi_tup p) (pi_str p)), fun σ ρ H As Q S z => ?_⟩
  unfold itE at z
  cases hd : den ρ with
  | stk =>
    rw [hd] at z
    exact z.elim
  | exc x =>
    rw [hd] at z
    refine .inl (q σ ρ H As _ S ?_)
    rw [hd]
    exact z
  | ok d =>
    rw [hd, R.bind_ok] at z
    unfold dItems at z
    split at z
    · refine .inl (q σ ρ H As _ S ?_)
      rw [hd]
      intro v H1 A sm rp ok
      have ok' := Kd.brOk S ok
      have old := fun (a : Addr) (ha : a ∈ A) => rp.old ha
      cases rp.weak with
      | lst h1 l1 =>
        refine ⟨_, rfl, ⟨_, .inl (.inl h1)⟩, z _ H1 _ sm (it_seq (fun M H f n => .inl (.inl (f _ _ h1 fun _ => n _ List.mem_cons_self))) l1 fun b hb => List.mem_cons_of_mem _ hb) ok' old⟩
    · refine .inr (.inl (q σ ρ H As _ S ?_))
      rw [hd]
      intro v H1 A sm rp ok
      have ok' := Kd.brOk S ok
      have old := fun (a : Addr) (ha : a ∈ A) => rp.old ha
      cases rp.weak with
      | tup h1 l1 => exact ⟨_, rfl, ⟨_, h1⟩, z _ H1 _ sm (it_tup h1 l1) ok' old⟩
    · refine .inr (.inr (q σ ρ H As _ S ?_))
      rw [hd]
      intro v H1 A sm rp ok
      have ok' := Kd.brOk S ok
      cases rp.weak with
      | str s => exact ⟨_, rfl, z _ H1 [] sm it_str (fun j _ _ a _ hb => by cases hb) fun a ha => by cases ha⟩
    · refine .inl (q σ ρ H As _ S ?_)
      rw [hd]
      intro v H1 A sm rp ok
      have ok' := Kd.brOk S ok
      have old := fun (a : Addr) (ha : a ∈ A) => rp.old ha
      have rp' := rp.weak
      generalize ed : PyData.dict ((PyData.none, PyData.list ‹List D›) :: ‹List (D × D)›) = w at rp'
      cases rp' with
      | lstF h1 l1 =>
        injection ed with e1
        injection e1 with e2 e3
        injection e2 with e4 e5
        injection e5 with e6
        subst e6
        exact ⟨_, rfl, ⟨_, h1.seq⟩, z _ H1 _ sm (it_seq (fun M H f n => (h1.fr f).seq) l1 fun b hb => hb) ok' old⟩
      | dct h1 l1 =>
        injection ed with e1
        subst e1
        exact (repP_tag l1).elim
      | dctF h1 l1 =>
        injection ed with e1
        subst e1
        exact (repP_tag l1).elim
      | ins h1 h2 l1 =>
        injection ed with e1
        injection e1 with e2 e3
        injection e2 with e4 e5
        cases e5
      | _ => cases ed
    · exact z.elim
def big62 (i : Int) : Bool := decide (-(2 ^ 62) ≤ i ∧ i < 2 ^ 62)
theorem big62_of {i : Int} (h : big62 i = true) : -(2 ^ 62) ≤ i ∧ i < 2 ^ 62 := of_decide_eq_true h
def dRange (ds : List D) : R (List D) := match ds with
  | [.int j] => if big62 j = true then .ok ((List.range j.toNat).map fun (i : Nat) => .int (0 + i)) else .stk
  | [.int i, .int j] => if (big62 i && big62 j) = true then .ok ((List.range (j - i).toNat).map fun (q : Nat) => .int (i + q)) else .stk
  | _ => .stk
def rgE (g : Env → R (List D)) : Env → R (List D) := fun ρ => (g ρ).bind dRange
theorem di_range1 {g : Env → R (List D)} {p : Pos} (hm : X.mg "range" = none) (h : DA X W ow k 1 [a] g) (hg : Gl X "range" := by rfl) (hs : starEach [a] X.env = [(false, eval a X.env)] := by rfl) : DI X W ow [] tg (.Call (.Name "range" p) [a] [] pos) (rgE g) := by
  obtain ⟨ta, pa, q⟩ := h
  refine ⟨_, pi_range1 hg hm pa hs, fun σ ρ H As Q S z => q σ ρ H As _ S ?_⟩
  unfold rgE at z
  cases hd : g ρ with
  | stk =>
    rw [hd] at z
    exact z
  | exc x =>
    rw [hd] at z
    exact z
  | ok d =>
    rw [hd, R.bind_ok] at z
    intro vs H1 A sm rp ok hl
    unfold dRange at z
    split at z
    · split at z
      · rename_i hz
        have hz' := big62_of hz
        cases rp with
        | cons r1 r2 =>
          cases r1.weak
          cases r2
          exact ⟨_, rfl, hz'.1, hz'.2, z _ H1 [] sm it_range (fun j _ _ a _ hb => by cases hb) fun a ha => by cases ha⟩
      · exact z.elim
    · have := rp.len
      rw [hl] at this
      cases this
    · exact z.elim
theorem di_range2 {g : Env → R (List D)} {p : Pos} (hm : X.mg "range" = none) (h : DA X W ow k 2 [a, b] g) (hg : Gl X "range" := by rfl) (hs : starEach [a, b] X.env = [(false, eval a X.env), (false, eval b X.env)] := by rfl) (hs2 : starEach [b] X.env = [(false, eval b X.env)] := by rfl) : DI X W ow [] tg (.Call (.Name "range" p) [a, b] [] pos) (rgE g) := by
  obtain ⟨ta, pa, q⟩ := h
  refine ⟨_, pi_range2 hg hm pa hs hs2, fun σ ρ H As Q S z => q σ ρ H As _ S ?_⟩
  unfold rgE at z
  cases hd : g ρ with
  | stk =>
    rw [hd] at z
    exact z
  | exc x =>
    rw [hd] at z
    exact z
  | ok d =>
    rw [hd, R.bind_ok] at z
    intro vs H1 A sm rp ok hl
    unfold dRange at z
    split at z
    · have := rp.len
      rw [hl] at this
      cases this
    · split at z
      · rename_i hz
        rw [Bool.and_eq_true] at hz
        have h1 := big62_of hz.1
        have h2 := big62_of hz.2
        cases rp with
        | cons r1 r2 =>
          cases r1.weak
          cases r2 with
          | cons r3 r4 =>
            cases r3.weak
            cases r4
            exact ⟨_, _, rfl, ⟨h1.1, h1.2, h2.1, h2.2⟩, z _ H1 [] sm it_range (fun j _ _ a _ hb => by cases hb) fun a ha => by cases ha⟩
      · exact z.elim
    · exact z.elim
/-! ### for -/
/-- the turns of a loop -/
def turns (is : List Nat) (t : D → Option (List D)) (ks : List Nat) (body : Env → Out) : List D → Env → Out
  | [], r => .nx r
  | x :: xs, r => match t x with
    | none => .stk
    | some ds => match body (setsD is ds r) with
      | .nx r' => turns is t ks body xs (kill ks r')
      | .cnt r' => turns is t ks body xs (kill ks r')
      | .brk r' => .nx (kill ks r')
      | o => o
def forS (is : List Nat) (t : D → Option (List D)) (ks : List Nat) (items : Env → R (List D)) (body : Env → Out) : Env → Out := fun r => match items r with
  | .ok xs => turns is t ks body xs (kill ks r)
  | .exc x => .exc x r
  | .stk => .stk
theorem ds_for {items : Env → R (List D)} {is ss ks owl : List Nat} {t : D → Option (List D)} {iter : Expr} (hp : PassesOwn (model X.prog X.w) X.A X.env X.xe) (hc : X.calm = true) (hi : DI X W ow ss tg iter items) (hg : DG X is tg t)
    (hb : DSs X W { C with owl := owl } owl owl sts f) (h1 : subL owl ow = true) (h2 : disL owl ss = true) (h3 : disL owl is = true) (h4 : disL is C.io = true) (h5 : subL ow' owl = true) (h6 : subL C.owx ow = true)
    (hs : ∀ x, foldedSetIterable iter X.env x = pure x := by intro _; rfl) : DS X W C ow ow' (.For tg iter sts [] pos) (forS is t ks items f) := by
  obtain ⟨wi, pi, qi⟩ := hi
  obtain ⟨gt, pg, qg⟩ := hg
  obtain ⟨tb, pb, qb⟩ := hb
  refine ⟨_, ps_for hp hc pi pg pb hs, fun H0 M0 pn σ ρ H As Dn hp S z => qi σ ρ H As _ ⟨H0, M0, pn, S⟩ ?_⟩
  unfold forS at z
  cases hd : items ρ with
  | stk =>
    rw [hd] at z
    exact z
  | exc x =>
    rw [hd] at z
    exact fun c dd H' A sm rp => z c dd σ H' As A ((S.same sm).less (subL_mem h6)) rp
  | ok xs =>
    rw [hd] at z
    intro J H1 A sm it ok old
    have z : Post X W C H0 M0 pn ow' Dn (turns is t ks f xs (kill ks ρ)) := z
    have S1 := (S.same sm).less (subL_mem h1)
    -- what is walked stands apart from what the body changes
    have nM : ∀ a ∈ A, ¬ ∃ i ∈ owl, a ∈ As i := fun a ha => by
      rintro ⟨i, hi, h⟩
      exact ok i (subL_mem h1 i hi) (disL_mem h2 i hi) a h ha
    obtain ⟨Ak, Sk, hk1, hk2⟩ := Sta.kills ks S1
    have T0 := S1.rebase
    obtain ⟨Al, Sl, _, _⟩ := Sta.kills ks T0
    refine ⟨fun i m σ' H' => i + m = xs.length ∧ ∃ ρ' As', Sta X.K X.mg H1 (fun a => ∃ i ∈ owl, a ∈ As i) pn owl σ' ρ' H' As' ∧ Post X W C H0 M0 pn ow' Dn (turns is t ks f (xs.drop i) ρ'), ⟨xs.length, (by omega), _, _, Sl, z⟩, fun i m σ' H' hW => ?_⟩
    obtain ⟨em, ρ', As', T, zz⟩ := hW
    by_cases hl : i < xs.length
    · refine .inr ⟨it.go _ _ i T.fr nM hl, fun σ2 H2 => ∃ ρ2 As2, Sta X.K X.mg H1 (fun a => ∃ i ∈ owl, a ∈ As i) pn owl σ2 ρ2 H2 As2 ∧ Post X W C H0 M0 pn ow' Dn (turns is t ks f (xs.drop (i + 1)) ρ2), fun σ2 H2 hN => ?_, fun x H2 hy => ?_⟩
      · obtain ⟨ρ2, As2, T2, z2⟩ := hN
        exact ⟨m - 1, by omega, by omega, ρ2, As2, T2, z2⟩
      · obtain ⟨s2, hr⟩ := it.yld _ _ i x H2 T.fr nM hy
        obtain ⟨B, rB, hB⟩ := hr _ (List.getElem?_eq_getElem hl)
        refine qg H2 false x xs[i] B σ' _ rB ?_
        rw [List.drop_eq_getElem_cons hl, turns] at zz
        cases ht : t xs[i] with
        | none =>
          rw [ht] at zz
          exact zz
        | some ds =>
          rw [ht] at zz
          intro vs rl hvl
          have T2 := T.same s2
          have apart : ∀ j ∈ owl, ∀ a ∈ As' j, a ∉ B := fun j hj a ha hb => by
            rcases T.new j hj a ha with w | w
            · exact old a (hB a hb) w
            · exact nM a (hB a hb) w
          obtain ⟨As3, T3⟩ := Sta.putsB is rl hvl T2 (fun i hi => hp i (disL_mem h4 i hi)) (disL_mem h3) apart
          refine qb _ _ pn _ _ H2 As3 _ hp T3 ?_
          dsimp only at zz
          cases hf : f (setsD is ds ρ') with
          | nx r =>
            rw [hf] at zz
            intro σ4 H4 As4 T4
            obtain ⟨As5, T5, _, _⟩ := Sta.kills ks T4
            exact ⟨_, As5, T5, zz⟩
          | cnt r =>
            rw [hf] at zz
            intro σ4 H4 As4 T4
            obtain ⟨As5, T5, _, _⟩ := Sta.kills ks T4
            exact ⟨_, As5, T5, zz⟩
          | brk r =>
            rw [hf] at zz
            intro σ4 H4 As4 T4
            obtain ⟨As5, T5, _, _⟩ := Sta.kills ks T4
            exact zz σ4 H4 As5 ((S1.unbase T5).less (subL_mem h5))
          | ret d r =>
            rw [hf] at zz
            intro v σ4 H4 As4 A4 T4 r4 n4 h4
            exact zz v σ4 H4 As4 A4 (S1.unbase T4) r4 n4 fun a ha => ⟨S1.was2 (h4 a ha).1, (h4 a ha).2⟩
          | exc x r =>
            rw [hf] at zz
            intro c dd σ4 H4 As4 A4 T4 r4
            exact zz c dd σ4 H4 As4 A4 (S1.unbase T4) r4
          | stk =>
            rw [hf] at zz
            exact zz
    · have ei : i = xs.length := by omega
      subst ei
      refine .inl ⟨it.stop _ _ T.fr nM, ?_⟩
      rw [List.drop_length, turns] at zz
      exact zz σ' H' As' ((S1.unbase T).less (subL_mem h5))
end
end Dg

namespace Dg
open PySem PySem.Spec PyProof.Rows L2
/-! ### slots that are wiped -/
theorem wipe_get (σ : L2.St) : ∀ (vs : List Nat) (j : Nat), (wipe σ vs)[j]? = if j ∈ vs then (σ[j]?).map fun _ => none else σ[j]?
  | [], j => by simp [wipe]
  | v :: vs, j => by
    rw [wipe]
    by_cases hj : j = v
    · subst hj
      rw [if_pos List.mem_cons_self]
      by_cases hl : j < σ.length
      · rw [List.getElem?_set_self (by rw [wipe_length]; exact hl), List.getElem?_eq_getElem hl]
        rfl
      · rw [List.getElem?_eq_none (by rw [List.length_set, wipe_length]; omega), List.getElem?_eq_none (by omega)]
        rfl
    · rw [List.getElem?_set_ne (fun z => hj z.symm), wipe_get σ vs j]
      by_cases hm : j ∈ vs
      · rw [if_pos hm, if_pos (List.mem_cons_of_mem _ hm)]
      · rw [if_neg hm, if_neg]
        intro z
        rcases List.mem_cons.mp z with z | z
        · exact hj z
        · exact hm z
theorem setsV_len : ∀ (is : List Nat) (vs : List V) (σ : L2.St), (setsV is vs σ).length = σ.length
  | [], _, _ => rfl
  | _ :: _, [], _ => rfl
  | i :: is, d :: ds, r => (setsV_len is ds _).trans List.length_set
theorem setsV_ne : ∀ (is : List Nat) (vs : List V) (σ : L2.St) (j : Nat), j ∉ is → (setsV is vs σ)[j]? = σ[j]?
  | [], _, _, _, _ => rfl
  | _ :: _, [], _, _, _ => rfl
  | i :: is, d :: ds, r, j, h => by
    rw [setsV, setsV_ne is ds _ j fun z => h (List.mem_cons_of_mem _ z), List.getElem?_set_ne fun z => h (by rw [z]; exact List.mem_cons_self)]
theorem wipe_sets (is : List Nat) (vs : List V) (σ : L2.St) : wipe (setsV is vs (wipe σ is)) is = wipe σ is := by
  apply List.ext_getElem?
  intro j
  rw [wipe_get, wipe_get]
  by_cases hj : j ∈ is
  · rw [if_pos hj, if_pos hj]
    by_cases hl : j < σ.length
    · rw [List.getElem?_eq_getElem (l := setsV is vs (wipe σ is)) (by rw [setsV_len, wipe_length]; exact hl), List.getElem?_eq_getElem hl]
      rfl
    · rw [List.getElem?_eq_none (by rw [setsV_len, wipe_length]; omega), List.getElem?_eq_none (by omega)]
  · rw [if_neg hj, if_neg hj, setsV_ne is vs _ j hj, wipe_get, if_neg hj]
theorem kill_get : ∀ (is : List Nat) (ρ : Env) (j : Nat), j ∉ is → (kill is ρ)[j]? = ρ[j]?
  | [], _, _, _ => rfl
  | i :: is, ρ, j, h => by
    rw [kill, kill_get is _ j fun z => h (List.mem_cons_of_mem _ z), List.getElem?_set_ne fun z => h (by rw [z]; exact List.mem_cons_self)]
theorem kill_in : ∀ (is : List Nat) (ρ : Env) (j : Nat) (d : D), j ∈ is → (kill is ρ)[j]? ≠ some (some d)
  | [], _, _, _, h => by cases h
  | i :: is, ρ, j, d, h => by
    rw [kill]
    by_cases hj : j ∈ is
    · exact kill_in is _ j d hj
    · rw [kill_get is _ j hj]
      rcases List.mem_cons.mp h with rfl | h
      · by_cases hl : j < ρ.length
        · rw [List.getElem?_set_self hl]
          intro z
          cases z
        · rw [List.getElem?_eq_none (by rw [List.length_set]; omega)]
          intro z
          cases z
      · exact absurd h hj
section
variable {X : Cx} {W : WX} {C : Cfg} {ow ow' ow1 ow2 : List Nat} {k k1 k2 k3 : Kd} {e a b c tg elt : Expr} {st : Stmt} {sts sts2 : List Stmt} {den d1 d2 : Env → R D} {f g : Env → Out} {pos p2 : Pos}
theorem On.wiped {σ : L2.St} {ρ : Env} {H : Hp} {As : Nat → List Addr} (is : List Nat) (S : On X ow σ ρ H As) (h : ∀ i ∈ ow2, i ∈ ow) : ∃ As', On X ow2 (wipe σ is) (kill is ρ) H As' ∧ ∀ j, As' j = As j ∨ As' j = [] := by
  obtain ⟨H0, M0, pn, S⟩ := S
  obtain ⟨As', S', h1, h2⟩ := Sta.kills is S
  refine ⟨As', ⟨H0, M0, fun _ => none, S'.fr, fun i d e => ?_, S'.dead, fun i hi => S'.nd i (h i hi), fun i hi => S'.new i (h i hi), fun i hi => S'.sep i (h i hi), by rw [wipe_length]; exact S'.len, fun j v z => by cases z⟩, h1⟩
  obtain ⟨v, e1, e2⟩ := S'.rep i d e
  have ni : i ∉ is := fun z => kill_in is ρ i d z e
  exact ⟨v, by rw [wipe_get, if_neg ni]; exact e1, rep_less e2 fun z => contains_mem.mpr (h i (contains_mem.mp z))⟩
def R.nox {α : Type} (r : R α) : R α := match r with
  | .exc _ => .stk
  | r => r
/-- a comprehension's turns -/
def compGo (is : List Nat) (t : D → Option (List D)) (c : Env → R Bool) (elt : Env → R D) (r : Env) : List D → R (List D)
  | [] => .ok []
  | x :: xs => match t x with
    | none => .stk
    | some ds => ((c (setsD is ds r)).nox).bind fun b => if b = true then (((elt (setsD is ds r)).nox).bind fun y => (compGo is t c elt r xs).bind fun ys => .ok (y :: ys)) else compGo is t c elt r xs
def compE (is : List Nat) (t : D → Option (List D)) (items : Env → R (List D)) (c : Env → R Bool) (elt : Env → R D) : Env → R D := fun r => (items r).bind fun xs => if xs.length ≤ sizeLine then (compGo is t c elt (kill is r) xs).bind fun ys => .ok (.list ys) else .stk
def yesT : Env → R Bool := fun _ => .ok true
abbrev noW : WX := fun _ _ _ _ => False
theorem blk_pe {scope : Scope} {el : Env → R D} (h : ∀ (s : Shared) (H : Hp) (C : Addr) (cl : List (Str × Addr)) (fp : List Addr), DE (X.blk s H scope (compEnvC scope cl C X.env) fp) noW ow2 k e el) :
    ∃ te, (∀ (s : Shared) (H : Hp) (C : Addr) (cl : List (Str × Addr)) (fp : List Addr), PE (X.blk s H scope (compEnvC scope cl C X.env) fp) e te) ∧ ∀ σ ρ H As Q, On X ow2 σ ρ H As → Good X noW σ ow2 k H As (el ρ) Q → te σ H Q := by
  refine ⟨fun σ H Q => ∀ (s : Shared) (H' : Hp) (C : Addr) (cl : List (Str × Addr)) (fp : List Addr) (pins : List (Addr × Obj)) (s' : Shared), Inv (X.blk s H' scope (compEnvC scope cl C X.env) fp) pins σ H s' →
    wpAny (model X.prog X.w) X.A (eval e (compEnvC scope cl C X.env)) (EP (X.blk s H' scope (compEnvC scope cl C X.env) fp) pins σ Q) (fun _ _ => False) s', fun s H C cl fp => ⟨fun pins s' σ H' Q I q => q s H C cl fp pins s' I⟩, fun σ ρ H As Q S g s H' C cl fp pins s' I => ?_⟩
  obtain ⟨te, p, q⟩ := h s H' C cl fp
  exact p.run pins s' σ H Q I (q σ ρ H As Q S g)
theorem blk_pts {scope : Scope} {el : Env → R Bool} (h : ∀ (s : Shared) (H : Hp) (C : Addr) (cl : List (Str × Addr)) (fp : List Addr), DT (X.blk s H scope (compEnvC scope cl C X.env) fp) noW ow2 e el) :
    ∃ tt, (∀ (s : Shared) (H : Hp) (C : Addr) (cl : List (Str × Addr)) (fp : List Addr), PTs (X.blk s H scope (compEnvC scope cl C X.env) fp) [e] tt) ∧ ∀ σ ρ H As Q, On X ow2 σ ρ H As → GoodT X noW σ H (el ρ) Q → tt σ H Q := by
  refine ⟨fun σ H Q => ∀ (s : Shared) (H' : Hp) (C : Addr) (cl : List (Str × Addr)) (fp : List Addr) (pins : List (Addr × Obj)) (s' : Shared), Inv (X.blk s H' scope (compEnvC scope cl C X.env) fp) pins σ H s' →
    wpAny (model X.prog X.w) X.A (forIn [e] true fun c r => if r = true then do let ok ← isTrue c (compEnvC scope cl C X.env) (eval c (compEnvC scope cl C X.env)); pure (ForInStep.yield ok) else pure (ForInStep.yield r)) (TP (X.blk s H' scope (compEnvC scope cl C X.env) fp) pins σ Q) (fun _ _ => False) s', fun s H C cl fp => ⟨fun pins s' σ H' Q I q => q s H C cl fp pins s' I⟩, fun σ ρ H As Q S g s H' C cl fp pins s' I => ?_⟩
  obtain ⟨te, p, q⟩ := h s H' C cl fp
  exact (pts_one p).run pins s' σ H Q I (q σ ρ H As Q S g)
theorem blk_pts0 {scope : Scope} : ∃ tt, (∀ (s : Shared) (H : Hp) (C : Addr) (cl : List (Str × Addr)) (fp : List Addr), PTs (X.blk s H scope (compEnvC scope cl C X.env) fp) [] tt) ∧ ∀ σ ρ H As Q, On X ow2 σ ρ H As → GoodT X noW σ H (yesT ρ) Q → tt σ H Q :=
  ⟨_, fun _ _ _ _ _ => pts_nil, fun σ ρ H As Q S g => g H (Same.refl H)⟩
theorem blk_pg {scope : Scope} {is : List Nat} {t : D → Option (List D)} (h : ∀ (s : Shared) (H : Hp) (C : Addr) (cl : List (Str × Addr)) (fp : List Addr), DG (X.blk s H scope (compEnvC scope cl C X.env) fp) is tg t) :
    ∃ gt, (∀ (s : Shared) (H : Hp) (C : Addr) (cl : List (Str × Addr)) (fp : List Addr), PG (X.blk s H scope (compEnvC scope cl C X.env) fp) tg gt) ∧ ∀ H o v d A σ Q, Rep X.K X.mg H o v d A → (match t d with
    | some ds => ∀ vs, RepL X.K X.mg H o vs ds A → vs.length = is.length → Q (setsV is vs σ) H
    | none => False) → gt v σ H Q := by
  refine ⟨fun v σ H Q => ∀ (s : Shared) (H' : Hp) (C : Addr) (cl : List (Str × Addr)) (fp : List Addr) (pins : List (Addr × Obj)) (s' : Shared) (u : Value), Inv (X.blk s H' scope (compEnvC scope cl C X.env) fp) pins σ H s' → RelV v u →
    wpAny (model X.prog X.w) X.A (assign tg (compEnvC scope cl C X.env) u) (fun _ s'' => ∃ σ' H1, Inv (X.blk s H' scope (compEnvC scope cl C X.env) fp) pins σ' H1 s'' ∧ Q σ' H1) (fun _ _ => False) s', fun s H C cl fp => ⟨fun pins s' σ H' v u Q I r q => q s H C cl fp pins s' u I r⟩, fun H o v d A σ Q r z s H' C cl fp pins s' u I ru => ?_⟩
  obtain ⟨gt, p, q⟩ := h s H' C cl fp
  exact p.run pins s' σ H v u Q I ru (q H o v d A σ Q r z)
/-- what a comprehension's loop keeps -/
def Cmp (X : Cx) (H1 : Hp) (Dd : Addr) (ds : List D) (H : Hp) : Prop := Same H1 H ∧ ∃ acc A, H Dd = some (.lst acc) ∧ RepL X.K X.mg H true acc ds A ∧ A.Nodup ∧ ∀ a ∈ A, H1 a = none ∧ a ≠ Dd
theorem compGo_len {is : List Nat} {t : D → Option (List D)} {c : Env → R Bool} {elt : Env → R D} {r : Env} : ∀ {xs ys : List D}, compGo is t c elt r xs = .ok ys → ys.length ≤ xs.length
  | [], ys, h => by
    cases h
    exact Nat.le_refl _
  | x :: xs, ys, h => by
    unfold compGo at h
    cases ht : t x with
    | none =>
      rw [ht] at h
      cases h
    | some ds =>
      rw [ht] at h
      dsimp only at h
      cases hc : (c (setsD is ds r)).nox with
      | stk =>
        rw [hc] at h
        cases h
      | exc x =>
        rw [hc] at h
        cases h
      | ok b =>
        rw [hc, R.bind_ok] at h
        cases b with
        | false =>
          rw [if_neg Bool.false_ne_true] at h
          exact Nat.le_succ_of_le (compGo_len h)
        | true =>
          rw [if_pos rfl] at h
          cases he : (elt (setsD is ds r)).nox with
          | stk =>
            rw [he] at h
            cases h
          | exc x =>
            rw [he] at h
            cases h
          | ok y =>
            rw [he, R.bind_ok] at h
            cases hg : compGo is t c elt r xs with
            | stk =>
              rw [hg] at h
              cases h
            | exc x =>
              rw [hg] at h
              cases h
            | ok zs =>
              rw [hg, R.bind_ok] at h
              cases h
              exact Nat.succ_le_succ (compGo_len hg)
theorem nox_good {σ : L2.St} {H : Hp} {As : Nat → List Addr} {r : R D} {Q : VK} (h : match r.nox with
    | .ok d => ∀ v H' A, Same H H' → Rep X.K X.mg H' k.isOwn v d A → k.Ok ow H As A → Q v H'
    | _ => False) : Good X noW σ ow k H As r Q := by
  cases r with
  | ok d => exact h
  | exc x => exact h.elim
  | stk => exact h
theorem nox_goodT {σ : L2.St} {H : Hp} {r : R Bool} {Q : Bool → Hp → Prop} (h : match r.nox with
    | .ok b => ∀ H', Same H H' → Q b H'
    | _ => False) : GoodT X noW σ H r Q := by
  cases r with
  | ok d => exact h
  | exc x => exact h.elim
  | stk => exact h
theorem comp_run {items : Env → R (List D)} {is ss : List Nat} {t : D → Option (List D)} {c : Env → R Bool} {el : Env → R D} {wi : TI} {gt : TG} {tt : TT} {te : TE}
    (qi : ∀ σ ρ H As Q, On X ow σ ρ H As → GoodI X W σ ow ss H As (items ρ) Q → wi σ H Q)
    (qg : ∀ H o v d A σ Q, Rep X.K X.mg H o v d A → (match t d with
      | some ds => ∀ vs, RepL X.K X.mg H o vs ds A → vs.length = is.length → Q (setsV is vs σ) H
      | none => False) → gt v σ H Q)
    (qt : ∀ σ ρ H As Q, On X ow2 σ ρ H As → GoodT X noW σ H (c ρ) Q → tt σ H Q)
    (qe : ∀ σ ρ H As Q, On X ow2 σ ρ H As → Good X noW σ ow2 (.own []) H As (el ρ) Q → te σ H Q)
    (h1 : subL ow2 ow = true) (h2 : disL ow2 ss = true) (h3 : disL ow2 is = true)
    {σ : L2.St} {ρ : Env} {H : Hp} {As : Nat → List Addr} {Q : VK} (S : On X ow σ ρ H As) (z : Good X W σ ow (.own []) H As (compE is t items c el ρ) Q) : tLc wi gt tt te is σ H Q := by
  refine qi σ ρ H As _ S ?_
  unfold compE at z
  cases hd : items ρ with
  | stk =>
    rw [hd] at z
    exact z
  | exc x =>
    rw [hd] at z
    exact z
  | ok xs =>
    rw [hd, R.bind_ok] at z
    intro J H1 A sm it ok old Dd hD
    by_cases hz : xs.length ≤ sizeLine
    · rw [if_pos hz] at z
      cases hg : compGo is t c el (kill is ρ) xs with
      | stk =>
        rw [hg] at z
        exact z.elim
      | exc x =>
        -- no exception comes out
        exfalso
        clear z
        have no : ∀ (xs : List D) x, compGo is t c el (kill is ρ) xs ≠ .exc x := by
          intro xs
          induction xs with
          | nil =>
            intro x h
            cases h
          | cons y ys ih =>
            intro x h
            unfold compGo at h
            cases ht : t y with
            | none =>
              rw [ht] at h
              cases h
            | some ds =>
              rw [ht] at h
              dsimp only at h
              cases hc : c (setsD is ds (kill is ρ)) with
              | stk =>
                rw [hc] at h
                cases h
              | exc x =>
                rw [hc] at h
                cases h
              | ok b =>
                rw [hc] at h
                cases b with
                | false => exact ih x h
                | true =>
                  change R.bind (R.nox (el (setsD is ds (kill is ρ)))) _ = _ at h
                  cases he : el (setsD is ds (kill is ρ)) with
                  | stk =>
                    rw [he] at h
                    cases h
                  | exc x =>
                    rw [he] at h
                    cases h
                  | ok y =>
                    rw [he] at h
                    cases hh : compGo is t c el (kill is ρ) ys with
                    | stk =>
                      rw [hh] at h
                      cases h
                    | exc x => exact ih x hh
                    | ok zs =>
                      rw [hh] at h
                      cases h
        exact no xs x hg
      | ok ys =>
        rw [hg, R.bind_ok] at z
        have S1 := S.same sm
        have sm0 : Same H1 (upd H1 Dd (.lst [])) := same_upd hD
        -- the turns
        refine ⟨fun i m H' => i + m = xs.length ∧ ∃ us, Cmp X H1 Dd us H' ∧ us.length ≤ i ∧ ∃ rest, compGo is t c el (kill is ρ) (xs.drop i) = .ok rest ∧ us ++ rest = ys, ⟨xs.length, by omega, [], ⟨sm0, [], [], upd_same, .nil, List.nodup_nil, fun a ha => by cases ha⟩, Nat.le_refl _, ys, hg, rfl⟩, fun i m H' hW => ?_⟩
        obtain ⟨em, us, ⟨smD, acc, Aa, hacc, racc, nda, nwa⟩, hlen, rest, hrest, hall⟩ := hW
        have f0 : Fr (fun _ => False) H1 H' := Fr.of_same smD
        by_cases hl : i < xs.length
        · refine .inr ⟨it.go _ _ i f0 (fun _ _ w => w) hl, fun H2 => ∃ us, Cmp X H1 Dd us H2 ∧ us.length ≤ i + 1 ∧ ∃ rest, compGo is t c el (kill is ρ) (xs.drop (i + 1)) = .ok rest ∧ us ++ rest = ys, fun H2 hN => ?_, fun x H2 hy => ?_⟩
          · obtain ⟨us', c1, c2, c3⟩ := hN
            exact ⟨m - 1, by omega, by omega, us', c1, c2, c3⟩
          · obtain ⟨s2, hr⟩ := it.yld _ _ i x H2 f0 (fun _ _ w => w) hy
            obtain ⟨B, rB, hB⟩ := hr _ (List.getElem?_eq_getElem hl)
            refine qg H2 false x xs[i] B (wipe σ is) _ rB ?_
            rw [List.drop_eq_getElem_cons hl, compGo] at hrest
            cases ht : t xs[i] with
            | none =>
              rw [ht] at hrest
              cases hrest
            | some ds =>
              rw [ht] at hrest
              dsimp only at hrest
              intro vs rl hvl
              refine ⟨wipe_sets is vs σ, ?_⟩
              -- the block's state
              obtain ⟨As2, S2, hA2⟩ := On.wiped is ((S1.same smD).same s2) (subL_mem h1)
              have S3 : ∃ As3, On X ow2 (setsV is vs (wipe σ is)) (setsD is ds (kill is ρ)) H2 As3 := by
                obtain ⟨G0, M0, pn, T⟩ := S2
                have T' : Sta X.K X.mg G0 M0 (fun _ => none) ow2 (wipe σ is) (kill is ρ) H2 As2 := ⟨T.fr, T.rep, T.dead, T.nd, T.new, T.sep, T.len, fun j v w => by cases w⟩
                obtain ⟨As3, T3⟩ := Sta.putsB is rl hvl T' (fun _ _ => rfl) (disL_mem h3) (fun j hj a ha hb => by
                  rcases hA2 j with e | e
                  · rw [e] at ha
                    exact ok j (subL_mem h1 j hj) (disL_mem h2 j hj) a ha (hB a hb)
                  · rw [e] at ha
                    cases ha)
                exact ⟨As3, G0, M0, _, T3⟩
              obtain ⟨As3, S3⟩ := S3
              refine qt _ _ H2 As3 _ S3 (nox_goodT ?_)
              cases hc : (c (setsD is ds (kill is ρ))).nox with
              | stk =>
                rw [hc] at hrest
                cases hrest
              | exc x =>
                rw [hc] at hrest
                cases hrest
              | ok b =>
                rw [hc, R.bind_ok] at hrest
                intro H3 s3
                cases b with
                | false =>
                  rw [if_neg Bool.false_ne_true] at hrest
                  refine iteF ⟨us, ⟨smD.trans (s2.trans s3), acc, Aa, s3 _ _ (s2 _ _ hacc), (racc.same s2).same s3, nda, nwa⟩, Nat.le_succ_of_le hlen, rest, hrest, hall⟩
                | true =>
                  rw [if_pos rfl] at hrest
                  refine iteT (qe _ _ H3 As3 _ (S3.same s3) (nox_good ?_))
                  cases he : (el (setsD is ds (kill is ρ))).nox with
                  | stk =>
                    rw [he] at hrest
                    cases hrest
                  | exc x =>
                    rw [he] at hrest
                    cases hrest
                  | ok y =>
                    rw [he, R.bind_ok] at hrest
                    cases hgo : compGo is t c el (kill is ρ) (xs.drop (i + 1)) with
                    | stk =>
                      rw [hgo] at hrest
                      cases hrest
                    | exc x =>
                      rw [hgo] at hrest
                      cases hrest
                    | ok zs =>
                      rw [hgo, R.bind_ok] at hrest
                      cases hrest
                      intro v H4 A4 s4 r4 k4
                      have hD4 : H4 Dd = some (.lst acc) := s4 _ _ (s3 _ _ (s2 _ _ hacc))
                      have f4 : Fr (fun a => a = Dd) H4 (upd H4 Dd (.lst (acc ++ [v]))) := fun a o h hm => by
                        by_cases e : a = Dd
                        · subst e
                          rw [hD4] at h
                          cases h
                          exact absurd rfl (hm rfl)
                        · rw [upd_ne e]
                          exact h
                      have n4 : ∀ a ∈ A4, H3 a = none := fun a ha => (k4.2.2 a ha).resolve_right fun ⟨j, hj, _⟩ => by cases hj
                      have dD : ∀ a ∈ A4, a ≠ Dd := fun a ha e => by
                        have := n4 a ha
                        rw [e, s3 _ _ (s2 _ _ hacc)] at this
                        cases this
                      refine ⟨acc, hD4, ?_, us ++ [y], ⟨fun a o h => ?_, acc ++ [v], Aa ++ A4, upd_same, ?_, ?_, ?_⟩, ?_, zs, rfl, ?_⟩
                      · have := racc.len
                        omega
                      · have h4 := s4 _ _ (s3 _ _ (s2 _ _ (smD a o h)))
                        rw [upd_ne (ne_of_none h hD)]
                        exact h4
                      · have r1 := (((racc.same s2).same s3).same s4).fr f4 fun a ha => (nwa a ha).2
                        have r2 := RepL.one (r4.fr f4 dD)
                        exact r1.app r2
                      · refine List.nodup_append.mpr ⟨nda, k4.1, fun a ha b hb e => ?_⟩
                        subst e
                        have := n4 a hb
                        exact ((racc.same s2).same s3).old ha this
                      · intro a ha
                        rcases List.mem_append.mp ha with w | w
                        · exact nwa a w
                        · exact ⟨(smD.trans (s2.trans s3)).free (n4 a w), dD a w⟩
                      · rw [List.length_append, List.length_singleton]
                        omega
                      · rw [List.append_assoc]
                        exact hall
        · have ei : i = xs.length := by omega
          subst ei
          refine .inl ⟨it.stop _ _ f0 (fun _ _ w => w), ?_⟩
          rw [List.drop_length, compGo] at hrest
          cases hrest
          rw [List.append_nil] at hall
          subst hall
          refine z _ H' (Dd :: Aa) (sm.trans smD) (.lst hacc racc) ⟨List.nodup_cons.mpr ⟨fun w => (nwa _ w).2 rfl, nda⟩, (fun _ w => by cases w), fun a ha => .inl ?_⟩
          rcases List.mem_cons.mp ha with rfl | w
          · exact sm.free hD
          · exact sm.free (nwa a w).1
    · rw [if_neg hz] at z
      exact z.elim
theorem de_comp {items : Env → R (List D)} {ss : List Nat} {is : List Nat} {own : List (Str × Nat)} {t : D → Option (List D)} {c : Env → R Bool} {el : Env → R D} {scope : Scope} {iter : Expr} {ifs : List Expr} (ow2 : List Nat) (hc : X.calm = true) (hN : X.N.Nodup) (hi : DI X W ow ss tg iter items) (ok : BlkOk X.N X.env.scope scope own) (his : own.map (·.2) = is)
    (hg : ∀ (s : Shared) (H : Hp) (C : Addr) (cl : List (Str × Addr)) (fp : List Addr), DG (X.blk s H scope (compEnvC scope cl C X.env) fp) is tg t)
    (ht : ∃ tt, (∀ (s : Shared) (H : Hp) (C : Addr) (cl : List (Str × Addr)) (fp : List Addr), PTs (X.blk s H scope (compEnvC scope cl C X.env) fp) ifs tt) ∧ ∀ σ ρ H As Q, On X ow2 σ ρ H As → GoodT X noW σ H (c ρ) Q → tt σ H Q)
    (he : ∀ (s : Shared) (H : Hp) (C : Addr) (cl : List (Str × Addr)) (fp : List Addr), DE (X.blk s H scope (compEnvC scope cl C X.env) fp) noW ow2 (.own []) elt el)
    (h1 : subL ow2 ow = true := by rfl) (h2 : disL ow2 ss = true := by rfl) (h3 : disL ow2 is = true := by rfl) (hs : ∀ x, foldedSetIterable iter X.env x = pure x := by intro _; rfl) : DE X W ow (.own []) (.ListComp elt [⟨tg, iter, ifs, 0⟩] scope pos) (compE is t items c el) := by
  obtain ⟨wi, pi, qi⟩ := hi
  obtain ⟨gt, pg, qg⟩ := blk_pg hg
  obtain ⟨tt, pt, qt⟩ := ht
  obtain ⟨te, pe, qe⟩ := blk_pe he
  subst his
  exact ⟨_, pe_lc hc hN pi ok pg pt pe hs, fun σ ρ H As Q S z => comp_run qi qg qt qe h1 h2 h3 S z⟩
end
end Dg

namespace Dg
open PySem PySem.Spec PyProof.Rows L2
section
variable {X : Cx} {W : WX} {C : Cfg} {ow ow' ow1 ow2 : List Nat} {k k1 k2 k3 : Kd} {e a b c tg elt : Expr} {st : Stmt} {sts sts2 : List Stmt} {den d1 d2 : Env → R D} {f g : Env → Out} {pos p2 : Pos}
theorem asg_run {is ms : List Nat} {t : D → Option (List D)} {te : TE} {gt : TG} (q : ∀ σ ρ H As Q, On X ow σ ρ H As → Good X W σ ow (.own ms) H As (den ρ) Q → te σ H Q)
    (qg : ∀ H o v d A σ Q, Rep X.K X.mg H o v d A → (match t d with
      | some ds => ∀ vs, RepL X.K X.mg H o vs ds A → vs.length = is.length → Q (setsV is vs σ) H
      | none => False) → gt v σ H Q) (hio : disL is C.io = true) (how : subL ow' (is ++ ow) = true) (hox : subL C.owx ow = true)
    {H0 : Hp} {M0 : Addr → Prop} {pn : Nat → Option V} {σ : L2.St} {ρ : Env} {H : Hp} {As : Nat → List Addr} {Dn : Ends} (hp : PinOk C pn) (S : Sta X.K X.mg H0 M0 pn ow σ ρ H As) (z : Post X W C H0 M0 pn ow' Dn (asgS ms is t den ρ)) : tAsg te gt Dn σ H := by
  refine q σ ρ H As _ ⟨H0, M0, pn, S⟩ ?_
  unfold asgS at z
  cases hd : den ρ with
  | stk =>
    rw [hd] at z
    exact z
  | exc x =>
    rw [hd] at z
    exact fun c dd H' A sm rp => z c dd σ H' As A ((S.same sm).less (subL_mem hox)) rp
  | ok d =>
    rw [hd] at z
    intro v H1 A sm rp ok
    refine qg H1 true v d A σ _ rp ?_
    dsimp only at z
    cases ht : t d with
    | none =>
      rw [ht] at z
      exact z
    | some ds =>
      rw [ht] at z
      intro vs rl hl
      obtain ⟨As1, S1, k1, k2⟩ := Sta.kills ms (S.same sm)
      have fr : ∀ a ∈ A, ∀ j, a ∉ As1 j := fun a ha j hj => by
        rcases k1 j with e | e
        · rw [e] at hj
          rcases ok.2.2 a ha with w | ⟨i, hi, w⟩
          · exact S.old hj w
          · by_cases hji : j = i
            · subst hji
              rw [k2 j hi] at e
              rw [← e] at hj
              cases hj
            · exact S.sep i (ok.2.1 i hi) j hji a w hj
        · rw [e] at hj
          cases hj
      obtain ⟨As', ow2, S', h1, h2⟩ := Sta.putsO is rl hl S1 (fun i hi => hp i (disL_mem hio i hi)) ok.1 (fun a ha => by
        rcases ok.2.2 a ha with w | ⟨i, hi, w⟩
        · exact S.was w
        · exact S.new i (ok.2.1 i hi) a w) fr
      exact z _ _ As' (S'.less fun i hi => by
        rcases List.mem_append.mp (subL_mem how i hi) with w | w
        · exact h2 i w
        · exact h1 i w)
/-- y = [e for x in it if t] -/
theorem ds_setLc {items : Env → R (List D)} {ss is : List Nat} {own : List (Str × Nat)} {t : D → Option (List D)} {c : Env → R Bool} {el : Env → R D} {scope : Scope} {iter : Expr} {ifs : List Expr} {i : Nat} {y : Str} {py spos : Pos} (ow2 : List Nat) (hc : X.calm = true) (hN : X.N.Nodup)
    (hy : X.N[i]? = some y) (hyl : X.env.scope.names.lookup y = some .local)
    (hsw : swapsWith (.ListComp elt [⟨tg, iter, ifs, 0⟩] scope pos) (some (.Name y py)) spos.line X.env = pure true)
    (hi : DI X W ow ss tg iter items) (ok : BlkOk X.N X.env.scope scope own) (his : own.map (·.2) = is)
    (hg : ∀ (s : Shared) (H : Hp) (C : Addr) (cl : List (Str × Addr)) (fp : List Addr), DG (X.blk s H scope (compEnvC scope cl C X.env) fp) is tg t)
    (ht : ∃ tt, (∀ (s : Shared) (H : Hp) (C : Addr) (cl : List (Str × Addr)) (fp : List Addr), PTs (X.blk s H scope (compEnvC scope cl C X.env) fp) ifs tt) ∧ ∀ σ ρ H As Q, On X ow2 σ ρ H As → GoodT X noW σ H (c ρ) Q → tt σ H Q)
    (he : ∀ (s : Shared) (H : Hp) (C : Addr) (cl : List (Str × Addr)) (fp : List Addr), DE (X.blk s H scope (compEnvC scope cl C X.env) fp) noW ow2 (.own []) elt el)
    (hio : disL [i] C.io = true) (how : subL ow' ([i] ++ ow) = true) (hox : subL C.owx ow = true)
    (h1 : subL ow2 ow = true := by rfl) (h2 : disL ow2 ss = true := by rfl) (h3 : disL ow2 is = true := by rfl) (hs : ∀ x, foldedSetIterable iter X.env x = pure x := by intro _; rfl) :
    DS X W C ow ow' (.Assign [.Name y py] (.ListComp elt [⟨tg, iter, ifs, 0⟩] scope pos) spos) (asgS [] [i] t1 (compE is t items c el)) := by
  obtain ⟨wi, pi, qi⟩ := hi
  obtain ⟨gt, pg, qg⟩ := blk_pg hg
  obtain ⟨tt, pt, qt⟩ := ht
  obtain ⟨te, pe, qe⟩ := blk_pe he
  subst his
  exact ⟨_, ps_setLc hc hN hy hyl hsw pi ok pg pt pe hs, fun H0 M0 pn σ ρ H As Dn hp S z => asg_run (ms := []) (is := [i]) (t := t1) (te := tLc wi gt tt te (own.map (·.2))) (gt := gName i) (fun σ ρ H As Q S z => comp_run qi qg qt qe h1 h2 h3 S z) (fun H o v d A σ Q r q => q [v] (RepL.one r) rfl) hio how hox hp S z⟩
/-! ### calls of the text's own defs -/
def spD (K : PySem.W.Frag) (mg : Str → Option Value) (n : Nat) (f : List D → R D) : Sp := fun vs H Q E => ∃ ds A, RepL K mg H false vs ds A ∧ vs.length = n ∧ (match f ds with
  | .ok d => ∀ v H' B, Same H H' → Rep K mg H' true v d B → B.Nodup → (∀ b ∈ B, H b = none) → Q v H'
  | .exc x => ∀ c dd H' B, Same H H' → RepX K mg H' c dd x B → E c dd H'
  | .stk => False)
/-- the def x stands, and does as f -/
def Cal (P : Program) (w : World) (K : PySem.W.Frag) (mg : Str → Option Value) (base : Heap) (CX : CXT) (x : Str) (k n : Nat) (f : List D → R D) : Prop :=
  ∃ (addr : Addr) (fd : FuncData) (ps : List Str), FnOk P w K mg base CX k addr fd ps (spD K mg n f) ∧ mg x = some (.ref addr) ∧ PySem.W.keepIn K (.ref addr) = true ∧ Binds K fd ps []
def callP (f : List D → R D) (g : Env → R (List D)) : Env → R D := fun ρ => (g ρ).bind fun ds => (f ds).nox
theorem sp_good {n : Nat} {es : List Expr} {g : Env → R (List D)} {f : List D → R D} {ta : TA} {E : XK} (q : ∀ σ ρ H As Q, On X ow σ ρ H As → GoodL X W σ ow k n H As (g ρ) Q → ta σ H Q)
    {σ : L2.St} {ρ : Env} {H : Hp} {As : Nat → List Addr} {Q : VK} (S : On X ow σ ρ H As) (z : Good X W σ ow (.own []) H As (callP f g ρ) Q) : tCall (spD X.K X.mg n f) [] E ta σ H Q := by
  refine q σ ρ H As _ S ?_
  unfold callP at z
  cases hd : g ρ with
  | stk =>
    rw [hd] at z
    exact z
  | exc x =>
    rw [hd] at z
    exact z
  | ok d =>
    rw [hd, R.bind_ok] at z
    intro vs H' A sm rp ok hl
    rw [List.append_nil]
    refine ⟨d, A, rp.weak, hl, ?_⟩
    cases hf : f d with
    | ok y =>
      rw [hf] at z
      exact fun v H2 B s2 r2 nd fr => z v H2 B (sm.trans s2) r2 ⟨nd, (fun _ w => by cases w), fun b hb => .inl (sm.free (fr b hb))⟩
    | exc x =>
      rw [hf] at z
      exact z.elim
    | stk =>
      rw [hf] at z
      exact z
theorem de_call {x : Str} {kk n : Nat} {f : List D → R D} {es : List Expr} {g : Env → R (List D)} {p : Pos} (h : Cal X.prog X.w X.K X.mg X.base CX0 x kk n f) (hr : Room kk X.A) (ha : DA X W ow k n (e :: es) g) (hg : Gl X x := by rfl)
    (hdb : (x == ("__debug__" : Str)) = false := by decide) (he : starEach (e :: es) X.env = (false, eval e X.env) :: starEach es X.env := by rfl) (hpl : (backTo pos (starEach es X.env)).any (·.1) = false := by rfl) : DE X W ow (.own []) (.Call (.Name x p) (e :: es) [] pos) (callP f g) := by
  obtain ⟨addr, fd, ps, F, hm, hk, hb⟩ := h
  obtain ⟨ta, pa, q⟩ := ha
  exact ⟨_, pe_call F hr hg hm hk hb .nil pass0 pa hdb he hpl, fun σ ρ H As Q S z => sp_good (es := es) q S z⟩
/-! ### a def's body -/
def startD (n : Nat) (ds : List D) : Env := ds.map some ++ List.replicate (n - ds.length) none
def outR (o : Out) : R D := match o with
  | .nx _ => .ok .none
  | .ret d _ => .ok d
  | .exc x _ => .exc x
  | _ => .stk
def runF (n : Nat) (den : Env → Out) : List D → R D := fun ds => outR (den (startD n ds))
theorem repL_as {K : PySem.W.Frag} {mg : Str → Option Value} {H : Hp} {o : Bool} : ∀ {vs : List V} {ds : List D} {A : List Addr}, RepL K mg H o vs ds A → ∃ As : Nat → List Addr, (∀ i d, ds[i]? = some d → ∃ v, vs[i]? = some v ∧ Rep K mg H o v d (As i)) ∧ ∀ i, ds.length ≤ i → As i = []
  | _, _, _, .nil => ⟨fun _ => [], (fun i d h => by simp at h), (fun _ _ => rfl)⟩
  | _, _, _, .cons (v := v) (d := d) (A := A) h r => by
    obtain ⟨As, h1, h2⟩ := repL_as r
    refine ⟨fun i => match i with
      | 0 => A
      | i + 1 => As i, fun i e he => ?_, fun i hi => ?_⟩
    · cases i with
      | zero =>
        simp at he
        subst he
        exact ⟨v, rfl, h⟩
      | succ i => exact h1 i e (by simpa using he)
    · cases i with
      | zero => simp at hi
      | succ i => exact h2 i (by simpa using hi)
theorem start_sta {K : PySem.W.Frag} {mg : Str → Option Value} {H : Hp} {N : List Str} {vs : List V} {ds : List D} {A : List Addr} (r : RepL K mg H false vs ds A) : ∃ As, Sta K mg H (fun _ => False) (fun _ => none) [] (start N vs) (startD N.length ds) H As := by
  obtain ⟨As, h1, h2⟩ := repL_as r
  have hl := r.len
  refine ⟨As, Fr.refl _ _, fun i d e => ?_, fun i h => ?_, (fun i hi => by cases hi), (fun i hi => by cases hi), (fun i hi => by cases hi), ?_, (fun j v z => by cases z)⟩
  · unfold startD at e
    by_cases hi : i < ds.length
    · rw [List.getElem?_append_left (by rw [List.length_map]; exact hi), List.getElem?_map] at e
      cases he : ds[i]? with
      | none =>
        rw [he] at e
        cases e
      | some d' =>
        rw [he] at e
        cases e
        obtain ⟨v, hv, rv⟩ := h1 i d he
        refine ⟨v, ?_, rv⟩
        unfold L2.start
        rw [List.getElem?_append_left (by rw [List.length_map, hl]; exact hi), List.getElem?_map, hv]
        rfl
    · rw [List.getElem?_append_right (by rw [List.length_map]; omega), List.getElem?_replicate] at e
      split at e <;> cases e
  · refine h2 i ?_
    by_cases hi : i < ds.length
    · exfalso
      refine h ds[i] ?_
      unfold startD
      rw [List.getElem?_append_left (by rw [List.length_map]; exact hi), List.getElem?_map, List.getElem?_eq_getElem hi]
      rfl
    · omega
  · unfold L2.start startD
    simp [hl]
theorem fn_pure {P : Program} {w : World} {K : PySem.W.Frag} {mg : Str → Option Value} {base : Heap} {x qual : Str} {st : Stmt} {fa : Addr} {fd : FuncData} {N ps : List Str} {kk : Nat} {den : Env → Out} (F : Fun K x qual st fa fd) (S : FnScope N ps (defScope st))
    (hb : ∀ (cdv : Value) (A : Around) (outer : List PySem.Env) (s : Shared) (H : Hp) (E : XK), Room kk (A.deeper (envOfC qual (defScope st) s.heap.objs.size fa cdv)) → ∃ ow', DSs (cxOf CX0 P w K mg base N qual (defScope st) fa cdv A outer s H E).nox noW ⟨[], [], []⟩ [] ow' (defBody st) den) :
    FnOk P w K mg base CX0 (kk + 1) fa fd ps (spD K mg ps.length fun ds => (runF N.length den ds).nox) := by
  refine F.ok S (fun vs H Q E h => ?_) (fun cdv A outer s H vs Q E hr h => ?_)
  · obtain ⟨ds, A, _, hl, _⟩ := h
    exact hl
  · obtain ⟨ds, A', r, hl, z⟩ := h
    obtain ⟨ow', ts, p, q⟩ := hb cdv A outer s H E hr
    refine ⟨ts, p, ?_⟩
    obtain ⟨As, S0⟩ := start_sta (N := N) r
    refine q H _ _ _ _ H As _ (fun _ _ => rfl) S0 ?_
    dsimp only at z
    unfold runF at z
    cases hd : den (startD N.length ds) with
    | nx r =>
      rw [hd] at z
      exact fun σ' H' As' S' => z .non H' [] (fun a o h => S'.fr a o h fun _ => id) .non List.nodup_nil fun b hb => by cases hb
    | ret d r =>
      rw [hd] at z
      exact fun v σ' H' As' A' S' rp nd fr => z v H' A' (fun a o h => S'.fr a o h fun _ => id) rp nd fun b hb => (fr b hb).1.resolve_right id
    | brk r =>
      rw [hd] at z
      exact z.elim
    | cnt r =>
      rw [hd] at z
      exact z.elim
    | exc x r =>
      rw [hd] at z
      exact z.elim
    | stk =>
      rw [hd] at z
      exact z
theorem fn_ok {P : Program} {w : World} {K : PySem.W.Frag} {mg : Str → Option Value} {base : Heap} {x qual : Str} {st : Stmt} {fa : Addr} {fd : FuncData} {N ps : List Str} {kk n m : Nat} {den : Env → Out} {f : List D → R D} (F : Fun K x qual st fa fd) (S : FnScope N ps (defScope st))
    (hf : ∀ ds, f ds = (runF n den ds).nox) (hn : N.length = n) (hm : ps.length = m)
    (hb : ∀ (cdv : Value) (A : Around) (outer : List PySem.Env) (s : Shared) (H : Hp) (E : XK), Room kk (A.deeper (envOfC qual (defScope st) s.heap.objs.size fa cdv)) → ∃ ow', DSs (cxOf CX0 P w K mg base N qual (defScope st) fa cdv A outer s H E).nox noW ⟨[], [], []⟩ [] ow' (defBody st) den) :
    FnOk P w K mg base CX0 (kk + 1) fa fd ps (spD K mg m f) := by
  subst hn hm
  have e : f = fun ds => (runF N.length den ds).nox := funext hf
  rw [e]
  exact fn_pure F S hb
/-- the law's own promise, from what its den comes to -/
theorem law_sp {K : PySem.W.Frag} {mg : Str → Option Value} {f : List D → R D} {H : Hp} {a : Addr} {ns : List Int} (h : Lf K H a (ns.map V.int)) (hf : f [.dict [(.none, .list (ns.map .int))]] = .ok (.bool true)) : spD K mg 1 f [.ref a] H (fun v _ => v = .bl true) fun _ _ _ => False := by
  have l : RepL K mg H false (ns.map V.int) (ns.map PyData.int) [] := by
    clear hf h
    induction ns with
    | nil => exact .nil
    | cons n ns ih => exact .cons (A := []) (B := []) (.int n) ih
  refine ⟨_, [], RepL.one (.lstF h l), rfl, ?_⟩
  rw [hf]
  intro v H' B sm r nd fr
  cases r
  rfl
end
end Dg

namespace Dg
open PySem PySem.Spec PyProof.Rows L2
section
variable {X : Cx} {W : WX} {C : Cfg} {ow ow' ow1 ow2 : List Nat} {k k1 k2 k3 k4 : Kd} {e a b c d o tg elt : Expr} {st : Stmt} {sts sts2 : List Stmt} {den d1 d2 d3 d4 : Env → R D} {f g : Env → Out} {pos p2 : Pos}
theorem CallR.or2 {v : Value} {r r' : List V → Hp → VK → Prop} (h : CallR X v r) (h' : CallR X v r') : CallR X v (fun x H Q => r x H Q ∨ r' x H Q) := by
  intro pins s σ H xs us Q I rx q
  rcases q with q | q
  · exact h pins s σ H xs us Q I rx q
  · exact h' pins s σ H xs us Q I rx q
/-! ### chains of comparisons -/
def ch3 (g g' : D → D → R D) (f1 f2 f3 : Env → R D) : Env → R D := fun ρ => (f1 ρ).bind fun x => (f2 ρ).bind fun y => (g x y).bind fun q => match q with
  | .bool true => (f3 ρ).bind fun z => g' y z
  | .bool false => .ok (.bool false)
  | _ => .stk
theorem ch_good {g1 g2 : D → D → R D} {ta tb tc : TE} {r r' : R2} (q1 : ∀ σ ρ H As Q, On X ow σ ρ H As → Good X W σ ow k1 H As (d1 ρ) Q → ta σ H Q) (q2 : ∀ σ ρ H As Q, On X ow σ ρ H As → Good X W σ ow k2 H As (d2 ρ) Q → tb σ H Q)
    (q3 : ∀ σ ρ H As Q, On X ow σ ρ H As → Good X W σ ow k3 H As (d3 ρ) Q → tc σ H Q) (hg1 : ∀ x y z, g1 x y ≠ .exc z) (hr1 : ∀ H x y dx dy A B Q, Rep X.K X.mg H false x dx A → Rep X.K X.mg H false y dy B → Fresh X H (g1 dx dy) Q → r x y H Q)
    (hg2 : ∀ x y z, g2 x y ≠ .exc z) (hr2 : ∀ H x y dx dy A B Q, Rep X.K X.mg H false x dx A → Rep X.K X.mg H false y dy B → Fresh X H (g2 dx dy) Q → r' x y H Q)
    {σ : L2.St} {ρ : Env} {H : Hp} {As : Nat → List Addr} {Q : VK} (S : On X ow σ ρ H As) (z : Good X W σ ow (.own []) H As (ch3 g1 g2 d1 d2 d3 ρ) Q) : tChain r r' ta tb tc σ H Q := by
  refine q1 σ ρ H As _ S ?_
  unfold ch3 at z
  cases e1 : d1 ρ with
  | stk =>
    rw [e1] at z
    exact z
  | exc x =>
    rw [e1] at z
    exact z
  | ok dx =>
    rw [e1, R.bind_ok] at z
    intro x H1 A s1 rx _
    refine q2 σ ρ H1 As _ (S.same s1) ?_
    cases e2 : d2 ρ with
    | stk =>
      rw [e2] at z
      exact z
    | exc x =>
      rw [e2] at z
      exact fun c dd H' B sm rp => z c dd H' B (s1.trans sm) rp
    | ok dy =>
      rw [e2, R.bind_ok] at z
      intro y H2 B s2 ry _
      refine hr1 H2 x y dx dy A B _ (rx.weak.same s2) ry.weak ?_
      cases e3 : g1 dx dy with
      | stk =>
        rw [e3] at z
        exact z
      | exc x => exact absurd e3 (hg1 _ _ _)
      | ok q =>
        rw [e3, R.bind_ok] at z
        intro v H3 A3 s3 r3 n3 f3
        cases q with
        | bool t =>
          cases r3
          cases t with
          | false => exact ⟨false, rfl, iteF (z (.bl false) H3 [] (s1.trans (s2.trans s3)) (.bl false) nil_own)⟩
          | true =>
            refine ⟨true, rfl, iteT ?_⟩
            refine q3 σ ρ H3 As _ (((S.same s1).same s2).same s3) ?_
            dsimp only at z
            cases e4 : d3 ρ with
            | stk =>
              rw [e4] at z
              exact z
            | exc x =>
              rw [e4] at z
              exact fun c dd H' B sm rp => z c dd H' B (s1.trans (s2.trans (s3.trans sm))) rp
            | ok dz =>
              rw [e4, R.bind_ok] at z
              intro w H4 A4 s4 rw' _
              exact hr2 H4 y w dy dz B A4 Q ((ry.weak.same s3).same s4) rw'.weak (fresh_good (s1.trans (s2.trans (s3.trans s4))) z (hg2 dy dz))
        | _ => exact z.elim
theorem de_chain {op op' : CmpOp} {g1 g2 : D → D → R D} (h : OpD X (compareOp op) g1) (h' : OpD X (compareOp op') g2) (h1 : DE X W ow k1 a d1) (h2 : DE X W ow k2 b d2) (h3 : DE X W ow k3 c d3)
    (hm : lastMarks [op, op'] [b, c] = false := by with_unfolding_all rfl) : DE X W ow (.own []) (.Compare a [op, op'] [b, c] pos) (ch3 g1 g2 d1 d2 d3) := by
  obtain ⟨r, ho, hg, hr⟩ := h
  obtain ⟨r', ho', hg', hr'⟩ := h'
  obtain ⟨ta, p1, q1⟩ := h1
  obtain ⟨tb, p2, q2⟩ := h2
  obtain ⟨tc, p3, q3⟩ := h3
  exact ⟨_, pe_chain ho ho' p1 p2 p3 hm, fun σ ρ H As Q S z => ch_good q1 q2 q3 hg hr hg' hr' S z⟩
theorem dt_chain {op op' : CmpOp} {g1 g2 : D → D → R D} (h : OpD X (compareOp op) g1) (h' : OpD X (compareOp op') g2) (h1 : DE X W ow k1 a d1) (h2 : DE X W ow k2 b d2) (h3 : DE X W ow k3 c d3)
    (hm : lastMarks [op, op'] [b, c] = false := by with_unfolding_all rfl) : DT X W ow (.Compare a [op, op'] [b, c] pos) (tb (ch3 g1 g2 d1 d2 d3)) := by
  obtain ⟨r, ho, hg, hr⟩ := h
  obtain ⟨r', ho', hg', hr'⟩ := h'
  obtain ⟨ta, p1, q1⟩ := h1
  obtain ⟨tb', p2, q2⟩ := h2
  obtain ⟨tc, p3, q3⟩ := h3
  refine ⟨_, pt_chain ho ho' p1 p2 p3 hm, fun σ ρ H As Q S z => ch_good (g1 := g1) (g2 := g2) q1 q2 q3 hg hr hg' hr' S ?_⟩
  unfold tb at z
  cases hd : ch3 g1 g2 d1 d2 d3 ρ with
  | stk =>
    rw [hd] at z
    exact z
  | exc x =>
    rw [hd] at z
    exact z
  | ok d =>
    rw [hd, R.bind_ok] at z
    intro v H' A sm r _
    cases d with
    | bool b =>
      cases r
      exact ⟨b, rfl, z H' sm⟩
    | _ => exact z.elim
/-! ### products -/
def strMul (s : Str) (j : Int) : Str := Txt.mul s j
def dMul2 (x y : D) : R D := match x, y with
  | .int i, .int j => if (smallI i || smallI j) = true then .ok (.int (i * j)) else .stk
  | .str s, .int j => if 0 < j ∧ j < 1000 ∧ 0 < s.length ∧ s.length ≤ 1000 then .ok (.str (Txt.mul s j)) else .stk
  | _, _ => .stk
theorem small_mul {i j : Int} (h : (smallI i || smallI j) = true) : CMul i j := by
  rw [Bool.or_eq_true] at h
  rcases h with h | h
  · exact .inl (of_decide_eq_true h)
  · exact .inr (of_decide_eq_true h)
theorem mulOk {x : Str} {n : Int} (h0 : 0 < n) (h1 : n < 1000) (h2 : 0 < x.length) (h3 : x.length ≤ 1000) : MulOk x n := by
  have e3 : x.length * n.toNat ≤ 1000000 := Nat.mul_le_mul h3 (show n.toNat ≤ 1000 by omega)
  refine ⟨?_, fun _ _ => ?_, fun _ _ => ?_⟩
  · rw [decide_eq_false (by omega), decide_eq_false (by omega)]
    rfl
  · intro z
    have h4 : (1000 : Int) ≤ (2 ^ 63 - 1) / n := by
      rw [Int.le_ediv_iff_mul_le h0]
      omega
    omega
  · have e : sizeLine = 16777216 := sizeLine_eq
    show decide (x.length * n.toNat > sizeLine) = false
    exact decide_eq_false (by omega)
theorem op_mul_str : OpR X (binaryOp .Mult) (fun x y H Q => ∃ s j, x = .str s ∧ y = .int j ∧ MulOk s j ∧ Q (.str (Txt.mul s j)) H) := by
  intro pins s σ H x y v u Q I rx ry h
  obtain ⟨z, j, rfl, rfl, hz, q⟩ := h
  obtain ⟨t, rfl⟩ := rx
  obtain ⟨t', rfl⟩ := ry
  exact SB.mul hz fun t' k => ⟨.str _, H, I.tok k, ⟨_, rfl⟩, q⟩
theorem op_dMul2 : OpD X (binaryOp .Mult) dMul2 := by
  refine ⟨_, op_mul.or op_mul_str, fun x y z h => ?_, fun H x y dx dy A B Q r1 r2 h => ?_⟩
  · unfold dMul2 at h
    split at h <;> first | (cases h; done) | (split at h <;> cases h)
  · unfold dMul2 at h
    split at h
    · cases r1
      cases r2
      split at h
      · rename_i hz
        exact .inl ⟨_, _, rfl, rfl, small_mul hz, fresh_imm (fun _ _ _ => .int _) h⟩
      · exact h.elim
    · cases r1
      cases r2
      split at h
      · rename_i hz
        exact .inr ⟨_, _, rfl, rfl, mulOk hz.1 hz.2.1 hz.2.2.1 hz.2.2.2, fresh_imm (fun _ _ _ => .str _) h⟩
      · exact h.elim
    · exact h.elim
/-! ### built-in functions -/
def dLen (ds : List D) : R D := match ds with
  | [.list xs] => .ok (.int xs.length)
  | [.tuple xs] => .ok (.int xs.length)
  | [.str s] => if s.length ≤ sizeLine then .ok (.int s.length) else .stk
  | [.dict ((.none, .list xs) :: _)] => .ok (.int xs.length)
  | [.dict ((.none, _) :: _)] => .stk
  | _ => .stk
theorem call_dLen : CallD X (.builtin "len") dLen := by
  refine ⟨_, CallR.or2 call_len_seq call_len_str, fun xs z h => ?_, fun H xs ds A Q r h => ?_⟩
  · unfold dLen at h
    split at h <;> first | (cases h; done) | (split at h <;> cases h)
  · unfold dLen at h
    split at h
    · cases r with
      | cons r1 r2 =>
        cases r2
        cases r1 with
        | lst h1 l1 => exact .inl ⟨_, _, rfl, .inl (.inl (.inl h1)), (by rw [l1.len]; exact fresh_imm (fun _ _ _ => .int _) h)⟩
    · cases r with
      | cons r1 r2 =>
        cases r2
        cases r1 with
        | tup h1 l1 => exact .inl ⟨_, _, rfl, .inr h1, (by rw [l1.len]; exact fresh_imm (fun _ _ _ => .int _) h)⟩
    · cases r with
      | cons r1 r2 =>
        cases r2
        cases r1
        split at h
        · rename_i hz
          exact .inr ⟨_, rfl, hz, fresh_imm (fun _ _ _ => .int _) h⟩
        · exact h.elim
    · cases r with
      | cons r1 r2 =>
        cases r2
        generalize ed : PyData.dict ((PyData.none, PyData.list ‹List D›) :: ‹List (D × D)›) = q at r1
        cases r1 with
        | lstF h1 l1 =>
          injection ed with e1
          injection e1 with e2 e3
          injection e2 with e4 e5
          injection e5 with e6
          subst e6
          exact .inl ⟨_, _, rfl, .inl h1.seq, (by rw [l1.len]; exact fresh_imm (fun _ _ _ => .int _) h)⟩
        | dct h1 l1 =>
          injection ed with e1
          subst e1
          exact (repP_tag l1).elim
        | dctF h1 l1 =>
          injection ed with e1
          subst e1
          exact (repP_tag l1).elim
        | ins h1 h2 l1 =>
          injection ed with e1
          injection e1 with e2 e3
          injection e2 with e4 e5
          cases e5
        | _ => cases ed
    · exact h.elim
    · exact h.elim
def dMax2 (ds : List D) : R D := match ds with
  | [.int i, .int j] => .ok (.int (if j > i then j else i))
  | _ => .stk
def dMin2 (ds : List D) : R D := match ds with
  | [.int i, .int j] => .ok (.int (if j < i then j else i))
  | _ => .stk
theorem call_dMax2 (hc : X.calm = true) : CallD X (.builtin "max") dMax2 := by
  refine ⟨_, call_max2 hc, fun xs z h => ?_, fun H xs ds A Q r h => ?_⟩
  · unfold dMax2 at h
    split at h <;> cases h
  · unfold dMax2 at h
    split at h
    · cases r with
      | cons r1 r2 =>
        cases r2 with
        | cons r3 r4 =>
          cases r4
          cases r1
          cases r3
          exact ⟨_, _, rfl, fresh_imm (fun _ _ _ => .int _) h⟩
    · exact h.elim
theorem call_dMin2 (hc : X.calm = true) : CallD X (.builtin "min") dMin2 := by
  refine ⟨_, call_min2 hc, fun xs z h => ?_, fun H xs ds A Q r h => ?_⟩
  · unfold dMin2 at h
    split at h <;> cases h
  · unfold dMin2 at h
    split at h
    · cases r with
      | cons r1 r2 =>
        cases r2 with
        | cons r3 r4 =>
          cases r4
          cases r1
          cases r3
          exact ⟨_, _, rfl, fresh_imm (fun _ _ _ => .int _) h⟩
    · exact h.elim
def dListOf (ds : List D) : R D := match ds with
  | [.list xs] => if immL xs = true then .ok (.list xs) else .stk
  | [.tuple xs] => if immL xs = true then .ok (.list xs) else .stk
  | _ => .stk
theorem fresh_list {H : Hp} {Q : VK} {vs : List V} {xs : List D} (l : RepL X.K X.mg H true vs xs []) (h : Fresh X H (.ok (.list xs)) Q) : ∀ p, H p = none → Q (.ref p) (upd H p (.lst vs)) := fun p hp =>
  h _ _ [p] (same_upd hp) (.lst upd_same (l.same (same_upd hp))) (List.nodup_cons.mpr ⟨(by intro z; cases z), List.nodup_nil⟩) fun a ha => by
    rw [List.mem_singleton.mp ha]
    exact hp
theorem call_dListOf : CallD X (.type "list") dListOf := by
  refine ⟨_, call_list_of, fun xs z h => ?_, fun H xs ds A Q r h => ?_⟩
  · unfold dListOf at h
    split at h <;> first | (cases h; done) | (split at h <;> cases h)
  · unfold dListOf at h
    split at h
    · split at h
      · rename_i hz
        cases r with
        | cons r1 r2 =>
          cases r2
          cases r1 with
          | lst h1 l1 => exact ⟨_, _, rfl, .inl (.inl (.inl h1)), fresh_list (l1.imm hz).2 h⟩
      · exact h.elim
    · split at h
      · rename_i hz
        cases r with
        | cons r1 r2 =>
          cases r2
          cases r1 with
          | tup h1 l1 => exact ⟨_, _, rfl, .inr h1, fresh_list (l1.imm hz).2 h⟩
      · exact h.elim
    · exact h.elim
def dTupOf (ds : List D) : R D := match ds with
  | [.list xs] => if immL xs = true then .ok (.tuple xs) else .stk
  | [.tuple xs] => if immL xs = true then .ok (.tuple xs) else .stk
  | _ => .stk
theorem call_dTupOf : CallD X (.type "tuple") dTupOf := by
  refine ⟨_, call_tuple_of, fun xs z h => ?_, fun H xs ds A Q r h => ?_⟩
  · unfold dTupOf at h
    split at h <;> first | (cases h; done) | (split at h <;> cases h)
  · unfold dTupOf at h
    split at h
    · split at h
      · rename_i hz
        cases r with
        | cons r1 r2 =>
          cases r2
          cases r1 with
          | lst h1 l1 => exact ⟨_, _, rfl, .inl ⟨.inl (.inl h1), fun p hp => h _ _ [] (same_upd hp) (.tup (.inl (.inl upd_same)) ((l1.imm hz).2.same (same_upd hp))) List.nodup_nil fun a ha => by cases ha⟩⟩
      · exact h.elim
    · split at h
      · rename_i hz
        cases r with
        | cons r1 r2 =>
          cases r2
          cases r1 with
          | tup h1 l1 => exact ⟨_, _, rfl, .inr ⟨h1, h _ H [] (Same.refl H) (.tup h1 (l1.imm hz).2) List.nodup_nil fun a ha => by cases ha⟩⟩
      · exact h.elim
    · exact h.elim
def dStrOf (ds : List D) : R D := match ds with
  | [.int i] => if i.natAbs < 2 ^ 1900 then .ok (.str (toString i)) else .stk
  | _ => .stk
theorem log1920 {n : Nat} (h : n < 2 ^ 1900) : n.log2 < 1920 := by
  by_cases h0 : n = 0
  · subst h0
    decide
  · exact Nat.lt_of_lt_of_le ((Nat.log2_lt h0).mpr h) (by decide)
theorem call_dStrOf : CallD X (.type "str") dStrOf := by
  refine ⟨_, call_str_int, fun xs z h => ?_, fun H xs ds A Q r h => ?_⟩
  · unfold dStrOf at h
    split at h <;> first | (cases h; done) | (split at h <;> cases h)
  · unfold dStrOf at h
    split at h
    · split at h
      · rename_i hz
        cases r with
        | cons r1 r2 =>
          cases r2
          cases r1
          exact ⟨_, rfl, log1920 hz, fresh_imm (fun _ _ _ => .str _) h⟩
      · exact h.elim
    · exact h.elim
def dIntOf (ds : List D) : R D := match ds with
  | [.str s] => if s.length ≤ 640 then (match PySem.intText? s with
    | some n => .ok (.int n)
    | none => .stk) else .stk
  | _ => .stk
theorem call_dIntOf : CallD X (.type "int") dIntOf := by
  refine ⟨_, call_int_str, fun xs z h => ?_, fun H xs ds A Q r h => ?_⟩
  · unfold dIntOf at h
    split at h <;> first | (cases h; done) | (split at h <;> first | (cases h; done) | (split at h <;> cases h))
  · unfold dIntOf at h
    split at h
    · split at h
      · rename_i hz
        cases r with
        | cons r1 r2 =>
          cases r2
          cases r1
          split at h
          · rename_i hn
            exact ⟨_, _, rfl, hn, hz, fresh_imm (fun _ _ _ => .int _) h⟩
          · exact h.elim
      · exact h.elim
    · exact h.elim
/-! ### isinstance, of a built-in class -/
def tyName : D → Option String
  | .none => some "NoneType"
  | .bool _ => some "bool"
  | .int _ => some "int"
  | .str _ => some "str"
  | .list _ => some "list"
  | .tuple _ => some "tuple"
  | .dict ((.none, _) :: _) => none
  | .dict _ => some "dict"
def dIsi (T : String) (d : D) : R D := match tyName d with
  | some n => match kitB n T with
    | some b => .ok (.bool b)
    | none => .stk
  | none => .stk
theorem tyX_of {H : Hp} {v : V} {d : D} {A : List Addr} {n : String} (r : Rep X.K X.mg H false v d A) (h : tyName d = some n) : TyX X.K H v (.type n) := by
  cases r with
  | non =>
    cases h
    exact .base .non
  | bl b =>
    cases h
    exact .base (.bl b)
  | int b =>
    cases h
    exact .base (.int b)
  | str b =>
    cases h
    exact .base (.str b)
  | lst h1 l1 =>
    cases h
    exact .base (.lst h1)
  | lstF h1 l1 => cases h
  | tup h1 l1 =>
    cases h
    rcases h1 with (h1 | ⟨u, h1⟩) | ⟨u, its, m, h1, h2, _⟩
    · exact .base (.tup h1)
    · exact .fTuple h1
    · exact .kTuple h1 h2
  | dct h1 l1 =>
    cases l1 with
    | nil =>
      cases h
      exact .base (.dK h1)
    | cons r1 r2 =>
      rename_i k _ _ _ _ _ _
      cases k <;> (cases h; exact .base (.dK h1))
  | dctF h1 l1 =>
    cases l1 with
    | nil =>
      cases h
      exact .fDict h1
    | cons r1 r2 =>
      rename_i k _ _ _ _ _ _
      cases k <;> (cases h; exact .fDict h1)
  | ins h1 h2 l1 => cases h
theorem de_isi {T : Str} {n : String} {p p3 : Pos} (h1 : DE X W ow k1 a d1) (hm : X.mg "isinstance" = none) (hmT : X.mg T = none) (hvT : bootBuiltins T = some (.type n)) (hg : Gl X "isinstance" := by rfl) (hgT : Gl X T := by rfl) (hnT : T ≠ "__name__" := by decide) (hdT : (T == ("__debug__" : Str)) = false := by decide)
    (hs : starEach [a, .Name T p3] X.env = (false, eval a X.env) :: starEach [.Name T p3] X.env := by rfl) (hs2 : starEach [.Name T p3] X.env = (false, eval (.Name T p3) X.env) :: starEach [] X.env := by rfl) (hpl : (backTo pos (starEach [.Name T p3] X.env)).any (·.1) = false := by rfl) : DE X W ow (.own []) (.Call (.Name "isinstance" p) [a, .Name T p3] [] pos) (b1 (dIsi n) d1) := by
  obtain ⟨ta, p1, q1⟩ := h1
  refine ⟨_, pe_callB call_isi hg hm (by decide +kernel) (pa_cons p1 (pa_cons (pe_bltn (v := .ty n) hgT hmT hvT rfl hnT hdT) pa_nil hs2) hs) (by decide) (by decide) hs hpl, fun σ ρ H As Q S q => q1 σ ρ H As _ S ?_⟩
  unfold b1 at q
  cases e1 : d1 ρ with
  | stk =>
    rw [e1] at q
    exact q
  | exc x =>
    rw [e1] at q
    exact q
  | ok dx =>
    rw [e1, R.bind_ok] at q
    intro x H1 A s1 rx _
    unfold dIsi at q
    split at q
    · rename_i nm hn
      split at q
      · rename_i b hb
        exact ⟨x, .ty n, _, _, b, rfl, .ty n, tyX_of rx.weak hn, kit_ty hb, q (.bl b) H1 [] s1 (.bl b) nil_own⟩
      · exact q.elim
    · exact q.elim
/-! ### methods of texts -/
def dIndex (x y : D) : R D := match x, y with
  | .str s, .str t => (match Txt.index0 s t with
    | some k => .ok (.int (k : Nat))
    | none => .stk)
  | _, _ => .stk
def mth (g : D → D → R D) (f1 f2 : Env → R D) : Env → R D := fun ρ => (f1 ρ).bind fun x => match x with
  | .str _ => (f2 ρ).bind fun y => g x y
  | _ => .stk
def MthD (X : Cx) (id : String) (g : D → D → R D) : Prop :=
  ∃ r, MtR X id r ∧ (∀ x y z, g x y ≠ .exc z) ∧ ∀ H s y dy B Q, Rep X.K X.mg H false y dy B → Fresh X H (g (.str s) dy) Q → r (.str s) [y] H Q
theorem de_m1 {id : String} {name : Str} {apos : Pos} {g : D → D → R D} (slot : Slot "str" name id) (ty : typeOf (.builtin id) = pure (.type "method_descriptor")) (hm : MthD X id g) (h1 : DE X W ow k1 o d1) (h2 : DE X W ow k2 e d2)
    (hs : starEach [e] X.env = [(false, eval e X.env)] := by rfl) (hbase : attributeBase o name X.env (eval o X.env) = eval o X.env := by rfl) (hline : (apos.endLine == pos.line) = true := by rfl) :
    DE X W ow (.own []) (.Call (.Attribute o name apos) [e] [] pos) (mth g d1 d2) := by
  obtain ⟨r, hr, hx, hf⟩ := hm
  obtain ⟨ta, p1, q1⟩ := h1
  obtain ⟨tb, p2, q2⟩ := h2
  refine ⟨_, pe_m1 slot ty hr p1 p2 hs hbase hline, fun σ ρ H As Q S q => q1 σ ρ H As _ S ?_⟩
  unfold mth at q
  cases e1 : d1 ρ with
  | stk =>
    rw [e1] at q
    exact q
  | exc x =>
    rw [e1] at q
    exact q
  | ok dx =>
    rw [e1, R.bind_ok] at q
    intro x H1 A s1 rx _
    cases dx with
    | str s =>
      have rx' := rx.weak
      cases rx'
      refine ⟨⟨_, rfl⟩, q2 σ ρ H1 As _ (S.same s1) ?_⟩
      dsimp only at q
      cases e2 : d2 ρ with
      | stk =>
        rw [e2] at q
        exact q
      | exc x =>
        rw [e2] at q
        exact fun c dd H' B sm rp => q c dd H' B (s1.trans sm) rp
      | ok dy =>
        rw [e2, R.bind_ok] at q
        intro y H2 B s2 ry _
        exact hf H2 _ y dy B Q ry.weak (fresh_good (s1.trans s2) q (hx _ dy))
    | _ => exact q.elim
def strsOf : List D → Option (List Str)
  | [] => some []
  | .str s :: r => (strsOf r).map (s :: ·)
  | _ :: _ => none
theorem strs_rep {H : Hp} {o : Bool} : ∀ {vs : List V} {ds : List D} {A : List Addr} {ss : List Str}, RepL X.K X.mg H o vs ds A → strsOf ds = some ss → vs = ss.map V.str
  | _, _, _, _, .nil, h => by
    cases h
    rfl
  | _, _, _, ss, .cons (d := d) r l, h => by
    cases d with
    | str s =>
      unfold strsOf at h
      cases e : strsOf ‹List D› with
      | none =>
        rw [e] at h
        cases h
      | some ts =>
        rw [e] at h
        cases h
        cases r
        rw [strs_rep l e]
        rfl
    | _ => cases h
theorem strs_imm : ∀ (ss : List Str) (K : PySem.W.Frag) (mg : Str → Option Value) (H : Hp), RepL K mg H true (ss.map V.str) (ss.map PyData.str) []
  | [], _, _, _ => .nil
  | s :: ss, K, mg, H => .cons (A := []) (B := []) (.str s) (strs_imm ss K mg H)
def dJoin (x y : D) : R D := match x, y with
  | .str s, .list ds => match strsOf ds with
    | some ss => if (ss.map (·.length)).sum + ss.length * s.length ≤ 16777216 then .ok (.str (Txt.join s ss)) else .stk
    | none => .stk
  | _, _ => .stk
theorem mt_dJoin : MthD X "str.join" dJoin := by
  refine ⟨_, mt_join, fun x y z h => ?_, fun H s y dy B Q r h => ?_⟩
  · unfold dJoin at h
    split at h <;> first | (cases h; done) | (split at h <;> first | (cases h; done) | (split at h <;> cases h))
  · unfold dJoin at h
    split at h
    · rename_i s' ds e1
      cases e1
      split at h
      · rename_i ss hss
        split at h
        · rename_i hz
          cases r with
          | lst h1 l1 =>
            have e := strs_rep l1 hss
            subst e
            exact ⟨_, _, ss, rfl, rfl, .inl (.inl (.inl h1)), hz, fresh_imm (fun _ _ _ => .str _) h⟩
        · exact h.elim
      · exact h.elim
    · exact h.elim
def dStarts (x y : D) : R D := match x, y with
  | .str s, .str t => .ok (.bool (Txt.startswith s t))
  | _, _ => .stk
theorem mt_dStarts : MthD X "str.startswith" dStarts := by
  refine ⟨_, mt_startswith, fun x y z h => ?_, fun H s y dy B Q r h => ?_⟩
  · unfold dStarts at h
    split at h <;> cases h
  · unfold dStarts at h
    split at h
    · rename_i e1
      cases e1
      cases r
      exact ⟨_, _, rfl, rfl, fresh_imm (fun _ _ _ => .bl _) h⟩
    · exact h.elim
def dSplit (x y : D) : R D := match x, y with
  | .str s, .str t => if (t.length == 0) = false ∧ s.length + 2 ≤ sizeLine then .ok (.list ((Txt.split s t).map .str)) else .stk
  | _, _ => .stk
theorem mt_dSplit : MthD X "str.split" dSplit := by
  refine ⟨_, mt_split, fun x y z h => ?_, fun H s y dy B Q r h => ?_⟩
  · unfold dSplit at h
    split at h <;> first | (cases h; done) | (split at h <;> cases h)
  · unfold dSplit at h
    split at h
    · rename_i e1
      cases e1
      cases r
      split at h
      · rename_i hz
        exact ⟨_, _, rfl, rfl, hz.1, hz.2, fresh_list (strs_imm _ _ _ _) h⟩
      · exact h.elim
    · exact h.elim
def dPart (x y : D) : R D := match x, y with
  | .str s, .str t => if (t.length == 0) = false ∧ s.length ≤ sizeLine then .ok (.tuple [.str (Txt.partition s t).1, .str (Txt.partition s t).2.1, .str (Txt.partition s t).2.2]) else .stk
  | _, _ => .stk
theorem mt_dPart : MthD X "str.partition" dPart := by
  refine ⟨_, mt_partition, fun x y z h => ?_, fun H s y dy B Q r h => ?_⟩
  · unfold dPart at h
    split at h <;> first | (cases h; done) | (split at h <;> cases h)
  · unfold dPart at h
    split at h
    · rename_i e1
      cases e1
      cases r
      split at h
      · rename_i hz
        exact ⟨_, _, rfl, rfl, hz.1, hz.2, fun p hp => h _ _ [] (same_upd hp) (.tup (.inl (.inl upd_same)) (strs_imm [_, _, _] _ _ _)) List.nodup_nil fun a ha => by cases ha⟩
      · exact h.elim
    · exact h.elim
theorem de_index {apos cpos : Pos} (hc : X.calm = true) (tk : Takes X W) (h1 : DE X W ow k1 o d1) (h2 : DE X W ow k2 e d2)
    (hbase : attributeBase o "index" X.env (eval o X.env) = eval o X.env := by rfl)
    (hfew : ((backTo cpos (starEach (e :: []) X.env)).all (fun x => !x.1) && (backToKw cpos (keywordEach [] X.env)).all (fun x => x.1.isSome)
      && decide ((e :: []).length + ([] : List Keyword).length + (if ([] : List Keyword).isEmpty then 0 else 1) < 30)) = true := by rfl)
    (hline : (apos.endLine == cpos.line) = true := by rfl) (hs : starEach (e :: []) X.env = (false, eval e X.env) :: starEach [] X.env := by rfl) (hplain : (backTo cpos (starEach [] X.env)).any (·.1) = false := by rfl) :
    DE X W ow (.own []) (.Call (.Attribute o "index" apos) [e] [] cpos) (mth dIndex d1 d2) := by
  obtain ⟨ta, p1, q1⟩ := h1
  obtain ⟨tb, p2, q2⟩ := h2
  refine ⟨_, pe_bmS PySem.F.plainAttrs_str PySem.F.slot_str_index PySem.F.type_str_index (mt_indexX hc tk) p1 (pa_cons p2 pa_nil hs) hbase hfew hline hs hplain, fun σ ρ H As Q S q => q1 σ ρ H As _ S ?_⟩
  unfold mth at q
  cases e1 : d1 ρ with
  | stk =>
    rw [e1] at q
    exact q
  | exc x =>
    rw [e1] at q
    exact q
  | ok dx =>
    rw [e1, R.bind_ok] at q
    intro x H1 A s1 rx _
    cases dx with
    | str s =>
      have rx' := rx.weak
      cases rx'
      refine ⟨rfl, q2 σ ρ H1 As _ (S.same s1) ?_⟩
      dsimp only at q
      cases e2 : d2 ρ with
      | stk =>
        rw [e2] at q
        exact q
      | exc x =>
        rw [e2] at q
        exact fun c dd H' B sm rp => q c dd H' B (s1.trans sm) rp
      | ok dy =>
        rw [e2, R.bind_ok] at q
        intro y H2 B s2 ry _
        cases dy with
        | str t =>
          have ry' := ry.weak
          cases ry'
          unfold dIndex at q
          dsimp only at q
          cases ei : Txt.index0 s t with
          | none =>
            rw [ei] at q
            exact q.elim
          | some k =>
            rw [ei] at q
            exact ⟨s, t, rfl, rfl, (fun k' hk => by
              rw [ei] at hk
              cases hk
              exact q (.int (k : Nat)) H2 [] (s1.trans s2) (.int _) nil_own), fun hk => by
              rw [ei] at hk
              cases hk⟩
        | _ => exact q.elim
    | _ => exact q.elim
end
end Dg

namespace Dg
open PySem PySem.Spec PyProof.Rows L2
section
variable {K : PySem.W.Frag} {mg : Str → Option Value} {H0 : Hp} {M0 : Addr → Prop} {pn : Nat → Option V} {ow ow' : List Nat} {σ : L2.St} {ρ : Env} {H H' : Hp} {As : Nat → List Addr}
theorem Sta.killAll : ∀ (is : List Nat) {ρ : Env} {As : Nat → List Addr}, Sta K mg H0 M0 pn ow σ ρ H As → Sta K mg H0 M0 pn ow σ (kill is ρ) H (fun j => if j ∈ is then [] else As j)
  | [], ρ, As, S => by
    have e : (fun j => if j ∈ ([] : List Nat) then [] else As j) = As := by
      funext j
      rw [if_neg]
      intro z
      cases z
    rw [e]
    exact S
  | i :: is, ρ, As, S => by
    have T := Sta.killAll is (S.kill1 i)
    have e : (fun j => if j ∈ is then [] else (fun j => if j = i then [] else As j) j) = fun j => if j ∈ i :: is then [] else As j := by
      funext j
      by_cases h1 : j ∈ is
      · rw [if_pos h1, if_pos (List.mem_cons_of_mem _ h1)]
      · rw [if_neg h1]
        by_cases h2 : j = i
        · show (if j = i then [] else As j) = _
          rw [if_pos h2, if_pos (by rw [h2]; exact List.mem_cons_self)]
        · show (if j = i then [] else As j) = _
          rw [if_neg h2, if_neg]
          intro z
          rcases List.mem_cons.mp z with z | z
          · exact h2 z
          · exact h1 z
    rw [e] at T
    exact T
/-- a slot's own tree is changed where it stands -/
theorem Sta.mut (S : Sta K mg H0 M0 pn ow σ ρ H As) {i : Nat} {v : V} {d : D} {A : List Addr} (hi : i ∈ ow) (hv : σ[i]? = some (some v)) (f : Fr (fun a => a ∈ As i) H H') (r : Rep K mg H' true v d A) (nd : A.Nodup)
    (hA : ∀ a ∈ A, a ∈ As i ∨ ((H0 a = none ∨ M0 a) ∧ ∀ j, a ∉ As j)) : Sta K mg H0 M0 pn ow σ (ρ.set i (some d)) H' (fun j => if j = i then A else As j) := by
  have hl : i < ρ.length := by
    rw [← S.len]
    exact (List.getElem?_eq_some_iff.mp hv).1
  refine ⟨fun a o h hm => ?_, fun j e he => ?_, fun j h => ?_, fun j hj => ?_, fun j hj a ha => ?_, fun j hj l hl a ha hb => ?_, by rw [List.length_set]; exact S.len, S.pin⟩
  · refine f a o (S.fr a o h hm) fun hi2 ha => ?_
    rcases S.new i hi a ha with z | z
    · rw [h] at z
      cases z
    · exact hm hi2 z
  · by_cases hji : j = i
    · subst hji
      rw [List.getElem?_set_self hl] at he
      cases he
      refine ⟨v, hv, ?_⟩
      rw [if_pos rfl, contains_mem.mpr hi]
      exact r
    · rw [List.getElem?_set_ne (fun z => hji z.symm)] at he
      obtain ⟨w, e1, e2⟩ := S.rep j e he
      refine ⟨w, e1, ?_⟩
      rw [if_neg hji]
      exact e2.fr f fun a ha z => S.sep i hi j hji a z ha
  · by_cases hji : j = i
    · subst hji
      exact absurd (List.getElem?_set_self hl) (h d)
    · try dsimp only
      rw [if_neg hji]
      refine S.dead j fun d e => h d ?_
      rw [List.getElem?_set_ne (fun z => hji z.symm)]
      exact e
  · try dsimp only
    by_cases hji : j = i
    · rw [if_pos hji]
      exact nd
    · rw [if_neg hji]
      exact S.nd j hj
  · try dsimp only at ha
    by_cases hji : j = i
    · rw [if_pos hji] at ha
      rcases hA a ha with z | z
      · exact S.new i hi a z
      · exact z.1
    · rw [if_neg hji] at ha
      exact S.new j hj a ha
  · try dsimp only at ha hb
    by_cases hji : j = i
    · rw [if_pos hji] at ha
      rw [if_neg (fun z => hl (z.trans hji.symm))] at hb
      rcases hA a ha with z | z
      · exact S.sep i hi l (fun e => hl (e.trans hji.symm)) a z hb
      · exact z.2 l hb
    · rw [if_neg hji] at ha
      by_cases hli : l = i
      · rw [if_pos hli] at hb
        rcases hA a hb with z | z
        · exact S.sep j hj i (fun e => hji e.symm) a ha z
        · exact z.2 j ha
      · rw [if_neg hli] at hb
        exact S.sep j hj l hl a ha hb
end
section
variable {X : Cx} {W : WX} {C : Cfg} {ow ow' ow1 ow2 : List Nat} {k k1 k2 k3 k4 : Kd} {e a b c d o tg elt : Expr} {st : Stmt} {sts sts2 : List Stmt} {den d1 d2 d3 d4 : Env → R D} {f g : Env → Out} {pos p2 : Pos}
/-- a list's method that changes it: what is handed over is one's own -/
def MutO (X : Cx) (id : String) (g : List D → List D → Option D) : Prop :=
  ∃ r, MtR X id r ∧ ∀ H a vs xs A ws ds B Q, H a = some (.lst vs) → RepL X.K X.mg H true vs xs A → RepL X.K X.mg H true ws ds B → (a :: (A ++ B)).Nodup → ∀ d, g xs ds = some d → (∀ vs' A2, Rep X.K X.mg (upd H a (.lst vs')) true (.ref a) d A2 → A2.Nodup → (∀ z ∈ A2, z = a ∨ z ∈ A ∨ z ∈ B) → Q .non (upd H a (.lst vs'))) → r (.ref a) ws H Q
/-- .. what is handed over is looked at alone -/
def MutB (X : Cx) (id : String) (g : List D → List D → Option D) : Prop :=
  ∃ r, MtR X id r ∧ ∀ H a vs xs A ws ds B Q, H a = some (.lst vs) → RepL X.K X.mg H true vs xs A → RepL X.K X.mg H false ws ds B → (a :: A).Nodup → ∀ d, g xs ds = some d → (∀ vs' A2, Rep X.K X.mg (upd H a (.lst vs')) true (.ref a) d A2 → A2.Nodup → (∀ z ∈ A2, z = a ∨ z ∈ A) → Q .non (upd H a (.lst vs'))) → r (.ref a) ws H Q
def mutS (i : Nat) (ms : List Nat) (g : List D → List D → Option D) (f : Env → R (List D)) : Env → Out := fun ρ => match ρ[i]? with
  | some (some (.list xs)) => (match f ρ with
    | .ok ds => (match g xs ds with
      | some d => .nx ((kill ms ρ).set i (some d))
      | none => .stk)
    | .exc x => .exc x ρ
    | .stk => .stk)
  | _ => .stk
theorem upd_fr {H : Hp} {a : Addr} {o u : HO} {M : Addr → Prop} (h : H a = some o) (hm : isMut o = true) (ha : M a) : Fr M H (upd H a u) := fun b w hb hw => by
  by_cases e : b = a
  · subst e
    rw [h] at hb
    cases hb
    exact absurd ha (hw hm)
  · rw [upd_ne e]
    exact hb
theorem nodup_cons_app {a : Addr} {A B : List Addr} (h1 : (a :: A).Nodup) (h2 : B.Nodup) (h3 : ∀ z ∈ B, z ≠ a ∧ z ∉ A) : (a :: (A ++ B)).Nodup := by
  have h1' := List.nodup_cons.mp h1
  refine List.nodup_cons.mpr ⟨fun z => ?_, List.nodup_append.mpr ⟨h1'.2, h2, fun x hx y hy e => (h3 y hy).2 (e ▸ hx)⟩⟩
  rcases List.mem_append.mp z with z | z
  · exact h1'.1 z
  · exact (h3 a z).1 rfl
theorem ds_mutO {i n : Nat} {id : String} {name : Str} {ms : List Nat} {es : List Expr} {apos cpos : Pos} {g : List D → List D → Option D} {f : Env → R (List D)} (slot : Slot "list" name id) (hty : typeOf (.builtin id) = pure (.type "method_descriptor")) (hm : MutO X id g) (hv : PE X o (tVar i)) (ha : DA X W ow (.own ms) n (e :: es) f)
    (hi : ow.contains i = true) (him : ms.contains i = false) (how : subL ow' ow = true) (hox : subL C.owx ow = true)
    (hbase : attributeBase o name X.env (eval o X.env) = eval o X.env := by rfl)
    (hfew : ((backTo cpos (starEach (e :: es) X.env)).all (fun x => !x.1) && (backToKw cpos (keywordEach [] X.env)).all (fun x => x.1.isSome)
      && decide ((e :: es).length + ([] : List Keyword).length + (if ([] : List Keyword).isEmpty then 0 else 1) < 30)) = true := by rfl)
    (hline : (apos.endLine == cpos.line) = true := by rfl) (hs : starEach (e :: es) X.env = (false, eval e X.env) :: starEach es X.env := by rfl) (hplain : (backTo cpos (starEach es X.env)).any (·.1) = false := by rfl) (hsw : swapsWith (.Call (.Attribute o name apos) (e :: es) [] cpos) none pos.line X.env = pure false := by rfl) :
    DS X W C ow ow' (.Expr (.Call (.Attribute o name apos) (e :: es) [] cpos) pos) (mutS i ms g f) := by
  obtain ⟨r, hr, hq⟩ := hm
  obtain ⟨ta, pa, qa⟩ := ha
  refine ⟨_, ps_expr (pe_bm PySem.F.plainAttrs_list slot hty hr hv pa hbase hfew hline hs hplain) hsw, fun H0 M0 pn σ ρ H As Dn hp S z => ?_⟩
  have hi' := contains_mem.mp hi
  unfold mutS at z
  split at z
  · rename_i xs hρ
    obtain ⟨v, hv, rv⟩ := S.rep i _ hρ
    rw [hi] at rv
    generalize eA : As i = Ai at rv
    cases rv with
    | lst h1 l1 =>
      rename_i a vs A
      refine ⟨.ref a, hv, .inl ⟨rfl, _, .inl (.inl h1)⟩, qa σ ρ H As _ ⟨H0, M0, pn, S⟩ ?_⟩
      cases hf : f ρ with
      | stk =>
        rw [hf] at z
        exact z
      | exc x =>
        rw [hf] at z
        exact fun c dd H' A sm rp => z c dd σ H' As A ((S.same sm).less (subL_mem hox)) rp
      | ok ds =>
        rw [hf] at z
        intro ws H1 B sm rB ok hl
        dsimp only at z
        have S1 := S.same sm
        have ndA : (a :: A).Nodup := by
          have := S.nd i hi'
          rw [eA] at this
          exact this
        have hB : ∀ w ∈ B, w ∉ As i := fun w hw hA => by
          rcases ok.2.2 w hw with q | ⟨j, hj, q⟩
          · exact S.old hA q
          · by_cases e : i = j
            · subst e
              rw [contains_mem.mpr hj] at him
              cases him
            · exact S.sep j (ok.2.1 j hj) i e w q hA
        cases hg : g xs ds with
        | none =>
          rw [hg] at z
          exact z.elim
        | some d' =>
          rw [hg] at z
          refine hq H1 a vs xs A ws ds B _ (sm _ _ h1) (l1.same sm) rB (nodup_cons_app ndA ok.1 fun w hw => ⟨fun q => hB w hw (by rw [eA, q]; exact List.mem_cons_self), fun q => hB w hw (by rw [eA]; exact List.mem_cons_of_mem _ q)⟩) d' hg ?_
          intro vs' A2 r2 n2 h2
          have T := Sta.killAll ms S1
          have nim : i ∉ ms := fun q => by
            rw [contains_mem.mpr q] at him
            cases him
          have ei : (fun j => if j ∈ ms then [] else As j) i = a :: A := by
            show (if i ∈ ms then [] else As i) = _
            rw [if_neg nim, eA]
          refine z _ _ _ ((T.mut (i := i) hi' hv (upd_fr (sm _ _ h1) rfl (by show a ∈ (fun j => if j ∈ ms then [] else As j) i; rw [ei]; exact List.mem_cons_self)) r2 n2 fun w hw => ?_).less (subL_mem how))
          rcases h2 w hw with q | q | q
          · exact .inl (by show w ∈ (fun j => if j ∈ ms then [] else As j) i; rw [ei, q]; exact List.mem_cons_self)
          · exact .inl (by show w ∈ (fun j => if j ∈ ms then [] else As j) i; rw [ei]; exact List.mem_cons_of_mem _ q)
          · refine .inr ⟨?_, fun j hj => ?_⟩
            · rcases ok.2.2 w q with p | ⟨j, hj, p⟩
              · exact S.was p
              · exact S.new j (ok.2.1 j hj) w p
            · split at hj
              · cases hj
              · rename_i hjm
                rcases ok.2.2 w q with p | ⟨l, hl, p⟩
                · exact S.old hj p
                · exact S.sep l (ok.2.1 l hl) j (fun e => hjm (e ▸ hl)) w p hj
  · exact z.elim
theorem ds_mutB {i n : Nat} {id : String} {name : Str} {es : List Expr} {apos cpos : Pos} {g : List D → List D → Option D} {f : Env → R (List D)} (slot : Slot "list" name id) (hty : typeOf (.builtin id) = pure (.type "method_descriptor")) (hm : MutB X id g) (hv : PE X o (tVar i)) (ha : DA X W ow k n (e :: es) f)
    (hi : ow.contains i = true) (how : subL ow' ow = true) (hox : subL C.owx ow = true)
    (hbase : attributeBase o name X.env (eval o X.env) = eval o X.env := by rfl)
    (hfew : ((backTo cpos (starEach (e :: es) X.env)).all (fun x => !x.1) && (backToKw cpos (keywordEach [] X.env)).all (fun x => x.1.isSome)
      && decide ((e :: es).length + ([] : List Keyword).length + (if ([] : List Keyword).isEmpty then 0 else 1) < 30)) = true := by rfl)
    (hline : (apos.endLine == cpos.line) = true := by rfl) (hs : starEach (e :: es) X.env = (false, eval e X.env) :: starEach es X.env := by rfl) (hplain : (backTo cpos (starEach es X.env)).any (·.1) = false := by rfl) (hsw : swapsWith (.Call (.Attribute o name apos) (e :: es) [] cpos) none pos.line X.env = pure false := by rfl) :
    DS X W C ow ow' (.Expr (.Call (.Attribute o name apos) (e :: es) [] cpos) pos) (mutS i [] g f) := by
  obtain ⟨r, hr, hq⟩ := hm
  obtain ⟨ta, pa, qa⟩ := ha
  refine ⟨_, ps_expr (pe_bm PySem.F.plainAttrs_list slot hty hr hv pa hbase hfew hline hs hplain) hsw, fun H0 M0 pn σ ρ H As Dn hp S z => ?_⟩
  have hi' := contains_mem.mp hi
  unfold mutS at z
  split at z
  · rename_i xs hρ
    obtain ⟨v, hv, rv⟩ := S.rep i _ hρ
    rw [hi] at rv
    generalize eA : As i = Ai at rv
    cases rv with
    | lst h1 l1 =>
      rename_i a vs A
      refine ⟨.ref a, hv, .inl ⟨rfl, _, .inl (.inl h1)⟩, qa σ ρ H As _ ⟨H0, M0, pn, S⟩ ?_⟩
      cases hf : f ρ with
      | stk =>
        rw [hf] at z
        exact z
      | exc x =>
        rw [hf] at z
        exact fun c dd H' A sm rp => z c dd σ H' As A ((S.same sm).less (subL_mem hox)) rp
      | ok ds =>
        rw [hf] at z
        intro ws H1 B sm rB ok hl
        dsimp only at z
        have S1 := S.same sm
        have ndA : (a :: A).Nodup := by
          have := S.nd i hi'
          rw [eA] at this
          exact this
        cases hg : g xs ds with
        | none =>
          rw [hg] at z
          exact z.elim
        | some d' =>
          rw [hg] at z
          refine hq H1 a vs xs A ws ds B _ (sm _ _ h1) (l1.same sm) rB.weak ndA d' hg ?_
          intro vs' A2 r2 n2 h2
          refine z _ _ _ ((S1.mut (i := i) hi' hv (upd_fr (sm _ _ h1) rfl (by show a ∈ As i; rw [eA]; exact List.mem_cons_self)) r2 n2 fun w hw => .inl ?_).less (subL_mem how))
          rw [eA]
          rcases h2 w hw with q | q
          · rw [q]
            exact List.mem_cons_self
          · exact List.mem_cons_of_mem _ q
  · exact z.elim
/-! ### the methods -/
theorem repL_upd {H : Hp} {a : Addr} {u : HO} {o : Bool} {vs : List V} {ds : List D} {A : List Addr} {w : List V} (h : H a = some (.lst w)) (r : RepL X.K X.mg H o vs ds A) (ha : a ∉ A) : RepL X.K X.mg (upd H a u) o vs ds A :=
  r.fr (M := fun b => b = a) (upd_fr h rfl rfl) fun b hb e => ha (e ▸ hb)
def gAppend (xs ds : List D) : Option D := match ds with
  | [d] => if xs.length < sizeLine then some (.list (xs ++ [d])) else none
  | _ => none
theorem mu_append : MutO X "list.append" gAppend := by
  refine ⟨_, mt_append, fun H a vs xs A ws ds B Q h1 l1 rB nd d hg z => ?_⟩
  unfold gAppend at hg
  split at hg
  · split at hg
    · rename_i hlen
      cases hg
      have nd' := List.nodup_cons.mp nd
      cases rB with
      | cons r1 r2 =>
        cases r2
        rename_i v A1
        refine ⟨a, vs, v, rfl, rfl, h1, (by rw [l1.len]; exact hlen), z (vs ++ [v]) (a :: (A ++ A1)) (.lst upd_same ?_) ?_ ?_⟩
        · have q1 := repL_upd (u := .lst (vs ++ [v])) h1 l1 fun w => nd'.1 (List.mem_append_left _ w)
          have q2 := repL_upd (u := .lst (vs ++ [v])) h1 (RepL.one r1) fun w => nd'.1 (List.mem_append_right _ (List.mem_append_left _ w))
          exact q1.app q2
        · rw [List.append_nil] at nd
          exact nd
        · intro w hw
          rcases List.mem_cons.mp hw with q | q
          · exact .inl q
          · rcases List.mem_append.mp q with q | q
            · exact .inr (.inl q)
            · exact .inr (.inr (List.mem_append_left _ q))
    · cases hg
  · cases hg
end
end Dg

namespace Dg
open PySem PySem.Spec PyProof.Rows L2
section
variable {X : Cx} {W : WX} {C : Cfg} {ow ow' ow1 ow2 : List Nat} {k k1 k2 k3 k4 : Kd} {e a b c d o tg elt : Expr} {st : Stmt} {sts sts2 : List Stmt} {den d1 d2 d3 d4 : Env → R D} {f g : Env → Out} {pos p2 : Pos} {ta tb tc td : TE}
/-! ### a chain of three comparisons, as a test -/
def tCh4 (r r' r'' : R2) (ta tb tc td : TE) : TE := fun σ H Q => ta σ H fun x H1 => tb σ H1 fun y H2 => r x y H2 fun z H3 => ∃ k, z = .bl k ∧
  (if k = true then tc σ H3 fun y2 H4 => r' y y2 H4 fun z2 H5 => ∃ k2, z2 = .bl k2 ∧ (if k2 = true then td σ H5 fun y3 H6 => r'' y2 y3 H6 Q else Q (.bl false) H5) else Q (.bl false) H3)
theorem pt_chain4 {op op' op3 : CmpOp} {r r' r3 : R2} (ho : OpR X (compareOp op) r) (ho' : OpR X (compareOp op') r') (ho3 : OpR X (compareOp op3) r3) (ha : PE X a ta) (hb : PE X b tb) (hc : PE X c tc) (hd : PE X d td)
    (hm : lastMarks [op, op', op3] [b, c, d] = false := by with_unfolding_all rfl) : PT X (.Compare a [op, op', op3] [b, c, d] pos) (tTest (tCh4 r r' r3 ta tb tc td)) := by
  refine ⟨fun pins s σ H Q I h => ?_⟩
  refine isTrue_chain (thn (ha.run pins s σ H _ I h) fun v s1 ⟨x, H1, I1, r1, q1⟩ => test_link (thn (hb.run pins s1 σ H1 _ I1 q1) fun u s2 ⟨y, H2, I2, r2, q2⟩ =>
    thn (ho pins s2 σ H2 x y v u _ I2 r1 r2 q2) fun d s3 ⟨z, H3, I3, r3, k, e, q3⟩ => ?_)) hm
  subst e
  cases r3
  refine wpAny_truthy_bool ?_
  cases k with
  | false =>
    obtain ⟨k', e', q'⟩ := q3
    cases e'
    exact ite_ff ⟨H3, I3, q'⟩
  | true =>
    refine ite_tt (test_link (thn (hc.run pins s3 σ H3 _ I3 q3) fun w' s4 ⟨z', H4, I4, r4, q4⟩ => thn (ho' pins s4 σ H4 y z' u w' _ I4 r2 r4 q4) fun d' s5 ⟨z2, H5, I5, r5, k2, e2, q5⟩ => ?_))
    subst e2
    cases r5
    refine wpAny_truthy_bool ?_
    cases k2 with
    | false =>
      obtain ⟨k', e', q'⟩ := q5
      cases e'
      exact ite_ff ⟨H5, I5, q'⟩
    | true =>
      refine ite_tt (test_last (thn (hd.run pins s5 σ H5 _ I5 q5) fun w6 s6 ⟨z6, H6, I6, r6, q6⟩ => thn (ho3 pins s6 σ H6 z' z6 w' w6 _ I6 r4 r6 q6) fun d7 s7 ⟨z7, H7, I7, r7, k7, e7, q7⟩ => ?_))
      subst e7
      cases r7
      exact wpAny_truthy_bool ⟨H7, I7, q7⟩
def ch4 (g1 g2 g3 : D → D → R D) (f1 f2 f3 f4 : Env → R D) : Env → R D := fun ρ => (f1 ρ).bind fun x => (f2 ρ).bind fun y => (g1 x y).bind fun q => match q with
  | .bool true => (f3 ρ).bind fun z => (g2 y z).bind fun q2 => match q2 with
    | .bool true => (f4 ρ).bind fun w => g3 z w
    | .bool false => .ok (.bool false)
    | _ => .stk
  | .bool false => .ok (.bool false)
  | _ => .stk
theorem ch4_good {g1 g2 g3 : D → D → R D} {ta tb tc td : TE} {r r' r3 : R2} (q1 : ∀ σ ρ H As Q, On X ow σ ρ H As → Good X W σ ow k1 H As (d1 ρ) Q → ta σ H Q) (q2 : ∀ σ ρ H As Q, On X ow σ ρ H As → Good X W σ ow k2 H As (d2 ρ) Q → tb σ H Q)
    (q3 : ∀ σ ρ H As Q, On X ow σ ρ H As → Good X W σ ow k3 H As (d3 ρ) Q → tc σ H Q) (q4 : ∀ σ ρ H As Q, On X ow σ ρ H As → Good X W σ ow k4 H As (d4 ρ) Q → td σ H Q)
    (hg1 : ∀ x y z, g1 x y ≠ .exc z) (hr1 : ∀ H x y dx dy A B Q, Rep X.K X.mg H false x dx A → Rep X.K X.mg H false y dy B → Fresh X H (g1 dx dy) Q → r x y H Q)
    (hg2 : ∀ x y z, g2 x y ≠ .exc z) (hr2 : ∀ H x y dx dy A B Q, Rep X.K X.mg H false x dx A → Rep X.K X.mg H false y dy B → Fresh X H (g2 dx dy) Q → r' x y H Q)
    (hg3 : ∀ x y z, g3 x y ≠ .exc z) (hr3 : ∀ H x y dx dy A B Q, Rep X.K X.mg H false x dx A → Rep X.K X.mg H false y dy B → Fresh X H (g3 dx dy) Q → r3 x y H Q)
    {σ : L2.St} {ρ : Env} {H : Hp} {As : Nat → List Addr} {Q : VK} (S : On X ow σ ρ H As) (z : Good X W σ ow (.own []) H As (ch4 g1 g2 g3 d1 d2 d3 d4 ρ) Q) : tCh4 r r' r3 ta tb tc td σ H Q := by
  refine q1 σ ρ H As _ S ?_
  unfold ch4 at z
  cases e1 : d1 ρ with
  | stk =>
    rw [e1] at z
    exact z
  | exc x =>
    rw [e1] at z
    exact z
  | ok dx =>
    rw [e1, R.bind_ok] at z
    intro x H1 A s1 rx _
    refine q2 σ ρ H1 As _ (S.same s1) ?_
    cases e2 : d2 ρ with
    | stk =>
      rw [e2] at z
      exact z
    | exc x =>
      rw [e2] at z
      exact fun c dd H' B sm rp => z c dd H' B (s1.trans sm) rp
    | ok dy =>
      rw [e2, R.bind_ok] at z
      intro y H2 B s2 ry _
      refine hr1 H2 x y dx dy A B _ (rx.weak.same s2) ry.weak ?_
      cases e3 : g1 dx dy with
      | stk =>
        rw [e3] at z
        exact z
      | exc x => exact absurd e3 (hg1 _ _ _)
      | ok q =>
        rw [e3, R.bind_ok] at z
        intro v H3 A3 s3 r3 n3 f3
        cases q with
        | bool t =>
          cases r3
          cases t with
          | false => exact ⟨false, rfl, iteF (z (.bl false) H3 [] (s1.trans (s2.trans s3)) (.bl false) nil_own)⟩
          | true =>
            refine ⟨true, rfl, iteT ?_⟩
            refine q3 σ ρ H3 As _ (((S.same s1).same s2).same s3) ?_
            dsimp only at z
            cases e4 : d3 ρ with
            | stk =>
              rw [e4] at z
              exact z
            | exc x =>
              rw [e4] at z
              exact fun c dd H' B sm rp => z c dd H' B (s1.trans (s2.trans (s3.trans sm))) rp
            | ok dz =>
              rw [e4, R.bind_ok] at z
              intro w H4 A4 s4 rw' _
              refine hr2 H4 y w dy dz B A4 _ ((ry.weak.same s3).same s4) rw'.weak ?_
              cases e5 : g2 dy dz with
              | stk =>
                rw [e5] at z
                exact z
              | exc x => exact absurd e5 (hg2 _ _ _)
              | ok q2 =>
                rw [e5, R.bind_ok] at z
                intro v5 H5 A5 s5 r5 n5 f5
                cases q2 with
                | bool t2 =>
                  cases r5
                  cases t2 with
                  | false => exact ⟨false, rfl, iteF (z (.bl false) H5 [] (s1.trans (s2.trans (s3.trans (s4.trans s5)))) (.bl false) nil_own)⟩
                  | true =>
                    refine ⟨true, rfl, iteT ?_⟩
                    refine q4 σ ρ H5 As _ (((((S.same s1).same s2).same s3).same s4).same s5) ?_
                    dsimp only at z
                    cases e6 : d4 ρ with
                    | stk =>
                      rw [e6] at z
                      exact z
                    | exc x =>
                      rw [e6] at z
                      exact fun c dd H' B sm rp => z c dd H' B (s1.trans (s2.trans (s3.trans (s4.trans (s5.trans sm))))) rp
                    | ok dw =>
                      rw [e6, R.bind_ok] at z
                      intro w6 H6 A6 s6 rw6 _
                      exact hr3 H6 w w6 dz dw A4 A6 Q ((rw'.weak.same s5).same s6) rw6.weak (fresh_good (s1.trans (s2.trans (s3.trans (s4.trans (s5.trans s6))))) z (hg3 dz dw))
                | _ => exact z.elim
        | _ => exact z.elim
theorem dt_chain4 {op op' op3 : CmpOp} {g1 g2 g3 : D → D → R D} (h : OpD X (compareOp op) g1) (h' : OpD X (compareOp op') g2) (h6 : OpD X (compareOp op3) g3) (h1 : DE X W ow k1 a d1) (h2 : DE X W ow k2 b d2) (h3 : DE X W ow k3 c d3) (h4 : DE X W ow k4 d d4)
    (hm : lastMarks [op, op', op3] [b, c, d] = false := by with_unfolding_all rfl) : DT X W ow (.Compare a [op, op', op3] [b, c, d] pos) (Dg.tb (ch4 g1 g2 g3 d1 d2 d3 d4)) := by
  obtain ⟨r, ho, hg, hr⟩ := h
  obtain ⟨r', ho', hg', hr'⟩ := h'
  obtain ⟨r3, ho3, hg3, hr3⟩ := h6
  obtain ⟨ta, p1, q1⟩ := h1
  obtain ⟨tb', p2, q2⟩ := h2
  obtain ⟨tc, p3, q3⟩ := h3
  obtain ⟨td, p4, q4⟩ := h4
  refine ⟨_, pt_chain4 ho ho' ho3 p1 p2 p3 p4 hm, fun σ ρ H As Q S z => ch4_good (g1 := g1) (g2 := g2) (g3 := g3) q1 q2 q3 q4 hg hr hg' hr' hg3 hr3 S ?_⟩
  unfold Dg.tb at z
  cases hd : ch4 g1 g2 g3 d1 d2 d3 d4 ρ with
  | stk =>
    rw [hd] at z
    exact z
  | exc x =>
    rw [hd] at z
    exact z
  | ok d =>
    rw [hd, R.bind_ok] at z
    intro v H' A sm r _
    cases d with
    | bool b =>
      cases r
      exact ⟨b, rfl, z H' sm⟩
    | _ => exact z.elim
end
end Dg

namespace Dg
open PySem PySem.Spec PyProof.Rows L2
/-! ### what each def comes to -/
def d__law_cell_at : Env → Out := (seqS (ifS (tb (b2 dLt (vr 1) (call dLen (conL (vr 0) nilL)))) (retS (chkE (b2 dIx (vr 0) (vr 1)))) nxS) (retS (cst (.int 0))))
def f__law_cell_at : List D → R D := fun ds => (runF 2 d__law_cell_at ds).nox
def d__law_part : Env → Out := (retS (b2 dMod (b2 dMod (b2 dMul2 (b2 dMod (b2 dMul2 (b2 dAdd (b2 dMod (vr 0) (cst (.int 99991))) (cst (.int 17))) (b2 dAdd (cst (.int 48271)) (b2 dMul2 (cst (.int 7919)) (vr 1)))) (cst (.int 65537))) (b2 dAdd (vr 1) (cst (.int 3)))) (cst (.int 8191))) (vr 2)))
def f__law_part : List D → R D := fun ds => (runF 3 d__law_part ds).nox
def lb__law_periods_1 : Env → Out := (seqS (asgS [] [2] t1 (b2 dAdd (vr 2) (b2 dIx (lstE (conL (b2 dAdd (cst (.int 1)) (callP f__law_part (conL (vr 4) (conL (cst (.int 0)) (conL (cst (.int 4)) nilL))))) (conL (b2 dAdd (cst (.int 1)) (b2 dMod (vr 4) (b2 dPow (cst (.int 10)) (cst (.int 57))))) nilL))) (callP f__law_part (conL (vr 4) (conL (cst (.int 1)) (conL (cst (.int 2)) nilL))))))) (seqS (asgS [] [5] t1 (b2 dAdd (vr 2) (b2 dIx (lstE (conL (callP f__law_part (conL (vr 4) (conL (cst (.int 2)) (conL (cst (.int 9)) nilL)))) (conL (b2 dMod (b2 dDiv (vr 4) (cst (.int 7))) (b2 dPow (cst (.int 10)) (cst (.int 57)))) nilL))) (callP f__law_part (conL (vr 4) (conL (cst (.int 3)) (conL (cst (.int 2)) nilL))))))) (seqS (mutS 3 [] gAppend (conL (tupE (conL (b2 dMul2 (vr 1) (b2 dAdd (cst (.int 1)) (call dLen (conL (vr 3) nilL)))) (conL (chkE (vr 2)) (conL (chkE (vr 5)) nilL)))) nilL)) (seqS (asgS [] [2] t1 (chkE (vr 5))) nxS))))
def d__law_periods : Env → Out := (seqS (asgS [] [1] t1 (b2 dIx (cst (.str "abcdefghijklmnopqrstuvwxyz")) (b2 dMod (callP f__law_cell_at (conL (vr 0) (conL (cst (.int 0)) nilL))) (cst (.int 26))))) (seqS (asgS [] [2] t1 (b2 dMul2 (b2 dMod (callP f__law_cell_at (conL (vr 0) (conL (cst (.int 1)) nilL))) (b2 dPow (cst (.int 10)) (cst (.int 57)))) (b2 dIx (lstE (conL (cst (.int 1)) (conL (b1 dNeg (cst (.int 1))) nilL))) (b2 dMod (callP f__law_cell_at (conL (vr 0) (conL (cst (.int 2)) nilL))) (cst (.int 2)))))) (seqS (asgS [] [3] t1 (lstE nilL)) (seqS (forS [4] t1 [4, 5] (itE (slE (vr 0) (toO (cst (.int 3))) (toO (cst (.int 9))))) lb__law_periods_1) (retS (vr 3))))))
def f__law_periods : List D → R D := fun ds => (runF 6 d__law_periods ds).nox
def lb_period_of_1 : Env → Out := (seqS (ifS (andT (tb (b2 dLe (vr 5) (vr 0))) (tb (b2 dLe (vr 1) (vr 6)))) (retS (tupE (conL (cst (.str "sure")) (conL (lstE (conL (chkE (vr 4)) nilL)) nilL)))) nxS) (seqS (ifS (andT (tb (b2 dLe (vr 5) (vr 1))) (tb (b2 dLe (vr 0) (vr 6)))) (seqS (mutS 3 [] gAppend (conL (chkE (vr 4)) nilL)) nxS) nxS) nxS))
def d_period_of : Env → Out := (seqS (asgS [] [3] t1 (lstE nilL)) (seqS (forS [4, 5, 6] (tN 3) [4, 5, 6] (itE (vr 2)) lb_period_of_1) (seqS (ifS (tb (b2 dEq (vr 3) (lstE nilL))) (retS (tupE (conL (cst (.str "none")) (conL (lstE nilL) nilL)))) nxS) (retS (tupE (conL (cst (.str "maybe")) (conL (vr 3) nilL)))))))
def f_period_of : List D → R D := fun ds => (runF 7 d_period_of ds).nox
def lb__law_due_1 : Env → Out := (seqS (ifS (tb (ch4 dLe dLe dLe (vr 5) (vr 0) (vr 1) (vr 6))) (retS (tupE (conL (cst (.str "sure")) (conL (lstE (conL (chkE (vr 4)) nilL)) nilL)))) nxS) (seqS (ifS (tb (b2 dLe (call dMax2 (conL (vr 5) (conL (vr 0) nilL))) (call dMin2 (conL (vr 6) (conL (vr 1) nilL))))) (seqS (mutS 3 [] gAppend (conL (chkE (vr 4)) nilL)) nxS) nxS) nxS))
def d__law_due : Env → Out := (seqS (asgS [] [3] t1 (lstE nilL)) (seqS (forS [4, 5, 6] (tN 3) [4, 5, 6] (itE (vr 2)) lb__law_due_1) (seqS (ifS (tb (b2 dGt (call dLen (conL (vr 3) nilL)) (cst (.int 0)))) (retS (tupE (conL (cst (.str "maybe")) (conL (vr 3) nilL)))) nxS) (retS (tupE (conL (cst (.str "none")) (conL (lstE nilL) nilL)))))))
def f__law_due : List D → R D := fun ds => (runF 7 d__law_due ds).nox
def lb_law_1 : Env → Out := (seqS (asgS [] [2] t1 (b2 dAdd (vr 2) (lstE (conL (chkE (vr 4)) (conL (chkE (vr 5)) nilL))))) nxS)
def lb_law_2 : Env → Out := (seqS (asgS [] [7] t1 (b2 dAdd (callP f__law_cell_at (conL (vr 0) (conL (b2 dAdd (cst (.int 9)) (vr 6)) nilL))) (vr 6))) (seqS (asgS [] [8] t1 (b2 dSub (b2 dAdd (b2 dIx (vr 2) (callP f__law_part (conL (vr 7) (conL (cst (.int 4)) (conL (call dLen (conL (vr 2) nilL)) nilL))))) (callP f__law_part (conL (vr 7) (conL (cst (.int 5)) (conL (cst (.int 7)) nilL))))) (cst (.int 3)))) (seqS (asgS [] [9] t1 (b2 dAdd (vr 8) (b2 dIx (lstE (conL (callP f__law_part (conL (vr 7) (conL (cst (.int 6)) (conL (cst (.int 12)) nilL)))) (conL (b2 dMod (vr 7) (b2 dPow (cst (.int 10)) (cst (.int 57)))) nilL))) (callP f__law_part (conL (vr 7) (conL (cst (.int 7)) (conL (cst (.int 2)) nilL))))))) (seqS (asgS [] [10] t1 (call dListOf (conL (vr 1) nilL))) (seqS (asgS [] [11] t1 (callP f_period_of (conL (vr 8) (conL (vr 9) (conL (vr 10) nilL))))) (seqS (ifS (orT (notT (tb (b1 (dIsi "tuple") (vr 11)))) (orT (tb (b2 dNe (vr 11) (callP f__law_due (conL (vr 8) (conL (vr 9) (conL (vr 1) nilL)))))) (tb (b2 dNe (vr 10) (vr 1))))) (retS (cst (.bool false))) nxS) nxS))))))
def d_law : Env → Out := (seqS (asgS [] [1] t1 (callP f__law_periods (conL (vr 0) nilL))) (seqS (asgS [] [2] t1 (lstE (conL (cst (.int 0)) nilL))) (seqS (forS [3, 4, 5] (tN 3) [3, 4, 5] (itE (vr 1)) lb_law_1) (seqS (forS [6] t1 [6, 7, 8, 9, 10, 11] (rgE (conL (cst (.int 4)) nilL)) lb_law_2) (retS (cst (.bool true)))))))
def f_law : List D → R D := fun ds => (runF 12 d_law ds).nox
end Dg

namespace Dg
open PySem PySem.Spec PyProof.Rows L2
def topS (i : Nat) : Stmt := PySem.Challenge.pw_digmatrix_k52_periods.main.body.getD i (.Pass ⟨0, 0, 0, 0⟩)
abbrev s__law_cell_at : Stmt := topS 3
abbrev N__law_cell_at : List Str := ["_law_script", "_law_k"]
theorem sc__law_cell_at : FnScope N__law_cell_at ["_law_script", "_law_k"] (defScope s__law_cell_at) := ⟨rfl, rfl, rfl, by decide +kernel, rfl, by decide +kernel, by decide +kernel⟩
abbrev s__law_part : Stmt := topS 4
abbrev N__law_part : List Str := ["_law_cell", "_law_k", "_law_many"]
theorem sc__law_part : FnScope N__law_part ["_law_cell", "_law_k", "_law_many"] (defScope s__law_part) := ⟨rfl, rfl, rfl, by decide +kernel, rfl, by decide +kernel, by decide +kernel⟩
abbrev s__law_periods : Stmt := topS 5
abbrev N__law_periods : List Str := ["_law_script", "_law_base", "_law_year", "_law_periods_here", "_law_cell", "_law_last"]
theorem sc__law_periods : FnScope N__law_periods ["_law_script"] (defScope s__law_periods) := ⟨rfl, rfl, rfl, by decide +kernel, rfl, by decide +kernel, by decide +kernel⟩
abbrev s_period_of : Stmt := topS 1
abbrev N_period_of : List Str := ["low", "high", "periods", "names", "name", "begin", "end"]
theorem sc_period_of : FnScope N_period_of ["low", "high", "periods"] (defScope s_period_of) := ⟨rfl, rfl, rfl, by decide +kernel, rfl, by decide +kernel, by decide +kernel⟩
abbrev s__law_due : Stmt := topS 6
abbrev N__law_due : List Str := ["_law_low", "_law_high", "_law_periods_here", "_law_names", "_law_name", "_law_begin", "_law_end"]
theorem sc__law_due : FnScope N__law_due ["_law_low", "_law_high", "_law_periods_here"] (defScope s__law_due) := ⟨rfl, rfl, rfl, by decide +kernel, rfl, by decide +kernel, by decide +kernel⟩
abbrev s_law : Stmt := topS 7
abbrev N_law : List Str := ["_law_script", "_law_periods_here", "_law_edges", "_law_name", "_law_begin", "_law_end", "_law_k", "_law_cell", "_law_low", "_law_high", "_law_handed", "_law_found"]
theorem sc_law : FnScope N_law ["_law_script"] (defScope s_law) := ⟨rfl, rfl, rfl, by decide +kernel, rfl, by decide +kernel, by decide +kernel⟩
/-- what the top has written -/
structure Txt (K : PySem.W.Frag) (mg : Str → Option Value) : Prop where
  f__law_cell_at : ∃ fa fd, Fun K "_law_cell_at" "_law_cell_at" s__law_cell_at fa fd ∧ mg "_law_cell_at" = some (.ref fa)
  f__law_part : ∃ fa fd, Fun K "_law_part" "_law_part" s__law_part fa fd ∧ mg "_law_part" = some (.ref fa)
  f__law_periods : ∃ fa fd, Fun K "_law_periods" "_law_periods" s__law_periods fa fd ∧ mg "_law_periods" = some (.ref fa)
  f_period_of : ∃ fa fd, Fun K "period_of" "period_of" s_period_of fa fd ∧ mg "period_of" = some (.ref fa)
  f__law_due : ∃ fa fd, Fun K "_law_due" "_law_due" s__law_due fa fd ∧ mg "_law_due" = some (.ref fa)
  f_law : ∃ fa fd, Fun K "law" "law" s_law fa fd ∧ mg "law" = some (.ref fa)
  n_isinstance : mg "isinstance" = none
  n_len : mg "len" = none
  n_list : mg "list" = none
  n_max : mg "max" = none
  n_min : mg "min" = none
  n_range : mg "range" = none
  n_tuple : mg "tuple" = none
section
variable {P : Program} {w : World} {K : PySem.W.Frag} {mg : Str → Option Value} {base : Heap}
theorem fok__law_cell_at (T : Txt K mg) {fa : Addr} {fd : FuncData} (F : Fun K "_law_cell_at" "_law_cell_at" s__law_cell_at fa fd) : FnOk P w K mg base CX0 1 fa fd ["_law_script", "_law_k"] (spD K mg 2 f__law_cell_at) :=
  fn_ok (kk := 0) (n := 2) (m := 2) (den := d__law_cell_at) F sc__law_cell_at (fun _ => rfl) rfl rfl fun cdv A outer s H E hr => by
    have hu := hr.units
    exact ⟨[], (ds_cons (ds_if (ow' := []) (dt_cmp (op_dLt hu) (de_var (pv 1)) (de_callB call_dLen T.n_len PySem.boot_len (da_br (de_var (pv 0)) da_nilB)) (nomark _)) (ds_one (ds_ret (de_imm (de_ix hu (de_var (pv 0)) (de_var (pv 1)) (fun _ _ => rfl))) rfl rfl rfl)) (ds_nil (by decide)) rfl) (ds_one (ds_ret de_int rfl rfl rfl)))⟩
theorem ok__law_cell_at (T : Txt K mg) : Cal P w K mg base CX0 "_law_cell_at" 1 2 f__law_cell_at := by
  obtain ⟨fa, fd, F, hm⟩ := T.f__law_cell_at
  exact ⟨fa, fd, ["_law_script", "_law_k"], fok__law_cell_at T F, hm, F.kp, F.binds (ps := ["_law_script", "_law_k"]) fun _ _ _ _ _ _ us hl => match us, hl with | [_, _], _ => rfl⟩
theorem fok__law_part (T : Txt K mg) {fa : Addr} {fd : FuncData} (F : Fun K "_law_part" "_law_part" s__law_part fa fd) : FnOk P w K mg base CX0 1 fa fd ["_law_cell", "_law_k", "_law_many"] (spD K mg 3 f__law_part) :=
  fn_ok (kk := 0) (n := 3) (m := 3) (den := d__law_part) F sc__law_part (fun _ => rfl) rfl rfl fun cdv A outer s H E hr => by
    have hu := hr.units
    exact ⟨[], (ds_one (ds_ret (de_op op_dMod (de_op op_dMod (de_op op_dMul2 (de_op op_dMod (de_op op_dMul2 (de_op op_dAdd (de_op op_dMod (de_var (pv 0)) de_int) de_int) (de_op op_dAdd de_int (de_op op_dMul2 de_int (de_var (pv 1))))) de_int) (de_op op_dAdd (de_var (pv 1)) de_int)) de_int) (de_var (pv 2))) rfl rfl rfl))⟩
theorem ok__law_part (T : Txt K mg) : Cal P w K mg base CX0 "_law_part" 1 3 f__law_part := by
  obtain ⟨fa, fd, F, hm⟩ := T.f__law_part
  exact ⟨fa, fd, ["_law_cell", "_law_k", "_law_many"], fok__law_part T F, hm, F.kp, F.binds (ps := ["_law_cell", "_law_k", "_law_many"]) fun _ _ _ _ _ _ us hl => match us, hl with | [_, _, _], _ => rfl⟩
theorem fok__law_periods (T : Txt K mg) {fa : Addr} {fd : FuncData} (F : Fun K "_law_periods" "_law_periods" s__law_periods fa fd) : FnOk P w K mg base CX0 2 fa fd ["_law_script"] (spD K mg 1 f__law_periods) :=
  fn_ok (kk := 1) (n := 6) (m := 1) (den := d__law_periods) F sc__law_periods (fun _ => rfl) rfl rfl fun cdv A outer s H E hr => by
    have hu := hr.units
    exact ⟨[], (ds_cons (ds_asgB (ow' := []) (de_ix hu de_str (de_op op_dMod (de_call (ok__law_cell_at T) (hr.mono (by decide)) (da_br (de_var (pv 0)) (da_br de_int da_nilB))) de_int) (fun _ _ => rfl)) (dg_name (pg_name (i := 1) sc__law_periods.nd rfl (by first | exact Or.inl rfl | exact Or.inr rfl))) rfl rfl rfl rfl rfl) (ds_cons (ds_asg (ow' := [2]) (de_op op_dMul2 (de_op op_dMod (de_call (ok__law_cell_at T) (hr.mono (by decide)) (da_br (de_var (pv 0)) (da_br de_int da_nilB))) (de_op op_dPow de_int de_int)) (de_ix hu (de_lst (da_own de_int (da_own (de_un un_dNeg de_int) da_nil (by decide)) (by decide))) (de_op op_dMod (de_call (ok__law_cell_at T) (hr.mono (by decide)) (da_br (de_var (pv 0)) (da_br de_int da_nilB))) de_int) (fun _ _ => rfl))) (dg_name (pg_name (i := 2) sc__law_periods.nd rfl (by first | exact Or.inl rfl | exact Or.inr rfl))) rfl rfl rfl) (ds_cons (ds_asg (ow' := [2, 3]) (de_lst da_nil) (dg_name (pg_name (i := 3) sc__law_periods.nd rfl (by first | exact Or.inl rfl | exact Or.inr rfl))) rfl rfl rfl) (ds_cons (ds_for (owl := [2, 3]) (ow' := [2, 3]) (ks := [4, 5]) PassesOwn.never rfl (di_seq (de_sl (de_var (pv 0)) (do_some de_int) (do_some de_int))) (dg_name (pg_name (i := 4) sc__law_periods.nd rfl (by first | exact Or.inl rfl | exact Or.inr rfl))) (ds_cons (ds_asg (ow' := [2, 3]) (de_op op_dAdd (de_var (pv 2)) (de_ix hu (de_lst (da_own (de_op op_dAdd de_int (de_call (ok__law_part T) (hr.mono (by decide)) (da_br (de_var (pv 4)) (da_br de_int (da_br de_int da_nilB))))) (da_own (de_op op_dAdd de_int (de_op op_dMod (de_var (pv 4)) (de_op op_dPow de_int de_int))) da_nil (by decide)) (by decide))) (de_call (ok__law_part T) (hr.mono (by decide)) (da_br (de_var (pv 4)) (da_br de_int (da_br de_int da_nilB)))) (fun _ _ => rfl))) (dg_name (pg_name (i := 2) sc__law_periods.nd rfl (by first | exact Or.inl rfl | exact Or.inr rfl))) rfl rfl rfl) (ds_cons (ds_asg (ow' := [2, 3, 5]) (de_op op_dAdd (de_var (pv 2)) (de_ix hu (de_lst (da_own (de_call (ok__law_part T) (hr.mono (by decide)) (da_br (de_var (pv 4)) (da_br de_int (da_br de_int da_nilB)))) (da_own (de_op op_dMod (de_op op_dDiv (de_var (pv 4)) de_int) (de_op op_dPow de_int de_int)) da_nil (by decide)) (by decide))) (de_call (ok__law_part T) (hr.mono (by decide)) (da_br (de_var (pv 4)) (da_br de_int (da_br de_int da_nilB)))) (fun _ _ => rfl))) (dg_name (pg_name (i := 5) sc__law_periods.nd rfl (by first | exact Or.inl rfl | exact Or.inr rfl))) rfl rfl rfl) (ds_cons (ds_mutO (ow' := [2, 3, 5]) PySem.F.slot_list_append PySem.F.type_list_append mu_append (pv 3) (da_own (de_tup (da_own (de_op op_dMul2 (de_var (pv 1)) (de_op op_dAdd de_int (de_callB call_dLen T.n_len PySem.boot_len (da_br (de_var (pv 3)) da_nilB)))) (da_own (de_imm (de_var (pv 2))) (da_own (de_imm (de_var (pv 5))) da_nil (by decide)) (by decide)) (by decide))) da_nil (by decide)) rfl rfl rfl rfl) (ds_cons (ds_asg (ow' := [2, 3, 5]) (de_imm (de_var (pv 5))) (dg_name (pg_name (i := 2) sc__law_periods.nd rfl (by first | exact Or.inl rfl | exact Or.inr rfl))) rfl rfl rfl) (ds_nil (by decide)))))) rfl rfl rfl rfl rfl rfl) (ds_one (ds_ret (de_mov (pv 3) (by decide)) rfl rfl rfl))))))⟩
theorem ok__law_periods (T : Txt K mg) : Cal P w K mg base CX0 "_law_periods" 2 1 f__law_periods := by
  obtain ⟨fa, fd, F, hm⟩ := T.f__law_periods
  exact ⟨fa, fd, ["_law_script"], fok__law_periods T F, hm, F.kp, F.binds (ps := ["_law_script"]) fun _ _ _ _ _ _ us hl => match us, hl with | [_], _ => rfl⟩
theorem fok_period_of (T : Txt K mg) {fa : Addr} {fd : FuncData} (F : Fun K "period_of" "period_of" s_period_of fa fd) : FnOk P w K mg base CX0 1 fa fd ["low", "high", "periods"] (spD K mg 3 f_period_of) :=
  fn_ok (kk := 0) (n := 7) (m := 3) (den := d_period_of) F sc_period_of (fun _ => rfl) rfl rfl fun cdv A outer s H E hr => by
    have hu := hr.units
    exact ⟨[], (ds_cons (ds_asg (ow' := [3]) (de_lst da_nil) (dg_name (pg_name (i := 3) sc_period_of.nd rfl (by first | exact Or.inl rfl | exact Or.inr rfl))) rfl rfl rfl) (ds_cons (ds_for (owl := [3]) (ow' := [3]) (ks := [4, 5, 6]) PassesOwn.never rfl (di_seq (de_var (pv 2))) (dg_tup (is := [4, 5, 6]) rfl (pgn_cons (pg_name (i := 4) sc_period_of.nd rfl (by first | exact Or.inl rfl | exact Or.inr rfl)) (pgn_cons (pg_name (i := 5) sc_period_of.nd rfl (by first | exact Or.inl rfl | exact Or.inr rfl)) (pgn_cons (pg_name (i := 6) sc_period_of.nd rfl (by first | exact Or.inl rfl | exact Or.inr rfl)) pgn_nil)))) (ds_cons (ds_if (ow' := [3]) (dt_w (dw_and (c := .Name "a" ⟨0, 0, 0, 0⟩) (pos2 := ⟨0, 0, 0, 0⟩) (dt_cmp (op_dLe hu) (de_var (pv 5)) (de_var (pv 0)) (nomark _)) (dw_and1 (dt_cmp (op_dLe hu) (de_var (pv 1)) (de_var (pv 6)) (nomark _))))) (ds_one (ds_ret (de_tup (da_own de_str (da_own (de_lst (da_own (de_imm (de_var (pv 4))) da_nil (by decide))) da_nil (by decide)) (by decide))) rfl rfl rfl)) (ds_nil (by decide)) rfl) (ds_cons (ds_if (ow' := [3]) (dt_w (dw_and (c := .Name "a" ⟨0, 0, 0, 0⟩) (pos2 := ⟨0, 0, 0, 0⟩) (dt_cmp (op_dLe hu) (de_var (pv 5)) (de_var (pv 1)) (nomark _)) (dw_and1 (dt_cmp (op_dLe hu) (de_var (pv 0)) (de_var (pv 6)) (nomark _))))) (ds_cons (ds_mutO (ow' := [3]) PySem.F.slot_list_append PySem.F.type_list_append mu_append (pv 3) (da_own (de_imm (de_var (pv 4))) da_nil (by decide)) rfl rfl rfl rfl) (ds_nil (by decide))) (ds_nil (by decide)) rfl) (ds_nil (by decide)))) rfl rfl rfl rfl rfl rfl) (ds_cons (ds_if (ow' := [3]) (dt_cmp (op_dEq hu) (de_var (pv 3)) (de_lst da_nil) (nomark _)) (ds_one (ds_ret (de_tup (da_own de_str (da_own (de_lst da_nil) da_nil (by decide)) (by decide))) rfl rfl rfl)) (ds_nil (by decide)) rfl) (ds_one (ds_ret (de_tup (da_own de_str (da_own (de_mov (pv 3) (by decide)) da_nil (by decide)) (by decide))) rfl rfl rfl)))))⟩
theorem ok_period_of (T : Txt K mg) : Cal P w K mg base CX0 "period_of" 1 3 f_period_of := by
  obtain ⟨fa, fd, F, hm⟩ := T.f_period_of
  exact ⟨fa, fd, ["low", "high", "periods"], fok_period_of T F, hm, F.kp, F.binds (ps := ["low", "high", "periods"]) fun _ _ _ _ _ _ us hl => match us, hl with | [_, _, _], _ => rfl⟩
theorem fok__law_due (T : Txt K mg) {fa : Addr} {fd : FuncData} (F : Fun K "_law_due" "_law_due" s__law_due fa fd) : FnOk P w K mg base CX0 1 fa fd ["_law_low", "_law_high", "_law_periods_here"] (spD K mg 3 f__law_due) :=
  fn_ok (kk := 0) (n := 7) (m := 3) (den := d__law_due) F sc__law_due (fun _ => rfl) rfl rfl fun cdv A outer s H E hr => by
    have hu := hr.units
    exact ⟨[], (ds_cons (ds_asg (ow' := [3]) (de_lst da_nil) (dg_name (pg_name (i := 3) sc__law_due.nd rfl (by first | exact Or.inl rfl | exact Or.inr rfl))) rfl rfl rfl) (ds_cons (ds_for (owl := [3]) (ow' := [3]) (ks := [4, 5, 6]) PassesOwn.never rfl (di_seq (de_var (pv 2))) (dg_tup (is := [4, 5, 6]) rfl (pgn_cons (pg_name (i := 4) sc__law_due.nd rfl (by first | exact Or.inl rfl | exact Or.inr rfl)) (pgn_cons (pg_name (i := 5) sc__law_due.nd rfl (by first | exact Or.inl rfl | exact Or.inr rfl)) (pgn_cons (pg_name (i := 6) sc__law_due.nd rfl (by first | exact Or.inl rfl | exact Or.inr rfl)) pgn_nil)))) (ds_cons (ds_if (ow' := [3]) (dt_chain4 (op_dLe hu) (op_dLe hu) (op_dLe hu) (de_var (pv 5)) (de_var (pv 0)) (de_var (pv 1)) (de_var (pv 6))) (ds_one (ds_ret (de_tup (da_own de_str (da_own (de_lst (da_own (de_imm (de_var (pv 4))) da_nil (by decide))) da_nil (by decide)) (by decide))) rfl rfl rfl)) (ds_nil (by decide)) rfl) (ds_cons (ds_if (ow' := [3]) (dt_cmp (op_dLe hu) (de_callB (call_dMax2 rfl) T.n_max (by decide +kernel) (da_br (de_var (pv 5)) (da_br (de_var (pv 0)) da_nilB))) (de_callB (call_dMin2 rfl) T.n_min (by decide +kernel) (da_br (de_var (pv 6)) (da_br (de_var (pv 1)) da_nilB))) (nomark _)) (ds_cons (ds_mutO (ow' := [3]) PySem.F.slot_list_append PySem.F.type_list_append mu_append (pv 3) (da_own (de_imm (de_var (pv 4))) da_nil (by decide)) rfl rfl rfl rfl) (ds_nil (by decide))) (ds_nil (by decide)) rfl) (ds_nil (by decide)))) rfl rfl rfl rfl rfl rfl) (ds_cons (ds_if (ow' := [3]) (dt_cmp (op_dGt hu) (de_callB call_dLen T.n_len PySem.boot_len (da_br (de_var (pv 3)) da_nilB)) de_int (nomark _)) (ds_one (ds_ret (de_tup (da_own de_str (da_own (de_mov (pv 3) (by decide)) da_nil (by decide)) (by decide))) rfl rfl rfl)) (ds_nil (by decide)) rfl) (ds_one (ds_ret (de_tup (da_own de_str (da_own (de_lst da_nil) da_nil (by decide)) (by decide))) rfl rfl rfl)))))⟩
theorem ok__law_due (T : Txt K mg) : Cal P w K mg base CX0 "_law_due" 1 3 f__law_due := by
  obtain ⟨fa, fd, F, hm⟩ := T.f__law_due
  exact ⟨fa, fd, ["_law_low", "_law_high", "_law_periods_here"], fok__law_due T F, hm, F.kp, F.binds (ps := ["_law_low", "_law_high", "_law_periods_here"]) fun _ _ _ _ _ _ us hl => match us, hl with | [_, _, _], _ => rfl⟩
theorem fok_law (T : Txt K mg) {fa : Addr} {fd : FuncData} (F : Fun K "law" "law" s_law fa fd) : FnOk P w K mg base CX0 3 fa fd ["_law_script"] (spD K mg 1 f_law) :=
  fn_ok (kk := 2) (n := 12) (m := 1) (den := d_law) F sc_law (fun _ => rfl) rfl rfl fun cdv A outer s H E hr => by
    have hu := hr.units
    exact ⟨[], (ds_cons (ds_asg (ow' := [1]) (de_call (ok__law_periods T) (hr.mono (by decide)) (da_br (de_var (pv 0)) da_nilB)) (dg_name (pg_name (i := 1) sc_law.nd rfl (by first | exact Or.inl rfl | exact Or.inr rfl))) rfl rfl rfl) (ds_cons (ds_asg (ow' := [1, 2]) (de_lst (da_own de_int da_nil (by decide))) (dg_name (pg_name (i := 2) sc_law.nd rfl (by first | exact Or.inl rfl | exact Or.inr rfl))) rfl rfl rfl) (ds_cons (ds_for (owl := [2]) (ow' := [2]) (ks := [3, 4, 5]) PassesOwn.never rfl (di_seq (de_var (pv 1))) (dg_tup (is := [3, 4, 5]) rfl (pgn_cons (pg_name (i := 3) sc_law.nd rfl (by first | exact Or.inl rfl | exact Or.inr rfl)) (pgn_cons (pg_name (i := 4) sc_law.nd rfl (by first | exact Or.inl rfl | exact Or.inr rfl)) (pgn_cons (pg_name (i := 5) sc_law.nd rfl (by first | exact Or.inl rfl | exact Or.inr rfl)) pgn_nil)))) (ds_cons (ds_asg (ow' := [2]) (de_op op_dAdd (de_var (pv 2)) (de_lst (da_own (de_imm (de_var (pv 4))) (da_own (de_imm (de_var (pv 5))) da_nil (by decide)) (by decide)))) (dg_name (pg_name (i := 2) sc_law.nd rfl (by first | exact Or.inl rfl | exact Or.inr rfl))) rfl rfl rfl) (ds_nil (by decide))) rfl rfl rfl rfl rfl rfl) (ds_cons (ds_for (owl := [2]) (ow' := [2]) (ks := [6, 7, 8, 9, 10, 11]) PassesOwn.never rfl (di_range1 T.n_range (da_br de_int da_nilB)) (dg_name (pg_name (i := 6) sc_law.nd rfl (by first | exact Or.inl rfl | exact Or.inr rfl))) (ds_cons (ds_asg (ow' := [2, 7]) (de_op op_dAdd (de_call (ok__law_cell_at T) (hr.mono (by decide)) (da_br (de_var (pv 0)) (da_br (de_op op_dAdd de_int (de_var (pv 6))) da_nilB))) (de_var (pv 6))) (dg_name (pg_name (i := 7) sc_law.nd rfl (by first | exact Or.inl rfl | exact Or.inr rfl))) rfl rfl rfl) (ds_cons (ds_asg (ow' := [2, 7, 8]) (de_op op_dSub (de_op op_dAdd (de_ix hu (de_var (pv 2)) (de_call (ok__law_part T) (hr.mono (by decide)) (da_br (de_var (pv 7)) (da_br de_int (da_br (de_callB call_dLen T.n_len PySem.boot_len (da_br (de_var (pv 2)) da_nilB)) da_nilB)))) (fun _ _ => rfl)) (de_call (ok__law_part T) (hr.mono (by decide)) (da_br (de_var (pv 7)) (da_br de_int (da_br de_int da_nilB))))) de_int) (dg_name (pg_name (i := 8) sc_law.nd rfl (by first | exact Or.inl rfl | exact Or.inr rfl))) rfl rfl rfl) (ds_cons (ds_asg (ow' := [2, 7, 8, 9]) (de_op op_dAdd (de_var (pv 8)) (de_ix hu (de_lst (da_own (de_call (ok__law_part T) (hr.mono (by decide)) (da_br (de_var (pv 7)) (da_br de_int (da_br de_int da_nilB)))) (da_own (de_op op_dMod (de_var (pv 7)) (de_op op_dPow de_int de_int)) da_nil (by decide)) (by decide))) (de_call (ok__law_part T) (hr.mono (by decide)) (da_br (de_var (pv 7)) (da_br de_int (da_br de_int da_nilB)))) (fun _ _ => rfl))) (dg_name (pg_name (i := 9) sc_law.nd rfl (by first | exact Or.inl rfl | exact Or.inr rfl))) rfl rfl rfl) (ds_cons (ds_asg (ow' := [2, 7, 8, 9, 10]) (de_callTy call_dListOf T.n_list (by decide +kernel) (da_br (de_var (pv 1)) da_nilB)) (dg_name (pg_name (i := 10) sc_law.nd rfl (by first | exact Or.inl rfl | exact Or.inr rfl))) rfl rfl rfl) (ds_cons (ds_asg (ow' := [2, 7, 8, 9, 10, 11]) (de_call (ok_period_of T) (hr.mono (by decide)) (da_br (de_var (pv 8)) (da_br (de_var (pv 9)) (da_br (de_var (pv 10)) da_nilB)))) (dg_name (pg_name (i := 11) sc_law.nd rfl (by first | exact Or.inl rfl | exact Or.inr rfl))) rfl rfl rfl) (ds_cons (ds_if (ow' := [2, 7, 8, 9, 10, 11]) (dt_w (dw_or (dt_not (dt_val (de_isi (n := "tuple") (de_var (pv 11)) T.n_isinstance T.n_tuple (by decide +kernel)))) (dw_or (dt_cmp (op_dNe hu) (de_var (pv 11)) (de_call (ok__law_due T) (hr.mono (by decide)) (da_br (de_var (pv 8)) (da_br (de_var (pv 9)) (da_br (de_var (pv 1)) da_nilB)))) (nomark _)) (dw_or1 (dt_cmp (op_dNe hu) (de_var (pv 10)) (de_var (pv 1)) (nomark _)))))) (ds_one (ds_ret de_bl rfl rfl rfl)) (ds_nil (by decide)) rfl) (ds_nil (by decide)))))))) rfl rfl rfl rfl rfl rfl) (ds_one (ds_ret de_bl rfl rfl rfl))))))⟩
theorem ok_law (T : Txt K mg) : Cal P w K mg base CX0 "law" 3 1 f_law := by
  obtain ⟨fa, fd, F, hm⟩ := T.f_law
  exact ⟨fa, fd, ["_law_script"], fok_law T F, hm, F.kp, F.binds (ps := ["_law_script"]) fun _ _ _ _ _ _ us hl => match us, hl with | [_], _ => rfl⟩
end
theorem txt_mk {K : PySem.W.Frag} {h : Heap} {mg : Str → Option Value} (X : K.In h) (G : h.Ns mainGlobals mg) {f0 f1 f2 f3 f4 f5 : Addr}
    {od0 an0 od1 an1 od2 an2 od3 an3 od4 an4 od5 an5 : Option Addr} {sl0 sl1 sl2 sl3 sl4 sl5 : Array (Option Value)} {oc0 kV0 dc0 pm0 cd0 ct0 oc1 kV1 dc1 pm1 cd1 ct1 oc2 kV2 dc2 pm2 cd2 ct2 oc3 kV3 dc3 pm3 cd3 ct3 oc4 kV4 dc4 pm4 cd4 ct4 oc5 kV5 dc5 pm5 cd5 ct5 : Value}
    (a0 : PySem.W.nsIn K mainGlobals "_law_cell_at" = some (some (.ref f0))) (l0 : K.lookup f0 = some ⟨oc0, od0, .func (PySem.W.fnOf "_law_cell_at" "_law_cell_at" (defArgs s__law_cell_at) (defBody s__law_cell_at) (defScope s__law_cell_at) .none kV0 dc0 pm0 an0 cd0 ct0), sl0⟩) (c0 : PySem.W.codeIn K cd0 "_law_cell_at" = true) (k0 : PySem.W.keepIn K (.ref f0) = true)
    (a1 : PySem.W.nsIn K mainGlobals "_law_part" = some (some (.ref f1))) (l1 : K.lookup f1 = some ⟨oc1, od1, .func (PySem.W.fnOf "_law_part" "_law_part" (defArgs s__law_part) (defBody s__law_part) (defScope s__law_part) .none kV1 dc1 pm1 an1 cd1 ct1), sl1⟩) (c1 : PySem.W.codeIn K cd1 "_law_part" = true) (k1 : PySem.W.keepIn K (.ref f1) = true)
    (a2 : PySem.W.nsIn K mainGlobals "_law_periods" = some (some (.ref f2))) (l2 : K.lookup f2 = some ⟨oc2, od2, .func (PySem.W.fnOf "_law_periods" "_law_periods" (defArgs s__law_periods) (defBody s__law_periods) (defScope s__law_periods) .none kV2 dc2 pm2 an2 cd2 ct2), sl2⟩) (c2 : PySem.W.codeIn K cd2 "_law_periods" = true) (k2 : PySem.W.keepIn K (.ref f2) = true)
    (a3 : PySem.W.nsIn K mainGlobals "period_of" = some (some (.ref f3))) (l3 : K.lookup f3 = some ⟨oc3, od3, .func (PySem.W.fnOf "period_of" "period_of" (defArgs s_period_of) (defBody s_period_of) (defScope s_period_of) .none kV3 dc3 pm3 an3 cd3 ct3), sl3⟩) (c3 : PySem.W.codeIn K cd3 "period_of" = true) (k3 : PySem.W.keepIn K (.ref f3) = true)
    (a4 : PySem.W.nsIn K mainGlobals "_law_due" = some (some (.ref f4))) (l4 : K.lookup f4 = some ⟨oc4, od4, .func (PySem.W.fnOf "_law_due" "_law_due" (defArgs s__law_due) (defBody s__law_due) (defScope s__law_due) .none kV4 dc4 pm4 an4 cd4 ct4), sl4⟩) (c4 : PySem.W.codeIn K cd4 "_law_due" = true) (k4 : PySem.W.keepIn K (.ref f4) = true)
    (a5 : PySem.W.nsIn K mainGlobals "law" = some (some (.ref f5))) (l5 : K.lookup f5 = some ⟨oc5, od5, .func (PySem.W.fnOf "law" "law" (defArgs s_law) (defBody s_law) (defScope s_law) .none kV5 dc5 pm5 an5 cd5 ct5), sl5⟩) (c5 : PySem.W.codeIn K cd5 "law" = true) (k5 : PySem.W.keepIn K (.ref f5) = true)
    (zn_isinstance : PySem.W.nsIn K mainGlobals "isinstance" = some none)
    (zn_len : PySem.W.nsIn K mainGlobals "len" = some none)
    (zn_list : PySem.W.nsIn K mainGlobals "list" = some none)
    (zn_max : PySem.W.nsIn K mainGlobals "max" = some none)
    (zn_min : PySem.W.nsIn K mainGlobals "min" = some none)
    (zn_range : PySem.W.nsIn K mainGlobals "range" = some none)
    (zn_tuple : PySem.W.nsIn K mainGlobals "tuple" = some none) : Txt K mg :=
  ⟨⟨_, _, fun_mk (st := s__law_cell_at) l0 c0 k0, PySem.W.mg_of X G a0⟩, ⟨_, _, fun_mk (st := s__law_part) l1 c1 k1, PySem.W.mg_of X G a1⟩, ⟨_, _, fun_mk (st := s__law_periods) l2 c2 k2, PySem.W.mg_of X G a2⟩, ⟨_, _, fun_mk (st := s_period_of) l3 c3 k3, PySem.W.mg_of X G a3⟩, ⟨_, _, fun_mk (st := s__law_due) l4 c4 k4, PySem.W.mg_of X G a4⟩, ⟨_, _, fun_mk (st := s_law) l5 c5 k5, PySem.W.mg_of X G a5⟩, PySem.W.mg_none_of X G zn_isinstance, PySem.W.mg_none_of X G zn_len, PySem.W.mg_none_of X G zn_list, PySem.W.mg_none_of X G zn_max, PySem.W.mg_none_of X G zn_min, PySem.W.mg_none_of X G zn_range, PySem.W.mg_none_of X G zn_tuple⟩
def spLaw (K : PySem.W.Frag) : Sp := fun vs H Q _ => ∃ (a : Addr) (ns : List Int), vs = [.ref a] ∧ Lf K H a (ns.map V.int) ∧ ns.length ≤ 63 ∧ ∀ H', Q (.bl true) H'
theorem law_all {P : Program} {w : World} {K : PySem.W.Frag} {h : Heap} {mg : Str → Option Value} {fa : Addr} (T : Txt K mg) (hfa : mg "law" = some (.ref fa)) (ht : ∀ ns : List Int, ns.length ≤ 63 → f_law [.dict [(.none, .list (ns.map .int))]] = .ok (.bool true)) :
    ∃ fd : FuncData, (∀ (s : Shared) (v : Value), BindsTo s fd ⟨[v], []⟩ [("_law_script", v)]) ∧ ∀ base : Heap, K.In base → base.Ns mainGlobals mg → FnOk P w K mg base CX0 3 fa fd ["_law_script"] (spLaw K) := by
  obtain ⟨fa2, fd, F, hm⟩ := T.f_law
  cases hfa.symm.trans hm
  refine ⟨fd, fun s v => ?_, fun base _ _ => (fok_law T F).imp fun vs H Q E h => ?_⟩
  · obtain ⟨oc, od, kV, doc, pm, an, cdv, ct, osl, rfl, lk, hcd⟩ := F.ex
    exact .of_eq rfl
  · obtain ⟨a, ns, rfl, hs, hl, q⟩ := h
    obtain ⟨ds, A, r, e, z⟩ := law_sp (mg := mg) hs (ht ns hl)
    refine ⟨ds, A, r, e, ?_⟩
    cases hf : f_law ds with
    | ok d =>
      rw [hf] at z
      intro v H2 B s2 r2 n2 f2
      have z := z v H2 B s2 r2 n2 f2
      subst z
      exact q H2
    | exc x =>
      rw [hf] at z
      exact fun c dd H2 B s2 r2 => (z c dd H2 B s2 r2).elim
    | stk =>
      rw [hf] at z
      exact z
end Dg

/-! Dv: what the layer's operations come to on plain values -/
namespace Dg
open PySem PySem.Spec PyProof.Rows L2
theorem okD_int (i : Int) : okD (.int i) = true := by simp [okD, flat, PyData.plain, PyData.depth]
theorem okD_str (i : Str) : okD (.str i) = true := by simp [okD, flat, PyData.plain, PyData.depth]
theorem okD_bool (i : Bool) : okD (.bool i) = true := by simp [okD, flat, PyData.plain, PyData.depth]
theorem okD_none : okD .none = true := by simp [okD, flat, PyData.plain, PyData.depth]
theorem beq_dec {α : Type} [BEq α] [LawfulBEq α] [DecidableEq α] (a b : α) : (a == b) = decide (a = b) := by
  rw [Bool.eq_iff_iff, beq_iff_eq, decide_eq_true_eq]
@[simp] theorem dEq_int (i j : Int) : dEq (.int i) (.int j) = .ok (.bool (decide (i = j))) := by
  unfold dEq
  rw [okD_int, okD_int, if_pos (show (true && true) = true from rfl)]
  simp only [PyData.eqv, beq_dec]
@[simp] theorem dEq_str (i j : Str) : dEq (.str i) (.str j) = .ok (.bool (decide (i = j))) := by
  unfold dEq
  rw [okD_str, okD_str, if_pos (show (true && true) = true from rfl)]
  simp only [PyData.eqv, beq_dec]
@[simp] theorem dEq_bool (i j : Bool) : dEq (.bool i) (.bool j) = .ok (.bool (decide (i = j))) := by
  unfold dEq
  rw [okD_bool, okD_bool, if_pos (show (true && true) = true from rfl)]
  simp only [PyData.eqv, beq_dec]
@[simp] theorem dEq_none_none : dEq .none .none = .ok (.bool true) := by
  unfold dEq
  rw [okD_none, if_pos (show (true && true) = true from rfl)]
  simp only [PyData.eqv]
@[simp] theorem dEq_none_int (i : Int) : dEq .none (.int i) = .ok (.bool false) := by
  unfold dEq
  rw [okD_none, okD_int, if_pos (show (true && true) = true from rfl)]
  simp only [PyData.eqv]
@[simp] theorem dEq_int_none (i : Int) : dEq (.int i) .none = .ok (.bool false) := by
  unfold dEq
  rw [okD_none, okD_int, if_pos (show (true && true) = true from rfl)]
  simp only [PyData.eqv]
@[simp] theorem dNe_int (i j : Int) : dNe (.int i) (.int j) = .ok (.bool (!decide (i = j))) := by
  unfold dNe
  rw [okD_int, okD_int, if_pos (show (true && true) = true from rfl)]
  simp only [PyData.eqv, beq_dec]
@[simp] theorem dNe_str (i j : Str) : dNe (.str i) (.str j) = .ok (.bool (!decide (i = j))) := by
  unfold dNe
  rw [okD_str, okD_str, if_pos (show (true && true) = true from rfl)]
  simp only [PyData.eqv, beq_dec]
@[simp] theorem dNe_bool (i j : Bool) : dNe (.bool i) (.bool j) = .ok (.bool (!decide (i = j))) := by
  unfold dNe
  rw [okD_bool, okD_bool, if_pos (show (true && true) = true from rfl)]
  simp only [PyData.eqv, beq_dec]
@[simp] theorem dNe_none_none : dNe .none .none = .ok (.bool false) := by
  unfold dNe
  rw [okD_none, if_pos (show (true && true) = true from rfl)]
  simp only [PyData.eqv]
  rfl
@[simp] theorem dNe_none_int (i : Int) : dNe .none (.int i) = .ok (.bool true) := by
  unfold dNe
  rw [okD_none, okD_int, if_pos (show (true && true) = true from rfl)]
  simp only [PyData.eqv]
  rfl
@[simp] theorem dNe_int_none (i : Int) : dNe (.int i) .none = .ok (.bool true) := by
  unfold dNe
  rw [okD_none, okD_int, if_pos (show (true && true) = true from rfl)]
  simp only [PyData.eqv]
  rfl
theorem ord_int (i j : Int) : ordD (.int i) (.int j) = true := by simp [ordD, okD_int, PySem.W.alike, isNone]
theorem ord_str (i j : Str) : ordD (.str i) (.str j) = true := by simp [ordD, okD_str, PySem.W.alike, isNone]
@[simp] theorem dLt_int (i j : Int) : dLt (.int i) (.int j) = .ok (.bool (decide (i < j))) := by
  unfold dLt
  rw [ord_int, if_pos rfl, PySem.W.dataLt_int]
@[simp] theorem dGt_int (i j : Int) : dGt (.int i) (.int j) = .ok (.bool (decide (j < i))) := by
  unfold dGt
  rw [ord_int, if_pos rfl, PySem.W.dataLt_int]
@[simp] theorem dLe_int (i j : Int) : dLe (.int i) (.int j) = .ok (.bool (decide (i ≤ j))) := by
  unfold dLe
  rw [ord_int, if_pos rfl, PySem.W.dataLt_int]
  congr 2
  rw [Bool.eq_iff_iff]
  simp
@[simp] theorem dGe_int (i j : Int) : dGe (.int i) (.int j) = .ok (.bool (decide (j ≤ i))) := by
  unfold dGe
  rw [ord_int, if_pos rfl, PySem.W.dataLt_int]
  congr 2
  rw [Bool.eq_iff_iff]
  simp
/-- a text's order -/
def ltS (a b : Str) : Bool := decide (a.cps.toList < b.cps.toList)
@[simp] theorem dLt_str (i j : Str) : dLt (.str i) (.str j) = .ok (.bool (ltS i j)) := by
  unfold dLt
  rw [ord_str, if_pos rfl, PySem.W.dataLt_str]
  rfl
@[simp] theorem dGe_str (i j : Str) : dGe (.str i) (.str j) = .ok (.bool (!ltS i j)) := by
  unfold dGe
  rw [ord_str, if_pos rfl, PySem.W.dataLt_str]
  rfl
@[simp] theorem dAdd_int (i j : Int) : dAdd (.int i) (.int j) = .ok (.int (i + j)) := (rfl)
@[simp] theorem dSub_int (i j : Int) : dSub (.int i) (.int j) = .ok (.int (i - j)) := (rfl)
theorem dMod_int {i j : Int} (h : 0 < j) : dMod (.int i) (.int j) = .ok (.int (i % j)) := if_pos h
theorem dDiv_int {i j : Int} (h : 0 < j ∧ j < 1073741824) : dDiv (.int i) (.int j) = .ok (.int (i / j)) := if_pos h
theorem dMul_left {i j : Int} (h : smallI i = true) : dMul2 (.int i) (.int j) = .ok (.int (i * j)) := by
  unfold dMul2
  simp [h]
theorem dMul_right {i j : Int} (h : smallI j = true) : dMul2 (.int i) (.int j) = .ok (.int (i * j)) := by
  unfold dMul2
  simp [h]
@[simp] theorem dNeg_int (i : Int) : dNeg (.int i) = .ok (.int (-i)) := (rfl)
@[simp] theorem dIsN_none : dIsN .none .none = .ok (.bool true) := (rfl)
@[simp] theorem dIsN_int (i : Int) : dIsN (.int i) .none = .ok (.bool false) := (rfl)
@[simp] theorem dIsN_str (i : Str) : dIsN (.str i) .none = .ok (.bool false) := (rfl)
@[simp] theorem dIsN_list (i : List D) : dIsN (.list i) .none = .ok (.bool false) := (rfl)
@[simp] theorem dIsN_tup (i : List D) : dIsN (.tuple i) .none = .ok (.bool false) := (rfl)
@[simp] theorem tst_bool (b : Bool) : tst (.bool b) = .ok b := (rfl)
@[simp] theorem chk_int (i : Int) : chk (.int i) = .ok (.int i) := (rfl)
@[simp] theorem chk_str (i : Str) : chk (.str i) = .ok (.str i) := (rfl)
@[simp] theorem chk_bool (i : Bool) : chk (.bool i) = .ok (.bool i) := (rfl)
@[simp] theorem chk_none : chk .none = .ok .none := (rfl)
@[simp] theorem nox_ok {α : Type} (a : α) : (R.ok a).nox = R.ok a := (rfl)
@[simp] theorem nox_stk {α : Type} : (R.stk : R α).nox = R.stk := (rfl)
/-- the layer's words, opened -/
theorem vr_def (i : Nat) (ρ : Env) : vr i ρ = match ρ[i]? with
  | some (some d) => .ok d
  | _ => .stk := (rfl)
def sgn (c : Nat) : D := .str ⟨#[c]⟩
@[simp] theorem dInS_sgn (neg : Bool) (c : Nat) (t : Str) : dInS neg (.str ⟨#[c]⟩) (.str t) = .ok (.bool (neg != decide (c ∈ t.cps.toList))) := (rfl)
theorem dItems_str (s : Str) : dItems (.str s) = .ok (s.cps.toList.map sgn) := (rfl)
/-! ### statements, as steps from one outcome to the next -/
def Out.seq (o : Out) (g : Env → Out) : Out := match o with
  | .nx r => g r
  | o => o
def R.out {α : Type} (r : R α) (ρ : Env) (k : α → Out) : Out := match r with
  | .ok a => k a
  | .exc x => .exc x ρ
  | .stk => .stk
def Out.turn (o : Out) (ks : List Nat) (k : Env → Out) : Out := match o with
  | .nx r => k (kill ks r)
  | .cnt r => k (kill ks r)
  | .brk r => .nx (kill ks r)
  | o => o
@[simp] theorem seq_nx (r : Env) (g : Env → Out) : (Out.nx r).seq g = g r := (rfl)
@[simp] theorem seq_ret (d : D) (r : Env) (g : Env → Out) : (Out.ret d r).seq g = .ret d r := (rfl)
@[simp] theorem seq_brk (r : Env) (g : Env → Out) : (Out.brk r).seq g = .brk r := (rfl)
@[simp] theorem seq_cnt (r : Env) (g : Env → Out) : (Out.cnt r).seq g = .cnt r := (rfl)
@[simp] theorem seq_exc (x : Exn) (r : Env) (g : Env → Out) : (Out.exc x r).seq g = .exc x r := (rfl)
@[simp] theorem seq_stk (g : Env → Out) : (Out.stk).seq g = .stk := (rfl)
@[simp] theorem out_ok {α : Type} (a : α) (ρ : Env) (k : α → Out) : (R.ok a).out ρ k = k a := (rfl)
@[simp] theorem out_exc {α : Type} (a : Exn) (ρ : Env) (k : α → Out) : (R.exc a).out ρ k = .exc a ρ := (rfl)
@[simp] theorem out_stk {α : Type} (ρ : Env) (k : α → Out) : (R.stk).out ρ k = .stk := (rfl)
@[simp] theorem turn_nx (r : Env) (ks : List Nat) (k : Env → Out) : (Out.nx r).turn ks k = k (kill ks r) := (rfl)
@[simp] theorem turn_cnt (r : Env) (ks : List Nat) (k : Env → Out) : (Out.cnt r).turn ks k = k (kill ks r) := (rfl)
@[simp] theorem turn_brk (r : Env) (ks : List Nat) (k : Env → Out) : (Out.brk r).turn ks k = .nx (kill ks r) := (rfl)
@[simp] theorem turn_ret (d : D) (r : Env) (ks : List Nat) (k : Env → Out) : (Out.ret d r).turn ks k = .ret d r := (rfl)
@[simp] theorem turn_exc (x : Exn) (r : Env) (ks : List Nat) (k : Env → Out) : (Out.exc x r).turn ks k = .exc x r := (rfl)
@[simp] theorem turn_stk (ks : List Nat) (k : Env → Out) : (Out.stk).turn ks k = .stk := (rfl)
section
variable {c : Prop} [Decidable c] {α β : Type}
@[simp] theorem ite_seq (a b : Out) (g : Env → Out) : (if c then a else b).seq g = if c then a.seq g else b.seq g := by split <;> rfl
@[simp] theorem ite_turn (a b : Out) (ks : List Nat) (g : Env → Out) : (if c then a else b).turn ks g = if c then a.turn ks g else b.turn ks g := by split <;> rfl
@[simp] theorem ite_out (a b : R α) (ρ : Env) (k : α → Out) : (if c then a else b).out ρ k = if c then a.out ρ k else b.out ρ k := by split <;> rfl
@[simp] theorem ite_bind (a b : R α) (k : α → R β) : (if c then a else b).bind k = if c then a.bind k else b.bind k := by split <;> rfl
@[simp] theorem ite_nox (a b : R α) : (if c then a else b).nox = if c then a.nox else b.nox := by split <;> rfl
@[simp] theorem ite_outR (a b : Out) : outR (if c then a else b) = if c then outR a else outR b := by split <;> rfl
end
@[simp] theorem outR_nx (r : Env) : outR (.nx r) = .ok .none := (rfl)
@[simp] theorem outR_ret (d : D) (r : Env) : outR (.ret d r) = .ok d := (rfl)
@[simp] theorem outR_exc (x : Exn) (r : Env) : outR (.exc x r) = .exc x := (rfl)
@[simp] theorem outR_stk : outR .stk = .stk := (rfl)
section
variable (f g h : Env → R D) (c d : Env → R Bool) (l : Env → R (List D)) (u v : Env → Out) (ρ : Env) (ms is ks : List Nat) (t : D → Option (List D)) (op op2 : D → D → R D) (i : Nat)
@[simp] theorem e_seqS : seqS u v ρ = (u ρ).seq v := (rfl)
@[simp] theorem e_nxS : nxS ρ = .nx ρ := (rfl)
@[simp] theorem e_ifS : ifS c u v ρ = (c ρ).out ρ fun b => if b = true then u ρ else v ρ := by
  unfold ifS
  cases c ρ <;> rfl
@[simp] theorem e_retS : retS f ρ = (f ρ).out ρ fun d => .ret d ρ := by
  unfold retS
  cases f ρ <;> rfl
@[simp] theorem e_retN : retN ρ = .ret .none ρ := (rfl)
@[simp] theorem e_brkS : brkS ρ = .brk ρ := (rfl)
@[simp] theorem e_cntS : cntS ρ = .cnt ρ := (rfl)
@[simp] theorem e_expS : expS f ρ = (f ρ).out ρ fun _ => .nx ρ := by
  unfold expS
  cases f ρ <;> rfl
@[simp] theorem e_asg1 : asgS ms is t1 f ρ = (f ρ).out ρ fun d => .nx (setsD is [d] (kill ms ρ)) := by
  unfold asgS
  cases f ρ <;> rfl
theorem e_asgS : asgS ms is t f ρ = (f ρ).out ρ fun d => match t d with
    | some ds => .nx (setsD is ds (kill ms ρ))
    | none => .stk := by
  unfold asgS
  cases f ρ <;> rfl
@[simp] theorem e_b2 : b2 op f g ρ = (f ρ).bind fun x => (g ρ).bind fun y => op x y := (rfl)
@[simp] theorem e_b1 (op : D → R D) : b1 op f ρ = (f ρ).bind op := (rfl)
@[simp] theorem e_cst (d : D) : cst d ρ = .ok d := (rfl)
@[simp] theorem e_vr : vr i ρ = match ρ[i]? with
  | some (some d) => .ok d
  | _ => .stk := (rfl)
@[simp] theorem e_chkE : chkE f ρ = (f ρ).bind chk := (rfl)
@[simp] theorem e_tb : Dg.tb f ρ = (f ρ).bind tst := (rfl)
@[simp] theorem e_notT : notT c ρ = (c ρ).bind fun b => .ok (!b) := (rfl)
@[simp] theorem e_andT : andT c d ρ = (c ρ).bind fun b => if b = true then d ρ else .ok false := (rfl)
@[simp] theorem e_orT : orT c d ρ = (c ρ).bind fun b => if b = true then .ok true else d ρ := (rfl)
@[simp] theorem e_ifE : ifE c f g ρ = (c ρ).bind fun b => if b = true then f ρ else g ρ := (rfl)
theorem e_ch3 : ch3 op op2 f g h ρ = (f ρ).bind fun x => (g ρ).bind fun y => ((op x y).bind tst).bind fun b => if b = true then (h ρ).bind fun z => op2 y z else .ok (.bool false) := by
  unfold ch3
  cases f ρ with
  | ok x =>
    cases g ρ with
    | ok y =>
      simp only [R.bind_ok]
      cases op x y with
      | ok q =>
        cases q with
        | bool b => cases b <;> rfl
        | _ => rfl
      | exc z => rfl
      | stk => rfl
    | exc z => rfl
    | stk => rfl
  | exc z => rfl
  | stk => rfl
@[simp] theorem e_call (k : List D → R D) : call k l ρ = (l ρ).bind k := (rfl)
@[simp] theorem e_callP (k : List D → R D) : callP k l ρ = (l ρ).bind fun ds => (k ds).nox := (rfl)
@[simp] theorem e_nilL : nilL ρ = .ok [] := (rfl)
@[simp] theorem e_conL : conL f l ρ = (f ρ).bind fun d => (l ρ).bind fun ds => .ok (d :: ds) := (rfl)
@[simp] theorem e_tupE : tupE l ρ = (l ρ).bind fun ds => .ok (.tuple ds) := (rfl)
@[simp] theorem e_lstE : lstE l ρ = (l ρ).bind fun ds => .ok (.list ds) := (rfl)
@[simp] theorem e_newD : newD ρ = .ok (.dict []) := (rfl)
@[simp] theorem e_slE (a b : Env → R (Option Int)) : slE f a b ρ = (f ρ).bind fun x => (a ρ).bind fun i => (b ρ).bind fun j => dSl x i j := (rfl)
@[simp] theorem e_noO : noO ρ = .ok none := (rfl)
@[simp] theorem e_toO : toO f ρ = (f ρ).bind asI := (rfl)
@[simp] theorem e_itE : itE f ρ = (f ρ).bind dItems := (rfl)
@[simp] theorem e_rgE : rgE l ρ = (l ρ).bind dRange := (rfl)
@[simp] theorem e_mth : mth op f g ρ = (f ρ).bind fun x => match x with
  | .str _ => (g ρ).bind fun y => op x y
  | _ => .stk := (rfl)
@[simp] theorem e_yesT : yesT ρ = .ok true := (rfl)
@[simp] theorem asI_int (j : Int) : asI (.int j) = .ok (some j) := (rfl)
theorem e_forS : forS is t ks l u ρ = (l ρ).out ρ fun xs => turns is t ks u xs (kill ks ρ) := by
  unfold forS
  cases l ρ <;> rfl
theorem turns_cons1 (x : D) (xs : List D) : turns is t1 ks u (x :: xs) ρ = (u (setsD is [x] ρ)).turn ks fun r => turns is t1 ks u xs r := by
  rw [turns]
  simp only [t1]
  cases u (setsD is [x] ρ) <;> rfl
theorem turns_consN (x : D) (xs ds : List D) (h : t x = some ds) : turns is t ks u (x :: xs) ρ = (u (setsD is ds ρ)).turn ks fun r => turns is t ks u xs r := by
  rw [turns, h]
  simp only
  cases u (setsD is ds ρ) <;> rfl
theorem turns_nil : turns is t ks u [] ρ = .nx ρ := (rfl)
theorem e_compE (elt : Env → R D) : compE is t l c elt ρ = (l ρ).bind fun xs => if xs.length ≤ sizeLine then (compGo is t c elt (kill is ρ) xs).bind fun ys => .ok (.list ys) else .stk := (rfl)
end
@[simp] theorem kill_nil (ρ : Env) : kill [] ρ = ρ := (rfl)
@[simp] theorem kill_cons (i : Nat) (is : List Nat) (ρ : Env) : kill (i :: is) ρ = kill is (ρ.set i none) := (rfl)
@[simp] theorem setsD_nil (ds : List D) (ρ : Env) : setsD [] ds ρ = ρ := by cases ds <;> rfl
@[simp] theorem setsD_cons (i : Nat) (is : List Nat) (d : D) (ds : List D) (ρ : Env) : setsD (i :: is) (d :: ds) ρ = setsD is ds (ρ.set i (some d)) := (rfl)
@[simp] theorem mutS_eq (i : Nat) (ms : List Nat) (g : List D → List D → Option D) (f : Env → R (List D)) (ρ : Env) : mutS i ms g f ρ = match ρ[i]? with
  | some (some (.list xs)) => (f ρ).out ρ fun ds => match g xs ds with
    | some d => .nx ((kill ms ρ).set i (some d))
    | none => .stk
  | _ => .stk := by
  unfold mutS
  generalize ρ[i]? = o
  rcases o with _ | _ | d
  · rfl
  · rfl
  · cases d <;> first | rfl | (cases f ρ <;> rfl)
/-- a comprehension without a test, each element given -/
theorem compGo_map {is : List Nat} {t : D → Option (List D)} {elt : Env → R D} {ρ : Env} {α : Type} (en : α → D) (g : α → D) : ∀ (xs : List α), (∀ x ∈ xs, ∃ ds, t (en x) = some ds ∧ elt (setsD is ds ρ) = .ok (g x)) → compGo is t yesT elt ρ (xs.map en) = .ok (xs.map g)
  | [], _ => rfl
  | x :: xs, h => by
    obtain ⟨ds, e1, e2⟩ := h x List.mem_cons_self
    have ih := compGo_map en g xs fun y hy => h y (List.mem_cons_of_mem _ hy)
    rw [List.map_cons, compGo, e1]
    simp only [e_yesT, nox_ok, R.bind_ok, if_pos, e2, ih, List.map_cons]
/-- .. with a test -/
theorem compGo_filter {is : List Nat} {t : D → Option (List D)} {c : Env → R Bool} {elt : Env → R D} {ρ : Env} {α : Type} (en : α → D) (p : α → Bool) (g : α → D) : ∀ (xs : List α), (∀ x ∈ xs, ∃ ds, t (en x) = some ds ∧ c (setsD is ds ρ) = .ok (p x) ∧ (p x = true → elt (setsD is ds ρ) = .ok (g x))) → compGo is t c elt ρ (xs.map en) = .ok ((xs.filter p).map g)
  | [], _ => rfl
  | x :: xs, h => by
    obtain ⟨ds, e1, e2, e3⟩ := h x List.mem_cons_self
    have ih := compGo_filter en p g xs fun y hy => h y (List.mem_cons_of_mem _ hy)
    rw [List.map_cons, compGo, e1]
    simp only [e2, nox_ok, R.bind_ok]
    cases hp : p x with
    | false =>
      rw [List.filter_cons_of_neg (by rw [hp]; exact Bool.false_ne_true), if_neg Bool.false_ne_true]
      exact ih
    | true =>
      rw [List.filter_cons_of_pos hp, if_pos rfl, e3 hp]
      simp only [nox_ok, R.bind_ok, ih, List.map_cons]
/-- a loop as a fold -/
theorem turns_fold {is ks : List Nat} {t : D → Option (List D)} {body : Env → Out} {α S : Type} (en : α → D) (st : S → Env) (step : S → α → S) : ∀ (xs : List α) (s : S), (∀ s, ∀ x ∈ xs, ∃ ds, t (en x) = some ds ∧ ∃ r, (body (setsD is ds (st s)) = .nx r ∨ body (setsD is ds (st s)) = .cnt r) ∧ kill ks r = st (step s x)) → turns is t ks body (xs.map en) (st s) = .nx (st (xs.foldl step s))
  | [], s, _ => rfl
  | x :: xs, s, h => by
    obtain ⟨ds, e1, r, e2, e3⟩ := h s x List.mem_cons_self
    rw [List.map_cons, turns_consN _ _ _ _ _ _ _ _ e1]
    have ih := turns_fold en st step xs (step s x) fun s y hy => h s y (List.mem_cons_of_mem _ hy)
    rcases e2 with e2 | e2 <;> (rw [e2]; simp only [turn_nx, turn_cnt, e3, ih, List.foldl_cons])
/-- .. with what holds of the state at each turn (the items taken so far) -/
theorem turns_foldI {is ks : List Nat} {t : D → Option (List D)} {body : Env → Out} {α S : Type} (en : α → D) (st : S → Env) (step : S → α → S) (I : Nat → S → Prop) : ∀ (xs : List α) (n : Nat) (s : S), I n s → (∀ n s, ∀ x ∈ xs, I n s → I (n + 1) (step s x) ∧ ∃ ds, t (en x) = some ds ∧ ∃ r, (body (setsD is ds (st s)) = .nx r ∨ body (setsD is ds (st s)) = .cnt r) ∧ kill ks r = st (step s x)) → turns is t ks body (xs.map en) (st s) = .nx (st (xs.foldl step s)) ∧ I (n + xs.length) (xs.foldl step s)
  | [], n, s, hI, _ => ⟨rfl, hI⟩
  | x :: xs, n, s, hI, h => by
    obtain ⟨hI2, ds, e1, r, e2, e3⟩ := h n s x List.mem_cons_self hI
    rw [List.map_cons, turns_consN _ _ _ _ _ _ _ _ e1]
    obtain ⟨ih1, ih2⟩ := turns_foldI en st step I xs (n + 1) (step s x) hI2 fun n s y hy => h n s y (List.mem_cons_of_mem _ hy)
    refine ⟨?_, ?_⟩
    · rcases e2 with e2 | e2 <;> (rw [e2]; simp only [turn_nx, turn_cnt, e3, ih1, List.foldl_cons])
    · rw [List.length_cons, Nat.add_comm xs.length 1, ← Nat.add_assoc]
      exact ih2
/-- a loop that searches: it goes on where p holds, and hands back d where it doesn't -/
theorem turns_search {is ks : List Nat} {t : D → Option (List D)} {body : Env → Out} {α : Type} {ρ : Env} {d : D} (en : α → D) (p : α → Bool) : ∀ (xs : List α), (∀ x ∈ xs, ∃ ds, t (en x) = some ds ∧ (p x = true → ∃ r, (body (setsD is ds ρ) = .nx r ∨ body (setsD is ds ρ) = .cnt r) ∧ kill ks r = ρ) ∧ (p x = false → ∃ r, body (setsD is ds ρ) = .ret d r)) →
    (xs.all p = true → turns is t ks body (xs.map en) ρ = .nx ρ) ∧ (xs.all p = false → ∃ r, turns is t ks body (xs.map en) ρ = .ret d r)
  | [], _ => ⟨(fun _ => rfl), (fun h => by cases h)⟩
  | x :: xs, h => by
    obtain ⟨ds, e1, e2, e3⟩ := h x List.mem_cons_self
    obtain ⟨i1, i2⟩ := turns_search en p xs fun y hy => h y (List.mem_cons_of_mem _ hy)
    rw [List.map_cons, turns_consN _ _ _ _ _ _ _ _ e1, List.all_cons]
    cases hp : p x with
    | true =>
      obtain ⟨r, e4, e5⟩ := e2 hp
      rw [Bool.true_and]
      rcases e4 with e4 | e4 <;> (rw [e4]; simp only [turn_nx, turn_cnt, e5]; exact ⟨i1, i2⟩)
    | false =>
      obtain ⟨r, e4⟩ := e3 hp
      rw [e4, Bool.false_and]
      exact ⟨(fun z => by cases z), (fun _ => ⟨r, rfl⟩)⟩
end Dg

/-! Dv2: values of laws in common: trees that can be compared, positions, texts, ranges -/
namespace Dg
open PySem PySem.Spec PyProof.Rows L2
/-! ### trees of a depth -/
def OkN (n : Nat) (d : D) : Prop := flat d = true ∧ d.plain = true ∧ d.depth ≤ n
theorem okN_int (n : Nat) (i : Int) : OkN n (.int i) := ⟨rfl, rfl, Nat.zero_le _⟩
theorem okN_str (n : Nat) (i : Str) : OkN n (.str i) := ⟨rfl, rfl, Nat.zero_le _⟩
theorem okN_bool (n : Nat) (i : Bool) : OkN n (.bool i) := ⟨rfl, rfl, Nat.zero_le _⟩
theorem okN_none (n : Nat) : OkN n .none := ⟨rfl, rfl, Nat.zero_le _⟩
theorem okN_all {n : Nat} : ∀ {ds : List D}, (∀ d ∈ ds, OkN n d) → flatL ds = true ∧ PyData.plainAll ds = true ∧ PyData.depthAll ds ≤ n
  | [], _ => ⟨rfl, rfl, Nat.zero_le _⟩
  | d :: ds, h => by
    obtain ⟨a, b, c⟩ := okN_all fun z hz => h z (List.mem_cons_of_mem _ hz)
    obtain ⟨a1, b1, c1⟩ := h d List.mem_cons_self
    refine ⟨?_, ?_, ?_⟩
    · simp [flatL, a, a1]
    · simp [PyData.plainAll, b, b1]
    · simp only [PyData.depthAll]
      omega
theorem okN_list {n : Nat} {ds : List D} (h : ∀ d ∈ ds, OkN n d) : OkN (n + 1) (.list ds) := by
  obtain ⟨a, b, c⟩ := okN_all h
  refine ⟨?_, ?_, ?_⟩
  · simpa [flat] using a
  · simpa [PyData.plain] using b
  · simp only [PyData.depth]
    omega
theorem okN_tup {n : Nat} {ds : List D} (h : ∀ d ∈ ds, OkN n d) : OkN (n + 1) (.tuple ds) := by
  obtain ⟨a, b, c⟩ := okN_all h
  refine ⟨?_, ?_, ?_⟩
  · simpa [flat] using a
  · simpa [PyData.plain] using b
  · simp only [PyData.depth]
    omega
theorem OkN.ok {n : Nat} {d : D} (h : OkN n d) (hn : n ≤ 60 := by decide) : okD d = true := by
  unfold okD
  rw [h.1, h.2.1, decide_eq_true (Nat.le_trans h.2.2 hn)]
  rfl
theorem dEq_self {d : D} (h : okD d = true) : dEq d d = .ok (.bool true) := by
  unfold dEq
  rw [h, if_pos (show (true && true) = true from rfl), PySem.SeqAt.eqv_refl_plain d (okD.plain h)]
theorem dNe_self {d : D} (h : okD d = true) : dNe d d = .ok (.bool false) := by
  unfold dNe
  rw [h, if_pos (show (true && true) = true from rfl), PySem.SeqAt.eqv_refl_plain d (okD.plain h)]
  rfl
/-! ### immutable trees -/
theorem immL_of {ds : List D} (h : ∀ d ∈ ds, imm d = true) : immL ds = true := by
  induction ds with
  | nil => rfl
  | cons d ds ih =>
    rw [immL, h d List.mem_cons_self, ih fun z hz => h z (List.mem_cons_of_mem _ hz)]
    rfl
theorem immL_map {α : Type} (f : α → D) (xs : List α) (h : ∀ x, imm (f x) = true) : immL (xs.map f) = true := immL_of fun d hd => by
  obtain ⟨x, _, e⟩ := List.mem_map.mp hd
  rw [← e]
  exact h x
@[simp] theorem imm_int (i : Int) : imm (.int i) = true := (rfl)
@[simp] theorem imm_str (i : Str) : imm (.str i) = true := (rfl)
/-! ### operations at plain values -/
theorem dMod_pos {i j : Int} (h : 0 < j) : dMod (.int i) (.int j) = .ok (.int (i % j)) := if_pos h
theorem small_of {i : Int} (h : -(2 ^ 64) < i ∧ i < 2 ^ 64) : smallI i = true := decide_eq_true h
theorem dPow_nat {i j : Int} (h : 0 ≤ j ∧ j ≤ 1000000 ∧ i.natAbs < 2 ^ 64) : dPow (.int i) (.int j) = .ok (.int (i ^ j.toNat)) := if_pos h
theorem dAdd_strs {a b : Str} (h : a.length + b.length ≤ sizeLine) : dAdd (.str a) (.str b) = .ok (.str (a ++ b)) := if_pos h
theorem dAdd_lists {a b : List D} (h : (immL a && immL b) = true ∧ a.length + b.length ≤ sizeLine) : dAdd (.list a) (.list b) = .ok (.list (a ++ b)) := if_pos h
theorem dIx_str1 {a : Str} (h : a.length ≤ sizeLine) {i : Int} {k : Nat} (hi : i = k) (hk : k < a.cps.toList.length) : dIx (.str a) (.int i) = .ok (.str ⟨#[a.cps.toList[k]]⟩) := by
  subst hi
  show (if a.length ≤ sizeLine then ofO ((atI a.cps.toList (k : Int)).map fun c => PyData.str ⟨#[c]⟩) else .stk) = _
  rw [if_pos h, show atI a.cps.toList (k : Int) = some a.cps.toList[k] from atI_nat (List.getElem?_eq_getElem hk)]
  rfl
theorem dIx_listN {xs : List D} {i : Int} {k : Nat} (hi : i = k) (hk : k < xs.length) : dIx (.list xs) (.int i) = .ok xs[k] := by
  subst hi
  show ofO (atI xs (k : Int)) = _
  rw [show atI xs (k : Int) = some xs[k] from atI_nat (List.getElem?_eq_getElem hk)]
  rfl
theorem dIx_two {x y : D} {i : Int} (h : i = 0 ∨ i = 1) : dIx (.list [x, y]) (.int i) = .ok (if i = 0 then x else y) := by
  rcases h with h | h
  · subst h
    rfl
  · subst h
    rfl
theorem dLen_list (xs : List D) : dLen [.list xs] = .ok (.int xs.length) := (rfl)
theorem dLen_strN {a : Str} (h : a.length ≤ sizeLine) : dLen [.str a] = .ok (.int a.length) := if_pos h
theorem dMax_int (i j : Int) : dMax2 [.int i, .int j] = .ok (.int (if j > i then j else i)) := (rfl)
theorem dMin_int (i j : Int) : dMin2 [.int i, .int j] = .ok (.int (if j < i then j else i)) := (rfl)
theorem dItems_list (xs : List D) : dItems (.list xs) = .ok xs := (rfl)
theorem dRange_one {j : Nat} (h : big62 j = true) : dRange [.int j] = .ok ((List.range j).map fun (i : Nat) => .int i) := by
  show (if big62 (j : Int) = true then R.ok ((List.range (j : Int).toNat).map fun (i : Nat) => PyData.int (0 + i)) else R.stk) = _
  rw [if_pos h]
  simp
/-! ### a script's cells -/
def scrD (ns : List Int) : D := .dict [(.none, .list (ns.map .int))]
theorem dLen_scr (ns : List Int) : dLen [scrD ns] = .ok (.int ns.length) := by
  unfold scrD dLen
  simp
theorem dIx_scr (ns : List Int) (k : Nat) (h : k < ns.length) : dIx (scrD ns) (.int k) = .ok (.int (ns.getD k 0)) := by
  show ofO (atI (ns.map PyData.int) (k : Int)) = _
  rw [show atI (ns.map PyData.int) (k : Int) = some ((ns.map PyData.int)[k]'(by rw [List.length_map]; exact h)) from atI_nat (List.getElem?_eq_getElem (by rw [List.length_map]; exact h))]
  rw [List.getElem_map, List.getD_eq_getElem?_getD, List.getElem?_eq_getElem h]
  rfl
theorem dSl_scr (ns : List Int) (a b : Option Int) : dSl (scrD ns) a b = .ok (.list ((cutA ns a b).map .int)) := by
  show (if immL (ns.map PyData.int) = true then R.ok (PyData.list (cutA (ns.map PyData.int) a b)) else .stk) = _
  rw [if_pos (immL_map _ ns imm_int)]
  unfold cutA
  rw [List.length_map, ← List.map_drop, ← List.map_take]
theorem cutA_len {α : Type} (xs : List α) (a b : Nat) : (cutA xs (some (a : Int)) (some (b : Int))).length ≤ b - a := by
  unfold cutA
  rw [HT.sIx_nat, HT.sIx_nat, List.length_take]
  omega
/-- the laws' mixing of a cell -/
def part (c k m : Int) : Int := (c % 99991 + 17) * (48271 + 7919 * k) % 65537 * (k + 3) % 8191 % m
theorem part_pos (c k : Int) {m : Int} (h : 0 < m) : 0 ≤ part c k m ∧ part c k m < m := ⟨Int.emod_nonneg _ (by omega), Int.emod_lt_of_pos _ h⟩
theorem part_nat (c k : Int) {m : Nat} (h : 0 < m) : ∃ j : Nat, part c k m = j ∧ j < m := by
  obtain ⟨a, b⟩ := part_pos c k (m := m) (by omega)
  exact ⟨(part c k m).toNat, by omega, by omega⟩
theorem part_two (c k : Int) : part c k 2 = 0 ∨ part c k 2 = 1 := by
  obtain ⟨a, b⟩ := part_pos c k (m := 2) (by decide)
  omega
theorem part_ok (c k m : Int) (h : 0 < m) (ρ : Env) (h0 : ρ[0]? = some (some (.int c))) (h1 : ρ[1]? = some (some (.int k))) (h2 : ρ[2]? = some (some (.int m))) :
    b2 dMod (b2 dMod (b2 dMul2 (b2 dMod (b2 dMul2 (b2 dAdd (b2 dMod (vr 0) (cst (.int 99991))) (cst (.int 17))) (b2 dAdd (cst (.int 48271)) (b2 dMul2 (cst (.int 7919)) (vr 1)))) (cst (.int 65537))) (b2 dAdd (vr 1) (cst (.int 3)))) (cst (.int 8191))) (vr 2) ρ = .ok (.int (part c k m)) := by
  have a1 := Int.emod_nonneg c (show (99991 : Int) ≠ 0 by decide)
  have a2 := Int.emod_lt_of_pos c (show (0 : Int) < 99991 by decide)
  have b1 := Int.emod_nonneg ((c % 99991 + 17) * (48271 + 7919 * k)) (show (65537 : Int) ≠ 0 by decide)
  have b2 := Int.emod_lt_of_pos ((c % 99991 + 17) * (48271 + 7919 * k)) (show (0 : Int) < 65537 by decide)
  have s1 : smallI (c % 99991 + 17) = true := small_of (by omega)
  have s2 : smallI ((c % 99991 + 17) * (48271 + 7919 * k) % 65537) = true := small_of (by omega)
  have s3 : smallI 7919 = true := by decide
  have m1 := dMod_pos (i := c) (j := 99991) (by decide)
  have m2 := dMod_pos (i := (c % 99991 + 17) * (48271 + 7919 * k)) (j := 65537) (by decide)
  have m3 := dMod_pos (i := (c % 99991 + 17) * (48271 + 7919 * k) % 65537 * (k + 3)) (j := 8191) (by decide)
  have m4 := dMod_pos (i := (c % 99991 + 17) * (48271 + 7919 * k) % 65537 * (k + 3) % 8191) (j := m) h
  simp only [e_b2, e_vr, e_cst, h0, h1, h2, R.bind_ok, m1, dAdd_int, dMul_left s3, dMul_left s1, m2, dMul_left s2, m3, m4]
  rfl
end Dg

namespace Dg
open PySem PySem.Spec PyProof.Rows L2
@[simp] theorem e_ch4 (g1 g2 g3 : D → D → R D) (f1 f2 f3 f4 : Env → R D) (ρ : Env) : ch4 g1 g2 g3 f1 f2 f3 f4 ρ = (f1 ρ).bind fun x => (f2 ρ).bind fun y => (g1 x y).bind fun q => match q with
  | .bool true => (f3 ρ).bind fun z => (g2 y z).bind fun q2 => match q2 with
    | .bool true => (f4 ρ).bind fun w => g3 z w
    | .bool false => .ok (.bool false)
    | _ => .stk
  | .bool false => .ok (.bool false)
  | _ => .stk := (rfl)
theorem t_cell (ns : List Int) (k : Nat) : f__law_cell_at [scrD ns, .int k] = .ok (.int (ns.getD k 0)) := by
  by_cases h : k < ns.length
  · have h1 : (k : Int) < ns.length := by omega
    simp [f__law_cell_at, runF, d__law_cell_at, startD, dLen_scr, h, dIx_scr ns k h]
  · simp [f__law_cell_at, runF, d__law_cell_at, startD, dLen_scr, h]
theorem t_part (c k m : Int) (h : 0 < m) : f__law_part [.int c, .int k, .int m] = .ok (.int (part c k m)) := by
  have := part_ok c k m h [some (.int c), some (.int k), some (.int m)] rfl rfl rfl
  unfold f__law_part runF d__law_part
  show (outR (retS _ [some (.int c), some (.int k), some (.int m)])).nox = _
  rw [e_retS, this]
  rfl
abbrev Per := Str × Int × Int
def perD (p : Per) : D := .tuple [.str p.1, .int p.2.1, .int p.2.2]
def namesD (l : List Per) : D := .list (l.map fun p => .str p.1)
/-- what the periods come to, first sure, then maybe -/
def judge (lo hi : Int) : List Per → List Str → D
  | [], acc => if acc = [] then .tuple [.str (Str.ofString "none"), .list []] else .tuple [.str (Str.ofString "maybe"), .list (acc.map .str)]
  | p :: ps, acc => if p.2.1 ≤ lo ∧ hi ≤ p.2.2 then .tuple [.str (Str.ofString "sure"), .list [.str p.1]] else if p.2.1 ≤ hi ∧ lo ≤ p.2.2 then judge lo hi ps (acc ++ [p.1]) else judge lo hi ps acc
theorem judge_ok (lo hi : Int) : ∀ (ps : List Per) (acc : List Str), okD (judge lo hi ps acc) = true
  | [], acc => by
    unfold judge
    split
    · exact (okN_tup (n := 1) fun d hd => by
        rcases List.mem_cons.mp hd with e | e
        · subst e; exact okN_str _ _
        · cases List.mem_singleton.mp e; exact okN_list fun z hz => by cases hz).ok
    · exact (okN_tup (n := 1) fun d hd => by
        rcases List.mem_cons.mp hd with e | e
        · subst e; exact okN_str _ _
        · cases List.mem_singleton.mp e
          exact okN_list fun z hz => by
            obtain ⟨x, _, e⟩ := List.mem_map.mp hz
            subst e
            exact okN_str _ _).ok
  | p :: ps, acc => by
    unfold judge
    split
    · exact (okN_tup (n := 1) fun d hd => by
        rcases List.mem_cons.mp hd with e | e
        · subst e; exact okN_str _ _
        · cases List.mem_singleton.mp e
          exact okN_list fun z hz => by
            cases List.mem_singleton.mp hz
            exact okN_str _ _).ok
    · split <;> exact judge_ok lo hi ps _
theorem gAppend_ok {xs : List D} {d : D} (h : xs.length < sizeLine) : gAppend xs [d] = some (.list (xs ++ [d])) := if_pos h
theorem t_loop1 (lo hi : Int) (l0 : D) : ∀ (ps : List Per) (acc : List Str), ps.length + acc.length ≤ 1000 → (outR ((turns [4, 5, 6] (tN 3) [4, 5, 6] lb_period_of_1 (ps.map perD) [some (.int lo), some (.int hi), some l0, some (.list (acc.map .str)), none, none, none]).seq (seqS (ifS (Dg.tb (b2 dEq (vr 3) (lstE nilL))) (retS (tupE (conL (cst (.str "none")) (conL (lstE nilL) nilL)))) nxS) (retS (tupE (conL (cst (.str "maybe")) (conL (vr 3) nilL))))))).nox = .ok (judge lo hi ps acc)
  | [], acc, _ => by
    have ho : okD (.list (acc.map PyData.str)) = true := (okN_list (n := 0) fun z hz => by
      obtain ⟨x, _, e⟩ := List.mem_map.mp hz
      subst e
      exact okN_str _ _).ok
    have h2 : okD (.list []) = true := by decide
    have he : dEq (.list (acc.map PyData.str)) (.list []) = .ok (.bool (decide (acc = []))) := by
      unfold dEq
      rw [ho, h2, if_pos (show (true && true) = true from rfl)]
      cases acc <;> simp [PyData.eqv, PyData.eqvAll]
    rw [List.map_nil, turns_nil]
    unfold judge
    by_cases ha : acc = []
    · subst ha
      simp only [List.map_nil] at he
      simp [he]
    · simp [he, ha]
  | p :: ps, acc, hl => by
    have hz : 10000 ≤ sizeLine := by decide +kernel
    rw [List.length_cons] at hl
    have ga : gAppend (acc.map PyData.str) [.str p.1] = some (.list ((acc ++ [p.1]).map .str)) := by
      rw [gAppend_ok (by rw [List.length_map]; omega), List.map_append]
      rfl
    have i1 := t_loop1 lo hi l0 ps acc (by omega)
    have i2 := t_loop1 lo hi l0 ps (acc ++ [p.1]) (by rw [List.length_append, List.length_singleton]; omega)
    rw [List.map_cons, turns_consN _ _ _ _ _ _ _ [.str p.1, .int p.2.1, .int p.2.2] rfl]
    unfold judge
    revert i1 i2
    generalize (seqS (ifS (Dg.tb (b2 dEq (vr 3) (lstE nilL))) (retS (tupE (conL (cst (.str "none")) (conL (lstE nilL) nilL)))) nxS) (retS (tupE (conL (cst (.str "maybe")) (conL (vr 3) nilL))))) = tail
    intro i1 i2
    by_cases h1 : p.2.1 ≤ lo
    · by_cases h2 : hi ≤ p.2.2
      · rw [if_pos ⟨h1, h2⟩]
        simp [lb_period_of_1, h1, h2]
      · rw [if_neg (fun z => h2 z.2)]
        by_cases h3 : p.2.1 ≤ hi
        · by_cases h4 : lo ≤ p.2.2
          · rw [if_pos ⟨h3, h4⟩]
            simp [lb_period_of_1, h1, h2, h3, h4, ga]
            simpa [lb_period_of_1] using i2
          · rw [if_neg (fun z => h4 z.2)]
            simp [lb_period_of_1, h1, h2, h3, h4]
            exact i1
        · rw [if_neg (fun z => h3 z.1)]
          simp [lb_period_of_1, h1, h2, h3]
          exact i1
    · rw [if_neg (fun z => h1 z.1)]
      by_cases h3 : p.2.1 ≤ hi
      · by_cases h4 : lo ≤ p.2.2
        · rw [if_pos ⟨h3, h4⟩]
          simp [lb_period_of_1, h1, h3, h4, ga]
          simpa [lb_period_of_1] using i2
        · rw [if_neg (fun z => h4 z.2)]
          simp [lb_period_of_1, h1, h3, h4]
          exact i1
      · rw [if_neg (fun z => h3 z.1)]
        simp [lb_period_of_1, h1, h3]
        exact i1
theorem t_period_of (lo hi : Int) (ps : List Per) (h : ps.length ≤ 900) : f_period_of [.int lo, .int hi, .list (ps.map perD)] = .ok (judge lo hi ps []) := by
  have t := t_loop1 lo hi (.list (ps.map perD)) ps [] (by rw [List.length_nil]; omega)
  rw [← t]
  unfold f_period_of runF d_period_of
  simp only [startD, List.map_cons, List.map_nil, List.length_cons, List.length_nil, List.cons_append, List.nil_append, List.replicate, e_seqS, e_asg1, e_lstE, e_nilL, R.bind_ok, out_ok, setsD_cons, setsD_nil, kill_nil, kill_cons, List.set_cons_zero, List.set_cons_succ, seq_nx, e_forS, e_itE, e_vr, List.getElem?_cons_zero, List.getElem?_cons_succ, dItems_list]
theorem t_loop2 (lo hi : Int) (hlh : lo ≤ hi) (l0 : D) : ∀ (ps : List Per) (acc : List Str), ps.length + acc.length ≤ 1000 → (∀ p ∈ ps, p.2.1 ≤ p.2.2) → (outR ((turns [4, 5, 6] (tN 3) [4, 5, 6] lb__law_due_1 (ps.map perD) [some (.int lo), some (.int hi), some l0, some (.list (acc.map .str)), none, none, none]).seq (seqS (ifS (Dg.tb (b2 dGt (call dLen (conL (vr 3) nilL)) (cst (.int 0)))) (retS (tupE (conL (cst (.str "maybe")) (conL (vr 3) nilL)))) nxS) (retS (tupE (conL (cst (.str "none")) (conL (lstE nilL) nilL))))))).nox = .ok (judge lo hi ps acc)
  | [], acc, _, _ => by
    rw [List.map_nil, turns_nil]
    unfold judge
    by_cases ha : acc = []
    · simp [ha, dLen_list]
    · have : 0 < acc.length := by
        cases acc with
        | nil => exact absurd rfl ha
        | cons a b => exact Nat.succ_pos _
      simp [ha, dLen_list, this]
  | p :: ps, acc, hl, hp => by
    have hz : 10000 ≤ sizeLine := by decide +kernel
    rw [List.length_cons] at hl
    have hpp := hp p List.mem_cons_self
    have ga : gAppend (acc.map PyData.str) [.str p.1] = some (.list ((acc ++ [p.1]).map .str)) := by
      rw [gAppend_ok (by rw [List.length_map]; omega), List.map_append]
      rfl
    have i1 := t_loop2 lo hi hlh l0 ps acc (by omega) fun z hz => hp z (List.mem_cons_of_mem _ hz)
    have i2 := t_loop2 lo hi hlh l0 ps (acc ++ [p.1]) (by rw [List.length_append, List.length_singleton]; omega) fun z hz => hp z (List.mem_cons_of_mem _ hz)
    rw [List.map_cons, turns_consN _ _ _ _ _ _ _ [.str p.1, .int p.2.1, .int p.2.2] rfl]
    unfold judge
    have hx : (if lo > p.2.1 then lo else p.2.1) ≤ (if hi < p.2.2 then hi else p.2.2) ↔ p.2.1 ≤ hi ∧ lo ≤ p.2.2 := by
      split <;> split <;> omega
    have hmm : dLe (.int (if lo > p.2.1 then lo else p.2.1)) (.int (if hi < p.2.2 then hi else p.2.2)) = .ok (.bool (decide (p.2.1 ≤ hi ∧ lo ≤ p.2.2))) := by
      rw [dLe_int]
      simp only [hx]
    revert i1 i2
    generalize (seqS (ifS (Dg.tb (b2 dGt (call dLen (conL (vr 3) nilL)) (cst (.int 0)))) (retS (tupE (conL (cst (.str "maybe")) (conL (vr 3) nilL)))) nxS) (retS (tupE (conL (cst (.str "none")) (conL (lstE nilL) nilL))))) = tail
    intro i1 i2
    have rest : ¬ (p.2.1 ≤ lo ∧ hi ≤ p.2.2) → lb__law_due_1 [some (.int lo), some (.int hi), some l0, some (.list (acc.map .str)), some (.str p.1), some (.int p.2.1), some (.int p.2.2)] = if p.2.1 ≤ hi ∧ lo ≤ p.2.2 then .nx [some (.int lo), some (.int hi), some l0, some (.list ((acc ++ [p.1]).map .str)), some (.str p.1), some (.int p.2.1), some (.int p.2.2)] else .nx [some (.int lo), some (.int hi), some l0, some (.list (acc.map .str)), some (.str p.1), some (.int p.2.1), some (.int p.2.2)] := fun hn => by
      have hc : (ch4 dLe dLe dLe (vr 5) (vr 0) (vr 1) (vr 6)) [some (.int lo), some (.int hi), some l0, some (.list (acc.map .str)), some (.str p.1), some (.int p.2.1), some (.int p.2.2)] = .ok (.bool false) := by
        by_cases h1 : p.2.1 ≤ lo
        · have h2 : ¬ hi ≤ p.2.2 := fun z => hn ⟨h1, z⟩
          simp [h1, hlh, h2]
        · simp [h1]
      unfold lb__law_due_1
      simp only [e_seqS, e_ifS, e_tb, hc, R.bind_ok, tst_bool, out_ok, if_neg Bool.false_ne_true, e_nxS, seq_nx, e_b2, e_call, e_conL, e_nilL, e_vr, List.getElem?_cons_zero, List.getElem?_cons_succ, dMax_int, dMin_int, hmm]
      by_cases h3 : p.2.1 ≤ hi ∧ lo ≤ p.2.2
      · simp [h3, ga]
      · rw [decide_eq_false h3, if_neg h3]
        simp
    by_cases h1 : p.2.1 ≤ lo ∧ hi ≤ p.2.2
    · rw [if_pos h1]
      simp [lb__law_due_1, h1.1, h1.2, hlh]
    · rw [if_neg h1]
      simp only [setsD_cons, setsD_nil, List.set_cons_zero, List.set_cons_succ]
      rw [rest h1]
      by_cases h3 : p.2.1 ≤ hi ∧ lo ≤ p.2.2
      · rw [if_pos h3, if_pos h3]
        simp only [turn_nx, kill_cons, kill_nil, List.set_cons_zero, List.set_cons_succ]
        exact i2
      · rw [if_neg h3, if_neg h3]
        simp only [turn_nx, kill_cons, kill_nil, List.set_cons_zero, List.set_cons_succ]
        exact i1
theorem t_due (lo hi : Int) (hlh : lo ≤ hi) (ps : List Per) (h : ps.length ≤ 900) (hp : ∀ p ∈ ps, p.2.1 ≤ p.2.2) : f__law_due [.int lo, .int hi, .list (ps.map perD)] = .ok (judge lo hi ps []) := by
  have t := t_loop2 lo hi hlh (.list (ps.map perD)) ps [] (by rw [List.length_nil]; omega) hp
  rw [← t]
  unfold f__law_due runF d__law_due
  simp only [startD, List.map_cons, List.map_nil, List.length_cons, List.length_nil, List.cons_append, List.nil_append, List.replicate, e_seqS, e_asg1, e_lstE, e_nilL, R.bind_ok, out_ok, setsD_cons, setsD_nil, kill_nil, kill_cons, List.set_cons_zero, List.set_cons_succ, seq_nx, e_forS, e_itE, e_vr, List.getElem?_cons_zero, List.getElem?_cons_succ, dItems_list]
end Dg

namespace Dg
open PySem PySem.Spec PyProof.Rows L2
theorem pow57 : dPow (.int 10) (.int 57) = .ok (.int (10 ^ 57)) := by
  have : (0 : Int) ≤ 57 ∧ (57 : Int) ≤ 1000000 ∧ (10 : Int).natAbs < 2 ^ 64 := by decide
  exact dPow_nat this
theorem mod57 (c : Int) : dMod (.int c) (.int (10 ^ 57)) = .ok (.int (c % 10 ^ 57)) := dMod_pos (by decide)
theorem mod57_pos (c : Int) : 0 ≤ c % 10 ^ 57 := Int.emod_nonneg _ (by decide)
/-- one of two numbers, picked -/
theorem pick_two (x y c k : Int) : ∃ z : Int, dIx (.list [.int x, .int y]) (.int (part c k 2)) = .ok (.int z) ∧ (z = x ∨ z = y) := by
  refine ⟨if part c k 2 = 0 then x else y, ?_, by split <;> simp⟩
  rw [dIx_two (part_two c k)]
  split <;> rfl
theorem period_step (s0 : Option D) (b : Str) (hb : b.length = 1) (y c : Int) (ps : List Per) (h : ps.length ≤ 100) : ∃ (p : Per), p.2.1 ≤ p.2.2 ∧ lb__law_periods_1 [s0, some (.str b), some (.int y), some (.list (ps.map perD)), some (.int c), none] = .nx [s0, some (.str b), some (.int p.2.2), some (.list ((ps ++ [p]).map perD)), some (.int c), some (.int p.2.2)] := by
  have hz : 10000 ≤ sizeLine := by decide +kernel
  obtain ⟨z1, e1, h1⟩ := pick_two (1 + part c 0 4) (1 + c % 10 ^ 57) c 1
  obtain ⟨z2, e2, h2⟩ := pick_two (part c 2 9) (c / 7 % 10 ^ 57) c 3
  have p9 := (part_pos c 2 (m := 9) (by decide)).1
  have m57 := mod57_pos (c / 7)
  have hz2 : 0 ≤ z2 := by rcases h2 with e | e <;> (rw [e]; assumption)
  have t0 := t_part c 0 4 (by decide)
  have t1' := t_part c 1 2 (by decide)
  have t2 := t_part c 2 9 (by decide)
  have t3 := t_part c 3 2 (by decide)
  have d7 : dDiv (.int c) (.int 7) = .ok (.int (c / 7)) := dDiv_int (by decide)
  have hm : dMul2 (.str b) (.int (1 + ((ps.map perD).length : Nat))) = .ok (.str (Txt.mul b (1 + ((ps.map perD).length : Nat)))) := by
    have : (0 : Int) < 1 + ((ps.map perD).length : Nat) ∧ (1 + ((ps.map perD).length : Nat) : Int) < 1000 ∧ 0 < b.length ∧ b.length ≤ 1000 := by
      rw [List.length_map]
      omega
    exact if_pos this
  refine ⟨(Txt.mul b (1 + ((ps.map perD).length : Nat)), y + z1, y + z1 + z2), by show y + z1 ≤ y + z1 + z2; omega, ?_⟩
  have ga : gAppend (ps.map perD) [perD (Txt.mul b (1 + ((ps.map perD).length : Nat)), y + z1, y + z1 + z2)] = some (.list ((ps ++ [(Txt.mul b (1 + ((ps.map perD).length : Nat)), y + z1, y + z1 + z2)]).map perD)) := by
    rw [gAppend_ok (by rw [List.length_map]; omega), List.map_append]
    rfl
  unfold perD at ga
  unfold lb__law_periods_1
  simp only [e_seqS, e_asg1, e_b2, e_lstE, e_conL, e_nilL, e_cst, e_callP, e_vr, List.getElem?_cons_zero, List.getElem?_cons_succ, R.bind_ok, t0, t1', t2, t3, nox_ok, dAdd_int, pow57, mod57, e1, d7, e2, out_ok, setsD_cons, setsD_nil, kill_nil, List.set_cons_zero, List.set_cons_succ, seq_nx, mutS_eq, e_tupE, e_call, dLen_list, hm, e_chkE, chk_int, e_nxS]
  unfold perD
  simp only [ga, seq_nx, out_ok, List.set_cons_zero, List.set_cons_succ, e_seqS, e_asg1, e_chkE, e_vr, List.getElem?_cons_zero, List.getElem?_cons_succ, R.bind_ok, chk_int, setsD_cons, setsD_nil, kill_nil, e_nxS]
theorem periods_loop (s0 : Option D) (b : Str) (hb : b.length = 1) : ∀ (cs : List Int) (y : Int) (ps : List Per), cs.length + ps.length ≤ 100 → (∀ p ∈ ps, p.2.1 ≤ p.2.2) → ∃ (y2 : Int) (qs : List Per), turns [4] t1 [4, 5] lb__law_periods_1 (cs.map .int) [s0, some (.str b), some (.int y), some (.list (ps.map perD)), none, none] = .nx [s0, some (.str b), some (.int y2), some (.list (qs.map perD)), none, none] ∧ qs.length ≤ cs.length + ps.length ∧ ∀ p ∈ qs, p.2.1 ≤ p.2.2
  | [], y, ps, _, hp => ⟨y, ps, rfl, by omega, hp⟩
  | c :: cs, y, ps, hl, hp => by
    rw [List.length_cons] at hl
    obtain ⟨p, e1, e2⟩ := period_step s0 b hb y c ps (by omega)
    obtain ⟨y2, qs, q1, q2, q3⟩ := periods_loop s0 b hb cs p.2.2 (ps ++ [p]) (by rw [List.length_append, List.length_singleton]; omega) fun z hz => by
      rcases List.mem_append.mp hz with h | h
      · exact hp z h
      · cases List.mem_singleton.mp h
        exact e1
    refine ⟨y2, qs, ?_, ?_, q3⟩
    · rw [List.map_cons, turns_cons1]
      simp only [setsD_cons, setsD_nil, List.set_cons_succ, List.set_cons_zero, e2, turn_nx, kill_cons, kill_nil]
      exact q1
    · rw [List.length_append, List.length_singleton] at q2
      rw [List.length_cons]
      omega
theorem t_periods (ns : List Int) : ∃ ps : List Per, f__law_periods [scrD ns] = .ok (.list (ps.map perD)) ∧ ps.length ≤ 6 ∧ ∀ p ∈ ps, p.2.1 ≤ p.2.2 := by
  have hz : 10000 ≤ sizeLine := by decide +kernel
  have c0 : f__law_cell_at [scrD ns, .int 0] = .ok (.int (ns.getD 0 0)) := t_cell ns 0
  have c1 : f__law_cell_at [scrD ns, .int 1] = .ok (.int (ns.getD 1 0)) := t_cell ns 1
  have c2 : f__law_cell_at [scrD ns, .int 2] = .ok (.int (ns.getD 2 0)) := t_cell ns 2
  generalize (ns.getD 0 0) = v0 at c0
  generalize (ns.getD 1 0) = v1 at c1
  generalize (ns.getD 2 0) = v2 at c2
  have l26 : (Str.ofString "abcdefghijklmnopqrstuvwxyz").length = 26 := by decide +kernel
  generalize ea : Str.ofString "abcdefghijklmnopqrstuvwxyz" = abc at l26
  have m26 : dMod (.int v0) (.int 26) = .ok (.int (v0 % 26)) := dMod_pos (by decide)
  obtain ⟨k, hk, hk2⟩ : ∃ k : Nat, v0 % 26 = k ∧ k < abc.cps.toList.length := ⟨(v0 % 26).toNat, by omega, by simp only [Array.length_toList]; show _ < abc.length; omega⟩
  have hi := dIx_str1 (a := abc) (by omega) hk hk2
  generalize hb : (⟨#[abc.cps.toList[k]]⟩ : Str) = b at hi
  have hb1 : b.length = 1 := by rw [← hb]; rfl
  have m2 : dMod (.int v2) (.int 2) = .ok (.int (v2 % 2)) := dMod_pos (by decide)
  have hs : dIx (.list [.int 1, .int (-1)]) (.int (v2 % 2)) = .ok (.int (if v2 % 2 = 0 then 1 else -1)) := by
    rw [dIx_two (by omega)]
    split <;> rfl
  have hmul : dMul2 (.int (v1 % 10 ^ 57)) (.int (if v2 % 2 = 0 then 1 else -1)) = .ok (.int (v1 % 10 ^ 57 * (if v2 % 2 = 0 then 1 else -1))) := dMul_right (by split <;> decide)
  have hsl := dSl_scr ns (some 3) (some 9)
  have hlen : (cutA ns (some 3) (some 9)).length ≤ 6 := cutA_len ns 3 9
  obtain ⟨y2, qs, q1, q2, q3⟩ := periods_loop (some (scrD ns)) b hb1 (cutA ns (some 3) (some 9)) (v1 % 10 ^ 57 * (if v2 % 2 = 0 then 1 else -1)) [] (by rw [List.length_nil]; omega) fun p hp => by cases hp
  refine ⟨qs, ?_, by rw [List.length_nil] at q2; omega, q3⟩
  simp only [f__law_periods, runF, startD, d__law_periods, ea, List.map_cons, List.map_nil, List.length_cons, List.length_nil, List.cons_append, List.nil_append, List.replicate]
  simp only [e_seqS, e_asg1, e_b2, e_b1, e_lstE, e_conL, e_nilL, e_cst, e_callP, e_vr, List.getElem?_cons_zero, List.getElem?_cons_succ, R.bind_ok, c0, c1, c2, nox_ok, m26, hi, pow57, mod57, dNeg_int, m2, hs, hmul, out_ok, setsD_cons, setsD_nil, kill_nil, kill_cons, List.set_cons_zero, List.set_cons_succ, seq_nx, e_forS, e_itE, e_slE, e_toO, asI_int, hsl, dItems_list]
  rw [List.map_nil] at q1
  rw [q1]
  simp only [seq_nx, e_retS, e_vr, List.getElem?_cons_zero, List.getElem?_cons_succ, out_ok, outR_ret, nox_ok]
theorem isi_tuple (ds : List D) : dIsi "tuple" (.tuple ds) = .ok (.bool true) := by
  have e : kitB "tuple" "tuple" = some true := by decide +kernel
  unfold dIsi
  simp only [tyName, e]
theorem judge_tup (lo hi : Int) : ∀ (ps : List Per) (acc : List Str), ∃ ds, judge lo hi ps acc = .tuple ds
  | [], acc => by
    unfold judge
    split <;> exact ⟨_, rfl⟩
  | p :: ps, acc => by
    unfold judge
    split
    · exact ⟨_, rfl⟩
    · split <;> exact judge_tup lo hi ps _
theorem edges_loop (s0 s1 : Option D) : ∀ (ps : List Per) (es : List Int), es.length + 2 * ps.length ≤ 1000 → ∃ fs : List Int, turns [3, 4, 5] (tN 3) [3, 4, 5] lb_law_1 (ps.map perD) [s0, s1, some (.list (es.map .int)), none, none, none, none, none, none, none, none, none] = .nx [s0, s1, some (.list (fs.map .int)), none, none, none, none, none, none, none, none, none] ∧ fs.length = es.length + 2 * ps.length
  | [], es, _ => ⟨es, rfl, rfl⟩
  | p :: ps, es, hl => by
    have hz : 10000 ≤ sizeLine := by decide +kernel
    rw [List.length_cons] at hl
    obtain ⟨fs, q1, q2⟩ := edges_loop s0 s1 ps (es ++ [p.2.1, p.2.2]) (by rw [List.length_append]; show es.length + 2 + 2 * ps.length ≤ 1000; omega)
    have ha : dAdd (.list (es.map .int)) (.list [.int p.2.1, .int p.2.2]) = .ok (.list ((es ++ [p.2.1, p.2.2]).map .int)) := by
      rw [dAdd_lists ⟨by rw [immL_map _ es imm_int]; rfl, by rw [List.length_map]; show es.length + 2 ≤ sizeLine; omega⟩, List.map_append]
      rfl
    refine ⟨fs, ?_, by simp only [q2, List.length_append, List.length_cons, List.length_nil]; omega⟩
    rw [List.map_cons, turns_consN _ _ _ _ _ _ _ [.str p.1, .int p.2.1, .int p.2.2] rfl]
    simp only [setsD_cons, setsD_nil, List.set_cons_succ, List.set_cons_zero, lb_law_1, e_seqS, e_asg1, e_b2, e_lstE, e_conL, e_nilL, e_chkE, e_vr, List.getElem?_cons_zero, List.getElem?_cons_succ, R.bind_ok, chk_int, ha, out_ok, kill_nil, seq_nx, e_nxS, turn_nx, kill_cons]
    exact q1
theorem span_step (ns : List Int) (ps : List Per) (hl : ps.length ≤ 6) (hp : ∀ p ∈ ps, p.2.1 ≤ p.2.2) (es : List Int) (h1 : 1 ≤ es.length) (k : Nat) : ∃ r, lb_law_2 [some (scrD ns), some (.list (ps.map perD)), some (.list (es.map .int)), none, none, none, some (.int k), none, none, none, none, none] = .nx r ∧ kill [6, 7, 8, 9, 10, 11] r = [some (scrD ns), some (.list (ps.map perD)), some (.list (es.map .int)), none, none, none, none, none, none, none, none, none] := by
  have ce : f__law_cell_at [scrD ns, .int (9 + k)] = .ok (.int (ns.getD (9 + k) 0)) := by
    have := t_cell ns (9 + k)
    rw [show ((9 + k : Nat) : Int) = 9 + (k : Int) by omega] at this
    exact this
  generalize ns.getD (9 + k) 0 = v at ce
  generalize hc : v + (k : Int) = c
  have t4 := t_part c 4 ((es.map PyData.int).length : Nat) (by rw [List.length_map]; omega)
  have t5 := t_part c 5 7 (by decide)
  have t6 := t_part c 6 12 (by decide)
  have t7 := t_part c 7 2 (by decide)
  obtain ⟨j, j1, j2⟩ := part_nat c 4 (m := (es.map PyData.int).length) (by rw [List.length_map]; omega)
  have hix := dIx_listN (xs := es.map PyData.int) j1 j2
  rw [List.getElem_map] at hix
  generalize es[j]'(by rw [List.length_map] at j2; exact j2) = w at hix
  obtain ⟨z2, e2, h2⟩ := pick_two (part c 6 12) (c % 10 ^ 57) c 7
  have p12 := (part_pos c 6 (m := 12) (by decide)).1
  have m57 := mod57_pos c
  have hz2 : 0 ≤ z2 := by rcases h2 with e | e <;> (rw [e]; assumption)
  have hlist : dListOf [.list (ps.map perD)] = .ok (.list (ps.map perD)) := if_pos (immL_map _ ps fun p => rfl)
  have f1 := t_period_of (w + part c 5 7 - 3) (w + part c 5 7 - 3 + z2) ps (by omega)
  have f2 := t_due (w + part c 5 7 - 3) (w + part c 5 7 - 3 + z2) (by omega) ps (by omega) hp
  have ok1 := judge_ok (w + part c 5 7 - 3) (w + part c 5 7 - 3 + z2) ps []
  obtain ⟨ds, ejd⟩ := judge_tup (w + part c 5 7 - 3) (w + part c 5 7 - 3 + z2) ps []
  rw [ejd] at f1 f2 ok1
  have ok2 : okD (.list (ps.map perD)) = true := (okN_list (n := 1) fun d hd => by
    obtain ⟨p, _, e⟩ := List.mem_map.mp hd
    subst e
    exact okN_tup fun z hz => by
      simp only [List.mem_cons, List.not_mem_nil, or_false] at hz
      rcases hz with e | e | e <;> subst e
      · exact okN_str _ _
      · exact okN_int _ _
      · exact okN_int _ _).ok
  refine ⟨[some (scrD ns), some (.list (ps.map perD)), some (.list (es.map .int)), none, none, none, some (.int k), some (.int c), some (.int (w + part c 5 7 - 3)), some (.int (w + part c 5 7 - 3 + z2)), some (.list (ps.map perD)), some (.tuple ds)], ?_, rfl⟩
  unfold lb_law_2
  simp only [e_seqS, e_asg1, e_b2, e_callP, e_conL, e_nilL, e_cst, e_vr, List.getElem?_cons_zero, List.getElem?_cons_succ, R.bind_ok, dAdd_int, ce, nox_ok, hc, out_ok, setsD_cons, setsD_nil, kill_nil, List.set_cons_zero, List.set_cons_succ, seq_nx, e_call, dLen_list, t4, t5, t6, t7, hix, dSub_int, e_lstE, pow57, mod57, e2, hlist, f1, f2, e_ifS, e_orT, e_notT, e_tb, e_b1, isi_tuple, tst_bool, Bool.not_true, if_neg Bool.false_ne_true, dNe_self ok1, dNe_self ok2, e_nxS]
theorem law_true (ns : List Int) (h : ns.length ≤ 63) : f_law [.dict [(.none, .list (ns.map .int))]] = .ok (.bool true) := by
  show f_law [scrD ns] = _
  obtain ⟨ps, e1, e2, e3⟩ := t_periods ns
  obtain ⟨fs, g1, g2⟩ := edges_loop (some (scrD ns)) (some (.list (ps.map perD))) ps [0] (by rw [List.length_singleton]; omega)
  rw [List.length_singleton] at g2
  have rg : dRange [.int 4] = .ok ((List.range 4).map fun (i : Nat) => .int i) := dRange_one (j := 4) (by decide)
  have lp := turns_fold (is := [6]) (ks := [6, 7, 8, 9, 10, 11]) (t := t1) (body := lb_law_2) (fun (i : Nat) => PyData.int i) (fun (_ : Unit) => [some (scrD ns), some (.list (ps.map perD)), some (.list (fs.map .int)), none, none, none, none, none, none, none, none, none]) (fun _ _ => ()) (List.range 4) () fun _ k _ => ⟨[.int k], rfl, by
    obtain ⟨r, r1, r2⟩ := span_step ns ps e2 e3 fs (by omega) k
    exact ⟨r, .inl r1, r2⟩⟩
  simp only [f_law, runF, startD, d_law, List.map_cons, List.map_nil, List.length_cons, List.length_nil, List.cons_append, List.nil_append, List.replicate]
  simp only [e_seqS, e_asg1, e_callP, e_conL, e_nilL, e_cst, e_vr, List.getElem?_cons_zero, List.getElem?_cons_succ, R.bind_ok, e1, nox_ok, out_ok, setsD_cons, setsD_nil, kill_nil, kill_cons, List.set_cons_zero, List.set_cons_succ, seq_nx, e_lstE, e_forS, e_itE, dItems_list, e_rgE, rg]
  rw [show [PyData.int 0] = [(0 : Int)].map PyData.int from rfl, g1]
  simp only [seq_nx, e_seqS, e_forS, e_rgE, e_conL, e_cst, e_nilL, R.bind_ok, rg, out_ok, kill_cons, kill_nil, List.set_cons_zero, List.set_cons_succ]
  rw [lp]
  rfl
end Dg

open PySem PySem.W PyProof.Rows
set_option maxRecDepth 100000 in
set_option maxHeartbeats 0 in
theorem PySem.Challenge.cw_digmatrix_k52_periods_holds : PySem.Challenge.rw_digmatrix_k52_periods.Holds := by
  w_on; o_law; k_head; (case hw => w_witness2)
  k_fill
  refine L2.walk_of (l := PySem.Challenge.rw_digmatrix_k52_periods) (n := 63) (k := 3) (x := "_law_script") (CX := fun _ => L2.CX0) (sp := fun w => Dg.spLaw _) rfl (by decide) rfl ⟨rfl, by decide, by decide⟩ (fun w h Y => PySem.W.kIn_of Y) ?F (fun _ H a ns hl hO hS => ⟨a, ns, rfl, (Dg.lf_of hS).resolve_left (fun e => by rcases hO a with z | ⟨o, xs, z⟩ <;> (rw [e] at z; cases z)), hl, fun _ => rfl⟩) (fun _ _ _ _ _ h => h)
  case F =>
    intro w mg fa h KX G hmg
    refine Dg.law_all (h := h) (T := ?T) hmg Dg.law_true
    refine' Dg.txt_mk KX G ?a0 ?l0 ?c0 ?k0 ?a1 ?l1 ?c1 ?k1 ?a2 ?l2 ?c2 ?k2 ?a3 ?l3 ?c3 ?k3 ?a4 ?l4 ?c4 ?k4 ?a5 ?l5 ?c5 ?k5 ?zn_isinstance ?zn_len ?zn_list ?zn_max ?zn_min ?zn_range ?zn_tuple
    (case a0 => k_is); (case l0 => k_is); (case c0 => k_is); (case k0 => k_is); (case a1 => k_is); (case l1 => k_is); (case c1 => k_is); (case k1 => k_is); (case a2 => k_is); (case l2 => k_is); (case c2 => k_is); (case k2 => k_is); (case a3 => k_is); (case l3 => k_is); (case c3 => k_is); (case k3 => k_is); (case a4 => k_is); (case l4 => k_is); (case c4 => k_is); (case k4 => k_is); (case a5 => k_is); (case l5 => k_is); (case c5 => k_is); (case k5 => k_is); (case zn_isinstance => k_is); (case zn_len => k_is); (case zn_list => k_is); (case zn_max => k_is); (case zn_min => k_is); (case zn_range => k_is); (case zn_tuple => k_is)
