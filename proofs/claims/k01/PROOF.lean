import PyProof.Rows.All
import Wide.All
import OpenK.AllK
import Wide.FinOn
import HandS.ForMost
import HandS.ForExc
import HandS.Flow
import HandS.Wide
import KE.DataEq
import KE.DataCmp
import KE.DataMinMax
import KE.SortData
import KE.DatumOrd
import HandS.IsInst
import HandS.StrMore
import HandS.WordsDict
import PyProof.StrBlock2
import KE.IntTextLaws
import KE.KIntText
import PyProof.Rows.StrBin
import PySem.Challenge.RW_digmatrix_k01_names_and_numbers
set_option Elab.async false
set_option linter.all false
set_option autoImplicit false
set_option maxRecDepth 100000
set_option maxHeartbeats 4000000
/-! Dg: a layer of plain data (PyData) over the hand layer: each value of a def stands for a tree; lists and dicts that a def owns alone may be changed. -/
namespace Dg
open PySem PySem.Spec PyProof.Rows L2
abbrev D := PyData
abbrev Env := List (Option D)
/-- an exception of the text's own: its class by name, its fields -/
structure Exn where
  cls : Str
  flds : List (D × D)
/-- what an expression comes to -/
inductive R (α : Type) where
  | ok (a : α)
  | exc (x : Exn)
  | stk
def R.bind {α β : Type} (r : R α) (f : α → R β) : R β := match r with
  | .ok a => f a
  | .exc x => .exc x
  | .stk => .stk
@[simp] theorem R.bind_ok {α β : Type} (a : α) (f : α → R β) : (R.ok a).bind f = f a := (rfl)
@[simp] theorem R.bind_exc {α β : Type} (x : Exn) (f : α → R β) : (R.exc x).bind f = .exc x := (rfl)
@[simp] theorem R.bind_stk {α β : Type} (f : α → R β) : (R.stk).bind f = .stk := (rfl)
/-- what a statement comes to -/
inductive Out where
  | nx (r : Env)
  | ret (d : D) (r : Env)
  | brk (r : Env)
  | cnt (r : Env)
  | exc (x : Exn) (r : Env)
  | stk
def isMut : HO → Bool
  | .lst _ => true
  | .dK _ => true
  | .ins _ _ _ => true
  | _ => false
/-- all that stood stands, but for the changeable ones among M -/
def Fr (M : Addr → Prop) (H H' : Hp) : Prop := ∀ a o, H a = some o → (isMut o = true → ¬ M a) → H' a = some o
theorem Fr.refl (M : Addr → Prop) (H : Hp) : Fr M H H := fun _ _ h _ => h
theorem Fr.of_same {M : Addr → Prop} {H H' : Hp} (s : Same H H') : Fr M H H' := fun a o h _ => s a o h
theorem Fr.step {M : Addr → Prop} {H H1 H2 : Hp} (f : Fr M H H1) (s : Same H1 H2) : Fr M H H2 := fun a o h q => s a o (f a o h q)
theorem same_upd {H : Hp} {p : Addr} {o : HO} (h : H p = none) : Same H (upd H p o) := fun b x e => by
  rw [upd_ne (ne_of_none e h)]
  exact e
/-- a list that no one here changes (the script; one of the top) -/
def Lf (K : PySem.W.Frag) (H : Hp) (a : Addr) (xs : List V) : Prop :=
  (∃ o, H a = some (.frz o (.lst xs))) ∨
    ∃ (o : Obj) (its : Array Value) (n : Nat), K.lookup a = some o ∧ o.cls = .type "list" ∧ o.dict = none ∧ o.data = .seq its n ∧ its.size ≤ sizeLine ∧ Vals xs its.toList
theorem Lf.seq {K : PySem.W.Frag} {H : Hp} {a : Addr} {xs : List V} (h : Lf K H a xs) : SqL K H a xs := by
  rcases h with ⟨o, h⟩ | h
  · exact .inl (.inr ⟨o, h⟩)
  · exact .inr h
theorem lf_of {K : PySem.W.Frag} {H : Hp} {a : Addr} {xs : List V} (h : SqL K H a xs) : H a = some (.lst xs) ∨ Lf K H a xs := by
  rcases h with (h | h) | h
  · exact .inl h
  · exact .inr (.inl h)
  · exact .inr (.inr h)
theorem Lf.fr {K : PySem.W.Frag} {M : Addr → Prop} {H H' : Hp} {a : Addr} {xs : List V} (h : Lf K H a xs) (f : Fr M H H') : Lf K H' a xs := by
  rcases h with ⟨o, h⟩ | h
  · exact .inl ⟨o, f a _ h (fun z => by cases z)⟩
  · exact .inr h
theorem sqT_fr {K : PySem.W.Frag} {M : Addr → Prop} {H H' : Hp} {a : Addr} {xs : List V} (h : SqT K H a xs) (f : Fr M H H') : SqT K H' a xs := by
  rcases h with (h | ⟨o, h⟩) | h
  · exact .inl (.inl (f a _ h (fun z => by cases z)))
  · exact .inl (.inr ⟨o, f a _ h (fun z => by cases z)⟩)
  · exact .inr h
def kD : Key → D
  | .inl i => .int i
  | .inr x => .str x
mutual
/-- the value v stands for the tree d; A: the changeable objects in it; true: it is all one's own -/
inductive Rep (K : PySem.W.Frag) (mg : Str → Option Value) (H : Hp) : Bool → V → D → List Addr → Prop
  | non {o : Bool} : Rep K mg H o .non .none []
  | bl {o : Bool} (b : Bool) : Rep K mg H o (.bl b) (.bool b) []
  | int {o : Bool} (i : Int) : Rep K mg H o (.int i) (.int i) []
  | str {o : Bool} (x : Str) : Rep K mg H o (.str x) (.str x) []
  | lst {o : Bool} {a : Addr} {vs : List V} {ds : List D} {A : List Addr} : H a = some (.lst vs) → RepL K mg H o vs ds A → Rep K mg H o (.ref a) (.list ds) (a :: A)
  | lstF {a : Addr} {vs : List V} {ds : List D} {A : List Addr} : Lf K H a vs → RepL K mg H false vs ds A → Rep K mg H false (.ref a) (.dict [(.none, .list ds)]) A
  | tup {o : Bool} {a : Addr} {vs : List V} {ds : List D} {A : List Addr} : SqT K H a vs → RepL K mg H o vs ds A → Rep K mg H o (.ref a) (.tuple ds) A
  | dct {o : Bool} {a : Addr} {vs : List (Key × V)} {ds : List (D × D)} {A : List Addr} : H a = some (.dK vs) → RepP K mg H o vs ds A → Rep K mg H o (.ref a) (.dict ds) (a :: A)
  | dctF {a : Addr} {u : Obj} {vs : List (Key × V)} {ds : List (D × D)} {A : List Addr} : H a = some (.frz u (.dK vs)) → RepP K mg H false vs ds A → Rep K mg H false (.ref a) (.dict ds) A
  | ins {o : Bool} {a C dx : Addr} {nm : Str} {fs : List (Str × V)} {ds : List (D × D)} {A : List Addr} : H a = some (.ins C dx fs) → mg nm = some (.ref C) → RepF K mg H o fs ds A → Rep K mg H o (.ref a) (.dict ((.none, .str nm) :: ds)) (a :: A)
inductive RepL (K : PySem.W.Frag) (mg : Str → Option Value) (H : Hp) : Bool → List V → List D → List Addr → Prop
  | nil {o : Bool} : RepL K mg H o [] [] []
  | cons {o : Bool} {v : V} {d : D} {vs : List V} {ds : List D} {A B : List Addr} : Rep K mg H o v d A → RepL K mg H o vs ds B → RepL K mg H o (v :: vs) (d :: ds) (A ++ B)
inductive RepP (K : PySem.W.Frag) (mg : Str → Option Value) (H : Hp) : Bool → List (Key × V) → List (D × D) → List Addr → Prop
  | nil {o : Bool} : RepP K mg H o [] [] []
  | cons {o : Bool} {k : Key} {v : V} {d : D} {vs : List (Key × V)} {ds : List (D × D)} {A B : List Addr} : Rep K mg H o v d A → RepP K mg H o vs ds B → RepP K mg H o ((k, v) :: vs) ((kD k, d) :: ds) (A ++ B)
inductive RepF (K : PySem.W.Frag) (mg : Str → Option Value) (H : Hp) : Bool → List (Str × V) → List (D × D) → List Addr → Prop
  | nil {o : Bool} : RepF K mg H o [] [] []
  | cons {o : Bool} {k : Str} {v : V} {d : D} {vs : List (Str × V)} {ds : List (D × D)} {A B : List Addr} : Rep K mg H o v d A → RepF K mg H o vs ds B → RepF K mg H o ((k, v) :: vs) ((.str k, d) :: ds) (A ++ B)
end
section
variable {K : PySem.W.Frag} {mg : Str → Option Value} {H H' : Hp}
mutual
theorem Rep.weak {o : Bool} {v : V} {d : D} {A : List Addr} : Rep K mg H o v d A → Rep K mg H false v d A
  | .non => .non
  | .bl b => .bl b
  | .int i => .int i
  | .str x => .str x
  | .lst h r => .lst h r.weak
  | .lstF h r => .lstF h r
  | .tup h r => .tup h r.weak
  | .dct h r => .dct h r.weak
  | .dctF h r => .dctF h r
  | .ins h g r => .ins h g r.weak
theorem RepL.weak {o : Bool} {v : List V} {d : List D} {A : List Addr} : RepL K mg H o v d A → RepL K mg H false v d A
  | .nil => .nil
  | .cons h r => .cons h.weak r.weak
theorem RepP.weak {o : Bool} {v : List (Key × V)} {d : List (D × D)} {A : List Addr} : RepP K mg H o v d A → RepP K mg H false v d A
  | .nil => .nil
  | .cons h r => .cons h.weak r.weak
theorem RepF.weak {o : Bool} {v : List (Str × V)} {d : List (D × D)} {A : List Addr} : RepF K mg H o v d A → RepF K mg H false v d A
  | .nil => .nil
  | .cons h r => .cons h.weak r.weak
end
mutual
theorem Rep.fr {M : Addr → Prop} (f : Fr M H H') {o : Bool} {v : V} {d : D} {A : List Addr} : Rep K mg H o v d A → (∀ a ∈ A, ¬ M a) → Rep K mg H' o v d A
  | .non, _ => .non
  | .bl b, _ => .bl b
  | .int i, _ => .int i
  | .str x, _ => .str x
  | .lst h r, n => .lst (f _ _ h fun _ => n _ List.mem_cons_self) (r.fr f fun a ha => n a (List.mem_cons_of_mem _ ha))
  | .lstF h r, n => .lstF (h.fr f) (r.fr f n)
  | .tup h r, n => .tup (sqT_fr h f) (r.fr f n)
  | .dct h r, n => .dct (f _ _ h fun _ => n _ List.mem_cons_self) (r.fr f fun a ha => n a (List.mem_cons_of_mem _ ha))
  | .dctF h r, n => .dctF (f _ _ h fun z => by cases z) (r.fr f n)
  | .ins h g r, n => .ins (f _ _ h fun _ => n _ List.mem_cons_self) g (r.fr f fun a ha => n a (List.mem_cons_of_mem _ ha))
theorem RepL.fr {M : Addr → Prop} (f : Fr M H H') {o : Bool} {v : List V} {d : List D} {A : List Addr} : RepL K mg H o v d A → (∀ a ∈ A, ¬ M a) → RepL K mg H' o v d A
  | .nil, _ => .nil
  | .cons h r, n => .cons (h.fr f fun a ha => n a (List.mem_append_left _ ha)) (r.fr f fun a ha => n a (List.mem_append_right _ ha))
theorem RepP.fr {M : Addr → Prop} (f : Fr M H H') {o : Bool} {v : List (Key × V)} {d : List (D × D)} {A : List Addr} : RepP K mg H o v d A → (∀ a ∈ A, ¬ M a) → RepP K mg H' o v d A
  | .nil, _ => .nil
  | .cons h r, n => .cons (h.fr f fun a ha => n a (List.mem_append_left _ ha)) (r.fr f fun a ha => n a (List.mem_append_right _ ha))
theorem RepF.fr {M : Addr → Prop} (f : Fr M H H') {o : Bool} {v : List (Str × V)} {d : List (D × D)} {A : List Addr} : RepF K mg H o v d A → (∀ a ∈ A, ¬ M a) → RepF K mg H' o v d A
  | .nil, _ => .nil
  | .cons h r, n => .cons (h.fr f fun a ha => n a (List.mem_append_left _ ha)) (r.fr f fun a ha => n a (List.mem_append_right _ ha))
end
theorem Rep.same (s : Same H H') {o : Bool} {v : V} {d : D} {A : List Addr} (h : Rep K mg H o v d A) : Rep K mg H' o v d A := h.fr (M := fun _ => False) (Fr.of_same s) fun _ _ z => z
theorem RepL.same (s : Same H H') {o : Bool} {v : List V} {d : List D} {A : List Addr} (h : RepL K mg H o v d A) : RepL K mg H' o v d A := h.fr (M := fun _ => False) (Fr.of_same s) fun _ _ z => z
theorem RepP.same (s : Same H H') {o : Bool} {v : List (Key × V)} {d : List (D × D)} {A : List Addr} (h : RepP K mg H o v d A) : RepP K mg H' o v d A := h.fr (M := fun _ => False) (Fr.of_same s) fun _ _ z => z
mutual
/-- what can be changed stands -/
theorem Rep.on {o : Bool} {v : V} {d : D} {A : List Addr} : Rep K mg H o v d A → ∀ a ∈ A, ∃ u, H a = some u ∧ isMut u = true
  | .non, _, z => by cases z
  | .bl _, _, z => by cases z
  | .int _, _, z => by cases z
  | .str _, _, z => by cases z
  | .lst h r, a, z => by
    rcases List.mem_cons.mp z with rfl | z
    · exact ⟨_, h, rfl⟩
    · exact r.on a z
  | .lstF h r, a, z => r.on a z
  | .tup h r, a, z => r.on a z
  | .dct h r, a, z => by
    rcases List.mem_cons.mp z with rfl | z
    · exact ⟨_, h, rfl⟩
    · exact r.on a z
  | .dctF h r, a, z => r.on a z
  | .ins h g r, a, z => by
    rcases List.mem_cons.mp z with rfl | z
    · exact ⟨_, h, rfl⟩
    · exact r.on a z
theorem RepL.on {o : Bool} {v : List V} {d : List D} {A : List Addr} : RepL K mg H o v d A → ∀ a ∈ A, ∃ u, H a = some u ∧ isMut u = true
  | .nil, _, z => by cases z
  | .cons h r, a, z => by
    rcases List.mem_append.mp z with z | z
    · exact h.on a z
    · exact r.on a z
theorem RepP.on {o : Bool} {v : List (Key × V)} {d : List (D × D)} {A : List Addr} : RepP K mg H o v d A → ∀ a ∈ A, ∃ u, H a = some u ∧ isMut u = true
  | .nil, _, z => by cases z
  | .cons h r, a, z => by
    rcases List.mem_append.mp z with z | z
    · exact h.on a z
    · exact r.on a z
theorem RepF.on {o : Bool} {v : List (Str × V)} {d : List (D × D)} {A : List Addr} : RepF K mg H o v d A → ∀ a ∈ A, ∃ u, H a = some u ∧ isMut u = true
  | .nil, _, z => by cases z
  | .cons h r, a, z => by
    rcases List.mem_append.mp z with z | z
    · exact h.on a z
    · exact r.on a z
end
theorem Rep.old {o : Bool} {v : V} {d : D} {A : List Addr} (h : Rep K mg H o v d A) {a : Addr} (ha : a ∈ A) : H a ≠ none := fun z => by
  obtain ⟨u, q, _⟩ := h.on a ha
  rw [z] at q
  cases q
theorem RepL.old {o : Bool} {v : List V} {d : List D} {A : List Addr} (h : RepL K mg H o v d A) {a : Addr} (ha : a ∈ A) : H a ≠ none := fun z => by
  obtain ⟨u, q, _⟩ := h.on a ha
  rw [z] at q
  cases q
theorem RepL.len {o : Bool} : ∀ {v : List V} {d : List D} {A : List Addr}, RepL K mg H o v d A → v.length = d.length
  | _, _, _, .nil => rfl
  | _, _, _, .cons _ r => congrArg (· + 1) r.len
theorem RepP.len {o : Bool} : ∀ {v : List (Key × V)} {d : List (D × D)} {A : List Addr}, RepP K mg H o v d A → v.length = d.length
  | _, _, _, .nil => rfl
  | _, _, _, .cons _ r => congrArg (· + 1) r.len
theorem RepL.get {o : Bool} : ∀ {v : List V} {d : List D} {A : List Addr} {i : Nat} {x : D}, RepL K mg H o v d A → d[i]? = some x → ∃ y B, v[i]? = some y ∧ Rep K mg H o y x B ∧ ∀ a ∈ B, a ∈ A
  | _, _, _, _, _, .nil, e => by simp at e
  | _, _, _, 0, x, .cons h r, e => by
    simp at e
    subst e
    exact ⟨_, _, rfl, h, fun a ha => List.mem_append_left _ ha⟩
  | _, _, _, i + 1, x, .cons h r, e => by
    obtain ⟨y, B, h1, h2, h3⟩ := r.get (i := i) (x := x) (by simpa using e)
    exact ⟨y, B, by simpa using h1, h2, fun a ha => List.mem_append_right _ (h3 a ha)⟩
theorem RepL.app {o : Bool} : ∀ {v w : List V} {d e : List D} {A B : List Addr}, RepL K mg H o v d A → RepL K mg H o w e B → RepL K mg H o (v ++ w) (d ++ e) (A ++ B)
  | _, _, _, _, _, _, .nil, s => s
  | _, _, _, _, _, _, .cons h r, s => by
    have q := RepL.cons h (r.app s)
    rw [← List.append_assoc] at q
    exact q
theorem RepL.one {o : Bool} {v : V} {d : D} {A : List Addr} (h : Rep K mg H o v d A) : RepL K mg H o [v] [d] A := by
  have q := RepL.cons h RepL.nil
  rw [List.append_nil] at q
  exact q
mutual
/-- nothing in it can be changed -/
def imm : D → Bool
  | .list _ => false
  | .dict _ => false
  | .tuple ds => immL ds
  | _ => true
def immL : List D → Bool
  | [] => true
  | d :: ds => imm d && immL ds
end
mutual
theorem Rep.imm {o : Bool} {v : V} {d : D} {A : List Addr} : Rep K mg H o v d A → Dg.imm d = true → A = [] ∧ Rep K mg H true v d []
  | .non, _ => ⟨rfl, .non⟩
  | .bl b, _ => ⟨rfl, .bl b⟩
  | .int i, _ => ⟨rfl, .int i⟩
  | .str x, _ => ⟨rfl, .str x⟩
  | .lst h r, z => by simp [Dg.imm] at z
  | .lstF h r, z => by simp [Dg.imm] at z
  | .dct h r, z => by simp [Dg.imm] at z
  | .dctF h r, z => by simp [Dg.imm] at z
  | .ins h g r, z => by simp [Dg.imm] at z
  | .tup h r, z => by
    obtain ⟨e, q⟩ := r.imm (by simpa [Dg.imm] using z)
    exact ⟨e, .tup h q⟩
theorem RepL.imm {o : Bool} {v : List V} {d : List D} {A : List Addr} : RepL K mg H o v d A → Dg.immL d = true → A = [] ∧ RepL K mg H true v d []
  | .nil, _ => ⟨rfl, .nil⟩
  | .cons h r, z => by
    rw [Dg.immL, Bool.and_eq_true] at z
    obtain ⟨e1, q1⟩ := h.imm z.1
    obtain ⟨e2, q2⟩ := r.imm z.2
    subst e1 e2
    exact ⟨rfl, .cons q1 q2⟩
end
theorem immL_get : ∀ {ds : List D} {i : Nat} {d : D}, immL ds = true → ds[i]? = some d → imm d = true
  | [], _, _, _, e => by simp at e
  | x :: xs, 0, d, h, e => by
    simp at e
    subst e
    rw [immL, Bool.and_eq_true] at h
    exact h.1
  | x :: xs, i + 1, d, h, e => by
    rw [immL, Bool.and_eq_true] at h
    exact immL_get (i := i) h.2 (by simpa using e)
theorem immL_app : ∀ {ds es : List D}, immL (ds ++ es) = (immL ds && immL es)
  | [], es => by simp [immL]
  | d :: ds, es => by simp [immL, immL_app (ds := ds), Bool.and_assoc]
mutual
/-- no dict in it -/
def flat : D → Bool
  | .dict _ => false
  | .list ds => flatL ds
  | .tuple ds => flatL ds
  | _ => true
def flatL : List D → Bool
  | [] => true
  | d :: ds => flat d && flatL ds
end
mutual
theorem Rep.dp {o : Bool} {v : V} {d : D} {A : List Addr} : Rep K mg H o v d A → flat d = true → Dp K H v d
  | .non, _ => .non
  | .bl b, _ => .bl b
  | .int i, _ => .int i
  | .str x, _ => .str x
  | .lst h r, z => .lst (.inl (.inl h)) (r.dp (by simpa [flat] using z))
  | .lstF h r, z => by simp [flat] at z
  | .tup h r, z => .tup h (r.dp (by simpa [flat] using z))
  | .dct h r, z => by simp [flat] at z
  | .dctF h r, z => by simp [flat] at z
  | .ins h g r, z => by simp [flat] at z
theorem RepL.dp {o : Bool} {v : List V} {d : List D} {A : List Addr} : RepL K mg H o v d A → flatL d = true → DpAll K H v d
  | .nil, _ => .nil
  | .cons h r, z => by
    rw [flatL, Bool.and_eq_true] at z
    exact .cons (h.dp z.1) (r.dp z.2)
end
end
/-- the frame's state: H0, M0 what stood at the entry and what of it may be changed; pn: slots that keep their values; ow: the slots whose trees are one's own -/
structure Sta (K : PySem.W.Frag) (mg : Str → Option Value) (H0 : Hp) (M0 : Addr → Prop) (pn : Nat → Option V) (ow : List Nat) (σ : L2.St) (ρ : Env) (H : Hp) (As : Nat → List Addr) : Prop where
  fr : Fr M0 H0 H
  rep : ∀ i d, ρ[i]? = some (some d) → ∃ v, σ[i]? = some (some v) ∧ Rep K mg H (ow.contains i) v d (As i)
  dead : ∀ i, (∀ d, ρ[i]? ≠ some (some d)) → As i = []
  nd : ∀ i ∈ ow, (As i).Nodup
  new : ∀ i ∈ ow, ∀ a ∈ As i, H0 a = none ∨ M0 a
  sep : ∀ i ∈ ow, ∀ j, j ≠ i → ∀ a ∈ As i, a ∉ As j
  len : σ.length = ρ.length
  pin : ∀ j v, pn j = some v → σ[j]? = some (some v)
section
variable {K : PySem.W.Frag} {mg : Str → Option Value} {H0 : Hp} {M0 : Addr → Prop} {pn : Nat → Option V} {ow ow' : List Nat} {σ : L2.St} {ρ : Env} {H H' : Hp} {As : Nat → List Addr}
theorem Sta.on (S : Sta K mg H0 M0 pn ow σ ρ H As) {i : Nat} {a : Addr} (ha : a ∈ As i) : ∃ u, H a = some u ∧ isMut u = true := by
  by_cases h : ∃ d, ρ[i]? = some (some d)
  · obtain ⟨d, e⟩ := h
    obtain ⟨v, _, r⟩ := S.rep i d e
    exact r.on a ha
  · rw [S.dead i fun d e => h ⟨d, e⟩] at ha
    cases ha
theorem Sta.old (S : Sta K mg H0 M0 pn ow σ ρ H As) {i : Nat} {a : Addr} (ha : a ∈ As i) : H a ≠ none := fun z => by
  obtain ⟨u, q, _⟩ := S.on ha
  rw [z] at q
  cases q
theorem Sta.same (S : Sta K mg H0 M0 pn ow σ ρ H As) (s : Same H H') : Sta K mg H0 M0 pn ow σ ρ H' As :=
  ⟨S.fr.step s, fun i d e => by
    obtain ⟨v, h1, h2⟩ := S.rep i d e
    exact ⟨v, h1, h2.same s⟩, S.dead, S.nd, S.new, S.sep, S.len, S.pin⟩
theorem contains_mem {l : List Nat} {i : Nat} : l.contains i = true ↔ i ∈ l := by simp
theorem rep_less {v : V} {d : D} {A : List Addr} {b b' : Bool} (h : Rep K mg H b v d A) (q : b' = true → b = true) : Rep K mg H b' v d A := by
  cases b' with
  | false => exact h.weak
  | true =>
    have e := q rfl
    subst e
    exact h
theorem Sta.less (S : Sta K mg H0 M0 pn ow σ ρ H As) (h : ∀ i ∈ ow', i ∈ ow) : Sta K mg H0 M0 pn ow' σ ρ H As :=
  ⟨S.fr, fun i d e => by
    obtain ⟨v, h1, h2⟩ := S.rep i d e
    exact ⟨v, h1, rep_less h2 fun z => contains_mem.mpr (h i (contains_mem.mp z))⟩, S.dead, fun i hi => S.nd i (h i hi), fun i hi => S.new i (h i hi), fun i hi => S.sep i (h i hi), S.len, S.pin⟩
/-- an address that is new now was new, or changeable, at the entry -/
theorem Sta.was (S : Sta K mg H0 M0 pn ow σ ρ H As) {a : Addr} (h : H a = none) : H0 a = none ∨ M0 a := by
  by_cases m : M0 a
  · exact .inr m
  · refine .inl ?_
    cases e : H0 a with
    | none => rfl
    | some o =>
      have q := S.fr a o e fun _ => m
      rw [h] at q
      cases q
end
end Dg

namespace Dg
open PySem PySem.Spec PyProof.Rows L2
/-- how a value lies: of trees of the slots ss, perhaps; or all one's own, of the slots ms and new things -/
inductive Kd where
  | br (ss : List Nat)
  | own (ms : List Nat)
def Kd.isOwn : Kd → Bool
  | .br _ => false
  | .own _ => true
def Kd.Ok (k : Kd) (ow : List Nat) (H : Hp) (As : Nat → List Addr) (A : List Addr) : Prop := match k with
  | .br ss => ∀ j ∈ ow, j ∉ ss → ∀ a ∈ As j, a ∉ A
  | .own ms => A.Nodup ∧ (∀ j ∈ ms, j ∈ ow) ∧ ∀ a ∈ A, H a = none ∨ ∃ j ∈ ms, a ∈ As j
/-- an exception of the text's own, by its class and dict -/
def RepX (K : PySem.W.Frag) (mg : Str → Option Value) (H : Hp) (c : Value) (dd : Option Addr) (x : Exn) (A : List Addr) : Prop :=
  ∃ C : Addr, c = .ref C ∧ mg x.cls = some (.ref C) ∧ match dd with
    | none => x.flds = [] ∧ A = []
    | some d => ∃ fs, H d = some (.xd fs) ∧ RepF K mg H false fs x.flds A
def On (X : Cx) (ow : List Nat) (σ : L2.St) (ρ : Env) (H : Hp) (As : Nat → List Addr) : Prop := ∃ H0 M0 pn, Sta X.K X.mg H0 M0 pn ow σ ρ H As
theorem On.same {X : Cx} {ow : List Nat} {σ : L2.St} {ρ : Env} {H H' : Hp} {As : Nat → List Addr} (S : On X ow σ ρ H As) (s : Same H H') : On X ow σ ρ H' As := by
  obtain ⟨H0, M0, pn, S⟩ := S
  exact ⟨H0, M0, pn, S.same s⟩
theorem On.old {X : Cx} {ow : List Nat} {σ : L2.St} {ρ : Env} {H : Hp} {As : Nat → List Addr} (S : On X ow σ ρ H As) {i : Nat} {a : Addr} (ha : a ∈ As i) : H a ≠ none := by
  obtain ⟨H0, M0, pn, S⟩ := S
  exact S.old ha
def Good (X : Cx) (W : WX) (σ : L2.St) (ow : List Nat) (k : Kd) (H : Hp) (As : Nat → List Addr) (r : R D) (Q : VK) : Prop := match r with
  | .ok d => ∀ v H' A, Same H H' → Rep X.K X.mg H' k.isOwn v d A → k.Ok ow H As A → Q v H'
  | .exc x => ∀ c dd H' A, Same H H' → RepX X.K X.mg H' c dd x A → W c dd σ H'
  | .stk => False
/-- an expression and what it comes to -/
def DE (X : Cx) (W : WX) (ow : List Nat) (k : Kd) (e : Expr) (den : Env → R D) : Prop :=
  ∃ te, PE X e te ∧ ∀ σ ρ H As Q, On X ow σ ρ H As → Good X W σ ow k H As (den ρ) Q → te σ H Q
def GoodT (X : Cx) (W : WX) (σ : L2.St) (H : Hp) (r : R Bool) (Q : Bool → Hp → Prop) : Prop := match r with
  | .ok b => ∀ H', Same H H' → Q b H'
  | .exc x => ∀ c dd H' A, Same H H' → RepX X.K X.mg H' c dd x A → W c dd σ H'
  | .stk => False
/-- a test -/
def DT (X : Cx) (W : WX) (ow : List Nat) (e : Expr) (den : Env → R Bool) : Prop :=
  ∃ tt, PT X e tt ∧ ∀ σ ρ H As Q, On X ow σ ρ H As → GoodT X W σ H (den ρ) Q → tt σ H Q
def DW (X : Cx) (W : WX) (ow : List Nat) (e : Expr) (den : Env → R Bool) : Prop :=
  ∃ tt, PW X e tt ∧ ∀ σ ρ H As Q, On X ow σ ρ H As → GoodT X W σ H (den ρ) Q → tt σ H Q
def GoodL (X : Cx) (W : WX) (σ : L2.St) (ow : List Nat) (k : Kd) (n : Nat) (H : Hp) (As : Nat → List Addr) (r : R (List D)) (Q : List V → Hp → Prop) : Prop := match r with
  | .ok ds => ∀ vs H' A, Same H H' → RepL X.K X.mg H' k.isOwn vs ds A → k.Ok ow H As A → vs.length = n → Q vs H'
  | .exc x => ∀ c dd H' A, Same H H' → RepX X.K X.mg H' c dd x A → W c dd σ H'
  | .stk => False
/-- written arguments -/
def DA (X : Cx) (W : WX) (ow : List Nat) (k : Kd) (n : Nat) (es : List Expr) (den : Env → R (List D)) : Prop :=
  ∃ ta, PA X es ta ∧ ∀ σ ρ H As Q, On X ow σ ρ H As → GoodL X W σ ow k n H As (den ρ) Q → ta σ H Q
section
variable {X : Cx} {W : WX} {ow : List Nat} {k k1 k2 : Kd} {e a b : Expr} {den d1 d2 : Env → R D} {pos : Pos}
theorem PE.or2 {t u : TE} (h : PE X e t) (h' : PE X e u) : PE X e (fun σ H Q => t σ H Q ∨ u σ H Q) := by
  refine ⟨fun pins s σ H Q I q => ?_⟩
  rcases q with q | q
  · exact h.run pins s σ H Q I q
  · exact h'.run pins s σ H Q I q
/-! ### kinds -/
theorem Kd.weak {H H' : Hp} {As : Nat → List Addr} {A : List Addr} {σ : L2.St} {ρ : Env} (S : On X ow σ ρ H As) (h : k.Ok ow H As A) : ∃ ss, (Kd.br ss).Ok ow H As A ∧ ss = (match k with | .br ss => ss | .own ms => ms) := by
  cases k with
  | br ss => exact ⟨ss, h, rfl⟩
  | own ms =>
    obtain ⟨nd, hm, hf⟩ := h
    refine ⟨ms, fun j hj hn a ha hA => ?_, rfl⟩
    rcases hf a hA with z | ⟨i, hi, z⟩
    · exact S.old ha z
    · obtain ⟨H0, M0, pn, S⟩ := S
      exact S.sep j hj i (fun e => hn (e ▸ hi)) a ha z
def Kd.src : Kd → List Nat
  | .br ss => ss
  | .own ms => ms
theorem Kd.brOk {H : Hp} {As : Nat → List Addr} {A : List Addr} {σ : L2.St} {ρ : Env} (S : On X ow σ ρ H As) (h : k.Ok ow H As A) : (Kd.br k.src).Ok ow H As A := by
  obtain ⟨ss, h, rfl⟩ := Kd.weak (H' := H) S h
  cases k <;> exact h
theorem Kd.sub {H : Hp} {As : Nat → List Addr} {A B : List Addr} {ss ts : List Nat} (h : (Kd.br ss).Ok ow H As A) (hs : ∀ i ∈ ss, i ∈ ts) (hB : ∀ a ∈ B, a ∈ A) : (Kd.br ts).Ok ow H As B :=
  fun j hj hn a ha hb => h j hj (fun z => hn (hs j z)) a ha (hB a hb)
theorem nil_own {H : Hp} {As : Nat → List Addr} : (Kd.own []).Ok ow H As [] := ⟨List.nodup_nil, (fun _ h => by cases h), (fun _ h => by cases h)⟩
/-- as a value of others' -/
theorem de_br (h : DE X W ow k e den) : DE X W ow (.br k.src) e den := by
  obtain ⟨te, p, q⟩ := h
  refine ⟨te, p, fun σ ρ H As Q S g => q σ ρ H As Q S ?_⟩
  cases hd : den ρ with
  | ok d =>
    rw [hd] at g
    intro v H' A sm r z
    exact g v H' A sm r.weak (Kd.brOk S z)
  | exc x =>
    rw [hd] at g
    exact g
  | stk =>
    rw [hd] at g
    exact g
def chk (d : D) : R D := if imm d = true then .ok d else .stk
def chkE (f : Env → R D) : Env → R D := fun ρ => (f ρ).bind chk
/-- a value in which nothing can be changed is everyone's own -/
theorem de_imm (h : DE X W ow k e den) : DE X W ow (.own []) e (chkE den) := by
  obtain ⟨te, p, q⟩ := h
  refine ⟨te, p, fun σ ρ H As Q S g => q σ ρ H As Q S ?_⟩
  unfold chkE at g
  cases hd : den ρ with
  | ok d =>
    rw [hd, R.bind_ok] at g
    unfold chk at g
    by_cases hi : imm d = true
    · rw [if_pos hi] at g
      intro v H' A sm r z
      obtain ⟨rfl, r'⟩ := r.imm hi
      exact g v H' [] sm r' nil_own
    · rw [if_neg hi] at g
      exact g.elim
  | exc x =>
    rw [hd, R.bind_exc] at g
    exact g
  | stk =>
    rw [hd, R.bind_stk] at g
    exact g
/-! ### names, constants -/
def vr (i : Nat) : Env → R D := fun ρ => match ρ[i]? with
  | some (some d) => .ok d
  | _ => .stk
theorem vr_at {i : Nat} {ρ : Env} {d : D} (h : vr i ρ = .ok d) : ρ[i]? = some (some d) := by
  unfold vr at h
  split at h
  · rename_i e q
    cases h
    exact q
  · cases h
theorem vr_not {i : Nat} {ρ : Env} : (∃ d, vr i ρ = .ok d) ∨ vr i ρ = .stk := by
  unfold vr
  split
  · exact .inl ⟨_, rfl⟩
  · exact .inr rfl
theorem de_var {i : Nat} (h : PE X e (tVar i)) : DE X W ow (.br [i]) e (vr i) := by
  refine ⟨_, h, fun σ ρ H As Q S g => ?_⟩
  rcases vr_not (i := i) (ρ := ρ) with ⟨d, hd⟩ | hd
  · rw [hd] at g
    have hS := S
    obtain ⟨H0, M0, pn, S⟩ := S
    obtain ⟨v, hv, r⟩ := S.rep i d (vr_at hd)
    refine ⟨v, hv, g v H (As i) (Same.refl H) r.weak ?_⟩
    intro j hj hn a ha
    exact S.sep j hj i (fun z => hn (by rw [z]; exact List.mem_singleton_self _)) a ha
  · rw [hd] at g
    exact g.elim
/-- a slot's own tree is taken out -/
theorem de_mov {i : Nat} (h : PE X e (tVar i)) (hi : i ∈ ow) : DE X W ow (.own [i]) e (vr i) := by
  refine ⟨_, h, fun σ ρ H As Q S g => ?_⟩
  rcases vr_not (i := i) (ρ := ρ) with ⟨d, hd⟩ | hd
  · rw [hd] at g
    obtain ⟨H0, M0, pn, S⟩ := S
    obtain ⟨v, hv, r⟩ := S.rep i d (vr_at hd)
    rw [contains_mem.mpr hi] at r
    refine ⟨v, hv, g v H (As i) (Same.refl H) r ⟨S.nd i hi, fun j hj => ?_, fun a ha => .inr ⟨i, List.mem_singleton_self _, ha⟩⟩⟩
    rw [List.mem_singleton.mp hj]
    exact hi
  · rw [hd] at g
    exact g.elim
def cst (d : D) : Env → R D := fun _ => .ok d
theorem de_cst {v : V} {d : D} (h : PE X e (tC v)) (r : ∀ K mg H, Rep K mg H true v d []) : DE X W ow (.own []) e (cst d) :=
  ⟨_, h, fun σ ρ H As Q S g => g v H [] (Same.refl H) (r _ _ _) nil_own⟩
theorem de_int {i : Int} {j : Nat} : DE X W ow (.own []) (.Constant (.int i) j pos) (cst (.int i)) := de_cst pe_int fun _ _ _ => .int i
theorem de_str {x : Str} {j : Nat} : DE X W ow (.own []) (.Constant (.str x) j pos) (cst (.str x)) := de_cst pe_str fun _ _ _ => .str x
theorem de_bl {b : Bool} {j : Nat} : DE X W ow (.own []) (.Constant (.bool b) j pos) (cst (.bool b)) := de_cst pe_bl fun _ _ _ => .bl b
theorem de_non {j : Nat} : DE X W ow (.own []) (.Constant .none j pos) (cst .none) := de_cst pe_non fun _ _ _ => .non
theorem de_globI {x : Str} {i : Int} {t : Tok} (hg : Gl X x) (hm : X.mg x = some (.int i t)) (hd : (x == ("__debug__" : Str)) = false := by decide) : DE X W ow (.own []) (.Name x pos) (cst (.int i)) :=
  de_cst (v := .int i) (pe_glob hg hm ⟨t, rfl⟩ hd) fun _ _ _ => .int i
theorem de_globS {x : Str} {i : Str} {t : Tok} (hg : Gl X x) (hm : X.mg x = some (.str i t)) (hd : (x == ("__debug__" : Str)) = false := by decide) : DE X W ow (.own []) (.Name x pos) (cst (.str i)) :=
  de_cst (v := .str i) (pe_glob hg hm ⟨t, rfl⟩ hd) fun _ _ _ => .str i
/-! ### operators -/
def Fresh (X : Cx) (H : Hp) (r : R D) (Q : VK) : Prop := match r with
  | .ok d => ∀ v H' A, Same H H' → Rep X.K X.mg H' true v d A → A.Nodup → (∀ a ∈ A, H a = none) → Q v H'
  | _ => False
theorem fresh_good {σ : L2.St} {H H1 : Hp} {As : Nat → List Addr} {r : R D} {Q : VK} (s : Same H H1) (g : Good X W σ ow (.own []) H As r Q) (hx : ∀ x, r ≠ .exc x) : Fresh X H1 r Q := by
  cases r with
  | ok d => exact fun v H' A sm rp nd fr => g v H' A (s.trans sm) rp ⟨nd, (fun _ h => by cases h), fun a ha => .inl (s.free (fr a ha))⟩
  | exc x => exact hx x rfl
  | stk => exact g
/-- an operation by what its operands stand for -/
def OpD (X : Cx) (f : Value → Value → Sem Value) (g : D → D → R D) : Prop :=
  ∃ r : R2, OpR X f r ∧ (∀ x y z, g x y ≠ .exc z) ∧ ∀ H x y dx dy A B Q, Rep X.K X.mg H false x dx A → Rep X.K X.mg H false y dy B → Fresh X H (g dx dy) Q → r x y H Q
def UnD (X : Cx) (f : Value → Sem Value) (g : D → R D) : Prop :=
  ∃ r : V → Hp → VK → Prop, UnR X f r ∧ (∀ x z, g x ≠ .exc z) ∧ ∀ H x dx A Q, Rep X.K X.mg H false x dx A → Fresh X H (g dx) Q → r x H Q
def b2 (g : D → D → R D) (f1 f2 : Env → R D) : Env → R D := fun ρ => (f1 ρ).bind fun x => (f2 ρ).bind fun y => g x y
def b1 (g : D → R D) (f1 : Env → R D) : Env → R D := fun ρ => (f1 ρ).bind g
theorem t2_good {g : D → D → R D} {ta tb : TE} {r : R2} (h2 : ∀ σ ρ H As Q, On X ow σ ρ H As → Good X W σ ow k2 H As (d2 ρ) Q → tb σ H Q) (h1 : ∀ σ ρ H As Q, On X ow σ ρ H As → Good X W σ ow k1 H As (d1 ρ) Q → ta σ H Q)
    (hg : ∀ x y z, g x y ≠ .exc z) (hr : ∀ H x y dx dy A B Q, Rep X.K X.mg H false x dx A → Rep X.K X.mg H false y dy B → Fresh X H (g dx dy) Q → r x y H Q)
    {σ : L2.St} {ρ : Env} {H : Hp} {As : Nat → List Addr} {Q : VK} (S : On X ow σ ρ H As) (q : Good X W σ ow (.own []) H As (b2 g d1 d2 ρ) Q) : tOp r ta tb σ H Q := by
  refine h1 σ ρ H As _ S ?_
  unfold b2 at q
  cases e1 : d1 ρ with
  | stk =>
    rw [e1] at q
    exact q
  | exc x =>
    rw [e1] at q
    exact q
  | ok dx =>
    rw [e1, R.bind_ok] at q
    intro x H1 A s1 rx _
    refine h2 σ ρ H1 As _ (S.same s1) ?_
    cases e2 : d2 ρ with
    | stk =>
      rw [e2] at q
      exact q
    | exc x =>
      rw [e2] at q
      intro c dd H' B sm rp
      exact q c dd H' B (s1.trans sm) rp
    | ok dy =>
      rw [e2, R.bind_ok] at q
      intro y H2 B s2 ry _
      exact hr H2 x y dx dy A B Q (rx.weak.same s2) ry.weak (fresh_good (s1.trans s2) q (hg dx dy))
theorem de_op {op : Operator} {g : D → D → R D} (h : OpD X (binaryOp op) g) (h1 : DE X W ow k1 a d1) (h2 : DE X W ow k2 b d2) : DE X W ow (.own []) (.BinOp a op b pos) (b2 g d1 d2) := by
  obtain ⟨r, ho, hg, hr⟩ := h
  obtain ⟨ta, p1, q1⟩ := h1
  obtain ⟨tb, p2, q2⟩ := h2
  exact ⟨_, pe_op ho p1 p2, fun σ ρ H As Q S q => t2_good q2 q1 hg hr S q⟩
theorem de_cmp {op : CmpOp} {g : D → D → R D} (h : OpD X (compareOp op) g) (h1 : DE X W ow k1 a d1) (h2 : DE X W ow k2 b d2) (hm : behindInMarks op b = false) : DE X W ow (.own []) (.Compare a [op] [b] pos) (b2 g d1 d2) := by
  obtain ⟨r, ho, hg, hr⟩ := h
  obtain ⟨ta, p1, q1⟩ := h1
  obtain ⟨tb, p2, q2⟩ := h2
  exact ⟨_, pe_cmpR ho p1 p2 hm, fun σ ρ H As Q S q => t2_good q2 q1 hg hr S q⟩
theorem de_un {op : UnaryOp} {g : D → R D} (h : UnD X (unaryOp op) g) (h1 : DE X W ow k1 a d1) : DE X W ow (.own []) (.UnaryOp op a pos) (b1 g d1) := by
  obtain ⟨r, ho, hg, hr⟩ := h
  obtain ⟨ta, p1, q1⟩ := h1
  refine ⟨_, pe_un ho p1, fun σ ρ H As Q S q => q1 σ ρ H As _ S ?_⟩
  unfold b1 at q
  cases e1 : d1 ρ with
  | stk =>
    rw [e1] at q
    exact q
  | exc x =>
    rw [e1] at q
    exact q
  | ok dx =>
    rw [e1, R.bind_ok] at q
    intro x H1 A s1 rx _
    exact hr H1 x dx A Q rx.weak (fresh_good s1 q (hg dx))
/-! ### tests -/
def tst (d : D) : R Bool := match d with
  | .bool b => .ok b
  | _ => .stk
def tb (f : Env → R D) : Env → R Bool := fun ρ => (f ρ).bind tst
theorem dt_val (h : DE X W ow k e den) (he : ∀ whole, isTrue e X.env whole = (do let v ← whole; standAt e.pos; holding [v] (truthy v)) := by intro _; rfl) : DT X W ow e (tb den) := by
  obtain ⟨te, p, q⟩ := h
  refine ⟨_, pt_val p he, fun σ ρ H As Q S g => q σ ρ H As _ S ?_⟩
  unfold tb at g
  cases hd : den ρ with
  | stk =>
    rw [hd] at g
    exact g
  | exc x =>
    rw [hd] at g
    exact g
  | ok d =>
    rw [hd, R.bind_ok] at g
    intro v H' A sm r _
    cases d with
    | bool b =>
      cases r.weak
      exact ⟨b, rfl, g H' sm⟩
    | _ => exact g.elim
def cmpT (g : D → D → R D) (f1 f2 : Env → R D) : Env → R Bool := tb (b2 g f1 f2)
theorem dt_cmp {op : CmpOp} {g : D → D → R D} (h : OpD X (compareOp op) g) (h1 : DE X W ow k1 a d1) (h2 : DE X W ow k2 b d2) (hm : behindInMarks op b = false) : DT X W ow (.Compare a [op] [b] pos) (tb (b2 g d1 d2)) := by
  obtain ⟨r, ho, hg, hr⟩ := h
  obtain ⟨ta, p1, q1⟩ := h1
  obtain ⟨tb', p2, q2⟩ := h2
  refine ⟨_, pt_cmpR ho p1 p2 hm, fun σ ρ H As Q S q => t2_good (g := g) q2 q1 hg hr S ?_⟩
  unfold tb at q
  cases hd : b2 g d1 d2 ρ with
  | stk =>
    rw [hd] at q
    exact q
  | exc x =>
    rw [hd] at q
    exact q
  | ok d =>
    rw [hd, R.bind_ok] at q
    intro v H' A sm r _
    cases d with
    | bool b =>
      cases r.weak
      exact ⟨b, rfl, q H' sm⟩
    | _ => exact q.elim
def notT (f : Env → R Bool) : Env → R Bool := fun ρ => (f ρ).bind fun b => .ok (!b)
def andT (f g : Env → R Bool) : Env → R Bool := fun ρ => (f ρ).bind fun b => if b = true then g ρ else .ok false
def orT (f g : Env → R Bool) : Env → R Bool := fun ρ => (f ρ).bind fun b => if b = true then .ok true else g ρ
theorem dt_not {f : Env → R Bool} (h : DT X W ow a f) : DT X W ow (.UnaryOp .Not a pos) (notT f) := by
  obtain ⟨te, p, q⟩ := h
  refine ⟨_, pt_not p, fun σ ρ H As Q S g => q σ ρ H As _ S ?_⟩
  unfold notT at g
  cases hd : f ρ with
  | stk =>
    rw [hd] at g
    exact g
  | exc x =>
    rw [hd] at g
    exact g
  | ok d =>
    rw [hd, R.bind_ok] at g
    exact g
theorem dw_and1 {f : Env → R Bool} (h : DT X W ow a f) : DW X W ow (.BoolOp .And [a] pos) f := by
  obtain ⟨te, p, q⟩ := h
  exact ⟨_, pw_and1 p, q⟩
theorem dw_or1 {f : Env → R Bool} (h : DT X W ow a f) : DW X W ow (.BoolOp .Or [a] pos) f := by
  obtain ⟨te, p, q⟩ := h
  exact ⟨_, pw_or1 p, q⟩
theorem dw_and {f g : Env → R Bool} {c : Expr} {rest : List Expr} {pos2 : Pos} (h : DT X W ow a f) (h2 : DW X W ow (.BoolOp .And (b :: rest) pos) g) : DW X W ow (.BoolOp .And (a :: b :: rest) pos) (andT f g) := by
  obtain ⟨te, p, q⟩ := h
  obtain ⟨tf, p2, q2⟩ := h2
  refine ⟨_, pw_and p p2, fun σ ρ H As Q S z => q σ ρ H As _ S ?_⟩
  unfold andT at z
  cases hd : f ρ with
  | stk =>
    rw [hd] at z
    exact z
  | exc x =>
    rw [hd] at z
    exact z
  | ok d =>
    rw [hd, R.bind_ok] at z
    intro H1 s1
    cases d with
    | false =>
      rw [if_neg Bool.false_ne_true] at z
      exact iteF (z H1 s1)
    | true =>
      rw [if_pos rfl] at z
      refine iteT (q2 σ ρ H1 As _ (S.same s1) ?_)
      cases hg : g ρ with
      | stk =>
        rw [hg] at z
        exact z
      | exc x =>
        rw [hg] at z
        exact fun c dd H' A sm r => z c dd H' A (s1.trans sm) r
      | ok d =>
        rw [hg] at z
        exact fun H' sm => z H' (s1.trans sm)
theorem dw_or {f g : Env → R Bool} {rest : List Expr} (h : DT X W ow a f) (h2 : DW X W ow (.BoolOp .Or (b :: rest) pos) g) : DW X W ow (.BoolOp .Or (a :: b :: rest) pos) (orT f g) := by
  obtain ⟨te, p, q⟩ := h
  obtain ⟨tf, p2, q2⟩ := h2
  refine ⟨_, pw_or p p2, fun σ ρ H As Q S z => q σ ρ H As _ S ?_⟩
  unfold orT at z
  cases hd : f ρ with
  | stk =>
    rw [hd] at z
    exact z
  | exc x =>
    rw [hd] at z
    exact z
  | ok d =>
    rw [hd, R.bind_ok] at z
    intro H1 s1
    cases d with
    | true =>
      rw [if_pos rfl] at z
      exact iteT (z H1 s1)
    | false =>
      rw [if_neg Bool.false_ne_true] at z
      refine iteF (q2 σ ρ H1 As _ (S.same s1) ?_)
      cases hg : g ρ with
      | stk =>
        rw [hg] at z
        exact z
      | exc x =>
        rw [hg] at z
        exact fun c dd H' A sm r => z c dd H' A (s1.trans sm) r
      | ok d =>
        rw [hg] at z
        exact fun H' sm => z H' (s1.trans sm)
theorem dt_w {f : Env → R Bool} (h : DW X W ow e f) : DT X W ow e f := by
  obtain ⟨te, p, q⟩ := h
  exact ⟨_, p.pt, q⟩
/-- a test of two comparisons: a op b op c -/
def chT (g g' : D → D → R D) (f1 f2 f3 : Env → R D) : Env → R Bool := fun ρ => (f1 ρ).bind fun x => (f2 ρ).bind fun y => ((g x y).bind tst).bind fun b => if b = true then (f3 ρ).bind fun z => (g' y z).bind tst else .ok false
/-! ### if as an expression -/
def ifE (c : Env → R Bool) (f g : Env → R D) : Env → R D := fun ρ => (c ρ).bind fun b => if b = true then f ρ else g ρ
theorem de_if {c : Expr} {f : Env → R Bool} (hc : DT X W ow c f) (h1 : DE X W ow k a d1) (h2 : DE X W ow k b d2) : DE X W ow k (.IfExp c a b pos) (ifE f d1 d2) := by
  obtain ⟨te, p, q⟩ := hc
  obtain ⟨ta, p1, q1⟩ := h1
  obtain ⟨tb', p2, q2⟩ := h2
  refine ⟨_, pe_ifExp p p1 p2, fun σ ρ H As Q S z => q σ ρ H As _ S ?_⟩
  unfold ifE at z
  have tr : ∀ H1, Same H H1 → ∀ r : R D, Good X W σ ow k H As r Q → Good X W σ ow k H1 As r Q := by
    intro H1 s1 r g
    cases r with
    | stk => exact g
    | exc x => exact fun c dd H' A sm r => g c dd H' A (s1.trans sm) r
    | ok d =>
      intro v H' A sm rp ok
      refine g v H' A (s1.trans sm) rp ?_
      cases k with
      | br ss => exact ok
      | own ms => exact ⟨ok.1, ok.2.1, fun a ha => (ok.2.2 a ha).imp (fun z => s1.free z) id⟩
  cases hd : f ρ with
  | stk =>
    rw [hd] at z
    exact z
  | exc x =>
    rw [hd] at z
    exact z
  | ok d =>
    rw [hd, R.bind_ok] at z
    intro H1 s1
    cases d with
    | true =>
      rw [if_pos rfl] at z
      exact iteT (q1 σ ρ H1 As _ (S.same s1) (tr H1 s1 _ z))
    | false =>
      rw [if_neg Bool.false_ne_true] at z
      exact iteF (q2 σ ρ H1 As _ (S.same s1) (tr H1 s1 _ z))
end
end Dg

namespace Dg
open PySem PySem.Spec PyProof.Rows L2
section
variable {X : Cx} {W : WX} {ow : List Nat} {k k1 k2 : Kd} {e a b : Expr} {den d1 d2 : Env → R D} {pos : Pos}
/-! ### what may be compared: no dicts, not too deep -/
def okD (d : D) : Bool := flat d && d.plain && decide (d.depth ≤ 60)
theorem okD.flat {d : D} (h : okD d = true) : flat d = true := by
  unfold okD at h
  simp only [Bool.and_eq_true] at h
  exact h.1.1
theorem okD.plain {d : D} (h : okD d = true) : d.plain = true := by
  unfold okD at h
  simp only [Bool.and_eq_true] at h
  exact h.1.2
theorem okD.depth {d : D} (h : okD d = true) : d.depth ≤ 60 := by
  unfold okD at h
  simp only [Bool.and_eq_true, decide_eq_true_eq] at h
  exact h.2
theorem opD_bool {f : Value → Value → Sem Value} {g : D → D → R D} (hg : ∀ x y z, g x y ≠ .exc z) (hb : ∀ x y d, g x y = .ok d → (∃ b, d = .bool b) ∧ Dg.flat x = true ∧ Dg.flat y = true)
    (run : ∀ (s : Shared) (v u : Value) (d e : D) (b : Bool) (as bs : List Addr) (Q E : Value → Shared → Prop), Reads s.heap v d as → Reads s.heap u e bs → g d e = .ok (.bool b) → Q (.bool b) s → wpAny (model X.prog X.w) X.A (f v u) Q E s) : OpD X f g := by
  refine ⟨fun x y H Q => ∃ d e b, Dp X.K H x d ∧ Dp X.K H y e ∧ g d e = .ok (.bool b) ∧ Q (.bl b) H, ?_, hg, ?_⟩
  · intro pins s σ H x y v u Q I rx ry h
    obtain ⟨d, e, b, hd, he, hq, q⟩ := h
    obtain ⟨as, r1⟩ := Dp.reads I d x v hd rx
    obtain ⟨bs, r2⟩ := Dp.reads I e y u he ry
    exact run s v u d e b as bs _ _ r1 r2 hq ⟨.bl _, H, I, rfl, q⟩
  · intro H x y dx dy A B Q r1 r2 h
    cases e : g dx dy with
    | ok d =>
      obtain ⟨⟨b, rfl⟩, f1, f2⟩ := hb dx dy d e
      refine ⟨dx, dy, b, r1.dp f1, r2.dp f2, e, ?_⟩
      rw [e] at h
      exact h (.bl b) H [] (Same.refl H) (.bl b) List.nodup_nil fun a ha => by cases ha
    | exc z => exact absurd e (hg dx dy z)
    | stk =>
      rw [e] at h
      exact h.elim
def dEq (x y : D) : R D := if (okD x && okD y) = true then .ok (.bool (PyData.eqv x y)) else .stk
def dNe (x y : D) : R D := if (okD x && okD y) = true then .ok (.bool (!PyData.eqv x y)) else .stk
theorem gif {c : Bool} {z : D} {d : D} (h : (if c = true then R.ok z else R.stk) = R.ok d) : c = true ∧ z = d := by
  cases c with
  | true =>
    rw [if_pos rfl] at h
    cases h
    exact ⟨rfl, rfl⟩
  | false =>
    rw [if_neg Bool.false_ne_true] at h
    cases h
theorem gifx {c : Bool} {z : D} {x : Exn} : (if c = true then R.ok z else R.stk) ≠ R.exc x := by
  cases c with
  | true =>
    rw [if_pos rfl]
    intro h
    cases h
  | false =>
    rw [if_neg Bool.false_ne_true]
    intro h
    cases h
theorem units60 (hu : X.A.units + 64 < cLine) {d e : D} (h : d.depth ≤ 60) : X.A.units + 1 + min d.depth e.depth < cLine := by
  have := Nat.min_le_left d.depth e.depth
  omega
theorem units60' (hu : X.A.units + 64 < cLine) {d e : D} (h : d.depth ≤ 60) : X.A.units + min d.depth e.depth < cLine := by
  have := Nat.min_le_left d.depth e.depth
  omega
theorem op_dEq (hu : X.A.units + 64 < cLine) : OpD X (compareOp .Eq) dEq := by
  refine opD_bool (fun _ _ _ => gifx) (fun x y d h => ?_) fun s v u d e b as bs Q E r1 r2 h q => ?_
  · obtain ⟨h1, rfl⟩ := gif h
    rw [Bool.and_eq_true] at h1
    exact ⟨⟨_, rfl⟩, okD.flat h1.1, okD.flat h1.2⟩
  · obtain ⟨h1, h2⟩ := gif h
    rw [Bool.and_eq_true] at h1
    cases h2
    exact SeqAt.eq_plain r1 r2 (okD.plain h1.1) (okD.plain h1.2) (units60' hu (okD.depth h1.1)) q
theorem op_dNe (hu : X.A.units + 64 < cLine) : OpD X (compareOp .NotEq) dNe := by
  refine opD_bool (fun _ _ _ => gifx) (fun x y d h => ?_) fun s v u d e b as bs Q E r1 r2 h q => ?_
  · obtain ⟨h1, rfl⟩ := gif h
    rw [Bool.and_eq_true] at h1
    exact ⟨⟨_, rfl⟩, okD.flat h1.1, okD.flat h1.2⟩
  · obtain ⟨h1, h2⟩ := gif h
    rw [Bool.and_eq_true] at h1
    cases h2
    exact SeqAt.ne_plain r1 r2 (okD.plain h1.1) (okD.plain h1.2) (units60' hu (okD.depth h1.1)) q
/-! ### order -/
def isNone : D → Bool
  | .none => true
  | _ => false
theorem isNone_ne {d : D} (h : isNone d = false) : d ≠ .none := fun z => by
  subst z
  cases h
def ordD (x y : D) : Bool := (okD x && okD y) && (PySem.W.alike x y && !isNone x)
def dLt (x y : D) : R D := if ordD x y = true then .ok (.bool (PySem.W.dataLt x y)) else .stk
def dGt (x y : D) : R D := if ordD x y = true then .ok (.bool (PySem.W.dataLt y x)) else .stk
def dLe (x y : D) : R D := if ordD x y = true then .ok (.bool (!PySem.W.dataLt y x)) else .stk
def dGe (x y : D) : R D := if ordD x y = true then .ok (.bool (!PySem.W.dataLt x y)) else .stk
theorem ordD_all {x y : D} (h : ordD x y = true) : okD x = true ∧ okD y = true ∧ PySem.W.alike x y = true ∧ x ≠ .none := by
  unfold ordD at h
  simp only [Bool.and_eq_true, Bool.not_eq_true'] at h
  exact ⟨h.1.1, h.1.2, h.2.1, isNone_ne h.2.2⟩
theorem op_dLt (hu : X.A.units + 64 < cLine) : OpD X (compareOp .Lt) dLt := by
  refine opD_bool (fun _ _ _ => gifx) (fun x y d h => ?_) fun s v u d e b as bs Q E r1 r2 h q => ?_
  · obtain ⟨h1, rfl⟩ := gif h
    obtain ⟨p1, p2, p3, p4⟩ := ordD_all h1
    exact ⟨⟨_, rfl⟩, okD.flat p1, okD.flat p2⟩
  · obtain ⟨h1, h2⟩ := gif h
    obtain ⟨p1, p2, p3, p4⟩ := ordD_all h1
    cases h2
    exact PySem.W.lt_data r1 r2 p3 p4 (units60' hu (okD.depth p1)) q
theorem op_dGt (hu : X.A.units + 64 < cLine) : OpD X (compareOp .Gt) dGt := by
  refine opD_bool (fun _ _ _ => gifx) (fun x y d h => ?_) fun s v u d e b as bs Q E r1 r2 h q => ?_
  · obtain ⟨h1, rfl⟩ := gif h
    obtain ⟨p1, p2, p3, p4⟩ := ordD_all h1
    exact ⟨⟨_, rfl⟩, okD.flat p1, okD.flat p2⟩
  · obtain ⟨h1, h2⟩ := gif h
    obtain ⟨p1, p2, p3, p4⟩ := ordD_all h1
    cases h2
    exact PySem.W.gt_data r1 r2 p3 p4 (units60' hu (okD.depth p1)) q
theorem op_dLe (hu : X.A.units + 64 < cLine) : OpD X (compareOp .LtE) dLe := by
  refine opD_bool (fun _ _ _ => gifx) (fun x y d h => ?_) fun s v u d e b as bs Q E r1 r2 h q => ?_
  · obtain ⟨h1, rfl⟩ := gif h
    obtain ⟨p1, p2, p3, p4⟩ := ordD_all h1
    exact ⟨⟨_, rfl⟩, okD.flat p1, okD.flat p2⟩
  · obtain ⟨h1, h2⟩ := gif h
    obtain ⟨p1, p2, p3, p4⟩ := ordD_all h1
    cases h2
    exact PySem.W.le_data r1 r2 p3 p4 (units60' hu (okD.depth p1)) q
theorem op_dGe (hu : X.A.units + 64 < cLine) : OpD X (compareOp .GtE) dGe := by
  refine opD_bool (fun _ _ _ => gifx) (fun x y d h => ?_) fun s v u d e b as bs Q E r1 r2 h q => ?_
  · obtain ⟨h1, rfl⟩ := gif h
    obtain ⟨p1, p2, p3, p4⟩ := ordD_all h1
    exact ⟨⟨_, rfl⟩, okD.flat p1, okD.flat p2⟩
  · obtain ⟨h1, h2⟩ := gif h
    obtain ⟨p1, p2, p3, p4⟩ := ordD_all h1
    cases h2
    exact PySem.W.ge_data r1 r2 p3 p4 (units60' hu (okD.depth p1)) q
/-! ### is None -/
def dIsN (x y : D) : R D := match x, y with
  | .none, .none => .ok (.bool true)
  | .bool _, .none => .ok (.bool false)
  | .int _, .none => .ok (.bool false)
  | .str _, .none => .ok (.bool false)
  | .list _, .none => .ok (.bool false)
  | .tuple _, .none => .ok (.bool false)
  | .dict _, .none => .ok (.bool false)
  | _, _ => .stk
def dNotN (x y : D) : R D := (dIsN x y).bind fun d => match d with
  | .bool b => .ok (.bool (!b))
  | _ => .stk
theorem op_dIsN : OpD X (compareOp .Is) dIsN := by
  refine ⟨_, op_isN, fun x y z h => ?_, fun H x y dx dy A B Q r1 r2 h => ?_⟩
  · unfold dIsN at h
    split at h <;> cases h
  · unfold dIsN at h
    split at h <;> first
      | exact h.elim
      | (cases r2; cases r1 <;> exact ⟨rfl, h _ H [] (Same.refl H) (.bl _) List.nodup_nil fun a ha => by cases ha⟩)
theorem op_dNotN : OpD X (compareOp .IsNot) dNotN := by
  refine ⟨_, op_notN, fun x y z h => ?_, fun H x y dx dy A B Q r1 r2 h => ?_⟩
  · unfold dNotN dIsN at h
    split at h <;> cases h
  · unfold dNotN dIsN at h
    split at h <;> first
      | exact h.elim
      | (cases r2; cases r1 <;> exact ⟨rfl, h _ H [] (Same.refl H) (.bl _) List.nodup_nil fun a ha => by cases ha⟩)
/-! ### in, not in -/
def dIn (x y : D) : R D := match y with
  | .list ys => if (okD x && okD (.list ys)) = true then .ok (.bool (ys.any fun z => PyData.eqv z x)) else .stk
  | .tuple ys => if (okD x && okD (.tuple ys)) = true then .ok (.bool (ys.any fun z => PyData.eqv z x)) else .stk
  | .str t => match x with
    | .str z => .ok (.bool (!(Builtin.Str.occurrences t z 0 t.length 1).isEmpty))
    | _ => .stk
  | .dict kvs => match x with
    | .str z => .ok (.bool (kvs.any fun p => PyData.eqv p.1 (.str z)))
    | _ => .stk
  | _ => .stk
end
end Dg

namespace Dg
open PySem PySem.Spec PyProof.Rows L2
section
variable {X : Cx} {W : WX} {ow : List Nat} {k k1 k2 : Kd} {e a b : Expr} {den d1 d2 : Env → R D} {pos : Pos}
theorem fresh_imm {H : Hp} {d : D} {Q : VK} {v : V} (r : ∀ K mg H, Rep K mg H true v d []) (h : Fresh X H (.ok d) Q) : Q v H := h v H [] (Same.refl H) (r _ _ _) List.nodup_nil fun a ha => by cases ha
/-! ### numbers -/
def dAdd (x y : D) : R D := match x, y with
  | .int i, .int j => .ok (.int (i + j))
  | .str s, .str t => if s.length + t.length ≤ sizeLine then .ok (.str (s ++ t)) else .stk
  | .list xs, .list ys => if (immL xs && immL ys) = true ∧ xs.length + ys.length ≤ sizeLine then .ok (.list (xs ++ ys)) else .stk
  | .tuple xs, .tuple ys => if (immL xs && immL ys) = true ∧ xs ≠ [] ∧ xs.length + ys.length ≤ sizeLine then .ok (.tuple (xs ++ ys)) else .stk
  | _, _ => .stk
theorem op_dAdd : OpD X (binaryOp .Add) dAdd := by
  refine ⟨_, op_add.or (op_add_str.or (op_cat.or op_catT)), fun x y z h => ?_, fun H x y dx dy A B Q r1 r2 h => ?_⟩
  · unfold dAdd at h
    split at h <;> first | (cases h; done) | (split at h <;> cases h)
  · unfold dAdd at h
    split at h
    · cases r1
      cases r2
      exact .inl ⟨_, _, rfl, rfl, fresh_imm (fun _ _ _ => .int _) h⟩
    · cases r1
      cases r2
      split at h
      · rename_i hz
        exact .inr (.inl ⟨_, _, rfl, rfl, hz, fresh_imm (fun _ _ _ => .str _) h⟩)
      · exact h.elim
    · split at h
      · rename_i hz
        rw [Bool.and_eq_true] at hz
        cases r1 with
        | lst h1 l1 =>
          cases r2 with
          | lst h2 l2 =>
            obtain ⟨e1, q1⟩ := l1.imm hz.1.1
            obtain ⟨e2, q2⟩ := l2.imm hz.1.2
            refine .inr (.inr (.inl ⟨_, _, _, _, rfl, rfl, h1, h2, (by rw [l1.len, l2.len]; exact hz.2), fun p hp => ?_⟩))
            exact h _ _ [p] (same_upd hp) (.lst upd_same ((q1.same (same_upd hp)).app (q2.same (same_upd hp)))) (List.nodup_cons.mpr ⟨(by intro z; cases z), List.nodup_nil⟩) fun a ha => by
              rw [List.mem_singleton.mp ha]
              exact hp
      · exact h.elim
    · split at h
      · rename_i xs ys hz
        rw [Bool.and_eq_true] at hz
        cases r1 with
        | tup h1 l1 =>
          cases r2 with
          | tup h2 l2 =>
            obtain ⟨e1, q1⟩ := l1.imm hz.1.1
            obtain ⟨e2, q2⟩ := l2.imm hz.1.2
            refine .inr (.inr (.inr ⟨_, _, _, _, rfl, rfl, h1, h2, (fun z => hz.2.1 (List.length_eq_zero_iff.mp (by rw [← l1.len, z]; rfl))), (by rw [l1.len, l2.len]; exact hz.2.2), fun z => ?_, fun z p hp => ?_⟩))
            · have ey : ys = [] := List.length_eq_zero_iff.mp (by rw [← l2.len, z]; rfl)
              subst ey
              rw [List.append_nil] at h
              exact h _ H [] (Same.refl H) (.tup h1 q1) List.nodup_nil fun a ha => by cases ha
            · exact h _ _ [] (same_upd hp) (.tup (.inl (.inl upd_same)) ((q1.same (same_upd hp)).app (q2.same (same_upd hp)))) List.nodup_nil fun a ha => by cases ha
      · exact h.elim
    · exact h.elim
def dSub (x y : D) : R D := match x, y with
  | .int i, .int j => .ok (.int (i - j))
  | _, _ => .stk
theorem op_dSub : OpD X (binaryOp .Sub) dSub := by
  refine ⟨_, op_sub, fun x y z h => ?_, fun H x y dx dy A B Q r1 r2 h => ?_⟩
  · unfold dSub at h
    split at h <;> cases h
  · unfold dSub at h
    split at h
    · cases r1
      cases r2
      exact ⟨_, _, rfl, rfl, fresh_imm (fun _ _ _ => .int _) h⟩
    · exact h.elim
def smallI (i : Int) : Bool := decide (-(2 ^ 64) < i ∧ i < 2 ^ 64)
def dMul (x y : D) : R D := match x, y with
  | .int i, .int j => if (smallI i || smallI j) = true then .ok (.int (i * j)) else .stk
  | .str s, .int j => if 0 ≤ j ∧ j < 1000 ∧ s.length ≤ 1000 then .ok (.str ⟨(List.replicate j.toNat s.cps.toList).flatten.toArray⟩) else .stk
  | _, _ => .stk
def dMod (x y : D) : R D := match x, y with
  | .int i, .int j => if 0 < j then .ok (.int (i % j)) else .stk
  | _, _ => .stk
theorem op_dMod : OpD X (binaryOp .Mod) dMod := by
  refine ⟨_, op_mod, fun x y z h => ?_, fun H x y dx dy A B Q r1 r2 h => ?_⟩
  · unfold dMod at h
    split at h <;> first | (cases h; done) | (split at h <;> cases h)
  · unfold dMod at h
    split at h
    · cases r1
      cases r2
      split at h
      · rename_i hz
        exact ⟨_, _, rfl, rfl, hz, fresh_imm (fun _ _ _ => .int _) h⟩
      · exact h.elim
    · exact h.elim
def dDiv (x y : D) : R D := match x, y with
  | .int i, .int j => if 0 < j ∧ j < 1073741824 then .ok (.int (i / j)) else .stk
  | _, _ => .stk
theorem op_dDiv : OpD X (binaryOp .FloorDiv) dDiv := by
  refine ⟨_, op_fdiv, fun x y z h => ?_, fun H x y dx dy A B Q r1 r2 h => ?_⟩
  · unfold dDiv at h
    split at h <;> first | (cases h; done) | (split at h <;> cases h)
  · unfold dDiv at h
    split at h
    · cases r1
      cases r2
      split at h
      · rename_i hz
        exact ⟨_, _, rfl, rfl, hz, fresh_imm (fun _ _ _ => .int _) h⟩
      · exact h.elim
    · exact h.elim
def dPow (x y : D) : R D := match x, y with
  | .int i, .int j => if 0 ≤ j ∧ j ≤ 1000000 ∧ i.natAbs < 2 ^ 64 then .ok (.int (i ^ j.toNat)) else .stk
  | _, _ => .stk
theorem op_dPow : OpD X (binaryOp .Pow) dPow := by
  refine ⟨_, op_pow, fun x y z h => ?_, fun H x y dx dy A B Q r1 r2 h => ?_⟩
  · unfold dPow at h
    split at h <;> first | (cases h; done) | (split at h <;> cases h)
  · unfold dPow at h
    split at h
    · cases r1
      cases r2
      split at h
      · rename_i hz
        exact ⟨_, _, rfl, rfl, hz, fresh_imm (fun _ _ _ => .int _) h⟩
      · exact h.elim
    · exact h.elim
def dNeg (x : D) : R D := match x with
  | .int i => .ok (.int (-i))
  | _ => .stk
theorem un_dNeg : UnD X (unaryOp .USub) dNeg := by
  refine ⟨_, un_neg, fun x z h => ?_, fun H x dx A Q r1 h => ?_⟩
  · unfold dNeg at h
    split at h <;> cases h
  · unfold dNeg at h
    split at h
    · cases r1
      exact ⟨_, rfl, fresh_imm (fun _ _ _ => .int _) h⟩
    · exact h.elim
/-! ### in, not in -/
def dInS (neg : Bool) (x y : D) : R D := match y with
  | .list ys => if (okD x && okD (.list ys)) = true then .ok (.bool (neg != ys.any fun z => PyData.eqv z x)) else .stk
  | .tuple ys => if (okD x && okD (.tuple ys)) = true then .ok (.bool (neg != ys.any fun z => PyData.eqv z x)) else .stk
  | .str t => match x with
    | .str z => match z.cps.toList with
      | [c] => .ok (.bool (neg != decide (c ∈ t.cps.toList)))
      | _ => .stk
    | _ => .stk
  | _ => .stk
theorem one_sign {z : Str} {c : Nat} (h : z.cps.toList = [c]) : z = ⟨#[c]⟩ := by
  cases z with
  | mk a =>
    have e : a = #[c] := Array.toList_inj.mp h
    rw [e]
theorem okL_flat {ys : List D} (h : okD (.list ys) = true) : Dg.flat (.list ys) = true ∧ PyData.plainAll ys = true ∧ PyData.depthAll ys ≤ 60 := by
  refine ⟨okD.flat h, ?_, ?_⟩
  · have := okD.plain h
    rw [PyData.plain] at this
    exact this
  · have := okD.depth h
    rw [PyData.depth] at this
    omega
theorem okT_flat {ys : List D} (h : okD (.tuple ys) = true) : Dg.flat (.tuple ys) = true ∧ PyData.plainAll ys = true ∧ PyData.depthAll ys ≤ 60 := by
  refine ⟨okD.flat h, ?_, ?_⟩
  · have := okD.plain h
    rw [PyData.plain] at this
    exact this
  · have := okD.depth h
    rw [PyData.depth] at this
    omega
theorem gife {c : Bool} {z w : D} (h : (if c = true then R.ok z else R.stk) = R.ok w) : c = true ∧ z = w := gif h
theorem op_dInS (hu : X.A.units + 64 < cLine) : OpD X (compareOp .In) (dInS false) := by
  refine opD_bool (fun x y z h => ?_) (fun x y d h => ?_) fun s v u d e b as bs Q E r1 r2 h q => ?_
  · unfold dInS at h
    split at h <;> first | (cases h; done) | exact gifx h | (split at h <;> first | (cases h; done) | (split at h <;> cases h))
  · unfold dInS at h
    split at h
    · obtain ⟨h1, rfl⟩ := gif h
      rw [Bool.and_eq_true] at h1
      exact ⟨⟨_, rfl⟩, okD.flat h1.1, okD.flat h1.2⟩
    · obtain ⟨h1, rfl⟩ := gif h
      rw [Bool.and_eq_true] at h1
      exact ⟨⟨_, rfl⟩, okD.flat h1.1, okD.flat h1.2⟩
    · split at h
      · split at h
        · cases h
          exact ⟨⟨_, rfl⟩, rfl, rfl⟩
        · cases h
      · cases h
    · cases h
  · unfold dInS at h
    split at h
    · obtain ⟨h1, h2⟩ := gif h
      rw [Bool.and_eq_true] at h1
      obtain ⟨_, p2, p3⟩ := okL_flat h1.2
      cases h2
      refine SeqAt.in_list_data r2 r1 p2 (okD.plain h1.1) ?_ (by rw [Bool.false_bne] at q; exact q)
      have := Nat.min_le_left (PyData.depthAll ‹List D›) d.depth
      omega
    · obtain ⟨h1, h2⟩ := gif h
      rw [Bool.and_eq_true] at h1
      obtain ⟨_, p2, p3⟩ := okT_flat h1.2
      cases h2
      refine SeqAt.in_tuple_data r2 r1 p2 (okD.plain h1.1) ?_ (by rw [Bool.false_bne] at q; exact q)
      have := Nat.min_le_left (PyData.depthAll ‹List D›) d.depth
      omega
    · split at h
      · split at h
        · rename_i hc
          cases h
          cases r1
          cases r2
          rw [one_sign hc]
          refine PyProof.Rows.in_str ?_
          rw [PySem.StrLaws.found_one]
          rw [Bool.false_bne] at q
          exact q
        · cases h
      · cases h
    · cases h
theorem op_dNotIn (hu : X.A.units + 64 < cLine) : OpD X (compareOp .NotIn) (dInS true) := by
  refine opD_bool (fun x y z h => ?_) (fun x y d h => ?_) fun s v u d e b as bs Q E r1 r2 h q => ?_
  · unfold dInS at h
    split at h <;> first | (cases h; done) | exact gifx h | (split at h <;> first | (cases h; done) | (split at h <;> cases h))
  · unfold dInS at h
    split at h
    · obtain ⟨h1, rfl⟩ := gif h
      rw [Bool.and_eq_true] at h1
      exact ⟨⟨_, rfl⟩, okD.flat h1.1, okD.flat h1.2⟩
    · obtain ⟨h1, rfl⟩ := gif h
      rw [Bool.and_eq_true] at h1
      exact ⟨⟨_, rfl⟩, okD.flat h1.1, okD.flat h1.2⟩
    · split at h
      · split at h
        · cases h
          exact ⟨⟨_, rfl⟩, rfl, rfl⟩
        · cases h
      · cases h
    · cases h
  · unfold dInS at h
    split at h
    · obtain ⟨h1, h2⟩ := gif h
      rw [Bool.and_eq_true] at h1
      obtain ⟨_, p2, p3⟩ := okL_flat h1.2
      cases h2
      refine SeqAt.notIn_list_data r2 r1 p2 (okD.plain h1.1) ?_ (by rw [Bool.true_bne] at q; exact q)
      have := Nat.min_le_left (PyData.depthAll ‹List D›) d.depth
      omega
    · obtain ⟨h1, h2⟩ := gif h
      rw [Bool.and_eq_true] at h1
      obtain ⟨_, p2, p3⟩ := okT_flat h1.2
      cases h2
      refine SeqAt.notIn_tuple_data r2 r1 p2 (okD.plain h1.1) ?_ (by rw [Bool.true_bne] at q; exact q)
      have := Nat.min_le_left (PyData.depthAll ‹List D›) d.depth
      omega
    · split at h
      · split at h
        · rename_i hc
          cases h
          cases r1
          cases r2
          rw [one_sign hc]
          refine PyProof.Rows.notIn_str ?_
          rw [PySem.StrLaws.found_one]
          rw [Bool.true_bne] at q
          exact q
        · cases h
      · cases h
    · cases h
end
end Dg

namespace Dg
open PySem PySem.Spec PyProof.Rows L2
section
variable {X : Cx} {W : WX} {ow : List Nat} {k k1 k2 k3 : Kd} {e a b c : Expr} {den d1 d2 d3 : Env → R D} {pos p2 : Pos}
theorem repL_drop {K : PySem.W.Frag} {mg : Str → Option Value} {H : Hp} {o : Bool} : ∀ (n : Nat) {v : List V} {d : List D} {A : List Addr}, RepL K mg H o v d A → ∃ B, RepL K mg H o (v.drop n) (d.drop n) B ∧ ∀ a ∈ B, a ∈ A
  | 0, _, _, _, h => ⟨_, h, fun _ z => z⟩
  | _ + 1, _, _, _, .nil => ⟨_, .nil, fun _ z => z⟩
  | n + 1, _, _, _, .cons _ r => by
    obtain ⟨B, h, q⟩ := repL_drop n r
    exact ⟨B, h, fun a ha => List.mem_append_right _ (q a ha)⟩
theorem repL_take {K : PySem.W.Frag} {mg : Str → Option Value} {H : Hp} {o : Bool} : ∀ (n : Nat) {v : List V} {d : List D} {A : List Addr}, RepL K mg H o v d A → ∃ B, RepL K mg H o (v.take n) (d.take n) B ∧ ∀ a ∈ B, a ∈ A
  | 0, _, _, _, h => ⟨[], .nil, fun _ z => by cases z⟩
  | _ + 1, _, _, _, .nil => ⟨_, .nil, fun _ z => z⟩
  | n + 1, _, _, _, .cons h r => by
    obtain ⟨B, h', q⟩ := repL_take n r
    exact ⟨_, .cons h h', fun a ha => by
      rcases List.mem_append.mp ha with z | z
      · exact List.mem_append_left _ z
      · exact List.mem_append_right _ (q a z)⟩
def cutA {α : Type} (xs : List α) (lo hi : Option Int) : List α := (xs.drop (HT.sIx xs.length 0 lo)).take (HT.sIx xs.length xs.length hi - HT.sIx xs.length 0 lo)
theorem repL_cut {K : PySem.W.Frag} {mg : Str → Option Value} {H : Hp} {v : List V} {d : List D} (lo hi : Option Int) (h : RepL K mg H true v d []) : RepL K mg H true (cutV v lo hi) (cutA d lo hi) [] := by
  unfold cutV cutA
  rw [h.len]
  obtain ⟨B, h1, q1⟩ := repL_drop (HT.sIx d.length 0 lo) h
  obtain ⟨C, h2, q2⟩ := repL_take (HT.sIx d.length d.length hi - HT.sIx d.length 0 lo) h1
  cases C with
  | nil => exact h2
  | cons a C => exact absurd (q1 a (q2 a List.mem_cons_self)) (by intro z; cases z)
/-! ### subscripts -/
def ofO (o : Option D) : R D := match o with
  | some d => .ok d
  | none => .stk
def keq : D → D → Bool
  | .str a, .str b => decide (a = b)
  | .int a, .int b => decide (a = b)
  | _, _ => false
def lookD : List (D × D) → D → Option D
  | [], _ => none
  | (q, d) :: r, k => if keq q k = true then some d else lookD r k
def dIx (x y : D) : R D := match x, y with
  | .list xs, .int i => ofO (atI xs i)
  | .tuple xs, .int i => ofO (atI xs i)
  | .str s, .int i => if s.length ≤ sizeLine then ofO ((atI s.cps.toList i).map fun c => .str ⟨#[c]⟩) else .stk
  | .dict ((.none, .list xs) :: _), .int i => ofO (atI xs i)
  | .dict ((.none, _) :: _), _ => .stk
  | .dict kvs, y => ofO (lookD kvs y)
  | _, _ => .stk
theorem atI_get {α β : Type} {xs : List α} {ys : List β} {i : Int} {x : α} (hl : xs.length = ys.length) (h : atI xs i = some x) : ∃ j : Nat, xs[j]? = some x ∧ ∀ y, ys[j]? = some y → atI ys i = some y := by
  unfold atI at h
  cases e : ixN xs.length i with
  | none =>
    rw [e] at h
    cases h
  | some j =>
    rw [e] at h
    refine ⟨j, h, fun y hy => ?_⟩
    unfold atI
    rw [← hl, e]
    exact hy
theorem keq_iff {k : Key} {q : D} : keq (kD k) q = true ↔ q = kD k := by
  cases k with
  | inl i =>
    cases q <;> simp [keq, kD, eq_comm]
  | inr i =>
    cases q <;> simp [keq, kD, eq_comm]
theorem kD_inj {k l : Key} (h : kD k = kD l) : k = l := by
  cases k <;> cases l <;> first | (cases h; rfl) | cases h
theorem lookD_key {K : PySem.W.Frag} {mg : Str → Option Value} {H : Hp} {o : Bool} {y : D} {d : D} : ∀ {vs : List (Key × V)} {ds : List (D × D)} {A : List Addr}, RepP K mg H o vs ds A → lookD ds y = some d → ∃ k v B, y = kD k ∧ valV vs k = some v ∧ Rep K mg H o v d B ∧ ∀ a ∈ B, a ∈ A
  | _, _, _, .nil, e => by cases e
  | _, _, _, .cons (k := k) (v := v) h r, e => by
    unfold lookD at e
    by_cases hk : keq (kD k) y = true
    · rw [if_pos hk] at e
      cases e
      exact ⟨k, v, _, keq_iff.mp hk, valV_pos rfl, h, fun a ha => List.mem_append_left _ ha⟩
    · rw [if_neg hk] at e
      obtain ⟨l, w, B, e1, e2, e3, e4⟩ := lookD_key r e
      refine ⟨l, w, B, e1, ?_, e3, fun a ha => List.mem_append_right _ (e4 a ha)⟩
      rw [valV_neg]
      · exact e2
      · intro z
        apply hk
        rw [keq_iff, e1]
        exact congrArg kD z.symm
theorem rep_key {K : PySem.W.Frag} {mg : Str → Option Value} {H : Hp} {o : Bool} {k : Key} {v : V} {A : List Addr} (h : Rep K mg H o v (kD k) A) : v = kV k := by
  cases k with
  | inl i =>
    cases h
    rfl
  | inr i =>
    cases h
    rfl
theorem dIx_exc {x y : D} {z : Exn} : dIx x y ≠ .exc z := by
  intro h
  unfold dIx ofO at h
  split at h <;> first | (cases h; done) | (split at h <;> first | (cases h; done) | (split at h <;> cases h))
theorem repP_tag {K : PySem.W.Frag} {mg : Str → Option Value} {H : Hp} {o : Bool} {vs : List (Key × V)} {d : D} {ds : List (D × D)} {A : List Addr} (h : RepP K mg H o vs ((.none, d) :: ds) A) : False := by
  generalize e : ((PyData.none, d) :: ds) = q at h
  cases h with
  | nil => cases e
  | cons h r =>
    rename_i k v d' vs' ds' A' B'
    injection e with e1 e2
    injection e1 with e3 e4
    cases k <;> cases e3
/-- what is at y of x, in the abstract heap -/
theorem dIx_run {K : PySem.W.Frag} {mg : Str → Option Value} {H : Hp} {x y : V} {dx dy d : D} {A B : List Addr} (r1 : Rep K mg H false x dx A) (r2 : Rep K mg H false y dy B) (h : dIx dx dy = .ok d) :
    ∃ v C, Rep K mg H false v d C ∧ (∀ a ∈ C, a ∈ A) ∧ ((∀ Q : VK, Q v H → rIx K x y H Q) ∨ ∃ a, x = .ref a ∧ DGet H a y (some v)) := by
  unfold dIx at h
  split at h
  · cases r2
    cases r1 with
    | lst h1 l1 =>
      cases e : atI ‹List D› ‹Int› with
      | none =>
        rw [e] at h
        cases h
      | some z =>
        rw [e] at h
        cases h
        obtain ⟨j, hj, hr⟩ := atI_get l1.len.symm e
        obtain ⟨v, C, hv, rv, hc⟩ := l1.get hj
        exact ⟨v, C, rv, (fun a ha => List.mem_cons_of_mem _ (hc a ha)), .inl fun Q q => .inl ⟨_, _, _, _, rfl, rfl, .inl (.inl h1), hr v hv, q⟩⟩
  · cases r2
    cases r1 with
    | tup h1 l1 =>
      cases e : atI ‹List D› ‹Int› with
      | none =>
        rw [e] at h
        cases h
      | some z =>
        rw [e] at h
        cases h
        obtain ⟨j, hj, hr⟩ := atI_get l1.len.symm e
        obtain ⟨v, C, hv, rv, hc⟩ := l1.get hj
        exact ⟨v, C, rv, hc, .inl fun Q q => .inr (.inl ⟨_, _, _, _, rfl, rfl, h1, hr v hv, q⟩)⟩
  · cases r2
    cases r1
    split at h
    · rename_i hz
      cases e : atI (Str.cps ‹Str›).toList ‹Int› with
      | none =>
        rw [e] at h
        cases h
      | some z =>
        rw [e] at h
        cases h
        exact ⟨_, [], .str _, (fun a ha => by cases ha), .inl fun Q q => .inr (.inr ⟨_, _, _, rfl, rfl, hz, e, q⟩)⟩
    · cases h
  · cases r2
    generalize ed : PyData.dict ((PyData.none, PyData.list ‹List D›) :: ‹List (D × D)›) = q at r1
    cases r1 with
    | lstF h1 l1 =>
      injection ed with e1
      injection e1 with e2 e3
      injection e2 with e4 e5
      injection e5 with e6
      subst e6
      cases e : atI ‹List D› ‹Int› with
      | none =>
        rw [e] at h
        cases h
      | some z =>
        rw [e] at h
        cases h
        obtain ⟨j, hj, hr⟩ := atI_get l1.len.symm e
        obtain ⟨v, C, hv, rv, hc⟩ := l1.get hj
        exact ⟨v, C, rv, hc, .inl fun Q q => .inl ⟨_, _, _, _, rfl, rfl, h1.seq, hr v hv, q⟩⟩
    | dct h1 l1 =>
      injection ed with e1
      subst e1
      exact (repP_tag l1).elim
    | dctF h1 l1 =>
      injection ed with e1
      subst e1
      exact (repP_tag l1).elim
    | ins h1 h2 l1 =>
      injection ed with e1
      injection e1 with e2 e3
      injection e2 with e4 e5
      cases e5
    | _ => cases ed
  · cases h
  · rename_i hn _
    cases e : lookD ‹List (D × D)› dy with
    | none =>
      rw [e] at h
      cases h
    | some z =>
      rw [e] at h
      cases h
      cases r1 with
      | dct h1 l1 =>
        obtain ⟨k, v, C, rfl, ev, rv, hc⟩ := lookD_key l1 e
        rw [rep_key r2]
        exact ⟨v, C, rv, (fun a ha => List.mem_cons_of_mem _ (hc a ha)), .inr ⟨_, rfl, .inl ⟨_, k, .inl h1, rfl, ev.symm⟩⟩⟩
      | dctF h1 l1 =>
        obtain ⟨k, v, C, rfl, ev, rv, hc⟩ := lookD_key l1 e
        rw [rep_key r2]
        exact ⟨v, C, rv, hc, .inr ⟨_, rfl, .inl ⟨_, k, .inr ⟨_, h1⟩, rfl, ev.symm⟩⟩⟩
      | lstF h1 l1 => exact absurd rfl (by first | exact fun z => hn _ _ z | exact hn _ _ | skip)
      | ins h1 h2 l1 => exact absurd rfl (by first | exact fun z => hn _ _ z | exact hn _ _ | skip)
  · cases h
end
end Dg

namespace Dg
open PySem PySem.Spec PyProof.Rows L2
section
variable {X : Cx} {W : WX} {ow : List Nat} {k k1 k2 k3 : Kd} {e a b c : Expr} {den d1 d2 d3 : Env → R D} {pos p2 : Pos}
def rIxD : R2 := fun x y H Q => ∃ a v, x = .ref a ∧ DGet H a y (some v) ∧ Q v H
theorem ix_dict (hu : X.A.units + 1 < cLine) : IxR X rIxD := by
  intro value slice pins s σ H x y v u Q I rx ry h hs
  obtain ⟨a, z, rfl, g, q⟩ := h
  cases rx
  exact tail_any (dict_typeIs I g) PySem.F.slot_dict_getitem.lookup (d_getItem hu I g ry fun w' s' I' r' => ⟨z, H, I', r', q⟩) hs
theorem de_ix (hu : X.A.units + 64 < cLine) (h1 : DE X W ow k1 a d1) (h2 : DE X W ow k2 b d2) (hs : PlainIx b) : DE X W ow (.br k1.src) (.Subscript a b pos) (b2 dIx d1 d2) := by
  obtain ⟨ta, p1, q1⟩ := h1
  obtain ⟨tb, p2, q2⟩ := h2
  refine ⟨_, pe_ix (ix_seq.or (ix_dict (by omega))) p1 p2 hs, fun σ ρ H As Q S q => q1 σ ρ H As _ S ?_⟩
  unfold b2 at q
  cases e1 : d1 ρ with
  | stk =>
    rw [e1] at q
    exact q
  | exc x =>
    rw [e1] at q
    exact q
  | ok dx =>
    rw [e1, R.bind_ok] at q
    intro v H1 A s1 r1 ok1
    refine q2 σ ρ H1 As _ (S.same s1) ?_
    cases e2 : d2 ρ with
    | stk =>
      rw [e2] at q
      exact q
    | exc x =>
      rw [e2] at q
      exact fun c dd H' B sm rp => q c dd H' B (s1.trans sm) rp
    | ok dy =>
      rw [e2, R.bind_ok] at q
      intro u H2 B s2 r2 ok2
      cases e3 : dIx dx dy with
      | exc x => exact absurd e3 dIx_exc
      | stk =>
        rw [e3] at q
        exact q.elim
      | ok d =>
        rw [e3] at q
        obtain ⟨v', C, rv, hc, hq⟩ := dIx_run (r1.weak.same s2) r2.weak e3
        have fin : Q v' H2 := q v' H2 C (s1.trans s2) rv (Kd.sub (Kd.brOk S ok1) (fun _ z => z) hc)
        rcases hq with hq | ⟨p, rfl, hg⟩
        · exact .inl (hq Q fin)
        · exact .inr ⟨p, v', rfl, hg, fin⟩
/-! ### slices -/
def GoodO (X : Cx) (W : WX) (σ : L2.St) (H : Hp) (r : R (Option Int)) (Q : Option Int → Hp → Prop) : Prop := match r with
  | .ok b => ∀ H', Same H H' → Q b H'
  | .exc x => ∀ c dd H' A, Same H H' → RepX X.K X.mg H' c dd x A → W c dd σ H'
  | .stk => False
def DO (X : Cx) (W : WX) (ow : List Nat) (e : Option Expr) (den : Env → R (Option Int)) : Prop :=
  ∃ t, PO X e t ∧ ∀ σ ρ H As Q, On X ow σ ρ H As → GoodO X W σ H (den ρ) Q → t σ H Q
def noO : Env → R (Option Int) := fun _ => .ok none
def asI (d : D) : R (Option Int) := match d with
  | .int i => .ok (some i)
  | _ => .stk
def toO (f : Env → R D) : Env → R (Option Int) := fun ρ => (f ρ).bind asI
theorem do_none : DO X W ow none noO := ⟨_, po_none, fun σ ρ H As Q S q => q H (Same.refl H)⟩
theorem do_some (h : DE X W ow k e den) : DO X W ow (some e) (toO den) := by
  obtain ⟨te, p, q⟩ := h
  refine ⟨_, po_some p, fun σ ρ H As Q S g => q σ ρ H As _ S ?_⟩
  unfold toO at g
  cases hd : den ρ with
  | stk =>
    rw [hd] at g
    exact g
  | exc x =>
    rw [hd] at g
    exact g
  | ok d =>
    rw [hd, R.bind_ok] at g
    intro v H' A sm r _
    cases d with
    | int b =>
      cases r.weak
      exact ⟨b, rfl, g H' sm⟩
    | _ => exact g.elim
def dSl (x : D) (lo hi : Option Int) : R D := match x with
  | .list xs => if immL xs = true then .ok (.list (cutA xs lo hi)) else .stk
  | .str s => if s.length ≤ sizeLine then .ok (.str (cutS s lo hi)) else .stk
  | .tuple xs => if immL xs = true ∧ ¬ (HT.sIx xs.length 0 lo = 0 ∧ HT.sIx xs.length xs.length hi = xs.length) then .ok (.tuple (cutA xs lo hi)) else .stk
  | .dict ((.none, .list xs) :: _) => if immL xs = true then .ok (.list (cutA xs lo hi)) else .stk
  | _ => .stk
def slE (f : Env → R D) (l h : Env → R (Option Int)) : Env → R D := fun ρ => (f ρ).bind fun x => (l ρ).bind fun i => (h ρ).bind fun j => dSl x i j
theorem dSl_exc {x : D} {i j : Option Int} {z : Exn} : dSl x i j ≠ .exc z := by
  intro h
  unfold dSl at h
  split at h <;> first | (cases h; done) | (split at h <;> cases h)
theorem dSl_run {H : Hp} {x : V} {dx : D} {A : List Addr} {i j : Option Int} {Q : VK} (r1 : Rep X.K X.mg H false x dx A) (h : Fresh X H (dSl dx i j) Q) : rSlL X.K x i j H Q ∨ rSlT X.K x i j H Q ∨ rSlS x i j H Q := by
  unfold dSl at h
  split at h
  · cases r1 with
    | lst h1 l1 =>
      split at h
      · rename_i hz
        obtain ⟨e1, q1⟩ := l1.imm hz
        refine .inl ⟨_, _, rfl, .inl (.inl h1), fun p hp => ?_⟩
        exact h _ _ [p] (same_upd hp) (.lst upd_same (repL_cut i j (q1.same (same_upd hp)))) (List.nodup_cons.mpr ⟨(by intro z; cases z), List.nodup_nil⟩) fun a ha => by
          rw [List.mem_singleton.mp ha]
          exact hp
      · exact h.elim
  · cases r1
    split at h
    · rename_i hz
      exact .inr (.inr ⟨_, rfl, hz, fresh_imm (fun _ _ _ => .str _) h⟩)
    · exact h.elim
  · cases r1 with
    | tup h1 l1 =>
      split at h
      · rename_i hz
        obtain ⟨e1, q1⟩ := l1.imm hz.1
        refine .inr (.inl ⟨_, _, rfl, h1, (by rw [l1.len]; exact hz.2), fun p hp => ?_⟩)
        exact h _ _ [] (same_upd hp) (.tup (.inl (.inl upd_same)) (repL_cut i j (q1.same (same_upd hp)))) List.nodup_nil fun a ha => by cases ha
      · exact h.elim
  · generalize ed : PyData.dict ((PyData.none, PyData.list ‹List D›) :: ‹List (D × D)›) = q at r1
    cases r1 with
    | lstF h1 l1 =>
      injection ed with e1
      injection e1 with e2 e3
      injection e2 with e4 e5
      injection e5 with e6
      subst e6
      split at h
      · rename_i hz
        obtain ⟨e1, q1⟩ := l1.imm hz
        refine .inl ⟨_, _, rfl, h1.seq, fun p hp => ?_⟩
        exact h _ _ [p] (same_upd hp) (.lst upd_same (repL_cut i j (q1.same (same_upd hp)))) (List.nodup_cons.mpr ⟨(by intro z; cases z), List.nodup_nil⟩) fun a ha => by
          rw [List.mem_singleton.mp ha]
          exact hp
      · exact h.elim
    | dct h1 l1 =>
      injection ed with e1
      subst e1
      exact (repP_tag l1).elim
    | dctF h1 l1 =>
      injection ed with e1
      subst e1
      exact (repP_tag l1).elim
    | ins h1 h2 l1 =>
      injection ed with e1
      injection e1 with e2 e3
      injection e2 with e4 e5
      cases e5
    | _ => cases ed
  · exact h.elim
theorem de_sl {lo hi : Option Expr} {fl fh : Env → R (Option Int)} (h1 : DE X W ow k1 a d1) (h2 : DO X W ow lo fl) (h3 : DO X W ow hi fh) : DE X W ow (.own []) (.Subscript a (.Slice lo hi none p2) pos) (slE d1 fl fh) := by
  obtain ⟨ta, p1, q1⟩ := h1
  obtain ⟨tl, pl, ql⟩ := h2
  obtain ⟨th, ph, qh⟩ := h3
  refine ⟨_, pe_slice (sl_list.or (sl_tup.or sl_str)) p1 pl ph, fun σ ρ H As Q S q => q1 σ ρ H As _ S ?_⟩
  unfold slE at q
  cases e1 : d1 ρ with
  | stk =>
    rw [e1] at q
    exact q
  | exc x =>
    rw [e1] at q
    exact q
  | ok dx =>
    rw [e1, R.bind_ok] at q
    intro v H1 A s1 r1 ok1
    refine ql σ ρ H1 As _ (S.same s1) ?_
    cases e2 : fl ρ with
    | stk =>
      rw [e2] at q
      exact q
    | exc x =>
      rw [e2] at q
      exact fun c dd H' B sm rp => q c dd H' B (s1.trans sm) rp
    | ok i =>
      rw [e2, R.bind_ok] at q
      intro H2 s2
      refine qh σ ρ H2 As _ ((S.same s1).same s2) ?_
      cases e3 : fh ρ with
      | stk =>
        rw [e3] at q
        exact q
      | exc x =>
        rw [e3] at q
        exact fun c dd H' B sm rp => q c dd H' B (s1.trans (s2.trans sm)) rp
      | ok j =>
        rw [e3, R.bind_ok] at q
        intro H3 s3
        exact dSl_run (r1.weak.same (s2.trans s3)) (fresh_good (s1.trans (s2.trans s3)) q fun _ => dSl_exc)
/-! ### written arguments -/
def nilL : Env → R (List D) := fun _ => .ok []
def conL (f : Env → R D) (g : Env → R (List D)) : Env → R (List D) := fun ρ => (f ρ).bind fun d => (g ρ).bind fun ds => .ok (d :: ds)
theorem da_nil : DA X W ow (.own []) 0 [] nilL := ⟨_, pa_nil, fun σ ρ H As Q S q => q [] H [] (Same.refl H) .nil nil_own rfl⟩
theorem da_nilB : DA X W ow (.br []) 0 [] nilL := ⟨_, pa_nil, fun σ ρ H As Q S q => q [] H [] (Same.refl H) .nil (fun _ _ _ _ _ z => by cases z) rfl⟩
theorem repL_cons {K : PySem.W.Frag} {mg : Str → Option Value} {H : Hp} {o : Bool} {v : V} {vs : List V} {d : D} {ds : List D} {A B : List Addr} (h : Rep K mg H o v d A) (r : RepL K mg H o vs ds B) : RepL K mg H o (v :: vs) (d :: ds) (A ++ B) := .cons h r
/-- arguments that are one's own -/
theorem da_own {es : List Expr} {n : Nat} {m1 m2 : List Nat} {g : Env → R (List D)} (h1 : DE X W ow (.own m1) e den) (h2 : DA X W ow (.own m2) n es g) (hd : ∀ i ∈ m1, i ∉ m2)
    (hs : starEach (e :: es) X.env = (false, eval e X.env) :: starEach es X.env := by rfl) : DA X W ow (.own (m1 ++ m2)) (n + 1) (e :: es) (conL den g) := by
  obtain ⟨ta, p1, q1⟩ := h1
  obtain ⟨tb, p2, q2⟩ := h2
  refine ⟨_, pa_cons p1 p2 hs, fun σ ρ H As Q S q => q1 σ ρ H As _ S ?_⟩
  unfold conL at q
  cases e1 : den ρ with
  | stk =>
    rw [e1] at q
    exact q
  | exc x =>
    rw [e1] at q
    exact q
  | ok dx =>
    rw [e1, R.bind_ok] at q
    intro v H1 A s1 r1 ok1
    refine q2 σ ρ H1 As _ (S.same s1) ?_
    cases e2 : g ρ with
    | stk =>
      rw [e2] at q
      exact q
    | exc x =>
      rw [e2] at q
      exact fun c dd H' B sm rp => q c dd H' B (s1.trans sm) rp
    | ok ds =>
      rw [e2, R.bind_ok] at q
      intro vs H2 B s2 r2 ok2 hn
      refine q (v :: vs) H2 (A ++ B) (s1.trans s2) (repL_cons (r1.same s2) r2) ⟨?_, ?_, ?_⟩ (by rw [List.length_cons, hn])
      · refine List.nodup_append.mpr ⟨ok1.1, ok2.1, fun x hx y hy z => ?_⟩
        subst z
        rcases ok2.2.2 x hy with w | ⟨j, hj, w⟩
        · exact r1.old hx w
        · rcases ok1.2.2 x hx with w' | ⟨i, hi, w'⟩
          · exact S.old w w'
          · obtain ⟨H0, M0, pn, S⟩ := S
            exact S.sep i (ok1.2.1 i hi) j (fun z => hd i hi (z ▸ hj)) x w' w
      · intro j hj
        rcases List.mem_append.mp hj with z | z
        · exact ok1.2.1 j z
        · exact ok2.2.1 j z
      · intro x hx
        rcases List.mem_append.mp hx with z | z
        · rcases ok1.2.2 x z with w | ⟨j, hj, w⟩
          · exact .inl w
          · exact .inr ⟨j, List.mem_append_left _ hj, w⟩
        · rcases ok2.2.2 x z with w | ⟨j, hj, w⟩
          · exact .inl (s1.free w)
          · exact .inr ⟨j, List.mem_append_right _ hj, w⟩
/-- arguments that may be others' -/
theorem da_br {es : List Expr} {n : Nat} {ss : List Nat} {g : Env → R (List D)} (h1 : DE X W ow k e den) (h2 : DA X W ow (.br ss) n es g)
    (hs : starEach (e :: es) X.env = (false, eval e X.env) :: starEach es X.env := by rfl) : DA X W ow (.br (k.src ++ ss)) (n + 1) (e :: es) (conL den g) := by
  obtain ⟨ta, p1, q1⟩ := h1
  obtain ⟨tb, p2, q2⟩ := h2
  refine ⟨_, pa_cons p1 p2 hs, fun σ ρ H As Q S q => q1 σ ρ H As _ S ?_⟩
  unfold conL at q
  cases e1 : den ρ with
  | stk =>
    rw [e1] at q
    exact q
  | exc x =>
    rw [e1] at q
    exact q
  | ok dx =>
    rw [e1, R.bind_ok] at q
    intro v H1 A s1 r1 ok1
    refine q2 σ ρ H1 As _ (S.same s1) ?_
    cases e2 : g ρ with
    | stk =>
      rw [e2] at q
      exact q
    | exc x =>
      rw [e2] at q
      exact fun c dd H' B sm rp => q c dd H' B (s1.trans sm) rp
    | ok ds =>
      rw [e2, R.bind_ok] at q
      intro vs H2 B s2 r2 ok2 hn
      refine q (v :: vs) H2 (A ++ B) (s1.trans s2) (repL_cons (r1.weak.same s2) r2) ?_ (by rw [List.length_cons, hn])
      have o1 := Kd.brOk S ok1
      intro j hj hj2 x hx hAB
      rcases List.mem_append.mp hAB with z | z
      · exact o1 j hj (fun w => hj2 (List.mem_append_left _ w)) x hx z
      · exact ok2 j hj (fun w => hj2 (List.mem_append_right _ w)) x hx z
/-! ### tuples, lists -/
def tupE (g : Env → R (List D)) : Env → R D := fun ρ => (g ρ).bind fun ds => .ok (.tuple ds)
def lstE (g : Env → R (List D)) : Env → R D := fun ρ => (g ρ).bind fun ds => .ok (.list ds)
theorem nat1000 {n : Nat} (h : n ≤ 1000) : n ≤ sizeLine := Nat.le_of_lt (small1000 h)
theorem de_tup {es : List Expr} {n : Nat} {g : Env → R (List D)} {x1} (h : DA X W ow k n es g) (hn : n ≤ 1000 := by decide) : DE X W ow k (.Tuple es x1 pos) (tupE g) := by
  obtain ⟨ta, p, q⟩ := h
  refine ⟨_, pe_tup p, fun σ ρ H As Q S z => q σ ρ H As _ S ?_⟩
  unfold tupE at z
  cases hd : g ρ with
  | stk =>
    rw [hd] at z
    exact z
  | exc x =>
    rw [hd] at z
    exact z
  | ok d =>
    rw [hd, R.bind_ok] at z
    intro vs H' A sm r ok hl
    refine ⟨by rw [hl]; exact nat1000 hn, fun p hp => z _ _ A (sm.trans (same_upd hp)) (.tup (.inl (.inl upd_same)) (r.same (same_upd hp))) ok⟩
theorem de_lst {es : List Expr} {n : Nat} {ms : List Nat} {g : Env → R (List D)} (h : DA X W ow (.own ms) n es g) (hn : n ≤ 1000 := by decide) : DE X W ow (.own ms) (.List es pos) (lstE g) := by
  obtain ⟨ta, p, q⟩ := h
  refine ⟨_, pe_lst p, fun σ ρ H As Q S z => q σ ρ H As _ S ?_⟩
  unfold lstE at z
  cases hd : g ρ with
  | stk =>
    rw [hd] at z
    exact z
  | exc x =>
    rw [hd] at z
    exact z
  | ok d =>
    rw [hd, R.bind_ok] at z
    intro vs H' A sm r ok hl
    refine ⟨by rw [hl]; exact nat1000 hn, fun p hp => z _ _ (p :: A) (sm.trans (same_upd hp)) (.lst upd_same (r.same (same_upd hp))) ⟨?_, ok.2.1, ?_⟩⟩
    · exact List.nodup_cons.mpr ⟨fun w => r.old w hp, ok.1⟩
    · intro a ha
      rcases List.mem_cons.mp ha with rfl | ha
      · exact .inl (sm.free hp)
      · exact ok.2.2 a ha
theorem de_lstB {es : List Expr} {n : Nat} {ss : List Nat} {g : Env → R (List D)} (h : DA X W ow (.br ss) n es g) (hn : n ≤ 1000 := by decide) : DE X W ow (.br ss) (.List es pos) (lstE g) := by
  obtain ⟨ta, p, q⟩ := h
  refine ⟨_, pe_lst p, fun σ ρ H As Q S z => q σ ρ H As _ S ?_⟩
  unfold lstE at z
  cases hd : g ρ with
  | stk =>
    rw [hd] at z
    exact z
  | exc x =>
    rw [hd] at z
    exact z
  | ok d =>
    rw [hd, R.bind_ok] at z
    intro vs H' A sm r ok hl
    refine ⟨by rw [hl]; exact nat1000 hn, fun p hp => z _ _ (p :: A) (sm.trans (same_upd hp)) (.lst upd_same (r.same (same_upd hp))) ?_⟩
    intro j hj hj2 x hx hA
    rcases List.mem_cons.mp hA with w | w
    · subst w
      exact (S.same sm).old hx hp
    · exact ok j hj hj2 x hx w
def newD : Env → R D := fun _ => .ok (.dict [])
theorem de_dict0 : DE X W ow (.own []) (.Dict [] [] pos) newD := by
  refine ⟨_, pe_dnewK, fun σ ρ H As Q S q p hp => ?_⟩
  exact q _ _ [p] (same_upd hp) (.dct upd_same .nil) ⟨List.nodup_cons.mpr ⟨(by intro z; cases z), List.nodup_nil⟩, (fun _ z => by cases z), fun a ha => .inl (by rw [List.mem_singleton.mp ha]; exact hp)⟩
/-! ### calls of built-ins -/
def CallD (X : Cx) (f : Value) (g : List D → R D) : Prop :=
  ∃ r, CallR X f r ∧ (∀ xs z, g xs ≠ .exc z) ∧ ∀ H xs ds A Q, RepL X.K X.mg H false xs ds A → Fresh X H (g ds) Q → r xs H Q
def call (f : List D → R D) (g : Env → R (List D)) : Env → R D := fun ρ => (g ρ).bind f
theorem tCB_good {es : List Expr} {n : Nat} {g : Env → R (List D)} {f : List D → R D} {r : List V → Hp → VK → Prop} {ta : TA} (q : ∀ σ ρ H As Q, On X ow σ ρ H As → GoodL X W σ ow k n H As (g ρ) Q → ta σ H Q)
    (hx : ∀ xs z, f xs ≠ .exc z) (hr : ∀ H xs ds A Q, RepL X.K X.mg H false xs ds A → Fresh X H (f ds) Q → r xs H Q) {σ : L2.St} {ρ : Env} {H : Hp} {As : Nat → List Addr} {Q : VK} (S : On X ow σ ρ H As) (z : Good X W σ ow (.own []) H As (call f g ρ) Q) : tCB r ta σ H Q := by
  refine q σ ρ H As _ S ?_
  unfold call at z
  cases hd : g ρ with
  | stk =>
    rw [hd] at z
    exact z
  | exc x =>
    rw [hd] at z
    exact z
  | ok d =>
    rw [hd, R.bind_ok] at z
    intro vs H' A sm rp ok hl
    exact hr H' vs d A Q rp.weak (fresh_good sm z (hx d))
theorem de_callB {x : Str} {id : String} {f : List D → R D} {es : List Expr} {n : Nat} {g : Env → R (List D)} {p : Pos} (hf : CallD X (.builtin id) f) (hm : X.mg x = none) (hv : bootBuiltins x = some (.builtin id)) (h : DA X W ow k n (e :: es) g) (hg : Gl X x := by rfl)
    (hn : x ≠ "__name__" := by decide) (hdb : (x == ("__debug__" : Str)) = false := by decide)
    (he : starEach (e :: es) X.env = (false, eval e X.env) :: starEach es X.env := by rfl) (hpl : (backTo pos (starEach es X.env)).any (·.1) = false := by rfl) : DE X W ow (.own []) (.Call (.Name x p) (e :: es) [] pos) (call f g) := by
  obtain ⟨r, h1, hx, hr⟩ := hf
  obtain ⟨ta, pa, q⟩ := h
  exact ⟨_, pe_callB h1 hg hm hv pa hn hdb he hpl, fun σ ρ H As Q S z => tCB_good (es := es) q hx hr S z⟩
theorem de_callTy {x : Str} {T : String} {f : List D → R D} {es : List Expr} {n : Nat} {g : Env → R (List D)} {p : Pos} (hf : CallD X (.type T) f) (hm : X.mg x = none) (hv : bootBuiltins x = some (.type T)) (h : DA X W ow k n (e :: es) g) (hg : Gl X x := by rfl)
    (hn : x ≠ "__name__" := by decide) (hdb : (x == ("__debug__" : Str)) = false := by decide)
    (he : starEach (e :: es) X.env = (false, eval e X.env) :: starEach es X.env := by rfl) (hpl : (backTo pos (starEach es X.env)).any (·.1) = false := by rfl) : DE X W ow (.own []) (.Call (.Name x p) (e :: es) [] pos) (call f g) := by
  obtain ⟨r, h1, hx, hr⟩ := hf
  obtain ⟨ta, pa, q⟩ := h
  exact ⟨_, pe_callTy h1 hg hm hv pa hn hdb he hpl, fun σ ρ H As Q S z => tCB_good (es := es) q hx hr S z⟩
end
end Dg

namespace Dg
open PySem PySem.Spec PyProof.Rows L2
def kill : List Nat → Env → Env
  | [], r => r
  | i :: is, r => kill is (r.set i none)
/-! ### the state, changed -/
section
variable {K : PySem.W.Frag} {mg : Str → Option Value} {H0 : Hp} {M0 : Addr → Prop} {pn : Nat → Option V} {ow ow' : List Nat} {σ : L2.St} {ρ : Env} {H H' : Hp} {As : Nat → List Addr}
theorem Sta.kill1 (S : Sta K mg H0 M0 pn ow σ ρ H As) (i : Nat) : Sta K mg H0 M0 pn ow σ (ρ.set i none) H (fun j => if j = i then [] else As j) := by
  refine ⟨S.fr, fun j d e => ?_, fun j h => ?_, fun j hj => ?_, fun j hj a ha => ?_, fun j hj l hl a ha hb => ?_, by rw [List.length_set]; exact S.len, S.pin⟩
  · by_cases hji : j = i
    · subst hji
      by_cases hl : j < ρ.length
      · rw [List.getElem?_set_self hl] at e
        cases e
      · rw [List.getElem?_eq_none (by rw [List.length_set]; omega)] at e
        cases e
    · rw [List.getElem?_set_ne (fun z => hji z.symm)] at e
      rw [if_neg hji]
      exact S.rep j d e
  · by_cases hji : j = i
    · exact if_pos hji
    · try dsimp only
      rw [if_neg hji]
      refine S.dead j fun d e => h d ?_
      rw [List.getElem?_set_ne (fun z => hji z.symm)]
      exact e
  · try dsimp only
    split
    · exact List.nodup_nil
    · exact S.nd j hj
  · try dsimp only at ha
    split at ha
    · cases ha
    · exact S.new j hj a ha
  · try dsimp only at ha hb
    split at ha
    · cases ha
    · split at hb
      · cases hb
      · exact S.sep j hj l hl a ha hb
theorem Sta.kills : ∀ (is : List Nat) {ρ : Env} {As : Nat → List Addr}, Sta K mg H0 M0 pn ow σ ρ H As → ∃ As', Sta K mg H0 M0 pn ow σ (kill is ρ) H As' ∧ (∀ j, As' j = As j ∨ As' j = []) ∧ (∀ j ∈ is, As' j = [])
  | [], _, As, S => ⟨As, S, (fun _ => .inl rfl), (fun _ h => by cases h)⟩
  | i :: is, ρ, As, S => by
    obtain ⟨As', S', h1, h2⟩ := Sta.kills is (S.kill1 i)
    refine ⟨As', S', fun j => ?_, fun j hj => ?_⟩
    · rcases h1 j with e | e
      · rw [e]
        try dsimp only
        split
        · exact .inr rfl
        · exact .inl rfl
      · exact .inr e
    · rcases List.mem_cons.mp hj with rfl | hj
      · rcases h1 j with e | e
        · rw [e]
          exact if_pos rfl
        · exact e
      · exact h2 j hj
/-- a value comes to a slot -/
theorem Sta.put (S : Sta K mg H0 M0 pn ow σ ρ H As) {i : Nat} {o : Bool} {v : V} {d : D} {A : List Addr} (r : Rep K mg H o v d A) (hp : pn i = none)
    (h1 : o = true → A.Nodup ∧ (∀ a ∈ A, H0 a = none ∨ M0 a) ∧ ∀ a ∈ A, ∀ j, a ∉ As j) (h2 : ∀ j ∈ ow', j ≠ i → ∀ a ∈ As j, a ∉ A) (h3 : ∀ j ∈ ow', j ≠ i → j ∈ ow) (h4 : i ∈ ow' → o = true) :
    Sta K mg H0 M0 pn ow' (σ.set i (some v)) (ρ.set i (some d)) H (fun j => if j = i then (if i < ρ.length then A else []) else As j) := by
  have sep1 : i ∈ ow' → ∀ l, l ≠ i → ∀ a ∈ A, a ∉ As l := fun hi l _ a ha => (h1 (h4 hi)).2.2 a ha l
  refine ⟨S.fr, fun j e he => ?_, fun j h => ?_, fun j hj => ?_, fun j hj a ha => ?_, fun j hj l hl a ha hb => ?_, by rw [List.length_set, List.length_set]; exact S.len, fun j w hw => ?_⟩
  · by_cases hji : j = i
    · subst hji
      by_cases hl : j < ρ.length
      · rw [List.getElem?_set_self hl] at he
        cases he
        refine ⟨v, List.getElem?_set_self (by rw [S.len]; exact hl), ?_⟩
        rw [if_pos rfl, if_pos hl]
        exact rep_less r fun z => h4 (contains_mem.mp z)
      · rw [List.getElem?_eq_none (by rw [List.length_set]; omega)] at he
        cases he
    · rw [List.getElem?_set_ne (fun z => hji z.symm)] at he
      obtain ⟨w, e1, e2⟩ := S.rep j e he
      refine ⟨w, (by rw [List.getElem?_set_ne (fun z => hji z.symm)]; exact e1), ?_⟩
      rw [if_neg hji]
      exact rep_less e2 fun z => contains_mem.mpr (h3 j (contains_mem.mp z) hji)
  · by_cases hji : j = i
    · subst hji
      try dsimp only
      rw [if_pos rfl]
      by_cases hl : j < ρ.length
      · exact absurd (List.getElem?_set_self hl) (h d)
      · exact if_neg hl
    · try dsimp only
      rw [if_neg hji]
      refine S.dead j fun d e => h d ?_
      rw [List.getElem?_set_ne (fun z => hji z.symm)]
      exact e
  · try dsimp only
    by_cases hji : j = i
    · subst hji
      rw [if_pos rfl]
      split
      · exact (h1 (h4 hj)).1
      · exact List.nodup_nil
    · rw [if_neg hji]
      exact S.nd j (h3 j hj hji)
  · try dsimp only at ha
    by_cases hji : j = i
    · subst hji
      rw [if_pos rfl] at ha
      split at ha
      · exact (h1 (h4 hj)).2.1 a ha
      · cases ha
    · rw [if_neg hji] at ha
      exact S.new j (h3 j hj hji) a ha
  · try dsimp only at ha hb
    by_cases hji : j = i
    · subst hji
      rw [if_neg hl] at hb
      rw [if_pos rfl] at ha
      split at ha
      · exact sep1 hj l hl a ha hb
      · cases ha
    · rw [if_neg hji] at ha
      by_cases hli : l = i
      · subst hli
        rw [if_pos rfl] at hb
        split at hb
        · exact h2 j hj hji a ha hb
        · cases hb
      · rw [if_neg hli] at hb
        exact S.sep j (h3 j hj hji) l hl a ha hb
  · by_cases hji : j = i
    · subst hji
      rw [hp] at hw
      cases hw
    · rw [List.getElem?_set_ne (fun z => hji z.symm)]
      exact S.pin j w hw
/-- the entry is here -/
theorem Sta.rebase (S : Sta K mg H0 M0 pn ow σ ρ H As) : Sta K mg H (fun a => ∃ i ∈ ow, a ∈ As i) pn ow σ ρ H As :=
  ⟨Fr.refl _ _, S.rep, S.dead, S.nd, fun i hi a ha => .inr ⟨i, hi, ha⟩, S.sep, S.len, S.pin⟩
theorem Sta.was2 (S : Sta K mg H0 M0 pn ow σ ρ H As) {a : Addr} (h : H a = none ∨ ∃ i ∈ ow, a ∈ As i) : H0 a = none ∨ M0 a := by
  rcases h with h | ⟨i, hi, h⟩
  · exact S.was h
  · exact S.new i hi a h
theorem Fr.base (S : Sta K mg H0 M0 pn ow σ ρ H As) {H' : Hp} (f : Fr (fun a => ∃ i ∈ ow, a ∈ As i) H H') : Fr M0 H0 H' := by
  intro a o h hm
  refine f a o (S.fr a o h hm) fun hi => ?_
  rintro ⟨i, hi2, ha⟩
  rcases S.new i hi2 a ha with z | z
  · rw [h] at z
    cases z
  · exact hm hi z
theorem Sta.unbase {ow2 : List Nat} {σ2 : L2.St} {ρ2 : Env} {H2 : Hp} {As2 : Nat → List Addr} (S : Sta K mg H0 M0 pn ow σ ρ H As) (S2 : Sta K mg H (fun a => ∃ i ∈ ow, a ∈ As i) pn ow2 σ2 ρ2 H2 As2) : Sta K mg H0 M0 pn ow2 σ2 ρ2 H2 As2 :=
  ⟨Fr.base S S2.fr, S2.rep, S2.dead, S2.nd, fun i hi a ha => S.was2 (S2.new i hi a ha), S2.sep, S2.len, S2.pin⟩
end
/-! ### statements -/
/-- what a body is told: the slots that are lent and given back; the slots that are one's own at the loop's head, at an exception's rise -/
structure Cfg where
  io : List Nat
  owl : List Nat
  owx : List Nat
def Post (X : Cx) (W : WX) (C : Cfg) (H0 : Hp) (M0 : Addr → Prop) (pn : Nat → Option V) (ow' : List Nat) (Dn : Ends) (o : Out) : Prop := match o with
  | .nx r => ∀ σ' H' As', Sta X.K X.mg H0 M0 pn ow' σ' r H' As' → Dn.nx σ' H'
  | .ret d r => ∀ v σ' H' As' A, Sta X.K X.mg H0 M0 pn C.io σ' r H' As' → Rep X.K X.mg H' true v d A → A.Nodup → (∀ a ∈ A, (H0 a = none ∨ M0 a) ∧ ∀ i ∈ C.io, a ∉ As' i) → Dn.rt v H'
  | .brk r => ∀ σ' H' As', Sta X.K X.mg H0 M0 pn C.owl σ' r H' As' → Dn.bk σ' H'
  | .cnt r => ∀ σ' H' As', Sta X.K X.mg H0 M0 pn C.owl σ' r H' As' → Dn.ct σ' H'
  | .exc x r => ∀ c dd σ' H' As' A, Sta X.K X.mg H0 M0 pn C.owx σ' r H' As' → RepX X.K X.mg H' c dd x A → W c dd σ' H'
  | .stk => False
def PinOk (C : Cfg) (pn : Nat → Option V) : Prop := ∀ j, j ∉ C.io → pn j = none
def DS (X : Cx) (W : WX) (C : Cfg) (ow ow' : List Nat) (st : Stmt) (den : Env → Out) : Prop :=
  ∃ ts, PS X st ts ∧ ∀ H0 M0 pn σ ρ H As Dn, PinOk C pn → Sta X.K X.mg H0 M0 pn ow σ ρ H As → Post X W C H0 M0 pn ow' Dn (den ρ) → ts Dn σ H
def DSs (X : Cx) (W : WX) (C : Cfg) (ow ow' : List Nat) (st : List Stmt) (den : Env → Out) : Prop :=
  ∃ ts, PSs X st ts ∧ ∀ H0 M0 pn σ ρ H As Dn, PinOk C pn → Sta X.K X.mg H0 M0 pn ow σ ρ H As → Post X W C H0 M0 pn ow' Dn (den ρ) → ts Dn σ H
section
variable {X : Cx} {W : WX} {C : Cfg} {ow ow' ow1 ow2 : List Nat} {k k1 k2 k3 : Kd} {e a b c : Expr} {st : Stmt} {sts sts2 : List Stmt} {den d1 d2 : Env → R D} {f g : Env → Out} {pos p2 : Pos}
def nxS : Env → Out := fun r => .nx r
def seqS (f g : Env → Out) : Env → Out := fun r => match f r with
  | .nx r' => g r'
  | o => o
theorem ds_nil (h : ∀ i ∈ ow', i ∈ ow) : DSs X W C ow ow' [] nxS := ⟨_, pss_nil, fun H0 M0 pn σ ρ H As Dn hp S q => q σ H As (S.less h)⟩
theorem ds_cons (h1 : DS X W C ow ow1 st f) (h2 : DSs X W C ow1 ow' sts g) : DSs X W C ow ow' (st :: sts) (seqS f g) := by
  obtain ⟨ts, p, q⟩ := h1
  obtain ⟨tt, p2, q2⟩ := h2
  refine ⟨_, pss_cons p p2, fun H0 M0 pn σ ρ H As Dn hp S z => q H0 M0 pn σ ρ H As _ hp S ?_⟩
  unfold seqS at z
  cases hf : f ρ with
  | nx r =>
    rw [hf] at z
    exact fun σ' H' As' S' => q2 H0 M0 pn σ' r H' As' Dn hp S' z
  | ret d r =>
    rw [hf] at z
    exact z
  | brk r =>
    rw [hf] at z
    exact z
  | cnt r =>
    rw [hf] at z
    exact z
  | exc x r =>
    rw [hf] at z
    exact z
  | stk =>
    rw [hf] at z
    exact z
theorem ds_one (h1 : DS X W C ow ow' st f) : DSs X W C ow ow' [st] f := by
  obtain ⟨ts, p, q⟩ := h1
  exact ⟨_, pss_one p, q⟩
theorem ds_pass (h : ∀ i ∈ ow', i ∈ ow) : DS X W C ow ow' (.Pass pos) nxS := ⟨_, ps_pass, fun H0 M0 pn σ ρ H As Dn hp S q => q σ H As (S.less h)⟩
/-- slots that no one asks any more are forgotten -/
def dropS (is : List Nat) (f : Env → Out) : Env → Out := fun r => match f r with
  | .nx r' => .nx (kill is r')
  | o => o
theorem ds_drop (is : List Nat) (h1 : DS X W C ow ow' st f) : DS X W C ow ow' st (dropS is f) := by
  obtain ⟨ts, p, q⟩ := h1
  refine ⟨_, p, fun H0 M0 pn σ ρ H As Dn hp S z => q H0 M0 pn σ ρ H As _ hp S ?_⟩
  unfold dropS at z
  cases hf : f ρ with
  | nx r =>
    rw [hf] at z
    intro σ' H' As' S'
    obtain ⟨As2, S2, _⟩ := Sta.kills is S'
    exact z σ' H' As2 S2
  | ret d r =>
    rw [hf] at z
    exact z
  | brk r =>
    rw [hf] at z
    exact z
  | cnt r =>
    rw [hf] at z
    exact z
  | exc x r =>
    rw [hf] at z
    exact z
  | stk =>
    rw [hf] at z
    exact z
/-! ### targets -/
def setsV : List Nat → List V → L2.St → L2.St
  | i :: is, v :: vs, s => setsV is vs (s.set i (some v))
  | _, _, s => s
def setsD : List Nat → List D → Env → Env
  | i :: is, v :: vs, s => setsD is vs (s.set i (some v))
  | _, _, s => s
/-- a target: the slots, and how a value falls apart -/
def DG (X : Cx) (is : List Nat) (tg : Expr) (t : D → Option (List D)) : Prop :=
  ∃ gt, PG X tg gt ∧ ∀ H o v d A σ Q, Rep X.K X.mg H o v d A → (match t d with
    | some ds => ∀ vs, RepL X.K X.mg H o vs ds A → vs.length = is.length → Q (setsV is vs σ) H
    | none => False) → gt v σ H Q
def t1 : D → Option (List D) := fun d => some [d]
def tN (n : Nat) : D → Option (List D) := fun d => match d with
  | .tuple ds => if ds.length = n then some ds else none
  | _ => none
theorem dg_name {i : Nat} (h : PG X e (gName i)) : DG X [i] e t1 := ⟨_, h, fun H o v d A σ Q r q => q [v] (RepL.one r) rfl⟩
/-- names of a tuple target -/
def PGN (X : Cx) (is : List Nat) (es : List Expr) : Prop := ∃ gs, PGs X es gs ∧ ∀ vs σ H Q, vs.length = is.length → Q (setsV is vs σ) H → gs vs σ H Q
theorem pgn_nil : PGN X [] [] := ⟨_, pgs_nil, fun vs σ H Q hl q => by
  cases vs with
  | nil => exact ⟨rfl, q⟩
  | cons v vs => cases hl⟩
theorem pgn_cons {i : Nat} {is : List Nat} {es : List Expr} (h : PG X e (gName i)) (h2 : PGN X is es) (hs : (assignEach (e :: es) X.env).map (·.2) = assign e X.env :: (assignEach es X.env).map (·.2) := by rfl) : PGN X (i :: is) (e :: es) := by
  obtain ⟨gs, p, q⟩ := h2
  refine ⟨_, pgs_cons h p hs, fun vs σ H Q hl z => ?_⟩
  cases vs with
  | nil => cases hl
  | cons v vs => exact ⟨v, vs, rfl, q vs _ H Q (Nat.succ.inj hl) z⟩
theorem dg_tup {is : List Nat} {es : List Expr} {kt : Nat} (hc : X.calm = true) (h : PGN X is es) (hn : (assignEach es X.env).length = is.length := by rfl) (hst : (assignEach es X.env).findIdx? (·.1) = none := by rfl) : DG X is (.Tuple es kt pos) (tN is.length) := by
  obtain ⟨gs, p, q⟩ := h
  refine ⟨_, pg_tup hc p hn hst, fun H o v d A σ Q r z => ?_⟩
  unfold tN at z
  cases d with
  | tuple ds =>
    try dsimp only at z
    split at z
    · rename_i ds2 hd
      split at hd
      · rename_i hl
        cases hd
        cases r with
        | tup h1 l1 =>
          have hv : _ = is.length := l1.len.trans hl
          exact ⟨_, _, rfl, h1, hv, q _ σ H Q hv (z _ l1 hv)⟩
      · cases hd
    · exact z.elim
  | _ => exact z.elim
section
variable {K : PySem.W.Frag} {mg : Str → Option Value} {H0 : Hp} {M0 : Addr → Prop} {pn : Nat → Option V}
/-- values of one's own come to slots -/
theorem Sta.putsO : ∀ (is : List Nat) {vs : List V} {ds : List D} {A : List Addr} {ow : List Nat} {σ : L2.St} {ρ : Env} {H : Hp} {As : Nat → List Addr}, RepL K mg H true vs ds A → vs.length = is.length → Sta K mg H0 M0 pn ow σ ρ H As → (∀ i ∈ is, pn i = none) →
    A.Nodup → (∀ a ∈ A, H0 a = none ∨ M0 a) → (∀ a ∈ A, ∀ j, a ∉ As j) → ∃ As' ow', Sta K mg H0 M0 pn ow' (setsV is vs σ) (setsD is ds ρ) H As' ∧ (∀ i ∈ ow, i ∈ ow') ∧ ∀ i ∈ is, i ∈ ow'
  | [], _, _, _, ow, _, _, _, As, .nil, _, S, _, _, _, _ => ⟨As, ow, S, (fun _ z => z), (fun _ z => by cases z)⟩
  | [], _, _, _, _, _, _, _, _, .cons _ _, hl, _, _, _, _, _ => by cases hl
  | i :: is, _, _, _, _, _, _, _, _, .nil, hl, _, _, _, _, _ => by cases hl
  | i :: is, _, _, _, ow, σ, ρ, H, As, .cons (v := v) (d := d) (A := A) (B := B) h r, hl, S, hp, nd, nw, fr => by
    have nd' := List.nodup_append.mp nd
    have S1 := S.put (ow' := i :: ow) h (hp i List.mem_cons_self) (fun _ => ⟨nd'.1, fun a ha => nw a (List.mem_append_left _ ha), fun a ha => fr a (List.mem_append_left _ ha)⟩)
      (fun j hj hji a ha hA => fr a (List.mem_append_left _ hA) j ha) (fun j hj hji => (List.mem_cons.mp hj).resolve_left hji) (fun _ => rfl)
    obtain ⟨As', ow', S', h1, h2⟩ := Sta.putsO is r (Nat.succ.inj hl) S1 (fun j hj => hp j (List.mem_cons_of_mem _ hj)) nd'.2.1 (fun a ha => nw a (List.mem_append_right _ ha)) (fun a ha j => by
      try dsimp only
      split
      · split
        · exact fun hA => nd'.2.2 a hA a ha rfl
        · intro z
          cases z
      · exact fr a (List.mem_append_right _ ha) j)
    refine ⟨As', ow', S', fun j hj => h1 j (List.mem_cons_of_mem _ hj), fun j hj => ?_⟩
    rcases List.mem_cons.mp hj with rfl | hj
    · exact h1 _ List.mem_cons_self
    · exact h2 j hj
/-- values of others come to slots -/
theorem Sta.putsB : ∀ (is : List Nat) {vs : List V} {ds : List D} {A : List Addr} {ow : List Nat} {σ : L2.St} {ρ : Env} {H : Hp} {As : Nat → List Addr} {o : Bool}, RepL K mg H o vs ds A → vs.length = is.length → Sta K mg H0 M0 pn ow σ ρ H As → (∀ i ∈ is, pn i = none) →
    (∀ i ∈ ow, i ∉ is) → (∀ i ∈ ow, ∀ a ∈ As i, a ∉ A) → ∃ As', Sta K mg H0 M0 pn ow (setsV is vs σ) (setsD is ds ρ) H As'
  | [], _, _, _, ow, _, _, _, As, _, .nil, _, S, _, _, _ => ⟨As, S⟩
  | [], _, _, _, _, _, _, _, _, _, .cons _ _, hl, _, _, _, _ => by cases hl
  | i :: is, _, _, _, _, _, _, _, _, _, .nil, hl, _, _, _, _ => by cases hl
  | i :: is, _, _, _, ow, σ, ρ, H, As, o, .cons (v := v) (d := d) (A := A) (B := B) h r, hl, S, hp, ni, fr => by
    have S1 := S.put (ow' := ow) h.weak (hp i List.mem_cons_self) (fun z => by cases z)
      (fun j hj hji a ha hA => fr j hj a ha (List.mem_append_left _ hA)) (fun j hj hji => hj) (fun z => absurd List.mem_cons_self (ni i z))
    exact Sta.putsB is r (Nat.succ.inj hl) S1 (fun j hj => hp j (List.mem_cons_of_mem _ hj)) (fun j hj z => ni j hj (List.mem_cons_of_mem _ z)) (fun j hj a ha hB => by
      try dsimp only at ha
      rw [if_neg (fun z => ni j hj (by rw [z]; exact List.mem_cons_self))] at ha
      exact fr j hj a ha (List.mem_append_right _ hB))
end
/-! ### assignments -/
def asgS (ms is : List Nat) (t : D → Option (List D)) (f : Env → R D) : Env → Out := fun r => match f r with
  | .ok d => match t d with
    | some ds => .nx (setsD is ds (kill ms r))
    | none => .stk
  | .exc x => .exc x r
  | .stk => .stk
def subL (a b : List Nat) : Bool := a.all fun i => b.contains i
theorem subL_mem {a b : List Nat} (h : subL a b = true) : ∀ i ∈ a, i ∈ b := fun i hi => contains_mem.mp (List.all_eq_true.mp h i hi)
def disL (a b : List Nat) : Bool := a.all fun i => !b.contains i
theorem disL_mem {a b : List Nat} (h : disL a b = true) : ∀ i ∈ a, i ∉ b := fun i hi z => by
  have := List.all_eq_true.mp h i hi
  rw [contains_mem.mpr z] at this
  cases this
theorem setsD_len : ∀ (is : List Nat) (ds : List D) (r : Env), (setsD is ds r).length = r.length
  | [], _, _ => rfl
  | _ :: _, [], _ => rfl
  | i :: is, d :: ds, r => (setsD_len is ds _).trans List.length_set
/-- x = e, e one's own -/
theorem ds_asg {is ms : List Nat} {t : D → Option (List D)} {tg : Expr} (h1 : DE X W ow (.own ms) e den) (h2 : DG X is tg t) (hio : disL is C.io = true) (how : subL ow' (is ++ ow) = true) (hox : subL C.owx ow = true)
    (hs : swapsWithSole [tg] e pos.line X.env = pure false := by rfl) (hw : swappedStores [tg] e X.env = pure none := by rfl) (h3 : (assignEach [tg] X.env).map (·.2) = [assign tg X.env] := by rfl) : DS X W C ow ow' (.Assign [tg] e pos) (asgS ms is t den) := by
  obtain ⟨te, p, q⟩ := h1
  obtain ⟨gt, pg, qg⟩ := h2
  refine ⟨_, ps_asg p pg hs hw h3, fun H0 M0 pn σ ρ H As Dn hp S z => q σ ρ H As _ ⟨H0, M0, pn, S⟩ ?_⟩
  unfold asgS at z
  cases hd : den ρ with
  | stk =>
    rw [hd] at z
    exact z
  | exc x =>
    rw [hd] at z
    exact fun c dd H' A sm rp => z c dd σ H' As A ((S.same sm).less (subL_mem hox)) rp
  | ok d =>
    rw [hd] at z
    intro v H1 A sm rp ok
    refine qg H1 true v d A σ _ rp ?_
    try dsimp only at z
    cases ht : t d with
    | none =>
      rw [ht] at z
      exact z
    | some ds =>
      rw [ht] at z
      intro vs rl hl
      obtain ⟨As1, S1, k1, k2⟩ := Sta.kills ms (S.same sm)
      have fr : ∀ a ∈ A, ∀ j, a ∉ As1 j := fun a ha j hj => by
        rcases k1 j with e | e
        · rw [e] at hj
          rcases ok.2.2 a ha with w | ⟨i, hi, w⟩
          · exact S.old hj w
          · by_cases hji : j = i
            · subst hji
              rw [k2 j hi] at e
              rw [← e] at hj
              cases hj
            · exact S.sep i (ok.2.1 i hi) j hji a w hj
        · rw [e] at hj
          cases hj
      obtain ⟨As', ow2, S', h1, h2⟩ := Sta.putsO is rl hl S1 (fun i hi => hp i (disL_mem hio i hi)) ok.1 (fun a ha => by
        rcases ok.2.2 a ha with w | ⟨i, hi, w⟩
        · exact S.was w
        · exact S.new i (ok.2.1 i hi) a w) fr
      exact z _ _ As' (S'.less fun i hi => by
        rcases List.mem_append.mp (subL_mem how i hi) with w | w
        · exact h2 i w
        · exact h1 i w)
/-- x = e, e of others -/
theorem ds_asgB {is : List Nat} {t : D → Option (List D)} {tg : Expr} (h1 : DE X W ow k e den) (h2 : DG X is tg t) (hio : disL is C.io = true) (how : subL ow' ow = true) (hs1 : disL ow' k.src = true) (hs2 : disL ow' is = true) (hox : subL C.owx ow = true)
    (hs : swapsWithSole [tg] e pos.line X.env = pure false := by rfl) (hw : swappedStores [tg] e X.env = pure none := by rfl) (h3 : (assignEach [tg] X.env).map (·.2) = [assign tg X.env] := by rfl) : DS X W C ow ow' (.Assign [tg] e pos) (asgS [] is t den) := by
  obtain ⟨te, p, q⟩ := h1
  obtain ⟨gt, pg, qg⟩ := h2
  refine ⟨_, ps_asg p pg hs hw h3, fun H0 M0 pn σ ρ H As Dn hp S z => q σ ρ H As _ ⟨H0, M0, pn, S⟩ ?_⟩
  unfold asgS at z
  cases hd : den ρ with
  | stk =>
    rw [hd] at z
    exact z
  | exc x =>
    rw [hd] at z
    exact fun c dd H' A sm rp => z c dd σ H' As A ((S.same sm).less (subL_mem hox)) rp
  | ok d =>
    rw [hd] at z
    intro v H1 A sm rp ok
    refine qg H1 false v d A σ _ rp.weak ?_
    try dsimp only at z
    cases ht : t d with
    | none =>
      rw [ht] at z
      exact z
    | some ds =>
      rw [ht] at z
      intro vs rl hl
      have ok' := Kd.brOk ⟨H0, M0, pn, S⟩ ok
      obtain ⟨As', S'⟩ := Sta.putsB is rl hl ((S.same sm).less (subL_mem how)) (fun i hi => hp i (disL_mem hio i hi)) (disL_mem hs2) (fun i hi => ok' i (subL_mem how i hi) (disL_mem hs1 i hi))
      exact z _ _ As' S'
/-! ### return, expressions, if -/
def retS (f : Env → R D) : Env → Out := fun r => match f r with
  | .ok d => .ret d r
  | .exc x => .exc x r
  | .stk => .stk
theorem ds_ret {ms : List Nat} (h1 : DE X W ow (.own ms) e den) (hio : subL C.io ow = true) (hms : disL C.io ms = true) (hox : subL C.owx ow = true) : DS X W C ow ow' (.Return (some e) pos) (retS den) := by
  obtain ⟨te, p, q⟩ := h1
  refine ⟨_, ps_ret p, fun H0 M0 pn σ ρ H As Dn hp S z => q σ ρ H As _ ⟨H0, M0, pn, S⟩ ?_⟩
  unfold retS at z
  cases hd : den ρ with
  | stk =>
    rw [hd] at z
    exact z
  | exc x =>
    rw [hd] at z
    exact fun c dd H' A sm rp => z c dd σ H' As A ((S.same sm).less (subL_mem hox)) rp
  | ok d =>
    rw [hd] at z
    intro v H1 A sm rp ok
    refine z v σ H1 As A ((S.same sm).less (subL_mem hio)) rp ok.1 fun a ha => ⟨?_, fun i hi hA => ?_⟩
    · rcases ok.2.2 a ha with w | ⟨j, hj, w⟩
      · exact S.was w
      · exact S.new j (ok.2.1 j hj) a w
    · rcases ok.2.2 a ha with w | ⟨j, hj, w⟩
      · exact S.old hA w
      · exact S.sep j (ok.2.1 j hj) i (fun z => disL_mem hms i hi (z ▸ hj)) a w hA
def retN : Env → Out := fun r => .ret .none r
theorem ds_retN (hio : subL C.io ow = true) : DS X W C ow ow' (.Return none pos) retN :=
  ⟨_, ps_retN, fun H0 M0 pn σ ρ H As Dn hp S z => z .non σ H As [] (S.less (subL_mem hio)) .non List.nodup_nil fun a ha => by cases ha⟩
def expS (f : Env → R D) : Env → Out := fun r => match f r with
  | .ok _ => .nx r
  | .exc x => .exc x r
  | .stk => .stk
theorem ds_expr (h1 : DE X W ow k e den) (how : subL ow' ow = true) (hox : subL C.owx ow = true) (hs : swapsWith e none pos.line X.env = pure false := by rfl) : DS X W C ow ow' (.Expr e pos) (expS den) := by
  obtain ⟨te, p, q⟩ := h1
  refine ⟨_, ps_expr p hs, fun H0 M0 pn σ ρ H As Dn hp S z => q σ ρ H As _ ⟨H0, M0, pn, S⟩ ?_⟩
  unfold expS at z
  cases hd : den ρ with
  | stk =>
    rw [hd] at z
    exact z
  | exc x =>
    rw [hd] at z
    exact fun c dd H' A sm rp => z c dd σ H' As A ((S.same sm).less (subL_mem hox)) rp
  | ok d =>
    rw [hd] at z
    exact fun v H1 A sm rp ok => z σ H1 As ((S.same sm).less (subL_mem how))
def ifS (c : Env → R Bool) (f g : Env → Out) : Env → Out := fun r => match c r with
  | .ok b => if b = true then f r else g r
  | .exc x => .exc x r
  | .stk => .stk
theorem ds_if {tc : Env → R Bool} {pos : Pos} (h : DT X W ow c tc) (h1 : DSs X W C ow ow' sts f) (h2 : DSs X W C ow ow' sts2 g) (hox : subL C.owx ow = true) : DS X W C ow ow' (.If c sts sts2 pos) (ifS tc f g) := by
  obtain ⟨te, p, q⟩ := h
  obtain ⟨ta, pa, qa⟩ := h1
  obtain ⟨tb, pb, qb⟩ := h2
  refine ⟨_, ps_if p pa pb, fun H0 M0 pn σ ρ H As Dn hp S z => q σ ρ H As _ ⟨H0, M0, pn, S⟩ ?_⟩
  unfold ifS at z
  cases hd : tc ρ with
  | stk =>
    rw [hd] at z
    exact z
  | exc x =>
    rw [hd] at z
    exact fun c dd H' A sm rp => z c dd σ H' As A ((S.same sm).less (subL_mem hox)) rp
  | ok d =>
    rw [hd] at z
    intro H1 sm
    cases d with
    | true =>
      try dsimp only at z
      rw [if_pos rfl] at z
      exact iteT (qa H0 M0 pn σ ρ H1 As Dn hp (S.same sm) z)
    | false =>
      try dsimp only at z
      rw [if_neg Bool.false_ne_true] at z
      exact iteF (qb H0 M0 pn σ ρ H1 As Dn hp (S.same sm) z)
def brkS : Env → Out := fun r => .brk r
def cntS : Env → Out := fun r => .cnt r
theorem ds_break (h : subL C.owl ow = true) : DS X W C ow ow' (.Break pos) brkS := ⟨_, ps_break, fun H0 M0 pn σ ρ H As Dn hp S q => q σ H As (S.less (subL_mem h))⟩
theorem ds_continue (h : subL C.owl ow = true) : DS X W C ow ow' (.Continue pos) cntS := ⟨_, ps_continue, fun H0 M0 pn σ ρ H As Dn hp S q => q σ H As (S.less (subL_mem h))⟩
end
end Dg

namespace Dg
open PySem PySem.Spec PyProof.Rows L2
/-! ### what a for walks -/
structure ItOk (X : Cx) (J : It) (xs : List D) (H1 : Hp) (A : List Addr) : Prop where
  go : ∀ (M : Addr → Prop) H i, Fr M H1 H → (∀ a ∈ A, ¬ M a) → i < xs.length → J.go i H
  yld : ∀ (M : Addr → Prop) H i x H', Fr M H1 H → (∀ a ∈ A, ¬ M a) → J.yld i H x H' → Same H H' ∧ ∀ d, xs[i]? = some d → ∃ B, Rep X.K X.mg H' false x d B ∧ ∀ b ∈ B, b ∈ A
  stop : ∀ (M : Addr → Prop) H, Fr M H1 H → (∀ a ∈ A, ¬ M a) → J.stop xs.length H
def GoodI (X : Cx) (W : WX) (σ : L2.St) (ow : List Nat) (ss : List Nat) (H : Hp) (As : Nat → List Addr) (r : R (List D)) (Q : It → Hp → Prop) : Prop := match r with
  | .ok xs => ∀ J H1 A, Same H H1 → ItOk X J xs H1 A → (Kd.br ss).Ok ow H As A → (∀ a ∈ A, H1 a ≠ none) → Q J H1
  | .exc x => ∀ c dd H' A, Same H H' → RepX X.K X.mg H' c dd x A → W c dd σ H'
  | .stk => False
def DI (X : Cx) (W : WX) (ow ss : List Nat) (tg iter : Expr) (items : Env → R (List D)) : Prop :=
  ∃ wi, PI X tg iter wi ∧ ∀ σ ρ H As Q, On X ow σ ρ H As → GoodI X W σ ow ss H As (items ρ) Q → wi σ H Q
def dItems (d : D) : R (List D) := match d with
  | .list xs => .ok xs
  | .tuple xs => .ok xs
  | .str s => .ok (s.cps.toList.map fun c => .str ⟨#[c]⟩)
  | .dict ((.none, .list xs) :: _) => .ok xs
  | _ => .stk
def itE (f : Env → R D) : Env → R (List D) := fun ρ => (f ρ).bind dItems
theorem PI.or2 {X : Cx} {tg e : Expr} {t u : TI} (h : PI X tg e t) (h' : PI X tg e u) : PI X tg e (fun σ H Q => t σ H Q ∨ u σ H Q) := by
  refine ⟨fun pins s σ H Q I q => ?_⟩
  rcases q with q | q
  · exact h.run pins s σ H Q I q
  · exact h'.run pins s σ H Q I q
section
variable {X : Cx} {W : WX} {C : Cfg} {ow ow' ow1 ow2 : List Nat} {k k1 k2 k3 : Kd} {e a b c tg : Expr} {st : Stmt} {sts sts2 : List Stmt} {den d1 d2 : Env → R D} {f g : Env → Out} {pos p2 : Pos}
theorem it_seq {H1 : Hp} {a : Addr} {vs : List V} {xs : List D} {A : List Addr} {B : List Addr} (hs : ∀ (M : Addr → Prop) H, Fr M H1 H → (∀ a ∈ A, ¬ M a) → SqL X.K H a vs) (l : RepL X.K X.mg H1 false vs xs B) (hB : ∀ b ∈ B, b ∈ A) : ItOk X (Itl X.K a) xs H1 A where
  go M H i f n h := by
    have q := hs M H f n
    exact ⟨vs, vs[i]'(by rw [l.len]; exact h), q, List.getElem?_eq_getElem _⟩
  yld M H i x H' f n h := by
    obtain ⟨rfl, h⟩ := h
    refine ⟨Same.refl _, fun d hd => ?_⟩
    obtain ⟨y, C, hy, r, hc⟩ := (l.fr f fun a ha => n a (hB a ha)).get hd
    have e := (h vs (hs M _ f n)).symm.trans hy
    cases e
    exact ⟨C, r, fun b hb => hB b (hc b hb)⟩
  stop M H f n := ⟨vs, hs M H f n, by rw [l.len]; exact Nat.le_refl _⟩
theorem it_tup {H1 : Hp} {a : Addr} {vs : List V} {xs : List D} {A : List Addr} (hs : SqT X.K H1 a vs) (l : RepL X.K X.mg H1 false vs xs A) : ItOk X (Itt X.K a) xs H1 A where
  go M H i f n h := by
    have q := sqT_fr hs f
    exact ⟨vs, vs[i]'(by rw [l.len]; exact h), q, List.getElem?_eq_getElem _⟩
  yld M H i x H' f n h := by
    obtain ⟨rfl, h⟩ := h
    refine ⟨Same.refl _, fun d hd => ?_⟩
    obtain ⟨y, C, hy, r, hc⟩ := (l.fr f n).get hd
    have e := (h vs (sqT_fr hs f)).symm.trans hy
    cases e
    exact ⟨C, r, hc⟩
  stop M H f n := ⟨vs, sqT_fr hs f, by rw [l.len]; exact Nat.le_refl _⟩
theorem it_str {H1 : Hp} {s : Str} : ItOk X (Its s) (s.cps.toList.map fun c => .str ⟨#[c]⟩) H1 [] where
  go M H i f n h := by
    show i < s.cps.size
    rw [List.length_map, Array.length_toList] at h
    exact h
  yld M H i x H' f n h := by
    obtain ⟨rfl, c, hc, rfl⟩ := h
    refine ⟨Same.refl _, fun d hd => ?_⟩
    rw [List.getElem?_map, Array.getElem?_toList, hc] at hd
    cases hd
    exact ⟨[], .str _, fun b hb => hb⟩
  stop M H f n := by
    show s.cps.size ≤ _
    rw [List.length_map, Array.length_toList]
    exact Nat.le_refl _
theorem it_range {H1 : Hp} {lo : Int} {n : Nat} : ItOk X (Itr lo n) ((List.range n).map fun (i : Nat) => .int (lo + i)) H1 [] where
  go M H i f n h := by
    rw [List.length_map, List.length_range] at h
    exact h
  yld M H i x H' f n h := by
    obtain ⟨rfl, rfl⟩ := h
    refine ⟨Same.refl _, fun d hd => ?_⟩
    rw [List.getElem?_map] at hd
    cases e : (List.range _)[i]? with
    | none =>
      rw [e] at hd
      cases hd
    | some j =>
      rw [e] at hd
      have ej : i = j := by
        obtain ⟨_, q⟩ := List.getElem?_eq_some_iff.mp e
        rw [List.getElem_range] at q
        exact q
      subst ej
      cases hd
      exact ⟨[], .int _, fun b hb => hb⟩
  stop M H f n := by
    show _ ≤ _
    rw [List.length_map, List.length_range]
    exact Nat.le_refl _
theorem di_seq (h : DE X W ow k e den) : DI X W ow k.src tg e (itE den) := by
  obtain ⟨te, p, q⟩ := h
  refine ⟨_, PI.or2 (pi_list p) (PI.or2 (pi_tup p) (pi_str p)), fun σ ρ H As Q S z => ?_⟩
  unfold itE at z
  cases hd : den ρ with
  | stk =>
    rw [hd] at z
    exact z.elim
  | exc x =>
    rw [hd] at z
    refine .inl (q σ ρ H As _ S ?_)
    rw [hd]
    exact z
  | ok d =>
    rw [hd, R.bind_ok] at z
    unfold dItems at z
    split at z
    · refine .inl (q σ ρ H As _ S ?_)
      rw [hd]
      intro v H1 A sm rp ok
      have ok' := Kd.brOk S ok
      have old := fun (a : Addr) (ha : a ∈ A) => rp.old ha
      cases rp.weak with
      | lst h1 l1 =>
        refine ⟨_, rfl, ⟨_, .inl (.inl h1)⟩, z _ H1 _ sm (it_seq (fun M H f n => .inl (.inl (f _ _ h1 fun _ => n _ List.mem_cons_self))) l1 fun b hb => List.mem_cons_of_mem _ hb) ok' old⟩
    · refine .inr (.inl (q σ ρ H As _ S ?_))
      rw [hd]
      intro v H1 A sm rp ok
      have ok' := Kd.brOk S ok
      have old := fun (a : Addr) (ha : a ∈ A) => rp.old ha
      cases rp.weak with
      | tup h1 l1 => exact ⟨_, rfl, ⟨_, h1⟩, z _ H1 _ sm (it_tup h1 l1) ok' old⟩
    · refine .inr (.inr (q σ ρ H As _ S ?_))
      rw [hd]
      intro v H1 A sm rp ok
      have ok' := Kd.brOk S ok
      cases rp.weak with
      | str s => exact ⟨_, rfl, z _ H1 [] sm it_str (fun j _ _ a _ hb => by cases hb) fun a ha => by cases ha⟩
    · refine .inl (q σ ρ H As _ S ?_)
      rw [hd]
      intro v H1 A sm rp ok
      have ok' := Kd.brOk S ok
      have old := fun (a : Addr) (ha : a ∈ A) => rp.old ha
      have rp' := rp.weak
      generalize ed : PyData.dict ((PyData.none, PyData.list ‹List D›) :: ‹List (D × D)›) = w at rp'
      cases rp' with
      | lstF h1 l1 =>
        injection ed with e1
        injection e1 with e2 e3
        injection e2 with e4 e5
        injection e5 with e6
        subst e6
        exact ⟨_, rfl, ⟨_, h1.seq⟩, z _ H1 _ sm (it_seq (fun M H f n => (h1.fr f).seq) l1 fun b hb => hb) ok' old⟩
      | dct h1 l1 =>
        injection ed with e1
        subst e1
        exact (repP_tag l1).elim
      | dctF h1 l1 =>
        injection ed with e1
        subst e1
        exact (repP_tag l1).elim
      | ins h1 h2 l1 =>
        injection ed with e1
        injection e1 with e2 e3
        injection e2 with e4 e5
        cases e5
      | _ => cases ed
    · exact z.elim
def big62 (i : Int) : Bool := decide (-(2 ^ 62) ≤ i ∧ i < 2 ^ 62)
theorem big62_of {i : Int} (h : big62 i = true) : -(2 ^ 62) ≤ i ∧ i < 2 ^ 62 := of_decide_eq_true h
def dRange (ds : List D) : R (List D) := match ds with
  | [.int j] => if big62 j = true then .ok ((List.range j.toNat).map fun (i : Nat) => .int (0 + i)) else .stk
  | [.int i, .int j] => if (big62 i && big62 j) = true then .ok ((List.range (j - i).toNat).map fun (q : Nat) => .int (i + q)) else .stk
  | _ => .stk
def rgE (g : Env → R (List D)) : Env → R (List D) := fun ρ => (g ρ).bind dRange
theorem di_range1 {g : Env → R (List D)} {p : Pos} (hm : X.mg "range" = none) (h : DA X W ow k 1 [a] g) (hg : Gl X "range" := by rfl) (hs : starEach [a] X.env = [(false, eval a X.env)] := by rfl) : DI X W ow [] tg (.Call (.Name "range" p) [a] [] pos) (rgE g) := by
  obtain ⟨ta, pa, q⟩ := h
  refine ⟨_, pi_range1 hg hm pa hs, fun σ ρ H As Q S z => q σ ρ H As _ S ?_⟩
  unfold rgE at z
  cases hd : g ρ with
  | stk =>
    rw [hd] at z
    exact z
  | exc x =>
    rw [hd] at z
    exact z
  | ok d =>
    rw [hd, R.bind_ok] at z
    intro vs H1 A sm rp ok hl
    unfold dRange at z
    split at z
    · split at z
      · rename_i hz
        have hz' := big62_of hz
        cases rp with
        | cons r1 r2 =>
          cases r1.weak
          cases r2
          exact ⟨_, rfl, hz'.1, hz'.2, z _ H1 [] sm it_range (fun j _ _ a _ hb => by cases hb) fun a ha => by cases ha⟩
      · exact z.elim
    · have := rp.len
      rw [hl] at this
      cases this
    · exact z.elim
theorem di_range2 {g : Env → R (List D)} {p : Pos} (hm : X.mg "range" = none) (h : DA X W ow k 2 [a, b] g) (hg : Gl X "range" := by rfl) (hs : starEach [a, b] X.env = [(false, eval a X.env), (false, eval b X.env)] := by rfl) (hs2 : starEach [b] X.env = [(false, eval b X.env)] := by rfl) : DI X W ow [] tg (.Call (.Name "range" p) [a, b] [] pos) (rgE g) := by
  obtain ⟨ta, pa, q⟩ := h
  refine ⟨_, pi_range2 hg hm pa hs hs2, fun σ ρ H As Q S z => q σ ρ H As _ S ?_⟩
  unfold rgE at z
  cases hd : g ρ with
  | stk =>
    rw [hd] at z
    exact z
  | exc x =>
    rw [hd] at z
    exact z
  | ok d =>
    rw [hd, R.bind_ok] at z
    intro vs H1 A sm rp ok hl
    unfold dRange at z
    split at z
    · have := rp.len
      rw [hl] at this
      cases this
    · split at z
      · rename_i hz
        rw [Bool.and_eq_true] at hz
        have h1 := big62_of hz.1
        have h2 := big62_of hz.2
        cases rp with
        | cons r1 r2 =>
          cases r1.weak
          cases r2 with
          | cons r3 r4 =>
            cases r3.weak
            cases r4
            exact ⟨_, _, rfl, ⟨h1.1, h1.2, h2.1, h2.2⟩, z _ H1 [] sm it_range (fun j _ _ a _ hb => by cases hb) fun a ha => by cases ha⟩
      · exact z.elim
    · exact z.elim
/-! ### for -/
/-- the turns of a loop -/
def turns (is : List Nat) (t : D → Option (List D)) (ks : List Nat) (body : Env → Out) : List D → Env → Out
  | [], r => .nx r
  | x :: xs, r => match t x with
    | none => .stk
    | some ds => match body (setsD is ds r) with
      | .nx r' => turns is t ks body xs (kill ks r')
      | .cnt r' => turns is t ks body xs (kill ks r')
      | .brk r' => .nx (kill ks r')
      | o => o
def forS (is : List Nat) (t : D → Option (List D)) (ks : List Nat) (items : Env → R (List D)) (body : Env → Out) : Env → Out := fun r => match items r with
  | .ok xs => turns is t ks body xs (kill ks r)
  | .exc x => .exc x r
  | .stk => .stk
theorem ds_for {items : Env → R (List D)} {is ss ks owl : List Nat} {t : D → Option (List D)} {iter : Expr} (hp : PassesOwn (model X.prog X.w) X.A X.env X.xe) (hc : X.calm = true) (hi : DI X W ow ss tg iter items) (hg : DG X is tg t)
    (hb : DSs X W { C with owl := owl } owl owl sts f) (h1 : subL owl ow = true) (h2 : disL owl ss = true) (h3 : disL owl is = true) (h4 : disL is C.io = true) (h5 : subL ow' owl = true) (h6 : subL C.owx ow = true)
    (hs : ∀ x, foldedSetIterable iter X.env x = pure x := by intro _; rfl) : DS X W C ow ow' (.For tg iter sts [] pos) (forS is t ks items f) := by
  obtain ⟨wi, pi, qi⟩ := hi
  obtain ⟨gt, pg, qg⟩ := hg
  obtain ⟨tb, pb, qb⟩ := hb
  refine ⟨_, ps_for hp hc pi pg pb hs, fun H0 M0 pn σ ρ H As Dn hp S z => qi σ ρ H As _ ⟨H0, M0, pn, S⟩ ?_⟩
  unfold forS at z
  cases hd : items ρ with
  | stk =>
    rw [hd] at z
    exact z
  | exc x =>
    rw [hd] at z
    exact fun c dd H' A sm rp => z c dd σ H' As A ((S.same sm).less (subL_mem h6)) rp
  | ok xs =>
    rw [hd] at z
    intro J H1 A sm it ok old
    have z : Post X W C H0 M0 pn ow' Dn (turns is t ks f xs (kill ks ρ)) := z
    have S1 := (S.same sm).less (subL_mem h1)
    -- what is walked stands apart from what the body changes
    have nM : ∀ a ∈ A, ¬ ∃ i ∈ owl, a ∈ As i := fun a ha => by
      rintro ⟨i, hi, h⟩
      exact ok i (subL_mem h1 i hi) (disL_mem h2 i hi) a h ha
    obtain ⟨Ak, Sk, hk1, hk2⟩ := Sta.kills ks S1
    have T0 := S1.rebase
    obtain ⟨Al, Sl, _, _⟩ := Sta.kills ks T0
    refine ⟨fun i m σ' H' => i + m = xs.length ∧ ∃ ρ' As', Sta X.K X.mg H1 (fun a => ∃ i ∈ owl, a ∈ As i) pn owl σ' ρ' H' As' ∧ Post X W C H0 M0 pn ow' Dn (turns is t ks f (xs.drop i) ρ'), ⟨xs.length, (by omega), _, _, Sl, z⟩, fun i m σ' H' hW => ?_⟩
    obtain ⟨em, ρ', As', T, zz⟩ := hW
    by_cases hl : i < xs.length
    · refine .inr ⟨it.go _ _ i T.fr nM hl, fun σ2 H2 => ∃ ρ2 As2, Sta X.K X.mg H1 (fun a => ∃ i ∈ owl, a ∈ As i) pn owl σ2 ρ2 H2 As2 ∧ Post X W C H0 M0 pn ow' Dn (turns is t ks f (xs.drop (i + 1)) ρ2), fun σ2 H2 hN => ?_, fun x H2 hy => ?_⟩
      · obtain ⟨ρ2, As2, T2, z2⟩ := hN
        exact ⟨m - 1, by omega, by omega, ρ2, As2, T2, z2⟩
      · obtain ⟨s2, hr⟩ := it.yld _ _ i x H2 T.fr nM hy
        obtain ⟨B, rB, hB⟩ := hr _ (List.getElem?_eq_getElem hl)
        refine qg H2 false x xs[i] B σ' _ rB ?_
        rw [List.drop_eq_getElem_cons hl, turns] at zz
        cases ht : t xs[i] with
        | none =>
          rw [ht] at zz
          exact zz
        | some ds =>
          rw [ht] at zz
          intro vs rl hvl
          have T2 := T.same s2
          have apart : ∀ j ∈ owl, ∀ a ∈ As' j, a ∉ B := fun j hj a ha hb => by
            rcases T.new j hj a ha with w | w
            · exact old a (hB a hb) w
            · exact nM a (hB a hb) w
          obtain ⟨As3, T3⟩ := Sta.putsB is rl hvl T2 (fun i hi => hp i (disL_mem h4 i hi)) (disL_mem h3) apart
          refine qb _ _ pn _ _ H2 As3 _ hp T3 ?_
          dsimp only at zz
          cases hf : f (setsD is ds ρ') with
          | nx r =>
            rw [hf] at zz
            intro σ4 H4 As4 T4
            obtain ⟨As5, T5, _, _⟩ := Sta.kills ks T4
            exact ⟨_, As5, T5, zz⟩
          | cnt r =>
            rw [hf] at zz
            intro σ4 H4 As4 T4
            obtain ⟨As5, T5, _, _⟩ := Sta.kills ks T4
            exact ⟨_, As5, T5, zz⟩
          | brk r =>
            rw [hf] at zz
            intro σ4 H4 As4 T4
            obtain ⟨As5, T5, _, _⟩ := Sta.kills ks T4
            exact zz σ4 H4 As5 ((S1.unbase T5).less (subL_mem h5))
          | ret d r =>
            rw [hf] at zz
            intro v σ4 H4 As4 A4 T4 r4 n4 h4
            exact zz v σ4 H4 As4 A4 (S1.unbase T4) r4 n4 fun a ha => ⟨S1.was2 (h4 a ha).1, (h4 a ha).2⟩
          | exc x r =>
            rw [hf] at zz
            intro c dd σ4 H4 As4 A4 T4 r4
            exact zz c dd σ4 H4 As4 A4 (S1.unbase T4) r4
          | stk =>
            rw [hf] at zz
            exact zz
    · have ei : i = xs.length := by omega
      subst ei
      refine .inl ⟨it.stop _ _ T.fr nM, ?_⟩
      rw [List.drop_length, turns] at zz
      exact zz σ' H' As' ((S1.unbase T).less (subL_mem h5))
end
end Dg

namespace Dg
open PySem PySem.Spec PyProof.Rows L2
/-! ### slots that are wiped -/
theorem wipe_get (σ : L2.St) : ∀ (vs : List Nat) (j : Nat), (wipe σ vs)[j]? = if j ∈ vs then (σ[j]?).map fun _ => none else σ[j]?
  | [], j => by simp [wipe]
  | v :: vs, j => by
    rw [wipe]
    by_cases hj : j = v
    · subst hj
      rw [if_pos List.mem_cons_self]
      by_cases hl : j < σ.length
      · rw [List.getElem?_set_self (by rw [wipe_length]; exact hl), List.getElem?_eq_getElem hl]
        rfl
      · rw [List.getElem?_eq_none (by rw [List.length_set, wipe_length]; omega), List.getElem?_eq_none (by omega)]
        rfl
    · rw [List.getElem?_set_ne (fun z => hj z.symm), wipe_get σ vs j]
      by_cases hm : j ∈ vs
      · rw [if_pos hm, if_pos (List.mem_cons_of_mem _ hm)]
      · rw [if_neg hm, if_neg]
        intro z
        rcases List.mem_cons.mp z with z | z
        · exact hj z
        · exact hm z
theorem setsV_len : ∀ (is : List Nat) (vs : List V) (σ : L2.St), (setsV is vs σ).length = σ.length
  | [], _, _ => rfl
  | _ :: _, [], _ => rfl
  | i :: is, d :: ds, r => (setsV_len is ds _).trans List.length_set
theorem setsV_ne : ∀ (is : List Nat) (vs : List V) (σ : L2.St) (j : Nat), j ∉ is → (setsV is vs σ)[j]? = σ[j]?
  | [], _, _, _, _ => rfl
  | _ :: _, [], _, _, _ => rfl
  | i :: is, d :: ds, r, j, h => by
    rw [setsV, setsV_ne is ds _ j fun z => h (List.mem_cons_of_mem _ z), List.getElem?_set_ne fun z => h (by rw [z]; exact List.mem_cons_self)]
theorem wipe_sets (is : List Nat) (vs : List V) (σ : L2.St) : wipe (setsV is vs (wipe σ is)) is = wipe σ is := by
  apply List.ext_getElem?
  intro j
  rw [wipe_get, wipe_get]
  by_cases hj : j ∈ is
  · rw [if_pos hj, if_pos hj]
    by_cases hl : j < σ.length
    · rw [List.getElem?_eq_getElem (l := setsV is vs (wipe σ is)) (by rw [setsV_len, wipe_length]; exact hl), List.getElem?_eq_getElem hl]
      rfl
    · rw [List.getElem?_eq_none (by rw [setsV_len, wipe_length]; omega), List.getElem?_eq_none (by omega)]
  · rw [if_neg hj, if_neg hj, setsV_ne is vs _ j hj, wipe_get, if_neg hj]
theorem kill_get : ∀ (is : List Nat) (ρ : Env) (j : Nat), j ∉ is → (kill is ρ)[j]? = ρ[j]?
  | [], _, _, _ => rfl
  | i :: is, ρ, j, h => by
    rw [kill, kill_get is _ j fun z => h (List.mem_cons_of_mem _ z), List.getElem?_set_ne fun z => h (by rw [z]; exact List.mem_cons_self)]
theorem kill_in : ∀ (is : List Nat) (ρ : Env) (j : Nat) (d : D), j ∈ is → (kill is ρ)[j]? ≠ some (some d)
  | [], _, _, _, h => by cases h
  | i :: is, ρ, j, d, h => by
    rw [kill]
    by_cases hj : j ∈ is
    · exact kill_in is _ j d hj
    · rw [kill_get is _ j hj]
      rcases List.mem_cons.mp h with rfl | h
      · by_cases hl : j < ρ.length
        · rw [List.getElem?_set_self hl]
          intro z
          cases z
        · rw [List.getElem?_eq_none (by rw [List.length_set]; omega)]
          intro z
          cases z
      · exact absurd h hj
section
variable {X : Cx} {W : WX} {C : Cfg} {ow ow' ow1 ow2 : List Nat} {k k1 k2 k3 : Kd} {e a b c tg elt : Expr} {st : Stmt} {sts sts2 : List Stmt} {den d1 d2 : Env → R D} {f g : Env → Out} {pos p2 : Pos}
theorem On.wiped {σ : L2.St} {ρ : Env} {H : Hp} {As : Nat → List Addr} (is : List Nat) (S : On X ow σ ρ H As) (h : ∀ i ∈ ow2, i ∈ ow) : ∃ As', On X ow2 (wipe σ is) (kill is ρ) H As' ∧ ∀ j, As' j = As j ∨ As' j = [] := by
  obtain ⟨H0, M0, pn, S⟩ := S
  obtain ⟨As', S', h1, h2⟩ := Sta.kills is S
  refine ⟨As', ⟨H0, M0, fun _ => none, S'.fr, fun i d e => ?_, S'.dead, fun i hi => S'.nd i (h i hi), fun i hi => S'.new i (h i hi), fun i hi => S'.sep i (h i hi), by rw [wipe_length]; exact S'.len, fun j v z => by cases z⟩, h1⟩
  obtain ⟨v, e1, e2⟩ := S'.rep i d e
  have ni : i ∉ is := fun z => kill_in is ρ i d z e
  exact ⟨v, by rw [wipe_get, if_neg ni]; exact e1, rep_less e2 fun z => contains_mem.mpr (h i (contains_mem.mp z))⟩
def R.nox {α : Type} (r : R α) : R α := match r with
  | .exc _ => .stk
  | r => r
/-- a comprehension's turns -/
def compGo (is : List Nat) (t : D → Option (List D)) (c : Env → R Bool) (elt : Env → R D) (r : Env) : List D → R (List D)
  | [] => .ok []
  | x :: xs => match t x with
    | none => .stk
    | some ds => ((c (setsD is ds r)).nox).bind fun b => if b = true then (((elt (setsD is ds r)).nox).bind fun y => (compGo is t c elt r xs).bind fun ys => .ok (y :: ys)) else compGo is t c elt r xs
def compE (is : List Nat) (t : D → Option (List D)) (items : Env → R (List D)) (c : Env → R Bool) (elt : Env → R D) : Env → R D := fun r => (items r).bind fun xs => if xs.length ≤ sizeLine then (compGo is t c elt (kill is r) xs).bind fun ys => .ok (.list ys) else .stk
def yesT : Env → R Bool := fun _ => .ok true
abbrev noW : WX := fun _ _ _ _ => False
theorem blk_pe {scope : Scope} {el : Env → R D} (h : ∀ (s : Shared) (H : Hp) (C : Addr) (cl : List (Str × Addr)) (fp : List Addr), DE (X.blk s H scope (compEnvC scope cl C X.env) fp) noW ow2 k e el) :
    ∃ te, (∀ (s : Shared) (H : Hp) (C : Addr) (cl : List (Str × Addr)) (fp : List Addr), PE (X.blk s H scope (compEnvC scope cl C X.env) fp) e te) ∧ ∀ σ ρ H As Q, On X ow2 σ ρ H As → Good X noW σ ow2 k H As (el ρ) Q → te σ H Q := by
  refine ⟨fun σ H Q => ∀ (s : Shared) (H' : Hp) (C : Addr) (cl : List (Str × Addr)) (fp : List Addr) (pins : List (Addr × Obj)) (s' : Shared), Inv (X.blk s H' scope (compEnvC scope cl C X.env) fp) pins σ H s' →
    wpAny (model X.prog X.w) X.A (eval e (compEnvC scope cl C X.env)) (EP (X.blk s H' scope (compEnvC scope cl C X.env) fp) pins σ Q) (fun _ _ => False) s', fun s H C cl fp => ⟨fun pins s' σ H' Q I q => q s H C cl fp pins s' I⟩, fun σ ρ H As Q S g s H' C cl fp pins s' I => ?_⟩
  obtain ⟨te, p, q⟩ := h s H' C cl fp
  exact p.run pins s' σ H Q I (q σ ρ H As Q S g)
theorem blk_pts {scope : Scope} {el : Env → R Bool} (h : ∀ (s : Shared) (H : Hp) (C : Addr) (cl : List (Str × Addr)) (fp : List Addr), DT (X.blk s H scope (compEnvC scope cl C X.env) fp) noW ow2 e el) :
    ∃ tt, (∀ (s : Shared) (H : Hp) (C : Addr) (cl : List (Str × Addr)) (fp : List Addr), PTs (X.blk s H scope (compEnvC scope cl C X.env) fp) [e] tt) ∧ ∀ σ ρ H As Q, On X ow2 σ ρ H As → GoodT X noW σ H (el ρ) Q → tt σ H Q := by
  refine ⟨fun σ H Q => ∀ (s : Shared) (H' : Hp) (C : Addr) (cl : List (Str × Addr)) (fp : List Addr) (pins : List (Addr × Obj)) (s' : Shared), Inv (X.blk s H' scope (compEnvC scope cl C X.env) fp) pins σ H s' →
    wpAny (model X.prog X.w) X.A (forIn [e] true fun c r => if r = true then do let ok ← isTrue c (compEnvC scope cl C X.env) (eval c (compEnvC scope cl C X.env)); pure (ForInStep.yield ok) else pure (ForInStep.yield r)) (TP (X.blk s H' scope (compEnvC scope cl C X.env) fp) pins σ Q) (fun _ _ => False) s', fun s H C cl fp => ⟨fun pins s' σ H' Q I q => q s H C cl fp pins s' I⟩, fun σ ρ H As Q S g s H' C cl fp pins s' I => ?_⟩
  obtain ⟨te, p, q⟩ := h s H' C cl fp
  exact (pts_one p).run pins s' σ H Q I (q σ ρ H As Q S g)
theorem blk_pts0 {scope : Scope} : ∃ tt, (∀ (s : Shared) (H : Hp) (C : Addr) (cl : List (Str × Addr)) (fp : List Addr), PTs (X.blk s H scope (compEnvC scope cl C X.env) fp) [] tt) ∧ ∀ σ ρ H As Q, On X ow2 σ ρ H As → GoodT X noW σ H (yesT ρ) Q → tt σ H Q :=
  ⟨_, fun _ _ _ _ _ => pts_nil, fun σ ρ H As Q S g => g H (Same.refl H)⟩
theorem blk_pg {scope : Scope} {is : List Nat} {t : D → Option (List D)} (h : ∀ (s : Shared) (H : Hp) (C : Addr) (cl : List (Str × Addr)) (fp : List Addr), DG (X.blk s H scope (compEnvC scope cl C X.env) fp) is tg t) :
    ∃ gt, (∀ (s : Shared) (H : Hp) (C : Addr) (cl : List (Str × Addr)) (fp : List Addr), PG (X.blk s H scope (compEnvC scope cl C X.env) fp) tg gt) ∧ ∀ H o v d A σ Q, Rep X.K X.mg H o v d A → (match t d with
    | some ds => ∀ vs, RepL X.K X.mg H o vs ds A → vs.length = is.length → Q (setsV is vs σ) H
    | none => False) → gt v σ H Q := by
  refine ⟨fun v σ H Q => ∀ (s : Shared) (H' : Hp) (C : Addr) (cl : List (Str × Addr)) (fp : List Addr) (pins : List (Addr × Obj)) (s' : Shared) (u : Value), Inv (X.blk s H' scope (compEnvC scope cl C X.env) fp) pins σ H s' → RelV v u →
    wpAny (model X.prog X.w) X.A (assign tg (compEnvC scope cl C X.env) u) (fun _ s'' => ∃ σ' H1, Inv (X.blk s H' scope (compEnvC scope cl C X.env) fp) pins σ' H1 s'' ∧ Q σ' H1) (fun _ _ => False) s', fun s H C cl fp => ⟨fun pins s' σ H' v u Q I r q => q s H C cl fp pins s' u I r⟩, fun H o v d A σ Q r z s H' C cl fp pins s' u I ru => ?_⟩
  obtain ⟨gt, p, q⟩ := h s H' C cl fp
  exact p.run pins s' σ H v u Q I ru (q H o v d A σ Q r z)
/-- what a comprehension's loop keeps -/
def Cmp (X : Cx) (H1 : Hp) (Dd : Addr) (ds : List D) (H : Hp) : Prop := Same H1 H ∧ ∃ acc A, H Dd = some (.lst acc) ∧ RepL X.K X.mg H true acc ds A ∧ A.Nodup ∧ ∀ a ∈ A, H1 a = none ∧ a ≠ Dd
theorem compGo_len {is : List Nat} {t : D → Option (List D)} {c : Env → R Bool} {elt : Env → R D} {r : Env} : ∀ {xs ys : List D}, compGo is t c elt r xs = .ok ys → ys.length ≤ xs.length
  | [], ys, h => by
    cases h
    exact Nat.le_refl _
  | x :: xs, ys, h => by
    unfold compGo at h
    cases ht : t x with
    | none =>
      rw [ht] at h
      cases h
    | some ds =>
      rw [ht] at h
      dsimp only at h
      cases hc : (c (setsD is ds r)).nox with
      | stk =>
        rw [hc] at h
        cases h
      | exc x =>
        rw [hc] at h
        cases h
      | ok b =>
        rw [hc, R.bind_ok] at h
        cases b with
        | false =>
          rw [if_neg Bool.false_ne_true] at h
          exact Nat.le_succ_of_le (compGo_len h)
        | true =>
          rw [if_pos rfl] at h
          cases he : (elt (setsD is ds r)).nox with
          | stk =>
            rw [he] at h
            cases h
          | exc x =>
            rw [he] at h
            cases h
          | ok y =>
            rw [he, R.bind_ok] at h
            cases hg : compGo is t c elt r xs with
            | stk =>
              rw [hg] at h
              cases h
            | exc x =>
              rw [hg] at h
              cases h
            | ok zs =>
              rw [hg, R.bind_ok] at h
              cases h
              exact Nat.succ_le_succ (compGo_len hg)
theorem nox_good {σ : L2.St} {H : Hp} {As : Nat → List Addr} {r : R D} {Q : VK} (h : match r.nox with
    | .ok d => ∀ v H' A, Same H H' → Rep X.K X.mg H' k.isOwn v d A → k.Ok ow H As A → Q v H'
    | _ => False) : Good X noW σ ow k H As r Q := by
  cases r with
  | ok d => exact h
  | exc x => exact h.elim
  | stk => exact h
theorem nox_goodT {σ : L2.St} {H : Hp} {r : R Bool} {Q : Bool → Hp → Prop} (h : match r.nox with
    | .ok b => ∀ H', Same H H' → Q b H'
    | _ => False) : GoodT X noW σ H r Q := by
  cases r with
  | ok d => exact h
  | exc x => exact h.elim
  | stk => exact h
theorem comp_run {items : Env → R (List D)} {is ss : List Nat} {t : D → Option (List D)} {c : Env → R Bool} {el : Env → R D} {wi : TI} {gt : TG} {tt : TT} {te : TE}
    (qi : ∀ σ ρ H As Q, On X ow σ ρ H As → GoodI X W σ ow ss H As (items ρ) Q → wi σ H Q)
    (qg : ∀ H o v d A σ Q, Rep X.K X.mg H o v d A → (match t d with
      | some ds => ∀ vs, RepL X.K X.mg H o vs ds A → vs.length = is.length → Q (setsV is vs σ) H
      | none => False) → gt v σ H Q)
    (qt : ∀ σ ρ H As Q, On X ow2 σ ρ H As → GoodT X noW σ H (c ρ) Q → tt σ H Q)
    (qe : ∀ σ ρ H As Q, On X ow2 σ ρ H As → Good X noW σ ow2 (.own []) H As (el ρ) Q → te σ H Q)
    (h1 : subL ow2 ow = true) (h2 : disL ow2 ss = true) (h3 : disL ow2 is = true)
    {σ : L2.St} {ρ : Env} {H : Hp} {As : Nat → List Addr} {Q : VK} (S : On X ow σ ρ H As) (z : Good X W σ ow (.own []) H As (compE is t items c el ρ) Q) : tLc wi gt tt te is σ H Q := by
  refine qi σ ρ H As _ S ?_
  unfold compE at z
  cases hd : items ρ with
  | stk =>
    rw [hd] at z
    exact z
  | exc x =>
    rw [hd] at z
    exact z
  | ok xs =>
    rw [hd, R.bind_ok] at z
    intro J H1 A sm it ok old Dd hD
    by_cases hz : xs.length ≤ sizeLine
    · rw [if_pos hz] at z
      cases hg : compGo is t c el (kill is ρ) xs with
      | stk =>
        rw [hg] at z
        exact z.elim
      | exc x =>
        -- no exception comes out
        exfalso
        clear z
        have no : ∀ (xs : List D) x, compGo is t c el (kill is ρ) xs ≠ .exc x := by
          intro xs
          induction xs with
          | nil =>
            intro x h
            cases h
          | cons y ys ih =>
            intro x h
            unfold compGo at h
            cases ht : t y with
            | none =>
              rw [ht] at h
              cases h
            | some ds =>
              rw [ht] at h
              dsimp only at h
              cases hc : c (setsD is ds (kill is ρ)) with
              | stk =>
                rw [hc] at h
                cases h
              | exc x =>
                rw [hc] at h
                cases h
              | ok b =>
                rw [hc] at h
                cases b with
                | false => exact ih x h
                | true =>
                  change R.bind (R.nox (el (setsD is ds (kill is ρ)))) _ = _ at h
                  cases he : el (setsD is ds (kill is ρ)) with
                  | stk =>
                    rw [he] at h
                    cases h
                  | exc x =>
                    rw [he] at h
                    cases h
                  | ok y =>
                    rw [he] at h
                    cases hh : compGo is t c el (kill is ρ) ys with
                    | stk =>
                      rw [hh] at h
                      cases h
                    | exc x => exact ih x hh
                    | ok zs =>
                      rw [hh] at h
                      cases h
        exact no xs x hg
      | ok ys =>
        rw [hg, R.bind_ok] at z
        have S1 := S.same sm
        have sm0 : Same H1 (upd H1 Dd (.lst [])) := same_upd hD
        -- the turns
        refine ⟨fun i m H' => i + m = xs.length ∧ ∃ us, Cmp X H1 Dd us H' ∧ us.length ≤ i ∧ ∃ rest, compGo is t c el (kill is ρ) (xs.drop i) = .ok rest ∧ us ++ rest = ys, ⟨xs.length, by omega, [], ⟨sm0, [], [], upd_same, .nil, List.nodup_nil, fun a ha => by cases ha⟩, Nat.le_refl _, ys, hg, rfl⟩, fun i m H' hW => ?_⟩
        obtain ⟨em, us, ⟨smD, acc, Aa, hacc, racc, nda, nwa⟩, hlen, rest, hrest, hall⟩ := hW
        have f0 : Fr (fun _ => False) H1 H' := Fr.of_same smD
        by_cases hl : i < xs.length
        · refine .inr ⟨it.go _ _ i f0 (fun _ _ w => w) hl, fun H2 => ∃ us, Cmp X H1 Dd us H2 ∧ us.length ≤ i + 1 ∧ ∃ rest, compGo is t c el (kill is ρ) (xs.drop (i + 1)) = .ok rest ∧ us ++ rest = ys, fun H2 hN => ?_, fun x H2 hy => ?_⟩
          · obtain ⟨us', c1, c2, c3⟩ := hN
            exact ⟨m - 1, by omega, by omega, us', c1, c2, c3⟩
          · obtain ⟨s2, hr⟩ := it.yld _ _ i x H2 f0 (fun _ _ w => w) hy
            obtain ⟨B, rB, hB⟩ := hr _ (List.getElem?_eq_getElem hl)
            refine qg H2 false x xs[i] B (wipe σ is) _ rB ?_
            rw [List.drop_eq_getElem_cons hl, compGo] at hrest
            cases ht : t xs[i] with
            | none =>
              rw [ht] at hrest
              cases hrest
            | some ds =>
              rw [ht] at hrest
              dsimp only at hrest
              intro vs rl hvl
              refine ⟨wipe_sets is vs σ, ?_⟩
              -- the block's state
              obtain ⟨As2, S2, hA2⟩ := On.wiped is ((S1.same smD).same s2) (subL_mem h1)
              have S3 : ∃ As3, On X ow2 (setsV is vs (wipe σ is)) (setsD is ds (kill is ρ)) H2 As3 := by
                obtain ⟨G0, M0, pn, T⟩ := S2
                have T' : Sta X.K X.mg G0 M0 (fun _ => none) ow2 (wipe σ is) (kill is ρ) H2 As2 := ⟨T.fr, T.rep, T.dead, T.nd, T.new, T.sep, T.len, fun j v w => by cases w⟩
                obtain ⟨As3, T3⟩ := Sta.putsB is rl hvl T' (fun _ _ => rfl) (disL_mem h3) (fun j hj a ha hb => by
                  rcases hA2 j with e | e
                  · rw [e] at ha
                    exact ok j (subL_mem h1 j hj) (disL_mem h2 j hj) a ha (hB a hb)
                  · rw [e] at ha
                    cases ha)
                exact ⟨As3, G0, M0, _, T3⟩
              obtain ⟨As3, S3⟩ := S3
              refine qt _ _ H2 As3 _ S3 (nox_goodT ?_)
              cases hc : (c (setsD is ds (kill is ρ))).nox with
              | stk =>
                rw [hc] at hrest
                cases hrest
              | exc x =>
                rw [hc] at hrest
                cases hrest
              | ok b =>
                rw [hc, R.bind_ok] at hrest
                intro H3 s3
                cases b with
                | false =>
                  rw [if_neg Bool.false_ne_true] at hrest
                  refine iteF ⟨us, ⟨smD.trans (s2.trans s3), acc, Aa, s3 _ _ (s2 _ _ hacc), (racc.same s2).same s3, nda, nwa⟩, Nat.le_succ_of_le hlen, rest, hrest, hall⟩
                | true =>
                  rw [if_pos rfl] at hrest
                  refine iteT (qe _ _ H3 As3 _ (S3.same s3) (nox_good ?_))
                  cases he : (el (setsD is ds (kill is ρ))).nox with
                  | stk =>
                    rw [he] at hrest
                    cases hrest
                  | exc x =>
                    rw [he] at hrest
                    cases hrest
                  | ok y =>
                    rw [he, R.bind_ok] at hrest
                    cases hgo : compGo is t c el (kill is ρ) (xs.drop (i + 1)) with
                    | stk =>
                      rw [hgo] at hrest
                      cases hrest
                    | exc x =>
                      rw [hgo] at hrest
                      cases hrest
                    | ok zs =>
                      rw [hgo, R.bind_ok] at hrest
                      cases hrest
                      intro v H4 A4 s4 r4 k4
                      have hD4 : H4 Dd = some (.lst acc) := s4 _ _ (s3 _ _ (s2 _ _ hacc))
                      have f4 : Fr (fun a => a = Dd) H4 (upd H4 Dd (.lst (acc ++ [v]))) := fun a o h hm => by
                        by_cases e : a = Dd
                        · subst e
                          rw [hD4] at h
                          cases h
                          exact absurd rfl (hm rfl)
                        · rw [upd_ne e]
                          exact h
                      have n4 : ∀ a ∈ A4, H3 a = none := fun a ha => (k4.2.2 a ha).resolve_right fun ⟨j, hj, _⟩ => by cases hj
                      have dD : ∀ a ∈ A4, a ≠ Dd := fun a ha e => by
                        have := n4 a ha
                        rw [e, s3 _ _ (s2 _ _ hacc)] at this
                        cases this
                      refine ⟨acc, hD4, ?_, us ++ [y], ⟨fun a o h => ?_, acc ++ [v], Aa ++ A4, upd_same, ?_, ?_, ?_⟩, ?_, zs, rfl, ?_⟩
                      · have := racc.len
                        omega
                      · have h4 := s4 _ _ (s3 _ _ (s2 _ _ (smD a o h)))
                        rw [upd_ne (ne_of_none h hD)]
                        exact h4
                      · have r1 := (((racc.same s2).same s3).same s4).fr f4 fun a ha => (nwa a ha).2
                        have r2 := RepL.one (r4.fr f4 dD)
                        exact r1.app r2
                      · refine List.nodup_append.mpr ⟨nda, k4.1, fun a ha b hb e => ?_⟩
                        subst e
                        have := n4 a hb
                        exact ((racc.same s2).same s3).old ha this
                      · intro a ha
                        rcases List.mem_append.mp ha with w | w
                        · exact nwa a w
                        · exact ⟨(smD.trans (s2.trans s3)).free (n4 a w), dD a w⟩
                      · rw [List.length_append, List.length_singleton]
                        omega
                      · rw [List.append_assoc]
                        exact hall
        · have ei : i = xs.length := by omega
          subst ei
          refine .inl ⟨it.stop _ _ f0 (fun _ _ w => w), ?_⟩
          rw [List.drop_length, compGo] at hrest
          cases hrest
          rw [List.append_nil] at hall
          subst hall
          refine z _ H' (Dd :: Aa) (sm.trans smD) (.lst hacc racc) ⟨List.nodup_cons.mpr ⟨fun w => (nwa _ w).2 rfl, nda⟩, (fun _ w => by cases w), fun a ha => .inl ?_⟩
          rcases List.mem_cons.mp ha with rfl | w
          · exact sm.free hD
          · exact sm.free (nwa a w).1
    · rw [if_neg hz] at z
      exact z.elim
theorem de_comp {items : Env → R (List D)} {ss : List Nat} {is : List Nat} {own : List (Str × Nat)} {t : D → Option (List D)} {c : Env → R Bool} {el : Env → R D} {scope : Scope} {iter : Expr} {ifs : List Expr} (ow2 : List Nat) (hc : X.calm = true) (hN : X.N.Nodup) (hi : DI X W ow ss tg iter items) (ok : BlkOk X.N X.env.scope scope own) (his : own.map (·.2) = is)
    (hg : ∀ (s : Shared) (H : Hp) (C : Addr) (cl : List (Str × Addr)) (fp : List Addr), DG (X.blk s H scope (compEnvC scope cl C X.env) fp) is tg t)
    (ht : ∃ tt, (∀ (s : Shared) (H : Hp) (C : Addr) (cl : List (Str × Addr)) (fp : List Addr), PTs (X.blk s H scope (compEnvC scope cl C X.env) fp) ifs tt) ∧ ∀ σ ρ H As Q, On X ow2 σ ρ H As → GoodT X noW σ H (c ρ) Q → tt σ H Q)
    (he : ∀ (s : Shared) (H : Hp) (C : Addr) (cl : List (Str × Addr)) (fp : List Addr), DE (X.blk s H scope (compEnvC scope cl C X.env) fp) noW ow2 (.own []) elt el)
    (h1 : subL ow2 ow = true := by rfl) (h2 : disL ow2 ss = true := by rfl) (h3 : disL ow2 is = true := by rfl) (hs : ∀ x, foldedSetIterable iter X.env x = pure x := by intro _; rfl) : DE X W ow (.own []) (.ListComp elt [⟨tg, iter, ifs, 0⟩] scope pos) (compE is t items c el) := by
  obtain ⟨wi, pi, qi⟩ := hi
  obtain ⟨gt, pg, qg⟩ := blk_pg hg
  obtain ⟨tt, pt, qt⟩ := ht
  obtain ⟨te, pe, qe⟩ := blk_pe he
  subst his
  exact ⟨_, pe_lc hc hN pi ok pg pt pe hs, fun σ ρ H As Q S z => comp_run qi qg qt qe h1 h2 h3 S z⟩
end
end Dg

namespace Dg
open PySem PySem.Spec PyProof.Rows L2
section
variable {X : Cx} {W : WX} {C : Cfg} {ow ow' ow1 ow2 : List Nat} {k k1 k2 k3 : Kd} {e a b c tg elt : Expr} {st : Stmt} {sts sts2 : List Stmt} {den d1 d2 : Env → R D} {f g : Env → Out} {pos p2 : Pos}
theorem asg_run {is ms : List Nat} {t : D → Option (List D)} {te : TE} {gt : TG} (q : ∀ σ ρ H As Q, On X ow σ ρ H As → Good X W σ ow (.own ms) H As (den ρ) Q → te σ H Q)
    (qg : ∀ H o v d A σ Q, Rep X.K X.mg H o v d A → (match t d with
      | some ds => ∀ vs, RepL X.K X.mg H o vs ds A → vs.length = is.length → Q (setsV is vs σ) H
      | none => False) → gt v σ H Q) (hio : disL is C.io = true) (how : subL ow' (is ++ ow) = true) (hox : subL C.owx ow = true)
    {H0 : Hp} {M0 : Addr → Prop} {pn : Nat → Option V} {σ : L2.St} {ρ : Env} {H : Hp} {As : Nat → List Addr} {Dn : Ends} (hp : PinOk C pn) (S : Sta X.K X.mg H0 M0 pn ow σ ρ H As) (z : Post X W C H0 M0 pn ow' Dn (asgS ms is t den ρ)) : tAsg te gt Dn σ H := by
  refine q σ ρ H As _ ⟨H0, M0, pn, S⟩ ?_
  unfold asgS at z
  cases hd : den ρ with
  | stk =>
    rw [hd] at z
    exact z
  | exc x =>
    rw [hd] at z
    exact fun c dd H' A sm rp => z c dd σ H' As A ((S.same sm).less (subL_mem hox)) rp
  | ok d =>
    rw [hd] at z
    intro v H1 A sm rp ok
    refine qg H1 true v d A σ _ rp ?_
    dsimp only at z
    cases ht : t d with
    | none =>
      rw [ht] at z
      exact z
    | some ds =>
      rw [ht] at z
      intro vs rl hl
      obtain ⟨As1, S1, k1, k2⟩ := Sta.kills ms (S.same sm)
      have fr : ∀ a ∈ A, ∀ j, a ∉ As1 j := fun a ha j hj => by
        rcases k1 j with e | e
        · rw [e] at hj
          rcases ok.2.2 a ha with w | ⟨i, hi, w⟩
          · exact S.old hj w
          · by_cases hji : j = i
            · subst hji
              rw [k2 j hi] at e
              rw [← e] at hj
              cases hj
            · exact S.sep i (ok.2.1 i hi) j hji a w hj
        · rw [e] at hj
          cases hj
      obtain ⟨As', ow2, S', h1, h2⟩ := Sta.putsO is rl hl S1 (fun i hi => hp i (disL_mem hio i hi)) ok.1 (fun a ha => by
        rcases ok.2.2 a ha with w | ⟨i, hi, w⟩
        · exact S.was w
        · exact S.new i (ok.2.1 i hi) a w) fr
      exact z _ _ As' (S'.less fun i hi => by
        rcases List.mem_append.mp (subL_mem how i hi) with w | w
        · exact h2 i w
        · exact h1 i w)
/-- y = [e for x in it if t] -/
theorem ds_setLc {items : Env → R (List D)} {ss is : List Nat} {own : List (Str × Nat)} {t : D → Option (List D)} {c : Env → R Bool} {el : Env → R D} {scope : Scope} {iter : Expr} {ifs : List Expr} {i : Nat} {y : Str} {py spos : Pos} (ow2 : List Nat) (hc : X.calm = true) (hN : X.N.Nodup)
    (hy : X.N[i]? = some y) (hyl : X.env.scope.names.lookup y = some .local)
    (hsw : swapsWith (.ListComp elt [⟨tg, iter, ifs, 0⟩] scope pos) (some (.Name y py)) spos.line X.env = pure true)
    (hi : DI X W ow ss tg iter items) (ok : BlkOk X.N X.env.scope scope own) (his : own.map (·.2) = is)
    (hg : ∀ (s : Shared) (H : Hp) (C : Addr) (cl : List (Str × Addr)) (fp : List Addr), DG (X.blk s H scope (compEnvC scope cl C X.env) fp) is tg t)
    (ht : ∃ tt, (∀ (s : Shared) (H : Hp) (C : Addr) (cl : List (Str × Addr)) (fp : List Addr), PTs (X.blk s H scope (compEnvC scope cl C X.env) fp) ifs tt) ∧ ∀ σ ρ H As Q, On X ow2 σ ρ H As → GoodT X noW σ H (c ρ) Q → tt σ H Q)
    (he : ∀ (s : Shared) (H : Hp) (C : Addr) (cl : List (Str × Addr)) (fp : List Addr), DE (X.blk s H scope (compEnvC scope cl C X.env) fp) noW ow2 (.own []) elt el)
    (hio : disL [i] C.io = true) (how : subL ow' ([i] ++ ow) = true) (hox : subL C.owx ow = true)
    (h1 : subL ow2 ow = true := by rfl) (h2 : disL ow2 ss = true := by rfl) (h3 : disL ow2 is = true := by rfl) (hs : ∀ x, foldedSetIterable iter X.env x = pure x := by intro _; rfl) :
    DS X W C ow ow' (.Assign [.Name y py] (.ListComp elt [⟨tg, iter, ifs, 0⟩] scope pos) spos) (asgS [] [i] t1 (compE is t items c el)) := by
  obtain ⟨wi, pi, qi⟩ := hi
  obtain ⟨gt, pg, qg⟩ := blk_pg hg
  obtain ⟨tt, pt, qt⟩ := ht
  obtain ⟨te, pe, qe⟩ := blk_pe he
  subst his
  exact ⟨_, ps_setLc hc hN hy hyl hsw pi ok pg pt pe hs, fun H0 M0 pn σ ρ H As Dn hp S z => asg_run (ms := []) (is := [i]) (t := t1) (te := tLc wi gt tt te (own.map (·.2))) (gt := gName i) (fun σ ρ H As Q S z => comp_run qi qg qt qe h1 h2 h3 S z) (fun H o v d A σ Q r q => q [v] (RepL.one r) rfl) hio how hox hp S z⟩
/-! ### calls of the text's own defs -/
def spD (K : PySem.W.Frag) (mg : Str → Option Value) (n : Nat) (f : List D → R D) : Sp := fun vs H Q E => ∃ ds A, RepL K mg H false vs ds A ∧ vs.length = n ∧ (match f ds with
  | .ok d => ∀ v H' B, Same H H' → Rep K mg H' true v d B → B.Nodup → (∀ b ∈ B, H b = none) → Q v H'
  | .exc x => ∀ c dd H' B, Same H H' → RepX K mg H' c dd x B → E c dd H'
  | .stk => False)
/-- the def x stands, and does as f -/
def Cal (P : Program) (w : World) (K : PySem.W.Frag) (mg : Str → Option Value) (base : Heap) (CX : CXT) (x : Str) (k n : Nat) (f : List D → R D) : Prop :=
  ∃ (addr : Addr) (fd : FuncData) (ps : List Str), FnOk P w K mg base CX k addr fd ps (spD K mg n f) ∧ mg x = some (.ref addr) ∧ PySem.W.keepIn K (.ref addr) = true ∧ Binds K fd ps []
def callP (f : List D → R D) (g : Env → R (List D)) : Env → R D := fun ρ => (g ρ).bind fun ds => (f ds).nox
theorem sp_good {n : Nat} {es : List Expr} {g : Env → R (List D)} {f : List D → R D} {ta : TA} {E : XK} (q : ∀ σ ρ H As Q, On X ow σ ρ H As → GoodL X W σ ow k n H As (g ρ) Q → ta σ H Q)
    {σ : L2.St} {ρ : Env} {H : Hp} {As : Nat → List Addr} {Q : VK} (S : On X ow σ ρ H As) (z : Good X W σ ow (.own []) H As (callP f g ρ) Q) : tCall (spD X.K X.mg n f) [] E ta σ H Q := by
  refine q σ ρ H As _ S ?_
  unfold callP at z
  cases hd : g ρ with
  | stk =>
    rw [hd] at z
    exact z
  | exc x =>
    rw [hd] at z
    exact z
  | ok d =>
    rw [hd, R.bind_ok] at z
    intro vs H' A sm rp ok hl
    rw [List.append_nil]
    refine ⟨d, A, rp.weak, hl, ?_⟩
    cases hf : f d with
    | ok y =>
      rw [hf] at z
      exact fun v H2 B s2 r2 nd fr => z v H2 B (sm.trans s2) r2 ⟨nd, (fun _ w => by cases w), fun b hb => .inl (sm.free (fr b hb))⟩
    | exc x =>
      rw [hf] at z
      exact z.elim
    | stk =>
      rw [hf] at z
      exact z
theorem de_call {x : Str} {kk n : Nat} {f : List D → R D} {es : List Expr} {g : Env → R (List D)} {p : Pos} (h : Cal X.prog X.w X.K X.mg X.base CX0 x kk n f) (hr : Room kk X.A) (ha : DA X W ow k n (e :: es) g) (hg : Gl X x := by rfl)
    (hdb : (x == ("__debug__" : Str)) = false := by decide) (he : starEach (e :: es) X.env = (false, eval e X.env) :: starEach es X.env := by rfl) (hpl : (backTo pos (starEach es X.env)).any (·.1) = false := by rfl) : DE X W ow (.own []) (.Call (.Name x p) (e :: es) [] pos) (callP f g) := by
  obtain ⟨addr, fd, ps, F, hm, hk, hb⟩ := h
  obtain ⟨ta, pa, q⟩ := ha
  exact ⟨_, pe_call F hr hg hm hk hb .nil pass0 pa hdb he hpl, fun σ ρ H As Q S z => sp_good (es := es) q S z⟩
/-! ### a def's body -/
def startD (n : Nat) (ds : List D) : Env := ds.map some ++ List.replicate (n - ds.length) none
def outR (o : Out) : R D := match o with
  | .nx _ => .ok .none
  | .ret d _ => .ok d
  | .exc x _ => .exc x
  | _ => .stk
def runF (n : Nat) (den : Env → Out) : List D → R D := fun ds => outR (den (startD n ds))
theorem repL_as {K : PySem.W.Frag} {mg : Str → Option Value} {H : Hp} {o : Bool} : ∀ {vs : List V} {ds : List D} {A : List Addr}, RepL K mg H o vs ds A → ∃ As : Nat → List Addr, (∀ i d, ds[i]? = some d → ∃ v, vs[i]? = some v ∧ Rep K mg H o v d (As i)) ∧ ∀ i, ds.length ≤ i → As i = []
  | _, _, _, .nil => ⟨fun _ => [], (fun i d h => by simp at h), (fun _ _ => rfl)⟩
  | _, _, _, .cons (v := v) (d := d) (A := A) h r => by
    obtain ⟨As, h1, h2⟩ := repL_as r
    refine ⟨fun i => match i with
      | 0 => A
      | i + 1 => As i, fun i e he => ?_, fun i hi => ?_⟩
    · cases i with
      | zero =>
        simp at he
        subst he
        exact ⟨v, rfl, h⟩
      | succ i => exact h1 i e (by simpa using he)
    · cases i with
      | zero => simp at hi
      | succ i => exact h2 i (by simpa using hi)
theorem start_sta {K : PySem.W.Frag} {mg : Str → Option Value} {H : Hp} {N : List Str} {vs : List V} {ds : List D} {A : List Addr} (r : RepL K mg H false vs ds A) : ∃ As, Sta K mg H (fun _ => False) (fun _ => none) [] (start N vs) (startD N.length ds) H As := by
  obtain ⟨As, h1, h2⟩ := repL_as r
  have hl := r.len
  refine ⟨As, Fr.refl _ _, fun i d e => ?_, fun i h => ?_, (fun i hi => by cases hi), (fun i hi => by cases hi), (fun i hi => by cases hi), ?_, (fun j v z => by cases z)⟩
  · unfold startD at e
    by_cases hi : i < ds.length
    · rw [List.getElem?_append_left (by rw [List.length_map]; exact hi), List.getElem?_map] at e
      cases he : ds[i]? with
      | none =>
        rw [he] at e
        cases e
      | some d' =>
        rw [he] at e
        cases e
        obtain ⟨v, hv, rv⟩ := h1 i d he
        refine ⟨v, ?_, rv⟩
        unfold L2.start
        rw [List.getElem?_append_left (by rw [List.length_map, hl]; exact hi), List.getElem?_map, hv]
        rfl
    · rw [List.getElem?_append_right (by rw [List.length_map]; omega), List.getElem?_replicate] at e
      split at e <;> cases e
  · refine h2 i ?_
    by_cases hi : i < ds.length
    · exfalso
      refine h ds[i] ?_
      unfold startD
      rw [List.getElem?_append_left (by rw [List.length_map]; exact hi), List.getElem?_map, List.getElem?_eq_getElem hi]
      rfl
    · omega
  · unfold L2.start startD
    simp [hl]
theorem fn_pure {P : Program} {w : World} {K : PySem.W.Frag} {mg : Str → Option Value} {base : Heap} {x qual : Str} {st : Stmt} {fa : Addr} {fd : FuncData} {N ps : List Str} {kk : Nat} {den : Env → Out} (F : Fun K x qual st fa fd) (S : FnScope N ps (defScope st))
    (hb : ∀ (cdv : Value) (A : Around) (outer : List PySem.Env) (s : Shared) (H : Hp) (E : XK), Room kk (A.deeper (envOfC qual (defScope st) s.heap.objs.size fa cdv)) → ∃ ow', DSs (cxOf CX0 P w K mg base N qual (defScope st) fa cdv A outer s H E).nox noW ⟨[], [], []⟩ [] ow' (defBody st) den) :
    FnOk P w K mg base CX0 (kk + 1) fa fd ps (spD K mg ps.length fun ds => (runF N.length den ds).nox) := by
  refine F.ok S (fun vs H Q E h => ?_) (fun cdv A outer s H vs Q E hr h => ?_)
  · obtain ⟨ds, A, _, hl, _⟩ := h
    exact hl
  · obtain ⟨ds, A', r, hl, z⟩ := h
    obtain ⟨ow', ts, p, q⟩ := hb cdv A outer s H E hr
    refine ⟨ts, p, ?_⟩
    obtain ⟨As, S0⟩ := start_sta (N := N) r
    refine q H _ _ _ _ H As _ (fun _ _ => rfl) S0 ?_
    dsimp only at z
    unfold runF at z
    cases hd : den (startD N.length ds) with
    | nx r =>
      rw [hd] at z
      exact fun σ' H' As' S' => z .non H' [] (fun a o h => S'.fr a o h fun _ => id) .non List.nodup_nil fun b hb => by cases hb
    | ret d r =>
      rw [hd] at z
      exact fun v σ' H' As' A' S' rp nd fr => z v H' A' (fun a o h => S'.fr a o h fun _ => id) rp nd fun b hb => (fr b hb).1.resolve_right id
    | brk r =>
      rw [hd] at z
      exact z.elim
    | cnt r =>
      rw [hd] at z
      exact z.elim
    | exc x r =>
      rw [hd] at z
      exact z.elim
    | stk =>
      rw [hd] at z
      exact z
theorem fn_ok {P : Program} {w : World} {K : PySem.W.Frag} {mg : Str → Option Value} {base : Heap} {x qual : Str} {st : Stmt} {fa : Addr} {fd : FuncData} {N ps : List Str} {kk n m : Nat} {den : Env → Out} {f : List D → R D} (F : Fun K x qual st fa fd) (S : FnScope N ps (defScope st))
    (hf : ∀ ds, f ds = (runF n den ds).nox) (hn : N.length = n) (hm : ps.length = m)
    (hb : ∀ (cdv : Value) (A : Around) (outer : List PySem.Env) (s : Shared) (H : Hp) (E : XK), Room kk (A.deeper (envOfC qual (defScope st) s.heap.objs.size fa cdv)) → ∃ ow', DSs (cxOf CX0 P w K mg base N qual (defScope st) fa cdv A outer s H E).nox noW ⟨[], [], []⟩ [] ow' (defBody st) den) :
    FnOk P w K mg base CX0 (kk + 1) fa fd ps (spD K mg m f) := by
  subst hn hm
  have e : f = fun ds => (runF N.length den ds).nox := funext hf
  rw [e]
  exact fn_pure F S hb
/-- the law's own promise, from what its den comes to -/
theorem law_sp {K : PySem.W.Frag} {mg : Str → Option Value} {f : List D → R D} {H : Hp} {a : Addr} {ns : List Int} (h : Lf K H a (ns.map V.int)) (hf : f [.dict [(.none, .list (ns.map .int))]] = .ok (.bool true)) : spD K mg 1 f [.ref a] H (fun v _ => v = .bl true) fun _ _ _ => False := by
  have l : RepL K mg H false (ns.map V.int) (ns.map PyData.int) [] := by
    clear hf h
    induction ns with
    | nil => exact .nil
    | cons n ns ih => exact .cons (A := []) (B := []) (.int n) ih
  refine ⟨_, [], RepL.one (.lstF h l), rfl, ?_⟩
  rw [hf]
  intro v H' B sm r nd fr
  cases r
  rfl
end
end Dg

namespace Dg
open PySem PySem.Spec PyProof.Rows L2
section
variable {X : Cx} {W : WX} {C : Cfg} {ow ow' ow1 ow2 : List Nat} {k k1 k2 k3 k4 : Kd} {e a b c d o tg elt : Expr} {st : Stmt} {sts sts2 : List Stmt} {den d1 d2 d3 d4 : Env → R D} {f g : Env → Out} {pos p2 : Pos}
theorem CallR.or2 {v : Value} {r r' : List V → Hp → VK → Prop} (h : CallR X v r) (h' : CallR X v r') : CallR X v (fun x H Q => r x H Q ∨ r' x H Q) := by
  intro pins s σ H xs us Q I rx q
  rcases q with q | q
  · exact h pins s σ H xs us Q I rx q
  · exact h' pins s σ H xs us Q I rx q
/-! ### chains of comparisons -/
def ch3 (g g' : D → D → R D) (f1 f2 f3 : Env → R D) : Env → R D := fun ρ => (f1 ρ).bind fun x => (f2 ρ).bind fun y => (g x y).bind fun q => match q with
  | .bool true => (f3 ρ).bind fun z => g' y z
  | .bool false => .ok (.bool false)
  | _ => .stk
theorem ch_good {g1 g2 : D → D → R D} {ta tb tc : TE} {r r' : R2} (q1 : ∀ σ ρ H As Q, On X ow σ ρ H As → Good X W σ ow k1 H As (d1 ρ) Q → ta σ H Q) (q2 : ∀ σ ρ H As Q, On X ow σ ρ H As → Good X W σ ow k2 H As (d2 ρ) Q → tb σ H Q)
    (q3 : ∀ σ ρ H As Q, On X ow σ ρ H As → Good X W σ ow k3 H As (d3 ρ) Q → tc σ H Q) (hg1 : ∀ x y z, g1 x y ≠ .exc z) (hr1 : ∀ H x y dx dy A B Q, Rep X.K X.mg H false x dx A → Rep X.K X.mg H false y dy B → Fresh X H (g1 dx dy) Q → r x y H Q)
    (hg2 : ∀ x y z, g2 x y ≠ .exc z) (hr2 : ∀ H x y dx dy A B Q, Rep X.K X.mg H false x dx A → Rep X.K X.mg H false y dy B → Fresh X H (g2 dx dy) Q → r' x y H Q)
    {σ : L2.St} {ρ : Env} {H : Hp} {As : Nat → List Addr} {Q : VK} (S : On X ow σ ρ H As) (z : Good X W σ ow (.own []) H As (ch3 g1 g2 d1 d2 d3 ρ) Q) : tChain r r' ta tb tc σ H Q := by
  refine q1 σ ρ H As _ S ?_
  unfold ch3 at z
  cases e1 : d1 ρ with
  | stk =>
    rw [e1] at z
    exact z
  | exc x =>
    rw [e1] at z
    exact z
  | ok dx =>
    rw [e1, R.bind_ok] at z
    intro x H1 A s1 rx _
    refine q2 σ ρ H1 As _ (S.same s1) ?_
    cases e2 : d2 ρ with
    | stk =>
      rw [e2] at z
      exact z
    | exc x =>
      rw [e2] at z
      exact fun c dd H' B sm rp => z c dd H' B (s1.trans sm) rp
    | ok dy =>
      rw [e2, R.bind_ok] at z
      intro y H2 B s2 ry _
      refine hr1 H2 x y dx dy A B _ (rx.weak.same s2) ry.weak ?_
      cases e3 : g1 dx dy with
      | stk =>
        rw [e3] at z
        exact z
      | exc x => exact absurd e3 (hg1 _ _ _)
      | ok q =>
        rw [e3, R.bind_ok] at z
        intro v H3 A3 s3 r3 n3 f3
        cases q with
        | bool t =>
          cases r3
          cases t with
          | false => exact ⟨false, rfl, iteF (z (.bl false) H3 [] (s1.trans (s2.trans s3)) (.bl false) nil_own)⟩
          | true =>
            refine ⟨true, rfl, iteT ?_⟩
            refine q3 σ ρ H3 As _ (((S.same s1).same s2).same s3) ?_
            dsimp only at z
            cases e4 : d3 ρ with
            | stk =>
              rw [e4] at z
              exact z
            | exc x =>
              rw [e4] at z
              exact fun c dd H' B sm rp => z c dd H' B (s1.trans (s2.trans (s3.trans sm))) rp
            | ok dz =>
              rw [e4, R.bind_ok] at z
              intro w H4 A4 s4 rw' _
              exact hr2 H4 y w dy dz B A4 Q ((ry.weak.same s3).same s4) rw'.weak (fresh_good (s1.trans (s2.trans (s3.trans s4))) z (hg2 dy dz))
        | _ => exact z.elim
theorem de_chain {op op' : CmpOp} {g1 g2 : D → D → R D} (h : OpD X (compareOp op) g1) (h' : OpD X (compareOp op') g2) (h1 : DE X W ow k1 a d1) (h2 : DE X W ow k2 b d2) (h3 : DE X W ow k3 c d3)
    (hm : lastMarks [op, op'] [b, c] = false := by with_unfolding_all rfl) : DE X W ow (.own []) (.Compare a [op, op'] [b, c] pos) (ch3 g1 g2 d1 d2 d3) := by
  obtain ⟨r, ho, hg, hr⟩ := h
  obtain ⟨r', ho', hg', hr'⟩ := h'
  obtain ⟨ta, p1, q1⟩ := h1
  obtain ⟨tb, p2, q2⟩ := h2
  obtain ⟨tc, p3, q3⟩ := h3
  exact ⟨_, pe_chain ho ho' p1 p2 p3 hm, fun σ ρ H As Q S z => ch_good q1 q2 q3 hg hr hg' hr' S z⟩
theorem dt_chain {op op' : CmpOp} {g1 g2 : D → D → R D} (h : OpD X (compareOp op) g1) (h' : OpD X (compareOp op') g2) (h1 : DE X W ow k1 a d1) (h2 : DE X W ow k2 b d2) (h3 : DE X W ow k3 c d3)
    (hm : lastMarks [op, op'] [b, c] = false := by with_unfolding_all rfl) : DT X W ow (.Compare a [op, op'] [b, c] pos) (tb (ch3 g1 g2 d1 d2 d3)) := by
  obtain ⟨r, ho, hg, hr⟩ := h
  obtain ⟨r', ho', hg', hr'⟩ := h'
  obtain ⟨ta, p1, q1⟩ := h1
  obtain ⟨tb', p2, q2⟩ := h2
  obtain ⟨tc, p3, q3⟩ := h3
  refine ⟨_, pt_chain ho ho' p1 p2 p3 hm, fun σ ρ H As Q S z => ch_good (g1 := g1) (g2 := g2) q1 q2 q3 hg hr hg' hr' S ?_⟩
  unfold tb at z
  cases hd : ch3 g1 g2 d1 d2 d3 ρ with
  | stk =>
    rw [hd] at z
    exact z
  | exc x =>
    rw [hd] at z
    exact z
  | ok d =>
    rw [hd, R.bind_ok] at z
    intro v H' A sm r _
    cases d with
    | bool b =>
      cases r
      exact ⟨b, rfl, z H' sm⟩
    | _ => exact z.elim
/-! ### products -/
def strMul (s : Str) (j : Int) : Str := Txt.mul s j
def dMul2 (x y : D) : R D := match x, y with
  | .int i, .int j => if (smallI i || smallI j) = true then .ok (.int (i * j)) else .stk
  | .str s, .int j => if 0 < j ∧ j < 1000 ∧ 0 < s.length ∧ s.length ≤ 1000 then .ok (.str (Txt.mul s j)) else .stk
  | _, _ => .stk
theorem small_mul {i j : Int} (h : (smallI i || smallI j) = true) : CMul i j := by
  rw [Bool.or_eq_true] at h
  rcases h with h | h
  · exact .inl (of_decide_eq_true h)
  · exact .inr (of_decide_eq_true h)
theorem mulOk {x : Str} {n : Int} (h0 : 0 < n) (h1 : n < 1000) (h2 : 0 < x.length) (h3 : x.length ≤ 1000) : MulOk x n := by
  have e3 : x.length * n.toNat ≤ 1000000 := Nat.mul_le_mul h3 (show n.toNat ≤ 1000 by omega)
  refine ⟨?_, fun _ _ => ?_, fun _ _ => ?_⟩
  · rw [decide_eq_false (by omega), decide_eq_false (by omega)]
    rfl
  · intro z
    have h4 : (1000 : Int) ≤ (2 ^ 63 - 1) / n := by
      rw [Int.le_ediv_iff_mul_le h0]
      omega
    omega
  · have e : sizeLine = 16777216 := sizeLine_eq
    show decide (x.length * n.toNat > sizeLine) = false
    exact decide_eq_false (by omega)
theorem op_mul_str : OpR X (binaryOp .Mult) (fun x y H Q => ∃ s j, x = .str s ∧ y = .int j ∧ MulOk s j ∧ Q (.str (Txt.mul s j)) H) := by
  intro pins s σ H x y v u Q I rx ry h
  obtain ⟨z, j, rfl, rfl, hz, q⟩ := h
  obtain ⟨t, rfl⟩ := rx
  obtain ⟨t', rfl⟩ := ry
  exact SB.mul hz fun t' k => ⟨.str _, H, I.tok k, ⟨_, rfl⟩, q⟩
theorem op_dMul2 : OpD X (binaryOp .Mult) dMul2 := by
  refine ⟨_, op_mul.or op_mul_str, fun x y z h => ?_, fun H x y dx dy A B Q r1 r2 h => ?_⟩
  · unfold dMul2 at h
    split at h <;> first | (cases h; done) | (split at h <;> cases h)
  · unfold dMul2 at h
    split at h
    · cases r1
      cases r2
      split at h
      · rename_i hz
        exact .inl ⟨_, _, rfl, rfl, small_mul hz, fresh_imm (fun _ _ _ => .int _) h⟩
      · exact h.elim
    · cases r1
      cases r2
      split at h
      · rename_i hz
        exact .inr ⟨_, _, rfl, rfl, mulOk hz.1 hz.2.1 hz.2.2.1 hz.2.2.2, fresh_imm (fun _ _ _ => .str _) h⟩
      · exact h.elim
    · exact h.elim
/-! ### built-in functions -/
def dLen (ds : List D) : R D := match ds with
  | [.list xs] => .ok (.int xs.length)
  | [.tuple xs] => .ok (.int xs.length)
  | [.str s] => if s.length ≤ sizeLine then .ok (.int s.length) else .stk
  | [.dict ((.none, .list xs) :: _)] => .ok (.int xs.length)
  | [.dict ((.none, _) :: _)] => .stk
  | _ => .stk
theorem call_dLen : CallD X (.builtin "len") dLen := by
  refine ⟨_, CallR.or2 call_len_seq call_len_str, fun xs z h => ?_, fun H xs ds A Q r h => ?_⟩
  · unfold dLen at h
    split at h <;> first | (cases h; done) | (split at h <;> cases h)
  · unfold dLen at h
    split at h
    · cases r with
      | cons r1 r2 =>
        cases r2
        cases r1 with
        | lst h1 l1 => exact .inl ⟨_, _, rfl, .inl (.inl (.inl h1)), (by rw [l1.len]; exact fresh_imm (fun _ _ _ => .int _) h)⟩
    · cases r with
      | cons r1 r2 =>
        cases r2
        cases r1 with
        | tup h1 l1 => exact .inl ⟨_, _, rfl, .inr h1, (by rw [l1.len]; exact fresh_imm (fun _ _ _ => .int _) h)⟩
    · cases r with
      | cons r1 r2 =>
        cases r2
        cases r1
        split at h
        · rename_i hz
          exact .inr ⟨_, rfl, hz, fresh_imm (fun _ _ _ => .int _) h⟩
        · exact h.elim
    · cases r with
      | cons r1 r2 =>
        cases r2
        generalize ed : PyData.dict ((PyData.none, PyData.list ‹List D›) :: ‹List (D × D)›) = q at r1
        cases r1 with
        | lstF h1 l1 =>
          injection ed with e1
          injection e1 with e2 e3
          injection e2 with e4 e5
          injection e5 with e6
          subst e6
          exact .inl ⟨_, _, rfl, .inl h1.seq, (by rw [l1.len]; exact fresh_imm (fun _ _ _ => .int _) h)⟩
        | dct h1 l1 =>
          injection ed with e1
          subst e1
          exact (repP_tag l1).elim
        | dctF h1 l1 =>
          injection ed with e1
          subst e1
          exact (repP_tag l1).elim
        | ins h1 h2 l1 =>
          injection ed with e1
          injection e1 with e2 e3
          injection e2 with e4 e5
          cases e5
        | _ => cases ed
    · exact h.elim
    · exact h.elim
def dMax2 (ds : List D) : R D := match ds with
  | [.int i, .int j] => .ok (.int (if j > i then j else i))
  | _ => .stk
def dMin2 (ds : List D) : R D := match ds with
  | [.int i, .int j] => .ok (.int (if j < i then j else i))
  | _ => .stk
theorem call_dMax2 (hc : X.calm = true) : CallD X (.builtin "max") dMax2 := by
  refine ⟨_, call_max2 hc, fun xs z h => ?_, fun H xs ds A Q r h => ?_⟩
  · unfold dMax2 at h
    split at h <;> cases h
  · unfold dMax2 at h
    split at h
    · cases r with
      | cons r1 r2 =>
        cases r2 with
        | cons r3 r4 =>
          cases r4
          cases r1
          cases r3
          exact ⟨_, _, rfl, fresh_imm (fun _ _ _ => .int _) h⟩
    · exact h.elim
theorem call_dMin2 (hc : X.calm = true) : CallD X (.builtin "min") dMin2 := by
  refine ⟨_, call_min2 hc, fun xs z h => ?_, fun H xs ds A Q r h => ?_⟩
  · unfold dMin2 at h
    split at h <;> cases h
  · unfold dMin2 at h
    split at h
    · cases r with
      | cons r1 r2 =>
        cases r2 with
        | cons r3 r4 =>
          cases r4
          cases r1
          cases r3
          exact ⟨_, _, rfl, fresh_imm (fun _ _ _ => .int _) h⟩
    · exact h.elim
def dListOf (ds : List D) : R D := match ds with
  | [.list xs] => if immL xs = true then .ok (.list xs) else .stk
  | [.tuple xs] => if immL xs = true then .ok (.list xs) else .stk
  | _ => .stk
theorem fresh_list {H : Hp} {Q : VK} {vs : List V} {xs : List D} (l : RepL X.K X.mg H true vs xs []) (h : Fresh X H (.ok (.list xs)) Q) : ∀ p, H p = none → Q (.ref p) (upd H p (.lst vs)) := fun p hp =>
  h _ _ [p] (same_upd hp) (.lst upd_same (l.same (same_upd hp))) (List.nodup_cons.mpr ⟨(by intro z; cases z), List.nodup_nil⟩) fun a ha => by
    rw [List.mem_singleton.mp ha]
    exact hp
theorem call_dListOf : CallD X (.type "list") dListOf := by
  refine ⟨_, call_list_of, fun xs z h => ?_, fun H xs ds A Q r h => ?_⟩
  · unfold dListOf at h
    split at h <;> first | (cases h; done) | (split at h <;> cases h)
  · unfold dListOf at h
    split at h
    · split at h
      · rename_i hz
        cases r with
        | cons r1 r2 =>
          cases r2
          cases r1 with
          | lst h1 l1 => exact ⟨_, _, rfl, .inl (.inl (.inl h1)), fresh_list (l1.imm hz).2 h⟩
      · exact h.elim
    · split at h
      · rename_i hz
        cases r with
        | cons r1 r2 =>
          cases r2
          cases r1 with
          | tup h1 l1 => exact ⟨_, _, rfl, .inr h1, fresh_list (l1.imm hz).2 h⟩
      · exact h.elim
    · exact h.elim
def dTupOf (ds : List D) : R D := match ds with
  | [.list xs] => if immL xs = true then .ok (.tuple xs) else .stk
  | [.tuple xs] => if immL xs = true then .ok (.tuple xs) else .stk
  | _ => .stk
theorem call_dTupOf : CallD X (.type "tuple") dTupOf := by
  refine ⟨_, call_tuple_of, fun xs z h => ?_, fun H xs ds A Q r h => ?_⟩
  · unfold dTupOf at h
    split at h <;> first | (cases h; done) | (split at h <;> cases h)
  · unfold dTupOf at h
    split at h
    · split at h
      · rename_i hz
        cases r with
        | cons r1 r2 =>
          cases r2
          cases r1 with
          | lst h1 l1 => exact ⟨_, _, rfl, .inl ⟨.inl (.inl h1), fun p hp => h _ _ [] (same_upd hp) (.tup (.inl (.inl upd_same)) ((l1.imm hz).2.same (same_upd hp))) List.nodup_nil fun a ha => by cases ha⟩⟩
      · exact h.elim
    · split at h
      · rename_i hz
        cases r with
        | cons r1 r2 =>
          cases r2
          cases r1 with
          | tup h1 l1 => exact ⟨_, _, rfl, .inr ⟨h1, h _ H [] (Same.refl H) (.tup h1 (l1.imm hz).2) List.nodup_nil fun a ha => by cases ha⟩⟩
      · exact h.elim
    · exact h.elim
def dStrOf (ds : List D) : R D := match ds with
  | [.int i] => if i.natAbs < 2 ^ 1900 then .ok (.str (toString i)) else .stk
  | _ => .stk
theorem log1920 {n : Nat} (h : n < 2 ^ 1900) : n.log2 < 1920 := by
  by_cases h0 : n = 0
  · subst h0
    decide
  · exact Nat.lt_of_lt_of_le ((Nat.log2_lt h0).mpr h) (by decide)
theorem call_dStrOf : CallD X (.type "str") dStrOf := by
  refine ⟨_, call_str_int, fun xs z h => ?_, fun H xs ds A Q r h => ?_⟩
  · unfold dStrOf at h
    split at h <;> first | (cases h; done) | (split at h <;> cases h)
  · unfold dStrOf at h
    split at h
    · split at h
      · rename_i hz
        cases r with
        | cons r1 r2 =>
          cases r2
          cases r1
          exact ⟨_, rfl, log1920 hz, fresh_imm (fun _ _ _ => .str _) h⟩
      · exact h.elim
    · exact h.elim
def dIntOf (ds : List D) : R D := match ds with
  | [.str s] => if s.length ≤ 640 then (match PySem.intText? s with
    | some n => .ok (.int n)
    | none => .stk) else .stk
  | _ => .stk
theorem call_dIntOf : CallD X (.type "int") dIntOf := by
  refine ⟨_, call_int_str, fun xs z h => ?_, fun H xs ds A Q r h => ?_⟩
  · unfold dIntOf at h
    split at h <;> first | (cases h; done) | (split at h <;> first | (cases h; done) | (split at h <;> cases h))
  · unfold dIntOf at h
    split at h
    · split at h
      · rename_i hz
        cases r with
        | cons r1 r2 =>
          cases r2
          cases r1
          split at h
          · rename_i hn
            exact ⟨_, _, rfl, hn, hz, fresh_imm (fun _ _ _ => .int _) h⟩
          · exact h.elim
      · exact h.elim
    · exact h.elim
/-! ### isinstance, of a built-in class -/
def tyName : D → Option String
  | .none => some "NoneType"
  | .bool _ => some "bool"
  | .int _ => some "int"
  | .str _ => some "str"
  | .list _ => some "list"
  | .tuple _ => some "tuple"
  | .dict ((.none, _) :: _) => none
  | .dict _ => some "dict"
def dIsi (T : String) (d : D) : R D := match tyName d with
  | some n => match kitB n T with
    | some b => .ok (.bool b)
    | none => .stk
  | none => .stk
theorem tyX_of {H : Hp} {v : V} {d : D} {A : List Addr} {n : String} (r : Rep X.K X.mg H false v d A) (h : tyName d = some n) : TyX X.K H v (.type n) := by
  cases r with
  | non =>
    cases h
    exact .base .non
  | bl b =>
    cases h
    exact .base (.bl b)
  | int b =>
    cases h
    exact .base (.int b)
  | str b =>
    cases h
    exact .base (.str b)
  | lst h1 l1 =>
    cases h
    exact .base (.lst h1)
  | lstF h1 l1 => cases h
  | tup h1 l1 =>
    cases h
    rcases h1 with (h1 | ⟨u, h1⟩) | ⟨u, its, m, h1, h2, _⟩
    · exact .base (.tup h1)
    · exact .fTuple h1
    · exact .kTuple h1 h2
  | dct h1 l1 =>
    cases l1 with
    | nil =>
      cases h
      exact .base (.dK h1)
    | cons r1 r2 =>
      rename_i k _ _ _ _ _ _
      cases k <;> (cases h; exact .base (.dK h1))
  | dctF h1 l1 =>
    cases l1 with
    | nil =>
      cases h
      exact .fDict h1
    | cons r1 r2 =>
      rename_i k _ _ _ _ _ _
      cases k <;> (cases h; exact .fDict h1)
  | ins h1 h2 l1 => cases h
theorem de_isi {T : Str} {n : String} {p p3 : Pos} (h1 : DE X W ow k1 a d1) (hm : X.mg "isinstance" = none) (hmT : X.mg T = none) (hvT : bootBuiltins T = some (.type n)) (hg : Gl X "isinstance" := by rfl) (hgT : Gl X T := by rfl) (hnT : T ≠ "__name__" := by decide) (hdT : (T == ("__debug__" : Str)) = false := by decide)
    (hs : starEach [a, .Name T p3] X.env = (false, eval a X.env) :: starEach [.Name T p3] X.env := by rfl) (hs2 : starEach [.Name T p3] X.env = (false, eval (.Name T p3) X.env) :: starEach [] X.env := by rfl) (hpl : (backTo pos (starEach [.Name T p3] X.env)).any (·.1) = false := by rfl) : DE X W ow (.own []) (.Call (.Name "isinstance" p) [a, .Name T p3] [] pos) (b1 (dIsi n) d1) := by
  obtain ⟨ta, p1, q1⟩ := h1
  refine ⟨_, pe_callB call_isi hg hm (by decide +kernel) (pa_cons p1 (pa_cons (pe_bltn (v := .ty n) hgT hmT hvT rfl hnT hdT) pa_nil hs2) hs) (by decide) (by decide) hs hpl, fun σ ρ H As Q S q => q1 σ ρ H As _ S ?_⟩
  unfold b1 at q
  cases e1 : d1 ρ with
  | stk =>
    rw [e1] at q
    exact q
  | exc x =>
    rw [e1] at q
    exact q
  | ok dx =>
    rw [e1, R.bind_ok] at q
    intro x H1 A s1 rx _
    unfold dIsi at q
    split at q
    · rename_i nm hn
      split at q
      · rename_i b hb
        exact ⟨x, .ty n, _, _, b, rfl, .ty n, tyX_of rx.weak hn, kit_ty hb, q (.bl b) H1 [] s1 (.bl b) nil_own⟩
      · exact q.elim
    · exact q.elim
/-! ### methods of texts -/
def dIndex (x y : D) : R D := match x, y with
  | .str s, .str t => (match Txt.index0 s t with
    | some k => .ok (.int (k : Nat))
    | none => .stk)
  | _, _ => .stk
def mth (g : D → D → R D) (f1 f2 : Env → R D) : Env → R D := fun ρ => (f1 ρ).bind fun x => match x with
  | .str _ => (f2 ρ).bind fun y => g x y
  | _ => .stk
def MthD (X : Cx) (id : String) (g : D → D → R D) : Prop :=
  ∃ r, MtR X id r ∧ (∀ x y z, g x y ≠ .exc z) ∧ ∀ H s y dy B Q, Rep X.K X.mg H false y dy B → Fresh X H (g (.str s) dy) Q → r (.str s) [y] H Q
theorem de_m1 {id : String} {name : Str} {apos : Pos} {g : D → D → R D} (slot : Slot "str" name id) (ty : typeOf (.builtin id) = pure (.type "method_descriptor")) (hm : MthD X id g) (h1 : DE X W ow k1 o d1) (h2 : DE X W ow k2 e d2)
    (hs : starEach [e] X.env = [(false, eval e X.env)] := by rfl) (hbase : attributeBase o name X.env (eval o X.env) = eval o X.env := by rfl) (hline : (apos.endLine == pos.line) = true := by rfl) :
    DE X W ow (.own []) (.Call (.Attribute o name apos) [e] [] pos) (mth g d1 d2) := by
  obtain ⟨r, hr, hx, hf⟩ := hm
  obtain ⟨ta, p1, q1⟩ := h1
  obtain ⟨tb, p2, q2⟩ := h2
  refine ⟨_, pe_m1 slot ty hr p1 p2 hs hbase hline, fun σ ρ H As Q S q => q1 σ ρ H As _ S ?_⟩
  unfold mth at q
  cases e1 : d1 ρ with
  | stk =>
    rw [e1] at q
    exact q
  | exc x =>
    rw [e1] at q
    exact q
  | ok dx =>
    rw [e1, R.bind_ok] at q
    intro x H1 A s1 rx _
    cases dx with
    | str s =>
      have rx' := rx.weak
      cases rx'
      refine ⟨⟨_, rfl⟩, q2 σ ρ H1 As _ (S.same s1) ?_⟩
      dsimp only at q
      cases e2 : d2 ρ with
      | stk =>
        rw [e2] at q
        exact q
      | exc x =>
        rw [e2] at q
        exact fun c dd H' B sm rp => q c dd H' B (s1.trans sm) rp
      | ok dy =>
        rw [e2, R.bind_ok] at q
        intro y H2 B s2 ry _
        exact hf H2 _ y dy B Q ry.weak (fresh_good (s1.trans s2) q (hx _ dy))
    | _ => exact q.elim
def strsOf : List D → Option (List Str)
  | [] => some []
  | .str s :: r => (strsOf r).map (s :: ·)
  | _ :: _ => none
theorem strs_rep {H : Hp} {o : Bool} : ∀ {vs : List V} {ds : List D} {A : List Addr} {ss : List Str}, RepL X.K X.mg H o vs ds A → strsOf ds = some ss → vs = ss.map V.str
  | _, _, _, _, .nil, h => by
    cases h
    rfl
  | _, _, _, ss, .cons (d := d) r l, h => by
    cases d with
    | str s =>
      unfold strsOf at h
      cases e : strsOf ‹List D› with
      | none =>
        rw [e] at h
        cases h
      | some ts =>
        rw [e] at h
        cases h
        cases r
        rw [strs_rep l e]
        rfl
    | _ => cases h
theorem strs_imm : ∀ (ss : List Str) (K : PySem.W.Frag) (mg : Str → Option Value) (H : Hp), RepL K mg H true (ss.map V.str) (ss.map PyData.str) []
  | [], _, _, _ => .nil
  | s :: ss, K, mg, H => .cons (A := []) (B := []) (.str s) (strs_imm ss K mg H)
def dJoin (x y : D) : R D := match x, y with
  | .str s, .list ds => match strsOf ds with
    | some ss => if (ss.map (·.length)).sum + ss.length * s.length ≤ 16777216 then .ok (.str (Txt.join s ss)) else .stk
    | none => .stk
  | _, _ => .stk
theorem mt_dJoin : MthD X "str.join" dJoin := by
  refine ⟨_, mt_join, fun x y z h => ?_, fun H s y dy B Q r h => ?_⟩
  · unfold dJoin at h
    split at h <;> first | (cases h; done) | (split at h <;> first | (cases h; done) | (split at h <;> cases h))
  · unfold dJoin at h
    split at h
    · rename_i s' ds e1
      cases e1
      split at h
      · rename_i ss hss
        split at h
        · rename_i hz
          cases r with
          | lst h1 l1 =>
            have e := strs_rep l1 hss
            subst e
            exact ⟨_, _, ss, rfl, rfl, .inl (.inl (.inl h1)), hz, fresh_imm (fun _ _ _ => .str _) h⟩
        · exact h.elim
      · exact h.elim
    · exact h.elim
def dStarts (x y : D) : R D := match x, y with
  | .str s, .str t => .ok (.bool (Txt.startswith s t))
  | _, _ => .stk
theorem mt_dStarts : MthD X "str.startswith" dStarts := by
  refine ⟨_, mt_startswith, fun x y z h => ?_, fun H s y dy B Q r h => ?_⟩
  · unfold dStarts at h
    split at h <;> cases h
  · unfold dStarts at h
    split at h
    · rename_i e1
      cases e1
      cases r
      exact ⟨_, _, rfl, rfl, fresh_imm (fun _ _ _ => .bl _) h⟩
    · exact h.elim
def dSplit (x y : D) : R D := match x, y with
  | .str s, .str t => if (t.length == 0) = false ∧ s.length + 2 ≤ sizeLine then .ok (.list ((Txt.split s t).map .str)) else .stk
  | _, _ => .stk
theorem mt_dSplit : MthD X "str.split" dSplit := by
  refine ⟨_, mt_split, fun x y z h => ?_, fun H s y dy B Q r h => ?_⟩
  · unfold dSplit at h
    split at h <;> first | (cases h; done) | (split at h <;> cases h)
  · unfold dSplit at h
    split at h
    · rename_i e1
      cases e1
      cases r
      split at h
      · rename_i hz
        exact ⟨_, _, rfl, rfl, hz.1, hz.2, fresh_list (strs_imm _ _ _ _) h⟩
      · exact h.elim
    · exact h.elim
def dPart (x y : D) : R D := match x, y with
  | .str s, .str t => if (t.length == 0) = false ∧ s.length ≤ sizeLine then .ok (.tuple [.str (Txt.partition s t).1, .str (Txt.partition s t).2.1, .str (Txt.partition s t).2.2]) else .stk
  | _, _ => .stk
theorem mt_dPart : MthD X "str.partition" dPart := by
  refine ⟨_, mt_partition, fun x y z h => ?_, fun H s y dy B Q r h => ?_⟩
  · unfold dPart at h
    split at h <;> first | (cases h; done) | (split at h <;> cases h)
  · unfold dPart at h
    split at h
    · rename_i e1
      cases e1
      cases r
      split at h
      · rename_i hz
        exact ⟨_, _, rfl, rfl, hz.1, hz.2, fun p hp => h _ _ [] (same_upd hp) (.tup (.inl (.inl upd_same)) (strs_imm [_, _, _] _ _ _)) List.nodup_nil fun a ha => by cases ha⟩
      · exact h.elim
    · exact h.elim
theorem de_index {apos cpos : Pos} (hc : X.calm = true) (tk : Takes X W) (h1 : DE X W ow k1 o d1) (h2 : DE X W ow k2 e d2)
    (hbase : attributeBase o "index" X.env (eval o X.env) = eval o X.env := by rfl)
    (hfew : ((backTo cpos (starEach (e :: []) X.env)).all (fun x => !x.1) && (backToKw cpos (keywordEach [] X.env)).all (fun x => x.1.isSome)
      && decide ((e :: []).length + ([] : List Keyword).length + (if ([] : List Keyword).isEmpty then 0 else 1) < 30)) = true := by rfl)
    (hline : (apos.endLine == cpos.line) = true := by rfl) (hs : starEach (e :: []) X.env = (false, eval e X.env) :: starEach [] X.env := by rfl) (hplain : (backTo cpos (starEach [] X.env)).any (·.1) = false := by rfl) :
    DE X W ow (.own []) (.Call (.Attribute o "index" apos) [e] [] cpos) (mth dIndex d1 d2) := by
  obtain ⟨ta, p1, q1⟩ := h1
  obtain ⟨tb, p2, q2⟩ := h2
  refine ⟨_, pe_bmS PySem.F.plainAttrs_str PySem.F.slot_str_index PySem.F.type_str_index (mt_indexX hc tk) p1 (pa_cons p2 pa_nil hs) hbase hfew hline hs hplain, fun σ ρ H As Q S q => q1 σ ρ H As _ S ?_⟩
  unfold mth at q
  cases e1 : d1 ρ with
  | stk =>
    rw [e1] at q
    exact q
  | exc x =>
    rw [e1] at q
    exact q
  | ok dx =>
    rw [e1, R.bind_ok] at q
    intro x H1 A s1 rx _
    cases dx with
    | str s =>
      have rx' := rx.weak
      cases rx'
      refine ⟨rfl, q2 σ ρ H1 As _ (S.same s1) ?_⟩
      dsimp only at q
      cases e2 : d2 ρ with
      | stk =>
        rw [e2] at q
        exact q
      | exc x =>
        rw [e2] at q
        exact fun c dd H' B sm rp => q c dd H' B (s1.trans sm) rp
      | ok dy =>
        rw [e2, R.bind_ok] at q
        intro y H2 B s2 ry _
        cases dy with
        | str t =>
          have ry' := ry.weak
          cases ry'
          unfold dIndex at q
          dsimp only at q
          cases ei : Txt.index0 s t with
          | none =>
            rw [ei] at q
            exact q.elim
          | some k =>
            rw [ei] at q
            exact ⟨s, t, rfl, rfl, (fun k' hk => by
              rw [ei] at hk
              cases hk
              exact q (.int (k : Nat)) H2 [] (s1.trans s2) (.int _) nil_own), fun hk => by
              rw [ei] at hk
              cases hk⟩
        | _ => exact q.elim
    | _ => exact q.elim
end
end Dg

namespace Dg
open PySem PySem.Spec PyProof.Rows L2
section
variable {K : PySem.W.Frag} {mg : Str → Option Value} {H0 : Hp} {M0 : Addr → Prop} {pn : Nat → Option V} {ow ow' : List Nat} {σ : L2.St} {ρ : Env} {H H' : Hp} {As : Nat → List Addr}
theorem Sta.killAll : ∀ (is : List Nat) {ρ : Env} {As : Nat → List Addr}, Sta K mg H0 M0 pn ow σ ρ H As → Sta K mg H0 M0 pn ow σ (kill is ρ) H (fun j => if j ∈ is then [] else As j)
  | [], ρ, As, S => by
    have e : (fun j => if j ∈ ([] : List Nat) then [] else As j) = As := by
      funext j
      rw [if_neg]
      intro z
      cases z
    rw [e]
    exact S
  | i :: is, ρ, As, S => by
    have T := Sta.killAll is (S.kill1 i)
    have e : (fun j => if j ∈ is then [] else (fun j => if j = i then [] else As j) j) = fun j => if j ∈ i :: is then [] else As j := by
      funext j
      by_cases h1 : j ∈ is
      · rw [if_pos h1, if_pos (List.mem_cons_of_mem _ h1)]
      · rw [if_neg h1]
        by_cases h2 : j = i
        · show (if j = i then [] else As j) = _
          rw [if_pos h2, if_pos (by rw [h2]; exact List.mem_cons_self)]
        · show (if j = i then [] else As j) = _
          rw [if_neg h2, if_neg]
          intro z
          rcases List.mem_cons.mp z with z | z
          · exact h2 z
          · exact h1 z
    rw [e] at T
    exact T
/-- a slot's own tree is changed where it stands -/
theorem Sta.mut (S : Sta K mg H0 M0 pn ow σ ρ H As) {i : Nat} {v : V} {d : D} {A : List Addr} (hi : i ∈ ow) (hv : σ[i]? = some (some v)) (f : Fr (fun a => a ∈ As i) H H') (r : Rep K mg H' true v d A) (nd : A.Nodup)
    (hA : ∀ a ∈ A, a ∈ As i ∨ ((H0 a = none ∨ M0 a) ∧ ∀ j, a ∉ As j)) : Sta K mg H0 M0 pn ow σ (ρ.set i (some d)) H' (fun j => if j = i then A else As j) := by
  have hl : i < ρ.length := by
    rw [← S.len]
    exact (List.getElem?_eq_some_iff.mp hv).1
  refine ⟨fun a o h hm => ?_, fun j e he => ?_, fun j h => ?_, fun j hj => ?_, fun j hj a ha => ?_, fun j hj l hl a ha hb => ?_, by rw [List.length_set]; exact S.len, S.pin⟩
  · refine f a o (S.fr a o h hm) fun hi2 ha => ?_
    rcases S.new i hi a ha with z | z
    · rw [h] at z
      cases z
    · exact hm hi2 z
  · by_cases hji : j = i
    · subst hji
      rw [List.getElem?_set_self hl] at he
      cases he
      refine ⟨v, hv, ?_⟩
      rw [if_pos rfl, contains_mem.mpr hi]
      exact r
    · rw [List.getElem?_set_ne (fun z => hji z.symm)] at he
      obtain ⟨w, e1, e2⟩ := S.rep j e he
      refine ⟨w, e1, ?_⟩
      rw [if_neg hji]
      exact e2.fr f fun a ha z => S.sep i hi j hji a z ha
  · by_cases hji : j = i
    · subst hji
      exact absurd (List.getElem?_set_self hl) (h d)
    · try dsimp only
      rw [if_neg hji]
      refine S.dead j fun d e => h d ?_
      rw [List.getElem?_set_ne (fun z => hji z.symm)]
      exact e
  · try dsimp only
    by_cases hji : j = i
    · rw [if_pos hji]
      exact nd
    · rw [if_neg hji]
      exact S.nd j hj
  · try dsimp only at ha
    by_cases hji : j = i
    · rw [if_pos hji] at ha
      rcases hA a ha with z | z
      · exact S.new i hi a z
      · exact z.1
    · rw [if_neg hji] at ha
      exact S.new j hj a ha
  · try dsimp only at ha hb
    by_cases hji : j = i
    · rw [if_pos hji] at ha
      rw [if_neg (fun z => hl (z.trans hji.symm))] at hb
      rcases hA a ha with z | z
      · exact S.sep i hi l (fun e => hl (e.trans hji.symm)) a z hb
      · exact z.2 l hb
    · rw [if_neg hji] at ha
      by_cases hli : l = i
      · rw [if_pos hli] at hb
        rcases hA a hb with z | z
        · exact S.sep j hj i (fun e => hji e.symm) a ha z
        · exact z.2 j ha
      · rw [if_neg hli] at hb
        exact S.sep j hj l hl a ha hb
end
section
variable {X : Cx} {W : WX} {C : Cfg} {ow ow' ow1 ow2 : List Nat} {k k1 k2 k3 k4 : Kd} {e a b c d o tg elt : Expr} {st : Stmt} {sts sts2 : List Stmt} {den d1 d2 d3 d4 : Env → R D} {f g : Env → Out} {pos p2 : Pos}
/-- a list's method that changes it: what is handed over is one's own -/
def MutO (X : Cx) (id : String) (g : List D → List D → Option D) : Prop :=
  ∃ r, MtR X id r ∧ ∀ H a vs xs A ws ds B Q, H a = some (.lst vs) → RepL X.K X.mg H true vs xs A → RepL X.K X.mg H true ws ds B → (a :: (A ++ B)).Nodup → ∀ d, g xs ds = some d → (∀ vs' A2, Rep X.K X.mg (upd H a (.lst vs')) true (.ref a) d A2 → A2.Nodup → (∀ z ∈ A2, z = a ∨ z ∈ A ∨ z ∈ B) → Q .non (upd H a (.lst vs'))) → r (.ref a) ws H Q
/-- .. what is handed over is looked at alone -/
def MutB (X : Cx) (id : String) (g : List D → List D → Option D) : Prop :=
  ∃ r, MtR X id r ∧ ∀ H a vs xs A ws ds B Q, H a = some (.lst vs) → RepL X.K X.mg H true vs xs A → RepL X.K X.mg H false ws ds B → (a :: A).Nodup → ∀ d, g xs ds = some d → (∀ vs' A2, Rep X.K X.mg (upd H a (.lst vs')) true (.ref a) d A2 → A2.Nodup → (∀ z ∈ A2, z = a ∨ z ∈ A) → Q .non (upd H a (.lst vs'))) → r (.ref a) ws H Q
def mutS (i : Nat) (ms : List Nat) (g : List D → List D → Option D) (f : Env → R (List D)) : Env → Out := fun ρ => match ρ[i]? with
  | some (some (.list xs)) => (match f ρ with
    | .ok ds => (match g xs ds with
      | some d => .nx ((kill ms ρ).set i (some d))
      | none => .stk)
    | .exc x => .exc x ρ
    | .stk => .stk)
  | _ => .stk
theorem upd_fr {H : Hp} {a : Addr} {o u : HO} {M : Addr → Prop} (h : H a = some o) (hm : isMut o = true) (ha : M a) : Fr M H (upd H a u) := fun b w hb hw => by
  by_cases e : b = a
  · subst e
    rw [h] at hb
    cases hb
    exact absurd ha (hw hm)
  · rw [upd_ne e]
    exact hb
theorem nodup_cons_app {a : Addr} {A B : List Addr} (h1 : (a :: A).Nodup) (h2 : B.Nodup) (h3 : ∀ z ∈ B, z ≠ a ∧ z ∉ A) : (a :: (A ++ B)).Nodup := by
  have h1' := List.nodup_cons.mp h1
  refine List.nodup_cons.mpr ⟨fun z => ?_, List.nodup_append.mpr ⟨h1'.2, h2, fun x hx y hy e => (h3 y hy).2 (e ▸ hx)⟩⟩
  rcases List.mem_append.mp z with z | z
  · exact h1'.1 z
  · exact (h3 a z).1 rfl
theorem ds_mutO {i n : Nat} {id : String} {name : Str} {ms : List Nat} {es : List Expr} {apos cpos : Pos} {g : List D → List D → Option D} {f : Env → R (List D)} (slot : Slot "list" name id) (hty : typeOf (.builtin id) = pure (.type "method_descriptor")) (hm : MutO X id g) (hv : PE X o (tVar i)) (ha : DA X W ow (.own ms) n (e :: es) f)
    (hi : ow.contains i = true) (him : ms.contains i = false) (how : subL ow' ow = true) (hox : subL C.owx ow = true)
    (hbase : attributeBase o name X.env (eval o X.env) = eval o X.env := by rfl)
    (hfew : ((backTo cpos (starEach (e :: es) X.env)).all (fun x => !x.1) && (backToKw cpos (keywordEach [] X.env)).all (fun x => x.1.isSome)
      && decide ((e :: es).length + ([] : List Keyword).length + (if ([] : List Keyword).isEmpty then 0 else 1) < 30)) = true := by rfl)
    (hline : (apos.endLine == cpos.line) = true := by rfl) (hs : starEach (e :: es) X.env = (false, eval e X.env) :: starEach es X.env := by rfl) (hplain : (backTo cpos (starEach es X.env)).any (·.1) = false := by rfl) (hsw : swapsWith (.Call (.Attribute o name apos) (e :: es) [] cpos) none pos.line X.env = pure false := by rfl) :
    DS X W C ow ow' (.Expr (.Call (.Attribute o name apos) (e :: es) [] cpos) pos) (mutS i ms g f) := by
  obtain ⟨r, hr, hq⟩ := hm
  obtain ⟨ta, pa, qa⟩ := ha
  refine ⟨_, ps_expr (pe_bm PySem.F.plainAttrs_list slot hty hr hv pa hbase hfew hline hs hplain) hsw, fun H0 M0 pn σ ρ H As Dn hp S z => ?_⟩
  have hi' := contains_mem.mp hi
  unfold mutS at z
  split at z
  · rename_i xs hρ
    obtain ⟨v, hv, rv⟩ := S.rep i _ hρ
    rw [hi] at rv
    generalize eA : As i = Ai at rv
    cases rv with
    | lst h1 l1 =>
      rename_i a vs A
      refine ⟨.ref a, hv, .inl ⟨rfl, _, .inl (.inl h1)⟩, qa σ ρ H As _ ⟨H0, M0, pn, S⟩ ?_⟩
      cases hf : f ρ with
      | stk =>
        rw [hf] at z
        exact z
      | exc x =>
        rw [hf] at z
        exact fun c dd H' A sm rp => z c dd σ H' As A ((S.same sm).less (subL_mem hox)) rp
      | ok ds =>
        rw [hf] at z
        intro ws H1 B sm rB ok hl
        dsimp only at z
        have S1 := S.same sm
        have ndA : (a :: A).Nodup := by
          have := S.nd i hi'
          rw [eA] at this
          exact this
        have hB : ∀ w ∈ B, w ∉ As i := fun w hw hA => by
          rcases ok.2.2 w hw with q | ⟨j, hj, q⟩
          · exact S.old hA q
          · by_cases e : i = j
            · subst e
              rw [contains_mem.mpr hj] at him
              cases him
            · exact S.sep j (ok.2.1 j hj) i e w q hA
        cases hg : g xs ds with
        | none =>
          rw [hg] at z
          exact z.elim
        | some d' =>
          rw [hg] at z
          refine hq H1 a vs xs A ws ds B _ (sm _ _ h1) (l1.same sm) rB (nodup_cons_app ndA ok.1 fun w hw => ⟨fun q => hB w hw (by rw [eA, q]; exact List.mem_cons_self), fun q => hB w hw (by rw [eA]; exact List.mem_cons_of_mem _ q)⟩) d' hg ?_
          intro vs' A2 r2 n2 h2
          have T := Sta.killAll ms S1
          have nim : i ∉ ms := fun q => by
            rw [contains_mem.mpr q] at him
            cases him
          have ei : (fun j => if j ∈ ms then [] else As j) i = a :: A := by
            show (if i ∈ ms then [] else As i) = _
            rw [if_neg nim, eA]
          refine z _ _ _ ((T.mut (i := i) hi' hv (upd_fr (sm _ _ h1) rfl (by show a ∈ (fun j => if j ∈ ms then [] else As j) i; rw [ei]; exact List.mem_cons_self)) r2 n2 fun w hw => ?_).less (subL_mem how))
          rcases h2 w hw with q | q | q
          · exact .inl (by show w ∈ (fun j => if j ∈ ms then [] else As j) i; rw [ei, q]; exact List.mem_cons_self)
          · exact .inl (by show w ∈ (fun j => if j ∈ ms then [] else As j) i; rw [ei]; exact List.mem_cons_of_mem _ q)
          · refine .inr ⟨?_, fun j hj => ?_⟩
            · rcases ok.2.2 w q with p | ⟨j, hj, p⟩
              · exact S.was p
              · exact S.new j (ok.2.1 j hj) w p
            · split at hj
              · cases hj
              · rename_i hjm
                rcases ok.2.2 w q with p | ⟨l, hl, p⟩
                · exact S.old hj p
                · exact S.sep l (ok.2.1 l hl) j (fun e => hjm (e ▸ hl)) w p hj
  · exact z.elim
theorem ds_mutB {i n : Nat} {id : String} {name : Str} {es : List Expr} {apos cpos : Pos} {g : List D → List D → Option D} {f : Env → R (List D)} (slot : Slot "list" name id) (hty : typeOf (.builtin id) = pure (.type "method_descriptor")) (hm : MutB X id g) (hv : PE X o (tVar i)) (ha : DA X W ow k n (e :: es) f)
    (hi : ow.contains i = true) (how : subL ow' ow = true) (hox : subL C.owx ow = true)
    (hbase : attributeBase o name X.env (eval o X.env) = eval o X.env := by rfl)
    (hfew : ((backTo cpos (starEach (e :: es) X.env)).all (fun x => !x.1) && (backToKw cpos (keywordEach [] X.env)).all (fun x => x.1.isSome)
      && decide ((e :: es).length + ([] : List Keyword).length + (if ([] : List Keyword).isEmpty then 0 else 1) < 30)) = true := by rfl)
    (hline : (apos.endLine == cpos.line) = true := by rfl) (hs : starEach (e :: es) X.env = (false, eval e X.env) :: starEach es X.env := by rfl) (hplain : (backTo cpos (starEach es X.env)).any (·.1) = false := by rfl) (hsw : swapsWith (.Call (.Attribute o name apos) (e :: es) [] cpos) none pos.line X.env = pure false := by rfl) :
    DS X W C ow ow' (.Expr (.Call (.Attribute o name apos) (e :: es) [] cpos) pos) (mutS i [] g f) := by
  obtain ⟨r, hr, hq⟩ := hm
  obtain ⟨ta, pa, qa⟩ := ha
  refine ⟨_, ps_expr (pe_bm PySem.F.plainAttrs_list slot hty hr hv pa hbase hfew hline hs hplain) hsw, fun H0 M0 pn σ ρ H As Dn hp S z => ?_⟩
  have hi' := contains_mem.mp hi
  unfold mutS at z
  split at z
  · rename_i xs hρ
    obtain ⟨v, hv, rv⟩ := S.rep i _ hρ
    rw [hi] at rv
    generalize eA : As i = Ai at rv
    cases rv with
    | lst h1 l1 =>
      rename_i a vs A
      refine ⟨.ref a, hv, .inl ⟨rfl, _, .inl (.inl h1)⟩, qa σ ρ H As _ ⟨H0, M0, pn, S⟩ ?_⟩
      cases hf : f ρ with
      | stk =>
        rw [hf] at z
        exact z
      | exc x =>
        rw [hf] at z
        exact fun c dd H' A sm rp => z c dd σ H' As A ((S.same sm).less (subL_mem hox)) rp
      | ok ds =>
        rw [hf] at z
        intro ws H1 B sm rB ok hl
        dsimp only at z
        have S1 := S.same sm
        have ndA : (a :: A).Nodup := by
          have := S.nd i hi'
          rw [eA] at this
          exact this
        cases hg : g xs ds with
        | none =>
          rw [hg] at z
          exact z.elim
        | some d' =>
          rw [hg] at z
          refine hq H1 a vs xs A ws ds B _ (sm _ _ h1) (l1.same sm) rB.weak ndA d' hg ?_
          intro vs' A2 r2 n2 h2
          refine z _ _ _ ((S1.mut (i := i) hi' hv (upd_fr (sm _ _ h1) rfl (by show a ∈ As i; rw [eA]; exact List.mem_cons_self)) r2 n2 fun w hw => .inl ?_).less (subL_mem how))
          rw [eA]
          rcases h2 w hw with q | q
          · rw [q]
            exact List.mem_cons_self
          · exact List.mem_cons_of_mem _ q
  · exact z.elim
/-! ### the methods -/
theorem repL_upd {H : Hp} {a : Addr} {u : HO} {o : Bool} {vs : List V} {ds : List D} {A : List Addr} {w : List V} (h : H a = some (.lst w)) (r : RepL X.K X.mg H o vs ds A) (ha : a ∉ A) : RepL X.K X.mg (upd H a u) o vs ds A :=
  r.fr (M := fun b => b = a) (upd_fr h rfl rfl) fun b hb e => ha (e ▸ hb)
def gAppend (xs ds : List D) : Option D := match ds with
  | [d] => if xs.length < sizeLine then some (.list (xs ++ [d])) else none
  | _ => none
theorem mu_append : MutO X "list.append" gAppend := by
  refine ⟨_, mt_append, fun H a vs xs A ws ds B Q h1 l1 rB nd d hg z => ?_⟩
  unfold gAppend at hg
  split at hg
  · split at hg
    · rename_i hlen
      cases hg
      have nd' := List.nodup_cons.mp nd
      cases rB with
      | cons r1 r2 =>
        cases r2
        rename_i v A1
        refine ⟨a, vs, v, rfl, rfl, h1, (by rw [l1.len]; exact hlen), z (vs ++ [v]) (a :: (A ++ A1)) (.lst upd_same ?_) ?_ ?_⟩
        · have q1 := repL_upd (u := .lst (vs ++ [v])) h1 l1 fun w => nd'.1 (List.mem_append_left _ w)
          have q2 := repL_upd (u := .lst (vs ++ [v])) h1 (RepL.one r1) fun w => nd'.1 (List.mem_append_right _ (List.mem_append_left _ w))
          exact q1.app q2
        · rw [List.append_nil] at nd
          exact nd
        · intro w hw
          rcases List.mem_cons.mp hw with q | q
          · exact .inl q
          · rcases List.mem_append.mp q with q | q
            · exact .inr (.inl q)
            · exact .inr (.inr (List.mem_append_left _ q))
    · cases hg
  · cases hg
end
end Dg

namespace Dg
open PySem PySem.Spec PyProof.Rows L2
/-! ### what each def comes to -/
def d__law_any_sign : Env → Out := (seqS (asgS [] [1] t1 (cst (.str " !\"#$&'()*+,-./0123456789:;<=>?@ABCDEFGHIJKLMNOPQRSTUVWXYZ[\\]^_`"))) (seqS (asgS [] [1] t1 (b2 dAdd (vr 1) (cst (.str "abcdefghijklmnopqrstuvwxyz{|}~\n")))) (retS (chkE (b2 dIx (vr 1) (b2 dMod (vr 0) (cst (.int 95))))))))
def f__law_any_sign : List D → R D := fun ds => (runF 2 d__law_any_sign ds).nox
def d__law_bent : Env → Out := (seqS (asgS [] [2] t1 (b2 dMod (b2 dDiv (vr 1) (cst (.int 6))) (b2 dAdd (call dLen (conL (vr 0) nilL)) (cst (.int 1))))) (seqS (ifS (tb (b2 dEq (b2 dMod (vr 1) (cst (.int 6))) (cst (.int 1)))) (retS (b2 dAdd (b2 dAdd (slE (vr 0) noO (toO (vr 2))) (callP f__law_any_sign (conL (b2 dDiv (vr 1) (cst (.int 426))) nilL))) (slE (vr 0) (toO (vr 2)) noO))) nxS) (seqS (ifS (tb (b2 dEq (b2 dMod (vr 1) (cst (.int 6))) (cst (.int 2)))) (retS (b2 dAdd (cst (.str "-")) (vr 0))) nxS) (seqS (ifS (tb (b2 dEq (b2 dMod (vr 1) (cst (.int 6))) (cst (.int 3)))) (retS (b2 dAdd (cst (.str "0")) (vr 0))) nxS) (seqS (ifS (tb (b2 dEq (b2 dMod (vr 1) (cst (.int 6))) (cst (.int 4)))) (retS (slE (vr 0) noO (toO (b2 dMod (b2 dDiv (vr 1) (cst (.int 6))) (cst (.int 15)))))) nxS) (retS (chkE (vr 0))))))))
def f__law_bent : List D → R D := fun ds => (runF 3 d__law_bent ds).nox
def lb_is_name_1 : Env → Out := (seqS (ifS (tb (b2 (dInS true) (vr 1) (cst (.str "abcdefghijklmnopqrstuvwxyz0123456789-")))) (retS (cst (.bool false))) nxS) nxS)
def d_is_name : Env → Out := (seqS (ifS (notT (tb (ch3 dLe dLe (cst (.int 1)) (call dLen (conL (vr 0) nilL)) (cst (.int 12))))) (retS (cst (.bool false))) nxS) (seqS (forS [1] t1 [1] (itE (vr 0)) lb_is_name_1) (retS (cst (.bool true)))))
def f_is_name : List D → R D := fun ds => (runF 2 d_is_name ds).nox
def lb_read_figures_1 : Env → Out := (seqS (ifS (tb (b2 (dInS true) (vr 1) (cst (.str "0123456789")))) (retS (cst .none)) nxS) nxS)
def d_read_figures : Env → Out := (seqS (ifS (notT (tb (ch3 dLe dLe (cst (.int 1)) (call dLen (conL (vr 0) nilL)) (cst (.int 60))))) (retS (cst .none)) nxS) (seqS (forS [1] t1 [1] (itE (vr 0)) lb_read_figures_1) (seqS (ifS (andT (tb (b2 dEq (b2 dIx (vr 0) (cst (.int 0))) (cst (.str "0")))) (tb (b2 dGt (call dLen (conL (vr 0) nilL)) (cst (.int 1))))) (retS (cst .none)) nxS) (retS (call dIntOf (conL (vr 0) nilL))))))
def f_read_figures : List D → R D := fun ds => (runF 2 d_read_figures ds).nox
def d_read_number : Env → Out := (seqS (ifS (notT (tb (mth dStarts (vr 0) (cst (.str "-"))))) (retS (callP f_read_figures (conL (vr 0) nilL))) nxS) (seqS (asgS [] [1] t1 (callP f_read_figures (conL (slE (vr 0) (toO (cst (.int 1))) noO) nilL))) (seqS (ifS (orT (tb (b2 dIsN (vr 1) (cst .none))) (tb (b2 dEq (vr 1) (cst (.int 0))))) (retS (cst .none)) nxS) (retS (b1 dNeg (vr 1))))))
def f_read_number : List D → R D := fun ds => (runF 2 d_read_number ds).nox
def d__law_cell_at : Env → Out := (seqS (ifS (tb (b2 dLt (vr 1) (call dLen (conL (vr 0) nilL)))) (retS (chkE (b2 dIx (vr 0) (vr 1)))) nxS) (retS (cst (.int 0))))
def f__law_cell_at : List D → R D := fun ds => (runF 2 d__law_cell_at ds).nox
def cp__law_is_name_1 : Env → R D := (compE [1] t1 (itE (vr 0)) yesT (b2 (dInS false) (vr 1) (cst (.str "abcdefghijklmnopqrstuvwxyz0123456789-"))))
def d__law_is_name : Env → Out := (seqS (ifS (orT (tb (b2 dLt (call dLen (conL (vr 0) nilL)) (cst (.int 1)))) (tb (b2 dGt (call dLen (conL (vr 0) nilL)) (cst (.int 12))))) (retS (cst (.bool false))) nxS) (retS (b2 (dInS true) (cst (.bool false)) cp__law_is_name_1)))
def f__law_is_name : List D → R D := fun ds => (runF 2 d__law_is_name ds).nox
def cp__law_number_1 : Env → R D := (compE [2] t1 (itE (vr 1)) yesT (b2 (dInS false) (vr 2) (cst (.str "0123456789"))))
def lb__law_number_1 : Env → Out := (seqS (asgS [] [3] t1 (b2 dAdd (b2 dMul2 (vr 3) (cst (.int 10))) (mth dIndex (cst (.str "0123456789")) (vr 2)))) nxS)
def d__law_number : Env → Out := (seqS (asgS [] [1] t1 (vr 0)) (seqS (ifS (tb (b2 dEq (slE (vr 0) noO (toO (cst (.int 1)))) (cst (.str "-")))) (seqS (asgS [] [1] t1 (slE (vr 0) (toO (cst (.int 1))) noO)) nxS) nxS) (seqS (ifS (orT (tb (b2 dLt (call dLen (conL (vr 1) nilL)) (cst (.int 1)))) (orT (tb (b2 dGt (call dLen (conL (vr 1) nilL)) (cst (.int 60)))) (tb (b2 (dInS false) (cst (.bool false)) cp__law_number_1)))) (retS (cst .none)) nxS) (seqS (ifS (andT (tb (b2 dEq (b2 dIx (vr 1) (cst (.int 0))) (cst (.str "0")))) (tb (b2 dNe (vr 0) (cst (.str "0"))))) (retS (cst .none)) nxS) (seqS (asgS [] [3] t1 (cst (.int 0))) (seqS (forS [2] t1 [2] (itE (vr 1)) lb__law_number_1) (seqS (ifS (tb (b2 dEq (b2 dIx (vr 0) (cst (.int 0))) (cst (.str "-")))) (retS (b2 dSub (cst (.int 0)) (vr 3))) nxS) (retS (chkE (vr 3))))))))))
def f__law_number : List D → R D := fun ds => (runF 4 d__law_number ds).nox
def cp_law_1 : Env → R D := (compE [3] t1 (itE (slE (vr 0) (toO (cst (.int 3))) (toO (cst (.int 73))))) yesT (chkE (b2 dIx (vr 1) (b2 dMod (vr 3) (call dLen (conL (vr 1) nilL))))))
def lb_law_1 : Env → Out := (seqS (asgS [] [6] t1 (callP f_is_name (conL (vr 5) nilL))) (seqS (ifS (orT (notT (tb (b1 (dIsi "bool") (vr 6)))) (tb (b2 dNe (vr 6) (callP f__law_is_name (conL (vr 5) nilL))))) (retS (cst (.bool false))) nxS) (seqS (asgS [] [6] t1 (callP f_read_number (conL (vr 5) nilL))) (seqS (ifS (orT (tb (b1 (dIsi "bool") (vr 6))) (tb (b2 dNe (vr 6) (callP f__law_number (conL (vr 5) nilL))))) (retS (cst (.bool false))) nxS) nxS))))
def d_law : Env → Out := (seqS (asgS [] [1] t1 (b2 dIx (lstE (conL (cst (.str "abcdefghijklmnopqrstuvwxyz0123456789-")) (conL (cst (.str "0123456789")) (conL (cst (.str "012-")) nilL)))) (b2 dMod (callP f__law_cell_at (conL (vr 0) (conL (cst (.int 0)) nilL))) (cst (.int 3))))) (seqS (asgS [] [2] t1 (mth dJoin (cst (.str "")) cp_law_1)) (seqS (asgS [] [4] t1 (b2 dAdd (b2 dSub (b2 dMod (callP f__law_cell_at (conL (vr 0) (conL (cst (.int 1)) nilL))) (b2 dSub (b2 dMul2 (cst (.int 2)) (b2 dPow (cst (.int 10)) (cst (.int 60)))) (cst (.int 1)))) (b2 dPow (cst (.int 10)) (cst (.int 60)))) (cst (.int 1)))) (seqS (forS [5] t1 [5, 6] (itE (lstE (conL (chkE (vr 2)) (conL (callP f__law_bent (conL (vr 2) (conL (callP f__law_cell_at (conL (vr 0) (conL (cst (.int 2)) nilL))) nilL))) (conL (call dStrOf (conL (vr 4) nilL)) (conL (callP f__law_bent (conL (call dStrOf (conL (vr 4) nilL)) (conL (cst (.int 2)) nilL))) (conL (cst (.str "-0")) (conL (cst (.str "0")) (conL (cst (.str "")) nilL))))))))) lb_law_1) (retS (b2 dEq (callP f_read_number (conL (call dStrOf (conL (vr 4) nilL)) nilL)) (vr 4)))))))
def f_law : List D → R D := fun ds => (runF 7 d_law ds).nox
end Dg

namespace Dg
open PySem PySem.Spec PyProof.Rows L2
def topS (i : Nat) : Stmt := PySem.Challenge.pw_digmatrix_k01_names_and_numbers.main.body.getD i (.Pass ⟨0, 0, 0, 0⟩)
abbrev s__law_any_sign : Stmt := topS 10
abbrev N__law_any_sign : List Str := ["_law_cell", "_law_some"]
theorem sc__law_any_sign : FnScope N__law_any_sign ["_law_cell"] (defScope s__law_any_sign) := ⟨rfl, rfl, rfl, by decide +kernel, rfl, by decide +kernel, by decide +kernel⟩
abbrev s__law_bent : Stmt := topS 11
abbrev N__law_bent : List Str := ["_law_text", "_law_cell", "_law_at"]
theorem sc__law_bent : FnScope N__law_bent ["_law_text", "_law_cell"] (defScope s__law_bent) := ⟨rfl, rfl, rfl, by decide +kernel, rfl, by decide +kernel, by decide +kernel⟩
abbrev s_is_name : Stmt := topS 5
abbrev N_is_name : List Str := ["text", "sign"]
theorem sc_is_name : FnScope N_is_name ["text"] (defScope s_is_name) := ⟨rfl, rfl, rfl, by decide +kernel, rfl, by decide +kernel, by decide +kernel⟩
abbrev s_read_figures : Stmt := topS 6
abbrev N_read_figures : List Str := ["text", "sign"]
theorem sc_read_figures : FnScope N_read_figures ["text"] (defScope s_read_figures) := ⟨rfl, rfl, rfl, by decide +kernel, rfl, by decide +kernel, by decide +kernel⟩
abbrev s_read_number : Stmt := topS 7
abbrev N_read_number : List Str := ["text", "number"]
theorem sc_read_number : FnScope N_read_number ["text"] (defScope s_read_number) := ⟨rfl, rfl, rfl, by decide +kernel, rfl, by decide +kernel, by decide +kernel⟩
abbrev s__law_cell_at : Stmt := topS 9
abbrev N__law_cell_at : List Str := ["_law_script", "_law_k"]
theorem sc__law_cell_at : FnScope N__law_cell_at ["_law_script", "_law_k"] (defScope s__law_cell_at) := ⟨rfl, rfl, rfl, by decide +kernel, rfl, by decide +kernel, by decide +kernel⟩
abbrev s__law_is_name : Stmt := topS 12
abbrev N__law_is_name : List Str := ["_law_text", "_law_sign"]
theorem sc__law_is_name : FnScope N__law_is_name ["_law_text"] (defScope s__law_is_name) := ⟨rfl, rfl, rfl, by decide +kernel, rfl, by decide +kernel, by decide +kernel⟩
abbrev s__law_number : Stmt := topS 13
abbrev N__law_number : List Str := ["_law_text", "_law_figures", "_law_sign", "_law_number_here"]
theorem sc__law_number : FnScope N__law_number ["_law_text"] (defScope s__law_number) := ⟨rfl, rfl, rfl, by decide +kernel, rfl, by decide +kernel, by decide +kernel⟩
abbrev s_law : Stmt := topS 14
abbrev N_law : List Str := ["_law_script", "_law_menu", "_law_text", "_law_cell", "_law_number_here", "_law_one", "_law_found"]
theorem sc_law : FnScope N_law ["_law_script"] (defScope s_law) := ⟨rfl, rfl, rfl, by decide +kernel, rfl, by decide +kernel, by decide +kernel⟩
/-- what the top has written -/
structure Txt (K : PySem.W.Frag) (mg : Str → Option Value) : Prop where
  f__law_any_sign : ∃ fa fd, Fun K "_law_any_sign" "_law_any_sign" s__law_any_sign fa fd ∧ mg "_law_any_sign" = some (.ref fa)
  f__law_bent : ∃ fa fd, Fun K "_law_bent" "_law_bent" s__law_bent fa fd ∧ mg "_law_bent" = some (.ref fa)
  f_is_name : ∃ fa fd, Fun K "is_name" "is_name" s_is_name fa fd ∧ mg "is_name" = some (.ref fa)
  f_read_figures : ∃ fa fd, Fun K "read_figures" "read_figures" s_read_figures fa fd ∧ mg "read_figures" = some (.ref fa)
  f_read_number : ∃ fa fd, Fun K "read_number" "read_number" s_read_number fa fd ∧ mg "read_number" = some (.ref fa)
  f__law_cell_at : ∃ fa fd, Fun K "_law_cell_at" "_law_cell_at" s__law_cell_at fa fd ∧ mg "_law_cell_at" = some (.ref fa)
  f__law_is_name : ∃ fa fd, Fun K "_law_is_name" "_law_is_name" s__law_is_name fa fd ∧ mg "_law_is_name" = some (.ref fa)
  f__law_number : ∃ fa fd, Fun K "_law_number" "_law_number" s__law_number fa fd ∧ mg "_law_number" = some (.ref fa)
  f_law : ∃ fa fd, Fun K "law" "law" s_law fa fd ∧ mg "law" = some (.ref fa)
  c_FIGURES : ∃ t, mg "FIGURES" = some (.str "0123456789" t)
  c_LONGEST_NAME : ∃ t, mg "LONGEST_NAME" = some (.int 12 t)
  c_LONGEST_NUMBER : ∃ t, mg "LONGEST_NUMBER" = some (.int 60 t)
  c_SIGNS : ∃ t, mg "SIGNS" = some (.str "abcdefghijklmnopqrstuvwxyz0123456789-" t)
  n_bool : mg "bool" = none
  n_int : mg "int" = none
  n_isinstance : mg "isinstance" = none
  n_len : mg "len" = none
  n_str : mg "str" = none
section
variable {P : Program} {w : World} {K : PySem.W.Frag} {mg : Str → Option Value} {base : Heap}
theorem fok__law_any_sign (T : Txt K mg) {fa : Addr} {fd : FuncData} (F : Fun K "_law_any_sign" "_law_any_sign" s__law_any_sign fa fd) : FnOk P w K mg base CX0 1 fa fd ["_law_cell"] (spD K mg 1 f__law_any_sign) :=
  fn_ok (kk := 0) (n := 2) (m := 1) (den := d__law_any_sign) F sc__law_any_sign (fun _ => rfl) rfl rfl fun cdv A outer s H E hr => by
    have hu := hr.units
    exact ⟨[], (ds_cons (ds_asg (ow' := [1]) de_str (dg_name (pg_name (i := 1) sc__law_any_sign.nd rfl (by first | exact Or.inl rfl | exact Or.inr rfl))) rfl rfl rfl) (ds_cons (ds_asg (ow' := [1]) (de_op op_dAdd (de_var (pv 1)) de_str) (dg_name (pg_name (i := 1) sc__law_any_sign.nd rfl (by first | exact Or.inl rfl | exact Or.inr rfl))) rfl rfl rfl) (ds_one (ds_ret (de_imm (de_ix hu (de_var (pv 1)) (de_op op_dMod (de_var (pv 0)) de_int) (fun _ _ => rfl))) rfl rfl rfl))))⟩
theorem ok__law_any_sign (T : Txt K mg) : Cal P w K mg base CX0 "_law_any_sign" 1 1 f__law_any_sign := by
  obtain ⟨fa, fd, F, hm⟩ := T.f__law_any_sign
  exact ⟨fa, fd, ["_law_cell"], fok__law_any_sign T F, hm, F.kp, F.binds (ps := ["_law_cell"]) fun _ _ _ _ _ _ us hl => match us, hl with | [_], _ => rfl⟩
theorem fok__law_bent (T : Txt K mg) {fa : Addr} {fd : FuncData} (F : Fun K "_law_bent" "_law_bent" s__law_bent fa fd) : FnOk P w K mg base CX0 2 fa fd ["_law_text", "_law_cell"] (spD K mg 2 f__law_bent) :=
  fn_ok (kk := 1) (n := 3) (m := 2) (den := d__law_bent) F sc__law_bent (fun _ => rfl) rfl rfl fun cdv A outer s H E hr => by
    have hu := hr.units
    exact ⟨[], (ds_cons (ds_asg (ow' := [2]) (de_op op_dMod (de_op op_dDiv (de_var (pv 1)) de_int) (de_op op_dAdd (de_callB call_dLen T.n_len PySem.boot_len (da_br (de_var (pv 0)) da_nilB)) de_int)) (dg_name (pg_name (i := 2) sc__law_bent.nd rfl (by first | exact Or.inl rfl | exact Or.inr rfl))) rfl rfl rfl) (ds_cons (ds_if (ow' := [2]) (dt_cmp (op_dEq hu) (de_op op_dMod (de_var (pv 1)) de_int) de_int (nomark _)) (ds_one (ds_ret (de_op op_dAdd (de_op op_dAdd (de_sl (de_var (pv 0)) do_none (do_some (de_var (pv 2)))) (de_call (ok__law_any_sign T) (hr.mono (by decide)) (da_br (de_op op_dDiv (de_var (pv 1)) de_int) da_nilB))) (de_sl (de_var (pv 0)) (do_some (de_var (pv 2))) do_none)) rfl rfl rfl)) (ds_nil (by decide)) rfl) (ds_cons (ds_if (ow' := [2]) (dt_cmp (op_dEq hu) (de_op op_dMod (de_var (pv 1)) de_int) de_int (nomark _)) (ds_one (ds_ret (de_op op_dAdd de_str (de_var (pv 0))) rfl rfl rfl)) (ds_nil (by decide)) rfl) (ds_cons (ds_if (ow' := [2]) (dt_cmp (op_dEq hu) (de_op op_dMod (de_var (pv 1)) de_int) de_int (nomark _)) (ds_one (ds_ret (de_op op_dAdd de_str (de_var (pv 0))) rfl rfl rfl)) (ds_nil (by decide)) rfl) (ds_cons (ds_if (ow' := [2]) (dt_cmp (op_dEq hu) (de_op op_dMod (de_var (pv 1)) de_int) de_int (nomark _)) (ds_one (ds_ret (de_sl (de_var (pv 0)) do_none (do_some (de_op op_dMod (de_op op_dDiv (de_var (pv 1)) de_int) de_int))) rfl rfl rfl)) (ds_nil (by decide)) rfl) (ds_one (ds_ret (de_imm (de_var (pv 0))) rfl rfl rfl)))))))⟩
theorem ok__law_bent (T : Txt K mg) : Cal P w K mg base CX0 "_law_bent" 2 2 f__law_bent := by
  obtain ⟨fa, fd, F, hm⟩ := T.f__law_bent
  exact ⟨fa, fd, ["_law_text", "_law_cell"], fok__law_bent T F, hm, F.kp, F.binds (ps := ["_law_text", "_law_cell"]) fun _ _ _ _ _ _ us hl => match us, hl with | [_, _], _ => rfl⟩
theorem fok_is_name (T : Txt K mg) {fa : Addr} {fd : FuncData} (F : Fun K "is_name" "is_name" s_is_name fa fd) : FnOk P w K mg base CX0 1 fa fd ["text"] (spD K mg 1 f_is_name) :=
  fn_ok (kk := 0) (n := 2) (m := 1) (den := d_is_name) F sc_is_name (fun _ => rfl) rfl rfl fun cdv A outer s H E hr => by
    have hu := hr.units
    exact ⟨[], (ds_cons (ds_if (ow' := []) (dt_not (dt_chain (op_dLe hu) (op_dLe hu) de_int (de_callB call_dLen T.n_len PySem.boot_len (da_br (de_var (pv 0)) da_nilB)) (de_globI rfl T.c_LONGEST_NAME.choose_spec))) (ds_one (ds_ret de_bl rfl rfl rfl)) (ds_nil (by decide)) rfl) (ds_cons (ds_for (owl := []) (ow' := []) (ks := [1]) PassesOwn.never rfl (di_seq (de_var (pv 0))) (dg_name (pg_name (i := 1) sc_is_name.nd rfl (by first | exact Or.inl rfl | exact Or.inr rfl))) (ds_cons (ds_if (ow' := []) (dt_cmp (op_dNotIn hu) (de_var (pv 1)) (de_globS rfl T.c_SIGNS.choose_spec) rfl) (ds_one (ds_ret de_bl rfl rfl rfl)) (ds_nil (by decide)) rfl) (ds_nil (by decide))) rfl rfl rfl rfl rfl rfl) (ds_one (ds_ret de_bl rfl rfl rfl))))⟩
theorem ok_is_name (T : Txt K mg) : Cal P w K mg base CX0 "is_name" 1 1 f_is_name := by
  obtain ⟨fa, fd, F, hm⟩ := T.f_is_name
  exact ⟨fa, fd, ["text"], fok_is_name T F, hm, F.kp, F.binds (ps := ["text"]) fun _ _ _ _ _ _ us hl => match us, hl with | [_], _ => rfl⟩
theorem fok_read_figures (T : Txt K mg) {fa : Addr} {fd : FuncData} (F : Fun K "read_figures" "read_figures" s_read_figures fa fd) : FnOk P w K mg base CX0 1 fa fd ["text"] (spD K mg 1 f_read_figures) :=
  fn_ok (kk := 0) (n := 2) (m := 1) (den := d_read_figures) F sc_read_figures (fun _ => rfl) rfl rfl fun cdv A outer s H E hr => by
    have hu := hr.units
    exact ⟨[], (ds_cons (ds_if (ow' := []) (dt_not (dt_chain (op_dLe hu) (op_dLe hu) de_int (de_callB call_dLen T.n_len PySem.boot_len (da_br (de_var (pv 0)) da_nilB)) (de_globI rfl T.c_LONGEST_NUMBER.choose_spec))) (ds_one (ds_ret de_non rfl rfl rfl)) (ds_nil (by decide)) rfl) (ds_cons (ds_for (owl := []) (ow' := []) (ks := [1]) PassesOwn.never rfl (di_seq (de_var (pv 0))) (dg_name (pg_name (i := 1) sc_read_figures.nd rfl (by first | exact Or.inl rfl | exact Or.inr rfl))) (ds_cons (ds_if (ow' := []) (dt_cmp (op_dNotIn hu) (de_var (pv 1)) (de_globS rfl T.c_FIGURES.choose_spec) rfl) (ds_one (ds_ret de_non rfl rfl rfl)) (ds_nil (by decide)) rfl) (ds_nil (by decide))) rfl rfl rfl rfl rfl rfl) (ds_cons (ds_if (ow' := []) (dt_w (dw_and (c := .Name "a" ⟨0, 0, 0, 0⟩) (pos2 := ⟨0, 0, 0, 0⟩) (dt_cmp (op_dEq hu) (de_ix hu (de_var (pv 0)) de_int (fun _ _ => rfl)) de_str (nomark _)) (dw_and1 (dt_cmp (op_dGt hu) (de_callB call_dLen T.n_len PySem.boot_len (da_br (de_var (pv 0)) da_nilB)) de_int (nomark _))))) (ds_one (ds_ret de_non rfl rfl rfl)) (ds_nil (by decide)) rfl) (ds_one (ds_ret (de_callTy call_dIntOf T.n_int (by decide +kernel) (da_br (de_var (pv 0)) da_nilB)) rfl rfl rfl)))))⟩
theorem ok_read_figures (T : Txt K mg) : Cal P w K mg base CX0 "read_figures" 1 1 f_read_figures := by
  obtain ⟨fa, fd, F, hm⟩ := T.f_read_figures
  exact ⟨fa, fd, ["text"], fok_read_figures T F, hm, F.kp, F.binds (ps := ["text"]) fun _ _ _ _ _ _ us hl => match us, hl with | [_], _ => rfl⟩
theorem fok_read_number (T : Txt K mg) {fa : Addr} {fd : FuncData} (F : Fun K "read_number" "read_number" s_read_number fa fd) : FnOk P w K mg base CX0 2 fa fd ["text"] (spD K mg 1 f_read_number) :=
  fn_ok (kk := 1) (n := 2) (m := 1) (den := d_read_number) F sc_read_number (fun _ => rfl) rfl rfl fun cdv A outer s H E hr => by
    have hu := hr.units
    exact ⟨[], (ds_cons (ds_if (ow' := []) (dt_not (dt_val (de_m1 PySem.F.slot_str_startswith PySem.F.type_str_startswith mt_dStarts (de_var (pv 0)) de_str))) (ds_one (ds_ret (de_call (ok_read_figures T) (hr.mono (by decide)) (da_br (de_var (pv 0)) da_nilB)) rfl rfl rfl)) (ds_nil (by decide)) rfl) (ds_cons (ds_asg (ow' := [1]) (de_call (ok_read_figures T) (hr.mono (by decide)) (da_br (de_sl (de_var (pv 0)) (do_some de_int) do_none) da_nilB)) (dg_name (pg_name (i := 1) sc_read_number.nd rfl (by first | exact Or.inl rfl | exact Or.inr rfl))) rfl rfl rfl) (ds_cons (ds_if (ow' := [1]) (dt_w (dw_or (dt_cmp op_dIsN (de_var (pv 1)) de_non (nomark _)) (dw_or1 (dt_cmp (op_dEq hu) (de_var (pv 1)) de_int (nomark _))))) (ds_one (ds_ret de_non rfl rfl rfl)) (ds_nil (by decide)) rfl) (ds_one (ds_ret (de_un un_dNeg (de_var (pv 1))) rfl rfl rfl)))))⟩
theorem ok_read_number (T : Txt K mg) : Cal P w K mg base CX0 "read_number" 2 1 f_read_number := by
  obtain ⟨fa, fd, F, hm⟩ := T.f_read_number
  exact ⟨fa, fd, ["text"], fok_read_number T F, hm, F.kp, F.binds (ps := ["text"]) fun _ _ _ _ _ _ us hl => match us, hl with | [_], _ => rfl⟩
theorem fok__law_cell_at (T : Txt K mg) {fa : Addr} {fd : FuncData} (F : Fun K "_law_cell_at" "_law_cell_at" s__law_cell_at fa fd) : FnOk P w K mg base CX0 1 fa fd ["_law_script", "_law_k"] (spD K mg 2 f__law_cell_at) :=
  fn_ok (kk := 0) (n := 2) (m := 2) (den := d__law_cell_at) F sc__law_cell_at (fun _ => rfl) rfl rfl fun cdv A outer s H E hr => by
    have hu := hr.units
    exact ⟨[], (ds_cons (ds_if (ow' := []) (dt_cmp (op_dLt hu) (de_var (pv 1)) (de_callB call_dLen T.n_len PySem.boot_len (da_br (de_var (pv 0)) da_nilB)) (nomark _)) (ds_one (ds_ret (de_imm (de_ix hu (de_var (pv 0)) (de_var (pv 1)) (fun _ _ => rfl))) rfl rfl rfl)) (ds_nil (by decide)) rfl) (ds_one (ds_ret de_int rfl rfl rfl)))⟩
theorem ok__law_cell_at (T : Txt K mg) : Cal P w K mg base CX0 "_law_cell_at" 1 2 f__law_cell_at := by
  obtain ⟨fa, fd, F, hm⟩ := T.f__law_cell_at
  exact ⟨fa, fd, ["_law_script", "_law_k"], fok__law_cell_at T F, hm, F.kp, F.binds (ps := ["_law_script", "_law_k"]) fun _ _ _ _ _ _ us hl => match us, hl with | [_, _], _ => rfl⟩
theorem fok__law_is_name (T : Txt K mg) {fa : Addr} {fd : FuncData} (F : Fun K "_law_is_name" "_law_is_name" s__law_is_name fa fd) : FnOk P w K mg base CX0 1 fa fd ["_law_text"] (spD K mg 1 f__law_is_name) :=
  fn_ok (kk := 0) (n := 2) (m := 1) (den := d__law_is_name) F sc__law_is_name (fun _ => rfl) rfl rfl fun cdv A outer s H E hr => by
    have hu := hr.units
    exact ⟨[], (ds_cons (ds_if (ow' := []) (dt_w (dw_or (dt_cmp (op_dLt hu) (de_callB call_dLen T.n_len PySem.boot_len (da_br (de_var (pv 0)) da_nilB)) de_int (nomark _)) (dw_or1 (dt_cmp (op_dGt hu) (de_callB call_dLen T.n_len PySem.boot_len (da_br (de_var (pv 0)) da_nilB)) de_int (nomark _))))) (ds_one (ds_ret de_bl rfl rfl rfl)) (ds_nil (by decide)) rfl) (ds_one (ds_ret (de_cmp (op_dNotIn hu) de_bl (de_comp [] rfl sc__law_is_name.nd (di_seq (de_var (pv 0))) (blkOk_by (own := [("_law_sign", 1)]) (N := N__law_is_name) (sc := defScope s__law_is_name) (by decide +kernel)) rfl (fun _ _ _ _ _ => (dg_name (pg_name (i := 1) sc__law_is_name.nd rfl (by first | exact Or.inl rfl | exact Or.inr rfl)))) blk_pts0 (fun _ _ _ _ _ => (de_cmp (op_dInS hu) (de_var (pv 1)) de_str rfl))) rfl) rfl rfl rfl)))⟩
theorem ok__law_is_name (T : Txt K mg) : Cal P w K mg base CX0 "_law_is_name" 1 1 f__law_is_name := by
  obtain ⟨fa, fd, F, hm⟩ := T.f__law_is_name
  exact ⟨fa, fd, ["_law_text"], fok__law_is_name T F, hm, F.kp, F.binds (ps := ["_law_text"]) fun _ _ _ _ _ _ us hl => match us, hl with | [_], _ => rfl⟩
theorem fok__law_number (T : Txt K mg) {fa : Addr} {fd : FuncData} (F : Fun K "_law_number" "_law_number" s__law_number fa fd) : FnOk P w K mg base CX0 1 fa fd ["_law_text"] (spD K mg 1 f__law_number) :=
  fn_ok (kk := 0) (n := 4) (m := 1) (den := d__law_number) F sc__law_number (fun _ => rfl) rfl rfl fun cdv A outer s H E hr => by
    have hu := hr.units
    exact ⟨[], (ds_cons (ds_asgB (ow' := []) (de_var (pv 0)) (dg_name (pg_name (i := 1) sc__law_number.nd rfl (by first | exact Or.inl rfl | exact Or.inr rfl))) rfl rfl rfl rfl rfl) (ds_cons (ds_if (ow' := []) (dt_cmp (op_dEq hu) (de_sl (de_var (pv 0)) do_none (do_some de_int)) de_str (nomark _)) (ds_cons (ds_asg (ow' := [1]) (de_sl (de_var (pv 0)) (do_some de_int) do_none) (dg_name (pg_name (i := 1) sc__law_number.nd rfl (by first | exact Or.inl rfl | exact Or.inr rfl))) rfl rfl rfl) (ds_nil (by decide))) (ds_nil (by decide)) rfl) (ds_cons (ds_if (ow' := []) (dt_w (dw_or (dt_cmp (op_dLt hu) (de_callB call_dLen T.n_len PySem.boot_len (da_br (de_var (pv 1)) da_nilB)) de_int (nomark _)) (dw_or (dt_cmp (op_dGt hu) (de_callB call_dLen T.n_len PySem.boot_len (da_br (de_var (pv 1)) da_nilB)) de_int (nomark _)) (dw_or1 (dt_cmp (op_dInS hu) de_bl (de_comp [] rfl sc__law_number.nd (di_seq (de_var (pv 1))) (blkOk_by (own := [("_law_sign", 2)]) (N := N__law_number) (sc := defScope s__law_number) (by decide +kernel)) rfl (fun _ _ _ _ _ => (dg_name (pg_name (i := 2) sc__law_number.nd rfl (by first | exact Or.inl rfl | exact Or.inr rfl)))) blk_pts0 (fun _ _ _ _ _ => (de_cmp (op_dInS hu) (de_var (pv 2)) de_str rfl))) rfl))))) (ds_one (ds_ret de_non rfl rfl rfl)) (ds_nil (by decide)) rfl) (ds_cons (ds_if (ow' := []) (dt_w (dw_and (c := .Name "a" ⟨0, 0, 0, 0⟩) (pos2 := ⟨0, 0, 0, 0⟩) (dt_cmp (op_dEq hu) (de_ix hu (de_var (pv 1)) de_int (fun _ _ => rfl)) de_str (nomark _)) (dw_and1 (dt_cmp (op_dNe hu) (de_var (pv 0)) de_str (nomark _))))) (ds_one (ds_ret de_non rfl rfl rfl)) (ds_nil (by decide)) rfl) (ds_cons (ds_asg (ow' := [3]) de_int (dg_name (pg_name (i := 3) sc__law_number.nd rfl (by first | exact Or.inl rfl | exact Or.inr rfl))) rfl rfl rfl) (ds_cons (ds_for (owl := [3]) (ow' := [3]) (ks := [2]) PassesOwn.never rfl (di_seq (de_var (pv 1))) (dg_name (pg_name (i := 2) sc__law_number.nd rfl (by first | exact Or.inl rfl | exact Or.inr rfl))) (ds_cons (ds_asg (ow' := [3]) (de_op op_dAdd (de_op op_dMul2 (de_var (pv 3)) de_int) (de_index rfl takes0 de_str (de_var (pv 2)))) (dg_name (pg_name (i := 3) sc__law_number.nd rfl (by first | exact Or.inl rfl | exact Or.inr rfl))) rfl rfl rfl) (ds_nil (by decide))) rfl rfl rfl rfl rfl rfl) (ds_cons (ds_if (ow' := [3]) (dt_cmp (op_dEq hu) (de_ix hu (de_var (pv 0)) de_int (fun _ _ => rfl)) de_str (nomark _)) (ds_one (ds_ret (de_op op_dSub de_int (de_var (pv 3))) rfl rfl rfl)) (ds_nil (by decide)) rfl) (ds_one (ds_ret (de_imm (de_var (pv 3))) rfl rfl rfl)))))))))⟩
theorem ok__law_number (T : Txt K mg) : Cal P w K mg base CX0 "_law_number" 1 1 f__law_number := by
  obtain ⟨fa, fd, F, hm⟩ := T.f__law_number
  exact ⟨fa, fd, ["_law_text"], fok__law_number T F, hm, F.kp, F.binds (ps := ["_law_text"]) fun _ _ _ _ _ _ us hl => match us, hl with | [_], _ => rfl⟩
theorem fok_law (T : Txt K mg) {fa : Addr} {fd : FuncData} (F : Fun K "law" "law" s_law fa fd) : FnOk P w K mg base CX0 3 fa fd ["_law_script"] (spD K mg 1 f_law) :=
  fn_ok (kk := 2) (n := 7) (m := 1) (den := d_law) F sc_law (fun _ => rfl) rfl rfl fun cdv A outer s H E hr => by
    have hu := hr.units
    exact ⟨[], (ds_cons (ds_asgB (ow' := []) (de_ix hu (de_lst (da_own de_str (da_own de_str (da_own de_str da_nil (by decide)) (by decide)) (by decide))) (de_op op_dMod (de_call (ok__law_cell_at T) (hr.mono (by decide)) (da_br (de_var (pv 0)) (da_br de_int da_nilB))) de_int) (fun _ _ => rfl)) (dg_name (pg_name (i := 1) sc_law.nd rfl (by first | exact Or.inl rfl | exact Or.inr rfl))) rfl rfl rfl rfl rfl) (ds_cons (ds_asg (ow' := [2]) (de_m1 PySem.F.slot_str_join PySem.F.type_str_join mt_dJoin de_str (de_comp [] rfl sc_law.nd (di_seq (de_sl (de_var (pv 0)) (do_some de_int) (do_some de_int))) (blkOk_by (own := [("_law_cell", 3)]) (N := N_law) (sc := defScope s_law) (by decide +kernel)) rfl (fun _ _ _ _ _ => (dg_name (pg_name (i := 3) sc_law.nd rfl (by first | exact Or.inl rfl | exact Or.inr rfl)))) blk_pts0 (fun _ _ _ _ _ => (de_imm (de_ix hu (de_var (pv 1)) (de_op op_dMod (de_var (pv 3)) (de_callB call_dLen T.n_len PySem.boot_len (da_br (de_var (pv 1)) da_nilB))) (fun _ _ => rfl)))))) (dg_name (pg_name (i := 2) sc_law.nd rfl (by first | exact Or.inl rfl | exact Or.inr rfl))) rfl rfl rfl) (ds_cons (ds_asg (ow' := [2, 4]) (de_op op_dAdd (de_op op_dSub (de_op op_dMod (de_call (ok__law_cell_at T) (hr.mono (by decide)) (da_br (de_var (pv 0)) (da_br de_int da_nilB))) (de_op op_dSub (de_op op_dMul2 de_int (de_op op_dPow de_int de_int)) de_int)) (de_op op_dPow de_int de_int)) de_int) (dg_name (pg_name (i := 4) sc_law.nd rfl (by first | exact Or.inl rfl | exact Or.inr rfl))) rfl rfl rfl) (ds_cons (ds_for (owl := [2, 4]) (ow' := [2, 4]) (ks := [5, 6]) PassesOwn.never rfl (di_seq (de_lst (da_own (de_imm (de_var (pv 2))) (da_own (de_call (ok__law_bent T) (hr.mono (by decide)) (da_br (de_var (pv 2)) (da_br (de_call (ok__law_cell_at T) (hr.mono (by decide)) (da_br (de_var (pv 0)) (da_br de_int da_nilB))) da_nilB))) (da_own (de_callTy call_dStrOf T.n_str (by decide +kernel) (da_br (de_var (pv 4)) da_nilB)) (da_own (de_call (ok__law_bent T) (hr.mono (by decide)) (da_br (de_callTy call_dStrOf T.n_str (by decide +kernel) (da_br (de_var (pv 4)) da_nilB)) (da_br de_int da_nilB))) (da_own de_str (da_own de_str (da_own de_str da_nil (by decide)) (by decide)) (by decide)) (by decide)) (by decide)) (by decide)) (by decide)))) (dg_name (pg_name (i := 5) sc_law.nd rfl (by first | exact Or.inl rfl | exact Or.inr rfl))) (ds_cons (ds_asg (ow' := [2, 4, 6]) (de_call (ok_is_name T) (hr.mono (by decide)) (da_br (de_var (pv 5)) da_nilB)) (dg_name (pg_name (i := 6) sc_law.nd rfl (by first | exact Or.inl rfl | exact Or.inr rfl))) rfl rfl rfl) (ds_cons (ds_if (ow' := [2, 4, 6]) (dt_w (dw_or (dt_not (dt_val (de_isi (n := "bool") (de_var (pv 6)) T.n_isinstance T.n_bool (by decide +kernel)))) (dw_or1 (dt_cmp (op_dNe hu) (de_var (pv 6)) (de_call (ok__law_is_name T) (hr.mono (by decide)) (da_br (de_var (pv 5)) da_nilB)) (nomark _))))) (ds_one (ds_ret de_bl rfl rfl rfl)) (ds_nil (by decide)) rfl) (ds_cons (ds_asg (ow' := [2, 4, 6]) (de_call (ok_read_number T) (hr.mono (by decide)) (da_br (de_var (pv 5)) da_nilB)) (dg_name (pg_name (i := 6) sc_law.nd rfl (by first | exact Or.inl rfl | exact Or.inr rfl))) rfl rfl rfl) (ds_cons (ds_if (ow' := [2, 4, 6]) (dt_w (dw_or (dt_val (de_isi (n := "bool") (de_var (pv 6)) T.n_isinstance T.n_bool (by decide +kernel))) (dw_or1 (dt_cmp (op_dNe hu) (de_var (pv 6)) (de_call (ok__law_number T) (hr.mono (by decide)) (da_br (de_var (pv 5)) da_nilB)) (nomark _))))) (ds_one (ds_ret de_bl rfl rfl rfl)) (ds_nil (by decide)) rfl) (ds_nil (by decide)))))) rfl rfl rfl rfl rfl rfl) (ds_one (ds_ret (de_cmp (op_dEq hu) (de_call (ok_read_number T) (hr.mono (by decide)) (da_br (de_callTy call_dStrOf T.n_str (by decide +kernel) (da_br (de_var (pv 4)) da_nilB)) da_nilB)) (de_var (pv 4)) (nomark _)) rfl rfl rfl))))))⟩
theorem ok_law (T : Txt K mg) : Cal P w K mg base CX0 "law" 3 1 f_law := by
  obtain ⟨fa, fd, F, hm⟩ := T.f_law
  exact ⟨fa, fd, ["_law_script"], fok_law T F, hm, F.kp, F.binds (ps := ["_law_script"]) fun _ _ _ _ _ _ us hl => match us, hl with | [_], _ => rfl⟩
end
theorem txt_mk {K : PySem.W.Frag} {h : Heap} {mg : Str → Option Value} (X : K.In h) (G : h.Ns mainGlobals mg) {f0 f1 f2 f3 f4 f5 f6 f7 f8 : Addr}
    {od0 an0 od1 an1 od2 an2 od3 an3 od4 an4 od5 an5 od6 an6 od7 an7 od8 an8 : Option Addr} {sl0 sl1 sl2 sl3 sl4 sl5 sl6 sl7 sl8 : Array (Option Value)} {oc0 kV0 dc0 pm0 cd0 ct0 oc1 kV1 dc1 pm1 cd1 ct1 oc2 kV2 dc2 pm2 cd2 ct2 oc3 kV3 dc3 pm3 cd3 ct3 oc4 kV4 dc4 pm4 cd4 ct4 oc5 kV5 dc5 pm5 cd5 ct5 oc6 kV6 dc6 pm6 cd6 ct6 oc7 kV7 dc7 pm7 cd7 ct7 oc8 kV8 dc8 pm8 cd8 ct8 : Value}
    (a0 : PySem.W.nsIn K mainGlobals "_law_any_sign" = some (some (.ref f0))) (l0 : K.lookup f0 = some ⟨oc0, od0, .func (PySem.W.fnOf "_law_any_sign" "_law_any_sign" (defArgs s__law_any_sign) (defBody s__law_any_sign) (defScope s__law_any_sign) .none kV0 dc0 pm0 an0 cd0 ct0), sl0⟩) (c0 : PySem.W.codeIn K cd0 "_law_any_sign" = true) (k0 : PySem.W.keepIn K (.ref f0) = true)
    (a1 : PySem.W.nsIn K mainGlobals "_law_bent" = some (some (.ref f1))) (l1 : K.lookup f1 = some ⟨oc1, od1, .func (PySem.W.fnOf "_law_bent" "_law_bent" (defArgs s__law_bent) (defBody s__law_bent) (defScope s__law_bent) .none kV1 dc1 pm1 an1 cd1 ct1), sl1⟩) (c1 : PySem.W.codeIn K cd1 "_law_bent" = true) (k1 : PySem.W.keepIn K (.ref f1) = true)
    (a2 : PySem.W.nsIn K mainGlobals "is_name" = some (some (.ref f2))) (l2 : K.lookup f2 = some ⟨oc2, od2, .func (PySem.W.fnOf "is_name" "is_name" (defArgs s_is_name) (defBody s_is_name) (defScope s_is_name) .none kV2 dc2 pm2 an2 cd2 ct2), sl2⟩) (c2 : PySem.W.codeIn K cd2 "is_name" = true) (k2 : PySem.W.keepIn K (.ref f2) = true)
    (a3 : PySem.W.nsIn K mainGlobals "read_figures" = some (some (.ref f3))) (l3 : K.lookup f3 = some ⟨oc3, od3, .func (PySem.W.fnOf "read_figures" "read_figures" (defArgs s_read_figures) (defBody s_read_figures) (defScope s_read_figures) .none kV3 dc3 pm3 an3 cd3 ct3), sl3⟩) (c3 : PySem.W.codeIn K cd3 "read_figures" = true) (k3 : PySem.W.keepIn K (.ref f3) = true)
    (a4 : PySem.W.nsIn K mainGlobals "read_number" = some (some (.ref f4))) (l4 : K.lookup f4 = some ⟨oc4, od4, .func (PySem.W.fnOf "read_number" "read_number" (defArgs s_read_number) (defBody s_read_number) (defScope s_read_number) .none kV4 dc4 pm4 an4 cd4 ct4), sl4⟩) (c4 : PySem.W.codeIn K cd4 "read_number" = true) (k4 : PySem.W.keepIn K (.ref f4) = true)
    (a5 : PySem.W.nsIn K mainGlobals "_law_cell_at" = some (some (.ref f5))) (l5 : K.lookup f5 = some ⟨oc5, od5, .func (PySem.W.fnOf "_law_cell_at" "_law_cell_at" (defArgs s__law_cell_at) (defBody s__law_cell_at) (defScope s__law_cell_at) .none kV5 dc5 pm5 an5 cd5 ct5), sl5⟩) (c5 : PySem.W.codeIn K cd5 "_law_cell_at" = true) (k5 : PySem.W.keepIn K (.ref f5) = true)
    (a6 : PySem.W.nsIn K mainGlobals "_law_is_name" = some (some (.ref f6))) (l6 : K.lookup f6 = some ⟨oc6, od6, .func (PySem.W.fnOf "_law_is_name" "_law_is_name" (defArgs s__law_is_name) (defBody s__law_is_name) (defScope s__law_is_name) .none kV6 dc6 pm6 an6 cd6 ct6), sl6⟩) (c6 : PySem.W.codeIn K cd6 "_law_is_name" = true) (k6 : PySem.W.keepIn K (.ref f6) = true)
    (a7 : PySem.W.nsIn K mainGlobals "_law_number" = some (some (.ref f7))) (l7 : K.lookup f7 = some ⟨oc7, od7, .func (PySem.W.fnOf "_law_number" "_law_number" (defArgs s__law_number) (defBody s__law_number) (defScope s__law_number) .none kV7 dc7 pm7 an7 cd7 ct7), sl7⟩) (c7 : PySem.W.codeIn K cd7 "_law_number" = true) (k7 : PySem.W.keepIn K (.ref f7) = true)
    (a8 : PySem.W.nsIn K mainGlobals "law" = some (some (.ref f8))) (l8 : K.lookup f8 = some ⟨oc8, od8, .func (PySem.W.fnOf "law" "law" (defArgs s_law) (defBody s_law) (defScope s_law) .none kV8 dc8 pm8 an8 cd8 ct8), sl8⟩) (c8 : PySem.W.codeIn K cd8 "law" = true) (k8 : PySem.W.keepIn K (.ref f8) = true)
    {tc_FIGURES : Tok} (zc_FIGURES : PySem.W.nsIn K mainGlobals "FIGURES" = some (some (.str "0123456789" tc_FIGURES)))
    {tc_LONGEST_NAME : Tok} (zc_LONGEST_NAME : PySem.W.nsIn K mainGlobals "LONGEST_NAME" = some (some (.int 12 tc_LONGEST_NAME)))
    {tc_LONGEST_NUMBER : Tok} (zc_LONGEST_NUMBER : PySem.W.nsIn K mainGlobals "LONGEST_NUMBER" = some (some (.int 60 tc_LONGEST_NUMBER)))
    {tc_SIGNS : Tok} (zc_SIGNS : PySem.W.nsIn K mainGlobals "SIGNS" = some (some (.str "abcdefghijklmnopqrstuvwxyz0123456789-" tc_SIGNS)))
    (zn_bool : PySem.W.nsIn K mainGlobals "bool" = some none)
    (zn_int : PySem.W.nsIn K mainGlobals "int" = some none)
    (zn_isinstance : PySem.W.nsIn K mainGlobals "isinstance" = some none)
    (zn_len : PySem.W.nsIn K mainGlobals "len" = some none)
    (zn_str : PySem.W.nsIn K mainGlobals "str" = some none) : Txt K mg :=
  ⟨⟨_, _, fun_mk (st := s__law_any_sign) l0 c0 k0, PySem.W.mg_of X G a0⟩, ⟨_, _, fun_mk (st := s__law_bent) l1 c1 k1, PySem.W.mg_of X G a1⟩, ⟨_, _, fun_mk (st := s_is_name) l2 c2 k2, PySem.W.mg_of X G a2⟩, ⟨_, _, fun_mk (st := s_read_figures) l3 c3 k3, PySem.W.mg_of X G a3⟩, ⟨_, _, fun_mk (st := s_read_number) l4 c4 k4, PySem.W.mg_of X G a4⟩, ⟨_, _, fun_mk (st := s__law_cell_at) l5 c5 k5, PySem.W.mg_of X G a5⟩, ⟨_, _, fun_mk (st := s__law_is_name) l6 c6 k6, PySem.W.mg_of X G a6⟩, ⟨_, _, fun_mk (st := s__law_number) l7 c7 k7, PySem.W.mg_of X G a7⟩, ⟨_, _, fun_mk (st := s_law) l8 c8 k8, PySem.W.mg_of X G a8⟩, ⟨_, PySem.W.mg_of X G zc_FIGURES⟩, ⟨_, PySem.W.mg_of X G zc_LONGEST_NAME⟩, ⟨_, PySem.W.mg_of X G zc_LONGEST_NUMBER⟩, ⟨_, PySem.W.mg_of X G zc_SIGNS⟩, PySem.W.mg_none_of X G zn_bool, PySem.W.mg_none_of X G zn_int, PySem.W.mg_none_of X G zn_isinstance, PySem.W.mg_none_of X G zn_len, PySem.W.mg_none_of X G zn_str⟩
def spLaw (K : PySem.W.Frag) : Sp := fun vs H Q _ => ∃ (a : Addr) (ns : List Int), vs = [.ref a] ∧ Lf K H a (ns.map V.int) ∧ ns.length ≤ 63 ∧ ∀ H', Q (.bl true) H'
theorem law_all {P : Program} {w : World} {K : PySem.W.Frag} {h : Heap} {mg : Str → Option Value} {fa : Addr} (T : Txt K mg) (hfa : mg "law" = some (.ref fa)) (ht : ∀ ns : List Int, ns.length ≤ 63 → f_law [.dict [(.none, .list (ns.map .int))]] = .ok (.bool true)) :
    ∃ fd : FuncData, (∀ (s : Shared) (v : Value), BindsTo s fd ⟨[v], []⟩ [("_law_script", v)]) ∧ ∀ base : Heap, K.In base → base.Ns mainGlobals mg → FnOk P w K mg base CX0 3 fa fd ["_law_script"] (spLaw K) := by
  obtain ⟨fa2, fd, F, hm⟩ := T.f_law
  cases hfa.symm.trans hm
  refine ⟨fd, fun s v => ?_, fun base _ _ => (fok_law T F).imp fun vs H Q E h => ?_⟩
  · obtain ⟨oc, od, kV, doc, pm, an, cdv, ct, osl, rfl, lk, hcd⟩ := F.ex
    exact .of_eq rfl
  · obtain ⟨a, ns, rfl, hs, hl, q⟩ := h
    obtain ⟨ds, A, r, e, z⟩ := law_sp (mg := mg) hs (ht ns hl)
    refine ⟨ds, A, r, e, ?_⟩
    cases hf : f_law ds with
    | ok d =>
      rw [hf] at z
      intro v H2 B s2 r2 n2 f2
      have z := z v H2 B s2 r2 n2 f2
      subst z
      exact q H2
    | exc x =>
      rw [hf] at z
      exact fun c dd H2 B s2 r2 => (z c dd H2 B s2 r2).elim
    | stk =>
      rw [hf] at z
      exact z
end Dg

/-! Dv: what the layer's operations come to on plain values -/
namespace Dg
open PySem PySem.Spec PyProof.Rows L2
theorem okD_int (i : Int) : okD (.int i) = true := by simp [okD, flat, PyData.plain, PyData.depth]
theorem okD_str (i : Str) : okD (.str i) = true := by simp [okD, flat, PyData.plain, PyData.depth]
theorem okD_bool (i : Bool) : okD (.bool i) = true := by simp [okD, flat, PyData.plain, PyData.depth]
theorem okD_none : okD .none = true := by simp [okD, flat, PyData.plain, PyData.depth]
theorem beq_dec {α : Type} [BEq α] [LawfulBEq α] [DecidableEq α] (a b : α) : (a == b) = decide (a = b) := by
  rw [Bool.eq_iff_iff, beq_iff_eq, decide_eq_true_eq]
@[simp] theorem dEq_int (i j : Int) : dEq (.int i) (.int j) = .ok (.bool (decide (i = j))) := by
  unfold dEq
  rw [okD_int, okD_int, if_pos (show (true && true) = true from rfl)]
  simp only [PyData.eqv, beq_dec]
@[simp] theorem dEq_str (i j : Str) : dEq (.str i) (.str j) = .ok (.bool (decide (i = j))) := by
  unfold dEq
  rw [okD_str, okD_str, if_pos (show (true && true) = true from rfl)]
  simp only [PyData.eqv, beq_dec]
@[simp] theorem dEq_bool (i j : Bool) : dEq (.bool i) (.bool j) = .ok (.bool (decide (i = j))) := by
  unfold dEq
  rw [okD_bool, okD_bool, if_pos (show (true && true) = true from rfl)]
  simp only [PyData.eqv, beq_dec]
@[simp] theorem dEq_none_none : dEq .none .none = .ok (.bool true) := by
  unfold dEq
  rw [okD_none, if_pos (show (true && true) = true from rfl)]
  simp only [PyData.eqv]
@[simp] theorem dEq_none_int (i : Int) : dEq .none (.int i) = .ok (.bool false) := by
  unfold dEq
  rw [okD_none, okD_int, if_pos (show (true && true) = true from rfl)]
  simp only [PyData.eqv]
@[simp] theorem dEq_int_none (i : Int) : dEq (.int i) .none = .ok (.bool false) := by
  unfold dEq
  rw [okD_none, okD_int, if_pos (show (true && true) = true from rfl)]
  simp only [PyData.eqv]
@[simp] theorem dNe_int (i j : Int) : dNe (.int i) (.int j) = .ok (.bool (!decide (i = j))) := by
  unfold dNe
  rw [okD_int, okD_int, if_pos (show (true && true) = true from rfl)]
  simp only [PyData.eqv, beq_dec]
@[simp] theorem dNe_str (i j : Str) : dNe (.str i) (.str j) = .ok (.bool (!decide (i = j))) := by
  unfold dNe
  rw [okD_str, okD_str, if_pos (show (true && true) = true from rfl)]
  simp only [PyData.eqv, beq_dec]
@[simp] theorem dNe_bool (i j : Bool) : dNe (.bool i) (.bool j) = .ok (.bool (!decide (i = j))) := by
  unfold dNe
  rw [okD_bool, okD_bool, if_pos (show (true && true) = true from rfl)]
  simp only [PyData.eqv, beq_dec]
@[simp] theorem dNe_none_none : dNe .none .none = .ok (.bool false) := by
  unfold dNe
  rw [okD_none, if_pos (show (true && true) = true from rfl)]
  simp only [PyData.eqv]
  rfl
@[simp] theorem dNe_none_int (i : Int) : dNe .none (.int i) = .ok (.bool true) := by
  unfold dNe
  rw [okD_none, okD_int, if_pos (show (true && true) = true from rfl)]
  simp only [PyData.eqv]
  rfl
@[simp] theorem dNe_int_none (i : Int) : dNe (.int i) .none = .ok (.bool true) := by
  unfold dNe
  rw [okD_none, okD_int, if_pos (show (true && true) = true from rfl)]
  simp only [PyData.eqv]
  rfl
theorem ord_int (i j : Int) : ordD (.int i) (.int j) = true := by simp [ordD, okD_int, PySem.W.alike, isNone]
theorem ord_str (i j : Str) : ordD (.str i) (.str j) = true := by simp [ordD, okD_str, PySem.W.alike, isNone]
@[simp] theorem dLt_int (i j : Int) : dLt (.int i) (.int j) = .ok (.bool (decide (i < j))) := by
  unfold dLt
  rw [ord_int, if_pos rfl, PySem.W.dataLt_int]
@[simp] theorem dGt_int (i j : Int) : dGt (.int i) (.int j) = .ok (.bool (decide (j < i))) := by
  unfold dGt
  rw [ord_int, if_pos rfl, PySem.W.dataLt_int]
@[simp] theorem dLe_int (i j : Int) : dLe (.int i) (.int j) = .ok (.bool (decide (i ≤ j))) := by
  unfold dLe
  rw [ord_int, if_pos rfl, PySem.W.dataLt_int]
  congr 2
  rw [Bool.eq_iff_iff]
  simp
@[simp] theorem dGe_int (i j : Int) : dGe (.int i) (.int j) = .ok (.bool (decide (j ≤ i))) := by
  unfold dGe
  rw [ord_int, if_pos rfl, PySem.W.dataLt_int]
  congr 2
  rw [Bool.eq_iff_iff]
  simp
/-- a text's order -/
def ltS (a b : Str) : Bool := decide (a.cps.toList < b.cps.toList)
@[simp] theorem dLt_str (i j : Str) : dLt (.str i) (.str j) = .ok (.bool (ltS i j)) := by
  unfold dLt
  rw [ord_str, if_pos rfl, PySem.W.dataLt_str]
  rfl
@[simp] theorem dGe_str (i j : Str) : dGe (.str i) (.str j) = .ok (.bool (!ltS i j)) := by
  unfold dGe
  rw [ord_str, if_pos rfl, PySem.W.dataLt_str]
  rfl
@[simp] theorem dAdd_int (i j : Int) : dAdd (.int i) (.int j) = .ok (.int (i + j)) := (rfl)
@[simp] theorem dSub_int (i j : Int) : dSub (.int i) (.int j) = .ok (.int (i - j)) := (rfl)
theorem dMod_int {i j : Int} (h : 0 < j) : dMod (.int i) (.int j) = .ok (.int (i % j)) := if_pos h
theorem dDiv_int {i j : Int} (h : 0 < j ∧ j < 1073741824) : dDiv (.int i) (.int j) = .ok (.int (i / j)) := if_pos h
theorem dMul_left {i j : Int} (h : smallI i = true) : dMul2 (.int i) (.int j) = .ok (.int (i * j)) := by
  unfold dMul2
  simp [h]
theorem dMul_right {i j : Int} (h : smallI j = true) : dMul2 (.int i) (.int j) = .ok (.int (i * j)) := by
  unfold dMul2
  simp [h]
@[simp] theorem dNeg_int (i : Int) : dNeg (.int i) = .ok (.int (-i)) := (rfl)
@[simp] theorem dIsN_none : dIsN .none .none = .ok (.bool true) := (rfl)
@[simp] theorem dIsN_int (i : Int) : dIsN (.int i) .none = .ok (.bool false) := (rfl)
@[simp] theorem dIsN_str (i : Str) : dIsN (.str i) .none = .ok (.bool false) := (rfl)
@[simp] theorem dIsN_list (i : List D) : dIsN (.list i) .none = .ok (.bool false) := (rfl)
@[simp] theorem dIsN_tup (i : List D) : dIsN (.tuple i) .none = .ok (.bool false) := (rfl)
@[simp] theorem tst_bool (b : Bool) : tst (.bool b) = .ok b := (rfl)
@[simp] theorem chk_int (i : Int) : chk (.int i) = .ok (.int i) := (rfl)
@[simp] theorem chk_str (i : Str) : chk (.str i) = .ok (.str i) := (rfl)
@[simp] theorem chk_bool (i : Bool) : chk (.bool i) = .ok (.bool i) := (rfl)
@[simp] theorem chk_none : chk .none = .ok .none := (rfl)
@[simp] theorem nox_ok {α : Type} (a : α) : (R.ok a).nox = R.ok a := (rfl)
@[simp] theorem nox_stk {α : Type} : (R.stk : R α).nox = R.stk := (rfl)
/-- the layer's words, opened -/
theorem vr_def (i : Nat) (ρ : Env) : vr i ρ = match ρ[i]? with
  | some (some d) => .ok d
  | _ => .stk := (rfl)
def sgn (c : Nat) : D := .str ⟨#[c]⟩
@[simp] theorem dInS_sgn (neg : Bool) (c : Nat) (t : Str) : dInS neg (.str ⟨#[c]⟩) (.str t) = .ok (.bool (neg != decide (c ∈ t.cps.toList))) := (rfl)
theorem dItems_str (s : Str) : dItems (.str s) = .ok (s.cps.toList.map sgn) := (rfl)
/-! ### statements, as steps from one outcome to the next -/
def Out.seq (o : Out) (g : Env → Out) : Out := match o with
  | .nx r => g r
  | o => o
def R.out {α : Type} (r : R α) (ρ : Env) (k : α → Out) : Out := match r with
  | .ok a => k a
  | .exc x => .exc x ρ
  | .stk => .stk
def Out.turn (o : Out) (ks : List Nat) (k : Env → Out) : Out := match o with
  | .nx r => k (kill ks r)
  | .cnt r => k (kill ks r)
  | .brk r => .nx (kill ks r)
  | o => o
@[simp] theorem seq_nx (r : Env) (g : Env → Out) : (Out.nx r).seq g = g r := (rfl)
@[simp] theorem seq_ret (d : D) (r : Env) (g : Env → Out) : (Out.ret d r).seq g = .ret d r := (rfl)
@[simp] theorem seq_brk (r : Env) (g : Env → Out) : (Out.brk r).seq g = .brk r := (rfl)
@[simp] theorem seq_cnt (r : Env) (g : Env → Out) : (Out.cnt r).seq g = .cnt r := (rfl)
@[simp] theorem seq_exc (x : Exn) (r : Env) (g : Env → Out) : (Out.exc x r).seq g = .exc x r := (rfl)
@[simp] theorem seq_stk (g : Env → Out) : (Out.stk).seq g = .stk := (rfl)
@[simp] theorem out_ok {α : Type} (a : α) (ρ : Env) (k : α → Out) : (R.ok a).out ρ k = k a := (rfl)
@[simp] theorem out_exc {α : Type} (a : Exn) (ρ : Env) (k : α → Out) : (R.exc a).out ρ k = .exc a ρ := (rfl)
@[simp] theorem out_stk {α : Type} (ρ : Env) (k : α → Out) : (R.stk).out ρ k = .stk := (rfl)
@[simp] theorem turn_nx (r : Env) (ks : List Nat) (k : Env → Out) : (Out.nx r).turn ks k = k (kill ks r) := (rfl)
@[simp] theorem turn_cnt (r : Env) (ks : List Nat) (k : Env → Out) : (Out.cnt r).turn ks k = k (kill ks r) := (rfl)
@[simp] theorem turn_brk (r : Env) (ks : List Nat) (k : Env → Out) : (Out.brk r).turn ks k = .nx (kill ks r) := (rfl)
@[simp] theorem turn_ret (d : D) (r : Env) (ks : List Nat) (k : Env → Out) : (Out.ret d r).turn ks k = .ret d r := (rfl)
@[simp] theorem turn_exc (x : Exn) (r : Env) (ks : List Nat) (k : Env → Out) : (Out.exc x r).turn ks k = .exc x r := (rfl)
@[simp] theorem turn_stk (ks : List Nat) (k : Env → Out) : (Out.stk).turn ks k = .stk := (rfl)
section
variable {c : Prop} [Decidable c] {α β : Type}
@[simp] theorem ite_seq (a b : Out) (g : Env → Out) : (if c then a else b).seq g = if c then a.seq g else b.seq g := by split <;> rfl
@[simp] theorem ite_turn (a b : Out) (ks : List Nat) (g : Env → Out) : (if c then a else b).turn ks g = if c then a.turn ks g else b.turn ks g := by split <;> rfl
@[simp] theorem ite_out (a b : R α) (ρ : Env) (k : α → Out) : (if c then a else b).out ρ k = if c then a.out ρ k else b.out ρ k := by split <;> rfl
@[simp] theorem ite_bind (a b : R α) (k : α → R β) : (if c then a else b).bind k = if c then a.bind k else b.bind k := by split <;> rfl
@[simp] theorem ite_nox (a b : R α) : (if c then a else b).nox = if c then a.nox else b.nox := by split <;> rfl
@[simp] theorem ite_outR (a b : Out) : outR (if c then a else b) = if c then outR a else outR b := by split <;> rfl
end
@[simp] theorem outR_nx (r : Env) : outR (.nx r) = .ok .none := (rfl)
@[simp] theorem outR_ret (d : D) (r : Env) : outR (.ret d r) = .ok d := (rfl)
@[simp] theorem outR_exc (x : Exn) (r : Env) : outR (.exc x r) = .exc x := (rfl)
@[simp] theorem outR_stk : outR .stk = .stk := (rfl)
section
variable (f g h : Env → R D) (c d : Env → R Bool) (l : Env → R (List D)) (u v : Env → Out) (ρ : Env) (ms is ks : List Nat) (t : D → Option (List D)) (op op2 : D → D → R D) (i : Nat)
@[simp] theorem e_seqS : seqS u v ρ = (u ρ).seq v := (rfl)
@[simp] theorem e_nxS : nxS ρ = .nx ρ := (rfl)
@[simp] theorem e_ifS : ifS c u v ρ = (c ρ).out ρ fun b => if b = true then u ρ else v ρ := by
  unfold ifS
  cases c ρ <;> rfl
@[simp] theorem e_retS : retS f ρ = (f ρ).out ρ fun d => .ret d ρ := by
  unfold retS
  cases f ρ <;> rfl
@[simp] theorem e_retN : retN ρ = .ret .none ρ := (rfl)
@[simp] theorem e_brkS : brkS ρ = .brk ρ := (rfl)
@[simp] theorem e_cntS : cntS ρ = .cnt ρ := (rfl)
@[simp] theorem e_expS : expS f ρ = (f ρ).out ρ fun _ => .nx ρ := by
  unfold expS
  cases f ρ <;> rfl
@[simp] theorem e_asg1 : asgS ms is t1 f ρ = (f ρ).out ρ fun d => .nx (setsD is [d] (kill ms ρ)) := by
  unfold asgS
  cases f ρ <;> rfl
theorem e_asgS : asgS ms is t f ρ = (f ρ).out ρ fun d => match t d with
    | some ds => .nx (setsD is ds (kill ms ρ))
    | none => .stk := by
  unfold asgS
  cases f ρ <;> rfl
@[simp] theorem e_b2 : b2 op f g ρ = (f ρ).bind fun x => (g ρ).bind fun y => op x y := (rfl)
@[simp] theorem e_b1 (op : D → R D) : b1 op f ρ = (f ρ).bind op := (rfl)
@[simp] theorem e_cst (d : D) : cst d ρ = .ok d := (rfl)
@[simp] theorem e_vr : vr i ρ = match ρ[i]? with
  | some (some d) => .ok d
  | _ => .stk := (rfl)
@[simp] theorem e_chkE : chkE f ρ = (f ρ).bind chk := (rfl)
@[simp] theorem e_tb : Dg.tb f ρ = (f ρ).bind tst := (rfl)
@[simp] theorem e_notT : notT c ρ = (c ρ).bind fun b => .ok (!b) := (rfl)
@[simp] theorem e_andT : andT c d ρ = (c ρ).bind fun b => if b = true then d ρ else .ok false := (rfl)
@[simp] theorem e_orT : orT c d ρ = (c ρ).bind fun b => if b = true then .ok true else d ρ := (rfl)
@[simp] theorem e_ifE : ifE c f g ρ = (c ρ).bind fun b => if b = true then f ρ else g ρ := (rfl)
theorem e_ch3 : ch3 op op2 f g h ρ = (f ρ).bind fun x => (g ρ).bind fun y => ((op x y).bind tst).bind fun b => if b = true then (h ρ).bind fun z => op2 y z else .ok (.bool false) := by
  unfold ch3
  cases f ρ with
  | ok x =>
    cases g ρ with
    | ok y =>
      simp only [R.bind_ok]
      cases op x y with
      | ok q =>
        cases q with
        | bool b => cases b <;> rfl
        | _ => rfl
      | exc z => rfl
      | stk => rfl
    | exc z => rfl
    | stk => rfl
  | exc z => rfl
  | stk => rfl
@[simp] theorem e_call (k : List D → R D) : call k l ρ = (l ρ).bind k := (rfl)
@[simp] theorem e_callP (k : List D → R D) : callP k l ρ = (l ρ).bind fun ds => (k ds).nox := (rfl)
@[simp] theorem e_nilL : nilL ρ = .ok [] := (rfl)
@[simp] theorem e_conL : conL f l ρ = (f ρ).bind fun d => (l ρ).bind fun ds => .ok (d :: ds) := (rfl)
@[simp] theorem e_tupE : tupE l ρ = (l ρ).bind fun ds => .ok (.tuple ds) := (rfl)
@[simp] theorem e_lstE : lstE l ρ = (l ρ).bind fun ds => .ok (.list ds) := (rfl)
@[simp] theorem e_newD : newD ρ = .ok (.dict []) := (rfl)
@[simp] theorem e_slE (a b : Env → R (Option Int)) : slE f a b ρ = (f ρ).bind fun x => (a ρ).bind fun i => (b ρ).bind fun j => dSl x i j := (rfl)
@[simp] theorem e_noO : noO ρ = .ok none := (rfl)
@[simp] theorem e_toO : toO f ρ = (f ρ).bind asI := (rfl)
@[simp] theorem e_itE : itE f ρ = (f ρ).bind dItems := (rfl)
@[simp] theorem e_rgE : rgE l ρ = (l ρ).bind dRange := (rfl)
@[simp] theorem e_mth : mth op f g ρ = (f ρ).bind fun x => match x with
  | .str _ => (g ρ).bind fun y => op x y
  | _ => .stk := (rfl)
@[simp] theorem e_yesT : yesT ρ = .ok true := (rfl)
@[simp] theorem asI_int (j : Int) : asI (.int j) = .ok (some j) := (rfl)
theorem e_forS : forS is t ks l u ρ = (l ρ).out ρ fun xs => turns is t ks u xs (kill ks ρ) := by
  unfold forS
  cases l ρ <;> rfl
theorem turns_cons1 (x : D) (xs : List D) : turns is t1 ks u (x :: xs) ρ = (u (setsD is [x] ρ)).turn ks fun r => turns is t1 ks u xs r := by
  rw [turns]
  simp only [t1]
  cases u (setsD is [x] ρ) <;> rfl
theorem turns_consN (x : D) (xs ds : List D) (h : t x = some ds) : turns is t ks u (x :: xs) ρ = (u (setsD is ds ρ)).turn ks fun r => turns is t ks u xs r := by
  rw [turns, h]
  simp only
  cases u (setsD is ds ρ) <;> rfl
theorem turns_nil : turns is t ks u [] ρ = .nx ρ := (rfl)
theorem e_compE (elt : Env → R D) : compE is t l c elt ρ = (l ρ).bind fun xs => if xs.length ≤ sizeLine then (compGo is t c elt (kill is ρ) xs).bind fun ys => .ok (.list ys) else .stk := (rfl)
end
@[simp] theorem kill_nil (ρ : Env) : kill [] ρ = ρ := (rfl)
@[simp] theorem kill_cons (i : Nat) (is : List Nat) (ρ : Env) : kill (i :: is) ρ = kill is (ρ.set i none) := (rfl)
@[simp] theorem setsD_nil (ds : List D) (ρ : Env) : setsD [] ds ρ = ρ := by cases ds <;> rfl
@[simp] theorem setsD_cons (i : Nat) (is : List Nat) (d : D) (ds : List D) (ρ : Env) : setsD (i :: is) (d :: ds) ρ = setsD is ds (ρ.set i (some d)) := (rfl)
@[simp] theorem mutS_eq (i : Nat) (ms : List Nat) (g : List D → List D → Option D) (f : Env → R (List D)) (ρ : Env) : mutS i ms g f ρ = match ρ[i]? with
  | some (some (.list xs)) => (f ρ).out ρ fun ds => match g xs ds with
    | some d => .nx ((kill ms ρ).set i (some d))
    | none => .stk
  | _ => .stk := by
  unfold mutS
  generalize ρ[i]? = o
  rcases o with _ | _ | d
  · rfl
  · rfl
  · cases d <;> first | rfl | (cases f ρ <;> rfl)
/-- a comprehension without a test, each element given -/
theorem compGo_map {is : List Nat} {t : D → Option (List D)} {elt : Env → R D} {ρ : Env} {α : Type} (en : α → D) (g : α → D) : ∀ (xs : List α), (∀ x ∈ xs, ∃ ds, t (en x) = some ds ∧ elt (setsD is ds ρ) = .ok (g x)) → compGo is t yesT elt ρ (xs.map en) = .ok (xs.map g)
  | [], _ => rfl
  | x :: xs, h => by
    obtain ⟨ds, e1, e2⟩ := h x List.mem_cons_self
    have ih := compGo_map en g xs fun y hy => h y (List.mem_cons_of_mem _ hy)
    rw [List.map_cons, compGo, e1]
    simp only [e_yesT, nox_ok, R.bind_ok, if_pos, e2, ih, List.map_cons]
/-- .. with a test -/
theorem compGo_filter {is : List Nat} {t : D → Option (List D)} {c : Env → R Bool} {elt : Env → R D} {ρ : Env} {α : Type} (en : α → D) (p : α → Bool) (g : α → D) : ∀ (xs : List α), (∀ x ∈ xs, ∃ ds, t (en x) = some ds ∧ c (setsD is ds ρ) = .ok (p x) ∧ (p x = true → elt (setsD is ds ρ) = .ok (g x))) → compGo is t c elt ρ (xs.map en) = .ok ((xs.filter p).map g)
  | [], _ => rfl
  | x :: xs, h => by
    obtain ⟨ds, e1, e2, e3⟩ := h x List.mem_cons_self
    have ih := compGo_filter en p g xs fun y hy => h y (List.mem_cons_of_mem _ hy)
    rw [List.map_cons, compGo, e1]
    simp only [e2, nox_ok, R.bind_ok]
    cases hp : p x with
    | false =>
      rw [List.filter_cons_of_neg (by rw [hp]; exact Bool.false_ne_true), if_neg Bool.false_ne_true]
      exact ih
    | true =>
      rw [List.filter_cons_of_pos hp, if_pos rfl, e3 hp]
      simp only [nox_ok, R.bind_ok, ih, List.map_cons]
/-- a loop as a fold -/
theorem turns_fold {is ks : List Nat} {t : D → Option (List D)} {body : Env → Out} {α S : Type} (en : α → D) (st : S → Env) (step : S → α → S) : ∀ (xs : List α) (s : S), (∀ s, ∀ x ∈ xs, ∃ ds, t (en x) = some ds ∧ ∃ r, (body (setsD is ds (st s)) = .nx r ∨ body (setsD is ds (st s)) = .cnt r) ∧ kill ks r = st (step s x)) → turns is t ks body (xs.map en) (st s) = .nx (st (xs.foldl step s))
  | [], s, _ => rfl
  | x :: xs, s, h => by
    obtain ⟨ds, e1, r, e2, e3⟩ := h s x List.mem_cons_self
    rw [List.map_cons, turns_consN _ _ _ _ _ _ _ _ e1]
    have ih := turns_fold en st step xs (step s x) fun s y hy => h s y (List.mem_cons_of_mem _ hy)
    rcases e2 with e2 | e2 <;> (rw [e2]; simp only [turn_nx, turn_cnt, e3, ih, List.foldl_cons])
/-- .. with what holds of the state at each turn (the items taken so far) -/
theorem turns_foldI {is ks : List Nat} {t : D → Option (List D)} {body : Env → Out} {α S : Type} (en : α → D) (st : S → Env) (step : S → α → S) (I : Nat → S → Prop) : ∀ (xs : List α) (n : Nat) (s : S), I n s → (∀ n s, ∀ x ∈ xs, I n s → I (n + 1) (step s x) ∧ ∃ ds, t (en x) = some ds ∧ ∃ r, (body (setsD is ds (st s)) = .nx r ∨ body (setsD is ds (st s)) = .cnt r) ∧ kill ks r = st (step s x)) → turns is t ks body (xs.map en) (st s) = .nx (st (xs.foldl step s)) ∧ I (n + xs.length) (xs.foldl step s)
  | [], n, s, hI, _ => ⟨rfl, hI⟩
  | x :: xs, n, s, hI, h => by
    obtain ⟨hI2, ds, e1, r, e2, e3⟩ := h n s x List.mem_cons_self hI
    rw [List.map_cons, turns_consN _ _ _ _ _ _ _ _ e1]
    obtain ⟨ih1, ih2⟩ := turns_foldI en st step I xs (n + 1) (step s x) hI2 fun n s y hy => h n s y (List.mem_cons_of_mem _ hy)
    refine ⟨?_, ?_⟩
    · rcases e2 with e2 | e2 <;> (rw [e2]; simp only [turn_nx, turn_cnt, e3, ih1, List.foldl_cons])
    · rw [List.length_cons, Nat.add_comm xs.length 1, ← Nat.add_assoc]
      exact ih2
/-- a loop that searches: it goes on where p holds, and hands back d where it doesn't -/
theorem turns_search {is ks : List Nat} {t : D → Option (List D)} {body : Env → Out} {α : Type} {ρ : Env} {d : D} (en : α → D) (p : α → Bool) : ∀ (xs : List α), (∀ x ∈ xs, ∃ ds, t (en x) = some ds ∧ (p x = true → ∃ r, (body (setsD is ds ρ) = .nx r ∨ body (setsD is ds ρ) = .cnt r) ∧ kill ks r = ρ) ∧ (p x = false → ∃ r, body (setsD is ds ρ) = .ret d r)) →
    (xs.all p = true → turns is t ks body (xs.map en) ρ = .nx ρ) ∧ (xs.all p = false → ∃ r, turns is t ks body (xs.map en) ρ = .ret d r)
  | [], _ => ⟨(fun _ => rfl), (fun h => by cases h)⟩
  | x :: xs, h => by
    obtain ⟨ds, e1, e2, e3⟩ := h x List.mem_cons_self
    obtain ⟨i1, i2⟩ := turns_search en p xs fun y hy => h y (List.mem_cons_of_mem _ hy)
    rw [List.map_cons, turns_consN _ _ _ _ _ _ _ _ e1, List.all_cons]
    cases hp : p x with
    | true =>
      obtain ⟨r, e4, e5⟩ := e2 hp
      rw [Bool.true_and]
      rcases e4 with e4 | e4 <;> (rw [e4]; simp only [turn_nx, turn_cnt, e5]; exact ⟨i1, i2⟩)
    | false =>
      obtain ⟨r, e4⟩ := e3 hp
      rw [e4, Bool.false_and]
      exact ⟨(fun z => by cases z), (fun _ => ⟨r, rfl⟩)⟩
end Dg

namespace Dg
open PySem PySem.Spec PyProof.Rows L2 NumText
theorem atI_map {α β : Type} (f : α → β) (xs : List α) (i : Int) : atI (xs.map f) i = (atI xs i).map f := by
  unfold atI
  rw [List.length_map]
  cases ixN xs.length i <;> simp
theorem atI_lt {α : Type} (xs : List α) (k : Nat) (h : k < xs.length) : atI xs k = some xs[k] := atI_nat (List.getElem?_eq_getElem h)
theorem atI_zero {α : Type} (x : α) (xs : List α) : atI (x :: xs) 0 = some x := atI_nat (j := 0) rfl
def scr (ns : List Int) : D := .dict [(.none, .list (ns.map .int))]
theorem t_cell (ns : List Int) (k : Nat) : f__law_cell_at [scr ns, .int k] = .ok (.int (ns.getD k 0)) := by
  unfold scr
  by_cases h : k < ns.length
  · simp [f__law_cell_at, runF, d__law_cell_at, startD, dLen, dIx, h, atI_map, atI_lt, ofO]
  · simp [f__law_cell_at, runF, d__law_cell_at, startD, dLen, dIx, h]
/-! ### names -/
def isSign (c : Nat) : Bool := decide (c ∈ (Str.ofString "abcdefghijklmnopqrstuvwxyz0123456789-").cps.toList)
def isName (s : Str) : Bool := decide (1 ≤ s.length ∧ s.length ≤ 12) && s.cps.toList.all isSign
theorem t_is_name (s : Str) (h : s.length ≤ sizeLine) : f_is_name [.str s] = .ok (.bool (isName s)) := by
  have L := turns_search (is := [1]) (ks := [1]) (t := t1) (ρ := [some (.str s), none]) (d := .bool false) (body := lb_is_name_1) sgn isSign s.cps.toList (fun c _ => ⟨[sgn c], rfl, fun hc => by
    have hc : c ∈ (Str.ofString "abcdefghijklmnopqrstuvwxyz0123456789-").cps.toList := of_decide_eq_true hc
    simp only [Array.mem_toList_iff] at hc
    simp [lb_is_name_1, sgn, hc], fun hc => by
    have hc : ¬ c ∈ (Str.ofString "abcdefghijklmnopqrstuvwxyz0123456789-").cps.toList := of_decide_eq_false hc
    simp only [Array.mem_toList_iff] at hc
    simp [lb_is_name_1, sgn, hc]⟩)
  unfold isName
  simp [f_is_name, runF, d_is_name, startD, e_ch3, dLen, h, e_forS, dItems_str]
  by_cases h1 : 1 ≤ s.length
  · by_cases h2 : s.length ≤ 12
    · have n1 : (1 : Int) ≤ s.length := by omega
      have n2 : ¬ (12 : Int) < s.length := by omega
      rw [if_pos n1, if_neg n2]
      cases ha : s.cps.toList.all isSign with
      | true =>
        rw [L.1 ha]
        rw [Array.all_toList] at ha
        simp [h1, h2, ha]
      | false =>
        obtain ⟨r, e⟩ := L.2 ha
        rw [e]
        rw [Array.all_toList] at ha
        simp [ha]
    · have n1 : (1 : Int) ≤ s.length := by omega
      have n2 : (12 : Int) < s.length := by omega
      rw [if_pos n1, if_pos n2]
      simp [h2]
  · have n1 : ¬ (1 : Int) ≤ s.length := by omega
    rw [if_neg n1]
    simp [h1]
theorem okD_bools (bs : List Bool) : okD (.list (bs.map .bool)) = true := by
  have a : ∀ bs : List Bool, flatL (bs.map .bool) = true := fun bs => by
    induction bs with
    | nil => rfl
    | cons b bs ih => simp [flatL, flat, ih]
  have b : ∀ bs : List Bool, PyData.plainAll (bs.map .bool) = true := fun bs => by
    induction bs with
    | nil => rfl
    | cons b bs ih => simp [PyData.plainAll, PyData.plain, ih]
  have c : ∀ bs : List Bool, PyData.depthAll (bs.map .bool) = 0 := fun bs => by
    induction bs with
    | nil => rfl
    | cons b bs ih => simp [PyData.depthAll, PyData.depth, ih]
  simp [okD, flat, a, PyData.plain, b, PyData.depth, c]
theorem any_false (bs : List Bool) : ((bs.map PyData.bool).any fun z => PyData.eqv z (.bool false)) = !bs.all id := by
  induction bs with
  | nil => rfl
  | cons b bs ih =>
    rw [List.map_cons, List.any_cons, ih, List.all_cons]
    cases b <;> simp [PyData.eqv]
theorem len_toList (s : Str) : s.cps.toList.length = s.length := by simp [Str.length]
/-- [sign in .. for sign in text] -/
theorem c_signs (t : Str) (i : Nat) (s : Str) (ρ : Env) (f : Env → R D) (hf : f ρ = .ok (.str s)) (hi : i < ρ.length) (h : s.length ≤ sizeLine) :
    compE [i] t1 (itE f) yesT (b2 (dInS false) (vr i) (cst (.str t))) ρ = .ok (.list ((s.cps.toList.map fun c => decide (c ∈ t.cps.toList)).map .bool)) := by
  have e := compGo_map (is := [i]) (t := t1) (elt := b2 (dInS false) (vr i) (cst (.str t))) (ρ := kill [i] ρ) sgn (fun c => .bool (decide (c ∈ t.cps.toList))) s.cps.toList (fun c _ => ⟨[sgn c], rfl, by
    simp [sgn, hi]⟩)
  rw [e_compE, e_itE, hf]
  simp only [R.bind_ok, dItems_str, List.length_map, len_toList, h, if_pos, e]
  rw [List.map_map]
  rfl
@[simp] theorem dInS_bools (neg : Bool) (bs : List Bool) : dInS neg (.bool false) (.list (bs.map .bool)) = .ok (.bool (neg != !bs.all id)) := by
  unfold dInS
  simp only [okD_bool, okD_bools, Bool.and_true, if_pos, any_false]
theorem t_law_is_name (s : Str) (h : s.length ≤ sizeLine) : f__law_is_name [.str s] = .ok (.bool (isName s)) := by
  have q : cp__law_is_name_1 [some (.str s), none] = _ := c_signs (Str.ofString "abcdefghijklmnopqrstuvwxyz0123456789-") 1 s [some (.str s), none] (vr 0) rfl (by simp) h
  unfold isName
  simp [f__law_is_name, runF, d__law_is_name, startD, dLen, h, q, -List.map_map]
  by_cases h1 : 1 ≤ s.length
  · by_cases h2 : s.length ≤ 12
    · have n1 : ¬ (s.length : Int) < 1 := by omega
      have n2 : ¬ (12 : Int) < s.length := by omega
      rw [if_neg n1, if_neg n2]
      have e : (fun c => decide (c ∈ (Str.ofString "abcdefghijklmnopqrstuvwxyz0123456789-").cps)) = isSign := by
        funext c
        simp [isSign]
      simp [h1, h2, e]
    · have n1 : ¬ (s.length : Int) < 1 := by omega
      have n2 : (12 : Int) < s.length := by omega
      rw [if_neg n1, if_pos n2]
      simp [h2]
  · have n1 : (s.length : Int) < 1 := by omega
    rw [if_pos n1]
    simp [h1]
/-! ### numbers -/
def isFig (c : Nat) : Bool := decide (c ∈ (Str.ofString "0123456789").cps.toList)
def figs (l : List Nat) : Option Int := if 1 ≤ l.length ∧ l.length ≤ 60 ∧ l.all isFig = true ∧ (l.head? = some 48 → l.length ≤ 1) then some (digitsVal l : Nat) else none
def optD : Option Int → D
  | some n => .int n
  | none => .none
theorem fig_iff (c : Nat) : isFig c = true ↔ 48 ≤ c ∧ c ≤ 57 := by
  unfold isFig
  rw [decide_eq_true_eq]
  have e : (Str.ofString "0123456789").cps.toList = [48, 49, 50, 51, 52, 53, 54, 55, 56, 57] := by decide +kernel
  rw [e]
  simp
  omega
theorem figs_all {l : List Nat} (h : l.all isFig = true) : AllDigits l := fun c hc => (fig_iff c).mp (List.all_eq_true.mp h c hc)
theorem one_str (c : Nat) (t : Str) (d : Nat) (ht : t.cps.toList = [d]) : ((⟨#[c]⟩ : Str) = t) ↔ c = d := by
  constructor
  · intro h
    rw [← h] at ht
    simpa using ht
  · intro h
    subst h
    exact (one_sign ht).symm
theorem t_read_figures (s : Str) (h : s.length ≤ sizeLine) : f_read_figures [.str s] = .ok (optD (figs s.cps.toList)) := by
  have L := turns_search (is := [1]) (ks := [1]) (t := t1) (ρ := [some (.str s), none]) (d := .none) (body := lb_read_figures_1) sgn isFig s.cps.toList (fun c _ => ⟨[sgn c], rfl, fun hc => by
    have hc : c ∈ (Str.ofString "0123456789").cps.toList := of_decide_eq_true hc
    simp only [Array.mem_toList_iff] at hc
    simp [lb_read_figures_1, sgn, hc], fun hc => by
    have hc : ¬ c ∈ (Str.ofString "0123456789").cps.toList := of_decide_eq_false hc
    simp only [Array.mem_toList_iff] at hc
    simp [lb_read_figures_1, sgn, hc]⟩)
  have hl := len_toList s
  have e0 : f_read_figures [.str s] = (if (1 : Int) ≤ s.length then if (60 : Int) < s.length then R.ok PyData.none else (outR ((turns [1] t1 [1] lb_read_figures_1 (List.map sgn s.cps.toList) [some (.str s), none]).seq (seqS (ifS (andT (Dg.tb (b2 dEq (b2 dIx (vr 0) (cst (.int 0))) (cst (.str "0")))) (Dg.tb (b2 dGt (call dLen (conL (vr 0) nilL)) (cst (.int 1))))) (retS (cst .none)) nxS) (retS (call dIntOf (conL (vr 0) nilL)))))).nox else R.ok .none) := by
    simp [f_read_figures, runF, d_read_figures, startD, e_ch3, dLen, h, e_forS, dItems_str]
  rw [e0]
  by_cases h1 : 1 ≤ s.length
  · by_cases h2 : s.length ≤ 60
    · have n1 : (1 : Int) ≤ s.length := by omega
      have n2 : ¬ (60 : Int) < s.length := by omega
      rw [if_pos n1, if_neg n2]
      cases ha : s.cps.toList.all isFig with
      | true =>
        rw [L.1 ha]
        obtain ⟨c, r, e⟩ : ∃ c r, s.cps.toList = c :: r := by
          cases e : s.cps.toList with
          | nil =>
            rw [e] at hl
            simp at hl
            omega
          | cons c r => exact ⟨c, r, rfl⟩
        have hi := intText_digits (x := s) (figs_all ha) (by rw [e]; simp) (by omega)
        have h640 : s.length ≤ 640 := by omega
        have h48 := one_str c (Str.ofString "0") 48 (by decide +kernel)
        have hix : dIx (.str s) (.int 0) = .ok (.str ⟨#[c]⟩) := by
          unfold dIx
          simp only [h, if_pos, e, atI_zero]
          rfl
        have hit : dIntOf [.str s] = .ok (.int (digitsVal s.cps.toList : Nat)) := by
          unfold dIntOf
          simp only [h640, if_pos, hi]
        have hln : dLen [.str s] = .ok (.int s.length) := by
          unfold dLen
          simp only [h, if_pos]
        simp only [e_seqS, seq_nx, e_ifS, e_andT, e_tb, e_b2, e_vr, e_cst, e_call, e_conL, e_nilL, e_retS, List.getElem?_cons_zero, R.bind_ok, hix, hit, hln, dEq_str, dGt_int, tst_bool, out_ok, e_nxS]
        unfold figs
        by_cases hz : c = 48
        · have hz' := h48.mpr hz
          rw [decide_eq_true hz', if_pos rfl]
          by_cases h3 : (1 : Int) < s.length
          · rw [decide_eq_true h3, if_neg (by rw [hl, e, hz]; intro z; have := z.2.2.2 rfl; omega)]
            rfl
          · rw [decide_eq_false h3, if_pos ⟨by rw [hl]; exact h1, by rw [hl]; exact h2, ha, fun _ => by rw [hl]; omega⟩]
            simp [hit, optD]
        · have hz' : ¬ ((⟨#[c]⟩ : Str) = Str.ofString "0") := fun z => hz (h48.mp z)
          rw [decide_eq_false hz', if_neg Bool.false_ne_true, if_pos ⟨by rw [hl]; exact h1, by rw [hl]; exact h2, ha, fun z => by rw [e] at z; exact absurd (Option.some.inj z) hz⟩]
          simp [hit, optD]
      | false =>
        obtain ⟨r, e⟩ := L.2 ha
        rw [e]
        unfold figs
        rw [if_neg (by intro z; rw [ha] at z; exact Bool.false_ne_true z.2.2.1)]
        rfl
    · rw [if_pos (by omega), if_pos (by omega)]
      unfold figs
      rw [if_neg (by intro z; rw [hl] at z; exact h2 z.2.1)]
      rfl
  · rw [if_neg (by omega)]
    unfold figs
    rw [if_neg (by intro z; rw [hl] at z; exact h1 z.1)]
    rfl
def numL (l : List Nat) : Option Int := if l.head? = some 45 then (match figs (l.drop 1) with
  | some n => if n = 0 then none else some (-n)
  | none => none) else figs l
theorem starts_minus (s : Str) : Txt.startswith s (Str.ofString "-") = decide (s.cps.toList.head? = some 45) := by
  have e : (Str.ofString "-").cps.toList = [45] := by decide +kernel
  have el : (Str.ofString "-").length = 1 := by decide +kernel
  unfold Txt.startswith
  rw [PySem.StrLaws.subAt_eq, e, el, ← len_toList s]
  cases s.cps.toList with
  | nil => rfl
  | cons c r =>
    rw [Bool.eq_iff_iff]
    simp
theorem cut_from (s : Str) (h : s.length ≤ sizeLine) : ∃ t : Str, dSl (.str s) (some 1) none = .ok (.str t) ∧ t.cps.toList = s.cps.toList.drop 1 ∧ t.length ≤ s.length := by
  refine ⟨cutS s (some 1) none, ?_, ?_, ?_⟩
  · unfold dSl
    simp only [h, if_pos]
  · unfold cutS
    rw [show HT.sIx s.length 0 (some 1) = min 1 s.length from HT.sIx_nat s.length 0 1, HT.sIx_none]
    show (s.cps.toList.drop (min 1 s.length)).take (s.length - min 1 s.length) = _
    rw [← len_toList s]
    cases s.cps.toList with
    | nil => rfl
    | cons c r =>
      rw [show min 1 (c :: r).length = 1 by rw [List.length_cons]; omega]
      rw [List.take_of_length_le (by rw [List.length_drop]; exact Nat.le_refl _)]
  · rw [← len_toList, ← len_toList s]
    unfold cutS
    rw [List.length_take, List.length_drop]
    omega
theorem t_read_number (s : Str) (h : s.length ≤ sizeLine) : f_read_number [.str s] = .ok (optD (numL s.cps.toList)) := by
  obtain ⟨t, ht, htl, htn⟩ := cut_from s h
  have h2 : t.length ≤ sizeLine := by omega
  have r1 := t_read_figures s h
  have r2 := t_read_figures t h2
  unfold numL
  by_cases h45 : s.cps.toList.head? = some 45
  · rw [if_pos h45, ← htl]
    have e : dStarts (.str s) (.str (Str.ofString "-")) = .ok (.bool true) := by
      unfold dStarts
      simp only [starts_minus, h45, decide_true]
    cases hf : figs t.cps.toList with
    | none =>
      rw [hf] at r2
      simp [f_read_number, runF, d_read_number, startD, e, ht, r2, optD]
    | some n =>
      rw [hf] at r2
      by_cases hn : n = 0
      · simp [f_read_number, runF, d_read_number, startD, e, ht, r2, optD, hn]
      · simp [f_read_number, runF, d_read_number, startD, e, ht, r2, optD, hn]
  · rw [if_neg h45]
    have e : dStarts (.str s) (.str (Str.ofString "-")) = .ok (.bool false) := by
      unfold dStarts
      simp only [starts_minus, h45, decide_false]
    simp [f_read_number, runF, d_read_number, startD, e, r1]
end Dg

namespace Dg
open PySem PySem.Spec PyProof.Rows L2 PySem.NumText
open PySem.StrLaws PySem.Builtin.Str in
theorem occ_full (s sub : Str) (hi : Nat) : ∀ (l : List Nat) (st : Array Nat × Nat), st.fst.size = 1 → (forIn l st (occBody s sub hi 1)).run.fst = st.fst
  | [], st, h => rfl
  | a :: l, st, h => by
    rw [List.forIn_cons]
    unfold occBody
    rw [if_neg (by intro z; have := z.1.1.1; omega)]
    exact occ_full s sub hi l _ h
open PySem.StrLaws PySem.Builtin.Str in
theorem occ_find (s sub : Str) (hi : Nat) : ∀ (l : List Nat) (free : Nat), (∀ i ∈ l, free ≤ i) → (forIn l ((#[] : Array Nat), free) (occBody s sub hi 1)).run.fst = match l.find? (fun i => decide (i + sub.length ≤ hi) && subAt s sub i) with
    | some k => #[k]
    | none => #[]
  | [], free, h => rfl
  | a :: l, free, h => by
    rw [List.forIn_cons, List.find?_cons]
    unfold occBody
    have ha : free ≤ a := h a List.mem_cons_self
    by_cases hc : a + sub.length ≤ hi ∧ subAt s sub a = true
    · have c1 : (((#[] : Array Nat), free).fst.size < 1 ∧ ((#[] : Array Nat), free).snd ≤ a) ∧ a + sub.length ≤ hi := ⟨⟨by simp, ha⟩, hc.1⟩
      rw [if_pos ⟨c1, hc.2⟩, decide_eq_true hc.1, hc.2]
      exact occ_full s sub hi l _ rfl
    · have c2 : ¬ (((((#[] : Array Nat), free).fst.size < 1 ∧ ((#[] : Array Nat), free).snd ≤ a) ∧ a + sub.length ≤ hi) ∧ subAt s sub a = true) := fun h => hc ⟨h.1.2, h.2⟩
      rw [if_neg c2]
      have e : (decide (a + sub.length ≤ hi) && subAt s sub a) = false := by
        cases hz : subAt s sub a with
        | false => rw [Bool.and_false]
        | true => rw [Bool.and_true, decide_eq_false fun z => hc ⟨z, hz⟩]
      rw [e]
      exact occ_find s sub hi l free fun i hi' => h i (List.mem_cons_of_mem _ hi')
open PySem.StrLaws PySem.Builtin.Str in
theorem index0_find (s sub : Str) : Txt.index0 s sub = (List.range' 0 (s.length + 1)).find? (fun i => decide (i + sub.length ≤ s.length) && subAt s sub i) := by
  unfold Txt.index0
  rw [occ_eq, occ_find s sub s.length _ 0 (fun _ _ => Nat.zero_le _)]
  rw [show s.length + 1 - 0 = s.length + 1 from rfl]
  cases (List.range' 0 (s.length + 1)).find? (fun i => decide (i + sub.length ≤ s.length) && subAt s sub i) <;> rfl
theorem index_fig : ∀ c, 48 ≤ c → c ≤ 57 → Txt.index0 (Str.ofString "0123456789") ⟨#[c]⟩ = some (c - 48) := by
  intro c h1 h2
  rw [index0_find]
  have e : (Str.ofString "0123456789").cps.toList = [48, 49, 50, 51, 52, 53, 54, 55, 56, 57] := by decide +kernel
  have el : (Str.ofString "0123456789").length = 10 := by decide +kernel
  have e1 : ∀ i, PySem.Builtin.Str.subAt (Str.ofString "0123456789") ⟨#[c]⟩ i = ((([48, 49, 50, 51, 52, 53, 54, 55, 56, 57] : List Nat).drop i).take 1 == [c]) := fun i => by
    rw [PySem.StrLaws.subAt_eq, e]
    rfl
  have e2 : (⟨#[c]⟩ : Str).length = 1 := rfl
  simp only [e1, el, e2]
  clear e e1 el e2
  have : c = 48 ∨ c = 49 ∨ c = 50 ∨ c = 51 ∨ c = 52 ∨ c = 53 ∨ c = 54 ∨ c = 55 ∨ c = 56 ∨ c = 57 := by omega
  rcases this with h | h | h | h | h | h | h | h | h | h <;> (subst h; rfl)
theorem digits_turns (s t : Str) (cs : List Nat) (n : Nat) (h : AllDigits cs) : turns [2] t1 [2] lb__law_number_1 (cs.map sgn) [some (.str s), some (.str t), none, some (.int n)] = .nx [some (.str s), some (.str t), none, some (.int (cs.foldl (fun acc c => acc * 10 + (c - 48)) n : Nat))] := by
  induction cs generalizing n with
  | nil => exact turns_nil _ _ _ _ _
  | cons c cs ih =>
    rw [List.map_cons, turns_cons1]
    have e : dIndex (.str (Str.ofString "0123456789")) (sgn c) = .ok (.int ((c - 48 : Nat) : Int)) := by
      unfold dIndex sgn
      simp only [index_fig c h.head.1 h.head.2]
    have e2 : dMul2 (.int (n : Int)) (.int 10) = .ok (.int ((n : Int) * 10)) := dMul_right (by decide +kernel)
    have e3 : lb__law_number_1 (setsD [2] [sgn c] [some (.str s), some (.str t), none, some (.int n)]) = .nx [some (.str s), some (.str t), some (sgn c), some (.int ((n * 10 + (c - 48) : Nat) : Int))] := by
      rw [Int.natCast_add, Int.natCast_mul]
      simp only [lb__law_number_1, e_seqS, e_asg1, e_b2, e_vr, e_cst, e_mth, setsD_cons, setsD_nil, kill_nil, List.set_cons_zero, List.set_cons_succ, List.getElem?_cons_zero, List.getElem?_cons_succ, R.bind_ok, e2, e, dAdd_int, out_ok, seq_nx, e_nxS]
      rfl
    rw [e3, turn_nx]
    exact ih (n * 10 + (c - 48)) h.tail
theorem cut_to (s : Str) (h : s.length ≤ sizeLine) : ∃ t : Str, dSl (.str s) none (some 1) = .ok (.str t) ∧ t.cps.toList = s.cps.toList.take 1 := by
  refine ⟨cutS s none (some 1), ?_, ?_⟩
  · unfold dSl
    simp only [h, if_pos]
  · unfold cutS
    rw [show HT.sIx s.length s.length (some 1) = min 1 s.length from HT.sIx_nat s.length s.length 1, HT.sIx_none]
    show (s.cps.toList.drop 0).take (min 1 s.length - 0) = _
    rw [← len_toList s, List.drop_zero]
    cases s.cps.toList with
    | nil => rfl
    | cons c r =>
      rw [show min 1 (c :: r).length - 0 = 1 by rw [List.length_cons]; omega]
theorem head_minus (s t : Str) (h : t.cps.toList = s.cps.toList.take 1) : (t = Str.ofString "-") ↔ s.cps.toList.head? = some 45 := by
  have e : (Str.ofString "-").cps.toList = [45] := by decide +kernel
  constructor
  · intro z
    rw [z, e] at h
    cases hs : s.cps.toList with
    | nil =>
      rw [hs] at h
      cases h
    | cons c r =>
      rw [hs] at h
      injection h with h1
      rw [h1]
      rfl
  · intro z
    cases hs : s.cps.toList with
    | nil =>
      rw [hs] at z
      cases z
    | cons c r =>
      rw [hs] at z h
      injection z with z
      have : t.cps.toList = [45] := by rw [h, z]; rfl
      rw [one_sign this]
      exact (one_sign e).symm
/-- what stands behind the cut of the line -/
def coreL (s t : List Nat) : Option Int := if 1 ≤ t.length ∧ t.length ≤ 60 ∧ t.all isFig = true ∧ (t.head? = some 48 → s = [48]) then some (if s.head? = some 45 then 0 - (digitsVal t : Nat) else (digitsVal t : Nat)) else none
def restN : Env → Out := (seqS (ifS (orT (Dg.tb (b2 dLt (call dLen (conL (vr 1) nilL)) (cst (.int 1)))) (orT (Dg.tb (b2 dGt (call dLen (conL (vr 1) nilL)) (cst (.int 60)))) (Dg.tb (b2 (dInS false) (cst (.bool false)) cp__law_number_1)))) (retS (cst .none)) nxS) (seqS (ifS (andT (Dg.tb (b2 dEq (b2 dIx (vr 1) (cst (.int 0))) (cst (.str "0")))) (Dg.tb (b2 dNe (vr 0) (cst (.str "0"))))) (retS (cst .none)) nxS) (seqS (asgS [] [3] t1 (cst (.int 0))) (seqS (forS [2] t1 [2] (itE (vr 1)) lb__law_number_1) (seqS (ifS (Dg.tb (b2 dEq (b2 dIx (vr 0) (cst (.int 0))) (cst (.str "-")))) (retS (b2 dSub (cst (.int 0)) (vr 3))) nxS) (retS (chkE (vr 3))))))))
theorem dLen_str (s : Str) (h : s.length ≤ sizeLine) : dLen [.str s] = .ok (.int s.length) := by
  unfold dLen
  simp only [h, if_pos]
theorem dIx_str0 (s : Str) (c : Nat) (r : List Nat) (h : s.length ≤ sizeLine) (e : s.cps.toList = c :: r) : dIx (.str s) (.int 0) = .ok (.str ⟨#[c]⟩) := by
  unfold dIx
  simp only [h, if_pos, e, atI_zero]
  rfl
theorem cons_of_len (s : Str) (h : 1 ≤ s.length) : ∃ c r, s.cps.toList = c :: r := by
  have hl := len_toList s
  cases e : s.cps.toList with
  | nil =>
    rw [e] at hl
    simp at hl
    omega
  | cons c r => exact ⟨c, r, rfl⟩
theorem str_lit (s : Str) (t : Str) : s = t ↔ s.cps.toList = t.cps.toList := by
  constructor
  · intro h
    rw [h]
  · intro h
    cases s with
    | mk a =>
      cases t with
      | mk b =>
        have h' : a = b := Array.toList_inj.mp h
        rw [h']
theorem rest_ok (s t : Str) (hs : s.length ≤ sizeLine) (ht : t.length ≤ sizeLine) (hst : 1 ≤ t.length → 1 ≤ s.length) : outR (restN [some (.str s), some (.str t), none, none]) = .ok (optD (coreL s.cps.toList t.cps.toList)) := by
  have q : cp__law_number_1 [some (.str s), some (.str t), none, none] = _ := c_signs (Str.ofString "0123456789") 2 t [some (.str s), some (.str t), none, none] (vr 1) rfl (by simp) ht
  have q2 : (t.cps.toList.map fun c => decide (c ∈ (Str.ofString "0123456789").cps.toList)) = t.cps.toList.map isFig := rfl
  rw [q2] at q
  have hl := len_toList t
  have e0 : (Str.ofString "0").cps.toList = [48] := by decide +kernel
  have em : (Str.ofString "-").cps.toList = [45] := by decide +kernel
  unfold restN
  simp only [e_seqS, e_ifS, e_orT, e_tb, e_b2, e_vr, e_cst, e_call, e_conL, e_nilL, List.getElem?_cons_zero, List.getElem?_cons_succ, R.bind_ok, dLen_str t ht, q, dInS_bools, tst_bool, dLt_int, dGt_int, Bool.false_bne, List.all_map]
  have eid : (id ∘ isFig) = isFig := rfl
  rw [eid]
  unfold coreL
  by_cases h1 : 1 ≤ t.length
  · rw [decide_eq_false (show ¬ (t.length : Int) < 1 by omega), if_neg Bool.false_ne_true]
    by_cases h2 : t.length ≤ 60
    · rw [decide_eq_false (show ¬ (60 : Int) < t.length by omega), if_neg Bool.false_ne_true]
      cases ha : t.cps.toList.all isFig with
      | false =>
        simp only [Bool.not_false, out_ok, if_pos, e_retS, e_cst, seq_ret, outR_ret]
        rw [if_neg (by intro z; exact Bool.false_ne_true z.2.2.1)]
        rfl
      | true =>
        obtain ⟨c, r, e⟩ := cons_of_len t h1
        obtain ⟨c', r', e'⟩ := cons_of_len s (hst h1)
        have h48 := one_str c (Str.ofString "0") 48 e0
        have h45 := one_str c' (Str.ofString "-") 45 em
        have hs0 := str_lit s (Str.ofString "0")
        rw [e0] at hs0
        have tr := digits_turns s t t.cps.toList 0 (figs_all ha)
        have hv : (t.cps.toList.foldl (fun acc c => acc * 10 + (c - 48)) 0) = digitsVal t.cps.toList := rfl
        rw [hv] at tr
        have z0 : ((0 : Nat) : Int) = 0 := rfl
        rw [z0] at tr
        have tl : ∀ k : Env → Out, k = (seqS (asgS [] [3] t1 (cst (.int 0))) (seqS (forS [2] t1 [2] (itE (vr 1)) lb__law_number_1) (seqS (ifS (Dg.tb (b2 dEq (b2 dIx (vr 0) (cst (.int 0))) (cst (.str "-")))) (retS (b2 dSub (cst (.int 0)) (vr 3))) nxS) (retS (chkE (vr 3)))))) → outR (k [some (.str s), some (.str t), none, none]) = R.ok (optD (some (if s.cps.toList.head? = some 45 then 0 - (digitsVal t.cps.toList : Nat) else (digitsVal t.cps.toList : Nat)))) := by
          intro k hk
          rw [hk]
          clear hk
          simp only [e_nxS, seq_nx, e_b2, e_vr, e_cst, e_tb, List.getElem?_cons_zero, List.getElem?_cons_succ, R.bind_ok, dIx_str0 s c' r' hs e', dEq_str, tst_bool, e_seqS, e_ifS, e_retS, e_asg1, e_forS, e_itE, dItems_str, out_ok, setsD_cons, setsD_nil, kill_nil, kill_cons, List.set_cons_zero, List.set_cons_succ, tr, dSub_int, e_chkE, chk_int]
          by_cases hm : c' = 45
          · have : s.cps.toList.head? = some 45 := by rw [e', hm]; rfl
            simp [h45.mpr hm, this, optD]
          · have : ¬ s.cps.toList.head? = some 45 := by rw [e']; intro z; exact hm (Option.some.inj z)
            have h45' : ¬ ((⟨#[c']⟩ : Str) = Str.ofString "-") := fun z => hm (h45.mp z)
            simp [h45', this, optD]
        have tl := tl _ rfl
        revert tl
        generalize (seqS (asgS [] [3] t1 (cst (.int 0))) (seqS (forS [2] t1 [2] (itE (vr 1)) lb__law_number_1) (seqS (ifS (Dg.tb (b2 dEq (b2 dIx (vr 0) (cst (.int 0))) (cst (.str "-")))) (retS (b2 dSub (cst (.int 0)) (vr 3))) nxS) (retS (chkE (vr 3)))))) = tail
        intro tl
        simp only [Bool.not_true, out_ok, if_neg Bool.false_ne_true, e_nxS, seq_nx, e_seqS, e_ifS, e_andT, e_tb, e_b2, e_vr, e_cst, List.getElem?_cons_zero, List.getElem?_cons_succ, R.bind_ok, dIx_str0 t c r ht e, dEq_str, dNe_str, tst_bool]
        by_cases hc : c = 48
        · rw [decide_eq_true (h48.mpr hc), if_pos rfl]
          by_cases hz : s.cps.toList = [48]
          · rw [decide_eq_true (hs0.mpr hz), if_pos ⟨by rw [hl]; exact h1, by rw [hl]; exact h2, trivial, fun _ => hz⟩]
            simp only [Bool.not_true, out_ok, if_neg Bool.false_ne_true, seq_nx]
            exact tl
          · rw [decide_eq_false (fun z => hz (hs0.mp z)), if_neg (by intro z; exact hz (z.2.2.2 (by rw [e, hc]; rfl)))]
            simp only [Bool.not_false, out_ok, if_pos, e_retS, e_cst, seq_ret, outR_ret]
            rfl
        · rw [decide_eq_false (fun z => hc (h48.mp z)), if_neg Bool.false_ne_true, if_pos ⟨by rw [hl]; exact h1, by rw [hl]; exact h2, trivial, fun z => by rw [e] at z; exact absurd (Option.some.inj z) hc⟩]
          simp only [out_ok, if_neg Bool.false_ne_true, seq_nx]
          exact tl
    · rw [decide_eq_true (show (60 : Int) < t.length by omega), if_pos rfl]
      simp only [out_ok, if_pos, e_retS, e_cst, seq_ret, outR_ret]
      rw [if_neg (by intro z; rw [hl] at z; exact h2 z.2.1)]
      rfl
  · rw [decide_eq_true (show (t.length : Int) < 1 by omega), if_pos rfl]
    simp only [out_ok, if_pos, e_retS, e_cst, seq_ret, outR_ret]
    rw [if_neg (by intro z; rw [hl] at z; exact h1 z.1)]
    rfl
theorem t_law_number (s : Str) (h : s.length ≤ sizeLine) : f__law_number [.str s] = .ok (optD (if s.cps.toList.head? = some 45 then coreL s.cps.toList (s.cps.toList.drop 1) else coreL s.cps.toList s.cps.toList)) := by
  obtain ⟨t, ht, htl, htn⟩ := cut_from s h
  obtain ⟨u, hu, hul⟩ := cut_to s h
  have hm := head_minus s u hul
  have e0 : d__law_number = seqS (asgS [] [1] t1 (vr 0)) (seqS (ifS (Dg.tb (b2 dEq (slE (vr 0) noO (toO (cst (.int 1)))) (cst (.str "-")))) (seqS (asgS [] [1] t1 (slE (vr 0) (toO (cst (.int 1))) noO)) nxS) nxS) restN) := rfl
  have nx : ∀ t : Str, t.length ≤ sizeLine → (1 ≤ t.length → 1 ≤ s.length) → (outR (restN [some (.str s), some (.str t), none, none])).nox = .ok (optD (coreL s.cps.toList t.cps.toList)) := fun t ht hst => by
    rw [rest_ok s t h ht hst]
    rfl
  have n1 := nx s h (fun z => z)
  have n2 := nx t (by omega) (fun z => by omega)
  rw [htl] at n2
  simp only [f__law_number, runF, startD, e0, List.map_cons, List.map_nil, List.length_cons, List.length_nil, List.cons_append, List.nil_append, List.replicate]
  simp only [e_seqS, e_asg1, e_ifS, e_tb, e_b2, e_vr, e_cst, e_slE, e_noO, e_toO, asI_int, List.getElem?_cons_zero, R.bind_ok, out_ok, setsD_cons, setsD_nil, kill_nil, List.set_cons_zero, List.set_cons_succ, seq_nx, hu, ht, dEq_str, tst_bool]
  by_cases hd : s.cps.toList.head? = some 45
  · rw [if_pos hd, decide_eq_true (hm.mpr hd), if_pos rfl]
    simp only [seq_nx, e_nxS]
    exact n2
  · rw [if_neg hd, decide_eq_false (fun z => hd (hm.mp z)), if_neg Bool.false_ne_true]
    simp only [seq_nx, e_nxS]
    exact n1
theorem num_same (l : List Nat) : (if l.head? = some 45 then coreL l (l.drop 1) else coreL l l) = numL l := by
  unfold numL
  by_cases h : l.head? = some 45
  · rw [if_pos h, if_pos h]
    unfold coreL figs
    generalize hr : l.drop 1 = r
    by_cases hc : 1 ≤ r.length ∧ r.length ≤ 60 ∧ r.all isFig = true
    · by_cases h48 : r.head? = some 48
      · have hl : l ≠ [48] := by
          intro z
          rw [z] at h
          cases h
        rw [if_neg (by intro z; exact hl (z.2.2.2 h48))]
        by_cases h1 : r.length ≤ 1
        · rw [if_pos ⟨hc.1, hc.2.1, hc.2.2, fun _ => h1⟩]
          have : r = [48] := by
            cases r with
            | nil => cases h48
            | cons c q =>
              cases q with
              | nil =>
                have e := Option.some.inj h48
                rw [e]
              | cons c2 q2 => simp at h1
          rw [this]
          rfl
        · rw [if_neg (by intro z; exact h1 (z.2.2.2 h48))]
      · have hv : digitsVal r ≠ 0 := by
          cases r with
          | nil => exact absurd hc.1 (by decide)
          | cons c q =>
            have hc0 : 49 ≤ c := by
              have := (fig_iff c).mp (List.all_eq_true.mp hc.2.2 c List.mem_cons_self)
              have h2 : c ≠ 48 := fun z => h48 (by rw [z]; rfl)
              omega
            have mono : ∀ (q : List Nat) (n : Nat), n ≠ 0 → q.foldl (fun acc c => acc * 10 + (c - 48)) n ≠ 0 := by
              intro q
              induction q with
              | nil => exact fun n h => h
              | cons d q ih => exact fun n h => ih (n * 10 + (d - 48)) (by omega)
            exact mono q (0 * 10 + (c - 48)) (by omega)
        have hv' : ¬ ((digitsVal r : Nat) : Int) = 0 := by omega
        have c1 : 1 ≤ r.length ∧ r.length ≤ 60 ∧ r.all isFig = true ∧ (r.head? = some 48 → l = [48]) := ⟨hc.1, hc.2.1, hc.2.2, fun z => absurd z h48⟩
        have c2 : 1 ≤ r.length ∧ r.length ≤ 60 ∧ r.all isFig = true ∧ (r.head? = some 48 → r.length ≤ 1) := ⟨hc.1, hc.2.1, hc.2.2, fun z => absurd z h48⟩
        rw [if_pos c1, if_pos c2, if_pos h]
        show _ = if ((digitsVal r : Nat) : Int) = 0 then none else some (-((digitsVal r : Nat) : Int))
        rw [if_neg hv', Int.zero_sub]
    · rw [if_neg (by intro z; exact hc ⟨z.1, z.2.1, z.2.2.1⟩), if_neg (by intro z; exact hc ⟨z.1, z.2.1, z.2.2.1⟩)]
  · rw [if_neg h, if_neg h]
    unfold coreL figs
    rw [if_neg h]
    by_cases h48 : l.head? = some 48
    · by_cases h1 : l = [48]
      · rw [h1]
        rfl
      · rw [if_neg (by intro z; exact h1 (z.2.2.2 h48)), if_neg]
        intro z
        apply h1
        have h2 := z.2.2.2 h48
        cases l with
        | nil => cases h48
        | cons c q =>
          cases q with
          | nil =>
            have e := Option.some.inj h48
            rw [e]
          | cons c2 q2 => simp at h2
    · by_cases hc : 1 ≤ l.length ∧ l.length ≤ 60 ∧ l.all isFig = true
      · have c1 : 1 ≤ l.length ∧ l.length ≤ 60 ∧ l.all isFig = true ∧ (l.head? = some 48 → l = [48]) := ⟨hc.1, hc.2.1, hc.2.2, fun z => absurd z h48⟩
        have c2 : 1 ≤ l.length ∧ l.length ≤ 60 ∧ l.all isFig = true ∧ (l.head? = some 48 → l.length ≤ 1) := ⟨hc.1, hc.2.1, hc.2.2, fun z => absurd z h48⟩
        rw [if_pos c1, if_pos c2]
      · rw [if_neg (by intro z; exact hc ⟨z.1, z.2.1, z.2.2.1⟩), if_neg (by intro z; exact hc ⟨z.1, z.2.1, z.2.2.1⟩)]
theorem t_law_number2 (s : Str) (h : s.length ≤ sizeLine) : f__law_number [.str s] = .ok (optD (numL s.cps.toList)) := by
  rw [t_law_number s h, num_same]
@[simp] theorem isi_bool (b : Bool) : dIsi "bool" (.bool b) = .ok (.bool true) := by
  have e : kitB "bool" "bool" = some true := by decide +kernel
  unfold dIsi
  simp only [tyName, e]
@[simp] theorem isi_bool_int (b : Int) : dIsi "bool" (.int b) = .ok (.bool false) := by
  have e : kitB "int" "bool" = some false := by decide +kernel
  unfold dIsi
  simp only [tyName, e]
@[simp] theorem isi_bool_none : dIsi "bool" .none = .ok (.bool false) := by
  have e : kitB "NoneType" "bool" = some false := by decide +kernel
  unfold dIsi
  simp only [tyName, e]
theorem isi_opt (o : Option Int) : dIsi "bool" (optD o) = .ok (.bool false) := by
  cases o with
  | none => exact isi_bool_none
  | some n => exact isi_bool_int n
theorem ne_opt (o : Option Int) : dNe (optD o) (optD o) = .ok (.bool false) := by
  cases o with
  | none => exact dNe_none_none
  | some n =>
    show dNe (.int n) (.int n) = _
    rw [dNe_int]
    simp
/-- one text is judged alike -/
theorem law_body (a b c d g : Option D) (s : Str) (h : s.length ≤ sizeLine) : lb_law_1 [a, b, c, d, g, some (.str s), none] = .nx [a, b, c, d, g, some (.str s), some (optD (numL s.cps.toList))] := by
  simp [lb_law_1, t_is_name s h, t_law_is_name s h, t_read_number s h, t_law_number2 s h, isi_opt, ne_opt]
end Dg

namespace Dg
open PySem PySem.Spec PyProof.Rows L2 PySem.NumText
/-! ### numbers as texts -/
theorem num_pos (m : Nat) : (Str.ofString (toString ((m : Nat) : Int))).cps.toList = (Nat.toDigits 10 m).map Char.toNat := PySem.W.KIN.signs_num m
theorem num_neg (m : Nat) (h : m ≠ 0) : (Str.ofString (toString (-((m : Nat) : Int)))).cps.toList = 45 :: (Nat.toDigits 10 m).map Char.toNat := by
  obtain ⟨k, rfl⟩ : ∃ k, m = k + 1 := ⟨m - 1, by omega⟩
  rw [signs_ofString]
  have e : toString (-(((k + 1 : Nat)) : Int)) = "-" ++ Nat.repr (k + 1) := rfl
  rw [e, String.toList_append, List.map_append, Nat.toList_repr]
  rfl
theorem digs_all (m : Nat) : AllDigits ((Nat.toDigits 10 m).map Char.toNat) := by
  intro c hc
  obtain ⟨ch, hch, e⟩ := List.mem_map.mp hc
  rw [← e]
  exact PyProof.Rows.digit_range (Nat.isDigit_of_mem_toDigits (by decide) (by decide) hch)
theorem digs_len {m : Nat} (h : m < 10 ^ 60) : 1 ≤ ((Nat.toDigits 10 m).map Char.toNat).length ∧ ((Nat.toDigits 10 m).map Char.toNat).length ≤ 60 := by
  rw [List.length_map]
  refine ⟨?_, PySem.toDigits_len_pow (by decide) (by decide) h⟩
  exact PySem.toDigits_len_ge 10 m
theorem digs_head (m : Nat) : ((Nat.toDigits 10 m).map Char.toNat).head? = some 48 → m = 0 := by
  induction m using Nat.strongRecOn with
  | _ m ih =>
    intro hh
    by_cases h : m < 10
    · rw [Nat.toDigits_of_lt_base h] at hh
      have h1 := Option.some.inj hh
      have h2 : ∀ d : Nat, d < 10 → (Nat.digitChar d).toNat = 48 → d = 0 := by decide
      exact h2 m h h1
    · have hm : m % 10 < 10 := Nat.mod_lt m (by decide)
      have t : Nat.toDigits 10 (m / 10) ++ Nat.toDigits 10 (m % 10) = Nat.toDigits 10 (10 * (m / 10) + m % 10) := Nat.toDigits_append_toDigits (by decide) (by omega) hm
      rw [Nat.div_add_mod] at t
      rw [← t, List.map_append] at hh
      have ne : (Nat.toDigits 10 (m / 10)).map Char.toNat ≠ [] := by
        intro z
        have := PySem.toDigits_len_ge 10 (m / 10)
        have z2 := congrArg List.length z
        rw [List.length_map, List.length_nil] at z2
        omega
      have h2 : ((Nat.toDigits 10 (m / 10)).map Char.toNat).head? = some 48 := by
        cases hq : (Nat.toDigits 10 (m / 10)).map Char.toNat with
        | nil => exact absurd hq ne
        | cons c r =>
          rw [hq] at hh
          exact hh
      have := ih (m / 10) (by omega) h2
      omega
theorem figs_digs {m : Nat} (h : m < 10 ^ 60) : figs ((Nat.toDigits 10 m).map Char.toNat) = some (m : Int) := by
  have hl := digs_len h
  have h0 : ((Nat.toDigits 10 m).map Char.toNat).head? = some 48 → ((Nat.toDigits 10 m).map Char.toNat).length ≤ 1 := fun z => by
    have := digs_head m z
    subst this
    decide
  unfold figs
  rw [if_pos ⟨hl.1, hl.2, List.all_eq_true.mpr fun c hc => (fig_iff c).mpr (digs_all m c hc), h0⟩]
  rw [PySem.W.KIN.val_back m]
/-- what a number's text is -/
theorem num_reads {n : Int} (h : n.natAbs < 10 ^ 60) : numL (Str.ofString (toString n)).cps.toList = some n ∧ (Str.ofString (toString n)).length ≤ 61 ∧ 1 ≤ (Str.ofString (toString n)).length := by
  have hlen : ∀ s : Str, s.length = s.cps.toList.length := fun s => (len_toList s).symm
  rw [hlen]
  by_cases hn : 0 ≤ n
  · obtain ⟨m, rfl⟩ := Int.eq_ofNat_of_zero_le hn
    have hm : m < 10 ^ 60 := by simpa using h
    rw [num_pos m]
    have hl := digs_len hm
    refine ⟨?_, by omega, hl.1⟩
    unfold numL
    rw [if_neg, figs_digs hm]
    intro z
    cases e : (Nat.toDigits 10 m).map Char.toNat with
    | nil =>
      rw [e] at z
      cases z
    | cons c r =>
      rw [e] at z
      have := digs_all m c (by rw [e]; exact List.mem_cons_self)
      have := Option.some.inj z
      omega
  · obtain ⟨m, e, h0⟩ : ∃ m : Nat, n = -(m : Int) ∧ m ≠ 0 := ⟨n.natAbs, by omega, by omega⟩
    subst e
    have hm : m < 10 ^ 60 := by simpa using h
    rw [num_neg m h0]
    have hl := digs_len hm
    refine ⟨?_, by rw [List.length_cons]; omega, by rw [List.length_cons]; omega⟩
    unfold numL
    rw [if_pos (by rfl)]
    show (match figs ((Nat.toDigits 10 m).map Char.toNat) with
      | some n => if n = 0 then none else some (-n)
      | none => none) = _
    rw [figs_digs hm]
    show (if ((m : Nat) : Int) = 0 then none else some (-((m : Nat) : Int))) = _
    rw [if_neg (by omega)]
/-! ### the bent text -/
theorem dAdd_str {a b : Str} (h : a.length + b.length ≤ sizeLine) : dAdd (.str a) (.str b) = .ok (.str (a ++ b)) := if_pos h
theorem dIx_strN {a : Str} (h : a.length ≤ sizeLine) {i : Int} {k : Nat} (hi : i = k) (hk : k < a.cps.toList.length) : dIx (.str a) (.int i) = .ok (.str ⟨#[a.cps.toList[k]]⟩) := by
  subst hi
  show (if a.length ≤ sizeLine then ofO ((atI a.cps.toList (k : Int)).map fun c => PyData.str ⟨#[c]⟩) else .stk) = _
  rw [if_pos h, atI_lt _ k hk]
  rfl
theorem t_any_sign (c : Int) : ∃ x : Nat, f__law_any_sign [.int c] = .ok (.str ⟨#[x]⟩) := by
  have h1 : (Str.ofString " !\"#$&'()*+,-./0123456789:;<=>?@ABCDEFGHIJKLMNOPQRSTUVWXYZ[\\]^_`").length = 64 := by decide +kernel
  have h2 : (Str.ofString "abcdefghijklmnopqrstuvwxyz{|}~\n").length = 31 := by decide +kernel
  generalize e1 : Str.ofString " !\"#$&'()*+,-./0123456789:;<=>?@ABCDEFGHIJKLMNOPQRSTUVWXYZ[\\]^_`" = s1 at h1
  generalize e2 : Str.ofString "abcdefghijklmnopqrstuvwxyz{|}~\n" = s2 at h2
  have hz : 95 ≤ sizeLine := by decide +kernel
  have ha : dAdd (.str s1) (.str s2) = .ok (.str (s1 ++ s2)) := dAdd_str (by omega)
  have hm : dMod (.int c) (.int 95) = .ok (.int (c % 95)) := dMod_int (by decide)
  have hl : (s1 ++ s2).length = 95 := by rw [Str.length_append, h1, h2]
  obtain ⟨k, hk, hk2⟩ : ∃ k : Nat, c % 95 = k ∧ k < 95 := ⟨(c % 95).toNat, by omega, by omega⟩
  have hi := dIx_strN (a := s1 ++ s2) (by omega) hk (by rw [len_toList, hl]; exact hk2)
  refine ⟨(s1 ++ s2).cps.toList[k]'(by rw [len_toList, hl]; exact hk2), ?_⟩
  simp only [f__law_any_sign, runF, startD, d__law_any_sign, e1, e2, List.map_cons, List.map_nil, List.length_cons, List.length_nil, List.cons_append, List.nil_append, List.replicate]
  simp only [e_seqS, e_asg1, e_b2, e_vr, e_cst, e_retS, e_chkE, kill_nil, List.getElem?_cons_zero, List.getElem?_cons_succ, R.bind_ok, out_ok, setsD_cons, setsD_nil, List.set_cons_zero, List.set_cons_succ, seq_nx, ha, hm, hi, chk_str, outR_ret, nox_ok]
theorem cutS_len (s : Str) (a b : Option Int) : (cutS s a b).length ≤ s.length := by
  rw [← len_toList, ← len_toList s]
  unfold cutS
  rw [List.length_take, List.length_drop]
  omega
theorem dSl_str (s : Str) (h : s.length ≤ sizeLine) (a b : Option Int) : dSl (.str s) a b = .ok (.str (cutS s a b)) := if_pos h
theorem t_bent (s : Str) (h : s.length ≤ 1000) (c : Int) : ∃ t : Str, f__law_bent [.str s, .int c] = .ok (.str t) ∧ t.length ≤ 2 * s.length + 1 := by
  have hz : 10000 ≤ sizeLine := by decide +kernel
  have hs : s.length ≤ sizeLine := by omega
  have hln : dLen [.str s] = .ok (.int s.length) := if_pos hs
  have d6 : dDiv (.int c) (.int 6) = .ok (.int (c / 6)) := dDiv_int (by decide)
  have d426 : dDiv (.int c) (.int 426) = .ok (.int (c / 426)) := dDiv_int (by decide)
  have m6 : dMod (.int c) (.int 6) = .ok (.int (c % 6)) := dMod_int (by decide)
  have m15 : dMod (.int (c / 6)) (.int 15) = .ok (.int (c / 6 % 15)) := dMod_int (by decide)
  have mz : dMod (.int (c / 6)) (.int (s.length + 1)) = .ok (.int (c / 6 % (s.length + 1))) := dMod_int (by omega)
  obtain ⟨x, hx⟩ := t_any_sign (c / 426)
  have la : ∀ a b, (cutS s a b).length ≤ s.length := fun a b => cutS_len s a b
  have c1 := la none (some (c / 6 % (s.length + 1)))
  have c2 := la (some (c / 6 % (s.length + 1))) none
  have c3 := la none (some (c / 6 % 15))
  have s1 := dSl_str s hs none (some (c / 6 % (s.length + 1)))
  have s2 := dSl_str s hs (some (c / 6 % (s.length + 1))) none
  have s3 := dSl_str s hs none (some (c / 6 % 15))
  have x1 : (⟨#[x]⟩ : Str).length = 1 := rfl
  have lm : (Str.ofString "-").length = 1 := by decide +kernel
  have l0 : (Str.ofString "0").length = 1 := by decide +kernel
  have p1 := dAdd_str (a := cutS s none (some (c / 6 % (s.length + 1)))) (b := ⟨#[x]⟩) (by omega)
  have p2 := dAdd_str (a := cutS s none (some (c / 6 % (s.length + 1))) ++ ⟨#[x]⟩) (b := cutS s (some (c / 6 % (s.length + 1))) none) (by rw [Str.length_append]; omega)
  have p3 := dAdd_str (a := Str.ofString "-") (b := s) (by omega)
  have p4 := dAdd_str (a := Str.ofString "0") (b := s) (by omega)
  simp only [f__law_bent, runF, startD, d__law_bent, List.map_cons, List.map_nil, List.length_cons, List.length_nil, List.cons_append, List.nil_append, List.replicate]
  simp only [e_seqS, e_asg1, e_ifS, e_tb, e_b2, e_vr, e_cst, e_retS, e_chkE, e_slE, e_noO, e_toO, asI_int, e_call, e_callP, e_conL, e_nilL, kill_nil, List.getElem?_cons_zero, List.getElem?_cons_succ, R.bind_ok, out_ok, setsD_cons, setsD_nil, List.set_cons_zero, List.set_cons_succ, seq_nx, e_nxS, hln, d6, d426, m6, m15, dAdd_int, mz, dEq_int, tst_bool, s1, s2, s3, hx, nox_ok, p1, p2, p3, p4, chk_str, ite_seq, ite_outR, ite_nox, seq_ret, outR_ret, decide_eq_true_eq]
  by_cases a1 : c % 6 = 1
  · rw [if_pos a1]
    exact ⟨_, rfl, by rw [Str.length_append, Str.length_append]; omega⟩
  rw [if_neg a1]
  by_cases a2 : c % 6 = 2
  · rw [if_pos a2]
    exact ⟨_, rfl, by rw [Str.length_append]; omega⟩
  rw [if_neg a2]
  by_cases a3 : c % 6 = 3
  · rw [if_pos a3]
    exact ⟨_, rfl, by rw [Str.length_append]; omega⟩
  rw [if_neg a3]
  by_cases a4 : c % 6 = 4
  · rw [if_pos a4]
    exact ⟨_, rfl, by omega⟩
  rw [if_neg a4]
  exact ⟨_, rfl, by omega⟩
end Dg

namespace Dg
open PySem PySem.Spec PyProof.Rows L2 PySem.NumText
theorem immL_ints : ∀ ns : List Int, immL (ns.map PyData.int) = true
  | [] => rfl
  | n :: ns => by
    have := immL_ints ns
    simp [immL, imm, this]
theorem strsOf_strs : ∀ ss : List Str, strsOf (ss.map PyData.str) = some ss
  | [] => rfl
  | s :: ss => by
    rw [List.map_cons, strsOf, strsOf_strs ss]
    rfl
theorem join_len (y : Str) : ∀ ss : List Str, (Str.join y ss).length ≤ (ss.map (·.length)).sum + ss.length * y.length
  | [] => Nat.zero_le _
  | [s] => by
    show s.length ≤ s.length + 0 + 1 * y.length
    omega
  | s :: z :: r => by
    have ih := join_len y (z :: r)
    show (s ++ y ++ Str.join y (z :: r)).length ≤ _
    rw [Str.length_append, Str.length_append]
    simp only [List.map_cons, List.sum_cons, List.length_cons, Nat.add_mul, Nat.one_mul] at ih ⊢
    omega
/-- the made text -/
theorem t_text (ns : List Int) (menu : Str) (h1 : 1 ≤ menu.length) (h2 : menu.length ≤ 1000) (b c d e f : Option D) : ∃ ss : List Str, cp_law_1 [some (scr ns), some (.str menu), b, none, d, e, f] = .ok (.list (ss.map .str)) ∧ ss.length ≤ 70 ∧ ∀ s ∈ ss, s.length = 1 := by
  have hz : 10000 ≤ sizeLine := by decide +kernel
  have hln : dLen [.str menu] = .ok (.int menu.length) := if_pos (by omega)
  have hm : ∀ n : Int, dMod (.int n) (.int menu.length) = .ok (.int (n % menu.length)) := fun n => dMod_int (by omega)
  have hsl : dSl (scr ns) (some 3) (some 73) = .ok (.list ((cutA ns (some 3) (some 73)).map .int)) := by
    show (if immL (ns.map PyData.int) = true then R.ok (PyData.list (cutA (ns.map PyData.int) (some 3) (some 73))) else .stk) = _
    rw [if_pos (immL_ints ns)]
    unfold cutA
    rw [List.length_map, ← List.map_drop, ← List.map_take]
  have hc : (cutA ns (some 3) (some 73)).length ≤ 70 := by
    unfold cutA
    rw [show HT.sIx ns.length 0 (some 3) = min 3 ns.length from HT.sIx_nat ns.length 0 3, show HT.sIx ns.length ns.length (some 73) = min 73 ns.length from HT.sIx_nat ns.length _ 73, List.length_take]
    omega
  have hk : ∀ n : Int, ∃ k : Nat, n % menu.length = k ∧ k < menu.cps.toList.length := fun n => by
    rw [len_toList]
    have a := Int.emod_nonneg n (show (menu.length : Int) ≠ 0 by omega)
    have b := Int.emod_lt_of_pos n (show 0 < (menu.length : Int) by omega)
    exact ⟨(n % menu.length).toNat, by omega, by omega⟩
  refine ⟨(cutA ns (some 3) (some 73)).map fun n : Int => ⟨#[menu.cps.toList.getD (n % (menu.length : Int)).toNat 0]⟩, ?_, by rw [List.length_map]; exact hc, fun s hs => ?_⟩
  · have g := compGo_map (is := [3]) (t := t1) (elt := chkE (b2 dIx (vr 1) (b2 dMod (vr 3) (call dLen (conL (vr 1) nilL))))) (ρ := [some (scr ns), some (.str menu), b, none, d, e, f]) PyData.int (fun n : Int => .str ⟨#[menu.cps.toList.getD (n % (menu.length : Int)).toNat 0]⟩) (cutA ns (some 3) (some 73)) (fun n _ => ⟨[.int n], rfl, by
      obtain ⟨k, e1, e2⟩ := hk n
      have := dIx_strN (a := menu) (by omega) e1 e2
      have e3 : (n % menu.length).toNat = k := by omega
      simp only [setsD_cons, setsD_nil, List.set_cons_succ, List.set_cons_zero, e_chkE, e_b2, e_vr, List.getElem?_cons_zero, List.getElem?_cons_succ, R.bind_ok, e_call, e_conL, e_nilL, hln, hm, this, chk_str, e3]
      rw [List.getD_eq_getElem?_getD, List.getElem?_eq_getElem e2]
      rfl⟩)
    unfold cp_law_1
    rw [e_compE, e_itE]
    simp only [e_slE, e_vr, e_toO, e_cst, R.bind_ok, asI_int, List.getElem?_cons_zero, hsl]
    show (if ((cutA ns (some 3) (some 73)).map PyData.int).length ≤ sizeLine then _ else _) = _
    rw [if_pos (by rw [List.length_map]; omega)]
    show (compGo [3] t1 yesT (chkE (b2 dIx (vr 1) (b2 dMod (vr 3) (call dLen (conL (vr 1) nilL))))) [some (scr ns), some (.str menu), b, none, d, e, f] ((cutA ns (some 3) (some 73)).map PyData.int)).bind _ = _
    rw [g]
    simp only [R.bind_ok, List.map_map]
    rfl
  · obtain ⟨n, _, e⟩ := List.mem_map.mp hs
    rw [← e]
    rfl
theorem sum_ones : ∀ ss : List Str, (∀ s ∈ ss, s.length = 1) → (ss.map (·.length)).sum = ss.length
  | [], _ => rfl
  | s :: ss, h => by
    rw [List.map_cons, List.sum_cons, sum_ones ss fun z hz => h z (List.mem_cons_of_mem _ hz), h s List.mem_cons_self, List.length_cons]
    omega
theorem t_join (ss : List Str) (h1 : ss.length ≤ 70) (h2 : ∀ s ∈ ss, s.length = 1) : ∃ t : Str, dJoin (.str (Str.ofString "")) (.list (ss.map .str)) = .ok (.str t) ∧ t.length ≤ 70 := by
  have l0 : (Str.ofString "").length = 0 := by decide +kernel
  have hs := sum_ones ss h2
  refine ⟨Txt.join (Str.ofString "") ss, ?_, ?_⟩
  · unfold dJoin
    simp only [strsOf_strs]
    rw [if_pos]
    rw [hs, l0]
    omega
  · have := join_len (Str.ofString "") ss
    rw [TL.join_eq]
    rw [hs, l0] at this
    omega
theorem turns_all (texts : List Str) (a b c d g : Option D) (h : ∀ s ∈ texts, s.length ≤ sizeLine) : turns [5] t1 [5, 6] lb_law_1 (texts.map .str) [a, b, c, d, g, none, none] = .nx [a, b, c, d, g, none, none] := by
  induction texts with
  | nil => rfl
  | cons s ss ih =>
    rw [List.map_cons, turns_cons1]
    have := law_body a b c d g s (h s List.mem_cons_self)
    simp only [setsD_cons, setsD_nil, List.set_cons_succ, List.set_cons_zero, this, turn_nx, kill_cons, kill_nil]
    exact ih fun z hz => h z (List.mem_cons_of_mem _ hz)
theorem dPow_int {i j : Int} (h : 0 ≤ j ∧ j ≤ 1000000 ∧ i.natAbs < 2 ^ 64) : dPow (.int i) (.int j) = .ok (.int (i ^ j.toNat)) := if_pos h
theorem law_true (ns : List Int) (h : ns.length ≤ 63) : f_law [.dict [(.none, .list (ns.map .int))]] = .ok (.bool true) := by
  show f_law [scr ns] = _
  have hz : 10000 ≤ sizeLine := by decide +kernel
  have c0 : f__law_cell_at [scr ns, .int 0] = .ok (.int (ns.getD 0 0)) := t_cell ns 0
  have c1 : f__law_cell_at [scr ns, .int 1] = .ok (.int (ns.getD 1 0)) := t_cell ns 1
  have c2 : f__law_cell_at [scr ns, .int 2] = .ok (.int (ns.getD 2 0)) := t_cell ns 2
  generalize (ns.getD 0 0) = v0 at c0
  generalize (ns.getD 1 0) = v1 at c1
  generalize (ns.getD 2 0) = v2 at c2
  have m3 : dMod (.int v0) (.int 3) = .ok (.int (v0 % 3)) := dMod_int (by decide)
  obtain ⟨menu, hmenu, l1, l2⟩ : ∃ menu : Str, dIx (.list [.str "abcdefghijklmnopqrstuvwxyz0123456789-", .str "0123456789", .str "012-"]) (.int (v0 % 3)) = .ok (.str menu) ∧ 1 ≤ menu.length ∧ menu.length ≤ 1000 := by
    have : v0 % 3 = 0 ∨ v0 % 3 = 1 ∨ v0 % 3 = 2 := by omega
    rcases this with e | e | e <;> rw [e]
    · exact ⟨_, rfl, by decide +kernel, by decide +kernel⟩
    · exact ⟨_, rfl, by decide +kernel, by decide +kernel⟩
    · exact ⟨_, rfl, by decide +kernel, by decide +kernel⟩
  obtain ⟨ss, q1, q2, q3⟩ := t_text ns menu l1 l2 none none none none none
  obtain ⟨t, j1, j2⟩ := t_join ss q2 q3
  have pw : dPow (.int 10) (.int 60) = .ok (.int (10 ^ 60)) := by
    have : (0 : Int) ≤ 60 ∧ (60 : Int) ≤ 1000000 ∧ (10 : Int).natAbs < 2 ^ 64 := by decide
    exact dPow_int this
  have ml : dMul2 (.int 2) (.int (10 ^ 60)) = .ok (.int (2 * 10 ^ 60)) := dMul_left (by decide)
  have mm : dMod (.int v1) (.int (2 * 10 ^ 60 - 1)) = .ok (.int (v1 % (2 * 10 ^ 60 - 1))) := dMod_int (by decide)
  have hb1 := Int.emod_nonneg v1 (show (2 * 10 ^ 60 - 1 : Int) ≠ 0 by decide)
  have hb2 := Int.emod_lt_of_pos v1 (show (0 : Int) < 2 * 10 ^ 60 - 1 by decide)
  generalize hn : v1 % (2 * 10 ^ 60 - 1) - 10 ^ 60 + 1 = n
  have hb : n.natAbs < 10 ^ 60 := by omega
  obtain ⟨r1, r2, r3⟩ := num_reads hb
  have hstr : dStrOf [.int n] = .ok (.str (Str.ofString (toString n))) := if_pos (Nat.lt_of_lt_of_le hb (by decide))
  obtain ⟨u, u1, u2⟩ := t_bent t (by omega) v2
  obtain ⟨w, w1, w2⟩ := t_bent (Str.ofString (toString n)) (by omega) 2
  have tt := turns_all [t, u, Str.ofString (toString n), w, Str.ofString "-0", Str.ofString "0", Str.ofString ""] (some (scr ns)) (some (.str menu)) (some (.str t)) none (some (.int n)) (fun s hs => by
    have k1 : (Str.ofString "-0").length = 2 := by decide +kernel
    have k2 : (Str.ofString "0").length = 1 := by decide +kernel
    have k3 : (Str.ofString "").length = 0 := by decide +kernel
    simp only [List.mem_cons, List.not_mem_nil, or_false] at hs
    rcases hs with e | e | e | e | e | e | e <;> (rw [e]; omega))
  have rd := t_read_number (Str.ofString (toString n)) (by omega)
  rw [r1] at rd
  have rd : f_read_number [.str (Str.ofString (toString n))] = .ok (.int n) := rd
  simp only [f_law, runF, startD, d_law, List.map_cons, List.map_nil, List.length_cons, List.length_nil, List.cons_append, List.nil_append, List.replicate]
  simp only [e_seqS, e_asg1, e_b2, e_lstE, e_conL, e_nilL, e_cst, e_callP, e_vr, List.getElem?_cons_zero, List.getElem?_cons_succ, R.bind_ok, c0, c1, c2, nox_ok, m3, hmenu, out_ok, setsD_cons, setsD_nil, kill_nil, List.set_cons_zero, List.set_cons_succ, seq_nx, e_mth, q1, j1, pw, ml, dSub_int, mm, dAdd_int, hn, e_forS, e_itE, e_chkE, chk_str, e_call, hstr, u1, w1]
  show (outR ((turns [5] t1 [5, 6] lb_law_1 ([t, u, Str.ofString (toString n), w, Str.ofString "-0", Str.ofString "0", Str.ofString ""].map .str) [some (scr ns), some (.str menu), some (.str t), none, some (.int n), none, none]).seq _)).nox = _
  rw [tt]
  simp only [seq_nx, e_retS, e_b2, e_callP, e_conL, e_nilL, e_call, e_vr, List.getElem?_cons_zero, List.getElem?_cons_succ, R.bind_ok, hstr, rd, nox_ok, dEq_int, decide_true, out_ok, outR_ret]
end Dg

open PySem PySem.W PyProof.Rows
set_option maxRecDepth 100000 in
set_option maxHeartbeats 0 in
theorem PySem.Challenge.cw_digmatrix_k01_names_and_numbers_holds : PySem.Challenge.rw_digmatrix_k01_names_and_numbers.Holds := by
  w_on; o_law; k_head; (case hw => w_witness2)
  k_fill
  refine L2.walk_of (l := PySem.Challenge.rw_digmatrix_k01_names_and_numbers) (n := 63) (k := 3) (x := "_law_script") (CX := fun _ => L2.CX0) (sp := fun w => Dg.spLaw _) rfl (by decide) rfl ⟨rfl, by decide, by decide⟩ (fun w h Y => PySem.W.kIn_of Y) ?F (fun _ H a ns hl hO hS => ⟨a, ns, rfl, (Dg.lf_of hS).resolve_left (fun e => by rcases hO a with z | ⟨o, xs, z⟩ <;> (rw [e] at z; cases z)), hl, fun _ => rfl⟩) (fun _ _ _ _ _ h => h)
  case F =>
    intro w mg fa h KX G hmg
    refine Dg.law_all (h := h) (T := ?T) hmg Dg.law_true
    refine' Dg.txt_mk KX G ?a0 ?l0 ?c0 ?k0 ?a1 ?l1 ?c1 ?k1 ?a2 ?l2 ?c2 ?k2 ?a3 ?l3 ?c3 ?k3 ?a4 ?l4 ?c4 ?k4 ?a5 ?l5 ?c5 ?k5 ?a6 ?l6 ?c6 ?k6 ?a7 ?l7 ?c7 ?k7 ?a8 ?l8 ?c8 ?k8 ?zc_FIGURES ?zc_LONGEST_NAME ?zc_LONGEST_NUMBER ?zc_SIGNS ?zn_bool ?zn_int ?zn_isinstance ?zn_len ?zn_str
    (case a0 => k_is); (case l0 => k_is); (case c0 => k_is); (case k0 => k_is); (case a1 => k_is); (case l1 => k_is); (case c1 => k_is); (case k1 => k_is); (case a2 => k_is); (case l2 => k_is); (case c2 => k_is); (case k2 => k_is); (case a3 => k_is); (case l3 => k_is); (case c3 => k_is); (case k3 => k_is); (case a4 => k_is); (case l4 => k_is); (case c4 => k_is); (case k4 => k_is); (case a5 => k_is); (case l5 => k_is); (case c5 => k_is); (case k5 => k_is); (case a6 => k_is); (case l6 => k_is); (case c6 => k_is); (case k6 => k_is); (case a7 => k_is); (case l7 => k_is); (case c7 => k_is); (case k7 => k_is); (case a8 => k_is); (case l8 => k_is); (case c8 => k_is); (case k8 => k_is); (case zc_FIGURES => k_is); (case zc_LONGEST_NAME => k_is); (case zc_LONGEST_NUMBER => k_is); (case zc_SIGNS => k_is); (case zn_bool => k_is); (case zn_int => k_is); (case zn_isinstance => k_is); (case zn_len => k_is); (case zn_str => k_is)
