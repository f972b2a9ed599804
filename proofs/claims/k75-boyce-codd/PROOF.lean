import PyProof.Rows.All
import Wide.All
import OpenK.AllK
import Wide.FinOn
import HandS.TupSets
import HandS.SetKeys
import HandS.ForMost
import HandS.SortInts
import HandS.SetFor
import HandS.Conv
import HandS.IsInst
import HandS.Walk
import HandS.Strs
import HandS.TupAny
import HandS.Style
import HandS.Lambda
import HandS.EndOwn
import HandS.NestedK
import HandS.TupLe
import HandS.OwnEq
import HandS.Property
import HandS.Rev
import KE.SortKeyHeap
import KE.SortData
import KE.GoesMore
import PyProof.DictMoreH
import KE.DataEq
import PySem.Challenge.RW_followsortable_k75_whole_boyce_codd
set_option Elab.async false
set_option linter.all false
set_option maxRecDepth 100000
set_option maxHeartbeats 4000000
set_option autoImplicit false
namespace Fw
open PySem L2
/-! ## regions of the abstract heap -/
def em : Hp := fun _ => none
def one (p : Addr) (o : HO) : Hp := fun a => if a = p then some o else none
def un2 (A B : Hp) : Hp := fun a => match A a with | some o => some o | none => B a
theorem one_self {p : Addr} {o : HO} : one p o p = some o := by simp [one]
theorem one_ne {p a : Addr} {o : HO} (h : one p o a ≠ none) : a = p := by
  unfold one at h; split at h
  · assumption
  · exact absurd rfl h
theorem un2_l {A B : Hp} {a : Addr} {o : HO} (h : A a = some o) : un2 A B a = some o := by simp [un2, h]
theorem un2_r {A B : Hp} {a : Addr} (h : A a = none) : un2 A B a = B a := by simp [un2, h]
theorem un2_some {A B : Hp} {a : Addr} {o : HO} (h : un2 A B a = some o) : A a = some o ∨ (A a = none ∧ B a = some o) := by
  unfold un2 at h; cases e : A a with
  | some u => rw [e] at h; exact .inl h
  | none => rw [e] at h; exact .inr ⟨rfl, h⟩
theorem un2_ne {A B : Hp} {a : Addr} (h : un2 A B a ≠ none) : A a ≠ none ∨ B a ≠ none := by
  cases e : A a with
  | some u => exact .inl (by simp)
  | none => rw [un2_r e] at h; exact .inr h
theorem ex_of_ne {A : Hp} {a : Addr} (h : A a ≠ none) : ∃ o, A a = some o := by
  cases e : A a with
  | some u => exact ⟨u, rfl⟩
  | none => exact absurd e h
theorem same_un2 {A B H : Hp} (a : Same A H) (b : Same B H) : Same (un2 A B) H := fun x o h => by
  rcases un2_some h with h | ⟨_, h⟩
  · exact a _ _ h
  · exact b _ _ h
theorem same_l {A B : Hp} : Same A (un2 A B) := fun _ _ h => un2_l h
theorem same_r {A B H : Hp} (a : Same A H) (b : Same B H) : Same B (un2 A B) := fun x o h => by
  cases e : A x with
  | none => rw [un2_r e]; exact h
  | some u =>
    rw [un2_l e]
    rw [← a x u e, ← b x o h]

/-! ## types: how a value lies in the pure region -/
structure Ty (α : Type) where
  rep : Hp → V → α → Prop
  mono : ∀ {B B' : Hp} {v : V} {a : α}, Same B B' → rep B v a → rep B' v a

structure Slot where
  p : Hp → Hp → Option V → Prop
  mono : ∀ {B B' F : Hp} {o : Option V}, Same B B' → p B F o → p B' F o

def un : Slot := ⟨fun _ F _ => F = em, fun _ h => h⟩
def pu {α : Type} (R : Ty α) (a : α) : Slot := ⟨fun B F o => F = em ∧ ∃ v, o = some v ∧ R.rep B v a, fun s h => ⟨h.1, h.2.choose, h.2.choose_spec.1, R.mono s h.2.choose_spec.2⟩⟩

structure Sta where
  B : Hp
  H : Hp
  F : Nat → Hp

/-- the footprints from n on are dropped -/
def Sta.cut (s : Sta) (n : Nat) : Sta := ⟨s.B, s.H, fun i => if i < n then s.F i else em⟩

structure EnvOk (s : Sta) (σ : St) (Γ : List Slot) : Prop where
  sub : Same s.B s.H
  subF : ∀ i, Same (s.F i) s.H
  dis : ∀ i a, s.F i a ≠ none → s.B a = none
  disF : ∀ i j a, s.F i a ≠ none → s.F j a ≠ none → i = j
  len : σ.length = Γ.length
  sl : ∀ (i : Nat) (S : Slot), Γ[i]? = some S → S.p s.B (s.F i) (σ[i]?.join)
  out : ∀ i, Γ.length ≤ i → s.F i = em

structure Evo (s s' : Sta) : Prop where
  b : Same s.B s'.B
  fr : ∀ a o, s.H a = some o → (∀ i, s.F i a = none) → s'.H a = some o
  dom : ∀ a, s.H a ≠ none → s'.H a ≠ none
  nb : ∀ a, s'.B a ≠ none → s.B a ≠ none ∨ s.H a = none ∨ ∃ i, s.F i a ≠ none
  nf : ∀ a i, s'.F i a ≠ none → s.H a = none ∨ ∃ j, s.F j a ≠ none

theorem Evo.refl (s : Sta) : Evo s s := ⟨fun _ _ h => h, fun _ _ h _ => h, fun _ h => h, fun _ h => .inl h, fun _ i h => .inr ⟨i, h⟩⟩
theorem Evo.trans {s t u : Sta} (a : Evo s t) (b : Evo t u) : Evo s u where
  b := fun x o h => b.b x o (a.b x o h)
  fr := fun x o h n => b.fr x o (a.fr x o h n) fun i => by
    cases e : t.F i x with
    | none => rfl
    | some q =>
      rcases a.nf x i (by rw [e]; simp) with z | ⟨j, z⟩
      · rw [z] at h; cases h
      · exact absurd (n j) z
  dom := fun x h => b.dom x (a.dom x h)
  nb := fun x h => by
    rcases b.nb x h with z | z | ⟨i, z⟩
    · exact a.nb x z
    · refine .inr (.inl ?_)
      cases e : s.H x with
      | none => rfl
      | some q => exact absurd z (a.dom x (by rw [e]; simp))
    · rcases a.nf x i z with z | z
      · exact .inr (.inl z)
      · exact .inr (.inr z)
  nf := fun x i h => by
    rcases b.nf x i h with z | ⟨j, z⟩
    · refine .inl ?_
      cases e : s.H x with
      | none => rfl
      | some q => exact absurd z (a.dom x (by rw [e]; simp))
    · exact a.nf x j z

/-! ## moves of the environment -/
section
variable {s : Sta} {σ τ : St} {Γ T : List Slot} {S S' : Slot} {o : Option V}
theorem join_get {σ : St} {i : Nat} {o : Option V} (h : σ[i]? = some o) : σ[i]?.join = o := by rw [h]; rfl
/-- the pure region grows by fresh things, a pure value is pushed -/
theorem EnvOk.push {B' H' : Hp} (E : EnvOk s σ Γ) (hB : Same s.B B') (hH : Same s.H H') (hs : Same B' H') (hn : ∀ a, s.H a ≠ none → B' a ≠ none → s.B a ≠ none)
    (S : Slot) (hp : S.p B' em o) : EnvOk ⟨B', H', s.F⟩ (σ ++ [o]) (Γ ++ [S]) where
  sub := hs
  subF := fun i a u h => hH a u (E.subF i a u h)
  dis := fun i a h => by
    show B' a = none
    cases e : B' a with
    | none => rfl
    | some u =>
      obtain ⟨v, hv⟩ := ex_of_ne h
      exact absurd (E.dis i a h) (hn a (by rw [E.subF i a v hv]; simp) (by rw [e]; simp))
  disF := E.disF
  len := by simp [E.len]
  sl := fun i S2 h => by
    by_cases hi : i < Γ.length
    · rw [List.getElem?_append_left hi] at h
      rw [List.getElem?_append_left (by rw [E.len]; exact hi)]
      exact S2.mono hB (E.sl i S2 h)
    · have hl := (List.getElem?_eq_some_iff.mp h).1
      simp at hl
      have e : i = Γ.length := by omega
      subst e
      have h2 : (Γ ++ [S])[Γ.length]? = some S := by simp
      rw [h2] at h; cases h
      have h3 : (σ ++ [o])[Γ.length]? = some o := by rw [← E.len]; simp
      rw [join_get h3]
      show S.p B' (s.F Γ.length) o
      rw [E.out _ (Nat.le_refl _)]
      exact hp
  out := fun i h => E.out i (by simp at h; omega)
theorem Evo.grow {B' H' : Hp} (hB : Same s.B B') (hH : Same s.H H') (hn : ∀ a, s.H a ≠ none → B' a ≠ none → s.B a ≠ none) : Evo s ⟨B', H', s.F⟩ where
  b := hB
  fr := fun a o h _ => hH a o h
  dom := fun a h => by obtain ⟨o, e⟩ := ex_of_ne h; show H' a ≠ none; rw [hH a o e]; simp
  nb := fun a h => by
    by_cases q : s.H a = none
    · exact .inr (.inl q)
    · exact .inl (hn a q h)
  nf := fun a i h => .inr ⟨i, h⟩
/-- nothing of the heap changes -/
theorem EnvOk.push0 (E : EnvOk s σ Γ) (S : Slot) (hp : S.p s.B em o) : EnvOk s (σ ++ [o]) (Γ ++ [S]) :=
  E.push (fun _ _ h => h) (fun _ _ h => h) E.sub (fun _ _ h => h) S hp
/-- one new pure object -/
theorem EnvOk.push1 {p : Addr} {ob : HO} (E : EnvOk s σ Γ) (hp : s.H p = none) (S : Slot) (hS : Same s.B (upd s.B p ob) → (upd s.B p ob) p = some ob → S.p (upd s.B p ob) em o) :
    EnvOk ⟨upd s.B p ob, upd s.H p ob, s.F⟩ (σ ++ [o]) (Γ ++ [S]) ∧ Evo s ⟨upd s.B p ob, upd s.H p ob, s.F⟩ := by
  have hb : s.B p = none := by
    cases e : s.B p with
    | none => rfl
    | some u => rw [E.sub p u e] at hp; cases hp
  have s1 : Same s.B (upd s.B p ob) := fun a u h => by rw [upd_ne (ne_of_none h hb)]; exact h
  have s2 : Same s.H (upd s.H p ob) := fun a u h => by rw [upd_ne (ne_of_none h hp)]; exact h
  have s3 : Same (upd s.B p ob) (upd s.H p ob) := fun a u h => by
    by_cases q : a = p
    · subst q; rw [upd_same] at h ⊢; exact h
    · rw [upd_ne q] at h ⊢; exact E.sub a u h
  have s4 : ∀ a, s.H a ≠ none → (upd s.B p ob) a ≠ none → s.B a ≠ none := fun a h1 h2 => by
    have q : a ≠ p := fun e => h1 (by rw [e]; exact hp)
    rw [upd_ne q] at h2; exact h2
  exact ⟨E.push s1 s2 s3 s4 S (hS s1 upd_same), Evo.grow s1 s2 s4⟩
/-- one new owned object, pushed -/
theorem EnvOk.pushO {p : Addr} {ob : HO} (E : EnvOk s σ Γ) (hp : s.H p = none) (S : Slot) (hS : S.p s.B (one p ob) o) :
    EnvOk ⟨s.B, upd s.H p ob, fun i => if i = Γ.length then one p ob else s.F i⟩ (σ ++ [o]) (Γ ++ [S]) ∧ Evo s ⟨s.B, upd s.H p ob, fun i => if i = Γ.length then one p ob else s.F i⟩ := by
  have s2 : Same s.H (upd s.H p ob) := fun a u h => by rw [upd_ne (ne_of_none h hp)]; exact h
  have key : ∀ i a, (if i = Γ.length then one p ob else s.F i) a ≠ none → (i = Γ.length ∧ a = p) ∨ (i ≠ Γ.length ∧ s.F i a ≠ none) := fun i a h => by
    by_cases q : i = Γ.length
    · rw [if_pos q] at h; exact .inl ⟨q, one_ne h⟩
    · rw [if_neg q] at h; exact .inr ⟨q, h⟩
  have fp : ∀ i, s.F i p = none := fun i => by
    cases e : s.F i p with
    | none => rfl
    | some u => rw [E.subF i p u e] at hp; cases hp
  refine ⟨⟨fun a u h => s2 a u (E.sub a u h), fun i a u h => ?_, fun i a h => ?_, fun i j a h1 h2 => ?_, by simp [E.len], fun i S2 h => ?_, fun i h => ?_⟩, ⟨fun _ _ h => h, fun a u h _ => s2 a u h, fun a h => ?_, fun a h => .inl h, fun a i h => ?_⟩⟩
  · have h0 : (if i = Γ.length then one p ob else s.F i) a = some u := h
    rcases key i a (by rw [h0]; simp) with ⟨q, r⟩ | ⟨q, r⟩
    · have h' : (if i = Γ.length then one p ob else s.F i) a = some u := h
      rw [if_pos q, r, one_self] at h'
      cases h'; rw [r]; exact upd_same
    · have h' : (if i = Γ.length then one p ob else s.F i) a = some u := h
      rw [if_neg q] at h'
      exact s2 a u (E.subF i a u h')
  · rcases key i a h with ⟨q, r⟩ | ⟨q, r⟩
    · cases e : s.B a with
      | none => rfl
      | some u => have := E.sub a u e; rw [r, hp] at this; cases this
    · exact E.dis i a r
  · rcases key i a h1 with ⟨q, r⟩ | ⟨q, r⟩
    · rcases key j a h2 with ⟨q', r'⟩ | ⟨q', r'⟩
      · omega
      · rw [r, fp] at r'; exact absurd rfl r'
    · rcases key j a h2 with ⟨q', r'⟩ | ⟨q', r'⟩
      · rw [r', fp] at r; exact absurd rfl r
      · exact E.disF i j a r r'
  · by_cases hi : i < Γ.length
    · rw [List.getElem?_append_left hi] at h
      rw [List.getElem?_append_left (by rw [E.len]; exact hi)]
      show S2.p s.B (if i = Γ.length then one p ob else s.F i) _
      rw [if_neg (by omega)]
      exact E.sl i S2 h
    · have hl := (List.getElem?_eq_some_iff.mp h).1
      simp at hl
      have e : i = Γ.length := by omega
      subst e
      have h2 : (Γ ++ [S])[Γ.length]? = some S := by simp
      rw [h2] at h; cases h
      have h3 : (σ ++ [o])[Γ.length]? = some o := by rw [← E.len]; simp
      rw [join_get h3]
      show S.p s.B (if Γ.length = Γ.length then one p ob else s.F Γ.length) o
      rw [if_pos rfl]
      exact hS
  · have : ¬ i = Γ.length := by simp at h; omega
    show (if i = Γ.length then one p ob else s.F i) = em
    rw [if_neg this]
    exact E.out i (by simp at h; omega)
  · obtain ⟨u, e⟩ := ex_of_ne h; show upd s.H p ob a ≠ none; rw [s2 a u e]; simp
  · rcases key i a h with ⟨q, r⟩ | ⟨q, r⟩
    · exact .inl (by rw [r]; exact hp)
    · exact .inr ⟨i, r⟩
/-- the last slot is dropped -/
theorem EnvOk.pop (E : EnvOk s (σ ++ [o]) (Γ ++ [S])) : EnvOk (s.cut Γ.length) σ Γ ∧ Evo s (s.cut Γ.length) := by
  have hl : σ.length = Γ.length := by have := E.len; simp at this; exact this
  have key : ∀ i a, (if i < Γ.length then s.F i else em) a ≠ none → i < Γ.length ∧ s.F i a ≠ none := fun i a h => by
    by_cases q : i < Γ.length
    · rw [if_pos q] at h; exact ⟨q, h⟩
    · rw [if_neg q] at h; exact absurd rfl h
  refine ⟨⟨E.sub, fun i a u h => ?_, fun i a h => E.dis i a (key i a h).2, fun i j a h1 h2 => E.disF i j a (key i a h1).2 (key j a h2).2, hl, fun i S2 h => ?_, fun i h => ?_⟩, ⟨fun _ _ h => h, fun _ _ h _ => h, fun _ h => h, fun _ h => .inl h, fun a i h => .inr ⟨i, (key i a h).2⟩⟩⟩
  · have h' : (if i < Γ.length then s.F i else em) a = some u := h
    by_cases q : i < Γ.length
    · rw [if_pos q] at h'; exact E.subF i a u h'
    · rw [if_neg q] at h'; cases h'
  · have hi := (List.getElem?_eq_some_iff.mp h).1
    have := E.sl i S2 (by rw [List.getElem?_append_left hi]; exact h)
    rw [List.getElem?_append_left (by omega)] at this
    show S2.p s.B (if i < Γ.length then s.F i else em) _
    rw [if_pos hi]
    exact this
  · show (if i < Γ.length then s.F i else em) = em
    rw [if_neg (by omega)]
/-- a slot's content is turned (also forgotten) without a change of the heap -/
theorem EnvOk.top (E : EnvOk s (σ ++ [o]) (Γ ++ [S])) : S.p s.B (s.F Γ.length) o := by
  have hl : σ.length = Γ.length := by have := E.len; simp at this; exact this
  have := E.sl Γ.length S (by simp)
  rw [join_get (show (σ ++ [o])[Γ.length]? = some o by rw [← hl]; simp)] at this
  exact this
/-- the slot i is weakened to one that a pure slot, without footprint, or a smaller footprint satisfies -/
theorem EnvOk.turn {i : Nat} {F' : Hp} (E : EnvOk s σ Γ) (hi : Γ[i]? = some S) (hF : Same F' (s.F i)) (h : S'.p s.B F' (σ[i]?.join)) :
    EnvOk ⟨s.B, s.H, fun j => if j = i then F' else s.F j⟩ σ (Γ.set i S') ∧ Evo s ⟨s.B, s.H, fun j => if j = i then F' else s.F j⟩ := by
  have hl := (List.getElem?_eq_some_iff.mp hi).1
  have key : ∀ j a, (if j = i then F' else s.F j) a ≠ none → s.F j a ≠ none := fun j a h => by
    by_cases q : j = i
    · rw [if_pos q] at h
      obtain ⟨u, e⟩ := ex_of_ne h
      rw [q, hF a u e]; simp
    · rw [if_neg q] at h; exact h
  refine ⟨⟨E.sub, fun j a u h => ?_, fun j a h => E.dis j a (key j a h), fun j k a h1 h2 => E.disF j k a (key j a h1) (key k a h2), by simp [E.len], fun j S2 h2 => ?_, fun j h2 => ?_⟩, ⟨fun _ _ h => h, fun _ _ h _ => h, fun _ h => h, fun _ h => .inl h, fun a j h => .inr ⟨j, key j a h⟩⟩⟩
  · have h' : (if j = i then F' else s.F j) a = some u := h
    by_cases q : j = i
    · rw [if_pos q] at h'; exact E.subF i a u (hF a u h')
    · rw [if_neg q] at h'; exact E.subF j a u h'
  · show S2.p s.B (if j = i then F' else s.F j) _
    by_cases q : j = i
    · subst q
      rw [List.getElem?_set_self hl] at h2; cases h2
      rw [if_pos rfl]; exact h
    · rw [List.getElem?_set_ne (Ne.symm q)] at h2
      rw [if_neg q]
      exact E.sl j S2 h2
  · show (if j = i then F' else s.F j) = em
    rw [List.length_set] at h2
    rw [if_neg (by omega)]
    exact E.out j h2
theorem same_em {A : Hp} : Same em A := fun _ _ h => nomatch h
end
end Fw

namespace Fw
open PySem L2
/-! ## runs at one state -/
def RE (X : Cx) (e : Expr) (σ : St) (H : Hp) (Q : VK) : Prop := ∀ (pins : List (Addr × Obj)) (s : Shared), Inv X pins σ H s → wpAny (model X.prog X.w) X.A (eval e X.env) (EP X pins σ Q) X.xe s
def RT (X : Cx) (e : Expr) (σ : St) (H : Hp) (Q : Bool → Hp → Prop) : Prop := ∀ (pins : List (Addr × Obj)) (s : Shared), Inv X pins σ H s → wpAny (model X.prog X.w) X.A (isTrue e X.env (eval e X.env)) (TP X pins σ Q) X.xe s
def RA (X : Cx) (es : List Expr) (σ : St) (H : Hp) (Q : List V → Hp → Prop) : Prop := ∀ (pos : Pos) (pins : List (Addr × Obj)) (s : Shared), Inv X pins σ H s → wpAny (model X.prog X.w) X.A (spliced (backTo pos (starEach es X.env))) (AP X pins σ Q) X.xe s
def RS (X : Cx) (st : Stmt) (D : Ends) (σ : St) (H : Hp) : Prop := ∀ (pins : List (Addr × Obj)) (s : Shared), Inv X pins σ H s → wpAny (model X.prog X.w) X.A (exec st X.env) (SP X pins D) X.xe s
def RSs (X : Cx) (st : List Stmt) (D : Ends) (σ : St) (H : Hp) : Prop := ∀ (pins : List (Addr × Obj)) (s : Shared), Inv X pins σ H s → wpAny (model X.prog X.w) X.A (execs st X.env) (SP X pins D) X.xe s
section
variable {X : Cx} {e : Expr} {es : List Expr} {st : Stmt} {sts : List Stmt} {σ : St} {H : Hp}
theorem peR : PE X e (RE X e) := ⟨fun pins s _ _ _ I h => h pins s I⟩
theorem ptR : PT X e (RT X e) := ⟨fun pins s _ _ _ I h => h pins s I⟩
theorem paR : PA X es (RA X es) := ⟨fun pos pins s _ _ _ I h => h pos pins s I⟩
theorem psR : PS X st (RS X st) := ⟨fun pins s _ _ _ I h => h pins s I⟩
theorem pssR : PSs X sts (RSs X sts) := ⟨fun pins s _ _ _ I h => h pins s I⟩
theorem re_of {t : TE} {Q : VK} (p : PE X e t) (h : t σ H Q) : RE X e σ H Q := fun pins s I => p.run pins s σ H Q I h
theorem rt_of {t : TT} {Q : Bool → Hp → Prop} (p : PT X e t) (h : t σ H Q) : RT X e σ H Q := fun pins s I => p.run pins s σ H Q I h
theorem ra_of {t : TA} {Q : List V → Hp → Prop} (p : PA X es t) (h : t σ H Q) : RA X es σ H Q := fun pos pins s I => p.run pos pins s σ H Q I h
theorem rs_of {t : TS} {D : Ends} (p : PS X st t) (h : t D σ H) : RS X st D σ H := fun pins s I => p.run pins s σ H D I h
theorem rss_of {t : TS} {D : Ends} (p : PSs X sts t) (h : t D σ H) : RSs X sts D σ H := fun pins s I => p.run pins s σ H D I h
end

/-! ## tables of code objects: a hidden slot -/
class Tb where
  tt : List (Addr × Str)
def tabS [Tb] : Slot := ⟨fun _ F o => o = none ∧ LamX.Tabs Tb.tt F, fun _ h => h⟩
class HasTab [Tb] (T : List Slot) : Prop where
  mem : tabS ∈ T
instance [Tb] {T U : List Slot} [h : HasTab T] : HasTab (T ++ U) := ⟨List.mem_append_left _ h.mem⟩
instance [Tb] {T U : List Slot} [h : HasTab U] : HasTab (T ++ U) := ⟨List.mem_append_right _ h.mem⟩
instance [Tb] {T : List Slot} {S : Slot} [h : HasTab T] : HasTab (S :: T) := ⟨List.mem_cons_of_mem _ h.mem⟩
instance [Tb] {T : List Slot} : HasTab (tabS :: T) := ⟨List.mem_cons_self⟩
variable [Tb]
/-! ## typed judgements -/
def EX (X : Cx) (e : Expr) (Γ : List Slot) (S : Slot) (Γ' : List Slot) : Prop :=
  ∀ (T : List Slot) [HasTab T] (τ σ : St) (s : Sta), σ.length = Γ.length → EnvOk s (σ ++ τ) (Γ ++ T) → ∀ Q : VK,
    (∀ v s', EnvOk s' ((σ ++ τ) ++ [some v]) ((Γ' ++ T) ++ [S]) → Γ'.length = Γ.length → Evo s s' → Q v s'.H) → RE X e σ s.H Q
def ET (X : Cx) (e : Expr) (Γ : List Slot) (b : Bool) (Γ' : List Slot) : Prop :=
  ∀ (T : List Slot) [HasTab T] (τ σ : St) (s : Sta), σ.length = Γ.length → EnvOk s (σ ++ τ) (Γ ++ T) → ∀ Q : Bool → Hp → Prop,
    (∀ s', EnvOk s' (σ ++ τ) (Γ' ++ T) → Γ'.length = Γ.length → Evo s s' → Q b s'.H) → RT X e σ s.H Q
def EA (X : Cx) (es : List Expr) (Γ : List Slot) (Ss : List Slot) (Γ' : List Slot) : Prop :=
  ∀ (T : List Slot) [HasTab T] (τ σ : St) (s : Sta), σ.length = Γ.length → EnvOk s (σ ++ τ) (Γ ++ T) → ∀ Q : List V → Hp → Prop,
    (∀ vs s', EnvOk s' ((σ ++ τ) ++ vs.map some) ((Γ' ++ T) ++ Ss) → Γ'.length = Γ.length → vs.length = Ss.length → Evo s s' → Q vs s'.H) → RA X es σ s.H Q

/-- what an operation makes of the two values on top -/
def Op2 (r : R2) (S1 S2 S : Slot) : Prop :=
  ∀ (σ : St) (Γ : List Slot) (s : Sta) (v u : V), EnvOk s ((σ ++ [some v]) ++ [some u]) ((Γ ++ [S1]) ++ [S2]) → ∀ Q : VK,
    (∀ v' s', EnvOk s' (σ ++ [some v']) (Γ ++ [S]) → Evo s s' → Q v' s'.H) → r v u s.H Q
def Op1 (r : V → Hp → VK → Prop) (S1 S : Slot) : Prop :=
  ∀ (σ : St) (Γ : List Slot) (s : Sta) (v : V), EnvOk s (σ ++ [some v]) (Γ ++ [S1]) → ∀ Q : VK,
    (∀ v' s', EnvOk s' (σ ++ [some v']) (Γ ++ [S]) → Evo s s' → Q v' s'.H) → r v s.H Q
def OpN (r : List V → Hp → VK → Prop) (Ss : List Slot) (S : Slot) : Prop :=
  ∀ (σ : St) (Γ : List Slot) [HasTab Γ] (s : Sta) (vs : List V), vs.length = Ss.length → EnvOk s (σ ++ vs.map some) (Γ ++ Ss) → ∀ Q : VK,
    (∀ v' s', EnvOk s' (σ ++ [some v']) (Γ ++ [S]) → Evo s s' → Q v' s'.H) → r vs s.H Q

section
variable {X : Cx} {e a b : Expr} {es : List Expr} {pos : Pos} {Γ Γ1 Γ2 : List Slot} {S S1 S2 : Slot} {Ss : List Slot}
theorem ex_bin {r : R2} (pe : PE X e (tOp r (RE X a) (RE X b))) (ha : EX X a Γ S1 Γ1) (hb : EX X b Γ1 S2 Γ2) (hr : Op2 r S1 S2 S) : EX X e Γ S Γ2 := by
  intro T _ τ σ s hl E Q hQ
  refine re_of pe ?_
  refine ha T τ σ s hl E _ fun v1 s1 E1 l1 e1 => ?_
  rw [List.append_assoc, List.append_assoc] at E1
  refine hb _ _ σ s1 (by rw [hl, l1]) E1 _ fun v2 s2 E2 l2 e2 => ?_
  rw [← List.append_assoc, ← List.append_assoc] at E2
  refine hr (σ ++ τ) (Γ2 ++ T) s2 v1 v2 E2 Q fun v' s3 E3 e3 => ?_
  exact hQ v' s3 E3 (by rw [l2, l1]) ((e1.trans e2).trans e3)
theorem ex_un {r : V → Hp → VK → Prop} (pe : PE X e (tUn r (RE X a))) (ha : EX X a Γ S1 Γ1) (hr : Op1 r S1 S) : EX X e Γ S Γ1 := by
  intro T _ τ σ s hl E Q hQ
  refine re_of pe ?_
  refine ha T τ σ s hl E _ fun v1 s1 E1 l1 e1 => ?_
  refine hr (σ ++ τ) (Γ1 ++ T) s1 v1 E1 Q fun v' s3 E3 e3 => ?_
  exact hQ v' s3 E3 l1 (e1.trans e3)
theorem ex_n {r : List V → Hp → VK → Prop} (pe : PE X e (fun σ H Q => RA X es σ H fun vs H1 => r vs H1 Q)) (ha : EA X es Γ Ss Γ1) (hr : OpN r Ss S) : EX X e Γ S Γ1 := by
  intro T _ τ σ s hl E Q hQ
  refine re_of pe ?_
  refine ha T τ σ s hl E _ fun vs s1 E1 l1 lv e1 => ?_
  refine hr (σ ++ τ) (Γ1 ++ T) s1 vs lv E1 Q fun v' s3 E3 e3 => ?_
  exact hQ v' s3 E3 l1 (e1.trans e3)
theorem ea_nil : EA X [] Γ [] Γ := by
  intro T _ τ σ s hl E Q hQ
  refine ra_of pa_nil ?_
  exact hQ [] s (by simpa using E) rfl rfl (Evo.refl s)
theorem ea_cons (ha : EX X e Γ S Γ1) (hr : EA X es Γ1 Ss Γ2) (hs : starEach (e :: es) X.env = (false, eval e X.env) :: starEach es X.env := by rfl) : EA X (e :: es) Γ (S :: Ss) Γ2 := by
  intro T _ τ σ s hl E Q hQ
  refine ra_of (pa_cons peR paR hs) ?_
  refine ha T τ σ s hl E _ fun v1 s1 E1 l1 e1 => ?_
  rw [List.append_assoc, List.append_assoc] at E1
  refine hr _ _ σ s1 (by rw [hl, l1]) E1 _ fun vs s2 E2 l2 lv e2 => ?_
  refine hQ (v1 :: vs) s2 ?_ (by rw [l2, l1]) (by simp [lv]) (e1.trans e2)
  simpa using E2
end

/-! ## pure results -/
section
variable {α β γ : Type} {R1 : Ty α} {R2' : Ty β} {R : Ty γ} {x : α} {y : β} {z : γ}
theorem pu_top {s : Sta} {σ : St} {Γ : List Slot} {v : V} (E : EnvOk s (σ ++ [some v]) (Γ ++ [pu R1 x])) : R1.rep s.B v x := by
  obtain ⟨_, u, e, h⟩ := E.top
  cases e; exact h
theorem pu_top2 {s : Sta} {σ : St} {Γ : List Slot} {v u : V} (E : EnvOk s ((σ ++ [some v]) ++ [some u]) ((Γ ++ [pu R1 x]) ++ [pu R2' y])) : R1.rep s.B v x ∧ R2'.rep s.B u y := by
  have h1 := pu_top E
  obtain ⟨E2, _⟩ := E.pop
  have h2 := pu_top E2
  exact ⟨h2, h1⟩
/-- a pure value is pushed in the place of the last ones -/
theorem op2_val {r : R2} (h : ∀ (B H : Hp) (v u : V), Same B H → R1.rep B v x → R2'.rep B u y → ∀ Q : VK, (∀ v', R.rep B v' z → Q v' H) → r v u H Q) : Op2 r (pu R1 x) (pu R2' y) (pu R z) := by
  intro σ Γ s v u E Q hQ
  obtain ⟨h1, h2⟩ := pu_top2 E
  obtain ⟨E2, e2⟩ := E.pop
  obtain ⟨E3, e3⟩ := E2.pop
  refine h s.B s.H v u E.sub h1 h2 Q fun v' hv => ?_
  exact hQ v' ((s.cut _).cut _) (E3.push0 (pu R z) ⟨rfl, v', rfl, hv⟩) (e2.trans e3)
theorem op1_val {r : V → Hp → VK → Prop} (h : ∀ (B H : Hp) (v : V), Same B H → R1.rep B v x → ∀ Q : VK, (∀ v', R.rep B v' z → Q v' H) → r v H Q) : Op1 r (pu R1 x) (pu R z) := by
  intro σ Γ s v E Q hQ
  obtain ⟨E2, e2⟩ := E.pop
  refine h s.B s.H v E.sub (pu_top E) Q fun v' hv => ?_
  exact hQ v' (s.cut _) (E2.push0 (pu R z) ⟨rfl, v', rfl, hv⟩) e2
/-- .. with a new pure object -/
theorem op2_new {r : R2} (h : ∀ (B H : Hp) (v u : V), Same B H → R1.rep B v x → R2'.rep B u y → ∀ Q : VK, (∀ p o, H p = none → (∀ B', Same B B' → B' p = some o → R.rep B' (.ref p) z) → Q (.ref p) (upd H p o)) → (∀ v', R.rep B v' z → Q v' H) → r v u H Q) : Op2 r (pu R1 x) (pu R2' y) (pu R z) := by
  intro σ Γ s v u E Q hQ
  obtain ⟨h1, h2⟩ := pu_top2 E
  obtain ⟨E2, e2⟩ := E.pop
  obtain ⟨E3, e3⟩ := E2.pop
  refine h s.B s.H v u E.sub h1 h2 Q (fun p o hp hv => ?_) fun v' hv => ?_
  · obtain ⟨E4, e4⟩ := E3.push1 (o := some (.ref p)) (ob := o) hp (pu R z) fun k1 k2 => ⟨rfl, _, rfl, hv _ k1 k2⟩
    exact hQ _ _ E4 ((e2.trans e3).trans e4)
  · exact hQ v' ((s.cut _).cut _) (E3.push0 (pu R z) ⟨rfl, v', rfl, hv⟩) (e2.trans e3)
theorem op1_new {r : V → Hp → VK → Prop} (h : ∀ (B H : Hp) (v : V), Same B H → R1.rep B v x → ∀ Q : VK, (∀ p o, H p = none → (∀ B', Same B B' → B' p = some o → R.rep B' (.ref p) z) → Q (.ref p) (upd H p o)) → (∀ v', R.rep B v' z → Q v' H) → r v H Q) : Op1 r (pu R1 x) (pu R z) := by
  intro σ Γ s v E Q hQ
  obtain ⟨E2, e2⟩ := E.pop
  refine h s.B s.H v E.sub (pu_top E) Q (fun p o hp hv => ?_) fun v' hv => ?_
  · obtain ⟨E4, e4⟩ := E2.push1 (o := some (.ref p)) (ob := o) hp (pu R z) fun k1 k2 => ⟨rfl, _, rfl, hv _ k1 k2⟩
    exact hQ _ _ E4 (e2.trans e4)
  · exact hQ v' (s.cut _) (E2.push0 (pu R z) ⟨rfl, v', rfl, hv⟩) e2
theorem opN_1 {r : List V → Hp → VK → Prop} {S1 S : Slot} (h : Op1 (fun v H Q => r [v] H Q) S1 S) : OpN r [S1] S := by
  intro σ Γ _ s vs lv E Q hQ
  match vs, lv with
  | [v], _ => exact h σ Γ s v E Q hQ
theorem opN_2 {r : List V → Hp → VK → Prop} {S1 S2 S : Slot} (h : Op2 (fun v u H Q => r [v, u] H Q) S1 S2 S) : OpN r [S1, S2] S := by
  intro σ Γ _ s vs lv E Q hQ
  match vs, lv with
  | [v, u], _ => exact h σ Γ s v u (by simpa using E) Q hQ
end

/-! ## the basic types -/
def tI : Ty Int := ⟨fun _ v i => v = .int i, fun _ h => h⟩
def tB : Ty Bool := ⟨fun _ v b => v = .bl b, fun _ h => h⟩
def tN : Ty Unit := ⟨fun _ v _ => v = .non, fun _ h => h⟩
def tS : Ty Str := ⟨fun _ v x => v = .str x, fun _ h => h⟩
theorem same_sqt {K : PySem.W.Frag} {B B' : Hp} {a : Addr} {xs : List V} (e : Same B B') (h : SqT K B a xs) : SqT K B' a xs := by
  rcases h with (h | ⟨o, h⟩) | h
  · exact .inl (.inl (e _ _ h))
  · exact .inl (.inr ⟨o, e _ _ h⟩)
  · exact .inr h
theorem paired_mono {α β : Type} {F G : α → β → Prop} (h : ∀ x y, F x y → G x y) : ∀ {l : List α} {m : List β}, Paired F l m → Paired G l m
  | _, _, .nil => .nil
  | _, _, .cons a r => .cons (h _ _ a) (paired_mono h r)
variable {α β γ δ ε : Type}
/-- a tuple, a list of things of one type -/
def tT (K : PySem.W.Frag) (R : Ty α) : Ty (List α) := ⟨fun B v xs => ∃ a vs, v = .ref a ∧ SqT K B a vs ∧ Paired (R.rep B) vs xs,
  fun s h => let ⟨a, vs, e, q, r⟩ := h; ⟨a, vs, e, same_sqt s q, paired_mono (fun _ _ z => R.mono s z) r⟩⟩
def tL (K : PySem.W.Frag) (R : Ty α) : Ty (List α) := ⟨fun B v xs => ∃ a vs, v = .ref a ∧ SqL K B a vs ∧ Paired (R.rep B) vs xs,
  fun s h => let ⟨a, vs, e, q, r⟩ := h; ⟨a, vs, e, s.seq q, paired_mono (fun _ _ z => R.mono s z) r⟩⟩
/-- pairs, triples, .. -/
def tP2 (K : PySem.W.Frag) (R : Ty α) (R' : Ty β) : Ty (α × β) := ⟨fun B v x => ∃ a v1 v2, v = .ref a ∧ SqT K B a [v1, v2] ∧ R.rep B v1 x.1 ∧ R'.rep B v2 x.2,
  fun s h => let ⟨a, v1, v2, e, q, r1, r2⟩ := h; ⟨a, v1, v2, e, same_sqt s q, R.mono s r1, R'.mono s r2⟩⟩
def tP3 (K : PySem.W.Frag) (R1 : Ty α) (R2 : Ty β) (R3 : Ty γ) : Ty (α × β × γ) := ⟨fun B v x => ∃ a v1 v2 v3, v = .ref a ∧ SqT K B a [v1, v2, v3] ∧ R1.rep B v1 x.1 ∧ R2.rep B v2 x.2.1 ∧ R3.rep B v3 x.2.2,
  fun s h => let ⟨a, v1, v2, v3, e, q, r1, r2, r3⟩ := h; ⟨a, v1, v2, v3, e, same_sqt s q, R1.mono s r1, R2.mono s r2, R3.mono s r3⟩⟩
def tP4 (K : PySem.W.Frag) (R1 : Ty α) (R2 : Ty β) (R3 : Ty γ) (R4 : Ty δ) : Ty (α × β × γ × δ) := ⟨fun B v x => ∃ a v1 v2 v3 v4, v = .ref a ∧ SqT K B a [v1, v2, v3, v4] ∧ R1.rep B v1 x.1 ∧ R2.rep B v2 x.2.1 ∧ R3.rep B v3 x.2.2.1 ∧ R4.rep B v4 x.2.2.2,
  fun s h => let ⟨a, v1, v2, v3, v4, e, q, r1, r2, r3, r4⟩ := h; ⟨a, v1, v2, v3, v4, e, same_sqt s q, R1.mono s r1, R2.mono s r2, R3.mono s r3, R4.mono s r4⟩⟩
/-- None or a thing -/
def tO (R : Ty α) : Ty (Option α) := ⟨fun B v x => match x with | none => v = .non | some a => R.rep B v a ∧ v ≠ .non,
  fun {B B' v x} s h => match x, h with | none, h => h | some _, h => ⟨R.mono s h.1, h.2⟩⟩
end Fw

namespace Fw
open PySem L2
variable [Tb]
variable {α β γ δ ε : Type}
/-! ## rows of things that lie in a tuple or a list -/
/-- a list as a pure thing stands itself in the region -/
def tLs (K : PySem.W.Frag) (R : Ty α) : Ty (List α) := ⟨fun B v xs => ∃ a vs, v = .ref a ∧ B a = some (.lst vs) ∧ Paired (R.rep B) vs xs,
  fun s h => let ⟨a, vs, e, q, r⟩ := h; ⟨a, vs, e, s _ _ q, paired_mono (fun _ _ z => R.mono s z) r⟩⟩
structure SeqL (K : PySem.W.Frag) (S : Ty (List α)) (R : Ty α) : Prop where
  get : ∀ {B v xs}, S.rep B v xs → ∃ a vs, v = .ref a ∧ SqL K B a vs ∧ Paired (R.rep B) vs xs
structure SeqT (K : PySem.W.Frag) (S : Ty (List α)) (R : Ty α) : Prop where
  get : ∀ {B v xs}, S.rep B v xs → ∃ a vs, v = .ref a ∧ SqT K B a vs ∧ Paired (R.rep B) vs xs
/-- a list or a tuple -/
structure SeqA (K : PySem.W.Frag) (S : Ty (List α)) (R : Ty α) : Prop where
  get : ∀ {B v xs}, S.rep B v xs → ∃ a vs, v = .ref a ∧ (SqL K B a vs ∨ SqT K B a vs) ∧ Paired (R.rep B) vs xs
section
variable {K : PySem.W.Frag} {R : Ty α} {S : Ty (List α)}
theorem sqL : SeqL K (tL K R) R := ⟨fun h => h⟩
theorem sqLs : SeqL K (tLs K R) R := ⟨fun h => let ⟨a, vs, e, q, r⟩ := h; ⟨a, vs, e, .inl (.inl q), r⟩⟩
theorem sqT : SeqT K (tT K R) R := ⟨fun h => h⟩
theorem SeqL.a (h : SeqL K S R) : SeqA K S R := ⟨fun q => let ⟨a, vs, e, z, r⟩ := h.get q; ⟨a, vs, e, .inl z, r⟩⟩
theorem SeqT.a (h : SeqT K S R) : SeqA K S R := ⟨fun q => let ⟨a, vs, e, z, r⟩ := h.get q; ⟨a, vs, e, .inr z, r⟩⟩
theorem saL : SeqA K (tL K R) R := sqL.a
theorem saLs : SeqA K (tLs K R) R := sqLs.a
theorem saT : SeqA K (tT K R) R := sqT.a
theorem same_or {B H : Hp} {a : Addr} {vs : List V} (s : Same B H) (h : SqL K B a vs ∨ SqT K B a vs) : SqL K H a vs ∨ SqT K H a vs := h.elim (fun z => .inl (s.seq z)) fun z => .inr (same_sqt s z)
end
theorem paired_len {F : V → α → Prop} {vs : List V} {xs : List α} (h : Paired F vs xs) : vs.length = xs.length := Paired.length h
theorem paired_get {F : V → α → Prop} : ∀ {vs : List V} {xs : List α} {i : Nat} {x : α}, Paired F vs xs → xs[i]? = some x → ∃ v, vs[i]? = some v ∧ F v x
  | _, _, _, _, .nil, e => by simp at e
  | _, _, 0, x, .cons h r, e => by simp at e; subst e; exact ⟨_, rfl, h⟩
  | _, _, i + 1, x, .cons h r, e => by
    obtain ⟨v, h1, h2⟩ := paired_get (i := i) (x := x) r (by simpa using e)
    exact ⟨v, by simpa using h1, h2⟩
theorem paired_getV {F : V → α → Prop} : ∀ {vs : List V} {xs : List α} {i : Nat} {v : V}, Paired F vs xs → vs[i]? = some v → ∃ x, xs[i]? = some x ∧ F v x
  | _, _, _, _, .nil, e => by simp at e
  | _, _, 0, x, .cons h r, e => by simp at e; subst e; exact ⟨_, rfl, h⟩
  | _, _, i + 1, x, .cons h r, e => by
    obtain ⟨v, h1, h2⟩ := paired_getV (i := i) (v := x) r (by simpa using e)
    exact ⟨v, by simpa using h1, h2⟩
theorem paired_app {F : V → α → Prop} : ∀ {vs us : List V} {xs ys : List α}, Paired F vs xs → Paired F us ys → Paired F (vs ++ us) (xs ++ ys)
  | _, _, _, _, .nil, s => s
  | _, _, _, _, .cons r t, s => .cons r (paired_app t s)
theorem paired_take {F : V → α → Prop} : ∀ {vs : List V} {xs : List α} (n : Nat), Paired F vs xs → Paired F (vs.take n) (xs.take n)
  | _, _, 0, _ => .nil
  | _, _, _ + 1, .nil => .nil
  | _, _, n + 1, .cons r t => .cons r (paired_take n t)
theorem paired_drop {F : V → α → Prop} : ∀ {vs : List V} {xs : List α} (n : Nat), Paired F vs xs → Paired F (vs.drop n) (xs.drop n)
  | _, _, 0, r => r
  | _, _, _ + 1, .nil => .nil
  | _, _, n + 1, .cons _ t => paired_drop n t
theorem paired_int {B : Hp} : ∀ {vs : List V} {xs : List Int}, Paired (tI.rep B) vs xs → vs = xs.map V.int
  | _, _, .nil => rfl
  | _, _, .cons r t => by rw [show _ = V.int _ from r, paired_int t]; rfl
theorem paired_of_int {B : Hp} : ∀ (xs : List Int), Paired (tI.rep B) (xs.map V.int) xs
  | [] => .nil
  | _ :: r => .cons rfl (paired_of_int r)
theorem paired_bl {B : Hp} : ∀ {vs : List V} {xs : List Bool}, Paired (tB.rep B) vs xs → vs = xs.map V.bl
  | _, _, .nil => rfl
  | _, _, .cons r t => by rw [show _ = V.bl _ from r, paired_bl t]; rfl

/-! ## data for == -/
structure Dat (K : PySem.W.Frag) (R : Ty α) [DecidableEq α] (n : Nat) where
  d : α → PyData
  rp : ∀ {B v a}, R.rep B v a → Dp K B v (d a)
  lay : ∀ a, (d a).canLay0 = true
  dep : ∀ a, (d a).depth ≤ n
  eqv : ∀ a b, PyData.eqv (d a) (d b) = decide (a = b)
section
variable {K : PySem.W.Frag}
theorem dp_same {B H : Hp} (s : Same B H) : ∀ (d : PyData) (v : V), Dp K B v d → Dp K H v d
  | .none, _, h => by cases h; exact .non
  | .bool b, _, h => by cases h; exact .bl b
  | .int i, _, h => by cases h; exact .int i
  | .str x, _, h => by cases h; exact .str x
  | .list ds, _, h => by
    cases h with
    | lst q r => exact .lst (s.seq q) (all s ds _ r)
  | .tuple ds, _, h => by
    cases h with
    | tup q r => exact .tup (same_sqt s q) (all s ds _ r)
  | .dict _, _, h => by cases h
where all {B H : Hp} (s : Same B H) : ∀ (ds : List PyData) (vs : List V), DpAll K B vs ds → DpAll K H vs ds
  | [], _, h => by cases h; exact .nil
  | d :: ds, _, h => by
    cases h with
    | cons h1 h2 => exact .cons (dp_same s d _ h1) (all s ds _ h2)
def dI : Dat K tI 0 := ⟨PyData.int, fun h => by rw [show _ = V.int _ from h]; exact .int _, fun _ => rfl, fun _ => Nat.le_refl _, fun a b => by simp [PyData.eqv, Bool.beq_eq_decide_eq]⟩
def dB : Dat K tB 0 := ⟨PyData.bool, fun h => by rw [show _ = V.bl _ from h]; exact .bl _, fun _ => rfl, fun _ => Nat.le_refl _, fun a b => by simp [PyData.eqv, Bool.beq_eq_decide_eq]⟩
def dN : Dat K tN 0 := ⟨fun _ => PyData.none, fun h => by rw [show _ = V.non from h]; exact .non, fun _ => rfl, fun _ => Nat.le_refl _, fun a b => by simp [PyData.eqv]⟩
theorem dat_all {R : Ty α} [DecidableEq α] {n : Nat} (D : Dat K R n) {B : Hp} : ∀ {vs : List V} {xs : List α}, Paired (R.rep B) vs xs → DpAll K B vs (xs.map D.d)
  | _, _, .nil => .nil
  | _, _, .cons r t => .cons (D.rp r) (dat_all D t)
theorem dat_lay {R : Ty α} [DecidableEq α] {n : Nat} (D : Dat K R n) : ∀ xs : List α, PyData.canLayAll0 (xs.map D.d) = true
  | [] => by simp [PyData.canLayAll0]
  | x :: r => by simp [PyData.canLayAll0, D.lay x, dat_lay D r]
theorem dat_dep {R : Ty α} [DecidableEq α] {n : Nat} (D : Dat K R n) : ∀ xs : List α, PyData.depthAll (xs.map D.d) ≤ n
  | [] => by simp [PyData.depthAll]
  | x :: r => by
    have h1 := D.dep x
    have h2 := dat_dep D r
    simp only [List.map_cons, PyData.depthAll]
    omega
theorem dat_eqv {R : Ty α} [DecidableEq α] {n : Nat} (D : Dat K R n) : ∀ xs ys : List α, PyData.eqvAll (xs.map D.d) (ys.map D.d) = decide (xs = ys)
  | [], [] => by simp [PyData.eqvAll]
  | [], _ :: _ => by simp [PyData.eqvAll]
  | _ :: _, [] => by simp [PyData.eqvAll]
  | x :: r, y :: q => by
    simp only [List.map_cons, PyData.eqvAll, D.eqv x y, dat_eqv D r q]
    by_cases e : x = y <;> by_cases f : r = q <;> simp [e, f]
def dSeqT {R : Ty α} {S : Ty (List α)} [DecidableEq α] {n : Nat} (q : SeqT K S R) (D : Dat K R n) : Dat K S (n + 1) := ⟨fun xs => .tuple (xs.map D.d),
  fun h => by obtain ⟨a, vs, e, z, r⟩ := q.get h; rw [e]; exact .tup z (dat_all D r), fun a => by simp only [PyData.canLay0]; exact dat_lay D a,
  fun a => by have := dat_dep D a; simp only [PyData.depth]; omega, fun a b => by simp only [PyData.eqv]; exact dat_eqv D a b⟩
def dSeqL {R : Ty α} {S : Ty (List α)} [DecidableEq α] {n : Nat} (q : SeqL K S R) (D : Dat K R n) : Dat K S (n + 1) := ⟨fun xs => .list (xs.map D.d),
  fun h => by obtain ⟨a, vs, e, z, r⟩ := q.get h; rw [e]; exact .lst z (dat_all D r), fun a => by simp only [PyData.canLay0]; exact dat_lay D a,
  fun a => by have := dat_dep D a; simp only [PyData.depth]; omega, fun a b => by simp only [PyData.eqv]; exact dat_eqv D a b⟩
def dT {R : Ty α} [DecidableEq α] {n : Nat} (D : Dat K R n) : Dat K (tT K R) (n + 1) := dSeqT sqT D
def dL {R : Ty α} [DecidableEq α] {n : Nat} (D : Dat K R n) : Dat K (tL K R) (n + 1) := dSeqL sqL D
def dLs {R : Ty α} [DecidableEq α] {n : Nat} (D : Dat K R n) : Dat K (tLs K R) (n + 1) := dSeqL sqLs D
def dP2 {R : Ty α} {R' : Ty β} [DecidableEq α] [DecidableEq β] {n : Nat} (D : Dat K R n) (D' : Dat K R' n) : Dat K (tP2 K R R') (n + 1) := ⟨fun x => .tuple [D.d x.1, D'.d x.2],
  fun h => by obtain ⟨a, v1, v2, e, q, r1, r2⟩ := h; rw [e]; exact .tup q (.cons (D.rp r1) (.cons (D'.rp r2) .nil)), fun a => by simp [PyData.canLay0, PyData.canLayAll0, D.lay, D'.lay],
  fun a => by have := D.dep a.1; have := D'.dep a.2; simp only [PyData.depth, PyData.depthAll]; omega,
  fun a b => by obtain ⟨a1, a2⟩ := a; obtain ⟨b1, b2⟩ := b; simp only [PyData.eqv, PyData.eqvAll, D.eqv, D'.eqv]; by_cases e : a1 = b1 <;> by_cases f : a2 = b2 <;> simp [e, f]⟩
def Dat.up {R : Ty α} [DecidableEq α] {n m : Nat} (D : Dat K R n) (h : n ≤ m) : Dat K R m := ⟨D.d, D.rp, D.lay, fun a => Nat.le_trans (D.dep a) h, D.eqv⟩
theorem Dat.shaped {R : Ty α} [DecidableEq α] {n : Nat} (D : Dat K R n) (h : n ≤ 64) (a : α) : SeqAt.shaped (D.d a) = true := by
  unfold SeqAt.shaped
  rw [D.lay a, decide_eq_true (Nat.le_trans (D.dep a) h)]; rfl
end

/-! ## operations by values -/
section
variable {K : PySem.W.Frag} {R R1 : Ty α} {R2' : Ty β}
theorem o_II {C : Int → Int → Prop} {g : Int → Int → Int} {x y : Int} (hc : C x y) : Op2 (rI C fun i j => .int (g i j)) (pu tI x) (pu tI y) (pu tI (g x y)) :=
  op2_val fun _ _ _ _ _ h1 h2 _ q => ⟨x, y, h1, h2, hc, q _ rfl⟩
theorem o_II0 {g : Int → Int → Int} {x y : Int} : Op2 (rI0 fun i j => .int (g i j)) (pu tI x) (pu tI y) (pu tI (g x y)) :=
  op2_val fun _ _ _ _ _ h1 h2 _ q => ⟨x, y, h1, h2, q _ rfl⟩
theorem o_IB {g : Int → Int → Bool} {x y : Int} : Op2 (rI0 fun i j => .bl (g i j)) (pu tI x) (pu tI y) (pu tB (g x y)) :=
  op2_val fun _ _ _ _ _ h1 h2 _ q => ⟨x, y, h1, h2, q _ rfl⟩
theorem o_eqD [DecidableEq α] {n : Nat} {x y : α} (D : Dat K R n) (hn : n ≤ 64 := by decide) : Op2 (rEqD K) (pu R x) (pu R y) (pu tB (decide (x = y))) :=
  op2_val fun _ _ _ _ s h1 h2 _ q => ⟨_, _, dp_same s _ _ (D.rp h1), dp_same s _ _ (D.rp h2), D.shaped hn _, D.shaped hn _, by rw [D.eqv]; exact q _ rfl⟩
theorem o_neD [DecidableEq α] {n : Nat} {x y : α} (D : Dat K R n) (hn : n ≤ 64 := by decide) : Op2 (rNeD K) (pu R x) (pu R y) (pu tB (!decide (x = y))) :=
  op2_val fun _ _ _ _ s h1 h2 _ q => ⟨_, _, dp_same s _ _ (D.rp h1), dp_same s _ _ (D.rp h2), D.shaped hn _, D.shaped hn _, by rw [D.eqv]; exact q _ rfl⟩
theorem flat_ints : ∀ xs : List Int, (xs.map V.int).all flatV = true
  | [] => rfl
  | x :: r => by simp only [List.map_cons, List.all_cons, flat_ints r]; rfl
theorem inV_ints (x : Int) : ∀ xs : List Int, inV (.int x) (xs.map V.int) = decide (x ∈ xs)
  | [] => by simp [inV]
  | y :: r => by
    have ih := inV_ints x r
    unfold inV at ih ⊢
    rw [List.map_cons, List.any_cons, ih]
    show (eqV (.int y) (.int x) || _) = _
    have e : eqV (.int y) (.int x) = decide (x = y) := by
      show (y == x) = decide (x = y)
      by_cases h : x = y
      · subst h; simp
      · rw [decide_eq_false h]; exact beq_eq_false_iff_ne.mpr (Ne.symm h)
    rw [e]
    by_cases h : x = y <;> by_cases h2 : x ∈ r <;> simp [h, h2]
theorem o_in {S : Ty (List Int)} {x : Int} {xs : List Int} (q : SeqA K S tI) : Op2 (rIn K false) (pu tI x) (pu S xs) (pu tB (decide (x ∈ xs))) :=
  op2_val fun B H v u s h1 h2 Q k => by
    obtain ⟨a, vs, e, z, r⟩ := q.get h2
    rw [paired_int r] at z
    refine ⟨a, _, e, same_or s z, by rw [show v = V.int x from h1]; rfl, flat_ints xs, ?_⟩
    rw [show v = V.int x from h1, inV_ints]
    exact k _ rfl
theorem o_notin {S : Ty (List Int)} {x : Int} {xs : List Int} (q : SeqA K S tI) : Op2 (rIn K true) (pu tI x) (pu S xs) (pu tB (!decide (x ∈ xs))) :=
  op2_val fun B H v u s h1 h2 Q k => by
    obtain ⟨a, vs, e, z, r⟩ := q.get h2
    rw [paired_int r] at z
    refine ⟨a, _, e, same_or s z, by rw [show v = V.int x from h1]; rfl, flat_ints xs, ?_⟩
    rw [show v = V.int x from h1, inV_ints]
    exact k _ rfl
theorem o_isN {x : Option α} : Op2 (fun x y H Q => y = .non ∧ Q (.bl (decide (x = .non))) H) (pu (tO R) x) (pu tN ()) (pu tB x.isNone) :=
  op2_val fun B H v u s h1 h2 Q k => ⟨h2, by
    cases x with
    | none => rw [show v = V.non from h1]; exact k _ rfl
    | some a => rw [decide_eq_false (show ¬ v = V.non from h1.2)]; exact k _ rfl⟩
theorem o_notN {x : Option α} : Op2 (fun x y H Q => y = .non ∧ Q (.bl (!decide (x = .non))) H) (pu (tO R) x) (pu tN ()) (pu tB x.isSome) :=
  op2_val fun B H v u s h1 h2 Q k => ⟨h2, by
    cases x with
    | none => rw [show v = V.non from h1]; exact k _ rfl
    | some a => rw [decide_eq_false (show ¬ v = V.non from h1.2)]; exact k _ rfl⟩
theorem o_catL {x y : List α} (hz : x.length + y.length ≤ sizeLine) : Op2 rCat (pu (tLs K R) x) (pu (tLs K R) y) (pu (tLs K R) (x ++ y)) :=
  op2_new fun B H v u s h1 h2 Q k _ => by
    obtain ⟨a, vs, e, z, r⟩ := h1
    obtain ⟨b, us, e2, z2, r2⟩ := h2
    refine ⟨a, b, vs, us, e, e2, s _ _ z, s _ _ z2, by rw [paired_len r, paired_len r2]; exact hz, fun p hp => k p _ hp fun B' s' hB => ⟨p, _, rfl, hB, ?_⟩⟩
    exact paired_app (paired_mono (fun _ _ w => R.mono s' w) r) (paired_mono (fun _ _ w => R.mono s' w) r2)
end
end Fw

namespace Fw
open PySem L2
variable [Tb]
variable {α β γ δ ε : Type}
/-! ## owned things -/
/-- an owned list of pure things -/
def ol (R : Ty α) (xs : List α) : Slot := ⟨fun B F o => ∃ p vs, o = some (.ref p) ∧ F = one p (.lst vs) ∧ Paired (R.rep B) vs xs,
  fun s h => let ⟨p, vs, e, f, r⟩ := h; ⟨p, vs, e, f, paired_mono (fun _ _ z => R.mono s z) r⟩⟩
section
variable {s : Sta} {σ τ : St} {Γ Γ' Γ'' T : List Slot} {S S' : Slot} {o : Option V}
/-- the content and footprint of the slot i move to the top -/
theorem EnvOk.move {i : Nat} (E : EnvOk s σ Γ) (hi : Γ[i]? = some S) :
    EnvOk ⟨s.B, s.H, fun j => if j = Γ.length then s.F i else if j = i then em else s.F j⟩ (σ ++ [σ[i]?.join]) (Γ.set i un ++ [S]) ∧ Evo s ⟨s.B, s.H, fun j => if j = Γ.length then s.F i else if j = i then em else s.F j⟩ := by
  have hl := (List.getElem?_eq_some_iff.mp hi).1
  have key : ∀ j a, (if j = Γ.length then s.F i else if j = i then em else s.F j) a ≠ none → (j = Γ.length ∧ s.F i a ≠ none) ∨ (j ≠ Γ.length ∧ j ≠ i ∧ s.F j a ≠ none) := fun j a h => by
    by_cases q : j = Γ.length
    · rw [if_pos q] at h; exact .inl ⟨q, h⟩
    · rw [if_neg q] at h
      by_cases q2 : j = i
      · rw [if_pos q2] at h; exact absurd rfl h
      · rw [if_neg q2] at h; exact .inr ⟨q, q2, h⟩
  have val : ∀ j a u, (if j = Γ.length then s.F i else if j = i then em else s.F j) a = some u → s.H a = some u := fun j a u h => by
    by_cases q : j = Γ.length
    · rw [if_pos q] at h; exact E.subF i a u h
    · rw [if_neg q] at h
      by_cases q2 : j = i
      · rw [if_pos q2] at h; cases h
      · rw [if_neg q2] at h; exact E.subF j a u h
  refine ⟨⟨E.sub, val, fun j a h => ?_, fun j k a h1 h2 => ?_, by simp [E.len], fun j S2 h2 => ?_, fun j h2 => ?_⟩, ⟨fun _ _ h => h, fun _ _ h _ => h, fun _ h => h, fun _ h => .inl h, fun a j h => ?_⟩⟩
  · rcases key j a h with ⟨_, z⟩ | ⟨_, _, z⟩
    · exact E.dis i a z
    · exact E.dis j a z
  · rcases key j a h1 with ⟨q, z⟩ | ⟨q, q2, z⟩
    · rcases key k a h2 with ⟨q', z'⟩ | ⟨q', q2', z'⟩
      · omega
      · exact absurd (E.disF i k a z z').symm q2'
    · rcases key k a h2 with ⟨q', z'⟩ | ⟨q', q2', z'⟩
      · exact absurd (E.disF j i a z z') q2
      · exact E.disF j k a z z'
  · show S2.p s.B (if j = Γ.length then s.F i else if j = i then em else s.F j) _
    by_cases hj : j < Γ.length
    · rw [List.getElem?_append_left (by simpa using hj)] at h2
      rw [List.getElem?_append_left (by rw [E.len]; exact hj), if_neg (by omega)]
      by_cases q : j = i
      · subst q
        rw [List.getElem?_set_self hl] at h2; cases h2
        rw [if_pos rfl]; rfl
      · rw [List.getElem?_set_ne (Ne.symm q)] at h2
        rw [if_neg q]
        exact E.sl j S2 h2
    · have hl2 := (List.getElem?_eq_some_iff.mp h2).1
      simp at hl2
      have e : j = Γ.length := by omega
      subst e
      have h3 : (Γ.set i un ++ [S])[Γ.length]? = some S := by
        rw [List.getElem?_append_right (by simp)]; simp
      rw [h3] at h2; cases h2
      rw [if_pos rfl, join_get (show (σ ++ [σ[i]?.join])[Γ.length]? = some (σ[i]?.join) by rw [← E.len]; simp)]
      exact E.sl i S hi
  · have h3 : Γ.length + 1 ≤ j := by simpa using h2
    show (if j = Γ.length then s.F i else if j = i then em else s.F j) = em
    rw [if_neg (by omega), if_neg (by omega)]
    exact E.out j (by omega)
  · rcases key j a h with ⟨_, z⟩ | ⟨_, _, z⟩
    · exact .inr ⟨i, z⟩
    · exact .inr ⟨j, z⟩
/-- the top moves into the slot i; what was there is dropped -/
theorem EnvOk.store {i : Nat} (E : EnvOk s (σ ++ [o]) (Γ ++ [S])) (hi : i < Γ.length) :
    EnvOk ⟨s.B, s.H, fun j => if j = Γ.length then em else if j = i then s.F Γ.length else s.F j⟩ (σ.set i o) (Γ.set i S) ∧ Evo s ⟨s.B, s.H, fun j => if j = Γ.length then em else if j = i then s.F Γ.length else s.F j⟩ := by
  have hlen : σ.length = Γ.length := by have := E.len; simp at this; exact this
  have key : ∀ j a, (if j = Γ.length then em else if j = i then s.F Γ.length else s.F j) a ≠ none → (j = i ∧ s.F Γ.length a ≠ none) ∨ (j ≠ Γ.length ∧ j ≠ i ∧ s.F j a ≠ none) := fun j a h => by
    by_cases q : j = Γ.length
    · rw [if_pos q] at h; exact absurd rfl h
    · rw [if_neg q] at h
      by_cases q2 : j = i
      · rw [if_pos q2] at h; exact .inl ⟨q2, h⟩
      · rw [if_neg q2] at h; exact .inr ⟨q, q2, h⟩
  refine ⟨⟨E.sub, fun j a u h => ?_, fun j a h => ?_, fun j k a h1 h2 => ?_, by simp [hlen], fun j S2 h2 => ?_, fun j h2 => ?_⟩, ⟨fun _ _ h => h, fun _ _ h _ => h, fun _ h => h, fun _ h => .inl h, fun a j h => ?_⟩⟩
  · have h' : (if j = Γ.length then em else if j = i then s.F Γ.length else s.F j) a = some u := h
    by_cases q : j = Γ.length
    · rw [if_pos q] at h'; cases h'
    · rw [if_neg q] at h'
      by_cases q2 : j = i
      · rw [if_pos q2] at h'; exact E.subF _ a u h'
      · rw [if_neg q2] at h'; exact E.subF j a u h'
  · rcases key j a h with ⟨_, z⟩ | ⟨_, _, z⟩
    · exact E.dis _ a z
    · exact E.dis j a z
  · rcases key j a h1 with ⟨q, z⟩ | ⟨q, q2, z⟩
    · rcases key k a h2 with ⟨q', z'⟩ | ⟨q', q2', z'⟩
      · omega
      · exact absurd (E.disF _ k a z z').symm q'
    · rcases key k a h2 with ⟨q', z'⟩ | ⟨q', q2', z'⟩
      · exact absurd (E.disF j _ a z z') q
      · exact E.disF j k a z z'
  · have hj : j < Γ.length := by have := (List.getElem?_eq_some_iff.mp h2).1; simpa using this
    show S2.p s.B (if j = Γ.length then em else if j = i then s.F Γ.length else s.F j) _
    rw [if_neg (by omega)]
    by_cases q : j = i
    · subst q
      rw [List.getElem?_set_self hi] at h2; cases h2
      rw [if_pos rfl, List.getElem?_set_self (by omega)]
      exact E.top
    · rw [List.getElem?_set_ne (Ne.symm q)] at h2
      rw [if_neg q, List.getElem?_set_ne (Ne.symm q)]
      have := E.sl j S2 (by rw [List.getElem?_append_left hj]; exact h2)
      rw [List.getElem?_append_left (by omega)] at this
      exact this
  · show (if j = Γ.length then em else if j = i then s.F Γ.length else s.F j) = em
    simp at h2
    by_cases q : j = Γ.length
    · rw [if_pos q]
    · rw [if_neg q, if_neg (by omega)]
      exact E.out j (by simp; omega)
  · rcases key j a h with ⟨_, z⟩ | ⟨_, _, z⟩
    · exact .inr ⟨_, z⟩
    · exact .inr ⟨j, z⟩
/-- an owned object is written -/
theorem EnvOk.write {i : Nat} {p : Addr} {ob ob' : HO} (E : EnvOk s σ Γ) (hi : i < Γ.length) (hF : s.F i = one p ob) (h : S'.p s.B (one p ob') (σ[i]?.join)) :
    EnvOk ⟨s.B, upd s.H p ob', fun j => if j = i then one p ob' else s.F j⟩ σ (Γ.set i S') ∧ Evo s ⟨s.B, upd s.H p ob', fun j => if j = i then one p ob' else s.F j⟩ := by
  have hp : s.F i p ≠ none := by rw [hF, one_self]; simp
  have hb : s.B p = none := E.dis i p hp
  have hnp : ∀ j, j ≠ i → s.F j p = none := fun j q => by
    cases e : s.F j p with
    | none => rfl
    | some u => exact absurd (E.disF j i p (by rw [e]; simp) hp) q
  have key : ∀ j a, (if j = i then one p ob' else s.F j) a ≠ none → s.F j a ≠ none := fun j a h => by
    by_cases q : j = i
    · rw [if_pos q] at h; rw [q, one_ne h]; exact hp
    · rw [if_neg q] at h; exact h
  refine ⟨⟨fun a u h => ?_, fun j a u h => ?_, fun j a h => E.dis j a (key j a h), fun j k a h1 h2 => E.disF j k a (key j a h1) (key k a h2), by simp [E.len], fun j S2 h2 => ?_, fun j h2 => ?_⟩, ⟨fun _ _ h => h, fun a u h n => ?_, fun a h => ?_, fun _ h => .inl h, fun a j h => .inr ⟨j, key j a h⟩⟩⟩
  · show upd s.H p ob' a = some u
    rw [upd_ne (ne_of_none h hb)]; exact E.sub a u h
  · have h' : (if j = i then one p ob' else s.F j) a = some u := h
    show upd s.H p ob' a = some u
    by_cases q : j = i
    · rw [if_pos q] at h'
      have e := one_ne (p := p) (o := ob') (a := a) (by rw [h']; simp)
      rw [e, one_self] at h'; cases h'
      rw [e]; exact upd_same
    · rw [if_neg q] at h'
      rw [upd_ne (ne_of_none h' (hnp j q))]
      exact E.subF j a u h'
  · show S2.p s.B (if j = i then one p ob' else s.F j) _
    by_cases q : j = i
    · subst q
      rw [List.getElem?_set_self hi] at h2; cases h2
      rw [if_pos rfl]; exact h
    · rw [List.getElem?_set_ne (Ne.symm q)] at h2
      rw [if_neg q]
      exact E.sl j S2 h2
  · show (if j = i then one p ob' else s.F j) = em
    rw [List.length_set] at h2
    rw [if_neg (by omega)]
    exact E.out j h2
  · show upd s.H p ob' a = some u
    have : a ≠ p := fun e => hp (by rw [← e]; exact n i)
    rw [upd_ne this]; exact h
  · show upd s.H p ob' a ≠ none
    by_cases q : a = p
    · rw [q, upd_same]; simp
    · rw [upd_ne q]; exact h
/-- what a slot owns goes over into the pure region -/
theorem EnvOk.freeze {i : Nat} (E : EnvOk s σ Γ) (hi : i < Γ.length) (h : ∀ B', Same s.B B' → Same (s.F i) B' → S'.p B' em (σ[i]?.join)) :
    EnvOk ⟨un2 (s.F i) s.B, s.H, fun j => if j = i then em else s.F j⟩ σ (Γ.set i S') ∧ Evo s ⟨un2 (s.F i) s.B, s.H, fun j => if j = i then em else s.F j⟩ := by
  have s1 : Same s.B (un2 (s.F i) s.B) := same_r (E.subF i) E.sub
  have key : ∀ j a, (if j = i then em else s.F j) a ≠ none → j ≠ i ∧ s.F j a ≠ none := fun j a h => by
    by_cases q : j = i
    · rw [if_pos q] at h; exact absurd rfl h
    · rw [if_neg q] at h; exact ⟨q, h⟩
  refine ⟨⟨same_un2 (E.subF i) E.sub, fun j a u h => ?_, fun j a h => ?_, fun j k a h1 h2 => E.disF j k a (key j a h1).2 (key k a h2).2, by simp [E.len], fun j S2 h2 => ?_, fun j h2 => ?_⟩, ⟨s1, fun _ _ h _ => h, fun _ h => h, fun a h => ?_, fun a j h => .inr ⟨j, (key j a h).2⟩⟩⟩
  · have h' : (if j = i then em else s.F j) a = some u := h
    by_cases q : j = i
    · rw [if_pos q] at h'; cases h'
    · rw [if_neg q] at h'; exact E.subF j a u h'
  · obtain ⟨q, z⟩ := key j a h
    show un2 (s.F i) s.B a = none
    have e : s.F i a = none := by
      cases e : s.F i a with
      | none => rfl
      | some u => exact absurd (E.disF j i a z (by rw [e]; simp)) q
    rw [un2_r e]
    exact E.dis j a z
  · show S2.p (un2 (s.F i) s.B) (if j = i then em else s.F j) _
    by_cases q : j = i
    · subst q
      rw [List.getElem?_set_self hi] at h2; cases h2
      rw [if_pos rfl]; exact h _ s1 same_l
    · rw [List.getElem?_set_ne (Ne.symm q)] at h2
      rw [if_neg q]
      exact S2.mono s1 (E.sl j S2 h2)
  · show (if j = i then em else s.F j) = em
    rw [List.length_set] at h2
    rw [if_neg (by omega)]
    exact E.out j h2
  · rcases un2_ne h with z | z
    · exact .inr (.inr ⟨i, z⟩)
    · exact .inl z

/-! ## weakening -/
def Wk (Γ Γ' : List Slot) : Prop := Γ'.length = Γ.length ∧ ∀ (T : List Slot) (τ σ : St) (s : Sta), σ.length = Γ.length → EnvOk s (σ ++ τ) (Γ ++ T) → ∃ s', EnvOk s' (σ ++ τ) (Γ' ++ T) ∧ Evo s s' ∧ s'.H = s.H
theorem Wk.refl : Wk Γ Γ := ⟨rfl, fun _ _ _ s _ E => ⟨s, E, Evo.refl s, rfl⟩⟩
theorem Wk.trans (a : Wk Γ Γ') (b : Wk Γ' Γ'') : Wk Γ Γ'' := ⟨b.1.trans a.1, fun T τ σ s hl E => by
  obtain ⟨s1, E1, e1, h1⟩ := a.2 T τ σ s hl E
  obtain ⟨s2, E2, e2, h2⟩ := b.2 T τ σ s1 (hl.trans a.1.symm) E1
  exact ⟨s2, E2, e1.trans e2, h2.trans h1⟩⟩
theorem set_app {i : Nat} (hi : i < Γ.length) : (Γ ++ T).set i S = Γ.set i S ++ T := List.set_append_left _ _ hi
theorem Wk.turn {i : Nat} (hi : Γ[i]? = some S) (h : ∀ B o, S.p B em o → S'.p B em o) (he : ∀ B F o, S.p B F o → F = em) : Wk Γ (Γ.set i S') := ⟨by simp, fun T τ σ s hl E => by
  have hl2 := (List.getElem?_eq_some_iff.mp hi).1
  have hi' : (Γ ++ T)[i]? = some S := by rw [List.getElem?_append_left hl2]; exact hi
  have q := E.sl i S hi'
  have e := he _ _ _ q
  rw [e] at q
  obtain ⟨E', e'⟩ := E.turn (S' := S') (F' := em) hi' same_em (h _ _ q)
  rw [set_app hl2] at E'
  exact ⟨_, E', e', rfl⟩⟩
theorem Wk.un (i : Nat) : Wk Γ (Γ.set i un) := by
  by_cases hi : i < Γ.length
  · refine ⟨by simp, fun T τ σ s hl E => ?_⟩
    have hi' : (Γ ++ T)[i]? = some Γ[i] := by rw [List.getElem?_append_left hi]; simp
    obtain ⟨E', e'⟩ := E.turn (S' := Fw.un) (F' := em) hi' same_em rfl
    rw [set_app hi] at E'
    exact ⟨_, E', e', rfl⟩
  · rw [List.set_eq_of_length_le (by omega)]
    exact Wk.refl
def uns : List Nat → List Slot → List Slot
  | [], Γ => Γ
  | i :: r, Γ => uns r (Γ.set i un)
theorem Wk.uns : ∀ (is : List Nat) {Γ : List Slot}, Wk Γ (uns is Γ)
  | [], _ => Wk.refl
  | i :: r, _ => (Wk.un i).trans (Wk.uns r)
theorem Wk.pu {α β : Type} {R : Ty α} {a : α} {R' : Ty β} {b : β} {i : Nat} (hi : Γ[i]? = some (Fw.pu R a)) (h : ∀ B v, R.rep B v a → R'.rep B v b) : Wk Γ (Γ.set i (Fw.pu R' b)) :=
  Wk.turn hi (fun B o ⟨e, v, ho, r⟩ => ⟨e, v, ho, h B v r⟩) fun _ _ _ z => z.1
theorem ol_pure {α : Type} {R : Ty α} {xs : List α} {B F B' : Hp} {o : Option V} (h : (ol R xs).p B F o) (s1 : Same B B') (s2 : Same F B') (K : PySem.W.Frag) : (pu (tLs K R) xs).p B' em o := by
  obtain ⟨p, vs, e, f, r⟩ := h
  rw [f] at s2
  exact ⟨rfl, _, e, p, vs, rfl, s2 _ _ one_self, paired_mono (fun _ _ z => R.mono s1 z) r⟩
theorem Wk.frz {α : Type} {R : Ty α} {xs : List α} {i : Nat} (K : PySem.W.Frag) (hi : Γ[i]? = some (ol R xs)) : Wk Γ (Γ.set i (Fw.pu (tLs K R) xs)) := ⟨by simp, fun T τ σ s hl E => by
  have hl2 := (List.getElem?_eq_some_iff.mp hi).1
  have hi' : (Γ ++ T)[i]? = some (ol R xs) := by rw [List.getElem?_append_left hl2]; exact hi
  obtain ⟨E', e'⟩ := E.freeze (S' := Fw.pu (tLs K R) xs) (i := i) (by simp; omega) fun B' s1 s2 => ol_pure (E.sl i _ hi') s1 s2 K
  rw [set_app hl2] at E'
  exact ⟨_, E', e', rfl⟩⟩
end

/-! ## statements -/
inductive Res where
  | nx (Γ : List Slot) | rt (Γ : List Slot) (S : Slot) | bk (Γ : List Slot) | ct (Γ : List Slot)
def Sat (D : Ends) (s : Sta) (T : List Slot) (τ : St) : Res → Prop
  | .nx Γ' => ∀ σ' s', σ'.length = Γ'.length → EnvOk s' (σ' ++ τ) (Γ' ++ T) → Evo s s' → D.nx σ' s'.H
  | .bk Γ' => ∀ σ' s', σ'.length = Γ'.length → EnvOk s' (σ' ++ τ) (Γ' ++ T) → Evo s s' → D.bk σ' s'.H
  | .ct Γ' => ∀ σ' s', σ'.length = Γ'.length → EnvOk s' (σ' ++ τ) (Γ' ++ T) → Evo s s' → D.ct σ' s'.H
  | .rt Γ' S => ∀ σ' v s', σ'.length = Γ'.length → EnvOk s' ((σ' ++ τ) ++ [some v]) ((Γ' ++ T) ++ [S]) → Evo s s' → D.rt v s'.H
theorem Sat.mono {D : Ends} {s s1 : Sta} {T : List Slot} {τ : St} (e : Evo s s1) : ∀ {r : Res}, Sat D s T τ r → Sat D s1 T τ r
  | .nx _, h => fun σ' s' l E e' => h σ' s' l E (e.trans e')
  | .bk _, h => fun σ' s' l E e' => h σ' s' l E (e.trans e')
  | .ct _, h => fun σ' s' l E e' => h σ' s' l E (e.trans e')
  | .rt _ _, h => fun σ' v s' l E e' => h σ' v s' l E (e.trans e')
def SX (X : Cx) (sts : List Stmt) (Γ : List Slot) (P : Res → Prop) : Prop :=
  ∀ (T : List Slot) [HasTab T] (τ σ : St) (s : Sta), σ.length = Γ.length → EnvOk s (σ ++ τ) (Γ ++ T) → ∀ D : Ends, (∀ r, P r → Sat D s T τ r) → RSs X sts D σ s.H
def S1 (X : Cx) (st : Stmt) (Γ : List Slot) (P : Res → Prop) : Prop :=
  ∀ (T : List Slot) [HasTab T] (τ σ : St) (s : Sta), σ.length = Γ.length → EnvOk s (σ ++ τ) (Γ ++ T) → ∀ D : Ends, (∀ r, P r → Sat D s T τ r) → RS X st D σ s.H
def isNx : Res → Prop
  | .nx _ => True
  | _ => False
section
variable {X : Cx} {e : Expr} {st : Stmt} {sts t u : List Stmt} {pos : Pos} {Γ Γ1 Γ2 Γ' : List Slot} {S : Slot} {P P1 : Res → Prop} {b : Bool}
theorem SX.imp (h : SX X sts Γ P) (k : ∀ r, P r → P1 r) : SX X sts Γ P1 := fun T _ τ σ s hl E D hD => h T τ σ s hl E D fun r q => hD r (k r q)
theorem S1.imp (h : S1 X st Γ P) (k : ∀ r, P r → P1 r) : S1 X st Γ P1 := fun T _ τ σ s hl E D hD => h T τ σ s hl E D fun r q => hD r (k r q)
theorem SX.wk (w : Wk Γ Γ') (h : SX X sts Γ' P) : SX X sts Γ P := fun T _ τ σ s hl E D hD => by
  obtain ⟨s1, E1, e1, h1⟩ := w.2 T τ σ s hl E
  rw [← h1]
  exact h T τ σ s1 (hl.trans w.1.symm) E1 D fun r q => (hD r q).mono e1
theorem sx_nil (h : P (.nx Γ)) : SX X [] Γ P := fun T _ τ σ s hl E D hD => rss_of pss_nil (hD _ h σ s hl E (Evo.refl s))
theorem sx_cons (h1 : S1 X st Γ P1) (h2 : ∀ Γ', P1 (.nx Γ') → SX X sts Γ' P) (h3 : ∀ r, P1 r → ¬ isNx r → P r) : SX X (st :: sts) Γ P := by
  intro T _ τ σ s hl E D hD
  refine rss_of (pss_cons psR pssR) ?_
  refine h1 T τ σ s hl E _ fun r hr => ?_
  cases r with
  | nx Γ' => exact fun σ' s' l E' e' => h2 Γ' hr T τ σ' s' l E' D fun r q => (hD r q).mono e'
  | bk Γ' => exact hD _ (h3 _ hr fun z => z)
  | ct Γ' => exact hD _ (h3 _ hr fun z => z)
  | rt Γ' S => exact hD _ (h3 _ hr fun z => z)
/-- a statement that only goes on -/
theorem sx_seq (h1 : S1 X st Γ (fun r => r = .nx Γ1)) (h2 : SX X sts Γ1 P) : SX X (st :: sts) Γ P :=
  sx_cons h1 (fun Γ' q => by cases q; exact h2) fun r q n => by subst q; exact absurd trivial n
/-- x = e -/
theorem s1_set {i : Nat} {x : Str} {pos' : Pos} (hN : X.N.Nodup) (hi : X.N[i]? = some x) (hx : Loc X.env.scope x) (he : EX X e Γ S Γ1) (hG : i < Γ.length)
    (hs : swapsWith e (some (.Name x pos')) pos.line X.env = pure false := by rfl) (hf : X.fn x = true ∨ X.env.scope.names.lookup x = some .local := by first | exact .inl rfl | exact .inr rfl) :
    S1 X (.Assign [.Name x pos'] e pos) Γ (fun r => r = .nx (Γ1.set i S)) := by
  intro T _ τ σ s hl E D hD
  refine rs_of (ps_set hN hi hx peR hs hf) ?_
  refine he T τ σ s hl E _ fun v s1 E1 l1 e1 => ?_
  have hG1 : i < Γ1.length := by omega
  obtain ⟨E2, e2⟩ := E1.store (i := i) (by simp; omega)
  rw [set_app hG1, List.set_append_left _ _ (by omega)] at E2
  have q := hD _ rfl (σ.set i (some v)) _ (by simp; omega) E2 (e1.trans e2)
  exact q
/-- an expression whose value is dropped -/
theorem s1_expr (he : EX X e Γ S Γ1) (hs : swapsWith e none pos.line X.env = pure false := by rfl) : S1 X (.Expr e pos) Γ (fun r => r = .nx Γ1) := by
  intro T _ τ σ s hl E D hD
  refine rs_of (ps_expr peR hs) ?_
  refine he T τ σ s hl E _ fun v s1 E1 l1 e1 => ?_
  obtain ⟨E2, e2⟩ := E1.pop
  have q := hD _ rfl σ _ (by omega) E2 (e1.trans e2)
  exact q
theorem s1_ret (he : EX X e Γ S Γ1) : S1 X (.Return (some e) pos) Γ (fun r => r = .rt Γ1 S) := by
  intro T _ τ σ s hl E D hD
  refine rs_of (ps_ret peR) ?_
  refine he T τ σ s hl E _ fun v s1 E1 l1 e1 => ?_
  exact hD _ rfl σ v s1 (by omega) E1 e1
theorem s1_pass : S1 X (.Pass pos) Γ (fun r => r = .nx Γ) := fun T _ τ σ s hl E D hD => rs_of ps_pass (hD _ rfl σ s hl E (Evo.refl s))
theorem s1_break : S1 X (.Break pos) Γ (fun r => r = .bk Γ) := fun T _ τ σ s hl E D hD => rs_of ps_break (hD _ rfl σ s hl E (Evo.refl s))
theorem s1_cont : S1 X (.Continue pos) Γ (fun r => r = .ct Γ) := fun T _ τ σ s hl E D hD => rs_of ps_continue (hD _ rfl σ s hl E (Evo.refl s))
theorem s1_if {c : Expr} (hc : ET X c Γ b Γ1) (h1 : b = true → SX X t Γ1 P) (h2 : b = false → SX X u Γ1 P) : S1 X (.If c t u pos) Γ P := by
  intro T _ τ σ s hl E D hD
  refine rs_of (ps_if ptR pssR pssR) ?_
  refine hc T τ σ s hl E _ fun s1 E1 l1 e1 => ?_
  cases b with
  | true => exact iteT (h1 rfl T τ σ s1 (by omega) E1 D fun r q => (hD r q).mono e1)
  | false => exact iteF (h2 rfl T τ σ s1 (by omega) E1 D fun r q => (hD r q).mono e1)
/-- return, last -/
theorem sx_ret (he : EX X e Γ S Γ1) (h : P (.rt Γ1 S)) : SX X (.Return (some e) pos :: sts) Γ P :=
  sx_cons (s1_ret he) (fun Γ' q => nomatch q) fun r q _ => by subst q; exact h
/-- an if whose first branch leaves; the rest behind -/
theorem sx_ifr {c : Expr} (hc : ET X c Γ b Γ1) (h1 : b = true → SX X t Γ1 (fun r => P r ∧ ¬ isNx r)) (h2 : b = false → SX X sts Γ1 P) : SX X (.If c t [] pos :: sts) Γ P := by
  refine sx_cons (P1 := fun r => (b = true → P r ∧ ¬ isNx r) ∧ (b = false → r = .nx Γ1)) (s1_if hc (fun hb => (h1 hb).imp fun r q => ⟨fun _ => q, fun z => absurd (hb.symm.trans z) (by decide)⟩)
    fun hb => sx_nil ⟨fun z => absurd (hb.symm.trans z) (by decide), fun _ => rfl⟩) (fun Γ' q => ?_) fun r q n => ?_
  · cases b with
    | true => exact absurd trivial (q.1 rfl).2
    | false => cases q.2 rfl; exact h2 rfl
  · cases b with
    | true => exact (q.1 rfl).1
    | false => cases q.2 rfl; exact absurd trivial n
/-- an if that goes on, both ways to one environment -/
theorem sx_if {c : Expr} (hc : ET X c Γ b Γ1) (h1 : b = true → SX X t Γ1 (fun r => ∃ Γ', r = .nx Γ' ∧ Wk Γ' Γ2)) (h2 : b = false → SX X u Γ1 (fun r => ∃ Γ', r = .nx Γ' ∧ Wk Γ' Γ2)) (h : SX X sts Γ2 P) : SX X (.If c t u pos :: sts) Γ P := by
  refine sx_cons (P1 := fun r => ∃ Γ', r = .nx Γ' ∧ Wk Γ' Γ2) (s1_if hc h1 h2) (fun Γ' q => ?_) fun r q n => ?_
  · obtain ⟨Γ3, e, w⟩ := q
    cases e
    exact h.wk w
  · obtain ⟨Γ3, e, w⟩ := q
    subst e
    exact absurd trivial n
end
end Fw

namespace Fw
open PySem L2
variable [Tb]
variable {α β γ δ ε : Type}
/-! ## sizes that the machine keeps -/
def Sz (K : PySem.W.Frag) (v : V) (H : Hp) : Prop := ∀ a xs, v = .ref a → (SqL K H a xs ∨ SqT K H a xs) → xs.length ≤ sizeLine
section
variable {X : Cx} {e : Expr} {σ : St} {H : Hp} {Q : VK}
theorem re_sz (h : RE X e σ H (fun x H1 => Sz X.K x H1 → Q x H1)) : RE X e σ H Q := fun pins s I =>
  thn (h pins s I) fun u s1 ⟨v, H1, I1, r, q⟩ => ⟨v, H1, I1, r, q fun a xs e z => by
    rcases z with z | z
    · obtain ⟨_, _, _, hz⟩ := I1.list z; exact hz
    · obtain ⟨_, _, _, hz⟩ := I1.tuple z; exact hz⟩
end
theorem EX.sz {X : Cx} {e : Expr} {Γ Γ' : List Slot} {S : Slot} (h : EX X e Γ S Γ') {T : List Slot} [HasTab T] {τ σ : St} {s : Sta} (hl : σ.length = Γ.length) (E : EnvOk s (σ ++ τ) (Γ ++ T)) {Q : VK}
    (hQ : ∀ v s', EnvOk s' ((σ ++ τ) ++ [some v]) ((Γ' ++ T) ++ [S]) → Γ'.length = Γ.length → Evo s s' → Sz X.K v s'.H → Q v s'.H) : RE X e σ s.H Q :=
  re_sz (h T τ σ s hl E _ fun v s' E' l' e' z => hQ v s' E' l' e' z)
theorem seq_size {K : PySem.W.Frag} {S : Ty (List α)} {R : Ty α} (q : SeqA K S R) {B H : Hp} {v : V} {xs : List α} (h : S.rep B v xs) (s : Same B H) (z : Sz K v H) : xs.length ≤ sizeLine := by
  obtain ⟨a, vs, e, r, p⟩ := q.get h
  rw [← paired_len p]
  exact z a vs e (same_or s r)

/-! ## names and constants -/
section
variable {X : Cx} {e a b : Expr} {es : List Expr} {pos : Pos} {Γ Γ1 Γ2 Γ3 : List Slot} {S S1 S2 S3 : Slot} {Ss : List Slot}
theorem x_var {i : Nat} {x : Str} {R : Ty α} {y : α} (h : Γ[i]? = some (pu R y)) (hN : X.N[i]? = some x := by rfl) (hv : Vis X.env.scope x := by first | exact Or.inl rfl | exact Or.inr (Or.inl rfl) | exact Or.inr (Or.inr rfl))
    (hd : (x == ("__debug__" : Str)) = false := by decide) (hcd : (x == ("__classdict__" : Str)) = false := by decide) : EX X (.Name x pos) Γ (pu R y) Γ := by
  intro T _ τ σ s hl E Q hQ
  have hi := (List.getElem?_eq_some_iff.mp h).1
  obtain ⟨_, v, hv', hr⟩ := E.sl i _ (by rw [List.getElem?_append_left hi]; exact h)
  rw [List.getElem?_append_left (by omega)] at hv'
  have hs : σ[i]? = some (some v) := by
    rw [List.getElem?_eq_getElem (by omega)] at hv' ⊢
    exact congrArg some hv'
  exact re_of (pe_var hN hv hd hcd) ⟨v, hs, hQ v s (E.push0 _ ⟨rfl, v, rfl, hr⟩) rfl (Evo.refl s)⟩
/-- an owned thing is handed on; its slot is forgotten -/
theorem x_mov {i : Nat} {x : Str} (h : Γ[i]? = some S) (hv' : ∀ B F o, S.p B F o → ∃ v, o = some v) (hN : X.N[i]? = some x := by rfl) (hv : Vis X.env.scope x := by first | exact Or.inl rfl | exact Or.inr (Or.inl rfl) | exact Or.inr (Or.inr rfl))
    (hd : (x == ("__debug__" : Str)) = false := by decide) (hcd : (x == ("__classdict__" : Str)) = false := by decide) : EX X (.Name x pos) Γ S (Γ.set i un) := by
  intro T _ τ σ s hl E Q hQ
  have hi := (List.getElem?_eq_some_iff.mp h).1
  have h2 : (Γ ++ T)[i]? = some S := by rw [List.getElem?_append_left hi]; exact h
  obtain ⟨v, e⟩ := hv' _ _ _ (E.sl i _ h2)
  obtain ⟨E2, e2⟩ := E.move h2
  rw [e, set_app hi] at E2
  have hs : σ[i]? = some (some v) := by
    rw [List.getElem?_append_left (by omega)] at e
    rw [List.getElem?_eq_getElem (by omega)] at e ⊢
    exact congrArg some e
  have q := hQ v _ E2 (by simp) e2
  exact re_of (pe_var hN hv hd hcd) ⟨v, hs, q⟩
theorem ol_some {R : Ty α} {xs : List α} : ∀ B F o, (ol R xs).p B F o → ∃ v, o = some v := fun _ _ _ ⟨p, _, e, _⟩ => ⟨_, e⟩
theorem x_c {t : TE} {R : Ty α} {y : α} {v : V} (p : PE X e (tC v)) (h : ∀ B, R.rep B v y) : EX X e Γ (pu R y) Γ := by
  intro T _ τ σ s hl E Q hQ
  exact re_of p (hQ v s (E.push0 _ ⟨rfl, v, rfl, h _⟩) rfl (Evo.refl s))
theorem x_int {i : Int} {j : Nat} : EX X (.Constant (.int i) j pos) Γ (pu tI i) Γ := x_c (t := tC (.int i)) pe_int fun _ => rfl
theorem x_bl {c : Bool} {j : Nat} : EX X (.Constant (.bool c) j pos) Γ (pu tB c) Γ := x_c (t := tC (.bl c)) pe_bl fun _ => rfl
theorem x_non {j : Nat} : EX X (.Constant .none j pos) Γ (pu tN ()) Γ := x_c (t := tC .non) pe_non fun _ => rfl
theorem x_none {R : Ty α} {j : Nat} : EX X (.Constant .none j pos) Γ (pu (tO R) none) Γ := x_c (t := tC .non) pe_non fun _ => rfl
theorem x_str {z : Str} {j : Nat} : EX X (.Constant (.str z) j pos) Γ (pu tS z) Γ := x_c (t := tC (.str z)) pe_str fun _ => rfl
/-- another reading of a pure result -/
theorem x_sub {R : Ty α} {y : α} {R' : Ty β} {z : β} (h : EX X e Γ (pu R y) Γ1) (k : ∀ B v, R.rep B v y → R'.rep B v z) : EX X e Γ (pu R' z) Γ1 := by
  intro T _ τ σ s hl E Q hQ
  refine h T τ σ s hl E Q fun v s1 E1 l1 e1 => ?_
  have r := pu_top E1
  obtain ⟨E2, e2⟩ := E1.pop
  have q := hQ v _ (E2.push0 (pu R' z) ⟨rfl, v, rfl, k _ _ r⟩) l1 (e1.trans e2)
  exact q
theorem x_ls {R : Ty α} {xs : List α} (h : EX X e Γ (pu (tLs X.K R) xs) Γ1) : EX X e Γ (pu (tL X.K R) xs) Γ1 := x_sub h fun _ _ z => sqLs.get z
/-- what a result owns goes over into the pure region -/
theorem x_frz {R : Ty α} {xs : List α} (h : EX X e Γ (ol R xs) Γ1) : EX X e Γ (pu (tLs X.K R) xs) Γ1 := by
  intro T _ τ σ s hl E Q hQ
  refine h T τ σ s hl E Q fun v s1 E1 l1 e1 => ?_
  obtain ⟨E2, e2⟩ := E1.freeze (S' := pu (tLs X.K R) xs) (i := (Γ1 ++ T).length) (by simp) fun B' k1 k2 => ol_pure (E1.sl _ _ (by simp)) k1 k2 X.K
  have hz : ((Γ1 ++ T) ++ [ol R xs]).set (Γ1 ++ T).length (pu (tLs X.K R) xs) = (Γ1 ++ T) ++ [pu (tLs X.K R) xs] := by
    rw [List.set_append_right _ _ (Nat.le_refl _)]; simp
  rw [hz] at E2
  have q := hQ v _ E2 l1 (e1.trans e2)
  exact q
theorem EX.wkl (w : Wk Γ Γ1) (h : EX X e Γ1 S Γ2) : EX X e Γ S Γ2 := fun T _ τ σ s hl E Q hQ => by
  obtain ⟨s1, E1, e1, h1⟩ := w.2 T τ σ s hl E
  rw [← h1]
  exact h T τ σ s1 (hl.trans w.1.symm) E1 Q fun v s' E' l' e' => hQ v s' E' (l'.trans w.1) (e1.trans e')
/-! ## operators -/
theorem x_add {x y : Int} (ha : EX X a Γ (pu tI x) Γ1) (hb : EX X b Γ1 (pu tI y) Γ2) : EX X (.BinOp a .Add b pos) Γ (pu tI (x + y)) Γ2 := ex_bin (pe_op op_add peR peR) ha hb (o_II0 (g := fun i j => i + j))
theorem x_subt {x y : Int} (ha : EX X a Γ (pu tI x) Γ1) (hb : EX X b Γ1 (pu tI y) Γ2) : EX X (.BinOp a .Sub b pos) Γ (pu tI (x - y)) Γ2 := ex_bin (pe_op op_sub peR peR) ha hb (o_II0 (g := fun i j => i - j))
theorem x_mul {x y : Int} (ha : EX X a Γ (pu tI x) Γ1) (hb : EX X b Γ1 (pu tI y) Γ2) (hc : CMul x y) : EX X (.BinOp a .Mult b pos) Γ (pu tI (x * y)) Γ2 := ex_bin (pe_op op_mul peR peR) ha hb (o_II (g := fun i j => i * j) hc)
theorem x_div {x y : Int} (ha : EX X a Γ (pu tI x) Γ1) (hb : EX X b Γ1 (pu tI y) Γ2) (hc : CDiv x y) : EX X (.BinOp a .FloorDiv b pos) Γ (pu tI (x / y)) Γ2 := ex_bin (pe_op op_fdiv peR peR) ha hb (o_II (g := fun i j => i / j) hc)
theorem x_mod {x y : Int} (ha : EX X a Γ (pu tI x) Γ1) (hb : EX X b Γ1 (pu tI y) Γ2) (hc : 0 < y) : EX X (.BinOp a .Mod b pos) Γ (pu tI (x % y)) Γ2 := ex_bin (pe_op op_mod peR peR) ha hb (o_II (C := fun _ j => 0 < j) (g := fun i j => i % j) hc)
theorem x_pow {x y : Int} (ha : EX X a Γ (pu tI x) Γ1) (hb : EX X b Γ1 (pu tI y) Γ2) (hc : CPow x y) : EX X (.BinOp a .Pow b pos) Γ (pu tI (x ^ y.toNat)) Γ2 := ex_bin (pe_op op_pow peR peR) ha hb (o_II (g := fun i j => i ^ j.toNat) hc)
theorem x_catL {R : Ty α} {x y : List α} (ha : EX X a Γ (pu (tLs X.K R) x) Γ1) (hb : EX X b Γ1 (pu (tLs X.K R) y) Γ2) (hz : x.length + y.length ≤ sizeLine) : EX X (.BinOp a .Add b pos) Γ (pu (tLs X.K R) (x ++ y)) Γ2 := ex_bin (pe_op op_cat peR peR) ha hb (o_catL hz)
theorem x_neg {x : Int} (ha : EX X a Γ (pu tI x) Γ1) : EX X (.UnaryOp .USub a pos) Γ (pu tI (-x)) Γ1 := ex_un (pe_un un_neg peR) ha (op1_val fun _ _ _ _ h1 _ q => ⟨x, h1, q _ rfl⟩)
theorem x_cmp {op : CmpOp} {r : R2} (ho : OpR X (compareOp op) r) (hm : behindInMarks op b = false) (hr : Op2 r S1 S2 S3) (ha : EX X a Γ S1 Γ1) (hb : EX X b Γ1 S2 Γ2) : EX X (.Compare a [op] [b] pos) Γ S3 Γ2 := ex_bin (pe_cmpR ho peR peR hm) ha hb hr
theorem t_cmp {op : CmpOp} {r : R2} {c : Bool} (ho : OpR X (compareOp op) r) (hm : behindInMarks op b = false) (hr : Op2 r S1 S2 (pu tB c)) (ha : EX X a Γ S1 Γ1) (hb : EX X b Γ1 S2 Γ2) : ET X (.Compare a [op] [b] pos) Γ c Γ2 := by
  intro T _ τ σ s hl E Q hQ
  refine rt_of (pt_cmpR ho peR peR hm) ?_
  refine ha T τ σ s hl E _ fun v1 s1 E1 l1 e1 => ?_
  rw [List.append_assoc, List.append_assoc] at E1
  refine hb _ _ σ s1 (by rw [hl, l1]) E1 _ fun v2 s2 E2 l2 e2 => ?_
  rw [← List.append_assoc, ← List.append_assoc] at E2
  refine hr (σ ++ τ) (Γ2 ++ T) s2 v1 v2 E2 _ fun v' s3 E3 e3 => ?_
  obtain ⟨E4, e4⟩ := E3.pop
  have q := hQ _ E4 (by rw [l2, l1]) (((e1.trans e2).trans e3).trans e4)
  exact ⟨c, pu_top E3, q⟩
/-- a value that is True or False, as a test -/
theorem t_val {c : Bool} (he : EX X e Γ (pu tB c) Γ1) (h : ∀ whole, isTrue e X.env whole = (do let v ← whole; standAt e.pos; holding [v] (truthy v)) := by intro _; rfl) : ET X e Γ c Γ1 := by
  intro T _ τ σ s hl E Q hQ
  refine rt_of (pt_val peR h) ?_
  refine he T τ σ s hl E _ fun v1 s1 E1 l1 e1 => ?_
  obtain ⟨E4, e4⟩ := E1.pop
  have q := hQ _ E4 l1 (e1.trans e4)
  exact ⟨c, pu_top E1, q⟩
theorem t_not {c : Bool} (h : ET X e Γ c Γ1) : ET X (.UnaryOp .Not e pos) Γ (!c) Γ1 := by
  intro T _ τ σ s hl E Q hQ
  refine rt_of (pt_not ptR) ?_
  exact h T τ σ s hl E _ fun s1 E1 l1 e1 => hQ s1 E1 l1 e1
/-- chains of and, or as tests -/
def EW (X : Cx) (e : Expr) (Γ : List Slot) (b : Bool) (Γ' : List Slot) : Prop :=
  ∀ (T : List Slot) [HasTab T] (τ σ : St) (s : Sta), σ.length = Γ.length → EnvOk s (σ ++ τ) (Γ ++ T) → ∀ Q : Bool → Hp → Prop,
    (∀ s', EnvOk s' (σ ++ τ) (Γ' ++ T) → Γ'.length = Γ.length → Evo s s' → Q b s'.H) → ∀ (whole : Sem Value) (pins : List (Addr × Obj)) (sh : Shared), Inv X pins σ s.H sh → wpAny (model X.prog X.w) X.A (isTrue e X.env whole) (TP X pins σ Q) X.xe sh
theorem t_w {c : Bool} (h : EW X e Γ c Γ1) : ET X e Γ c Γ1 := fun T _ τ σ s hl E Q hQ pins sh I => h T τ σ s hl E Q hQ _ pins sh I
theorem pwR {t : TT} (h : ∀ σ H Q, t σ H Q → ∀ (whole : Sem Value) (pins : List (Addr × Obj)) (sh : Shared), Inv X pins σ H sh → wpAny (model X.prog X.w) X.A (isTrue e X.env whole) (TP X pins σ Q) X.xe sh) : PW X e t :=
  ⟨fun wh pins s σ H Q I q => h σ H Q q wh pins s I⟩
theorem w_one {op : BoolOp} {c : Bool} (h : ET X a Γ c Γ1) (hop : op = .And ∨ op = .Or) : EW X (.BoolOp op [a] pos) Γ c Γ1 := by
  intro T _ τ σ s hl E Q hQ wh pins sh I
  rcases hop with e | e
  · subst e; exact (pw_and1 ptR).run wh pins sh σ s.H Q I (h T τ σ s hl E Q hQ)
  · subst e; exact (pw_or1 ptR).run wh pins sh σ s.H Q I (h T τ σ s hl E Q hQ)
theorem w_and {c d : Bool} (h1 : ET X a Γ c Γ) (h2 : c = true → EW X (.BoolOp .And (b :: es) pos) Γ d Γ) : EW X (.BoolOp .And (a :: b :: es) pos) Γ (c && d) Γ := by
  intro T _ τ σ s hl E Q hQ wh pins sh I
  refine (pw_and (tB' := fun σ' H' Q' => ∀ (whole : Sem Value) (pins : List (Addr × Obj)) (sh : Shared), Inv X pins σ' H' sh → wpAny (model X.prog X.w) X.A (isTrue (.BoolOp .And (b :: es) pos) X.env whole) (TP X pins σ' Q') X.xe sh) ptR (pwR fun _ _ _ q => q)).run wh pins sh σ s.H Q I ?_
  refine h1 T τ σ s hl E _ fun s1 E1 l1 e1 => ?_
  cases c with
  | true => exact iteT (h2 rfl T τ σ s1 hl E1 Q fun s2 E2 l2 e2 => hQ s2 E2 l2 (e1.trans e2))
  | false => exact iteF (hQ s1 E1 l1 e1)
theorem w_or {c d : Bool} (h1 : ET X a Γ c Γ) (h2 : c = false → EW X (.BoolOp .Or (b :: es) pos) Γ d Γ) : EW X (.BoolOp .Or (a :: b :: es) pos) Γ (c || d) Γ := by
  intro T _ τ σ s hl E Q hQ wh pins sh I
  refine (pw_or (tB' := fun σ' H' Q' => ∀ (whole : Sem Value) (pins : List (Addr × Obj)) (sh : Shared), Inv X pins σ' H' sh → wpAny (model X.prog X.w) X.A (isTrue (.BoolOp .Or (b :: es) pos) X.env whole) (TP X pins σ' Q') X.xe sh) ptR (pwR fun _ _ _ q => q)).run wh pins sh σ s.H Q I ?_
  refine h1 T τ σ s hl E _ fun s1 E1 l1 e1 => ?_
  cases c with
  | true => exact iteT (hQ s1 E1 l1 e1)
  | false => exact iteF (h2 rfl T τ σ s1 hl E1 Q fun s2 E2 l2 e2 => hQ s2 E2 l2 (e1.trans e2))
/-- and, or, not as values -/
theorem x_one {op : BoolOp} (h : EX X a Γ S Γ1) : EX X (.BoolOp op [a] pos) Γ S Γ1 := fun T _ τ σ s hl E Q hQ => re_of (pe_one peR) (h T τ σ s hl E Q hQ)
theorem x_and {c d : Bool} (h1 : EX X a Γ (pu tB c) Γ) (h2 : c = true → EX X (.BoolOp .And (b :: es) pos) Γ (pu tB d) Γ) : EX X (.BoolOp .And (a :: b :: es) pos) Γ (pu tB (c && d)) Γ := by
  intro T _ τ σ s hl E Q hQ
  refine re_of (pe_and peR peR) ?_
  refine h1 T τ σ s hl E _ fun v1 s1 E1 l1 e1 => ?_
  refine ⟨c, pu_top E1, ?_⟩
  cases c with
  | true =>
    obtain ⟨E2, e2⟩ := E1.pop
    have q := h2 rfl T τ σ _ hl E2 Q fun v3 s3 E3 l3 e3 => hQ v3 s3 E3 l3 ((e1.trans e2).trans e3)
    exact iteT q
  | false =>
    have e : v1 = V.bl false := pu_top E1
    rw [e] at E1
    exact iteF (hQ _ s1 E1 l1 e1)
theorem x_or {c d : Bool} (h1 : EX X a Γ (pu tB c) Γ) (h2 : c = false → EX X (.BoolOp .Or (b :: es) pos) Γ (pu tB d) Γ) : EX X (.BoolOp .Or (a :: b :: es) pos) Γ (pu tB (c || d)) Γ := by
  intro T _ τ σ s hl E Q hQ
  refine re_of (pe_or peR peR) ?_
  refine h1 T τ σ s hl E _ fun v1 s1 E1 l1 e1 => ?_
  refine ⟨c, pu_top E1, ?_⟩
  cases c with
  | true =>
    have e : v1 = V.bl true := pu_top E1
    rw [e] at E1
    exact iteT (hQ _ s1 E1 l1 e1)
  | false =>
    obtain ⟨E2, e2⟩ := E1.pop
    have q := h2 rfl T τ σ _ hl E2 Q fun v3 s3 E3 l3 e3 => hQ v3 s3 E3 l3 ((e1.trans e2).trans e3)
    exact iteF q
theorem x_not {c : Bool} (h : EX X a Γ (pu tB c) Γ1) : EX X (.UnaryOp .Not a pos) Γ (pu tB (!c)) Γ1 := by
  intro T _ τ σ s hl E Q hQ
  refine re_of (pe_not peR) ?_
  refine h T τ σ s hl E _ fun v1 s1 E1 l1 e1 => ?_
  obtain ⟨E2, e2⟩ := E1.pop
  have q := hQ (.bl (!c)) _ (E2.push0 (pu tB (!c)) ⟨rfl, _, rfl, rfl⟩) l1 (e1.trans e2)
  exact ⟨c, pu_top E1, q⟩
/-- a if t else b -/
theorem x_if {c : Expr} {k : Bool} {R : Ty α} {y z : α} (hc : ET X c Γ k Γ1) (ha : k = true → EX X a Γ1 (pu R y) Γ2) (hb : k = false → EX X b Γ1 (pu R z) Γ2) : EX X (.IfExp c a b pos) Γ (pu R (if k = true then y else z)) Γ2 := by
  intro T _ τ σ s hl E Q hQ
  refine re_of (pe_ifExp ptR peR peR) ?_
  refine hc T τ σ s hl E _ fun s1 E1 l1 e1 => ?_
  cases k with
  | true => exact iteT (ha rfl T τ σ s1 (by omega) E1 Q fun v2 s2 E2 l2 e2 => hQ v2 s2 E2 (l2.trans l1) (e1.trans e2))
  | false => exact iteF (hb rfl T τ σ s1 (by omega) E1 Q fun v2 s2 E2 l2 e2 => hQ v2 s2 E2 (l2.trans l1) (e1.trans e2))
end
end Fw

namespace Fw
open PySem L2
variable [Tb]
variable {α β γ δ ε : Type}
/-! ## lists and tuples by place -/
/-- the item at a place of any sign -/
def ix [Inhabited α] (xs : List α) (i : Int) : α := (atI xs i).getD default
def InIx (n : Nat) (i : Int) : Prop := -(n : Int) ≤ i ∧ i < n
theorem ix_nat [Inhabited α] {xs : List α} {i : Int} (h0 : 0 ≤ i) (h : i < xs.length) : ix xs i = xs[i.toNat]'(by omega) := by
  have e : xs[i.toNat]? = some (xs[i.toNat]'(by omega)) := List.getElem?_eq_getElem _
  have := atI_nat e
  rw [Int.toNat_of_nonneg h0] at this
  simp [ix, this]
theorem atI_some {xs : List α} {i : Int} (h : InIx xs.length i) : ∃ j, ixN xs.length i = some j ∧ j < xs.length ∧ (0 ≤ i → j = i.toNat) ∧ (i < 0 → j = (i + xs.length).toNat) := by
  obtain ⟨h1, h2⟩ := h
  unfold ixN
  by_cases q : 0 ≤ i
  · rw [if_pos q, if_pos h2]; exact ⟨_, rfl, by omega, fun _ => rfl, fun z => by omega⟩
  · rw [if_neg q, if_pos h1]; exact ⟨_, rfl, by omega, fun z => by omega, fun _ => rfl⟩
theorem ix_at [Inhabited α] {xs : List α} {i : Int} (h : InIx xs.length i) : ∃ j, ixN xs.length i = some j ∧ xs[j]? = some (ix xs i) := by
  obtain ⟨j, e, hj, _⟩ := atI_some h
  refine ⟨j, e, ?_⟩
  have e2 : atI xs i = xs[j]? := by unfold atI; rw [e]; rfl
  unfold ix
  rw [e2, List.getElem?_eq_getElem hj]; rfl
section
variable {K : PySem.W.Frag} {R R1 : Ty α} {R2' : Ty β} {R3' : Ty γ} {R4' : Ty δ}
theorem ix_of [Inhabited α] {F : V → α → Prop} {vs : List V} {xs : List α} {i : Int} (r : Paired F vs xs) (h : InIx xs.length i) : ∃ v, atI vs i = some v ∧ F v (ix xs i) := by
  obtain ⟨j, e, g⟩ := ix_at h
  obtain ⟨v, g2, f⟩ := paired_get r g
  refine ⟨v, ?_, f⟩
  unfold atI
  rw [paired_len r, e]; exact g2
theorem o_ixL [Inhabited α] {S : Ty (List α)} {xs : List α} {i : Int} (q : SeqL K S R) (h : InIx xs.length i) : Op2 (rIxL K) (pu S xs) (pu tI i) (pu R (ix xs i)) :=
  op2_val fun B H v u s h1 h2 Q k => by
    obtain ⟨a, vs, e, z, r⟩ := q.get h1
    obtain ⟨w, g, f⟩ := ix_of r h
    exact ⟨a, vs, i, w, e, h2, s.seq z, g, k _ f⟩
theorem o_ixT [Inhabited α] {S : Ty (List α)} {xs : List α} {i : Int} (q : SeqT K S R) (h : InIx xs.length i) : Op2 (rIxT K) (pu S xs) (pu tI i) (pu R (ix xs i)) :=
  op2_val fun B H v u s h1 h2 Q k => by
    obtain ⟨a, vs, e, z, r⟩ := q.get h1
    obtain ⟨w, g, f⟩ := ix_of r h
    exact ⟨a, vs, i, w, e, h2, same_sqt s z, g, k _ f⟩
theorem o_ixP2_0 {x : α × β} : Op2 (rIxT K) (pu (tP2 K R1 R2') x) (pu tI 0) (pu R1 x.1) :=
  op2_val fun B H v u s h1 h2 Q k => by
    obtain ⟨a, v1, v2, e, z, r1, r2⟩ := h1
    exact ⟨a, _, 0, v1, e, h2, same_sqt s z, rfl, k _ r1⟩
theorem o_ixP2_1 {x : α × β} : Op2 (rIxT K) (pu (tP2 K R1 R2') x) (pu tI 1) (pu R2' x.2) :=
  op2_val fun B H v u s h1 h2 Q k => by
    obtain ⟨a, v1, v2, e, z, r1, r2⟩ := h1
    exact ⟨a, _, 1, v2, e, h2, same_sqt s z, rfl, k _ r2⟩
theorem o_ixP3_0 {x : α × β × γ} : Op2 (rIxT K) (pu (tP3 K R1 R2' R3') x) (pu tI 0) (pu R1 x.1) :=
  op2_val fun B H v u s h1 h2 Q k => by
    obtain ⟨a, v1, v2, v3, e, z, r1, r2, r3⟩ := h1
    exact ⟨a, _, 0, v1, e, h2, same_sqt s z, rfl, k _ r1⟩
theorem o_ixP3_1 {x : α × β × γ} : Op2 (rIxT K) (pu (tP3 K R1 R2' R3') x) (pu tI 1) (pu R2' x.2.1) :=
  op2_val fun B H v u s h1 h2 Q k => by
    obtain ⟨a, v1, v2, v3, e, z, r1, r2, r3⟩ := h1
    exact ⟨a, _, 1, v2, e, h2, same_sqt s z, rfl, k _ r2⟩
theorem o_ixP3_2 {x : α × β × γ} : Op2 (rIxT K) (pu (tP3 K R1 R2' R3') x) (pu tI 2) (pu R3' x.2.2) :=
  op2_val fun B H v u s h1 h2 Q k => by
    obtain ⟨a, v1, v2, v3, e, z, r1, r2, r3⟩ := h1
    exact ⟨a, _, 2, v3, e, h2, same_sqt s z, rfl, k _ r3⟩
/-! ## displays -/
def rTup : List V → Hp → VK → Prop := fun xs H1 Q => xs.length ≤ sizeLine ∧ ∀ p, H1 p = none → Q (.ref p) (upd H1 p (.tup xs))
def rLst : List V → Hp → VK → Prop := fun xs H1 Q => xs.length ≤ sizeLine ∧ ∀ p, H1 p = none → Q (.ref p) (upd H1 p (.lst xs))
theorem sqt_new {B : Hp} {p : Addr} {xs : List V} (h : B p = some (.tup xs)) : SqT K B p xs := .inl (.inl h)
theorem rev_ind {motive : List α → Prop} (h0 : motive []) (h1 : ∀ ys y, motive ys → motive (ys ++ [y])) (xs : List α) : motive xs := by
  have key : ∀ n (xs : List α), xs.length = n → motive xs := fun n => by
    induction n with
    | zero => intro xs h; have : xs = [] := List.eq_nil_of_length_eq_zero h; subst this; exact h0
    | succ n ih =>
      intro xs h
      have hne : xs ≠ [] := by intro e; subst e; simp at h
      rw [← List.dropLast_concat_getLast hne]
      exact h1 _ _ (ih _ (by rw [List.length_dropLast, h]; rfl))
  exact key _ xs rfl
/-- pure values on top -/
theorem pus_top {σ : St} {Γ : List Slot} {xs : List α} : ∀ {s : Sta} {vs : List V}, vs.length = xs.length → EnvOk s (σ ++ vs.map some) (Γ ++ xs.map (pu R)) → Paired (R.rep s.B) vs xs ∧ ∃ s', EnvOk s' σ Γ ∧ Evo s s' ∧ s'.B = s.B ∧ s'.H = s.H := by
    induction xs using rev_ind with
    | h0 =>
      intro s vs hl E
      have : vs = [] := by cases vs with | nil => rfl | cons _ _ => simp at hl
      subst this
      exact ⟨.nil, s, by simpa using E, Evo.refl s, rfl, rfl⟩
    | h1 ys y ih =>
      intro s vs hl E
      obtain ⟨us, v, rfl⟩ : ∃ us v, vs = us ++ [v] := ⟨vs.dropLast, vs.getLast (by intro h; subst h; simp at hl), (List.dropLast_concat_getLast _).symm⟩
      have hl' : us.length = ys.length := by simpa using hl
      have E' : EnvOk s ((σ ++ us.map some) ++ [some v]) ((Γ ++ ys.map (pu R)) ++ [pu R y]) := by simpa using E
      have ht := pu_top E'
      obtain ⟨E2, e2⟩ := E'.pop
      obtain ⟨r, s', E3, e3, hB, hH⟩ := ih hl' E2
      exact ⟨paired_app r (.cons ht .nil), s', E3, e2.trans e3, hB, hH⟩
theorem n_tup {xs : List α} (hz : xs.length ≤ sizeLine) : OpN rTup (xs.map (pu R)) (pu (tT K R) xs) := by
  intro σ Γ _ s vs lv E Q hQ
  obtain ⟨r, s', E', e', hB, hH⟩ := pus_top (by simpa using lv) E
  refine ⟨by rw [paired_len r]; exact hz, fun p hp => ?_⟩
  obtain ⟨E4, e4⟩ := E'.push1 (o := some (.ref p)) (ob := .tup vs) (by rw [hH]; exact hp) (pu (tT K R) xs) fun k1 k2 => ⟨rfl, _, rfl, p, vs, rfl, sqt_new k2, paired_mono (fun _ _ z => R.mono k1 z) (by rw [hB]; exact r)⟩
  have q := hQ _ _ E4 (e'.trans e4)
  rw [hH] at q
  exact q
theorem n_tup0 : OpN rTup [] (pu (tT K R) []) := n_tup (xs := []) (by show 0 ≤ sizeLine; decide)
theorem n_tup1 {x : α} : OpN rTup [pu R x] (pu (tT K R) [x]) := n_tup (xs := [x]) (by show 1 ≤ sizeLine; decide)
theorem n_lst {xs : List α} (hz : xs.length ≤ sizeLine) : OpN rLst (xs.map (pu R)) (ol R xs) := by
  intro σ Γ _ s vs lv E Q hQ
  obtain ⟨r, s', E', e', hB, hH⟩ := pus_top (by simpa using lv) E
  refine ⟨by rw [paired_len r]; exact hz, fun p hp => ?_⟩
  obtain ⟨E4, e4⟩ := E'.pushO (o := some (.ref p)) (ob := .lst vs) (by rw [hH]; exact hp) (ol R xs) ⟨p, vs, rfl, rfl, by rw [hB]; exact r⟩
  have q := hQ _ _ E4 (e'.trans e4)
  rw [hH] at q
  exact q
theorem n_lst0 : OpN rLst [] (ol R []) := n_lst (xs := []) (by show 0 ≤ sizeLine; decide)
theorem n_lst1 {x : α} : OpN rLst [pu R x] (ol R [x]) := n_lst (xs := [x]) (by show 1 ≤ sizeLine; decide)
theorem n_p2 {x : α} {y : β} : OpN rTup [pu R1 x, pu R2' y] (pu (tP2 K R1 R2') (x, y)) := by
  intro σ Γ _ s vs lv E Q hQ
  match vs, lv with
  | [v, u], _ =>
    have E' : EnvOk s ((σ ++ [some v]) ++ [some u]) ((Γ ++ [pu R1 x]) ++ [pu R2' y]) := by simpa using E
    obtain ⟨h1, h2⟩ := pu_top2 E'
    obtain ⟨E2, e2⟩ := E'.pop
    obtain ⟨E3, e3⟩ := E2.pop
    refine ⟨by show 2 ≤ sizeLine; decide, fun p hp => ?_⟩
    obtain ⟨E4, e4⟩ := E3.push1 (o := some (.ref p)) (ob := .tup [v, u]) hp (pu (tP2 K R1 R2') (x, y)) fun k1 k2 => ⟨rfl, _, rfl, p, v, u, rfl, sqt_new k2, R1.mono k1 h1, R2'.mono k1 h2⟩
    exact hQ _ _ E4 ((e2.trans e3).trans e4)
theorem n_p3 {x : α} {y : β} {z : γ} : OpN rTup [pu R1 x, pu R2' y, pu R3' z] (pu (tP3 K R1 R2' R3') (x, y, z)) := by
  intro σ Γ _ s vs lv E Q hQ
  match vs, lv with
  | [v, u, w], _ =>
    have E' : EnvOk s (((σ ++ [some v]) ++ [some u]) ++ [some w]) (((Γ ++ [pu R1 x]) ++ [pu R2' y]) ++ [pu R3' z]) := by simpa using E
    have h3 := pu_top E'
    obtain ⟨E1, e1⟩ := E'.pop
    obtain ⟨h1, h2⟩ := pu_top2 E1
    obtain ⟨E2, e2⟩ := E1.pop
    obtain ⟨E3, e3⟩ := E2.pop
    refine ⟨by show 3 ≤ sizeLine; decide, fun p hp => ?_⟩
    obtain ⟨E4, e4⟩ := E3.push1 (o := some (.ref p)) (ob := .tup [v, u, w]) hp (pu (tP3 K R1 R2' R3') (x, y, z)) fun k1 k2 => ⟨rfl, _, rfl, p, v, u, w, rfl, sqt_new k2, R1.mono k1 h1, R2'.mono k1 h2, R3'.mono k1 h3⟩
    exact hQ _ _ E4 (((e1.trans e2).trans e3).trans e4)
/-! ## built-in functions by values -/
theorem n_lenA {S : Ty (List α)} {xs : List α} (q : SeqA K S R) : OpN (fun xs H Q => ∃ x n, xs = [x] ∧ LenV K x H n ∧ Q (.int n) H) [pu S xs] (pu tI (xs.length : Int)) :=
  opN_1 (op1_val fun B H v s h1 Q k => by
    obtain ⟨a, vs, e, z, r⟩ := q.get h1
    refine ⟨v, xs.length, rfl, ?_, k _ rfl⟩
    subst e
    rcases z with z | z
    · exact .inl ⟨vs, s.seq z, (paired_len r).symm⟩
    · exact .inr ⟨vs, same_sqt s z, (paired_len r).symm⟩)
theorem n_listOf {S : Ty (List α)} {xs : List α} (q : SeqA K S R) : OpN (fun xs H Q => ∃ p ys, xs = [.ref p] ∧ (SqL K H p ys ∨ SqT K H p ys) ∧ ∀ l, H l = none → Q (.ref l) (upd H l (.lst ys))) [pu S xs] (ol R xs) := by
  refine opN_1 fun σ Γ s v E Q hQ => ?_
  obtain ⟨a, vs, e, z, r⟩ := q.get (pu_top E)
  obtain ⟨E2, e2⟩ := E.pop
  refine ⟨a, vs, by rw [e], same_or E.sub z, fun l hl => ?_⟩
  obtain ⟨E4, e4⟩ := E2.pushO (o := some (.ref l)) (ob := .lst vs) hl (ol R xs) ⟨l, vs, rfl, rfl, r⟩
  exact hQ _ _ E4 (e2.trans e4)
/-- tuple(xs), xs a list: pure or owned -/
theorem n_tupleL {S : Ty (List α)} {xs : List α} (q : SeqL K S R) : OpN (fun xs H Q => ∃ p ys, xs = [.ref p] ∧ ((SqL K H p ys ∧ ∀ l, H l = none → Q (.ref l) (upd H l (.tup ys))) ∨ (SqT K H p ys ∧ Q (.ref p) H))) [pu S xs] (pu (tT K R) xs) :=
  opN_1 (op1_new fun B H v s h1 Q k _ => by
    obtain ⟨a, vs, e, z, r⟩ := q.get h1
    exact ⟨a, vs, by rw [e], .inl ⟨s.seq z, fun l hl => k l _ hl fun B' s' hB => ⟨l, vs, rfl, sqt_new hB, paired_mono (fun _ _ w => R.mono s' w) r⟩⟩⟩)
theorem n_tupleT {S : Ty (List α)} {xs : List α} (q : SeqT K S R) : OpN (fun xs H Q => ∃ p ys, xs = [.ref p] ∧ ((SqL K H p ys ∧ ∀ l, H l = none → Q (.ref l) (upd H l (.tup ys))) ∨ (SqT K H p ys ∧ Q (.ref p) H))) [pu S xs] (pu (tT K R) xs) :=
  opN_1 (op1_val fun B H v s h1 Q k => by
    obtain ⟨a, vs, e, z, r⟩ := q.get h1
    exact ⟨a, vs, by rw [e], .inr ⟨same_sqt s z, k _ ⟨a, vs, rfl, z, r⟩⟩⟩)
theorem n_all {S : Ty (List Bool)} {xs : List Bool} (q : SeqL K S tB) : OpN (rAll K) [pu S xs] (pu tB (xs.all id)) :=
  opN_1 (op1_val fun B H v s h1 Q k => by
    obtain ⟨a, vs, e, z, r⟩ := q.get h1
    rw [paired_bl r] at z
    exact ⟨a, xs, by rw [e], s.seq z, k _ rfl⟩)
theorem n_any {S : Ty (List Bool)} {xs : List Bool} (q : SeqL K S tB) : OpN (rAny K) [pu S xs] (pu tB (xs.any id)) :=
  opN_1 (op1_val fun B H v s h1 Q k => by
    obtain ⟨a, vs, e, z, r⟩ := q.get h1
    rw [paired_bl r] at z
    exact ⟨a, xs, by rw [e], s.seq z, k _ rfl⟩)
end
/-! ## ints in order -/
def insI (x : Int) : List Int → List Int
  | [] => [x]
  | y :: r => if x ≤ y then x :: y :: r else y :: insI x r
def sortI : List Int → List Int
  | [] => []
  | x :: r => insI x (sortI r)
theorem insI_perm (x : Int) : ∀ l, (insI x l).Perm (x :: l)
  | [] => List.Perm.refl _
  | y :: r => by
    unfold insI
    split
    · exact List.Perm.refl _
    · exact (List.Perm.cons y (insI_perm x r)).trans (List.Perm.swap x y r)
theorem sortI_perm : ∀ l, (sortI l).Perm l
  | [] => List.Perm.refl _
  | x :: r => (insI_perm x _).trans (List.Perm.cons x (sortI_perm r))
theorem insI_sorted (x : Int) : ∀ l : List Int, l.Pairwise (· ≤ ·) → (insI x l).Pairwise (· ≤ ·)
  | [], _ => by simp [insI]
  | y :: r, h => by
    have hc := List.pairwise_cons.mp h
    unfold insI
    split
    · rename_i hxy
      exact List.pairwise_cons.mpr ⟨fun z hz => by
        rcases List.mem_cons.mp hz with e | e
        · omega
        · have := hc.1 z e; omega, h⟩
    · rename_i hxy
      refine List.pairwise_cons.mpr ⟨fun z hz => ?_, insI_sorted x r hc.2⟩
      rcases List.mem_cons.mp ((insI_perm x r).mem_iff.mp hz) with e | e
      · omega
      · exact hc.1 z e
theorem sortI_sorted : ∀ l : List Int, (sortI l).Pairwise (· ≤ ·)
  | [] => List.Pairwise.nil
  | x :: r => insI_sorted x _ (sortI_sorted r)
theorem sorted_unique : ∀ {l m : List Int}, l.Perm m → l.Pairwise (· ≤ ·) → m.Pairwise (· ≤ ·) → l = m
  | [], m, p, _, _ => by
    have := p.length_eq
    cases m with | nil => rfl | cons _ _ => simp at this
  | x :: l, [], p, _, _ => by have := p.length_eq; simp at this
  | x :: l, y :: m, p, h1, h2 => by
    have c1 := List.pairwise_cons.mp h1
    have c2 := List.pairwise_cons.mp h2
    have hx : x ∈ y :: m := p.mem_iff.mp List.mem_cons_self
    have hy : y ∈ x :: l := p.mem_iff.mpr List.mem_cons_self
    have e : x = y := by
      rcases List.mem_cons.mp hx with e | e
      · exact e
      · rcases List.mem_cons.mp hy with e' | e'
        · exact e'.symm
        · have a1 := c1.1 y e'; have a2 := c2.1 x e; omega
    subst e
    rw [sorted_unique (List.Perm.cons_inv p) c1.2 c2.2]
theorem n_sortedI {K : PySem.W.Frag} {S : Ty (List Int)} {xs : List Int} (q : SeqL K S tI) : OpN (rSortedI K) [pu S xs] (ol tI (sortI xs)) := by
  refine opN_1 fun σ Γ s v E Q hQ => ?_
  obtain ⟨a, vs, e, z, r⟩ := q.get (pu_top E)
  rw [paired_int r] at z
  obtain ⟨E2, e2⟩ := E.pop
  refine ⟨a, xs, by rw [e], Same.seq E.sub z, fun ns p hp hs hn => ?_⟩
  have en : ns = sortI xs := sorted_unique (hp.trans (sortI_perm xs).symm) hs (sortI_sorted xs)
  subst en
  obtain ⟨E4, e4⟩ := E2.pushO (o := some (.ref p)) (ob := .lst ((sortI xs).map V.int)) hn (ol tI (sortI xs)) ⟨p, _, rfl, rfl, paired_of_int _⟩
  exact hQ _ _ E4 (e2.trans e4)
/-! ## calls in the text -/
section
variable {X : Cx} {e a b : Expr} {es : List Expr} {pos p : Pos} {x : Str} {id T : String} {Γ Γ1 Γ2 : List Slot} {S S1 S2 : Slot} {Ss : List Slot} {r : List V → Hp → VK → Prop}
theorem x_callB (hc : CallR X (.builtin id) r) (hm : X.mg x = none) (hv : bootBuiltins x = some (.builtin id)) (hr : OpN r Ss S) (ha : EA X (e :: es) Γ Ss Γ1) (hg : Gl X x := by rfl) (hn : x ≠ "__name__" := by decide) (hdb : (x == ("__debug__" : Str)) = false := by decide)
    (he : starEach (e :: es) X.env = (false, eval e X.env) :: starEach es X.env := by rfl) (hpl : (backTo pos (starEach es X.env)).any (·.1) = false := by rfl) : EX X (.Call (.Name x p) (e :: es) [] pos) Γ S Γ1 :=
  ex_n (pe_callB hc hg hm hv paR hn hdb he hpl) ha hr
theorem x_callT (hc : CallR X (.type T) r) (hm : X.mg x = none) (hv : bootBuiltins x = some (.type T)) (hr : OpN r Ss S) (ha : EA X (e :: es) Γ Ss Γ1) (hg : Gl X x := by rfl) (hn : x ≠ "__name__" := by decide) (hdb : (x == ("__debug__" : Str)) = false := by decide)
    (he : starEach (e :: es) X.env = (false, eval e X.env) :: starEach es X.env := by rfl) (hpl : (backTo pos (starEach es X.env)).any (·.1) = false := by rfl) : EX X (.Call (.Name x p) (e :: es) [] pos) Γ S Γ1 :=
  ex_n (pe_callTy hc hg hm hv paR hn hdb he hpl) ha hr
theorem x_tup {k : Nat} (hr : OpN rTup Ss S) (ha : EA X es Γ Ss Γ1) : EX X (.Tuple es k pos) Γ S Γ1 := ex_n (r := rTup) (pe_tup paR) ha hr
theorem x_lst (hr : OpN rLst Ss S) (ha : EA X es Γ Ss Γ1) : EX X (.List es pos) Γ S Γ1 := ex_n (r := rLst) (pe_lst paR) ha hr
theorem x_ix {r : R2} (h : IxR X r) (hr : Op2 r S1 S2 S) (ha : EX X a Γ S1 Γ1) (hb : EX X b Γ1 S2 Γ2) (hs : PlainIx b := by exact fun _ _ => rfl) : EX X (.Subscript a b pos) Γ S Γ2 := ex_bin (pe_ix h peR peR hs) ha hb hr
end
end Fw

namespace Fw
open PySem L2
variable [Tb]
variable {α β γ δ ε ρ κ : Type}
/-! ## what is walked -/
/-- walking `iter` from Γ gives the things xs one by one; something lies on the stack meanwhile -/
structure IW (X : Cx) (tg iter : Expr) (wi : TI) (Γ : List Slot) (R : Ty α) (xs : List α) (Γ1 : List Slot) : Prop where
  pi : PI X tg iter wi
  run : ∀ (T : List Slot) [HasTab T] (τ σ : St) (s : Sta), σ.length = Γ.length → EnvOk s (σ ++ τ) (Γ ++ T) → ∀ Rr : It → Hp → Prop,
    (∀ J G Y us Ts s', Walk J xs.length G Y → EnvOk s' ((σ ++ τ) ++ us) ((Γ1 ++ T) ++ Ts) → Γ1.length = Γ.length → us.length = Ts.length → Evo s s' → xs.length ≤ sizeLine →
      (∀ σ2 Γ2 ρ Ps s2, σ2.length = Γ2.length → EnvOk s2 (σ2 ++ (us ++ ρ)) (Γ2 ++ (Ts ++ Ps)) → G s2.H) →
      (∀ i x H' σ2 Γ2 ρ Ps s2, i < xs.length → Y i s2.H x H' → σ2.length = Γ2.length → EnvOk s2 (σ2 ++ (us ++ ρ)) (Γ2 ++ (Ts ++ Ps)) → ∃ y s3, xs[i]? = some y ∧ s3.H = H' ∧ EnvOk s3 ((σ2 ++ (us ++ ρ)) ++ [some x]) ((Γ2 ++ (Ts ++ Ps)) ++ [pu R y]) ∧ Evo s2 s3) → Rr J s'.H) → wi σ s.H Rr
theorem mid_top {s : Sta} {σ ρ : St} {Γ Ps : List Slot} {S : Slot} {o : Option V} (E : EnvOk s (σ ++ ([o] ++ ρ)) (Γ ++ ([S] ++ Ps))) (hl : σ.length = Γ.length) : S.p s.B (s.F Γ.length) o := by
  have := E.sl Γ.length S (by simp)
  rw [join_get (show (σ ++ ([o] ++ ρ))[Γ.length]? = some o by rw [← hl]; simp)] at this
  exact this
/-- a list, a tuple at a known address -/
def pl (K : PySem.W.Frag) (R : Ty α) (a : Addr) (vs : List V) (xs : List α) : Slot := ⟨fun B F o => F = em ∧ o = some (.ref a) ∧ SqL K B a vs ∧ Paired (R.rep B) vs xs,
  fun s h => ⟨h.1, h.2.1, Same.seq s h.2.2.1, paired_mono (fun _ _ z => R.mono s z) h.2.2.2⟩⟩
def pt (K : PySem.W.Frag) (R : Ty α) (a : Addr) (vs : List V) (xs : List α) : Slot := ⟨fun B F o => F = em ∧ o = some (.ref a) ∧ SqT K B a vs ∧ Paired (R.rep B) vs xs,
  fun s h => ⟨h.1, h.2.1, same_sqt s h.2.2.1, paired_mono (fun _ _ z => R.mono s z) h.2.2.2⟩⟩
section
variable {X : Cx} {tg iter a b : Expr} {Γ Γ1 Γ2 : List Slot} {S S' : Slot} {s : Sta} {σ : St} {o : Option V}
theorem w_list {R : Ty α} {S : Ty (List α)} {xs : List α} (q : SeqL X.K S R) (he : EX X iter Γ (pu S xs) Γ1) : IW X tg iter (iList X.K (RE X iter)) Γ R xs Γ1 := by
  refine ⟨pi_list peR, fun T _ τ σ s hl E Rr h => ?_⟩
  refine he.sz hl E fun v s1 E1 l1 e1 z => ?_
  obtain ⟨a, vs, e, w, r⟩ := q.get (pu_top E1)
  have hw : SqL X.K s1.H a vs := Same.seq E1.sub w
  have hz := seq_size q.a (pu_top E1) E1.sub z
  subst e
  refine ⟨a, rfl, ⟨vs, hw⟩, ?_⟩
  have hlen : vs.length = xs.length := paired_len r
  obtain ⟨E2, e2⟩ := E1.pop
  have E3 := E2.push0 (o := some (.ref a)) (pl X.K R a vs xs) ⟨rfl, rfl, w, r⟩
  have q1 := h (Itl X.K a) _ _ [some (.ref a)] [pl X.K R a vs xs] _ (by rw [← hlen]; exact walk_list) E3 l1 rfl (e1.trans e2) hz (fun σ2 Γ2 ρ Ps s2 h2 E2 => ?_) (fun i x H' σ2 Γ2 ρ Ps s2 hi y h2 E2 => ?_)
  · exact q1
  · obtain ⟨_, _, w', _⟩ := mid_top E2 h2
    exact Same.seq E2.sub w'
  · obtain ⟨rfl, hx⟩ := y
    obtain ⟨_, _, w', r'⟩ := mid_top E2 h2
    obtain ⟨y, hy, ry⟩ := paired_getV r' hx
    exact ⟨y, s2, hy, rfl, E2.push0 _ ⟨rfl, x, rfl, ry⟩, Evo.refl s2⟩
theorem w_tup {R : Ty α} {S : Ty (List α)} {xs : List α} (q : SeqT X.K S R) (he : EX X iter Γ (pu S xs) Γ1) : IW X tg iter (iTup X.K (RE X iter)) Γ R xs Γ1 := by
  refine ⟨pi_tup peR, fun T _ τ σ s hl E Rr h => ?_⟩
  refine he.sz hl E fun v s1 E1 l1 e1 z => ?_
  obtain ⟨a, vs, e, w, r⟩ := q.get (pu_top E1)
  have hw : SqT X.K s1.H a vs := same_sqt E1.sub w
  have hz := seq_size q.a (pu_top E1) E1.sub z
  subst e
  refine ⟨a, rfl, ⟨vs, hw⟩, ?_⟩
  have hlen : vs.length = xs.length := paired_len r
  obtain ⟨E2, e2⟩ := E1.pop
  have E3 := E2.push0 (o := some (.ref a)) (pt X.K R a vs xs) ⟨rfl, rfl, w, r⟩
  have q1 := h (Itt X.K a) _ _ [some (.ref a)] [pt X.K R a vs xs] _ (by rw [← hlen]; exact walk_tup) E3 l1 rfl (e1.trans e2) hz (fun σ2 Γ2 ρ Ps s2 h2 E2 => ?_) (fun i x H' σ2 Γ2 ρ Ps s2 hi y h2 E2 => ?_)
  · exact q1
  · obtain ⟨_, _, w', _⟩ := mid_top E2 h2
    exact same_sqt E2.sub w'
  · obtain ⟨rfl, hx⟩ := y
    obtain ⟨_, _, w', r'⟩ := mid_top E2 h2
    obtain ⟨y, hy, ry⟩ := paired_getV r' hx
    exact ⟨y, s2, hy, rfl, E2.push0 _ ⟨rfl, x, rfl, ry⟩, Evo.refl s2⟩
/-- 0, 1, .., n - 1 -/
def rangeI (lo hi : Int) : List Int := (List.range (hi - lo).toNat).map fun i => lo + (i : Nat)
theorem rangeI_len (lo hi : Int) : (rangeI lo hi).length = (hi - lo).toNat := by simp [rangeI]
theorem rangeI_get {lo hi : Int} {i : Nat} (h : i < (hi - lo).toNat) : (rangeI lo hi)[i]? = some (lo + (i : Nat)) := by simp [rangeI, h]
theorem w_range1 {n : Int} {p pos : Pos} (hm : X.mg "range" = none) (he : EX X a Γ (pu tI n) Γ1) (h0 : -(2 ^ 62) ≤ n) (h1 : n ≤ sizeLine) (hg : Gl X "range" := by rfl) (hs : starEach [a] X.env = [(false, eval a X.env)] := by rfl) :
    IW X tg (.Call (.Name "range" p) [a] [] pos) (iRng1 (RA X [a])) Γ tI (rangeI 0 n) Γ1 := by
  refine ⟨pi_range1 hg hm paR hs, fun T _ τ σ s hl E Rr h => ?_⟩
  have ha : EA X [a] Γ [pu tI n] Γ1 := ea_cons he ea_nil (by rw [hs]; rfl)
  refine ha T τ σ s hl E _ fun vs s1 E1 l1 lv e1 => ?_
  match vs, lv with
  | [v], _ =>
    have E1' : EnvOk s1 ((σ ++ τ) ++ [some v]) ((Γ1 ++ T) ++ [pu tI n]) := E1
    have hv : v = .int n := pu_top E1'
    obtain ⟨E2, e2⟩ := E1'.pop
    have hsl : (sizeLine : Int) < 2 ^ 62 := by rw [sizeLine_eq]; decide
    refine ⟨n, by rw [hv], h0, by omega, ?_⟩
    have q1 := h (Itr 0 n.toNat) _ _ [] [] _ (by rw [rangeI_len, Int.sub_zero]; exact walk_range) (by simpa using E2) l1 rfl (e1.trans e2) (by rw [rangeI_len]; omega) (fun σ2 Γ2 ρ Ps s2 h2 E2 => trivial) (fun i x H' σ2 Γ2 ρ Ps s2 hi y h2 E2 => ?_)
    · exact q1
    · obtain ⟨rfl, rfl⟩ := y
      rw [rangeI_len] at hi
      exact ⟨_, s2, rangeI_get hi, rfl, E2.push0 _ ⟨rfl, _, rfl, rfl⟩, Evo.refl s2⟩
theorem w_range2 {lo n : Int} {p pos : Pos} (hm : X.mg "range" = none) (ha : EA X [a, b] Γ [pu tI lo, pu tI n] Γ1) (hb : -(2 ^ 62) ≤ lo ∧ lo < 2 ^ 62 ∧ -(2 ^ 62) ≤ n ∧ n < 2 ^ 62) (h1 : n - lo ≤ sizeLine) (hg : Gl X "range" := by rfl)
    (hs : starEach [a, b] X.env = [(false, eval a X.env), (false, eval b X.env)] := by rfl) (hs2 : starEach [b] X.env = [(false, eval b X.env)] := by rfl) :
    IW X tg (.Call (.Name "range" p) [a, b] [] pos) (iRng2 (RA X [a, b])) Γ tI (rangeI lo n) Γ1 := by
  refine ⟨pi_range2 hg hm paR hs hs2, fun T _ τ σ s hl E Rr h => ?_⟩
  refine ha T τ σ s hl E _ fun vs s1 E1 l1 lv e1 => ?_
  match vs, lv with
  | [v, u], _ =>
    have E1' : EnvOk s1 (((σ ++ τ) ++ [some v]) ++ [some u]) (((Γ1 ++ T) ++ [pu tI lo]) ++ [pu tI n]) := by simpa using E1
    have hv := pu_top2 E1'
    obtain ⟨E2, e2⟩ := E1'.pop
    obtain ⟨E3, e3⟩ := E2.pop
    refine ⟨lo, n, by rw [show v = V.int lo from hv.1, show u = V.int n from hv.2], hb, ?_⟩
    have q1 := h (Itr lo (n - lo).toNat) _ _ [] [] _ (by rw [rangeI_len]; exact walk_range) (by simpa using E3) l1 rfl ((e1.trans e2).trans e3) (by rw [rangeI_len]; omega) (fun σ2 Γ2 ρ Ps s2 h2 E2 => trivial) (fun i x H' σ2 Γ2 ρ Ps s2 hi y h2 E2 => ?_)
    · exact q1
    · obtain ⟨rfl, rfl⟩ := y
      rw [rangeI_len] at hi
      exact ⟨_, s2, rangeI_get hi, rfl, E2.push0 _ ⟨rfl, _, rfl, rfl⟩, Evo.refl s2⟩
/-- pairs of the place and the thing -/
def enumI (xs : List α) : List (Int × α) := xs.mapIdx fun i x => ((i : Int), x)
theorem enumI_get {xs : List α} {i : Nat} {x : α} (h : xs[i]? = some x) : (enumI xs)[i]? = some ((i : Int), x) := by simp [enumI, h]
theorem pair_push {K : PySem.W.Frag} {R1 : Ty α} {R2 : Ty β} {x : α} {y : β} {v u : V} {p : Addr} (E : EnvOk s σ Γ) (hv : R1.rep s.B v x) (hu : R2.rep s.B u y) (hp : s.H p = none) :
    ∃ s3 : Sta, s3.H = upd s.H p (.tup [v, u]) ∧ EnvOk s3 (σ ++ [some (.ref p)]) (Γ ++ [pu (tP2 K R1 R2) (x, y)]) ∧ Evo s s3 := by
  obtain ⟨E4, e4⟩ := E.push1 (o := some (.ref p)) (ob := .tup [v, u]) hp (pu (tP2 K R1 R2) (x, y)) fun k1 k2 => ⟨rfl, _, rfl, p, v, u, rfl, sqt_new k2, R1.mono k1 hv, R2.mono k1 hu⟩
  exact ⟨_, rfl, E4, e4⟩
end
/-- the middle of the stack is dropped -/
theorem EnvOk.mid {s : Sta} {σ us ρ : St} {Γ Ts Ps : List Slot} (E : EnvOk s (σ ++ (us ++ ρ)) (Γ ++ (Ts ++ Ps))) (hl : σ.length = Γ.length) (hm : us.length = Ts.length) :
    ∃ s' : Sta, EnvOk s' (σ ++ ρ) (Γ ++ Ps) ∧ Evo s s' ∧ s'.H = s.H ∧ s'.B = s.B := by
  have key : ∀ j a, (if j < Γ.length then s.F j else s.F (j + Ts.length)) a ≠ none → ∃ i, s.F i a ≠ none ∧ i = (if j < Γ.length then j else j + Ts.length) := fun j a h => by
    by_cases q : j < Γ.length
    · rw [if_pos q] at h ⊢; exact ⟨j, h, rfl⟩
    · rw [if_neg q] at h ⊢; exact ⟨_, h, rfl⟩
  refine ⟨⟨s.B, s.H, fun j => if j < Γ.length then s.F j else s.F (j + Ts.length)⟩, ⟨E.sub, fun j a u h => ?_, fun j a h => ?_, fun j k a h1 h2 => ?_, ?_, fun j S hj => ?_, fun j hj => ?_⟩, ⟨fun _ _ h => h, fun _ _ h _ => h, fun _ h => h, fun _ h => .inl h, fun a j h => ?_⟩, rfl, rfl⟩
  · have h' : (if j < Γ.length then s.F j else s.F (j + Ts.length)) a = some u := h
    by_cases q : j < Γ.length
    · rw [if_pos q] at h'; exact E.subF _ a u h'
    · rw [if_neg q] at h'; exact E.subF _ a u h'
  · obtain ⟨i, h', _⟩ := key j a h; exact E.dis i a h'
  · obtain ⟨i, h1', e1⟩ := key j a h1
    obtain ⟨i', h2', e2⟩ := key k a h2
    have := E.disF i i' a h1' h2'
    subst this
    rw [e1] at e2
    split at e2 <;> split at e2 <;> omega
  · have := E.len; simp at this ⊢; omega
  · show S.p s.B (if j < Γ.length then s.F j else s.F (j + Ts.length)) _
    by_cases q : j < Γ.length
    · rw [if_pos q]
      rw [List.getElem?_append_left q] at hj
      have := E.sl j S (by rw [List.getElem?_append_left q]; exact hj)
      rw [List.getElem?_append_left (by omega)] at this ⊢
      exact this
    · rw [if_neg q]
      rw [List.getElem?_append_right (by omega)] at hj
      have := E.sl (j + Ts.length) S (by
        rw [List.getElem?_append_right (by omega), List.getElem?_append_right (by omega)]
        rw [show j + Ts.length - Γ.length - Ts.length = j - Γ.length by omega]; exact hj)
      rw [List.getElem?_append_right (by omega), List.getElem?_append_right (by omega)] at this
      rw [List.getElem?_append_right (by omega)]
      rw [show j + Ts.length - σ.length - us.length = j - σ.length by omega] at this
      exact this
  · show (if j < Γ.length then s.F j else s.F (j + Ts.length)) = em
    simp at hj
    rw [if_neg (by omega)]
    exact E.out _ (by simp; omega)
  · obtain ⟨i, h', _⟩ := key j a h; exact .inr ⟨i, h'⟩
/-! ## targets -/
/-- a target at a thing of type R turns the environment by f; it stores into the slots `is` alone -/
def TGT (g : TG) (R : Ty α) (is : List Nat) (n : Nat) (f : List Slot → α → List Slot) : Prop :=
  ∀ (x : α) (v : V) (σ τ : St) (T Γ : List Slot) (s : Sta), σ.length = Γ.length → Γ.length = n → EnvOk s ((σ ++ τ) ++ [some v]) ((Γ ++ T) ++ [pu R x]) → ∀ Q : St → Hp → Prop,
    (∀ σ' s', EnvOk s' (σ' ++ τ) (f Γ x ++ T) → σ'.length = σ.length → (f Γ x).length = Γ.length → wipe σ' is = wipe σ is → Evo s s' → Q σ' s'.H) → g v σ s.H Q
theorem wipe_at {σ : St} : ∀ {is : List Nat} {i : Nat}, i ∈ is → i < σ.length → (wipe σ is)[i]? = some none
  | v :: vs, i, h, hl => by
    unfold wipe
    by_cases e : v = i
    · subst e; rw [List.getElem?_set_self (by rw [wipe_length]; exact hl)]
    · rw [List.getElem?_set_ne e]
      rcases List.mem_cons.mp h with h | h
      · exact absurd h.symm e
      · exact wipe_at h hl
theorem wipe_off {σ : St} : ∀ {is : List Nat} {i : Nat}, i ∉ is → (wipe σ is)[i]? = σ[i]?
  | [], _, _ => rfl
  | v :: vs, i, h => by
    unfold wipe
    have h' := not_or.mp (fun z => h (List.mem_cons.mpr z))
    rw [List.getElem?_set_ne (Ne.symm h'.1)]
    exact wipe_off h'.2
theorem wipe_set {σ : St} {is : List Nat} {j : Nat} {o : Option V} (hj : j ∈ is) : wipe (σ.set j o) is = wipe σ is := by
  apply List.ext_getElem?
  intro i
  by_cases hi : i ∈ is
  · by_cases hl : i < σ.length
    · rw [wipe_at hi (by simpa using hl), wipe_at hi hl]
    · rw [List.getElem?_eq_none (by rw [wipe_length]; simp; omega), List.getElem?_eq_none (by rw [wipe_length]; omega)]
  · rw [wipe_off hi, wipe_off hi, List.getElem?_set_ne (fun e => hi (by rw [← e]; exact hj))]
theorem wipe_wipe {σ : St} {is : List Nat} : wipe (wipe σ is) is = wipe σ is := by
  apply List.ext_getElem?
  intro i
  by_cases hi : i ∈ is
  · by_cases hl : i < σ.length
    · rw [wipe_at hi (by rw [wipe_length]; exact hl), wipe_at hi hl]
    · rw [List.getElem?_eq_none (by rw [wipe_length, wipe_length]; omega), List.getElem?_eq_none (by rw [wipe_length]; omega)]
  · rw [wipe_off hi]
theorem tg_name {R : Ty α} {n j : Nat} (hj : j < n) : TGT (gName j) R [j] n (fun Γ x => Γ.set j (pu R x)) := by
  intro x v σ τ T Γ s hl hn E Q hQ
  obtain ⟨E2, e2⟩ := E.store (i := j) (by simp; omega)
  rw [set_app (by omega), List.set_append_left _ _ (by omega)] at E2
  have q := hQ (σ.set j (some v)) _ E2 (by simp) (by simp) (wipe_set (by simp)) e2
  exact q
/-- i, j = a pair -/
theorem tg_pair {K : PySem.W.Frag} {R1 : Ty α} {R2 : Ty β} {n i j : Nat} (hi : i < n) (hj : j < n) : TGT (gTup K 2 (gCons (gName i) (gCons (gName j) gNil))) (tP2 K R1 R2) [i, j] n (fun Γ x => (Γ.set i (pu R1 x.1)).set j (pu R2 x.2)) := by
  intro x v σ τ T Γ s hl hn E Q hQ
  obtain ⟨a, v1, v2, e, z, r1, r2⟩ := pu_top E
  obtain ⟨E2, e2⟩ := E.pop
  have h2 := r2
  have E3 := E2.push0 (o := some v1) (pu R1 x.1) ⟨rfl, v1, rfl, r1⟩
  obtain ⟨E4, e4⟩ := E3.store (i := i) (by simp; omega)
  rw [set_app (by omega), List.set_append_left _ _ (by omega)] at E4
  have E5 := E4.push0 (o := some v2) (pu R2 x.2) ⟨rfl, v2, rfl, h2⟩
  obtain ⟨E6, e6⟩ := E5.store (i := j) (by simp; omega)
  rw [set_app (by simp; omega), List.set_append_left _ _ (by simp; omega)] at E6
  have q := hQ ((σ.set i (some v1)).set j (some v2)) _ E6 (by simp) (by simp) (by rw [wipe_set (by simp), wipe_set (by simp)]) ((e2.trans e4).trans e6)
  exact ⟨a, [v1, v2], e, same_sqt E.sub z, rfl, v1, [v2], rfl, v2, [], rfl, rfl, q⟩
/-- more slots counted as stored into -/
theorem TGT.mono {g : TG} {R : Ty α} {is js : List Nat} {n : Nat} {f : List Slot → α → List Slot} (h : TGT g R is n f) (hs : ∀ i ∈ is, i ∈ js) : TGT g R js n f := fun x v σ τ T Γ s hl hn E Q hQ =>
  h x v σ τ T Γ s hl hn E Q fun σ' s' E' l1 l2 hw e' => hQ σ' s' E' l1 l2 (by
    apply List.ext_getElem?
    intro i
    by_cases hi : i ∈ js
    · by_cases hlt : i < σ.length
      · rw [wipe_at hi (by omega), wipe_at hi hlt]
      · rw [List.getElem?_eq_none (by rw [wipe_length]; omega), List.getElem?_eq_none (by rw [wipe_length]; omega)]
    · have hi' : i ∉ is := fun z => hi (hs i z)
      have := congrArg (fun l => l[i]?) hw
      simp only [wipe_off hi'] at this
      rw [wipe_off hi, wipe_off hi, this]) e'
/-! ## forgotten slots -/
theorem uns_length : ∀ {is : List Nat} {Γ : List Slot}, (uns is Γ).length = Γ.length
  | [], _ => rfl
  | i :: r, Γ => by show (uns r (Γ.set i un)).length = _; rw [uns_length]; simp
theorem uns_un : ∀ {is : List Nat} {Γ : List Slot} {i : Nat}, i < Γ.length → (i ∈ is ∨ Γ[i]? = some un) → (uns is Γ)[i]? = some un
  | [], Γ, i, hl, h => h.elim (fun z => nomatch z) id
  | j :: r, Γ, i, hl, h => by
    show (uns r (Γ.set j un))[i]? = _
    apply uns_un (by simpa using hl)
    by_cases e : j = i
    · right; subst e; rw [List.getElem?_set_self hl]
    · rcases h with h | h
      · rcases List.mem_cons.mp h with h | h
        · exact absurd h.symm e
        · exact .inl h
      · right; rw [List.getElem?_set_ne e]; exact h
/-- the contents of forgotten slots do not matter -/
theorem EnvOk.rest {s : Sta} {σ σ' τ : St} {Γ T : List Slot} (E : EnvOk s (σ ++ τ) (Γ ++ T)) (hl : σ.length = Γ.length) (hl' : σ'.length = σ.length) (h : ∀ i, i < Γ.length → Γ[i]? = some un ∨ σ'[i]? = σ[i]?) : EnvOk s (σ' ++ τ) (Γ ++ T) where
  sub := E.sub
  subF := E.subF
  dis := E.dis
  disF := E.disF
  len := by have := E.len; simp at this ⊢; omega
  sl := fun i S hi => by
    have q := E.sl i S hi
    by_cases hlt : i < Γ.length
    · rw [List.getElem?_append_left (by omega)] at q
      rw [List.getElem?_append_left (by omega)]
      rw [List.getElem?_append_left hlt] at hi
      rcases h i hlt with e | e
      · rw [e] at hi; cases hi; exact q
      · rw [e]; exact q
    · rw [List.getElem?_append_right (by omega)] at q
      rw [List.getElem?_append_right (by omega), hl']
      exact q
  out := E.out
theorem EnvOk.wiped {s : Sta} {σ τ : St} {Γ T : List Slot} {is : List Nat} (hl : σ.length = Γ.length) (E : EnvOk s (σ ++ τ) (Γ ++ T)) : ∃ s', EnvOk s' (wipe σ is ++ τ) (uns is Γ ++ T) ∧ Evo s s' ∧ s'.H = s.H := by
  obtain ⟨s1, E1, e1, h1⟩ := (Wk.uns is (Γ := Γ)).2 T τ σ s hl E
  refine ⟨s1, E1.rest (by rw [uns_length]; exact hl) (wipe_length σ is) fun i hi => ?_, e1, h1⟩
  by_cases q : i ∈ is
  · exact .inl (uns_un (by rw [uns_length] at hi; exact hi) (.inl q))
  · exact .inr (wipe_off q)
theorem EnvOk.unwiped {s : Sta} {σ τ : St} {Γ T : List Slot} {is : List Nat} (hl : σ.length = Γ.length) (E : EnvOk s (wipe σ is ++ τ) (uns is Γ ++ T)) : EnvOk s (σ ++ τ) (uns is Γ ++ T) := by
  refine E.rest (by rw [uns_length, wipe_length]; exact hl) (by rw [wipe_length]) fun i hi => ?_
  by_cases q : i ∈ is
  · exact .inl (uns_un (by rw [uns_length] at hi; exact hi) (.inl q))
  · exact .inr (wipe_off q).symm
end Fw

namespace Fw
open PySem L2
variable [Tb]
variable {α β γ δ ε ρ κ : Type}
theorem take_succ_at {xs : List α} {i : Nat} {x : α} (h : xs[i]? = some x) : xs.take (i + 1) = xs.take i ++ [x] := by rw [List.take_add_one, h]; rfl
theorem one_write {s : Sta} {σ : St} {Γ : List Slot} {S' : Slot} {p : Addr} {ob ob' : HO} {o : Option V} {S : Slot} (E : EnvOk s (σ ++ [o]) (Γ ++ [S])) (hF : s.F Γ.length = one p ob) (h : S'.p s.B (one p ob') o) :
    ∃ s' : Sta, s'.H = upd s.H p ob' ∧ s'.B = s.B ∧ EnvOk s' (σ ++ [o]) (Γ ++ [S']) ∧ Evo s s' := by
  have hl : σ.length = Γ.length := by have := E.len; simp at this; exact this
  obtain ⟨E', e'⟩ := E.write (S' := S') (i := Γ.length) (ob := ob) (ob' := ob') (by simp) hF (by
    rw [join_get (show (σ ++ [o])[Γ.length]? = some o by rw [← hl]; simp)]
    exact h)
  rw [List.set_append_right _ _ (Nat.le_refl _)] at E'
  simp at E'
  exact ⟨⟨s.B, upd s.H p ob', fun j => if j = Γ.length then one p ob' else s.F j⟩, rfl, rfl, E', e'⟩
/-- the owned list at the top gets the thing that lies above it -/
theorem top_append {s : Sta} {σ : St} {Γ : List Slot} {R : Ty α} {xs : List α} {y : α} {D : Addr} {v : V} (E : EnvOk s ((σ ++ [some (.ref D)]) ++ [some v]) ((Γ ++ [ol R xs]) ++ [pu R y])) :
    ∃ (acc : List V) (s' : Sta), s.H D = some (.lst acc) ∧ acc.length = xs.length ∧ s'.H = upd s.H D (.lst (acc ++ [v])) ∧ EnvOk s' (σ ++ [some (.ref D)]) (Γ ++ [ol R (xs ++ [y])]) ∧ Evo s s' := by
  have hy := pu_top E
  obtain ⟨E2, e2⟩ := E.pop
  obtain ⟨p, vs, e, f, r⟩ := E2.top
  cases e
  have hD : s.H D = some (.lst vs) := by
    have := E2.subF Γ.length D (.lst vs) (by rw [f]; exact one_self)
    exact this
  obtain ⟨s', h1, h2, E3, e3⟩ := one_write (S' := ol R (xs ++ [y])) (ob' := .lst (vs ++ [v])) E2 f ⟨D, _, rfl, rfl, paired_app r (.cons hy .nil)⟩
  exact ⟨vs, s', hD, paired_len r, h1, E3, e2.trans e3⟩

section
variable {X : Cx} {elt tg iter : Expr} {ifs : List Expr} {scope : Scope} {own : List (Str × Nat)} {pos : Pos} {wi : TI} {g : TG} {Γ Γ1 : List Slot} {R : Ty α} {R' : Ty β} {xs : List α} {f : List Slot → α → List Slot}
/-- the contexts of a block -/
abbrev blkX (X : Cx) (scope : Scope) (s : Shared) (H : Hp) (C : Addr) (cl : List (Str × Addr)) (fp : List Addr) : Cx := X.blk s H scope (compEnvC scope cl C X.env) fp
/-- a test of a block, or none -/
def EIs (X : Cx) (ifs : List Expr) (Γ : List Slot) (b : Bool) : Prop := (ifs = [] ∧ b = true) ∨ ∃ c, ifs = [c] ∧ ET X c Γ b Γ
theorem is_nil {X : Cx} {Γ : List Slot} : EIs X [] Γ true := .inl ⟨rfl, rfl⟩
theorem is_one {X : Cx} {Γ : List Slot} {c : Expr} {b : Bool} (h : ET X c Γ b Γ) : EIs X [c] Γ b := .inr ⟨c, rfl, h⟩
def RI (X : Cx) (ifs : List Expr) (σ : St) (H : Hp) (Q : Bool → Hp → Prop) : Prop := ∀ (pins : List (Addr × Obj)) (s : Shared), Inv X pins σ H s →
  wpAny (model X.prog X.w) X.A (forIn ifs true fun c r => if r = true then do let ok ← isTrue c X.env (eval c X.env); pure (ForInStep.yield ok) else pure (ForInStep.yield r)) (TP X pins σ Q) X.xe s
def tIsA (X : Cx) (scope : Scope) (ifs : List Expr) : TT := fun σ H Q => ∀ s0 H0 C cl fp, RI (blkX X scope s0 H0 C cl fp) ifs σ H Q
def tElA (X : Cx) (scope : Scope) (elt : Expr) : TE := fun σ H Q => ∀ s0 H0 C cl fp, RE (blkX X scope s0 H0 C cl fp) elt σ H Q
theorem EIs.run {X : Cx} {ifs : List Expr} {Γ T : List Slot} [HasTab T] {b : Bool} {σ τ : St} {s : Sta} (h : EIs X ifs Γ b) (hl : σ.length = Γ.length) (E : EnvOk s (σ ++ τ) (Γ ++ T)) {Q : Bool → Hp → Prop}
    (hQ : ∀ s', EnvOk s' (σ ++ τ) (Γ ++ T) → Evo s s' → Q b s'.H) : RI X ifs σ s.H Q := by
  rcases h with ⟨e, e2⟩ | ⟨c, e, h⟩
  · subst e; subst e2
    exact fun pins sh I => pts_nil.run pins sh σ s.H Q I (hQ s E (Evo.refl s))
  · subst e
    exact fun pins sh I => (pts_one ptR).run pins sh σ s.H Q I (h T τ σ s hl E Q fun s' E' _ e' => hQ s' E' e')
/-- [elt for tg in iter if ..], its reading -/
theorem lc_run (iw : IW X tg iter wi Γ R xs Γ1)
    (ht : TGT g R (own.map (·.2)) Γ.length f) (p : α → Bool) (k : α → β)
    (hi' : ∀ s0 H0 C cl fp (i : Nat) (x : α), xs[i]? = some x → EIs (blkX X scope s0 H0 C cl fp) ifs (f (uns (own.map (·.2)) Γ1) x) (p x))
    (he : ∀ s0 H0 C cl fp (i : Nat) (x : α), xs[i]? = some x → p x = true → EX (blkX X scope s0 H0 C cl fp) elt (f (uns (own.map (·.2)) Γ1) x) (pu R' (k x)) (f (uns (own.map (·.2)) Γ1) x))
    (hw0 : ∀ x, uns (own.map (·.2)) (f (uns (own.map (·.2)) Γ1) x) = uns (own.map (·.2)) Γ1) {T : List Slot} [HasTab T] {τ σ : St} {s : Sta} (hl : σ.length = Γ.length) (E : EnvOk s (σ ++ τ) (Γ ++ T)) {Q : VK}
    (hQ : ∀ v s', EnvOk s' ((σ ++ τ) ++ [some v]) ((uns (own.map (·.2)) Γ1 ++ T) ++ [ol R' ((xs.filter p).map k)]) → (uns (own.map (·.2)) Γ1).length = Γ.length → Evo s s' → Q v s'.H) :
    tLc wi g (tIsA X scope ifs) (tElA X scope elt) (own.map (·.2)) σ s.H Q := by
  refine iw.run T τ σ s hl E _ fun J G Y us Ts s1 w E1 l1 lus e1 hz hG hY => ?_
  intro D hD
  generalize hvs : own.map (·.2) = vs at ht hi' he hw0 hQ ⊢
  have hw : ∀ x, Wk (f (uns vs Γ1) x) (uns vs Γ1) := fun x => by have := Wk.uns vs (Γ := f (uns vs Γ1) x); rw [hw0 x] at this; exact this
  -- the state at the start: the block's slots forgotten, the new list on the stack
  have E1' : EnvOk s1 (σ ++ (τ ++ us)) (Γ1 ++ (T ++ Ts)) := by simpa using E1
  obtain ⟨s2, E2, e2, h2⟩ := EnvOk.wiped (is := vs) (by omega) E1'
  have hD2 : s2.H D = none := by rw [h2]; exact hD
  obtain ⟨E3, e3⟩ := E2.pushO (o := some (.ref D)) (ob := .lst []) hD2 (ol R' []) ⟨D, [], rfl, rfl, .nil⟩
  have E4 : EnvOk ⟨s2.B, upd s2.H D (.lst []), fun i => if i = (uns vs Γ1 ++ (T ++ Ts)).length then one D (.lst []) else s2.F i⟩ ((wipe σ vs ++ τ) ++ (us ++ [some (.ref D)])) ((uns vs Γ1 ++ T) ++ (Ts ++ [ol R' []])) := by simpa using E3
  have lw : (wipe σ vs).length = (uns vs Γ1).length := by rw [wipe_length, uns_length]; omega
  have lt' : τ.length = T.length := by have := E.len; simp at this; omega
  refine lc_it w (fun i H => ∃ s4 : Sta, s4.H = H ∧ Evo s s4 ∧ EnvOk s4 ((wipe σ vs ++ τ) ++ (us ++ [some (.ref D)])) ((uns vs Γ1 ++ T) ++ (Ts ++ [ol R' (((xs.take i).filter p).map k)]))) ?h0 ?hG ?hs ?hd
  case h0 =>
    refine ⟨_, ?_, (e1.trans e2).trans e3, E4⟩
    show upd s2.H D (.lst []) = upd s1.H D (.lst [])
    rw [h2]
  case hG =>
    rintro i H hi ⟨s4, rfl, e4, E5⟩
    exact hG _ _ _ _ s4 (by simp; omega) E5
  case hd =>
    rintro H ⟨s4, rfl, e4, E5⟩
    rw [List.take_length] at E5
    have E6 : EnvOk s4 (wipe σ vs ++ (τ ++ us ++ [some (.ref D)])) (uns vs Γ1 ++ (T ++ Ts ++ [ol R' ((xs.filter p).map k)])) := by simpa using E5
    have E7 := EnvOk.unwiped (by omega) E6
    have E8 : EnvOk s4 ((σ ++ τ) ++ (us ++ [some (.ref D)])) ((uns vs Γ1 ++ T) ++ (Ts ++ [ol R' ((xs.filter p).map k)])) := by simpa using E7
    obtain ⟨s5, E9, e9, h9, _⟩ := E8.mid (by rw [List.length_append, List.length_append, uns_length]; omega) lus
    have q := hQ (.ref D) s5 E9 (by rw [uns_length]; exact l1) (e4.trans e9)
    rw [h9] at q
    exact q
  case hs =>
    rintro i x H H' hi ⟨s4, rfl, e4, E5⟩ y
    obtain ⟨z, s5, hz5, hH5, E6, e6⟩ := hY i x H' _ _ _ _ s4 hi y (by simp; omega) E5
    subst hH5
    have hlen : ((xs.take i).filter p).length ≤ i := Nat.le_trans (List.length_filter_le _ _) (by rw [List.length_take]; omega)
    have E7 : EnvOk s5 ((wipe σ vs ++ (τ ++ (us ++ [some (.ref D)]))) ++ [some x]) ((uns vs Γ1 ++ (T ++ (Ts ++ [ol R' (((xs.take i).filter p).map k)]))) ++ [pu R z]) := by simpa using E6
    refine ht z x (wipe σ vs) _ _ (uns vs Γ1) s5 lw (by rw [uns_length]; exact l1) E7 _ fun σ' s6 E8 l8 l8' hwp e8 => ?_
    refine ⟨by rw [hwp, wipe_wipe], fun s0 H0 C cl fp => ?_⟩
    refine (hi' s0 H0 C cl fp i z hz5).run (by omega) E8 fun s7 E9 e9 => ?_
    have back : ∀ {s : Sta} {acc : List β}, EnvOk s (σ' ++ (τ ++ (us ++ [some (.ref D)]))) (f (uns vs Γ1) z ++ (T ++ (Ts ++ [ol R' acc]))) → ∃ s', EnvOk s' ((wipe σ vs ++ τ) ++ (us ++ [some (.ref D)])) ((uns vs Γ1 ++ T) ++ (Ts ++ [ol R' acc])) ∧ Evo s s' ∧ s'.H = s.H := fun {s acc} E => by
      obtain ⟨s', E', e', h'⟩ := (hw z).2 _ _ σ' s (by omega) E
      refine ⟨s', ?_, e', h'⟩
      have E'' := E'.rest (σ' := wipe σ vs) (by rw [(hw z).1]; omega) (by omega) fun j hj => by
        by_cases q : j ∈ vs
        · exact .inl (uns_un (by rw [uns_length] at hj; exact hj) (.inl q))
        · right
          have hh := congrArg (fun l => l[j]?) hwp
          simp only [wipe_off q] at hh
          rw [wipe_off q]
          exact hh.symm
      simpa using E''
    cases hp : p z with
    | false =>
      obtain ⟨s8, E10, e10, h10⟩ := back E9
      refine iteF ⟨s8, h10, ((((e4.trans e6).trans e8).trans e9).trans e10), ?_⟩
      rw [take_succ_at hz5, List.filter_append]
      simpa [hp] using E10
    | true =>
      refine iteT fun s0 H0 C cl fp => ?_
      refine he s0 H0 C cl fp i z hz5 hp _ _ σ' s7 (by omega) E9 _ fun v s8 E10 l10 e10 => ?_
      have E11 : EnvOk s8 (((σ' ++ (τ ++ us)) ++ [some (.ref D)]) ++ [some v]) (((f (uns vs Γ1) z ++ (T ++ Ts)) ++ [ol R' (((xs.take i).filter p).map k)]) ++ [pu R' (k z)]) := by simpa using E10
      obtain ⟨acc, s9, hacc, hla, hH9, E12, e12⟩ := top_append E11
      have E13 : EnvOk s9 (σ' ++ (τ ++ (us ++ [some (.ref D)]))) (f (uns vs Γ1) z ++ (T ++ (Ts ++ [ol R' (((xs.take i).filter p).map k ++ [k z])]))) := by simpa using E12
      obtain ⟨s10, E14, e14, h14⟩ := back E13
      refine ⟨acc, hacc, by rw [hla, List.length_map]; omega, s10, by rw [h14, hH9], ((((((e4.trans e6).trans e8).trans e9).trans e10).trans e12).trans e14), ?_⟩
      rw [take_succ_at hz5, List.filter_append]
      simpa [hp] using E14
theorem ptsA {s : Shared} {H : Hp} {C : Addr} {cl : List (Str × Addr)} {fp : List Addr} : PTs (X.blk s H scope (compEnvC scope cl C X.env) fp) ifs (tIsA X scope ifs) := ⟨fun pins sh σ' H' Q' I q => q s H C cl fp pins sh I⟩
theorem peA {s : Shared} {H : Hp} {C : Addr} {cl : List (Str × Addr)} {fp : List Addr} : PE (X.blk s H scope (compEnvC scope cl C X.env) fp) elt (tElA X scope elt) := ⟨fun pins sh σ' H' Q' I q => q s H C cl fp pins sh I⟩
/-- as a value -/
theorem x_lc (hc : X.calm = true) (hN : X.N.Nodup) (iw : IW X tg iter wi Γ R xs Γ1) (ok : BlkOk X.N X.env.scope scope own)
    (hg : ∀ (s : Shared) (H : Hp) (C : Addr) (cl : List (Str × Addr)) (fp : List Addr), PG (X.blk s H scope (compEnvC scope cl C X.env) fp) tg g)
    (ht : TGT g R (own.map (·.2)) Γ.length f) (p : α → Bool) (k : α → β)
    (hi' : ∀ s0 H0 C cl fp (i : Nat) (x : α), xs[i]? = some x → EIs (blkX X scope s0 H0 C cl fp) ifs (f (uns (own.map (·.2)) Γ1) x) (p x))
    (he : ∀ s0 H0 C cl fp (i : Nat) (x : α), xs[i]? = some x → p x = true → EX (blkX X scope s0 H0 C cl fp) elt (f (uns (own.map (·.2)) Γ1) x) (pu R' (k x)) (f (uns (own.map (·.2)) Γ1) x))
    (hw0 : ∀ x, uns (own.map (·.2)) (f (uns (own.map (·.2)) Γ1) x) = uns (own.map (·.2)) Γ1 := by intro _; rfl)
    (hs : ∀ x, foldedSetIterable iter X.env x = pure x := by intro _; rfl) : EX X (.ListComp elt [⟨tg, iter, ifs, 0⟩] scope pos) Γ (ol R' ((xs.filter p).map k)) (uns (own.map (·.2)) Γ1) := by
  intro T _ τ σ s hl E Q hQ
  exact re_of (pe_lc hc hN iw.pi ok hg (fun _ _ _ _ _ => ptsA) (fun _ _ _ _ _ => peA) hs) (lc_run iw ht p k hi' he hw0 hl E hQ)
/-- name = [..] -/
theorem s1_setLc {i : Nat} {y : Str} {py spos : Pos} (hc : X.calm = true) (hN : X.N.Nodup) (hy : X.N[i]? = some y) (hyl : X.env.scope.names.lookup y = some .local)
    (hsw : swapsWith (.ListComp elt [⟨tg, iter, ifs, 0⟩] scope pos) (some (.Name y py)) spos.line X.env = pure true) (hG : i < Γ.length) (iw : IW X tg iter wi Γ R xs Γ1) (ok : BlkOk X.N X.env.scope scope own)
    (hg : ∀ (s : Shared) (H : Hp) (C : Addr) (cl : List (Str × Addr)) (fp : List Addr), PG (X.blk s H scope (compEnvC scope cl C X.env) fp) tg g)
    (ht : TGT g R (own.map (·.2)) Γ.length f) (p : α → Bool) (k : α → β)
    (hi' : ∀ s0 H0 C cl fp (i : Nat) (x : α), xs[i]? = some x → EIs (blkX X scope s0 H0 C cl fp) ifs (f (uns (own.map (·.2)) Γ1) x) (p x))
    (he : ∀ s0 H0 C cl fp (i : Nat) (x : α), xs[i]? = some x → p x = true → EX (blkX X scope s0 H0 C cl fp) elt (f (uns (own.map (·.2)) Γ1) x) (pu R' (k x)) (f (uns (own.map (·.2)) Γ1) x))
    (hw0 : ∀ x, uns (own.map (·.2)) (f (uns (own.map (·.2)) Γ1) x) = uns (own.map (·.2)) Γ1 := by intro _; rfl)
    (hs : ∀ x, foldedSetIterable iter X.env x = pure x := by intro _; rfl) : S1 X (.Assign [.Name y py] (.ListComp elt [⟨tg, iter, ifs, 0⟩] scope pos) spos) Γ (fun r => r = .nx ((uns (own.map (·.2)) Γ1).set i (ol R' ((xs.filter p).map k)))) := by
  intro T _ τ σ s hl E D hD
  refine rs_of (ps_setLc hc hN hy hyl hsw iw.pi ok hg (fun _ _ _ _ _ => ptsA) (fun _ _ _ _ _ => peA) hs) (lc_run (Q := fun x H1 => gName i x σ H1 D.nx) iw ht p k hi' he hw0 hl E fun v s1 E1 l1 e1 => ?_)
  have hG1 : i < (uns (own.map (·.2)) Γ1).length := by omega
  obtain ⟨E2, e2⟩ := E1.store (i := i) (by simp; omega)
  rw [set_app hG1, List.set_append_left _ _ (by omega)] at E2
  have q := hD _ rfl (σ.set i (some v)) _ (by simp; omega) E2 (e1.trans e2)
  exact q
end

/-! ## for -/
inductive Lp (σ ρ : Type) where
  | go (s : σ) | brk (s : σ) | ret (r : ρ)
/-- a loop that may be left -/
def runL (step : κ → α → Lp κ ρ) : κ → List α → Sum κ ρ
  | s, [] => .inl s
  | s, x :: r => match step s x with
    | .go s' => runL step s' r
    | .brk s' => .inl s'
    | .ret q => .inr q
/-- its state ahead of the rest, if it has not been left -/
def goL (step : κ → α → Lp κ ρ) : κ → List α → Option κ
  | s, [] => some s
  | s, x :: r => match step s x with
    | .go s' => goL step s' r
    | _ => none
theorem runL_app (step : κ → α → Lp κ ρ) : ∀ (xs ys : List α) (s s' : κ), goL step s xs = some s' → runL step s (xs ++ ys) = runL step s' ys
  | [], _, s, s', h => by simp [goL] at h; subst h; rfl
  | x :: r, ys, s, s', h => by
    simp only [goL] at h
    simp only [List.cons_append, runL]
    cases e : step s x with
    | go t => rw [e] at h; exact runL_app step r ys t s' h
    | brk t => rw [e] at h; cases h
    | ret t => rw [e] at h; cases h
theorem goL_app (step : κ → α → Lp κ ρ) : ∀ (xs : List α) (s s' : κ) (x : α) (t : κ), goL step s xs = some s' → step s' x = .go t → goL step s (xs ++ [x]) = some t
  | [], s, s', x, t, h, q => by simp [goL] at h; subst h; simp [goL, q]
  | y :: r, s, s', x, t, h, q => by
    simp only [goL, List.cons_append] at h ⊢
    cases e : step s y with
    | go u => rw [e] at h; exact goL_app step r u s' x t h q
    | brk u => rw [e] at h; cases h
    | ret u => rw [e] at h; cases h
section
variable {X : Cx} {tg iter : Expr} {body : List Stmt} {pos : Pos} {wi : TI} {g : TG} {Γ Γ1 : List Slot} {R : Ty α} {xs : List α} {f : List Slot → α → List Slot} {is : List Nat}
/-- a turn of a loop: from the invariant's environment G s with the item to that of the next state, or out -/
def Turn1 (G : κ → List Slot) (Pr : ρ → Res → Prop) (o : Lp κ ρ) (r : Res) : Prop := match o with
  | .go s => ∃ Γ', (r = .nx Γ' ∨ r = .ct Γ') ∧ Wk Γ' (G s)
  | .brk s => ∃ Γ', r = .bk Γ' ∧ Wk Γ' (G s)
  | .ret q => Pr q r ∧ ∃ Γ' S, r = .rt Γ' S
/-- for tg in iter: body. step: what a turn does; G: the environment between turns, by the state -/
theorem s1_for (hp : PassesOwn (model X.prog X.w) X.A X.env X.xe) (hc : X.calm = true) (iw : IW X tg iter wi Γ R xs Γ1) (hg : PG X tg g) (ht : TGT g R is Γ.length f)
    (G : κ → List Slot) (step : κ → α → Lp κ ρ) (Pr : ρ → Res → Prop) (s0 : κ) (hlen : ∀ s, (G s).length = Γ.length) (h0 : Wk Γ1 (G s0))
    (hb : ∀ (i : Nat) (x : α) (s : κ), xs[i]? = some x → goL step s0 (xs.take i) = some s → xs.length ≤ sizeLine → SX X body (f (G s) x) (Turn1 G Pr (step s x)))
    (hs : ∀ x, foldedSetIterable iter X.env x = pure x := by intro _; rfl) :
    S1 X (.For tg iter body [] pos) Γ (fun r => match runL step s0 xs with
      | .inl s => r = .nx (G s)
      | .inr q => Pr q r ∧ ∃ Γ' S, r = .rt Γ' S) := by
  intro T _ τ σ s hl E D hD
  refine rs_of (ps_for hp hc iw.pi hg pssR hs) ?_
  refine iw.run T τ σ s hl E _ fun J Gh Y us Ts s1 w E1 l1 lus e1 hz hG hY => ?_
  have E1' : EnvOk s1 (σ ++ (τ ++ us)) (Γ1 ++ (T ++ Ts)) := by simpa using E1
  obtain ⟨s2, E2, e2, h2⟩ := h0.2 _ _ σ s1 (by omega) E1'
  have lt' : τ.length = T.length := by have := E.len; simp at this; omega
  -- out of the loop: the walked thing is dropped
  have out : ∀ {σ' : St} {s' : Sta} {t : κ}, σ'.length = (G t).length → EnvOk s' (σ' ++ (τ ++ us)) (G t ++ (T ++ Ts)) → Evo s s' → (match runL step s0 xs with
      | .inl s => Res.nx (G t) = .nx (G s)
      | .inr q => False) → D.nx σ' s'.H := fun {σ' s' t} hl' E' e' hm => by
    have E'' : EnvOk s' ((σ' ++ τ) ++ (us ++ [])) ((G t ++ T) ++ (Ts ++ [])) := by simpa using E'
    obtain ⟨s'', E3, e3, h3, _⟩ := E''.mid (by simp; omega) lus
    simp only [List.append_nil] at E3
    have q := hD (.nx (G t)) (by
      cases hr : runL step s0 xs with
      | inl u => rw [hr] at hm; exact hm
      | inr u => rw [hr] at hm; exact hm.elim) σ' s'' hl' E3 (e'.trans e3)
    rw [h3] at q
    exact q
  refine for_it w (fun i σ' H => ∃ (t : κ) (s4 : Sta), goL step s0 (xs.take i) = some t ∧ s4.H = H ∧ Evo s s4 ∧ σ'.length = (G t).length ∧ EnvOk s4 (σ' ++ (τ ++ us)) (G t ++ (T ++ Ts))) ?h0 ?hG ?hs ?hd
  case h0 => exact ⟨s0, s2, rfl, h2, e1.trans e2, by rw [hlen]; exact hl, E2⟩
  case hG =>
    rintro i σ' H hi ⟨t, s4, ht4, rfl, e4, l4, E4⟩
    have E5 : EnvOk s4 ((σ' ++ τ) ++ (us ++ [])) ((G t ++ T) ++ (Ts ++ [])) := by simpa using E4
    exact hG _ _ _ _ s4 (by simp; omega) E5
  case hd =>
    rintro σ' H ⟨t, s4, ht4, rfl, e4, l4, E4⟩
    rw [List.take_length] at ht4
    refine out l4 E4 e4 ?_
    have := runL_app step xs [] s0 t ht4
    rw [List.append_nil] at this
    rw [this]
    rfl
  case hs =>
    rintro i x σ' H H' hi ⟨t, s4, ht4, rfl, e4, l4, E4⟩ y
    have E5 : EnvOk s4 ((σ' ++ τ) ++ (us ++ [])) ((G t ++ T) ++ (Ts ++ [])) := by simpa using E4
    obtain ⟨z, s5, hz5, rfl, E6, e6⟩ := hY i x H' _ _ _ _ s4 hi y (by simp; omega) E5
    have E7 : EnvOk s5 ((σ' ++ (τ ++ us)) ++ [some x]) ((G t ++ (T ++ Ts)) ++ [pu R z]) := by simpa using E6
    refine ht z x σ' _ _ (G t) s5 l4 (hlen t) E7 _ fun σ2 s6 E8 l8 l8' _ e8 => ?_
    have hrun : runL step s0 xs = runL step t (z :: xs.drop (i + 1)) := by
      have hx : xs = xs.take i ++ (z :: xs.drop (i + 1)) := by
        have hlt := (List.getElem?_eq_some_iff.mp hz5).1
        have hzz := (List.getElem?_eq_some_iff.mp hz5).2
        rw [← hzz, List.getElem_cons_drop, List.take_append_drop]
      conv => lhs; rw [hx]
      exact runL_app step _ _ s0 t ht4
    refine hb i z t hz5 ht4 hz (T ++ Ts) (τ ++ us) σ2 s6 (by omega) E8 _ fun r hr => ?_
    have ee := ((e4.trans e6).trans e8)
    cases hst : step t z with
    | go t' =>
      rw [hst] at hr
      obtain ⟨Γ', hr, wk⟩ := hr
      have fin : ∀ (σ3 : St) (s7 : Sta), σ3.length = Γ'.length → EnvOk s7 (σ3 ++ (τ ++ us)) (Γ' ++ (T ++ Ts)) → Evo s6 s7 → ∃ (t : κ) (s4 : Sta), goL step s0 (xs.take (i + 1)) = some t ∧ s4.H = s7.H ∧ Evo s s4 ∧ σ3.length = (G t).length ∧ EnvOk s4 (σ3 ++ (τ ++ us)) (G t ++ (T ++ Ts)) := fun σ3 s7 l7 E9 e9 => by
        obtain ⟨s8, E10, e10, h10⟩ := wk.2 _ _ σ3 s7 l7 E9
        exact ⟨t', s8, by rw [take_succ_at hz5]; exact goL_app step _ s0 t z t' ht4 hst, h10, (ee.trans e9).trans e10, by rw [wk.1]; exact l7, E10⟩
      rcases hr with rfl | rfl
      · exact fin
      · exact fin
    | brk t' =>
      rw [hst] at hr
      obtain ⟨Γ', rfl, wk⟩ := hr
      intro σ3 s7 l7 E9 e9
      obtain ⟨s8, E10, e10, h10⟩ := wk.2 _ _ σ3 s7 l7 E9
      have q := out (t := t') (by rw [wk.1]; exact l7) E10 ((ee.trans e9).trans e10) (by
        rw [hrun]; simp only [runL, hst])
      rw [h10] at q
      exact q
    | ret q =>
      rw [hst] at hr
      obtain ⟨hpr, Γ', S, rfl⟩ := hr
      intro σ3 v s7 l7 E9 e9
      have E10 : EnvOk s7 ((σ3 ++ τ) ++ (us ++ [some v])) ((Γ' ++ T) ++ (Ts ++ [S])) := by simpa using E9
      obtain ⟨s8, E11, e11, h11, _⟩ := E10.mid (by simp; omega) lus
      have q' := hD (.rt Γ' S) (by
        rw [hrun]
        simp only [runL, hst]
        exact ⟨hpr, _, _, rfl⟩) σ3 v s8 l7 E11 ((ee.trans e9).trans e11)
      rw [h11] at q'
      exact q'
end
end Fw

namespace Fw
open PySem L2
variable [Tb]
variable {α β γ δ ε ρ κ : Type}
/-! ## while -/
def whileL (test : κ → Bool) (step : κ → Lp κ ρ) : Nat → κ → Sum κ ρ
  | 0, s => .inl s
  | n + 1, s => if test s = true then (match step s with
    | .go s' => whileL test step n s'
    | .brk s' => .inl s'
    | .ret q => .inr q) else .inl s
section
variable {X : Cx} {c : Expr} {body : List Stmt} {pos : Pos} {Γ : List Slot}
theorem s1_while (hp : PassesOwn (model X.prog X.w) X.A X.env X.xe) (G : κ → List Slot) (test : κ → Bool) (step : κ → Lp κ ρ) (Pr : ρ → Res → Prop) (Pv : κ → Prop) (μ : κ → Nat) (n : Nat) (s0 : κ)
    (hlen : ∀ s, (G s).length = Γ.length) (h0 : Wk Γ (G s0)) (hP : Pv s0) (hn : μ s0 < n)
    (hc : ∀ s, Pv s → ET X c (G s) (test s) (G s))
    (hm : ∀ s s', Pv s → test s = true → step s = .go s' → Pv s' ∧ μ s' < μ s)
    (hb : ∀ s, Pv s → test s = true → SX X body (G s) (Turn1 G Pr (step s))) :
    S1 X (.While c body [] pos) Γ (fun r => match whileL test step n s0 with
      | .inl s => r = .nx (G s)
      | .inr q => Pr q r ∧ ∃ Γ' S, r = .rt Γ' S) := by
  intro T _ τ σ s hl E D hD
  refine rs_of (ps_while hp ptR pssR) ?_
  obtain ⟨s2, E2, e2, h2⟩ := h0.2 T τ σ s hl E
  refine ⟨fun m σ' H => ∃ (t : κ) (k : Nat) (s4 : Sta), m = μ t ∧ Pv t ∧ μ t < k ∧ whileL test step n s0 = whileL test step k t ∧ s4.H = H ∧ Evo s s4 ∧ σ'.length = (G t).length ∧ EnvOk s4 (σ' ++ τ) (G t ++ T),
    ⟨μ s0, s0, n, s2, rfl, hP, hn, rfl, h2, e2, by rw [hlen]; exact hl, E2⟩, ?_⟩
  rintro m σ' H ⟨t, k, s4, rfl, pt, hk, hrun, rfl, e4, l4, E4⟩
  obtain ⟨k, rfl⟩ : ∃ k', k = k' + 1 := ⟨k - 1, by omega⟩
  refine hc t pt T τ σ' s4 l4 E4 _ fun s5 E5 l5 e5 => ?_
  cases hte : test t with
  | false =>
    refine iteF ?_
    have hr : whileL test step n s0 = .inl t := by rw [hrun]; simp [whileL, hte]
    exact hD (.nx (G t)) (by rw [hr]) σ' s5 l4 E5 (e4.trans e5)
  | true =>
    refine iteT ⟨fun σ3 H3 => ∃ t', step t = .go t' ∧ ∃ s7 : Sta, s7.H = H3 ∧ Evo s s7 ∧ σ3.length = (G t').length ∧ EnvOk s7 (σ3 ++ τ) (G t' ++ T), ?_, ?_⟩
    · rintro σ3 H3 ⟨t', hst, s7, rfl, e7, l7, E7⟩
      obtain ⟨hp', hm'⟩ := hm t t' pt hte hst
      exact ⟨μ t', hm', t', k, s7, rfl, hp', by omega, by rw [hrun]; simp [whileL, hte, hst], rfl, e7, l7, E7⟩
    · refine hb t pt hte T τ σ' s5 l4 E5 _ fun r hr => ?_
      cases hst : step t with
      | go t' =>
        rw [hst] at hr
        obtain ⟨Γ', hr, wk⟩ := hr
        have fin : ∀ (σ3 : St) (s7 : Sta), σ3.length = Γ'.length → EnvOk s7 (σ3 ++ τ) (Γ' ++ T) → Evo s5 s7 → ∃ u, Lp.go (ρ := ρ) t' = .go u ∧ ∃ s8 : Sta, s8.H = s7.H ∧ Evo s s8 ∧ σ3.length = (G u).length ∧ EnvOk s8 (σ3 ++ τ) (G u ++ T) := fun σ3 s7 l7 E9 e9 => by
          obtain ⟨s8, E10, e10, h10⟩ := wk.2 _ _ σ3 s7 l7 E9
          exact ⟨t', rfl, s8, h10, ((e4.trans e5).trans e9).trans e10, by rw [wk.1]; exact l7, E10⟩
        rcases hr with rfl | rfl
        · exact fin
        · exact fin
      | brk t' =>
        rw [hst] at hr
        obtain ⟨Γ', rfl, wk⟩ := hr
        intro σ3 s7 l7 E9 e9
        obtain ⟨s8, E10, e10, h10⟩ := wk.2 _ _ σ3 s7 l7 E9
        have q := hD (.nx (G t')) (by
          rw [hrun]; simp only [whileL, hte, hst, if_pos]) σ3 s8 (by rw [wk.1]; exact l7) E10 (((e4.trans e5).trans e9).trans e10)
        rw [h10] at q
        exact q
      | ret q =>
        rw [hst] at hr
        obtain ⟨hpr, Γ', S, rfl⟩ := hr
        intro σ3 v s7 l7 E9 e9
        exact hD (.rt Γ' S) (by
          rw [hrun]; simp only [whileL, hte, hst, if_pos]; exact ⟨hpr, _, _, rfl⟩) σ3 v s7 l7 E9 ((e4.trans e5).trans e9)
end
/-! ## the loops that only go on -/
section
variable {X : Cx} {tg iter c : Expr} {body sts : List Stmt} {pos : Pos} {wi : TI} {g : TG} {Γ Γ1 : List Slot} {R : Ty α} {xs : List α} {f : List Slot → α → List Slot} {is : List Nat} {P : Res → Prop}
theorem runL_go (st : κ → α → κ) : ∀ (xs : List α) (s : κ), runL (ρ := Empty) (fun s x => .go (st s x)) s xs = .inl (xs.foldl st s)
  | [], _ => rfl
  | x :: r, s => runL_go st r (st s x)
theorem goL_go (st : κ → α → κ) : ∀ (xs : List α) (s : κ), goL (ρ := Empty) (fun s x => .go (st s x)) s xs = some (xs.foldl st s)
  | [], _ => rfl
  | x :: r, s => goL_go st r (st s x)
/-- a for that always goes on, then the rest -/
theorem sx_for (hp : PassesOwn (model X.prog X.w) X.A X.env X.xe) (hc : X.calm = true) (iw : IW X tg iter wi Γ R xs Γ1) (hg : PG X tg g) (ht : TGT g R is Γ.length f)
    (G : κ → List Slot) (step : κ → α → κ) (s0 : κ) (hlen : ∀ s, (G s).length = Γ.length) (h0 : Wk Γ1 (G s0))
    (hb : ∀ (i : Nat) (x : α), xs[i]? = some x → xs.length ≤ sizeLine → SX X body (f (G ((xs.take i).foldl step s0)) x) (fun r => ∃ Γ', (r = .nx Γ' ∨ r = .ct Γ') ∧ Wk Γ' (G (step ((xs.take i).foldl step s0) x))))
    (h : SX X sts (G (xs.foldl step s0)) P) (hs : ∀ x, foldedSetIterable iter X.env x = pure x := by intro _; rfl) : SX X (.For tg iter body [] pos :: sts) Γ P := by
  have q := s1_for (pos := pos) (ρ := Empty) hp hc iw hg ht G (fun s x => .go (step s x)) (fun _ _ => False) s0 hlen h0 (fun i x s hx hgo hz => by
    rw [goL_go] at hgo
    cases hgo
    exact hb i x hx hz) hs
  rw [runL_go] at q
  exact sx_seq q h
/-- a for that may return, then the rest -/
theorem sx_forR {S : ρ → Slot} (hp : PassesOwn (model X.prog X.w) X.A X.env X.xe) (hc : X.calm = true) (iw : IW X tg iter wi Γ R xs Γ1) (hg : PG X tg g) (ht : TGT g R is Γ.length f)
    (G : κ → List Slot) (step : κ → α → Lp κ ρ) (Pr : ρ → Res → Prop) (s0 : κ) (hlen : ∀ s, (G s).length = Γ.length) (h0 : Wk Γ1 (G s0))
    (hb : ∀ (i : Nat) (x : α) (s : κ), xs[i]? = some x → goL step s0 (xs.take i) = some s → xs.length ≤ sizeLine → SX X body (f (G s) x) (Turn1 G Pr (step s x)))
    (h1 : ∀ s, runL step s0 xs = .inl s → SX X sts (G s) P) (h2 : ∀ q, runL step s0 xs = .inr q → ∀ r, Pr q r → P r)
    (hs : ∀ x, foldedSetIterable iter X.env x = pure x := by intro _; rfl) : SX X (.For tg iter body [] pos :: sts) Γ P := by
  refine sx_cons (s1_for hp hc iw hg ht G step Pr s0 hlen h0 hb hs) (fun Γ' q => ?_) fun r q n => ?_
  · cases e : runL step s0 xs with
    | inl s => rw [e] at q; cases q; exact h1 s e
    | inr u => rw [e] at q; obtain ⟨_, _, _, z⟩ := q; cases z
  · cases e : runL step s0 xs with
    | inl s => rw [e] at q; subst q; exact absurd trivial n
    | inr u => rw [e] at q; exact h2 u e r q.1
theorem sx_while (hp : PassesOwn (model X.prog X.w) X.A X.env X.xe) (G : κ → List Slot) (test : κ → Bool) (step : κ → κ) (Pv : κ → Prop) (μ : κ → Nat) (n : Nat) (s0 : κ)
    (hlen : ∀ s, (G s).length = Γ.length) (h0 : Wk Γ (G s0)) (hP : Pv s0) (hn : μ s0 < n)
    (hc : ∀ s, Pv s → ET X c (G s) (test s) (G s)) (hm : ∀ s, Pv s → test s = true → Pv (step s) ∧ μ (step s) < μ s)
    (hb : ∀ s, Pv s → test s = true → SX X body (G s) (fun r => ∃ Γ', (r = .nx Γ' ∨ r = .ct Γ') ∧ Wk Γ' (G (step s))))
    (h : ∀ s, whileL (ρ := Empty) test (fun s => .go (step s)) n s0 = .inl s → SX X sts (G s) P) : SX X (.While c body [] pos :: sts) Γ P := by
  refine sx_cons (s1_while (pos := pos) (ρ := Empty) hp G test (fun s => .go (step s)) (fun _ _ => False) Pv μ n s0 hlen h0 hP hn hc (fun s s' p t e => by cases e; exact hm s p t) hb) (fun Γ' q => ?_) fun r q nn => ?_
  · cases e : whileL (ρ := Empty) test (fun s => .go (step s)) n s0 with
    | inl s => rw [e] at q; cases q; exact h s e
    | inr u => exact u.elim
  · cases e : whileL (ρ := Empty) test (fun s => .go (step s)) n s0 with
    | inl s => rw [e] at q; subst q; exact absurd trivial nn
    | inr u => exact u.elim
end
def unSum {κ : Type} : Sum κ Empty → κ
  | .inl s => s
/-! ## methods of owned lists -/
section
variable {X : Cx} {e : Expr} {x : Str} {px apos cpos pos : Pos} {Γ Γ1 : List Slot} {R : Ty α} {xs ys : List α} {y : α}
/-- x.append(e), x an owned list in the slot i -/
theorem s1_app {i : Nat} (hi : Γ[i]? = some (ol R xs)) (he : EX X e Γ (pu R y) Γ1) (hi1 : Γ1[i]? = some (ol R ys)) (hz : ys.length < sizeLine) (hN : X.N[i]? = some x := by rfl) (hv : Vis X.env.scope x := by first | exact Or.inl rfl | exact Or.inr (Or.inl rfl) | exact Or.inr (Or.inr rfl))
    (hd : (x == ("__debug__" : Str)) = false := by decide) (hcd : (x == ("__classdict__" : Str)) = false := by decide)
    (hbase : attributeBase (.Name x px) "append" X.env (eval (.Name x px) X.env) = eval (.Name x px) X.env := by rfl)
    (hfew : ((backTo cpos (starEach (e :: []) X.env)).all (fun x => !x.1) && (backToKw cpos (keywordEach [] X.env)).all (fun x => x.1.isSome)
      && decide ((e :: []).length + ([] : List Keyword).length + (if ([] : List Keyword).isEmpty then 0 else 1) < 30)) = true := by rfl)
    (hline : (apos.endLine == cpos.line) = true := by rfl) (hs : starEach (e :: []) X.env = (false, eval e X.env) :: starEach [] X.env := by rfl) (hplain : (backTo cpos (starEach [] X.env)).any (·.1) = false := by rfl)
    (hsw : swapsWith (.Call (.Attribute (.Name x px) "append" apos) [e] [] cpos) none pos.line X.env = pure false := by rfl) :
    S1 X (.Expr (.Call (.Attribute (.Name x px) "append" apos) [e] [] cpos) pos) Γ (fun r => r = .nx (Γ1.set i (ol R (ys ++ [y])))) := by
  intro T _ τ σ s hl E D hD
  refine rs_of (ps_expr (pe_bm PySem.F.plainAttrs_list PySem.F.slot_list_append PySem.F.type_list_append mt_append (pe_var hN hv hd hcd) (pa_cons peR pa_nil hs) hbase hfew hline hs hplain) hsw) ?_
  have hlt := (List.getElem?_eq_some_iff.mp hi).1
  obtain ⟨p, vs, e0, f0, r0⟩ := E.sl i _ (by rw [List.getElem?_append_left hlt]; exact hi)
  rw [List.getElem?_append_left (by omega)] at e0
  have hσ : σ[i]? = some (some (.ref p)) := by
    rw [List.getElem?_eq_getElem (by omega)] at e0 ⊢
    exact congrArg some e0
  have hp : s.H p = some (.lst vs) := E.subF i p _ (by rw [f0]; exact one_self)
  refine ⟨.ref p, hσ, .inl ⟨rfl, vs, SqL.of hp⟩, ?_⟩
  refine he T τ σ s hl E _ fun v s1 E1 l1 e1 => ?_
  have hlt1 := (List.getElem?_eq_some_iff.mp hi1).1
  have hy := pu_top E1
  obtain ⟨E2, e2⟩ := E1.pop
  obtain ⟨p', us, e3, f3, r3⟩ := E2.sl i _ (by rw [List.getElem?_append_left hlt1]; exact hi1)
  rw [List.getElem?_append_left (by omega), hσ] at e3
  cases e3
  have hp3 : s1.H p = some (.lst us) := E2.subF i p _ (by rw [f3]; exact one_self)
  have hσ2 : (σ ++ τ)[i]?.join = some (.ref p) := by rw [List.getElem?_append_left (by omega), hσ]; rfl
  obtain ⟨E4, e4⟩ := E2.write (S' := ol R (ys ++ [y])) (i := i) (ob := .lst us) (ob' := .lst (us ++ [v])) (by simp; omega) f3 (by
    rw [hσ2]
    exact ⟨p, _, rfl, rfl, paired_app r3 (.cons hy .nil)⟩)
  rw [set_app hlt1] at E4
  refine ⟨p, us, v, rfl, rfl, hp3, by rw [paired_len r3]; exact hz, ?_⟩
  have q := hD _ rfl σ _ (by simp; omega) E4 ((e1.trans e2).trans e4)
  exact q
end
/-- the environment in another order -/
theorem EnvOk.re {s : Sta} {σ σ' : St} {Γ Γ' : List Slot} (E : EnvOk s σ Γ) (π : Nat → Nat) (hl : σ'.length = Γ'.length) (hinj : ∀ i j, π i = π j → i = j)
    (h : ∀ i S, Γ'[i]? = some S → Γ[π i]? = some S ∧ σ'[i]?.join = σ[π i]?.join) (ho : ∀ i, Γ'.length ≤ i → Γ.length ≤ π i) :
    ∃ s' : Sta, s'.H = s.H ∧ EnvOk s' σ' Γ' ∧ Evo s s' :=
  ⟨⟨s.B, s.H, fun i => s.F (π i)⟩, rfl, ⟨E.sub, fun i => E.subF _, fun i a q => E.dis _ a q, fun i j a h1 h2 => hinj _ _ (E.disF _ _ a h1 h2), hl, fun i S q => by
    obtain ⟨h1, h2⟩ := h i S q
    rw [h2]
    exact E.sl _ S h1, fun i q => E.out _ (ho i q)⟩, ⟨fun _ _ h => h, fun _ _ h _ => h, fun _ h => h, fun _ h => .inl h, fun a i q => .inr ⟨_, q⟩⟩⟩
def rotN (n m i : Nat) : Nat := if i < n then i else if i = n then n + m else if i ≤ n + m then i - 1 else i
theorem rotN_inj {n m i j : Nat} (h : rotN n m i = rotN n m j) : i = j := by
  unfold rotN at h
  repeat' split at h
  all_goals omega
theorem rotN_out {n m i : Nat} (h : n + m + 1 ≤ i) : n + m + 1 ≤ rotN n m i := by
  unfold rotN
  repeat' split
  all_goals omega
/-- the top goes ahead of the m below it -/
theorem EnvOk.rot {s : Sta} {σ us : St} {Γ Ss : List Slot} {o : Option V} {S : Slot} (E : EnvOk s (σ ++ (us ++ [o])) (Γ ++ (Ss ++ [S]))) (hl : σ.length = Γ.length) :
    ∃ s' : Sta, s'.H = s.H ∧ EnvOk s' (σ ++ ([o] ++ us)) (Γ ++ ([S] ++ Ss)) ∧ Evo s s' := by
  have lv : us.length = Ss.length := by have := E.len; simp at this; omega
  refine E.re (rotN Γ.length Ss.length) (by simp; omega) (fun i j h => rotN_inj h) (fun i S2 h => ?_) (fun i h => by simp at h ⊢; have := rotN_out (n := Γ.length) (m := Ss.length) (i := i) (by omega); omega)
  unfold rotN
  by_cases q : i < Γ.length
  · rw [if_pos q]
    rw [List.getElem?_append_left q] at h ⊢
    exact ⟨h, by rw [List.getElem?_append_left (by omega), List.getElem?_append_left (by omega)]⟩
  · rw [if_neg q]
    by_cases q2 : i = Γ.length
    · subst q2
      rw [if_pos rfl]
      have : (Γ ++ ([S] ++ Ss))[Γ.length]? = some S := by simp
      rw [this] at h; cases h
      refine ⟨by rw [← List.append_assoc, ← List.length_append]; simp, ?_⟩
      have h1 : (σ ++ ([o] ++ us))[Γ.length]? = some o := by rw [← hl]; simp
      have h2 : (σ ++ (us ++ [o]))[Γ.length + Ss.length]? = some o := by rw [← List.append_assoc, ← hl, ← lv, ← List.length_append]; simp
      rw [h1, h2]
    · rw [if_neg q2]
      obtain ⟨k, rfl⟩ : ∃ k, i = Γ.length + 1 + k := ⟨i - Γ.length - 1, by omega⟩
      have hk : Ss[k]? = some S2 := by
        rw [List.getElem?_append_right (by omega), show Γ.length + 1 + k - Γ.length = k + 1 by omega] at h
        simpa using h
      have hk2 := (List.getElem?_eq_some_iff.mp hk).1
      rw [if_pos (by omega), show Γ.length + 1 + k - 1 = Γ.length + k by omega]
      refine ⟨by rw [List.getElem?_append_right (by omega), show Γ.length + k - Γ.length = k by omega, List.getElem?_append_left hk2]; exact hk, ?_⟩
      have e1 : (σ ++ ([o] ++ us))[Γ.length + 1 + k]? = us[k]? := by
        rw [List.getElem?_append_right (by omega), show Γ.length + 1 + k - σ.length = k + 1 by omega]; rfl
      have e2 : (σ ++ (us ++ [o]))[Γ.length + k]? = us[k]? := by
        rw [List.getElem?_append_right (by omega), show Γ.length + k - σ.length = k by omega, List.getElem?_append_left (by omega)]
      rw [e1, e2]
/-! ## a def's promise -/
/-- from pure or owned arguments G x to the result S x; owned arguments are used up -/
def spP {A : Type} (pre : A → Prop) (G : A → List Slot) (S : A → Slot) : Sp := fun vs H Q _ => ∃ (x : A) (s : Sta), s.H = H ∧ pre x ∧ EnvOk s (vs.map some ++ [none]) (G x ++ [tabS]) ∧ ∀ v s', EnvOk s' ([some v] ++ [none]) ([S x] ++ [tabS]) → Evo s s' → Q v s'.H
section
variable {A : Type} {pre : A → Prop} {G : A → List Slot} {S : A → Slot}
/-- only the top is kept -/
theorem EnvOk.only {s : Sta} {σ : St} {Γ : List Slot} {o : Option V} {S : Slot} (E : EnvOk s (σ ++ [o]) (Γ ++ [S])) : ∃ s' : Sta, EnvOk s' [o] [S] ∧ Evo s s' ∧ s'.H = s.H := by
  have hl : σ.length = Γ.length := by have := E.len; simp at this; exact this
  have E' : EnvOk s ([] ++ (σ ++ [o])) ([] ++ (Γ ++ [S])) := E
  obtain ⟨s', E2, e2, h2, _⟩ := E'.mid rfl hl
  exact ⟨s', E2, e2, h2⟩
/-- the values on top are handed on; what comes back takes their place -/
theorem hand {s : Sta} {σ us : St} {Γ Ss : List Slot} (hl : σ.length = Γ.length) (E : EnvOk s (σ ++ us) (Γ ++ Ss)) :
    ∃ sc : Sta, sc.H = s.H ∧ EnvOk sc us Ss ∧ ∀ (rs : St) (Rs : List Slot) (s' : Sta), EnvOk s' rs Rs → Evo sc s' → ∃ s'' : Sta, s''.H = s'.H ∧ EnvOk s'' (σ ++ rs) (Γ ++ Rs) ∧ Evo s s'' := by
  have lv : us.length = Ss.length := by have := E.len; simp at this; omega
  refine ⟨⟨s.B, s.H, fun j => s.F (Γ.length + j)⟩, rfl, ⟨E.sub, fun j => E.subF _, fun j a h => E.dis _ a h, fun j k a h1 h2 => by have := E.disF _ _ a h1 h2; omega, lv, fun j S2 hj => ?_, fun j hj => E.out _ (by simp; omega)⟩, fun rs Rs s' E' e' => ?_⟩
  · have := E.sl (Γ.length + j) S2 (by rw [List.getElem?_append_right (by omega)]; simpa using hj)
    rw [List.getElem?_append_right (by omega)] at this
    rw [show Γ.length + j - σ.length = j by omega] at this
    exact this
  · have fresh : ∀ a, s'.B a ≠ none → s.B a ≠ none ∨ s.H a = none ∨ ∃ j, s.F (Γ.length + j) a ≠ none := e'.nb
    have freshF : ∀ a i, s'.F i a ≠ none → s.H a = none ∨ ∃ j, s.F (Γ.length + j) a ≠ none := e'.nf
    have keep : ∀ i a u, i < Γ.length → s.F i a = some u → s'.H a = some u := fun i a u hi h => e'.fr a u (E.subF i a u h) fun j => by
      cases q : s.F (Γ.length + j) a with
      | none => rfl
      | some w => have := E.disF i (Γ.length + j) a (by rw [h]; simp) (by rw [q]; simp); omega
    have F' : ∀ i a, (if i < Γ.length then s.F i else s'.F (i - Γ.length)) a ≠ none → (i < Γ.length ∧ s.F i a ≠ none) ∨ (Γ.length ≤ i ∧ s'.F (i - Γ.length) a ≠ none) := fun i a h => by
      by_cases q : i < Γ.length
      · rw [if_pos q] at h; exact .inl ⟨q, h⟩
      · rw [if_neg q] at h; exact .inr ⟨by omega, h⟩
    have notin : ∀ i a, i < Γ.length → s.F i a ≠ none → ¬ (s.H a = none ∨ ∃ j, s.F (Γ.length + j) a ≠ none) := fun i a hi h z => by
      rcases z with z | ⟨j, z⟩
      · obtain ⟨u, hu⟩ := ex_of_ne h
        rw [E.subF i a u hu] at z; cases z
      · have := E.disF i (Γ.length + j) a h z; omega
    refine ⟨⟨s'.B, s'.H, fun i => if i < Γ.length then s.F i else s'.F (i - Γ.length)⟩, rfl, ⟨E'.sub, fun i a u h => ?_, fun i a h => ?_, fun i k a h1 h2 => ?_, by simp [hl, E'.len], fun i S2 h2 => ?_, fun i hi => ?_⟩, ⟨e'.b, fun a o h n => e'.fr a o h fun j => n _, e'.dom, fun a h => ?_, fun a i h => ?_⟩⟩
    · have h' : (if i < Γ.length then s.F i else s'.F (i - Γ.length)) a = some u := h
      rcases F' i a (by rw [h']; simp) with ⟨q, _⟩ | ⟨q, _⟩
      · rw [if_pos q] at h'; exact keep i a u q h'
      · rw [if_neg (by omega)] at h'; exact E'.subF _ a u h'
    · rcases F' i a h with ⟨q, z⟩ | ⟨q, z⟩
      · show s'.B a = none
        cases e : s'.B a with
        | none => rfl
        | some w =>
          exfalso
          rcases fresh a (by rw [e]; simp) with y | y
          · exact y (E.dis i a z)
          · exact notin i a q z y
      · exact E'.dis _ a z
    · rcases F' i a h1 with ⟨q, z⟩ | ⟨q, z⟩
      · rcases F' k a h2 with ⟨q', z'⟩ | ⟨q', z'⟩
        · exact E.disF i k a z z'
        · exact absurd (freshF a _ z') (notin i a q z)
      · rcases F' k a h2 with ⟨q', z'⟩ | ⟨q', z'⟩
        · exact absurd (freshF a _ z) (notin k a q' z')
        · have := E'.disF _ _ a z z'; omega
    · show S2.p s'.B (if i < Γ.length then s.F i else s'.F (i - Γ.length)) _
      by_cases q : i < Γ.length
      · rw [if_pos q]
        rw [List.getElem?_append_left q] at h2
        rw [List.getElem?_append_left (by omega)]
        have := E.sl i S2 (by rw [List.getElem?_append_left q]; exact h2)
        rw [List.getElem?_append_left (by omega)] at this
        exact S2.mono e'.b this
      · rw [if_neg q]
        rw [List.getElem?_append_right (by omega)] at h2
        rw [List.getElem?_append_right (by omega), hl]
        exact E'.sl _ S2 h2
    · show (if i < Γ.length then s.F i else s'.F (i - Γ.length)) = em
      simp at hi
      rw [if_neg (by omega)]
      exact E'.out _ (by omega)
    · rcases fresh a h with z | z | ⟨j, z⟩
      · exact .inl z
      · exact .inr (.inl z)
      · exact .inr (.inr ⟨_, z⟩)
    · rcases F' i a h with ⟨q, z⟩ | ⟨q, z⟩
      · exact .inr ⟨i, z⟩
      · rcases freshF a _ z with y | ⟨j, y⟩
        · exact .inl y
        · exact .inr ⟨_, y⟩
/-- .. and the tables with them -/
theorem handT {s : Sta} {σ us : St} {Γ Ss : List Slot} [ht : HasTab Γ] (hl : σ.length = Γ.length) (E : EnvOk s (σ ++ us) (Γ ++ Ss)) :
    ∃ sc : Sta, sc.H = s.H ∧ EnvOk sc (us ++ [none]) (Ss ++ [tabS]) ∧ ∀ (rs : St) (Rs : List Slot) (s' : Sta), EnvOk s' (rs ++ [none]) (Rs ++ [tabS]) → Evo sc s' → ∃ s'' : Sta, s''.H = s'.H ∧ EnvOk s'' (σ ++ rs) (Γ ++ Rs) ∧ Evo s s'' := by
  obtain ⟨j, hj⟩ := List.mem_iff_getElem?.mp ht.mem
  have hj2 := (List.getElem?_eq_some_iff.mp hj).1
  have hjT : (Γ ++ Ss)[j]? = some tabS := by rw [List.getElem?_append_left hj2]; exact hj
  have hn : σ[j]?.join = none := by
    have q := (E.sl j _ hjT).1
    rw [List.getElem?_append_left (by omega)] at q
    exact q
  have hn' : (σ ++ us)[j]?.join = none := by rw [List.getElem?_append_left (by omega)]; exact hn
  have hσ : σ[j]'(by omega) = none := by
    rw [List.getElem?_eq_getElem (by omega)] at hn
    exact hn
  obtain ⟨E1, e1⟩ := E.move hjT
  rw [hn', set_app hj2, List.append_assoc, List.append_assoc] at E1
  obtain ⟨sc, hH, Ec, back⟩ := hand (by simp [hl]) E1
  refine ⟨sc, hH, Ec, fun rs Rs s' E' e' => ?_⟩
  obtain ⟨s'', h'', E'', e''⟩ := back _ _ s' E' e'
  rw [← List.append_assoc, ← List.append_assoc] at E''
  obtain ⟨E3, e3⟩ := E''.store (i := j) (by simp; omega)
  have k1 : (σ ++ rs).set j none = σ ++ rs := by
    rw [List.set_append_left _ _ (by omega)]
    have : σ.set j none = σ := by rw [← hσ, List.set_getElem_self]
    rw [this]
  have k2 : (Γ.set j un ++ Rs).set j tabS = Γ ++ Rs := by
    rw [List.set_append_left _ _ (by simpa using hj2), List.set_set]
    have hg : Γ[j] = tabS := by
      rw [List.getElem?_eq_getElem hj2] at hj
      exact Option.some.inj hj
    have : Γ.set j tabS = Γ := by rw [← hg, List.set_getElem_self]
    rw [this]
  rw [k1, k2] at E3
  refine ⟨_, ?_, E3, (e1.trans e'').trans e3⟩
  exact h''
/-- forgotten slots behind -/
theorem EnvOk.pads {s : Sta} {σ : St} {Γ : List Slot} (E : EnvOk s σ Γ) : ∀ m : Nat, EnvOk s (σ ++ List.replicate m none) (Γ ++ List.replicate m un)
  | 0 => by simpa using E
  | m + 1 => by
    have q := (E.pads m).push0 (o := none) un rfl
    rw [List.append_assoc, List.append_assoc] at q
    rw [List.replicate_succ', List.replicate_succ']
    exact q
/-- .. the last one stays last -/
theorem EnvOk.pads1 {s : Sta} {σ : St} {Γ : List Slot} {o : Option V} {S : Slot} (E : EnvOk s (σ ++ [o]) (Γ ++ [S])) (m : Nat) :
    ∃ s' : Sta, s'.H = s.H ∧ EnvOk s' ((σ ++ List.replicate m none) ++ [o]) ((Γ ++ List.replicate m un) ++ [S]) ∧ Evo s s' := by
  have hl : σ.length = Γ.length := by have := E.len; simp at this; exact this
  refine (E.pads m).re (fun i => if i < Γ.length then i else if i < Γ.length + m then i + 1 else if i = Γ.length + m then Γ.length else i) (by simp [hl]) (fun i j h => ?_) (fun i S2 h => ?_) fun i h => ?_
  · repeat' split at h
    all_goals omega
  · by_cases q : i < Γ.length
    · rw [if_pos q]
      rw [List.append_assoc, List.getElem?_append_left q] at h
      exact ⟨by rw [List.append_assoc, List.getElem?_append_left q]; exact h, by rw [List.append_assoc, List.append_assoc, List.getElem?_append_left (by omega), List.getElem?_append_left (by omega)]⟩
    · rw [if_neg q]
      by_cases q2 : i < Γ.length + m
      · rw [if_pos q2]
        rw [List.getElem?_append_left (by simp; omega), List.getElem?_append_right (by omega)] at h
        have h1 : (List.replicate m un)[i - Γ.length]? = some un := by rw [List.getElem?_replicate, if_pos (by omega)]
        rw [h1] at h; cases h
        refine ⟨?_, ?_⟩
        · rw [List.getElem?_append_right (by simp; omega)]
          rw [List.getElem?_replicate, if_pos (by simp; omega)]
        · rw [List.getElem?_append_left (by simp; omega), List.getElem?_append_right (by omega), List.getElem?_append_right (by simp; omega), List.getElem?_replicate, List.getElem?_replicate, if_pos (by omega), if_pos (by simp; omega)]
      · rw [if_neg q2]
        have hi := (List.getElem?_eq_some_iff.mp h).1
        simp at hi
        have q3 : i = Γ.length + m := by omega
        subst q3
        rw [if_pos rfl]
        have h1 : ((Γ ++ List.replicate m un) ++ [S])[Γ.length + m]? = some S := by rw [List.getElem?_append_right (by simp)]; simp
        rw [h1] at h; cases h
        refine ⟨by rw [List.getElem?_append_left (by simp)]; simp, ?_⟩
        rw [List.getElem?_append_right (by simp [hl]), List.getElem?_append_left (by simp; omega), List.getElem?_append_right (by omega)]
        simp [hl]
  · simp at h ⊢
    rw [if_neg (by omega), if_neg (by omega), if_neg (by omega)]
    omega
/-- a def's call by values -/
theorem n_call (x : A) (hx : pre x) {Ss : List Slot} (hG : Ss = G x) : OpN (fun vs H Q => spP pre G S (vs ++ []) H Q E0) Ss (S x) := by
  intro σ Γ _ s vs lv E Q hQ
  subst hG
  rw [List.append_nil]
  have hl : σ.length = Γ.length := by have := E.len; simp at this; omega
  obtain ⟨sc, hH, Ec, back⟩ := handT hl E
  refine ⟨x, sc, hH, hx, Ec, fun v s' E' e' => ?_⟩
  obtain ⟨s'', h'', E'', e''⟩ := back [some v] [S x] s' E' e'
  have q := hQ v s'' E'' e''
  rw [h''] at q
  exact q
/-- f(e, ..) of the text -/
theorem x_call {X : Cx} {CX : CXT} {k : Nat} {f : Addr} {fd : FuncData} {ps : List Str} {fx : Str} {p pos : Pos} {e : Expr} {es : List Expr} {Γ Γ1 Ss : List Slot} (F : FnOk X.prog X.w X.K X.mg X.base CX0 k f fd ps (spP pre G S)) (hr : Room k X.A) (hm : X.mg fx = some (.ref f)) (hk : PySem.W.keepIn X.K (.ref f) = true)
    (hb : Binds X.K fd ps []) (x : A) (hx : pre x) (ha : EA X (e :: es) Γ Ss Γ1) (hG : Ss = G x) (hg : Gl X fx := by rfl) (hdb : (fx == ("__debug__" : Str)) = false := by decide)
    (he : starEach (e :: es) X.env = (false, eval e X.env) :: starEach es X.env := by rfl) (hpl : (backTo pos (starEach es X.env)).any (·.1) = false := by rfl) : EX X (.Call (.Name fx p) (e :: es) [] pos) Γ (S x) Γ1 :=
  ex_n (pe_call F hr hg hm hk hb .nil pass0 paR hdb he hpl) ha (n_call x hx hG)
/-- a def keeps its promise -/
theorem fn_ok {P : Program} {w : World} {K : PySem.W.Frag} {mg : Str → Option Value} {base : Heap} {fx qual : Str} {st : Stmt} {f : Addr} {fd : FuncData} {N ps : List Str} {k : Nat} (F : Fun K fx qual st f fd) (sc : FnScope N ps (defScope st)) (hG : ∀ x, (G x).length = ps.length)
    (hb : ∀ (X : Cx) (x : A), (∃ cdv A outer s H E, X = (cxOf CX0 P w K mg base N qual (defScope st) f cdv A outer s H E).nox) → Room k X.A → pre x → SX X (defBody st) (G x ++ List.replicate (N.length - ps.length) un) (fun r => (∃ Γ', r = .rt Γ' (S x)) ∨ (∃ Γ', r = .nx Γ' ∧ ∀ B, (S x).p B em (some .non)))) :
    FnOk P w K mg base CX0 (k + 1) f fd ps (spP pre G S) := by
  refine F.ok sc (fun vs H Q E h => ?_) (fun cdv A outer s H vs Q E hr h => ?_)
  · obtain ⟨x, s, _, _, E1, _⟩ := h
    have := E1.len
    simp at this
    rw [this, hG]
  · obtain ⟨x, s1, rfl, hx, E1, q⟩ := h
    have hlv : vs.length = ps.length := by have := E1.len; simp at this; rw [this, hG]
    obtain ⟨s2, h2, E2, e2⟩ := E1.pads1 (N.length - ps.length)
    have hst : L2.start N vs = vs.map some ++ List.replicate (N.length - ps.length) none := by
      unfold L2.start
      rw [hlv]
    rw [← hst] at E2
    rw [← h2]
    have hb' := hb _ x ⟨cdv, A, outer, s, s2.H, E, rfl⟩ hr hx [tabS] [none] (L2.start N vs) s2 (by rw [hst]; simp [hlv, hG]) E2 { nx := fun _ H' => Q .non H', rt := Q } fun r hr => ?_
    · exact ⟨_, pssR, hb'⟩
    · have fin : ∀ {σ' : St} {Γ' : List Slot} {v : V} {s' : Sta}, σ'.length = Γ'.length → EnvOk s' ((σ' ++ [none]) ++ [some v]) ((Γ' ++ [tabS]) ++ [S x]) → Evo s2 s' → Q v s'.H := fun {σ' Γ' v s'} l' E' e' => by
        have E'' : EnvOk s' ([] ++ (σ' ++ ([none] ++ [some v]))) ([] ++ (Γ' ++ ([tabS] ++ [S x]))) := by simpa using E'
        obtain ⟨s3, E3, e3, h3, _⟩ := E''.mid rfl l'
        obtain ⟨s4, h4, E4, e4⟩ := E3.rot rfl
        have q1 := q v s4 E4 (((e2.trans e').trans e3).trans e4)
        rw [h4, h3] at q1
        exact q1
      rcases hr with ⟨Γ', rfl⟩ | ⟨Γ', rfl, hn⟩
      · intro σ' v s' l' E' e'
        exact fin l' E' e'
      · intro σ' s' l' E' e'
        exact fin l' (E'.push0 (o := some .non) (S x) (hn _)) e'
end
end Fw

/-! set(xs) of a list of ints: the road of HandS.SetFor's tuple, turned to lists -/
namespace Fw
open PySem PySem.Spec PyProof.Rows L2
abbrev sob (w : World) : Obj := { cls := .type "set", dict := none, data := .set #[] 0 (.fresh 0 0 (!w.params.followText "set-order")) }
section
variable {P : Program} {w : World} {A : Around} {E : Value → Shared → Prop} {s : Shared}
theorem set_of_listI {l : Addr} {items : Array Value} (ns : List Int) {Q : Value → Shared → Prop} (hh : A.handled = none) (hl : s.heap.IsList l items) (hit : IntsAre items.toList ns) (hb : ns.length + 1 < scanBound)
    (h : ∀ (h' : Heap) (tk c : Nat), SetR w h' s.heap.objs.size (fun j => decide (j ∈ ns)) c → c ≤ ns.length → (∀ b o, s.heap.get? b = some o → h'.get? b = some o) → Q (.ref s.heap.objs.size) { s with heap := h', toks := tk }) :
    wpAny (model P w) A (call (.type "set") [.ref l]) Q E s := by
  have hisz : items.size = ns.length := by
    have q := IntsAre.length hit
    rw [Array.length_toList] at q
    exact q
  obtain ⟨c, tl, hmro⟩ := F.called_set.mro
  have hmade := F.called_set.made
  have hsub := F.called_set.sub
  refine wpAny_call (codeAny_of_tree ?_)
  show wpAny _ _ (callAny (.type "set") _) _ _ _
  refine wpAny_pure ⟨Code.quiet_builtin _ (by decide +kernel), codeAny_builtin F.entry_type_call ?_⟩
  rw [Around.under_plain (weight_type_call_type "set" [.ref l] []) rfl]
  have h1 := F.called_set.notType
  have h2 := F.called_set.canCreate
  have hct := F.typeCall_set_1 (.ref l)
  repeat (any_goals (first | assumption | wp_step))
  refine codeAny_mono (code_set_led1 (.ref l) (E := E) (Q₁ := fun obj s₁ => obj = .ref s.heap.objs.size ∧ s₁ = { s with heap := s.heap.push (sob w) }) ⟨rfl, rfl⟩) fun r s₁ hr => ?_
  cases r with
  | error e => exact hr
  | ok fl =>
    cases fl with
    | ret obj =>
      obtain ⟨rfl, rfl⟩ := hr
      have hS : (s.heap.push (sob w)).get? s.heap.objs.size = some (sob w) := Heap.get?_push_size _ rfl
      have hT : Shared.TypeIs { s with heap := s.heap.push (sob w) } (.ref s.heap.objs.size) "set" := ⟨_, hS, rfl⟩
      have hli := F.called_set.init.lookup
      have hbi := F.called_set.init.bind (.ref s.heap.objs.size)
      repeat (any_goals (first | assumption | wp_step))
      refine codeAny_mono (codeAny_call_builtin (R := wants (fun r s₂ => r = .none ∧ ∃ h' tk c, s₂ = { s with heap := h', toks := tk } ∧ SetR w h' s.heap.objs.size (fun j => decide (j ∈ ns)) c ∧ c ≤ ns.length ∧
          (∀ b o, s.heap.get? b = some o → h'.get? b = some o)) E) F.called_set.init.plain F.entry_set_init (check_set_init_1 hT ?_)) fun r₂ s₂ hr₂ => ?_
      · obtain ⟨ol, hol, hcl, nl, hdl⟩ := hl
        obtain ⟨ocls, odict, odata, oslots⟩ := ol
        simp only at hcl hdl
        subst hcl; subst hdl
        have hol' : (s.heap.push (sob w)).get? l = some { cls := .type "list", dict := odict, data := .seq items nl, slots := oslots } := Heap.get?_push_of_some _ hol
        have hsls := PySem.F.sub_list_set
        have hslf := PySem.F.sub_list_frozenset
        have hne : (Value.type "list" == Value.type "dict") = false := by decide
        have hl1 : (s.heap.push (sob w)).IsList l items := ⟨_, hol', rfl, nl, rfl⟩
        unfold Builtin.«set.__init__» noKeywords Builtin.Frozenset.updateFrom
        generalize hPI : pyIter = PI
        wp_walk
        subst hPI
        refine wpAny_pyIter_list hl1 ?_
        refine wpAny_bind (wpAny_runValue ?_)
        have hlS : l < s.heap.objs.size := Heap.lt_size hol
        have hh3 : A.in1.in1.in1.handled = none := by simp [hh]
        have hz1 : (s.heap.push (sob w)).objs.size = s.heap.objs.size + 1 := Heap.size_push ..
        have hneI : l ≠ (s.heap.push (sob w)).objs.size := by
          rw [Heap.size_push]; exact Nat.ne_of_lt (Nat.lt_succ_of_lt hlS)
        have hSf : s.heap.objs.size ∉ [(s.heap.push (sob w)).objs.size, l] := by
          rw [Heap.size_push]; simp only [List.mem_cons, List.mem_singleton, List.not_mem_nil, or_false, not_or]
          exact ⟨Nat.ne_of_lt (Nat.lt_succ_self _), Nat.ne_of_gt hlS⟩
        have hval : ∀ (i : Nat) (v : Value), items[i]? = some v → ∃ k t, ns[i]? = some k ∧ v = .int k t := fun i v hv => by
          have hi : i < ns.length := by rw [← hisz]; exact (Array.getElem?_eq_some_iff.mp hv).1
          obtain ⟨t, e⟩ := PyProof.Rows.IntsAre.int_at hit i v (by rw [Array.getElem?_toList]; exact hv)
          refine ⟨ns[i], t, List.getElem?_eq_getElem hi, ?_⟩
          rw [e, List.getD_eq_getElem?_getD, List.getElem?_eq_getElem hi] <;> rfl
        refine set_update_ints ((Walks.list hh3 _ l hneI items).toS) s.heap.objs.size
          hSf ns hisz hb hval (items.size - 0) 0 _ (by omega) (Nat.zero_le _)
          ⟨⟨_, Heap.get?_push_size _ rfl, rfl, rfl⟩, (hl1.push _)⟩ ?hS0 ?hR
        case hS0 =>
          have hget : ((s.heap.push (sob w)).push { cls := .type "list_iterator", data := .fields #[.ref l, .int 0 0] }).get? s.heap.objs.size
              = some (sob w) := Heap.get?_push_of_some _ hS
          exact ⟨0, Nat.le_refl 0, setR_new_at hget⟩
        case hR =>
          intro s' c' hm hc' hS'
          obtain ⟨h', g2, d', tk', os'⟩ := s'
          have eg : g2 = s.gens := hm.gens
          have ed : d' = s.drawn := hm.drawn
          have eo : os' = s.os := hm.os
          subst eg; subst ed; subst eo
          show wpAny _ _ _ _ _ _
          refine wpAny_pure ?_
          show wpAny _ _ (ret Value.none) _ _ _
          rw [hisz] at hc'
          refine wpAny_pure ⟨rfl, h', tk', c', rfl, hS', hc', fun b o e => ?_⟩
          have hb0 : b < s.heap.objs.size := Heap.lt_size e
          have hb1 : b ≠ s.heap.objs.size := Nat.ne_of_lt hb0
          have hb2 : b ≠ (s.heap.push (sob w)).objs.size := by
            rw [Heap.size_push]; exact Nat.ne_of_lt (Nat.lt_succ_of_lt hb0)
          exact hm.heap b o (by simp only [List.mem_cons, List.mem_singleton, List.not_mem_nil, or_false, not_or]; exact ⟨hb1, hb2⟩) (Heap.get?_push_of_some _ (Heap.get?_push_of_some _ e))
      · cases r₂ with
        | error e => exact hr₂
        | ok fl₂ =>
          cases fl₂ with
          | ret r =>
            obtain ⟨rfl, h', tk, c', rfl, hS', hc', hk'⟩ := hr₂
            repeat (any_goals (first | assumption | wp_step))
            exact h _ _ _ hS' hc' hk'
          | _ => exact hr₂.elim
    | _ => exact hr.elim
end
/-- set(xs): the members of xs -/
def rSetL (K : PySem.W.Frag) (w : World) : List V → Hp → VK → Prop := fun vs H Q => ∃ (a : Addr) (ns : List Int), vs = [V.ref a] ∧ SqL K H a (ns.map V.int) ∧ ns.length + 1 < scanBound ∧
  ∀ p c, c ≤ ns.length → H p = none → Q (.ref p) (upd H p (SetO w p (fun k => decide (k ∈ ns)) c))
theorem cr_setL {X : Cx} (hc : X.calm = true) : CallR X (.type "set") (rSetL X.K X.w) := by
  intro pins s σ H vs us Q I r h
  obtain ⟨a, ns, rfl, hs, hb, q⟩ := h
  obtain ⟨its, rv, hl, _⟩ := I.list hs
  rw [Vals.ref1 r]
  refine set_of_listI ns (I.ok.hd hc) hl.isList (by simpa using rv.ints) hb fun h' tk c hS hcl hk => ?_
  exact ⟨.ref _, upd H s.heap.objs.size (SetO X.w s.heap.objs.size (fun k => decide (k ∈ ns)) c), I.laid hk (Nat.le_refl _) (setO_new hS), rfl, q _ c hcl (I.hok.fresh (Nat.le_refl _))⟩
def rSetT (K : PySem.W.Frag) (w : World) : List V → Hp → VK → Prop := fun vs H Q => ∃ (a : Addr) (ns : List Int), vs = [V.ref a] ∧ SqT K H a (ns.map V.int) ∧ ns.length + 1 < scanBound ∧
  ∀ p c, c ≤ ns.length → H p = none → Q (.ref p) (upd H p (SetO w p (fun k => decide (k ∈ ns)) c))
theorem cr_setT {X : Cx} (hc : X.calm = true) : CallR X (.type "set") (rSetT X.K X.w) := by
  intro pins s σ H vs us Q I r h
  obtain ⟨a, ns, rfl, hs, hb, q⟩ := h
  obtain ⟨its, rv, hl, _⟩ := I.tuple hs
  rw [Vals.ref1 r]
  refine call_set_tupI ns (I.ok.hd hc) hl (by simpa using rv.ints) hb fun h' tk c hS hcl hk => ?_
  exact ⟨.ref _, upd H s.heap.objs.size (SetO X.w s.heap.objs.size (fun k => decide (k ∈ ns)) c), I.laid hk (Nat.le_refl _) (setO_new hS), rfl, q _ c hcl (I.hok.fresh (Nat.le_refl _))⟩
end Fw

namespace Fw
open PySem L2
variable [Tb]
variable {α β γ δ ε ρ κ : Type}
/-! ## sorted(set(xs)) -/
def insU (x : Int) : List Int → List Int
  | [] => [x]
  | y :: r => if x < y then x :: y :: r else if x = y then y :: r else y :: insU x r
/-- the members, ascending, each once -/
def sset : List Int → List Int
  | [] => []
  | x :: r => insU x (sset r)
theorem mem_insU (x y : Int) : ∀ l, y ∈ insU x l ↔ y = x ∨ y ∈ l
  | [] => by simp [insU]
  | z :: r => by
    unfold insU
    split
    · simp
    · split
      · rename_i h; subst h; simp
      · simp [mem_insU x y r]; exact ⟨fun h => by rcases h with h | h | h <;> simp [h], fun h => by rcases h with h | h | h <;> simp [h]⟩
theorem mem_sset (y : Int) : ∀ l, y ∈ sset l ↔ y ∈ l
  | [] => Iff.rfl
  | x :: r => by unfold sset; rw [mem_insU, mem_sset y r]; simp
theorem insU_asc (x : Int) : ∀ l : List Int, l.Pairwise (· < ·) → (insU x l).Pairwise (· < ·)
  | [], _ => by simp [insU]
  | z :: r, h => by
    have c := List.pairwise_cons.mp h
    unfold insU
    split
    · rename_i hx
      exact List.pairwise_cons.mpr ⟨fun w hw => by
        rcases List.mem_cons.mp hw with e | e
        · omega
        · have := c.1 w e; omega, h⟩
    · split
      · exact h
      · rename_i h1 h2
        refine List.pairwise_cons.mpr ⟨fun w hw => ?_, insU_asc x r c.2⟩
        rcases (mem_insU x w r).mp hw with e | e
        · omega
        · exact c.1 w e
theorem sset_asc : ∀ l : List Int, (sset l).Pairwise (· < ·)
  | [] => List.Pairwise.nil
  | x :: r => insU_asc x _ (sset_asc r)
theorem asc_unique : ∀ {l m : List Int}, l.Pairwise (· < ·) → m.Pairwise (· < ·) → (∀ x, x ∈ l ↔ x ∈ m) → l = m
  | [], [], _, _, _ => rfl
  | [], y :: m, _, _, h => absurd ((h y).mpr List.mem_cons_self) (by simp)
  | x :: l, [], _, _, h => absurd ((h x).mp List.mem_cons_self) (by simp)
  | x :: l, y :: m, h1, h2, h => by
    have c1 := List.pairwise_cons.mp h1
    have c2 := List.pairwise_cons.mp h2
    have e : x = y := by
      rcases List.mem_cons.mp ((h x).mp List.mem_cons_self) with e | e
      · exact e
      · rcases List.mem_cons.mp ((h y).mpr List.mem_cons_self) with e' | e'
        · exact e'.symm
        · have a := c2.1 x e; have b := c1.1 y e'; omega
    subst e
    congr 1
    refine asc_unique c1.2 c2.2 fun z => ⟨fun hz => ?_, fun hz => ?_⟩
    · rcases List.mem_cons.mp ((h z).mp (List.mem_cons_of_mem _ hz)) with e | e
      · have := c1.1 z hz; omega
      · exact e
    · rcases List.mem_cons.mp ((h z).mpr (List.mem_cons_of_mem _ hz)) with e | e
      · have := c2.1 z hz; omega
      · exact e
/-- an owned set of ints with the members of xs -/
def os (w : World) (xs : List Int) : Slot := ⟨fun _ F o => ∃ p c, o = some (.ref p) ∧ c ≤ xs.length ∧ F = one p (SetO w p (fun k => decide (k ∈ xs)) c), fun _ h => h⟩
section
variable {K : PySem.W.Frag} {w : World} {xs : List Int}
theorem n_setL {S : Ty (List Int)} (q : SeqL K S tI) (hb : xs.length + 1 < scanBound) : OpN (rSetL K w) [pu S xs] (os w xs) := by
  refine opN_1 fun σ Γ s v E Q hQ => ?_
  obtain ⟨a, vs, e, z, r⟩ := q.get (pu_top E)
  rw [paired_int r] at z
  obtain ⟨E2, e2⟩ := E.pop
  refine ⟨a, xs, by rw [e], Same.seq E.sub z, hb, fun p c hc hp => ?_⟩
  obtain ⟨E4, e4⟩ := E2.pushO (o := some (.ref p)) (ob := SetO w p (fun k => decide (k ∈ xs)) c) hp (os w xs) ⟨p, c, rfl, hc, rfl⟩
  exact hQ _ _ E4 (e2.trans e4)
theorem n_setT {S : Ty (List Int)} (q : SeqT K S tI) (hb : xs.length + 1 < scanBound) : OpN (rSetT K w) [pu S xs] (os w xs) := by
  refine opN_1 fun σ Γ s v E Q hQ => ?_
  obtain ⟨a, vs, e, z, r⟩ := q.get (pu_top E)
  rw [paired_int r] at z
  obtain ⟨E2, e2⟩ := E.pop
  refine ⟨a, xs, by rw [e], same_sqt E.sub z, hb, fun p c hc hp => ?_⟩
  obtain ⟨E4, e4⟩ := E2.pushO (o := some (.ref p)) (ob := SetO w p (fun k => decide (k ∈ xs)) c) hp (os w xs) ⟨p, c, rfl, hc, rfl⟩
  exact hQ _ _ E4 (e2.trans e4)
theorem n_sortSet (hz : xs.length < 64) : OpN (rSortedSet w) [os w xs] (ol tI (sset xs)) := by
  refine opN_1 fun σ Γ s v E Q hQ => ?_
  obtain ⟨p, c, e, hc, f⟩ := E.top
  cases e
  have hp : s.H p = some (SetO w p (fun k => decide (k ∈ xs)) c) := E.subF _ p _ (by rw [f]; exact one_self)
  obtain ⟨E2, e2⟩ := E.pop
  refine ⟨p, _, c, rfl, hp, by omega, fun ns q hs hm hl hq => ?_⟩
  have en : ns = sset xs := asc_unique hs (sset_asc xs) fun x => by rw [hm, mem_sset, decide_eq_true_eq]
  subst en
  obtain ⟨E4, e4⟩ := E2.pushO (o := some (.ref q)) (ob := .lst ((sset xs).map V.int)) hq (ol tI (sset xs)) ⟨q, _, rfl, rfl, paired_of_int _⟩
  exact hQ _ _ E4 (e2.trans e4)
end
/-! ## instances whose fields are pure -/
structure Fld where
  p : Hp → V → Prop
  mono : ∀ {B B' : Hp} {v : V}, Same B B' → p B v → p B' v
def fld (R : Ty α) (x : α) : Fld := ⟨fun B v => R.rep B v x, fun s h => R.mono s h⟩
abbrev FldsOk (B : Hp) : List (Str × V) → List (Str × Fld) → Prop := Paired fun (p : Str × V) (q : Str × Fld) => p.1 = q.1 ∧ q.2.p B p.2
theorem fldsOk_mono {B B' : Hp} (s : Same B B') {vs : List (Str × V)} {fs : List (Str × Fld)} (h : FldsOk B vs fs) : FldsOk B' vs fs := paired_mono (fun _ q z => ⟨z.1, q.2.mono s z.2⟩) h
theorem fldsOk_get {B : Hp} {f : Str} {q : Fld} : ∀ {vs : List (Str × V)} {fs : List (Str × Fld)}, FldsOk B vs fs → fs.lookup f = some q → ∃ v, vs.lookup f = some v ∧ q.p B v
  | _, _, .nil, h => by simp at h
  | (n, v) :: _, (m, g) :: _, .cons h r, e => by
    obtain ⟨h1, h2⟩ := h
    simp only at h1 h2
    subst h1
    simp only [List.lookup_cons] at e ⊢
    cases hb : (f == n) with
    | true => rw [hb] at e; cases e; exact ⟨v, rfl, h2⟩
    | false => rw [hb] at e; exact fldsOk_get r e
theorem fldsOk_none {B : Hp} {f : Str} : ∀ {vs : List (Str × V)} {fs : List (Str × Fld)}, FldsOk B vs fs → fs.lookup f = none → vs.lookup f = none
  | _, _, .nil, _ => rfl
  | (n, v) :: _, (m, g) :: _, .cons h r, e => by
    obtain ⟨h1, h2⟩ := h
    simp only at h1
    subst h1
    simp only [List.lookup_cons] at e ⊢
    cases hb : (f == n) with
    | true => rw [hb] at e; cases e
    | false => rw [hb] at e; exact fldsOk_none r e
def putFl (f : Str) (q : Fld) : List (Str × Fld) → List (Str × Fld)
  | [] => [(f, q)]
  | (g, w) :: r => if g = f then (g, q) :: r else (g, w) :: putFl f q r
theorem fldsOk_put {B : Hp} {f : Str} {q : Fld} {v : V} (hv : q.p B v) : ∀ {vs : List (Str × V)} {fs : List (Str × Fld)}, FldsOk B vs fs → FldsOk B (putF f v vs) (putFl f q fs)
  | _, _, .nil => .cons ⟨rfl, hv⟩ .nil
  | (n, u) :: _, (m, g) :: _, .cons h r => by
    obtain ⟨h1, h2⟩ := h
    simp only at h1 h2
    subst h1
    unfold putF putFl
    by_cases e : n = f
    · rw [if_pos e, if_pos e]; exact .cons ⟨rfl, hv⟩ r
    · rw [if_neg e, if_neg e]; exact .cons ⟨rfl, h2⟩ (fldsOk_put hv r)
/-- an instance of the class at C as a pure thing -/
def tObj (C : Addr) (fl : α → List (Str × Fld)) : Ty α := ⟨fun B v a => ∃ x dx vs, v = .ref x ∧ B x = some (.ins C dx vs) ∧ B dx = some (.own x) ∧ FldsOk B vs (fl a),
  fun s h => let ⟨x, dx, vs, e, h1, h2, r⟩ := h; ⟨x, dx, vs, e, s _ _ h1, s _ _ h2, fldsOk_mono s r⟩⟩
def two (x dx : Addr) (o1 o2 : HO) : Hp := fun a => if a = x then some o1 else if a = dx then some o2 else none
/-- an instance that is owned: its fields pure -/
def oi (C : Addr) (fs : List (Str × Fld)) (x : Addr) : Slot := ⟨fun B F o => o = some (.ref x) ∧ ∃ dx vs, dx ≠ x ∧ F = two x dx (.ins C dx vs) (.own x) ∧ FldsOk B vs fs,
  fun s h => let ⟨e, dx, vs, n, f, r⟩ := h; ⟨e, dx, vs, n, f, fldsOk_mono s r⟩⟩
/-- one of a family of slots by addresses -/
def exS (W : Addr → Slot) : Slot := ⟨fun B F o => ∃ x, (W x).p B F o, fun s h => let ⟨x, q⟩ := h; ⟨x, (W x).mono s q⟩⟩
/-- the family tells the address -/
def Gho (W : Addr → Slot) : Prop := ∀ x B F o, (W x).p B F o → o = some (.ref x)
theorem gho_oi {C : Addr} {fs : List (Str × Fld)} : Gho (oi C fs) := fun _ _ _ _ h => h.1
section
variable {X : Cx} {e o value : Expr} {f : Str} {pos pos' : Pos} {Γ Γ1 : List Slot} {C : Addr} {R : Ty α}
/-- e.f of a pure instance -/
theorem x_fld {fl : β → List (Str × Fld)} {a : β} {y : α} (he : EX X e Γ (pu (tObj C fl) a) Γ1) (hl : (fl a).lookup f = some (fld R y)) (c : Cls X.K C) (n : NoAttr X.K C f) (hb : attributeBase e f X.env (eval e X.env) = eval e X.env := by rfl) :
    EX X (.Attribute e f pos) Γ (pu R y) Γ1 := by
  intro T _ τ σ s hs E Q hQ
  refine re_of (pe_fld peR hb) ?_
  refine he T τ σ s hs E _ fun v s1 E1 l1 e1 => ?_
  obtain ⟨x, dx, vs, ev, h1, h2, r⟩ := pu_top E1
  obtain ⟨u, hu, hp⟩ := fldsOk_get r hl
  obtain ⟨E2, e2⟩ := E1.pop
  have q := hQ u _ (E2.push0 (pu R y) ⟨rfl, u, rfl, hp⟩) l1 (e1.trans e2)
  exact ⟨x, C, dx, vs, u, ev, E1.sub _ _ h1, c, n, hu, q⟩
theorem two_x {x dx : Addr} {o1 o2 : HO} : two x dx o1 o2 x = some o1 := by simp [two]
theorem two_dx {x dx : Addr} {o1 o2 : HO} (h : dx ≠ x) : two x dx o1 o2 dx = some o2 := by simp [two, h]
theorem two_some {x dx a : Addr} {o1 o2 u : HO} (h : two x dx o1 o2 a = some u) : (a = x ∧ u = o1) ∨ (a ≠ x ∧ a = dx ∧ u = o2) := by
  unfold two at h
  by_cases q : a = x
  · rw [if_pos q] at h; exact .inl ⟨q, (Option.some.inj h).symm⟩
  · rw [if_neg q] at h
    by_cases q2 : a = dx
    · rw [if_pos q2] at h; exact .inr ⟨q, q2, (Option.some.inj h).symm⟩
    · rw [if_neg q2] at h; cases h
/-- an owned thing's footprint gets other contents at the same places -/
theorem EnvOk.rewrite {s : Sta} {σ : St} {Γ : List Slot} {S' : Slot} {i : Nat} {F' : Hp} {H' : Hp} (E : EnvOk s σ Γ) (hi : i < Γ.length) (hd : ∀ a, F' a ≠ none ↔ s.F i a ≠ none) (hH : ∀ a, s.F i a = none → H' a = s.H a) (hF : Same F' H') (h : S'.p s.B F' (σ[i]?.join)) :
    EnvOk ⟨s.B, H', fun j => if j = i then F' else s.F j⟩ σ (Γ.set i S') ∧ Evo s ⟨s.B, H', fun j => if j = i then F' else s.F j⟩ := by
  have key : ∀ j a, (if j = i then F' else s.F j) a ≠ none → s.F j a ≠ none := fun j a h => by
    by_cases q : j = i
    · rw [if_pos q] at h; rw [q]; exact (hd a).mp h
    · rw [if_neg q] at h; exact h
  have nf : ∀ j a, j ≠ i → s.F j a ≠ none → s.F i a = none := fun j a q h => by
    cases e : s.F i a with
    | none => rfl
    | some u => exact absurd (E.disF j i a h (by rw [e]; simp)) q
  refine ⟨⟨fun a u h => ?_, fun j a u h => ?_, fun j a h => E.dis j a (key j a h), fun j k a h1 h2 => E.disF j k a (key j a h1) (key k a h2), by simp [E.len], fun j S2 h2 => ?_, fun j h2 => ?_⟩, ⟨fun _ _ h => h, fun a u h n => ?_, fun a h => ?_, fun _ h => .inl h, fun a j h => .inr ⟨j, key j a h⟩⟩⟩
  · show H' a = some u
    rw [hH a (by
      cases e : s.F i a with
      | none => rfl
      | some w => have := E.dis i a (by rw [e]; simp); rw [this] at h; cases h)]
    exact E.sub a u h
  · have h' : (if j = i then F' else s.F j) a = some u := h
    show H' a = some u
    by_cases q : j = i
    · rw [if_pos q] at h'; exact hF a u h'
    · rw [if_neg q] at h'
      rw [hH a (nf j a q (by rw [h']; simp))]
      exact E.subF j a u h'
  · show S2.p s.B (if j = i then F' else s.F j) _
    by_cases q : j = i
    · subst q
      rw [List.getElem?_set_self hi] at h2; cases h2
      rw [if_pos rfl]; exact h
    · rw [List.getElem?_set_ne (Ne.symm q)] at h2
      rw [if_neg q]
      exact E.sl j S2 h2
  · show (if j = i then F' else s.F j) = em
    rw [List.length_set] at h2
    rw [if_neg (by omega)]
    exact E.out j h2
  · show H' a = some u
    rw [hH a (n i)]; exact h
  · show H' a ≠ none
    cases q : s.F i a with
    | none => rw [hH a q]; exact h
    | some w =>
      obtain ⟨u, hu⟩ := ex_of_ne ((hd a).mpr (by rw [q]; simp))
      rw [hF a u hu]; simp
/-- x.f = value, x an owned instance in the slot i -/
theorem s1_fld {i : Nat} {x : Str} {px : Pos} {fs gs : List (Str × Fld)} {y : α} {a : Addr} (hv : EX X value Γ (pu R y) Γ1) (hi1 : Γ1[i]? = some (oi C gs a)) (c : Cls X.K C) (n : NoAttr X.K C f) (hz : gs.length < 1000) (hN : X.N[i]? = some x := by rfl) (hvs : Vis X.env.scope x := by first | exact Or.inl rfl | exact Or.inr (Or.inl rfl) | exact Or.inr (Or.inr rfl))
    (hd : (x == ("__debug__" : Str)) = false := by decide) (hcd : (x == ("__classdict__" : Str)) = false := by decide) (hs : swapsWith value (some (.Attribute (.Name x px) f pos')) pos.line X.env = pure false := by rfl) :
    S1 X (.Assign [.Attribute (.Name x px) f pos'] value pos) Γ (fun r => r = .nx (Γ1.set i (oi C (putFl f (fld R y) gs) a))) := by
  intro T _ τ σ s hl E D hD
  refine rs_of (ps_fld (pe_var hN hvs hd hcd) peR hs) ?_
  refine hv T τ σ s hl E _ fun v s1 E1 l1 e1 => ?_
  have hlt1 := (List.getElem?_eq_some_iff.mp hi1).1
  have hy := pu_top E1
  obtain ⟨E2, e2⟩ := E1.pop
  obtain ⟨e3, dx, vs, nd, f3, r3⟩ := E2.sl i _ (by rw [List.getElem?_append_left hlt1]; exact hi1)
  have e3' := e3
  rw [List.getElem?_append_left (by omega)] at e3
  have hσ : σ[i]? = some (some (.ref a)) := by
    rw [List.getElem?_eq_getElem (by omega)] at e3 ⊢
    exact congrArg some e3
  have ha : s1.H a = some (.ins C dx vs) := E2.subF i a _ (by rw [f3]; exact two_x)
  have hdx : s1.H dx = some (.own a) := E2.subF i dx _ (by rw [f3]; exact two_dx nd)
  obtain ⟨E4, e4⟩ := E2.rewrite (S' := oi C (putFl f (fld R y) gs) a) (i := i) (F' := two a dx (.ins C dx (putF f v vs)) (.own a)) (H' := upd s1.H a (.ins C dx (putF f v vs))) (by simp; omega) (fun b => by
      rw [f3]; unfold two
      by_cases q : b = a
      · simp [q]
      · by_cases q2 : b = dx
        · simp [q2, nd]
        · simp [q, q2]) (fun b hb => by
      rw [f3] at hb
      have : b ≠ a := fun q => by rw [q, two_x] at hb; cases hb
      rw [upd_ne this]; rfl) (fun b u hb => by
      rcases two_some hb with ⟨q, rfl⟩ | ⟨q, q2, rfl⟩
      · rw [q]; exact upd_same
      · rw [q2, upd_ne (by rw [← q2]; exact q)]; exact hdx) (by
      rw [e3']
      exact ⟨rfl, dx, _, nd, rfl, fldsOk_put hy r3⟩)
  rw [set_app hlt1] at E4
  refine ⟨.ref a, hσ, a, C, dx, vs, rfl, ha, c, n, ?_, ?_⟩
  · rw [Paired.length r3]; exact hz
  · have q := hD _ rfl σ _ (by simp; omega) E4 ((e1.trans e2).trans e4)
    exact q
end
/-! ## a def that changes its first argument -/
/-- the first argument is owned and stays so; the others are pure or used up -/
def spM {A : Type} (pre : A → Prop) (W0 : A → Addr → Slot) (Gr : A → List Slot) (W1 : A → Addr → Slot) (S : A → Slot) : Sp := fun vs H Q _ => ∃ (x : A) (p : Addr) (s : Sta), s.H = H ∧ pre x ∧ EnvOk s (vs.map some ++ [none]) ((W0 x p :: Gr x) ++ [tabS]) ∧
  ∀ v s', EnvOk s' ([some (.ref p), some v] ++ [none]) ([W1 x p, S x] ++ [tabS]) → Evo s s' → Q v s'.H
/-- the first and the last are kept -/
theorem EnvOk.ends {s : Sta} {σ : St} {Γ : List Slot} {o o' : Option V} {S S' : Slot} (E : EnvOk s ((o :: σ) ++ [o']) ((S :: Γ) ++ [S'])) : ∃ s' : Sta, s'.H = s.H ∧ EnvOk s' [o, o'] [S, S'] ∧ Evo s s' := by
  have hl : σ.length = Γ.length := by have := E.len; simp at this; exact this
  have E' : EnvOk s ([o] ++ (σ ++ [o'])) ([S] ++ (Γ ++ [S'])) := by simpa using E
  obtain ⟨s', E2, e2, h2, _⟩ := E'.mid rfl hl
  exact ⟨s', h2, by simpa using E2, e2⟩
theorem EnvOk.freezeTop {s : Sta} {σ : St} {Γ : List Slot} {S S' : Slot} {o : Option V} (E : EnvOk s (σ ++ [o]) (Γ ++ [S])) (h : ∀ B', Same s.B B' → Same (s.F Γ.length) B' → S'.p B' em o) : ∃ s' : Sta, s'.H = s.H ∧ EnvOk s' (σ ++ [o]) (Γ ++ [S']) ∧ Evo s s' := by
  have hl : σ.length = Γ.length := by have := E.len; simp at this; exact this
  obtain ⟨E2, e2⟩ := E.freeze (S' := S') (i := Γ.length) (by simp) fun B' k1 k2 => by
    rw [join_get (show (σ ++ [o])[Γ.length]? = some o by rw [← hl]; simp)]
    exact h B' k1 k2
  have hz : (Γ ++ [S]).set Γ.length S' = Γ ++ [S'] := by rw [List.set_append_right _ _ (Nat.le_refl _)]; simp
  rw [hz] at E2
  exact ⟨⟨un2 (s.F Γ.length) s.B, s.H, fun j => if j = Γ.length then em else s.F j⟩, rfl, E2, e2⟩
theorem EnvOk.freezeTop' {s : Sta} {σ : St} {Γ : List Slot} {S S' : Slot} {o : Option V} (E : EnvOk s (σ ++ [o]) (Γ ++ [S])) (h : ∀ B F, S.p B F o → S'.p B F o) : ∃ s' : Sta, s'.H = s.H ∧ EnvOk s' (σ ++ [o]) (Γ ++ [S']) ∧ Evo s s' := by
  have hl : σ.length = Γ.length := by have := E.len; simp at this; exact this
  refine ⟨s, rfl, ⟨E.sub, E.subF, E.dis, E.disF, by simp [hl], fun i S2 h2 => ?_, fun i h2 => E.out i (by simpa using h2)⟩, Evo.refl s⟩
  by_cases hi : i < Γ.length
  · rw [List.getElem?_append_left hi] at h2
    exact E.sl i S2 (by rw [List.getElem?_append_left hi]; exact h2)
  · have hl2 := (List.getElem?_eq_some_iff.mp h2).1
    simp at hl2
    have e : i = Γ.length := by omega
    subst e
    have h3 : (Γ ++ [S'])[Γ.length]? = some S' := by simp
    rw [h3] at h2; cases h2
    rw [join_get (show (σ ++ [o])[Γ.length]? = some o by rw [← hl]; simp)]
    exact h _ _ E.top
theorem one_two {x dx : Addr} {o1 o2 : HO} {a : Addr} (h : two x dx o1 o2 a ≠ none) : a = x ∨ a = dx := by
  obtain ⟨u, hu⟩ := ex_of_ne h
  rcases two_some hu with ⟨q, _⟩ | ⟨_, q, _⟩
  · exact .inl q
  · exact .inr q
/-- a new instance on top -/
theorem EnvOk.pushI {s : Sta} {σ : St} {Γ : List Slot} {x dx C : Addr} (E : EnvOk s σ Γ) (hx : s.H x = none) (hd : s.H dx = none) (hn : dx ≠ x) :
    ∃ s' : Sta, s'.H = upd (upd s.H dx (.own x)) x (.ins C dx []) ∧ EnvOk s' (σ ++ [some (.ref x)]) (Γ ++ [oi C [] x]) ∧ Evo s s' := by
  have s2 : Same s.H (upd (upd s.H dx (.own x)) x (.ins C dx [])) := fun a u h => by rw [upd_ne (ne_of_none h hx), upd_ne (ne_of_none h hd)]; exact h
  have key : ∀ i a, (if i = Γ.length then two x dx (.ins C dx []) (.own x) else s.F i) a ≠ none → (i = Γ.length ∧ (a = x ∨ a = dx)) ∨ (i ≠ Γ.length ∧ s.F i a ≠ none) := fun i a h => by
    by_cases q : i = Γ.length
    · rw [if_pos q] at h; exact .inl ⟨q, one_two h⟩
    · rw [if_neg q] at h; exact .inr ⟨q, h⟩
  have fr : ∀ a, a = x ∨ a = dx → s.H a = none := fun a h => h.elim (fun e => by rw [e]; exact hx) fun e => by rw [e]; exact hd
  have fp : ∀ i a, (a = x ∨ a = dx) → s.F i a = none := fun i a h => by
    cases e : s.F i a with
    | none => rfl
    | some u => have := E.subF i a u e; rw [fr a h] at this; cases this
  refine ⟨⟨s.B, upd (upd s.H dx (.own x)) x (.ins C dx []), fun i => if i = Γ.length then two x dx (.ins C dx []) (.own x) else s.F i⟩, rfl, ⟨fun a u h => s2 a u (E.sub a u h), fun i a u h => ?_, fun i a h => ?_, fun i j a h1 h2 => ?_, by simp [E.len], fun i S2 h => ?_, fun i h => ?_⟩, ⟨fun _ _ h => h, fun a u h _ => s2 a u h, fun a h => ?_, fun a h => .inl h, fun a i h => ?_⟩⟩
  · have h' : (if i = Γ.length then two x dx (.ins C dx []) (.own x) else s.F i) a = some u := h
    by_cases q : i = Γ.length
    · rw [if_pos q] at h'
      rcases two_some h' with ⟨e, rfl⟩ | ⟨e, e2, rfl⟩
      · rw [e]; exact upd_same
      · show upd (upd s.H dx (.own x)) x (.ins C dx []) a = _
        rw [upd_ne e, e2]; exact upd_same
    · rw [if_neg q] at h'; exact s2 a u (E.subF i a u h')
  · rcases key i a h with ⟨q, r⟩ | ⟨q, r⟩
    · cases e : s.B a with
      | none => rfl
      | some u => have := E.sub a u e; rw [fr a r] at this; cases this
    · exact E.dis i a r
  · rcases key i a h1 with ⟨q, r⟩ | ⟨q, r⟩
    · rcases key j a h2 with ⟨q', r'⟩ | ⟨q', r'⟩
      · omega
      · exact absurd (fp j a r) r'
    · rcases key j a h2 with ⟨q', r'⟩ | ⟨q', r'⟩
      · exact absurd (fp i a r') r
      · exact E.disF i j a r r'
  · show S2.p s.B (if i = Γ.length then two x dx (.ins C dx []) (.own x) else s.F i) _
    by_cases hi : i < Γ.length
    · rw [List.getElem?_append_left hi] at h
      rw [List.getElem?_append_left (by rw [E.len]; exact hi), if_neg (by omega)]
      exact E.sl i S2 h
    · have hl := (List.getElem?_eq_some_iff.mp h).1
      simp at hl
      have e : i = Γ.length := by omega
      subst e
      have h2 : (Γ ++ [oi C [] x])[Γ.length]? = some (oi C [] x) := by simp
      rw [h2] at h; cases h
      have h3 : (σ ++ [some (V.ref x)])[Γ.length]? = some (some (.ref x)) := by rw [← E.len]; simp
      rw [join_get h3, if_pos rfl]
      exact ⟨rfl, dx, [], hn, rfl, .nil⟩
  · show (if i = Γ.length then two x dx (.ins C dx []) (.own x) else s.F i) = em
    simp at h
    rw [if_neg (by omega)]
    exact E.out i (by omega)
  · obtain ⟨u, e⟩ := ex_of_ne h
    show upd (upd s.H dx (.own x)) x (.ins C dx []) a ≠ none
    rw [s2 a u e]; simp
  · rcases key i a h with ⟨q, r⟩ | ⟨q, r⟩
    · exact .inl (fr a r)
    · exact .inr ⟨i, r⟩
section
variable {A : Type} {pre : A → Prop} {W0 W1 : A → Addr → Slot} {Gr : A → List Slot} {S : A → Slot}
/-- a call of such a def by values: the owned argument first -/
theorem n_callM (x : A) (hx : pre x) {p : Addr} {Ss : List Slot} (hG : Ss = Gr x) {s : Sta} {σ : St} {Γ : List Slot} [HasTab Γ] {vs : List V} (hl : σ.length = Γ.length) (E : EnvOk s (σ ++ ([some (.ref p)] ++ vs.map some)) (Γ ++ ([W0 x p] ++ Ss))) {Q : VK}
    (hQ : ∀ v s', EnvOk s' ((σ ++ [some (.ref p)]) ++ [some v]) ((Γ ++ [W1 x p]) ++ [S x]) → Evo s s' → Q v s'.H) : spM pre W0 Gr W1 S (.ref p :: (vs ++ [])) s.H Q E0 := by
  rw [List.append_nil]
  obtain ⟨sc, hH, Ec, back⟩ := handT hl E
  refine ⟨x, p, sc, hH, hx, by rw [← hG]; simpa using Ec, fun v s' E' e' => ?_⟩
  obtain ⟨s'', h'', E'', e''⟩ := back [some (.ref p), some v] [W1 x p, S x] s' E' e'
  have q := hQ v s'' (by simpa using E'') e''
  rw [h''] at q
  exact q
/-- C(e, ..), its __init__ a def of the text -/
theorem x_make {X : Cx} {C : Addr} {k : Nat} {f : Addr} {fd : FuncData} {ps : List Str} {fx : Str} {p pos : Pos} {e : Expr} {es : List Expr} {Γ Γ1 Ss : List Slot} (M : Mk X.K C f) (F : FnOk X.prog X.w X.K X.mg X.base CX0 k f fd ps (spM pre W0 Gr W1 S)) (hr : Room (k + 1) X.A) (hm : X.mg fx = some (.ref C))
    (hb : Binds X.K fd ps []) (x : A) (hx : pre x) (ha : EA X (e :: es) Γ Ss Γ1) (hG : Ss = Gr x) (h0 : W0 x = oi C []) (hS : S x = pu tN ()) (hg : Gl X fx := by rfl) (hdb : (fx == ("__debug__" : Str)) = false := by decide)
    (he : starEach (e :: es) X.env = (false, eval e X.env) :: starEach es X.env := by rfl) (hpl : (backTo pos (starEach es X.env)).any (·.1) = false := by rfl) : EX X (.Call (.Name fx p) (e :: es) [] pos) Γ (exS (W1 x)) Γ1 := by
  intro T _ τ σ s hl E Q hQ
  refine re_of (pe_make M F hr hg hm hb .nil pass0 paR hdb he hpl) ?_
  refine ha T τ σ s hl E _ fun vs s1 E1 l1 lv e1 => ?_
  intro y dx hy hdx hn
  obtain ⟨s2, h2, E2, e2⟩ := E1.pushI (C := C) hy hdx hn
  rw [← h2]
  have hl2 : (σ ++ τ).length = (Γ1 ++ T).length := by have := E1.len; simp at this ⊢; omega
  have E2' : EnvOk s2 ((σ ++ τ) ++ (vs.map some ++ [some (.ref y)])) ((Γ1 ++ T) ++ (Ss ++ [oi C [] y])) := by simpa using E2
  obtain ⟨s3, h3, E3, e3⟩ := E2'.rot hl2
  rw [← h3]
  rw [← h0] at E3
  refine n_callM x hx hG hl2 E3 fun v s4 E4 e4 => ?_
  rw [hS] at E4
  have hv : v = .non := pu_top E4
  obtain ⟨E5, e5⟩ := E4.pop
  obtain ⟨s6, h6, E6, e6⟩ := E5.freezeTop' (S' := exS (W1 x)) fun B F q => ⟨y, q⟩
  have q := hQ (.ref y) _ E6 l1 (((((e1.trans e2).trans e3).trans e4).trans e5).trans e6)
  rw [h6] at q
  exact ⟨hv, q⟩
/-- an owned instance whose fields are pure goes over into the pure region -/
theorem x_frzI {X : Cx} {e : Expr} {Γ Γ1 : List Slot} {C : Addr} {fs : List (Str × Fld)} {fl : α → List (Str × Fld)} {a : α} (h : EX X e Γ (exS (oi C fs)) Γ1) (hf : fs = fl a) : EX X e Γ (pu (tObj C fl) a) Γ1 := by
  intro T _ τ σ s hl E Q hQ
  refine h T τ σ s hl E Q fun v s1 E1 l1 e1 => ?_
  have ht := E1.top
  obtain ⟨s2, h2, E2, e2⟩ := E1.freezeTop (S' := pu (tObj C fl) a) fun B' k1 k2 => by
    obtain ⟨x, eo, dx, vs, nd, f, r⟩ := ht
    rw [f] at k2
    exact ⟨rfl, _, eo, x, dx, vs, rfl, k2 _ _ two_x, k2 _ _ (two_dx nd), by rw [← hf]; exact fldsOk_mono k1 r⟩
  have q := hQ v _ E2 l1 (e1.trans e2)
  rw [h2] at q
  exact q
/-- a def keeps such a promise -/
theorem fn_okM {P : Program} {w : World} {K : PySem.W.Frag} {mg : Str → Option Value} {base : Heap} {fx qual : Str} {st : Stmt} {f : Addr} {fd : FuncData} {N ps : List Str} {k : Nat} (F : Fun K fx qual st f fd) (sc : FnScope N ps (defScope st)) (hG : ∀ x, (Gr x).length + 1 = ps.length)
    (g0 : ∀ x, Gho (W0 x)) (g1 : ∀ x, Gho (W1 x))
    (hb : ∀ (X : Cx) (x : A) (p : Addr), (∃ cdv A outer s H E, X = (cxOf CX0 P w K mg base N qual (defScope st) f cdv A outer s H E).nox) → Room k X.A → pre x → SX X (defBody st) ((W0 x p :: Gr x) ++ List.replicate (N.length - ps.length) un) (fun r => (∃ Γ', r = .rt (W1 x p :: Γ') (S x)) ∨ (∃ Γ', r = .nx (W1 x p :: Γ') ∧ ∀ B, (S x).p B em (some .non)))) :
    FnOk P w K mg base CX0 (k + 1) f fd ps (spM pre W0 Gr W1 S) := by
  refine F.ok sc (fun vs H Q E h => ?_) (fun cdv A outer s H vs Q E hr h => ?_)
  · obtain ⟨x, p, s, _, _, E1, _⟩ := h
    have := E1.len
    simp at this
    rw [this, hG]
  · obtain ⟨x, p, s1, rfl, hx, E1, q⟩ := h
    have hlv : vs.length = ps.length := by have := E1.len; simp at this; rw [this, hG]
    obtain ⟨s2, h2, E2, e2⟩ := E1.pads1 (N.length - ps.length)
    have hst : L2.start N vs = vs.map some ++ List.replicate (N.length - ps.length) none := by
      unfold L2.start
      rw [hlv]
    rw [← hst] at E2
    rw [← h2]
    have first : ∀ {σ' : St} {Γ' : List Slot} {s' : Sta} {τ : St} {T : List Slot}, σ'.length = (W1 x p :: Γ').length → EnvOk s' (σ' ++ τ) ((W1 x p :: Γ') ++ T) → ∃ σ2, σ' = some (.ref p) :: σ2 := fun {σ' Γ' s' τ T} hl E' => by
      have h1 := E'.sl 0 (W1 x p) rfl
      have h2 := g1 x p _ _ _ h1
      match σ', hl with
      | o :: σ2, _ =>
        have : o = some (.ref p) := h2
        rw [this]
        exact ⟨σ2, rfl⟩
    have hb' := hb _ x p ⟨cdv, A, outer, s, s2.H, E, rfl⟩ hr hx [tabS] [none] (L2.start N vs) s2 (by rw [hst]; simp [hlv]; have := hG x; omega) E2 { nx := fun _ H' => Q .non H', rt := Q } fun r hr => ?_
    · exact ⟨_, pssR, hb'⟩
    · have fin : ∀ {σ' : St} {Γ' : List Slot} {v : V} {s' : Sta}, σ'.length = (W1 x p :: Γ').length → EnvOk s' ((σ' ++ [none]) ++ [some v]) (((W1 x p :: Γ') ++ [tabS]) ++ [S x]) → Evo s2 s' → Q v s'.H := fun {σ' Γ' v s'} l' E' e' => by
        rw [List.append_assoc, List.append_assoc] at E'
        obtain ⟨σ2, rfl⟩ := first l' E'
        have E'' : EnvOk s' ([some (.ref p)] ++ (σ2 ++ ([none] ++ [some v]))) ([W1 x p] ++ (Γ' ++ ([tabS] ++ [S x]))) := by simpa using E'
        obtain ⟨s3, E3, e3, h3, _⟩ := E''.mid rfl (by simpa using l')
        obtain ⟨s4, h4, E4, e4⟩ := E3.rot rfl
        have q1 := q v s4 E4 (((e2.trans e').trans e3).trans e4)
        rw [h4, h3] at q1
        exact q1
      rcases hr with ⟨Γ', rfl⟩ | ⟨Γ', rfl, hn⟩
      · intro σ' v s' l' E' e'
        exact fin l' E' e'
      · intro σ' s' l' E' e'
        exact fin l' (E'.push0 (o := some .non) (S x) (hn _)) e'
end
end Fw

namespace Fw
open PySem L2
variable [Tb]
variable {α β γ δ ε ρ κ θ : Type}
/-! ## results told by a value -/
def RetP (S : θ → Slot) (a : θ) (r : Res) : Prop := ∃ Γ', r = .rt Γ' (S a)
def elimS (A : κ → θ) (B : ρ → θ) : Sum κ ρ → θ
  | .inl s => A s
  | .inr q => B q
section
variable {X : Cx} {e c tg iter : Expr} {st : Stmt} {sts t u body : List Stmt} {pos : Pos} {Γ Γ1 Γ2 Γ' : List Slot} {b : Bool} {wi : TI} {g : TG} {R : Ty α} {xs : List α} {f : List Slot → α → List Slot} {is : List Nat}
theorem x_as {S S' : Slot} (h : EX X e Γ S Γ1) (hS : S = S') : EX X e Γ S' Γ1 := hS ▸ h
theorem x_val {y z : α} (h : EX X e Γ (pu R y) Γ1) (hy : y = z) : EX X e Γ (pu R z) Γ1 := hy ▸ h
theorem x_valo {ys zs : List α} (h : EX X e Γ (ol R ys) Γ1) (hy : ys = zs) : EX X e Γ (ol R zs) Γ1 := hy ▸ h
theorem t_as {b' : Bool} (h : ET X e Γ b Γ1) (hb : b = b') : ET X e Γ b' Γ1 := hb ▸ h
/-- return, the value as told -/
theorem f_ret {S : θ → Slot} {a : θ} {S' : Slot} (he : EX X e Γ S' Γ1) (hS : S' = S a) : SX X (.Return (some e) pos :: sts) Γ (RetP S a) := sx_ret he ⟨_, by rw [hS]⟩
/-- an if that leaves, the rest behind -/
theorem f_ifr {P : θ → Res → Prop} {A B : θ} (hc : ET X c Γ b Γ1) (h1 : b = true → SX X t Γ1 (fun r => P A r ∧ ¬ isNx r)) (h2 : b = false → SX X sts Γ1 (P B)) : SX X (.If c t [] pos :: sts) Γ (P (if b = true then A else B)) := by
  cases b with
  | true => exact sx_ifr hc h1 (fun z => by cases z)
  | false => exact sx_ifr hc (fun z => by cases z) h2
theorem f_if2 {P : θ → Res → Prop} {A B : θ} (hc : ET X c Γ b Γ1) (h1 : b = true → SX X t Γ1 (fun r => P A r ∧ ¬ isNx r)) (h2 : b = false → SX X u Γ1 (fun r => P B r ∧ ¬ isNx r)) : SX X (.If c t u pos :: sts) Γ (P (if b = true then A else B)) := by
  refine sx_cons (P1 := fun r => P (if b = true then A else B) r ∧ ¬ isNx r) (s1_if hc (fun hb => (h1 hb).imp fun r q => by rw [if_pos hb]; exact q) fun hb => (h2 hb).imp fun r q => by rw [if_neg (by rw [hb]; decide)]; exact q) (fun Γ' q => absurd trivial q.2) fun r q _ => q.1
/-- an if that is never taken -/
theorem f_no {P : Res → Prop} (hc : ET X c Γ b Γ1) (hb : b = false) (h2 : SX X sts Γ1 P) : SX X (.If c t [] pos :: sts) Γ P := sx_ifr hc (fun z => by rw [hb] at z; cases z) fun _ => h2
/-- both ways go on -/
theorem f_if {P : Res → Prop} (Γ2 : List Slot) (hc : ET X c Γ b Γ1) (h1 : b = true → SX X t Γ1 (fun r => ∃ Γ', r = .nx Γ' ∧ Wk Γ' Γ2)) (h2 : b = false → SX X u Γ1 (fun r => ∃ Γ', r = .nx Γ' ∧ Wk Γ' Γ2)) (h : SX X sts Γ2 P) : SX X (.If c t u pos :: sts) Γ P := sx_if hc h1 h2 h
/-- a for that always goes on -/
theorem f_for {P : Res → Prop} (hp : PassesOwn (model X.prog X.w) X.A X.env X.xe) (hc : X.calm = true) (iw : IW X tg iter wi Γ R xs Γ1) (hg : PG X tg g) (ht : TGT g R is Γ.length f)
    (G : κ → List Slot) (step : κ → α → κ) (s0 sE : κ) (hE : xs.foldl step s0 = sE) (hlen : ∀ s, (G s).length = Γ.length) (h0 : Wk Γ1 (G s0))
    (hb : ∀ (i : Nat) (x : α) (s : κ), xs[i]? = some x → (xs.take i).foldl step s0 = s → xs.length ≤ sizeLine → SX X body (f (G s) x) (fun r => ∃ Γ', (r = .nx Γ' ∨ r = .ct Γ') ∧ Wk Γ' (G (step s x))))
    (h : SX X sts (G sE) P) (hs : ∀ x, foldedSetIterable iter X.env x = pure x := by intro _; rfl) : SX X (.For tg iter body [] pos :: sts) Γ P :=
  sx_for hp hc iw hg ht G step s0 hlen h0 (fun i x hx hz => hb i x _ hx rfl hz) (by rw [hE]; exact h) hs
/-- a for that may be left -/
theorem f_forR {P : θ → Res → Prop} {Pq : ρ → Res → Prop} (A : κ → θ) (B : ρ → θ) (hp : PassesOwn (model X.prog X.w) X.A X.env X.xe) (hc : X.calm = true) (iw : IW X tg iter wi Γ R xs Γ1) (hg : PG X tg g) (ht : TGT g R is Γ.length f)
    (G : κ → List Slot) (step : κ → α → Lp κ ρ) (s0 : κ) (hlen : ∀ s, (G s).length = Γ.length) (h0 : Wk Γ1 (G s0))
    (hb : ∀ (i : Nat) (x : α) (s : κ), xs[i]? = some x → goL step s0 (xs.take i) = some s → xs.length ≤ sizeLine → SX X body (f (G s) x) (Turn1 G Pq (step s x)))
    (h1 : ∀ s, runL step s0 xs = .inl s → SX X sts (G s) (P (A s))) (h2 : ∀ q r, Pq q r → P (B q) r)
    (hs : ∀ x, foldedSetIterable iter X.env x = pure x := by intro _; rfl) : SX X (.For tg iter body [] pos :: sts) Γ (P (elimS A B (runL step s0 xs))) := by
  refine sx_forR (S := fun _ => un) hp hc iw hg ht G step Pq s0 hlen h0 hb (fun s hr => ?_) (fun q hr r hq => ?_) hs
  · rw [hr]; exact h1 s hr
  · rw [hr]; exact h2 q r hq
theorem f_while {P : Res → Prop} (hp : PassesOwn (model X.prog X.w) X.A X.env X.xe) (G : κ → List Slot) (test : κ → Bool) (step : κ → κ) (Pv : κ → Prop) (μ : κ → Nat) (n : Nat) (s0 sE : κ) (hE : unSum (whileL test (fun s => .go (step s)) n s0) = sE)
    (hlen : ∀ s, (G s).length = Γ.length) (h0 : Wk Γ (G s0)) (hP : Pv s0) (hn : μ s0 < n)
    (hc : ∀ s, Pv s → ET X c (G s) (test s) (G s)) (hm : ∀ s, Pv s → test s = true → Pv (step s) ∧ μ (step s) < μ s)
    (hb : ∀ s, Pv s → test s = true → SX X body (G s) (fun r => ∃ Γ', (r = .nx Γ' ∨ r = .ct Γ') ∧ Wk Γ' (G (step s))))
    (h : SX X sts (G sE) P) : SX X (.While c body [] pos :: sts) Γ P :=
  sx_while hp G test step Pv μ n s0 hlen h0 hP hn hc hm hb fun s e => by rw [← hE, e] at h; exact h
theorem f_nx {P : Res → Prop} (h : P (.nx Γ)) : SX X [] Γ P := sx_nil h
end
/-! ## sequences of any kind -/
def tQ (K : PySem.W.Frag) (R : Ty α) : Ty (List α) := ⟨fun B v xs => ∃ a vs, v = .ref a ∧ (SqL K B a vs ∨ SqT K B a vs) ∧ Paired (R.rep B) vs xs,
  fun s h => let ⟨a, vs, e, q, r⟩ := h; ⟨a, vs, e, same_or s q, paired_mono (fun _ _ z => R.mono s z) r⟩⟩
theorem saQ {K : PySem.W.Frag} {R : Ty α} : SeqA K (tQ K R) R := ⟨fun h => h⟩
section
variable {X : Cx} {e tg iter : Expr} {Γ Γ1 : List Slot} {R : Ty α} {S : Ty (List α)} {xs : List α}
theorem x_q (q : SeqA X.K S R) (h : EX X e Γ (pu S xs) Γ1) : EX X e Γ (pu (tQ X.K R) xs) Γ1 := x_sub h fun _ _ z => q.get z
def iSeq (K : PySem.W.Frag) (tl : TE) : TI := fun σ H Rr => tl σ H fun x H1 => ∃ a, x = .ref a ∧ ((∃ xs, SqL K H1 a xs ∧ Rr (Itl K a) H1) ∨ (∃ xs, SqT K H1 a xs ∧ Rr (Itt K a) H1))
theorem pi_seq {l : Expr} {tl : TE} (hl : PE X l tl) : PI X tg l (iSeq X.K tl) := by
  refine ⟨fun pins s σ H Rr I h => ?_⟩
  refine thn (hl.run pins s σ H _ I h) fun v s1 ⟨x, H1, I1, r1, a, e, q1⟩ => ?_
  subst e
  cases r1
  rcases q1 with ⟨xs, hq, q⟩ | ⟨xs, hq, q⟩
  · obtain ⟨its, rv, p, hz⟩ := I1.list hq
    refine wpAny_pyIter_list p.isList ⟨s1.heap.objs.size, [s1.heap.objs.size], _, _, H1, rfl, I1.kept (t' := s1.toks) fun b o e => Heap.get?_push_of_some _ e, turn_list a _, ⟨_, Heap.get?_push_size _ rfl, rfl, rfl⟩, fun b hb => ?_, q⟩
    rw [List.mem_singleton.mp hb]
    exact I1.fpOk (Nat.le_refl _) (I1.hok.fresh (Nat.le_refl _))
  · obtain ⟨its, rv, p, hz⟩ := I1.tuple hq
    refine wpAny_pyIter_tuple (show s1.heap.IsTuple a its.toArray from p) ⟨s1.heap.objs.size, [s1.heap.objs.size], _, _, H1, rfl, I1.kept (t' := s1.toks) fun b o e => Heap.get?_push_of_some _ e, turn_tuple a _, ⟨_, Heap.get?_push_size _ rfl, rfl, rfl⟩, fun b hb => ?_, q⟩
    rw [List.mem_singleton.mp hb]
    exact I1.fpOk (Nat.le_refl _) (I1.hok.fresh (Nat.le_refl _))
theorem w_seq (q : SeqA X.K S R) (he : EX X iter Γ (pu S xs) Γ1) : IW X tg iter (iSeq X.K (RE X iter)) Γ R xs Γ1 := by
  refine ⟨pi_seq peR, fun T _ τ σ s hl E Rr h => ?_⟩
  refine he.sz hl E fun v s1 E1 l1 e1 z => ?_
  obtain ⟨a, vs, e, w, r⟩ := q.get (pu_top E1)
  have hz := seq_size q (pu_top E1) E1.sub z
  subst e
  have hlen : vs.length = xs.length := paired_len r
  obtain ⟨E2, e2⟩ := E1.pop
  rcases w with w | w
  · have E3 := E2.push0 (o := some (.ref a)) (pl X.K R a vs xs) ⟨rfl, rfl, w, r⟩
    have q1 := h (Itl X.K a) _ _ [some (.ref a)] [pl X.K R a vs xs] _ (by rw [← hlen]; exact walk_list) E3 l1 rfl (e1.trans e2) hz (fun σ2 Γ2 ρ Ps s2 h2 E2 => ?_) (fun i x H' σ2 Γ2 ρ Ps s2 hi y h2 E2 => ?_)
    · exact ⟨a, rfl, .inl ⟨vs, Same.seq E1.sub w, q1⟩⟩
    · obtain ⟨_, _, w', _⟩ := mid_top E2 h2
      exact Same.seq E2.sub w'
    · obtain ⟨rfl, hx⟩ := y
      obtain ⟨_, _, w', r'⟩ := mid_top E2 h2
      obtain ⟨y, hy, ry⟩ := paired_getV r' hx
      exact ⟨y, s2, hy, rfl, E2.push0 _ ⟨rfl, x, rfl, ry⟩, Evo.refl s2⟩
  · have E3 := E2.push0 (o := some (.ref a)) (pt X.K R a vs xs) ⟨rfl, rfl, w, r⟩
    have q1 := h (Itt X.K a) _ _ [some (.ref a)] [pt X.K R a vs xs] _ (by rw [← hlen]; exact walk_tup) E3 l1 rfl (e1.trans e2) hz (fun σ2 Γ2 ρ Ps s2 h2 E2 => ?_) (fun i x H' σ2 Γ2 ρ Ps s2 hi y h2 E2 => ?_)
    · exact ⟨a, rfl, .inr ⟨vs, same_sqt E1.sub w, q1⟩⟩
    · obtain ⟨_, _, w', _⟩ := mid_top E2 h2
      exact same_sqt E2.sub w'
    · obtain ⟨rfl, hx⟩ := y
      obtain ⟨_, _, w', r'⟩ := mid_top E2 h2
      obtain ⟨y, hy, ry⟩ := paired_getV r' hx
      exact ⟨y, s2, hy, rfl, E2.push0 _ ⟨rfl, x, rfl, ry⟩, Evo.refl s2⟩
/-! ## comprehensions, their value as told -/
theorem lc_all {xs : List α} {k : α → β} : (xs.filter (fun _ => true)).map k = xs.map k := by rw [List.filter_eq_self.mpr (fun _ _ => rfl)]
theorem lc_fid {xs : List α} {p : α → Bool} : (xs.filter p).map (fun x => x) = xs.filter p := List.map_id' _
theorem lc_aid {xs : List α} : (xs.filter (fun _ => true)).map (fun x => x) = xs := by rw [lc_all]; exact List.map_id' _
theorem all_id {l : List α} {k : α → Bool} : (l.map k).all id = l.all k := by rw [List.all_map]; rfl
theorem any_id {l : List α} {k : α → Bool} : (l.map k).any id = l.any k := by rw [List.any_map]; rfl
end
/-! ## isinstance -/
section
variable {K : PySem.W.Frag} {R : Ty α} {x : α} {b : Bool}
/-- a thing of this type has the type t at every place -/
def Typ (K : PySem.W.Frag) (R : Ty α) (t : Value) : Prop := ∀ {B H : Hp} {v : V} {a : α}, R.rep B v a → Same B H → TyX K H v t
theorem typ_tT : Typ K (tT K R) (.type "tuple") := fun {B H v a} h s => by
  obtain ⟨p, vs, e, q, r⟩ := h
  subst e
  rcases q with (q | ⟨o, q⟩) | ⟨o, its, n, q, hc, _⟩
  · exact .base (.tup (s _ _ q))
  · exact .fTuple (s _ _ q)
  · exact .kTuple q hc
theorem typ_tLs : Typ K (tLs K R) (.type "list") := fun {B H v a} h s => by
  obtain ⟨p, vs, e, q, r⟩ := h
  subst e
  exact .base (.lst (s _ _ q))
theorem typ_tI : Typ K tI (.type "int") := fun {B H v a} h s => by rw [show v = V.int a from h]; exact .base (.int _)
theorem typ_tB : Typ K tB (.type "bool") := fun {B H v a} h s => by rw [show v = V.bl a from h]; exact .base (.bl _)
/-- a class as a value -/
def tC1 (c : V) : Ty Unit := ⟨fun _ v _ => v = c, fun _ h => h⟩
theorem n_isi {t u : Value} {c : V} (ht : Typ K R t) (hc : ClsV c u) (hk : PySem.W.kitOne K t u = some b) : OpN (rIsi K) [pu R x, pu (tC1 c) ()] (pu tB b) :=
  opN_2 (op2_val fun B H v w s h1 h2 Q k => ⟨v, w, t, u, b, rfl, by rw [show w = c from h2]; exact hc, ht h1 s, hk, k _ rfl⟩)
end
theorem x_ty {X : Cx} {x : Str} {n : String} {pos : Pos} {Γ : List Slot} (hm : X.mg x = none) (hv : bootBuiltins x = some (.type n)) (hg : Gl X x := by rfl) (hn : x ≠ "__name__" := by decide) (hd : (x == ("__debug__" : Str)) = false := by decide) : EX X (.Name x pos) Γ (pu (tC1 (.ty n)) ()) Γ :=
  x_c (t := tC (.ty n)) (pe_bltn (v := V.ty n) hg hm hv rfl hn hd) fun _ => rfl
theorem x_cls {X : Cx} {x : Str} {C : Addr} {pos : Pos} {Γ : List Slot} (hm : X.mg x = some (.ref C)) (hg : Gl X x := by rfl) (hd : (x == ("__debug__" : Str)) = false := by decide) : EX X (.Name x pos) Γ (pu (tC1 (.ref C)) ()) Γ :=
  x_c (t := tC (.ref C)) (pe_glob (v := V.ref C) hg hm rfl hd) fun _ => rfl
/-! ## slices of lists -/
theorem w_at {xs : List α} {i : Nat} {x : α} (h : xs[i]? = some x) : i < xs.length ∧ x ∈ xs := ⟨(List.getElem?_eq_some_iff.mp h).1, List.mem_of_getElem? h⟩
/-- a list that grows at most by c a turn -/
theorem foldl_len (pr : κ → List β) (c : Nat) (step : κ → α → κ) (h : ∀ s x, (pr (step s x)).length ≤ (pr s).length + c) : ∀ (xs : List α) (s : κ), (pr (xs.foldl step s)).length ≤ (pr s).length + c * xs.length
  | [], s => by simp
  | x :: r, s => by
    have h1 := foldl_len pr c step h r (step s x)
    have h2 := h s x
    simp only [List.foldl_cons, List.length_cons]
    rw [Nat.mul_add]
    omega
/-- the law's own argument -/
theorem sp_law {K : PySem.W.Frag} {pre : List Int → Prop} {m : List Int → Bool} {H : Hp} {a : Addr} {ns : List Int} (hp : pre ns) (hS : SqL K H a (ns.map V.int)) (hT : ∀ p ∈ Tb.tt, H p.1 = some (.tbl #[])) (hm : m ns = true) : spP pre (fun x => [pu (tL K tI) x]) (fun x => pu tB (m x)) [.ref a] H (fun v _ => v = .bl true) (fun _ _ _ => False) := by
  have hin : ∀ b, b ∈ Tb.tt.map (·.1) → H b = some (.tbl #[]) := fun b hb => by
    obtain ⟨p, hp, e⟩ := List.mem_map.mp hb
    rw [← e]; exact hT p hp
  have hS' : SqL K (fun b => if b ∈ Tb.tt.map (·.1) then none else H b) a (ns.map V.int) := by
    have key : ∀ o, H a = some o → (∀ ps, o ≠ .tbl ps) → (if a ∈ Tb.tt.map (·.1) then none else H a) = some o := fun o h n => by
      rw [if_neg]
      · exact h
      · intro z
        rw [hin a z] at h
        exact n _ (Option.some.inj h).symm
    rcases hS with (h | ⟨o, h⟩) | h
    · exact .inl (.inl (key _ h fun _ z => by cases z))
    · exact .inl (.inr ⟨o, key _ h fun _ z => by cases z⟩)
    · exact .inr h
  refine ⟨ns, ⟨fun b => if b ∈ Tb.tt.map (·.1) then none else H b, H, fun i => if i = 1 then (fun b => if b ∈ Tb.tt.map (·.1) then H b else none) else em⟩, rfl, hp, ⟨fun b u h => ?_, fun i b u h => ?_, fun i b h => ?_, fun i j b h1 h2 => ?_, rfl, fun i S h => ?_, fun i h => ?_⟩, fun v s' E e => ?_⟩
  · have h' : (if b ∈ Tb.tt.map (·.1) then none else H b) = some u := h
    by_cases q : b ∈ Tb.tt.map (·.1)
    · rw [if_pos q] at h'; cases h'
    · rw [if_neg q] at h'; exact h'
  · by_cases q1 : i = 1
    · have h' : (if i = 1 then (fun b => if b ∈ Tb.tt.map (·.1) then H b else none) else em) b = some u := h
      rw [if_pos q1] at h'
      by_cases q : b ∈ Tb.tt.map (·.1)
      · have h2 := (if_pos q).symm.trans h'
        exact h2
      · have h2 := (if_neg q).symm.trans h'
        cases h2
    · have h' : (if i = 1 then (fun b => if b ∈ Tb.tt.map (·.1) then H b else none) else em) b = some u := h
      rw [if_neg q1] at h'; cases h'
  · have h' : (if i = 1 then (fun b => if b ∈ Tb.tt.map (·.1) then H b else none) else em) b ≠ none := h
    by_cases q1 : i = 1
    · rw [if_pos q1] at h'
      by_cases q : b ∈ Tb.tt.map (·.1)
      · exact if_pos q
      · exact absurd (if_neg q) h'
    · rw [if_neg q1] at h'; exact absurd rfl h'
  · have key : ∀ k, (if k = 1 then (fun b => if b ∈ Tb.tt.map (·.1) then H b else none) else em) b ≠ none → k = 1 := fun k h => by
      by_cases q1 : k = 1
      · exact q1
      · rw [if_neg q1] at h; exact absurd rfl h
    rw [key i h1, key j h2]
  · have hi := (List.getElem?_eq_some_iff.mp h).1
    match i, hi with
    | 0, _ => cases h; exact ⟨rfl, .ref a, rfl, a, _, rfl, hS', paired_of_int ns⟩
    | 1, _ =>
      cases h
      refine ⟨rfl, fun p hp => LamX.TabS.nil ?_⟩
      have q : p.1 ∈ Tb.tt.map (·.1) := List.mem_map.mpr ⟨p, hp, rfl⟩
      exact (if_pos q).trans (hT p hp)
  · have : ¬ i = 1 := by have h' : 2 ≤ i := h; omega
    exact if_neg this
  · obtain ⟨_, u, eu, h⟩ := E.sl 0 _ rfl
    have eu' : some v = some u := eu
    cases eu'
    have h' : v = .bl (m ns) := h
    rw [hm] at h'
    exact h'
end Fw

namespace Fw
open PySem L2
variable [Tb]
variable {α β γ δ ε ρ κ θ : Type}
def GoP (G : κ → List Slot) (v : κ) (r : Res) : Prop := ∃ Γ', (r = .nx Γ' ∨ r = .ct Γ') ∧ Wk Γ' (G v)
section
variable {X : Cx} {e c a b tg iter elt : Expr} {ifs : List Expr} {st : Stmt} {sts t u body : List Stmt} {pos p : Pos} {Γ Γ1 Γ2 Γ' : List Slot} {k : Bool} {P : Res → Prop}
theorem sx_cont (h : P (.ct Γ)) : SX X (.Continue pos :: sts) Γ P := sx_cons s1_cont (fun _ q => nomatch q) fun r q _ => by subst q; exact h
theorem sx_brk (h : P (.bk Γ)) : SX X (.Break pos :: sts) Γ P := sx_cons s1_break (fun _ q => nomatch q) fun r q _ => by subst q; exact h
/-- both ways go on; what they change is told by A and B -/
theorem f_ifJ (G : κ → List Slot) (sJ : κ) {A B : κ} (hc : ET X c Γ k Γ1) (hJ : (if k = true then A else B) = sJ) (h1 : k = true → SX X t Γ1 (fun r => ∃ Γ', r = .nx Γ' ∧ Wk Γ' (G A))) (h2 : k = false → SX X u Γ1 (fun r => ∃ Γ', r = .nx Γ' ∧ Wk Γ' (G B)))
    (h : SX X sts (G sJ) P) : SX X (.If c t u pos :: sts) Γ P := by
  subst hJ
  cases k with
  | true => exact sx_if hc h1 (fun z => by cases z) h
  | false => exact sx_if hc (fun z => by cases z) h2 h
theorem x_some {R : Ty α} {x : α} (hn : ∀ B v, R.rep B v x → v ≠ .non) (h : EX X e Γ (pu R x) Γ1) : EX X e Γ (pu (tO R) (some x)) Γ1 := x_sub h fun B v z => ⟨z, hn B v z⟩
theorem nn_I {x : Int} : ∀ B v, tI.rep B v x → v ≠ .non := fun _ v h e => by rw [show v = V.int x from h] at e; cases e
theorem nn_B {x : Bool} : ∀ B v, tB.rep B v x → v ≠ .non := fun _ v h e => by rw [show v = V.bl x from h] at e; cases e
theorem nn_T {K : PySem.W.Frag} {R : Ty α} {x : List α} : ∀ B v, (tT K R).rep B v x → v ≠ .non := fun _ v ⟨_, _, e, _⟩ z => by rw [e] at z; cases z
theorem nn_L {K : PySem.W.Frag} {R : Ty α} {x : List α} : ∀ B v, (tLs K R).rep B v x → v ≠ .non := fun _ v ⟨_, _, e, _⟩ z => by rw [e] at z; cases z
theorem nn_Ob {C : Addr} {fl : α → List (Str × Fld)} {x : α} : ∀ B v, (tObj C fl).rep B v x → v ≠ .non := fun _ v ⟨_, _, _, e, _⟩ z => by rw [e] at z; cases z
/-! tuples put together -/
theorem o_catT {K : PySem.W.Frag} {R : Ty α} {x y : List α} (hx : x ≠ []) (hz : x.length + y.length ≤ sizeLine) : Op2 (rCatT K) (pu (tT K R) x) (pu (tT K R) y) (pu (tT K R) (x ++ y)) :=
  op2_new fun B H v u s h1 h2 Q k1 k2 => by
    obtain ⟨a, vs, e, z, r⟩ := h1
    obtain ⟨b, us, e2, z2, r2⟩ := h2
    refine ⟨a, b, vs, us, e, e2, same_sqt s z, same_sqt s z2, fun q => hx (by have := paired_len r; rw [q] at this; exact List.eq_nil_of_length_eq_zero this.symm), by rw [paired_len r, paired_len r2]; exact hz, fun hu => ?_, fun _ p hp => ?_⟩
    · have : y = [] := by have := paired_len r2; rw [hu] at this; exact List.eq_nil_of_length_eq_zero this.symm
      subst this
      rw [List.append_nil] at k2
      exact k2 _ ⟨a, vs, rfl, z, r⟩
    · exact k1 p _ hp fun B' s' hB => ⟨p, _, rfl, sqt_new hB, paired_app (paired_mono (fun _ _ w => R.mono s' w) r) (paired_mono (fun _ _ w => R.mono s' w) r2)⟩
/-- the empty tuple on the left: the other one -/
theorem op_cat0 {K : PySem.W.Frag} : True := trivial
/-! slices of lists -/
theorem ex_sl {r : V → Option Int → Option Int → Hp → VK → Prop} {S S' : Slot} {lo hi : Option Expr} {p2 : Pos} (hs : SlR X r) {l u : Option Int} (ha : EX X a Γ S Γ1)
    (hl : ∃ tl, PO X lo tl ∧ ∀ (T : List Slot) [HasTab T] (τ σ : St) (s : Sta), σ.length = Γ1.length → EnvOk s (σ ++ τ) (Γ1 ++ T) → ∀ Q : Option Int → Hp → Prop, (∀ s', EnvOk s' (σ ++ τ) (Γ1 ++ T) → Evo s s' → Q l s'.H) → tl σ s.H Q)
    (hu : ∃ tu, PO X hi tu ∧ ∀ (T : List Slot) [HasTab T] (τ σ : St) (s : Sta), σ.length = Γ1.length → EnvOk s (σ ++ τ) (Γ1 ++ T) → ∀ Q : Option Int → Hp → Prop, (∀ s', EnvOk s' (σ ++ τ) (Γ1 ++ T) → Evo s s' → Q u s'.H) → tu σ s.H Q)
    (hr : Op1 (fun v H Q => r v l u H Q) S S') : EX X (.Subscript a (.Slice lo hi none p2) pos) Γ S' Γ1 := by
  intro T _ τ σ s hlen E Q hQ
  obtain ⟨tl, pl, hl⟩ := hl
  obtain ⟨tu, pu', hu⟩ := hu
  refine re_of (pe_slice hs peR pl pu') ?_
  refine ha T τ σ s hlen E _ fun v s1 E1 l1 e1 => ?_
  rw [List.append_assoc, List.append_assoc] at E1
  refine hl _ _ σ s1 (by omega) E1 _ fun s2 E2 e2 => ?_
  refine hu _ _ σ s2 (by omega) E2 _ fun s3 E3 e3 => ?_
  rw [← List.append_assoc, ← List.append_assoc] at E3
  exact hr (σ ++ τ) (Γ1 ++ T) s3 v E3 Q fun v' s4 E4 e4 => hQ v' s4 E4 l1 (((e1.trans e2).trans e3).trans e4)
theorem po_no : ∃ tl, PO X none tl ∧ ∀ (T : List Slot) [HasTab T] (τ σ : St) (s : Sta), σ.length = Γ1.length → EnvOk s (σ ++ τ) (Γ1 ++ T) → ∀ Q : Option Int → Hp → Prop, (∀ s', EnvOk s' (σ ++ τ) (Γ1 ++ T) → Evo s s' → Q none s'.H) → tl σ s.H Q :=
  ⟨_, po_none, fun T _ τ σ s hl E Q h => h s E (Evo.refl s)⟩
theorem po_i {i : Int} (h : EX X e Γ1 (pu tI i) Γ1) : ∃ tl, PO X (some e) tl ∧ ∀ (T : List Slot) [HasTab T] (τ σ : St) (s : Sta), σ.length = Γ1.length → EnvOk s (σ ++ τ) (Γ1 ++ T) → ∀ Q : Option Int → Hp → Prop, (∀ s', EnvOk s' (σ ++ τ) (Γ1 ++ T) → Evo s s' → Q (some i) s'.H) → tl σ s.H Q :=
  ⟨_, po_some peR, fun T _ τ σ s hl E Q hQ => h T τ σ s hl E _ fun v s1 E1 l1 e1 => by
    have hv : v = .int i := pu_top E1
    obtain ⟨E2, e2⟩ := E1.pop
    have q := hQ _ E2 (e1.trans e2)
    exact ⟨i, hv, q⟩⟩
theorem cut_drop {xs : List α} {vs : List V} {F : V → α → Prop} {i : Int} (r : Paired F vs xs) (h0 : 0 ≤ i) : Paired F (cutV vs (some i) none) (xs.drop i.toNat) := by
  obtain ⟨n, rfl⟩ : ∃ n : Nat, i = (n : Int) := ⟨i.toNat, by omega⟩
  unfold cutV
  rw [HT.sIx_nat, HT.sIx_none, Int.toNat_natCast]
  have e : (List.drop (min n vs.length) vs).take (vs.length - min n vs.length) = vs.drop n := by
    by_cases q : n ≤ vs.length
    · rw [Nat.min_eq_left q, List.take_of_length_le (by simp)]
    · rw [Nat.min_eq_right (by omega), List.drop_of_length_le (Nat.le_refl _), List.drop_of_length_le (by omega)]; simp
  rw [e]
  exact paired_drop n r
theorem cut_take {xs : List α} {vs : List V} {F : V → α → Prop} {i : Int} (r : Paired F vs xs) (h0 : 0 ≤ i) : Paired F (cutV vs none (some i)) (xs.take i.toNat) := by
  obtain ⟨n, rfl⟩ : ∃ n : Nat, i = (n : Int) := ⟨i.toNat, by omega⟩
  unfold cutV
  rw [HT.sIx_nat, HT.sIx_none, Int.toNat_natCast, List.drop_zero, Nat.sub_zero]
  have e : vs.take (min n vs.length) = vs.take n := by
    by_cases q : n ≤ vs.length
    · rw [Nat.min_eq_left q]
    · rw [Nat.min_eq_right (by omega), List.take_of_length_le (Nat.le_refl _), List.take_of_length_le (by omega)]
  rw [e]
  exact paired_take n r
theorem o_slL {K : PySem.W.Frag} {R : Ty α} {S : Ty (List α)} {xs ys : List α} {l u : Option Int} (q : SeqL K S R) (h : ∀ (F : V → α → Prop) vs, Paired F vs xs → Paired F (cutV vs l u) ys) : Op1 (fun v H Q => rSlL K v l u H Q) (pu S xs) (ol R ys) := by
  intro σ Γ s v E Q hQ
  obtain ⟨a, vs, e, z, r⟩ := q.get (pu_top E)
  obtain ⟨E2, e2⟩ := E.pop
  refine ⟨a, vs, e, Same.seq E.sub z, fun p hp => ?_⟩
  obtain ⟨E4, e4⟩ := E2.pushO (o := some (.ref p)) (ob := .lst (cutV vs l u)) hp (ol R ys) ⟨p, _, rfl, rfl, h _ _ r⟩
  exact hQ _ _ E4 (e2.trans e4)
theorem x_drop {R : Ty α} {S : Ty (List α)} {xs : List α} {i : Int} {p2 : Pos} (q : SeqL X.K S R) (ha : EX X a Γ (pu S xs) Γ1) (hb : EX X b Γ1 (pu tI i) Γ1) (h0 : 0 ≤ i) : EX X (.Subscript a (.Slice (some b) none none p2) pos) Γ (ol R (xs.drop i.toNat)) Γ1 :=
  ex_sl sl_list ha (po_i hb) po_no (o_slL q fun _ _ r => cut_drop r h0)
theorem x_take {R : Ty α} {S : Ty (List α)} {xs : List α} {i : Int} {p2 : Pos} (q : SeqL X.K S R) (ha : EX X a Γ (pu S xs) Γ1) (hb : EX X b Γ1 (pu tI i) Γ1) (h0 : 0 ≤ i) : EX X (.Subscript a (.Slice none (some b) none p2) pos) Γ (ol R (xs.take i.toNat)) Γ1 :=
  ex_sl sl_list ha po_no (po_i hb) (o_slL q fun _ _ r => cut_take r h0)
/-- tuple(range(n)) -/
theorem x_tupRange {n : Int} {p1 p2 : Pos} (hc : X.calm = true) (hm : X.mg "tuple" = none) (hm2 : X.mg "range" = none) (ha : EX X a Γ (pu tI n) Γ1) (hz : 0 ≤ n ∧ n ≤ 16777216) (hg : Gl X "tuple" := by rfl) (hg2 : Gl X "range" := by rfl)
    (na : starEach [a] X.env = (false, eval a X.env) :: starEach [] X.env := by rfl) (na2 : starEach [Expr.Call (.Name "range" p1) [a] [] p2] X.env = (false, eval (.Call (.Name "range" p1) [a] [] p2) X.env) :: starEach [] X.env := by rfl) :
    EX X (.Call (.Name "tuple" p) [.Call (.Name "range" p1) [a] [] p2] [] pos) Γ (pu (tT X.K tI) (rangeI 0 n)) Γ1 := by
  intro T _ τ σ s hl E Q hQ
  refine re_of (pe_tupRg hc hg hm (prg_1 hg2 hm2 peR na) na2) ?_
  refine ha T τ σ s hl E _ fun v s1 E1 l1 e1 => ?_
  have hv : v = .int n := pu_top E1
  obtain ⟨E2, e2⟩ := E1.pop
  refine ⟨n, hv, RgOk.of_le (by omega) (by omega) (by omega) (by omega), fun q hq => ?_⟩
  obtain ⟨E4, e4⟩ := E2.push1 (o := some (.ref q)) (ob := .tup (rgV 0 n)) hq (pu (tT X.K tI) (rangeI 0 n)) fun k1 k2 => ⟨rfl, _, rfl, q, _, rfl, sqt_new k2, by
    have : rgV 0 n = (rangeI 0 n).map V.int := by unfold rgV rangeI; rw [List.map_map]; rfl
    rw [this]
    exact paired_of_int _⟩
  exact hQ _ _ E4 l1 ((e1.trans e2).trans e4)
end
section
variable {X : Cx} {elt tg iter : Expr} {ifs : List Expr} {scope : Scope} {own : List (Str × Nat)} {pos : Pos} {wi : TI} {g : TG} {Γ Γ1 : List Slot} {R : Ty α} {R' : Ty β} {xs : List α} {f : List Slot → α → List Slot} {v : List β}
/-- name = [..], its value as told -/
theorem s1_setLcV {i : Nat} {y : Str} {py spos : Pos} (hc : X.calm = true) (hN : X.N.Nodup) (hy : X.N[i]? = some y) (hyl : X.env.scope.names.lookup y = some .local)
    (hsw : swapsWith (.ListComp elt [⟨tg, iter, ifs, 0⟩] scope pos) (some (.Name y py)) spos.line X.env = pure true) (hG : i < Γ.length) (iw : IW X tg iter wi Γ R xs Γ1) (ok : BlkOk X.N X.env.scope scope own)
    (hg : ∀ (s : Shared) (H : Hp) (C : Addr) (cl : List (Str × Addr)) (fp : List Addr), PG (X.blk s H scope (compEnvC scope cl C X.env) fp) tg g) (ht : TGT g R (own.map (·.2)) Γ.length f) (p : α → Bool) (k : α → β)
    (hi' : ∀ s0 H0 C cl fp (i : Nat) (x : α), xs[i]? = some x → EIs (blkX X scope s0 H0 C cl fp) ifs (f (uns (own.map (·.2)) Γ1) x) (p x))
    (he : ∀ s0 H0 C cl fp (i : Nat) (x : α), xs[i]? = some x → p x = true → EX (blkX X scope s0 H0 C cl fp) elt (f (uns (own.map (·.2)) Γ1) x) (pu R' (k x)) (f (uns (own.map (·.2)) Γ1) x))
    (hv : (xs.filter p).map k = v)
    (hw0 : ∀ x, uns (own.map (·.2)) (f (uns (own.map (·.2)) Γ1) x) = uns (own.map (·.2)) Γ1 := by intro _; rfl)
    (hs : ∀ x, foldedSetIterable iter X.env x = pure x := by intro _; rfl) : S1 X (.Assign [.Name y py] (.ListComp elt [⟨tg, iter, ifs, 0⟩] scope pos) spos) Γ (fun r => r = .nx ((uns (own.map (·.2)) Γ1).set i (ol R' v))) := by
  subst hv
  exact s1_setLc hc hN hy hyl hsw hG iw ok hg ht p k hi' he hw0 hs
end
/-! ## a dependency with two sides -/
structure Sd where
  l : List Int
  r : List Int
deriving DecidableEq, Inhabited
def flSd (K : PySem.W.Frag) (d : Sd) : List (Str × Fld) := [("left", fld (tT K tI) d.l), ("right", fld (tT K tI) d.r)]
end Fw

namespace Fw
open PySem L2
variable [Tb]
variable {α β γ δ ε ρ κ θ : Type}
section
variable {X : Cx} {e c a b : Expr} {pos p : Pos} {Γ Γ1 Γ2 Γ' : List Slot}
theorem o_catA {K : PySem.W.Frag} {R : Ty α} {x y : List α} (hz : x.length + y.length ≤ sizeLine) : Op2 (rCatA K) (pu (tT K R) x) (pu (tT K R) y) (pu (tT K R) (x ++ y)) :=
  op2_new fun B H v u s h1 h2 Q k1 k2 => by
    obtain ⟨a, vs, e, z, r⟩ := h1
    obtain ⟨b, us, e2, z2, r2⟩ := h2
    refine ⟨a, b, vs, us, e, e2, same_sqt s z, same_sqt s z2, by rw [paired_len r, paired_len r2]; exact hz, fun hv => ?_, fun _ hu => ?_, fun _ _ p hp => ?_⟩
    · have : x = [] := by have := paired_len r; rw [hv] at this; exact List.eq_nil_of_length_eq_zero this.symm
      subst this
      exact k2 _ ⟨b, us, rfl, z2, r2⟩
    · have : y = [] := by have := paired_len r2; rw [hu] at this; exact List.eq_nil_of_length_eq_zero this.symm
      subst this
      rw [List.append_nil] at k2
      exact k2 _ ⟨a, vs, rfl, z, r⟩
    · exact k1 p _ hp fun B' s' hB => ⟨p, _, rfl, sqt_new hB, paired_app (paired_mono (fun _ _ w => R.mono s' w) r) (paired_mono (fun _ _ w => R.mono s' w) r2)⟩
theorem x_catT {R : Ty α} {x y : List α} (ha : EX X a Γ (pu (tT X.K R) x) Γ1) (hb : EX X b Γ1 (pu (tT X.K R) y) Γ2) (hz : x.length + y.length ≤ sizeLine) : EX X (.BinOp a .Add b pos) Γ (pu (tT X.K R) (x ++ y)) Γ2 := ex_bin (pe_op op_catA peR peR) ha hb (o_catA hz)
theorem paired_rev {F : V → α → Prop} : ∀ {vs : List V} {xs : List α}, Paired F vs xs → Paired F vs.reverse xs.reverse
  | _, _, .nil => .nil
  | _, _, .cons h r => by rw [List.reverse_cons, List.reverse_cons]; exact paired_app (paired_rev r) (.cons h .nil)
theorem x_revL {R : Ty α} {S : Ty (List α)} {xs : List α} {k : Nat} {p1 p2 p3 : Pos} (q : SeqL X.K S R) (ha : EX X a Γ (pu S xs) Γ1) : EX X (.Subscript a (.Slice none none (some (.UnaryOp .USub (.Constant (.int 1) k p1) p2)) p3) pos) Γ (ol R xs.reverse) Γ1 := by
  intro T _ τ σ s hl E Q hQ
  refine re_of (pe_revL peR) ?_
  refine ha T τ σ s hl E _ fun v s1 E1 l1 e1 => ?_
  obtain ⟨a', vs, e, z, r⟩ := q.get (pu_top E1)
  obtain ⟨E2, e2⟩ := E1.pop
  refine ⟨a', vs, e, Same.seq E1.sub z, fun p hp => ?_⟩
  obtain ⟨E4, e4⟩ := E2.pushO (o := some (.ref p)) (ob := .lst vs.reverse) hp (ol R xs.reverse) ⟨p, _, rfl, rfl, paired_rev r⟩
  exact hQ _ _ E4 l1 ((e1.trans e2).trans e4)
theorem o_slT {K : PySem.W.Frag} {R : Ty α} {xs ys : List α} {l u : Option Int} (h : ∀ (F : V → α → Prop) vs, Paired F vs xs → Paired F (cutV vs l u) ys) (hw : ∀ vs : List V, HT.sIx vs.length 0 l = 0 ∧ HT.sIx vs.length vs.length u = vs.length → cutV vs l u = vs) : Op1 (fun v H Q => rSlA K v l u H Q) (pu (tT K R) xs) (pu (tT K R) ys) :=
  op1_new fun B H v s h1 Q k1 k2 => by
    obtain ⟨a, vs, e, z, r⟩ := h1
    refine ⟨a, vs, e, same_sqt s z, fun q => ?_, fun _ p hp => ?_⟩
    · have r2 := h _ _ r
      rw [hw vs q] at r2
      exact k2 _ ⟨a, vs, rfl, z, r2⟩
    · exact k1 p _ hp fun B' s' hB => ⟨p, _, rfl, sqt_new hB, h _ _ (paired_mono (fun _ _ w => R.mono s' w) r)⟩
theorem cut_whole {vs : List V} {l u : Option Int} (h : HT.sIx vs.length 0 l = 0 ∧ HT.sIx vs.length vs.length u = vs.length) : cutV vs l u = vs := by
  unfold cutV
  rw [h.1, h.2]
  simp
theorem x_dropT {R : Ty α} {xs : List α} {i : Int} {p2 : Pos} (ha : EX X a Γ (pu (tT X.K R) xs) Γ1) (hb : EX X b Γ1 (pu tI i) Γ1) (h0 : 0 ≤ i) : EX X (.Subscript a (.Slice (some b) none none p2) pos) Γ (pu (tT X.K R) (xs.drop i.toNat)) Γ1 :=
  ex_sl sl_tupA ha (po_i hb) po_no (o_slT (fun _ _ r => cut_drop r h0) fun _ => cut_whole)
theorem x_takeT {R : Ty α} {xs : List α} {i : Int} {p2 : Pos} (ha : EX X a Γ (pu (tT X.K R) xs) Γ1) (hb : EX X b Γ1 (pu tI i) Γ1) (h0 : 0 ≤ i) : EX X (.Subscript a (.Slice none (some b) none p2) pos) Γ (pu (tT X.K R) (xs.take i.toNat)) Γ1 :=
  ex_sl sl_tupA ha po_no (po_i hb) (o_slT (fun _ _ r => cut_take r h0) fun _ => cut_whole)
end
end Fw

namespace Fw
open PySem L2
variable [Tb]
variable {α β γ δ ε ρ κ θ : Type}
/-! ## set(xs), xs a list or a tuple -/
def rSetQ (K : PySem.W.Frag) (w : World) : List V → Hp → VK → Prop := fun vs H Q => rSetL K w vs H Q ∨ rSetT K w vs H Q
theorem cr_setQ {X : Cx} (hc : X.calm = true) : CallR X (.type "set") (rSetQ X.K X.w) := by
  intro pins s σ H vs us Q I r h
  rcases h with h | h
  · exact cr_setL hc pins s σ H vs us Q I r h
  · exact cr_setT hc pins s σ H vs us Q I r h
theorem n_setQ {K : PySem.W.Frag} {w : World} {S : Ty (List Int)} {xs : List Int} (q : SeqA K S tI) (hb : xs.length + 1 < scanBound) : OpN (rSetQ K w) [pu S xs] (os w xs) := by
  refine opN_1 fun σ Γ s v E Q hQ => ?_
  obtain ⟨a, vs, e, z, r⟩ := q.get (pu_top E)
  rw [paired_int r] at z
  obtain ⟨E2, e2⟩ := E.pop
  have k : ∀ p c, c ≤ xs.length → s.H p = none → Q (.ref p) (upd s.H p (SetO w p (fun k => decide (k ∈ xs)) c)) := fun p c hc hp => by
    obtain ⟨E4, e4⟩ := E2.pushO (o := some (.ref p)) (ob := SetO w p (fun k => decide (k ∈ xs)) c) hp (os w xs) ⟨p, c, rfl, hc, rfl⟩
    exact hQ _ _ E4 (e2.trans e4)
  rcases z with z | z
  · exact .inl ⟨a, xs, by rw [e], Same.seq E.sub z, hb, k⟩
  · exact .inr ⟨a, xs, by rw [e], same_sqt E.sub z, hb, k⟩
/-- a tuple of two owned lists -/
def o2 (K : PySem.W.Frag) (R : Ty α) (R' : Ty β) (z : List α × List β) : Slot := ⟨fun B F o => ∃ t p q us vs, o = some (.ref t) ∧ B t = some (.tup [.ref p, .ref q]) ∧ p ≠ q ∧ F = un2 (one p (.lst us)) (one q (.lst vs)) ∧ Paired (R.rep B) us z.1 ∧ Paired (R'.rep B) vs z.2,
  fun s h => let ⟨t, p, q, us, vs, e, h1, h2, f, r1, r2⟩ := h; ⟨t, p, q, us, vs, e, s _ _ h1, h2, f, paired_mono (fun _ _ z => R.mono s z) r1, paired_mono (fun _ _ z => R'.mono s z) r2⟩⟩
theorem one_off {p a : Addr} {o : HO} (h : a ≠ p) : one p o a = none := by unfold one; rw [if_neg h]
theorem o2_at {p q : Addr} {us vs : List V} (h : p ≠ q) : (un2 (one p (.lst us)) (one q (.lst vs))) p = some (.lst us) ∧ (un2 (one p (.lst us)) (one q (.lst vs))) q = some (.lst vs) :=
  ⟨un2_l one_self, by rw [un2_r (one_off (Ne.symm h))]; exact one_self⟩
theorem o2_pure {K : PySem.W.Frag} {R : Ty α} {R' : Ty β} {z : List α × List β} {B F B' : Hp} {o : Option V} (h : (o2 K R R' z).p B F o) (s1 : Same B B') (s2 : Same F B') : (pu (tP2 K (tLs K R) (tLs K R')) z).p B' em o := by
  obtain ⟨t, p, q, us, vs, e, h1, h2, f, r1, r2⟩ := h
  rw [f] at s2
  obtain ⟨g1, g2⟩ := o2_at (us := us) (vs := vs) h2
  exact ⟨rfl, _, e, t, _, _, rfl, .inl (.inl (s1 _ _ h1)), ⟨p, us, rfl, s2 _ _ g1, paired_mono (fun _ _ z => R.mono s1 z) r1⟩, ⟨q, vs, rfl, s2 _ _ g2, paired_mono (fun _ _ z => R'.mono s1 z) r2⟩⟩
/-- one of two owned lists, known by their places -/
def al (K : PySem.W.Frag) (R : Ty α) (p q : Addr) (k : Int) (z : List α × List α) : Slot := ⟨fun B F o => ∃ us vs, o = some (.ref (if k = 0 then p else q)) ∧ p ≠ q ∧ F = un2 (one p (.lst us)) (one q (.lst vs)) ∧ Paired (R.rep B) us z.1 ∧ Paired (R.rep B) vs z.2,
  fun s h => let ⟨us, vs, e, h2, f, r1, r2⟩ := h; ⟨us, vs, e, h2, f, paired_mono (fun _ _ z => R.mono s z) r1, paired_mono (fun _ _ z => R.mono s z) r2⟩⟩
def pick2 (k : Int) (z : List α × List α) : List α := if k = 0 then z.1 else z.2
theorem al_pure {K : PySem.W.Frag} {R : Ty α} {p q : Addr} {k : Int} {z : List α × List α} {B F B' : Hp} {o : Option V} (h : (al K R p q k z).p B F o) (s1 : Same B B') (s2 : Same F B') : (pu (tLs K R) (pick2 k z)).p B' em o := by
  obtain ⟨us, vs, e, h2, f, r1, r2⟩ := h
  rw [f] at s2
  obtain ⟨g1, g2⟩ := o2_at (us := us) (vs := vs) h2
  unfold pick2
  by_cases q : k = 0
  · rw [if_pos q] at e ⊢
    exact ⟨rfl, _, e, _, us, rfl, s2 _ _ g1, paired_mono (fun _ _ z => R.mono s1 z) r1⟩
  · rw [if_neg q] at e ⊢
    exact ⟨rfl, _, e, _, vs, rfl, s2 _ _ g2, paired_mono (fun _ _ z => R.mono s1 z) r2⟩
/-! ## reading what is owned: frozen meanwhile -/
inductive Fz (K : PySem.W.Frag) : List Slot → List Slot → Prop
  | nil : Fz K [] []
  | pu {α : Type} {R : Ty α} {x : α} {Γ Γ' : List Slot} : Fz K Γ Γ' → Fz K (pu R x :: Γ) (pu R x :: Γ')
  | un {S : Slot} {Γ Γ' : List Slot} : Fz K Γ Γ' → Fz K (S :: Γ) (un :: Γ')
  | ol {α : Type} {R : Ty α} {xs : List α} {Γ Γ' : List Slot} : Fz K Γ Γ' → Fz K (ol R xs :: Γ) (pu (tLs K R) xs :: Γ')
  | o2 {α β : Type} {R : Ty α} {R' : Ty β} {z : List α × List β} {Γ Γ' : List Slot} : Fz K Γ Γ' → Fz K (o2 K R R' z :: Γ) (pu (tP2 K (tLs K R) (tLs K R')) z :: Γ')
  | al {α : Type} {R : Ty α} {p q : Addr} {k : Int} {z : List α × List α} {Γ Γ' : List Slot} : Fz K Γ Γ' → Fz K (al K R p q k z :: Γ) (pu (tLs K R) (pick2 k z) :: Γ')
theorem Fz.len {K : PySem.W.Frag} {Γ Γ' : List Slot} (h : Fz K Γ Γ') : Γ'.length = Γ.length := by
  induction h with
  | nil => rfl
  | _ _ ih => simp [ih]
theorem Fz.at {K : PySem.W.Frag} {Γ Γ' : List Slot} (h : Fz K Γ Γ') : ∀ (i : Nat) (S' : Slot), Γ'[i]? = some S' → ∃ S, Γ[i]? = some S ∧ ∀ B F B' o, S.p B F o → Same B B' → Same F B' → S'.p B' em o := by
  induction h with
  | nil => intro i S' h; simp at h
  | pu _ ih =>
    intro i S' h
    cases i with
    | zero => cases h; exact ⟨_, rfl, fun B F B' o q s1 _ => ⟨rfl, q.2.choose, q.2.choose_spec.1, Ty.mono _ s1 q.2.choose_spec.2⟩⟩
    | succ i => exact ih i S' h
  | un _ ih =>
    intro i S' h
    cases i with
    | zero => cases h; exact ⟨_, rfl, fun B F B' o q _ _ => rfl⟩
    | succ i => exact ih i S' h
  | ol _ ih =>
    intro i S' h
    cases i with
    | zero => cases h; exact ⟨_, rfl, fun B F B' o q s1 s2 => ol_pure q s1 s2 K⟩
    | succ i => exact ih i S' h
  | o2 _ ih =>
    intro i S' h
    cases i with
    | zero => cases h; exact ⟨_, rfl, fun B F B' o q s1 s2 => o2_pure q s1 s2⟩
    | succ i => exact ih i S' h
  | al _ ih =>
    intro i S' h
    cases i with
    | zero => cases h; exact ⟨_, rfl, fun B F B' o q s1 s2 => al_pure q s1 s2⟩
    | succ i => exact ih i S' h
/-- the footprints that P names -/
noncomputable def pickF (s : Sta) (P : Nat → Prop) : Hp := fun a => by
  classical
  exact if h : ∃ i, P i ∧ s.F i a ≠ none then s.F h.choose a else none
theorem pickF_at {s : Sta} {σ : St} {Γ : List Slot} {P : Nat → Prop} (E : EnvOk s σ Γ) (i : Nat) (hi : P i) : Same (s.F i) (pickF s P) := fun a u h => by
  unfold pickF
  have hx : ∃ i, P i ∧ s.F i a ≠ none := ⟨i, hi, by rw [h]; simp⟩
  rw [dif_pos hx]
  rw [E.disF _ _ a hx.choose_spec.2 (by rw [h]; simp)]
  exact h
theorem pickF_in {s : Sta} {P : Nat → Prop} {a : Addr} {u : HO} (h : pickF s P a = some u) : ∃ i, P i ∧ s.F i a = some u := by
  unfold pickF at h
  by_cases hx : ∃ i, P i ∧ s.F i a ≠ none
  · rw [dif_pos hx] at h; exact ⟨_, hx.choose_spec.1, h⟩
  · rw [dif_neg hx] at h; cases h
theorem pickF_H {s : Sta} {σ : St} {Γ : List Slot} {P : Nat → Prop} (E : EnvOk s σ Γ) : Same (pickF s P) s.H := fun a u h => by
  obtain ⟨i, _, h⟩ := pickF_in h
  exact E.subF i a u h
/-- lent: what P names lies in the pure region; the tables at j stay -/
noncomputable def lentS (s : Sta) (P : Nat → Prop) (jj : Nat) : Sta := ⟨un2 (pickF s P) s.B, s.H, fun i => if i = jj then s.F i else em⟩
theorem EnvOk.lend {s : Sta} {σ τ : St} {Γ Γ' T : List Slot} {P : Nat → Prop} {j : Nat} (E : EnvOk s (σ ++ τ) (Γ ++ T)) (hl : σ.length = Γ.length) (hj : T[j]? = some tabS) (hP : ¬ P (Γ.length + j)) (hlen : Γ'.length = Γ.length)
    (k : ∀ i S', Γ'[i]? = some S' → ∃ S, Γ[i]? = some S ∧ ∀ B F B' o, S.p B F o → Same B B' → (P i → Same F B') → S'.p B' em o) :
    EnvOk (lentS s P (Γ.length + j)) (σ ++ τ) (Γ' ++ (List.replicate T.length un).set j tabS) := by
  have hj2 := (List.getElem?_eq_some_iff.mp hj).1
  have lt : τ.length = T.length := by have := E.len; simp at this; omega
  have s1 : Same s.B (un2 (pickF s P) s.B) := same_r (pickF_H E) E.sub
  have key : ∀ i a, (if i = Γ.length + j then s.F i else em) a ≠ none → i = Γ.length + j ∧ s.F i a ≠ none := fun i a h => by
    by_cases q : i = Γ.length + j
    · rw [if_pos q] at h; exact ⟨q, h⟩
    · rw [if_neg q] at h; exact absurd rfl h
  have hjT : (Γ ++ T)[Γ.length + j]? = some tabS := by rw [List.getElem?_append_right (by omega)]; simpa using hj
  refine ⟨same_un2 (pickF_H E) E.sub, fun i a u h => ?_, fun i a h => ?_, fun i m a h1 h2 => (key i a h1).1.trans (key m a h2).1.symm, by simp [hl, hlen, lt], fun i S' h => ?_, fun i h => ?_⟩
  · have h' : (if i = Γ.length + j then s.F i else em) a = some u := h
    by_cases q : i = Γ.length + j
    · rw [if_pos q] at h'; exact E.subF i a u h'
    · rw [if_neg q] at h'; cases h'
  · obtain ⟨q, z⟩ := key i a h
    show un2 (pickF s P) s.B a = none
    have e : pickF s P a = none := by
      cases e : pickF s P a with
      | none => rfl
      | some u =>
        obtain ⟨m, hm, hF⟩ := pickF_in e
        have := E.disF m i a (by rw [hF]; simp) z
        rw [this, q] at hm
        exact absurd hm hP
    rw [un2_r e]
    exact E.dis i a z
  · show S'.p (un2 (pickF s P) s.B) (if i = Γ.length + j then s.F i else em) _
    by_cases hi : i < Γ'.length
    · rw [List.getElem?_append_left hi] at h
      obtain ⟨S, hS, k2⟩ := k i S' h
      have hi2 := (List.getElem?_eq_some_iff.mp hS).1
      rw [if_neg (by omega)]
      exact k2 _ _ _ _ (E.sl i S (by rw [List.getElem?_append_left hi2]; exact hS)) s1 fun hb a u hu => un2_l (pickF_at E i hb a u hu)
    · rw [List.getElem?_append_right (by omega)] at h
      by_cases q : i = Γ.length + j
      · subst q
        rw [show Γ.length + j - Γ'.length = j by omega, List.getElem?_set_self (by simpa using hj2)] at h
        cases h
        rw [if_pos rfl]
        exact E.sl _ tabS hjT
      · rw [if_neg q]
        rw [List.getElem?_set_ne (by omega)] at h
        have : S' = un := (List.mem_replicate.mp (List.mem_of_getElem? h)).2
        subst this
        rfl
  · show (if i = Γ.length + j then s.F i else em) = em
    simp at h
    rw [if_neg (by omega)]
/-- given back: what was, in the grown heap; B' holds what is new -/
theorem EnvOk.back {s s1 : Sta} {σ σ1 τ : St} {Γ Γ1 T : List Slot} {P : Nat → Prop} {j : Nat} {B' : Hp} (E : EnvOk s (σ ++ τ) (Γ ++ T)) (hj : T[j]? = some tabS) (E1 : EnvOk s1 ((σ ++ τ) ++ σ1) (Γ1)) (h1 : Γ1[Γ.length + j]? = some tabS)
    (e : Evo (lentS s P (Γ.length + j)) s1) (b1 : Same s.B B') (b2 : Same B' s1.H) (b3 : ∀ i a, i ≠ Γ.length + j → s.F i a ≠ none → B' a = none) (b4 : ∀ a, B' a ≠ none → s1.B a ≠ none) (b5 : ∀ a, B' a ≠ none → s.B a ≠ none ∨ s.H a = none ∨ ∃ i, s.F i a ≠ none) :
    EnvOk ⟨B', s1.H, fun i => if i = Γ.length + j then s1.F i else s.F i⟩ (σ ++ τ) (Γ ++ T) ∧ Evo s ⟨B', s1.H, fun i => if i = Γ.length + j then s1.F i else s.F i⟩ := by
  have hj2 := (List.getElem?_eq_some_iff.mp hj).1
  have hjT : (Γ ++ T)[Γ.length + j]? = some tabS := by rw [List.getElem?_append_right (by omega)]; simpa using hj
  have hF : ∀ a, s.F (Γ.length + j) a = none → ∀ i, (lentS s P (Γ.length + j)).F i a = none := fun a h i => by
    show (if i = Γ.length + j then s.F i else em) a = none
    by_cases q : i = Γ.length + j
    · rw [if_pos q, q]; exact h
    · rw [if_neg q]; rfl
  have hk : ∀ a u, s.H a = some u → s.F (Γ.length + j) a = none → s1.H a = some u := fun a u h n => e.fr a u h (hF a n)
  have old : ∀ a i, (lentS s P (Γ.length + j)).F i a ≠ none → s.F (Γ.length + j) a ≠ none := fun a i h => by
    have h' : (if i = Γ.length + j then s.F i else em) a ≠ none := h
    by_cases q : i = Γ.length + j
    · rw [if_pos q, q] at h'; exact h'
    · rw [if_neg q] at h'; exact absurd rfl h'
  have nj : ∀ i a, i ≠ Γ.length + j → s.F i a ≠ none → s.F (Γ.length + j) a = none := fun i a q h => by
    cases r : s.F (Γ.length + j) a with
    | none => rfl
    | some u => exact absurd (E.disF i _ a h (by rw [r]; simp)) q
  have sp : ∀ i a, (if i = Γ.length + j then s1.F i else s.F i) a ≠ none → (i = Γ.length + j ∧ s1.F i a ≠ none) ∨ (i ≠ Γ.length + j ∧ s.F i a ≠ none) := fun i a h => by
    by_cases q : i = Γ.length + j
    · rw [if_pos q] at h; exact .inl ⟨q, h⟩
    · rw [if_neg q] at h; exact .inr ⟨q, h⟩
  have cross : ∀ i m a, i = Γ.length + j → s1.F i a ≠ none → m ≠ Γ.length + j → s.F m a ≠ none → False := fun i m a q h q2 h2 => by
    rcases e.nf a i h with z | ⟨i', z⟩
    · have z' : s.H a = none := z
      obtain ⟨u, hu⟩ := ex_of_ne h2
      rw [E.subF m a u hu] at z'
      cases z'
    · exact absurd (nj m a q2 h2) (old a i' z)
  refine ⟨⟨b2, fun i a u h => ?_, fun i a h => ?_, fun i m a h1 h2 => ?_, E.len, fun i S h => ?_, fun i h => ?_⟩, ⟨b1, fun a o h n => hk a o h (n _), fun a h => e.dom a h, b5, fun a i h => ?_⟩⟩
  · have h' : (if i = Γ.length + j then s1.F i else s.F i) a = some u := h
    by_cases q : i = Γ.length + j
    · rw [if_pos q] at h'; exact E1.subF i a u h'
    · rw [if_neg q] at h'; exact hk a u (E.subF i a u h') (nj i a q (by rw [h']; simp))
  · rcases sp i a h with ⟨q, z⟩ | ⟨q, z⟩
    · show B' a = none
      cases r : B' a with
      | none => rfl
      | some u => exact absurd (E1.dis i a z) (b4 a (by rw [r]; simp))
    · exact b3 i a q z
  · rcases sp i a h1 with ⟨q, z⟩ | ⟨q, z⟩
    · rcases sp m a h2 with ⟨q', z'⟩ | ⟨q', z'⟩
      · omega
      · exact absurd (cross i m a q z q' z') id
    · rcases sp m a h2 with ⟨q', z'⟩ | ⟨q', z'⟩
      · exact absurd (cross m i a q' z' q z) id
      · exact E.disF i m a z z'
  · show S.p B' (if i = Γ.length + j then s1.F i else s.F i) _
    by_cases q : i = Γ.length + j
    · subst q
      rw [hjT] at h; cases h
      rw [if_pos rfl]
      have z := E1.sl _ tabS h1
      have hlt : Γ.length + j < (σ ++ τ).length := by have := E.len; rw [this]; simp; exact hj2
      rw [List.getElem?_append_left hlt] at z
      exact z
    · rw [if_neg q]
      exact S.mono b1 (E.sl i S h)
  · show (if i = Γ.length + j then s1.F i else s.F i) = em
    simp at h
    rw [if_neg (by omega)]
    exact E.out i (by simp; omega)
  · rcases sp i a h with ⟨q, z⟩ | ⟨_, z⟩
    · rcases e.nf a i z with y | ⟨i', y⟩
      · exact .inl y
      · exact .inr ⟨_, old a i' y⟩
    · exact .inr ⟨i, z⟩
theorem lent_b {s s1 : Sta} {σ : St} {Γ : List Slot} {P : Nat → Prop} {jj : Nat} (E : EnvOk s σ Γ) (e : Evo (lentS s P jj) s1) : Same s.B s1.B := fun a u h => e.b a u (same_r (pickF_H E) E.sub a u h)
theorem hasTab_set {n j : Nat} (h : j < n) : HasTab ((List.replicate n un).set j tabS) := ⟨List.mem_iff_getElem?.mpr ⟨j, by rw [List.getElem?_set_self (by simpa using h)]⟩⟩
/-- a type whose values say all -/
def Flat (R : Ty α) : Prop := ∀ (B B' : Hp) (v : V) (a : α), R.rep B v a → R.rep B' v a
theorem flat_I : Flat tI := fun _ _ _ _ h => h
theorem flat_B : Flat tB := fun _ _ _ _ h => h
theorem flat_N : Flat tN := fun _ _ _ _ h => h
theorem flat_S : Flat tS := fun _ _ _ _ h => h
section
variable {X : Cx} {e : Expr} {Γ Γf Γg : List Slot} {R : Ty α} {y : α} {b : Bool}
theorem x_bor (z : Fz X.K Γ Γf) (fl : Flat R) (h : EX X e Γf (pu R y) Γg) : EX X e Γ (pu R y) Γ := by
  intro T _ τ σ s hl E Q hQ
  obtain ⟨j, hj⟩ := List.mem_iff_getElem?.mp (HasTab.mem (T := T))
  have hj2 := (List.getElem?_eq_some_iff.mp hj).1
  have E' := E.lend (P := fun i => i ≠ Γ.length + j) hl hj (fun q => q rfl) z.len fun i S' h => by
    obtain ⟨S, hS, k⟩ := z.at i S' h
    have hi := (List.getElem?_eq_some_iff.mp hS).1
    exact ⟨S, hS, fun B F B' o q s1 s2 => k B F B' o q s1 (s2 (by omega))⟩
  haveI := hasTab_set hj2
  refine h ((List.replicate T.length un).set j tabS) τ σ _ (by rw [z.len]; exact hl) E' Q fun v s1 E1 l1 e1 => ?_
  have hy := pu_top E1
  have hb := lent_b E e1
  obtain ⟨E2, e2⟩ := E.back hj E1 (by rw [List.getElem?_append_left (by simp; have := z.len; omega), List.getElem?_append_right (by have := z.len; omega), show Γ.length + j - Γg.length = j by have := z.len; omega, List.getElem?_set_self (by simpa using hj2)]) e1 (fun _ _ h => h)
    (fun a u h => E1.sub a u (hb a u h)) (fun i a _ h => E.dis i a h) (fun a h => by obtain ⟨u, hu⟩ := ex_of_ne h; rw [hb a u hu]; simp) (fun a h => .inl h)
  have q := hQ v _ (E2.push0 (pu R y) ⟨rfl, v, rfl, fl _ _ _ _ hy⟩) rfl e2
  exact q
theorem t_bor (z : Fz X.K Γ Γf) (h : ET X e Γf b Γg) : ET X e Γ b Γ := by
  intro T _ τ σ s hl E Q hQ
  obtain ⟨j, hj⟩ := List.mem_iff_getElem?.mp (HasTab.mem (T := T))
  have hj2 := (List.getElem?_eq_some_iff.mp hj).1
  have E' := E.lend (P := fun i => i ≠ Γ.length + j) hl hj (fun q => q rfl) z.len fun i S' h => by
    obtain ⟨S, hS, k⟩ := z.at i S' h
    have hi := (List.getElem?_eq_some_iff.mp hS).1
    exact ⟨S, hS, fun B F B' o q s1 s2 => k B F B' o q s1 (s2 (by omega))⟩
  haveI := hasTab_set hj2
  refine h ((List.replicate T.length un).set j tabS) τ σ _ (by rw [z.len]; exact hl) E' Q fun s1 E1 l1 e1 => ?_
  have hb := lent_b E e1
  obtain ⟨E2, e2⟩ := E.back (σ1 := []) hj (by rw [List.append_nil]; exact E1) (by rw [List.getElem?_append_right (by have := z.len; omega), show Γ.length + j - Γg.length = j by have := z.len; omega, List.getElem?_set_self (by simpa using hj2)]) e1 (fun _ _ h => h)
    (fun a u h => E1.sub a u (hb a u h)) (fun i a _ h => E.dis i a h) (fun a h => by obtain ⟨u, hu⟩ := ex_of_ne h; rw [hb a u hu]; simp) (fun a h => .inl h)
  have q := hQ _ E2 rfl e2
  exact q
/-- C(e, ..) as a pure instance -/
theorem x_makeI {A : Type} {pre : A → Prop} {W0 W1 : A → Addr → Slot} {Gr : A → List Slot} {S : A → Slot} {C : Addr} {k : Nat} {f : Addr} {fd : FuncData} {ps : List Str} {fx : Str} {p pos : Pos} {e : Expr} {es : List Expr} {Γ1 Ss : List Slot} {fl : α → List (Str × Fld)} {a : α} (M : Mk X.K C f) (F : FnOk X.prog X.w X.K X.mg X.base CX0 k f fd ps (spM pre W0 Gr W1 S)) (hr : Room (k + 1) X.A) (hm : X.mg fx = some (.ref C))
    (hb : Binds X.K fd ps []) (x : A) (hx : pre x) (ha : EA X (e :: es) Γ Ss Γ1) (hG : Ss = Gr x) (h0 : W0 x = oi C []) (hS : S x = pu tN ()) (hW : W1 x = oi C (fl a)) (hg : Gl X fx := by rfl) (hdb : (fx == ("__debug__" : Str)) = false := by decide)
    (he : starEach (e :: es) X.env = (false, eval e X.env) :: starEach es X.env := by rfl) (hpl : (backTo pos (starEach es X.env)).any (·.1) = false := by rfl) : EX X (.Call (.Name fx p) (e :: es) [] pos) Γ (pu (tObj C fl) a) Γ1 := by
  have h := x_make (p := p) (pos := pos) M F hr hm hb x hx ha hG h0 hS hg hdb he hpl
  rw [hW] at h
  exact x_frzI h rfl
end
/-! ## isinstance of own instances -/
structure CI (K : PySem.W.Frag) (C : Addr) : Prop where
  ha : PySem.W.findIn K (.ref C) "__class__" = some (some (.builtin "object.__class__"))
  hn : PySem.W.specialIn K (.builtin "object.__class__") "__get__" = some (some (.builtin "getset_descriptor.__get__"))
  htk : PySem.W.takesIn K (.builtin "object.__class__") = some true
  hm : PySem.W.mroIn K C (.type "object") = some true
theorem typ_ins {K : PySem.W.Frag} {C : Addr} {fl : α → List (Str × Fld)} (c : Cls K C) (i : CI K C) : Typ K (tObj C fl) (.ref C) := fun {B H v a} h s => by
  obtain ⟨x, dx, vs, e, h1, h2, r⟩ := h
  subst e
  exact .base (.ins (s _ _ h1) c i.ha i.hn i.htk i.hm)
theorem typ_tP2 {K : PySem.W.Frag} {R : Ty α} {R' : Ty β} : Typ K (tP2 K R R') (.type "tuple") := fun {B H v a} h s => by
  obtain ⟨p, v1, v2, e, q, _⟩ := h
  subst e
  rcases q with (q | ⟨o, q⟩) | ⟨o, its, n, q, hc, _⟩
  · exact .base (.tup (s _ _ q))
  · exact .fTuple (s _ _ q)
  · exact .kTuple q hc
/-- f(e, ..) of the text, what it gives told outright -/
theorem x_callE {A : Type} {pre : A → Prop} {G : A → List Slot} {S : A → Slot} {X : Cx} {k : Nat} {f : Addr} {fd : FuncData} {ps : List Str} {fx : Str} {p pos : Pos} {e : Expr} {es : List Expr} {Γ Γ1 Ss : List Slot} {S' : Slot} (F : FnOk X.prog X.w X.K X.mg X.base CX0 k f fd ps (spP pre G S)) (hr : Room k X.A) (hm : X.mg fx = some (.ref f)) (hk : PySem.W.keepIn X.K (.ref f) = true)
    (hb : Binds X.K fd ps []) (x : A) (hx : pre x) (ha : EA X (e :: es) Γ Ss Γ1) (hG : Ss = G x) (hS : S x = S') (hg : Gl X fx := by rfl) (hdb : (fx == ("__debug__" : Str)) = false := by decide)
    (he : starEach (e :: es) X.env = (false, eval e X.env) :: starEach es X.env := by rfl) (hpl : (backTo pos (starEach es X.env)).any (·.1) = false := by rfl) : EX X (.Call (.Name fx p) (e :: es) [] pos) Γ S' Γ1 :=
  hS ▸ x_call (CX := CX0) F hr hm hk hb x hx ha hG hg hdb he hpl
/-! ## int literals -/
def litsOf : List Expr → Option (List Int)
  | [] => some []
  | .Constant (.int i) _ _ :: es => (litsOf es).map (i :: ·)
  | _ => none
theorem ea_lits {X : Cx} {Γ : List Slot} : ∀ {es : List Expr} {ns : List Int}, litsOf es = some ns → EA X es Γ (ns.map (pu tI)) Γ
  | [], ns, h => by cases h; exact ea_nil
  | e :: es, ns, h => by
    unfold litsOf at h
    split at h
    · rename_i h0; cases h0
    · rename_i i k p es' h0
      cases h0
      cases q : litsOf es with
      | none => rw [q] at h; cases h
      | some ms =>
        rw [q] at h
        cases h
        exact ea_cons x_int (ea_lits q)
    · cases h
end Fw

namespace Fw
open PySem L2
variable [Tb]
variable {α β γ δ ε ρ κ θ : Type}
/-! ## x += e, ints -/
section
variable {X : Cx} {e a b : Expr} {x : Str} {pos pos' px apos cpos : Pos} {Γ Γ1 Γ2 : List Slot} {R : Ty α} {xs ys : List α}
theorem s1_aug {i : Nat} {op : Operator} {g : Int → Int → Int} {n m : Int} (ho : PIp X op (ipI g)) (hN : X.N.Nodup) (hi : X.N[i]? = some x) (hx : Loc X.env.scope x) (hΓ : Γ[i]? = some (pu tI n)) (he : EX X e Γ (pu tI m) Γ1)
    (hf : X.fn x = true ∨ X.env.scope.names.lookup x = some .local := by first | exact .inl rfl | exact .inr rfl) :
    S1 X (.AugAssign (.Name x pos') op e pos) Γ (fun r => r = .nx (Γ1.set i (pu tI (g n m)))) := by
  intro T _ τ σ s hl E D hD
  refine rs_of (ps_aug hN hi hx peR ho hf) ?_
  have hlt := (List.getElem?_eq_some_iff.mp hΓ).1
  obtain ⟨_, v, e0, r0⟩ := E.sl i _ (by rw [List.getElem?_append_left hlt]; exact hΓ)
  rw [List.getElem?_append_left (by omega)] at e0
  have hσ : σ[i]? = some (some v) := by
    rw [List.getElem?_eq_getElem (by omega)] at e0 ⊢
    exact congrArg some e0
  refine ⟨v, hσ, ?_⟩
  refine he T τ σ s hl E _ fun u s1 E1 l1 e1 => ?_
  have hu : u = .int m := pu_top E1
  have hv : v = .int n := r0
  obtain ⟨E2, e2⟩ := E1.pop
  refine ⟨n, m, hv, hu, ?_⟩
  have E3 := E2.push0 (o := some (.int (g n m))) (pu tI (g n m)) ⟨rfl, _, rfl, rfl⟩
  obtain ⟨E4, e4⟩ := E3.store (i := i) (by simp; omega)
  rw [set_app (by omega), List.set_append_left _ _ (by omega)] at E4
  have q := hD _ rfl (σ.set i (some (.int (g n m)))) _ (by simp; omega) E4 ((e1.trans e2).trans e4)
  exact q
/-! ## owned lists read by name -/
theorem ol_at {s : Sta} {σ τ : St} {T : List Slot} {i : Nat} (E : EnvOk s (σ ++ τ) (Γ ++ T)) (hl : σ.length = Γ.length) (hi : Γ[i]? = some (ol R xs)) : ∃ p vs, σ[i]? = some (some (.ref p)) ∧ s.F i = one p (.lst vs) ∧ s.H p = some (.lst vs) ∧ Paired (R.rep s.B) vs xs := by
  have hlt := (List.getElem?_eq_some_iff.mp hi).1
  obtain ⟨p, vs, e0, f0, r0⟩ := E.sl i _ (by rw [List.getElem?_append_left hlt]; exact hi)
  rw [List.getElem?_append_left (by omega)] at e0
  refine ⟨p, vs, ?_, f0, E.subF i p _ (by rw [f0]; exact one_self), r0⟩
  rw [List.getElem?_eq_getElem (by omega)] at e0 ⊢
  exact congrArg some e0
/-- x[k] of an owned list -/
theorem x_ixO [Inhabited α] {i : Nat} {k : Int} (hi : Γ[i]? = some (ol R xs)) (hb : EX X b Γ (pu tI k) Γ) (hk : InIx xs.length k) (hN : X.N[i]? = some x := by rfl) (hv : Vis X.env.scope x := by first | exact Or.inl rfl | exact Or.inr (Or.inl rfl) | exact Or.inr (Or.inr rfl))
    (hd : (x == ("__debug__" : Str)) = false := by decide) (hcd : (x == ("__classdict__" : Str)) = false := by decide) (hs : PlainIx b := by exact fun _ _ => rfl) : EX X (.Subscript (.Name x px) b pos) Γ (pu R (ix xs k)) Γ := by
  intro T _ τ σ s hl E Q hQ
  refine re_of (pe_ix ix_list (pe_var hN hv hd hcd) peR hs) ?_
  obtain ⟨p, vs, hσ, f0, hp, r0⟩ := ol_at E hl hi
  refine ⟨.ref p, hσ, ?_⟩
  refine hb T τ σ s hl E _ fun u s1 E1 l1 e1 => ?_
  have hu : u = .int k := pu_top E1
  obtain ⟨E2, e2⟩ := E1.pop
  obtain ⟨p', us, hσ', f1, hp1, r1⟩ := ol_at E2 hl hi
  rw [hσ] at hσ'
  cases hσ'
  obtain ⟨w, g, f⟩ := ix_of r1 hk
  have q := hQ w _ (E2.push0 (pu R (ix xs k)) ⟨rfl, w, rfl, f⟩) rfl (e1.trans e2)
  exact ⟨p, us, k, w, rfl, hu, SqL.of hp1, g, q⟩
/-- the list of a slice of an owned list -/
theorem ex_slO {i : Nat} {lo hi' : Option Expr} {p2 : Pos} {l u : Option Int} (hi : Γ[i]? = some (ol R xs)) (hcut : ∀ (F : V → α → Prop) vs, Paired F vs xs → Paired F (cutV vs l u) ys)
    (hl' : ∃ tl, PO X lo tl ∧ ∀ (T : List Slot) [HasTab T] (τ σ : St) (s : Sta), σ.length = Γ.length → EnvOk s (σ ++ τ) (Γ ++ T) → ∀ Q : Option Int → Hp → Prop, (∀ s', EnvOk s' (σ ++ τ) (Γ ++ T) → Evo s s' → Q l s'.H) → tl σ s.H Q)
    (hu : ∃ tu, PO X hi' tu ∧ ∀ (T : List Slot) [HasTab T] (τ σ : St) (s : Sta), σ.length = Γ.length → EnvOk s (σ ++ τ) (Γ ++ T) → ∀ Q : Option Int → Hp → Prop, (∀ s', EnvOk s' (σ ++ τ) (Γ ++ T) → Evo s s' → Q u s'.H) → tu σ s.H Q)
    (hN : X.N[i]? = some x := by rfl) (hv : Vis X.env.scope x := by first | exact Or.inl rfl | exact Or.inr (Or.inl rfl) | exact Or.inr (Or.inr rfl))
    (hd : (x == ("__debug__" : Str)) = false := by decide) (hcd : (x == ("__classdict__" : Str)) = false := by decide) : EX X (.Subscript (.Name x px) (.Slice lo hi' none p2) pos) Γ (ol R ys) Γ := by
  intro T _ τ σ s hlen E Q hQ
  obtain ⟨tl, pl, hl'⟩ := hl'
  obtain ⟨tu, pu', hu⟩ := hu
  refine re_of (pe_slice sl_list (pe_var hN hv hd hcd) pl pu') ?_
  obtain ⟨p, vs, hσ, f0, hp, r0⟩ := ol_at E hlen hi
  refine ⟨.ref p, hσ, ?_⟩
  refine hl' _ _ σ s hlen E _ fun s2 E2 e2 => ?_
  refine hu _ _ σ s2 hlen E2 _ fun s3 E3 e3 => ?_
  obtain ⟨p', us, hσ', f1, hp1, r1⟩ := ol_at E3 hlen hi
  rw [hσ] at hσ'
  cases hσ'
  refine ⟨p, us, rfl, SqL.of hp1, fun q hq => ?_⟩
  obtain ⟨E4, e4⟩ := E3.pushO (o := some (.ref q)) (ob := .lst (cutV us l u)) hq (ol R ys) ⟨q, _, rfl, rfl, hcut _ _ r1⟩
  exact hQ _ _ E4 rfl ((e2.trans e3).trans e4)
theorem x_dropO {i : Nat} {k : Int} {p2 : Pos} (hi : Γ[i]? = some (ol R xs)) (hb : EX X b Γ (pu tI k) Γ) (h0 : 0 ≤ k) (hN : X.N[i]? = some x := by rfl) (hv : Vis X.env.scope x := by first | exact Or.inl rfl | exact Or.inr (Or.inl rfl) | exact Or.inr (Or.inr rfl))
    (hd : (x == ("__debug__" : Str)) = false := by decide) (hcd : (x == ("__classdict__" : Str)) = false := by decide) : EX X (.Subscript (.Name x px) (.Slice (some b) none none p2) pos) Γ (ol R (xs.drop k.toNat)) Γ :=
  ex_slO hi (fun _ _ r => cut_drop r h0) (po_i hb) po_no hN hv hd hcd
theorem x_takeO {i : Nat} {k : Int} {p2 : Pos} (hi : Γ[i]? = some (ol R xs)) (hb : EX X b Γ (pu tI k) Γ) (h0 : 0 ≤ k) (hN : X.N[i]? = some x := by rfl) (hv : Vis X.env.scope x := by first | exact Or.inl rfl | exact Or.inr (Or.inl rfl) | exact Or.inr (Or.inr rfl))
    (hd : (x == ("__debug__" : Str)) = false := by decide) (hcd : (x == ("__classdict__" : Str)) = false := by decide) : EX X (.Subscript (.Name x px) (.Slice none (some b) none p2) pos) Γ (ol R (xs.take k.toNat)) Γ :=
  ex_slO hi (fun _ _ r => cut_take r h0) po_no (po_i hb) hN hv hd hcd
/-- two lists put together: owned -/
theorem o_catO {K : PySem.W.Frag} {x y : List α} (hz : x.length + y.length ≤ sizeLine) : Op2 rCat (pu (tLs K R) x) (pu (tLs K R) y) (ol R (x ++ y)) := by
  intro σ Γ s v u E Q hQ
  obtain ⟨h1, h2⟩ := pu_top2 E
  obtain ⟨E2, e2⟩ := E.pop
  obtain ⟨E3, e3⟩ := E2.pop
  obtain ⟨a, vs, e, z, r⟩ := h1
  obtain ⟨b, us, e', z2, r2⟩ := h2
  refine ⟨a, b, vs, us, e, e', E.sub _ _ z, E.sub _ _ z2, by rw [paired_len r, paired_len r2]; exact hz, fun p hp => ?_⟩
  obtain ⟨E4, e4⟩ := E3.pushO (o := some (.ref p)) (ob := .lst (vs ++ us)) hp (ol R (x ++ y)) ⟨p, _, rfl, rfl, paired_app r r2⟩
  exact hQ _ _ E4 ((e2.trans e3).trans e4)
theorem x_catLO {x y : List α} (ha : EX X a Γ (pu (tLs X.K R) x) Γ1) (hb : EX X b Γ1 (pu (tLs X.K R) y) Γ2) (hz : x.length + y.length ≤ sizeLine) : EX X (.BinOp a .Add b pos) Γ (ol R (x ++ y)) Γ2 := ex_bin (pe_op op_cat peR peR) ha hb (o_catO hz)
/-- x.clear(), x an owned list -/
theorem s1_clear {i : Nat} (hi : Γ[i]? = some (ol R xs)) (hN : X.N[i]? = some x := by rfl) (hv : Vis X.env.scope x := by first | exact Or.inl rfl | exact Or.inr (Or.inl rfl) | exact Or.inr (Or.inr rfl))
    (hd : (x == ("__debug__" : Str)) = false := by decide) (hcd : (x == ("__classdict__" : Str)) = false := by decide)
    (hbase : attributeBase (.Name x px) "clear" X.env (eval (.Name x px) X.env) = eval (.Name x px) X.env := by rfl)
    (hline : (apos.endLine == cpos.line) = true := by rfl)
    (hsw : swapsWith (.Call (.Attribute (.Name x px) "clear" apos) [] [] cpos) none pos.line X.env = pure false := by rfl) :
    S1 X (.Expr (.Call (.Attribute (.Name x px) "clear" apos) [] [] cpos) pos) Γ (fun r => r = .nx (Γ.set i (ol R ([] : List α)))) := by
  intro T _ τ σ s hl E D hD
  refine rs_of (ps_expr (pe_bm0 PySem.F.plainAttrs_list PySem.F.slot_list_clear PySem.F.type_list_clear mt_clear (pe_var hN hv hd hcd) hbase hline) hsw) ?_
  have hlt := (List.getElem?_eq_some_iff.mp hi).1
  obtain ⟨p, vs, hσ, f0, hp, r0⟩ := ol_at E hl hi
  refine ⟨.ref p, hσ, .inl ⟨rfl, vs, SqL.of hp⟩, ?_⟩
  have hσ2 : (σ ++ τ)[i]?.join = some (.ref p) := by rw [List.getElem?_append_left (by omega), hσ]; rfl
  obtain ⟨E4, e4⟩ := E.write (S' := ol R ([] : List α)) (i := i) (ob := .lst vs) (ob' := .lst []) (by simp; omega) f0 (by
    rw [hσ2]
    exact ⟨p, _, rfl, rfl, .nil⟩)
  rw [set_app hlt] at E4
  refine ⟨p, vs, rfl, rfl, hp, ?_⟩
  have q := hD _ rfl σ _ (by simp; omega) E4 e4
  exact q
end
end Fw

namespace Fw
open PySem L2
variable [Tb]
variable {α β γ δ ε ρ κ θ : Type}
/-! ## results that lean on no list -/
def strip (B : Hp) : Hp := fun a => match B a with
  | some (.lst _) => none
  | o => o
theorem strip_some {B : Hp} {a : Addr} {o : HO} (h : strip B a = some o) : B a = some o := by
  unfold strip at h
  cases e : B a with
  | none => rw [e] at h; cases h
  | some u =>
    rw [e] at h
    cases u <;> first | exact h | cases h
theorem strip_of {B : Hp} {a : Addr} {o : HO} (h : B a = some o) (hn : ∀ vs, o ≠ .lst vs) : strip B a = some o := by
  unfold strip
  rw [h]
  cases o <;> first | rfl | exact absurd rfl (hn _)
theorem strip_ne {B : Hp} {a : Addr} (h : strip B a ≠ none) : B a ≠ none ∧ ∀ vs, B a ≠ some (.lst vs) := by
  obtain ⟨o, ho⟩ := ex_of_ne h
  have q := strip_some ho
  refine ⟨by rw [q]; simp, fun vs e => ?_⟩
  unfold strip at ho
  rw [e] at ho
  cases ho
def NL (R : Ty α) : Prop := ∀ (B : Hp) (v : V) (a : α), R.rep B v a → R.rep (strip B) v a
theorem nl_I : NL tI := fun _ _ _ h => h
theorem nl_B : NL tB := fun _ _ _ h => h
theorem nl_N : NL tN := fun _ _ _ h => h
theorem nl_S : NL tS := fun _ _ _ h => h
theorem sqt_strip {K : PySem.W.Frag} {B : Hp} {a : Addr} {vs : List V} (h : SqT K B a vs) : SqT K (strip B) a vs := by
  rcases h with (q | ⟨o, q⟩) | q
  · exact .inl (.inl (strip_of q fun _ e => by cases e))
  · exact .inl (.inr ⟨o, strip_of q fun _ e => by cases e⟩)
  · exact .inr q
theorem nl_T {K : PySem.W.Frag} {R : Ty α} (h : NL R) : NL (tT K R) := fun B v xs ⟨a, vs, e, q, r⟩ => ⟨a, vs, e, sqt_strip q, paired_mono (fun _ _ z => h B _ _ z) r⟩
theorem nl_P2 {K : PySem.W.Frag} {R : Ty α} {R' : Ty β} (h : NL R) (h' : NL R') : NL (tP2 K R R') := fun B v x ⟨a, v1, v2, e, q, r1, r2⟩ => ⟨a, v1, v2, e, sqt_strip q, h B _ _ r1, h' B _ _ r2⟩
theorem nl_P3 {K : PySem.W.Frag} {R : Ty α} {R' : Ty β} {R'' : Ty γ} (h : NL R) (h' : NL R') (h'' : NL R'') : NL (tP3 K R R' R'') := fun B v x ⟨a, v1, v2, v3, e, q, r1, r2, r3⟩ => ⟨a, v1, v2, v3, e, sqt_strip q, h B _ _ r1, h' B _ _ r2, h'' B _ _ r3⟩
theorem nl_Ob {C : Addr} {fl : α → List (Str × Fld)} (h : ∀ a, ∀ q ∈ fl a, ∀ B v, q.2.p B v → q.2.p (strip B) v) : NL (tObj C fl) := fun B v a ⟨x, dx, vs, e, h1, h2, r⟩ => by
  refine ⟨x, dx, vs, e, strip_of h1 (fun _ e => by cases e), strip_of h2 (fun _ e => by cases e), ?_⟩
  have key : ∀ {us : List (Str × V)} {fs : List (Str × Fld)}, (∀ q ∈ fs, ∀ B v, q.2.p B v → q.2.p (strip B) v) → FldsOk B us fs → FldsOk (strip B) us fs := by
    intro us fs hq r
    induction r with
    | nil => exact .nil
    | cons z _ ih => exact .cons ⟨z.1, hq _ List.mem_cons_self _ _ z.2⟩ (ih fun q hq' => hq q (List.mem_cons_of_mem _ hq'))
  exact key (h a) r
/-- the owned lists of an environment, one by one -/
inductive Fy (K : PySem.W.Frag) : List Slot → List Slot → List Bool → Prop
  | nil : Fy K [] [] []
  | pu {α : Type} {R : Ty α} {x : α} {Γ Γ' : List Slot} {bs : List Bool} : Fy K Γ Γ' bs → Fy K (pu R x :: Γ) (pu R x :: Γ') (false :: bs)
  | un {S : Slot} {Γ Γ' : List Slot} {bs : List Bool} : Fy K Γ Γ' bs → Fy K (S :: Γ) (un :: Γ') (false :: bs)
  | ol {α : Type} {R : Ty α} {xs : List α} {Γ Γ' : List Slot} {bs : List Bool} : Fy K Γ Γ' bs → Fy K (ol R xs :: Γ) (Fw.pu (tLs K R) xs :: Γ') (true :: bs)
  | o2 {α β : Type} {R : Ty α} {R' : Ty β} {z : List α × List β} {Γ Γ' : List Slot} {bs : List Bool} : Fy K Γ Γ' bs → Fy K (o2 K R R' z :: Γ) (Fw.pu (tP2 K (tLs K R) (tLs K R')) z :: Γ') (true :: bs)
theorem Fy.len {K : PySem.W.Frag} {Γ Γ' : List Slot} {bs : List Bool} (h : Fy K Γ Γ' bs) : Γ'.length = Γ.length := by
  induction h with
  | nil => rfl
  | _ _ ih => simp [ih]
theorem Fy.at {K : PySem.W.Frag} {Γ Γ' : List Slot} {bs : List Bool} (h : Fy K Γ Γ' bs) : ∀ (i : Nat) (S' : Slot), Γ'[i]? = some S' → ∃ S, Γ[i]? = some S ∧ ∀ B F B' o, S.p B F o → Same B B' → (bs[i]? = some true → Same F B') → S'.p B' em o := by
  induction h with
  | nil => intro i S' h; simp at h
  | pu _ ih =>
    intro i S' h
    cases i with
    | zero => cases h; exact ⟨_, rfl, fun B F B' o q s1 _ => ⟨rfl, q.2.choose, q.2.choose_spec.1, Ty.mono _ s1 q.2.choose_spec.2⟩⟩
    | succ i => exact ih i S' h
  | un _ ih =>
    intro i S' h
    cases i with
    | zero => cases h; exact ⟨_, rfl, fun B F B' o q _ _ => rfl⟩
    | succ i => exact ih i S' h
  | ol _ ih =>
    intro i S' h
    cases i with
    | zero => cases h; exact ⟨_, rfl, fun B F B' o q s1 s2 => ol_pure q s1 (s2 rfl) K⟩
    | succ i => exact ih i S' h
  | o2 _ ih =>
    intro i S' h
    cases i with
    | zero => cases h; exact ⟨_, rfl, fun B F B' o q s1 s2 => o2_pure q s1 (s2 rfl)⟩
    | succ i => exact ih i S' h
theorem Fy.lst {K : PySem.W.Frag} {Γ Γ' : List Slot} {bs : List Bool} (h : Fy K Γ Γ' bs) : ∀ (i : Nat), bs[i]? = some true → ∃ S, Γ[i]? = some S ∧ ∀ B F o, S.p B F o → ∀ a u, F a = some u → ∃ vs, u = .lst vs := by
  induction h with
  | nil => intro i h; simp at h
  | pu _ ih =>
    intro i h
    cases i with
    | zero => simp at h
    | succ i => exact ih i h
  | un _ ih =>
    intro i h
    cases i with
    | zero => simp at h
    | succ i => exact ih i h
  | ol _ ih =>
    intro i h
    cases i with
    | zero => exact ⟨_, rfl, fun B F o ⟨p, vs, _, f, _⟩ a u hu => by
        rw [f] at hu
        have e := one_ne (p := p) (o := .lst vs) (a := a) (by rw [hu]; simp)
        rw [e, one_self] at hu
        cases hu
        exact ⟨vs, rfl⟩⟩
    | succ i => exact ih i h
  | o2 _ ih =>
    intro i h
    cases i with
    | zero => exact ⟨_, rfl, fun B F o ⟨_, p, q, us, vs, _, _, _, f, _⟩ a u hu => by
        rw [f] at hu
        rcases un2_some hu with hu | ⟨_, hu⟩
        · have e := one_ne (p := p) (o := .lst us) (a := a) (by rw [hu]; simp)
          rw [e, one_self] at hu
          cases hu
          exact ⟨us, rfl⟩
        · have e := one_ne (p := q) (o := .lst vs) (a := a) (by rw [hu]; simp)
          rw [e, one_self] at hu
          cases hu
          exact ⟨vs, rfl⟩⟩
    | succ i => exact ih i h
/-- what is left of the grown region when lists are given back -/
theorem EnvOk.backN {s s1 : Sta} {σ σ1 τ : St} {Γ Γ' Γ1 T : List Slot} {K : PySem.W.Frag} {bs : List Bool} {j : Nat} (E : EnvOk s (σ ++ τ) (Γ ++ T)) (z : Fy K Γ Γ' bs) (hj : T[j]? = some tabS) (E1 : EnvOk s1 ((σ ++ τ) ++ σ1) Γ1) (h1 : Γ1[Γ.length + j]? = some tabS)
    (e : Evo (lentS s (fun i => bs[i]? = some true ∧ i ≠ Γ.length + j) (Γ.length + j)) s1) :
    EnvOk ⟨un2 s.B (strip s1.B), s1.H, fun i => if i = Γ.length + j then s1.F i else s.F i⟩ (σ ++ τ) (Γ ++ T) ∧ Evo s ⟨un2 s.B (strip s1.B), s1.H, fun i => if i = Γ.length + j then s1.F i else s.F i⟩ ∧ Same (strip s1.B) (un2 s.B (strip s1.B)) := by
  have hb := lent_b E e
  have lst : ∀ a, strip s1.B a ≠ none → ∀ i y, bs[i]? = some true → s.F i a = some y → False := fun a h i y hi hF => by
    have hs := strip_ne h
    obtain ⟨S, hS, k⟩ := z.lst i hi
    have hi2 := (List.getElem?_eq_some_iff.mp hS).1
    obtain ⟨vs, ev⟩ := k _ _ _ (E.sl i S (by rw [List.getElem?_append_left hi2]; exact hS)) a y hF
    subst ev
    by_cases q : i = Γ.length + j
    · omega
    · exact hs.2 vs (e.b a _ (un2_l (pickF_at E i ⟨hi, q⟩ a _ hF)))
  have two : ∀ a, strip s1.B a ≠ none → s.B a ≠ none ∨ s.H a = none ∨ (s.F (Γ.length + j) a ≠ none ∧ s.B a = none) := fun a h => by
    have hs := strip_ne h
    rcases e.nb a hs.1 with w | w | ⟨i, w⟩
    · have w' : un2 (pickF s fun i => bs[i]? = some true ∧ i ≠ Γ.length + j) s.B a ≠ none := w
      rcases un2_ne w' with w | w
      · obtain ⟨y, hy⟩ := ex_of_ne w
        obtain ⟨i, hi, hF⟩ := pickF_in hy
        exact absurd (lst a h i y hi.1 hF) id
      · exact .inl w
    · exact .inr (.inl w)
    · have w' : (if i = Γ.length + j then s.F i else em) a ≠ none := w
      by_cases q : i = Γ.length + j
      · rw [if_pos q, q] at w'
        exact .inr (.inr ⟨w', E.dis _ a w'⟩)
      · rw [if_neg q] at w'; exact absurd rfl w'
  have sS : Same (strip s1.B) s1.H := fun a u h => E1.sub a u (strip_some h)
  have sB : Same s.B s1.H := fun a u h => E1.sub a u (hb a u h)
  have inF : ∀ i a, i ≠ Γ.length + j → s.F i a ≠ none → strip s1.B a = none := fun i a q h => by
    cases r : strip s1.B a with
    | none => rfl
    | some o =>
      exfalso
      rcases two a (by rw [r]; simp) with w | w | ⟨w, _⟩
      · exact w (E.dis i a h)
      · obtain ⟨u, hu⟩ := ex_of_ne h
        rw [E.subF i a u hu] at w; cases w
      · exact q (E.disF i _ a h w)
  obtain ⟨E2, e2⟩ := E.back (B' := un2 s.B (strip s1.B)) hj E1 h1 e same_l (same_un2 sB sS) (fun i a q h => by rw [un2_r (E.dis i a h)]; exact inF i a q h) (fun a h => by
    rcases un2_ne h with w | w
    · obtain ⟨u, hu⟩ := ex_of_ne w
      rw [hb a u hu]; simp
    · exact (strip_ne w).1) fun a h => by
    rcases un2_ne h with w | w
    · exact .inl w
    · rcases two a w with q | q | ⟨q, _⟩
      · exact .inl q
      · exact .inr (.inl q)
      · exact .inr (.inr ⟨_, q⟩)
  refine ⟨E2, e2, fun a u h => ?_⟩
  cases q : s.B a with
  | none => rw [un2_r q]; exact h
  | some w =>
    have := hb a w q
    rw [strip_some h] at this
    cases this
    exact un2_l q
theorem lent_F {s : Sta} {P : Nat → Prop} {jj i : Nat} {a : Addr} (h : (lentS s P jj).F i a ≠ none) : s.F jj a ≠ none := by
  have h' : (if i = jj then s.F i else em) a ≠ none := h
  by_cases q : i = jj
  · rw [if_pos q, q] at h'; exact h'
  · rw [if_neg q] at h'; exact absurd rfl h'
theorem Fy.lendOk {K : PySem.W.Frag} {Γ Γ' : List Slot} {bs : List Bool} (z : Fy K Γ Γ' bs) (j : Nat) : ∀ i S', Γ'[i]? = some S' → ∃ S, Γ[i]? = some S ∧ ∀ B F B' o, S.p B F o → Same B B' → ((bs[i]? = some true ∧ i ≠ Γ.length + j) → Same F B') → S'.p B' em o := fun i S' h => by
  obtain ⟨S, hS, k⟩ := z.at i S' h
  have hi := (List.getElem?_eq_some_iff.mp hS).1
  exact ⟨S, hS, fun B F B' o q s1 s2 => k B F B' o q s1 fun hb => s2 ⟨hb, by omega⟩⟩
section
variable {X : Cx} {e : Expr} {Γ Γf Γg : List Slot} {R : Ty α} {y : α} {ys : List α} {bs : List Bool}
/-- owned lists lent to an expression whose value leans on no list -/
theorem x_borN (z : Fy X.K Γ Γf bs) (nl : NL R) (h : EX X e Γf (pu R y) Γg) : EX X e Γ (pu R y) Γ := by
  intro T _ τ σ s hl E Q hQ
  obtain ⟨j, hj⟩ := List.mem_iff_getElem?.mp (HasTab.mem (T := T))
  have hj2 := (List.getElem?_eq_some_iff.mp hj).1
  have E' := E.lend (P := fun i => bs[i]? = some true ∧ i ≠ Γ.length + j) hl hj (fun q => q.2 rfl) z.len (z.lendOk j)
  haveI := hasTab_set hj2
  refine h ((List.replicate T.length un).set j tabS) τ σ _ (by rw [z.len]; exact hl) E' Q fun v s1 E1 l1 e1 => ?_
  have hy := pu_top E1
  obtain ⟨E2, e2, h2⟩ := E.backN z hj E1 (by rw [List.getElem?_append_left (by simp; have := z.len; omega), List.getElem?_append_right (by have := z.len; omega), show Γ.length + j - Γg.length = j by have := z.len; omega, List.getElem?_set_self (by simpa using hj2)]) e1
  have q := hQ v _ (E2.push0 (pu R y) ⟨rfl, v, rfl, R.mono h2 (nl _ _ _ hy)⟩) rfl e2
  exact q
/-- .. or is a new list of such -/
theorem x_borO (z : Fy X.K Γ Γf bs) (nl : NL R) (h : EX X e Γf (ol R ys) Γg) : EX X e Γ (ol R ys) Γ := by
  intro T _ τ σ s hl E Q hQ
  obtain ⟨j, hj⟩ := List.mem_iff_getElem?.mp (HasTab.mem (T := T))
  have hj2 := (List.getElem?_eq_some_iff.mp hj).1
  have E' := E.lend (P := fun i => bs[i]? = some true ∧ i ≠ Γ.length + j) hl hj (fun q => q.2 rfl) z.len (z.lendOk j)
  haveI := hasTab_set hj2
  refine h ((List.replicate T.length un).set j tabS) τ σ _ (by rw [z.len]; exact hl) E' Q fun v s1 E1 l1 e1 => ?_
  obtain ⟨p, vs, eo, f, r⟩ := E1.top
  cases eo
  obtain ⟨E2, e2, h2⟩ := E.backN z hj E1 (by rw [List.getElem?_append_left (by simp; have := z.len; omega), List.getElem?_append_right (by have := z.len; omega), show Γ.length + j - Γg.length = j by have := z.len; omega, List.getElem?_set_self (by simpa using hj2)]) e1
  have hp1 : s1.F (Γg ++ (List.replicate T.length un).set j tabS).length p ≠ none := by rw [f, one_self]; simp
  have hlg : (Γg ++ (List.replicate T.length un).set j tabS).length = (Γ ++ T).length := by have := z.len; simp; omega
  have hp : s1.H p = some (.lst vs) := E1.subF _ p _ (by rw [f]; exact one_self)
  have hB1 : s1.B p = none := E1.dis _ p hp1
  have hsB : s.B p = none := by
    cases q : s.B p with
    | none => rfl
    | some w => rw [lent_b E e1 p w q] at hB1; cases hB1
  have hs2 : ∃ s2F : Nat → Hp, s2F = fun i => if i = Γ.length + j then s1.F i else s.F i := ⟨_, rfl⟩
  obtain ⟨s2F, es⟩ := hs2
  rw [← es] at E2 e2
  have hF0 : ∀ i, s2F i p = none := fun i => by
    rw [es]
    show (if i = Γ.length + j then s1.F i else s.F i) p = none
    by_cases q : i = Γ.length + j
    · rw [if_pos q]
      cases r2 : s1.F i p with
      | none => rfl
      | some w =>
        have := E1.disF i _ p (by rw [r2]; simp) hp1
        simp at hlg this
        omega
    · rw [if_neg q]
      cases r2 : s.F i p with
      | none => rfl
      | some w =>
        exfalso
        rcases e1.nf p _ hp1 with w3 | ⟨i', w3⟩
        · have w3' : s.H p = none := w3
          rw [E.subF i p w r2] at w3'; cases w3'
        · exact q (E.disF i _ p (by rw [r2]; simp) (lent_F w3))
  have hst : strip s1.B p = none := by
    cases q : strip s1.B p with
    | none => rfl
    | some w => have := E1.dis _ p hp1; rw [strip_some q] at this; cases this
  have n0 : un2 s.B (strip s1.B) p = none := by rw [un2_r hsB]; exact hst
  -- the new list beside what was
  have key : ∀ i a, (if i = (Γ ++ T).length then one p (.lst vs) else s2F i) a ≠ none → (i = (Γ ++ T).length ∧ a = p) ∨ (i ≠ (Γ ++ T).length ∧ s2F i a ≠ none) := fun i a h => by
    by_cases q : i = (Γ ++ T).length
    · rw [if_pos q] at h; exact .inl ⟨q, one_ne h⟩
    · rw [if_neg q] at h; exact .inr ⟨q, h⟩
  have E3 : EnvOk ⟨un2 s.B (strip s1.B), s1.H, fun i => if i = (Γ ++ T).length then one p (.lst vs) else s2F i⟩ ((σ ++ τ) ++ [some (.ref p)]) ((Γ ++ T) ++ [ol R ys]) := by
    refine ⟨E2.sub, fun i a u h => ?_, fun i a h => ?_, fun i j a h1 h2 => ?_, by have := E2.len; simp at this ⊢; omega, fun i S h => ?_, fun i h => ?_⟩
    · have h' : (if i = (Γ ++ T).length then one p (.lst vs) else s2F i) a = some u := h
      by_cases q : i = (Γ ++ T).length
      · rw [if_pos q] at h'
        have e := one_ne (p := p) (o := .lst vs) (a := a) (by rw [h']; simp)
        rw [e, one_self] at h'; cases h'
        rw [e]; exact hp
      · rw [if_neg q] at h'; exact E2.subF i a u h'
    · rcases key i a h with ⟨_, rfl⟩ | ⟨_, q⟩
      · exact n0
      · exact E2.dis i a q
    · rcases key i a h1 with ⟨q, r⟩ | ⟨q, r⟩
      · rcases key j a h2 with ⟨q', r'⟩ | ⟨q', r'⟩
        · omega
        · rw [r, hF0] at r'; exact absurd rfl r'
      · rcases key j a h2 with ⟨q', r'⟩ | ⟨q', r'⟩
        · rw [r', hF0] at r; exact absurd rfl r
        · exact E2.disF i j a r r'
    · by_cases hi : i < (Γ ++ T).length
      · rw [List.getElem?_append_left hi] at h
        rw [List.getElem?_append_left (by have := E2.len; omega)]
        show S.p _ (if i = (Γ ++ T).length then one p (.lst vs) else s2F i) _
        rw [if_neg (by omega)]
        exact E2.sl i S h
      · have hl2 := (List.getElem?_eq_some_iff.mp h).1
        rw [List.length_append] at hl2
        simp only [List.length_singleton] at hl2
        have e : i = (Γ ++ T).length := by omega
        subst e
        have h2' : ((Γ ++ T) ++ [ol R ys])[(Γ ++ T).length]? = some (ol R ys) := by simp
        rw [h2'] at h; cases h
        have h3 : ((σ ++ τ) ++ [some (V.ref p)])[(Γ ++ T).length]? = some (some (.ref p)) := by have := E2.len; rw [← this]; simp
        rw [join_get h3]
        show (ol R ys).p _ (if (Γ ++ T).length = (Γ ++ T).length then one p (.lst vs) else s2F (Γ ++ T).length) _
        rw [if_pos rfl]
        exact ⟨p, vs, rfl, rfl, paired_mono (fun _ _ w => R.mono h2 (nl _ _ _ w)) r⟩
    · show (if i = (Γ ++ T).length then one p (.lst vs) else s2F i) = em
      rw [List.length_append] at h
      simp only [List.length_singleton] at h
      rw [if_neg (by omega)]
      exact E2.out i (by omega)
  have e3 : Evo s ⟨un2 s.B (strip s1.B), s1.H, fun i => if i = (Γ ++ T).length then one p (.lst vs) else s2F i⟩ := ⟨e2.b, e2.fr, e2.dom, e2.nb, fun a i h => by
    rcases key i a h with ⟨_, rfl⟩ | ⟨_, q⟩
    · rcases e1.nf a _ hp1 with w | ⟨i', w⟩
      · exact .inl w
      · exact .inr ⟨_, lent_F w⟩
    · exact e2.nf a i q⟩
  have q := hQ (.ref p) _ E3 rfl e3
  exact q
end
section
variable {X : Cx} {tg iter : Expr} {body sts : List Stmt} {pos : Pos} {wi : TI} {g : TG} {Γ Γ1 : List Slot} {R : Ty α} {xs : List α} {f : List Slot → α → List Slot} {is : List Nat}
/-- a for that may be left; what it comes to told outright -/
theorem f_forE {P : θ → Res → Prop} {Pq : ρ → Res → Prop} {v : θ} (A : κ → θ) (B : ρ → θ) (hp : PassesOwn (model X.prog X.w) X.A X.env X.xe) (hc : X.calm = true) (iw : IW X tg iter wi Γ R xs Γ1) (hg : PG X tg g) (ht : TGT g R is Γ.length f)
    (G : κ → List Slot) (step : κ → α → Lp κ ρ) (s0 : κ) (hlen : ∀ s, (G s).length = Γ.length) (h0 : Wk Γ1 (G s0))
    (hb : ∀ (i : Nat) (x : α) (s : κ), xs[i]? = some x → goL step s0 (xs.take i) = some s → xs.length ≤ sizeLine → SX X body (f (G s) x) (Turn1 G Pq (step s x)))
    (h1 : ∀ s, runL step s0 xs = .inl s → SX X sts (G s) (P (A s))) (h2 : ∀ q r, Pq q r → P (B q) r) (hv : elimS A B (runL step s0 xs) = v)
    (hs : ∀ x, foldedSetIterable iter X.env x = pure x := by intro _; rfl) : SX X (.For tg iter body [] pos :: sts) Γ (P v) :=
  hv ▸ f_forR A B hp hc iw hg ht G step s0 hlen h0 hb h1 h2 hs
end
section
variable {X : Cx} {elt tg iter : Expr} {ifs : List Expr} {scope : Scope} {own : List (Str × Nat)} {pos : Pos} {wi : TI} {g : TG} {Γ Γ1 : List Slot} {R : Ty α} {R' : Ty β} {xs : List α} {f : List Slot → α → List Slot} {v : List β}
/-- name = [..], the name one that the block captures -/
theorem s1_setLcC {i : Nat} {y : Str} {py spos : Pos} (hc : X.calm = true) (hN : X.N.Nodup) (hy : X.N[i]? = some y) (hx : Loc X.env.scope y) (hfn : X.fn y = true)
    (hsw : swapsWith (.ListComp elt [⟨tg, iter, ifs, 0⟩] scope pos) (some (.Name y py)) spos.line X.env = pure false) (hG : i < Γ.length) (iw : IW X tg iter wi Γ R xs Γ1) (ok : BlkOk X.N X.env.scope scope own)
    (hg : ∀ (s : Shared) (H : Hp) (C : Addr) (cl : List (Str × Addr)) (fp : List Addr), PG (X.blk s H scope (compEnvC scope cl C X.env) fp) tg g) (ht : TGT g R (own.map (·.2)) Γ.length f) (p : α → Bool) (k : α → β)
    (hi' : ∀ s0 H0 C cl fp (i : Nat) (x : α), xs[i]? = some x → EIs (blkX X scope s0 H0 C cl fp) ifs (f (uns (own.map (·.2)) Γ1) x) (p x))
    (he : ∀ s0 H0 C cl fp (i : Nat) (x : α), xs[i]? = some x → p x = true → EX (blkX X scope s0 H0 C cl fp) elt (f (uns (own.map (·.2)) Γ1) x) (pu R' (k x)) (f (uns (own.map (·.2)) Γ1) x))
    (hv : (xs.filter p).map k = v)
    (hw0 : ∀ x, uns (own.map (·.2)) (f (uns (own.map (·.2)) Γ1) x) = uns (own.map (·.2)) Γ1 := by intro _; rfl)
    (hs : ∀ x, foldedSetIterable iter X.env x = pure x := by intro _; rfl) : S1 X (.Assign [.Name y py] (.ListComp elt [⟨tg, iter, ifs, 0⟩] scope pos) spos) Γ (fun r => r = .nx ((uns (own.map (·.2)) Γ1).set i (ol R' v))) := by
  subst hv
  exact s1_set hN hy hx (x_lc hc hN iw ok hg ht p k hi' he hw0 hs) hG hsw (.inl hfn)
end
end Fw

namespace Fw
open PySem PySem.Spec PyProof.Rows L2
/-! ## sorted(xs, key=lambda x: (len(x), x)), the xs tuples of ints -/
/-- the key that the lambda gives -/
def lenKey (ns : List Int) : PyData := .tuple [.int (ns.length : Int), .tuple (ns.map .int)]
abbrev lamBody (x : Str) (p1 p2 p3 p4 p5 : Pos) (j : Nat) : Expr := .Tuple [.Call (.Name "len" p1) [.Name x p2] [] p3, .Name x p4] j p5
/-- what is asked of the lambda's text -/
structure LenLam (params : Arguments) (scope : Scope) (x : Str) : Prop where
  kind : scope.kind = .function
  own : ∀ y ∈ scope.names, y.2 ≠ .cell
  px : scope.names.lookup x = some .local
  pl : scope.names.lookup ("len" : Str) = some .globalImplicit
  co : scope.isCoroutine = false
  gen : scope.isGenerator = false
  dbg : (x == ("__debug__" : Str)) = false
section
variable {prog : Program} {w : World} {A : Around} {s : Shared} {mg mb : Str → Option Value}
theorem lam_key {f c' t : Addr} {q x : Str} {params : Arguments} {scope : Scope} {pm ctv : Value} {items : Array Value} {ns : List Int} {p1 p2 p3 p4 p5 : Pos} {j : Nat} (L : LenLam params scope x)
    (hbind : ∀ v : Value, bindArgs (PySem.W.kla_fn "<lambda>" q params (lamBody x p1 p2 p3 p4 p5 j) scope [] pm (.ref c') ctv) ⟨[v], []⟩ = pure [(x, v)])
    (hroom : A.depth < recursionLimit) (hf : s.heap.get? f = some (PySem.W.kla_obj "<lambda>" q params (lamBody x p1 p2 p3 p4 p5 j) scope [] pm c' ctv)) (hc : s.heap.CodeRec (.ref c') q) (hlim : s.heap.NoLimit)
    (hg : s.heap.Ns mainGlobals mg) (hm : mg "len" = none) (hb : s.heap.Ns builtinsNs mb) (hv : mb "len" = some (.builtin "len")) (ht : IsTup s.heap t items) (hi : IntsAre items.toList ns) (hz : (items.size : Int) < 2 ^ 63) :
    wpAny (model prog w) A (call (.ref f) [.ref t]) (PySem.W.KeyPure (lenKey ns) s) (fun _ _ => False) s := by
  refine wpAny_call (PySem.W.kla_callFunE hroom hf rfl L.co L.gen rfl hc ?_)
  rw [hbind]
  refine wpAny_pure (wpAny_newFunctionEnv L.own (fun y hy => ?_) (fun h1 hns hsb => ⟨hlim.fresh _ hsb, ?_⟩) L.kind)
  · rw [List.mem_singleton.mp hy]; exact L.px
  have kp : ∀ b o, s.heap.get? b = some o → h1.get? b = some o := fun b o e => hsb.extBut b o (Nat.ne_of_lt (Heap.lt_size e)) (Heap.get?_push_of_some _ e)
  refine PySem.W.kla_codeExpr (wpAny_mono (Q := fun v s' => PySem.W.KeyPure (lenKey ns) s v s') (E := fun _ _ => False) ?_ (fun v s' hq => hq) fun e s' hq => hq.elim)
  have var : ∀ {p : Pos} {s2 : Shared} {Q : Value → Shared → Prop} {A2 : Around}, s2.heap = h1 → Q (.ref t) s2 → wpAny (model prog w) A2 (eval (.Name x p) (newEnv scope s.heap.objs.size mainGlobals [] (q ++ ".<locals>.") (some f) (.ref c') none builtinsNs)) Q (fun _ _ => False) s2 := fun {p s2 Q A2} e hq => by
    subst e
    refine wpAny_Name (wpAny_loadName_local L.kind L.px hns ?_ hq) L.dbg
    simp
  have gk : h1.Ns mainGlobals mg := hg.keeps kp
  have bk : h1.Ns builtinsNs mb := hb.keeps kp
  have htk : IsTup h1 t items := by
    obtain ⟨o, ho, r⟩ := ht
    exact ⟨o, kp _ _ ho, r⟩
  refine wpAny_Tuple_spliced (args_cons (Call_ (Calls.Name_function_global L.kind L.pl (Calls.loadGlobal_builtin gk hm bk hv ?_) (by decide))))
  refine callWith_builtin1 (args_cons (var rfl (args_nil ?_)))
  refine len_tuple (items := items) htk hz ?_
  refine args_cons (var rfl (args_nil ?_))
  refine ⟨by show 2 ≤ sizeLine; decide, _, _, rfl, fun b o e => Heap.get?_push_of_some _ (kp b o e), ?_⟩
  have hlen : items.size = ns.length := by have := hi.length; rw [Array.length_toList] at this; exact this
  obtain ⟨o, ho, hcl, n, hd⟩ := htk
  have r1 : ∀ o', Reads (h1.push o') (.ref t) (.tuple (ns.map .int)) [] := fun o' => .tuple (Heap.get?_push_of_some _ ho) hcl hd (hi.reads _)
  unfold lenKey
  rw [← hlen]
  exact (show Reads _ _ _ ([] ++ ([] ++ [])) from .tuple (Heap.get?_push_size _ rfl) rfl rfl (.cons (.int _ _) (.cons (r1 _) .nil)))
end
/-! ## the lambda is made -/
/-- what its making does to the table at P -/
def TabStep (P : Addr) (q : Str) (ps : Array Value) (H H1 : Hp) : Prop := H1 = H ∨ ∃ (ps' : Array Value) (d : Addr), H1 = upd (upd H P (.tbl ps')) d (LamX.CodeO d q) ∧ H d = none ∧ TriplesOk ps'.toList ∧
  ∀ (pos : Pos) (cv : Value), codeAmong pos ps'.toList = some cv → codeAmong pos ps.toList = some cv ∨ cv = .ref d
theorem mk_lam {X : Cx} {pins : List (Addr × Obj)} {σ : L2.St} {H : Hp} {s : Shared} {c P : Addr} {ps : Array Value} {params : Arguments} {body : Expr} {scope : Scope} {pos : Pos} {E Q : Value → Shared → Prop} (I : Inv X pins σ H s) (TB : LamX.TabB X.base X.mg c P) (hcode : X.env.code = .ref c)
    (hP : H P = some (.tbl ps)) (ht : TriplesOk ps.toList) (ha : ∀ (pos : Pos) (cv : Value), codeAmong pos ps.toList = some cv → ∃ d, cv = .ref d ∧ H d = some (LamX.CodeO d (X.env.qual ++ "<lambda>")))
    (hdef : defaultsOf params X.env = ([], [])) (hcl : closureFor scope X.env = pure [])
    (h : ∀ (f d : Addr) (pm ctv : Value) (H1 : Hp) (s' : Shared), Inv X pins σ H1 s' → TabStep P (X.env.qual ++ "<lambda>") ps H H1 →
      s'.heap.get? f = some (PySem.W.kla_obj "<lambda>" (X.env.qual ++ "<lambda>") params body scope [] pm d ctv) → H1 d = some (LamX.CodeO d (X.env.qual ++ "<lambda>")) → Q (.ref f) s') :
    wpAny (model X.prog X.w) X.A (eval (.Lambda params body scope pos) X.env) Q E s := by
  have bP := TB.bm.keeps I.bk
  have cP := TB.code.keeps I.bk
  have gP := I.mod.glob.keeps I.bk
  have tP : s.heap.get? P = some { cls := .none, data := .fields ps } := I.hok P _ hP
  refine PySem.W.kla_eval hdef ?_
  cases hc : codeAmong pos ps.toList with
  | some cv =>
    obtain ⟨d, rfl, hd⟩ := ha pos cv hc
    refine PySem.W.kla_makeFunctionHit hcl I.ok.glob gP hcode cP tP ht hc bP fun ctv h' tk kp _ => ?_
    have kp' := fun b o e => Heap.get?_push_of_some { cls := .type "function", data := .func (PySem.W.kla_fn "<lambda>" (X.env.qual ++ "<lambda>") params body scope [] ((X.mg "__name__").getD .none) (.ref d) ctv) } (kp b o e)
    exact h _ d _ ctv H _ (I.kept (t' := tk) kp') (.inl rfl) (Heap.get?_push_size _ rfl) hd
  | none =>
    refine PySem.W.kla_makeFunction hcl I.ok.glob gP hcode cP tP ht hc TB.gP bP fun d ctv h' tk kp hge _ hrec htb => ?_
    obtain ⟨d', od, us, tq, ed, hod, hdd, hq⟩ := hrec
    cases ed
    have nd : H d = none := I.hok.fresh hge
    have I' := LamX.inv_table (t' := tk) (c := d) (q := X.env.qual ++ "<lambda>") (more := #[rawInt pos.line, rawInt pos.col, .ref d]) (h' := h'.push (PySem.W.kla_obj "<lambda>" (X.env.qual ++ "<lambda>") params body scope [] ((X.mg "__name__").getD .none) d ctv))
      I hP (fun b o hb e => Heap.get?_push_of_some _ (kp b o hb e)) (Heap.get?_push_of_some _ htb) hge ⟨od, us, tq, Heap.get?_push_of_some _ hod, hdd, hq⟩
    refine h _ d _ ctv _ _ I' (.inr ⟨_, d, rfl, nd, ?_, fun p2 cv hcv => ?_⟩) (Heap.get?_push_size _ rfl) upd_same
    · rw [Array.toList_append]
      exact TriplesOk_snoc _ _ _ _ ht
    · rw [Array.toList_append] at hcv
      exact LamX.among_app _ ht hcv
/-! ## the call -/
def lenOrd (a b : List Int) : Bool := PySem.W.dataLe false lenKey a b
def lenSort (xs : List (List Int)) : List (List Int) := xs.mergeSort lenOrd
def tupRep (K : PySem.W.Frag) (H : Hp) (v : V) (ns : List Int) : Prop := ∃ a, v = .ref a ∧ SqT K H a (ns.map V.int)
theorem each_of_paired {Rv : V → List Int → Prop} (hR : ∀ v ns, Rv v ns → ∃ a, v = .ref a) : ∀ {vs : List V} {us : List Value} {xs : List (List Int)}, Paired Rv vs xs → Vals vs us → PySem.W.EachIs (fun u ns => ∃ a, u = .ref a ∧ Rv (.ref a) ns) us xs
  | _, _, _, .nil, .nil => .nil
  | _, _, _, .cons r t, .cons z zs => by
    obtain ⟨a, e⟩ := hR _ _ r
    subst e
    exact .cons ⟨a, z, r⟩ (each_of_paired hR t zs)
theorem paired_of_each {Rv : V → List Int → Prop} : ∀ {us : List Value} {xs : List (List Int)}, PySem.W.EachIs (fun u ns => ∃ a, u = .ref a ∧ Rv (.ref a) ns) us xs → ∃ vs : List V, Vals vs us ∧ Paired Rv vs xs
  | _, _, .nil => ⟨[], .nil, .nil⟩
  | _, _, .cons ⟨a, e, h⟩ t => by
    obtain ⟨vs, h1, h2⟩ := paired_of_each t
    exact ⟨.ref a :: vs, .cons e h1, .cons h h2⟩
variable [Tb]
theorem lenKey_alike (a b : List Int) : PySem.W.alike (lenKey a) (lenKey b) = true := by
  unfold lenKey
  simp [PySem.W.alike, PySem.W.alikeAll, PySem.W.alike_ints]
theorem lenKey_depth (a : List Int) : (lenKey a).depth ≤ 2 := by
  unfold lenKey
  simp [PyData.depth, PyData.depthAll, PySem.W.depth_ints]
theorem TabStep.old {P : Addr} {q : Str} {ps : Array Value} {H H2 : Hp} (st : TabStep P q ps H H2) (hP : H P = some (.tbl ps)) : LamX.ExtN H H2 := fun b o e n => by
  rcases st with rfl | ⟨ps', d, rfl, nd, _, _⟩
  · exact e
  · rw [upd_ne (ne_of_none e nd), upd_ne (fun z => n ps (Option.some.inj (e.symm.trans (by rw [z]; exact hP))))]
    exact e
theorem rd_ext {H H2 : Hp} {a : Addr} {o : HO} (x : LamX.ExtN H H2) (n : ∀ ps, o ≠ .tbl ps) (h : Rd H a o) : Rd H2 a o := by
  rcases h with h | ⟨ob, h⟩
  · exact .inl (x _ _ h n)
  · exact .inr ⟨ob, x _ _ h fun ps z => by cases z⟩
theorem sqt_ext {K : PySem.W.Frag} {H H2 : Hp} {a : Addr} {vs : List V} (x : LamX.ExtN H H2) (h : SqT K H a vs) : SqT K H2 a vs := h.elim (fun z => .inl (rd_ext x (fun _ z => by cases z) z)) .inr
theorem sql_ext {K : PySem.W.Frag} {H H2 : Hp} {a : Addr} {vs : List V} (x : LamX.ExtN H H2) (h : SqL K H a vs) : SqL K H2 a vs := h.elim (fun z => .inl (rd_ext x (fun _ z => by cases z) z)) .inr
theorem re_sortLam {X : Cx} {e : Expr} {c P : Addr} {k : Nat} {x : Str} {params : Arguments} {scope : Scope} {p pos lpos kpos p1 p2 p3 p4 p5 : Pos} {j : Nat} {σ : L2.St} {H : Hp} {Q : VK} (hg : Gl X "sorted") (hm : X.mg "sorted" = none) (hml : X.mg "len" = none) (hr : Room (k + 3) X.A)
    (TB : LamX.TabB X.base X.mg c P) (hcode : X.env.code = .ref c) (L : LenLam params scope x) (hdef : defaultsOf params X.env = ([], [])) (hcl : closureFor scope X.env = pure [])
    (hbind : ∀ (q : Str) (pm cv ctv v : Value), bindArgs (PySem.W.kla_fn "<lambda>" q params (lamBody x p1 p2 p3 p4 p5 j) scope [] pm cv ctv) ⟨[v], []⟩ = pure [(x, v)])
    (na : starEach [e] X.env = (false, eval e X.env) :: starEach [] X.env)
    (he : RE X e σ H fun v H1 => ∃ (a : Addr) (vs : List V) (xs : List (List Int)) (ps : Array Value) (Rv : V → List Int → Prop), v = .ref a ∧ SqL X.K H1 a vs ∧ Paired Rv vs xs ∧ (∀ v ns, Rv v ns → tupRep X.K H1 v ns) ∧ H1 P = some (.tbl ps) ∧ TriplesOk ps.toList ∧
      (∀ (pos : Pos) (cv : Value), codeAmong pos ps.toList = some cv → ∃ d, cv = .ref d ∧ H1 d = some (LamX.CodeO d (X.env.qual ++ "<lambda>"))) ∧
      ∀ H2, TabStep P (X.env.qual ++ "<lambda>") ps H1 H2 → ∀ (r : Addr) (us : List V), H2 r = none → Paired Rv us (lenSort xs) → Q (.ref r) (upd H2 r (.lst us))) :
    RE X (.Call (.Name "sorted" p) [e] [⟨some "key", .Lambda params (lamBody x p1 p2 p3 p4 p5 j) scope lpos, kpos⟩] pos) σ H Q := by
  intro pins s I
  refine wpAny_Call_Name_kw (ld_blt I hg hm rfl ?_)
  refine PyProof.Rows.callWith_kw (args_cons (thn (he pins s I) fun u s1 ⟨v, H1, I1, r1, q1⟩ => args_nil ?_) na) (by rw [na]; rfl) (by rw [na]; rfl)
  obtain ⟨a, vs, xs, ps, Rv, rfl, hs, hx, hRv, hP, ht, ha, q⟩ := q1
  obtain rfl : u = Value.ref a := r1
  refine wpAny_evalAll_cons (wpAny_bind (mk_lam I1 TB hcode hP ht ha hdef hcl fun f d pm ctv H2 s2 I2 st hf hd => wpAny_bind (wpAny_standAt (wpAny_pure (wpAny_evalAll_nil ?_)))))
  have x2 := st.old hP
  obtain ⟨its, rv, hl, hz⟩ := I2.list (sql_ext x2 hs)
  obtain ⟨mb, hb1, hb2⟩ := I2.mod.blt
  have lm := I2.nolimit
  have hd2 := hr.dp
  have hu2 := hr.un
  refine PySem.W.sorted_key_data (kw := [(Str.ofString "key", .ref f)]) (b := false) (bs := xs) (R := fun u ns => ∃ a, u = .ref a ∧ Rv (.ref a) ns) lenKey hl.isList (each_of_paired (fun v ns h => let ⟨a, e, _⟩ := hRv v ns h; ⟨a, e⟩) hx rv) (PySem.W.AllAlike.of lenKey_alike) (PySem.W.Sortable.tuples fun b => ⟨_, _, rfl⟩)
    (by rw [← hx.length]; exact hz) (fun y _ => by have := lenKey_depth y; omega) (PyProof.Rows.ksk_s1 _ _) (fun _ => PyProof.Rows.ksk_l1 _ _) (fun _ => PyProof.Rows.ksk_t1 _ _) (fun u ns hR _ g tk kp => ?_) fun out n g tk kp hn hD hlen hE => ?_
  · obtain ⟨t, rfl, hq1⟩ := hR
    obtain ⟨t', et, hq2⟩ := hRv _ _ hq1
    cases et
    have hq := sqt_ext x2 hq2
    obtain ⟨it2, r2, htp, hz2⟩ := I2.tuple hq
    obtain ⟨⟨od, us, tq, hod, hdd, hqq⟩, _⟩ := I2.hok d _ hd
    obtain ⟨o, ho, hr2⟩ := htp
    have h63 := line63
    have hsz := r2.length
    exact lam_key (s := { s2 with heap := g, toks := tk }) L (fun v => hbind _ _ _ _ v) (by show X.A.depth < recursionLimit; omega) (kp _ _ hf) ⟨d, od, us, tq, rfl, kp _ _ hod, hdd, hqq⟩ (lm.keeps kp) ((I2.mod.glob.keeps I2.bk).keeps kp) hml ((hb1.keeps I2.bk).keeps kp) ((hb2 _ (by decide)).trans rfl)
      ⟨o, kp _ _ ho, hr2⟩ (by simpa using r2.ints) (by rw [List.length_map] at hsz hz2; simp only [List.size_toArray]; omega)
  · obtain ⟨us, hv, hp⟩ := paired_of_each hE
    refine ⟨.ref (s2.heap.objs.size + 1), upd H2 (s2.heap.objs.size + 1) (.lst us), I2.laid (t' := tk) kp (Nat.le_succ _) ⟨?_, out, n, hv, hD⟩, rfl, q H2 st _ us (I2.hok.fresh (Nat.le_succ _)) hp⟩
    rw [hv.length, hlen, ← hx.length]
    exact hz
/-! ## as a rule of the typed layer -/
theorem codeO_tbl {c : Addr} {q : Str} {ps : Array Value} : LamX.CodeO c q ≠ .tbl ps := LamX.codeO_ne ps
theorem EnvOk.tabStep {s : Sta} {σ : L2.St} {Γ : List Slot} {jj : Nat} {P : Addr} {q : Str} {ps : Array Value} {H2 : Hp} (E : EnvOk s σ Γ) (hj : Γ[jj]? = some tabS) (hu : ∀ p ∈ Tb.tt, p.1 = P → p.2 = q) (hps : LamX.TabS (s.F jj) P q ∧ s.F jj P = some (.tbl ps)) (st : TabStep P q ps s.H H2) :
    ∃ s' : Sta, s'.H = H2 ∧ s'.B = s.B ∧ EnvOk s' σ Γ ∧ Evo s s' := by
  rcases st with rfl | ⟨ps', d, rfl, nd, htr, ham⟩
  · exact ⟨s, rfl, rfl, E, Evo.refl s⟩
  obtain ⟨⟨ps0, hp0, _, hcode⟩, hp⟩ := hps
  have e0 : ps0 = ps := by rw [hp] at hp0; cases hp0; rfl
  subst e0
  have hPd : P ≠ d := fun z => by
    have := E.subF jj P _ hp
    rw [z, nd] at this
    cases this
  have Fd : ∀ i, s.F i d = none := fun i => by
    cases r : s.F i d with
    | none => rfl
    | some u => have := E.subF i d u r; rw [nd] at this; cases this
  have Bd : s.B d = none := by
    cases r : s.B d with
    | none => rfl
    | some u => have := E.sub d u r; rw [nd] at this; cases this
  have BP : s.B P = none := E.dis jj P (by rw [hp]; simp)
  have FP : ∀ i, i ≠ jj → s.F i P = none := fun i hi => by
    cases r : s.F i P with
    | none => rfl
    | some u => exact absurd (E.disF i jj P (by rw [r]; simp) (by rw [hp]; simp)) hi
  have new : ∀ a, upd (upd (s.F jj) P (.tbl ps')) d (LamX.CodeO d q) a ≠ none → a = d ∨ s.F jj a ≠ none := fun a h => by
    by_cases h1 : a = d
    · exact .inl h1
    · rw [upd_ne h1] at h
      by_cases h2 : a = P
      · rw [h2, hp]; exact .inr (by simp)
      · rw [upd_ne h2] at h; exact .inr h
  have key : ∀ i a, (if i = jj then upd (upd (s.F jj) P (.tbl ps')) d (LamX.CodeO d q) else s.F i) a ≠ none → (i = jj ∧ a = d) ∨ s.F i a ≠ none := fun i a h => by
    by_cases h1 : i = jj
    · rw [if_pos h1] at h
      rcases new a h with z | z
      · exact .inl ⟨h1, z⟩
      · rw [h1]; exact .inr z
    · rw [if_neg h1] at h; exact .inr h
  have keep : ∀ a u, s.H a = some u → a ≠ P → upd (upd s.H P (.tbl ps')) d (LamX.CodeO d q) a = some u := fun a u h h1 => by
    rw [upd_ne (ne_of_none h nd), upd_ne h1]; exact h
  have keepF : ∀ a u, s.F jj a = some u → a ≠ P → upd (upd (s.F jj) P (.tbl ps')) d (LamX.CodeO d q) a = some u := fun a u h h1 => by
    rw [upd_ne (ne_of_none h (Fd jj)), upd_ne h1]; exact h
  have code : ∀ c q', s.F jj c = some (LamX.CodeO c q') → c ≠ P := fun c q' h z => by
    rw [z, hp] at h
    exact codeO_tbl (Option.some.inj h).symm
  refine ⟨⟨s.B, upd (upd s.H P (.tbl ps')) d (LamX.CodeO d q), fun i => if i = jj then upd (upd (s.F jj) P (.tbl ps')) d (LamX.CodeO d q) else s.F i⟩, rfl, rfl, ⟨fun a u h => ?_, fun i a u h => ?_, fun i a h => ?_, fun i m a h1 h2 => ?_, E.len, fun i S h => ?_, fun i h => ?_⟩, ⟨fun _ _ h => h, fun a u h n => ?_, fun a h => ?_, fun a h => .inl h, fun a i h => ?_⟩⟩
  · exact keep a u (E.sub a u h) (fun z => by rw [z, BP] at h; cases h)
  · have h' : (if i = jj then upd (upd (s.F jj) P (.tbl ps')) d (LamX.CodeO d q) else s.F i) a = some u := h
    show upd (upd s.H P (.tbl ps')) d (LamX.CodeO d q) a = some u
    by_cases h1 : i = jj
    · rw [if_pos h1] at h'
      by_cases h2 : a = d
      · rw [h2, upd_same] at h' ⊢; exact h'
      · rw [upd_ne h2] at h' ⊢
        by_cases h3 : a = P
        · rw [h3, upd_same] at h' ⊢; exact h'
        · rw [upd_ne h3] at h' ⊢; exact E.subF jj a u h'
    · rw [if_neg h1] at h'
      exact keep a u (E.subF i a u h') (fun z => by rw [z, FP i h1] at h'; cases h')
  · rcases key i a h with ⟨_, z⟩ | z
    · rw [z]; exact Bd
    · exact E.dis i a z
  · rcases key i a h1 with ⟨q1, z1⟩ | z1
    · rcases key m a h2 with ⟨q2, _⟩ | z2
      · rw [q1, q2]
      · rw [z1, Fd] at z2; exact absurd rfl z2
    · rcases key m a h2 with ⟨_, z2⟩ | z2
      · rw [z2, Fd] at z1; exact absurd rfl z1
      · exact E.disF i m a z1 z2
  · show S.p s.B (if i = jj then upd (upd (s.F jj) P (.tbl ps')) d (LamX.CodeO d q) else s.F i) _
    by_cases h1 : i = jj
    · subst h1
      rw [hj] at h; cases h
      rw [if_pos rfl]
      obtain ⟨z1, z2⟩ := E.sl i tabS hj
      refine ⟨z1, fun p hpm => ?_⟩
      by_cases h2 : p.1 = P
      · rw [h2, hu p hpm h2]
        refine ⟨ps', by rw [upd_ne hPd, upd_same], htr, fun pos cv hc => ?_⟩
        rcases ham pos cv hc with z | z
        · obtain ⟨c, ec, hcc⟩ := hcode pos cv z
          exact ⟨c, ec, keepF c _ hcc (code c q hcc)⟩
        · exact ⟨d, z, upd_same⟩
      · obtain ⟨ps1, k1, k2, k3⟩ := z2 p hpm
        refine ⟨ps1, keepF _ _ k1 h2, k2, fun pos cv hc => ?_⟩
        obtain ⟨c, ec, hcc⟩ := k3 pos cv hc
        exact ⟨c, ec, keepF c _ hcc (code c _ hcc)⟩
    · rw [if_neg h1]
      exact E.sl i S h
  · have hlt := (List.getElem?_eq_some_iff.mp hj).1
    show (if i = jj then _ else s.F i) = em
    rw [if_neg (by omega)]
    exact E.out i h
  · exact keep a u h (fun z => by have := n jj; rw [z, hp] at this; cases this)
  · obtain ⟨u, hu2⟩ := ex_of_ne h
    show upd (upd s.H P (.tbl ps')) d (LamX.CodeO d q) a ≠ none
    by_cases h2 : a = d
    · rw [h2, upd_same]; simp
    · rw [upd_ne h2]
      by_cases h3 : a = P
      · rw [h3, upd_same]; simp
      · rw [upd_ne h3, hu2]; simp
  · rcases key i a h with ⟨_, z⟩ | z
    · exact .inl (by rw [z]; exact nd)
    · exact .inr ⟨i, z⟩
/-- sorted(xs, key=lambda x: (len(x), x)) -/
theorem x_sortLam {X : Cx} {e : Expr} {c P : Addr} {k : Nat} {x : Str} {params : Arguments} {scope : Scope} {p pos lpos kpos p1 p2 p3 p4 p5 : Pos} {j : Nat} {Γ Γ1 : List Slot} {S : Ty (List (List Int))} {xs : List (List Int)} (sq : SeqL X.K S (tT X.K tI)) (he : EX X e Γ (pu S xs) Γ1)
    (hm : X.mg "sorted" = none) (hml : X.mg "len" = none) (hr : Room (k + 3) X.A) (TB : LamX.TabB X.base X.mg c P) (hcode : X.env.code = .ref c) (hmT : (P, X.env.qual ++ "<lambda>") ∈ Tb.tt) (hu : ∀ p ∈ Tb.tt, p.1 = P → p.2 = X.env.qual ++ "<lambda>") (L : LenLam params scope x)
    (hbind : ∀ (q : Str) (pm cv ctv v : Value), bindArgs (PySem.W.kla_fn "<lambda>" q params (lamBody x p1 p2 p3 p4 p5 j) scope [] pm cv ctv) ⟨[v], []⟩ = pure [(x, v)])
    (hdef : defaultsOf params X.env = ([], []) := by rfl) (hcl : closureFor scope X.env = pure [] := by rfl) (hg : Gl X "sorted" := by rfl) (na : starEach [e] X.env = (false, eval e X.env) :: starEach [] X.env := by rfl) :
    EX X (.Call (.Name "sorted" p) [e] [⟨some "key", .Lambda params (lamBody x p1 p2 p3 p4 p5 j) scope lpos, kpos⟩] pos) Γ (ol (tT X.K tI) (lenSort xs)) Γ1 := by
  intro T _ τ σ s hl E Q hQ
  refine re_sortLam hg hm hml hr TB hcode L hdef hcl hbind na ?_
  refine he T τ σ s hl E _ fun v s1 E1 l1 e1 => ?_
  obtain ⟨a, vs, ev, hsq, hp⟩ := sq.get (pu_top E1)
  obtain ⟨E2, e2⟩ := E1.pop
  obtain ⟨i, hi⟩ := List.mem_iff_getElem?.mp (HasTab.mem (T := T))
  have hjT : (Γ1 ++ T)[Γ1.length + i]? = some tabS := by rw [List.getElem?_append_right (by omega)]; simpa using hi
  have ht := (E2.sl _ tabS hjT).2 _ hmT
  obtain ⟨ps, h1, h2, h3⟩ := ht
  refine ⟨a, vs, xs, ps, (tT X.K tI).rep s1.B, ev, E1.sub.seq hsq, hp, fun v ns ⟨b, us, eb, hb, hpb⟩ => ⟨b, eb, ?_⟩, E2.subF _ _ _ h1, h2, fun pos cv hc => ?_, fun H2 st r us hr2 hpr => ?_⟩
  · rw [← paired_int hpb]
    exact same_sqt E1.sub hb
  · obtain ⟨d, ed, hd⟩ := h3 pos cv hc
    exact ⟨d, ed, E2.subF _ _ _ hd⟩
  · obtain ⟨s3, rfl, hB, E3, e3⟩ := E2.tabStep hjT hu ⟨⟨ps, h1, h2, h3⟩, h1⟩ st
    obtain ⟨E4, e4⟩ := E3.pushO (o := some (.ref r)) (ob := .lst us) hr2 (ol (tT X.K tI) (lenSort xs)) ⟨r, us, rfl, rfl, by rw [hB]; exact hpr⟩
    exact hQ _ _ E4 l1 (((e1.trans e2).trans e3).trans e4)
/-! ## a def whose code object is known -/
structure FunC (K : PySem.W.Frag) (x qual : Str) (st : Stmt) (f : Addr) (fd : FuncData) (c : Addr) : Prop where
  ex : ∃ (oc : Value) (od : Option Addr) (kV doc pm : Value) (an : Option Addr) (ct : Value) (osl : Array (Option Value)),
    fd = PySem.W.fnOf x qual (defArgs st) (defBody st) (defScope st) .none kV doc pm an (.ref c) ct ∧ K.lookup f = some ⟨oc, od, .func fd, osl⟩ ∧ PySem.W.codeIn K (.ref c) qual = true
section
variable {A : Type} {pre : A → Prop} {G : A → List Slot} {S : A → Slot}
theorem fn_okC {P : Program} {w : World} {K : PySem.W.Frag} {mg : Str → Option Value} {base : Heap} {fx qual : Str} {st : Stmt} {f c : Addr} {fd : FuncData} {N ps : List Str} {k : Nat} (F : FunC K fx qual st f fd c) (sc : FnScope N ps (defScope st)) (hG : ∀ x, (G x).length = ps.length)
    (hb : ∀ (X : Cx) (x : A), (∃ A outer s H E, X = (cxOf CX0 P w K mg base N qual (defScope st) f (.ref c) A outer s H E).nox) → Room k X.A → pre x → SX X (defBody st) (G x ++ List.replicate (N.length - ps.length) un) (fun r => (∃ Γ', r = .rt Γ' (S x)) ∨ (∃ Γ', r = .nx Γ' ∧ ∀ B, (S x).p B em (some .non)))) :
    FnOk P w K mg base CX0 (k + 1) f fd ps (spP pre G S) := by
  obtain ⟨oc, od, kV, doc, pm, an, ct, osl, rfl, lk, hcd⟩ := F.ex
  refine fn_of lk hcd sc (fun vs H Q E h => ?_) fun A outer s H vs Q E hr h => ?_
  · obtain ⟨x, s, _, _, E1, _⟩ := h
    have := E1.len
    simp at this
    rw [this, hG]
  · obtain ⟨x, s1, rfl, hx, E1, q⟩ := h
    have hlv : vs.length = ps.length := by have := E1.len; simp at this; rw [this, hG]
    obtain ⟨s2, h2, E2, e2⟩ := E1.pads1 (N.length - ps.length)
    have hst : L2.start N vs = vs.map some ++ List.replicate (N.length - ps.length) none := by
      unfold L2.start
      rw [hlv]
    rw [← hst] at E2
    rw [← h2]
    have hb' := hb _ x ⟨A, outer, s, s2.H, E, rfl⟩ hr hx [tabS] [none] (L2.start N vs) s2 (by rw [hst]; simp [hlv, hG]) E2 { nx := fun _ H' => Q .non H', rt := Q } fun r hr => ?_
    · exact ⟨_, pssR.nox, hb'⟩
    · have fin : ∀ {σ' : L2.St} {Γ' : List Slot} {v : V} {s' : Sta}, σ'.length = Γ'.length → EnvOk s' ((σ' ++ [none]) ++ [some v]) ((Γ' ++ [tabS]) ++ [S x]) → Evo s2 s' → Q v s'.H := fun {σ' Γ' v s'} l' E' e' => by
        have E'' : EnvOk s' ([] ++ (σ' ++ ([none] ++ [some v]))) ([] ++ (Γ' ++ ([tabS] ++ [S x]))) := by simpa using E'
        obtain ⟨s3, E3, e3, h3, _⟩ := E''.mid rfl l'
        obtain ⟨s4, h4, E4, e4⟩ := E3.rot rfl
        have q1 := q v s4 E4 (((e2.trans e').trans e3).trans e4)
        rw [h4, h3] at q1
        exact q1
      rcases hr with ⟨Γ', rfl⟩ | ⟨Γ', rfl, hn⟩
      · intro σ' v s' l' E' e'
        exact fin l' E' e'
      · intro σ' s' l' E' e'
        exact fin l' (E'.push0 (o := some .non) (S x) (hn _)) e'
end
theorem FunC.fn {K : PySem.W.Frag} {x qual : Str} {st : Stmt} {f c : Addr} {fd : FuncData} (F : FunC K x qual st f fd c) (k : PySem.W.keepIn K (.ref f) = true) : Fun K x qual st f fd := by
  obtain ⟨oc, od, kV, doc, pm, an, ct, osl, e, lk, hcd⟩ := F.ex
  exact ⟨⟨oc, od, kV, doc, pm, an, _, ct, osl, e, lk, hcd⟩, k⟩
end Fw
namespace Fw
open PySem PySem.Spec PyProof.Rows L2
/-- the law's end: the tables of the defs that make lambdas are empty -/
def TabsOf (q : Program) (K : PySem.W.Frag) (mg : Str → Option Value) (h : Heap) : Prop := ∀ (y : Str) (f c : Addr) (fd : FuncData) (o : Obj), ((recsOf q).any fun e => e.name == y) = true → mg y = some (.ref f) → K.lookup f = some o → o.data = .func fd → fd.code = .ref c →
  ∃ P : Addr, h.get? P = some { cls := .none, data := .fields #[] } ∧ PySem.W.CodeHd h c P
theorem TabsOf.at {q : Program} {K : PySem.W.Frag} {mg : Str → Option Value} {h : Heap} (t : TabsOf q K mg h) (X : K.In h) {y : Str} {f c P : Addr} {fd : FuncData} {e oc : Value} {dd od : Option Addr} {vs : Array Value} {sl osl : Array (Option Value)} (hr : ((recsOf q).any fun e => e.name == y) = true) (hm : mg y = some (.ref f))
    (hk : K.lookup f = some ⟨oc, od, .func fd, osl⟩) (hc : fd.code = .ref c) (hv : K.lookup c = some ⟨e, dd, .fields vs, sl⟩) (hP : vs[11]? = some (.ref P)) : h.get? P = some { cls := .none, data := .fields #[] } ∧ PySem.W.CodeHd h c P := by
  obtain ⟨P', h1, h2⟩ := t y f c fd _ hr hm hk rfl hc
  have h3 := h2
  obtain ⟨o, us, file, tf, flags, tg, inF, text, tt, v1, v2, v3, v4, _⟩ := h3
  rw [X _ _ hv] at v1
  cases v1
  cases v3
  rw [hP] at v4
  cases v4
  exact ⟨h1, h2⟩
theorem walkTabs {l : PySem.W.OpenLaw} {n k : Nat} {q : Program} {loose : List Str} {XP : (Str → Option Value) → Heap → Prop} {YP : World → Heap → Prop} {d : DefRec} {K : Params → PySem.W.Frag} {x : Str}
    (hn : l.most = some n) (hn2 : n ≤ sizeLine) (hdf : d.params.defaults = []) (hr : Room k callerA) (hY : ∀ (w : World) (h : Heap), YP w h → (K w.params).In h)
    (F : ∀ (w : World) (mg : Str → Option Value) (fa : Addr) (h : Heap), (K w.params).In h → h.Ns mainGlobals mg → mg d.name = some (.ref fa) → TabsOf q (K w.params) mg h → LamX.LawAtS l w (K w.params) CX0 k n x mg fa h) : PySem.W.WalkO q loose XP YP l.row.toRowW d [] (fun f vs => PySem.call f vs) := by
  refine Att.attach_callB hn hdf fun w sA sB mg mb fa o pm cd doc a vs ns G Y ho hd hcd hmg hobj hints hlen hbits hg => ?_
  have X := hY w _ Y
  have tabs : TabsOf q (K w.params) mg sB.heap := by
    intro y f c fd o hy hf hl hd hc
    obtain ⟨dL, hm, hn1⟩ := List.any_eq_true.mp hy
    have hn2 : dL.name = y := beq_iff_eq.mp hn1
    obtain ⟨f', o', fd', c', P', g1, g2, g3, g4, g5, g6⟩ := G.T.tab dL hm
    rw [hn2, hf] at g1
    cases g1
    rw [X _ _ hl] at g2
    cases g2
    rw [hd] at g3
    cases g3
    rw [hc] at g4
    cases g4
    exact ⟨P', g6.2, PySem.W.CodeHd.of g5 g6⟩
  obtain ⟨fd, cs, sp, kT, nT, C, kb, ksp, kF⟩ := F w mg fa _ X G.T.g hmg tabs
  exact LamX.law_callTs X G.T.g G.T.b G.T.builtins G.T.nolimit hg kT nT C G.T.bmain hobj hints (Nat.le_trans hlen hn2) hr kF kb (fun H hH hS => ksp H a ns hlen hbits hH hS) fun _ _ _ z => z
end Fw

namespace Fw
open PySem L2
variable [Tb]
variable {α β γ δ ε ρ κ θ : Type}
/-! ## lists of two things of two types -/
def tLP2 (K : PySem.W.Frag) (R : Ty α) (R' : Ty β) : Ty (α × β) := ⟨fun B v x => ∃ a v1 v2, v = .ref a ∧ SqL K B a [v1, v2] ∧ R.rep B v1 x.1 ∧ R'.rep B v2 x.2,
  fun s h => let ⟨a, v1, v2, e, q, r1, r2⟩ := h; ⟨a, v1, v2, e, s.seq q, R.mono s r1, R'.mono s r2⟩⟩
section
variable {K : PySem.W.Frag} {R1 : Ty α} {R2' : Ty β}
theorem o_ixLP2_0 {x : α × β} : Op2 (rIxL K) (pu (tLP2 K R1 R2') x) (pu tI 0) (pu R1 x.1) :=
  op2_val fun B H v u s h1 h2 Q k => by
    obtain ⟨a, v1, v2, e, z, r1, r2⟩ := h1
    exact ⟨a, _, 0, v1, e, h2, s.seq z, rfl, k _ r1⟩
theorem o_ixLP2_1 {x : α × β} : Op2 (rIxL K) (pu (tLP2 K R1 R2') x) (pu tI 1) (pu R2' x.2) :=
  op2_val fun B H v u s h1 h2 Q k => by
    obtain ⟨a, v1, v2, e, z, r1, r2⟩ := h1
    exact ⟨a, _, 1, v2, e, h2, s.seq z, rfl, k _ r2⟩
theorem n_lp2 {x : α} {y : β} : OpN rLst [pu R1 x, pu R2' y] (pu (tLP2 K R1 R2') (x, y)) := by
  intro σ Γ _ s vs lv E Q hQ
  match vs, lv with
  | [v, u], _ =>
    have E' : EnvOk s ((σ ++ [some v]) ++ [some u]) ((Γ ++ [pu R1 x]) ++ [pu R2' y]) := by simpa using E
    obtain ⟨h1, h2⟩ := pu_top2 E'
    obtain ⟨E2, e2⟩ := E'.pop
    obtain ⟨E3, e3⟩ := E2.pop
    refine ⟨by show 2 ≤ sizeLine; decide, fun p hp => ?_⟩
    obtain ⟨E4, e4⟩ := E3.push1 (o := some (.ref p)) (ob := .lst [v, u]) hp (pu (tLP2 K R1 R2') (x, y)) fun k1 k2 => ⟨rfl, _, rfl, p, v, u, rfl, .inl (.inl k2), R1.mono k1 h1, R2'.mono k1 h2⟩
    exact hQ _ _ E4 ((e2.trans e3).trans e4)
end
/-! ## >= of pairs of an int and a tuple of ints -/
def geL (ns ms : List Int) : Bool := Ob.lexAt (fun j => decide (ns.getD j 0 = ms.getD j 0)) (fun j => decide (ms.getD j 0 ≤ ns.getD j 0)) (decide (ns.length ≥ ms.length)) 0 (min ns.length ms.length)
def geIT (x y : Int × List Int) : Bool := if x.1 = y.1 then (if x.2 = y.2 then true else geL x.2 y.2) else decide (y.1 ≤ x.1)
theorem rc_geL {A : Around} {s : Shared} {l b : Addr} {it it2 : List Value} {ns ms : List Int} (h1 : PyProof.Rows.IsTup s.heap l it.toArray) (h2 : PyProof.Rows.IsTup s.heap b it2.toArray) (i1 : PyProof.Rows.IntsAre it ns) (i2 : PyProof.Rows.IntsAre it2 ms) (hu : A.units < cLine) : Ob.RcOp .GtE A s (.ref l) (.ref b) (geL ns ms) := by
  have e1 : it.toArray.size = ns.length := by rw [List.size_toArray]; exact i1.length
  have e2 : it2.toArray.size = ms.length := by rw [List.size_toArray]; exact i2.length
  have g1 : ∀ j (h : j < it.toArray.size), ∃ t, it.toArray[j] = .int (ns.getD j 0) t := fun j h => PyProof.Rows.IntsAre.int_at i1 _ _ (by simp at h; simp [h])
  have g2 : ∀ j (h : j < it2.toArray.size), ∃ t, it2.toArray[j] = .int (ms.getD j 0) t := fun j h => PyProof.Rows.IntsAre.int_at i2 _ _ (by simp at h; simp [h])
  have R := Ob.RcOp.tuples_ge (A := A) (s := s) (e := fun j => decide (ns.getD j 0 = ms.getD j 0)) (r := fun j => decide (ms.getD j 0 ≤ ns.getD j 0)) h1 h2 hu (fun j k1 k2 => by
    obtain ⟨t, et⟩ := g1 j k1
    obtain ⟨t', et'⟩ := g2 j k2
    rw [et, et', ← Bool.beq_eq_decide_eq]
    exact SeqAt.EqAt.int_int _ _ _ _) fun j k1 k2 _ => by
    obtain ⟨t, et⟩ := g1 j k1
    obtain ⟨t', et'⟩ := g2 j k2
    rw [et, et']
    exact Ob.RcOp.ge_int _ _ _ _
  rw [e1, e2] at R
  exact R
def rGeIT (K : PySem.W.Frag) : R2 := fun x y H Q => ∃ (a b p q : Addr) (i j : Int) (ns ms : List Int), x = .ref a ∧ y = .ref b ∧ SqT K H a [.int i, .ref p] ∧ SqT K H p (ns.map V.int) ∧ SqT K H b [.int j, .ref q] ∧ SqT K H q (ms.map V.int) ∧ Q (.bl (geIT (i, ns) (j, ms))) H
theorem op_geIT {X : Cx} (hu : X.A.units + 64 < cLine) : OpR X (compareOp .GtE) (rGeIT X.K) := by
  intro pins s σ H x y v u Q I rx ry h
  obtain ⟨a, b, p, q, i, j, ns, ms, rfl, rfl, ha, hp, hb, hq, hQ⟩ := h
  cases rx
  cases ry
  obtain ⟨i1, r1, p1, _⟩ := I.tuple ha
  obtain ⟨i2, r2, p2, _⟩ := I.tuple hb
  obtain ⟨n1, s1, q1, _⟩ := I.tuple hp
  obtain ⟨n2, s2, q2, _⟩ := I.tuple hq
  obtain ⟨u1, u2, rfl, ⟨t1, rfl⟩, z1⟩ := vals2 r1
  obtain ⟨w1, w2, rfl, ⟨t2, rfl⟩, z2⟩ := vals2 r2
  obtain rfl : u2 = Value.ref p := z1
  obtain rfl : w2 = Value.ref q := z2
  have k1 : PyProof.Rows.IntsAre n1 ns := Vals.ints s1
  have k2 : PyProof.Rows.IntsAre n2 ms := Vals.ints s2
  have inner := rc_geL (A := X.A.in1) (s := s) q1 q2 k1 k2 (by show X.A.units + 1 < cLine; omega)
  have eqv : PyData.eqv (.tuple (ns.map .int)) (.tuple (ms.map .int)) = decide (ns = ms) := (dT (K := X.K) dI).eqv ns ms
  have eq : SeqAt.EqAt X.A.in1 s (.ref p) (.ref q) (decide (ns = ms)) := by
    obtain ⟨o1, ho1, hc1, m1, hd1⟩ := q1
    obtain ⟨o2, ho2, hc2, m2, hd2⟩ := q2
    rw [← eqv]
    exact SeqAt.eqAt_reads _ _ X.A.in1 s _ _ [] [] (.tuple ho1 hc1 hd1 (by simpa using k1.reads _)) (.tuple ho2 hc2 hd2 (by simpa using k2.reads _)) ((dT (K := X.K) dI).lay ns) ((dT (K := X.K) dI).lay ms) (by
      have d1 : (PyData.tuple (ns.map .int)).depth ≤ 1 := (dT (K := X.K) dI).dep ns
      show X.A.units + 1 + _ < cLine
      omega)
  have R := Ob.RcOp.tuples_ge (A := X.A) (s := s) (e := fun k => if k = 0 then decide (i = j) else decide (ns = ms)) (r := fun k => if k = 0 then decide (j ≤ i) else geL ns ms) p1 p2 (by omega) (fun k k1 k2 => by
    match k, k1 with
    | 0, _ =>
      show SeqAt.EqAt _ _ (Value.int i t1) (Value.int j t2) (decide (i = j))
      rw [← Bool.beq_eq_decide_eq]
      exact SeqAt.EqAt.int_int _ _ _ _
    | 1, _ => exact eq) fun k k1 k2 _ => by
    match k, k1 with
    | 0, _ => exact Ob.RcOp.ge_int _ _ _ _
    | 1, _ => exact inner
  have hv : Ob.lexAt (fun k => if k = 0 then decide (i = j) else decide (ns = ms)) (fun k => if k = 0 then decide (j ≤ i) else geL ns ms) (decide (([Value.int i t1, Value.ref p] : List Value).toArray.size ≥ ([Value.int j t2, Value.ref q] : List Value).toArray.size)) 0 (min ([Value.int i t1, Value.ref p] : List Value).toArray.size ([Value.int j t2, Value.ref q] : List Value).toArray.size) = geIT (i, ns) (j, ms) := by
    show Ob.lexAt _ _ _ 0 2 = _
    rw [Ob.lexAt_succ, Ob.lexAt_succ, Ob.lexAt_zero]
    unfold geIT
    by_cases h1 : i = j <;> by_cases h2 : ns = ms <;> simp [h1, h2]
  rw [hv] at R
  exact R X.prog X.w X.xe (EP X pins σ Q) ⟨.bl _, H, I, rfl, hQ⟩
theorem o_geIT {K : PySem.W.Frag} {x y : Int × List Int} : Op2 (rGeIT K) (pu (tP2 K tI (tT K tI)) x) (pu (tP2 K tI (tT K tI)) y) (pu tB (geIT x y)) :=
  op2_val fun B H v u s h1 h2 Q k => by
    obtain ⟨a, v1, v2, e, z, r1, p, vs, e2, q, r2⟩ := h1
    obtain ⟨b, u1, u2, e', z', r1', p', us, e2', q', r2'⟩ := h2
    obtain rfl : v1 = V.int x.1 := r1
    obtain rfl : u1 = V.int y.1 := r1'
    subst e2 e2'
    rw [paired_int r2] at q
    rw [paired_int r2'] at q'
    exact ⟨a, b, p, p', x.1, y.1, x.2, y.2, e, e', same_sqt s z, same_sqt s q, same_sqt s z', same_sqt s q', k _ rfl⟩
/-- where none is told: no tables -/
instance (priority := low) tb0 : Tb := ⟨[]⟩
end Fw

/-! ## == and != of lists whose items have an own == -/
namespace FwE
open PySem PySem.SeqAt
open PySem.AutoSeq1 (wpAny_loadPart')
open PySem.MeetsSeq PySem.MeetsSeq2 PySem.MeetsSeq3
section
variable {prog : Program} {w : World} {A : Around} {R : Result → Shared → Prop}
/-- the body of a builtin has come to its end -/
abbrev BEnd (prog : Program) (w : World) (A : Around) (R : Result → Shared → Prop) : Fin → Shared → Prop := fun fin s' => match fin with
  | .done f => R (.ok f) s'
  | .again c' => c'.quiet = true ∧ codeAny (model prog w) A c' R s'
/-- N items each; the i-th two compare as e i says -/
def Rows2 (prog : Program) (w : World) (A : Around) (E : Value → Shared → Prop) (x y : Addr) (N : Nat) (e : Nat → Bool) (I : Nat → Shared → Prop) : Prop :=
  ∀ i s, I i s → ∃ (us vs : Array Value) (m n : Nat), s.heap.get? x = some { cls := .type "list", data := .seq us m } ∧ s.heap.get? y = some { cls := .type "list", data := .seq vs n } ∧ us.size = N ∧ vs.size = N ∧
    ∀ (h1 : i < us.size) (h2 : i < vs.size), wpAny (model prog w) A.in1 (eqBool us[i] vs[i]) (fun r s' => r = e i ∧ I (i + 1) s') E s
/-- all from i on -/
def allFrom (e : Nat → Bool) (N i : Nat) : Bool := ((List.range N).drop i).all e
theorem allFrom_end {e : Nat → Bool} {N : Nat} : allFrom e N N = true := by
  unfold allFrom
  rw [List.drop_of_length_le (by simp)]
  rfl
theorem allFrom_step {e : Nat → Bool} {N i : Nat} (h : i < N) : allFrom e N i = (e i && allFrom e N (i + 1)) := by
  unfold allFrom
  rw [List.drop_eq_getElem_cons (by simpa using h), List.all_cons, List.getElem_range]
def opCode (ne : Bool) : Int := if ne = true then 3 else 2
theorem loop2 (ne : Bool) (x y : Addr) (N : Nat) (e : Nat → Bool) (v : Bool) (I : Nat → Shared → Prop) (rows : Rows2 prog w A (fun e s' => R (.error e) s') x y N e I)
    (fin : ∀ j s, I j s → R (.ok (.ret (.bool (ne != v)))) s) (k : Nat) : ∀ i : Nat, N - i = k → i ≤ N → allFrom e N i = v → ∀ s, I i s →
      wpAny (model prog w) A.in1 (Builtin.«list.__eq__.loop» ⟨[.ref x, .ref y, rawInt i, rawInt (opCode ne)], []⟩) (BEnd prog w A R) (fun e s' => R (.error e) s') s := by
  induction k with
  | zero =>
    intro i hk hi hv s h
    obtain ⟨us, vs, m, n, gx, gy, zx, zy, _⟩ := rows _ _ h
    have ei : i = N := by omega
    have hR := fin i s h
    rw [ei, allFrom_end] at hv
    subst hv
    obtain ⟨hp, g, d, tk, os⟩ := s
    have ni : us[((i : Nat) : Int).toNat]? = none := by simp; omega
    have nj : vs[((i : Nat) : Int).toNat]? = none := by simp; omega
    cases ne with
    | true =>
      unfold opCode
      wp_walk using wpAny_loadPart' gx, wpAny_loadPart' gy
      rw [ni, nj]
      wp_walk using wpAny_loadPart' gx, wpAny_loadPart' gy
      show R (.ok (.ret (.bool (us.size != vs.size)))) _
      rw [zx, zy]
      simpa using hR
    | false =>
      unfold opCode
      wp_walk using wpAny_loadPart' gx, wpAny_loadPart' gy
      rw [ni, nj]
      wp_walk using wpAny_loadPart' gx, wpAny_loadPart' gy
      show R (.ok (.ret (.bool (us.size == vs.size)))) _
      rw [zx, zy]
      simpa using hR
  | succ k ih =>
    intro i hk hi hv s h
    obtain ⟨us, vs, m, n, gx, gy, zx, zy, turn⟩ := rows _ _ h
    have li : i < us.size := by omega
    have lj : i < vs.size := by omega
    have ht := turn li lj
    rw [allFrom_step (by omega)] at hv
    obtain ⟨hp, g, d, tk, os⟩ := s
    have si : us[((i : Nat) : Int).toNat]? = some us[i] := by simp [li]
    have sj : vs[((i : Nat) : Int).toNat]? = some vs[i] := by simp [lj]
    have hc : ((i : Int) + 1) = ((i + 1 : Nat) : Int) := by omega
    have go : ∀ (o : Bool) (s2 : Shared), o = ne → e i = true → I (i + 1) s2 → BEnd prog w A R (.again (.builtin "list.__eq__.loop" ⟨[.ref x, .ref y, rawInt ((i : Int) + 1), rawInt (opCode o)], []⟩)) s2 := fun o s2 ho he hI => by
      subst ho
      rw [he, Bool.true_and] at hv
      have r := ih (i + 1) (by omega) (by omega) hv s2 hI
      refine ⟨plainId_quiet plain_eq_loop _, codeAny_builtin entry_eq_loop ?_⟩
      rw [Around.under_plainId plain_eq_loop _, hc]
      exact r
    cases ne with
    | true =>
      unfold opCode
      wp_walk using wpAny_loadPart' gx, wpAny_loadPart' gy
      rw [si, sj]
      refine wpAny_bind (wpAny_mono ht (fun r s2 q => ?_) fun _ _ z => z)
      obtain ⟨hr, hI⟩ := q
      cases he : e i with
      | true =>
        rw [he] at hr
        subst hr
        have z := go true s2 rfl he hI
        obtain ⟨hp2, g2, d2, tk2, os2⟩ := s2
        wp_walk
        exact z
      | false =>
        rw [he] at hr
        subst hr
        rw [he, Bool.false_and] at hv
        subst hv
        have hR := fin _ s2 hI
        obtain ⟨us2, vs2, m2, n2, gx2, gy2, zx2, zy2, _⟩ := rows _ _ hI
        have s2i : us2[((i : Nat) : Int).toNat]? = some (us2[i]'(by omega)) := by simp [show i < us2.size by omega]
        have s2j : vs2[((i : Nat) : Int).toNat]? = some (vs2[i]'(by omega)) := by simp [show i < vs2.size by omega]
        obtain ⟨hp2, g2, d2, tk2, os2⟩ := s2
        wp_walk using wpAny_loadPart' gx2, wpAny_loadPart' gy2
        rw [s2i, s2j]
        wp_walk
        exact hR
    | false =>
      unfold opCode
      wp_walk using wpAny_loadPart' gx, wpAny_loadPart' gy
      rw [si, sj]
      refine wpAny_bind (wpAny_mono ht (fun r s2 q => ?_) fun _ _ z => z)
      obtain ⟨hr, hI⟩ := q
      cases he : e i with
      | true =>
        rw [he] at hr
        subst hr
        have z := go false s2 rfl he hI
        obtain ⟨hp2, g2, d2, tk2, os2⟩ := s2
        wp_walk
        exact z
      | false =>
        rw [he] at hr
        subst hr
        rw [he, Bool.false_and] at hv
        subst hv
        have hR := fin _ s2 hI
        obtain ⟨us2, vs2, m2, n2, gx2, gy2, zx2, zy2, _⟩ := rows _ _ hI
        have s2i : us2[((i : Nat) : Int).toNat]? = some (us2[i]'(by omega)) := by simp [show i < us2.size by omega]
        have s2j : vs2[((i : Nat) : Int).toNat]? = some (vs2[i]'(by omega)) := by simp [show i < vs2.size by omega]
        obtain ⟨hp2, g2, d2, tk2, os2⟩ := s2
        wp_walk using wpAny_loadPart' gx2, wpAny_loadPart' gy2
        rw [s2i, s2j]
        wp_walk
        exact hR
theorem body2 (ne : Bool) (x y : Addr) (N : Nat) (e : Nat → Bool) (v : Bool) (I : Nat → Shared → Prop) (rows : Rows2 prog w A (fun e s' => R (.error e) s') x y N e I)
    (fin : ∀ j s, I j s → R (.ok (.ret (.bool (ne != v)))) s) (hv : allFrom e N 0 = v) {s : Shared} (h : I 0 s) :
    wpAny (model prog w) A.in1 ((if ne = true then Builtin.«list.__ne__» else Builtin.«list.__eq__») ⟨[.ref x, .ref y], []⟩) (BEnd prog w A R) (fun e s' => R (.error e) s') s := by
  obtain ⟨us, vs, m, n, gx, gy, zx, zy, _⟩ := rows _ _ h
  have hrec := loop2 (A := A) (R := R) ne x y N e v I rows fin _ 0 rfl (Nat.zero_le _) hv s h
  obtain ⟨hp, g, d, tk, os⟩ := s
  have f3 := AutoSeq1.sub_list_list
  have hsz : ¬ (us.size != vs.size) = true := by simp [zx, zy]
  cases ne with
  | true =>
    show wpAny (model prog w) A.in1 (Builtin.«list.__ne__» ⟨[.ref x, .ref y], []⟩) _ _ _
    wp_walk using wpAny_loadPart' gx, wpAny_loadPart' gy
    refine ⟨plainId_quiet plain_eq_loop _, codeAny_builtin entry_eq_loop ?_⟩
    rw [Around.under_plainId plain_eq_loop _]
    exact hrec
  | false =>
    show wpAny (model prog w) A.in1 (Builtin.«list.__eq__» ⟨[.ref x, .ref y], []⟩) _ _ _
    wp_walk using wpAny_loadPart' gx, wpAny_loadPart' gy
    refine ⟨plainId_quiet plain_eq_loop _, codeAny_builtin entry_eq_loop ?_⟩
    rw [Around.under_plainId plain_eq_loop _]
    exact hrec
end
section
variable {prog : Program} {w : World} {A : Around} {E : Value → Shared → Prop} {s : Shared} {Q : Value → Shared → Prop}
theorem rc2 (ne : Bool) {x y : Addr} {N : Nat} {e : Nat → Bool} {v : Bool} (hu : A.units < cLine) (I : Nat → Shared → Prop) (rows : Rows2 prog w A E x y N e I)
    (fin : ∀ j s, I j s → Q (.bool (ne != v)) s) (hv : allFrom e N 0 = v) (h : I 0 s) : wpAny (model prog w) A (richCompare (if ne = true then .NotEq else .Eq) (.ref x) (.ref y)) Q E s := by
  obtain ⟨us, vs, m, n, gx, gy, _, _, _⟩ := rows _ _ h
  cases ne with
  | true =>
    refine wpAny_richCompare_same_room (op := .NotEq) ⟨_, gx, rfl⟩ ⟨_, gy, rfl⟩ F.slot_list_ne (GQ.call_here F.slot_list_ne ⟨_, gx, rfl⟩ F.entry_list_ne (F.args_list_ne_2 _ _) ?_) hu
    exact body2 true (R := wants (fun z s' => z ≠ .notImplemented ∧ Q z s') E) x y N e v I rows (fun j s' q => ⟨(fun z => nomatch z), fin j s' q⟩) hv h
  | false =>
    refine wpAny_richCompare_same_room (op := .Eq) ⟨_, gx, rfl⟩ ⟨_, gy, rfl⟩ F.slot_list_eq (GQ.call_here F.slot_list_eq ⟨_, gx, rfl⟩ F.entry_list_eq (F.args_list_eq_2 _ _) ?_) hu
    exact body2 false (R := wants (fun z s' => z ≠ .notImplemented ∧ Q z s') E) x y N e v I rows (fun j s' q => ⟨(fun z => nomatch z), fin j s' q⟩) hv h
theorem rc2_len (ne : Bool) {x y : Addr} {us vs : Array Value} {m n : Nat} (hu : A.units < cLine) (gx : s.heap.get? x = some { cls := .type "list", data := .seq us m }) (gy : s.heap.get? y = some { cls := .type "list", data := .seq vs n })
    (hsz : us.size ≠ vs.size) (fin : Q (.bool ne) s) : wpAny (model prog w) A (richCompare (if ne = true then .NotEq else .Eq) (.ref x) (.ref y)) Q E s := by
  cases ne with
  | true => exact richCompare_meets_room (op := .NotEq) ⟨_, gx, rfl⟩ ⟨_, gy, rfl⟩ F.slot_list_ne F.entry_list_ne (F.args_list_ne_2 _ _) (list_ne_lengthsAt x y us vs m n _ _ _ _ (by simpa using hsz)) ⟨gx, gy, ⟨(fun z => nomatch z), fin⟩⟩ hu
  | false => exact richCompare_meets_room (op := .Eq) ⟨_, gx, rfl⟩ ⟨_, gy, rfl⟩ F.slot_list_eq F.entry_list_eq (F.args_list_eq_2 _ _) (list_eq_lengthsAt x y us vs m n _ _ _ _ (by simpa using hsz)) ⟨gx, gy, ⟨(fun z => nomatch z), fin⟩⟩ hu
end
end FwE
namespace Fw
open PySem PySem.Spec PyProof.Rows L2
variable [Tb]
variable {α β : Type}
/-- the own == of a type's things -/
structure EqDef (P : Program) (w : World) (K : PySem.W.Frag) (mg : Str → Option Value) (base : Heap) [DecidableEq α] (R : Ty α) (C : Addr) (k : Nat) (f : Addr) (fd : FuncData) (ps : List Str) : Prop where
  F : FnOk P w K mg base CX0 k f fd ps (spP (A := α × α) (fun _ => True) (fun x => [pu R x.1, pu R x.2]) (fun x => pu tB (decide (x.1 = x.2))))
  hs : PySem.W.findIn K (.ref C) "__eq__" = some (some (.ref f))
  hf : PySem.W.isFn K (.ref f) = true
  hb : Binds K fd ps []
  ins : ∀ {B : Hp} {v : V} {x : α}, R.rep B v x → ∃ a dx fs, v = .ref a ∧ B a = some (.ins C dx fs)
  fn : ∀ {X : Cx} {pins : List (Addr × Obj)} {σ : L2.St} {H : Hp} {s : Shared} {B : Hp} {v : V} {x y : α}, X.K = K → Inv X pins σ H s → Same B H → R.rep B v x → R.rep B v y → x = y
theorem eq_turn [DecidableEq α] {X : Cx} {R : Ty α} {C f : Addr} {k : Nat} {fd : FuncData} {ps : List Str} (D : EqDef X.prog X.w X.K X.mg X.base R C k f fd ps) (hr : Room (k + 1) X.A) {pins : List (Addr × Obj)} {σ : L2.St} {s : Shared} {st : Sta} {σe : L2.St} {Γ : List Slot} [HasTab Γ] (E : EnvOk st σe Γ) (I : Inv X pins σ st.H s)
    {v u : V} {vv uu : Value} (rv : RelV v vv) (ru : RelV u uu) {x y : α} (hx : R.rep st.B v x) (hy : R.rep st.B u y) :
    wpAny (model X.prog X.w) X.A.in1 (eqBool vv uu) (fun r s' => r = decide (x = y) ∧ ∃ st' : Sta, EnvOk st' σe Γ ∧ Evo st st' ∧ Inv X pins σ st'.H s') X.xe s := by
  obtain ⟨a, dx, fs, rfl, ga⟩ := D.ins hx
  obtain ⟨b, dy, gs, rfl, gb⟩ := D.ins hy
  obtain rfl : vv = Value.ref a := rv
  obtain rfl : uu = Value.ref b := ru
  by_cases hab : a = b
  · subst hab
    have e := D.fn rfl I E.sub hx hy
    exact SeqAt.EqAt.same (A := X.A.in1) (s := s) (.ref a) X.prog X.w X.xe _ ⟨by rw [decide_eq_true e], st, E, Evo.refl st, I⟩
  refine GQ.eqBool_refG hab ?_
  obtain ⟨m1, j1, _⟩ := ins_get I.hok (E.sub _ _ ga)
  obtain ⟨m2, j2, _⟩ := ins_get I.hok (E.sub _ _ gb)
  obtain ⟨o1, j1, _⟩ := j1.look
  obtain ⟨o2, j2, _⟩ := j2.look
  obtain ⟨m, hF⟩ := I.fr
  have hr1 : Room k X.A.in1 := hr.in1
  refine PySem.W.cmp_K (op := .Eq) (tb := .ref C) hr1.units0 hF I.ok.mod.kin j1 j2.type (by simp [PySem.W.notFirst]) D.hs D.hf ?_
  have hl : σe.length = Γ.length := E.len
  have E2 := (E.push0 (o := some (.ref a)) (pu R x) ⟨rfl, _, rfl, hx⟩).push0 (o := some (.ref b)) (pu R y) ⟨rfl, _, rfl, hy⟩
  rw [List.append_assoc, List.append_assoc] at E2
  obtain ⟨sc, hH, Ec, back⟩ := handT hl E2
  have hsp : spP (A := α × α) (fun _ => True) (fun x => [pu R x.1, pu R x.2]) (fun x => pu tB (decide (x.1 = x.2))) [.ref a, .ref b] st.H (fun z H' => z = .bl (decide (x = y)) ∧ ∃ st' : Sta, st'.H = H' ∧ EnvOk st' σe Γ ∧ Evo st st') E0 := by
    refine ⟨(x, y), sc, hH, trivial, Ec, fun z s' E' e' => ?_⟩
    obtain ⟨s3, h3, E3, e3⟩ := back [some z] [pu tB (decide (x = y))] s' E' e'
    have hz : z = .bl (decide (x = y)) := pu_top E3
    obtain ⟨E4, e4⟩ := E3.pop
    exact ⟨hz, s3.cut Γ.length, h3, E4, e3.trans e4⟩
  have r2 : Vals [V.ref a, V.ref b] [Value.ref a, Value.ref b] := .cons rfl (.cons rfl .nil)
  have hlen := D.F.len _ _ _ _ hsp
  refine wpAny_call (codeAny_mono (D.F.run X.A.in1 X.stack s st.H ⟨[.ref a, .ref b], []⟩ [.ref a, .ref b] [.ref a, .ref b] _ E0 hr1 I.env0.in1 (by
    have q := D.hb s [.ref a, .ref b] I.kIn (by simpa using hlen)
    simpa using q) r2 hsp) fun r s' hq => ?_)
  cases r with
  | error e => exact (show False from hq).elim
  | ok fl =>
    cases fl with
    | ret z =>
      obtain ⟨zv, H', I', rz, ez, st', eH, E', e'⟩ := I.after hq
      subst ez
      obtain rfl : z = Value.bool (decide (x = y)) := rz
      subst eH
      exact ⟨_, rfl, rfl, st', E', e', I'⟩
    | next => exact False.elim hq
    | brk => exact False.elim hq
    | cont => exact False.elim hq
theorem paired_getV' {F : V → Value → Prop} : ∀ {vs : List V} {us : List Value} {i : Nat} {u : Value}, Paired F vs us → us[i]? = some u → ∃ v, vs[i]? = some v ∧ F v u
  | _, _, _, _, .nil, e => by simp at e
  | _, _, 0, u, .cons h r, e => by simp at e; subst e; exact ⟨_, rfl, h⟩
  | _, _, i + 1, u, .cons h r, e => by
    obtain ⟨v, h1, h2⟩ := paired_getV' (i := i) (u := u) r (by simpa using e)
    exact ⟨v, by simpa using h1, h2⟩
/-- a comparison as it runs -/
def rRun (X : Cx) (op : CmpOp) : R2 := fun x y H Q => ∀ (pins : List (Addr × Obj)) (s : Shared) (σ : L2.St) (v u : Value), Inv X pins σ H s → RelV x v → RelV y u → wpAny (model X.prog X.w) X.A (compareOp op v u) (EP X pins σ Q) X.xe s
theorem op_run {X : Cx} {op : CmpOp} : OpR X (compareOp op) (rRun X op) := fun pins s σ H x y v u Q I rx ry h => h pins s σ v u I rx ry
def eqOp (ne : Bool) : CmpOp := if ne = true then .NotEq else .Eq
theorem allFrom_lists [DecidableEq α] : ∀ (xs ys : List α), xs.length = ys.length → FwE.allFrom (fun i => decide (xs[i]? = ys[i]?)) xs.length 0 = decide (xs = ys) := fun xs ys h => by
  rw [Bool.eq_iff_iff, decide_eq_true_eq]
  unfold FwE.allFrom
  rw [List.drop_zero, List.all_eq_true]
  constructor
  · intro k
    refine List.ext_getElem? fun i => ?_
    by_cases hi : i < xs.length
    · exact of_decide_eq_true (k i (List.mem_range.mpr hi))
    · rw [List.getElem?_eq_none (by omega), List.getElem?_eq_none (by omega)]
  · intro k i _
    rw [k]; simp
theorem eq_lists [DecidableEq α] {X : Cx} {R : Ty α} {C f : Addr} {k : Nat} {fd : FuncData} {ps : List Str} (ne : Bool) (D : EqDef X.prog X.w X.K X.mg X.base R C k f fd ps) (hr : Room (k + 1) X.A) {pins : List (Addr × Obj)} {σ : L2.St} {s : Shared} {st : Sta} {σe : L2.St} {Γ : List Slot} [HasTab Γ] {v u : V} {xs ys : List α}
    (E : EnvOk st ((σe ++ [some v]) ++ [some u]) ((Γ ++ [pu (tLs X.K R) xs]) ++ [pu (tLs X.K R) ys])) (I : Inv X pins σ st.H s) {vv uu : Value} (rv : RelV v vv) (ru : RelV u uu) {Q : Value → Shared → Prop}
    (fin : ∀ (st' : Sta) (s' : Shared), EnvOk st' ((σe ++ [some v]) ++ [some u]) ((Γ ++ [pu (tLs X.K R) xs]) ++ [pu (tLs X.K R) ys]) → Evo st st' → Inv X pins σ st'.H s' → Q (.bool (ne != decide (xs = ys))) s') :
    wpAny (model X.prog X.w) X.A (compareOp (eqOp ne) vv uu) Q X.xe s := by
  obtain ⟨⟨a, vs, ea, ha, pa⟩, ⟨b, us, eb, hb, pb⟩⟩ := pu_top2 E
  subst ea eb
  obtain rfl : vv = Value.ref a := rv
  obtain rfl : uu = Value.ref b := ru
  -- the lists in a later state
  have at_ : ∀ (st' : Sta) (s' : Shared), EnvOk st' ((σe ++ [some (.ref a)]) ++ [some (.ref b)]) ((Γ ++ [pu (tLs X.K R) xs]) ++ [pu (tLs X.K R) ys]) → Evo st st' → Inv X pins σ st'.H s' →
      ∃ (ia ib : List Value) (m n : Nat), s'.heap.get? a = some { cls := .type "list", data := .seq ia.toArray m } ∧ s'.heap.get? b = some { cls := .type "list", data := .seq ib.toArray n } ∧ Vals vs ia ∧ Vals us ib := fun st' s' E' e' I' => by
    obtain ⟨_, ia, m, va, ga⟩ := I'.hok a _ (E'.sub _ _ (e'.b _ _ ha))
    obtain ⟨_, ib, n, vb, gb⟩ := I'.hok b _ (E'.sub _ _ (e'.b _ _ hb))
    exact ⟨ia, ib, m, n, ga, gb, va, vb⟩
  obtain ⟨ia, ib, m, n, ga, gb, va, vb⟩ := at_ st s E (Evo.refl st) I
  have la := va.length
  have lb := vb.length
  have lx := paired_len pa
  have ly := paired_len pb
  have hu : X.A.units < cLine := hr.units0
  have hcmp : ∀ z z', compareOp (eqOp ne) z z' = richCompare (if ne = true then .NotEq else .Eq) z z' := fun z z' => by cases ne <;> rfl
  rw [hcmp]
  by_cases hlen : xs.length = ys.length
  · refine FwE.rc2 ne (N := xs.length) (e := fun i => decide (xs[i]? = ys[i]?)) (v := decide (xs = ys)) hu (fun _ s' => ∃ st' : Sta, EnvOk st' ((σe ++ [some (.ref a)]) ++ [some (.ref b)]) ((Γ ++ [pu (tLs X.K R) xs]) ++ [pu (tLs X.K R) ys]) ∧ Evo st st' ∧ Inv X pins σ st'.H s')
      (fun i s' h => ?_) (fun _ s' ⟨st', E', e', I'⟩ => fin st' s' E' e' I') (allFrom_lists xs ys hlen) ⟨st, E, Evo.refl st, I⟩
    obtain ⟨st', E', e', I'⟩ := h
    obtain ⟨ja, jb, m', n', ha', hb', wa, wb⟩ := at_ st' s' E' e' I'
    have ka := wa.length
    have kb := wb.length
    refine ⟨ja.toArray, jb.toArray, m', n', ha', hb', by simp; omega, by simp; omega, fun h1 h2 => ?_⟩
    have h1' : i < ja.length := by simpa using h1
    have h2' : i < jb.length := by simpa using h2
    obtain ⟨v1, ev1, r1⟩ := paired_getV' wa (i := i) (by rw [List.getElem?_eq_getElem h1'])
    obtain ⟨v2, ev2, r2⟩ := paired_getV' wb (i := i) (by rw [List.getElem?_eq_getElem h2'])
    obtain ⟨x1, ex1, q1⟩ := paired_getV pa ev1
    obtain ⟨x2, ex2, q2⟩ := paired_getV pb ev2
    have q := eq_turn D hr E' I' r1 r2 (R.mono e'.b q1) (R.mono e'.b q2)
    have g1 : ja.toArray[i] = ja[i] := by simp
    have g2 : jb.toArray[i] = jb[i] := by simp
    rw [g1, g2]
    refine wpAny_mono q (fun r s2 ⟨hr2, st2, E2, e2, I2⟩ => ⟨?_, st2, E2, e'.trans e2, I2⟩) fun _ _ z => z
    rw [hr2]
    show decide (x1 = x2) = decide (xs[i]? = ys[i]?)
    rw [ex1, ex2]
    simp
  · have hne : xs ≠ ys := fun e => hlen (by rw [e])
    refine FwE.rc2_len ne hu ga gb (by simp; omega) ?_
    have q := fin st s E (Evo.refl st) I
    rw [decide_eq_false hne] at q
    simpa using q
/-- xs == ys, xs != ys, the items with an own == -/
theorem t_eqOwn [DecidableEq α] {X : Cx} {R : Ty α} {C f : Addr} {k : Nat} {fd : FuncData} {ps : List Str} (ne : Bool) (D : EqDef X.prog X.w X.K X.mg X.base R C k f fd ps) (hr : Room (k + 1) X.A) {a b : Expr} {pos : Pos} {Γ Γ1 Γ2 : List Slot} {xs ys : List α} (ha : EX X a Γ (pu (tLs X.K R) xs) Γ1) (hb : EX X b Γ1 (pu (tLs X.K R) ys) Γ2)
    (hm : behindInMarks (eqOp ne) b = false) : ET X (.Compare a [eqOp ne] [b] pos) Γ (ne != decide (xs = ys)) Γ2 := by
  intro T _ τ σ s hl E Q hQ
  refine rt_of (pt_cmpR op_run peR peR hm) ?_
  refine ha T τ σ s hl E _ fun v1 s1 E1 l1 e1 => ?_
  rw [List.append_assoc, List.append_assoc] at E1
  refine hb _ _ σ s1 (by rw [hl, l1]) E1 _ fun v2 s2 E2 l2 e2 => ?_
  rw [← List.append_assoc, ← List.append_assoc] at E2
  intro pins sh σ' vv uu I rv ru
  refine eq_lists ne D hr E2 I rv ru fun st' s' E' e' I' => ⟨.bl (ne != decide (xs = ys)), st'.H, I', rfl, ?_⟩
  obtain ⟨E3, e3⟩ := E'.pop
  obtain ⟨E4, e4⟩ := E3.pop
  have q := hQ _ E4 (l2.trans l1) ((((e1.trans e2).trans e').trans e3).trans e4)
  exact ⟨_, rfl, q⟩
end Fw

namespace Fw
open PySem L2
variable [Tb]
variable {α β γ : Type}
/-! ## a thing is told by its value -/
def Fn (K : PySem.W.Frag) (R : Ty α) : Prop := ∀ {X : Cx} {pins : List (Addr × Obj)} {σ : L2.St} {H : Hp} {s : Shared} {B : Hp} {v : V} {x y : α}, X.K = K → Inv X pins σ H s → Same B H → R.rep B v x → R.rep B v y → x = y
theorem ints_eq : ∀ {us : List Value} {xs ys : List Int}, PyProof.Rows.IntsAre us xs → PyProof.Rows.IntsAre us ys → xs = ys
  | _, _, _, .nil, .nil => rfl
  | _, _, _, .cons _ _ h, .cons _ _ k => by rw [ints_eq h k]
theorem fn_T {K : PySem.W.Frag} : Fn K (tT K tI) := by
  intro X pins σ H s B v xs ys hK I hB hx hy
  obtain ⟨a, vs, e, z, r⟩ := hx
  obtain ⟨b, us, e2, z2, r2⟩ := hy
  subst e
  cases e2
  subst hK
  rw [paired_int r] at z
  rw [paired_int r2] at z2
  obtain ⟨i1, w1, ⟨o1, h1, c1, n1, d1⟩, _⟩ := I.tuple (same_sqt hB z)
  obtain ⟨i2, w2, ⟨o2, h2, c2, n2, d2⟩, _⟩ := I.tuple (same_sqt hB z2)
  rw [h1] at h2
  cases h2
  rw [d1] at d2
  have e3 : i1.toArray = i2.toArray := by injection d2
  have e4 : i1 = i2 := by simpa using congrArg Array.toList e3
  subst e4
  exact ints_eq (Vals.ints w1) (Vals.ints w2)
theorem fn_Sd {K : PySem.W.Frag} {C : Addr} : Fn K (tObj C (flSd K)) := by
  intro X pins σ H s B v x y hK I hB hx hy
  obtain ⟨a, dx, vs, e, h1, h2, r⟩ := hx
  obtain ⟨b, dy, us, e2, k1, k2, q⟩ := hy
  subst e
  cases e2
  rw [h1] at k1
  cases k1
  unfold flSd at r q
  cases r with
  | cons r1 r' =>
    cases r' with
    | cons r2 r'' =>
      cases q with
      | cons q1 q' =>
        cases q' with
        | cons q2 q'' =>
          have e1 := fn_T hK I hB r1.2 q1.2
          have e2 := fn_T hK I hB r2.2 q2.2
          cases x; cases y
          simp only at e1 e2
          rw [e1, e2]
theorem ins_Obj {C : Addr} {fl : α → List (Str × Fld)} {B : Hp} {v : V} {x : α} (h : (tObj C fl).rep B v x) : ∃ a dx fs, v = .ref a ∧ B a = some (.ins C dx fs) := let ⟨a, dx, vs, e, h1, _⟩ := h; ⟨a, dx, vs, e, h1⟩
theorem eqdef_of [DecidableEq α] {P : Program} {w : World} {K : PySem.W.Frag} {mg : Str → Option Value} {base : Heap} {fl : α → List (Str × Fld)} {C : Addr} {k : Nat} {f : Addr} {fd : FuncData} {ps : List Str} {m : α → α → Bool}
    (F : FnOk P w K mg base CX0 k f fd ps (spP (A := α × α) (fun _ => True) (fun x => [pu (tObj C fl) x.1, pu (tObj C fl) x.2]) (fun x => pu tB (m x.1 x.2)))) (hm : ∀ x y, m x y = decide (x = y))
    (hs : PySem.W.findIn K (.ref C) "__eq__" = some (some (.ref f))) (hf : PySem.W.isFn K (.ref f) = true) (hb : Binds K fd ps []) (hfn : Fn K (tObj C fl)) : EqDef P w K mg base (tObj C fl) C k f fd ps := by
  have e : (fun x : α × α => pu tB (m x.1 x.2)) = fun x => pu tB (decide (x.1 = x.2)) := funext fun x => by rw [hm]
  rw [e] at F
  exact ⟨F, hs, hf, hb, ins_Obj, hfn⟩
theorem t_neOwn [DecidableEq α] {X : Cx} {R : Ty α} {C f : Addr} {k : Nat} {fd : FuncData} {ps : List Str} (D : EqDef X.prog X.w X.K X.mg X.base R C k f fd ps) (hr : Room (k + 1) X.A) {a b : Expr} {pos : Pos} {Γ Γ1 Γ2 : List Slot} {xs ys : List α} (ha : EX X a Γ (pu (tLs X.K R) xs) Γ1) (hb : EX X b Γ1 (pu (tLs X.K R) ys) Γ2)
    (hm : behindInMarks .NotEq b = false := by rfl) : ET X (.Compare a [.NotEq] [b] pos) Γ (!decide (xs = ys)) Γ2 := by
  have h := t_eqOwn (pos := pos) true D hr ha hb hm
  rwa [show (true != decide (xs = ys)) = !decide (xs = ys) by cases decide (xs = ys) <;> rfl] at h
theorem t_eqqOwn [DecidableEq α] {X : Cx} {R : Ty α} {C f : Addr} {k : Nat} {fd : FuncData} {ps : List Str} (D : EqDef X.prog X.w X.K X.mg X.base R C k f fd ps) (hr : Room (k + 1) X.A) {a b : Expr} {pos : Pos} {Γ Γ1 Γ2 : List Slot} {xs ys : List α} (ha : EX X a Γ (pu (tLs X.K R) xs) Γ1) (hb : EX X b Γ1 (pu (tLs X.K R) ys) Γ2)
    (hm : behindInMarks .Eq b = false := by rfl) : ET X (.Compare a [.Eq] [b] pos) Γ (decide (xs = ys)) Γ2 := by
  have h := t_eqOwn (pos := pos) false D hr ha hb hm
  rwa [show (false != decide (xs = ys)) = decide (xs = ys) by cases decide (xs = ys) <;> rfl] at h
/-! ## properties -/
theorem x_prop {A : Type} {pre : A → Prop} {G : A → List Slot} {S : A → Slot} {X : Cx} {C p g : Addr} {k : Nat} {nm : Str} {fd : FuncData} {ps : List Str} {fl : α → List (Str × Fld)} {a : α} {S' : Slot} {e : Expr} {pos : Pos} {Γ Γ1 : List Slot} (he : EX X e Γ (pu (tObj C fl) a) Γ1) (c : Cls X.K C) (hp : PropOf X.K C nm p g)
    (F : FnOk X.prog X.w X.K X.mg X.base CX0 k g fd ps (spP pre G S)) (hb : Binds X.K fd ps []) (hr : Room (k + 1) X.A) (x : A) (hx : pre x) (hG : [pu (tObj C fl) a] = G x) (hS : S x = S') (hab : attributeBase e nm X.env (eval e X.env) = eval e X.env := by rfl) :
    EX X (.Attribute e nm pos) Γ S' Γ1 := by
  subst hS
  intro T _ τ σ s hl E Q hQ
  refine re_of (pe_prop peR c hp F hr hb .nil pass0 hab) ?_
  refine he T τ σ s hl E _ fun v s1 E1 l1 e1 => ?_
  obtain ⟨y, dx, vs, ev, h1, _, _⟩ := pu_top E1
  refine ⟨y, dx, vs, ev, E1.sub _ _ h1, ?_⟩
  subst ev
  have q := n_call (G := G) (S := S) x hx hG (σ ++ τ) (Γ1 ++ T) s1 [.ref y] rfl E1 Q fun v' s' E' e' => hQ v' s' E' l1 (e1.trans e')
  exact q
end Fw
namespace FwE
open PySem PySem.SeqAt PyProof.Rows PySem.W
section
variable {prog : Program} {w : World} {A : Around} {E : Value → Shared → Prop} {s : Shared}
def rowData (ns : List Int) : PyData := .tuple (ns.map .int)
theorem rowData_lt (ns ms : List Int) : dataLt (rowData ns) (rowData ms) = decide (ns < ms) := by
  unfold rowData
  rw [dataLt_tuple]
  exact dataLt_ints ns ms
theorem rowData_alike (ns ms : List Int) : alike (rowData ns) (rowData ms) = true := by
  unfold rowData
  simp [alike, alike_ints]
theorem rowData_depth (ns : List Int) : (rowData ns).depth = 1 := by
  unfold rowData
  simp [PyData.depth, depth_ints]
/-- a tuple of ints -/
def TupI (h : Heap) (v : Value) (ns : List Int) : Prop := ∃ t its, v = .ref t ∧ IsTup h t (List.toArray its) ∧ IntsAre its ns
theorem TupI.keeps {h h' : Heap} {v : Value} {ns : List Int} (x : TupI h v ns) (k : ∀ b o, h.get? b = some o → o.cls = .type "tuple" → h'.get? b = some o) : TupI h' v ns := by
  obtain ⟨t, its, e, ⟨o, ho, hc, n, hd⟩, hi⟩ := x
  exact ⟨t, its, e, ⟨o, k _ _ ho hc, hc, n, hd⟩, hi⟩
theorem TupI.reads {h : Heap} {v : Value} {ns : List Int} (x : TupI h v ns) : Reads h v (rowData ns) [] := by
  obtain ⟨t, its, rfl, ⟨o, ho, hc, n, hd⟩, hi⟩ := x
  exact .tuple ho hc hd (by simpa using hi.reads _)
theorem oneLt_tup (c : Bool) {v u : Value} {ns ms : List Int} {Q : Bool → Shared → Prop} (hv : TupI s.heap v ns) (hw : TupI s.heap u ms) (hu : A.units + 2 < cLine) (hq : Q (decide (ns < ms)) s) : wpAny (model prog w) A (oneLt' c v u) Q E s := by
  cases c with
  | false =>
    refine oneLt_alike (f := false) (fun z => nomatch z) hv.reads hw.reads (rowData_alike ns ms) (fun z => nomatch z) ?_ (by rw [rowData_lt]; exact hq)
    rw [rowData_depth, rowData_depth]
    omega
  | true =>
    obtain ⟨t, its, rfl, ⟨o, ho, hc, n, hd⟩, hi⟩ := hv
    obtain ⟨t2, its2, rfl, ⟨o2, ho2, hc2, n2, hd2⟩, hi2⟩ := hw
    rw [oneLt'_eq]
    simp only [if_true]
    refine wpAny_bind (wpAny_cRoomFor (by omega) ?_)
    have hal : alikeAll (ns.map PyData.int) (ms.map PyData.int) = true := alike_ints ns ms
    have l1 : its.length = ns.length := hi.length
    have l2 : its2.length = ms.length := hi2.length
    have hr1 : ReadsAll s.heap its (ns.map .int) [] := hi.reads _
    have hr2 : ReadsAll s.heap its2 (ms.map .int) [] := hi2.reads _
    have hroom : A.in1.units + min (PyData.depthAll (ns.map .int)) (PyData.depthAll (ms.map .int)) < cLine := by
      rw [depth_ints, depth_ints]
      show A.units + 1 + _ < _
      omega
    have key : ∀ (Q' : Value → Shared → Prop), Q' (.bool (decide (ns < ms))) s → wpAny (model prog w) A (call (.builtin "tuple.__lt__") [.ref t, .ref t2]) Q' E s := fun Q' q => by
      obtain ⟨cls, dd, data, sl⟩ := o
      obtain ⟨cls2, dd2, data2, sl2⟩ := o2
      simp only at hc hd hc2 hd2
      subst hc hd hc2 hd2
      refine call_meets F.slot_tuple_lt ⟨_, ho, rfl⟩ F.entry_tuple_lt (F.args_tuple_lt_2 _ _) (tuple_ltAt t t2 its.toArray its2.toArray n n2 dd dd2 sl sl2 (pairEq (ns.map PyData.int) (ms.map PyData.int)) (fun j => dataLt ((ns.map PyData.int).getD j .none) ((ms.map PyData.int).getD j .none)))
        ⟨ho, ho2, fun j j1 j2 => ?_, fun j j1 j2 hj => ?_, ?_⟩
      · have := eqAt_alikeAll _ _ A.in1 s its its2 _ _ hr1 hr2 hal hroom j (by simpa using j1) (by simpa using j2)
        simpa using this
      · have := rcLt_alikeAll _ _ A.in1 s its its2 _ _ hr1 hr2 hal hroom j (by simpa using j1) (by simpa using j2) hj
        simpa using this
      · have e1 : its.toArray.size = (ns.map PyData.int).length := by simp [l1]
        have e2 : its2.toArray.size = (ms.map PyData.int).length := by simp [l2]
        rw [e1, e2, firstLt_toks _ _ hal]
        have e3 : PyProof.Rows.lexLt itemOrd (keyToksAll (ns.map PyData.int)) (keyToksAll (ms.map PyData.int)) = decide (ns < ms) := dataLt_ints ns ms
        rw [e3]
        exact q
    refine wpAny_bind (wpAny_callSpecialIfBound?_slot (T := "tuple") ⟨_, ho, hc⟩ F.slot_tuple_lt (key _ ?_))
    exact wpAny_truthy_bool hq
theorem first_tup {v : Value} {ns : List Int} (hv : TupI s.heap v ns) : ∃ r : Option Value, r.isSome = !ns.isEmpty ∧ (∀ f, r = some f → ∃ x t, f = .int x t) ∧ ∀ (E : Value → Shared → Prop) (Q : Option Value → Shared → Prop), Q r s → wpAny (model prog w) A (firstOfTuple' v) Q E s := by
  obtain ⟨t, its, rfl, ⟨o, ho, hc, n, hd⟩, hi⟩ := hv
  refine ⟨(List.toArray its)[0]?, ?_, ?_, fun E Q q => ?_⟩
  · cases hi with
    | nil => rfl
    | cons x t h => simp
  · cases hi with
    | nil => intro f hf; simp at hf
    | cons x t h =>
      intro f hf
      simp at hf
      exact ⟨_, _, hf.symm⟩
  · rw [kas_first_eq]
    refine wpAny_bind (Looks.here (show Looks _ s.heap (typeOf (.ref t)) o.cls from (Looks.ld ho).andThen .now) ?_)
    rw [hc, if_neg (by first | decide | simp)]
    exact wpAny_bind (listItems_at ho hd (wpAny_pure q))
theorem firsts_tup {k : Value → List Int} : ∀ {vs : List Value}, (∀ v ∈ vs, TupI s.heap v (k v)) → ∃ fs : List (Option Value), fs.map Option.isSome = vs.map (fun v => !(k v).isEmpty) ∧ ∀ (E : Value → Shared → Prop) (Q : List (Option Value) → Shared → Prop), Q fs s → wpAny (model prog w) A (vs.mapM firstOfTuple') Q E s
  | [], _ => ⟨[], rfl, fun E Q q => by rw [List.mapM_nil]; exact wpAny_pure q⟩
  | v :: vs, h => by
    obtain ⟨r, h1, _, h3⟩ := first_tup (prog := prog) (w := w) (A := A) (h v List.mem_cons_self)
    obtain ⟨fs, g1, g2⟩ := firsts_tup (vs := vs) fun u hu => h u (List.mem_cons_of_mem _ hu)
    refine ⟨r :: fs, by simp [h1, g1], fun E Q q => ?_⟩
    rw [List.mapM_cons]
    exact wpAny_bind (h3 _ _ (wpAny_bind (g2 _ _ (wpAny_pure q))))
theorem katTups_of {k : Value → List Int} {h : Heap} : ∀ {vs : List Value}, (∀ v ∈ vs, TupI h v (k v)) → (∀ v ∈ vs, k v ≠ []) → ∃ fs : List Value, KatTups h vs fs ∧ fs.length = vs.length ∧ ∀ f ∈ fs, ∃ x t, f = Value.int x t
  | [], _, _ => ⟨[], .nil, rfl, fun _ h => nomatch h⟩
  | v :: vs, hp, hn => by
    obtain ⟨t, its, e, ⟨o, ho, hc, n, hd⟩, hi⟩ := hp v List.mem_cons_self
    obtain ⟨fs, g1, g2, g3⟩ := katTups_of (vs := vs) (fun u hu => hp u (List.mem_cons_of_mem _ hu)) (fun u hu => hn u (List.mem_cons_of_mem _ hu))
    have hne := hn v List.mem_cons_self
    rw [e] at hi hne ⊢
    generalize k (Value.ref t) = ns at hi hne
    cases hi with
    | nil => exact absurd rfl hne
    | cons x tk hr =>
      refine ⟨.int x tk :: fs, .cons ho hc hd (by simp) g1, by simp [g2], fun f hf => ?_⟩
      rcases List.mem_cons.mp hf with rfl | hf
      · exact ⟨_, _, rfl⟩
      · exact g3 f hf
theorem cmp_tuples {v u : Value} {ns ms : List Int} {Q : Bool → Shared → Prop} (hv : TupI s.heap v ns) (hw : TupI s.heap u ms) (hu : A.units + 2 < cLine) (hq : Q (decide (ns < ms)) s) : wpAny (model prog w) A (keyLt' (tuples' true) v u) Q E s := by
  obtain ⟨t, its, rfl, ⟨o, ho, hc, n, hd⟩, hi⟩ := hv
  obtain ⟨t2, its2, rfl, ⟨o2, ho2, hc2, n2, hd2⟩, hi2⟩ := hw
  have l1 : its.length = ns.length := hi.length
  have l2 : its2.length = ms.length := hi2.length
  refine kat_lt ho hd ho2 hd2 (katLex_alike (ns.map PyData.int) (ms.map PyData.int) 0 its its2 [] [] (hi.reads _) (hi2.reads _) (alike_ints ns ms) (by rw [depth_ints, depth_ints]; omega) (fun _ _ x r t hx => ?_) (by simp [l1, l2]) ?_)
  · cases ns with
    | nil => cases hx
    | cons a b =>
      injection hx with h1
      rw [← h1]
      exact fun z => nomatch z
  · have e3 : PyProof.Rows.lexLt itemOrd (keyToksAll (ns.map PyData.int)) (keyToksAll (ms.map PyData.int)) = decide (ns < ms) := dataLt_ints ns ms
    rw [e3]
    exact hq
theorem tups_sortable {a : Addr} {vs : List Value} {k : Value → List Int} (h2 : 2 ≤ vs.length) (hp : ∀ v ∈ vs, TupI s.heap v (k v)) (ha : ∀ o, s.heap.get? a = some o → o.cls ≠ .type "tuple") (hu : A.units + 2 < cLine) : SrtO.SortableO prog w A s a vs fun v u => decide (k v < k u) := by
  intro h' keep
  have hp' : ∀ v ∈ vs, TupI h' v (k v) := fun v hm => (hp v hm).keeps fun b o e c => keep b o (fun z => by rw [z] at e; exact ha o e c) e
  have cmp : ∀ c, SrtO.Cmp prog w A { s with heap := h' } (if c = true then oneType' else general') (fun p => p.1 ∈ vs) (SrtO.lt2 fun v u => decide (k v < k u)) := fun c p q hp1 hq1 => by
    have z := oneLt_tup (prog := prog) (w := w) (A := A) (s := { s with heap := h' }) (E := fun _ _ => False) c (Q := fun r s' => s' = { s with heap := h' } ∧ r = decide (k p.1 < k q.1)) (hp' _ hp1) (hp' _ hq1) hu ⟨rfl, rfl⟩
    cases c <;> exact z
  by_cases hall : ∀ v ∈ vs, k v ≠ []
  · obtain ⟨fs, g1, g2, g3⟩ := katTups_of hp' hall
    refine ⟨tuples' true, fun Q E q => ?_, fun p r hp1 hr1 => cmp_tuples (s := { s with heap := h' }) (hp' _ hp1) (hp' _ hr1) hu ⟨rfl, rfl⟩⟩
    refine kat_kind (s := { s with heap := h' }) (T := .type "int") g1 (by omega) (fun f hm => ?_) (by rfl) ?_
    · obtain ⟨x, t, rfl⟩ := g3 f hm
      exact Looks.now
    · have e : (Value.type "int" != Value.type "tuple") = true := by first | decide +kernel | rfl | decide
      rw [e]
      exact q
  · obtain ⟨fs, g1, g2⟩ := firsts_tup (prog := prog) (w := w) (A := A) (s := { s with heap := h' }) hp'
    have hlen : fs.length = vs.length := by have := congrArg List.length g1; simpa using this
    have hno : (List.toArray fs).all (·.isSome) = false := by
      rw [← Bool.not_eq_true]
      intro z
      apply hall
      intro v hv hk
      have z1 : ∀ b ∈ fs.map Option.isSome, b = true := by
        intro b hb
        obtain ⟨x, hx, rfl⟩ := List.mem_map.mp hb
        simp only [List.all_toArray, List.all_eq_true] at z
        exact z x hx
      rw [g1] at z1
      have := z1 _ (List.mem_map.mpr ⟨v, hv, rfl⟩)
      rw [hk] at this
      simp at this
    by_cases hf : (((List.toArray fs)[0]?).bind id).isSome = true
    · refine ⟨general', fun Q E q => ?_, cmp false⟩
      rw [kat_kind_eq, List.mapM_toArray, map_eq_pure_bind]
      refine wpAny_bind (wpAny_bind (g2 _ _ (wpAny_pure ?_)))
      rw [if_neg (by rw [hno]; simp), if_pos hf]
      exact wpAny_pure q
    · refine ⟨oneType', fun Q E q => ?_, cmp true⟩
      rw [kat_kind_eq, List.mapM_toArray, map_eq_pure_bind]
      refine wpAny_bind (wpAny_bind (g2 _ _ (wpAny_pure ?_)))
      rw [if_neg (by rw [hno]; simp), if_neg hf, oneTypeOnly'_eq, List.mapM_toArray, map_eq_pure_bind]
      refine wpAny_bind (wpAny_bind (wpAny_bind (kas_mapM (r := Value.type "tuple") vs (fun v hv Q' hq => ?_) (wpAny_pure ?_))))
      · obtain ⟨t, its, rfl, ⟨o, ho, hc, n, hd⟩, hi⟩ := hp' v hv
        refine Looks.here (show Looks _ _ (typeOf (.ref t)) o.cls from (Looks.ld ho).andThen .now) ?_
        rw [hc]
        exact hq
      · have n0 : vs ≠ [] := fun z => by rw [z] at h2; simp at h2
        have e0 : (List.toArray (vs.map fun _ => Value.type "tuple"))[0]? = some (Value.type "tuple") := by
          cases vs with
          | nil => exact absurd rfl n0
          | cons a b => simp
        have e1 : ((List.toArray (vs.map fun _ => Value.type "tuple")).all fun x => x == Value.type "tuple") = true := by
          simp only [List.all_toArray, List.all_map, List.all_eq_true]
          intro _ _
          rfl
        rw [e0]
        simp only [e1, if_true]
        exact wpAny_pure (wpAny_pure q)
end
end FwE
namespace Fw
open PySem PySem.Spec PyProof.Rows L2
variable [Tb]
/-! ## sorted(xs), the xs tuples of ints -/
def rowOrd (a b : List Int) : Bool := !decide (b < a)
def rowSort (xs : List (List Int)) : List (List Int) := xs.mergeSort rowOrd
theorem rowOrd_iff {a b : List Int} : rowOrd a b = true ↔ a ≤ b := by
  unfold rowOrd
  rw [Bool.not_eq_true', decide_eq_false_iff_not]
  exact List.not_lt
theorem rowSort_perm (xs : List (List Int)) : (rowSort xs).Perm xs := List.mergeSort_perm xs rowOrd
theorem rowSort_asc (xs : List (List Int)) : (rowSort xs).Pairwise (· ≤ ·) :=
  (List.pairwise_mergeSort (le := rowOrd) (fun a b c h k => rowOrd_iff.mpr (List.le_trans (rowOrd_iff.mp h) (rowOrd_iff.mp k))) (fun a b => by
    rw [Bool.or_eq_true, rowOrd_iff, rowOrd_iff]; exact List.le_total a b) xs).imp fun h => rowOrd_iff.mp h
theorem rows_unique : ∀ {xs ys : List (List Int)}, xs.Pairwise (· ≤ ·) → ys.Pairwise (· ≤ ·) → xs.Perm ys → xs = ys
  | [], ys, _, _, h => (List.Perm.eq_nil h.symm).symm
  | x :: xs, [], _, _, h => absurd h.length_eq (by simp)
  | x :: xs, y :: ys, hx, hy, h => by
    have e : x = y := by
      have h1 : x ∈ y :: ys := h.mem_iff.mp List.mem_cons_self
      have h2 : y ∈ x :: xs := h.mem_iff.mpr List.mem_cons_self
      rcases List.mem_cons.mp h1 with e | h1
      · exact e
      · rcases List.mem_cons.mp h2 with e | h2
        · exact e.symm
        · exact List.le_antisymm ((List.pairwise_cons.mp hx).1 y h2) ((List.pairwise_cons.mp hy).1 x h1)
    subst e
    rw [rows_unique (List.pairwise_cons.mp hx).2 (List.pairwise_cons.mp hy).2 h.cons_inv]
def rSortT (K : PySem.W.Frag) : List V → Hp → VK → Prop := fun vs H Q => ∃ (a : Addr) (us : List V) (xs : List (List Int)) (Rv : V → List Int → Prop), vs = [.ref a] ∧ SqL K H a us ∧ Paired Rv us xs ∧ (∀ v ns, Rv v ns → tupRep K H v ns) ∧
  ∀ (p : Addr) (ws : List V), H p = none → Paired Rv ws (rowSort xs) → Q (.ref p) (upd H p (.lst ws))
theorem tupI_fn {h : Heap} {v : Value} {ns ms : List Int} (x : FwE.TupI h v ns) (y : FwE.TupI h v ms) : ns = ms := by
  obtain ⟨t, its, rfl, ⟨o, ho, hc, n, hd⟩, hi⟩ := x
  obtain ⟨t2, its2, e, ⟨o2, ho2, hc2, n2, hd2⟩, hi2⟩ := y
  cases e
  rw [ho] at ho2
  cases ho2
  rw [hd] at hd2
  have e3 : List.toArray its = List.toArray its2 := by injection hd2
  have e4 : its = its2 := by simpa using congrArg Array.toList e3
  subst e4
  exact ints_eq hi hi2
open Classical in
noncomputable def nsOf (h : Heap) (v : Value) : List Int := if q : ∃ ns, FwE.TupI h v ns then q.choose else []
theorem nsOf_eq {h : Heap} {v : Value} {ns : List Int} (x : FwE.TupI h v ns) : nsOf h v = ns := by
  have q : ∃ ns, FwE.TupI h v ns := ⟨ns, x⟩
  unfold nsOf
  rw [dif_pos q]
  exact tupI_fn q.choose_spec x
theorem tupI_of {X : Cx} {pins : List (Addr × Obj)} {σ : L2.St} {H : Hp} {s : Shared} (I : Inv X pins σ H s) {v : V} {u : Value} {ns : List Int} (h : tupRep X.K H v ns) (r : RelV v u) : FwE.TupI s.heap u ns := by
  obtain ⟨a, rfl, hq⟩ := h
  obtain rfl : u = Value.ref a := r
  obtain ⟨its, rv, ht, _⟩ := I.tuple hq
  exact ⟨a, its, rfl, ht, Vals.ints rv⟩
theorem rows_of {h : Heap} {Rv : V → List Int → Prop} (hR : ∀ v u ns, Rv v ns → RelV v u → FwE.TupI h u ns) (hr : ∀ v ns, Rv v ns → ∃ a, v = .ref a) : ∀ {us : List V} {its : List Value} {xs : List (List Int)}, Paired Rv us xs → Vals us its → xs = its.map (nsOf h) ∧ ∀ u ∈ its, FwE.TupI h u (nsOf h u) ∧ ∃ a, u = .ref a ∧ Rv (.ref a) (nsOf h u)
  | _, _, _, .nil, .nil => ⟨rfl, fun _ h => nomatch h⟩
  | _, _, _, .cons r t, .cons z zs => by
    obtain ⟨g1, g2⟩ := rows_of hR hr t zs
    obtain ⟨a, e⟩ := hr _ _ r
    subst e
    have hi := hR _ _ _ r z
    have e1 := nsOf_eq hi
    refine ⟨by rw [List.map_cons, ← g1, e1], fun u hu => ?_⟩
    rcases List.mem_cons.mp hu with rfl | hu
    · rw [e1]; exact ⟨hi, a, z, r⟩
    · exact g2 u hu
theorem back_of {h : Heap} {Rv : V → List Int → Prop} : ∀ {out : List Value}, (∀ u ∈ out, ∃ a, u = Value.ref a ∧ Rv (.ref a) (nsOf h u)) → ∃ ws : List V, Vals ws out ∧ Paired Rv ws (out.map (nsOf h))
  | [], _ => ⟨[], .nil, .nil⟩
  | u :: out, h => by
    obtain ⟨a, e, r⟩ := h u List.mem_cons_self
    obtain ⟨ws, h1, h2⟩ := back_of (out := out) fun z hz => h z (List.mem_cons_of_mem _ hz)
    exact ⟨.ref a :: ws, .cons e h1, .cons r h2⟩
theorem cr_sortedT {X : Cx} (hu : X.A.units + 200 < cLine) : CallR X (.builtin "sorted") (rSortT X.K) := by
  intro pins s σ H vs us Q I r h
  obtain ⟨a, ws, xs, Rv, rfl, hs, hp, hR, q⟩ := h
  obtain ⟨its, rv, hl, hz⟩ := I.list hs
  obtain ⟨u, rfl, ru⟩ := vals1 r
  obtain rfl : u = Value.ref a := ru
  obtain ⟨e1, e2⟩ := rows_of (h := s.heap) (fun v u ns h1 h2 => tupI_of I (hR v ns h1) h2) (fun v ns h1 => let ⟨a, e, _⟩ := hR v ns h1; ⟨a, e⟩) hp rv
  have swo : SrtO.Swo fun v u : Value => decide (nsOf s.heap v < nsOf s.heap u) := ⟨fun x y h1 => decide_eq_false (List.lt_asymm (of_decide_eq_true h1)), fun x y z h1 h2 => by
    have k1 := List.not_lt.mp (of_decide_eq_false h1)
    have k2 := List.not_lt.mp (of_decide_eq_false h2)
    exact decide_eq_false (List.not_lt.mpr (List.le_trans k1 k2))⟩
  refine SrtO.sorted_ord swo hl.isList (by rw [← rv.length]; exact hz) (fun h2 h₁ b hb kk => ?_) fun out hs hb => ?_
  · refine FwE.tups_sortable (s := { s with heap := h₁ }) h2 (fun v hv => (e2 v hv).1.keeps fun c o e _ => (kk c o e).2) (fun o e => ?_) (by show X.A.units + 1 + 1 + 2 < cLine; omega)
    have e' : some o = some (seqObj "list" its.toArray 0) := e.symm.trans hb
    cases e'
    exact fun c => absurd (Value.type.inj c) (by decide)
  · have hperm : out.Perm its := hb.perm
    obtain ⟨zs, k1, k2⟩ := back_of (h := s.heap) (Rv := Rv) (out := out) fun u hu => (e2 u (hperm.mem_iff.mp hu)).2
    have e3 : out.map (nsOf s.heap) = rowSort xs := by
      refine rows_unique ?_ (rowSort_asc xs) ?_
      · exact List.pairwise_map.mpr (hs.imp fun h1 => List.not_lt.mp (of_decide_eq_false h1))
      · rw [e1]
        exact (hperm.map _).trans (rowSort_perm _).symm
    rw [e3] at k2
    obtain ⟨n, hn⟩ := sortedAll_at s.heap its out.toArray
    refine ⟨.ref (s.heap.objs.size + 1), upd H (s.heap.objs.size + 1) (.lst zs), I.laid (t' := s.toks) (fun b o e => sortedAll_old e) (Nat.le_succ _) ⟨?_, out, n, k1, hn⟩, rfl, q _ zs (I.hok.fresh (Nat.le_succ _)) k2⟩
    rw [k1.length, hperm.length_eq, ← rv.length]
    exact hz
theorem n_sortT {K : PySem.W.Frag} {S : Ty (List (List Int))} {xs : List (List Int)} (sq : SeqL K S (tT K tI)) : OpN (rSortT K) [pu S xs] (ol (tT K tI) (rowSort xs)) := by
  intro σ Γ _ s vs lv E Q hQ
  match vs, lv with
  | [v], _ =>
    obtain ⟨a, us, ev, hsq, hp⟩ := sq.get (pu_top E)
    obtain ⟨E2, e2⟩ := E.pop
    refine ⟨a, us, xs, (tT K tI).rep s.B, by rw [ev], E.sub.seq hsq, hp, fun v ns ⟨b, ws, eb, hb, hpb⟩ => ⟨b, eb, ?_⟩, fun p ws hp2 hpw => ?_⟩
    · rw [← paired_int hpb]
      exact same_sqt E.sub hb
    · obtain ⟨E4, e4⟩ := E2.pushO (o := some (.ref p)) (ob := .lst ws) hp2 (ol (tT K tI) (rowSort xs)) ⟨p, ws, rfl, rfl, hpw⟩
      exact hQ _ _ E4 (e2.trans e4)
/-! ## is, is not of truths -/
theorem o_isB {x y : Bool} : Op2 (fun x y H Q => ∃ a b, x = .bl a ∧ y = .bl b ∧ Q (.bl (decide (a = b))) H) (pu tB x) (pu tB y) (pu tB (decide (x = y))) :=
  op2_val fun B H v u s h1 h2 Q k => ⟨x, y, h1, h2, k _ rfl⟩
theorem o_isnB {x y : Bool} : Op2 (fun x y H Q => ∃ a b, x = .bl a ∧ y = .bl b ∧ Q (.bl (!decide (a = b))) H) (pu tB x) (pu tB y) (pu tB (!decide (x = y))) :=
  op2_val fun B H v u s h1 h2 Q k => ⟨x, y, h1, h2, k _ rfl⟩
end Fw

namespace Fw
open PySem L2
variable [Tb]
variable {α β γ δ ε ρ κ θ : Type}
section
variable {s : Sta} {σ τ : St} {Γ Γ' Γ'' T : List Slot} {S S' : Slot} {o : Option V}
/-- one of the objects that a slot owns is written -/
theorem EnvOk.writeF {i : Nat} {p : Addr} {F' : Hp} {ob' : HO} (E : EnvOk s σ Γ) (hi : i < Γ.length) (hp : s.F i p ≠ none) (hF : ∀ a, a ≠ p → F' a = s.F i a) (hp' : F' p = some ob') (h : S'.p s.B F' (σ[i]?.join)) :
    EnvOk ⟨s.B, upd s.H p ob', fun j => if j = i then F' else s.F j⟩ σ (Γ.set i S') ∧ Evo s ⟨s.B, upd s.H p ob', fun j => if j = i then F' else s.F j⟩ := by
  have hb : s.B p = none := E.dis i p hp
  have hnp : ∀ j, j ≠ i → s.F j p = none := fun j q => by
    cases e : s.F j p with
    | none => rfl
    | some u => exact absurd (E.disF j i p (by rw [e]; simp) hp) q
  have key : ∀ j a, (if j = i then F' else s.F j) a ≠ none → s.F j a ≠ none := fun j a h => by
    by_cases q : j = i
    · rw [if_pos q] at h
      by_cases z : a = p
      · rw [q, z]; exact hp
      · rw [hF a z] at h; rw [q]; exact h
    · rw [if_neg q] at h; exact h
  refine ⟨⟨fun a u h => ?_, fun j a u h => ?_, fun j a h => E.dis j a (key j a h), fun j k a h1 h2 => E.disF j k a (key j a h1) (key k a h2), by simp [E.len], fun j S2 h2 => ?_, fun j h2 => ?_⟩, ⟨fun _ _ h => h, fun a u h n => ?_, fun a h => ?_, fun _ h => .inl h, fun a j h => .inr ⟨j, key j a h⟩⟩⟩
  · show upd s.H p ob' a = some u
    rw [upd_ne (ne_of_none h hb)]; exact E.sub a u h
  · have h' : (if j = i then F' else s.F j) a = some u := h
    show upd s.H p ob' a = some u
    by_cases q : j = i
    · rw [if_pos q] at h'
      by_cases z : a = p
      · rw [z, hp'] at h'; cases h'
        rw [z]; exact upd_same
      · rw [upd_ne z]
        rw [hF a z] at h'
        exact E.subF i a u h'
    · rw [if_neg q] at h'
      rw [upd_ne (ne_of_none h' (hnp j q))]
      exact E.subF j a u h'
  · show S2.p s.B (if j = i then F' else s.F j) _
    by_cases q : j = i
    · subst q
      rw [List.getElem?_set_self hi] at h2; cases h2
      rw [if_pos rfl]; exact h
    · rw [List.getElem?_set_ne (Ne.symm q)] at h2
      rw [if_neg q]
      exact E.sl j S2 h2
  · show (if j = i then F' else s.F j) = em
    rw [List.length_set] at h2
    rw [if_neg (by omega)]
    exact E.out j h2
  · show upd s.H p ob' a = some u
    have : a ≠ p := fun e => hp (by rw [← e]; exact n i)
    rw [upd_ne this]; exact h
  · show upd s.H p ob' a ≠ none
    by_cases q : a = p
    · rw [q, upd_same]; simp
    · rw [upd_ne q]; exact h
/-- the two slots on top become one; a new pure object -/
theorem EnvOk.pair {t : Addr} {ob : HO} {o1 o2 : Option V} {S1 S2 : Slot} (E : EnvOk s ((σ ++ [o1]) ++ [o2]) ((Γ ++ [S1]) ++ [S2])) (ht : s.H t = none)
    (hS : Same s.B (upd s.B t ob) → (upd s.B t ob) t = some ob → S.p (upd s.B t ob) (un2 (s.F Γ.length) (s.F (Γ.length + 1))) o) :
    EnvOk ⟨upd s.B t ob, upd s.H t ob, fun j => if j = Γ.length then un2 (s.F Γ.length) (s.F (Γ.length + 1)) else if j = Γ.length + 1 then em else s.F j⟩ (σ ++ [o]) (Γ ++ [S]) ∧
    Evo s ⟨upd s.B t ob, upd s.H t ob, fun j => if j = Γ.length then un2 (s.F Γ.length) (s.F (Γ.length + 1)) else if j = Γ.length + 1 then em else s.F j⟩ := by
  have hlen : σ.length = Γ.length := by have := E.len; simp at this; exact this
  have hb : s.B t = none := by
    cases e : s.B t with
    | none => rfl
    | some u => rw [E.sub t u e] at ht; cases ht
  have s1 : Same s.B (upd s.B t ob) := fun a u h => by rw [upd_ne (ne_of_none h hb)]; exact h
  have s2 : Same s.H (upd s.H t ob) := fun a u h => by rw [upd_ne (ne_of_none h ht)]; exact h
  have key : ∀ j a u, (if j = Γ.length then un2 (s.F Γ.length) (s.F (Γ.length + 1)) else if j = Γ.length + 1 then em else s.F j) a = some u → ∃ k, s.F k a = some u ∧ ((j = Γ.length ∧ (k = Γ.length ∨ k = Γ.length + 1)) ∨ (j ≠ Γ.length ∧ j ≠ Γ.length + 1 ∧ k = j)) := fun j a u h => by
    by_cases q : j = Γ.length
    · rw [if_pos q] at h
      rcases un2_some h with h | ⟨_, h⟩
      · exact ⟨_, h, .inl ⟨q, .inl rfl⟩⟩
      · exact ⟨_, h, .inl ⟨q, .inr rfl⟩⟩
    · rw [if_neg q] at h
      by_cases q2 : j = Γ.length + 1
      · rw [if_pos q2] at h; cases h
      · rw [if_neg q2] at h; exact ⟨_, h, .inr ⟨q, q2, rfl⟩⟩
  have keyN : ∀ j a, (if j = Γ.length then un2 (s.F Γ.length) (s.F (Γ.length + 1)) else if j = Γ.length + 1 then em else s.F j) a ≠ none → ∃ k, s.F k a ≠ none ∧ ((j = Γ.length ∧ (k = Γ.length ∨ k = Γ.length + 1)) ∨ (j ≠ Γ.length ∧ j ≠ Γ.length + 1 ∧ k = j)) := fun j a h => by
    obtain ⟨u, hu⟩ := ex_of_ne h
    obtain ⟨k, h1, h2⟩ := key j a u hu
    exact ⟨k, by rw [h1]; simp, h2⟩
  have ft : ∀ k, s.F k t = none := fun k => by
    cases e : s.F k t with
    | none => rfl
    | some u => rw [E.subF k t u e] at ht; cases ht
  refine ⟨⟨fun a u h => ?_, fun j a u h => ?_, fun j a h => ?_, fun j k a h1 h2 => ?_, by simp [hlen], fun j S3 h2 => ?_, fun j h2 => ?_⟩, ⟨s1, fun a u h _ => s2 a u h, fun a h => ?_, fun a h => ?_, fun a j h => ?_⟩⟩
  · show upd s.H t ob a = some u
    by_cases q : a = t
    · have h' : upd s.B t ob a = some u := h
      rw [q, upd_same] at h'; rw [q, upd_same]; exact h'
    · have h' : upd s.B t ob a = some u := h
      rw [upd_ne q] at h'; rw [upd_ne q]; exact E.sub a u h'
  · obtain ⟨k, h1, _⟩ := key j a u h
    exact s2 a u (E.subF k a u h1)
  · obtain ⟨k, h1, _⟩ := keyN j a h
    show upd s.B t ob a = none
    have q : a ≠ t := fun e => h1 (by rw [e]; exact ft k)
    rw [upd_ne q]
    exact E.dis k a h1
  · obtain ⟨k1, g1, z1⟩ := keyN j a h1
    obtain ⟨k2, g2, z2⟩ := keyN k a h2
    have e := E.disF k1 k2 a g1 g2
    omega
  · show S3.p (upd s.B t ob) (if j = Γ.length then un2 (s.F Γ.length) (s.F (Γ.length + 1)) else if j = Γ.length + 1 then em else s.F j) _
    by_cases hj : j < Γ.length
    · rw [List.getElem?_append_left hj] at h2
      rw [List.getElem?_append_left (by omega), if_neg (by omega), if_neg (by omega)]
      have := E.sl j S3 (by rw [List.append_assoc, List.getElem?_append_left hj]; exact h2)
      rw [List.append_assoc, List.getElem?_append_left (by omega)] at this
      exact S3.mono s1 this
    · have hl2 := (List.getElem?_eq_some_iff.mp h2).1
      simp at hl2
      have e : j = Γ.length := by omega
      subst e
      have h3 : (Γ ++ [S])[Γ.length]? = some S := by simp
      rw [h3] at h2; cases h2
      rw [if_pos rfl, join_get (show (σ ++ [o])[Γ.length]? = some o by rw [← hlen]; simp)]
      exact hS s1 upd_same
  · have h3 : Γ.length + 1 ≤ j := by simpa using h2
    show (if j = Γ.length then un2 (s.F Γ.length) (s.F (Γ.length + 1)) else if j = Γ.length + 1 then em else s.F j) = em
    rw [if_neg (by omega)]
    by_cases q : j = Γ.length + 1
    · rw [if_pos q]
    · rw [if_neg q]; exact E.out j (by simp; omega)
  · obtain ⟨u, e⟩ := ex_of_ne h; show upd s.H t ob a ≠ none; rw [s2 a u e]; simp
  · by_cases q : a = t
    · exact .inr (.inl (by rw [q]; exact ht))
    · have h' : upd s.B t ob a ≠ none := h
      rw [upd_ne q] at h'; exact .inl h'
  · obtain ⟨k, h1, _⟩ := keyN j a h
    exact .inr ⟨k, h1⟩
end
/-- (xs, ys), both owned -/
theorem n_o2 {K : PySem.W.Frag} {R : Ty α} {R' : Ty β} {xs : List α} {ys : List β} : OpN rTup [ol R xs, ol R' ys] (o2 K R R' (xs, ys)) := by
  intro σ Γ _ s vs lv E Q hQ
  match vs, lv with
  | [v, u], _ =>
    have E' : EnvOk s ((σ ++ [some v]) ++ [some u]) ((Γ ++ [ol R xs]) ++ [ol R' ys]) := by simpa using E
    have hlen : σ.length = Γ.length := by have := E'.len; simp at this; exact this
    refine ⟨by show 2 ≤ sizeLine; decide, fun t ht => ?_⟩
    obtain ⟨q, vs2, e2, f2, r2⟩ := E'.top
    obtain ⟨p, vs1, e1, f1, r1⟩ := E'.sl Γ.length (ol R xs) (by rw [List.append_assoc, List.getElem?_append_right (Nat.le_refl _)]; simp)
    rw [List.append_assoc, List.getElem?_append_right (by omega), hlen] at e1
    simp at e1
    cases e2
    cases e1
    have f2' : s.F (Γ.length + 1) = one q (.lst vs2) := by have := f2; simp at this; exact this
    have hne : p ≠ q := fun e => by
      have := E'.disF Γ.length (Γ.length + 1) p (by rw [f1, one_self]; simp) (by rw [f2', e, one_self]; simp)
      omega
    obtain ⟨E3, e3⟩ := E'.pair (S := o2 K R R' (xs, ys)) (o := some (.ref t)) (ob := .tup [.ref p, .ref q]) ht fun s1 hb =>
      ⟨t, p, q, vs1, vs2, rfl, hb, hne, by rw [f1, f2'], paired_mono (fun _ _ z => R.mono s1 z) r1, paired_mono (fun _ _ z => R'.mono s1 z) r2⟩
    exact hQ _ _ E3 e3
section
variable {X : Cx} {e a b : Expr} {es : List Expr} {pos : Pos} {Γ Γ1 Γ2 Γ3 : List Slot} {R : Ty α} {R' : Ty β} {z z' : List α × List β}
theorem x_valoE {xs zs : List α} (h : EX X e Γ (ol R xs) Γ1) (q : xs = zs) (g : Γ1 = Γ2) : EX X e Γ (ol R zs) Γ2 := by subst q; subst g; exact h
theorem o2_some {K : PySem.W.Frag} : ∀ B F o, (o2 K R R' z).p B F o → ∃ v, o = some v := fun _ _ _ ⟨t, _, _, _, _, e, _⟩ => ⟨_, e⟩
/-- what a result owns goes over into the pure region -/
theorem x_frz2 (h : EX X e Γ (o2 X.K R R' z) Γ1) : EX X e Γ (pu (tP2 X.K (tLs X.K R) (tLs X.K R')) z) Γ1 := by
  intro T _ τ σ s hl E Q hQ
  refine h T τ σ s hl E Q fun v s1 E1 l1 e1 => ?_
  obtain ⟨E2, e2⟩ := E1.freeze (S' := pu (tP2 X.K (tLs X.K R) (tLs X.K R')) z) (i := (Γ1 ++ T).length) (by simp) fun B' k1 k2 => o2_pure (E1.sl _ _ (by simp)) k1 k2
  have hz : ((Γ1 ++ T) ++ [o2 X.K R R' z]).set (Γ1 ++ T).length (pu (tP2 X.K (tLs X.K R) (tLs X.K R')) z) = (Γ1 ++ T) ++ [pu (tP2 X.K (tLs X.K R) (tLs X.K R')) z] := by
    rw [List.set_append_right _ _ (Nat.le_refl _)]; simp
  rw [hz] at E2
  have q := hQ v _ E2 l1 (e1.trans e2)
  exact q
theorem x_valo2 (h : EX X e Γ (o2 X.K R R' z) Γ1) (q : z = z') : EX X e Γ (o2 X.K R R' z') Γ1 := by subst q; exact h
theorem Wk.frz2 {i : Nat} (K : PySem.W.Frag) (hi : Γ[i]? = some (o2 K R R' z)) : Wk Γ (Γ.set i (Fw.pu (tP2 K (tLs K R) (tLs K R')) z)) := ⟨by simp, fun T τ σ s hl E => by
  have hl2 := (List.getElem?_eq_some_iff.mp hi).1
  have hi' : (Γ ++ T)[i]? = some (o2 K R R' z) := by rw [List.getElem?_append_left hl2]; exact hi
  obtain ⟨E', e'⟩ := E.freeze (S' := Fw.pu (tP2 K (tLs K R) (tLs K R')) z) (i := i) (by simp; omega) fun B' s1 s2 => o2_pure (E.sl i _ hi') s1 s2
  rw [set_app hl2] at E'
  exact ⟨_, E', e', rfl⟩⟩
end
section
variable {X : Cx} {e : Expr} {x : Str} {px apos cpos spos ipos pos : Pos} {Γ Γ1 : List Slot} {R : Ty α} {R' : Ty β} {z z1 : List α × List β} {y : α} {y' : β} {j : Nat}
theorem o2_get {i : Nat} {T : List Slot} {τ σ : St} {s : Sta} (hl : σ.length = Γ.length) (E : EnvOk s (σ ++ τ) (Γ ++ T)) (hi : Γ[i]? = some (o2 X.K R R' z)) :
    ∃ t p q us vs, σ[i]? = some (some (.ref t)) ∧ s.B t = some (.tup [.ref p, .ref q]) ∧ p ≠ q ∧ s.F i = un2 (one p (.lst us)) (one q (.lst vs)) ∧ Paired (R.rep s.B) us z.1 ∧ Paired (R'.rep s.B) vs z.2 ∧ s.H p = some (.lst us) ∧ s.H q = some (.lst vs) := by
  have hlt := (List.getElem?_eq_some_iff.mp hi).1
  obtain ⟨t, p, q, us, vs, e0, h1, h2, f, r1, r2⟩ := E.sl i _ (by rw [List.getElem?_append_left hlt]; exact hi)
  rw [List.getElem?_append_left (by omega)] at e0
  have hσ : σ[i]? = some (some (.ref t)) := by
    rw [List.getElem?_eq_getElem (by omega)] at e0 ⊢
    exact congrArg some e0
  obtain ⟨g1, g2⟩ := o2_at (us := us) (vs := vs) h2
  exact ⟨t, p, q, us, vs, hσ, h1, h2, f, r1, r2, E.subF i p _ (by rw [f]; exact g1), E.subF i q _ (by rw [f]; exact g2)⟩
/-- x[0].clear(), x a tuple of two owned lists -/
theorem s1_clear20 {i : Nat} (hi : Γ[i]? = some (o2 X.K R R' z)) (hN : X.N[i]? = some x := by rfl) (hv : Vis X.env.scope x := by first | exact Or.inl rfl | exact Or.inr (Or.inl rfl) | exact Or.inr (Or.inr rfl))
    (hd : (x == ("__debug__" : Str)) = false := by decide) (hcd : (x == ("__classdict__" : Str)) = false := by decide) (hs : PlainIx (.Constant (.int 0) j ipos) := by exact fun _ _ => rfl)
    (hbase : attributeBase (.Subscript (.Name x px) (.Constant (.int 0) j ipos) spos) "clear" X.env (eval (.Subscript (.Name x px) (.Constant (.int 0) j ipos) spos) X.env) = eval (.Subscript (.Name x px) (.Constant (.int 0) j ipos) spos) X.env := by rfl)
    (hline : (apos.endLine == cpos.line) = true := by rfl)
    (hsw : swapsWith (.Call (.Attribute (.Subscript (.Name x px) (.Constant (.int 0) j ipos) spos) "clear" apos) [] [] cpos) none pos.line X.env = pure false := by rfl) :
    S1 X (.Expr (.Call (.Attribute (.Subscript (.Name x px) (.Constant (.int 0) j ipos) spos) "clear" apos) [] [] cpos) pos) Γ (fun r => r = .nx (Γ.set i (o2 X.K R R' (([] : List α), z.2)))) := by
  intro T _ τ σ s hl E D hD
  refine rs_of (ps_expr (pe_bm0 PySem.F.plainAttrs_list PySem.F.slot_list_clear PySem.F.type_list_clear mt_clear (pe_ix ix_tup (pe_var hN hv hd hcd) pe_int hs) hbase hline) hsw) ?_
  have hlt := (List.getElem?_eq_some_iff.mp hi).1
  obtain ⟨t, p, q, us, vs, hσ, h1, h2, f, r1, r2, hp, hq⟩ := o2_get hl E hi
  refine ⟨.ref t, hσ, t, _, 0, .ref p, rfl, rfl, (.inl (.inl (E.sub _ _ h1))), rfl, .inl ⟨rfl, us, SqL.of hp⟩, ?_⟩
  have hσ2 : (σ ++ τ)[i]?.join = some (.ref t) := by rw [List.getElem?_append_left (by omega), hσ]; rfl
  obtain ⟨E4, e4⟩ := E.writeF (S' := o2 X.K R R' (([] : List α), z.2)) (i := i) (p := p) (F' := un2 (one p (.lst [])) (one q (.lst vs))) (ob' := .lst []) (by simp; omega) (by rw [f, (o2_at h2).1]; simp)
    (fun a ha => by rw [f, un2_r (one_off ha), un2_r (one_off ha)]) (o2_at h2).1 (by
    rw [hσ2]
    exact ⟨t, p, q, _, _, rfl, h1, h2, rfl, .nil, r2⟩)
  rw [set_app hlt] at E4
  refine ⟨p, us, rfl, rfl, hp, ?_⟩
  exact hD _ rfl σ _ (by simp; omega) E4 e4
theorem s1_clear21 {i : Nat} (hi : Γ[i]? = some (o2 X.K R R' z)) (hN : X.N[i]? = some x := by rfl) (hv : Vis X.env.scope x := by first | exact Or.inl rfl | exact Or.inr (Or.inl rfl) | exact Or.inr (Or.inr rfl))
    (hd : (x == ("__debug__" : Str)) = false := by decide) (hcd : (x == ("__classdict__" : Str)) = false := by decide) (hs : PlainIx (.Constant (.int 1) j ipos) := by exact fun _ _ => rfl)
    (hbase : attributeBase (.Subscript (.Name x px) (.Constant (.int 1) j ipos) spos) "clear" X.env (eval (.Subscript (.Name x px) (.Constant (.int 1) j ipos) spos) X.env) = eval (.Subscript (.Name x px) (.Constant (.int 1) j ipos) spos) X.env := by rfl)
    (hline : (apos.endLine == cpos.line) = true := by rfl)
    (hsw : swapsWith (.Call (.Attribute (.Subscript (.Name x px) (.Constant (.int 1) j ipos) spos) "clear" apos) [] [] cpos) none pos.line X.env = pure false := by rfl) :
    S1 X (.Expr (.Call (.Attribute (.Subscript (.Name x px) (.Constant (.int 1) j ipos) spos) "clear" apos) [] [] cpos) pos) Γ (fun r => r = .nx (Γ.set i (o2 X.K R R' (z.1, ([] : List β))))) := by
  intro T _ τ σ s hl E D hD
  refine rs_of (ps_expr (pe_bm0 PySem.F.plainAttrs_list PySem.F.slot_list_clear PySem.F.type_list_clear mt_clear (pe_ix ix_tup (pe_var hN hv hd hcd) pe_int hs) hbase hline) hsw) ?_
  have hlt := (List.getElem?_eq_some_iff.mp hi).1
  obtain ⟨t, p, q, us, vs, hσ, h1, h2, f, r1, r2, hp, hq⟩ := o2_get hl E hi
  refine ⟨.ref t, hσ, t, _, 1, .ref q, rfl, rfl, (.inl (.inl (E.sub _ _ h1))), rfl, .inl ⟨rfl, vs, SqL.of hq⟩, ?_⟩
  have hσ2 : (σ ++ τ)[i]?.join = some (.ref t) := by rw [List.getElem?_append_left (by omega), hσ]; rfl
  obtain ⟨E4, e4⟩ := E.writeF (S' := o2 X.K R R' (z.1, ([] : List β))) (i := i) (p := q) (F' := un2 (one p (.lst us)) (one q (.lst []))) (ob' := .lst []) (by simp; omega) (by rw [f, (o2_at h2).2]; simp)
    (fun a ha => by
      rw [f]
      by_cases w : a = p
      · rw [w, (o2_at h2).1, (o2_at h2).1]
      · rw [un2_r (one_off w), un2_r (one_off w), one_off ha, one_off ha]) (o2_at h2).2 (by
    rw [hσ2]
    exact ⟨t, p, q, _, _, rfl, h1, h2, rfl, r1, .nil⟩)
  rw [set_app hlt] at E4
  refine ⟨q, vs, rfl, rfl, hq, ?_⟩
  exact hD _ rfl σ _ (by simp; omega) E4 e4
/-- x[0].append(e) -/
theorem s1_app20 {i : Nat} (hi : Γ[i]? = some (o2 X.K R R' z)) (he : EX X e Γ (pu R y) Γ1) (hi1 : Γ1[i]? = some (o2 X.K R R' z1)) (hz : z1.1.length < sizeLine) (hN : X.N[i]? = some x := by rfl) (hv : Vis X.env.scope x := by first | exact Or.inl rfl | exact Or.inr (Or.inl rfl) | exact Or.inr (Or.inr rfl))
    (hd : (x == ("__debug__" : Str)) = false := by decide) (hcd : (x == ("__classdict__" : Str)) = false := by decide) (hs0 : PlainIx (.Constant (.int 0) j ipos) := by exact fun _ _ => rfl)
    (hbase : attributeBase (.Subscript (.Name x px) (.Constant (.int 0) j ipos) spos) "append" X.env (eval (.Subscript (.Name x px) (.Constant (.int 0) j ipos) spos) X.env) = eval (.Subscript (.Name x px) (.Constant (.int 0) j ipos) spos) X.env := by rfl)
    (hfew : ((backTo cpos (starEach (e :: []) X.env)).all (fun x => !x.1) && (backToKw cpos (keywordEach [] X.env)).all (fun x => x.1.isSome)
      && decide ((e :: []).length + ([] : List Keyword).length + (if ([] : List Keyword).isEmpty then 0 else 1) < 30)) = true := by rfl)
    (hline : (apos.endLine == cpos.line) = true := by rfl) (hs : starEach (e :: []) X.env = (false, eval e X.env) :: starEach [] X.env := by rfl) (hplain : (backTo cpos (starEach [] X.env)).any (·.1) = false := by rfl)
    (hsw : swapsWith (.Call (.Attribute (.Subscript (.Name x px) (.Constant (.int 0) j ipos) spos) "append" apos) [e] [] cpos) none pos.line X.env = pure false := by rfl) :
    S1 X (.Expr (.Call (.Attribute (.Subscript (.Name x px) (.Constant (.int 0) j ipos) spos) "append" apos) [e] [] cpos) pos) Γ (fun r => r = .nx (Γ1.set i (o2 X.K R R' (z1.1 ++ [y], z1.2)))) := by
  intro T _ τ σ s hl E D hD
  refine rs_of (ps_expr (pe_bm PySem.F.plainAttrs_list PySem.F.slot_list_append PySem.F.type_list_append mt_append (pe_ix ix_tup (pe_var hN hv hd hcd) pe_int hs0) (pa_cons peR pa_nil hs) hbase hfew hline hs hplain) hsw) ?_
  have hlt := (List.getElem?_eq_some_iff.mp hi).1
  obtain ⟨t, p, q, us, vs, hσ, h1, h2, f, r1, r2, hp, hq⟩ := o2_get hl E hi
  refine ⟨.ref t, hσ, t, _, 0, .ref p, rfl, rfl, (.inl (.inl (E.sub _ _ h1))), rfl, .inl ⟨rfl, us, SqL.of hp⟩, ?_⟩
  refine he T τ σ s hl E _ fun v s1 E1 l1 e1 => ?_
  have hlt1 := (List.getElem?_eq_some_iff.mp hi1).1
  have hy := pu_top E1
  obtain ⟨E2, e2⟩ := E1.pop
  obtain ⟨t', p', q', us', vs', hσ', g1, g2, f', w1, w2, hp', hq'⟩ := o2_get (by omega) E2 hi1
  have et : t' = t := by rw [hσ] at hσ'; cases hσ'; rfl
  subst et
  have ep := ((e1.trans e2).b _ _ h1).symm.trans g1
  cases ep
  have hσ2 : (σ ++ τ)[i]?.join = some (.ref t') := by rw [List.getElem?_append_left (by omega), hσ]; rfl
  obtain ⟨E4, e4⟩ := E2.writeF (S' := o2 X.K R R' (z1.1 ++ [y], z1.2)) (i := i) (p := p) (F' := un2 (one p (.lst (us' ++ [v]))) (one q (.lst vs'))) (ob' := .lst (us' ++ [v])) (by simp; omega) (by rw [f', (o2_at g2).1]; simp)
    (fun a ha => by rw [f', un2_r (one_off ha), un2_r (one_off ha)]) (o2_at g2).1 (by
    rw [hσ2]
    exact ⟨t', p, q, _, _, rfl, g1, g2, rfl, paired_app w1 (.cons hy .nil), w2⟩)
  rw [set_app hlt1] at E4
  refine ⟨p, us', v, rfl, rfl, hp', by rw [paired_len w1]; exact hz, ?_⟩
  exact hD _ rfl σ _ (by simp; omega) E4 ((e1.trans e2).trans e4)
theorem s1_app21 {i : Nat} (hi : Γ[i]? = some (o2 X.K R R' z)) (he : EX X e Γ (pu R' y') Γ1) (hi1 : Γ1[i]? = some (o2 X.K R R' z1)) (hz : z1.2.length < sizeLine) (hN : X.N[i]? = some x := by rfl) (hv : Vis X.env.scope x := by first | exact Or.inl rfl | exact Or.inr (Or.inl rfl) | exact Or.inr (Or.inr rfl))
    (hd : (x == ("__debug__" : Str)) = false := by decide) (hcd : (x == ("__classdict__" : Str)) = false := by decide) (hs0 : PlainIx (.Constant (.int 1) j ipos) := by exact fun _ _ => rfl)
    (hbase : attributeBase (.Subscript (.Name x px) (.Constant (.int 1) j ipos) spos) "append" X.env (eval (.Subscript (.Name x px) (.Constant (.int 1) j ipos) spos) X.env) = eval (.Subscript (.Name x px) (.Constant (.int 1) j ipos) spos) X.env := by rfl)
    (hfew : ((backTo cpos (starEach (e :: []) X.env)).all (fun x => !x.1) && (backToKw cpos (keywordEach [] X.env)).all (fun x => x.1.isSome)
      && decide ((e :: []).length + ([] : List Keyword).length + (if ([] : List Keyword).isEmpty then 0 else 1) < 30)) = true := by rfl)
    (hline : (apos.endLine == cpos.line) = true := by rfl) (hs : starEach (e :: []) X.env = (false, eval e X.env) :: starEach [] X.env := by rfl) (hplain : (backTo cpos (starEach [] X.env)).any (·.1) = false := by rfl)
    (hsw : swapsWith (.Call (.Attribute (.Subscript (.Name x px) (.Constant (.int 1) j ipos) spos) "append" apos) [e] [] cpos) none pos.line X.env = pure false := by rfl) :
    S1 X (.Expr (.Call (.Attribute (.Subscript (.Name x px) (.Constant (.int 1) j ipos) spos) "append" apos) [e] [] cpos) pos) Γ (fun r => r = .nx (Γ1.set i (o2 X.K R R' (z1.1, z1.2 ++ [y'])))) := by
  intro T _ τ σ s hl E D hD
  refine rs_of (ps_expr (pe_bm PySem.F.plainAttrs_list PySem.F.slot_list_append PySem.F.type_list_append mt_append (pe_ix ix_tup (pe_var hN hv hd hcd) pe_int hs0) (pa_cons peR pa_nil hs) hbase hfew hline hs hplain) hsw) ?_
  have hlt := (List.getElem?_eq_some_iff.mp hi).1
  obtain ⟨t, p, q, us, vs, hσ, h1, h2, f, r1, r2, hp, hq⟩ := o2_get hl E hi
  refine ⟨.ref t, hσ, t, _, 1, .ref q, rfl, rfl, (.inl (.inl (E.sub _ _ h1))), rfl, .inl ⟨rfl, vs, SqL.of hq⟩, ?_⟩
  refine he T τ σ s hl E _ fun v s1 E1 l1 e1 => ?_
  have hlt1 := (List.getElem?_eq_some_iff.mp hi1).1
  have hy := pu_top E1
  obtain ⟨E2, e2⟩ := E1.pop
  obtain ⟨t', p', q', us', vs', hσ', g1, g2, f', w1, w2, hp', hq'⟩ := o2_get (by omega) E2 hi1
  have et : t' = t := by rw [hσ] at hσ'; cases hσ'; rfl
  subst et
  have ep := ((e1.trans e2).b _ _ h1).symm.trans g1
  cases ep
  have hσ2 : (σ ++ τ)[i]?.join = some (.ref t') := by rw [List.getElem?_append_left (by omega), hσ]; rfl
  obtain ⟨E4, e4⟩ := E2.writeF (S' := o2 X.K R R' (z1.1, z1.2 ++ [y'])) (i := i) (p := q) (F' := un2 (one p (.lst us')) (one q (.lst (vs' ++ [v])))) (ob' := .lst (vs' ++ [v])) (by simp; omega) (by rw [f', (o2_at g2).2]; simp)
    (fun a ha => by
      rw [f']
      by_cases w : a = p
      · rw [w, (o2_at g2).1, (o2_at g2).1]
      · rw [un2_r (one_off w), un2_r (one_off w), one_off ha, one_off ha]) (o2_at g2).2 (by
    rw [hσ2]
    exact ⟨t', p, q, _, _, rfl, g1, g2, rfl, w1, paired_app w2 (.cons hy .nil)⟩)
  rw [set_app hlt1] at E4
  refine ⟨q, vs', v, rfl, rfl, hq', by rw [paired_len w2]; exact hz, ?_⟩
  exact hD _ rfl σ _ (by simp; omega) E4 ((e1.trans e2).trans e4)
end
/-- a block in a block -/
theorem blkOk_nest {X : Cx} {sc sc2 scope : Scope} {s : Shared} {H : Hp} {C : Addr} {cl : List (Str × Addr)} {fp : List Addr} {own : List (Str × Nat)} {N : List Str} (hs : X.env.scope = sc) (hN : X.N = N) (h : blkC N (relS sc2 sc) scope own = true) : BlkOk (blkX X sc2 s H C cl fp).N (blkX X sc2 s H C cl fp).env.scope scope own := by
  subst hs; subst hN
  exact blkOk_by h
end Fw

namespace Fw
open PySem L2
variable [Tb]
variable {α β γ δ ε ρ κ θ : Type}
/-! ## a list of two owned lists, one of which gets a name -/
def l2 (K : PySem.W.Frag) (R : Ty α) (z : List α × List α) : Slot := ⟨fun B F o => ∃ t p q us vs, o = some (.ref t) ∧ B t = some (.lst [.ref p, .ref q]) ∧ p ≠ q ∧ F = un2 (one p (.lst us)) (one q (.lst vs)) ∧ Paired (R.rep B) us z.1 ∧ Paired (R.rep B) vs z.2,
  fun s h => let ⟨t, p, q, us, vs, e, h1, h2, f, r1, r2⟩ := h; ⟨t, p, q, us, vs, e, s _ _ h1, h2, f, paired_mono (fun _ _ z => R.mono s z) r1, paired_mono (fun _ _ z => R.mono s z) r2⟩⟩
def pin (t p q : Addr) : Slot := ⟨fun B F o => F = em ∧ o = some (.ref t) ∧ B t = some (.lst [.ref p, .ref q]), fun s h => ⟨h.1, h.2.1, s _ _ h.2.2⟩⟩
theorem n_l2 {K : PySem.W.Frag} {R : Ty α} {xs ys : List α} : OpN rLst [ol R xs, ol R ys] (l2 K R (xs, ys)) := by
  intro σ Γ _ s vs lv E Q hQ
  match vs, lv with
  | [v, u], _ =>
    have E' : EnvOk s ((σ ++ [some v]) ++ [some u]) ((Γ ++ [ol R xs]) ++ [ol R ys]) := by simpa using E
    have hlen : σ.length = Γ.length := by have := E'.len; simp at this; exact this
    refine ⟨by show 2 ≤ sizeLine; decide, fun t ht => ?_⟩
    obtain ⟨q, vs2, e2, f2, r2⟩ := E'.top
    obtain ⟨p, vs1, e1, f1, r1⟩ := E'.sl Γ.length (ol R xs) (by rw [List.append_assoc, List.getElem?_append_right (Nat.le_refl _)]; simp)
    rw [List.append_assoc, List.getElem?_append_right (by omega), hlen] at e1
    simp at e1
    cases e2
    cases e1
    have f2' : s.F (Γ.length + 1) = one q (.lst vs2) := by have := f2; simp at this; exact this
    have hne : p ≠ q := fun e => by
      have := E'.disF Γ.length (Γ.length + 1) p (by rw [f1, one_self]; simp) (by rw [f2', e, one_self]; simp)
      omega
    obtain ⟨E3, e3⟩ := E'.pair (S := l2 K R (xs, ys)) (o := some (.ref t)) (ob := .lst [.ref p, .ref q]) ht fun s1 hb =>
      ⟨t, p, q, vs1, vs2, rfl, hb, hne, by rw [f1, f2'], paired_mono (fun _ _ z => R.mono s1 z) r1, paired_mono (fun _ _ z => R.mono s1 z) r2⟩
    exact hQ _ _ E3 e3
section
variable {s : Sta} {σ : St} {Γ : List Slot} {S S1 S2 : Slot} {o : Option V}
/-- the footprint of the slot i goes over to the slot j, whose own is dropped -/
theorem EnvOk.hand {i j : Nat} (E : EnvOk s σ Γ) (hi : Γ[i]? = some S) (hj : j < Γ.length) (hij : i ≠ j) (h1 : S1.p s.B em (σ[i]?.join)) (h2 : S2.p s.B (s.F i) o) :
    EnvOk ⟨s.B, s.H, fun k => if k = j then s.F i else if k = i then em else s.F k⟩ (σ.set j o) ((Γ.set i S1).set j S2) ∧ Evo s ⟨s.B, s.H, fun k => if k = j then s.F i else if k = i then em else s.F k⟩ := by
  have hl := (List.getElem?_eq_some_iff.mp hi).1
  have key : ∀ k a, (if k = j then s.F i else if k = i then em else s.F k) a ≠ none → (k = j ∧ s.F i a ≠ none) ∨ (k ≠ j ∧ k ≠ i ∧ s.F k a ≠ none) := fun k a h => by
    by_cases q : k = j
    · rw [if_pos q] at h; exact .inl ⟨q, h⟩
    · rw [if_neg q] at h
      by_cases q2 : k = i
      · rw [if_pos q2] at h; exact absurd rfl h
      · rw [if_neg q2] at h; exact .inr ⟨q, q2, h⟩
  refine ⟨⟨E.sub, fun k a u h => ?_, fun k a h => ?_, fun k m a g1 g2 => ?_, by simp [E.len], fun k S3 g => ?_, fun k g => ?_⟩, ⟨fun _ _ h => h, fun _ _ h _ => h, fun _ h => h, fun _ h => .inl h, fun a k h => ?_⟩⟩
  · have h' : (if k = j then s.F i else if k = i then em else s.F k) a = some u := h
    by_cases q : k = j
    · rw [if_pos q] at h'; exact E.subF i a u h'
    · rw [if_neg q] at h'
      by_cases q2 : k = i
      · rw [if_pos q2] at h'; cases h'
      · rw [if_neg q2] at h'; exact E.subF k a u h'
  · rcases key k a h with ⟨_, z⟩ | ⟨_, _, z⟩
    · exact E.dis i a z
    · exact E.dis k a z
  · rcases key k a g1 with ⟨q, z⟩ | ⟨q, q2, z⟩
    · rcases key m a g2 with ⟨q', z'⟩ | ⟨q', q2', z'⟩
      · omega
      · exact absurd (E.disF i m a z z').symm q2'
    · rcases key m a g2 with ⟨q', z'⟩ | ⟨q', q2', z'⟩
      · exact absurd (E.disF k i a z z') q2
      · exact E.disF k m a z z'
  · show S3.p s.B (if k = j then s.F i else if k = i then em else s.F k) _
    by_cases q : k = j
    · subst q
      rw [List.getElem?_set_self (by simpa using hj)] at g; cases g
      rw [if_pos rfl, List.getElem?_set_self (by rw [E.len]; exact hj)]
      exact h2
    · rw [List.getElem?_set_ne (Ne.symm q)] at g
      rw [if_neg q, List.getElem?_set_ne (Ne.symm q)]
      by_cases q2 : k = i
      · subst q2
        rw [List.getElem?_set_self hl] at g; cases g
        rw [if_pos rfl]; exact h1
      · rw [List.getElem?_set_ne (Ne.symm q2)] at g
        rw [if_neg q2]
        exact E.sl k S3 g
  · show (if k = j then s.F i else if k = i then em else s.F k) = em
    simp at g
    rw [if_neg (by omega), if_neg (by omega)]
    exact E.out k g
  · rcases key k a h with ⟨_, z⟩ | ⟨_, _, z⟩
    · exact .inr ⟨i, z⟩
    · exact .inr ⟨k, z⟩
end
section
variable {X : Cx} {e : Expr} {st : Stmt} {sts : List Stmt} {x y : Str} {px py apos cpos spos pos : Pos} {Γ Γ1 : List Slot} {R : Ty α} {z : List α × List α} {P : Res → Prop}
/-- x = y[e] -/
theorem s1_alias {i j : Nat} {k : Int} (hi : Γ[i]? = some (l2 X.K R z)) (he : EX X e Γ (pu tI k) Γ) (hk : k = 0 ∨ k = 1) (hij : i ≠ j) (hj : j < Γ.length) (hN : X.N.Nodup) (hNi : X.N[i]? = some y := by rfl) (hNj : X.N[j]? = some x := by rfl) (hx : Loc X.env.scope x := by first | exact Or.inl rfl | exact Or.inr rfl)
    (hv : Vis X.env.scope y := by first | exact Or.inl rfl | exact Or.inr (Or.inl rfl) | exact Or.inr (Or.inr rfl)) (hd : (y == ("__debug__" : Str)) = false := by decide) (hcd : (y == ("__classdict__" : Str)) = false := by decide) (hpi : PlainIx e := by exact fun _ _ => rfl)
    (hs : swapsWith (.Subscript (.Name y py) e spos) (some (.Name x px)) pos.line X.env = pure false := by rfl) (hf : X.fn x = true ∨ X.env.scope.names.lookup x = some .local := by first | exact .inl rfl | exact .inr rfl) :
    S1 X (.Assign [.Name x px] (.Subscript (.Name y py) e spos) pos) Γ (fun r => ∃ t p q, r = .nx ((Γ.set i (pin t p q)).set j (al X.K R p q k z))) := by
  intro T _ τ σ s hl E D hD
  refine rs_of (ps_set hN hNj hx (pe_ix ix_list (pe_var hNi hv hd hcd) peR hpi) hs hf) ?_
  have hlt := (List.getElem?_eq_some_iff.mp hi).1
  have hi2 : (Γ ++ T)[i]? = some (l2 X.K R z) := by rw [List.getElem?_append_left hlt]; exact hi
  obtain ⟨t, p, q, us, vs, e0, h1, h2, f, r1, r2⟩ := E.sl i _ hi2
  rw [List.getElem?_append_left (by omega)] at e0
  have hσ : σ[i]? = some (some (.ref t)) := by
    rw [List.getElem?_eq_getElem (by omega)] at e0 ⊢
    exact congrArg some e0
  refine ⟨.ref t, hσ, ?_⟩
  refine he T τ σ s hl E _ fun v s1 E1 l1 e1 => ?_
  have hy : v = .int k := pu_top E1
  subst hy
  obtain ⟨E2, e2⟩ := E1.pop
  obtain ⟨t', p', q', us', vs', e0', g1, g2, f', w1, w2⟩ := E2.sl i _ hi2
  rw [List.getElem?_append_left (by omega), hσ] at e0'
  cases e0'
  have hq : SqL X.K s1.H t [.ref p', .ref q'] := SqL.of (E2.sub _ _ g1)
  have hat : atI [V.ref p', V.ref q'] k = some (.ref (if k = 0 then p' else q')) := by
    rcases hk with rfl | rfl <;> rfl
  refine ⟨t, _, k, _, rfl, rfl, hq, hat, ?_⟩
  have hσ2 : (σ ++ τ)[i]?.join = some (.ref t) := by rw [List.getElem?_append_left (by omega), hσ]; rfl
  obtain ⟨E3, e3⟩ := E2.hand (S1 := pin t p' q') (S2 := al X.K R p' q' k z) (o := some (.ref (if k = 0 then p' else q'))) hi2 (by simp; omega) hij (by rw [hσ2]; exact ⟨rfl, rfl, g1⟩) ⟨us', vs', rfl, g2, f', w1, w2⟩
  rw [set_app hlt, set_app (by simpa using hj), List.set_append_left _ _ (by omega)] at E3
  have q := hD _ ⟨t, p', q', rfl⟩ (σ.set j (some (.ref (if k = 0 then p' else q')))) _ (by simp; omega) E3 ((e1.trans e2).trans e3)
  exact q
theorem sx_alias {G : Addr → Addr → Addr → List Slot} (h : S1 X st Γ (fun r => ∃ t p q, r = .nx (G t p q))) (h2 : ∀ t p q, SX X sts (G t p q) P) : SX X (st :: sts) Γ P :=
  sx_cons h (fun Γ' ⟨t, p, q, e⟩ => by cases e; exact h2 t p q) fun r ⟨t, p, q, e⟩ n => by subst e; exact absurd trivial n
/-- the name is dropped: the list of the two lists is a pure thing -/
theorem Wk.join2 {i j : Nat} {t p q : Addr} {k : Int} (K : PySem.W.Frag) (hi : Γ[i]? = some (pin t p q)) (hj : Γ[j]? = some (al K R p q k z)) (hij : i ≠ j) : Wk Γ ((Γ.set j Fw.un).set i (Fw.pu (tLs K (tLs K R)) [z.1, z.2])) := ⟨by simp, fun T τ σ s hl E => by
  have hli := (List.getElem?_eq_some_iff.mp hi).1
  have hlj := (List.getElem?_eq_some_iff.mp hj).1
  have hi' : (Γ ++ T)[i]? = some (pin t p q) := by rw [List.getElem?_append_left hli]; exact hi
  have hj' : (Γ ++ T)[j]? = some (al K R p q k z) := by rw [List.getElem?_append_left hlj]; exact hj
  obtain ⟨us, vs, _, h2, f, r1, r2⟩ := E.sl j _ hj'
  obtain ⟨_, ot, hB⟩ := E.sl i _ hi'
  obtain ⟨g1, g2⟩ := o2_at (us := us) (vs := vs) h2
  obtain ⟨E', e'⟩ := E.freeze (S' := Fw.un) (i := j) (by simp; omega) fun B' s1 s2 => rfl
  have sB : Same s.B (un2 (s.F j) s.B) := e'.b
  have sF : Same (s.F j) (un2 (s.F j) s.B) := same_l
  have hi2 : ((Γ ++ T).set j Fw.un)[i]? = some (pin t p q) := by rw [List.getElem?_set_ne (Ne.symm hij)]; exact hi'
  obtain ⟨E2, e2⟩ := E'.turn (S' := Fw.pu (tLs K (tLs K R)) [z.1, z.2]) (F' := em) hi2 same_em (by
    rw [ot]
    refine ⟨rfl, _, rfl, t, _, rfl, sB _ _ hB, .cons ?_ (.cons ?_ .nil)⟩
    · exact ⟨p, us, rfl, sF _ _ (by rw [f]; exact g1), paired_mono (fun _ _ z => R.mono sB z) r1⟩
    · exact ⟨q, vs, rfl, sF _ _ (by rw [f]; exact g2), paired_mono (fun _ _ z => R.mono sB z) r2⟩)
  rw [set_app hlj, set_app (by simpa using hli)] at E2
  exact ⟨_, E2, e'.trans e2, rfl⟩⟩
theorem paired_erase {F : V → α → Prop} : ∀ {vs : List V} {xs : List α} (i : Nat), Paired F vs xs → Paired F (vs.eraseIdx i) (xs.eraseIdx i)
  | _, _, _, .nil => .nil
  | _, _, 0, .cons _ t => t
  | _, _, i + 1, .cons r t => .cons r (paired_erase i t)
def put2 (k : Int) (z : List α × List α) (xs : List α) : List α × List α := if k = 0 then (xs, z.2) else (z.1, xs)
/-- the named list is written -/
theorem al_write {i : Nat} {p q : Addr} {k : Int} {xs : List α} {us' : List V} {T : List Slot} {τ σ : St} {s : Sta} (hl : σ.length = Γ.length) (E : EnvOk s (σ ++ τ) (Γ ++ T)) (hi : Γ[i]? = some (al X.K R p q k z)) (hp : Paired (R.rep s.B) us' xs) :
    ∃ s', EnvOk s' (σ ++ τ) (Γ.set i (al X.K R p q k (put2 k z xs)) ++ T) ∧ Evo s s' ∧ s'.H = upd s.H (if k = 0 then p else q) (.lst us') := by
  have hlt := (List.getElem?_eq_some_iff.mp hi).1
  have hi2 : (Γ ++ T)[i]? = some (al X.K R p q k z) := by rw [List.getElem?_append_left hlt]; exact hi
  obtain ⟨us, vs, e0, h2, f, r1, r2⟩ := E.sl i _ hi2
  obtain ⟨g1, g2⟩ := o2_at (us := us) (vs := vs) h2
  unfold put2
  by_cases hk : k = 0
  · rw [if_pos hk]
    rw [if_pos hk] at e0
    obtain ⟨E4, e4⟩ := E.writeF (S' := al X.K R p q k (xs, z.2)) (i := i) (p := p) (F' := un2 (one p (.lst us')) (one q (.lst vs))) (ob' := .lst us') (by simp; omega) (by rw [f, g1]; simp)
      (fun a ha => by rw [f, un2_r (one_off ha), un2_r (one_off ha)]) (o2_at h2).1 (by
      rw [e0]
      exact ⟨_, _, by rw [if_pos hk], h2, rfl, hp, r2⟩)
    rw [set_app hlt] at E4
    rw [if_pos hk]
    exact ⟨_, E4, e4, rfl⟩
  · rw [if_neg hk]
    rw [if_neg hk] at e0
    obtain ⟨E4, e4⟩ := E.writeF (S' := al X.K R p q k (z.1, xs)) (i := i) (p := q) (F' := un2 (one p (.lst us)) (one q (.lst us'))) (ob' := .lst us') (by simp; omega) (by rw [f, g2]; simp)
      (fun a ha => by
        rw [f]
        by_cases w : a = p
        · rw [w, (o2_at h2).1, (o2_at h2).1]
        · rw [un2_r (one_off w), un2_r (one_off w), one_off ha, one_off ha]) (o2_at h2).2 (by
      rw [e0]
      exact ⟨_, _, by rw [if_neg hk], h2, rfl, r1, hp⟩)
    rw [set_app hlt] at E4
    rw [if_neg hk]
    exact ⟨_, E4, e4, rfl⟩
theorem al_get {i : Nat} {p q : Addr} {k : Int} {T : List Slot} {τ σ : St} {s : Sta} (hl : σ.length = Γ.length) (E : EnvOk s (σ ++ τ) (Γ ++ T)) (hi : Γ[i]? = some (al X.K R p q k z)) :
    ∃ us, σ[i]? = some (some (.ref (if k = 0 then p else q))) ∧ s.H (if k = 0 then p else q) = some (.lst us) ∧ Paired (R.rep s.B) us (pick2 k z) := by
  have hlt := (List.getElem?_eq_some_iff.mp hi).1
  obtain ⟨us, vs, e0, h2, f, r1, r2⟩ := E.sl i _ (by rw [List.getElem?_append_left hlt]; exact hi)
  rw [List.getElem?_append_left (by omega)] at e0
  have hσ : σ[i]? = some (some (.ref (if k = 0 then p else q))) := by
    rw [List.getElem?_eq_getElem (by omega)] at e0 ⊢
    exact congrArg some e0
  obtain ⟨g1, g2⟩ := o2_at (us := us) (vs := vs) h2
  unfold pick2
  by_cases hk : k = 0
  · rw [if_pos hk] at hσ ⊢
    rw [if_pos hk]
    exact ⟨us, hσ, E.subF i _ _ (by rw [f]; exact g1), r1⟩
  · rw [if_neg hk] at hσ ⊢
    rw [if_neg hk]
    exact ⟨vs, hσ, E.subF i _ _ (by rw [f]; exact g2), r2⟩
/-- x.append(e), x the named list -/
theorem s1_appA {i : Nat} {p q : Addr} {k : Int} {y0 : α} (hi : Γ[i]? = some (al X.K R p q k z)) (he : EX X e Γ (pu R y0) Γ) (hz : (pick2 k z).length < sizeLine) (hN : X.N[i]? = some x := by rfl) (hv : Vis X.env.scope x := by first | exact Or.inl rfl | exact Or.inr (Or.inl rfl) | exact Or.inr (Or.inr rfl))
    (hd : (x == ("__debug__" : Str)) = false := by decide) (hcd : (x == ("__classdict__" : Str)) = false := by decide)
    (hbase : attributeBase (.Name x px) "append" X.env (eval (.Name x px) X.env) = eval (.Name x px) X.env := by rfl)
    (hfew : ((backTo cpos (starEach (e :: []) X.env)).all (fun x => !x.1) && (backToKw cpos (keywordEach [] X.env)).all (fun x => x.1.isSome)
      && decide ((e :: []).length + ([] : List Keyword).length + (if ([] : List Keyword).isEmpty then 0 else 1) < 30)) = true := by rfl)
    (hline : (apos.endLine == cpos.line) = true := by rfl) (hs : starEach (e :: []) X.env = (false, eval e X.env) :: starEach [] X.env := by rfl) (hplain : (backTo cpos (starEach [] X.env)).any (·.1) = false := by rfl)
    (hsw : swapsWith (.Call (.Attribute (.Name x px) "append" apos) [e] [] cpos) none pos.line X.env = pure false := by rfl) :
    S1 X (.Expr (.Call (.Attribute (.Name x px) "append" apos) [e] [] cpos) pos) Γ (fun r => r = .nx (Γ.set i (al X.K R p q k (put2 k z (pick2 k z ++ [y0]))))) := by
  intro T _ τ σ s hl E D hD
  refine rs_of (ps_expr (pe_bm PySem.F.plainAttrs_list PySem.F.slot_list_append PySem.F.type_list_append mt_append (pe_var hN hv hd hcd) (pa_cons peR pa_nil hs) hbase hfew hline hs hplain) hsw) ?_
  obtain ⟨us, hσ, hp, r0⟩ := al_get hl E hi
  refine ⟨_, hσ, .inl ⟨rfl, us, SqL.of hp⟩, ?_⟩
  refine he T τ σ s hl E _ fun v s1 E1 l1 e1 => ?_
  have hy := pu_top E1
  obtain ⟨E2, e2⟩ := E1.pop
  obtain ⟨us', hσ', hp', r'⟩ := al_get hl E2 hi
  obtain ⟨s3, E3, e3, h3⟩ := al_write (us' := us' ++ [v]) hl E2 hi (paired_app r' (.cons hy .nil))
  refine ⟨_, us', v, rfl, rfl, hp', by rw [paired_len r']; exact hz, ?_⟩
  have q := hD _ rfl σ _ (by simp; omega) E3 ((e1.trans e2).trans e3)
  rw [h3] at q
  exact q
/-- x.pop(e), x the named list -/
theorem s1_popA {i : Nat} {p q : Addr} {k : Int} {m : Int} (hi : Γ[i]? = some (al X.K R p q k z)) (he : EX X e Γ (pu tI m) Γ) (hz : 0 ≤ m ∧ m < ((pick2 k z).length : Int) ∧ m < 4611686018427387904) (hN : X.N[i]? = some x := by rfl) (hv : Vis X.env.scope x := by first | exact Or.inl rfl | exact Or.inr (Or.inl rfl) | exact Or.inr (Or.inr rfl))
    (hd : (x == ("__debug__" : Str)) = false := by decide) (hcd : (x == ("__classdict__" : Str)) = false := by decide)
    (hbase : attributeBase (.Name x px) "pop" X.env (eval (.Name x px) X.env) = eval (.Name x px) X.env := by rfl)
    (hfew : ((backTo cpos (starEach (e :: []) X.env)).all (fun x => !x.1) && (backToKw cpos (keywordEach [] X.env)).all (fun x => x.1.isSome)
      && decide ((e :: []).length + ([] : List Keyword).length + (if ([] : List Keyword).isEmpty then 0 else 1) < 30)) = true := by rfl)
    (hline : (apos.endLine == cpos.line) = true := by rfl) (hs : starEach (e :: []) X.env = (false, eval e X.env) :: starEach [] X.env := by rfl) (hplain : (backTo cpos (starEach [] X.env)).any (·.1) = false := by rfl)
    (hsw : swapsWith (.Call (.Attribute (.Name x px) "pop" apos) [e] [] cpos) none pos.line X.env = pure false := by rfl) :
    S1 X (.Expr (.Call (.Attribute (.Name x px) "pop" apos) [e] [] cpos) pos) Γ (fun r => r = .nx (Γ.set i (al X.K R p q k (put2 k z ((pick2 k z).eraseIdx m.toNat))))) := by
  intro T _ τ σ s hl E D hD
  refine rs_of (ps_expr (pe_bm PySem.F.plainAttrs_list PySem.F.slot_list_pop PySem.F.type_list_pop mt_popAt (pe_var hN hv hd hcd) (pa_cons peR pa_nil hs) hbase hfew hline hs hplain) hsw) ?_
  have hlt := (List.getElem?_eq_some_iff.mp hi).1
  obtain ⟨us, hσ, hp, r0⟩ := al_get hl E hi
  refine ⟨_, hσ, .inl ⟨rfl, us, SqL.of hp⟩, ?_⟩
  refine he T τ σ s hl E _ fun v s1 E1 l1 e1 => ?_
  have hy : v = .int m := pu_top E1
  subst hy
  obtain ⟨E2, e2⟩ := E1.pop
  obtain ⟨us', hσ', hp', r'⟩ := al_get hl E2 hi
  have hlen := paired_len r'
  have hlt2 : m.toNat < us'.length := by omega
  obtain ⟨s3, E3, e3, h3⟩ := al_write (us' := us'.eraseIdx m.toNat) hl E2 hi (paired_erase m.toNat r')
  have hix : ixN us'.length m = some m.toNat := by
    unfold ixN
    rw [if_pos hz.1, if_pos (by omega)]
  refine ⟨_, us', m, m.toNat, us'[m.toNat], rfl, rfl, hp', by omega, by omega, (ixN_seq hix).1, List.getElem?_eq_getElem hlt2, ?_⟩
  have q := hD _ rfl σ _ (by simp; omega) E3 ((e1.trans e2).trans e3)
  rw [h3] at q
  exact q
end
/-! ## an item of a list or a tuple -/
def rIxA (K : PySem.W.Frag) : R2 := fun x y H Q => ∃ p xs i v, x = .ref p ∧ y = .int i ∧ (SqL K H p xs ∨ SqT K H p xs) ∧ atI xs i = some v ∧ Q v H
theorem ix_any {X : Cx} : IxR X (rIxA X.K) := by
  intro value slice pins s σ H x y v u Q I rx ry h hs
  obtain ⟨p, xs, i, z, h1, h2, h3, h4, h5⟩ := h
  rcases h3 with h3 | h3
  · exact ix_list value slice pins s σ H x y v u Q I rx ry ⟨p, xs, i, z, h1, h2, h3, h4, h5⟩ hs
  · exact ix_tup value slice pins s σ H x y v u Q I rx ry ⟨p, xs, i, z, h1, h2, h3, h4, h5⟩ hs
theorem o_ixA [Inhabited α] {K : PySem.W.Frag} {R : Ty α} {S : Ty (List α)} {xs : List α} {i : Int} (q : SeqA K S R) (h : InIx xs.length i) : Op2 (rIxA K) (pu S xs) (pu tI i) (pu R (ix xs i)) :=
  op2_val fun B H v u s h1 h2 Q k => by
    obtain ⟨a, vs, e, z, r⟩ := q.get h1
    obtain ⟨w, hw, rw'⟩ := ix_of r h
    exact ⟨a, vs, i, w, e, h2, same_or s z, hw, k _ rw'⟩
theorem x_valL2 {X : Cx} {e : Expr} {Γ Γ1 : List Slot} {R : Ty α} {z z' : List α × List α} (h : EX X e Γ (l2 X.K R z) Γ1) (q : z = z') : EX X e Γ (l2 X.K R z') Γ1 := by subst q; exact h
end Fw

namespace FwE
open PySem PySem.Spec PyProof.Rows L2 TS SrtO
section
variable {P : Program} {w : World} {A : Around} {E : Value → Shared → Prop} {s : Shared}
/-- sorted(a set of tuples of ints) -/
theorem sorted_setT2 {a : Addr} {L : List (Addr × List Int)} {es : Array (Int × Value)} {ep : Nat} {t : SetTable} {k : Value → List Int} {Q : Value → Shared → Prop} (R : SetTR P w s.heap a L es ep t) (hh : A.handled = none) (hu : A.units + 10 < cLine)
    (hk : ∀ q ∈ L, TupI s.heap (.ref q.1) (k (.ref q.1)))
    (hQ : ∀ (s' : Shared) (p : Addr) (out : List Value) (c : Nat), (∀ b o, s.heap.get? b = some o → s'.heap.get? b = some o) → s'.gens = s.gens → s'.os = s.os → s.heap.objs.size ≤ p → s'.heap.get? p = some (seqObj "list" out.toArray c) →
      out.Perm (L.map fun q => Value.ref q.1) → Srtd (fun v u => decide (k v < k u)) out → Q (.ref p) s') :
    wpAny (model P w) A (call (.builtin "sorted") [.ref a]) Q E s := by
  obtain ⟨o, ho, hex, hd⟩ := R.ob
  have few := R.few
  have siz := R.size
  refine Calls.call_function_entry kind_sorted plain_sorted entry_sorted (args_sorted1 _) ?_
  unfold Builtin.«sorted»
  refine wpAny_bind (m := checkCount "sorted" 1 1 _) (wpAny_pure ?_)
  refine wpAny_bind (collect_set (A := A.in1) hh ⟨o, ho, hex.1, hd⟩ R.fits (by unfold scanBound; omega) R.tab.ris R.led fun s1 vs k1 hz g1 o1 pm => ?_)
  have hes : es.toList.map (·.2) = L.map fun q => Value.ref q.1 := by
    rw [R.rows]
    unfold rowsOf
    rw [List.map_map] <;> rfl
  rw [hes] at pm
  have hvl : vs.length < 64 := by rw [pm.length_eq, List.length_map]; exact few
  have hvz : vs.length ≤ sizeLine := by rw [sizeLine_eq]; omega
  refine wpAny_bind (wpAny_newList ?_ hvz)
  have hoL : (s1.heap.push (seqObj "list" vs.toArray 0)).get? s1.heap.objs.size = some (seqObj "list" vs.toArray 0) := Heap.get?_push_size _ rfl
  have swo : Swo fun v u : Value => decide (k v < k u) := ⟨fun x y h1 => decide_eq_false (List.lt_asymm (of_decide_eq_true h1)), fun x y z h1 h2 => by
    have k1 := List.not_lt.mp (of_decide_eq_false h1)
    have k2 := List.not_lt.mp (of_decide_eq_false h2)
    exact decide_eq_false (List.not_lt.mpr (List.le_trans k1 k2))⟩
  refine wpAny_bind (wpAny_holding (wpAny_call_entry (s := { s1 with heap := s1.heap.push (seqObj "list" vs.toArray 0) }) slot_list_sort ⟨_, hoL, rfl⟩ entry_list_sort (list_sort_ord swo hoL hvz (fun h2 => tups_sortable (s := { s1 with heap := s1.heap.push (seqObj "list" vs.toArray 0) }) h2 (fun v hv => ?_) (fun o e => ?_) ?_) fun out hs hb => ⟨_, rfl, ?_⟩) (args_list_sort _)))
  · obtain ⟨q, hq, e⟩ := List.mem_map.mp (pm.mem_iff.mp hv)
    subst e
    exact (hk q hq).keeps fun b u e _ => Heap.get?_push_of_some _ (k1 b u e)
  · have e' : some o = some (seqObj "list" vs.toArray 0) := e.symm.trans hoL
    cases e'
    exact fun c => absurd (Value.type.inj c) (by decide)
  · show A.units + 1 + 1 + 2 < cLine
    omega
  · obtain ⟨c, hc⟩ := sortedHeap_at (vs := vs) (out := out.toArray) hoL
    refine wpAny_pure ⟨_, rfl, hQ _ s1.heap.objs.size out c (fun b u e => ?_) g1 o1 hz hc (hb.perm.trans pm) hs⟩
    have q := k1 b u e
    have hlt := Heap.lt_size q
    show (sortedHeap (s1.heap.push (seqObj "list" vs.toArray 0)) s1.heap.objs.size vs out.toArray).get? b = some u
    rw [sortedHeap_old (Nat.ne_of_lt hlt) (by rw [size_push']; exact Nat.lt_succ_of_lt hlt)]
    exact Heap.get?_push_of_some _ q
end
end FwE
namespace Fw
open PySem L2
variable [Tb]
variable {α β γ δ ε ρ κ θ : Type}
/-! ## sets of tuples of ints -/
def undup : List (List Int) → List (List Int)
  | [] => []
  | x :: r => if x ∈ undup r then undup r else x :: undup r
theorem undup_mem {x : List Int} : ∀ {xs : List (List Int)}, x ∈ undup xs ↔ x ∈ xs
  | [] => Iff.rfl
  | y :: r => by
    have ih := undup_mem (x := x) (xs := r)
    unfold undup
    split
    · rename_i h
      rw [ih, List.mem_cons]
      exact ⟨.inr, fun z => z.elim (fun e => by rw [e]; exact ih' h) id⟩
    · rw [List.mem_cons, ih, List.mem_cons]
where ih' {y : List Int} {r : List (List Int)} (h : y ∈ undup r) : y ∈ r := (undup_mem (xs := r)).mp h
theorem undup_nodup : ∀ (xs : List (List Int)), (undup xs).Nodup
  | [] => .nil
  | x :: r => by
    unfold undup
    split
    · exact undup_nodup r
    · rename_i h
      exact List.nodup_cons.mpr ⟨h, undup_nodup r⟩
def rset (xs : List (List Int)) : List (List Int) := rowSort (undup xs)
theorem rset_mem {x : List Int} {xs : List (List Int)} : x ∈ rset xs ↔ x ∈ xs := ((rowSort_perm _).mem_iff).trans undup_mem
theorem rset_nodup (xs : List (List Int)) : (rset xs).Nodup := (rowSort_perm _).nodup_iff.mpr (undup_nodup xs)
theorem rset_asc (xs : List (List Int)) : (rset xs).Pairwise (· ≤ ·) := rowSort_asc _
theorem rset_is {xs ys : List (List Int)} (h1 : ys.Nodup) (h2 : ys.Pairwise (· ≤ ·)) (h : ∀ z, z ∈ ys ↔ z ∈ xs) : ys = rset xs :=
  rows_unique h2 (rset_asc xs) ((List.perm_ext_iff_of_nodup h1 (rset_nodup xs)).mpr fun z => (h z).trans rset_mem.symm)
def stRep (K : PySem.W.Frag) (P : Program) (w : World) (B : Hp) (v : V) (xs : List (List Int)) : Prop := ∃ (a : Addr) (L : List (Addr × List Int)), v = .ref a ∧ B a = some (SetTO P w a L) ∧ (∀ p ∈ L, SqT K B p.1 (p.2.map V.int)) ∧ ∀ z : List Int, z ∈ L.map (fun p => p.2) ↔ z ∈ xs
def tST (K : PySem.W.Frag) (P : Program) (w : World) : Ty (List (List Int)) := ⟨stRep K P w, fun s h => let ⟨a, L, e, h1, h2, h3⟩ := h; ⟨a, L, e, s _ _ h1, fun p hp => same_sqt s (h2 p hp), h3⟩⟩
theorem keys_of {K : PySem.W.Frag} {B : Hp} : ∀ {vs : List V} {xs : List (List Int)}, Paired ((tT K tI).rep B) vs xs → ∃ ks : List (Addr × List Int), vs = ks.map (fun p => V.ref p.1) ∧ xs = ks.map (·.2) ∧ ∀ p ∈ ks, SqT K B p.1 (p.2.map V.int)
  | _, _, .nil => ⟨[], rfl, rfl, fun _ h => nomatch h⟩
  | _, _, .cons (b := x) r t => by
    obtain ⟨ks, h1, h2, h3⟩ := keys_of t
    obtain ⟨a, ws, e, q, p⟩ := r
    rw [paired_int p] at q
    refine ⟨(a, x) :: ks, by rw [e, h1]; rfl, by rw [h2]; rfl, fun p hp => ?_⟩
    rcases List.mem_cons.mp hp with rfl | hp
    · exact q
    · exact h3 p hp
theorem n_setOfT {K : PySem.W.Frag} {P : Program} {w : World} {S : Ty (List (List Int))} {xs : List (List Int)} (sq : SeqL K S (tT K tI)) (hz : xs.length < 64) : OpN (rSetOfT K P w) [pu S xs] (pu (tST K P w) xs) :=
  opN_1 (op1_new fun B H v s h1 Q k _ => by
    obtain ⟨a, us, ev, hsq, hp⟩ := sq.get h1
    obtain ⟨ks, e1, e2, e3⟩ := keys_of hp
    subst e1
    refine ⟨a, ks, by rw [ev], s.seq hsq, fun p hp => same_sqt s (e3 p hp), by rw [e2, List.length_map] at hz; exact hz, fun l L hl g1 g2 => k l _ hl fun B' s' hB => ⟨l, L, rfl, hB, fun p hp => same_sqt s' (e3 p (g1 p hp)), fun z => ?_⟩⟩
    rw [e2]
    constructor
    · intro hz
      obtain ⟨p, hp, rfl⟩ := List.mem_map.mp hz
      exact List.mem_map.mpr ⟨p, g1 p hp, rfl⟩
    · intro hz
      obtain ⟨p, hp, rfl⟩ := List.mem_map.mp hz
      exact g2 p hp)
def rSortST (K : PySem.W.Frag) (P : Program) (w : World) : List V → Hp → VK → Prop := fun vs H Q => ∃ (a : Addr) (L : List (Addr × List Int)), vs = [V.ref a] ∧ H a = some (SetTO P w a L) ∧ (∀ p ∈ L, SqT K H p.1 (p.2.map V.int)) ∧
  ∀ (L' : List (Addr × List Int)) (p : Addr), (∀ q ∈ L', q ∈ L) → (L'.map (·.2)).Perm (L.map (·.2)) → (L'.map (·.2)).Pairwise (· ≤ ·) → (L.map (·.2)).Nodup → H p = none → Q (.ref p) (upd H p (.lst (L'.map fun q => V.ref q.1)))
theorem refs_among {L : List (Addr × List Int)} : ∀ (vs : List Value), (∀ v ∈ vs, ∃ q ∈ L, v = Value.ref q.1) → ∃ L1 : List (Addr × List Int), vs = L1.map (fun q => Value.ref q.1) ∧ ∀ q ∈ L1, q ∈ L
  | [], _ => ⟨[], rfl, fun _ h => nomatch h⟩
  | v :: vs, h => by
    obtain ⟨q, hq, e⟩ := h v List.mem_cons_self
    obtain ⟨L1, e1, e2⟩ := refs_among vs fun u hu => h u (List.mem_cons_of_mem _ hu)
    refine ⟨q :: L1, by rw [e, e1]; rfl, fun r hr => ?_⟩
    rcases List.mem_cons.mp hr with rfl | hr
    · exact hq
    · exact e2 r hr
theorem cr_sortST {X : Cx} (hc : X.calm = true) (hu : X.A.units + 200 < cLine) : CallR X (.builtin "sorted") (rSortST X.K X.prog X.w) := by
  intro pins s σ H vs us Q I r h
  obtain ⟨a, L, rfl, ha, hk, q⟩ := h
  have R0 : SetT0 X.prog X.w s.heap a L := (I.hok a _ ha).1
  obtain ⟨es, ep, t, R⟩ := R0.full fun p hp => I.isT (hk p hp)
  rw [Vals.ref1 r]
  have hT : ∀ p ∈ L, FwE.TupI s.heap (.ref p.1) p.2 := fun p hp => tupI_of I ⟨p.1, rfl, hk p hp⟩ rfl
  have hn2 : ∀ p ∈ L, nsOf s.heap (.ref p.1) = p.2 := fun p hp => nsOf_eq (hT p hp)
  refine FwE.sorted_setT2 (k := nsOf s.heap) R (I.ok.hd hc) (by omega) (fun p hp => by rw [hn2 p hp]; exact hT p hp) fun s' p out c kk g o hp hg pm hs => ?_
  obtain ⟨L', e', hs'⟩ := refs_among (L := L) out fun v hv => by
    obtain ⟨q, hq, e⟩ := List.mem_map.mp (pm.mem_iff.mp hv)
    exact ⟨q, hq, e.symm⟩
  have m1 : ∀ {M : List (Addr × List Int)}, (∀ q ∈ M, q ∈ L) → (M.map fun q => Value.ref q.1).map (nsOf s.heap) = M.map (·.2) := fun hM => by
    rw [List.map_map]
    exact List.map_congr_left fun q hq => hn2 q (hM q hq)
  have pm2 : (L'.map (·.2)).Perm (L.map (·.2)) := by
    have z := pm.map (nsOf s.heap)
    rw [e', m1 hs', m1 (fun _ h => h)] at z
    exact z
  have as2 : (L'.map (·.2)).Pairwise (· ≤ ·) := by
    have z : (out.map (nsOf s.heap)).Pairwise (· ≤ ·) := List.pairwise_map.mpr (hs.imp fun h1 => List.not_lt.mp (of_decide_eq_false h1))
    rw [e', m1 hs'] at z
    exact z
  have hlen : (L'.map fun q => V.ref q.1).length ≤ sizeLine := by
    have l1 := pm2.length_eq
    have l2 := R.few
    rw [List.length_map, List.length_map] at l1
    rw [List.length_map, sizeLine_eq]; omega
  have hn : H p = none := I.hok.fresh hp
  have hv : Vals (L'.map fun q => V.ref q.1) out := by rw [e']; exact vals_of_refs L'
  have J : Inv X pins σ (upd H p (.lst (L'.map fun q => V.ref q.1))) { s with heap := s'.heap, gens := s'.gens, drawn := s'.drawn, toks := s'.toks } :=
    I.call (ch := []) (Un.laid kk hp hn) (I.hok.laid kk hp ⟨hlen, out, c, hv, hg⟩) (by rw [g]; exact I.bare) (fun _ z => nomatch z)
  have e : s' = { s with heap := s'.heap, gens := s'.gens, drawn := s'.drawn, toks := s'.toks } := by
    cases s'
    cases s
    cases o
    rfl
  rw [e]
  exact ⟨.ref p, _, J, rfl, q L' p hs' pm2 as2 R.nd hn⟩
theorem n_sortST {K : PySem.W.Frag} {P : Program} {w : World} {xs : List (List Int)} : OpN (rSortST K P w) [pu (tST K P w) xs] (ol (tT K tI) (rset xs)) := by
  intro σ Γ _ s vs lv E Q hQ
  match vs, lv with
  | [v], _ =>
    obtain ⟨a, L, ev, h1, h2, h3⟩ := pu_top E
    obtain ⟨E2, e2⟩ := E.pop
    refine ⟨a, L, by rw [ev], E.sub _ _ h1, fun p hp => same_sqt E.sub (h2 p hp), fun L' p hs pm as nd hp => ?_⟩
    have er : L'.map (·.2) = rset xs := rset_is (pm.nodup_iff.mpr nd) as fun z => (pm.mem_iff).trans (h3 z)
    have key : ∀ {M : List (Addr × List Int)}, (∀ q ∈ M, q ∈ L) → Paired ((tT K tI).rep s.B) (M.map fun q => V.ref q.1) (M.map (·.2)) := by
      intro M
      induction M with
      | nil => intro _; exact .nil
      | cons q M ih => intro hM; exact .cons ⟨q.1, _, rfl, h2 q (hM q List.mem_cons_self), paired_of_int _⟩ (ih fun r hr => hM r (List.mem_cons_of_mem _ hr))
    obtain ⟨E4, e4⟩ := E2.pushO (o := some (.ref p)) (ob := .lst (L'.map fun q => V.ref q.1)) hp (ol (tT K tI) (rset xs)) ⟨p, _, rfl, rfl, by rw [← er]; exact key hs⟩
    exact hQ _ _ E4 (e2.trans e4)
end Fw

namespace Fw
open PySem PySem.Spec PyProof.Rows L2
variable [Tb]
variable {α β γ δ ε ρ κ θ : Type}
/-! ## methods of pure things -/
theorem flds_lookup {B : Hp} {m : Str} : ∀ {us : List (Str × V)} {fs : List (Str × Fld)}, FldsOk B us fs → m ∉ fs.map (·.1) → us.lookup m = none
  | _, _, .nil, _ => rfl
  | _, _, .cons (a := u) (b := f) z r, h => by
    have h' := not_or.mp (fun q => h (List.mem_cons.mpr q))
    have e : (m == u.1) = false := beq_eq_false_iff_ne.mpr (by rw [z.1]; exact h'.1)
    rw [show (u :: _ : List (Str × V)) = (u.1, u.2) :: _ from rfl, List.lookup_cons, e]
    exact flds_lookup r h'.2
/-- o.m(e, ..), m a def of the class -/
theorem x_meth {A : Type} {pre : A → Prop} {G : A → List Slot} {S : A → Slot} {X : Cx} {C f : Addr} {k : Nat} {m : Str} {fd : FuncData} {ps : List Str} {fl : α → List (Str × Fld)} {a : α} {S' : Slot} {o e : Expr} {es : List Expr} {apos pos : Pos} {Γ Γ1 Γ2 Ss : List Slot} {pl : Sem Bool}
    (he : EX X o Γ (pu (tObj C fl) a) Γ1) (c : Cls X.K C) (hm : Meth X.K C m f) (F : FnOk X.prog X.w X.K X.mg X.base CX0 k f fd ps (spP pre G S)) (hr : Room k X.A) (hb : Binds X.K fd ps []) (ha : EA X (e :: es) Γ1 Ss Γ2) (hno : m ∉ (fl a).map (·.1)) (x : A) (hx : pre x) (hG : pu (tObj C fl) a :: Ss = G x) (hS : S x = S')
    (hst : starEach (e :: es) X.env = (false, eval e X.env) :: starEach es X.env := by rfl) (hpl : (backTo pos (starEach es X.env)).any (·.1) = false := by rfl)
    (ht : eval (.Call (.Attribute o m apos) (e :: es) [] pos) X.env = (do
      let ov ← eval o X.env
      standAt apos.atName
      let (f, first) ← holding [ov] (getMethod ov m pl)
      callWith pos f first (backTo pos (starEach (e :: es) X.env)) (backToKw pos (keywordEach [] X.env))) := by rfl) : EX X (.Call (.Attribute o m apos) (e :: es) [] pos) Γ S' Γ2 := by
  subst hS
  intro T _ τ σ s hl E Q hQ
  refine re_of (pe_meth peR c hm F hr hb .nil pass0 paR hst hpl ht) ?_
  refine he T τ σ s hl E _ fun v s1 E1 l1 e1 => ?_
  obtain ⟨y, dx, vs, ev, h1, h2, h3⟩ := pu_top E1
  subst ev
  refine ⟨y, dx, vs, rfl, E1.sub _ _ h1, flds_lookup h3 hno, ?_⟩
  have E1' : EnvOk s1 (σ ++ (τ ++ [some (V.ref y)])) (Γ1 ++ (T ++ [pu (tObj C fl) a])) := by simpa using E1
  refine ha _ _ σ s1 (by omega) E1' _ fun ws s2 E2 l2 lw e2 => ?_
  have E3 : EnvOk s2 ((σ ++ τ) ++ (V.ref y :: ws).map some) ((Γ2 ++ T) ++ (pu (tObj C fl) a :: Ss)) := by simpa using E2
  have q := n_call (G := G) (S := S) x hx hG (σ ++ τ) (Γ2 ++ T) s2 (V.ref y :: ws) (by simp [lw]) E3 Q fun v' s' E' e' => hQ v' s' E' (by omega) ((e1.trans e2).trans e')
  exact q
/-! ## t.index(x) -/
theorem mt_tup_indexI {X : Cx} : MtR X "tuple.index" (fun x xs H Q => ∃ p, ∃ ys : List Int, ∃ z j, x = .ref p ∧ xs = [.int z] ∧ SqT X.K H p (ys.map V.int) ∧ ys[j]? = some z ∧ (∀ m, m < j → ys[m]? ≠ some z) ∧ Q (.int (j : Nat)) H) := by
  intro pins s σ H x xs v us Q I rx rs h
  obtain ⟨p, ys, z, j, rfl, rfl, hq, hy, hno, q⟩ := h
  cases rx
  obtain ⟨u, rfl, t, rfl⟩ := vals1 rs
  obtain ⟨its, r, pl, hz⟩ := I.tuple hq
  obtain ⟨⟨cls, dd, dt, sl⟩, ho, hc, n, hd⟩ := pl
  simp only at hc hd
  subst hc
  subst hd
  have hl : its.toArray.size = ys.length := by rw [List.size_toArray, ← r.length, List.length_map]
  have hj : j < its.toArray.size := by rw [hl]; exact (List.getElem?_eq_some_iff.mp hy).1
  have here : ∀ (m : Nat) (hm : m < its.toArray.size), ∃ y t', ys[m]? = some y ∧ its.toArray[m] = Value.int y t' := fun m hm => by
    have hm' : m < ys.length := by rw [← hl]; exact hm
    obtain ⟨w, hw, t', hw'⟩ := r.get (i := m) (x := .int ys[m]) (by simp [hm'])
    refine ⟨ys[m], t', List.getElem?_eq_getElem hm', ?_⟩
    have e := (List.getElem?_eq_some_iff.mp hw).2
    rw [← hw', ← e]
    simp
  refine call_meets PySem.F.slot_tuple_index ⟨_, ho, rfl⟩ PySem.F.entry_tuple_index (PySem.F.args_tuple_index_2 _ _) (TI.tuple_indexAt p its.toArray n dd sl (.int z t) (eqU (.int z)) j hj ?_ ?_)
    ⟨ho, fun w hw => mem_eqAt (x := .int z) ⟨t, rfl⟩ rfl r (flat_ints ys) w (by simpa using hw), ⟨.int (j : Nat), H, I.tok _, ⟨_, rfl⟩, q⟩⟩
  · obtain ⟨y, t', h1, h2⟩ := here j hj
    rw [hy] at h1
    cases h1
    rw [h2]
    show (z == z) = true
    exact beq_self_eq_true z
  · intro m hm hmj
    obtain ⟨y, t', h1, h2⟩ := here m hm
    rw [h2]
    show (y == z) = false
    exact beq_eq_false_iff_ne.mpr fun e => hno m hmj (e ▸ h1)
def idx (xs : List Int) (y : Int) : Int := (xs.findIdx fun z => decide (z = y) : Nat)
theorem idx_at {xs : List Int} {y : Int} (h : y ∈ xs) : ∃ j : Nat, idx xs y = j ∧ xs[j]? = some y ∧ ∀ m, m < j → xs[m]? ≠ some y := by
  have hl : xs.findIdx (fun z => decide (z = y)) < xs.length := List.findIdx_lt_length_of_exists ⟨y, h, decide_eq_true rfl⟩
  refine ⟨_, rfl, ?_, fun m hm e => ?_⟩
  · have := List.findIdx_getElem (p := fun z => decide (z = y)) (xs := xs) (w := hl)
    rw [List.getElem?_eq_getElem hl, of_decide_eq_true this]
  · have hm2 : m < xs.length := by omega
    have := List.not_of_lt_findIdx hm
    rw [List.getElem?_eq_getElem hm2] at e
    rw [Option.some.inj e] at this
    simp at this
theorem idx_in {xs : List Int} {y : Int} (h : y ∈ xs) : 0 ≤ idx xs y ∧ idx xs y < (xs.length : Int) := by
  obtain ⟨j, e, h1, _⟩ := idx_at h
  have := (List.getElem?_eq_some_iff.mp h1).1
  omega
theorem ix_idx {xs : List Int} {y : Int} (h : y ∈ xs) : ix xs (idx xs y) = y := by
  obtain ⟨j, e, h1, _⟩ := idx_at h
  obtain ⟨h2, h3⟩ := List.getElem?_eq_some_iff.mp h1
  rw [e, ix_nat (by omega) (by omega)]
  simpa using h3
/-! ## tuples of ints whose object is known to bear no dict -/
def tdRep (K : PySem.W.Frag) (B : Hp) (v : V) (xs : List Int) : Prop := ∃ (a : Addr) (o : Obj), v = .ref a ∧ B a = some (.frz o (.tup (xs.map V.int))) ∧ o.cls = .type "tuple" ∧ o.dict = none
def tTd (K : PySem.W.Frag) : Ty (List Int) := ⟨tdRep K, fun s h => let ⟨a, o, e, h1, h2, h3⟩ := h; ⟨a, o, e, s _ _ h1, h2, h3⟩⟩
theorem td_T {K : PySem.W.Frag} {B : Hp} {v : V} {xs : List Int} (h : (tTd K).rep B v xs) : (tT K tI).rep B v xs := by
  obtain ⟨a, o, e, h1, _⟩ := h
  exact ⟨a, _, e, .inl (.inr ⟨o, h1⟩), paired_of_int xs⟩
theorem nl_Td {K : PySem.W.Frag} : NL (tTd K) := fun B v xs ⟨a, o, e, h1, h2, h3⟩ => ⟨a, o, e, strip_of h1 (fun _ e => by cases e), h2, h3⟩
theorem x_td {X : Cx} {e : Expr} {Γ Γ1 : List Slot} {xs : List Int} (h : EX X e Γ (pu (tTd X.K) xs) Γ1) : EX X e Γ (pu (tT X.K tI) xs) Γ1 := x_sub h fun _ _ z => td_T z
/-- a new tuple, its object known -/
def tTupRgD (te : L2.St → Hp → (Int → Int → Hp → Prop) → Prop) : TE := fun σ H Q => te σ H fun a b H1 => RgOk a b ∧ ∀ (q : Addr) (o : Obj), H1 q = none → o.cls = .type "tuple" → o.dict = none → Q (.ref q) (upd H1 q (.frz o (.tup (rgV a b))))
theorem pe_tupRgD {X : Cx} {e : Expr} {te : L2.St → Hp → (Int → Int → Hp → Prop) → Prop} {p pos : Pos} (hc : X.calm = true) (hg : Gl X "tuple") (hm : X.mg "tuple" = none) (he : PRg X e te) (na : starEach [e] X.env = (false, eval e X.env) :: starEach [] X.env := by rfl) : PE X (.Call (.Name "tuple" p) [e] [] pos) (tTupRgD te) := by
  refine ⟨fun pins s σ H Q I h => ?_⟩
  refine Call_ (ld_blt I hg hm boot_tuple (PyProof.Rows.callWith_type1 (args_cons (thn (he pins s σ H _ I h) fun x s1 ⟨r, a, b, t, u, v, H1, ex, hr, I1, ok, q⟩ => args_nil ?_) na) na))
  subst ex
  obtain ⟨b1, b2, b3, b4, b5⟩ := ok
  refine call_tuple_range (n := (b - a).toNat) (I1.ok.hd hc) hr (small_one b1 b2 b3 b4) (rangeSize_nat a b) b5 fun h' tk acc hk hi => ?_
  have I2 : Inv X pins σ H1 { s1 with heap := h', toks := tk } := I1.kept hk
  have ob : (h'.push { cls := .type "tuple", data := .seq acc }).get? h'.objs.size = some { cls := .type "tuple", data := .seq acc } := Heap.get?_push_size _ rfl
  refine ⟨.ref h'.objs.size, upd H1 h'.objs.size (.frz { cls := .type "tuple", data := .seq acc } (.tup (rgV a b))), I2.laid (t' := tk) (fun c o e => Heap.get?_push_of_some _ e) (Nat.le_refl _) (show ObjOk X.prog X.w _ _ _ (.frz _ (.tup (rgV a b))) from ⟨ob, ?_, acc.toList, vals_rg hi, ?_⟩), rfl, q _ _ (I2.hok.fresh (Nat.le_refl _)) rfl rfl⟩
  · rw [rgV_length, sizeLine_eq]; omega
  · rw [Array.toArray_toList]; exact IsTup.new _ _
section
variable {X : Cx} {e a : Expr} {p pos apos cpos : Pos} {Γ Γ1 Γ2 : List Slot}
theorem x_tupRangeD {n : Int} {p1 p2 : Pos} (hc : X.calm = true) (hm : X.mg "tuple" = none) (hm2 : X.mg "range" = none) (ha : EX X a Γ (pu tI n) Γ1) (hz : 0 ≤ n ∧ n ≤ 16777216) (hg : Gl X "tuple" := by rfl) (hg2 : Gl X "range" := by rfl)
    (na : starEach [a] X.env = (false, eval a X.env) :: starEach [] X.env := by rfl) (na2 : starEach [Expr.Call (.Name "range" p1) [a] [] p2] X.env = (false, eval (.Call (.Name "range" p1) [a] [] p2) X.env) :: starEach [] X.env := by rfl) :
    EX X (.Call (.Name "tuple" p) [.Call (.Name "range" p1) [a] [] p2] [] pos) Γ (pu (tTd X.K) (rangeI 0 n)) Γ1 := by
  intro T _ τ σ s hl E Q hQ
  refine re_of (pe_tupRgD hc hg hm (prg_1 hg2 hm2 peR na) na2) ?_
  refine ha T τ σ s hl E _ fun v s1 E1 l1 e1 => ?_
  have hv : v = .int n := pu_top E1
  obtain ⟨E2, e2⟩ := E1.pop
  refine ⟨n, hv, RgOk.of_le (by omega) (by omega) (by omega) (by omega), fun q o hq h1 h2 => ?_⟩
  have er : rgV 0 n = (rangeI 0 n).map V.int := by unfold rgV rangeI; rw [List.map_map]; rfl
  obtain ⟨E4, e4⟩ := E2.push1 (o := some (.ref q)) (ob := .frz o (.tup (rgV 0 n))) hq (pu (tTd X.K) (rangeI 0 n)) fun k1 k2 => ⟨rfl, _, rfl, q, o, rfl, by rw [k2, er], h1, h2⟩
  exact hQ _ _ E4 l1 ((e1.trans e2).trans e4)
end
/-- tuple(t), t such a tuple -/
theorem n_tupleD {K : PySem.W.Frag} {xs : List Int} : OpN (fun xs H Q => ∃ p ys, xs = [.ref p] ∧ ((SqL K H p ys ∧ ∀ l, H l = none → Q (.ref l) (upd H l (.tup ys))) ∨ (SqT K H p ys ∧ Q (.ref p) H))) [pu (tTd K) xs] (pu (tTd K) xs) :=
  opN_1 (op1_val fun B H v s h1 Q k => by
    obtain ⟨a, o, e, h2, h3, h4⟩ := h1
    exact ⟨a, _, by rw [e], .inr ⟨.inl (.inr ⟨o, s _ _ h2⟩), k _ ⟨a, o, rfl, h2, h3, h4⟩⟩⟩)
/-- tuple(xs), xs a list of ints: its object known -/
theorem call_tuple_ofD {X : Cx} : CallR X (.type "tuple") (fun xs H Q => ∃ p ys, xs = [.ref p] ∧ SqL X.K H p ys ∧ ∀ l o, H l = none → o.cls = .type "tuple" → o.dict = none → Q (.ref l) (upd H l (.frz o (.tup ys)))) := by
  intro pins s σ H xs us Q I r h
  obtain ⟨p, ys, rfl, hq, q⟩ := h
  obtain ⟨u, rfl, rx⟩ := vals1 r
  cases rx
  obtain ⟨its, r', pl, hz⟩ := I.list hq
  have hlen := r'.length
  refine call_tuple_list pl.isList (fun h' kp => ?_) (by simp only [List.size_toArray] <;> omega)
  have I1 : Inv X pins σ H { s with heap := h' } := I.kept (t' := s.toks) kp
  have ob : (h'.push { cls := .type "tuple", data := .seq its.toArray }).get? h'.objs.size = some { cls := .type "tuple", data := .seq its.toArray } := Heap.get?_push_size _ rfl
  have I2 : Inv X pins σ (upd H h'.objs.size (.frz { cls := .type "tuple", data := .seq its.toArray } (.tup ys))) { s with heap := h'.push { cls := .type "tuple", data := .seq its.toArray } } :=
    I1.laid (t' := s.toks) (fun b o e => Heap.get?_push_of_some _ e) (Nat.le_refl _) (show ObjOk X.prog X.w _ _ _ (.frz _ (.tup ys)) from ⟨ob, hz, its, r', IsTup.new _ _⟩)
  exact ⟨.ref h'.objs.size, _, I2, rfl, q _ _ (I1.hok.fresh (Nat.le_refl _)) rfl rfl⟩
theorem n_tupleLD {K : PySem.W.Frag} {S : Ty (List Int)} {xs : List Int} (q : SeqL K S tI) : OpN (fun xs H Q => ∃ p ys, xs = [.ref p] ∧ SqL K H p ys ∧ ∀ l o, H l = none → o.cls = .type "tuple" → o.dict = none → Q (.ref l) (upd H l (.frz o (.tup ys)))) [pu S xs] (pu (tTd K) xs) :=
  opN_1 (op1_new fun B H v s h1 Q k _ => by
    obtain ⟨a, vs, e, z, r⟩ := q.get h1
    rw [paired_int r] at z
    exact ⟨a, _, by rw [e], s.seq z, fun l o hl h2 h3 => k l _ hl fun B' s' hB => ⟨l, o, rfl, hB, h2, h3⟩⟩)
/-! ## a method of such a tuple -/
def tBT (r : V → List V → Hp → VK → Prop) (to : TE) (t : TA) : TE := fun σ H Q => to σ H fun x H1 => (∃ p o u, x = .ref p ∧ H1 p = some (.frz o u) ∧ o.cls = .type "tuple" ∧ o.dict = none) ∧ t σ H1 fun xs H2 => r x xs H2 Q
theorem pe_bt {X : Cx} {o e : Expr} {es : List Expr} {to : TE} {t : TA} {name : Str} {apos cpos : Pos} {id : String} {r : V → List V → Hp → VK → Prop} (slot : PySem.Slot "tuple" name id) (hty : typeOf (.builtin id) = pure (.type "method_descriptor")) (hm : MtR X id r) (ho : PE X o to) (ha : PA X (e :: es) t)
    (hbase : attributeBase o name X.env (eval o X.env) = eval o X.env := by rfl)
    (hfew : ((backTo cpos (starEach (e :: es) X.env)).all (fun x => !x.1) && (backToKw cpos (keywordEach [] X.env)).all (fun x => x.1.isSome)
      && decide ((e :: es).length + ([] : List Keyword).length + (if ([] : List Keyword).isEmpty then 0 else 1) < 30)) = true := by rfl)
    (hline : (apos.endLine == cpos.line) = true := by rfl) (hs : starEach (e :: es) X.env = (false, eval e X.env) :: starEach es X.env := by rfl) (hplain : (backTo cpos (starEach es X.env)).any (·.1) = false := by rfl) :
    PE X (.Call (.Attribute o name apos) (e :: es) [] cpos) (tBT r to t) := by
  refine ⟨fun pins s σ H Q I h => ?_⟩
  refine wpAny_Call_method_late hbase hfew hline rfl (thn (ho.run pins s σ H _ I h) fun v s1 ⟨x, H1, I1, r1, ⟨p, o, u, ex, h1, h2, h3⟩, q1⟩ => ?_)
  subst ex
  obtain rfl : v = Value.ref p := r1
  have hob : s1.heap.get? p = some o := (show ObjOk X.prog X.w _ _ _ (.frz o u) from I1.hok p _ h1).1
  refine ⟨"tuple", id, PySem.F.plainAttrs_tuple, slot, hty, ⟨o, hob, h2⟩, fun a ha => ?_, ?_⟩
  · cases ha
    exact ⟨o, hob, h3⟩
  have hA := ha.run cpos pins s1 σ H1 _ I1 q1
  rw [hs] at hA ⊢
  refine Calls.callWith_builtin (by show (false || (backTo cpos (starEach es X.env)).any (·.1)) = false; rw [hplain] <;> rfl) (Calls.evalArgs_plain ?_)
  exact thn hA fun us s2 ⟨vs, H2, I2, r2, q2⟩ => hm pins s2 σ H2 (.ref p) vs (.ref p) us Q I2 rfl r2 q2
theorem x_index {X : Cx} {o e : Expr} {apos cpos : Pos} {Γ Γ1 Γ2 : List Slot} {xs : List Int} {y : Int} (ho : EX X o Γ (pu (tTd X.K) xs) Γ1) (he : EX X e Γ1 (pu tI y) Γ2) (hy : y ∈ xs)
    (hbase : attributeBase o "index" X.env (eval o X.env) = eval o X.env := by rfl)
    (hfew : ((backTo cpos (starEach (e :: []) X.env)).all (fun x => !x.1) && (backToKw cpos (keywordEach [] X.env)).all (fun x => x.1.isSome)
      && decide ((e :: []).length + ([] : List Keyword).length + (if ([] : List Keyword).isEmpty then 0 else 1) < 30)) = true := by rfl)
    (hline : (apos.endLine == cpos.line) = true := by rfl) (hs : starEach (e :: []) X.env = (false, eval e X.env) :: starEach [] X.env := by rfl) (hplain : (backTo cpos (starEach [] X.env)).any (·.1) = false := by rfl) :
    EX X (.Call (.Attribute o "index" apos) [e] [] cpos) Γ (pu tI (idx xs y)) Γ2 := by
  intro T _ τ σ s hl E Q hQ
  refine re_of (pe_bt PySem.F.slot_tuple_index PySem.F.type_tuple_index mt_tup_indexI peR (pa_cons peR pa_nil hs) hbase hfew hline hs hplain) ?_
  refine ho T τ σ s hl E _ fun v1 s1 E1 l1 e1 => ?_
  obtain ⟨a, ob, ev, z, z2, z3⟩ := pu_top E1
  subst ev
  refine ⟨⟨a, ob, _, rfl, E1.sub _ _ z, z2, z3⟩, ?_⟩
  have E1' : EnvOk s1 (σ ++ (τ ++ [some (V.ref a)])) (Γ1 ++ (T ++ [pu (tTd X.K) xs])) := by simpa using E1
  refine he _ _ σ s1 (by omega) E1' _ fun v2 s2 E2 l2 e2 => ?_
  have E2' : EnvOk s2 (((σ ++ τ) ++ [some (V.ref a)]) ++ [some v2]) (((Γ2 ++ T) ++ [pu (tTd X.K) xs]) ++ [pu tI y]) := by simpa using E2
  obtain ⟨h1, h2⟩ := pu_top2 E2'
  obtain ⟨a', ob', ev, z', _⟩ := h1
  cases ev
  have hv : v2 = .int y := h2
  subst hv
  obtain ⟨E3, e3⟩ := E2'.pop
  obtain ⟨E4, e4⟩ := E3.pop
  obtain ⟨j, ej, g1, g2⟩ := idx_at hy
  refine ⟨a, xs, y, j, rfl, rfl, .inl (.inr ⟨ob', E2'.sub _ _ z'⟩), g1, g2, ?_⟩
  have q := hQ (.int (j : Nat)) _ (E4.push0 (pu tI (idx xs y)) ⟨rfl, _, rfl, by show V.int _ = V.int _; rw [ej]⟩) (by omega) (((e1.trans e2).trans e3).trans e4)
  exact q
end Fw

namespace FwE
open PySem
open PySem.AutoSeq1 (wpAny_loadPart')
theorem enum_newT (l : Addr) (items : Array Value) (n : Nat) (dct : Option Addr) (sl : Array (Option Value)) :
    Meets (Builtin.«enumerate.__new__» ⟨[.type "enumerate", .ref l], []⟩) (fun _ R s => s.heap.get? l = some { cls := .type "tuple", dict := dct, data := .seq items n, slots := sl } ∧
      R (.ok (.ret (.ref (s.heap.push { cls := .type "tuple_iterator", data := .fields #[.ref l, .int 0 0] }).objs.size)))
        { s with heap := (s.heap.push { cls := .type "tuple_iterator", data := .fields #[.ref l, .int 0 0] }).push { cls := .type "enumerate", data := .fields #[.none, .bool false, .ref s.heap.objs.size, rawInt 0, .none, .none] } }) :=
  .of_wp fun prog w A R s h => by
    obtain ⟨hp, g, d, tk, os⟩ := s
    obtain ⟨hl, h⟩ := h
    have hsub := sub_enumerate
    have hL : Heap.IsTuple (Shared.heap ⟨hp, g, d, tk, os⟩) l items := ⟨_, hl, rfl, n, rfl⟩
    wp_walk using wpAny_loadPart' hl
    refine wpAny_stack_any fun st => wpAny_pure ?_
    split
    · rename_i c _ _ _ _ _
      cases (c == Value.type "enumerate")
      · wp_walk using wpAny_loadPart' hl, wpAny_pyIter_tuple hL
        exact ⟨_, rfl, h⟩
      · wp_walk using wpAny_loadPart' hl, wpAny_pyIter_tuple hL
        exact ⟨_, rfl, h⟩
    · wp_walk using wpAny_loadPart' hl, wpAny_pyIter_tuple hL
      exact ⟨_, rfl, h⟩
end FwE
namespace FwE
open PySem PySem.Spec PyProof.Rows L2
section
variable {prog : Program} {w : World} {A : Around} {E : Value → Shared → Prop} {s : Shared}
theorem call_enumT {l : Addr} {items : Array Value} {Q : Value → Shared → Prop} (hL : s.heap.IsTuple l items)
    (h : ∀ h', IsEnum h' (s.heap.objs.size + 1) s.heap.objs.size 0 .none → h'.IsTupleIter s.heap.objs.size l 0 → h'.objs.size = s.heap.objs.size + 2 →
      (∀ b o, s.heap.get? b = some o → h'.get? b = some o) → Q (.ref (s.heap.objs.size + 1)) { s with heap := h' }) :
    wpAny (model prog w) A (call (.type "enumerate") [.ref l]) Q E s := by
  obtain ⟨⟨c, dct, dt, sl⟩, hl, hc, n, hd⟩ := hL
  replace hc : c = .type "tuple" := hc
  replace hd : dt = .seq items n := hd
  subst hc hd
  refine callType_new F.called_enumerate (by decide) (F.typeCall_enumerate_1 _) (F.newCall_enumerate_1 _) (fun obj => F.args_object_init_2 obj _) F.entry_enumerate_new
    (enum_newT l items n dct sl) ⟨hl, ?_⟩
  have hz : (s.heap.push { cls := .type "tuple_iterator", data := .fields #[.ref l, .int 0 0] }).objs.size = s.heap.objs.size + 1 := Heap.size_push ..
  show _ ∧ _
  rw [hz]
  have he : IsEnum ((s.heap.push { cls := .type "tuple_iterator", data := .fields #[.ref l, .int 0 0] }).push
      { cls := .type "enumerate", data := .fields #[.none, .bool false, .ref s.heap.objs.size, rawInt 0, .none, .none] }) (s.heap.objs.size + 1) s.heap.objs.size 0 .none := by
    have := Heap.get?_push_size (s.heap.push { cls := .type "tuple_iterator", data := .fields #[.ref l, .int 0 0] })
      (o := { cls := .type "enumerate", data := .fields #[.none, .bool false, .ref s.heap.objs.size, rawInt 0, .none, .none] }) rfl
    rw [hz] at this; exact this
  refine ⟨⟨_, he, rfl⟩, h _ he ⟨_, Heap.get?_push_of_some _ (Heap.get?_push_size _ rfl), rfl, rfl⟩ (by rw [Heap.size_push, hz]) fun b o x => Heap.get?_push_of_some _ (Heap.get?_push_of_some _ x)⟩
theorem enum_endT {e it l : Addr} {i : Nat} {items : Array Value} {old : Value} {k : Int} {Q : Option Value → Shared → Prop} (hh : A.handled = none)
    (he : IsEnum s.heap e it k old) (hit : s.heap.IsTupleIter it l i) (hl : s.heap.IsTuple l items) (hx : items[i]? = none)
    (hQ : ∀ h', Heap.ExtBut it s.heap h' → Q none { s with heap := h' }) : wpAny (model prog w) A (pyNext (.ref e)) Q E s := by
  have hT : s.TypeIs (.ref e) "enumerate" := ⟨_, he, rfl⟩
  unfold pyNext
  refine wpAny_bind (wpAny_attempt (wpAny_callSpecial?_slot (name := Str.ofString "__next__") hT F.slot_enumerate_next
    (wpAny_call_entry F.slot_enumerate_next hT F.entry_enumerate_next ?_ (F.args_enumerate_next_1 _))))
  show wpAny _ _ (field (.ref e) 2 >>= _) _ _ _
  refine wpAny_bind (wpAny_field he rfl (x := .ref it) rfl ?_)
  refine wpAny_bind (wpAny_nextOf_tuple_end hh hit hl hx fun h' x he' hx' => ?_)
  obtain ⟨o, ho, hc⟩ := hx'
  refine wpAny_bind (wpAny_isInstance (T := "StopIteration") (b := true) ⟨o, ho, hc⟩ isSubtype_stop ?_)
  exact wpAny_pure (hQ _ he')
end
end FwE
namespace Fw
open PySem PySem.Spec PyProof.Rows L2
variable [Tb]
variable {α β γ δ ε ρ κ θ : Type}
/-! ## enumerate of a list or a tuple -/
def IteT (K : PySem.W.Frag) (a : Addr) : It :=
  ⟨fun i H => ∃ (xs : List V) (x : V), SqT K H a xs ∧ xs[i]? = some x, fun i H v H' => ∃ T x, v = .ref T ∧ H T = none ∧ H' = upd H T (.tup [.int (i : Nat), x]) ∧ ∀ xs, SqT K H a xs → xs[i]? = some x, fun i H => ∃ xs : List V, SqT K H a xs ∧ xs.length ≤ i⟩
theorem walk_enumT {K : PySem.W.Frag} {a : Addr} {xs : List V} : Walk (IteT K a) xs.length (fun H => SqT K H a xs) (YPair (fun i => some (.int (i : Nat))) (fun i => xs[i]?)) := by
  refine ⟨fun i _ hi q => ⟨xs, xs[i], q, by simp [hi]⟩, fun _ q => ⟨xs, q, Nat.le_refl _⟩, fun i H v H' _ q y => ?_⟩
  obtain ⟨T, x, h1, h2, h3, h4⟩ := y
  exact ⟨T, .int (i : Nat), x, h1, h2, h3, rfl, h4 xs q⟩
theorem turn_enumT {P : Program} {w : World} {K : PySem.W.Frag} {elts : List Expr} {kk : Nat} {tpos : Pos} (a e it : Addr) (hai : a ≠ it) :
    Turn P w K (.Tuple elts kk tpos) (IteT K a) [e, it] e (fun i h => (∃ old, IsEnum h e it ((i : Nat) : Int) old) ∧ h.IsTupleIter it a i ∧ e ≠ it ∧ e ≠ a) where
  mem := by simp
  obj := fun i h st b hb => by
    obtain ⟨⟨old, he⟩, ⟨o, ho, hc, hd⟩, _⟩ := st
    have e' : b = e ∨ b = it := by simpa using hb
    rcases e' with z | z
    · rw [z]; exact ⟨_, he, fun v q => nomatch q⟩
    · rw [z]; exact ⟨o, ho, fun v q => by rw [hd] at q; cases q⟩
  keep := fun i h h' st k => let ⟨⟨old, he⟩, hi, hne⟩ := st; ⟨⟨old, k e (by simp) _ he⟩, hi.at fun o q => k it (by simp) o q, hne⟩
  item := by
    intro X hP hw hK hc i pins s σ H E I hf st hg
    subst hP hw hK
    obtain ⟨⟨old, he⟩, hit, hne, hea⟩ := st
    obtain ⟨xs, x, hq, hx⟩ := hg
    obtain ⟨its, rv, p, hz⟩ := I.tuple hq
    obtain ⟨u, hu, ru⟩ := rv.get hx
    have hel : e < s.heap.objs.size := Heap.lt_size he
    have hil : it < s.heap.objs.size := by obtain ⟨_, q, _⟩ := hit; exact Heap.lt_size q
    have hil2 : i < its.toArray.size := by simpa using (List.getElem?_eq_some_iff.mp hu).1
    refine wpAny_pyNext_enum_itemD (Draws.tuple (by show X.A.in1.handled = none; exact I.ok.hd hc) it a hai its.toArray) he ⟨hit, p⟩ hil2 hne (by simp [hne, hea]) fun y h' tk hy ho hst hT hsz hk => ?_
    have hyu : y = u := by
      have : its.toArray[i]? = some u := by simpa using hu
      exact Option.some.inj (hy.symm.trans this)
    subst hyu
    refine ⟨_, rfl, wpAny_letOwnedTupleGo_enum (s := { s with heap := h', toks := tk + 1 }) ho fun h'' he' sb => ?_⟩
    have hT2 : h''.get? s.heap.objs.size = some { cls := .type "tuple", data := .seq #[.int i tk, y] } := (sb.2 _ (Nat.ne_of_gt hel)).trans hT
    have new : ObjOk X.prog X.w (upd H s.heap.objs.size (.tup [.int (i : Nat), x])) h'' s.heap.objs.size (.tup [.int (i : Nat), x]) :=
      ⟨by show 2 ≤ sizeLine; decide, [.int i tk, y], .cons ⟨_, rfl⟩ (.cons ru .nil), ⟨_, hT2, rfl, _, rfl⟩⟩
    have I1 : Inv X pins σ (upd H s.heap.objs.size (.tup [.int (i : Nat), x])) { s with heap := h'', toks := tk + 1 } :=
      I.turnedNew (ch := [e, it]) (fun b ob hb q => (sb.2 b (fun z => hb (by simp [z]))).trans (hk b ob (fun z => hb (by simp [z])) (fun z => hb (by simp [z])) q)) hf (Nat.le_refl _) new
    refine ⟨.ref s.heap.objs.size, _, I1, rfl, ⟨_, x, rfl, I.hok.fresh (Nat.le_refl _), rfl, fun ys hy => by rw [I.tuple_inj hy hq]; exact hx⟩, ⟨⟨y, ?_⟩, hst.1.at fun o q => (sb.2 it (Ne.symm hne)).trans q, hne, hea⟩, fun b hb => ?_⟩
    · have e1 : ((i + 1 : Nat) : Int) = (i : Int) + 1 := by omega
      rw [e1]; exact he'
    · have hb' : b < s.heap.objs.size := by
        have e' : b = e ∨ b = it := by simpa using hb
        rcases e' with z | z
        · rw [z]; exact hel
        · rw [z]; exact hil
      rw [upd_ne (Nat.ne_of_lt hb')]
      exact (hf b hb).1
  done := by
    intro X hP hw hK hc i pins s σ H E I hf st hg
    subst hP hw hK
    obtain ⟨⟨old, he⟩, hit, hne, hea⟩ := st
    obtain ⟨xs, hq, hx⟩ := hg
    obtain ⟨its, rv, p, hz⟩ := I.tuple hq
    obtain ⟨f0, f1, f2, f3, f4, f5⟩ := hf it (by simp)
    have hl := rv.length
    exact FwE.enum_endT (I.ok.hd hc) he hit p (by simp; omega) fun h' eb => ⟨rfl, I.turned (t' := s.toks) (fun b o hb q => eb b o hb q) f0 f1 f3 f4 f5⟩
  self := fun A i s Q E st h => let ⟨⟨_, he⟩, _⟩ := st; wpAny_pyIter_enum he h
/-- enumerate(xs), xs a list or a tuple -/
def iEnumA (K : PySem.W.Frag) (ta : TA) : TI := fun σ H R => ta σ H fun vs H1 => ∃ a, vs = [.ref a] ∧ ((∃ xs, SqL K H1 a xs ∧ R (Ite K a) H1) ∨ (∃ xs, SqT K H1 a xs ∧ R (IteT K a) H1))
theorem pi_enumA {X : Cx} {e : Expr} {ta : TA} {p pos tpos : Pos} {elts : List Expr} {kk : Nat} (hg : Gl X "enumerate") (hm : X.mg "enumerate" = none) (ha : PA X [e] ta) (hs : starEach [e] X.env = [(false, eval e X.env)] := by rfl) :
    PI X (.Tuple elts kk tpos) (.Call (.Name "enumerate" p) [e] [] pos) (iEnumA X.K ta) := by
  refine ⟨fun pins s σ H R I h => ?_⟩
  refine Call_ (ld_blt I hg hm boot_enumerate (PyProof.Rows.callWith_type1 (thn (ha.run pos pins s σ H _ I h) fun us s1 ⟨vs, H1, I1, r1, q1⟩ => ?_) hs rfl))
  obtain ⟨a, ex, q⟩ := q1
  subst ex
  cases r1 with
  | cons r rr =>
    cases rr
    cases r
    have fp : ∀ {h' : Heap}, ∀ b ∈ [s1.heap.objs.size + 1, s1.heap.objs.size], FpOk X pins H1 b := fun {h'} b hb => by
      have e' : b = s1.heap.objs.size + 1 ∨ b = s1.heap.objs.size := by simpa using hb
      have hle : s1.heap.objs.size ≤ b := by
        rcases e' with z | z
        · rw [z]; exact Nat.le_add_right _ _
        · rw [z]; exact Nat.le_refl _
      exact I1.fpOk hle (I1.hok.fresh hle)
    rcases q with ⟨xs, hq, q⟩ | ⟨xs, hq, q⟩
    · obtain ⟨its, rv, p', hz⟩ := I1.list hq
      refine call_enumerate_list p'.isList fun h' he hit hsz hk => wpAny_pyIter_enum he ?_
      have I2 : Inv X pins σ H1 { s1 with heap := h' } := I1.kept (t' := s1.toks) hk
      exact ⟨s1.heap.objs.size + 1, [s1.heap.objs.size + 1, s1.heap.objs.size], _, _, H1, rfl, I2, turn_enum a (s1.heap.objs.size + 1) s1.heap.objs.size, ⟨⟨.none, he⟩, hit, Nat.succ_ne_self _⟩, fp (h' := h'), q⟩
    · obtain ⟨its, rv, p', hz⟩ := I1.tuple hq
      have hlt : a < s1.heap.objs.size := p'.lt
      refine FwE.call_enumT p' fun h' he hit hsz hk => wpAny_pyIter_enum he ?_
      have I2 : Inv X pins σ H1 { s1 with heap := h' } := I1.kept (t' := s1.toks) hk
      exact ⟨s1.heap.objs.size + 1, [s1.heap.objs.size + 1, s1.heap.objs.size], _, _, H1, rfl, I2, turn_enumT a (s1.heap.objs.size + 1) s1.heap.objs.size (Nat.ne_of_lt hlt), ⟨⟨.none, he⟩, hit, Nat.succ_ne_self _, Nat.ne_of_gt (Nat.lt_succ_of_lt hlt)⟩, fp (h' := h'), q⟩
theorem w_enum {X : Cx} {e : Expr} {elts : List Expr} {kk : Nat} {tpos p pos : Pos} {Γ Γ1 : List Slot} {R : Ty α} {S : Ty (List α)} {xs : List α} (hm : X.mg "enumerate" = none) (q : SeqA X.K S R) (he : EX X e Γ (pu S xs) Γ1) (hg : Gl X "enumerate" := by rfl) (hs : starEach [e] X.env = [(false, eval e X.env)] := by rfl) :
    IW X (.Tuple elts kk tpos) (.Call (.Name "enumerate" p) [e] [] pos) (iEnumA X.K (RA X [e])) Γ (tP2 X.K tI R) (enumI xs) Γ1 := by
  have ha : EA X [e] Γ [pu S xs] Γ1 := ea_cons he ea_nil (by rw [hs]; rfl)
  refine ⟨pi_enumA hg hm paR hs, fun T _ τ σ s hl E Rr h => ?_⟩
  refine ra_of (pa_cons peR pa_nil (by rw [hs]; rfl)) ?_
  refine he.sz hl E fun v s1 E1 l1 e1 z => ?_
  obtain ⟨a, vs, ev, w, r⟩ := q.get (pu_top E1)
  have hz := seq_size q (pu_top E1) E1.sub z
  subst ev
  have hlen : vs.length = xs.length := paired_len r
  have hle : (enumI xs).length = xs.length := by simp [enumI]
  obtain ⟨E2, e2⟩ := E1.pop
  rcases w with w | w
  · have E3 := E2.push0 (o := some (.ref a)) (pl X.K R a vs xs) ⟨rfl, rfl, w, r⟩
    have q1 := h (Ite X.K a) _ _ [some (.ref a)] [pl X.K R a vs xs] _ (by rw [hle, ← hlen]; exact walk_enum) E3 l1 rfl (e1.trans e2) (by rw [hle]; exact hz) (fun σ2 Γ2 ρ Ps s2 h2 E2 => ?_) (fun i x H' σ2 Γ2 ρ Ps s2 hi y h2 E2 => ?_)
    · exact ⟨a, rfl, .inl ⟨vs, Same.seq E1.sub w, q1⟩⟩
    · obtain ⟨_, _, w', _⟩ := mid_top E2 h2
      exact Same.seq E2.sub w'
    · obtain ⟨p', x', y', rfl, hp', rfl, hx', hy'⟩ := y
      cases hx'
      obtain ⟨_, _, w', r'⟩ := mid_top E2 h2
      obtain ⟨y, hy, ry⟩ := paired_getV r' hy'
      obtain ⟨s3, h3, E4, e4⟩ := pair_push (K := X.K) (R1 := tI) (R2 := R) (x := (i : Int)) E2 rfl ry hp'
      exact ⟨_, s3, enumI_get hy, h3, E4, e4⟩
  · have E3 := E2.push0 (o := some (.ref a)) (pt X.K R a vs xs) ⟨rfl, rfl, w, r⟩
    have q1 := h (IteT X.K a) _ _ [some (.ref a)] [pt X.K R a vs xs] _ (by rw [hle, ← hlen]; exact walk_enumT) E3 l1 rfl (e1.trans e2) (by rw [hle]; exact hz) (fun σ2 Γ2 ρ Ps s2 h2 E2 => ?_) (fun i x H' σ2 Γ2 ρ Ps s2 hi y h2 E2 => ?_)
    · exact ⟨a, rfl, .inr ⟨vs, same_sqt E1.sub w, q1⟩⟩
    · obtain ⟨_, _, w', _⟩ := mid_top E2 h2
      exact same_sqt E2.sub w'
    · obtain ⟨p', x', y', rfl, hp', rfl, hx', hy'⟩ := y
      cases hx'
      obtain ⟨_, _, w', r'⟩ := mid_top E2 h2
      obtain ⟨y, hy, ry⟩ := paired_getV r' hy'
      obtain ⟨s3, h3, E4, e4⟩ := pair_push (K := X.K) (R1 := tI) (R2 := R) (x := (i : Int)) E2 rfl ry hp'
      exact ⟨_, s3, enumI_get hy, h3, E4, e4⟩
end Fw

namespace Fw
open PySem PySem.Spec PyProof.Rows L2
variable [Tb]
variable {α β γ δ ε ρ κ θ : Type}
/-! ## tuples of ints that are keys: new in the heap -/
def tTn : Ty (List Int) := ⟨fun B v xs => ∃ a : Addr, v = .ref a ∧ B a = some (.tup (xs.map V.int)), fun s h => let ⟨a, e, h1⟩ := h; ⟨a, e, s _ _ h1⟩⟩
theorem tn_T {K : PySem.W.Frag} {B : Hp} {v : V} {xs : List Int} (h : tTn.rep B v xs) : (tT K tI).rep B v xs := by
  obtain ⟨a, e, h1⟩ := h
  exact ⟨a, _, e, .inl (.inl h1), paired_of_int xs⟩
theorem nl_Tn : NL tTn := fun B v xs ⟨a, e, h1⟩ => ⟨a, e, strip_of h1 (fun _ e => by cases e)⟩
theorem x_tn {X : Cx} {e : Expr} {Γ Γ1 : List Slot} {xs : List Int} (h : EX X e Γ (pu tTn xs) Γ1) : EX X e Γ (pu (tT X.K tI) xs) Γ1 := x_sub h fun _ _ z => tn_T z
theorem n_tupleLN {K : PySem.W.Frag} {S : Ty (List Int)} {xs : List Int} (q : SeqL K S tI) : OpN (fun xs H Q => ∃ p ys, xs = [.ref p] ∧ ((SqL K H p ys ∧ ∀ l, H l = none → Q (.ref l) (upd H l (.tup ys))) ∨ (SqT K H p ys ∧ Q (.ref p) H))) [pu S xs] (pu tTn xs) :=
  opN_1 (op1_new fun B H v s h1 Q k _ => by
    obtain ⟨a, vs, e, z, r⟩ := q.get h1
    rw [paired_int r] at z
    exact ⟨a, _, by rw [e], .inl ⟨s.seq z, fun l hl => k l _ hl fun B' s' hB => ⟨l, rfl, hB⟩⟩⟩)
/-! ## dicts with such keys and pure values, owned -/
def keyOf (xs : List Int) : List L2.Key := xs.map Sum.inl
theorem keyOf_kV (xs : List Int) : (keyOf xs).map kV = xs.map V.int := by unfold keyOf; rw [List.map_map]; rfl
theorem keyOf_inj {xs ys : List Int} (h : keyOf xs = keyOf ys) : xs = ys := List.map_inj_right (fun _ _ e => Sum.inl.inj e) |>.mp h
def dt (R : Ty α) (kvs : List (List Int × α)) : Slot := ⟨fun B F o => ∃ p us, o = some (.ref p) ∧ F = one p (.dT us) ∧ Paired (fun (u : List L2.Key × V) (x : List Int × α) => u.1 = keyOf x.1 ∧ R.rep B u.2 x.2) us kvs,
  fun s h => let ⟨p, us, e, f, r⟩ := h; ⟨p, us, e, f, paired_mono' (fun _ _ z => ⟨z.1, R.mono s z.2⟩) r⟩⟩
where paired_mono' {α β : Type} {F G : α → β → Prop} (h : ∀ x y, F x y → G x y) : ∀ {l : List α} {m : List β}, Paired F l m → Paired G l m
  | _, _, .nil => .nil
  | _, _, .cons a r => .cons (h _ _ a) (dt.paired_mono' h r)
def dget (kvs : List (List Int × α)) (k : List Int) : Option α := (kvs.find? fun kv => decide (kv.1 = k)).map (·.2)
theorem dget_neg {x : List Int × α} {r : List (List Int × α)} {k : List Int} (e : ¬ x.1 = k) : dget (x :: r) k = dget r k := by simp [dget, List.find?_cons, e]
/-- what setdefault leaves -/
def dset (kvs : List (List Int × α)) (k : List Int) (y : α) : List (List Int × α) := if (dget kvs k).isSome then kvs else kvs ++ [(k, y)]
theorem x_dict0 {X : Cx} {R : Ty α} {pos : Pos} {Γ : List Slot} : EX X (.Dict [] [] pos) Γ (dt R ([] : List (List Int × α))) Γ := by
  intro T _ τ σ s hl E Q hQ
  refine re_of pe_dnewT fun p hp => ?_
  obtain ⟨E4, e4⟩ := E.pushO (o := some (.ref p)) (ob := .dT []) hp (dt R ([] : List (List Int × α))) ⟨p, [], rfl, rfl, .nil⟩
  exact hQ _ _ E4 rfl e4
theorem dget_rel {B : Hp} {R : Ty α} {k : List Int} : ∀ {us : List (List L2.Key × V)} {kvs : List (List Int × α)}, Paired (fun (u : List L2.Key × V) (x : List Int × α) => u.1 = keyOf x.1 ∧ R.rep B u.2 x.2) us kvs →
    (valV us (keyOf k) = none ∧ dget kvs k = none) ∨ ∃ v y, valV us (keyOf k) = some v ∧ dget kvs k = some y ∧ R.rep B v y
  | _, _, .nil => .inl ⟨rfl, rfl⟩
  | _, _, .cons (a := u) (b := x) h t => by
    by_cases e : x.1 = k
    · refine .inr ⟨u.2, x.2, ?_, ?_, h.2⟩
      · exact valV_pos (by rw [h.1, e])
      · simp [dget, List.find?_cons, e]
    · have e' : ¬ u.1 = keyOf k := fun z => e (keyOf_inj (h.1.symm.trans z))
      rw [valV_neg e', dget_neg e]
      exact dget_rel t
theorem putK_none {us : List (List L2.Key × V)} {k : List L2.Key} {v : V} (h : valV us k = none) : putK us k v = us ++ [(k, v)] := by
  unfold putK
  rw [valV_any, h]
  rfl
section
variable {X : Cx} {pins : List (Addr × Obj)} {σ : L2.St} {H : Hp} {s : Shared} {a b : Addr} {r : Value} {d : V} {A : Around} {E : Value → Shared → Prop}
theorem d_setdT {kvs : List (List L2.Key × V)} {k : List L2.Key} {Q : Value → Shared → Prop} (hu : A.units + 1 < cLine) (I : L2.Inv X pins σ H s) (e : H a = some (.dT kvs)) (eb : H b = some (.tup (k.map kV))) (rd : RelV d r) (hl : kvs.length < sizeLine)
    (h1 : ∀ v, valV kvs k = some v → ∀ (w' : Value) (s' : Shared), L2.Inv X pins σ H s' → RelV v w' → Q w' s') (h2 : valV kvs k = none → ∀ (w' : Value) (s' : Shared), L2.Inv X pins σ (upd H a (.dT (putK kvs k d))) s' → RelV d w' → Q w' s') :
    wpAny (model X.prog X.w) A (call (.builtin "dict.setdefault") [.ref a, .ref b, r]) Q E s := by
  obtain ⟨z, hd, xs, rel, dd⟩ := dt_of I.hok e
  have hz : xs.length ≤ sizeLine := by rw [← Paired.length rel]; exact z
  have hv := rel.val k
  refine call_setdefault_heap (hsz := hz) (tupleKind_room_in1 hu) (key_of I.hok eb) hd dd (fun p hp => ?_) fun hn h' dd' hs => ?_
  · rw [hp] at hv
    cases q0 : valV kvs k with
    | none => rw [q0] at hv; exact (show False from hv).elim
    | some v0 => rw [q0] at hv; exact h1 v0 q0 _ _ (I.tok _) hv
  · rw [hn] at hv
    cases q0 : valV kvs k with
    | some v0 => rw [q0] at hv; exact (show False from hv).elim
    | none =>
      have hl2 : (putK kvs k d).length ≤ sizeLine := by have := length_putK kvs k d; omega
      obtain ⟨q, es, ep, hq, g2, g3, g4, _, g5⟩ := dd'
      refine h2 q0 _ _ (d_write I (by rw [e]; exact True.intro) hs ⟨q, hq⟩ ⟨hl2, hd, _, (rel.put k eb rd).keeps fun c ys ec => ?_, q, es, ep, hq, g2, g3, g4, g5⟩) rd
      rw [upd_ne (ne_of ec e (fun z => nomatch z))]
      exact ec
end
def tDSetdT (td ty tx : TE) : TE := fun σ H Q => td σ H fun x H1 => ∃ a, x = .ref a ∧ IsD H1 a ∧ ty σ H1 fun y H2 => tx σ H2 fun z H3 => ∃ (kvs : List (List L2.Key × V)) (k : List L2.Key) (b : Addr), H3 a = some (.dT kvs) ∧ y = .ref b ∧ H3 b = some (.tup (k.map kV)) ∧ kvs.length < sizeLine ∧
  (∀ v, valV kvs k = some v → Q v H3) ∧ (valV kvs k = none → Q z (upd H3 a (.dT (putK kvs k z))))
theorem pe_dsetdT {X : Cx} {o e f : Expr} {td ty tx : TE} {apos cpos : Pos} (hu : X.A.units + 1 < cLine) (ho : PE X o td) (he : PE X e ty) (hf : PE X f tx) (m : M2 X o "setdefault" apos e f cpos) : PE X (.Call (.Attribute o "setdefault" apos) [e, f] [] cpos) (tDSetdT td ty tx) := by
  refine ⟨fun pins s σ H Q I h => ?_⟩
  refine wpAny_Call_method m.base m.few m.line PySem.F.plainAttrs_dict PySem.F.slot_dict_setdefault PySem.F.type_dict_setdefault (thn (ho.run pins s σ H _ I h) fun u s1 ⟨x, H1, I1, rx, a, ex, d, q1⟩ => ?_)
  subst ex
  obtain rfl : u = Value.ref a := rx
  obtain ⟨t1, t2, _⟩ := isD_at I1 d
  refine ⟨t1, t2, ?_⟩
  rw [m.trees]
  refine Calls.callWith_builtin rfl (Calls.evalArgs_plain (Calls.spliced_cons (thn (he.run pins s1 σ H1 _ I1 q1) fun iv s2 ⟨y, H2, I2, ry, q2⟩ =>
    Calls.spliced_cons (thn (hf.run pins s2 σ H2 _ I2 q2) fun fv s3 ⟨z, H3, I3, rz, kvs, k, b, ea, ey, eb, hl, q3, q4⟩ => Calls.spliced_nil ?_))))
  subst ey
  obtain rfl : iv = Value.ref b := ry
  exact d_setdT hu I3 ea eb rz hl (fun v hv w' s4 I4 rw' => ⟨v, _, I4, rw', q3 v hv⟩) fun hn w' s4 I4 rw' => ⟨z, _, I4, rw', q4 hn⟩
/-- d.setdefault(k, y), d an owned dict in the slot i -/
theorem x_setd {X : Cx} {e f : Expr} {x : Str} {px apos cpos : Pos} {Γ : List Slot} {R : Ty α} {kvs : List (List Int × α)} {k : List Int} {y : α} {i : Nat} (hu : X.A.units + 1 < cLine) (hi : Γ[i]? = some (dt R kvs)) (he : EX X e Γ (pu tTn k) Γ) (hf : EX X f Γ (pu R y) Γ) (hz : kvs.length < sizeLine)
    (hN : X.N[i]? = some x := by rfl) (hv : Vis X.env.scope x := by first | exact Or.inl rfl | exact Or.inr (Or.inl rfl) | exact Or.inr (Or.inr rfl)) (hd : (x == ("__debug__" : Str)) = false := by decide) (hcd : (x == ("__classdict__" : Str)) = false := by decide)
    (m : M2 X (.Name x px) "setdefault" apos e f cpos := by exact ⟨rfl, rfl, rfl, rfl⟩) : EX X (.Call (.Attribute (.Name x px) "setdefault" apos) [e, f] [] cpos) Γ (pu R ((dget kvs k).getD y)) (Γ.set i (dt R (dset kvs k y))) := by
  intro T _ τ σ s hl E Q hQ
  refine re_of (pe_dsetdT hu (pe_var hN hv hd hcd) peR peR m) ?_
  have hlt := (List.getElem?_eq_some_iff.mp hi).1
  have hi2 : (Γ ++ T)[i]? = some (dt R kvs) := by rw [List.getElem?_append_left hlt]; exact hi
  obtain ⟨p, us, e0, f0, r0⟩ := E.sl i _ hi2
  rw [List.getElem?_append_left (by omega)] at e0
  have hσ : σ[i]? = some (some (.ref p)) := by
    rw [List.getElem?_eq_getElem (by omega)] at e0 ⊢
    exact congrArg some e0
  have hp : s.H p = some (.dT us) := E.subF i p _ (by rw [f0]; exact one_self)
  refine ⟨.ref p, hσ, p, rfl, .inr ⟨us, .inl hp⟩, ?_⟩
  refine he T τ σ s hl E _ fun v1 s1 E1 l1 e1 => ?_
  have E1' : EnvOk s1 (σ ++ (τ ++ [some v1])) (Γ ++ (T ++ [pu tTn k])) := by simpa using E1
  refine hf _ _ σ s1 hl E1' _ fun v2 s2 E2 l2 e2 => ?_
  have E2' : EnvOk s2 (((σ ++ τ) ++ [some v1]) ++ [some v2]) (((Γ ++ T) ++ [pu tTn k]) ++ [pu R y]) := by simpa using E2
  obtain ⟨h1, h2⟩ := pu_top2 E2'
  obtain ⟨b, eb, hb⟩ := h1
  subst eb
  obtain ⟨E3, e3⟩ := E2'.pop
  obtain ⟨E4, e4⟩ := E3.pop
  obtain ⟨p', us', e0', f', r'⟩ := E4.sl i _ hi2
  rw [List.getElem?_append_left (by omega), hσ] at e0'
  cases e0'
  have hp' : s2.H p = some (.dT us') := E4.subF i p _ (by rw [f']; exact one_self)
  refine ⟨us', keyOf k, b, hp', rfl, by rw [keyOf_kV]; exact E2'.sub _ _ hb, by rw [Paired.length r']; exact hz, fun v hv' => ?_, fun hn => ?_⟩
  · rcases dget_rel (k := k) r' with ⟨g1, _⟩ | ⟨v', y', g1, g2, g3⟩
    · rw [g1] at hv'; cases hv'
    · rw [g1] at hv'
      cases hv'
      have ed : dset kvs k y = kvs := by unfold dset; rw [g2]; rfl
      have eg : (dget kvs k).getD y = y' := by rw [g2]; rfl
      rw [ed, eg] at hQ
      have hs : Γ.set i (dt R kvs) = Γ := by
        obtain ⟨h7, h8⟩ := List.getElem?_eq_some_iff.mp hi
        rw [← h8]; exact List.set_getElem_self h7
      rw [hs] at hQ
      have q := hQ v _ (E4.push0 (pu R y') ⟨rfl, v, rfl, g3⟩) rfl ((((e1.trans e2).trans e3).trans e4))
      exact q
  · rcases dget_rel (k := k) r' with ⟨g1, g2⟩ | ⟨v', y', g1, _⟩
    · have ed : dset kvs k y = kvs ++ [(k, y)] := by unfold dset; rw [g2]; rfl
      have eg : (dget kvs k).getD y = y := by rw [g2]; rfl
      rw [ed, eg] at hQ
      rw [putK_none hn]
      have hσ2 : (σ ++ τ)[i]?.join = some (.ref p) := by rw [List.getElem?_append_left (by omega), hσ]; rfl
      obtain ⟨E5, e5⟩ := E4.write (S' := dt R (kvs ++ [(k, y)])) (i := i) (ob := .dT us') (ob' := .dT (us' ++ [(keyOf k, v2)])) (by simp; omega) f' (by
        rw [hσ2]
        exact ⟨p, _, rfl, rfl, paired_app2 r' (.cons ⟨rfl, h2⟩ .nil)⟩)
      rw [set_app hlt] at E5
      have q := hQ v2 _ (E5.push0 (pu R y) ⟨rfl, v2, rfl, h2⟩) (by simp) (((((e1.trans e2).trans e3).trans e4).trans e5))
      exact q
    · rw [g1] at hn; cases hn
where paired_app2 {α β : Type} {F : α → β → Prop} : ∀ {vs us : List α} {xs ys : List β}, Paired F vs xs → Paired F us ys → Paired F (vs ++ us) (xs ++ ys)
  | _, _, _, _, .nil, s => s
  | _, _, _, _, .cons r t, s => .cons r (x_setd.paired_app2 t s)
end Fw

namespace Fw
open PySem L2
variable [Tb]
variable {α β γ δ ε ρ κ θ : Type}
/-! ## tables -/
structure Tab where
  c : List Int
  r : List (List Int)
deriving DecidableEq, Inhabited
def flTab (K : PySem.W.Frag) (d : Tab) : List (Str × Fld) := [("columns", fld (tTd K) d.c), ("rows", fld (tT K (tT K tI)) d.r)]
section
variable {X : Cx} {c : Expr} {sts t : List Stmt} {pos : Pos} {Γ Γ1 : List Slot}
/-- an if that is always taken and leaves -/
theorem f_yes {P : θ → Res → Prop} {A : θ} (hc : ET X c Γ true Γ1) (h1 : SX X t Γ1 (fun r => P A r ∧ ¬ isNx r)) : SX X (.If c t [] pos :: sts) Γ (P A) := sx_ifr hc (fun _ => h1) fun z => by cases z
end
end Fw

namespace Fw
open PySem L2
variable [Tb]
variable {α β γ δ ε ρ κ θ : Type}
/-! ## sorted of a list of pairs -/
def rSortD (K : PySem.W.Frag) (d : α → PyData) : List V → Hp → VK → Prop := fun vs H Q => ∃ (a : Addr) (us : List V) (xs : List α) (Rv : V → α → Prop), vs = [.ref a] ∧ SqL K H a us ∧ Paired Rv us xs ∧ (∀ v x, Rv v x → Dp K H v (d x)) ∧
  ∀ (p : Addr) (ws : List V), H p = none → Paired Rv ws (xs.mergeSort (PySem.W.dataLe false d)) → Q (.ref p) (upd H p (.lst ws))
theorem zip_of {Rv : V → α → Prop} {h : Heap} {d : α → PyData} (hR : ∀ v u x, Rv v x → RelV v u → ∃ as, PySem.Reads h u (d x) as) : ∀ {us : List V} {xs : List α} {its : List Value}, Paired Rv us xs → Vals us its →
    ∃ bs : List (α × V), bs.map (·.1) = xs ∧ (∀ b ∈ bs, Rv b.2 b.1) ∧ PySem.W.EachIs (fun v b => RelV b.2 v) its bs ∧ PySem.W.EachIs (fun v b => ∃ as, PySem.Reads h v (d b.1) as) its bs
  | _, _, _, .nil, .nil => ⟨[], rfl, fun _ h => (nomatch h), .nil, .nil⟩
  | _, _, _, .cons (a := u) (b := x) r t, .cons z zs => by
    obtain ⟨bs, h1, h2, h3, h4⟩ := zip_of hR t zs
    refine ⟨(x, u) :: bs, by rw [List.map_cons, h1], fun b hb => ?_, .cons z h3, .cons (hR _ _ _ r z) h4⟩
    rcases List.mem_cons.mp hb with rfl | hb
    · exact r
    · exact h2 b hb
theorem vals_each : ∀ {out : List Value} {bs : List (α × V)}, PySem.W.EachIs (fun v b => RelV b.2 v) out bs → Vals (bs.map (·.2)) out
  | _, _, .nil => .nil
  | _, _, .cons h t => .cons h (vals_each t)
theorem paired_self {Rv : V → α → Prop} : ∀ {bs : List (α × V)}, (∀ b ∈ bs, Rv b.2 b.1) → Paired Rv (bs.map (·.2)) (bs.map (·.1))
  | [], _ => .nil
  | b :: bs, h => .cons (h b List.mem_cons_self) (paired_self fun c hc => h c (List.mem_cons_of_mem _ hc))
theorem cr_sortedD {X : Cx} {d : α → PyData} {n : Nat} (hu : X.A.units + 200 < cLine) (hn : n ≤ 64) (hd : ∀ a, (d a).depth ≤ n) (ht : ∀ a, ∃ x r, d a = .tuple (x :: r)) (ha : ∀ a b, PySem.W.alike (d a) (d b) = true) : CallR X (.builtin "sorted") (rSortD X.K d) := by
  intro pins s σ H vs us Q I r h
  obtain ⟨a, ws, xs, Rv, rfl, hs, hp, hR, q⟩ := h
  obtain ⟨its, rv, hl, hz⟩ := I.list hs
  obtain ⟨u, rfl, ru⟩ := vals1 r
  obtain rfl : u = Value.ref a := ru
  obtain ⟨bs, e1, e2, e3, e4⟩ := zip_of (h := s.heap) (d := d) (fun v u x h1 h2 => Dp.reads I (d x) v u (hR v x h1) h2) hp rv
  have hlen : bs.length ≤ sizeLine := by
    have := congrArg List.length e1
    rw [List.length_map] at this
    rw [this, ← paired_len hp]; exact hz
  refine PySem.W.sorted_data (enc := fun b : α × V => d b.1) hl.isList e3 e4 (PySem.W.AllAlike.of fun b b' => ha b.1 b'.1) (PySem.W.Sortable.tuples fun b => ht b.1) hlen (fun b _ => by have := hd b.1; omega) fun out hlo ho => ?_
  have hperm : (bs.mergeSort (PySem.W.dataLe false fun b : α × V => d b.1)).Perm bs := List.mergeSort_perm _ _
  have e5 : (bs.mergeSort (PySem.W.dataLe false fun b : α × V => d b.1)).map (·.1) = xs.mergeSort (PySem.W.dataLe false d) := by
    rw [← e1]
    exact List.map_mergeSort fun _ _ _ _ => rfl
  have k1 := vals_each ho
  have k2 : Paired Rv ((bs.mergeSort (PySem.W.dataLe false fun b : α × V => d b.1)).map (·.2)) (xs.mergeSort (PySem.W.dataLe false d)) := by
    rw [← e5]
    exact paired_self fun b hb => e2 b (hperm.mem_iff.mp hb)
  obtain ⟨m, hm⟩ := PyProof.Rows.sortedAll_at s.heap its out.toArray
  refine ⟨.ref (s.heap.objs.size + 1), upd H (s.heap.objs.size + 1) (.lst _), I.laid (t' := s.toks) (fun b o e => PyProof.Rows.sortedAll_old e) (Nat.le_succ _) ⟨?_, out, m, k1, hm⟩, rfl, q _ _ (I.hok.fresh (Nat.le_succ _)) k2⟩
  rw [List.length_map, hperm.length_eq]
  exact hlen
theorem n_sortD {K : PySem.W.Frag} {R : Ty α} {S : Ty (List α)} [DecidableEq α] {n : Nat} {xs : List α} (D : Dat K R n) (sq : SeqL K S R) : OpN (rSortD K D.d) [pu S xs] (ol R (xs.mergeSort (PySem.W.dataLe false D.d))) := by
  intro σ Γ _ s vs lv E Q hQ
  match vs, lv with
  | [v], _ =>
    obtain ⟨a, us, ev, hsq, hp⟩ := sq.get (pu_top E)
    obtain ⟨E2, e2⟩ := E.pop
    refine ⟨a, us, xs, R.rep s.B, by rw [ev], E.sub.seq hsq, hp, fun v x h => dp_same E.sub _ _ (D.rp h), fun p ws hp2 hpw => ?_⟩
    obtain ⟨E4, e4⟩ := E2.pushO (o := some (.ref p)) (ob := .lst ws) hp2 (ol R (xs.mergeSort (PySem.W.dataLe false D.d))) ⟨p, ws, rfl, rfl, hpw⟩
    exact hQ _ _ E4 (e2.trans e4)
/-- pairs of a tuple of ints and an int; two tuples of ints -/
def encTI (p : List Int × Int) : PyData := .tuple [FwE.rowData p.1, .int p.2]
def encTT (p : List Int × List Int) : PyData := .tuple [FwE.rowData p.1, FwE.rowData p.2]
def sortTI (xs : List (List Int × Int)) : List (List Int × Int) := xs.mergeSort (PySem.W.dataLe false encTI)
def sortTT (xs : List (List Int × List Int)) : List (List Int × List Int) := xs.mergeSort (PySem.W.dataLe false encTT)
theorem encTI_alike (a b : List Int × Int) : PySem.W.alike (encTI a) (encTI b) = true := by simp [encTI, FwE.rowData, PySem.W.alike, PySem.W.alikeAll, PySem.W.alike_ints]
theorem encTT_alike (a b : List Int × List Int) : PySem.W.alike (encTT a) (encTT b) = true := by simp [encTT, FwE.rowData, PySem.W.alike, PySem.W.alikeAll, PySem.W.alike_ints]
theorem encTI_depth (a : List Int × Int) : (encTI a).depth ≤ 4 := by simp [encTI, FwE.rowData, PyData.depth, PyData.depthAll, PySem.W.depth_ints]
theorem encTT_depth (a : List Int × List Int) : (encTT a).depth ≤ 4 := by simp [encTT, FwE.rowData, PyData.depth, PyData.depthAll, PySem.W.depth_ints]
theorem cr_sortTI {X : Cx} (hu : X.A.units + 200 < cLine) : CallR X (.builtin "sorted") (rSortD X.K encTI) := cr_sortedD hu (n := 4) (by decide) encTI_depth (fun a => ⟨_, _, rfl⟩) encTI_alike
theorem cr_sortTT {X : Cx} (hu : X.A.units + 200 < cLine) : CallR X (.builtin "sorted") (rSortD X.K encTT) := cr_sortedD hu (n := 4) (by decide) encTT_depth (fun a => ⟨_, _, rfl⟩) encTT_alike
theorem n_sortTI {K : PySem.W.Frag} {S : Ty (List (List Int × Int))} {xs : List (List Int × Int)} (sq : SeqL K S (tP2 K (tT K tI) tI)) : OpN (rSortD K encTI) [pu S xs] (ol (tP2 K (tT K tI) tI) (sortTI xs)) := n_sortD (dP2 (dT dI) (dI.up (by decide))) sq
theorem n_sortTT {K : PySem.W.Frag} {S : Ty (List (List Int × List Int))} {xs : List (List Int × List Int)} (sq : SeqL K S (tP2 K (tT K tI) (tT K tI))) : OpN (rSortD K encTT) [pu S xs] (ol (tP2 K (tT K tI) (tT K tI)) (sortTT xs)) := n_sortD (dP2 (dT dI) (dT dI)) sq
theorem row_eqv (x y : List Int) : PyData.eqv (FwE.rowData x) (FwE.rowData y) = decide (x = y) := (dT (K := []) dI).eqv x y
theorem encTI_le (a b : List Int × Int) : PySem.W.dataLe false encTI a b = decide (a.1 < b.1 ∨ (a.1 = b.1 ∧ a.2 ≤ b.2)) := by
  show (!PySem.W.dataLt (encTI b) (encTI a)) = _
  unfold encTI
  rw [PySem.W.dataLt_pair (FwE.rowData_alike _ _) (by simp [PySem.W.alike]), row_eqv, FwE.rowData_lt, PySem.W.dataLt_int]
  have e : PyData.eqv (.int b.2) (.int a.2) = decide (b.2 = a.2) := (dI (K := [])).eqv _ _
  rw [e]
  by_cases h : b.1 = a.1
  · rw [decide_eq_true h, if_pos rfl, h]
    by_cases h2 : b.2 = a.2
    · simp [h2, List.lt_irrefl]
    · by_cases h3 : b.2 < a.2
      · have : ¬ a.2 ≤ b.2 := by omega
        simp [h2, h3, this, List.lt_irrefl]
      · have : a.2 ≤ b.2 := by omega
        simp [h2, h3, this]
  · have h' : ¬ a.1 = b.1 := fun c => h c.symm
    rw [decide_eq_false h, if_neg (by decide)]
    by_cases h3 : b.1 < a.1
    · have : ¬ a.1 < b.1 := fun c => List.lt_asymm c h3
      simp [h3, this, h']
    · have : a.1 < b.1 := Classical.byContradiction fun c => h' (List.le_antisymm (List.not_lt.mp h3) (List.not_lt.mp c))
      simp [h3, this]
theorem encTT_le (a b : List Int × List Int) : PySem.W.dataLe false encTT a b = decide (a.1 < b.1 ∨ (a.1 = b.1 ∧ a.2 ≤ b.2)) := by
  show (!PySem.W.dataLt (encTT b) (encTT a)) = _
  unfold encTT
  rw [PySem.W.dataLt_pair (FwE.rowData_alike _ _) (FwE.rowData_alike _ _), row_eqv, FwE.rowData_lt, row_eqv, FwE.rowData_lt]
  by_cases h : b.1 = a.1
  · rw [decide_eq_true h, if_pos rfl, h]
    by_cases h2 : b.2 = a.2
    · simp [h2, List.lt_irrefl, List.le_refl]
    · by_cases h3 : b.2 < a.2
      · have : ¬ a.2 ≤ b.2 := List.not_le.mpr h3
        simp [h2, h3, this, List.lt_irrefl]
      · have : a.2 ≤ b.2 := List.not_lt.mp h3
        simp [h2, h3, this]
  · have h' : ¬ a.1 = b.1 := fun c => h c.symm
    rw [decide_eq_false h, if_neg (by decide)]
    by_cases h3 : b.1 < a.1
    · have : ¬ a.1 < b.1 := fun c => List.lt_asymm c h3
      simp [h3, this, h']
    · have : a.1 < b.1 := Classical.byContradiction fun c => h' (List.le_antisymm (List.not_lt.mp h3) (List.not_lt.mp c))
      simp [h3, this]
section
variable {X : Cx} {e : Expr} {x : Str} {px apos cpos pos : Pos} {Γ Γ1 : List Slot} {R : Ty α} {xs ys zs : List α}
/-- x.extend(e), x an owned list -/
theorem s1_ext {i : Nat} (hi : Γ[i]? = some (ol R xs)) (he : EX X e Γ (pu (tLs X.K R) zs) Γ1) (hi1 : Γ1[i]? = some (ol R ys)) (hz : ys.length + zs.length ≤ sizeLine) (hN : X.N[i]? = some x := by rfl) (hv : Vis X.env.scope x := by first | exact Or.inl rfl | exact Or.inr (Or.inl rfl) | exact Or.inr (Or.inr rfl))
    (hd : (x == ("__debug__" : Str)) = false := by decide) (hcd : (x == ("__classdict__" : Str)) = false := by decide)
    (hbase : attributeBase (.Name x px) "extend" X.env (eval (.Name x px) X.env) = eval (.Name x px) X.env := by rfl)
    (hfew : ((backTo cpos (starEach (e :: []) X.env)).all (fun x => !x.1) && (backToKw cpos (keywordEach [] X.env)).all (fun x => x.1.isSome)
      && decide ((e :: []).length + ([] : List Keyword).length + (if ([] : List Keyword).isEmpty then 0 else 1) < 30)) = true := by rfl)
    (hline : (apos.endLine == cpos.line) = true := by rfl) (hs : starEach (e :: []) X.env = (false, eval e X.env) :: starEach [] X.env := by rfl) (hplain : (backTo cpos (starEach [] X.env)).any (·.1) = false := by rfl)
    (hsw : swapsWith (.Call (.Attribute (.Name x px) "extend" apos) [e] [] cpos) none pos.line X.env = pure false := by rfl) :
    S1 X (.Expr (.Call (.Attribute (.Name x px) "extend" apos) [e] [] cpos) pos) Γ (fun r => r = .nx (Γ1.set i (ol R (ys ++ zs)))) := by
  intro T _ τ σ s hl E D hD
  refine rs_of (ps_expr (pe_bm PySem.F.plainAttrs_list PySem.F.slot_list_extend PySem.F.type_list_extend mt_extend (pe_var hN hv hd hcd) (pa_cons peR pa_nil hs) hbase hfew hline hs hplain) hsw) ?_
  have hlt := (List.getElem?_eq_some_iff.mp hi).1
  obtain ⟨p, vs, e0, f0, r0⟩ := E.sl i _ (by rw [List.getElem?_append_left hlt]; exact hi)
  rw [List.getElem?_append_left (by omega)] at e0
  have hσ : σ[i]? = some (some (.ref p)) := by
    rw [List.getElem?_eq_getElem (by omega)] at e0 ⊢
    exact congrArg some e0
  have hp : s.H p = some (.lst vs) := E.subF i p _ (by rw [f0]; exact one_self)
  refine ⟨.ref p, hσ, .inl ⟨rfl, vs, SqL.of hp⟩, ?_⟩
  refine he T τ σ s hl E _ fun v s1 E1 l1 e1 => ?_
  have hlt1 := (List.getElem?_eq_some_iff.mp hi1).1
  obtain ⟨b, ws, eb, hb, rb⟩ := pu_top E1
  subst eb
  obtain ⟨E2, e2⟩ := E1.pop
  obtain ⟨p', us, e3, f3, r3⟩ := E2.sl i _ (by rw [List.getElem?_append_left hlt1]; exact hi1)
  rw [List.getElem?_append_left (by omega), hσ] at e3
  cases e3
  have hp3 : s1.H p = some (.lst us) := E2.subF i p _ (by rw [f3]; exact one_self)
  have hσ2 : (σ ++ τ)[i]?.join = some (.ref p) := by rw [List.getElem?_append_left (by omega), hσ]; rfl
  obtain ⟨E4, e4⟩ := E2.write (S' := ol R (ys ++ zs)) (i := i) (ob := .lst us) (ob' := .lst (us ++ ws)) (by simp; omega) f3 (by
    rw [hσ2]
    exact ⟨p, _, rfl, rfl, paired_app r3 rb⟩)
  rw [set_app hlt1] at E4
  refine ⟨p, b, us, ws, rfl, rfl, hp3, E2.sub _ _ hb, by rw [paired_len r3, paired_len rb]; exact hz, ?_⟩
  have q := hD _ rfl σ _ (by simp; omega) E4 ((e1.trans e2).trans e4)
  exact q
theorem s1_extE {Γ2 : List Slot} {i : Nat} (hi : Γ[i]? = some (ol R xs)) (he : EX X e Γ (pu (tLs X.K R) zs) Γ1) (hi1 : Γ1[i]? = some (ol R ys)) (hz : ys.length + zs.length ≤ sizeLine) (hE : Γ1.set i (ol R (ys ++ zs)) = Γ2) (hN : X.N[i]? = some x := by rfl) (hv : Vis X.env.scope x := by first | exact Or.inl rfl | exact Or.inr (Or.inl rfl) | exact Or.inr (Or.inr rfl))
    (hd : (x == ("__debug__" : Str)) = false := by decide) (hcd : (x == ("__classdict__" : Str)) = false := by decide)
    (hbase : attributeBase (.Name x px) "extend" X.env (eval (.Name x px) X.env) = eval (.Name x px) X.env := by rfl)
    (hfew : ((backTo cpos (starEach (e :: []) X.env)).all (fun x => !x.1) && (backToKw cpos (keywordEach [] X.env)).all (fun x => x.1.isSome)
      && decide ((e :: []).length + ([] : List Keyword).length + (if ([] : List Keyword).isEmpty then 0 else 1) < 30)) = true := by rfl)
    (hline : (apos.endLine == cpos.line) = true := by rfl) (hs : starEach (e :: []) X.env = (false, eval e X.env) :: starEach [] X.env := by rfl) (hplain : (backTo cpos (starEach [] X.env)).any (·.1) = false := by rfl)
    (hsw : swapsWith (.Call (.Attribute (.Name x px) "extend" apos) [e] [] cpos) none pos.line X.env = pure false := by rfl) :
    S1 X (.Expr (.Call (.Attribute (.Name x px) "extend" apos) [e] [] cpos) pos) Γ (fun r => r = .nx Γ2) := by
  subst hE
  exact s1_ext hi he hi1 hz hN hv hd hcd hbase hfew hline hs hplain hsw
end
end Fw

namespace Fw
open PySem L2
variable [Tb]
variable {α β γ δ ε ρ κ θ : Type}
/-- x = e, the environment behind it told -/
theorem s1_setE {X : Cx} {e : Expr} {pos : Pos} {Γ Γ1 Γ2 : List Slot} {S : Slot} {i : Nat} {x : Str} {pos' : Pos} (hN : X.N.Nodup) (hi : X.N[i]? = some x) (hx : Loc X.env.scope x) (he : EX X e Γ S Γ1) (hG : i < Γ.length) (hE : Γ1.set i S = Γ2)
    (hs : swapsWith e (some (.Name x pos')) pos.line X.env = pure false := by rfl) (hf : X.fn x = true ∨ X.env.scope.names.lookup x = some .local := by first | exact .inl rfl | exact .inr rfl) : S1 X (.Assign [.Name x pos'] e pos) Γ (fun r => r = .nx Γ2) := by
  subst hE
  exact s1_set hN hi hx he hG hs hf
theorem s1_appE {X : Cx} {e : Expr} {x : Str} {px apos cpos pos : Pos} {Γ Γ1 Γ2 : List Slot} {R : Ty α} {xs ys : List α} {y : α} {i : Nat} (hi : Γ[i]? = some (ol R xs)) (he : EX X e Γ (pu R y) Γ1) (hi1 : Γ1[i]? = some (ol R ys)) (hz : ys.length < sizeLine) (hE : Γ1.set i (ol R (ys ++ [y])) = Γ2) (hN : X.N[i]? = some x := by rfl) (hv : Vis X.env.scope x := by first | exact Or.inl rfl | exact Or.inr (Or.inl rfl) | exact Or.inr (Or.inr rfl))
    (hd : (x == ("__debug__" : Str)) = false := by decide) (hcd : (x == ("__classdict__" : Str)) = false := by decide)
    (hbase : attributeBase (.Name x px) "append" X.env (eval (.Name x px) X.env) = eval (.Name x px) X.env := by rfl)
    (hfew : ((backTo cpos (starEach (e :: []) X.env)).all (fun x => !x.1) && (backToKw cpos (keywordEach [] X.env)).all (fun x => x.1.isSome)
      && decide ((e :: []).length + ([] : List Keyword).length + (if ([] : List Keyword).isEmpty then 0 else 1) < 30)) = true := by rfl)
    (hline : (apos.endLine == cpos.line) = true := by rfl) (hs : starEach (e :: []) X.env = (false, eval e X.env) :: starEach [] X.env := by rfl) (hplain : (backTo cpos (starEach [] X.env)).any (·.1) = false := by rfl)
    (hsw : swapsWith (.Call (.Attribute (.Name x px) "append" apos) [e] [] cpos) none pos.line X.env = pure false := by rfl) :
    S1 X (.Expr (.Call (.Attribute (.Name x px) "append" apos) [e] [] cpos) pos) Γ (fun r => r = .nx Γ2) := by
  subst hE
  exact s1_app hi he hi1 hz hN hv hd hcd hbase hfew hline hs hplain hsw
/-! ## d.get(k, y) and d[k] = y, d an owned dict keyed by tuples -/
def dput (kvs : List (List Int × α)) (k : List Int) (y : α) : List (List Int × α) := if (dget kvs k).isSome then kvs.map (fun kv => if kv.1 = k then (kv.1, y) else kv) else kvs ++ [(k, y)]
theorem x_getd {X : Cx} {e f : Expr} {x : Str} {px apos cpos : Pos} {Γ : List Slot} {R : Ty α} {kvs : List (List Int × α)} {k : List Int} {y : α} {i : Nat} (hu : X.A.units + 1 < cLine) (hi : Γ[i]? = some (dt R kvs)) (he : EX X e Γ (pu tTn k) Γ) (hf : EX X f Γ (pu R y) Γ)
    (hN : X.N[i]? = some x := by rfl) (hv : Vis X.env.scope x := by first | exact Or.inl rfl | exact Or.inr (Or.inl rfl) | exact Or.inr (Or.inr rfl)) (hd : (x == ("__debug__" : Str)) = false := by decide) (hcd : (x == ("__classdict__" : Str)) = false := by decide)
    (m : M2 X (.Name x px) "get" apos e f cpos := by exact ⟨rfl, rfl, rfl, rfl⟩) : EX X (.Call (.Attribute (.Name x px) "get" apos) [e, f] [] cpos) Γ (pu R ((dget kvs k).getD y)) Γ := by
  intro T _ τ σ s hl E Q hQ
  refine re_of (pe_dget2 hu (pe_var hN hv hd hcd) peR peR m) ?_
  have hlt := (List.getElem?_eq_some_iff.mp hi).1
  have hi2 : (Γ ++ T)[i]? = some (dt R kvs) := by rw [List.getElem?_append_left hlt]; exact hi
  obtain ⟨p, us, e0, f0, r0⟩ := E.sl i _ hi2
  rw [List.getElem?_append_left (by omega)] at e0
  have hσ : σ[i]? = some (some (.ref p)) := by
    rw [List.getElem?_eq_getElem (by omega)] at e0 ⊢
    exact congrArg some e0
  have hp : s.H p = some (.dT us) := E.subF i p _ (by rw [f0]; exact one_self)
  refine ⟨.ref p, hσ, p, rfl, .inr ⟨us, .inl hp⟩, ?_⟩
  refine he T τ σ s hl E _ fun v1 s1 E1 l1 e1 => ?_
  have E1' : EnvOk s1 (σ ++ (τ ++ [some v1])) (Γ ++ (T ++ [pu tTn k])) := by simpa using E1
  refine hf _ _ σ s1 hl E1' _ fun v2 s2 E2 l2 e2 => ?_
  have E2' : EnvOk s2 (((σ ++ τ) ++ [some v1]) ++ [some v2]) (((Γ ++ T) ++ [pu tTn k]) ++ [pu R y]) := by simpa using E2
  obtain ⟨h1, h2⟩ := pu_top2 E2'
  obtain ⟨b, eb, hb⟩ := h1
  subst eb
  obtain ⟨E3, e3⟩ := E2'.pop
  obtain ⟨E4, e4⟩ := E3.pop
  obtain ⟨p', us', e0', f', r'⟩ := E4.sl i _ hi2
  rw [List.getElem?_append_left (by omega), hσ] at e0'
  cases e0'
  have hp' : s2.H p = some (.dT us') := E4.subF i p _ (by rw [f']; exact one_self)
  refine ⟨valV us' (keyOf k), DGet.t hp' (by rw [keyOf_kV]; exact E2'.sub _ _ hb), ?_⟩
  have ev := (((e1.trans e2).trans e3).trans e4)
  rcases dget_rel (k := k) r' with ⟨g1, g2⟩ | ⟨v', y', g1, g2, g3⟩
  · rw [g1]
    have eg : (dget kvs k).getD y = y := by rw [g2]; rfl
    rw [eg] at hQ
    have q := hQ v2 _ (E4.push0 (pu R y) ⟨rfl, v2, rfl, h2⟩) rfl ev
    exact q
  · rw [g1]
    have eg : (dget kvs k).getD y = y' := by rw [g2]; rfl
    rw [eg] at hQ
    have q := hQ v' _ (E4.push0 (pu R y') ⟨rfl, v', rfl, g3⟩) rfl ev
    exact q
theorem put_rel {B : Hp} {R : Ty α} {k : List Int} {v : V} {y : α} (h : R.rep B v y) : ∀ {us : List (List L2.Key × V)} {kvs : List (List Int × α)}, Paired (fun (u : List L2.Key × V) (x : List Int × α) => u.1 = keyOf x.1 ∧ R.rep B u.2 x.2) us kvs →
    Paired (fun (u : List L2.Key × V) (x : List Int × α) => u.1 = keyOf x.1 ∧ R.rep B u.2 x.2) (us.map fun kv => if kv.1 = keyOf k then (kv.1, v) else kv) (kvs.map fun kv => if kv.1 = k then (kv.1, y) else kv)
  | _, _, .nil => .nil
  | _, _, .cons (a := u) (b := x) z t => by
    refine .cons ?_ (put_rel h t)
    show (if u.1 = keyOf k then (u.1, v) else u).1 = keyOf (if x.1 = k then (x.1, y) else x).1 ∧ R.rep B (if u.1 = keyOf k then (u.1, v) else u).2 (if x.1 = k then (x.1, y) else x).2
    by_cases e : x.1 = k
    · have e' : u.1 = keyOf k := by rw [z.1, e]
      rw [if_pos e, if_pos e']
      exact ⟨z.1, h⟩
    · have e' : ¬ u.1 = keyOf k := fun c => e (keyOf_inj (z.1.symm.trans c))
      rw [if_neg e, if_neg e']
      exact z
theorem s1_dput {X : Cx} {e f : Expr} {x : Str} {px spos pos : Pos} {Γ : List Slot} {R : Ty α} {kvs : List (List Int × α)} {k : List Int} {y : α} {i : Nat} (hu : X.A.units + 1 < cLine) (hi : Γ[i]? = some (dt R kvs)) (he : EX X e Γ (pu tTn k) Γ) (hf : EX X f Γ (pu R y) Γ) (hz : kvs.length < sizeLine)
    (hN : X.N[i]? = some x := by rfl) (hv : Vis X.env.scope x := by first | exact Or.inl rfl | exact Or.inr (Or.inl rfl) | exact Or.inr (Or.inr rfl)) (hd : (x == ("__debug__" : Str)) = false := by decide) (hcd : (x == ("__classdict__" : Str)) = false := by decide)
    (hs : swapsWith f (some (.Subscript (.Name x px) e spos)) pos.line X.env = pure false := by rfl) : S1 X (.Assign [.Subscript (.Name x px) e spos] f pos) Γ (fun r => r = .nx (Γ.set i (dt R (dput kvs k y)))) := by
  intro T _ τ σ s hl E D hD
  refine rs_of (ps_dput hu (pe_var hN hv hd hcd) peR peR hs) ?_
  have hlt := (List.getElem?_eq_some_iff.mp hi).1
  have hi2 : (Γ ++ T)[i]? = some (dt R kvs) := by rw [List.getElem?_append_left hlt]; exact hi
  refine hf T τ σ s hl E _ fun v1 s1 E1 l1 e1 => ?_
  have E1' : EnvOk s1 (σ ++ (τ ++ [some v1])) (Γ ++ (T ++ [pu R y])) := by simpa using E1
  obtain ⟨p, us, e0, f0, r0⟩ := E.sl i _ hi2
  rw [List.getElem?_append_left (by omega)] at e0
  have hσ : σ[i]? = some (some (.ref p)) := by
    rw [List.getElem?_eq_getElem (by omega)] at e0 ⊢
    exact congrArg some e0
  refine ⟨.ref p, hσ, ?_⟩
  refine he _ _ σ s1 hl E1' _ fun v2 s2 E2 l2 e2 => ?_
  have E2' : EnvOk s2 (((σ ++ τ) ++ [some v1]) ++ [some v2]) (((Γ ++ T) ++ [pu R y]) ++ [pu tTn k]) := by simpa using E2
  obtain ⟨h1, h2⟩ := pu_top2 E2'
  obtain ⟨b, eb, hb⟩ := h2
  subst eb
  obtain ⟨E3, e3⟩ := E2'.pop
  obtain ⟨E4, e4⟩ := E3.pop
  obtain ⟨p', us', e0', f', r'⟩ := E4.sl i _ hi2
  rw [List.getElem?_append_left (by omega), hσ] at e0'
  cases e0'
  have hp' : s2.H p = some (.dT us') := E4.subF i p _ (by rw [f']; exact one_self)
  have hσ2 : (σ ++ τ)[i]?.join = some (.ref p) := by rw [List.getElem?_append_left (by omega), hσ]; rfl
  have hput : Paired (fun (u : List L2.Key × V) (x : List Int × α) => u.1 = keyOf x.1 ∧ R.rep s2.B u.2 x.2) (putK us' (keyOf k) v1) (dput kvs k y) := by
    rcases dget_rel (k := k) r' with ⟨g1, g2⟩ | ⟨v', y', g1, g2, g3⟩
    · have ed : dput kvs k y = kvs ++ [(k, y)] := by unfold dput; rw [g2]; rfl
      rw [ed, putK_none g1]
      exact x_setd.paired_app2 r' (.cons ⟨rfl, h1⟩ .nil)
    · have ed : dput kvs k y = kvs.map fun kv => if kv.1 = k then (kv.1, y) else kv := by unfold dput; rw [g2]; rfl
      have eu : putK us' (keyOf k) v1 = us'.map fun kv => if kv.1 = keyOf k then (kv.1, v1) else kv := by
        unfold putK
        rw [valV_any, g1]
        rfl
      rw [ed, eu]
      exact put_rel h1 r'
  obtain ⟨E5, e5⟩ := E4.write (S' := dt R (dput kvs k y)) (i := i) (ob := .dT us') (ob' := .dT (putK us' (keyOf k) v1)) (by simp; omega) f' (by
    rw [hσ2]
    exact ⟨p, _, rfl, rfl, hput⟩)
  rw [set_app hlt] at E5
  refine ⟨p, _, rfl, .inr ⟨us', keyOf k, b, hp', rfl, by rw [keyOf_kV]; exact E2'.sub _ _ hb, by rw [Paired.length r']; exact hz, rfl⟩, ?_⟩
  have q := hD _ rfl σ _ (by simp; omega) E5 ((((e1.trans e2).trans e3).trans e4).trans e5)
  exact q
end Fw

namespace FwE
open PySem PySem.Spec PyProof.Rows L2 HT
section
variable {prog : Program} {w : World} {A : Around} {E : Value → Shared → Prop} {s : Shared}
/-! ## t[::-1] -/
theorem sliceApplied_rev {sl : Addr} {vl vu vs : Value} {n : Nat} {Q : Int × Int × Nat → Shared → Prop} (hs : s.heap.IsSliceOf sl vl vu vs) (pl : IsPart vl none) (pu : IsPart vu none) (ps : IsPart vs (some (-1)))
    (h : Q ((n : Int) - 1, -1, n) s) : wpAny (model prog w) A (Builtin.Slice.sliceApplied (.ref sl) (pure (n : Int))) Q E s := by
  obtain ⟨os, hos, hcs, hds⟩ := id hs
  unfold Builtin.Slice.sliceApplied Builtin.Slice.sliceFields
  refine wpAny_bind (wpAny_bind (wpAny_field hos hds (x := vl) rfl (wpAny_bind (wpAny_field hos hds (x := vu) rfl (wpAny_bind (wpAny_field hos hds (x := vs) rfl (wpAny_pure ?_)))))))
  refine wpAny_bind (slicePart_ ps ?_)
  show wpAny _ _ (if ((-1 : Int) == 0) = true then _ else _) _ _ s
  rw [if_neg (by decide)]
  refine wpAny_bind (slicePart_ pl (wpAny_bind (slicePart_ pu (wpAny_bind (wpAny_pure ?_)))))
  show wpAny _ _ (pure ((n : Int) - 1, (-1 : Int), Builtin.Slice.slicePlaces ((n : Int) - 1) (-1) (-1))) _ _ s
  have e : Builtin.Slice.slicePlaces ((n : Int) - 1) (-1) (-1) = n := by
    unfold Builtin.Slice.slicePlaces
    rw [if_neg (by decide)]
    split
    · have : -(-1 : Int) = 1 := by decide
      rw [this, Int.ediv_one]
      omega
    · omega
  rw [e]
  exact wpAny_pure h
theorem pick_rev (xs : Array Value) : ((List.range xs.size).filterMap fun (k : Nat) => xs[(((xs.size : Int) - 1) + (k : Int) * (-1)).toNat]?) = xs.toList.reverse := by
  have e : (List.range xs.size).filterMap (fun (k : Nat) => xs[(((xs.size : Int) - 1) + (k : Int) * (-1)).toNat]?) = ((List.range xs.size).map fun k => xs.size - 1 - k).filterMap (fun k => xs[k]?) := by
    rw [List.filterMap_map]
    congr 1
    funext k
    show xs[(((xs.size : Int) - 1) + (k : Int) * (-1)).toNat]? = xs[xs.size - 1 - k]?
    congr 1
    omega
  rw [e, PySem.W.krv_range, List.filterMap_reverse]
  exact congrArg List.reverse (PySem.W.krv_all xs)
theorem getItem_tuple_rev {t sl : Addr} {items : Array Value} {vl vu vs : Value} {Q : Value → Shared → Prop} (ht : IsTup s.heap t items) (hs : s.heap.IsSliceOf sl vl vu vs) (pl : IsPart vl none) (pu : IsPart vu none) (ps : IsPart vs (some (-1)))
    (h : Q (.ref s.heap.objs.size) { s with heap := s.heap.push { cls := .type "tuple", data := .seq items.toList.reverse.toArray } })
    (hsz : items.size ≤ sizeLine) : wpAny (model prog w) A (getItem (.ref t) (.ref sl)) Q E s := by
  have htake : sizeOk (.seq items.toList.reverse.toArray) := by
    show items.toList.reverse.toArray.size ≤ sizeLine
    rw [List.size_toArray, List.length_reverse, Array.length_toList]
    omega
  obtain ⟨os, hos, hcs, hds⟩ := id hs
  have hTs : s.TypeIs (.ref sl) "slice" := ⟨os, hos, hcs⟩
  unfold getItem
  try with_reducible refine wpAny_holding ?_
  first | refine wpAny_bind (wpAny_pure ?_) | skip
  refine wpAny_bind (wpAny_sequenceKey ht.typeIs (by decide) ?_)
  refine wpAny_bind (wpAny_callSpecial?_slot (name := Str.ofString "__getitem__") ht.typeIs PyProof.Rows.slot_tuple_getitem
    (wpAny_call_entry PyProof.Rows.slot_tuple_getitem ht.typeIs PyProof.Rows.entry_tuple_getitem ?_ (PyProof.Rows.args_tuple_getitem _ _)))
  show wpAny _ _ (Builtin.Tuple.tupleItemsOf (.ref t) >>= _) _ _ s
  refine wpAny_bind (tupleItemsOf_ ht ?_)
  refine wpAny_bind (wpAny_typeOf hTs ?_)
  rw [if_pos (by decide)]
  refine wpAny_bind (sliceApplied_rev hs pl pu ps ?_)
  have hno : ¬ (((((items.size : Int) - 1)) == 0 && (-1 : Int) == 1 && items.size == items.size) = true) := by
    intro q
    rw [Bool.and_eq_true, Bool.and_eq_true] at q
    exact absurd q.1.2 (by decide)
  show wpAny _ _ (if (((items.size : Int) - 1) == 0 && (-1 : Int) == 1 && items.size == items.size) = true then _ else _) _ _ s
  rw [if_neg hno]
  have e : ((List.range items.size).filterMap fun (k : Nat) => items[(((items.size : Int) - 1) + (k : Int) * (-1)).toNat]?).toArray = items.toList.reverse.toArray := congrArg List.toArray (pick_rev items)
  rw [e]
  first
    | exact wpAny_bind (m := Builtin.Tuple.tupleExact _) (wpAny_newObj_type (wpAny_pure ⟨_, rfl, wpAny_pure h⟩) htake)
    | exact wpAny_bind (m := Builtin.Tuple.tupleExact _) (wpAny_newObj_type (wpAny_bind (wpAny_pure (wpAny_pure ⟨_, rfl, wpAny_pure h⟩))) htake)
    | exact wpAny_bind (wpAny_bind (m := Builtin.Tuple.tupleExact _) (wpAny_newObj_type (wpAny_pure (wpAny_pure ⟨_, rfl, wpAny_pure h⟩)) htake))
    | exact wpAny_bind (wpAny_bind (m := Builtin.Tuple.tupleExact _) (wpAny_newObj_type (wpAny_pure ⟨_, rfl, wpAny_pure h⟩) htake))
/-! ## sorted of a tuple of ints -/
theorem sorted_tupI {a : Addr} {vs : List Value} {ns : List Int} {Q : Value → Shared → Prop} (ht : IsTup s.heap a vs.toArray) (hi : PySem.W.EachIs (fun v n => ∃ t, v = Value.int n t) vs ns) (hL : vs.length ≤ sizeLine) (hu : A.units + 10 < cLine)
    (hQ : ∀ (h1 h' : Heap) (out : List Value) (c : Nat), (∀ b o, s.heap.get? b = some o → h1.get? b = some o) → (∀ b o, h1.get? b = some o → h'.get? b = some o) → h'.get? h1.objs.size = some (seqObj "list" out.toArray c) → PySem.W.EachIs (fun v n => ∃ t, v = Value.int n t) out (ns.mergeSort (PySem.W.dataLe false PyData.int)) → Q (.ref h1.objs.size) { s with heap := h' }) :
    wpAny (model prog w) A (call (.builtin "sorted") [.ref a]) Q E s := by
  obtain ⟨o, ho, hc, n, hd⟩ := id ht
  have hlen : vs.length = ns.length := hi.length
  refine Calls.call_function_entry kind_sorted plain_sorted entry_sorted (args_sorted1 _) ?_
  unfold Builtin.«sorted»
  refine wpAny_bind (m := checkCount "sorted" 1 1 _) (wpAny_pure ?_)
  refine wpAny_bind (wpAny_collect_seq a (.inr rfl) ho hc hd (fun h1 k1 => ?_) (by rw [List.size_toArray]; exact hL))
  refine wpAny_bind (wpAny_newList ?_ hL)
  have hoL : (h1.push (seqObj "list" vs.toArray 0)).get? h1.objs.size = some (seqObj "list" vs.toArray 0) := Heap.get?_push_size _ rfl
  refine wpAny_bind (wpAny_holding (PySem.W.list_sort_data (s := { s with heap := h1.push (seqObj "list" vs.toArray 0) }) (enc := PyData.int) (bs := ns) (R := fun v n => ∃ t, v = Value.int n t) hoL hi (hi.mono fun v n ⟨t, e⟩ => ⟨[], by rw [e]; exact .int n t, by simp⟩) (PySem.W.AllAlike.of fun b b' => by simp [PySem.W.alike]) (PySem.W.Sortable.others fun b => ⟨(fun q => nomatch q), fun xs q => nomatch q⟩) (by omega) (fun b _ => by show A.units + 1 + 1 + (PyData.int b).depth < cLine; simp [PyData.depth]; omega) fun out hlo hout => ?_))
  obtain ⟨c, hc⟩ := sortedHeap_at (vs := vs) (out := out.toArray) hoL
  refine wpAny_pure ⟨_, rfl, hQ h1 _ out c k1 (fun b u q => ?_) hc hout⟩
  have hlt := Heap.lt_size q
  show (sortedHeap (h1.push (seqObj "list" vs.toArray 0)) h1.objs.size vs out.toArray).get? b = some u
  rw [sortedHeap_old (Nat.ne_of_lt hlt) (by rw [size_push']; exact Nat.lt_succ_of_lt hlt)]
  exact Heap.get?_push_of_some _ q
end
end FwE

namespace Fw
open PySem PySem.Spec PyProof.Rows L2
variable [Tb]
variable {α β γ δ ε ρ κ θ : Type}
def rSortedIT (K : PySem.W.Frag) : List V → Hp → VK → Prop := fun xs H Q => ∃ (a : Addr) (ns : List Int), xs = [.ref a] ∧ SqT K H a (ns.map V.int) ∧ ∀ p : Addr, H p = none → Q (.ref p) (upd H p (.lst ((sortI ns).map V.int)))
theorem each_ints : ∀ {ns : List Int} {its : List Value}, Vals (ns.map V.int) its → PySem.W.EachIs (fun v n => ∃ t, v = Value.int n t) its ns
  | [], _, .nil => .nil
  | n :: ns, _, .cons h t => .cons h (each_ints t)
theorem ints_each : ∀ {ns : List Int} {its : List Value}, PySem.W.EachIs (fun v n => ∃ t, v = Value.int n t) its ns → Vals (ns.map V.int) its
  | _, _, .nil => .nil
  | _, _, .cons h t => .cons h (ints_each t)
theorem le_int (a b : Int) : PySem.W.dataLe false PyData.int a b = decide (a ≤ b) := by
  show (!PySem.W.dataLt (PyData.int b) (PyData.int a)) = _
  rw [PySem.W.dataLt_int]
  by_cases h : b < a
  · have : ¬ a ≤ b := by omega
    simp [h, this]
  · have : a ≤ b := by omega
    simp [h, this]
theorem sort_int (ns : List Int) : ns.mergeSort (PySem.W.dataLe false PyData.int) = sortI ns := by
  refine sorted_unique ((List.mergeSort_perm _ _).trans (sortI_perm ns).symm) ?_ (sortI_sorted ns)
  refine (List.pairwise_mergeSort (le := PySem.W.dataLe false PyData.int) (fun a b c h k => ?_) (fun a b => ?_) ns).imp fun {a b} k => ?_
  · rw [le_int, decide_eq_true_eq] at *
    omega
  · rw [le_int, le_int, Bool.or_eq_true, decide_eq_true_eq, decide_eq_true_eq]
    omega
  · rw [le_int, decide_eq_true_eq] at k
    exact k
theorem cr_sortedIT {X : Cx} (hu : X.A.units + 200 < cLine) : CallR X (.builtin "sorted") (rSortedIT X.K) := by
  intro pins s σ H xs us Q I r h
  obtain ⟨a, ns, rfl, hs, q⟩ := h
  obtain ⟨its, rv, ht, hz⟩ := I.tuple hs
  obtain ⟨u, rfl, ru⟩ := vals1 r
  obtain rfl : u = Value.ref a := ru
  have hl := rv.length
  rw [List.length_map] at hl hz
  refine FwE.sorted_tupI ht (each_ints rv) (by omega) (by omega) fun h1 h' out c k1 k2 hg ho => ?_
  have I1 : L2.Inv X pins σ H { s with heap := h1 } := I.kept (t' := s.toks) k1
  rw [sort_int] at ho
  refine ⟨.ref h1.objs.size, upd H h1.objs.size (.lst _), I1.laid (h' := h') (t' := s.toks) k2 (Nat.le_refl _) ⟨?_, out, c, ints_each ho, hg⟩, rfl, q _ (I1.hok.fresh (Nat.le_refl _))⟩
  rw [List.length_map, (sortI_perm ns).length_eq]
  omega
theorem n_sortedIT {K : PySem.W.Frag} {xs : List Int} : OpN (rSortedIT K) [pu (tT K tI) xs] (ol tI (sortI xs)) := by
  refine opN_1 fun σ Γ s v E Q hQ => ?_
  obtain ⟨a, vs, e, z, r⟩ := pu_top E
  rw [paired_int r] at z
  obtain ⟨E2, e2⟩ := E.pop
  refine ⟨a, xs, by rw [e], same_sqt E.sub z, fun p hn => ?_⟩
  obtain ⟨E4, e4⟩ := E2.pushO (o := some (.ref p)) (ob := .lst ((sortI xs).map V.int)) hn (ol tI (sortI xs)) ⟨p, _, rfl, rfl, paired_of_int _⟩
  exact hQ _ _ E4 (e2.trans e4)
/-! ## t[::-1] -/
def tRevT (K : PySem.W.Frag) (te : TE) : TE := fun σ H Q => te σ H fun x H1 => ∃ a xs, x = .ref a ∧ SqT K H1 a xs ∧ ∀ p, H1 p = none → Q (.ref p) (upd H1 p (.tup xs.reverse))
theorem pe_revT {X : Cx} {e : Expr} {te : TE} {k : Nat} {p1 p2 p3 pos : Pos} (he : PE X e te) : PE X (.Subscript e (.Slice none none (some (.UnaryOp .USub (.Constant (.int 1) k p1) p2)) p3) pos) (tRevT X.K te) := by
  refine ⟨fun pins s σ H Q I h => ?_⟩
  refine Subscript_ (thn (he.run pins s σ H _ I h) fun v s1 ⟨x, H1, I1, r1, q1⟩ => ?_)
  obtain ⟨a, xs, ex, hx, q⟩ := q1
  subst ex
  cases r1
  have hst : PO X (some (.UnaryOp .USub (.Constant (.int 1) k p1) p2)) (tPart (tUn (rU fun i => .int (-i)) (tC (.int 1)))) := po_some (pe_un un_neg pe_int)
  refine wpAny_Slice (thn (po_none.run pins s1 σ H1 (fun o H2 => o = none ∧ H2 = H1) I1 ⟨rfl, rfl⟩) fun vl s2 ⟨l, H2, I2, pl, el, e2⟩ => ?_)
  subst el e2
  refine thn (po_none.run pins s2 σ H2 (fun o H3 => o = none ∧ H3 = H2) I2 ⟨rfl, rfl⟩) fun vu s3 ⟨u, H3, I3, pu, eu, e3⟩ => ?_
  subst eu e3
  refine thn (hst.run pins s3 σ H3 (fun o H4 => o = some (-1) ∧ H4 = H3) I3 ⟨1, rfl, -1, rfl, rfl, rfl⟩) fun vs s4 ⟨o, H4, I4, ps, eo, e4⟩ => ?_
  subst eo e4
  have I5 : L2.Inv X pins σ H4 { s4 with heap := s4.heap.push { cls := .type "slice", data := .fields #[vl, vu, vs] } } := I4.kept (t' := s4.toks) fun b ob q => Heap.get?_push_of_some _ q
  obtain ⟨its, r, ht, hz⟩ := I5.tuple hx
  have hlen := r.length
  show wpAny (model X.prog X.w) X.A (subscriptTail e (.Slice none none (some (.UnaryOp .USub (.Constant (.int 1) k p1) p2)) p3) (.ref a) (.ref s4.heap.objs.size)) (EP X pins σ Q) X.xe { s4 with heap := s4.heap.push { cls := .type "slice", data := .fields #[vl, vu, vs] } }
  refine tail_any (ops := [.ref a, .ref s4.heap.objs.size]) ht.typeIs (PyProof.Rows.slot_tuple_getitem.lookup) ?_ (by with_unfolding_all rfl)
  refine FwE.getItem_tuple_rev ht (Heap.IsSliceOf.new _ vl vu vs) pl pu ps ?_ (by rw [List.size_toArray]; omega)
  refine ⟨.ref _, _, I5.laid (t' := s4.toks) (o := .tup xs.reverse) (fun b ob q => Heap.get?_push_of_some _ q) (Nat.le_refl _) ?_, rfl, q _ (I5.hok.fresh (Nat.le_refl _))⟩
  exact ⟨by rw [List.length_reverse]; exact hz, _, r.reverse, ⟨_, Heap.get?_push_size _ rfl, rfl, _, rfl⟩⟩
section
variable {X : Cx} {a b c e : Expr} {pos : Pos} {Γ Γ1 Γ2 : List Slot}
theorem x_revT {R : Ty α} {xs : List α} {k : Nat} {p1 p2 p3 : Pos} (ha : EX X a Γ (pu (tT X.K R) xs) Γ1) : EX X (.Subscript a (.Slice none none (some (.UnaryOp .USub (.Constant (.int 1) k p1) p2)) p3) pos) Γ (pu (tT X.K R) xs.reverse) Γ1 := by
  intro T _ τ σ s hl E Q hQ
  refine re_of (pe_revT peR) ?_
  refine ha T τ σ s hl E _ fun v s1 E1 l1 e1 => ?_
  obtain ⟨a', vs, e, z, r⟩ := pu_top E1
  obtain ⟨E2, e2⟩ := E1.pop
  refine ⟨a', vs, e, same_sqt E1.sub z, fun p hp => ?_⟩
  obtain ⟨E4, e4⟩ := E2.push1 (o := some (.ref p)) (ob := .tup vs.reverse) hp (pu (tT X.K R) xs.reverse) fun k1 k2 => ⟨rfl, _, rfl, p, _, rfl, sqt_new k2, paired_mono (fun _ _ w => R.mono k1 w) (paired_rev r)⟩
  exact hQ _ _ E4 l1 ((e1.trans e2).trans e4)
/-! ## slices with both bounds, and all but the last -/
theorem cut_mid {xs : List α} {vs : List V} {F : V → α → Prop} {i j : Int} (r : Paired F vs xs) (h0 : 0 ≤ i) (h1 : 0 ≤ j) : Paired F (cutV vs (some i) (some j)) ((xs.take j.toNat).drop i.toNat) := by
  obtain ⟨n, rfl⟩ : ∃ n : Nat, i = (n : Int) := ⟨i.toNat, by omega⟩
  obtain ⟨m, rfl⟩ : ∃ m : Nat, j = (m : Int) := ⟨j.toNat, by omega⟩
  unfold cutV
  rw [HT.sIx_nat, HT.sIx_nat, Int.toNat_natCast, Int.toNat_natCast]
  have e : (List.drop (min n vs.length) vs).take (min m vs.length - min n vs.length) = (vs.take m).drop n := by
    rw [List.drop_take]
    by_cases q : n ≤ vs.length
    · rw [Nat.min_eq_left q]
      by_cases q2 : m ≤ vs.length
      · rw [Nat.min_eq_left q2]
      · rw [Nat.min_eq_right (by omega), List.take_of_length_le (by simp), List.take_of_length_le (by simp; omega)]
    · have e1 : min n vs.length = vs.length := Nat.min_eq_right (by omega)
      rw [e1, List.drop_of_length_le (Nat.le_refl _), List.drop_of_length_le (l := vs) (i := n) (by omega)]; simp
  rw [e]
  exact paired_drop n (paired_take m r)
theorem cut_init {xs : List α} {vs : List V} {F : V → α → Prop} (r : Paired F vs xs) : Paired F (cutV vs none (some (-1))) xs.dropLast := by
  unfold cutV
  have e0 : HT.sIx vs.length 0 none = 0 := rfl
  have e1 : HT.sIx vs.length vs.length (some (-1)) = vs.length - 1 := by
    show (if (-1 : Int) < 0 then ((-1 : Int) + (vs.length : Int)).toNat else min (-1 : Int).toNat vs.length) = _
    rw [if_pos (by decide)]
    omega
  rw [e0, e1, List.drop_zero, Nat.sub_zero, List.dropLast_eq_take, paired_len r]
  exact paired_take _ r
theorem x_slT {R : Ty α} {xs : List α} {i j : Int} {p2 : Pos} (ha : EX X a Γ (pu (tT X.K R) xs) Γ1) (hb : EX X b Γ1 (pu tI i) Γ1) (hc : EX X c Γ1 (pu tI j) Γ1) (h0 : 0 ≤ i ∧ 0 ≤ j) : EX X (.Subscript a (.Slice (some b) (some c) none p2) pos) Γ (pu (tT X.K R) ((xs.take j.toNat).drop i.toNat)) Γ1 :=
  ex_sl sl_tupA ha (po_i hb) (po_i hc) (o_slT (fun _ _ r => cut_mid r h0.1 h0.2) fun _ => cut_whole)
theorem x_slL {R : Ty α} {S : Ty (List α)} {xs : List α} {i j : Int} {p2 : Pos} (q : SeqL X.K S R) (ha : EX X a Γ (pu S xs) Γ1) (hb : EX X b Γ1 (pu tI i) Γ1) (hc : EX X c Γ1 (pu tI j) Γ1) (h0 : 0 ≤ i ∧ 0 ≤ j) : EX X (.Subscript a (.Slice (some b) (some c) none p2) pos) Γ (ol R ((xs.take j.toNat).drop i.toNat)) Γ1 :=
  ex_sl sl_list ha (po_i hb) (po_i hc) (o_slL q fun _ _ r => cut_mid r h0.1 h0.2)
theorem x_initT {R : Ty α} {xs : List α} {p2 : Pos} (ha : EX X a Γ (pu (tT X.K R) xs) Γ1) (hb : EX X b Γ1 (pu tI (-1)) Γ1) : EX X (.Subscript a (.Slice none (some b) none p2) pos) Γ (pu (tT X.K R) xs.dropLast) Γ1 :=
  ex_sl sl_tupA ha po_no (po_i hb) (o_slT (fun _ _ r => cut_init r) fun _ => cut_whole)
/-! ## a op b op' c of ints -/
theorem x_chain {op op' : CmpOp} {g g' : Int → Int → Bool} {x y z : Int} (h1 : OpR X (compareOp op) (rI0 fun i j => .bl (g i j))) (h2 : OpR X (compareOp op') (rI0 fun i j => .bl (g' i j))) (ha : EX X a Γ (pu tI x) Γ) (hb : EX X b Γ (pu tI y) Γ) (hc : EX X c Γ (pu tI z) Γ)
    (hm : lastMarks [op, op'] [b, c] = false := by with_unfolding_all rfl) : EX X (.Compare a [op, op'] [b, c] pos) Γ (pu tB (g x y && g' y z)) Γ := by
  intro T _ τ σ s hl E Q hQ
  refine re_of (pe_chain h1 h2 peR peR peR hm) ?_
  refine ha T τ σ s hl E _ fun v1 s1 E1 l1 e1 => ?_
  obtain rfl : v1 = .int x := pu_top E1
  obtain ⟨E2, e2⟩ := E1.pop
  refine hb T τ σ _ hl E2 _ fun v2 s3 E3 l3 e3 => ?_
  obtain rfl : v2 = .int y := pu_top E3
  obtain ⟨E4, e4⟩ := E3.pop
  refine ⟨x, y, rfl, rfl, g x y, rfl, ?_⟩
  cases hk : g x y with
  | false =>
    rw [if_neg (by decide)]
    rw [hk, Bool.false_and] at hQ
    have q := hQ (.bl false) _ (E4.push0 (pu tB false) ⟨rfl, .bl false, rfl, rfl⟩) rfl (((e1.trans e2).trans e3).trans e4)
    exact q
  | true =>
    rw [if_pos rfl]
    rw [hk, Bool.true_and] at hQ
    refine hc T τ σ _ hl E4 _ fun v5 s5 E5 l5 e5 => ?_
    obtain rfl : v5 = .int z := pu_top E5
    obtain ⟨E6, e6⟩ := E5.pop
    have q := hQ (.bl (g' y z)) _ (E6.push0 (pu tB (g' y z)) ⟨rfl, .bl _, rfl, rfl⟩) rfl (((((e1.trans e2).trans e3).trans e4).trans e5).trans e6)
    exact ⟨y, z, rfl, rfl, q⟩
theorem dec_S {x y : Str} : decide (V.str x = V.str y) = decide (x = y) := decide_eq_decide.mpr ⟨fun h => V.str.inj h, fun h => by rw [h]⟩
theorem o_eqS {x y : Str} : Op2 rEq (pu tS x) (pu tS y) (pu tB (decide (x = y))) := op2_val fun _ _ _ _ _ h1 h2 _ q => by
  rw [show _ = V.str x from h1, show _ = V.str y from h2]
  exact ⟨rfl, by rw [dec_S]; exact q _ rfl⟩
theorem o_neS {x y : Str} : Op2 rNe (pu tS x) (pu tS y) (pu tB (!decide (x = y))) := op2_val fun _ _ _ _ _ h1 h2 _ q => by
  rw [show _ = V.str x from h1, show _ = V.str y from h2]
  exact ⟨rfl, by rw [dec_S]; exact q _ rfl⟩
/-! ## a target of three names -/
theorem tg_trip {K : PySem.W.Frag} {R1 : Ty α} {R2 : Ty β} {R3 : Ty γ} {n i j k : Nat} (hi : i < n) (hj : j < n) (hk : k < n) : TGT (gTup K 3 (gCons (gName i) (gCons (gName j) (gCons (gName k) gNil)))) (tP3 K R1 R2 R3) [i, j, k] n (fun Γ x => ((Γ.set i (pu R1 x.1)).set j (pu R2 x.2.1)).set k (pu R3 x.2.2)) := by
  intro x v σ τ T Γ s hl hn E Q hQ
  obtain ⟨a, v1, v2, v3, e, z, r1, r2, r3⟩ := pu_top E
  obtain ⟨E2, e2⟩ := E.pop
  have h2 := r2
  have h3 := r3
  have E3 := E2.push0 (o := some v1) (pu R1 x.1) ⟨rfl, v1, rfl, r1⟩
  obtain ⟨E4, e4⟩ := E3.store (i := i) (by simp; omega)
  rw [set_app (by omega), List.set_append_left _ _ (by omega)] at E4
  have E5 := E4.push0 (o := some v2) (pu R2 x.2.1) ⟨rfl, v2, rfl, h2⟩
  obtain ⟨E6, e6⟩ := E5.store (i := j) (by simp; omega)
  rw [set_app (by simp; omega), List.set_append_left _ _ (by simp; omega)] at E6
  have E7 := E6.push0 (o := some v3) (pu R3 x.2.2) ⟨rfl, v3, rfl, h3⟩
  obtain ⟨E8, e8⟩ := E7.store (i := k) (by simp; omega)
  rw [set_app (by simp; omega), List.set_append_left _ _ (by simp; omega)] at E8
  have q := hQ (((σ.set i (some v1)).set j (some v2)).set k (some v3)) _ E8 (by simp) (by simp) (by rw [wipe_set (by simp), wipe_set (by simp), wipe_set (by simp)]) (((e2.trans e4).trans e6).trans e8)
  exact ⟨a, [v1, v2, v3], e, same_sqt E.sub z, rfl, v1, [v2, v3], rfl, v2, [v3], rfl, v3, [], rfl, rfl, q⟩
/-- target = e -/
theorem s1_asg {tg : Expr} {g : TG} {R : Ty α} {x : α} {is : List Nat} {f : List Slot → α → List Slot} {Γ3 : List Slot} (he : EX X e Γ (pu R x) Γ1) (hg : PG X tg g) (ht : TGT g R is Γ.length f) (hE : f Γ1 x = Γ3) (hl1 : Γ1.length = Γ.length := by rfl)
    (hs : swapsWithSole [tg] e pos.line X.env = pure false := by rfl) (hw : swappedStores [tg] e X.env = pure none := by rfl) (h1 : (assignEach [tg] X.env).map (·.2) = [assign tg X.env] := by rfl) : S1 X (.Assign [tg] e pos) Γ (fun r => r = .nx Γ3) := by
  intro T _ τ σ s hl E D hD
  refine rs_of (ps_asg peR hg hs hw h1) ?_
  refine he T τ σ s hl E _ fun v s1 E1 l1 e1 => ?_
  refine ht x v σ τ T Γ1 s1 (by omega) hl1 E1 _ fun σ' s' E' k1 k2 _ e' => ?_
  rw [hE] at E' k2
  have q := hD _ rfl σ' s' (by omega) E' (e1.trans e')
  exact q
end
end Fw

namespace Fw
open PySem PySem.Spec PyProof.Rows L2
variable [Tb]
variable {α β γ δ ε ρ κ θ : Type}
/-! ## x in xs, of data -/
def rInD (K : PySem.W.Frag) (ne : Bool) : R2 := fun x y H Q => ∃ (d : PyData) (es : List PyData), Dp K H x d ∧ (Dp K H y (.list es) ∨ Dp K H y (.tuple es)) ∧ d.plain = true ∧ PyData.plainAll es = true ∧ d.depth ≤ 30 ∧ Q (.bl (ne != es.any fun e => PyData.eqv e d)) H
theorem op_inD {X : Cx} (hu : X.A.units + 64 < cLine) : OpR X (compareOp .In) (rInD X.K false) := by
  intro pins s σ H x y v u Q I rx ry h
  obtain ⟨d, es, hd, he, pd, pe, dd, q⟩ := h
  obtain ⟨as, r1⟩ := Dp.reads I d x v hd rx
  rcases he with he | he
  · obtain ⟨bs, r2⟩ := Dp.reads I _ y u he ry
    exact SeqAt.in_list_data r2 r1 pe pd (by omega) ⟨.bl _, H, I, rfl, by simpa using q⟩
  · obtain ⟨bs, r2⟩ := Dp.reads I _ y u he ry
    exact SeqAt.in_tuple_data r2 r1 pe pd (by omega) ⟨.bl _, H, I, rfl, by simpa using q⟩
theorem op_ninD {X : Cx} (hu : X.A.units + 64 < cLine) : OpR X (compareOp .NotIn) (rInD X.K true) := by
  intro pins s σ H x y v u Q I rx ry h
  obtain ⟨d, es, hd, he, pd, pe, dd, q⟩ := h
  obtain ⟨as, r1⟩ := Dp.reads I d x v hd rx
  rcases he with he | he
  · obtain ⟨bs, r2⟩ := Dp.reads I _ y u he ry
    exact SeqAt.notIn_list_data r2 r1 pe pd (by omega) ⟨.bl _, H, I, rfl, by simpa using q⟩
  · obtain ⟨bs, r2⟩ := Dp.reads I _ y u he ry
    exact SeqAt.notIn_tuple_data r2 r1 pe pd (by omega) ⟨.bl _, H, I, rfl, by simpa using q⟩
section
variable {K : PySem.W.Frag} {R : Ty α} [DecidableEq α] {n : Nat} {x : α} {xs : List α}
theorem any_dat (D : Dat K R n) : ((xs.map D.d).any fun e => PyData.eqv e (D.d x)) = decide (x ∈ xs) := by
  rw [Bool.eq_iff_iff, decide_eq_true_eq, List.any_map, List.any_eq_true]
  constructor
  · rintro ⟨y, hy, e⟩
    have e' : PyData.eqv (D.d y) (D.d x) = true := e
    rw [D.eqv, decide_eq_true_eq] at e'
    rw [← e']; exact hy
  · intro h
    refine ⟨x, h, ?_⟩
    show PyData.eqv (D.d x) (D.d x) = true
    rw [D.eqv]; simp
theorem plain_dat (D : Dat K R n) : PyData.plainAll (xs.map D.d) = true := by
  induction xs with
  | nil => rfl
  | cons y r ih =>
    rw [List.map_cons]
    unfold PyData.plainAll
    rw [ih, PyData.plain_of_canLay0 _ (D.lay y)]
    rfl
theorem o_inT (D : Dat K R n) (ne : Bool) (hn : n ≤ 20 := by decide) : Op2 (rInD K ne) (pu R x) (pu (tT K R) xs) (pu tB (ne != decide (x ∈ xs))) :=
  op2_val fun _ _ _ _ s h1 h2 _ q => ⟨D.d x, xs.map D.d, dp_same s _ _ (D.rp h1), .inr (dp_same s _ _ ((dT D).rp h2)), PyData.plain_of_canLay0 _ (D.lay x), plain_dat D, by have := D.dep x; omega, by rw [any_dat D]; exact q _ rfl⟩
theorem o_inL (D : Dat K R n) (ne : Bool) (hn : n ≤ 20 := by decide) : Op2 (rInD K ne) (pu R x) (pu (tLs K R) xs) (pu tB (ne != decide (x ∈ xs))) :=
  op2_val fun _ _ _ _ s h1 h2 _ q => ⟨D.d x, xs.map D.d, dp_same s _ _ (D.rp h1), .inl (dp_same s _ _ ((dLs D).rp h2)), PyData.plain_of_canLay0 _ (D.lay x), plain_dat D, by have := D.dep x; omega, by rw [any_dat D]; exact q _ rfl⟩
end
/-! ## x == y, of things with an own == -/
theorem eq_obj [DecidableEq α] {X : Cx} {R : Ty α} {C f : Addr} {k : Nat} {fd : FuncData} {ps : List Str} (D : EqDef X.prog X.w X.K X.mg X.base R C k f fd ps) (hr : Room (k + 1) X.A) {pins : List (Addr × Obj)} {σ : L2.St} {s : Shared} {st : Sta} {σe : L2.St} {Γ : List Slot} [HasTab Γ] (E : EnvOk st σe Γ) (I : Inv X pins σ st.H s)
    {v u : V} {vv uu : Value} (rv : RelV v vv) (ru : RelV u uu) {x y : α} (hx : R.rep st.B v x) (hy : R.rep st.B u y) {Q : Value → Shared → Prop} (fin : ∀ (st' : Sta) (s' : Shared), EnvOk st' σe Γ → Evo st st' → Inv X pins σ st'.H s' → Q (.bool (decide (x = y))) s') :
    wpAny (model X.prog X.w) X.A (compareOp .Eq vv uu) Q X.xe s := by
  obtain ⟨a, dx, fs, rfl, ga⟩ := D.ins hx
  obtain ⟨b, dy, gs, rfl, gb⟩ := D.ins hy
  obtain rfl : vv = Value.ref a := rv
  obtain rfl : uu = Value.ref b := ru
  obtain ⟨m1, j1, _⟩ := ins_get I.hok (E.sub _ _ ga)
  obtain ⟨m2, j2, _⟩ := ins_get I.hok (E.sub _ _ gb)
  obtain ⟨o1, j1, _⟩ := j1.look
  obtain ⟨o2, j2, _⟩ := j2.look
  obtain ⟨m, hF⟩ := I.fr
  have hr1 : Room k X.A := hr.mono (Nat.le_succ _)
  show wpAny (model X.prog X.w) X.A (richCompare .Eq (.ref a) (.ref b)) Q X.xe s
  refine PySem.W.cmp_K (op := .Eq) (tb := .ref C) hr1.units0 hF I.ok.mod.kin j1 j2.type (by simp [PySem.W.notFirst]) D.hs D.hf ?_
  have hl : σe.length = Γ.length := E.len
  have E2 := (E.push0 (o := some (.ref a)) (pu R x) ⟨rfl, _, rfl, hx⟩).push0 (o := some (.ref b)) (pu R y) ⟨rfl, _, rfl, hy⟩
  rw [List.append_assoc, List.append_assoc] at E2
  obtain ⟨sc, hH, Ec, back⟩ := handT hl E2
  have hsp : spP (A := α × α) (fun _ => True) (fun x => [pu R x.1, pu R x.2]) (fun x => pu tB (decide (x.1 = x.2))) [.ref a, .ref b] st.H (fun z H' => z = .bl (decide (x = y)) ∧ ∃ st' : Sta, st'.H = H' ∧ EnvOk st' σe Γ ∧ Evo st st') E0 := by
    refine ⟨(x, y), sc, hH, trivial, Ec, fun z s' E' e' => ?_⟩
    obtain ⟨s3, h3, E3, e3⟩ := back [some z] [pu tB (decide (x = y))] s' E' e'
    have hz : z = .bl (decide (x = y)) := pu_top E3
    obtain ⟨E4, e4⟩ := E3.pop
    exact ⟨hz, s3.cut Γ.length, h3, E4, e3.trans e4⟩
  have r2 : Vals [V.ref a, V.ref b] [Value.ref a, Value.ref b] := .cons rfl (.cons rfl .nil)
  have hlen := D.F.len _ _ _ _ hsp
  refine wpAny_call (codeAny_mono (D.F.run X.A X.stack s st.H ⟨[.ref a, .ref b], []⟩ [.ref a, .ref b] [.ref a, .ref b] _ E0 hr1 I.env0 (by
    have q := D.hb s [.ref a, .ref b] I.kIn (by simpa using hlen)
    simpa using q) r2 hsp) fun r s' hq => ?_)
  cases r with
  | error e => exact (show False from hq).elim
  | ok fl =>
    cases fl with
    | ret z =>
      obtain ⟨zv, H', I', rz, ez, st', eH, E', e'⟩ := I.after hq
      subst ez
      obtain rfl : z = Value.bool (decide (x = y)) := rz
      subst eH
      exact fin st' s' E' e' I'
    | next => exact False.elim hq
    | brk => exact False.elim hq
    | cont => exact False.elim hq
theorem t_eqObj [DecidableEq α] {X : Cx} {R : Ty α} {C f : Addr} {k : Nat} {fd : FuncData} {ps : List Str} (D : EqDef X.prog X.w X.K X.mg X.base R C k f fd ps) (hr : Room (k + 1) X.A) {a b : Expr} {pos : Pos} {Γ Γ1 Γ2 : List Slot} {x y : α} (ha : EX X a Γ (pu R x) Γ1) (hb : EX X b Γ1 (pu R y) Γ2)
    (hm : behindInMarks .Eq b = false := by rfl) : ET X (.Compare a [.Eq] [b] pos) Γ (decide (x = y)) Γ2 := by
  intro T _ τ σ s hl E Q hQ
  refine rt_of (pt_cmpR op_run peR peR hm) ?_
  refine ha T τ σ s hl E _ fun v1 s1 E1 l1 e1 => ?_
  rw [List.append_assoc, List.append_assoc] at E1
  refine hb _ _ σ s1 (by rw [hl, l1]) E1 _ fun v2 s2 E2 l2 e2 => ?_
  rw [← List.append_assoc, ← List.append_assoc] at E2
  intro pins sh σ' vv uu I rv ru
  obtain ⟨h1, h2⟩ := pu_top2 E2
  refine eq_obj D hr E2 I rv ru h1 h2 fun st' s' E' e' I' => ⟨.bl (decide (x = y)), st'.H, I', rfl, ?_⟩
  obtain ⟨E3, e3⟩ := E'.pop
  obtain ⟨E4, e4⟩ := E3.pop
  have q := hQ _ E4 (l2.trans l1) ((((e1.trans e2).trans e').trans e3).trans e4)
  exact ⟨_, rfl, q⟩
end Fw

namespace Fw
open PySem L2
variable [Tb]
variable {α β γ δ ε ρ κ θ : Type}
/-! ## a dict of owned lists -/
def anyS : Slot := ⟨fun _ _ _ => True, fun _ _ => True.intro⟩
section
variable {s : Sta} {σ τ : St} {Γ T : List Slot} {S S' : Slot} {o : Option V}
/-- the slot i takes what the last one owns -/
theorem EnvOk.absorb {i : Nat} (E : EnvOk s (σ ++ [o]) (Γ ++ [S])) (hi : i < Γ.length) :
    EnvOk ⟨s.B, s.H, fun j => if j = i then un2 (s.F i) (s.F Γ.length) else if j = Γ.length then em else s.F j⟩ σ (Γ.set i anyS) ∧ Evo s ⟨s.B, s.H, fun j => if j = i then un2 (s.F i) (s.F Γ.length) else if j = Γ.length then em else s.F j⟩ := by
  have hl : σ.length = Γ.length := by have := E.len; simp at this; exact this
  have uu : ∀ a, un2 (s.F i) (s.F Γ.length) a ≠ none → s.F i a ≠ none ∨ s.F Γ.length a ≠ none := fun a h => by
    unfold un2 at h
    cases e : s.F i a with
    | none => rw [e] at h; exact .inr h
    | some q => exact .inl (by simp)
  have key : ∀ j a, (if j = i then un2 (s.F i) (s.F Γ.length) else if j = Γ.length then em else s.F j) a ≠ none → (j = i ∧ (s.F i a ≠ none ∨ s.F Γ.length a ≠ none)) ∨ (j ≠ i ∧ j ≠ Γ.length ∧ s.F j a ≠ none) := fun j a h => by
    by_cases q : j = i
    · rw [if_pos q] at h; exact .inl ⟨q, uu a h⟩
    · rw [if_neg q] at h
      by_cases z : j = Γ.length
      · rw [if_pos z] at h; exact absurd rfl h
      · rw [if_neg z] at h; exact .inr ⟨q, z, h⟩
  refine ⟨⟨E.sub, fun j a u h => ?_, fun j a h => ?_, fun j k a h1 h2 => ?_, by simp [hl], fun j S2 h2 => ?_, fun j h2 => ?_⟩, ⟨fun _ _ h => h, fun _ _ h _ => h, fun _ h => h, fun _ h => .inl h, fun a j h => ?_⟩⟩
  · have h' : (if j = i then un2 (s.F i) (s.F Γ.length) else if j = Γ.length then em else s.F j) a = some u := h
    by_cases q : j = i
    · rw [if_pos q] at h'
      unfold un2 at h'
      cases e : s.F i a with
      | none => rw [e] at h'; exact E.subF _ a u h'
      | some w => rw [e] at h'; exact E.subF i a u (by rw [e]; exact h')
    · rw [if_neg q] at h'
      by_cases z : j = Γ.length
      · rw [if_pos z] at h'; cases h'
      · rw [if_neg z] at h'; exact E.subF j a u h'
  · rcases key j a h with ⟨_, q | q⟩ | ⟨_, _, q⟩
    · exact E.dis _ a q
    · exact E.dis _ a q
    · exact E.dis _ a q
  · rcases key j a h1 with ⟨r1, q1⟩ | ⟨r1, z1, q1⟩
    · rcases key k a h2 with ⟨r2, q2⟩ | ⟨r2, z2, q2⟩
      · rw [r1, r2]
      · rcases q1 with q1 | q1
        · exact absurd (E.disF _ _ a q2 q1) r2
        · exact absurd (E.disF _ _ a q2 q1) z2
    · rcases key k a h2 with ⟨r2, q2⟩ | ⟨r2, z2, q2⟩
      · rcases q2 with q2 | q2
        · exact absurd (E.disF _ _ a q1 q2) r1
        · exact absurd (E.disF _ _ a q1 q2) z1
      · exact E.disF _ _ a q1 q2
  · have hj : j < Γ.length := by have := (List.getElem?_eq_some_iff.mp h2).1; simpa using this
    by_cases q : j = i
    · subst q
      rw [List.getElem?_set_self hj] at h2; cases h2
      exact True.intro
    · rw [List.getElem?_set_ne (Ne.symm q)] at h2
      show S2.p s.B (if j = i then _ else if j = Γ.length then em else s.F j) _
      rw [if_neg q, if_neg (by omega)]
      have := E.sl j S2 (by rw [List.getElem?_append_left hj]; exact h2)
      rw [List.getElem?_append_left (by omega)] at this
      exact this
  · rw [List.length_set] at h2
    show (if j = i then _ else if j = Γ.length then em else s.F j) = em
    rw [if_neg (by omega)]
    by_cases z : j = Γ.length
    · rw [if_pos z]
    · rw [if_neg z]; exact E.out j (by simp; omega)
  · rcases key j a h with ⟨_, q | q⟩ | ⟨_, _, q⟩
    · exact .inr ⟨_, q⟩
    · exact .inr ⟨_, q⟩
    · exact .inr ⟨_, q⟩
end
def dlRel (R : Ty α) (p : Addr) (B F : Hp) (u : List L2.Key × V) (x : List Int × List α) : Prop := u.1 = keyOf x.1 ∧ ∃ q vs, u.2 = .ref q ∧ q ≠ p ∧ F q = some (.lst vs) ∧ Paired (R.rep B) vs x.2
def dl (R : Ty α) (kvs : List (List Int × List α)) : Slot := ⟨fun B F o => ∃ p us, o = some (.ref p) ∧ F p = some (.dT us) ∧ Paired (dlRel R p B F) us kvs ∧ (us.map Prod.snd).Nodup ∧ (kvs.map Prod.fst).Nodup,
  fun s h => let ⟨p, us, e, f, r, n, m⟩ := h; ⟨p, us, e, f, dt.paired_mono' (fun _ _ z => let ⟨z1, q, vs, z2, z3, z4, z5⟩ := z; ⟨z1, q, vs, z2, z3, z4, paired_mono (fun _ _ w => R.mono s w) z5⟩) r, n, m⟩⟩
/-- what setdefault(k, []).append(y) leaves -/
def dapp (kvs : List (List Int × List α)) (k : List Int) (y : α) : List (List Int × List α) := if (dget kvs k).isSome then kvs.map (fun kv => if kv.1 = k then (kv.1, kv.2 ++ [y]) else kv) else kvs ++ [(k, [y])]
theorem x_dictL {X : Cx} {R : Ty α} {pos : Pos} {Γ : List Slot} : EX X (.Dict [] [] pos) Γ (dl R ([] : List (List Int × List α))) Γ := by
  intro T _ τ σ s hl E Q hQ
  refine re_of pe_dnewT fun p hp => ?_
  obtain ⟨E4, e4⟩ := E.pushO (o := some (.ref p)) (ob := .dT []) hp (dl R ([] : List (List Int × List α))) ⟨p, [], rfl, one_self, .nil, .nil, .nil⟩
  exact hQ _ _ E4 rfl e4
theorem dl_keep {R : Ty α} {p : Addr} {B F F' : Hp} {q : Addr} (hF : ∀ a, a ≠ q → F' a = F a) : ∀ {us : List (List L2.Key × V)} {kvs : List (List Int × List α)}, Paired (dlRel R p B F) us kvs → V.ref q ∉ us.map Prod.snd → Paired (dlRel R p B F') us kvs
  | _, _, .nil, _ => .nil
  | _, _, .cons (a := u) (b := x) h t, hn => by
    have hn' := not_or.mp (fun z => hn (List.mem_cons.mpr z))
    obtain ⟨h1, q0, vs, h2, h3, h4, h5⟩ := h
    refine .cons ⟨h1, q0, vs, h2, h3, ?_, h5⟩ (dl_keep hF t hn'.2)
    rw [hF q0 fun e => hn'.1 (show V.ref q = u.2 by rw [h2, e])]
    exact h4
theorem dl_get {R : Ty α} {p : Addr} {B F : Hp} {k : List Int} : ∀ {us : List (List L2.Key × V)} {kvs : List (List Int × List α)}, Paired (dlRel R p B F) us kvs →
    (valV us (keyOf k) = none ∧ dget kvs k = none ∧ k ∉ kvs.map Prod.fst) ∨ ∃ q vs xs, valV us (keyOf k) = some (.ref q) ∧ dget kvs k = some xs ∧ q ≠ p ∧ F q = some (.lst vs) ∧ Paired (R.rep B) vs xs ∧ V.ref q ∈ us.map Prod.snd
  | _, _, .nil => .inl ⟨rfl, rfl, by simp⟩
  | _, _, .cons (a := u) (b := x) h t => by
    by_cases e : x.1 = k
    · obtain ⟨h1, q, vs, h2, h3, h4, h5⟩ := h
      refine .inr ⟨q, vs, x.2, ?_, ?_, h3, h4, h5, by rw [List.map_cons, show Prod.snd u = V.ref q from h2]; exact List.mem_cons_self⟩
      · rw [← h2]; exact valV_pos (by rw [h1, e])
      · simp [dget, List.find?_cons, e]
    · have e' : ¬ u.1 = keyOf k := fun z => e (keyOf_inj (h.1.symm.trans z))
      rw [valV_neg e', dget_neg e]
      rcases dl_get (k := k) t with ⟨g1, g2, g3⟩ | ⟨q, vs, xs, g1, g2, g3, g4, g5, g6⟩
      · exact .inl ⟨g1, g2, fun z => (List.mem_cons.mp z).elim (fun w => e w.symm) g3⟩
      · exact .inr ⟨q, vs, xs, g1, g2, g3, g4, g5, List.mem_cons_of_mem _ g6⟩
theorem map_off {k : List Int} {f : List Int × List α → List Int × List α} : ∀ {kvs : List (List Int × List α)}, k ∉ kvs.map Prod.fst → kvs.map (fun kv => if kv.1 = k then f kv else kv) = kvs
  | [], _ => rfl
  | x :: r, h => by
    have h' := not_or.mp (fun z => h (List.mem_cons.mpr z))
    rw [List.map_cons, if_neg (fun e => h'.1 (show k = x.1 from e.symm)), map_off h'.2]
theorem dl_upd {R : Ty α} {p : Addr} {B F : Hp} {k : List Int} {q : Addr} {vs : List V} {v : V} {y : α} (hy : R.rep B v y) (hq : F q = some (.lst vs)) : ∀ {us : List (List L2.Key × V)} {kvs : List (List Int × List α)}, Paired (dlRel R p B F) us kvs → (us.map Prod.snd).Nodup → (kvs.map Prod.fst).Nodup → valV us (keyOf k) = some (.ref q) →
    Paired (dlRel R p B (upd F q (.lst (vs ++ [v])))) us (kvs.map fun kv => if kv.1 = k then (kv.1, kv.2 ++ [y]) else kv)
  | _, _, .nil, _, _, h => by cases h
  | u :: us, x :: kvs, .cons h t, n, m, hv => by
    rw [List.map_cons, List.nodup_cons] at n m
    obtain ⟨h1, q0, ws, h2, h3, h4, h5⟩ := h
    rw [List.map_cons]
    by_cases e : x.1 = k
    · have hu : u.1 = keyOf k := by rw [h1, e]
      rw [valV_pos hu, h2] at hv
      cases hv
      rw [hq] at h4
      cases h4
      rw [if_pos e]
      have off : k ∉ kvs.map Prod.fst := by rw [← e]; exact m.1
      rw [map_off off]
      refine .cons ⟨h1, q, vs ++ [v], h2, h3, upd_same, paired_app h5 (.cons hy .nil)⟩ (dl_keep (fun a ha => upd_ne ha) t (by rw [← h2]; exact n.1))
    · have hu : ¬ u.1 = keyOf k := fun c => e (keyOf_inj (h1.symm.trans c))
      rw [valV_neg hu] at hv
      rw [if_neg e]
      have hm : V.ref q ∈ us.map Prod.snd := by
        rcases dl_get (k := k) t with ⟨g1, _, _⟩ | ⟨q', vs', xs', g1, _, _, _, _, g6⟩
        · rw [g1] at hv; cases hv
        · rw [g1] at hv; cases hv; exact g6
      refine .cons ⟨h1, q0, ws, h2, h3, ?_, h5⟩ (dl_upd hy hq t n.2 m.2 hv)
      rw [upd_ne (fun c => n.1 (show u.2 ∈ us.map Prod.snd by rw [h2, c]; exact hm))]
      exact h4

theorem keys_map {k : List Int} {y : α} (kvs : List (List Int × List α)) : (kvs.map fun kv => if kv.1 = k then (kv.1, kv.2 ++ [y]) else kv).map Prod.fst = kvs.map Prod.fst := by
  rw [List.map_map]
  refine List.map_congr_left fun kv _ => ?_
  show (if kv.1 = k then (kv.1, kv.2 ++ [y]) else kv).1 = kv.1
  split <;> rfl
theorem dl_new {R : Ty α} {p : Addr} {B F F' : Hp} : ∀ {us : List (List L2.Key × V)} {kvs : List (List Int × List α)}, Paired (dlRel R p B F) us kvs → (∀ q vs, q ≠ p → F q = some (.lst vs) → F' q = some (.lst vs)) → Paired (dlRel R p B F') us kvs
  | _, _, .nil, _ => .nil
  | _, _, .cons h t, hF => by
    obtain ⟨h1, q, vs, h2, h3, h4, h5⟩ := h
    exact .cons ⟨h1, q, vs, h2, h3, hF q vs h3 h4, h5⟩ (dl_new t hF)
theorem dl_vals {R : Ty α} {p : Addr} {B F : Hp} {q : Addr} : ∀ {us : List (List L2.Key × V)} {kvs : List (List Int × List α)}, Paired (dlRel R p B F) us kvs → V.ref q ∈ us.map Prod.snd → F q ≠ none
  | _, _, .nil, h => by cases h
  | u :: us, x :: kvs, .cons h t, hm => by
    obtain ⟨h1, q0, vs, h2, h3, h4, h5⟩ := h
    rcases List.mem_cons.mp hm with e | hm
    · have e' : V.ref q = u.2 := e
      rw [h2] at e'
      cases e'
      rw [h4]; simp
    · exact dl_vals t hm
/-- d.setdefault(k, []).append(y), y a variable -/
theorem s1_dapp {X : Cx} {e : Expr} {x z : Str} {px pz lpos apos cpos bpos dpos pos : Pos} {Γ : List Slot} {R : Ty α} {kvs : List (List Int × List α)} {k : List Int} {y : α} {i j : Nat} (hu : X.A.units + 1 < cLine) (hi : Γ[i]? = some (dl R kvs)) (hj : Γ[j]? = some (pu R y)) (he : EX X e Γ (pu tTn k) Γ) (hz : kvs.length < sizeLine ∧ ∀ xs, dget kvs k = some xs → xs.length < sizeLine)
    (hN : X.N[i]? = some x := by rfl) (hv : Vis X.env.scope x := by first | exact Or.inl rfl | exact Or.inr (Or.inl rfl) | exact Or.inr (Or.inr rfl)) (hd : (x == ("__debug__" : Str)) = false := by decide) (hcd : (x == ("__classdict__" : Str)) = false := by decide)
    (hN2 : X.N[j]? = some z := by rfl) (hv2 : Vis X.env.scope z := by first | exact Or.inl rfl | exact Or.inr (Or.inl rfl) | exact Or.inr (Or.inr rfl)) (hd2 : (z == ("__debug__" : Str)) = false := by decide) (hcd2 : (z == ("__classdict__" : Str)) = false := by decide)
    (m : M2 X (.Name x px) "setdefault" apos e (.List [] lpos) cpos := by exact ⟨rfl, rfl, rfl, rfl⟩)
    (hbase : attributeBase (.Call (.Attribute (.Name x px) "setdefault" apos) [e, .List [] lpos] [] cpos) "append" X.env (eval (.Call (.Attribute (.Name x px) "setdefault" apos) [e, .List [] lpos] [] cpos) X.env) = eval (.Call (.Attribute (.Name x px) "setdefault" apos) [e, .List [] lpos] [] cpos) X.env := by rfl)
    (hfew : ((backTo dpos (starEach (.Name z pz :: []) X.env)).all (fun x => !x.1) && (backToKw dpos (keywordEach [] X.env)).all (fun x => x.1.isSome)
      && decide ((Expr.Name z pz :: []).length + ([] : List Keyword).length + (if ([] : List Keyword).isEmpty then 0 else 1) < 30)) = true := by rfl)
    (hline : (bpos.endLine == dpos.line) = true := by rfl) (hs : starEach (.Name z pz :: []) X.env = (false, eval (.Name z pz) X.env) :: starEach [] X.env := by rfl) (hplain : (backTo dpos (starEach [] X.env)).any (·.1) = false := by rfl)
    (hsw : swapsWith (.Call (.Attribute (.Call (.Attribute (.Name x px) "setdefault" apos) [e, .List [] lpos] [] cpos) "append" bpos) [.Name z pz] [] dpos) none pos.line X.env = pure false := by rfl) :
    S1 X (.Expr (.Call (.Attribute (.Call (.Attribute (.Name x px) "setdefault" apos) [e, .List [] lpos] [] cpos) "append" bpos) [.Name z pz] [] dpos) pos) Γ (fun r => r = .nx (Γ.set i (dl R (dapp kvs k y)))) := by
  intro T _ τ σ s hl E D hD
  refine rs_of (ps_expr (pe_bm PySem.F.plainAttrs_list PySem.F.slot_list_append PySem.F.type_list_append mt_append (pe_dsetdT hu (pe_var hN hv hd hcd) peR peR m) (pa_cons (pe_var hN2 hv2 hd2 hcd2) pa_nil hs) hbase hfew hline hs hplain) hsw) ?_
  have hlt := (List.getElem?_eq_some_iff.mp hi).1
  have hltj := (List.getElem?_eq_some_iff.mp hj).1
  have hi2 : (Γ ++ T)[i]? = some (dl R kvs) := by rw [List.getElem?_append_left hlt]; exact hi
  have hj2 : (Γ ++ T)[j]? = some (pu R y) := by rw [List.getElem?_append_left hltj]; exact hj
  obtain ⟨p, us, e0, f0, r0, n0, m0⟩ := E.sl i _ hi2
  rw [List.getElem?_append_left (by omega)] at e0
  have hσ : σ[i]? = some (some (.ref p)) := by
    rw [List.getElem?_eq_getElem (by omega)] at e0 ⊢
    exact congrArg some e0
  have hp : s.H p = some (.dT us) := E.subF i p _ f0
  refine ⟨.ref p, hσ, p, rfl, .inr ⟨us, .inl hp⟩, ?_⟩
  refine he T τ σ s hl E _ fun v1 s1 E1 l1 e1 => ?_
  have E1' : EnvOk s1 (σ ++ (τ ++ [some v1])) (Γ ++ (T ++ [pu tTn k])) := by simpa using E1
  have h0 : EX X (.List [] lpos) Γ (ol R ([] : List α)) Γ := x_lst (Ss := []) (n_lst (R := R) (xs := []) (show 0 ≤ sizeLine by decide)) ea_nil
  refine h0 _ _ σ s1 hl E1' _ fun v2 s2 E2 l2 e2 => ?_
  have E2' : EnvOk s2 (((σ ++ τ) ++ [some v1]) ++ [some v2]) (((Γ ++ T) ++ [pu tTn k]) ++ [ol R ([] : List α)]) := by simpa using E2
  obtain ⟨l, ws, ev, fl, rl⟩ := E2'.top
  cases rl
  cases ev
  obtain ⟨E3, e3⟩ := E2'.pop
  obtain ⟨b, eb, hb⟩ := pu_top E3
  subst eb
  have hi4 : (((Γ ++ T) ++ [pu tTn k]) ++ [ol R ([] : List α)])[i]? = some (dl R kvs) := by rw [List.getElem?_append_left (by simp; omega), List.getElem?_append_left (by simp; omega)]; exact hi2
  have hj4 : (((Γ ++ T) ++ [pu tTn k]) ++ [ol R ([] : List α)])[j]? = some (pu R y) := by rw [List.getElem?_append_left (by simp; omega), List.getElem?_append_left (by simp; omega)]; exact hj2
  have hG : i < (((Γ ++ T) ++ [pu tTn k]) ++ [ol R ([] : List α)]).length := by simp; omega
  have hσ4 : ((((σ ++ τ) ++ [some (V.ref b)]) ++ [some (V.ref l)])[i]?).join = some (V.ref p) := by
    rw [List.getElem?_append_left (by simp; omega), List.getElem?_append_left (by simp; omega), List.getElem?_append_left (by omega), hσ]; rfl
  obtain ⟨p', us', e0', f', r', n', m'⟩ := E2'.sl i _ hi4
  rw [hσ4] at e0'
  cases e0'
  obtain ⟨_, vj, ej, hyj⟩ := E2'.sl j _ hj4
  rw [List.getElem?_append_left (by simp; omega), List.getElem?_append_left (by simp; omega), List.getElem?_append_left (by omega)] at ej
  have hσj : σ[j]? = some (some vj) := by
    rw [List.getElem?_eq_getElem (by omega)] at ej ⊢
    exact congrArg some ej
  have hp' : s2.H p = some (.dT us') := E2'.subF i p _ f'
  have fl' : s2.F ((Γ ++ T) ++ [pu tTn k]).length = one l (.lst []) := fl
  have hlH : s2.H l = some (.lst []) := E2'.subF _ l _ (by rw [fl']; exact one_self)
  have notl : ∀ a, s2.F i a ≠ none → a ≠ l := fun a ha e => by
    have := E2'.disF i ((Γ ++ T) ++ [pu tTn k]).length a ha (by rw [fl', e, one_self]; simp)
    simp at this
    omega
  refine ⟨us', keyOf k, b, hp', rfl, by rw [keyOf_kV]; exact E2'.sub _ _ hb, by rw [Paired.length r']; exact hz.1, fun v hv' => ?_, fun hn => ?_⟩
  · rcases dl_get (k := k) r' with ⟨g1, _, _⟩ | ⟨q, vs, xs, g1, g2, g3, g4, g5, g6⟩
    · rw [g1] at hv'; cases hv'
    · rw [g1] at hv'
      cases hv'
      have hqH : s2.H q = some (.lst vs) := E2'.subF i q _ g4
      have ed : dapp kvs k y = kvs.map fun kv => if kv.1 = k then (kv.1, kv.2 ++ [y]) else kv := by unfold dapp; rw [g2]; rfl
      obtain ⟨E5, e5⟩ := E2'.writeF (S' := dl R (dapp kvs k y)) (i := i) (p := q) (F' := upd (s2.F i) q (.lst (vs ++ [vj]))) (ob' := .lst (vs ++ [vj])) hG (by rw [g4]; simp) (fun a ha => upd_ne ha) upd_same (by
        rw [hσ4, ed]
        exact ⟨p, us', rfl, by rw [upd_ne (Ne.symm g3)]; exact f', dl_upd hyj g4 r' n' m' g1, n', by rw [keys_map]; exact m'⟩)
      rw [set_app (by simp; omega), set_app (by simp; omega), set_app hlt] at E5
      obtain ⟨E6, e6⟩ := E5.pop
      obtain ⟨E7, e7⟩ := E6.pop
      refine ⟨.inl ⟨rfl, vs, SqL.of hqH⟩, vj, hσj, q, vs, vj, rfl, rfl, hqH, by rw [paired_len g5]; exact hz.2 _ g2, ?_⟩
      have w := hD _ rfl σ _ (by simp; omega) E7 ((((e1.trans e2).trans e5).trans e6).trans e7)
      exact w
  · rcases dl_get (k := k) r' with ⟨g1, g2, g3⟩ | ⟨q, vs, xs, g1, _, _, _, _, _⟩
    · have ed : dapp kvs k y = kvs ++ [(k, [y])] := by unfold dapp; rw [g2]; rfl
      have hpl : p ≠ l := notl p (by rw [f']; simp)
      rw [putK_none hn]
      obtain ⟨E5, e5⟩ := E2'.absorb (i := i) (by simp; omega)
      have hG3 : i < (((Γ ++ T) ++ [pu tTn k]).set i anyS).length := by simp; omega
      have u1 : un2 (s2.F i) (s2.F ((Γ ++ T) ++ [pu tTn k]).length) p = some (.dT us') := un2_l f'
      have u2 : un2 (s2.F i) (s2.F ((Γ ++ T) ++ [pu tTn k]).length) l = some (.lst []) := by
        unfold un2
        cases e : s2.F i l with
        | none => rw [fl']; exact one_self
        | some w => exact absurd rfl (notl l (by rw [e]; simp))
      have u3 : ∀ q vs, s2.F i q = some (.lst vs) → un2 (s2.F i) (s2.F ((Γ ++ T) ++ [pu tTn k]).length) q = some (.lst vs) := fun q vs h => un2_l h
      generalize hU : un2 (s2.F i) (s2.F ((Γ ++ T) ++ [pu tTn k]).length) = U at E5 e5 u1 u2 u3
      obtain ⟨E6, e6⟩ := E5.writeF (S' := anyS) (i := i) (p := p) (F' := upd U p (.dT (us' ++ [(keyOf k, V.ref l)]))) (ob' := .dT (us' ++ [(keyOf k, V.ref l)])) hG3 (by
          show (if i = i then U else _) p ≠ none
          rw [if_pos rfl, u1]; simp) (fun a ha => by
          show _ = (if i = i then U else _) a
          rw [if_pos rfl]
          exact upd_ne ha) upd_same True.intro
      obtain ⟨E7, e7⟩ := E6.writeF (S' := dl R (dapp kvs k y)) (i := i) (p := l) (F' := upd (upd U p (.dT (us' ++ [(keyOf k, V.ref l)]))) l (.lst [vj])) (ob' := .lst [vj]) (by rw [List.length_set]; exact hG3) (by
          show (if i = i then upd U p (.dT (us' ++ [(keyOf k, V.ref l)])) else _) l ≠ none
          rw [if_pos rfl, upd_ne (Ne.symm hpl), u2]; simp) (fun a ha => by
          show _ = (if i = i then upd U p (.dT (us' ++ [(keyOf k, V.ref l)])) else _) a
          rw [if_pos rfl]
          exact upd_ne ha) upd_same (by
          have hσ5 : (((σ ++ τ) ++ [some (V.ref b)])[i]?).join = some (V.ref p) := by
            rw [List.getElem?_append_left (by simp; omega), List.getElem?_append_left (by omega), hσ]; rfl
          rw [hσ5, ed]
          refine ⟨p, us' ++ [(keyOf k, V.ref l)], rfl, by rw [upd_ne hpl]; exact upd_same, x_setd.paired_app2 (dl_new r' fun q vs hq h => ?_) (.cons ⟨rfl, l, [vj], rfl, Ne.symm hpl, upd_same, .cons hyj .nil⟩ .nil), ?_, ?_⟩
          · have hql : q ≠ l := notl q (by rw [h]; simp)
            rw [upd_ne hql, upd_ne hq]
            exact u3 q vs h
          · rw [List.map_append]
            refine List.nodup_append.mpr ⟨n', List.pairwise_singleton _ _, fun a ha b' hb' hab => ?_⟩
            have e1' : b' = V.ref l := by simpa using hb'
            rw [hab, e1'] at ha
            exact notl l (dl_vals r' ha) rfl
          · rw [List.map_append]
            refine List.nodup_append.mpr ⟨m', List.pairwise_singleton _ _, fun a ha b' hb' hab => ?_⟩
            have e1' : b' = k := by simpa using hb'
            rw [hab, e1'] at ha
            exact g3 ha)
      rw [List.set_set, List.set_set, set_app (by simp; omega), set_app hlt] at E7
      obtain ⟨E8, e8⟩ := E7.pop
      refine ⟨.inl ⟨rfl, [], SqL.of (by rw [upd_ne (Ne.symm hpl)]; exact hlH)⟩, vj, hσj, l, [], vj, rfl, rfl, by rw [upd_ne (Ne.symm hpl)]; exact hlH, by show 0 < sizeLine; decide, ?_⟩
      have w := hD _ rfl σ _ (by simp; omega) E8 (((((e1.trans e2).trans e5).trans e6).trans e7).trans e8)
      exact w
    · rw [g1] at hn; cases hn
/-! ## a dict in the pure region -/
def tDp (R : Ty β) : Ty (List (List Int × β)) := ⟨fun B v kvs => ∃ p us, v = .ref p ∧ B p = some (.dT us) ∧ Paired (fun (u : List L2.Key × V) (x : List Int × β) => u.1 = keyOf x.1 ∧ R.rep B u.2 x.2) us kvs,
  fun s h => let ⟨p, us, e, f, r⟩ := h; ⟨p, us, e, s _ _ f, dt.paired_mono' (fun _ _ z => ⟨z.1, R.mono s z.2⟩) r⟩⟩
theorem Wk.frzD {Γ : List Slot} {R : Ty α} {kvs : List (List Int × List α)} {i : Nat} (K : PySem.W.Frag) (hi : Γ[i]? = some (dl R kvs)) : Wk Γ (Γ.set i (Fw.pu (tDp (tLs K R)) kvs)) := ⟨by simp, fun T τ σ s hl E => by
  have hl2 := (List.getElem?_eq_some_iff.mp hi).1
  have hi' : (Γ ++ T)[i]? = some (dl R kvs) := by rw [List.getElem?_append_left hl2]; exact hi
  obtain ⟨E', e'⟩ := E.freeze (S' := Fw.pu (tDp (tLs K R)) kvs) (i := i) (by simp; omega) fun B' s1 s2 => by
    obtain ⟨p, us, e, f, r, _, _⟩ := E.sl i _ hi'
    refine ⟨rfl, .ref p, e, p, us, rfl, s2 _ _ f, dt.paired_mono' (fun u x z => ?_) r⟩
    obtain ⟨z1, q, vs, z2, z3, z4, z5⟩ := z
    exact ⟨z1, q, vs, z2, s2 _ _ z4, paired_mono (fun _ _ w => R.mono s1 w) z5⟩
  rw [set_app hl2] at E'
  exact ⟨_, E', e', rfl⟩⟩
/-- d.get(k, y), d pure -/
theorem x_getdp {X : Cx} {e f : Expr} {x : Str} {px apos cpos : Pos} {Γ : List Slot} {R : Ty β} {kvs : List (List Int × β)} {k : List Int} {y : β} {i : Nat} (hu : X.A.units + 1 < cLine) (hi : Γ[i]? = some (pu (tDp R) kvs)) (he : EX X e Γ (pu tTn k) Γ) (hf : EX X f Γ (pu R y) Γ)
    (hN : X.N[i]? = some x := by rfl) (hv : Vis X.env.scope x := by first | exact Or.inl rfl | exact Or.inr (Or.inl rfl) | exact Or.inr (Or.inr rfl)) (hd : (x == ("__debug__" : Str)) = false := by decide) (hcd : (x == ("__classdict__" : Str)) = false := by decide)
    (m : M2 X (.Name x px) "get" apos e f cpos := by exact ⟨rfl, rfl, rfl, rfl⟩) : EX X (.Call (.Attribute (.Name x px) "get" apos) [e, f] [] cpos) Γ (pu R ((dget kvs k).getD y)) Γ := by
  intro T _ τ σ s hl E Q hQ
  refine re_of (pe_dget2 hu (pe_var hN hv hd hcd) peR peR m) ?_
  have hlt := (List.getElem?_eq_some_iff.mp hi).1
  have hi2 : (Γ ++ T)[i]? = some (pu (tDp R) kvs) := by rw [List.getElem?_append_left hlt]; exact hi
  obtain ⟨_, v0, e0, p, us, ep, f0, r0⟩ := E.sl i _ hi2
  subst ep
  rw [List.getElem?_append_left (by omega)] at e0
  have hσ : σ[i]? = some (some (.ref p)) := by
    rw [List.getElem?_eq_getElem (by omega)] at e0 ⊢
    exact congrArg some e0
  refine ⟨.ref p, hσ, p, rfl, .inr ⟨us, .inl (E.sub _ _ f0)⟩, ?_⟩
  refine he T τ σ s hl E _ fun v1 s1 E1 l1 e1 => ?_
  have E1' : EnvOk s1 (σ ++ (τ ++ [some v1])) (Γ ++ (T ++ [pu tTn k])) := by simpa using E1
  refine hf _ _ σ s1 hl E1' _ fun v2 s2 E2 l2 e2 => ?_
  have E2' : EnvOk s2 (((σ ++ τ) ++ [some v1]) ++ [some v2]) (((Γ ++ T) ++ [pu tTn k]) ++ [pu R y]) := by simpa using E2
  obtain ⟨h1, h2⟩ := pu_top2 E2'
  obtain ⟨b, eb, hb⟩ := h1
  subst eb
  obtain ⟨E3, e3⟩ := E2'.pop
  obtain ⟨E4, e4⟩ := E3.pop
  have ev := (((e1.trans e2).trans e3).trans e4)
  have f2 : s2.B p = some (.dT us) := ev.b _ _ f0
  have r' : Paired (fun (u : List L2.Key × V) (x : List Int × β) => u.1 = keyOf x.1 ∧ R.rep s2.B u.2 x.2) us kvs := dt.paired_mono' (fun _ _ z => ⟨z.1, R.mono ev.b z.2⟩) r0
  refine ⟨valV us (keyOf k), DGet.t (E2'.sub _ _ f2) (by rw [keyOf_kV]; exact E2'.sub _ _ hb), ?_⟩
  rcases dget_rel (k := k) r' with ⟨g1, g2⟩ | ⟨v', y', g1, g2, g3⟩
  · rw [g1]
    have eg : (dget kvs k).getD y = y := by rw [g2]; rfl
    rw [eg] at hQ
    have q := hQ v2 _ (E4.push0 (pu R y) ⟨rfl, v2, rfl, h2⟩) rfl ev
    exact q
  · rw [g1]
    have eg : (dget kvs k).getD y = y' := by rw [g2]; rfl
    rw [eg] at hQ
    have q := hQ v' _ (E4.push0 (pu R y') ⟨rfl, v', rfl, g3⟩) rfl ev
    exact q
end Fw

namespace Fw
open PySem L2
variable [Tb]
variable {α β γ δ ε ρ κ θ : Type}
section
variable {K : PySem.W.Frag} {R : Ty α} [DecidableEq α] {n : Nat} {x : α} {xs : List α}
theorem ne_f (b : Bool) : (false != b) = b := by cases b <;> rfl
theorem ne_t (b : Bool) : (true != b) = !b := by cases b <;> rfl
theorem o_inTy {inst : Decidable (x ∈ xs)} (D : Dat K R n) (hn : n ≤ 20 := by decide) : Op2 (rInD K false) (pu R x) (pu (tT K R) xs) (pu tB (@decide (x ∈ xs) inst)) := by
  have h := o_inT (x := x) (xs := xs) D false hn
  rw [ne_f] at h
  have e : @decide (x ∈ xs) inst = @decide (x ∈ xs) (List.instDecidableMemOfLawfulBEq x xs) := decide_eq_decide.mpr Iff.rfl
  rw [e]
  exact h
theorem o_inTn {inst : Decidable (x ∈ xs)} (D : Dat K R n) (hn : n ≤ 20 := by decide) : Op2 (rInD K true) (pu R x) (pu (tT K R) xs) (pu tB (!@decide (x ∈ xs) inst)) := by
  have h := o_inT (x := x) (xs := xs) D true hn
  rw [ne_t] at h
  have e : @decide (x ∈ xs) inst = @decide (x ∈ xs) (List.instDecidableMemOfLawfulBEq x xs) := decide_eq_decide.mpr Iff.rfl
  rw [e]
  exact h
theorem o_inLy {inst : Decidable (x ∈ xs)} (D : Dat K R n) (hn : n ≤ 20 := by decide) : Op2 (rInD K false) (pu R x) (pu (tLs K R) xs) (pu tB (@decide (x ∈ xs) inst)) := by
  have h := o_inL (x := x) (xs := xs) D false hn
  rw [ne_f] at h
  have e : @decide (x ∈ xs) inst = @decide (x ∈ xs) (List.instDecidableMemOfLawfulBEq x xs) := decide_eq_decide.mpr Iff.rfl
  rw [e]
  exact h
theorem o_inLn {inst : Decidable (x ∈ xs)} (D : Dat K R n) (hn : n ≤ 20 := by decide) : Op2 (rInD K true) (pu R x) (pu (tLs K R) xs) (pu tB (!@decide (x ∈ xs) inst)) := by
  have h := o_inL (x := x) (xs := xs) D true hn
  rw [ne_t] at h
  have e : @decide (x ∈ xs) inst = @decide (x ∈ xs) (List.instDecidableMemOfLawfulBEq x xs) := decide_eq_decide.mpr Iff.rfl
  rw [e]
  exact h
end
theorem n_intB {b : Bool} : OpN (fun xs H Q => (∃ i, xs = [.int i] ∧ Q (.int i) H) ∨ ∃ k, xs = [.bl k] ∧ Q (.int (if k then 1 else 0)) H) [pu tB b] (pu tI (if b = true then 1 else 0)) := by
  refine opN_1 fun σ Γ s v E Q hQ => ?_
  obtain rfl : v = .bl b := pu_top E
  obtain ⟨E2, e2⟩ := E.pop
  have q := hQ (.int (if b = true then 1 else 0)) _ (E2.push0 (pu tI (if b = true then 1 else 0)) ⟨rfl, _, rfl, rfl⟩) e2
  exact .inr ⟨b, rfl, q⟩
theorem x_asD {X : Cx} {e : Expr} {Γ Γ1 : List Slot} {R : Ty α} {xs ys : List (List Int × List α)} (h : EX X e Γ (dl R xs) Γ1) (q : xs = ys) : EX X e Γ (dl R ys) Γ1 := q ▸ h
theorem s1_dappE {X : Cx} {e : Expr} {x z : Str} {px pz lpos apos cpos bpos dpos pos : Pos} {Γ Γ2 : List Slot} {R : Ty α} {kvs : List (List Int × List α)} {k : List Int} {y : α} {i j : Nat} (hu : X.A.units + 1 < cLine) (hi : Γ[i]? = some (dl R kvs)) (hj : Γ[j]? = some (pu R y)) (he : EX X e Γ (pu tTn k) Γ) (hz : kvs.length < sizeLine ∧ ∀ xs, dget kvs k = some xs → xs.length < sizeLine) (hE : Γ.set i (dl R (dapp kvs k y)) = Γ2)
    (hN : X.N[i]? = some x := by rfl) (hv : Vis X.env.scope x := by first | exact Or.inl rfl | exact Or.inr (Or.inl rfl) | exact Or.inr (Or.inr rfl)) (hd : (x == ("__debug__" : Str)) = false := by decide) (hcd : (x == ("__classdict__" : Str)) = false := by decide)
    (hN2 : X.N[j]? = some z := by rfl) (hv2 : Vis X.env.scope z := by first | exact Or.inl rfl | exact Or.inr (Or.inl rfl) | exact Or.inr (Or.inr rfl)) (hd2 : (z == ("__debug__" : Str)) = false := by decide) (hcd2 : (z == ("__classdict__" : Str)) = false := by decide)
    (m : M2 X (.Name x px) "setdefault" apos e (.List [] lpos) cpos := by exact ⟨rfl, rfl, rfl, rfl⟩)
    (hbase : attributeBase (.Call (.Attribute (.Name x px) "setdefault" apos) [e, .List [] lpos] [] cpos) "append" X.env (eval (.Call (.Attribute (.Name x px) "setdefault" apos) [e, .List [] lpos] [] cpos) X.env) = eval (.Call (.Attribute (.Name x px) "setdefault" apos) [e, .List [] lpos] [] cpos) X.env := by rfl)
    (hfew : ((backTo dpos (starEach (.Name z pz :: []) X.env)).all (fun x => !x.1) && (backToKw dpos (keywordEach [] X.env)).all (fun x => x.1.isSome)
      && decide ((Expr.Name z pz :: []).length + ([] : List Keyword).length + (if ([] : List Keyword).isEmpty then 0 else 1) < 30)) = true := by rfl)
    (hline : (bpos.endLine == dpos.line) = true := by rfl) (hs : starEach (.Name z pz :: []) X.env = (false, eval (.Name z pz) X.env) :: starEach [] X.env := by rfl) (hplain : (backTo dpos (starEach [] X.env)).any (·.1) = false := by rfl)
    (hsw : swapsWith (.Call (.Attribute (.Call (.Attribute (.Name x px) "setdefault" apos) [e, .List [] lpos] [] cpos) "append" bpos) [.Name z pz] [] dpos) none pos.line X.env = pure false := by rfl) :
    S1 X (.Expr (.Call (.Attribute (.Call (.Attribute (.Name x px) "setdefault" apos) [e, .List [] lpos] [] cpos) "append" bpos) [.Name z pz] [] dpos) pos) Γ (fun r => r = .nx Γ2) := by
  subst hE
  exact s1_dapp hu hi hj he hz hN hv hd hcd hN2 hv2 hd2 hcd2 m hbase hfew hline hs hplain hsw
/-- rows of a table, known alike where they stand at one address -/
theorem fn_Td {K : PySem.W.Frag} : Fn K (tTd K) := fun {X pins σ H s B v x y} hK I hB h1 h2 => fn_T (K := K) hK I hB (td_T h1) (td_T h2)

theorem paired_fn {R : Ty α} {K : PySem.W.Frag} (h : Fn K R) {X : Cx} {pins : List (Addr × Obj)} {σ : L2.St} {H : Hp} {s : Shared} {B : Hp} (hK : X.K = K) (I : Inv X pins σ H s) (hB : Same B H) : ∀ {vs : List V} {xs ys : List α}, Paired (R.rep B) vs xs → Paired (R.rep B) vs ys → xs = ys
  | _, _, _, .nil, .nil => rfl
  | _, _, _, .cons a r, .cons b q => by rw [h hK I hB a b, paired_fn h hK I hB r q]
theorem fn_TG {R : Ty α} {K : PySem.W.Frag} (h : Fn K R) : Fn K (tT K R) := by
  intro X pins σ H s B v xs ys hK I hB hx hy
  obtain ⟨a, vs, e, z, r⟩ := hx
  obtain ⟨b, us, e2, z2, r2⟩ := hy
  subst e
  cases e2
  subst hK
  have := I.tuple_inj (same_sqt hB z) (same_sqt hB z2)
  subst this
  exact paired_fn h rfl I hB r r2
theorem fn_Tab {K : PySem.W.Frag} {C : Addr} : Fn K (tObj C (flTab K)) := by
  intro X pins σ H s B v x y hK I hB hx hy
  obtain ⟨a, dx, vs, e, h1, h2, r⟩ := hx
  obtain ⟨b, dy, us, e2, k1, k2, q⟩ := hy
  subst e
  cases e2
  rw [h1] at k1
  cases k1
  unfold flTab at r q
  cases r with
  | cons r1 r' =>
    cases r' with
    | cons r2 r'' =>
      cases q with
      | cons q1 q' =>
        cases q' with
        | cons q2 q'' =>
          have e1 := fn_Td hK I hB r1.2 q1.2
          have e2 := fn_TG fn_T hK I hB r2.2 q2.2
          cases x; cases y
          simp only at e1 e2
          rw [e1, e2]
end Fw

namespace Fw
open PySem PySem.Spec PyProof.Rows L2
variable [Tb]
variable {α β γ δ ε ρ κ θ : Type}
/-! ## for x in reversed(a list) -/
theorem w_rev {X : Cx} {tg e : Expr} {p pos : Pos} {Γ Γ1 : List Slot} {R : Ty α} {S : Ty (List α)} {xs : List α} (hm : X.mg "reversed" = none) (q : SeqL X.K S R) (he : EX X e Γ (pu S xs) Γ1) (hg : Gl X "reversed" := by rfl) (hs : starEach [e] X.env = (false, eval e X.env) :: starEach [] X.env := by rfl) :
    IW X tg (.Call (.Name "reversed" p) [e] [] pos) (RT.iRevA X.K (RE X e)) Γ R xs.reverse Γ1 := by
  refine ⟨RT.pi_revA hg hm peR hs, fun T _ τ σ s hl E Rr h => ?_⟩
  refine he.sz hl E fun v s1 E1 l1 e1 z => ?_
  obtain ⟨a, vs, e, w, r⟩ := q.get (pu_top E1)
  have hw : SqL X.K s1.H a vs := Same.seq E1.sub w
  have hz := seq_size q.a (pu_top E1) E1.sub z
  subst e
  have hlen : vs.length = xs.length := paired_len r
  obtain ⟨E2, e2⟩ := E1.pop
  have E3 := E2.push0 (o := some (.ref a)) (pl X.K R a vs xs) ⟨rfl, rfl, w, r⟩
  have q1 := h (Itv X.K a vs.length) _ _ [some (.ref a)] [pl X.K R a vs xs] _ (by rw [List.length_reverse, ← hlen]; exact walk_rev) E3 l1 rfl (e1.trans e2) (by rw [List.length_reverse]; exact hz) (fun σ2 Γ2 ρ Ps s2 h2 E2 => ?_) (fun i x H' σ2 Γ2 ρ Ps s2 hi y h2 E2 => ?_)
  · exact ⟨a, vs, rfl, .inl ⟨hw, q1⟩⟩
  · obtain ⟨_, _, w', _⟩ := mid_top E2 h2
    exact Same.seq E2.sub w'
  · obtain ⟨rfl, hx⟩ := y
    obtain ⟨_, _, w', r'⟩ := mid_top E2 h2
    obtain ⟨y, hy, ry⟩ := paired_getV r' hx
    rw [List.length_reverse] at hi
    exact ⟨y, s2, by rw [List.getElem?_reverse hi, ← hlen]; exact hy, rfl, E2.push0 _ ⟨rfl, x, rfl, ry⟩, Evo.refl s2⟩
/-! ## tuples of three ints, as triples -/
def v3 (x : List Int) : Int × Int × Int := (ix x 0, ix x 1, ix x 2)
theorem rep3 {K : PySem.W.Frag} {B : Hp} {v : V} {x : List Int} (hl : x.length = 3) (h : (tT K tI).rep B v x) : (tP3 K tI tI tI).rep B v (v3 x) := by
  obtain ⟨a, vs, e, z, r⟩ := h
  match x, hl with
  | [i, j, k], _ =>
    have ev := paired_int r
    exact ⟨a, .int i, .int j, .int k, e, by rw [ev] at z; exact z, rfl, rfl, rfl⟩
theorem paired3 {K : PySem.W.Frag} {B : Hp} : ∀ {vs : List V} {xs : List (List Int)}, (∀ x ∈ xs, x.length = 3) → Paired ((tT K tI).rep B) vs xs → Paired ((tP3 K tI tI tI).rep B) vs (xs.map v3)
  | _, _, _, .nil => .nil
  | _, _, h, .cons a r => .cons (rep3 (h _ List.mem_cons_self) a) (paired3 (fun x hx => h x (List.mem_cons_of_mem _ hx)) r)
theorem x_as3 {X : Cx} {e : Expr} {Γ Γ1 : List Slot} {xs : List (List Int)} (h : EX X e Γ (pu (tLs X.K (tT X.K tI)) xs) Γ1) (hl : ∀ x ∈ xs, x.length = 3) : EX X e Γ (pu (tLs X.K (tP3 X.K tI tI tI)) (xs.map v3)) Γ1 := x_sub h fun B v z => let ⟨a, vs, e, h1, r⟩ := z; ⟨a, vs, e, h1, paired3 hl r⟩
/-! ## what may be None, and is not -/
theorem x_unO {X : Cx} {e : Expr} {Γ Γ1 : List Slot} {R : Ty α} {o : Option α} {d : α} (h : EX X e Γ (pu (tO R) o) Γ1) (hs : o.isSome = true) : EX X e Γ (pu R (o.getD d)) Γ1 := x_sub h fun B v z => by
  cases o with
  | none => cases hs
  | some x => exact z.1
theorem Wk.some {Γ : List Slot} {R : Ty α} {x : α} {i : Nat} (hi : Γ[i]? = Option.some (Fw.pu R x)) (hn : ∀ B v, R.rep B v x → v ≠ .non) : Wk Γ (Γ.set i (Fw.pu (tO R) (Option.some x))) := Wk.turn hi (fun B o h => let ⟨h1, v, e, r⟩ := h; ⟨h1, v, e, r, hn B v r⟩) fun B F o h => h.1
/-! ## sorted of tables: tuples of rows -/
def rSortS (K : PySem.W.Frag) (d : α → PyData) : List V → Hp → VK → Prop := fun vs H Q => ∃ (a : Addr) (us : List V) (xs : List α) (Rv : V → α → Prop), vs = [.ref a] ∧ SqL K H a us ∧ Paired Rv us xs ∧ (∀ v x, Rv v x → Dp K H v (d x)) ∧ PySem.W.Sortable (xs.map d) ∧
  ∀ (p : Addr) (ws : List V), H p = none → Paired Rv ws (xs.mergeSort (PySem.W.dataLe false d)) → Q (.ref p) (upd H p (.lst ws))
theorem cr_sortedS {X : Cx} {d : α → PyData} {n : Nat} (hu : X.A.units + 200 < cLine) (hn : n ≤ 64) (hd : ∀ a, (d a).depth ≤ n) (ha : ∀ a b, PySem.W.alike (d a) (d b) = true) : CallR X (.builtin "sorted") (rSortS X.K d) := by
  intro pins s σ H vs us Q I r h
  obtain ⟨a, ws, xs, Rv, rfl, hs, hp, hR, hS, q⟩ := h
  obtain ⟨its, rv, hl, hz⟩ := I.list hs
  obtain ⟨u, rfl, ru⟩ := vals1 r
  obtain rfl : u = Value.ref a := ru
  obtain ⟨bs, e1, e2, e3, e4⟩ := zip_of (h := s.heap) (d := d) (fun v u x h1 h2 => Dp.reads I (d x) v u (hR v x h1) h2) hp rv
  have hlen : bs.length ≤ sizeLine := by
    have := congrArg List.length e1
    rw [List.length_map] at this
    rw [this, ← paired_len hp]; exact hz
  have hS' : PySem.W.Sortable (bs.map fun b : α × V => d b.1) := by
    have e : (bs.map fun b : α × V => d b.1) = xs.map d := by rw [← e1, List.map_map]; rfl
    rw [e]; exact hS
  refine PySem.W.sorted_data (enc := fun b : α × V => d b.1) hl.isList e3 e4 (PySem.W.AllAlike.of fun b b' => ha b.1 b'.1) hS' hlen (fun b _ => by have := hd b.1; omega) fun out hlo ho => ?_
  have hperm : (bs.mergeSort (PySem.W.dataLe false fun b : α × V => d b.1)).Perm bs := List.mergeSort_perm _ _
  have e5 : (bs.mergeSort (PySem.W.dataLe false fun b : α × V => d b.1)).map (·.1) = xs.mergeSort (PySem.W.dataLe false d) := by
    rw [← e1]
    exact List.map_mergeSort fun _ _ _ _ => rfl
  have k1 := vals_each ho
  have k2 : Paired Rv ((bs.mergeSort (PySem.W.dataLe false fun b : α × V => d b.1)).map (·.2)) (xs.mergeSort (PySem.W.dataLe false d)) := by
    rw [← e5]
    exact paired_self fun b hb => e2 b (hperm.mem_iff.mp hb)
  obtain ⟨m, hm⟩ := PyProof.Rows.sortedAll_at s.heap its out.toArray
  refine ⟨.ref (s.heap.objs.size + 1), upd H (s.heap.objs.size + 1) (.lst _), I.laid (t' := s.toks) (fun b o e => PyProof.Rows.sortedAll_old e) (Nat.le_succ _) ⟨?_, out, m, k1, hm⟩, rfl, q _ _ (I.hok.fresh (Nat.le_succ _)) k2⟩
  rw [List.length_map, hperm.length_eq]
  exact hlen
theorem CallR.or {X : Cx} {f : Value} {r r' : List V → Hp → VK → Prop} (h : CallR X f r) (h' : CallR X f r') : CallR X f (fun vs H Q => r vs H Q ∨ r' vs H Q) := fun pins s σ H vs us Q I rv q => q.elim (h pins s σ H vs us Q I rv) (h' pins s σ H vs us Q I rv)
def encRT (x : List (List Int)) : PyData := .tuple (x.map FwE.rowData)
def sortRT (xs : List (List (List Int))) : List (List (List Int)) := xs.mergeSort (PySem.W.dataLe false encRT)
theorem sortRT_perm (xs : List (List (List Int))) : (sortRT xs).Perm xs := List.mergeSort_perm _ _
theorem rows_alike : ∀ a b : List (List Int), PySem.W.alikeAll (a.map FwE.rowData) (b.map FwE.rowData) = true
  | [], _ => by simp [PySem.W.alikeAll]
  | _ :: _, [] => by simp [PySem.W.alikeAll]
  | x :: a, y :: b => by
    rw [List.map_cons, List.map_cons]
    unfold PySem.W.alikeAll
    rw [FwE.rowData_alike, rows_alike a b]
    rfl
theorem encRT_alike (a b : List (List Int)) : PySem.W.alike (encRT a) (encRT b) = true := by
  unfold encRT
  simp [PySem.W.alike, rows_alike]
theorem rows_depth : ∀ a : List (List Int), PyData.depthAll (a.map FwE.rowData) ≤ 1
  | [] => by simp [PyData.depthAll]
  | x :: a => by
    rw [List.map_cons]
    unfold PyData.depthAll
    have h1 := FwE.rowData_depth x
    have h2 := rows_depth a
    omega
theorem encRT_depth (a : List (List Int)) : (encRT a).depth ≤ 4 := by
  unfold encRT
  have := rows_depth a
  simp only [PyData.depth]
  omega
theorem sort_one {x : List (List Int)} : sortRT [x] = [x] := by unfold sortRT; simp
theorem n_sortRT {K : PySem.W.Frag} {S : Ty (List (List (List Int)))} {xs : List (List (List Int))} (sq : SeqL K S (tT K (tT K tI))) (h : (∀ x ∈ xs, x ≠ []) ∨ xs = [[]]) : OpN (fun vs H Q => rSortS K encRT vs H Q ∨ rSortT K vs H Q) [pu S xs] (ol (tT K (tT K tI)) (sortRT xs)) := by
  intro σ Γ _ s vs lv E Q hQ
  match vs, lv with
  | [v], _ =>
    obtain ⟨a, us, ev, hsq, hp⟩ := sq.get (pu_top E)
    obtain ⟨E2, e2⟩ := E.pop
    have done : ∀ (p : Addr) (ws : List V), s.H p = none → Paired ((tT K (tT K tI)).rep s.B) ws (sortRT xs) → Q (.ref p) (upd s.H p (.lst ws)) := fun p ws hp2 hpw => by
      obtain ⟨E4, e4⟩ := E2.pushO (o := some (.ref p)) (ob := .lst ws) hp2 (ol (tT K (tT K tI)) (sortRT xs)) ⟨p, ws, rfl, rfl, hpw⟩
      exact hQ _ _ E4 (e2.trans e4)
    rcases h with h | h
    · refine .inl ⟨a, us, xs, (tT K (tT K tI)).rep s.B, by rw [ev], E.sub.seq hsq, hp, fun v x h => dp_same E.sub _ _ ((dT (dT dI)).rp h), ?_, done⟩
      refine .inl fun d hd => ?_
      obtain ⟨x, hx, rfl⟩ := List.mem_map.mp hd
      cases x with
      | nil => exact absurd rfl (h _ hx)
      | cons y r => exact ⟨_, _, rfl⟩
    · subst h
      refine .inr ⟨a, us, [[]], fun v ns => (tT K (tT K tI)).rep s.B v [] ∧ ns = [], by rw [ev], E.sub.seq hsq, ?_, fun v ns hv => ?_, fun p ws hp2 hpw => ?_⟩
      · cases hp with
        | cons r t => cases t; exact .cons ⟨r, rfl⟩ .nil
      · obtain ⟨⟨b, ws, eb, hb, hpb⟩, rfl⟩ := hv
        cases hpb
        exact ⟨b, eb, by simpa using same_sqt E.sub hb⟩
      · refine done p ws hp2 ?_
        have e : rowSort [([] : List Int)] = [[]] := by unfold rowSort; simp
        rw [e] at hpw
        cases hpw with
        | cons r t => cases t; rw [sort_one]; exact .cons r.1 .nil
end Fw

namespace Fw
open PySem L2
variable [Tb]
variable {α β γ δ ε ρ κ θ : Type}
/-! ## an owned instance, of which some fields are owned lists -/
structure LC where
  c : Hp → List V → Prop
  mono : ∀ {B B' : Hp} {ws : List V}, Same B B' → c B ws → c B' ws
def lc (R : Ty α) (xs : List α) : LC := ⟨fun B ws => Paired (R.rep B) ws xs, fun s h => paired_mono (fun _ _ w => R.mono s w) h⟩
inductive MF where
  | p (q : Fld)
  | l (q : LC)
def mOk (B F : Hp) (a dx : Addr) (v : V) : MF → Prop
  | .p q => q.p B v
  | .l q => ∃ r ws, v = .ref r ∧ r ≠ a ∧ r ≠ dx ∧ F r = some (.lst ws) ∧ q.c B ws
def mRel (B F : Hp) (a dx : Addr) (u : Str × V) (g : Str × MF) : Prop := u.1 = g.1 ∧ mOk B F a dx u.2 g.2
def ownV : List (Str × V) → List (Str × MF) → List V
  | u :: us, (_, .l _) :: gs => u.2 :: ownV us gs
  | _ :: us, (_, .p _) :: gs => ownV us gs
  | _, _ => []
def putM (f : Str) (m : MF) : List (Str × MF) → List (Str × MF)
  | [] => [(f, m)]
  | (g, w) :: r => if g = f then (g, m) :: r else (g, w) :: putM f m r
theorem mOk_mono {B B' F : Hp} {a dx : Addr} (s : Same B B') {v : V} : ∀ {m : MF}, mOk B F a dx v m → mOk B' F a dx v m
  | .p q, h => q.mono s h
  | .l q, h => let ⟨r, ws, e, n1, n2, f, c⟩ := h; ⟨r, ws, e, n1, n2, f, q.mono s c⟩
def oo (C : Addr) (gs : List (Str × MF)) (a : Addr) : Slot := ⟨fun B F o => o = some (.ref a) ∧ ∃ dx vs, dx ≠ a ∧ F a = some (.ins C dx vs) ∧ F dx = some (.own a) ∧ Paired (mRel B F a dx) vs gs ∧ (ownV vs gs).Nodup,
  fun s h => let ⟨e, dx, vs, n, f1, f2, r, nd⟩ := h; ⟨e, dx, vs, n, f1, f2, paired_mono (fun _ _ z => ⟨z.1, mOk_mono s z.2⟩) r, nd⟩⟩
theorem gho_oo {C : Addr} {gs : List (Str × MF)} : Gho (oo C gs) := fun _ _ _ _ h => h.1
section
variable {B F F' : Hp} {a dx : Addr}
theorem mGet {f : Str} {m : MF} : ∀ {us : List (Str × V)} {gs : List (Str × MF)}, Paired (mRel B F a dx) us gs → gs.lookup f = some m → ∃ v, us.lookup f = some v ∧ mOk B F a dx v m
  | _, _, .nil, h => by simp at h
  | (n, v) :: _, (k, g) :: _, .cons h r, e => by
    obtain ⟨h1, h2⟩ := h
    simp only at h1 h2
    subst h1
    simp only [List.lookup_cons] at e ⊢
    cases hb : (f == n) with
    | true => rw [hb] at e; cases e; exact ⟨v, rfl, h2⟩
    | false => rw [hb] at e; exact mGet r e
theorem mNone {m : Str} : ∀ {us : List (Str × V)} {gs : List (Str × MF)}, Paired (mRel B F a dx) us gs → m ∉ gs.map (·.1) → us.lookup m = none
  | _, _, .nil, _ => rfl
  | _, _, .cons (a := u) (b := f) z r, h => by
    have h' := not_or.mp (fun q => h (List.mem_cons.mpr q))
    have e : (m == u.1) = false := beq_eq_false_iff_ne.mpr (by rw [z.1]; exact h'.1)
    rw [show (u :: _ : List (Str × V)) = (u.1, u.2) :: _ from rfl, List.lookup_cons, e]
    exact mNone r h'.2
/-- what is owned lies in the footprint -/
theorem own_in {v : V} : ∀ {us : List (Str × V)} {gs : List (Str × MF)}, Paired (mRel B F a dx) us gs → v ∈ ownV us gs → ∃ r ws, v = .ref r ∧ r ≠ a ∧ r ≠ dx ∧ F r = some (.lst ws)
  | _, _, .nil, h => by cases h
  | u :: us, (k, .p q) :: gs, .cons z r, h => own_in r h
  | u :: us, (k, .l q) :: gs, .cons z r, h => by
    rcases List.mem_cons.mp h with e | h
    · obtain ⟨_, x, ws, e1, n1, n2, f1, _⟩ := z
      exact ⟨x, ws, e.trans e1, n1, n2, f1⟩
    · exact own_in r h
/-- the footprint changes beside what is owned -/
theorem mKeep : ∀ {us : List (Str × V)} {gs : List (Str × MF)}, Paired (mRel B F a dx) us gs → (∀ r ws, V.ref r ∈ ownV us gs → F r = some (.lst ws) → F' r = some (.lst ws)) → Paired (mRel B F' a dx) us gs
  | _, _, .nil, _ => .nil
  | u :: us, (k, .p q) :: gs, .cons z r, h => .cons ⟨z.1, z.2⟩ (mKeep r h)
  | u :: us, (k, .l q) :: gs, .cons z r, h => by
    obtain ⟨z0, x, ws, e1, n1, n2, f1, c1⟩ := z
    refine .cons ⟨z0, x, ws, e1, n1, n2, h x ws ?_ f1, c1⟩ (mKeep r fun r' ws' h' => h r' ws' (List.mem_cons_of_mem _ h'))
    show V.ref x ∈ u.2 :: ownV us gs
    rw [← e1]; exact List.mem_cons_self
/-- an owned list gets other contents -/
theorem mApp {f : Str} {q q' : LC} {x : Addr} {ws' : List V} (hc : q'.c B ws') : ∀ {us : List (Str × V)} {gs : List (Str × MF)}, Paired (mRel B F a dx) us gs → (ownV us gs).Nodup → gs.lookup f = some (.l q) → us.lookup f = some (.ref x) →
    Paired (mRel B (upd F x (.lst ws')) a dx) us (putM f (.l q') gs) ∧ ownV us (putM f (.l q') gs) = ownV us gs ∧ V.ref x ∈ ownV us gs
  | _, _, .nil, _, h, _ => by simp at h
  | (n, v) :: us, (k, g) :: gs, .cons h r, nd, e, e2 => by
    have h1 : n = k := h.1
    subst h1
    simp only [List.lookup_cons] at e e2
    unfold putM
    by_cases hk : n = f
    · subst hk
      rw [beq_self_eq_true] at e e2
      cases e
      cases e2
      rw [if_pos rfl]
      obtain ⟨_, x', ws, e1, n1, n2, f1, c1⟩ := h
      have e1' : V.ref x = V.ref x' := e1
      cases e1'
      have nd' : (V.ref x :: ownV us gs).Nodup := nd
      refine ⟨.cons ⟨rfl, x, ws', rfl, n1, n2, upd_same, hc⟩ (mKeep r fun r' ws2 h' h2 => ?_), rfl, ?_⟩
      · rw [upd_ne (fun c => (List.nodup_cons.mp nd').1 (by rw [← c]; exact h'))]
        exact h2
      · show V.ref x ∈ V.ref x :: ownV us gs
        exact List.mem_cons_self
    · have hb : (f == n) = false := beq_eq_false_iff_ne.mpr (Ne.symm hk)
      rw [hb] at e e2
      rw [if_neg hk]
      match g, h, nd with
      | .p q0, h, nd =>
        obtain ⟨i1, i2, i3⟩ := mApp hc r nd e e2
        exact ⟨.cons ⟨rfl, h.2⟩ i1, i2, i3⟩
      | .l q0, h, nd =>
        have nd' : (v :: ownV us gs).Nodup := nd
        obtain ⟨i1, i2, i3⟩ := mApp hc r (List.nodup_cons.mp nd').2 e e2
        obtain ⟨_, x', ws, e1, n1, n2, f1, c1⟩ := h
        have e1' : v = V.ref x' := e1
        refine ⟨.cons ⟨rfl, x', ws, e1, n1, n2, ?_, c1⟩ i1, ?_, List.mem_cons_of_mem _ i3⟩
        · rw [upd_ne (fun c => (List.nodup_cons.mp nd').1 (by rw [e1', c]; exact i3))]
          exact f1
        · show v :: ownV us (putM f (.l q') gs) = v :: ownV us gs
          rw [i2]
/-- a field is set -/
theorem mPut {f : Str} {m : MF} {v : V} (hv : mOk B F a dx v m) : ∀ {us : List (Str × V)} {gs : List (Str × MF)}, Paired (mRel B F a dx) us gs → Paired (mRel B F a dx) (putF f v us) (putM f m gs)
  | _, _, .nil => .cons ⟨rfl, hv⟩ .nil
  | (n, u) :: _, (k, g) :: _, .cons h r => by
    have h1 : n = k := h.1
    subst h1
    unfold putF putM
    by_cases e : n = f
    · rw [if_pos e, if_pos e]; exact .cons ⟨rfl, hv⟩ r
    · rw [if_neg e, if_neg e]; exact .cons ⟨rfl, h.2⟩ (mPut hv r)
theorem own_put {f : Str} {m : MF} {v w : V} : ∀ {us : List (Str × V)} {gs : List (Str × MF)}, Paired (mRel B F a dx) us gs → w ∈ ownV (putF f v us) (putM f m gs) → ((∃ q, m = .l q) ∧ w = v) ∨ w ∈ ownV us gs
  | _, _, .nil, h => by
    match m, h with
    | .p _, h => cases h
    | .l q, h => exact .inl ⟨⟨q, rfl⟩, List.mem_singleton.mp h⟩
  | (n, u) :: us, (k, g) :: gs, .cons z r, h => by
    have h1 : n = k := z.1
    subst h1
    unfold putF putM at h
    by_cases e : n = f
    · rw [if_pos e, if_pos e] at h
      have h' : ((∃ q, m = .l q) ∧ w = v) ∨ w ∈ ownV us gs := by
        match m, h with
        | .p _, h => exact .inr h
        | .l q, h => exact (List.mem_cons.mp h).imp (fun e => ⟨⟨q, rfl⟩, e⟩) id
      rcases h' with h' | h'
      · exact .inl h'
      · refine .inr ?_
        match g with
        | .p _ => exact h'
        | .l _ => exact List.mem_cons_of_mem _ h'
    · rw [if_neg e, if_neg e] at h
      match g, z, h with
      | .p _, z, h => exact own_put (us := us) (gs := gs) r h
      | .l _, z, h =>
        rcases List.mem_cons.mp h with h | h
        · exact .inr (by rw [h]; exact List.mem_cons_self)
        · exact (own_put (us := us) (gs := gs) r h).imp id (List.mem_cons_of_mem _)
theorem own_nodup {f : Str} {m : MF} {v : V} : ∀ {us : List (Str × V)} {gs : List (Str × MF)}, Paired (mRel B F a dx) us gs → (ownV us gs).Nodup → (∀ q, m = .l q → v ∉ ownV us gs) → (ownV (putF f v us) (putM f m gs)).Nodup
  | _, _, .nil, _, _ => by
    match m with
    | .p _ => exact .nil
    | .l _ => exact List.pairwise_singleton _ _
  | (n, u) :: us, (k, g) :: gs, .cons z r, nd, h => by
    have h1 : n = k := z.1
    subst h1
    unfold putF putM
    by_cases e : n = f
    · rw [if_pos e, if_pos e]
      have nd' : (ownV us gs).Nodup := by
        match g, nd with
        | .p _, nd => exact nd
        | .l _, nd => exact (List.nodup_cons.mp nd).2
      match m, h with
      | .p _, h => exact nd'
      | .l q, h =>
        refine List.nodup_cons.mpr ⟨fun c => h q rfl ?_, nd'⟩
        match g with
        | .p _ => exact c
        | .l _ => exact List.mem_cons_of_mem _ c
    · rw [if_neg e, if_neg e]
      match g, z, nd, h with
      | .p _, z, nd, h => exact own_nodup (us := us) (gs := gs) r nd h
      | .l _, z, nd, h =>
        have nd' := List.nodup_cons.mp nd
        refine List.nodup_cons.mpr ⟨fun c => ?_, own_nodup (us := us) (gs := gs) r nd'.2 fun q hq hv => h q hq (List.mem_cons_of_mem _ hv)⟩
        rcases own_put (us := us) (gs := gs) r c with ⟨⟨q, hq⟩, c⟩ | c
        · have c' : u = v := c
          exact h q hq (by rw [← c']; exact List.mem_cons_self)
        · exact nd'.1 c
end
theorem oo_at {s : Sta} {σ τ : St} {Γ T : List Slot} {i : Nat} {C a : Addr} {gs : List (Str × MF)} (E : EnvOk s (σ ++ τ) (Γ ++ T)) (hl : σ.length = Γ.length) (hi : Γ[i]? = some (oo C gs a)) :
    σ[i]? = some (some (.ref a)) ∧ ∃ dx vs, dx ≠ a ∧ s.F i a = some (.ins C dx vs) ∧ s.F i dx = some (.own a) ∧ Paired (mRel s.B (s.F i) a dx) vs gs ∧ (ownV vs gs).Nodup := by
  have hlt := (List.getElem?_eq_some_iff.mp hi).1
  obtain ⟨e0, q⟩ := E.sl i _ (by rw [List.getElem?_append_left hlt]; exact hi)
  rw [List.getElem?_append_left (by omega)] at e0
  refine ⟨?_, q⟩
  rw [List.getElem?_eq_getElem (by omega)] at e0 ⊢
  exact congrArg some e0
section
variable {X : Cx} {f x z : Str} {px pz apos cpos pos pos' : Pos} {Γ Γ1 Γ2 : List Slot} {R : Ty α} {C a : Addr} {gs gs' : List (Str × MF)} {i j : Nat}
/-- x.f, a pure field -/
theorem x_fldM {y : α} (hi : Γ[i]? = some (oo C gs a)) (hl : gs.lookup f = some (.p (fld R y))) (c : Cls X.K C) (n : NoAttr X.K C f) (hN : X.N[i]? = some x := by rfl) (hv : Vis X.env.scope x := by first | exact Or.inl rfl | exact Or.inr (Or.inl rfl) | exact Or.inr (Or.inr rfl))
    (hd : (x == ("__debug__" : Str)) = false := by decide) (hcd : (x == ("__classdict__" : Str)) = false := by decide) (hb : attributeBase (.Name x px) f X.env (eval (.Name x px) X.env) = eval (.Name x px) X.env := by rfl) :
    EX X (.Attribute (.Name x px) f pos) Γ (pu R y) Γ := by
  intro T _ τ σ s hs E Q hQ
  refine re_of (pe_fld (pe_var hN hv hd hcd) hb) ?_
  obtain ⟨hσ, dx, vs, nd, f1, f2, r, _⟩ := oo_at E hs hi
  obtain ⟨u, hu, hp⟩ := mGet r hl
  exact ⟨.ref a, hσ, a, C, dx, vs, u, rfl, E.subF i a _ f1, c, n, hu, hQ u s (E.push0 (pu R y) ⟨rfl, u, rfl, hp⟩) rfl (Evo.refl s)⟩
/-- x.f[z], f an owned list, z a variable -/
theorem x_fldIx {xs : List α} [Inhabited α] {k : Int} (hi : Γ[i]? = some (oo C gs a)) (hj : Γ[j]? = some (pu tI k)) (hl : gs.lookup f = some (.l (lc R xs))) (hk : InIx xs.length k) (c : Cls X.K C) (n : NoAttr X.K C f) (hN : X.N[i]? = some x := by rfl) (hv : Vis X.env.scope x := by first | exact Or.inl rfl | exact Or.inr (Or.inl rfl) | exact Or.inr (Or.inr rfl))
    (hd : (x == ("__debug__" : Str)) = false := by decide) (hcd : (x == ("__classdict__" : Str)) = false := by decide) (hN2 : X.N[j]? = some z := by rfl) (hv2 : Vis X.env.scope z := by first | exact Or.inl rfl | exact Or.inr (Or.inl rfl) | exact Or.inr (Or.inr rfl)) (hd2 : (z == ("__debug__" : Str)) = false := by decide) (hcd2 : (z == ("__classdict__" : Str)) = false := by decide)
    (hb : attributeBase (.Name x px) f X.env (eval (.Name x px) X.env) = eval (.Name x px) X.env := by rfl) (hp : PlainIx (.Name z pz) := by exact fun _ _ => rfl) :
    EX X (.Subscript (.Attribute (.Name x px) f apos) (.Name z pz) pos) Γ (pu R (ix xs k)) Γ := by
  intro T _ τ σ s hs E Q hQ
  refine re_of (pe_ix ix_list (pe_fld (pe_var hN hv hd hcd) hb) (pe_var hN2 hv2 hd2 hcd2) hp) ?_
  obtain ⟨hσ, dx, vs, nd, f1, f2, r, _⟩ := oo_at E hs hi
  obtain ⟨u, hu, l, ws, eu, n1, n2, fl, cl⟩ := mGet r hl
  subst eu
  have hjl := (List.getElem?_eq_some_iff.mp hj).1
  obtain ⟨_, vj, ej, hyj⟩ := E.sl j _ (by rw [List.getElem?_append_left hjl]; exact hj)
  rw [List.getElem?_append_left (by omega)] at ej
  have hσj : σ[j]? = some (some vj) := by
    rw [List.getElem?_eq_getElem (by omega)] at ej ⊢
    exact congrArg some ej
  have hvj : vj = .int k := hyj
  subst hvj
  obtain ⟨v, h1, h2⟩ := ix_of (F := R.rep s.B) cl hk
  refine ⟨.ref a, hσ, a, C, dx, vs, .ref l, rfl, E.subF i a _ f1, c, n, hu, .int k, hσj, l, ws, k, v, rfl, rfl, SqL.of (E.subF i l _ fl), h1, ?_⟩
  exact hQ v s (E.push0 (pu R (ix xs k)) ⟨rfl, v, rfl, h2⟩) rfl (Evo.refl s)
/-- len(x.f), f an owned list -/
theorem x_fldLen {xs : List α} {nm : Str} {pn : Pos} (hi : Γ[i]? = some (oo C gs a)) (hl : gs.lookup f = some (.l (lc R xs))) (c : Cls X.K C) (n : NoAttr X.K C f) (hm : X.mg nm = none) (hv0 : bootBuiltins nm = some (.builtin "len")) (hN : X.N[i]? = some x := by rfl) (hv : Vis X.env.scope x := by first | exact Or.inl rfl | exact Or.inr (Or.inl rfl) | exact Or.inr (Or.inr rfl))
    (hd : (x == ("__debug__" : Str)) = false := by decide) (hcd : (x == ("__classdict__" : Str)) = false := by decide) (hb : attributeBase (.Name x px) f X.env (eval (.Name x px) X.env) = eval (.Name x px) X.env := by rfl)
    (hg : Gl X nm := by rfl) (hn : nm ≠ "__name__" := by decide) (hdb : (nm == ("__debug__" : Str)) = false := by decide)
    (he : starEach (.Attribute (.Name x px) f apos :: []) X.env = (false, eval (.Attribute (.Name x px) f apos) X.env) :: starEach [] X.env := by rfl) (hpl : (backTo pos (starEach [] X.env)).any (·.1) = false := by rfl) :
    EX X (.Call (.Name nm pn) [.Attribute (.Name x px) f apos] [] pos) Γ (pu tI (xs.length : Int)) Γ := by
  intro T _ τ σ s hs E Q hQ
  refine re_of (pe_callB call_len_seq hg hm hv0 (pa_cons (pe_fld (pe_var hN hv hd hcd) hb) pa_nil he) hn hdb he hpl) ?_
  obtain ⟨hσ, dx, vs, nd, f1, f2, r, _⟩ := oo_at E hs hi
  obtain ⟨u, hu, l, ws, eu, n1, n2, fl, cl⟩ := mGet r hl
  subst eu
  refine ⟨.ref a, hσ, a, C, dx, vs, .ref l, rfl, E.subF i a _ f1, c, n, hu, l, ws, rfl, .inl (SqL.of (E.subF i l _ fl)), ?_⟩
  have hlen : ws.length = xs.length := paired_len (show Paired (R.rep s.B) ws xs from cl)
  rw [hlen]
  exact hQ _ s (E.push0 (pu tI (xs.length : Int)) ⟨rfl, _, rfl, rfl⟩) rfl (Evo.refl s)
/-- x.f.append(z), f an owned list, z a variable -/
theorem s1_appM {xs : List α} {y : α} (hi : Γ[i]? = some (oo C gs a)) (hj : Γ[j]? = some (pu R y)) (hl : gs.lookup f = some (.l (lc R xs))) (hz : xs.length < sizeLine) (hE : Γ.set i (oo C (putM f (.l (lc R (xs ++ [y]))) gs) a) = Γ2) (c : Cls X.K C) (n : NoAttr X.K C f) (hN : X.N[i]? = some x := by rfl) (hv : Vis X.env.scope x := by first | exact Or.inl rfl | exact Or.inr (Or.inl rfl) | exact Or.inr (Or.inr rfl))
    (hd : (x == ("__debug__" : Str)) = false := by decide) (hcd : (x == ("__classdict__" : Str)) = false := by decide) (hN2 : X.N[j]? = some z := by rfl) (hv2 : Vis X.env.scope z := by first | exact Or.inl rfl | exact Or.inr (Or.inl rfl) | exact Or.inr (Or.inr rfl)) (hd2 : (z == ("__debug__" : Str)) = false := by decide) (hcd2 : (z == ("__classdict__" : Str)) = false := by decide)
    (hb : attributeBase (.Name x px) f X.env (eval (.Name x px) X.env) = eval (.Name x px) X.env := by rfl)
    (hbase : attributeBase (.Attribute (.Name x px) f apos) "append" X.env (eval (.Attribute (.Name x px) f apos) X.env) = eval (.Attribute (.Name x px) f apos) X.env := by rfl)
    (hfew : ((backTo cpos (starEach (.Name z pz :: []) X.env)).all (fun x => !x.1) && (backToKw cpos (keywordEach [] X.env)).all (fun x => x.1.isSome)
      && decide ((Expr.Name z pz :: []).length + ([] : List Keyword).length + (if ([] : List Keyword).isEmpty then 0 else 1) < 30)) = true := by rfl)
    (hline : (pos'.endLine == cpos.line) = true := by rfl) (hs : starEach (.Name z pz :: []) X.env = (false, eval (.Name z pz) X.env) :: starEach [] X.env := by rfl) (hplain : (backTo cpos (starEach [] X.env)).any (·.1) = false := by rfl)
    (hsw : swapsWith (.Call (.Attribute (.Attribute (.Name x px) f apos) "append" pos') [.Name z pz] [] cpos) none pos.line X.env = pure false := by rfl) :
    S1 X (.Expr (.Call (.Attribute (.Attribute (.Name x px) f apos) "append" pos') [.Name z pz] [] cpos) pos) Γ (fun r => r = .nx Γ2) := by
  subst hE
  intro T _ τ σ s hl' E D hD
  refine rs_of (ps_expr (pe_bm PySem.F.plainAttrs_list PySem.F.slot_list_append PySem.F.type_list_append mt_append (pe_fld (pe_var hN hv hd hcd) hb) (pa_cons (pe_var hN2 hv2 hd2 hcd2) pa_nil hs) hbase hfew hline hs hplain) hsw) ?_
  obtain ⟨hσ, dx, vs, nd, f1, f2, r, no⟩ := oo_at E hl' hi
  obtain ⟨u, hu, l, ws, eu, n1, n2, fl, cl⟩ := mGet r hl
  subst eu
  have hlt := (List.getElem?_eq_some_iff.mp hi).1
  have hjl := (List.getElem?_eq_some_iff.mp hj).1
  obtain ⟨_, vj, ej, hyj⟩ := E.sl j _ (by rw [List.getElem?_append_left hjl]; exact hj)
  rw [List.getElem?_append_left (by omega)] at ej
  have hσj : σ[j]? = some (some vj) := by
    rw [List.getElem?_eq_getElem (by omega)] at ej ⊢
    exact congrArg some ej
  have hlH : s.H l = some (.lst ws) := E.subF i l _ fl
  have cl' : Paired (R.rep s.B) ws xs := cl
  obtain ⟨g1, g2, g3⟩ := mApp (q' := lc R (xs ++ [y])) (ws' := ws ++ [vj]) (paired_app cl' (.cons hyj .nil)) r no hl hu
  obtain ⟨E4, e4⟩ := E.writeF (S' := oo C (putM f (.l (lc R (xs ++ [y]))) gs) a) (i := i) (p := l) (F' := upd (s.F i) l (.lst (ws ++ [vj]))) (ob' := .lst (ws ++ [vj])) (by simp; omega) (by rw [fl]; simp) (fun b hb => upd_ne hb) upd_same (by
    rw [List.getElem?_append_left (by omega), hσ]
    exact ⟨rfl, dx, vs, nd, by rw [upd_ne (Ne.symm n1)]; exact f1, by rw [upd_ne (Ne.symm n2)]; exact f2, g1, by rw [g2]; exact no⟩)
  rw [set_app hlt] at E4
  refine ⟨.ref a, hσ, a, C, dx, vs, .ref l, rfl, E.subF i a _ f1, c, n, hu, .inl ⟨rfl, ws, SqL.of hlH⟩, vj, hσj, l, ws, vj, rfl, rfl, hlH, by rw [paired_len cl']; exact hz, ?_⟩
  have q := hD _ rfl σ _ (by simp; omega) E4 e4
  exact q
/-- x.f = e, a pure value -/
theorem s1_fldP {value : Expr} {y : α} (hv0 : EX X value Γ (pu R y) Γ1) (hi1 : Γ1[i]? = some (oo C gs a)) (hE : Γ1.set i (oo C (putM f (.p (fld R y)) gs) a) = Γ2) (c : Cls X.K C) (n : NoAttr X.K C f) (hz : gs.length < 1000) (hN : X.N[i]? = some x := by rfl) (hv : Vis X.env.scope x := by first | exact Or.inl rfl | exact Or.inr (Or.inl rfl) | exact Or.inr (Or.inr rfl))
    (hd : (x == ("__debug__" : Str)) = false := by decide) (hcd : (x == ("__classdict__" : Str)) = false := by decide) (hs : swapsWith value (some (.Attribute (.Name x px) f pos')) pos.line X.env = pure false := by rfl) :
    S1 X (.Assign [.Attribute (.Name x px) f pos'] value pos) Γ (fun r => r = .nx Γ2) := by
  subst hE
  intro T _ τ σ s hl E D hD
  refine rs_of (ps_fld (pe_var hN hv hd hcd) peR hs) ?_
  refine hv0 T τ σ s hl E _ fun v s1 E1 l1 e1 => ?_
  have hlt1 := (List.getElem?_eq_some_iff.mp hi1).1
  have hy := pu_top E1
  obtain ⟨E2, e2⟩ := E1.pop
  obtain ⟨hσ, dx, vs, nd, f1, f2, r, no⟩ := oo_at E2 (by omega) hi1
  have r' : Paired (mRel s1.B (upd ((s1.cut (Γ1 ++ T).length).F i) a (.ins C dx (putF f v vs))) a dx) vs gs := mKeep r fun q ws h h2 => by
    obtain ⟨q', ws', e, n1, _⟩ := own_in r h
    cases e
    rw [upd_ne n1]; exact h2
  obtain ⟨E4, e4⟩ := E2.writeF (S' := oo C (putM f (.p (fld R y)) gs) a) (i := i) (p := a) (F' := upd ((s1.cut (Γ1 ++ T).length).F i) a (.ins C dx (putF f v vs))) (ob' := .ins C dx (putF f v vs)) (by simp; omega) (by rw [f1]; simp) (fun b hb => upd_ne hb) upd_same (by
    rw [List.getElem?_append_left (by omega), hσ]
    refine ⟨rfl, dx, _, nd, upd_same, by rw [upd_ne nd]; exact f2, mPut (m := .p (fld R y)) (show (fld R y).p s1.B v from hy) r', own_nodup r' no fun q hq => by cases hq⟩)
  rw [set_app hlt1] at E4
  refine ⟨.ref a, hσ, a, C, dx, vs, rfl, E2.subF i a _ f1, c, n, ?_, ?_⟩
  · rw [Paired.length r]; exact hz
  · exact hD _ rfl σ _ (by simp; omega) E4 ((e1.trans e2).trans e4)
/-- x.f = e, a new list -/
theorem s1_fldL {value : Expr} {ys : List α} (hv0 : EX X value Γ (ol R ys) Γ1) (hi1 : Γ1[i]? = some (oo C gs a)) (hE : Γ1.set i (oo C (putM f (.l (lc R ys)) gs) a) = Γ2) (c : Cls X.K C) (n : NoAttr X.K C f) (hz : gs.length < 1000) (hN : X.N[i]? = some x := by rfl) (hv : Vis X.env.scope x := by first | exact Or.inl rfl | exact Or.inr (Or.inl rfl) | exact Or.inr (Or.inr rfl))
    (hd : (x == ("__debug__" : Str)) = false := by decide) (hcd : (x == ("__classdict__" : Str)) = false := by decide) (hs : swapsWith value (some (.Attribute (.Name x px) f pos')) pos.line X.env = pure false := by rfl) :
    S1 X (.Assign [.Attribute (.Name x px) f pos'] value pos) Γ (fun r => r = .nx Γ2) := by
  subst hE
  intro T _ τ σ s hl E D hD
  refine rs_of (ps_fld (pe_var hN hv hd hcd) peR hs) ?_
  refine hv0 T τ σ s hl E _ fun v s1 E1 l1 e1 => ?_
  have hlt1 := (List.getElem?_eq_some_iff.mp hi1).1
  have hl1 : (σ ++ τ).length = (Γ1 ++ T).length := by have := E1.len; simp at this ⊢; omega
  obtain ⟨l, ws, ev, fl, rl⟩ := E1.top
  cases ev
  have hi2 : ((Γ1 ++ T) ++ [ol R ys])[i]? = some (oo C gs a) := by rw [List.getElem?_append_left (by simp; omega), List.getElem?_append_left hlt1]; exact hi1
  have E1' : EnvOk s1 (σ ++ (τ ++ [some (.ref l)])) (Γ1 ++ (T ++ [ol R ys])) := by simpa using E1
  obtain ⟨hσ, dx, vs, nd, f1, f2, r, no⟩ := oo_at E1' (by omega) hi1
  have fl' : s1.F (Γ1 ++ T).length = one l (.lst ws) := fl
  have hne : i ≠ (Γ1 ++ T).length := by simp; omega
  have notl : ∀ b, s1.F i b ≠ none → b ≠ l := fun b hb e => hne (E1.disF i (Γ1 ++ T).length b hb (by rw [fl', e, one_self]; simp))
  have hal : a ≠ l := notl a (by rw [f1]; simp)
  have hdl : dx ≠ l := notl dx (by rw [f2]; simp)
  obtain ⟨E3, e3⟩ := E1.absorb (i := i) (by simp; omega)
  have u1 : ∀ b u, s1.F i b = some u → un2 (s1.F i) (s1.F (Γ1 ++ T).length) b = some u := fun b u h => un2_l h
  have u2 : un2 (s1.F i) (s1.F (Γ1 ++ T).length) l = some (.lst ws) := by
    unfold un2
    cases e : s1.F i l with
    | none => rw [fl']; exact one_self
    | some w => exact absurd rfl (notl l (by rw [e]; simp))
  generalize hU : un2 (s1.F i) (s1.F (Γ1 ++ T).length) = U at E3 e3 u1 u2
  have r' : Paired (mRel s1.B (upd U a (.ins C dx (putF f (.ref l) vs))) a dx) vs gs := mKeep r fun q ws' h h2 => by
    obtain ⟨q', ws2, e, n1, _⟩ := own_in r h
    cases e
    rw [upd_ne n1]; exact u1 _ _ h2
  obtain ⟨E4, e4⟩ := E3.writeF (S' := oo C (putM f (.l (lc R ys)) gs) a) (i := i) (p := a) (F' := upd U a (.ins C dx (putF f (.ref l) vs))) (ob' := .ins C dx (putF f (.ref l) vs)) (by simp; omega) (by
      show (if i = i then U else _) a ≠ none
      rw [if_pos rfl, u1 _ _ f1]; simp) (fun b hb => by
      show _ = (if i = i then U else _) b
      rw [if_pos rfl]
      exact upd_ne hb) upd_same (by
      rw [List.getElem?_append_left (by omega), hσ]
      refine ⟨rfl, dx, _, nd, upd_same, by rw [upd_ne nd]; exact u1 _ _ f2, mPut (m := .l (lc R ys)) ⟨l, ws, rfl, Ne.symm hal, Ne.symm hdl, by rw [upd_ne (Ne.symm hal)]; exact u2, rl⟩ r', own_nodup r' no fun q _ hv' => ?_⟩
      obtain ⟨q', ws', e, _, _, h4⟩ := own_in r hv'
      cases e
      exact notl l (by rw [h4]; simp) rfl)
  rw [List.set_set, set_app hlt1] at E4
  refine ⟨.ref a, hσ, a, C, dx, vs, rfl, E1.subF i a _ f1, c, n, ?_, ?_⟩
  · rw [Paired.length r]; exact hz
  · exact hD _ rfl σ _ (by simp; omega) E4 ((e1.trans e3).trans e4)
end
/-- o.m(e, ..), o an owned instance in the slot i, m a def of the class that may change it -/
theorem x_mcall {A : Type} {pre : A → Prop} {W0 W1 : A → Addr → Slot} {Gr : A → List Slot} {S : A → Slot} {X : Cx} {C a f : Addr} {k i : Nat} {m xn : Str} {fd : FuncData} {ps : List Str} {S' : Slot} {e : Expr} {es : List Expr} {px apos pos : Pos} {Γ Γ1 Γ2 Ss : List Slot} {pl : Sem Bool} {gs gs1 gs2 : List (Str × MF)}
    (hi : Γ[i]? = some (oo C gs a)) (c : Cls X.K C) (hm : Meth X.K C m f) (F : FnOk X.prog X.w X.K X.mg X.base CX0 k f fd ps (spM pre W0 Gr W1 S)) (hr : Room k X.A) (hb : Binds X.K fd ps []) (ha : EA X (e :: es) Γ Ss Γ1) (hi1 : Γ1[i]? = some (oo C gs1 a)) (hno : m ∉ gs.map (·.1)) (x : A) (hx : pre x) (hG : Ss = Gr x) (h0 : W0 x a = oo C gs1 a) (h1 : W1 x a = oo C gs2 a) (hS : S x = S') (hE : Γ1.set i (oo C gs2 a) = Γ2)
    (hN : X.N[i]? = some xn := by rfl) (hv : Vis X.env.scope xn := by first | exact Or.inl rfl | exact Or.inr (Or.inl rfl) | exact Or.inr (Or.inr rfl)) (hd : (xn == ("__debug__" : Str)) = false := by decide) (hcd : (xn == ("__classdict__" : Str)) = false := by decide)
    (hst : starEach (e :: es) X.env = (false, eval e X.env) :: starEach es X.env := by rfl) (hpl : (backTo pos (starEach es X.env)).any (·.1) = false := by rfl)
    (ht : eval (.Call (.Attribute (.Name xn px) m apos) (e :: es) [] pos) X.env = (do
      let ov ← eval (.Name xn px) X.env
      standAt apos.atName
      let (f, first) ← holding [ov] (getMethod ov m pl)
      callWith pos f first (backTo pos (starEach (e :: es) X.env)) (backToKw pos (keywordEach [] X.env))) := by rfl) : EX X (.Call (.Attribute (.Name xn px) m apos) (e :: es) [] pos) Γ S' Γ2 := by
  subst hS
  subst hE
  intro T _ τ σ s hl E Q hQ
  refine re_of (pe_meth (pe_var hN hv hd hcd) c hm F hr hb .nil pass0 paR hst hpl ht) ?_
  obtain ⟨hσ, dx, vs, nd, f1, f2, r, _⟩ := oo_at E hl hi
  refine ⟨.ref a, hσ, a, dx, vs, rfl, E.subF i a _ f1, mNone r hno, ?_⟩
  refine ha T τ σ s hl E _ fun ws s1 E1 l1 lw e1 => ?_
  have hlt1 := (List.getElem?_eq_some_iff.mp hi1).1
  have lw2 : ws.length = Ss.length := by have := E1.len; simp at this; have := E.len; simp at this; omega
  have lt : τ.length = T.length := by have := E.len; simp at this; omega
  have E2 := E1.push0 (o := some (.ref a)) un rfl
  have hi2 : (((Γ1 ++ T) ++ Ss) ++ [un])[i]? = some (oo C gs1 a) := by
    rw [List.getElem?_append_left (by simp; omega), List.getElem?_append_left (by simp; omega), List.getElem?_append_left hlt1]; exact hi1
  obtain ⟨E3, e3⟩ := E2.hand (S1 := un) (S2 := oo C gs1 a) (j := ((Γ1 ++ T) ++ Ss).length) (o := some (.ref a)) hi2 (by simp) (by simp; omega) rfl (by
    have q := E2.sl i _ hi2
    have : ((((σ ++ τ) ++ ws.map some) ++ [some (V.ref a)])[i]?).join = some (.ref a) := by
      rw [List.getElem?_append_left (by simp; omega), List.getElem?_append_left (by simp; omega), List.getElem?_append_left (by omega), hσ]; rfl
    rw [this] at q
    exact q)
  have eσ : (((σ ++ τ) ++ ws.map some) ++ [some (V.ref a)]).set ((Γ1 ++ T) ++ Ss).length (some (.ref a)) = (σ ++ τ) ++ (ws.map some ++ [some (V.ref a)]) := by
    rw [List.set_append_right _ _ (by simp; omega), show ((Γ1 ++ T) ++ Ss).length - ((σ ++ τ) ++ ws.map some).length = 0 by simp; omega]
    simp
  have eΓ : ((((Γ1 ++ T) ++ Ss) ++ [un]).set i un).set ((Γ1 ++ T) ++ Ss).length (oo C gs1 a) = (Γ1.set i un ++ T) ++ (Ss ++ [oo C gs1 a]) := by
    have q1 : (((Γ1 ++ T) ++ Ss) ++ [un]).set i un = ((Γ1.set i un ++ T) ++ Ss) ++ [un] := by
      rw [List.set_append_left _ _ (by simp; omega), List.set_append_left _ _ (by simp; omega), List.set_append_left _ _ hlt1]
    rw [q1, List.set_append_right _ _ (by simp), show ((Γ1 ++ T) ++ Ss).length - ((Γ1.set i un ++ T) ++ Ss).length = 0 by simp]
    simp
  rw [eσ, eΓ] at E3
  have hl2 : (σ ++ τ).length = (Γ1.set i un ++ T).length := by simp; omega
  obtain ⟨s4, h4, E4, e4⟩ := E3.rot hl2
  rw [← h0] at E4
  show spM pre W0 Gr W1 S (.ref a :: (ws ++ [])) s1.H Q E0
  have hH : s1.H = s4.H := h4.symm
  rw [hH]
  refine n_callM x hx hG hl2 E4 fun v s5 E5 e5 => ?_
  rw [h1] at E5
  have E5' : EnvOk s5 ((σ ++ τ) ++ ([some (V.ref a)] ++ [some v])) ((Γ1.set i un ++ T) ++ ([oo C gs2 a] ++ [S x])) := by simpa using E5
  have hm2 : ((Γ1.set i un ++ T) ++ ([oo C gs2 a] ++ [S x]))[(Γ1.set i un ++ T).length]? = some (oo C gs2 a) := by
    rw [List.getElem?_append_right (Nat.le_refl _)]; simp
  obtain ⟨E6, e6⟩ := E5'.hand (S1 := un) (S2 := oo C gs2 a) (j := i) (o := some (.ref a)) hm2 (by simp; omega) (by simp; omega) rfl (by
    have q := E5'.sl _ _ hm2
    have : (((σ ++ τ) ++ ([some (V.ref a)] ++ [some v]))[(Γ1.set i un ++ T).length]?).join = some (.ref a) := by
      rw [List.getElem?_append_right (by omega), show (Γ1.set i un ++ T).length - (σ ++ τ).length = 0 by omega]; rfl
    rw [this] at q
    exact q)
  have eσ2 : ((σ ++ τ) ++ ([some (V.ref a)] ++ [some v])).set i (some (.ref a)) = (σ ++ τ) ++ ([some (V.ref a)] ++ [some v]) := by
    rw [List.set_append_left _ _ (by simp; omega), List.set_append_left _ _ (by omega)]
    congr 2
    obtain ⟨q1, q2⟩ := List.getElem?_eq_some_iff.mp hσ
    refine List.ext_getElem? fun j => ?_
    by_cases hj : i = j
    · subst hj; rw [List.getElem?_set_self q1, hσ]
    · rw [List.getElem?_set_ne hj]
  have eΓ2 : (((Γ1.set i un ++ T) ++ ([oo C gs2 a] ++ [S x])).set (Γ1.set i un ++ T).length un).set i (oo C gs2 a) = (Γ1.set i (oo C gs2 a) ++ T) ++ ([un] ++ [S x]) := by
    rw [List.set_append_right _ _ (Nat.le_refl _), Nat.sub_self, List.set_append_left _ _ (by simp; omega), List.set_append_left _ _ (by simpa using hlt1), List.set_set]
    rfl
  rw [eσ2, eΓ2] at E6
  obtain ⟨s7, E7, e7, h7, _⟩ := E6.mid (by simp; omega) rfl
  have q := hQ v s7 (by simpa using E7) (by simp; omega) ((((((e1.trans e3).trans e4).trans e5).trans e6).trans e7))
  rw [h7] at q
  exact q
/-- an instance made, its address told -/
theorem sx_open {X : Cx} {sts : List Stmt} {Γ : List Slot} {P : Res → Prop} {W : Addr → Slot} {i : Nat} (hi : Γ[i]? = some (exS W)) (h : ∀ a, SX X sts (Γ.set i (W a)) P) : SX X sts Γ P := by
  intro T _ τ σ s hl E D hD
  have hlt := (List.getElem?_eq_some_iff.mp hi).1
  obtain ⟨a, ha⟩ := E.sl i _ (by rw [List.getElem?_append_left hlt]; exact hi)
  refine h a T τ σ s (by simpa using hl) ⟨E.sub, E.subF, E.dis, E.disF, by simpa using E.len, fun j S2 h2 => ?_, fun j h2 => E.out j (by simpa using h2)⟩ D hD
  by_cases q : j = i
  · subst q
    rw [List.getElem?_append_left (by simpa using hlt), List.getElem?_set_self hlt] at h2
    cases h2
    exact ha
  · have : (Γ.set i (W a) ++ T)[j]? = (Γ ++ T)[j]? := by
      rw [← set_app hlt, List.getElem?_set_ne (Ne.symm q)]
    rw [this] at h2
    exact E.sl j S2 h2
theorem Wk.any {Γ : List Slot} {S S' : Slot} {i : Nat} (hi : Γ[i]? = Option.some S) (h : ∀ B F o, S.p B F o → S'.p B F o) : Wk Γ (Γ.set i S') := ⟨by simp, fun T τ σ s hl E => by
  have hlt := (List.getElem?_eq_some_iff.mp hi).1
  have hi' : (Γ ++ T)[i]? = Option.some S := by rw [List.getElem?_append_left hlt]; exact hi
  obtain ⟨E2, e2⟩ := E.turn (S' := S') (F' := s.F i) hi' (fun _ _ h => h) (h _ _ _ (E.sl i _ hi'))
  rw [set_app hlt] at E2
  exact ⟨_, E2, e2, rfl⟩⟩
theorem Wk.oo0 {C a : Addr} {Γ : List Slot} {i : Nat} (hi : Γ[i]? = Option.some (oi C [] a)) : Wk Γ (Γ.set i (Fw.oo C [] a)) := Wk.any hi fun B F o h => by
  obtain ⟨e, dx, vs, nd, f, r⟩ := h
  cases r
  exact ⟨e, dx, [], nd, by rw [f]; exact two_x, by rw [f]; exact two_dx nd, .nil, .nil⟩
/-- what a frozen field is -/
def MF.fz : MF → Fld
  | .p q => q
  | .l q => ⟨fun B v => ∃ r ws, v = .ref r ∧ B r = Option.some (.lst ws) ∧ q.c B ws, fun s h => let ⟨r, ws, e, f, c⟩ := h; ⟨r, ws, e, s _ _ f, q.mono s c⟩⟩
theorem Wk.frzM {β : Type} {Γ : List Slot} {C a : Addr} {gs : List (Str × MF)} {i : Nat} {fl : β → List (Str × Fld)} {b : β} (hi : Γ[i]? = Option.some (Fw.oo C gs a)) (hf : gs.map (fun g => (g.1, g.2.fz)) = fl b) : Wk Γ (Γ.set i (Fw.pu (tObj C fl) b)) := ⟨by simp, fun T τ σ s hl E => by
  have hl2 := (List.getElem?_eq_some_iff.mp hi).1
  have hi' : (Γ ++ T)[i]? = Option.some (Fw.oo C gs a) := by rw [List.getElem?_append_left hl2]; exact hi
  obtain ⟨E', e'⟩ := E.freeze (S' := Fw.pu (tObj C fl) b) (i := i) (by simp; omega) fun B' s1 s2 => by
    obtain ⟨e, dx, vs, nd, f1, f2, r, _⟩ := E.sl i _ hi'
    refine ⟨rfl, .ref a, e, a, dx, vs, rfl, s2 _ _ f1, s2 _ _ f2, ?_⟩
    rw [← hf]
    have key : ∀ {us : List (Str × V)} {gs : List (Str × MF)}, Paired (mRel s.B (s.F i) a dx) us gs → FldsOk B' us (gs.map (fun g => (g.1, g.2.fz))) := fun {us gs} h => by
      induction h with
      | nil => exact .nil
      | @cons u g us gs z _ ih =>
        refine .cons ⟨z.1, ?_⟩ ih
        obtain ⟨k, m⟩ := g
        match m, z with
        | .p q, z => exact q.mono s1 z.2
        | .l q, z =>
          obtain ⟨_, x, ws, e1, _, _, g1, c1⟩ := z
          exact ⟨x, ws, e1, s2 _ _ g1, q.mono s1 c1⟩
    exact key r
  rw [set_app hl2] at E'
  exact ⟨_, E', e', rfl⟩⟩
/-- a value of whom nothing is told -/
def tAny : Ty Unit := ⟨fun _ _ _ => True, fun _ _ => True.intro⟩
theorem x_any {X : Cx} {e : Expr} {Γ Γ1 : List Slot} {R : Ty α} {y : α} (h : EX X e Γ (pu R y) Γ1) : EX X e Γ (pu tAny ()) Γ1 := x_sub h fun B v z => True.intro
/-- a method returns, its instance first in the environment -/
def RetM {α : Type} (W S : α → Slot) (v : α) (r : Res) : Prop := ∃ Γ', r = .rt (W v :: Γ') (S v)
/-- an if at the end of a block, a way of which may be left inside -/
theorem f_ifE {θ : Type} {X : Cx} {c : Expr} {b : Bool} {t u : List Stmt} {pos : Pos} {Γ Γ1 : List Slot} {P : θ → Res → Prop} {A B : θ} (hc : ET X c Γ b Γ1) (h1 : b = true → SX X t Γ1 (P A)) (h2 : b = false → SX X u Γ1 (P B)) : SX X [.If c t u pos] Γ (P (if b = true then A else B)) :=
  sx_cons (P1 := P (if b = true then A else B)) (s1_if hc (fun hb => (h1 hb).imp fun r q => by rw [if_pos hb]; exact q) fun hb => (h2 hb).imp fun r q => by rw [if_neg (by rw [hb]; decide)]; exact q) (fun Γ' q => sx_nil q) fun r q _ => q
/-- tuples of ints in a list -/
theorem x_lsN {X : Cx} {e : Expr} {Γ Γ1 : List Slot} {xs : List (List Int)} (h : EX X e Γ (pu (tLs X.K tTn) xs) Γ1) : EX X e Γ (pu (tLs X.K (tT X.K tI)) xs) Γ1 := x_sub h fun B v z => by
  obtain ⟨a, vs, e, h1, r⟩ := z
  exact ⟨a, vs, e, h1, paired_mono (fun u ns w => by
    obtain ⟨b, eb, hb⟩ := w
    exact ⟨b, ns.map V.int, eb, .inl (.inl hb), paired_of_int ns⟩) r⟩
end Fw

namespace Fw
open PySem L2
variable [Tb]
variable {α β γ δ ε ρ κ θ : Type}
/-! ## ints, texts and tuples of such, to a depth -/
inductive TupV (K : PySem.W.Frag) (B : Hp) : V → Nat → Prop
  | int (i : Int) (n : Nat) : TupV K B (.int i) n
  | str (s : Str) (n : Nat) : TupV K B (.str s) n
  | tup {a : Addr} {vs : List V} {n : Nat} (h : SqT K B a vs) (k : ∀ v ∈ vs, TupV K B v n) : TupV K B (.ref a) (n + 1)
theorem TupV.mono {K : PySem.W.Frag} {B B' : Hp} (s : Same B B') {v : V} {n : Nat} (h : TupV K B v n) : TupV K B' v n := by
  induction h with
  | int i n => exact .int i n
  | str x n => exact .str x n
  | tup h _ ih => exact .tup (same_sqt s h) ih
theorem TupV.up {K : PySem.W.Frag} {B : Hp} {v : V} {n : Nat} (h : TupV K B v n) : ∀ {m : Nat}, n ≤ m → TupV K B v m := by
  induction h with
  | int i n => exact fun _ => .int i _
  | str x n => exact fun _ => .str x _
  | @tup a vs n h _ ih =>
    intro m hm
    cases m with
    | zero => omega
    | succ m => exact .tup h fun v hv => ih v hv (by omega)
def tTup (K : PySem.W.Frag) : Ty Nat := ⟨fun B v n => TupV K B v n, fun s h => h.mono s⟩
def TV (K : PySem.W.Frag) (R : Ty α) (n : Nat) : Prop := ∀ B v x, R.rep B v x → TupV K B v n
section
variable {K : PySem.W.Frag} {R : Ty α} {R1 : Ty β} {R2 : Ty γ} {n : Nat}
theorem tv_I : TV K tI n := fun _ v x h => by rw [show v = V.int x from h]; exact .int _ _
theorem tv_S : TV K tS n := fun _ v x h => by rw [show v = V.str x from h]; exact .str _ _
theorem tv_T (h : TV K R n) : TV K (tT K R) (n + 1) := fun B v x z => by
  obtain ⟨a, vs, e, q, r⟩ := z
  subst e
  refine .tup q fun u hu => ?_
  obtain ⟨i, hi⟩ := List.mem_iff_getElem?.mp hu
  obtain ⟨y, _, hy⟩ := paired_getV r hi
  exact h B u y hy
theorem tv_P2 (h : TV K R n) (h1 : TV K R1 n) : TV K (tP2 K R R1) (n + 1) := fun B v x z => by
  obtain ⟨a, v1, v2, e, q, r1, r2⟩ := z
  subst e
  refine .tup q fun u hu => ?_
  rcases List.mem_cons.mp hu with rfl | hu
  · exact h B _ _ r1
  · rw [List.mem_singleton.mp hu]; exact h1 B _ _ r2
theorem tv_P3 (h : TV K R n) (h1 : TV K R1 n) (h2 : TV K R2 n) : TV K (tP3 K R R1 R2) (n + 1) := fun B v x z => by
  obtain ⟨a, v1, v2, v3, e, q, r1, r2, r3⟩ := z
  subst e
  refine .tup q fun u hu => ?_
  rcases List.mem_cons.mp hu with rfl | hu
  · exact h B _ _ r1
  · rcases List.mem_cons.mp hu with rfl | hu
    · exact h1 B _ _ r2
    · rw [List.mem_singleton.mp hu]; exact h2 B _ _ r3
end
theorem x_tupd {X : Cx} {e : Expr} {Γ Γ1 : List Slot} {R : Ty α} {y : α} {m : Nat} (h : EX X e Γ (pu R y) Γ1) (t : TV X.K R m) : EX X e Γ (pu (tTup X.K) m) Γ1 := x_sub h fun B v z => t B v y z
/-- which of the three -/
theorem sx_tup {X : Cx} {sts : List Stmt} {Γ : List Slot} {P : Res → Prop} {K : PySem.W.Frag} {n i : Nat} (hi : Γ[i]? = some (pu (tTup K) n)) (hI : ∀ x : Int, SX X sts (Γ.set i (pu tI x)) P) (hS : ∀ x : Str, SX X sts (Γ.set i (pu tS x)) P)
    (hT : ∀ (m : Nat) (xs : List Nat), n = m + 1 → (∀ y ∈ xs, y = m) → SX X sts (Γ.set i (pu (tT K (tTup K)) xs)) P) : SX X sts Γ P := by
  intro T _ τ σ s hl E D hD
  have hlt := (List.getElem?_eq_some_iff.mp hi).1
  have q := E.sl i _ (by rw [List.getElem?_append_left hlt]; exact hi)
  have go : ∀ S : Slot, S.p s.B (s.F i) ((σ ++ τ)[i]?.join) → EnvOk s (σ ++ τ) (Γ.set i S ++ T) := fun S hS => ⟨E.sub, E.subF, E.dis, E.disF, by simpa using E.len, fun j S2 h2 => by
    by_cases c : j = i
    · subst c
      rw [List.getElem?_append_left (by simpa using hlt), List.getElem?_set_self hlt] at h2
      cases h2
      exact hS
    · have : (Γ.set i S ++ T)[j]? = (Γ ++ T)[j]? := by
        rw [← set_app hlt, List.getElem?_set_ne (Ne.symm c)]
      rw [this] at h2
      exact E.sl j S2 h2, fun j h2 => E.out j (by simpa using h2)⟩
  obtain ⟨hF, v, e, h⟩ := q
  have h' : TupV K s.B v n := h
  cases h' with
  | int x n => exact hI x T τ σ s (by simpa using hl) (go _ ⟨hF, _, e, rfl⟩) D hD
  | str x n => exact hS x T τ σ s (by simpa using hl) (go _ ⟨hF, _, e, rfl⟩) D hD
  | @tup a vs n hq k =>
    refine hT n (List.replicate vs.length n) rfl (fun y hy => List.eq_of_mem_replicate hy) T τ σ s (by simpa using hl) (go _ ⟨hF, _, e, a, vs, rfl, hq, ?_⟩) D hD
    have key : ∀ us : List V, (∀ v ∈ us, TupV K s.B v n) → Paired ((tTup K).rep s.B) us (List.replicate us.length n) := fun us => by
      induction us with
      | nil => exact fun _ => .nil
      | cons u us ih => exact fun hk => .cons (hk u List.mem_cons_self) (ih fun v hv => hk v (List.mem_cons_of_mem _ hv))
    exact key vs k
theorem nn_S {x : Str} : ∀ B v, tS.rep B v x → v ≠ .non := fun _ v h e => by rw [show v = V.str x from h] at e; cases e
theorem typ_tS {K : PySem.W.Frag} : Typ K tS (.type "str") := fun {B H v a} h s => by rw [show v = V.str a from h]; exact .base (.str _)
end Fw

namespace Fw
open PySem L2
variable [Tb]
variable {α β γ δ ε ρ κ θ : Type}
/-! ## comprehensions whose items are owned -/
section
variable {X : Cx} {elt tg iter : Expr} {ifs : List Expr} {scope : Scope} {own : List (Str × Nat)} {pos : Pos} {wi : TI} {g : TG} {Γ Γ1 : List Slot} {R : Ty α} {xs : List α} {f : List Slot → α → List Slot}
/-- [elt for tg in iter if ..], its reading -/
theorem lc_runG {AS : List β → Slot} {ES : β → Slot} (a0 : ∀ (B : Hp) (D : Addr), (AS []).p B (one D (.lst [])) (some (.ref D))) (a1 : ∀ (xs : List β) (y : β) (s : Sta) (σ : St) (Γ : List Slot) (D : Addr) (v : V), EnvOk s ((σ ++ [some (.ref D)]) ++ [some v]) ((Γ ++ [AS xs]) ++ [ES y]) → ∃ (acc : List V) (s' : Sta), s.H D = some (.lst acc) ∧ acc.length = xs.length ∧ s'.H = upd s.H D (.lst (acc ++ [v])) ∧ EnvOk s' (σ ++ [some (.ref D)]) (Γ ++ [AS (xs ++ [y])]) ∧ Evo s s') (iw : IW X tg iter wi Γ R xs Γ1)
    (ht : TGT g R (own.map (·.2)) Γ.length f) (p : α → Bool) (k : α → β)
    (hi' : ∀ s0 H0 C cl fp (i : Nat) (x : α), xs[i]? = some x → EIs (blkX X scope s0 H0 C cl fp) ifs (f (uns (own.map (·.2)) Γ1) x) (p x))
    (he : ∀ s0 H0 C cl fp (i : Nat) (x : α), xs[i]? = some x → p x = true → EX (blkX X scope s0 H0 C cl fp) elt (f (uns (own.map (·.2)) Γ1) x) (ES (k x)) (f (uns (own.map (·.2)) Γ1) x))
    (hw0 : ∀ x, uns (own.map (·.2)) (f (uns (own.map (·.2)) Γ1) x) = uns (own.map (·.2)) Γ1) {T : List Slot} [HasTab T] {τ σ : St} {s : Sta} (hl : σ.length = Γ.length) (E : EnvOk s (σ ++ τ) (Γ ++ T)) {Q : VK}
    (hQ : ∀ v s', EnvOk s' ((σ ++ τ) ++ [some v]) ((uns (own.map (·.2)) Γ1 ++ T) ++ [AS ((xs.filter p).map k)]) → (uns (own.map (·.2)) Γ1).length = Γ.length → Evo s s' → Q v s'.H) :
    tLc wi g (tIsA X scope ifs) (tElA X scope elt) (own.map (·.2)) σ s.H Q := by
  refine iw.run T τ σ s hl E _ fun J G Y us Ts s1 w E1 l1 lus e1 hz hG hY => ?_
  intro D hD
  generalize hvs : own.map (·.2) = vs at ht hi' he hw0 hQ ⊢
  have hw : ∀ x, Wk (f (uns vs Γ1) x) (uns vs Γ1) := fun x => by have := Wk.uns vs (Γ := f (uns vs Γ1) x); rw [hw0 x] at this; exact this
  -- the state at the start: the block's slots forgotten, the new list on the stack
  have E1' : EnvOk s1 (σ ++ (τ ++ us)) (Γ1 ++ (T ++ Ts)) := by simpa using E1
  obtain ⟨s2, E2, e2, h2⟩ := EnvOk.wiped (is := vs) (by omega) E1'
  have hD2 : s2.H D = none := by rw [h2]; exact hD
  obtain ⟨E3, e3⟩ := E2.pushO (o := some (.ref D)) (ob := .lst []) hD2 (AS []) (a0 _ D)
  have E4 : EnvOk ⟨s2.B, upd s2.H D (.lst []), fun i => if i = (uns vs Γ1 ++ (T ++ Ts)).length then one D (.lst []) else s2.F i⟩ ((wipe σ vs ++ τ) ++ (us ++ [some (.ref D)])) ((uns vs Γ1 ++ T) ++ (Ts ++ [AS []])) := by simpa using E3
  have lw : (wipe σ vs).length = (uns vs Γ1).length := by rw [wipe_length, uns_length]; omega
  have lt' : τ.length = T.length := by have := E.len; simp at this; omega
  refine lc_it w (fun i H => ∃ s4 : Sta, s4.H = H ∧ Evo s s4 ∧ EnvOk s4 ((wipe σ vs ++ τ) ++ (us ++ [some (.ref D)])) ((uns vs Γ1 ++ T) ++ (Ts ++ [AS (((xs.take i).filter p).map k)]))) ?h0 ?hG ?hs ?hd
  case h0 =>
    refine ⟨_, ?_, (e1.trans e2).trans e3, E4⟩
    show upd s2.H D (.lst []) = upd s1.H D (.lst [])
    rw [h2]
  case hG =>
    rintro i H hi ⟨s4, rfl, e4, E5⟩
    exact hG _ _ _ _ s4 (by simp; omega) E5
  case hd =>
    rintro H ⟨s4, rfl, e4, E5⟩
    rw [List.take_length] at E5
    have E6 : EnvOk s4 (wipe σ vs ++ (τ ++ us ++ [some (.ref D)])) (uns vs Γ1 ++ (T ++ Ts ++ [AS ((xs.filter p).map k)])) := by simpa using E5
    have E7 := EnvOk.unwiped (by omega) E6
    have E8 : EnvOk s4 ((σ ++ τ) ++ (us ++ [some (.ref D)])) ((uns vs Γ1 ++ T) ++ (Ts ++ [AS ((xs.filter p).map k)])) := by simpa using E7
    obtain ⟨s5, E9, e9, h9, _⟩ := E8.mid (by rw [List.length_append, List.length_append, uns_length]; omega) lus
    have q := hQ (.ref D) s5 E9 (by rw [uns_length]; exact l1) (e4.trans e9)
    rw [h9] at q
    exact q
  case hs =>
    rintro i x H H' hi ⟨s4, rfl, e4, E5⟩ y
    obtain ⟨z, s5, hz5, hH5, E6, e6⟩ := hY i x H' _ _ _ _ s4 hi y (by simp; omega) E5
    subst hH5
    have hlen : ((xs.take i).filter p).length ≤ i := Nat.le_trans (List.length_filter_le _ _) (by rw [List.length_take]; omega)
    have E7 : EnvOk s5 ((wipe σ vs ++ (τ ++ (us ++ [some (.ref D)]))) ++ [some x]) ((uns vs Γ1 ++ (T ++ (Ts ++ [AS (((xs.take i).filter p).map k)]))) ++ [pu R z]) := by simpa using E6
    refine ht z x (wipe σ vs) _ _ (uns vs Γ1) s5 lw (by rw [uns_length]; exact l1) E7 _ fun σ' s6 E8 l8 l8' hwp e8 => ?_
    refine ⟨by rw [hwp, wipe_wipe], fun s0 H0 C cl fp => ?_⟩
    refine (hi' s0 H0 C cl fp i z hz5).run (by omega) E8 fun s7 E9 e9 => ?_
    have back : ∀ {s : Sta} {acc : List β}, EnvOk s (σ' ++ (τ ++ (us ++ [some (.ref D)]))) (f (uns vs Γ1) z ++ (T ++ (Ts ++ [AS acc]))) → ∃ s', EnvOk s' ((wipe σ vs ++ τ) ++ (us ++ [some (.ref D)])) ((uns vs Γ1 ++ T) ++ (Ts ++ [AS acc])) ∧ Evo s s' ∧ s'.H = s.H := fun {s acc} E => by
      obtain ⟨s', E', e', h'⟩ := (hw z).2 _ _ σ' s (by omega) E
      refine ⟨s', ?_, e', h'⟩
      have E'' := E'.rest (σ' := wipe σ vs) (by rw [(hw z).1]; omega) (by omega) fun j hj => by
        by_cases q : j ∈ vs
        · exact .inl (uns_un (by rw [uns_length] at hj; exact hj) (.inl q))
        · right
          have hh := congrArg (fun l => l[j]?) hwp
          simp only [wipe_off q] at hh
          rw [wipe_off q]
          exact hh.symm
      simpa using E''
    cases hp : p z with
    | false =>
      obtain ⟨s8, E10, e10, h10⟩ := back E9
      refine iteF ⟨s8, h10, ((((e4.trans e6).trans e8).trans e9).trans e10), ?_⟩
      rw [take_succ_at hz5, List.filter_append]
      simpa [hp] using E10
    | true =>
      refine iteT fun s0 H0 C cl fp => ?_
      refine he s0 H0 C cl fp i z hz5 hp _ _ σ' s7 (by omega) E9 _ fun v s8 E10 l10 e10 => ?_
      have E11 : EnvOk s8 (((σ' ++ (τ ++ us)) ++ [some (.ref D)]) ++ [some v]) (((f (uns vs Γ1) z ++ (T ++ Ts)) ++ [AS (((xs.take i).filter p).map k)]) ++ [ES (k z)]) := by simpa using E10
      obtain ⟨acc, s9, hacc, hla, hH9, E12, e12⟩ := a1 _ _ _ _ _ _ _ E11
      have E13 : EnvOk s9 (σ' ++ (τ ++ (us ++ [some (.ref D)]))) (f (uns vs Γ1) z ++ (T ++ (Ts ++ [AS (((xs.take i).filter p).map k ++ [k z])]))) := by simpa using E12
      obtain ⟨s10, E14, e14, h14⟩ := back E13
      refine ⟨acc, hacc, by rw [hla, List.length_map]; omega, s10, by rw [h14, hH9], ((((((e4.trans e6).trans e8).trans e9).trans e10).trans e12).trans e14), ?_⟩
      rw [take_succ_at hz5, List.filter_append]
      simpa [hp] using E14
/-- as a value -/
theorem x_lcG {AS : List β → Slot} {ES : β → Slot} (a0 : ∀ (B : Hp) (D : Addr), (AS []).p B (one D (.lst [])) (some (.ref D))) (a1 : ∀ (xs : List β) (y : β) (s : Sta) (σ : St) (Γ : List Slot) (D : Addr) (v : V), EnvOk s ((σ ++ [some (.ref D)]) ++ [some v]) ((Γ ++ [AS xs]) ++ [ES y]) → ∃ (acc : List V) (s' : Sta), s.H D = some (.lst acc) ∧ acc.length = xs.length ∧ s'.H = upd s.H D (.lst (acc ++ [v])) ∧ EnvOk s' (σ ++ [some (.ref D)]) (Γ ++ [AS (xs ++ [y])]) ∧ Evo s s') (hc : X.calm = true) (hN : X.N.Nodup) (iw : IW X tg iter wi Γ R xs Γ1) (ok : BlkOk X.N X.env.scope scope own)
    (hg : ∀ (s : Shared) (H : Hp) (C : Addr) (cl : List (Str × Addr)) (fp : List Addr), PG (X.blk s H scope (compEnvC scope cl C X.env) fp) tg g)
    (ht : TGT g R (own.map (·.2)) Γ.length f) (p : α → Bool) (k : α → β)
    (hi' : ∀ s0 H0 C cl fp (i : Nat) (x : α), xs[i]? = some x → EIs (blkX X scope s0 H0 C cl fp) ifs (f (uns (own.map (·.2)) Γ1) x) (p x))
    (he : ∀ s0 H0 C cl fp (i : Nat) (x : α), xs[i]? = some x → p x = true → EX (blkX X scope s0 H0 C cl fp) elt (f (uns (own.map (·.2)) Γ1) x) (ES (k x)) (f (uns (own.map (·.2)) Γ1) x))
    (hw0 : ∀ x, uns (own.map (·.2)) (f (uns (own.map (·.2)) Γ1) x) = uns (own.map (·.2)) Γ1 := by intro _; rfl)
    (hs : ∀ x, foldedSetIterable iter X.env x = pure x := by intro _; rfl) : EX X (.ListComp elt [⟨tg, iter, ifs, 0⟩] scope pos) Γ (AS ((xs.filter p).map k)) (uns (own.map (·.2)) Γ1) := by
  intro T _ τ σ s hl E Q hQ
  exact re_of (pe_lc hc hN iw.pi ok hg (fun _ _ _ _ _ => ptsA) (fun _ _ _ _ _ => peA) hs) (lc_runG a0 a1 iw ht p k hi' he hw0 hl E hQ)
/-- name = [..] -/
theorem s1_setLcG {AS : List β → Slot} {ES : β → Slot} (a0 : ∀ (B : Hp) (D : Addr), (AS []).p B (one D (.lst [])) (some (.ref D))) (a1 : ∀ (xs : List β) (y : β) (s : Sta) (σ : St) (Γ : List Slot) (D : Addr) (v : V), EnvOk s ((σ ++ [some (.ref D)]) ++ [some v]) ((Γ ++ [AS xs]) ++ [ES y]) → ∃ (acc : List V) (s' : Sta), s.H D = some (.lst acc) ∧ acc.length = xs.length ∧ s'.H = upd s.H D (.lst (acc ++ [v])) ∧ EnvOk s' (σ ++ [some (.ref D)]) (Γ ++ [AS (xs ++ [y])]) ∧ Evo s s') {i : Nat} {y : Str} {py spos : Pos} (hc : X.calm = true) (hN : X.N.Nodup) (hy : X.N[i]? = some y) (hyl : X.env.scope.names.lookup y = some .local)
    (hsw : swapsWith (.ListComp elt [⟨tg, iter, ifs, 0⟩] scope pos) (some (.Name y py)) spos.line X.env = pure true) (hG : i < Γ.length) (iw : IW X tg iter wi Γ R xs Γ1) (ok : BlkOk X.N X.env.scope scope own)
    (hg : ∀ (s : Shared) (H : Hp) (C : Addr) (cl : List (Str × Addr)) (fp : List Addr), PG (X.blk s H scope (compEnvC scope cl C X.env) fp) tg g)
    (ht : TGT g R (own.map (·.2)) Γ.length f) (p : α → Bool) (k : α → β)
    (hi' : ∀ s0 H0 C cl fp (i : Nat) (x : α), xs[i]? = some x → EIs (blkX X scope s0 H0 C cl fp) ifs (f (uns (own.map (·.2)) Γ1) x) (p x))
    (he : ∀ s0 H0 C cl fp (i : Nat) (x : α), xs[i]? = some x → p x = true → EX (blkX X scope s0 H0 C cl fp) elt (f (uns (own.map (·.2)) Γ1) x) (ES (k x)) (f (uns (own.map (·.2)) Γ1) x))
    (hw0 : ∀ x, uns (own.map (·.2)) (f (uns (own.map (·.2)) Γ1) x) = uns (own.map (·.2)) Γ1 := by intro _; rfl)
    (hs : ∀ x, foldedSetIterable iter X.env x = pure x := by intro _; rfl) : S1 X (.Assign [.Name y py] (.ListComp elt [⟨tg, iter, ifs, 0⟩] scope pos) spos) Γ (fun r => r = .nx ((uns (own.map (·.2)) Γ1).set i (AS ((xs.filter p).map k)))) := by
  intro T _ τ σ s hl E D hD
  refine rs_of (ps_setLc hc hN hy hyl hsw iw.pi ok hg (fun _ _ _ _ _ => ptsA) (fun _ _ _ _ _ => peA) hs) (lc_runG a0 a1 (Q := fun x H1 => gName i x σ H1 D.nx) iw ht p k hi' he hw0 hl E fun v s1 E1 l1 e1 => ?_)
  have hG1 : i < (uns (own.map (·.2)) Γ1).length := by omega
  obtain ⟨E2, e2⟩ := E1.store (i := i) (by simp; omega)
  rw [set_app hG1, List.set_append_left _ _ (by omega)] at E2
  have q := hD _ rfl (σ.set i (some v)) _ (by simp; omega) E2 (e1.trans e2)
  exact q
end
/-! ## a list of owned lists, told by their addresses -/
def mr (R : Ty α) (B F : Hp) (q : Addr) (xs : List α) : Prop := ∃ vs, F q = some (.lst vs) ∧ Paired (R.rep B) vs xs
theorem mr_mono {R : Ty α} {B B' F : Hp} (s : Same B B') {q : Addr} {xs : List α} (h : mr R B F q xs) : mr R B' F q xs := let ⟨vs, f, r⟩ := h; ⟨vs, f, paired_mono (fun _ _ w => R.mono s w) r⟩
/-- all owned -/
def ml (R : Ty α) (xss : List (List α)) : Slot := ⟨fun B F o => ∃ D qs, o = some (.ref D) ∧ F D = some (.lst (qs.map V.ref)) ∧ D ∉ qs ∧ qs.Nodup ∧ Paired (mr R B F) qs xss,
  fun {B B' F o} s h => by
    obtain ⟨D, qs, e, f, d, n, r⟩ := h
    exact ⟨D, qs, e, f, d, n, dt.paired_mono' (fun _ _ z => mr_mono s z) r⟩⟩
/-- the outer list pure, the inner ones owned -/
def mx (R : Ty α) (qs : List Addr) (xss : List (List α)) (p : Addr) : Slot := ⟨fun B F o => o = some (.ref p) ∧ B p = some (.lst (qs.map V.ref)) ∧ qs.Nodup ∧ Paired (mr R B F) qs xss,
  fun {B B' F o} s h => by
    obtain ⟨e, f, n, r⟩ := h
    exact ⟨e, s _ _ f, n, dt.paired_mono' (fun _ _ z => mr_mono s z) r⟩⟩
theorem gho_mx {R : Ty α} {qs : List Addr} {xss : List (List α)} : Gho (mx R qs xss) := fun _ _ _ _ h => h.1
theorem mr_keep {R : Ty α} {B F F' : Hp} : ∀ {qs : List Addr} {xss : List (List α)}, Paired (mr R B F) qs xss → (∀ q ∈ qs, ∀ ws, F q = some (.lst ws) → F' q = some (.lst ws)) → Paired (mr R B F') qs xss
  | _, _, .nil, _ => .nil
  | _, _, .cons h r, k => by
    obtain ⟨vs, f, z⟩ := h
    exact .cons ⟨vs, k _ List.mem_cons_self _ f, z⟩ (mr_keep r fun q hq => k q (List.mem_cons_of_mem _ hq))
theorem mr_in {R : Ty α} {B F : Hp} {q : Addr} : ∀ {qs : List Addr} {xss : List (List α)}, Paired (mr R B F) qs xss → q ∈ qs → ∃ ws, F q = some (.lst ws)
  | _, _, .cons h r, hq => by
    rcases List.mem_cons.mp hq with rfl | hq
    · obtain ⟨vs, f, _⟩ := h; exact ⟨vs, f⟩
    · exact mr_in r hq
theorem ml_nil {R : Ty α} (B : Hp) (D : Addr) : (ml R ([] : List (List α))).p B (one D (.lst [])) (some (.ref D)) := ⟨D, [], rfl, one_self, List.not_mem_nil, .nil, .nil⟩
theorem ml_app {R : Ty α} (xs : List (List α)) (y : List α) (s : Sta) (σ : St) (Γ : List Slot) (D : Addr) (v : V) (E : EnvOk s ((σ ++ [some (.ref D)]) ++ [some v]) ((Γ ++ [ml R xs]) ++ [ol R y])) :
    ∃ (acc : List V) (s' : Sta), s.H D = some (.lst acc) ∧ acc.length = xs.length ∧ s'.H = upd s.H D (.lst (acc ++ [v])) ∧ EnvOk s' (σ ++ [some (.ref D)]) (Γ ++ [ml R (xs ++ [y])]) ∧ Evo s s' := by
  have hl : σ.length = Γ.length := by have := E.len; simp at this; exact this
  obtain ⟨l, ws, ev, fl, rl⟩ := E.top
  cases ev
  have fl' : s.F (Γ ++ [ml R xs]).length = one l (.lst ws) := fl
  have h1 := E.sl Γ.length (ml R xs) (by rw [List.append_assoc, List.getElem?_append_right (Nat.le_refl _)]; simp)
  have e1 : (((σ ++ [some (V.ref D)]) ++ [some (V.ref l)])[Γ.length]?).join = some (.ref D) := by
    rw [List.append_assoc, List.getElem?_append_right (by omega), hl]; simp
  rw [e1] at h1
  obtain ⟨D', qs, eD, fD, nD, nq, r⟩ := h1
  cases eD
  have notl : ∀ b, s.F Γ.length b ≠ none → b ≠ l := fun b hb e => by
    have := E.disF Γ.length (Γ ++ [ml R xs]).length b hb (by rw [fl', e, one_self]; simp)
    simp at this
  have hDl : D ≠ l := notl D (by rw [fD]; simp)
  obtain ⟨E3, e3⟩ := E.absorb (i := Γ.length) (by simp)
  have u1 : ∀ b u, s.F Γ.length b = some u → un2 (s.F Γ.length) (s.F (Γ ++ [ml R xs]).length) b = some u := fun b u h => un2_l h
  have u2 : un2 (s.F Γ.length) (s.F (Γ ++ [ml R xs]).length) l = some (.lst ws) := by
    unfold un2
    cases e : s.F Γ.length l with
    | none => rw [fl']; exact one_self
    | some w => exact absurd rfl (notl l (by rw [e]; simp))
  generalize hU : un2 (s.F Γ.length) (s.F (Γ ++ [ml R xs]).length) = U at E3 e3 u1 u2
  have hlq : l ∉ qs := fun h => by
    obtain ⟨ws', f⟩ := mr_in r h
    exact notl l (by rw [f]; simp) rfl
  obtain ⟨E4, e4⟩ := E3.writeF (S' := ml R (xs ++ [y])) (i := Γ.length) (p := D) (F' := upd U D (.lst (qs.map V.ref ++ [V.ref l]))) (ob' := .lst (qs.map V.ref ++ [V.ref l])) (by simp) (by
      show (if Γ.length = Γ.length then U else _) D ≠ none
      rw [if_pos rfl, u1 _ _ fD]; simp) (fun b hb => by
      show _ = (if Γ.length = Γ.length then U else _) b
      rw [if_pos rfl]
      exact upd_ne hb) upd_same (by
      have e2 : ((σ ++ [some (V.ref D)])[Γ.length]?).join = some (.ref D) := by
        rw [List.getElem?_append_right (by omega), hl]; simp
      rw [e2]
      refine ⟨D, qs ++ [l], rfl, by rw [upd_same, List.map_append]; rfl, fun h => ?_, List.nodup_append.mpr ⟨nq, List.pairwise_singleton _ _, fun a ha b hb hab => hlq (by rw [← List.mem_singleton.mp hb, ← hab]; exact ha)⟩, x_setd.paired_app2 (mr_keep r fun q hq ws' f => ?_) (.cons ⟨ws, by rw [upd_ne (Ne.symm hDl)]; exact u2, rl⟩ .nil)⟩
      · rcases List.mem_append.mp h with h | h
        · exact nD h
        · exact hDl (List.mem_singleton.mp h)
      · have : q ≠ D := fun c => nD (by rw [← c]; exact hq)
        rw [upd_ne this]
        exact u1 _ _ f)
  have eΓ : (((Γ ++ [ml R xs]).set Γ.length anyS).set Γ.length (ml R (xs ++ [y]))) = Γ ++ [ml R (xs ++ [y])] := by
    rw [List.set_set, List.set_append_right _ _ (Nat.le_refl _), Nat.sub_self]; rfl
  rw [eΓ] at E4
  have hD : s.H D = some (.lst (qs.map V.ref)) := E.subF Γ.length D _ fD
  exact ⟨qs.map V.ref, _, hD, by rw [List.length_map, Paired.length r], rfl, E4, e3.trans e4⟩
/-- a part of a footprint goes over into the pure region -/
theorem EnvOk.part {s : Sta} {σ : St} {Γ : List Slot} {S' : Slot} {i : Nat} {D : Addr} {ob : HO} (E : EnvOk s σ Γ) (hi : i < Γ.length) (hD : s.F i D = some ob) (h : ∀ B', Same s.B B' → B' D = some ob → S'.p B' (fun a => if a = D then none else s.F i a) (σ[i]?.join)) :
    EnvOk ⟨un2 (one D ob) s.B, s.H, fun j => if j = i then (fun a => if a = D then none else s.F i a) else s.F j⟩ σ (Γ.set i S') ∧ Evo s ⟨un2 (one D ob) s.B, s.H, fun j => if j = i then (fun a => if a = D then none else s.F i a) else s.F j⟩ := by
  have hb : s.B D = none := E.dis i D (by rw [hD]; simp)
  have s1 : Same s.B (un2 (one D ob) s.B) := fun a u h => by
    have : a ≠ D := fun e => by rw [e, hb] at h; cases h
    rw [un2_r (by unfold one; rw [if_neg this])]; exact h
  have sH : Same (un2 (one D ob) s.B) s.H := fun a u h => by
    rcases un2_some h with h | ⟨_, h⟩
    · unfold one at h
      by_cases q : a = D
      · rw [if_pos q] at h; cases h; rw [q]; exact E.subF i D _ hD
      · rw [if_neg q] at h; cases h
    · exact E.sub a u h
  have val : ∀ j a u, (if j = i then (fun a => if a = D then none else s.F i a) else s.F j) a = some u → s.F j a = some u ∧ a ≠ D := fun j a u h => by
    by_cases q : j = i
    · rw [if_pos q] at h
      by_cases z : a = D
      · simp [z] at h
      · simp only [if_neg z] at h
        rw [q]; exact ⟨h, z⟩
    · rw [if_neg q] at h
      exact ⟨h, fun z => q (E.disF j i a (by rw [h]; simp) (by rw [z, hD]; simp))⟩
  have key : ∀ j a, (if j = i then (fun a => if a = D then none else s.F i a) else s.F j) a ≠ none → s.F j a ≠ none ∧ a ≠ D := fun j a h => by
    obtain ⟨u, e⟩ := ex_of_ne h
    have := val j a u e
    exact ⟨by rw [this.1]; simp, this.2⟩
  refine ⟨⟨sH, fun j a u h => E.subF j a u (val j a u h).1, fun j a h => ?_, fun j k a h1 h2 => E.disF j k a (key j a h1).1 (key k a h2).1, by simp [E.len], fun j S2 h2 => ?_, fun j h2 => ?_⟩, ⟨s1, fun _ _ h _ => h, fun _ h => h, fun a h => ?_, fun a j h => .inr ⟨j, (key j a h).1⟩⟩⟩
  · obtain ⟨z1, z2⟩ := key j a h
    show un2 (one D ob) s.B a = none
    rw [un2_r (by unfold one; rw [if_neg z2])]
    exact E.dis j a z1
  · show S2.p (un2 (one D ob) s.B) (if j = i then _ else s.F j) _
    by_cases q : j = i
    · subst q
      rw [List.getElem?_set_self hi] at h2; cases h2
      rw [if_pos rfl]; exact h _ s1 (un2_l one_self)
    · rw [List.getElem?_set_ne (Ne.symm q)] at h2
      rw [if_neg q]
      exact S2.mono s1 (E.sl j S2 h2)
  · show (if j = i then _ else s.F j) = em
    rw [List.length_set] at h2
    rw [if_neg (by omega)]
    exact E.out j h2
  · have h' : un2 (one D ob) s.B a ≠ none := h
    by_cases q : a = D
    · exact .inr (.inr ⟨i, by rw [q, hD]; simp⟩)
    · rw [un2_r (by unfold one; rw [if_neg q])] at h'
      exact .inl h'
/-- the addresses are told -/
theorem sx_mx {X : Cx} {sts : List Stmt} {Γ : List Slot} {P : Res → Prop} {R : Ty α} {xss : List (List α)} {i : Nat} (hi : Γ[i]? = some (ml R xss)) (h : ∀ qs p, SX X sts (Γ.set i (mx R qs xss p)) P) : SX X sts Γ P := by
  intro T _ τ σ s hl E D hD
  have hlt := (List.getElem?_eq_some_iff.mp hi).1
  obtain ⟨p, qs, e, f, d, n, r⟩ := E.sl i _ (by rw [List.getElem?_append_left hlt]; exact hi)
  obtain ⟨E2, e2⟩ := E.part (S' := mx R qs xss p) (i := i) (by simp; omega) f fun B' k1 k2 => by
    refine ⟨e, k2, n, dt.paired_mono' (fun _ _ z => mr_mono k1 z) (mr_keep r fun q hq ws hf => ?_)⟩
    have : q ≠ p := fun c => d (by rw [← c]; exact hq)
    show (if q = p then none else s.F i q) = _
    rw [if_neg this]; exact hf
  rw [set_app hlt] at E2
  exact h qs p T τ σ _ (by simpa using hl) E2 D fun r q => (hD r q).mono e2
/-- a reference to one of them -/
def tRef (qs : List Addr) : Ty Int := ⟨fun _ v k => 0 ≤ k ∧ ∃ q, qs[k.toNat]? = some q ∧ v = .ref q, fun _ h => h⟩
theorem pget {F : α → β → Prop} : ∀ {vs : List α} {xs : List β} {i : Nat} {x : β}, Paired F vs xs → xs[i]? = some x → ∃ v, vs[i]? = some v ∧ F v x
  | _, _, _, _, .nil, h => by simp at h
  | v :: vs, y :: xs, 0, x, .cons h r, e => by
    simp only [List.getElem?_cons_zero, Option.some.injEq] at e
    subst e
    exact ⟨v, rfl, h⟩
  | v :: vs, y :: xs, i + 1, x, .cons h r, e => by
    simp only [List.getElem?_cons_succ] at e ⊢
    exact pget r e
theorem paired_of_get {F : α → β → Prop} : ∀ {vs : List α} {xs : List β}, vs.length = xs.length → (∀ (i : Nat) (v : α) (x : β), vs[i]? = some v → xs[i]? = some x → F v x) → Paired F vs xs
  | [], [], _, _ => .nil
  | [], _ :: _, h, _ => by simp at h
  | _ :: _, [], h, _ => by simp at h
  | v :: vs, x :: xs, h, k => .cons (k 0 v x rfl rfl) (paired_of_get (by simpa using h) fun i v' x' h1 h2 => k (i + 1) v' x' (by simpa using h1) (by simpa using h2))
theorem paired_set {F : α → β → Prop} {v : α} {x : β} : ∀ {vs : List α} {xs : List β} {i : Nat}, Paired F vs xs → F v x → Paired F (vs.set i v) (xs.set i x)
  | _, _, _, .nil, _ => .nil
  | _, _, 0, .cons _ r, h => .cons h r
  | _, _, i + 1, .cons h0 r, h => .cons h0 (paired_set r h)
theorem mx_at {R : Ty α} {s : Sta} {σ τ : St} {Γ T : List Slot} {i : Nat} {p : Addr} {qs : List Addr} {xss : List (List α)} (E : EnvOk s (σ ++ τ) (Γ ++ T)) (hl : σ.length = Γ.length) (hi : Γ[i]? = some (mx R qs xss p)) :
    σ[i]? = some (some (.ref p)) ∧ s.B p = some (.lst (qs.map V.ref)) ∧ qs.Nodup ∧ Paired (mr R s.B (s.F i)) qs xss := by
  have hlt := (List.getElem?_eq_some_iff.mp hi).1
  obtain ⟨e0, q⟩ := E.sl i _ (by rw [List.getElem?_append_left hlt]; exact hi)
  rw [List.getElem?_append_left (by omega)] at e0
  refine ⟨?_, q⟩
  rw [List.getElem?_eq_getElem (by omega)] at e0 ⊢
  exact congrArg some e0
theorem pu_at {R : Ty α} {s : Sta} {σ τ : St} {Γ T : List Slot} {j : Nat} {y : α} (E : EnvOk s (σ ++ τ) (Γ ++ T)) (hl : σ.length = Γ.length) (hj : Γ[j]? = some (pu R y)) : ∃ v, σ[j]? = some (some v) ∧ R.rep s.B v y := by
  have hlt := (List.getElem?_eq_some_iff.mp hj).1
  obtain ⟨_, v, e, h⟩ := E.sl j _ (by rw [List.getElem?_append_left hlt]; exact hj)
  rw [List.getElem?_append_left (by omega)] at e
  refine ⟨v, ?_, h⟩
  rw [List.getElem?_eq_getElem (by omega)] at e ⊢
  exact congrArg some e
theorem refs_paired (B : Hp) (qs : List Addr) : Paired ((tRef qs).rep B) (qs.map V.ref) (rangeI 0 (qs.length : Int)) := by
  refine paired_of_get (by rw [List.length_map, rangeI_len]; omega) fun i v x h1 h2 => ?_
  rw [List.getElem?_map] at h1
  obtain ⟨q, hq, e⟩ := Option.map_eq_some_iff.mp h1
  have hi := (List.getElem?_eq_some_iff.mp hq).1
  rw [rangeI_get (by omega)] at h2
  cases h2
  exact ⟨by omega, q, by rw [show ((0 : Int) + (i : Int)).toNat = i by omega]; exact hq, e.symm⟩
section
variable {X : Cx} {x y : Str} {px py pos pos' : Pos} {Γ Γ1 : List Slot} {R : Ty α} {qs : List Addr} {xss : List (List α)} {p : Addr} {i j : Nat}
/-- the list of lists itself, read -/
theorem x_mxVar (hi : Γ[i]? = some (mx R qs xss p)) (hN : X.N[i]? = some x := by rfl) (hv : Vis X.env.scope x := by first | exact Or.inl rfl | exact Or.inr (Or.inl rfl) | exact Or.inr (Or.inr rfl))
    (hd : (x == ("__debug__" : Str)) = false := by decide) (hcd : (x == ("__classdict__" : Str)) = false := by decide) : EX X (.Name x px) Γ (pu (tLs X.K (tRef qs)) (rangeI 0 (xss.length : Int))) Γ := by
  intro T _ τ σ s hl E Q hQ
  obtain ⟨hσ, hB, hn, r⟩ := mx_at E hl hi
  have e : qs.length = xss.length := Paired.length r
  exact re_of (pe_var hN hv hd hcd) ⟨_, hσ, hQ _ s (E.push0 _ ⟨rfl, _, rfl, p, qs.map V.ref, rfl, hB, by rw [← e]; exact refs_paired _ _⟩) rfl (Evo.refl s)⟩
/-- y[e], y one of the lists -/
theorem x_mxIx [Inhabited α] {e : Expr} {k c : Int} (hi : Γ[i]? = some (mx R qs xss p)) (hj : Γ[j]? = some (pu (tRef qs) k)) (he : EX X e Γ (pu tI c) Γ) (hk : 0 ≤ k ∧ k < (xss.length : Int)) (hc : InIx (ix xss k).length c) (hN : X.N[j]? = some y := by rfl) (hv : Vis X.env.scope y := by first | exact Or.inl rfl | exact Or.inr (Or.inl rfl) | exact Or.inr (Or.inr rfl))
    (hd : (y == ("__debug__" : Str)) = false := by decide) (hcd : (y == ("__classdict__" : Str)) = false := by decide) (hp : PlainIx e := by exact fun _ _ => rfl) : EX X (.Subscript (.Name y py) e pos) Γ (pu R (ix (ix xss k) c)) Γ := by
  intro T _ τ σ s hl E Q hQ
  refine re_of (pe_ix ix_list (pe_var hN hv hd hcd) peR hp) ?_
  obtain ⟨v, hσj, hk0, q, hq, ev⟩ := pu_at E hl hj
  subst ev
  refine ⟨.ref q, hσj, ?_⟩
  refine he T τ σ s hl E _ fun v1 s1 E1 l1 e1 => ?_
  have hv1 : v1 = .int c := pu_top E1
  subst hv1
  obtain ⟨E2, e2⟩ := E1.pop
  obtain ⟨_, _, _, r⟩ := mx_at E2 hl hi
  have hx : xss[k.toNat]? = some (ix xss k) := by rw [ix_nat hk.1 hk.2]; exact List.getElem?_eq_getElem (by omega)
  obtain ⟨q', hq', vs, f, rr⟩ := pget r hx
  rw [hq] at hq'
  cases hq'
  obtain ⟨u, h1, h2⟩ := ix_of (F := R.rep _) rr hc
  refine ⟨q, vs, c, u, rfl, rfl, SqL.of (E2.subF i q _ f), h1, ?_⟩
  have w := hQ u _ (E2.push0 (pu R (ix (ix xss k) c)) ⟨rfl, u, rfl, h2⟩) rfl (e1.trans e2)
  exact w
/-- y[e] = value, y one of the lists -/
theorem s1_mxPut [Inhabited α] {e value : Expr} {k c : Int} {z : α} {Γ2 : List Slot} (hi : Γ[i]? = some (mx R qs xss p)) (hj : Γ[j]? = some (pu (tRef qs) k)) (hval : EX X value Γ (pu R z) Γ) (he : EX X e Γ (pu tI c) Γ) (hk : 0 ≤ k ∧ k < (xss.length : Int)) (hc : 0 ≤ c ∧ c < ((ix xss k).length : Int)) (hE : Γ.set i (mx R qs (xss.set k.toNat ((ix xss k).set c.toNat z)) p) = Γ2) (hN : X.N[j]? = some y := by rfl) (hv : Vis X.env.scope y := by first | exact Or.inl rfl | exact Or.inr (Or.inl rfl) | exact Or.inr (Or.inr rfl))
    (hd : (y == ("__debug__" : Str)) = false := by decide) (hcd : (y == ("__classdict__" : Str)) = false := by decide)
    (ha : ∀ v, assign (.Subscript (.Name y py) e pos') X.env v = (do
      let ov ← holding [v] (eval (.Name y py) X.env)
      let iv ← holding [v, ov] (eval e X.env)
      standAt pos'
      holding [v, ov, iv] (setItem ov iv v)
      release [v, ov, iv] []) := by intro _; rfl) (hs : swapsWithSole [.Subscript (.Name y py) e pos'] value pos.line X.env = pure false := by rfl) (hw : swappedStores [.Subscript (.Name y py) e pos'] value X.env = pure none := by rfl)
    (h1 : (assignEach [.Subscript (.Name y py) e pos'] X.env).map (·.2) = [assign (.Subscript (.Name y py) e pos') X.env] := by rfl) :
    S1 X (.Assign [.Subscript (.Name y py) e pos'] value pos) Γ (fun r => r = .nx Γ2) := by
  subst hE
  intro T _ τ σ s hl E D hD
  refine rs_of (ps_asg peR (pg_sub (pe_var hN hv hd hcd) peR set_list ha) hs hw h1) ?_
  refine hval T τ σ s hl E _ fun v s1 E1 l1 e1 => ?_
  have E1' : EnvOk s1 (σ ++ (τ ++ [some v])) (Γ ++ (T ++ [pu R z])) := by simpa using E1
  obtain ⟨vj, hσj, hk0, q, hq, ev⟩ := pu_at E1' hl hj
  subst ev
  refine ⟨.ref q, hσj, ?_⟩
  refine he _ _ σ s1 hl E1' _ fun v2 s2 E2 l2 e2 => ?_
  have hv2 : v2 = .int c := pu_top E2
  subst hv2
  obtain ⟨E3, e3⟩ := E2.pop
  obtain ⟨hσi, hB, hn, r⟩ := mx_at E3 hl hi
  have hx : xss[k.toNat]? = some (ix xss k) := by rw [ix_nat hk.1 hk.2]; exact List.getElem?_eq_getElem (by omega)
  obtain ⟨q', hq', vs, f, rr⟩ := pget r hx
  rw [hq] at hq'
  cases hq'
  have hlt := (List.getElem?_eq_some_iff.mp hi).1
  have hlv : vs.length = (ix xss k).length := paired_len rr
  have E3' : EnvOk (s2.cut (Γ ++ (T ++ [pu R z])).length) (((σ ++ τ)) ++ [some v]) ((Γ ++ T) ++ [pu R z]) := by simpa using E3
  have hz := pu_top E3'
  have hix : ixN vs.length c = some c.toNat := by
    unfold ixN
    rw [if_pos hc.1, if_pos (by omega)]
  have hfp : (s2.cut (Γ ++ (T ++ [pu R z])).length).F i q ≠ none := by rw [f]; simp
  obtain ⟨E4, e4⟩ := E3'.writeF (S' := mx R qs (xss.set k.toNat ((ix xss k).set c.toNat z)) p) (i := i) (p := q) (F' := upd ((s2.cut (Γ ++ (T ++ [pu R z])).length).F i) q (.lst (vs.set c.toNat v))) (ob' := .lst (vs.set c.toNat v)) (by simp; omega) hfp (fun b hb => upd_ne hb) upd_same (by
    rw [List.append_assoc, List.getElem?_append_left (by omega), hσi]
    refine ⟨rfl, hB, hn, paired_of_get (by rw [List.length_set]; exact Paired.length r) fun m q2 xs2 g1 g2 => ?_⟩
    by_cases hm : m = k.toNat
    · subst hm
      rw [hq] at g1
      cases g1
      rw [List.getElem?_set_self (by omega)] at g2
      cases g2
      exact ⟨vs.set c.toNat v, upd_same, paired_set rr hz⟩
    · rw [List.getElem?_set_ne (Ne.symm hm)] at g2
      obtain ⟨q3, hq3, ws, f2, r2⟩ := pget r g2
      rw [g1] at hq3
      cases hq3
      have hne : q2 ≠ q := fun c' => hm (by
        have l1 := (List.getElem?_eq_some_iff.mp g1).1
        exact (List.getElem?_inj l1 hn).mp (by rw [g1, hq, c']))
      exact ⟨ws, by rw [upd_ne hne]; exact f2, r2⟩)
  rw [set_app (by simp; omega), set_app hlt] at E4
  obtain ⟨E5, e5⟩ := E4.pop
  refine ⟨q, vs, c, c.toNat, rfl, rfl, E3.subF i q _ f, hix, ?_⟩
  have w := hD _ rfl σ _ (by simp; omega) E5 ((((e1.trans e2).trans e3).trans e4).trans e5)
  exact w
end
section
variable {X : Cx} {elt tg iter : Expr} {ifs : List Expr} {scope : Scope} {own : List (Str × Nat)} {pos : Pos} {wi : TI} {g : TG} {Γ Γ1 : List Slot} {R : Ty α} {xs : List α} {f : List Slot → α → List Slot} {v : List β}
theorem s1_setLcW {AS : List β → Slot} {ES : β → Slot} (a0 : ∀ (B : Hp) (D : Addr), (AS []).p B (one D (.lst [])) (some (.ref D))) (a1 : ∀ (xs : List β) (y : β) (s : Sta) (σ : St) (Γ : List Slot) (D : Addr) (v : V), EnvOk s ((σ ++ [some (.ref D)]) ++ [some v]) ((Γ ++ [AS xs]) ++ [ES y]) → ∃ (acc : List V) (s' : Sta), s.H D = some (.lst acc) ∧ acc.length = xs.length ∧ s'.H = upd s.H D (.lst (acc ++ [v])) ∧ EnvOk s' (σ ++ [some (.ref D)]) (Γ ++ [AS (xs ++ [y])]) ∧ Evo s s') {i : Nat} {y : Str} {py spos : Pos} (hc : X.calm = true) (hN : X.N.Nodup) (hy : X.N[i]? = some y) (hyl : X.env.scope.names.lookup y = some .local)
    (hsw : swapsWith (.ListComp elt [⟨tg, iter, ifs, 0⟩] scope pos) (some (.Name y py)) spos.line X.env = pure true) (hG : i < Γ.length) (iw : IW X tg iter wi Γ R xs Γ1) (ok : BlkOk X.N X.env.scope scope own)
    (hg : ∀ (s : Shared) (H : Hp) (C : Addr) (cl : List (Str × Addr)) (fp : List Addr), PG (X.blk s H scope (compEnvC scope cl C X.env) fp) tg g) (ht : TGT g R (own.map (·.2)) Γ.length f) (p : α → Bool) (k : α → β)
    (hi' : ∀ s0 H0 C cl fp (i : Nat) (x : α), xs[i]? = some x → EIs (blkX X scope s0 H0 C cl fp) ifs (f (uns (own.map (·.2)) Γ1) x) (p x))
    (he : ∀ s0 H0 C cl fp (i : Nat) (x : α), xs[i]? = some x → p x = true → EX (blkX X scope s0 H0 C cl fp) elt (f (uns (own.map (·.2)) Γ1) x) (ES (k x)) (f (uns (own.map (·.2)) Γ1) x))
    (hv : (xs.filter p).map k = v)
    (hw0 : ∀ x, uns (own.map (·.2)) (f (uns (own.map (·.2)) Γ1) x) = uns (own.map (·.2)) Γ1 := by intro _; rfl)
    (hs : ∀ x, foldedSetIterable iter X.env x = pure x := by intro _; rfl) : S1 X (.Assign [.Name y py] (.ListComp elt [⟨tg, iter, ifs, 0⟩] scope pos) spos) Γ (fun r => r = .nx ((uns (own.map (·.2)) Γ1).set i (AS v))) := by
  subst hv
  exact s1_setLcG a0 a1 hc hN hy hyl hsw hG iw ok hg ht p k hi' he hw0 hs
end
/-- frozen for good -/
theorem Wk.frzMx {Γ : List Slot} {R : Ty α} {qs : List Addr} {xss : List (List α)} {p : Addr} {i : Nat} (K : PySem.W.Frag) (hi : Γ[i]? = Option.some (mx R qs xss p)) : Wk Γ (Γ.set i (Fw.pu (tLs K (tLs K R)) xss)) := ⟨by simp, fun T τ σ s hl E => by
  have hl2 := (List.getElem?_eq_some_iff.mp hi).1
  have hi' : (Γ ++ T)[i]? = Option.some (mx R qs xss p) := by rw [List.getElem?_append_left hl2]; exact hi
  obtain ⟨E', e'⟩ := E.freeze (S' := Fw.pu (tLs K (tLs K R)) xss) (i := i) (by simp; omega) fun B' s1 s2 => by
    obtain ⟨e, f, _, r⟩ := E.sl i _ hi'
    refine ⟨rfl, .ref p, e, p, qs.map V.ref, rfl, s1 _ _ f, ?_⟩
    have key : ∀ {qs : List Addr} {xss : List (List α)}, Paired (mr R s.B (s.F i)) qs xss → Paired ((tLs K R).rep B') (qs.map V.ref) xss := fun {qs xss} h => by
      induction h with
      | nil => exact .nil
      | cons z _ ih =>
        obtain ⟨vs, f, r⟩ := z
        exact .cons ⟨_, vs, rfl, s2 _ _ f, paired_mono (fun _ _ w => R.mono s1 w) r⟩ ih
    exact key r
  rw [set_app hl2] at E'
  exact ⟨_, E', e', rfl⟩⟩
/-- the value is this address -/
def tAt (p : Addr) : Ty Unit := ⟨fun _ v _ => v = .ref p, fun _ h => h⟩
theorem x_mxAt {X : Cx} {x : Str} {px : Pos} {Γ : List Slot} {R : Ty α} {qs : List Addr} {xss : List (List α)} {p : Addr} {i : Nat} (hi : Γ[i]? = some (mx R qs xss p)) (hN : X.N[i]? = some x := by rfl) (hv : Vis X.env.scope x := by first | exact Or.inl rfl | exact Or.inr (Or.inl rfl) | exact Or.inr (Or.inr rfl))
    (hd : (x == ("__debug__" : Str)) = false := by decide) (hcd : (x == ("__classdict__" : Str)) = false := by decide) : EX X (.Name x px) Γ (pu (tAt p) ()) Γ := by
  intro T _ τ σ s hl E Q hQ
  obtain ⟨hσ, _, _, _⟩ := mx_at E hl hi
  exact re_of (pe_var hN hv hd hcd) ⟨_, hσ, hQ _ s (E.push0 _ ⟨rfl, _, rfl, rfl⟩) rfl (Evo.refl s)⟩
/-- f(x, e, ..), f a def that may change its first argument, x owned in the slot i -/
theorem x_callX {A : Type} {pre : A → Prop} {W0 W1 : A → Addr → Slot} {Gr : A → List Slot} {S : A → Slot} {X : Cx} {a f : Addr} {k i : Nat} {fx : Str} {fd : FuncData} {ps : List Str} {S' S0 S2 : Slot} {e : Expr} {es : List Expr} {p pos : Pos} {Γ Γ2 Ss : List Slot}
    (hi : Γ[i]? = some S0) (F : FnOk X.prog X.w X.K X.mg X.base CX0 k f fd ps (spM pre W0 Gr W1 S)) (hr : Room k X.A) (hm : X.mg fx = some (.ref f)) (hk : PySem.W.keepIn X.K (.ref f) = true) (hb : Binds X.K fd ps []) (ha : EA X (e :: es) Γ (pu (tAt a) () :: Ss) Γ) (x : A) (hx : pre x) (hG : Ss = Gr x) (h0 : W0 x a = S0) (h1 : W1 x a = S2) (g0 : Gho (W0 x)) (g1 : Gho (W1 x)) (hS : S x = S') (hE : Γ.set i S2 = Γ2)
    (hg : Gl X fx := by rfl) (hdb : (fx == ("__debug__" : Str)) = false := by decide) (hst : starEach (e :: es) X.env = (false, eval e X.env) :: starEach es X.env := by rfl) (hpl : (backTo pos (starEach es X.env)).any (·.1) = false := by rfl) : EX X (.Call (.Name fx p) (e :: es) [] pos) Γ S' Γ2 := by
  subst hS
  subst hE
  subst h0
  subst h1
  intro T _ τ σ s hl E Q hQ
  refine re_of (pe_call F hr hg hm hk hb .nil pass0 paR hdb hst hpl) ?_
  refine ha T τ σ s hl E _ fun ws s1 E1 l1 lw e1 => ?_
  have hlt := (List.getElem?_eq_some_iff.mp hi).1
  have lt : τ.length = T.length := by have := E.len; simp at this; omega
  have lw2 : ws.length = Ss.length + 1 := by have := E1.len; simp at this; omega
  match ws, lw2, E1 with
  | v0 :: vs, lw2, E1 =>
    have lw3 : vs.length = Ss.length := by simpa using lw2
    have E1' : EnvOk s1 ((σ ++ τ) ++ (some v0 :: vs.map some)) ((Γ ++ T) ++ (pu (tAt a) () :: Ss)) := by simpa using E1
    have hv0 : v0 = .ref a := by
      have q := E1'.sl (Γ ++ T).length (pu (tAt a) ()) (by rw [List.getElem?_append_right (Nat.le_refl _)]; simp)
      rw [List.getElem?_append_right (by simp; omega), show (Γ ++ T).length - (σ ++ τ).length = 0 by simp; omega] at q
      obtain ⟨_, v, ev, h⟩ := q
      have : some v0 = some v := ev
      cases this
      exact h
    subst hv0
    have hi2 : ((Γ ++ T) ++ (pu (tAt a) () :: Ss))[i]? = some (W0 x a) := by
      rw [List.getElem?_append_left (by simp; omega), List.getElem?_append_left hlt]; exact hi
    have hσi : ((σ ++ τ) ++ (some (V.ref a) :: vs.map some))[i]?.join = some (.ref a) := g0 a _ _ _ (E1'.sl i _ hi2)
    obtain ⟨E3, e3⟩ := E1'.hand (S1 := un) (S2 := W0 x a) (j := (Γ ++ T).length) (o := some (.ref a)) hi2 (by simp) (by simp; omega) rfl (by
      have q := E1'.sl i _ hi2
      rw [hσi] at q
      exact q)
    have eσ : ((σ ++ τ) ++ (some (V.ref a) :: vs.map some)).set (Γ ++ T).length (some (.ref a)) = (σ ++ τ) ++ ([some (V.ref a)] ++ vs.map some) := by
      rw [List.set_append_right _ _ (by simp; omega), show (Γ ++ T).length - (σ ++ τ).length = 0 by simp; omega]
      rfl
    have eΓ : (((Γ ++ T) ++ (pu (tAt a) () :: Ss)).set i un).set (Γ ++ T).length (W0 x a) = (Γ.set i un ++ T) ++ ([W0 x a] ++ Ss) := by
      have q1 : ((Γ ++ T) ++ (pu (tAt a) () :: Ss)).set i un = (Γ.set i un ++ T) ++ (pu (tAt a) () :: Ss) := by
        rw [List.set_append_left _ _ (by simp; omega), List.set_append_left _ _ hlt]
      rw [q1, List.set_append_right _ _ (by simp), show (Γ ++ T).length - (Γ.set i un ++ T).length = 0 by simp]
      rfl
    rw [eσ, eΓ] at E3
    have hl2 : (σ ++ τ).length = (Γ.set i un ++ T).length := by simp; omega
    show spM pre W0 Gr W1 S (.ref a :: (vs ++ [])) s1.H Q E0
    refine n_callM x hx hG hl2 E3 fun v s5 E5 e5 => ?_
    have E5' : EnvOk s5 ((σ ++ τ) ++ ([some (V.ref a)] ++ [some v])) ((Γ.set i un ++ T) ++ ([W1 x a] ++ [S x])) := by simpa using E5
    have hm2 : ((Γ.set i un ++ T) ++ ([W1 x a] ++ [S x]))[(Γ.set i un ++ T).length]? = some (W1 x a) := by
      rw [List.getElem?_append_right (Nat.le_refl _)]; simp
    have hσs : σ[i]? = some (some (V.ref a)) := by
      rw [List.getElem?_append_left (by simp; omega), List.getElem?_append_left (by omega)] at hσi
      rw [List.getElem?_eq_getElem (by omega)] at hσi ⊢
      exact congrArg some hσi
    obtain ⟨E6, e6⟩ := E5'.hand (S1 := un) (S2 := W1 x a) (j := i) (o := some (.ref a)) hm2 (by simp; omega) (by simp; omega) rfl (by
      have q := E5'.sl _ _ hm2
      have : (((σ ++ τ) ++ ([some (V.ref a)] ++ [some v]))[(Γ.set i un ++ T).length]?).join = some (.ref a) := by
        rw [List.getElem?_append_right (by omega), show (Γ.set i un ++ T).length - (σ ++ τ).length = 0 by omega]; rfl
      rw [this] at q
      exact q)
    have eσ2 : ((σ ++ τ) ++ ([some (V.ref a)] ++ [some v])).set i (some (.ref a)) = (σ ++ τ) ++ ([some (V.ref a)] ++ [some v]) := by
      rw [List.set_append_left _ _ (by simp; omega), List.set_append_left _ _ (by omega)]
      congr 2
      obtain ⟨q1, q2⟩ := List.getElem?_eq_some_iff.mp hσs
      refine List.ext_getElem? fun j => ?_
      by_cases hj : i = j
      · subst hj; rw [List.getElem?_set_self q1, hσs]
      · rw [List.getElem?_set_ne hj]
    have eΓ2 : (((Γ.set i un ++ T) ++ ([W1 x a] ++ [S x])).set (Γ.set i un ++ T).length un).set i (W1 x a) = (Γ.set i (W1 x a) ++ T) ++ ([un] ++ [S x]) := by
      rw [List.set_append_right _ _ (Nat.le_refl _), Nat.sub_self, List.set_append_left _ _ (by simp; omega), List.set_append_left _ _ (by simpa using hlt), List.set_set]
      rfl
    rw [eσ2, eΓ2] at E6
    obtain ⟨s7, E7, e7, h7, _⟩ := E6.mid (by simp; omega) rfl
    have q := hQ v s7 (by simpa using E7) (by simp) ((((e1.trans e3).trans e5).trans e6).trans e7)
    rw [h7] at q
    exact q
theorem n_min2 {a b : Int} : OpN (fun xs H Q => ∃ i j, xs = [.int i, .int j] ∧ Q (.int (if j < i then j else i)) H) [pu tI a, pu tI b] (pu tI (if b < a then b else a)) :=
  opN_2 (op2_val fun B H v w s h1 h2 Q k => ⟨a, b, by rw [show v = V.int a from h1, show w = V.int b from h2], k _ rfl⟩)
theorem n_max2 {a b : Int} : OpN (fun xs H Q => ∃ i j, xs = [.int i, .int j] ∧ Q (.int (if j > i then j else i)) H) [pu tI a, pu tI b] (pu tI (if b > a then b else a)) :=
  opN_2 (op2_val fun B H v w s h1 h2 Q k => ⟨a, b, by rw [show v = V.int a from h1, show w = V.int b from h2], k _ rfl⟩)
theorem paired_dropLast {F : α → β → Prop} : ∀ {vs : List α} {xs : List β}, Paired F vs xs → Paired F vs.dropLast xs.dropLast
  | _, _, .nil => .nil
  | _, _, .cons h .nil => .nil
  | _, _, .cons h (.cons h2 r) => .cons h (paired_dropLast (.cons h2 r))
/-- x.pop(), x an owned list -/
theorem x_pop0 {X : Cx} {x : Str} {px apos cpos : Pos} {Γ Γ2 : List Slot} {R : Ty α} {i : Nat} [Inhabited α] {xs : List α} (hi : Γ[i]? = some (ol R xs)) (hz : 0 < xs.length) (hE : Γ.set i (ol R xs.dropLast) = Γ2) (hN : X.N[i]? = some x := by rfl) (hv : Vis X.env.scope x := by first | exact Or.inl rfl | exact Or.inr (Or.inl rfl) | exact Or.inr (Or.inr rfl))
    (hd : (x == ("__debug__" : Str)) = false := by decide) (hcd : (x == ("__classdict__" : Str)) = false := by decide)
    (hbase : attributeBase (.Name x px) "pop" X.env (eval (.Name x px) X.env) = eval (.Name x px) X.env := by rfl) (hline : (apos.endLine == cpos.line) = true := by rfl) :
    EX X (.Call (.Attribute (.Name x px) "pop" apos) [] [] cpos) Γ (pu R (ix xs (-1))) Γ2 := by
  subst hE
  intro T _ τ σ s hl E Q hQ
  refine re_of (pe_bm0 PySem.F.plainAttrs_list PySem.F.slot_list_pop PySem.F.type_list_pop mt_pop (pe_var hN hv hd hcd) hbase hline) ?_
  have hlt := (List.getElem?_eq_some_iff.mp hi).1
  obtain ⟨p, vs, e0, f0, r0⟩ := E.sl i _ (by rw [List.getElem?_append_left hlt]; exact hi)
  rw [List.getElem?_append_left (by omega)] at e0
  have hσ : σ[i]? = some (some (.ref p)) := by
    rw [List.getElem?_eq_getElem (by omega)] at e0 ⊢
    exact congrArg some e0
  have hp : s.H p = some (.lst vs) := E.subF i p _ (by rw [f0]; exact one_self)
  have hlen : vs.length = xs.length := paired_len r0
  obtain ⟨v, h1, h2⟩ := ix_of (F := R.rep s.B) r0 (i := -1) ⟨by omega, by omega⟩
  have hv1 : vs[vs.length - 1]? = some v := by
    have e : atI vs (-1) = vs[vs.length - 1]? := by
      unfold atI ixN
      rw [if_neg (by decide), if_pos (by omega)]
      show vs[((-1 : Int) + (vs.length : Int)).toNat]? = _
      congr 1
      omega
    rw [← e]; exact h1
  obtain ⟨E4, e4⟩ := E.write (S' := ol R xs.dropLast) (i := i) (ob := .lst vs) (ob' := .lst vs.dropLast) (by simp; omega) f0 (by
    rw [List.getElem?_append_left (by omega), hσ]
    exact ⟨p, _, rfl, rfl, paired_dropLast r0⟩)
  rw [set_app hlt] at E4
  refine ⟨.ref p, hσ, .inl ⟨rfl, vs, SqL.of hp⟩, p, vs, v, rfl, rfl, hp, hv1, ?_⟩
  have q := hQ v _ (E4.push0 (pu R (ix xs (-1))) ⟨rfl, v, rfl, h2⟩) (by simp) e4
  exact q
/-! ## len of a set of tuples -/
def rLenST (K : PySem.W.Frag) (P : Program) (w : World) : List V → Hp → VK → Prop := fun vs H Q => ∃ (a : Addr) (L : List (Addr × List Int)), vs = [V.ref a] ∧ H a = some (SetTO P w a L) ∧ (∀ p ∈ L, SqT K H p.1 (p.2.map V.int)) ∧ ((L.map (·.2)).Nodup → Q (.int (L.length : Int)) H)
theorem cr_lenST {X : Cx} : CallR X (.builtin "len") (rLenST X.K X.prog X.w) := by
  intro pins s σ H vs us Q I r h
  obtain ⟨a, L, rfl, ha, hk, q⟩ := h
  have R0 : SetT0 X.prog X.w s.heap a L := (I.hok a _ ha).1
  obtain ⟨es, ep, t, R⟩ := R0.full fun p hp => I.isT (hk p hp)
  rw [Vals.ref1 r]
  obtain ⟨o, ho, hex, hd⟩ := R.ob
  have hs := R.size
  have hf := R.few
  refine call_len_set ho hex hd R.fits (by omega) ⟨.int (L.length : Int), H, I.tok _, ⟨_, by rw [← hs]⟩, q R.nd⟩
theorem n_lenST {K : PySem.W.Frag} {P : Program} {w : World} {xs : List (List Int)} : OpN (rLenST K P w) [pu (tST K P w) xs] (pu tI ((rset xs).length : Int)) := by
  intro σ Γ _ s vs lv E Q hQ
  match vs, lv with
  | [v], _ =>
    obtain ⟨a, L, ev, h1, h2, h3⟩ := pu_top E
    obtain ⟨E2, e2⟩ := E.pop
    refine ⟨a, L, by rw [ev], E.sub _ _ h1, fun p hp => same_sqt E.sub (h2 p hp), fun nd => ?_⟩
    have el : (rset xs).length = L.length := by
      have p : (rset xs).Perm (L.map (·.2)) := (List.perm_ext_iff_of_nodup (rset_nodup xs) nd).mpr fun z => rset_mem.trans (h3 z).symm
      rw [p.length_eq, List.length_map]
    have q := hQ (.int (L.length : Int)) _ (E2.push0 (pu tI ((rset xs).length : Int)) ⟨rfl, _, rfl, by rw [el]; rfl⟩) e2
    exact q
/-! ## an if whose way may be left, with more behind it -/
def OP {θ : Type} (P : θ → Res → Prop) (Γ2 : List Slot) (o : Option θ) (r : Res) : Prop := match o with
  | some q => P q r ∧ ¬ isNx r
  | none => ∃ Γ', r = .nx Γ' ∧ Wk Γ' Γ2
theorem f_ifO {θ : Type} {X : Cx} {c : Expr} {b : Bool} {t sts : List Stmt} {pos : Pos} {Γ Γ1 : List Slot} {P : θ → Res → Prop} {o : Option θ} {B : θ} (Γ2 : List Slot) (hc : ET X c Γ b Γ1) (h1 : b = true → SX X t Γ1 (OP P Γ2 o)) (hw : Wk Γ1 Γ2) (h : SX X sts Γ2 (P B)) :
    SX X (.If c t [] pos :: sts) Γ (P ((if b = true then o else none).getD B)) := by
  refine sx_cons (P1 := fun r => (∃ Γ', r = .nx Γ' ∧ Wk Γ' Γ2 ∧ (if b = true then o else none) = none) ∨ ∃ q, (if b = true then o else none) = some q ∧ P q r ∧ ¬ isNx r) (s1_if hc (fun hb => (h1 hb).imp fun r q => ?_) fun hb => sx_nil (.inl ⟨Γ1, rfl, hw, by rw [hb]; rfl⟩)) (fun Γ' q => ?_) fun r q n => ?_
  · rw [if_pos hb]
    cases o with
    | none => obtain ⟨Γ', e, w⟩ := q; exact .inl ⟨Γ', e, w, rfl⟩
    | some z => exact .inr ⟨z, rfl, q⟩
  · rcases q with ⟨Γ3, e, w, z⟩ | ⟨z, _, _, nn⟩
    · cases e
      rw [z]
      exact h.wk w
    · exact absurd trivial nn
  · rcases q with ⟨Γ3, e, _, _⟩ | ⟨z, e, p, _⟩
    · subst e; exact absurd trivial n
    · rw [e]; exact p
end Fw

namespace Pf
open PySem L2 Fw
/-! plain laws: ranges, folds, loops, ascending lists -/
theorem rng_mem {lo hi x : Int} : x ∈ rangeI lo hi ↔ lo ≤ x ∧ x < hi := by
  unfold rangeI
  rw [List.mem_map]
  constructor
  · rintro ⟨i, hi, rfl⟩
    have := List.mem_range.mp hi
    omega
  · rintro ⟨h1, h2⟩
    exact ⟨(x - lo).toNat, List.mem_range.mpr (by omega), by omega⟩
theorem rng_at {lo hi x : Int} {i : Nat} (h : (rangeI lo hi)[i]? = some x) : lo ≤ x ∧ x < hi := rng_mem.mp (List.mem_of_getElem? h)
theorem rng_asc (lo hi : Int) : (rangeI lo hi).Pairwise (· < ·) := by
  unfold rangeI
  rw [List.pairwise_map]
  exact List.pairwise_lt_range.imp fun h => by omega
theorem foldl_pre {α κ : Type} (Pv : List α → κ → Prop) (step : κ → α → κ) : ∀ (post pre : List α) (s0 : κ), Pv pre s0 → (∀ p x q s, pre ++ post = p ++ x :: q → Pv p s → Pv (p ++ [x]) (step s x)) → Pv (pre ++ post) (post.foldl step s0)
  | [], pre, s0, h, _ => by simpa using h
  | x :: r, pre, s0, h, hs => by
    have q := foldl_pre Pv step r (pre ++ [x]) (step s0 x) (hs pre x r s0 rfl h) (fun p y q s e => hs p y q s (by simpa using e))
    simpa using q
theorem foldl_inv {α κ : Type} (Pv : κ → Prop) (step : κ → α → κ) (xs : List α) (s0 : κ) (h : Pv s0) (hs : ∀ x ∈ xs, ∀ s, Pv s → Pv (step s x)) : Pv (xs.foldl step s0) :=
  foldl_pre (fun _ s => Pv s) step xs [] s0 h fun p x q s e hp => hs x (by rw [show xs = p ++ x :: q from e]; simp) s hp
theorem foldl_at {α κ : Type} (Pv : κ → Prop) (step : κ → α → κ) (xs : List α) (s0 : κ) {i : Nat} {s : κ} (e : (xs.take i).foldl step s0 = s) (h : Pv s0) (hs : ∀ x ∈ xs, ∀ s, Pv s → Pv (step s x)) : Pv s := by
  rw [← e]
  exact foldl_inv Pv step _ s0 h fun x hx => hs x (List.mem_of_mem_take hx)
theorem while_end {κ : Type} (test : κ → Bool) (step : κ → κ) (Pv : κ → Prop) (μ : κ → Nat) (hm : ∀ s, Pv s → test s = true → Pv (step s) ∧ μ (step s) < μ s) : ∀ (n : Nat) (s0 : κ), Pv s0 → μ s0 < n →
    Pv (unSum (whileL test (fun s => .go (step s)) n s0)) ∧ test (unSum (whileL test (fun s => .go (step s)) n s0)) = false
  | 0, _, _, h => by omega
  | n + 1, s0, hp, h => by
    unfold whileL
    cases ht : test s0 with
    | true =>
      rw [if_pos rfl]
      have q := hm s0 hp ht
      exact while_end test step Pv μ hm n (step s0) q.1 (by omega)
    | false =>
      rw [if_neg (by decide)]
      exact ⟨hp, ht⟩
/-- ascending, within 0 .. n-1 -/
structure Cols (n : Nat) (xs : List Int) : Prop where
  asc : xs.Pairwise (· < ·)
  rg : ∀ x ∈ xs, 0 ≤ x ∧ x < n
theorem asc_len : ∀ (xs : List Int) (lo hi : Int), xs.Pairwise (· < ·) → (∀ x ∈ xs, lo ≤ x ∧ x < hi) → lo ≤ hi → (xs.length : Int) ≤ hi - lo
  | [], lo, hi, _, _, h => by simp; omega
  | x :: r, lo, hi, h, hm, _ => by
    have c := List.pairwise_cons.mp h
    have hx := hm x List.mem_cons_self
    have q := asc_len r (x + 1) hi c.2 (fun y hy => ⟨by have := c.1 y hy; omega, (hm y (List.mem_cons_of_mem _ hy)).2⟩) (by omega)
    simp only [List.length_cons]
    omega
theorem Cols.len {n : Nat} {xs : List Int} (h : Cols n xs) : xs.length ≤ n := by
  have := asc_len xs 0 n h.asc h.rg (by omega)
  omega
theorem Cols.mono {n m : Nat} {xs : List Int} (h : Cols n xs) (hm : n ≤ m) : Cols m xs := ⟨h.asc, fun x hx => by have := h.rg x hx; omega⟩
theorem Cols.sset {n : Nat} {xs : List Int} (h : ∀ x ∈ xs, 0 ≤ x ∧ x < n) : Cols n (sset xs) := ⟨sset_asc _, fun x hx => h x ((mem_sset x xs).mp hx)⟩
theorem Cols.uni {n : Nat} {a b : List Int} (ha : Cols n a) (hb : Cols n b) : Cols n (Fw.sset (a ++ b)) := Cols.sset fun x hx => (List.mem_append.mp hx).elim (ha.rg x) (hb.rg x)
theorem Cols.filter {n : Nat} {a : List Int} (h : Cols n a) (p : Int → Bool) : Cols n (a.filter p) := ⟨h.asc.filter p, fun x hx => h.rg x (List.mem_filter.mp hx).1⟩
theorem Cols.rng {n : Nat} {c : Int} (h : c ≤ n) : Cols n (rangeI 0 c) := ⟨rng_asc _ _, fun x hx => by have := rng_mem.mp hx; omega⟩
theorem Cols.nil {n : Nat} : Cols n [] := ⟨List.Pairwise.nil, fun _ h => nomatch h⟩
theorem Cols.ext {n m : Nat} {a b : List Int} (ha : Cols n a) (hb : Cols m b) (h : ∀ x, x ∈ a ↔ x ∈ b) : a = b := asc_unique ha.asc hb.asc h
theorem Cols.self {n : Nat} {a : List Int} (ha : Cols n a) : Fw.sset a = a := asc_unique (sset_asc a) ha.asc (mem_sset · a)
def sub (a b : List Int) : Prop := ∀ x ∈ a, x ∈ b
theorem all_sub {a b : List Int} : a.all (fun x => decide (x ∈ b)) = true ↔ sub a b := by simp [sub]
theorem less_sub {a b : List Int} : decide (((a.filter fun x => !(decide (x ∈ b))).length : Int) = 0) = true ↔ sub a b := by
  rw [decide_eq_true_eq]
  constructor
  · intro h x hx
    have e : a.filter (fun x => !(decide (x ∈ b))) = [] := List.eq_nil_of_length_eq_zero (by omega)
    have := (List.filter_eq_nil_iff.mp e) x hx
    simpa using this
  · intro h
    have e : a.filter (fun x => !(decide (x ∈ b))) = [] := List.filter_eq_nil_iff.mpr fun x hx => by simpa using h x hx
    rw [e]; rfl
theorem ix_mem {α : Type} [Inhabited α] {xs : List α} {i : Int} (h : InIx xs.length i) : ix xs i ∈ xs := by
  obtain ⟨j, _, e⟩ := ix_at h
  exact List.mem_of_getElem? e
/-! plain laws: closures -/
def mkSd (l r : List Int) : Sd := ⟨sset l, sset r⟩
def Clo (D : List Sd) (X : List Int) : Prop := ∀ d ∈ D, sub d.l X → sub d.r X
structure IsCl (D : List Sd) (X R : List Int) : Prop where
  sub : sub X R
  clo : Clo D R
  least : ∀ Y, Pf.sub X Y → Clo D Y → Pf.sub R Y
theorem IsCl.eq {n m : Nat} {D : List Sd} {X R R' : List Int} (h : IsCl D X R) (h' : IsCl D X R') (c : Cols n R) (c' : Cols m R') : R = R' :=
  c.ext c' fun x => ⟨fun hx => h.least R' h'.sub h'.clo x hx, fun hx => h'.least R h.sub h.clo x hx⟩
theorem IsCl.idem {D : List Sd} {X R : List Int} (h : IsCl D X R) : IsCl D R R := ⟨fun _ h => h, h.clo, fun _ h _ => h⟩
theorem IsCl.same {D D' : List Sd} {X R : List Int} (h : IsCl D X R) (k : ∀ Y, Clo D Y ↔ Clo D' Y) : IsCl D' X R := ⟨h.sub, (k _).mp h.clo, fun Y h1 h2 => h.least Y h1 ((k Y).mpr h2)⟩
theorem IsCl.mono {D : List Sd} {X X' R R' : List Int} (h : IsCl D X R) (h' : IsCl D X' R') (k : Pf.sub X X') : Pf.sub R R' := h.least R' (fun x hx => h'.sub x (k x hx)) h'.clo
theorem clo_mem {D D' : List Sd} (h : ∀ d, d ∈ D ↔ d ∈ D') (Y : List Int) : Clo D Y ↔ Clo D' Y := ⟨fun k d hd => k d ((h d).mpr hd), fun k d hd => k d ((h d).mp hd)⟩
def unsat (D : List Sd) (f : List Int) : Nat := D.countP fun d => !(d.r.all fun x => decide (x ∈ f))
theorem unsat_mono {D : List Sd} {f g : List Int} (h : sub f g) : unsat D g ≤ unsat D f := by
  unfold unsat
  refine List.countP_mono_left fun d _ hd => ?_
  simp only [Bool.not_eq_true', ← Bool.not_eq_true, all_sub] at hd ⊢
  exact fun k => hd fun x hx => h x (k x hx)
theorem countP_lt {α : Type} {p q : α → Bool} : ∀ {l : List α}, (∀ x ∈ l, q x = true → p x = true) → (∃ x ∈ l, p x = true ∧ q x = false) → l.countP q < l.countP p
  | [], _, ⟨x, hx, _⟩ => by cases hx
  | y :: r, h, ⟨x, hx, h1, h2⟩ => by
    have hy := h y List.mem_cons_self
    have hr : ∀ x ∈ r, q x = true → p x = true := fun x hx => h x (List.mem_cons_of_mem _ hx)
    rw [List.countP_cons, List.countP_cons]
    rcases List.mem_cons.mp hx with rfl | hx
    · have := List.countP_mono_left hr
      rw [h1, h2]; simp; omega
    · have := countP_lt hr ⟨x, hx, h1, h2⟩
      split <;> split <;> first | omega | (rename_i a b; exact absurd (hy a) b)
theorem unsat_lt {D : List Sd} {f g : List Int} {d : Sd} (hd : d ∈ D) (h : sub f g) (h1 : ¬ sub d.r f) (h2 : sub d.r g) : unsat D g < unsat D f := by
  unfold unsat
  refine countP_lt (fun d _ hd => ?_) ⟨d, hd, ?_, ?_⟩
  · simp only [Bool.not_eq_true', ← Bool.not_eq_true, all_sub] at hd ⊢
    exact fun k => hd fun x hx => h x (k x hx)
  · simp only [Bool.not_eq_true', ← Bool.not_eq_true, all_sub]; exact h1
  · simp only [Bool.not_eq_false', all_sub]; exact h2
theorem sub_uni_l {a b : List Int} : sub a (sset (a ++ b)) := fun x hx => (mem_sset x _).mpr (List.mem_append_left _ hx)
theorem sub_uni_r {a b : List Int} : sub b (sset (a ++ b)) := fun x hx => (mem_sset x _).mpr (List.mem_append_right _ hx)
theorem uni_sub {a b Y : List Int} (h1 : sub a Y) (h2 : sub b Y) : sub (sset (a ++ b)) Y := fun x hx => (List.mem_append.mp ((mem_sset x _).mp hx)).elim (h1 x) (h2 x)
/-- one walk over the rows, from f0, to s; some of them seen -/
structure Walked (n : Nat) (D : List Sd) (f0 : List Int) (pre : List Sd) (s : List Int) : Prop where
  cols : Cols n s
  sub : sub f0 s
  least : ∀ Y, Pf.sub f0 Y → Clo D Y → Pf.sub s Y
  ch : unsat D s < unsat D f0 ∨ (s = f0 ∧ ∀ d ∈ pre, Pf.sub d.l f0 → Pf.sub d.r f0)
theorem Walked.start {n : Nat} {D : List Sd} {f0 : List Int} (h : Cols n f0) : Walked n D f0 [] f0 := ⟨h, fun _ h => h, fun _ h _ => h, .inr ⟨rfl, fun _ h => nomatch h⟩⟩
/-- a row with nothing to do -/
theorem Walked.skip {n : Nat} {D : List Sd} {f0 s : List Int} {pre : List Sd} {d : Sd} (h : Walked n D f0 pre s) (hd : Pf.sub d.l s → Pf.sub d.r s) : Walked n D f0 (pre ++ [d]) s :=
  ⟨h.cols, h.sub, h.least, h.ch.elim .inl fun ⟨e, k⟩ => .inr ⟨e, fun d' hd' => (List.mem_append.mp hd').elim (k d') fun z => by rw [List.mem_singleton.mp z, ← e]; exact hd⟩⟩
/-- a row whose right side is put to it -/
theorem Walked.put {n : Nat} {D : List Sd} {f0 s : List Int} {pre : List Sd} {d : Sd} (h : Walked n D f0 pre s) (hD : d ∈ D) (hc : Cols n d.r) (hl : Pf.sub d.l s) : Walked n D f0 (pre ++ [d]) (sset (s ++ d.r)) := by
  refine ⟨h.cols.uni hc, fun x hx => sub_uni_l x (h.sub x hx), fun Y h1 h2 => uni_sub (h.least Y h1 h2) (h2 d hD fun x hx => h.least Y h1 h2 x (hl x hx)), ?_⟩
  by_cases q : Pf.sub d.r s
  · have e : sset (s ++ d.r) = s := (h.cols.uni hc).ext h.cols fun x => ⟨fun hx => uni_sub (fun _ z => z) q x hx, fun hx => sub_uni_l x hx⟩
    rw [e]
    exact (h.skip (d := d) fun _ => q).ch
  · exact .inl (Nat.lt_of_lt_of_le (unsat_lt hD sub_uni_l q sub_uni_r) (unsat_mono h.sub))
theorem Walked.strict {n : Nat} {D : List Sd} {f0 s : List Int} {pre : List Sd} {d : Sd} (h : Walked n D f0 pre s) (hD : d ∈ D) (hc : Cols n d.r) (hl : Pf.sub d.l s) (hr : ¬ Pf.sub d.r s) : unsat D (sset (s ++ d.r)) < unsat D f0 :=
  Nat.lt_of_lt_of_le (unsat_lt hD sub_uni_l hr sub_uni_r) (unsat_mono h.sub)
theorem nl_Sd {K : PySem.W.Frag} {C : Addr} : NL (tObj C (flSd K)) := nl_Ob fun a q hq B v h => by
  have hq' : q ∈ ([("left", fld (tT K tI) a.l), ("right", fld (tT K tI) a.r)] : List (Str × Fld)) := hq
  rcases List.mem_cons.mp hq' with rfl | hq'
  · exact nl_T nl_I B v _ h
  · rw [List.mem_singleton.mp hq'] at h ⊢
    exact nl_T nl_I B v _ h
/-! tables -/
def mkTab (c : List Int) (r : List (List Int)) : Tab := ⟨c, rset r⟩
theorem nl_Tab {K : PySem.W.Frag} {C : Addr} : NL (tObj C (flTab K)) := nl_Ob fun a q hq B v h => by
  have hq' : q ∈ ([("columns", fld (tTd K) a.c), ("rows", fld (tT K (tT K tI)) a.r)] : List (Str × Fld)) := hq
  rcases List.mem_cons.mp hq' with rfl | hq'
  · exact nl_Td (K := K) B v _ h
  · rw [List.mem_singleton.mp hq'] at h ⊢
    exact nl_T (nl_T nl_I) B v _ h
def TabOk (t : Tab) : Prop := Cols 16 t.c ∧ t.r.length < 64 ∧ ∀ r ∈ t.r, r.length = t.c.length
def DIn (t : Tab) (d : Sd) : Prop := (∀ x ∈ d.l, x ∈ t.c) ∧ ∀ x ∈ d.r, x ∈ t.c
theorem enumI_at {α : Type} {xs : List α} {i : Nat} {p : Int × α} (h : (enumI xs)[i]? = some p) : p.1 = (i : Int) ∧ xs[i]? = some p.2 := by
  unfold enumI at h
  rw [List.getElem?_mapIdx] at h
  cases e : xs[i]? with
  | none => rw [e] at h; cases h
  | some x => rw [e] at h; cases h; exact ⟨rfl, rfl⟩
theorem mkTab_ok {c : List Int} {r : List (List Int)} (hc : Cols 16 c) (h1 : r.length < 64) (h2 : ∀ x ∈ r, x.length = c.length) : TabOk (mkTab c r) := by
  refine ⟨hc, ?_, fun x hx => h2 x (rset_mem.mp hx)⟩
  show (rset r).length < 64
  have : (rset r).length ≤ r.length := by
    unfold rset
    rw [(rowSort_perm _).length_eq]
    have key : ∀ l : List (List Int), (undup l).length ≤ l.length := fun l => by
      induction l with
      | nil => exact Nat.le_refl _
      | cons x l ih =>
        unfold undup
        split
        · rw [List.length_cons]; omega
        · rw [List.length_cons, List.length_cons]; omega
    exact key r
  omega
def top (i : Nat) : Stmt := PySem.Challenge.pw_followsortable_k75_whole_boyce_codd.main.body.getD i (.Pass ⟨0, 0, 0, 0⟩)
abbrev s_Lnumbers : Stmt := top 18
abbrev N_Lnumbers : List Str := ["_law_script", "_law_count", "_law_rest", "_law_by_digits", "_law_numbers_here", "_law_k", "_law_cell"]
theorem sc_Lnumbers : FnScope N_Lnumbers ["_law_script", "_law_count"] (defScope s_Lnumbers) := ⟨rfl, rfl, rfl, by decide +kernel, rfl, by decide +kernel, by decide +kernel⟩
abbrev s_Lsparse : Stmt := top 20
abbrev N_Lsparse : List Str := ["_law_number", "_law_count", "_law_k"]
theorem sc_Lsparse : FnScope N_Lsparse ["_law_number", "_law_count"] (defScope s_Lsparse) := ⟨rfl, rfl, rfl, by decide +kernel, rfl, by decide +kernel, by decide +kernel⟩
abbrev s_Lfds : Stmt := top 25
abbrev N_Lfds : List Str := ["_law_numbers_here", "_law_place", "_law_count", "_law_rows", "_law_k", "_law_number"]
theorem sc_Lfds : FnScope N_Lfds ["_law_numbers_here", "_law_place", "_law_count"] (defScope s_Lfds) := ⟨rfl, rfl, rfl, by decide +kernel, rfl, by decide +kernel, by decide +kernel⟩
abbrev s_as_set : Stmt := top 1
abbrev N_as_set : List Str := ["columns"]
theorem sc_as_set : FnScope N_as_set ["columns"] (defScope s_as_set) := ⟨rfl, rfl, rfl, by decide +kernel, rfl, by decide +kernel, by decide +kernel⟩
abbrev s_Sides_init : Stmt := inClass (top 9) 0
abbrev N_Sides_init : List Str := ["self", "left", "right"]
theorem sc_Sides_init : FnScope N_Sides_init ["self", "left", "right"] (defScope s_Sides_init) := ⟨rfl, rfl, rfl, by decide +kernel, rfl, by decide +kernel, by decide +kernel⟩
abbrev s_Lset : Stmt := top 19
abbrev N_Lset : List Str := ["_law_number", "_law_count", "_law_k"]
theorem sc_Lset : FnScope N_Lset ["_law_number", "_law_count"] (defScope s_Lset) := ⟨rfl, rfl, rfl, by decide +kernel, rfl, by decide +kernel, by decide +kernel⟩
abbrev s_all_sets : Stmt := top 7
abbrev N_all_sets : List Str := ["columns", "found", "column", "part"]
theorem sc_all_sets : FnScope N_all_sets ["columns"] (defScope s_all_sets) := ⟨rfl, rfl, rfl, by decide +kernel, rfl, by decide +kernel, by decide +kernel⟩
abbrev s_is_within : Stmt := top 5
abbrev N_is_within : List Str := ["a", "b", "column"]
theorem sc_is_within : FnScope N_is_within ["a", "b"] (defScope s_is_within) := ⟨rfl, rfl, rfl, by decide +kernel, rfl, by decide +kernel, by decide +kernel⟩
abbrev s_united : Stmt := top 2
abbrev N_united : List Str := ["a", "b"]
theorem sc_united : FnScope N_united ["a", "b"] (defScope s_united) := ⟨rfl, rfl, rfl, by decide +kernel, rfl, by decide +kernel, by decide +kernel⟩
abbrev s_closed : Stmt := top 12
abbrev N_closed : List Str := ["dependencies", "columns", "found", "changed", "dependency"]
theorem sc_closed : FnScope N_closed ["dependencies", "columns"] (defScope s_closed) := ⟨rfl, rfl, rfl, by decide +kernel, rfl, by decide +kernel, by decide +kernel⟩
abbrev s_less : Stmt := top 4
abbrev N_less : List Str := ["a", "b", "column"]
theorem sc_less : FnScope N_less ["a", "b"] (defScope s_less) := ⟨rfl, rfl, rfl, by decide +kernel, rfl, by decide +kernel, by decide +kernel⟩
abbrev s_met : Stmt := top 3
abbrev N_met : List Str := ["a", "b", "column"]
theorem sc_met : FnScope N_met ["a", "b"] (defScope s_met) := ⟨rfl, rfl, rfl, by decide +kernel, rfl, by decide +kernel, by decide +kernel⟩
abbrev s_broken : Stmt := top 14
abbrev N_broken : List Str := ["count", "dependencies", "columns", "left", "closure", "right"]
theorem sc_broken : FnScope N_broken ["count", "dependencies", "columns"] (defScope s_broken) := ⟨rfl, rfl, rfl, by decide +kernel, rfl, by decide +kernel, by decide +kernel⟩
abbrev s_Lless : Stmt := top 23
abbrev N_Lless : List Str := ["_law_a", "_law_b", "_law_k"]
theorem sc_Lless : FnScope N_Lless ["_law_a", "_law_b"] (defScope s_Lless) := ⟨rfl, rfl, rfl, by decide +kernel, rfl, by decide +kernel, by decide +kernel⟩
abbrev s_Lis_within : Stmt := top 24
abbrev N_Lis_within : List Str := ["_law_a", "_law_b"]
theorem sc_Lis_within : FnScope N_Lis_within ["_law_a", "_law_b"] (defScope s_Lis_within) := ⟨rfl, rfl, rfl, by decide +kernel, rfl, by decide +kernel, by decide +kernel⟩
abbrev s_Lunited : Stmt := top 21
abbrev N_Lunited : List Str := ["_law_a", "_law_b"]
theorem sc_Lunited : FnScope N_Lunited ["_law_a", "_law_b"] (defScope s_Lunited) := ⟨rfl, rfl, rfl, by decide +kernel, rfl, by decide +kernel, by decide +kernel⟩
abbrev s_Lclosed : Stmt := top 26
abbrev N_Lclosed : List Str := ["_law_rows", "_law_columns", "_law_found", "_law_k", "_law_row"]
theorem sc_Lclosed : FnScope N_Lclosed ["_law_rows", "_law_columns"] (defScope s_Lclosed) := ⟨rfl, rfl, rfl, by decide +kernel, rfl, by decide +kernel, by decide +kernel⟩
abbrev s_Lmet : Stmt := top 22
abbrev N_Lmet : List Str := ["_law_a", "_law_b", "_law_k"]
theorem sc_Lmet : FnScope N_Lmet ["_law_a", "_law_b"] (defScope s_Lmet) := ⟨rfl, rfl, rfl, by decide +kernel, rfl, by decide +kernel, by decide +kernel⟩
abbrev s_Lbreaks : Stmt := top 27
abbrev N_Lbreaks : List Str := ["_law_rows", "_law_columns", "_law_count", "_law_number", "_law_left", "_law_reached"]
theorem sc_Lbreaks : FnScope N_Lbreaks ["_law_rows", "_law_columns", "_law_count"] (defScope s_Lbreaks) := ⟨rfl, rfl, rfl, by decide +kernel, rfl, by decide +kernel, by decide +kernel⟩
abbrev s_whole : Stmt := top 6
abbrev N_whole : List Str := ["count"]
theorem sc_whole : FnScope N_whole ["count"] (defScope s_whole) := ⟨rfl, rfl, rfl, by decide +kernel, rfl, by decide +kernel, by decide +kernel⟩
abbrev s_greatest : Stmt := top 15
abbrev N_greatest : List Str := ["parts", "found", "part", "other"]
theorem sc_greatest : FnScope N_greatest ["parts"] (defScope s_greatest) := ⟨rfl, rfl, rfl, by decide +kernel, rfl, by decide +kernel, by decide +kernel⟩
abbrev s_boyce_codd : Stmt := top 16
abbrev N_boyce_codd : List Str := ["count", "dependencies", "pending", "found", "columns", "shown"]
theorem sc_boyce_codd : FnScope N_boyce_codd ["count", "dependencies"] (defScope s_boyce_codd) := ⟨rfl, rfl, rfl, by decide +kernel, rfl, by decide +kernel, by decide +kernel⟩
abbrev s_Lis_split : Stmt := top 30
abbrev N_Lis_split : List Str := ["_law_parts", "_law_count", "_law_columns", "_law_part", "_law_other"]
theorem sc_Lis_split : FnScope N_Lis_split ["_law_parts", "_law_count"] (defScope s_Lis_split) := ⟨rfl, rfl, rfl, by decide +kernel, rfl, by decide +kernel, by decide +kernel⟩
abbrev s_Lmerge : Stmt := top 29
abbrev N_Lmerge : List Str := ["_law_table", "_law_column", "_law_low", "_law_high", "_law_row"]
theorem sc_Lmerge : FnScope N_Lmerge ["_law_table", "_law_column", "_law_low", "_law_high"] (defScope s_Lmerge) := ⟨rfl, rfl, rfl, by decide +kernel, rfl, by decide +kernel, by decide +kernel⟩
abbrev s_Lis_lossless : Stmt := top 28
abbrev N_Lis_lossless : List Str := ["_law_rows", "_law_parts", "_law_count", "_law_table", "_law_c", "_law_k", "_law_turn", "_law_row", "_law_one", "_law_two"]
theorem sc_Lis_lossless : FnScope N_Lis_lossless ["_law_rows", "_law_parts", "_law_count"] (defScope s_Lis_lossless) := ⟨rfl, rfl, rfl, by decide +kernel, rfl, by decide +kernel, by decide +kernel⟩
abbrev s_law : Stmt := top 31
abbrev N_law : List Str := ["_law_script", "_law_numbers_here", "_law_count", "_law_rows", "_law_told", "_law_row", "_law_columns", "_law_shown", "_law_reached", "_law_parts", "_law_one", "_law_kept", "_law_part"]
theorem sc_law : FnScope N_law ["_law_script"] (defScope s_law) := ⟨rfl, rfl, rfl, by decide +kernel, rfl, by decide +kernel, by decide +kernel⟩
/-! mirrors -/
def Lnumbers_Lrest1 (vLscript : (List Int)) (vLcount : Int) : Int := (0 : Int)
def Lnumbers_Lrest2 (vLscript : (List Int)) (vLcount : Int) : Int := (ix vLscript (0 : Int))
def Lnumbers_j_Lrest1 (vLscript : (List Int)) (vLcount : Int) : (Int) := (if (decide ((0 : Int) < (vLscript.length : Int))) = true then ((Lnumbers_Lrest2 vLscript vLcount) : Int) else (Lnumbers_Lrest1 vLscript vLcount))
def Lnumbers_Lby_digits1 (vLscript : (List Int)) (vLcount : Int) : Bool := (decide (((10 : Int) ^ (18 : Int).toNat) ≤ (Lnumbers_j_Lrest1 vLscript vLcount)))
def Lnumbers_Lnumbers_here1 (vLscript : (List Int)) (vLcount : Int) : (List Int) := ([] : List Int)
def Lnumbers_Lnumbers_here2 (vLscript : (List Int)) (vLcount : Int) (vLrest4 : Int) (vLnumbers_here5 : (List Int)) (x3 : Int) : (List Int) := vLnumbers_here5 ++ [(vLrest4 % (1000000 : Int))]
def Lnumbers_Lrest3 (vLscript : (List Int)) (vLcount : Int) (vLrest4 : Int) (vLnumbers_here5 : (List Int)) (x3 : Int) : Int := (vLrest4 / (1000000 : Int))
def Lnumbers_Lcell1 (vLscript : (List Int)) (vLcount : Int) (vLrest4 : Int) (vLnumbers_here5 : (List Int)) (x3 : Int) : Int := (13 : Int)
def Lnumbers_Lcell2 (vLscript : (List Int)) (vLcount : Int) (vLrest4 : Int) (vLnumbers_here5 : (List Int)) (x3 : Int) : Int := ((ix vLscript (x3 % (vLscript.length : Int))) + ((7919 : Int) * x3))
def Lnumbers_j_Lcell1 (vLscript : (List Int)) (vLcount : Int) (vLrest4 : Int) (vLnumbers_here5 : (List Int)) (x3 : Int) : (Int) := (if (decide ((0 : Int) < (vLscript.length : Int))) = true then ((Lnumbers_Lcell2 vLscript vLcount vLrest4 vLnumbers_here5 x3) : Int) else (Lnumbers_Lcell1 vLscript vLcount vLrest4 vLnumbers_here5 x3))
def Lnumbers_Lnumbers_here3 (vLscript : (List Int)) (vLcount : Int) (vLrest4 : Int) (vLnumbers_here5 : (List Int)) (x3 : Int) : (List Int) := vLnumbers_here5 ++ [((((((Lnumbers_j_Lcell1 vLscript vLcount vLrest4 vLnumbers_here5 x3) * (48271 : Int)) % (2147483647 : Int)) * (69621 : Int)) % (2147483629 : Int)) % (1000000 : Int))]
def Lnumbers_j_Lrest_Lnumbers_here1 (vLscript : (List Int)) (vLcount : Int) (vLrest4 : Int) (vLnumbers_here5 : (List Int)) (x3 : Int) : (Int × (List Int)) := (if ((Lnumbers_Lby_digits1 vLscript vLcount) && (decide ((0 : Int) < vLrest4))) = true then (((Lnumbers_Lrest3 vLscript vLcount vLrest4 vLnumbers_here5 x3), (Lnumbers_Lnumbers_here2 vLscript vLcount vLrest4 vLnumbers_here5 x3)) : Int × (List Int)) else (vLrest4, (Lnumbers_Lnumbers_here3 vLscript vLcount vLrest4 vLnumbers_here5 x3)))
def Lnumbers_st1 (vLscript : (List Int)) (vLcount : Int) (s : Int × (List Int)) (x3 : Int) : Int × (List Int) := ((Lnumbers_j_Lrest_Lnumbers_here1 vLscript vLcount s.1 s.2 x3).1, (Lnumbers_j_Lrest_Lnumbers_here1 vLscript vLcount s.1 s.2 x3).2)
def Lnumbers_loop1 (vLscript : (List Int)) (vLcount : Int) : (Int × (List Int)) := (rangeI 0 vLcount).foldl (Lnumbers_st1 vLscript vLcount) ((Lnumbers_j_Lrest1 vLscript vLcount), (Lnumbers_Lnumbers_here1 vLscript vLcount))
def m_Lnumbers (vLscript : (List Int)) (vLcount : Int) : (List Int) := (Lnumbers_loop1 vLscript vLcount).2


def m_Lsparse (vLnumber : Int) (vLcount : Int) : (List Int) := ((rangeI 0 vLcount).filter (fun (x1 : Int) => (decide (((vLnumber / (ix ([(1 : Int), (3 : Int), (9 : Int), (27 : Int), (81 : Int), (243 : Int), (729 : Int)] : List Int) x1)) % (3 : Int)) = (1 : Int)))))

def Lfds_Lrows1 (vLnumbers_here : (List Int)) (vLplace : Int) (vLcount : Int) : (List ((List Int) × (List Int))) := ([] : List ((List Int) × (List Int)))
def Lfds_Lnumber1 (vLnumbers_here : (List Int)) (vLplace : Int) (vLcount : Int) (vLrows2 : (List ((List Int) × (List Int)))) (x1 : Int) : Int := (ix vLnumbers_here ((vLplace + (1 : Int)) + x1))
def Lfds_Lrows2 (vLnumbers_here : (List Int)) (vLplace : Int) (vLcount : Int) (vLrows2 : (List ((List Int) × (List Int)))) (x1 : Int) : (List ((List Int) × (List Int))) := vLrows2 ++ [((m_Lsparse (Lfds_Lnumber1 vLnumbers_here vLplace vLcount vLrows2 x1) vLcount), (m_Lsparse ((Lfds_Lnumber1 vLnumbers_here vLplace vLcount vLrows2 x1) / (729 : Int)) vLcount))]
def Lfds_st1 (vLnumbers_here : (List Int)) (vLplace : Int) (vLcount : Int) (s : (List ((List Int) × (List Int)))) (x1 : Int) : (List ((List Int) × (List Int))) := (Lfds_Lrows2 vLnumbers_here vLplace vLcount s x1)
def Lfds_loop1 (vLnumbers_here : (List Int)) (vLplace : Int) (vLcount : Int) : ((List ((List Int) × (List Int)))) := (rangeI 0 ((ix vLnumbers_here vLplace) % (7 : Int))).foldl (Lfds_st1 vLnumbers_here vLplace vLcount) (Lfds_Lrows1 vLnumbers_here vLplace vLcount)
def m_Lfds (vLnumbers_here : (List Int)) (vLplace : Int) (vLcount : Int) : (List ((List Int) × (List Int))) := (Lfds_loop1 vLnumbers_here vLplace vLcount)


def m_as_set (vcolumns : (List Int)) : (List Int) := (sset vcolumns)




def m_Lset (vLnumber : Int) (vLcount : Int) : (List Int) := ((rangeI 0 vLcount).filter (fun (x1 : Int) => (decide (((vLnumber / (ix ([(1 : Int), (2 : Int), (4 : Int), (8 : Int), (16 : Int), (32 : Int), (64 : Int), (128 : Int), (256 : Int), (512 : Int)] : List Int) x1)) % (2 : Int)) = (1 : Int)))))

def all_sets_found1 (vcolumns : (List Int)) : (List (List Int)) := ([([] : List Int)] : List (List Int))
def all_sets_found2 (vcolumns : (List Int)) (vfound2 : (List (List Int))) (x1 : Int) : (List (List Int)) := (vfound2 ++ (vfound2.map (fun (x3 : (List Int)) => (x3 ++ ([x1] : List Int)))))
def all_sets_st1 (vcolumns : (List Int)) (s : (List (List Int))) (x1 : Int) : (List (List Int)) := (all_sets_found2 vcolumns s x1)
def all_sets_loop1 (vcolumns : (List Int)) : ((List (List Int))) := vcolumns.foldl (all_sets_st1 vcolumns) (all_sets_found1 vcolumns)
def m_all_sets (vcolumns : (List Int)) : (List (List Int)) := (lenSort (all_sets_loop1 vcolumns))


def m_is_within (va : (List Int)) (vb : (List Int)) : Bool := (va.all (fun (x1 : Int) => (decide (x1 ∈ vb))))


def m_united (va : (List Int)) (vb : (List Int)) : (List Int) := (m_as_set (va ++ vb))

def closed_found1 (vdependencies : (List Sd)) (vcolumns : (List Int)) : (List Int) := vcolumns
def closed_changed1 (vdependencies : (List Sd)) (vcolumns : (List Int)) : Bool := true
def closed_changed2 (vdependencies : (List Sd)) (vcolumns : (List Int)) (vfound1 : (List Int)) (vchanged2 : Bool) : Bool := false
def closed_found2 (vdependencies : (List Sd)) (vcolumns : (List Int)) (vfound1 : (List Int)) (vchanged2 : Bool) (vfound4 : (List Int)) (vchanged5 : Bool) (x3 : Sd) : (List Int) := (m_united vfound4 x3.r)
def closed_changed3 (vdependencies : (List Sd)) (vcolumns : (List Int)) (vfound1 : (List Int)) (vchanged2 : Bool) (vfound4 : (List Int)) (vchanged5 : Bool) (x3 : Sd) : Bool := true
def closed_j_found_changed1 (vdependencies : (List Sd)) (vcolumns : (List Int)) (vfound1 : (List Int)) (vchanged2 : Bool) (vfound4 : (List Int)) (vchanged5 : Bool) (x3 : Sd) : ((List Int) × Bool) := (if ((m_is_within x3.l vfound4) && (!(m_is_within x3.r vfound4))) = true then (((closed_found2 vdependencies vcolumns vfound1 vchanged2 vfound4 vchanged5 x3), (closed_changed3 vdependencies vcolumns vfound1 vchanged2 vfound4 vchanged5 x3)) : (List Int) × Bool) else (vfound4, vchanged5))
def closed_st2 (vdependencies : (List Sd)) (vcolumns : (List Int)) (vfound1 : (List Int)) (vchanged2 : Bool) (s : (List Int) × Bool) (x3 : Sd) : (List Int) × Bool := ((closed_j_found_changed1 vdependencies vcolumns vfound1 vchanged2 s.1 s.2 x3).1, (closed_j_found_changed1 vdependencies vcolumns vfound1 vchanged2 s.1 s.2 x3).2)
def closed_loop1 (vdependencies : (List Sd)) (vcolumns : (List Int)) (vfound1 : (List Int)) (vchanged2 : Bool) : ((List Int) × Bool) := vdependencies.foldl (closed_st2 vdependencies vcolumns vfound1 vchanged2) (vfound1, (closed_changed2 vdependencies vcolumns vfound1 vchanged2))
def closed_ts1 (vdependencies : (List Sd)) (vcolumns : (List Int)) (s : (List Int) × Bool) : Bool := s.2
def closed_st1 (vdependencies : (List Sd)) (vcolumns : (List Int)) (s : (List Int) × Bool) : (List Int) × Bool := ((closed_loop1 vdependencies vcolumns s.1 s.2).1, (closed_loop1 vdependencies vcolumns s.1 s.2).2)
def closed_loop2 (vdependencies : (List Sd)) (vcolumns : (List Int)) : ((List Int) × Bool) := unSum (whileL (closed_ts1 vdependencies vcolumns) (fun s => .go (closed_st1 vdependencies vcolumns s)) (vdependencies.length + 2) ((closed_found1 vdependencies vcolumns), (closed_changed1 vdependencies vcolumns)))
def m_closed (vdependencies : (List Sd)) (vcolumns : (List Int)) : (List Int) := (closed_loop2 vdependencies vcolumns).1


def m_less (va : (List Int)) (vb : (List Int)) : (List Int) := (va.filter (fun (x1 : Int) => (!(decide (x1 ∈ vb)))))


def m_met (va : (List Int)) (vb : (List Int)) : (List Int) := (va.filter (fun (x1 : Int) => (decide (x1 ∈ vb))))

def broken_closure1 (vcount : Int) (vdependencies : (List Sd)) (vcolumns : (List Int)) (x1 : (List Int)) : (List Int) := (m_closed vdependencies x1)
def broken_right1 (vcount : Int) (vdependencies : (List Sd)) (vcolumns : (List Int)) (x1 : (List Int)) : (List Int) := (m_less (m_met (broken_closure1 vcount vdependencies vcolumns x1) vcolumns) x1)
def broken_st1 (vcount : Int) (vdependencies : (List Sd)) (vcolumns : (List Int)) (s : Unit) (x1 : (List Int)) : Lp (Unit) (Option Sd) := (if ((decide ((0 : Int) < ((broken_right1 vcount vdependencies vcolumns x1).length : Int))) && (!(m_is_within vcolumns (broken_closure1 vcount vdependencies vcolumns x1)))) = true then (Lp.ret (some (mkSd x1 (broken_right1 vcount vdependencies vcolumns x1)))) else (Lp.go ()))
def m_broken (vcount : Int) (vdependencies : (List Sd)) (vcolumns : (List Int)) : (Option Sd) := (elimS (fun (s6 : Unit) => none) (fun q => q) (runL (broken_st1 vcount vdependencies vcolumns) () (m_all_sets vcolumns)))


def m_Lless (vLa : (List Int)) (vLb : (List Int)) : (List Int) := (vLa.filter (fun (x1 : Int) => (!(decide (x1 ∈ vLb)))))


def m_Lis_within (vLa : (List Int)) (vLb : (List Int)) : Bool := (decide (((m_Lless vLa vLb).length : Int) = (0 : Int)))


def m_Lunited (vLa : (List Int)) (vLb : (List Int)) : (List Int) := (sset (vLa ++ vLb))

def Lclosed_Lfound1 (vLrows : (List ((List Int) × (List Int)))) (vLcolumns : (List Int)) : (List Int) := vLcolumns
def Lclosed_Lfound2 (vLrows : (List ((List Int) × (List Int)))) (vLcolumns : (List Int)) (vLfound2 : (List Int)) (x1 : Int) (vLfound4 : (List Int)) (x3 : ((List Int) × (List Int))) : (List Int) := (m_Lunited vLfound4 x3.2)
def Lclosed_j_Lfound1 (vLrows : (List ((List Int) × (List Int)))) (vLcolumns : (List Int)) (vLfound2 : (List Int)) (x1 : Int) (vLfound4 : (List Int)) (x3 : ((List Int) × (List Int))) : ((List Int)) := (if (m_Lis_within x3.1 vLfound4) = true then ((Lclosed_Lfound2 vLrows vLcolumns vLfound2 x1 vLfound4 x3) : (List Int)) else vLfound4)
def Lclosed_st2 (vLrows : (List ((List Int) × (List Int)))) (vLcolumns : (List Int)) (vLfound2 : (List Int)) (x1 : Int) (s : (List Int)) (x3 : ((List Int) × (List Int))) : (List Int) := (Lclosed_j_Lfound1 vLrows vLcolumns vLfound2 x1 s x3)
def Lclosed_loop1 (vLrows : (List ((List Int) × (List Int)))) (vLcolumns : (List Int)) (vLfound2 : (List Int)) (x1 : Int) : ((List Int)) := vLrows.foldl (Lclosed_st2 vLrows vLcolumns vLfound2 x1) vLfound2
def Lclosed_st1 (vLrows : (List ((List Int) × (List Int)))) (vLcolumns : (List Int)) (s : (List Int)) (x1 : Int) : (List Int) := (Lclosed_loop1 vLrows vLcolumns s x1)
def Lclosed_loop2 (vLrows : (List ((List Int) × (List Int)))) (vLcolumns : (List Int)) : ((List Int)) := (rangeI 0 ((vLrows.length : Int) + (1 : Int))).foldl (Lclosed_st1 vLrows vLcolumns) (Lclosed_Lfound1 vLrows vLcolumns)
def m_Lclosed (vLrows : (List ((List Int) × (List Int)))) (vLcolumns : (List Int)) : (List Int) := (Lclosed_loop2 vLrows vLcolumns)


def m_Lmet (vLa : (List Int)) (vLb : (List Int)) : (List Int) := (vLa.filter (fun (x1 : Int) => (decide (x1 ∈ vLb))))

def Lbreaks_Lleft1 (vLrows : (List ((List Int) × (List Int)))) (vLcolumns : (List Int)) (vLcount : Int) (x1 : Int) : (List Int) := (m_Lset x1 vLcount)
def Lbreaks_Lreached1 (vLrows : (List ((List Int) × (List Int)))) (vLcolumns : (List Int)) (vLcount : Int) (x1 : Int) : (List Int) := (m_Lclosed vLrows (Lbreaks_Lleft1 vLrows vLcolumns vLcount x1))
def Lbreaks_st1 (vLrows : (List ((List Int) × (List Int)))) (vLcolumns : (List Int)) (vLcount : Int) (s : Unit) (x1 : Int) : Lp (Unit) Bool := (if (m_Lis_within (Lbreaks_Lleft1 vLrows vLcolumns vLcount x1) vLcolumns) = true then (if ((decide ((0 : Int) < ((m_Lless (m_Lmet (Lbreaks_Lreached1 vLrows vLcolumns vLcount x1) vLcolumns) (Lbreaks_Lleft1 vLrows vLcolumns vLcount x1)).length : Int))) && (!(m_Lis_within vLcolumns (Lbreaks_Lreached1 vLrows vLcolumns vLcount x1)))) = true then (Lp.ret true) else (Lp.go ())) else (Lp.go ()))
def m_Lbreaks (vLrows : (List ((List Int) × (List Int)))) (vLcolumns : (List Int)) (vLcount : Int) : Bool := (elimS (fun (s8 : Unit) => false) (fun q => q) (runL (Lbreaks_st1 vLrows vLcolumns vLcount) () (rangeI 0 (ix ([(1 : Int), (2 : Int), (4 : Int), (8 : Int), (16 : Int), (32 : Int), (64 : Int)] : List Int) vLcount))))


def m_whole (vcount : Int) : (List Int) := (rangeI 0 vcount)

def greatest_found1 (vparts : (List (List Int))) : (List (List Int)) := ([] : List (List Int))
def greatest_found2 (vparts : (List (List Int))) (vfound2 : (List (List Int))) (x1 : (List Int)) : (List (List Int)) := vfound2 ++ [x1]
def greatest_j_found1 (vparts : (List (List Int))) (vfound2 : (List (List Int))) (x1 : (List Int)) : ((List (List Int))) := (if (!(vparts.any (fun (x3 : (List Int)) => ((!(decide (x1 = x3))) && (m_is_within x1 x3))))) = true then ((greatest_found2 vparts vfound2 x1) : (List (List Int))) else vfound2)
def greatest_st1 (vparts : (List (List Int))) (s : (List (List Int))) (x1 : (List Int)) : (List (List Int)) := (greatest_j_found1 vparts s x1)
def greatest_loop1 (vparts : (List (List Int))) : ((List (List Int))) := (rset vparts).foldl (greatest_st1 vparts) (greatest_found1 vparts)
def m_greatest (vparts : (List (List Int))) : (List (List Int)) := (greatest_loop1 vparts)

def boyce_codd_pending1 (vcount : Int) (vdependencies : (List Sd)) : (List (List Int)) := ([(m_whole vcount)] : List (List Int))
def boyce_codd_found1 (vcount : Int) (vdependencies : (List Sd)) : (List (List Int)) := ([] : List (List Int))
def boyce_codd_pending2 (vcount : Int) (vdependencies : (List Sd)) (vpending1 : (List (List Int))) (vfound2 : (List (List Int))) : (List (List Int)) := vpending1.dropLast
def boyce_codd_columns1 (vcount : Int) (vdependencies : (List Sd)) (vpending1 : (List (List Int))) (vfound2 : (List (List Int))) : (List Int) := (ix vpending1 (-1))
def boyce_codd_shown1 (vcount : Int) (vdependencies : (List Sd)) (vpending1 : (List (List Int))) (vfound2 : (List (List Int))) : (Option Sd) := (m_broken vcount vdependencies (boyce_codd_columns1 vcount vdependencies vpending1 vfound2))
def boyce_codd_found2 (vcount : Int) (vdependencies : (List Sd)) (vpending1 : (List (List Int))) (vfound2 : (List (List Int))) : (List (List Int)) := vfound2 ++ [(boyce_codd_columns1 vcount vdependencies vpending1 vfound2)]
def boyce_codd_pending3 (vcount : Int) (vdependencies : (List Sd)) (vpending1 : (List (List Int))) (vfound2 : (List (List Int))) : (List (List Int)) := (boyce_codd_pending2 vcount vdependencies vpending1 vfound2) ++ [(m_united ((boyce_codd_shown1 vcount vdependencies vpending1 vfound2).getD default).l ((boyce_codd_shown1 vcount vdependencies vpending1 vfound2).getD default).r)]
def boyce_codd_pending4 (vcount : Int) (vdependencies : (List Sd)) (vpending1 : (List (List Int))) (vfound2 : (List (List Int))) : (List (List Int)) := (boyce_codd_pending3 vcount vdependencies vpending1 vfound2) ++ [(m_less (boyce_codd_columns1 vcount vdependencies vpending1 vfound2) ((boyce_codd_shown1 vcount vdependencies vpending1 vfound2).getD default).r)]
def boyce_codd_j_pending_found1 (vcount : Int) (vdependencies : (List Sd)) (vpending1 : (List (List Int))) (vfound2 : (List (List Int))) : ((List (List Int)) × (List (List Int))) := (if (boyce_codd_shown1 vcount vdependencies vpending1 vfound2).isNone = true then (((boyce_codd_pending2 vcount vdependencies vpending1 vfound2), (boyce_codd_found2 vcount vdependencies vpending1 vfound2)) : (List (List Int)) × (List (List Int))) else ((boyce_codd_pending4 vcount vdependencies vpending1 vfound2), vfound2))
def boyce_codd_ts1 (vcount : Int) (vdependencies : (List Sd)) (s : (List (List Int)) × (List (List Int))) : Bool := (decide ((0 : Int) < (s.1.length : Int)))
def boyce_codd_st1 (vcount : Int) (vdependencies : (List Sd)) (s : (List (List Int)) × (List (List Int))) : (List (List Int)) × (List (List Int)) := ((boyce_codd_j_pending_found1 vcount vdependencies s.1 s.2).1, (boyce_codd_j_pending_found1 vcount vdependencies s.1 s.2).2)
def boyce_codd_loop1 (vcount : Int) (vdependencies : (List Sd)) : ((List (List Int)) × (List (List Int))) := unSum (whileL (boyce_codd_ts1 vcount vdependencies) (fun s => .go (boyce_codd_st1 vcount vdependencies s)) (244) ((boyce_codd_pending1 vcount vdependencies), (boyce_codd_found1 vcount vdependencies)))
def m_boyce_codd (vcount : Int) (vdependencies : (List Sd)) : (List (List Int)) := (m_greatest (boyce_codd_loop1 vcount vdependencies).2)

def Lis_split_Lcolumns1 (vLparts : (List (List Int))) (vLcount : Int) : (List Int) := ([] : List Int)
def Lis_split_Lcolumns2 (vLparts : (List (List Int))) (vLcount : Int) (vLcolumns2 : (List Int)) (x1 : (List Int)) : (List Int) := (m_Lunited vLcolumns2 x1)
def Lis_split_st1 (vLparts : (List (List Int))) (vLcount : Int) (s : (List Int)) (x1 : (List Int)) : Lp ((List Int)) Bool := (if (decide ((0 : Int) < ((vLparts.filter (fun (x3 : (List Int)) => ((!(decide (x3 = x1))) && (m_Lis_within x1 x3)))).length : Int))) = true then (Lp.ret false) else (Lp.go (Lis_split_Lcolumns2 vLparts vLcount s x1)))
def m_Lis_split (vLparts : (List (List Int))) (vLcount : Int) : Bool := (elimS (fun (s8 : (List Int)) => ((decide (s8 = (rangeI 0 vLcount))) && ((decide (vLparts = (rowSort vLparts))) && (decide (((rset vLparts).length : Int) = (vLparts.length : Int)))))) (fun q => q) (runL (Lis_split_st1 vLparts vLcount) (Lis_split_Lcolumns1 vLparts vLcount) vLparts))

def Lmerge_Ltable1 (vLtable : (List (List Int))) (vLcolumn : Int) (vLlow : Int) (vLhigh : Int) (vLtable2 : (List (List Int))) (x1 : Int) : (List (List Int)) := (vLtable2.set x1.toNat ((ix vLtable2 x1).set vLcolumn.toNat vLlow))
def Lmerge_j_Ltable1 (vLtable : (List (List Int))) (vLcolumn : Int) (vLlow : Int) (vLhigh : Int) (vLtable2 : (List (List Int))) (x1 : Int) : ((List (List Int))) := (if (decide ((ix (ix vLtable2 x1) vLcolumn) = vLhigh)) = true then ((Lmerge_Ltable1 vLtable vLcolumn vLlow vLhigh vLtable2 x1) : (List (List Int))) else vLtable2)
def Lmerge_st1 (vLtable : (List (List Int))) (vLcolumn : Int) (vLlow : Int) (vLhigh : Int) (s : (List (List Int))) (x1 : Int) : (List (List Int)) := (Lmerge_j_Ltable1 vLtable vLcolumn vLlow vLhigh s x1)
def Lmerge_loop1 (vLtable : (List (List Int))) (vLcolumn : Int) (vLlow : Int) (vLhigh : Int) : ((List (List Int))) := (rangeI 0 (vLtable.length : Int)).foldl (Lmerge_st1 vLtable vLcolumn vLlow vLhigh) vLtable
def m_Lmerge (vLtable : (List (List Int))) (vLcolumn : Int) (vLlow : Int) (vLhigh : Int) : (List (List Int)) := (Lmerge_loop1 vLtable vLcolumn vLlow vLhigh)

def Lis_lossless_Ltable1 (vLrows : (List ((List Int) × (List Int)))) (vLparts : (List (List Int))) (vLcount : Int) : (List (List Int)) := ((rangeI 0 (vLparts.length : Int)).map (fun (x1 : Int) => ((rangeI 0 vLcount).map (fun (x2 : Int) => (ix ([(x1 + (1 : Int)), (0 : Int)] : List Int) (if (decide (x2 ∈ (ix vLparts x1))) = true then (1 : Int) else (0 : Int)))))))
def Lis_lossless_Ltable2 (vLrows : (List ((List Int) × (List Int)))) (vLparts : (List (List Int))) (vLcount : Int) (vLtable6 : (List (List Int))) (x5 : Int) (vLtable8 : (List (List Int))) (x7 : ((List Int) × (List Int))) (vLtable10 : (List (List Int))) (x9 : Int) (vLtable12 : (List (List Int))) (x11 : Int) (vLtable18 : (List (List Int))) (x17 : Int) : (List (List Int)) := (m_Lmerge vLtable18 x17 (if (ix (ix vLtable18 x11) x17) < (ix (ix vLtable18 x9) x17) then (ix (ix vLtable18 x11) x17) else (ix (ix vLtable18 x9) x17)) (if (ix (ix vLtable18 x11) x17) > (ix (ix vLtable18 x9) x17) then (ix (ix vLtable18 x11) x17) else (ix (ix vLtable18 x9) x17)))
def Lis_lossless_st5 (vLrows : (List ((List Int) × (List Int)))) (vLparts : (List (List Int))) (vLcount : Int) (vLtable6 : (List (List Int))) (x5 : Int) (vLtable8 : (List (List Int))) (x7 : ((List Int) × (List Int))) (vLtable10 : (List (List Int))) (x9 : Int) (vLtable12 : (List (List Int))) (x11 : Int) (s : (List (List Int))) (x17 : Int) : (List (List Int)) := (Lis_lossless_Ltable2 vLrows vLparts vLcount vLtable6 x5 vLtable8 x7 vLtable10 x9 vLtable12 x11 s x17)
def Lis_lossless_loop1 (vLrows : (List ((List Int) × (List Int)))) (vLparts : (List (List Int))) (vLcount : Int) (vLtable6 : (List (List Int))) (x5 : Int) (vLtable8 : (List (List Int))) (x7 : ((List Int) × (List Int))) (vLtable10 : (List (List Int))) (x9 : Int) (vLtable12 : (List (List Int))) (x11 : Int) : ((List (List Int))) := x7.2.foldl (Lis_lossless_st5 vLrows vLparts vLcount vLtable6 x5 vLtable8 x7 vLtable10 x9 vLtable12 x11) vLtable12
def Lis_lossless_j_Ltable1 (vLrows : (List ((List Int) × (List Int)))) (vLparts : (List (List Int))) (vLcount : Int) (vLtable6 : (List (List Int))) (x5 : Int) (vLtable8 : (List (List Int))) (x7 : ((List Int) × (List Int))) (vLtable10 : (List (List Int))) (x9 : Int) (vLtable12 : (List (List Int))) (x11 : Int) : ((List (List Int))) := (if (decide ((x7.1.map (fun (x13 : Int) => (ix (ix vLtable12 x9) x13))) = (x7.1.map (fun (x14 : Int) => (ix (ix vLtable12 x11) x14))))) = true then ((Lis_lossless_loop1 vLrows vLparts vLcount vLtable6 x5 vLtable8 x7 vLtable10 x9 vLtable12 x11) : (List (List Int))) else vLtable12)
def Lis_lossless_st4 (vLrows : (List ((List Int) × (List Int)))) (vLparts : (List (List Int))) (vLcount : Int) (vLtable6 : (List (List Int))) (x5 : Int) (vLtable8 : (List (List Int))) (x7 : ((List Int) × (List Int))) (vLtable10 : (List (List Int))) (x9 : Int) (s : (List (List Int))) (x11 : Int) : (List (List Int)) := (Lis_lossless_j_Ltable1 vLrows vLparts vLcount vLtable6 x5 vLtable8 x7 vLtable10 x9 s x11)
def Lis_lossless_loop2 (vLrows : (List ((List Int) × (List Int)))) (vLparts : (List (List Int))) (vLcount : Int) (vLtable6 : (List (List Int))) (x5 : Int) (vLtable8 : (List (List Int))) (x7 : ((List Int) × (List Int))) (vLtable10 : (List (List Int))) (x9 : Int) : ((List (List Int))) := (rangeI 0 (vLtable10.length : Int)).foldl (Lis_lossless_st4 vLrows vLparts vLcount vLtable6 x5 vLtable8 x7 vLtable10 x9) vLtable10
def Lis_lossless_st3 (vLrows : (List ((List Int) × (List Int)))) (vLparts : (List (List Int))) (vLcount : Int) (vLtable6 : (List (List Int))) (x5 : Int) (vLtable8 : (List (List Int))) (x7 : ((List Int) × (List Int))) (s : (List (List Int))) (x9 : Int) : (List (List Int)) := (Lis_lossless_loop2 vLrows vLparts vLcount vLtable6 x5 vLtable8 x7 s x9)
def Lis_lossless_loop3 (vLrows : (List ((List Int) × (List Int)))) (vLparts : (List (List Int))) (vLcount : Int) (vLtable6 : (List (List Int))) (x5 : Int) (vLtable8 : (List (List Int))) (x7 : ((List Int) × (List Int))) : ((List (List Int))) := (rangeI 0 (vLtable8.length : Int)).foldl (Lis_lossless_st3 vLrows vLparts vLcount vLtable6 x5 vLtable8 x7) vLtable8
def Lis_lossless_st2 (vLrows : (List ((List Int) × (List Int)))) (vLparts : (List (List Int))) (vLcount : Int) (vLtable6 : (List (List Int))) (x5 : Int) (s : (List (List Int))) (x7 : ((List Int) × (List Int))) : (List (List Int)) := (Lis_lossless_loop3 vLrows vLparts vLcount vLtable6 x5 s x7)
def Lis_lossless_loop4 (vLrows : (List ((List Int) × (List Int)))) (vLparts : (List (List Int))) (vLcount : Int) (vLtable6 : (List (List Int))) (x5 : Int) : ((List (List Int))) := vLrows.foldl (Lis_lossless_st2 vLrows vLparts vLcount vLtable6 x5) vLtable6
def Lis_lossless_st1 (vLrows : (List ((List Int) × (List Int)))) (vLparts : (List (List Int))) (vLcount : Int) (s : (List (List Int))) (x5 : Int) : (List (List Int)) := (Lis_lossless_loop4 vLrows vLparts vLcount s x5)
def Lis_lossless_loop5 (vLrows : (List ((List Int) × (List Int)))) (vLparts : (List (List Int))) (vLcount : Int) : ((List (List Int))) := (rangeI 0 ((vLcount * (vLparts.length : Int)) + (1 : Int))).foldl (Lis_lossless_st1 vLrows vLparts vLcount) (Lis_lossless_Ltable1 vLrows vLparts vLcount)
def m_Lis_lossless (vLrows : (List ((List Int) × (List Int)))) (vLparts : (List (List Int))) (vLcount : Int) : Bool := (decide (((rangeI 0 vLcount).map (fun (x19 : Int) => (0 : Int))) ∈ (Lis_lossless_loop5 vLrows vLparts vLcount)))

def law_Lnumbers_here1 (vLscript : (List Int)) : (List Int) := (m_Lnumbers vLscript (10 : Int))
def law_Lcount1 (vLscript : (List Int)) : Int := (((ix (law_Lnumbers_here1 vLscript) (0 : Int)) % (5 : Int)) + (1 : Int))
def law_Lrows1 (vLscript : (List Int)) : (List ((List Int) × (List Int))) := (m_Lfds (law_Lnumbers_here1 vLscript) (1 : Int) (law_Lcount1 vLscript))
def law_Ltold1 (vLscript : (List Int)) : (List Sd) := ((law_Lrows1 vLscript).map (fun (x1 : ((List Int) × (List Int))) => (mkSd x1.1 x1.2)))
def law_Lcolumns1 (vLscript : (List Int)) : (List Int) := (m_Lset (ix (law_Lnumbers_here1 vLscript) (8 : Int)) (law_Lcount1 vLscript))
def law_Lshown1 (vLscript : (List Int)) : (Option Sd) := (m_broken (law_Lcount1 vLscript) (law_Ltold1 vLscript) (law_Lcolumns1 vLscript))
def law_Lreached1 (vLscript : (List Int)) : (List Int) := (m_Lclosed (law_Lrows1 vLscript) ((law_Lshown1 vLscript).getD default).l)
def law_Lparts1 (vLscript : (List Int)) : (List (List Int)) := (m_boyce_codd (law_Lcount1 vLscript) (law_Ltold1 vLscript))
def law_Lkept1 (vLscript : (List Int)) : (List (List Int)) := (law_Lparts1 vLscript)
def m_law (vLscript : (List Int)) : Bool := (if (!(decide ((law_Lshown1 vLscript).isSome = (m_Lbreaks (law_Lrows1 vLscript) (law_Lcolumns1 vLscript) (law_Lcount1 vLscript))))) = true then false else (((if (law_Lshown1 vLscript).isSome = true then (if (!true) = true then (some false) else (if ((!(m_Lis_within ((law_Lshown1 vLscript).getD default).l (law_Lcolumns1 vLscript))) || (!(decide (((law_Lshown1 vLscript).getD default).r = (m_Lless (m_Lmet (law_Lreached1 vLscript) (law_Lcolumns1 vLscript)) ((law_Lshown1 vLscript).getD default).l))))) = true then (some false) else (if ((decide ((((law_Lshown1 vLscript).getD default).r.length : Int) = (0 : Int))) || (m_Lis_within (law_Lcolumns1 vLscript) (law_Lreached1 vLscript))) = true then (some false) else none))) else none)).getD (if ((!true) || ((!(m_Lis_split (law_Lparts1 vLscript) (law_Lcount1 vLscript))) || (!(m_Lis_lossless (law_Lrows1 vLscript) (law_Lparts1 vLscript) (law_Lcount1 vLscript))))) = true then false else (if (!(decide (((law_Ltold1 vLscript).map (fun (x21 : Sd) => (x21.l, x21.r))) = (law_Lrows1 vLscript)))) = true then false else (if (!(decide ((m_boyce_codd (law_Lcount1 vLscript) (law_Ltold1 vLscript)) = (law_Lkept1 vLscript)))) = true then false else (decide ((((law_Lkept1 vLscript).filter (fun (x26 : (List Int)) => (m_Lbreaks (law_Lrows1 vLscript) x26 (law_Lcount1 vLscript)))).length : Int) = (0 : Int))))))))

/-! the program's closed -/
theorem m_is_within_iff {a b : List Int} : m_is_within a b = true ↔ sub a b := all_sub
theorem m_united_eq {a b : List Int} : m_united a b = sset (a ++ b) := rfl
def DOk (n : Nat) (D : List Sd) : Prop := ∀ d ∈ D, Cols n d.l ∧ Cols n d.r
theorem Cols.united {n : Nat} {a b : List Int} (ha : Cols n a) (hb : Cols n b) : Cols n (m_united a b) := ha.uni hb
theorem closed_st2_eq (D : List Sd) (X f : List Int) (c : Bool) (s : List Int × Bool) (d : Sd) : closed_st2 D X f c s d = if m_is_within d.l s.1 && !(m_is_within d.r s.1) then (sset (s.1 ++ d.r), true) else s := by
  unfold closed_st2 closed_j_found_changed1 closed_found2 closed_changed3
  split <;> rfl
def WalkC (n : Nat) (D : List Sd) (f0 : List Int) (pre : List Sd) (s : List Int × Bool) : Prop := Walked n D f0 pre s.1 ∧ (s.2 = false → s.1 = f0 ∧ ∀ d ∈ pre, sub d.l f0 → sub d.r f0) ∧ (s.2 = true → unsat D s.1 < unsat D f0)
theorem closed_walk {n : Nat} (D : List Sd) (X f : List Int) (c : Bool) (h : DOk n D) (hc : Cols n f) : WalkC n D f D (D.foldl (closed_st2 D X f c) (f, false)) := by
  refine foldl_pre (WalkC n D f) (closed_st2 D X f c) D [] (f, false) ⟨Walked.start hc, fun _ => ⟨rfl, fun _ h => nomatch h⟩, fun h => nomatch h⟩ fun p d q s e hp => ?_
  have e' : D = p ++ d :: q := e
  have hd : d ∈ D := by rw [e']; simp
  obtain ⟨w, h1, h2⟩ := hp
  rw [closed_st2_eq]
  split
  · rename_i hif
    rw [Bool.and_eq_true, Bool.not_eq_true', ← Bool.not_eq_true, m_is_within_iff, m_is_within_iff] at hif
    exact ⟨w.put hd (h d hd).2 hif.1, fun z => (by cases z), fun _ => w.strict hd (h d hd).2 hif.1 hif.2⟩
  · rename_i hif
    have k : sub d.l s.1 → sub d.r s.1 := fun hl => by
      cases e2 : m_is_within d.r s.1 with
      | true => exact m_is_within_iff.mp e2
      | false => exact absurd (by rw [e2, m_is_within_iff.mpr hl]; rfl) hif
    refine ⟨w.skip k, fun z => ?_, h2⟩
    obtain ⟨e3, k2⟩ := h1 z
    exact ⟨e3, fun d' hd' => (List.mem_append.mp hd').elim (k2 d') fun y => by rw [List.mem_singleton.mp y, ← e3]; exact k⟩
theorem closed_st2_inv {n : Nat} (D : List Sd) (X f : List Int) (c : Bool) {s : List Int × Bool} {i : Nat} (h : DOk n D) (hc : Cols n f) (e : (D.take i).foldl (closed_st2 D X f c) (f, false) = s) : Cols n s.1 :=
  foldl_at (fun s => Cols n s.1) _ D _ e hc fun d hd s hs => by
    rw [closed_st2_eq]
    split
    · exact hs.uni (h d hd).2
    · exact hs
def closedMu (D : List Sd) (s : List Int × Bool) : Nat := unsat D s.1 + (if s.2 = true then 1 else 0)
theorem closed_enough (D : List Sd) (X : List Int) : closedMu D (closed_found1 D X, closed_changed1 D X) < D.length + 2 := by
  unfold closedMu unsat
  have := List.countP_le_length (p := fun d : Sd => !(d.r.all fun x => decide (x ∈ (closed_found1 D X)))) (l := D)
  show List.countP (fun d : Sd => !(d.r.all fun x => decide (x ∈ (closed_found1 D X)))) D + (if true = true then 1 else 0) < _
  rw [if_pos rfl]
  omega
def ClosedInv (n : Nat) (D : List Sd) (X : List Int) (s : List Int × Bool) : Prop := Cols n s.1 ∧ sub X s.1 ∧ (∀ Y, sub X Y → Clo D Y → sub s.1 Y) ∧ (s.2 = false → Clo D s.1)
theorem closed_st1_eq (D : List Sd) (X : List Int) (s : List Int × Bool) : closed_st1 D X s = D.foldl (closed_st2 D X s.1 s.2) (s.1, false) := rfl
theorem closed_step {n : Nat} (D : List Sd) (X : List Int) (h : DOk n D) (s : List Int × Bool) (hi : ClosedInv n D X s) (ht : s.2 = true) : ClosedInv n D X (closed_st1 D X s) ∧ closedMu D (closed_st1 D X s) < closedMu D s := by
  obtain ⟨hc, h1, h2, _⟩ := hi
  rw [closed_st1_eq]
  obtain ⟨w, k1, k2⟩ := closed_walk D X s.1 s.2 h hc
  refine ⟨⟨w.cols, fun x hx => w.sub x (h1 x hx), fun Y hX hY => w.least Y (h2 Y hX hY) hY, fun hf => ?_⟩, ?_⟩
  · obtain ⟨e, k⟩ := k1 hf
    rw [e]
    exact k
  · unfold closedMu
    rw [if_pos ht]
    cases hq : (D.foldl (closed_st2 D X s.1 s.2) (s.1, false)).2 with
    | true =>
      have := k2 hq
      simp; omega
    | false =>
      obtain ⟨e, _⟩ := k1 hq
      rw [e]; simp
theorem closed_dec {n : Nat} (D : List Sd) (X : List Int) (h : DOk n D) (s : List Int × Bool) (hi : Cols n s.1) (ht : closed_ts1 D X s = true) : Cols n (closed_st1 D X s).1 ∧ closedMu D (closed_st1 D X s) < closedMu D s := by
  have q := closed_step D s.1 h s ⟨hi, fun _ h => h, fun _ h _ => h, fun z => by rw [show s.2 = true from ht] at z; cases z⟩ ht
  exact ⟨q.1.1, q.2⟩
theorem closed_is {n : Nat} {D : List Sd} {X : List Int} (h : DOk n D) (hc : Cols n X) : IsCl D X (m_closed D X) ∧ Cols n (m_closed D X) := by
  have q := while_end (closed_ts1 D X) (closed_st1 D X) (ClosedInv n D X) (closedMu D) (fun s hi ht => closed_step D X h s hi ht) (D.length + 2) (closed_found1 D X, closed_changed1 D X) ⟨hc, fun _ h => h, fun _ h _ => h, fun z => nomatch z⟩ (closed_enough D X)
  exact ⟨⟨q.1.2.1, q.1.2.2.2 q.2, q.1.2.2.1⟩, q.1.1⟩
theorem Cols.up {a : List Int} (h : Cols 10 a) : Cols 16 a := h.mono (by decide)
theorem DOk.app {n : Nat} {D D' : List Sd} (h : DOk n D) (h' : DOk n D') : DOk n (D ++ D') := fun d hd => (List.mem_append.mp hd).elim (h d) (h' d)
theorem DOk.sub {n : Nat} {D D' : List Sd} (h : DOk n D) (k : ∀ d ∈ D', d ∈ D) : DOk n D' := fun d hd => h d (k d hd)
/-! the numbers, sets and dependencies of the laws -/
theorem emod_in {a b : Int} (h : 0 < b) : 0 ≤ a % b ∧ a % b < b := ⟨Int.emod_nonneg a (by omega), Int.emod_lt_of_pos a h⟩
theorem ix2_ok {x : Int} (h : 0 ≤ x ∧ x < 10) {n : Int} : CDiv n (ix ([(1 : Int), (2 : Int), (4 : Int), (8 : Int), (16 : Int), (32 : Int), (64 : Int), (128 : Int), (256 : Int), (512 : Int)] : List Int) x) := by
  obtain ⟨h0, h1⟩ := h
  have : x = 0 ∨ x = 1 ∨ x = 2 ∨ x = 3 ∨ x = 4 ∨ x = 5 ∨ x = 6 ∨ x = 7 ∨ x = 8 ∨ x = 9 := by omega
  rcases this with rfl | rfl | rfl | rfl | rfl | rfl | rfl | rfl | rfl | rfl <;> exact ⟨by decide, by decide⟩
theorem ix3_ok {x : Int} (h : 0 ≤ x ∧ x < 7) {n : Int} : CDiv n (ix ([(1 : Int), (3 : Int), (9 : Int), (27 : Int), (81 : Int), (243 : Int), (729 : Int)] : List Int) x) := by
  obtain ⟨h0, h1⟩ := h
  have : x = 0 ∨ x = 1 ∨ x = 2 ∨ x = 3 ∨ x = 4 ∨ x = 5 ∨ x = 6 := by omega
  rcases this with rfl | rfl | rfl | rfl | rfl | rfl | rfl <;> exact ⟨by decide, by decide⟩
def POk (n : Nat) (rows : List (List Int × List Int)) : Prop := ∀ d ∈ rows, Cols n d.1 ∧ Cols n d.2
theorem Lnumbers_st1_len (v : List Int) (c : Int) (s : Int × List Int) (x : Int) : (Lnumbers_st1 v c s x).2.length = s.2.length + 1 := by
  unfold Lnumbers_st1 Lnumbers_j_Lrest_Lnumbers_here1
  split <;> simp [Lnumbers_Lnumbers_here2, Lnumbers_Lnumbers_here3]
theorem m_Lnumbers_len (v : List Int) (c : Int) : (m_Lnumbers v c).length = c.toNat := by
  have q := foldl_pre (fun p (s : Int × List Int) => s.2.length = p.length) (Lnumbers_st1 v c) (rangeI 0 c) [] (Lnumbers_j_Lrest1 v c, Lnumbers_Lnumbers_here1 v c) rfl (fun p x q s e h => by
    rw [Lnumbers_st1_len, h]; simp)
  show (List.foldl (Lnumbers_st1 v c) (Lnumbers_j_Lrest1 v c, Lnumbers_Lnumbers_here1 v c) (rangeI 0 c)).2.length = _
  rw [q]
  simp [rangeI_len]
theorem m_Lsparse_cols {k c : Int} {n : Nat} (h : c ≤ n) : Cols n (m_Lsparse k c) := (Cols.rng h).filter _
theorem m_Lfds_ok {ns : List Int} {p c : Int} {n : Nat} (h : c ≤ n) : POk n (m_Lfds ns p c) ∧ (m_Lfds ns p c).length ≤ 6 := by
  have q := foldl_pre (fun p (s : List (List Int × List Int)) => POk n s ∧ s.length ≤ p.length) (Lfds_st1 ns p c) (rangeI 0 (ix ns p % 7)) [] [] ⟨(fun _ h => nomatch h), Nat.le_refl _⟩ (fun pr x q s e hh => by
    unfold Lfds_st1 Lfds_Lrows2
    refine ⟨fun d hd => ?_, by simp; exact hh.2⟩
    rcases List.mem_append.mp hd with hd | hd
    · exact hh.1 d hd
    · rw [List.mem_singleton.mp hd]
      exact ⟨m_Lsparse_cols h, m_Lsparse_cols h⟩)
  refine ⟨q.1, Nat.le_trans q.2 ?_⟩
  simp only [List.nil_append, rangeI_len]
  have := emod_in (a := ix ns p) (b := 7) (by decide)
  omega
theorem m_Lset_cols {k c : Int} {n : Nat} (h : c ≤ n) : Cols n (m_Lset k c) := (Cols.rng h).filter _
/-! the laws' own closure -/
theorem m_Lis_within_iff {a b : List Int} : m_Lis_within a b = true ↔ sub a b := less_sub
theorem Lclosed_st2_eq (rows : List (List Int × List Int)) (X f : List Int) (x : Int) (s : List Int) (d : List Int × List Int) : Lclosed_st2 rows X f x s d = if m_Lis_within d.1 s = true then sset (s ++ d.2) else s := by
  unfold Lclosed_st2 Lclosed_j_Lfound1 Lclosed_Lfound2 m_Lunited
  split <;> rfl
theorem Lclosed_st2_inv {n : Nat} (rows : List (List Int × List Int)) (X f : List Int) (x : Int) {s : List Int} {i : Nat} (h : POk n rows) (hc : Cols n f) (e : (rows.take i).foldl (Lclosed_st2 rows X f x) f = s) : Cols n s :=
  foldl_at (fun s => Cols n s) _ rows _ e hc fun d hd s hs => by
    rw [Lclosed_st2_eq]
    split
    · exact hs.uni (h d hd).2
    · exact hs
theorem Lclosed_one {n : Nat} (rows : List (List Int × List Int)) (X : List Int) (h : POk n rows) (f : List Int) (x : Int) (hc : Cols n f) : Cols n (Lclosed_st1 rows X f x) :=
  foldl_inv (fun s => Cols n s) (Lclosed_st2 rows X f x) rows f hc fun d hd s hs => by
    rw [Lclosed_st2_eq]
    split
    · exact hs.uni (h d hd).2
    · exact hs
theorem Lclosed_st1_inv {n : Nat} (rows : List (List Int × List Int)) (X : List Int) {s : List Int} {i : Nat} {R : List Int} (h : POk n rows) (hc : Cols n X) (e : (R.take i).foldl (Lclosed_st1 rows X) X = s) : Cols n s :=
  foldl_at (fun s => Cols n s) _ R _ e hc fun d _ s hs => Lclosed_one rows X h s d hs
theorem Cols.mk1 {n : Nat} {a b : List Int} (ha : Cols n a) (hb : Cols n b) : mkSd a b = ⟨a, b⟩ := by unfold mkSd; rw [ha.self, hb.self]
/-! the law's own closure -/
def sdOf (p : List Int × List Int) : Sd := ⟨p.1, p.2⟩
theorem Lround {n : Nat} (rows : List (List Int × List Int)) (X : List Int) (h : POk n rows) (f : List Int) (x : Int) (hc : Cols n f) : Walked n (rows.map sdOf) f (rows.map sdOf) (Lclosed_st1 rows X f x) :=
  foldl_pre (fun p s => Walked n (rows.map sdOf) f (p.map sdOf) s) (Lclosed_st2 rows X f x) rows [] f (Walked.start hc) fun p d q s e hp => by
    have e' : rows = p ++ d :: q := e
    have hd : d ∈ rows := by rw [e']; simp
    rw [Lclosed_st2_eq, List.map_append]
    split
    · rename_i hif
      exact hp.put (d := sdOf d) (List.mem_map.mpr ⟨d, hd, rfl⟩) (h d hd).2 (m_Lis_within_iff.mp hif)
    · rename_i hif
      exact hp.skip (d := sdOf d) fun k => absurd (m_Lis_within_iff.mpr k) hif
structure LInv (n : Nat) (D : List Sd) (X : List Int) (k : Nat) (s : List Int) : Prop where
  cols : Cols n s
  sub : Pf.sub X s
  least : ∀ Y, Pf.sub X Y → Clo D Y → Pf.sub s Y
  en : Clo D s ∨ unsat D s + k ≤ D.length
theorem Lclosed_is {n : Nat} {rows : List (List Int × List Int)} {X : List Int} (h : POk n rows) (hc : Cols n X) : IsCl (rows.map sdOf) X (m_Lclosed rows X) ∧ Cols n (m_Lclosed rows X) := by
  have q := foldl_pre (fun p s => LInv n (rows.map sdOf) X p.length s) (Lclosed_st1 rows X) (rangeI 0 ((rows.length : Int) + 1)) [] X ⟨hc, fun _ h => h, fun _ h _ => h, .inr (by unfold unsat; exact List.countP_le_length)⟩ fun p x q s e hp => by
    have w := Lround rows X h s x hp.cols
    refine ⟨w.cols, fun y hy => w.sub y (hp.sub y hy), fun Y h1 h2 => w.least Y (hp.least Y h1 h2) h2, ?_⟩
    rcases hp.en with en | en
    · left
      have e2 : Lclosed_st1 rows X s x = s := w.cols.ext hp.cols fun y => ⟨w.least s (fun _ z => z) en y, w.sub y⟩
      rw [e2]; exact en
    · rcases w.ch with c | ⟨e2, k⟩
      · right
        rw [List.length_append, List.length_singleton]
        omega
      · left
        rw [e2]; exact k
  have q2 : LInv n (rows.map sdOf) X ([] ++ rangeI 0 ((rows.length : Int) + 1)).length (m_Lclosed rows X) := q
  refine ⟨⟨q2.sub, ?_, q2.least⟩, q2.cols⟩
  rcases q2.en with e | e
  · exact e
  · rw [List.nil_append, rangeI_len, List.length_map] at e
    omega
theorem closed_same {n : Nat} {D D' : List Sd} {X R : List Int} (h : DOk n D) (h' : DOk n D') (hX : Cols n X) (k : ∀ Y, Clo D Y ↔ Clo D' Y) : m_closed D X = m_closed D' X :=
  ((closed_is h hX).1.same k).eq (closed_is h' hX).1 (closed_is h hX).2 (closed_is h' hX).2
theorem clo_app {D D' : List Sd} {Y : List Int} : Clo (D ++ D') Y ↔ Clo D Y ∧ Clo D' Y :=
  ⟨fun h => ⟨fun d hd => h d (List.mem_append_left _ hd), fun d hd => h d (List.mem_append_right _ hd)⟩, fun h d hd => (List.mem_append.mp hd).elim (h.1 d) (h.2 d)⟩
/-! the order by length, then by columns -/
theorem lenOrd_eq (a b : List Int) : lenOrd a b = decide (a.length < b.length ∨ (a.length = b.length ∧ ¬ b < a)) := by
  show (!PySem.W.dataLt (lenKey b) (lenKey a)) = _
  unfold lenKey
  rw [PySem.W.dataLt_pair (by simp [PySem.W.alike]) (by simp [PySem.W.alike, PySem.W.alike_ints]), PySem.W.dataLt_tuple]
  have e2 : PyProof.Rows.lexLt PyProof.Rows.itemOrd (PySem.W.keyToksAll (b.map PyData.int)) (PySem.W.keyToksAll (a.map PyData.int)) = decide (b < a) := PySem.W.dataLt_ints b a
  rw [e2, PySem.W.dataLt_int]
  have e3 : PyData.eqv (.tuple (b.map .int)) (.tuple (a.map .int)) = decide (b = a) := (dT (K := []) dI).eqv b a
  rw [e3]
  simp only [PyData.eqv]
  by_cases h1 : a.length = b.length
  · by_cases h2 : b = a
    · subst h2
      simp [List.lt_irrefl]
    · by_cases h3 : b < a <;> simp [h1, h2, h3]
  · have h4 : ¬ ((b.length : Int) = (a.length : Int)) := by omega
    by_cases h5 : a.length < b.length
    · have : ¬ ((b.length : Int) < (a.length : Int)) := by omega
      simp [h4, h5, this]
    · have : ((b.length : Int) < (a.length : Int)) := by omega
      simp [h1, h4, h5, this]
theorem list_lt_trans {a b c : List Int} (h : a < b) (k : b < c) : a < c := List.lt_trans h k
theorem lenOrd_trans (a b c : List Int) (h : lenOrd a b = true) (k : lenOrd b c = true) : lenOrd a c = true := by
  rw [lenOrd_eq, decide_eq_true_eq] at *
  rcases h with h | ⟨h, h'⟩
  · rcases k with k | ⟨k, _⟩ <;> left <;> omega
  · rcases k with k | ⟨k, k'⟩
    · left; omega
    · exact .inr ⟨h.trans k, List.not_lt.mpr (List.le_trans (List.not_lt.mp h') (List.not_lt.mp k'))⟩
theorem lenOrd_total (a b : List Int) : (lenOrd a b || lenOrd b a) = true := by
  rw [lenOrd_eq, lenOrd_eq, Bool.or_eq_true, decide_eq_true_eq, decide_eq_true_eq]
  by_cases h : a.length = b.length
  · by_cases k : b < a
    · exact .inr (.inr ⟨h.symm, List.lt_asymm k⟩)
    · exact .inl (.inr ⟨h, k⟩)
  · omega
theorem lenSort_perm (xs : List (List Int)) : (lenSort xs).Perm xs := List.mergeSort_perm xs lenOrd
theorem lenSort_mem {xs : List (List Int)} {x : List Int} : x ∈ lenSort xs ↔ x ∈ xs := (lenSort_perm xs).mem_iff
theorem lenSort_len (xs : List (List Int)) : (lenSort xs).length = xs.length := (lenSort_perm xs).length_eq
theorem lenSort_asc (xs : List (List Int)) : (lenSort xs).Pairwise fun a b => lenOrd a b = true := List.pairwise_mergeSort lenOrd_trans lenOrd_total xs
/-! all sets -/
theorem sets_step (vc : List Int) (s : List (List Int)) (x : Int) : all_sets_st1 vc s x = s ++ s.map fun p => p ++ [x] := rfl
theorem sets_pre (vc P : List Int) : (P.foldl (all_sets_st1 vc) (all_sets_found1 vc)).length = 2 ^ P.length ∧ ∀ p ∈ P.foldl (all_sets_st1 vc) (all_sets_found1 vc), p.length ≤ P.length :=
  foldl_pre (fun P s => s.length = 2 ^ P.length ∧ ∀ p ∈ s, p.length ≤ P.length) (all_sets_st1 vc) P [] (all_sets_found1 vc) ⟨rfl, fun p hp => by rw [List.mem_singleton.mp hp]; exact Nat.le_refl _⟩ fun p x q s _ ⟨h1, h2⟩ => by
    rw [sets_step]
    refine ⟨by rw [List.length_append, List.length_map, List.length_append, List.length_singleton, h1, Nat.pow_succ]; omega, fun r hr => ?_⟩
    rw [List.length_append, List.length_singleton]
    rcases List.mem_append.mp hr with hr | hr
    · have := h2 r hr; omega
    · obtain ⟨r', hr', rfl⟩ := List.mem_map.mp hr
      have := h2 r' hr'
      rw [List.length_append, List.length_singleton]; omega
theorem sets_at (vc : List Int) (h : vc.length ≤ 16) {i : Nat} {s : List (List Int)} (e : (vc.take i).foldl (all_sets_st1 vc) (all_sets_found1 vc) = s) : s.length ≤ 65536 ∧ ∀ p ∈ s, p.length ≤ 16 := by
  have q := sets_pre vc (vc.take i)
  rw [e] at q
  have hl : (vc.take i).length ≤ 16 := by rw [List.length_take]; omega
  refine ⟨?_, fun p hp => Nat.le_trans (q.2 p hp) hl⟩
  rw [q.1]
  exact Nat.le_trans (Nat.pow_le_pow_right (by decide) hl) (by decide)
theorem m_sets_len (vc : List Int) : (m_all_sets vc).length = 2 ^ vc.length := (lenSort_len _).trans (sets_pre vc vc).1
theorem m_sets_el (vc : List Int) : ∀ p ∈ m_all_sets vc, p.length ≤ vc.length := fun p hp => (sets_pre vc vc).2 p (lenSort_mem.mp hp)
/-- ascending columns: each set once -/
theorem sets_asc (vc P : List Int) (hP : P.Pairwise (· < ·)) : (∀ p, p ∈ P.foldl (all_sets_st1 vc) (all_sets_found1 vc) ↔ p.Pairwise (· < ·) ∧ ∀ x ∈ p, x ∈ P) ∧ (P.foldl (all_sets_st1 vc) (all_sets_found1 vc)).Nodup :=
  foldl_pre (fun P s => (∀ p, p ∈ s ↔ p.Pairwise (· < ·) ∧ ∀ x ∈ p, x ∈ P) ∧ s.Nodup) (all_sets_st1 vc) P [] (all_sets_found1 vc) ⟨fun p => ⟨fun hp => by rw [List.mem_singleton.mp hp]; exact ⟨.nil, fun _ h => nomatch h⟩, fun ⟨_, h⟩ => by
      cases p with
      | nil => exact List.mem_singleton.mpr rfl
      | cons x r => exact absurd (h x List.mem_cons_self) (by simp)⟩, List.pairwise_singleton _ _⟩ fun p x q s e ⟨h1, h2⟩ => by
    have e' : P = p ++ x :: q := e
    rw [e'] at hP
    have hlt : ∀ y ∈ p, y < x := fun y hy => (List.pairwise_append.mp hP).2.2 y hy x List.mem_cons_self
    rw [sets_step]
    refine ⟨fun r => ⟨fun hr => ?_, fun ⟨k1, k2⟩ => ?_⟩, ?_⟩
    · rcases List.mem_append.mp hr with hr | hr
      · obtain ⟨k1, k2⟩ := (h1 r).mp hr
        exact ⟨k1, fun y hy => List.mem_append_left _ (k2 y hy)⟩
      · obtain ⟨r', hr', rfl⟩ := List.mem_map.mp hr
        obtain ⟨k1, k2⟩ := (h1 r').mp hr'
        refine ⟨List.pairwise_append.mpr ⟨k1, List.pairwise_singleton _ _, fun a ha b hb => by rw [List.mem_singleton.mp hb]; exact hlt a (k2 a ha)⟩, fun y hy => ?_⟩
        rcases List.mem_append.mp hy with hy | hy
        · exact List.mem_append_left _ (k2 y hy)
        · exact List.mem_append_right _ hy
    · by_cases hx : x ∈ r
      · -- x is its last one
        obtain ⟨a, b, rfl⟩ := List.append_of_mem hx
        have hb : b = [] := by
          cases b with
          | nil => rfl
          | cons y b' =>
            have hxy : x < y := (List.pairwise_cons.mp (List.pairwise_append.mp k1).2.1).1 y List.mem_cons_self
            have hy := k2 y (by simp)
            rcases List.mem_append.mp hy with hy | hy
            · have := hlt y hy; omega
            · have := List.mem_singleton.mp hy; omega
        subst hb
        refine List.mem_append_right _ (List.mem_map.mpr ⟨a, (h1 a).mpr ⟨(List.pairwise_append.mp k1).1, fun y hy => ?_⟩, rfl⟩)
        have hy2 := k2 y (List.mem_append_left _ hy)
        rcases List.mem_append.mp hy2 with hy2 | hy2
        · exact hy2
        · have := (List.pairwise_append.mp k1).2.2 y hy x List.mem_cons_self
          have := List.mem_singleton.mp hy2
          omega
      · refine List.mem_append_left _ ((h1 r).mpr ⟨k1, fun y hy => ?_⟩)
        rcases List.mem_append.mp (k2 y hy) with hy2 | hy2
        · exact hy2
        · rw [List.mem_singleton.mp hy2] at hy; exact absurd hy hx
    · refine List.nodup_append.mpr ⟨h2, ?_, fun a ha b hb hab => ?_⟩
      · exact List.Pairwise.map _ (fun a b hab k => hab (List.append_inj_left' k rfl)) h2
      · obtain ⟨b', _, rfl⟩ := List.mem_map.mp hb
        subst hab
        have hx := ((h1 _).mp ha).2 x (by simp)
        have := hlt x hx
        omega
theorem m_sets_mem {vc p : List Int} (h : vc.Pairwise (· < ·)) : p ∈ m_all_sets vc ↔ p.Pairwise (· < ·) ∧ ∀ x ∈ p, x ∈ vc := lenSort_mem.trans ((sets_asc vc vc h).1 p)
theorem m_sets_nodup {vc : List Int} (h : vc.Pairwise (· < ·)) : (m_all_sets vc).Nodup := (lenSort_perm _).nodup_iff.mpr (sets_asc vc vc h).2
theorem m_sets_asc (vc : List Int) : (m_all_sets vc).Pairwise fun a b => lenOrd a b = true := lenSort_asc _
/-! the shape of the table of parts -/
def Shape (n c : Nat) (t : List (List Int)) : Prop := t.length = n ∧ ∀ r ∈ t, r.length = c
theorem shape_set {n c : Nat} {t : List (List Int)} (h : Shape n c t) {k : Nat} {r : List Int} (hr : r.length = c) : Shape n c (t.set k r) :=
  ⟨by rw [List.length_set]; exact h.1, fun x hx => (List.mem_or_eq_of_mem_set hx).elim (h.2 x) fun e => by rw [e]; exact hr⟩
theorem shape_ix {n c : Nat} {t : List (List Int)} (h : Shape n c t) {k : Int} (hk : 0 ≤ k ∧ k < (n : Int)) : (ix t k).length = c := h.2 _ (ix_mem ⟨by have := h.1; omega, by have := h.1; omega⟩)
theorem merge_st_shape {n c : Nat} (t : List (List Int)) (col lo hi : Int) {s : List (List Int)} (h : Shape n c s) {x : Int} (hx : 0 ≤ x ∧ x < (n : Int)) : Shape n c (Lmerge_st1 t col lo hi s x) := by
  unfold Lmerge_st1 Lmerge_j_Ltable1 Lmerge_Ltable1
  split
  · exact shape_set h (by rw [List.length_set]; exact shape_ix h hx)
  · exact h
theorem fold_take {α κ : Type} (P : κ → Prop) (st : κ → α → κ) : ∀ (xs : List α) (s0 : κ) (i : Nat) {s : κ}, (xs.take i).foldl st s0 = s → P s0 → (∀ x ∈ xs, ∀ s, P s → P (st s x)) → P s
  | [], s0, i, s, e, h, _ => by rw [← e]; simpa using h
  | x :: xs, s0, 0, s, e, h, _ => by rw [← e]; exact h
  | x :: xs, s0, i + 1, s, e, h, k => fold_take P st xs (st s0 x) i e (k x List.mem_cons_self _ h) fun y hy => k y (List.mem_cons_of_mem _ hy)
theorem fold_all {α κ : Type} (P : κ → Prop) (st : κ → α → κ) (xs : List α) (s0 : κ) (h : P s0) (k : ∀ x ∈ xs, ∀ s, P s → P (st s x)) : P (xs.foldl st s0) := fold_take P st xs s0 xs.length (by rw [List.take_length]) h k
theorem merge_at {n c : Nat} {t : List (List Int)} (h : Shape n c t) {col lo hi : Int} {i : Nat} {s : List (List Int)} (e : ((rangeI 0 (t.length : Int)).take i).foldl (Lmerge_st1 t col lo hi) t = s) : Shape n c s :=
  fold_take (Shape n c) _ _ _ i e h fun x hx s hs => merge_st_shape t col lo hi hs (by have := rng_mem.mp hx; have := h.1; omega)
theorem merge_shape {n c : Nat} {t : List (List Int)} (h : Shape n c t) (col lo hi : Int) : Shape n c (m_Lmerge t col lo hi) :=
  fold_all (Shape n c) _ _ _ h fun x hx s hs => merge_st_shape t col lo hi hs (by have := rng_mem.mp hx; have := h.1; omega)
section
variable {n c : Nat} (rows : List (List Int × List Int)) (parts : List (List Int)) (count : Int)
theorem ll_at5 (t1 : List (List Int)) (x5 : Int) (t2 : List (List Int)) (x7 : List Int × List Int) (t3 : List (List Int)) (x9 : Int) {t4 : List (List Int)} (x11 : Int) (h : Shape n c t4) {i : Nat} {s : List (List Int)} (e : ((x7.2).take i).foldl (Lis_lossless_st5 rows parts count t1 x5 t2 x7 t3 x9 t4 x11) t4 = s) : Shape n c s :=
  fold_take (Shape n c) _ _ _ i e h fun x _ s hs => merge_shape hs _ _ _
theorem ll_st4 (t1 : List (List Int)) (x5 : Int) (t2 : List (List Int)) (x7 : List Int × List Int) (t3 : List (List Int)) (x9 : Int) {s : List (List Int)} (h : Shape n c s) (x11 : Int) : Shape n c (Lis_lossless_st4 rows parts count t1 x5 t2 x7 t3 x9 s x11) := by
  unfold Lis_lossless_st4 Lis_lossless_j_Ltable1
  split
  · exact fold_all (Shape n c) _ _ _ h fun x _ s hs => merge_shape hs _ _ _
  · exact h
theorem ll_at4 (t1 : List (List Int)) (x5 : Int) (t2 : List (List Int)) (x7 : List Int × List Int) {t3 : List (List Int)} (x9 : Int) (h : Shape n c t3) {i : Nat} {s : List (List Int)} (e : ((rangeI 0 (t3.length : Int)).take i).foldl (Lis_lossless_st4 rows parts count t1 x5 t2 x7 t3 x9) t3 = s) : Shape n c s :=
  fold_take (Shape n c) _ _ _ i e h fun x _ s hs => ll_st4 rows parts count t1 x5 t2 x7 t3 x9 hs x
theorem ll_st3 (t1 : List (List Int)) (x5 : Int) (t2 : List (List Int)) (x7 : List Int × List Int) {s : List (List Int)} (h : Shape n c s) (x9 : Int) : Shape n c (Lis_lossless_st3 rows parts count t1 x5 t2 x7 s x9) :=
  fold_all (Shape n c) _ _ _ h fun x _ s' hs => ll_st4 rows parts count t1 x5 t2 x7 s x9 hs x
theorem ll_at3 (t1 : List (List Int)) (x5 : Int) {t2 : List (List Int)} (x7 : List Int × List Int) (h : Shape n c t2) {i : Nat} {s : List (List Int)} (e : ((rangeI 0 (t2.length : Int)).take i).foldl (Lis_lossless_st3 rows parts count t1 x5 t2 x7) t2 = s) : Shape n c s :=
  fold_take (Shape n c) _ _ _ i e h fun x _ s hs => ll_st3 rows parts count t1 x5 t2 x7 hs x
theorem ll_st2 (t1 : List (List Int)) (x5 : Int) {s : List (List Int)} (h : Shape n c s) (x7 : List Int × List Int) : Shape n c (Lis_lossless_st2 rows parts count t1 x5 s x7) :=
  fold_all (Shape n c) _ _ _ h fun x _ s' hs => ll_st3 rows parts count t1 x5 s x7 hs x
theorem ll_at2 {t1 : List (List Int)} (x5 : Int) (h : Shape n c t1) {i : Nat} {s : List (List Int)} (e : (rows.take i).foldl (Lis_lossless_st2 rows parts count t1 x5) t1 = s) : Shape n c s :=
  fold_take (Shape n c) _ _ _ i e h fun x _ s hs => ll_st2 rows parts count t1 x5 hs x
theorem ll_st1 {s : List (List Int)} (h : Shape n c s) (x5 : Int) : Shape n c (Lis_lossless_st1 rows parts count s x5) :=
  fold_all (Shape n c) _ _ _ h fun x _ s' hs => ll_st2 rows parts count s x5 hs x
theorem ll_init : Shape parts.length count.toNat (Lis_lossless_Ltable1 rows parts count) := by
  unfold Lis_lossless_Ltable1
  refine ⟨by rw [List.length_map, rangeI_len]; omega, fun r hr => ?_⟩
  obtain ⟨k, _, rfl⟩ := List.mem_map.mp hr
  rw [List.length_map, rangeI_len]; omega
theorem ll_at1 {i : Nat} {s : List (List Int)} (e : ((rangeI 0 ((count * (parts.length : Int)) + 1)).take i).foldl (Lis_lossless_st1 rows parts count) (Lis_lossless_Ltable1 rows parts count) = s) : Shape parts.length count.toNat s :=
  fold_take (Shape parts.length count.toNat) _ _ _ i e (ll_init rows parts count) fun x _ s hs => ll_st1 rows parts count hs x
theorem ll_end : Shape parts.length count.toNat (Lis_lossless_loop5 rows parts count) :=
  fold_all (Shape parts.length count.toNat) _ _ _ (ll_init rows parts count) fun x _ s hs => ll_st1 rows parts count hs x
end
theorem turns_le {count : Int} {k : Nat} (h : 0 ≤ count ∧ count ≤ 7) (hk : k ≤ 200) : 0 ≤ count * (k : Int) ∧ count * (k : Int) ≤ 1400 := by
  constructor
  · exact Int.mul_nonneg h.1 (by omega)
  · exact Int.le_trans (Int.mul_le_mul h.2 (Int.ofNat_le.mpr hk) (by omega) (by decide)) (by decide)
/-! what the sides of k75 need -/
def sum2 (k : Nat) (xs : List (List Int)) : Nat := (xs.map fun x => k ^ x.length).sum
def BcInv (s : List (List Int) × List (List Int)) : Prop := s.2.length + sum2 2 s.1 ≤ 32 ∧ (∀ x ∈ s.1, Cols 7 x) ∧ ∀ x ∈ s.2, Cols 7 x
def bcMu (s : List (List Int) × List (List Int)) : Nat := sum2 3 s.1
theorem all_in {cols x : List Int} {n : Nat} (hc : Cols n cols) (hx : x ∈ m_all_sets cols) : Cols n x ∧ sub x cols := by
  obtain ⟨k1, k2⟩ := (m_sets_mem hc.asc).mp hx
  exact ⟨⟨k1, fun y hy => hc.rg y (k2 y hy)⟩, k2⟩
theorem br_right {D : List Sd} (hD : DOk 16 D) {c : Int} {cols x : List Int} (hx : Cols 16 x) : (broken_right1 c D cols x).length ≤ 16 := by
  have h := (closed_is hD hx).2
  have e : Cols 16 (broken_right1 c D cols x) := (h.filter _).filter _
  exact e.len
/-- what broken tells -/
structure BrOk (D : List Sd) (cols : List Int) (d : Sd) : Prop where
  l : Cols 7 d.l
  r : Cols 7 d.r
  subl : sub d.l cols
  is : d.r = m_less (m_met (m_closed D d.l) cols) d.l
  ne : d.r ≠ []
  out : ¬ sub cols (m_closed D d.l)
def brk (D : List Sd) (cols x : List Int) : Bool := (decide ((0 : Int) < ((m_less (m_met (m_closed D x) cols) x).length : Int))) && (!(m_is_within cols (m_closed D x)))
theorem brk_iff {D : List Sd} {cols x : List Int} : brk D cols x = true ↔ 0 < ((m_less (m_met (m_closed D x) cols) x).length : Int) ∧ ¬ sub cols (m_closed D x) := by
  unfold brk
  rw [Bool.and_eq_true, decide_eq_true_eq, Bool.not_eq_true', ← Bool.not_eq_true, m_is_within_iff]
theorem broken_st (c : Int) (D : List Sd) (cols : List Int) (s : Unit) (x : List Int) : broken_st1 c D cols s x = if brk D cols x = true then .ret (some (mkSd x (m_less (m_met (m_closed D x) cols) x))) else .go () := rfl
theorem broken_run (c : Int) (D : List Sd) {cols : List Int} (hc : Cols 7 cols) (hD : DOk 16 D) : ∀ xs : List (List Int), (∀ x ∈ xs, x ∈ m_all_sets cols) →
    (runL (broken_st1 c D cols) () xs = .inl () ∧ ∀ x ∈ xs, ¬ brk D cols x = true) ∨ ∃ d, runL (broken_st1 c D cols) () xs = .inr (some d) ∧ BrOk D cols d
  | [], _ => .inl ⟨rfl, fun _ h => (nomatch h)⟩
  | x :: xs, h => by
    unfold runL
    rw [broken_st]
    by_cases k : brk D cols x = true
    · rw [if_pos k]
      have k := brk_iff.mp k
      obtain ⟨q1, q2⟩ := all_in hc (h x List.mem_cons_self)
      have h16 : Cols 16 x := q1.mono (by decide)
      have hr : Cols 16 (m_less (m_met (m_closed D x) cols) x) := ((closed_is hD h16).2.filter _).filter _
      have hr7 : Cols 7 (m_less (m_met (m_closed D x) cols) x) := ⟨hr.asc, fun y hy => by
        have hy2 := (List.mem_filter.mp (List.mem_filter.mp hy).1).2
        exact hc.rg y (of_decide_eq_true hy2)⟩
      have e : mkSd x (m_less (m_met (m_closed D x) cols) x) = ⟨x, m_less (m_met (m_closed D x) cols) x⟩ := h16.mk1 hr
      refine .inr ⟨_, rfl, ?_⟩
      rw [e]
      exact ⟨q1, hr7, q2, rfl, fun z => by have := k.1; rw [show (m_less (m_met (m_closed D x) cols) x) = [] from z] at this; simp at this, k.2⟩
    · rw [if_neg k]
      show (runL (broken_st1 c D cols) () xs = .inl () ∧ _) ∨ ∃ d, runL (broken_st1 c D cols) () xs = .inr (some d) ∧ _
      rcases broken_run c D hc hD xs (fun y hy => h y (List.mem_cons_of_mem _ hy)) with ⟨h1, h2⟩ | h1
      · refine .inl ⟨h1, fun y hy => ?_⟩
        rcases List.mem_cons.mp hy with rfl | hy
        · exact k
        · exact h2 y hy
      · exact .inr h1
theorem broken_is (c : Int) (D : List Sd) {cols : List Int} (hc : Cols 7 cols) (hD : DOk 16 D) :
    (m_broken c D cols = none ∧ ∀ x ∈ m_all_sets cols, ¬ brk D cols x = true) ∨ ∃ d, m_broken c D cols = some d ∧ BrOk D cols d := by
  unfold m_broken
  rcases broken_run c D hc hD (m_all_sets cols) (fun _ h => h) with ⟨h1, h2⟩ | ⟨d, h1, h2⟩
  · rw [h1]; exact .inl ⟨rfl, h2⟩
  · rw [h1]; exact .inr ⟨d, rfl, h2⟩
theorem lt_of_sub {n : Nat} {a b : List Int} (ha : Cols n a) (hb : Cols n b) (h : sub a b) (hn : ¬ sub b a) : a.length < b.length := by
  have e : a = b.filter (fun x => decide (x ∈ a)) := asc_unique ha.asc (hb.asc.filter _) fun x => by
    rw [List.mem_filter, decide_eq_true_eq]
    exact ⟨fun k => ⟨h x k, k⟩, fun k => k.2⟩
  have l1 : a.length ≤ b.length := by
    conv => lhs; rw [e]
    exact List.length_filter_le _ _
  rcases Nat.lt_or_ge a.length b.length with q | q
  · exact q
  · exfalso
    have l3 : (b.filter (fun x => decide (x ∈ a))).length = b.length := by rw [← e]; omega
    have l4 := List.length_filter_eq_length_iff.mp l3
    exact hn fun x hx => of_decide_eq_true (l4 x hx)
theorem BrOk.two {D : List Sd} {cols : List Int} {d : Sd} (h : BrOk D cols d) (hc : Cols 7 cols) (hD : DOk 16 D) : (Cols 7 (m_united d.l d.r) ∧ sub (m_united d.l d.r) cols ∧ (m_united d.l d.r).length < cols.length) ∧ Cols 7 (m_less cols d.r) ∧ sub (m_less cols d.r) cols ∧ (m_less cols d.r).length < cols.length := by
  have hu : Cols 7 (m_united d.l d.r) := h.l.uni h.r
  have h16 : Cols 16 d.l := h.l.mono (by decide)
  have hrc : ∀ x ∈ d.r, x ∈ m_closed D d.l ∧ x ∈ cols := fun x hx => by
    rw [h.is] at hx
    obtain ⟨k1, k2⟩ := List.mem_filter.mp (List.mem_filter.mp hx).1
    exact ⟨k1, of_decide_eq_true k2⟩
  have s1 : sub (m_united d.l d.r) cols := fun x hx => by
    rcases List.mem_append.mp ((mem_sset _ _).mp hx) with k | k
    · exact h.subl x k
    · exact (hrc x k).2
  have hl : Cols 7 (m_less cols d.r) := hc.filter _
  have s2 : sub (m_less cols d.r) cols := fun x hx => (List.mem_filter.mp hx).1
  refine ⟨⟨hu, s1, lt_of_sub hu hc s1 fun k => h.out fun x hx => ?_⟩, hl, s2, lt_of_sub hl hc s2 fun k => ?_⟩
  · rcases List.mem_append.mp ((mem_sset _ _).mp (k x hx)) with q | q
    · exact (closed_is hD h16).1.sub x q
    · exact (hrc x q).1
  · obtain ⟨y, hy⟩ := List.exists_mem_of_ne_nil _ h.ne
    have := k y (hrc y hy).2
    have h2 := (List.mem_filter.mp this).2
    rw [decide_eq_true hy] at h2
    cases h2
theorem sum2_app (k : Nat) (xs : List (List Int)) (y : List Int) : sum2 k (xs ++ [y]) = sum2 k xs + k ^ y.length := by unfold sum2; simp
theorem pow_two {k a b n : Nat} (hk : 2 ≤ k) (ha : a < n) (hb : b < n) : k ^ a + k ^ b ≤ k ^ n ∧ (3 ≤ k → k ^ a + k ^ b < k ^ n) := by
  obtain ⟨m, rfl⟩ : ∃ m, n = m + 1 := ⟨n - 1, by omega⟩
  have h1 : k ^ a ≤ k ^ m := Nat.pow_le_pow_right (by omega) (by omega)
  have h2 : k ^ b ≤ k ^ m := Nat.pow_le_pow_right (by omega) (by omega)
  have h3 : 0 < k ^ m := Nat.pow_pos (by omega)
  have e : k ^ (m + 1) = k ^ m * k := Nat.pow_succ _ _
  constructor
  · have : k ^ m * 2 ≤ k ^ m * k := Nat.mul_le_mul_left _ hk
    omega
  · intro h
    have : k ^ m * 3 ≤ k ^ m * k := Nat.mul_le_mul_left _ h
    omega
theorem last_split {xs : List (List Int)} (h : 0 < xs.length) : xs = xs.dropLast ++ [ix xs (-1)] := by
  have hn : xs ≠ [] := fun e => by rw [e] at h; exact absurd h (by decide)
  have e : ix xs (-1) = xs.getLast hn := by
    obtain ⟨j, e1, e2⟩ := ix_at (xs := xs) (i := -1) ⟨by omega, by omega⟩
    unfold ixN at e1
    rw [if_neg (by decide), if_pos (by omega)] at e1
    cases e1
    rw [show ((-1 : Int) + (xs.length : Int)).toNat = xs.length - 1 by omega] at e2
    rw [List.getLast_eq_getElem]
    exact (List.getElem_eq_iff (by omega)).mpr (by exact e2) |>.symm
  rw [e]
  exact (List.dropLast_concat_getLast hn).symm
theorem bc_start {c : Int} {D : List Sd} (h : 0 ≤ c ∧ c ≤ 5 ∧ DOk 16 D) : BcInv (boyce_codd_pending1 c D, boyce_codd_found1 c D) := by
  have hl : (m_whole c).length ≤ 5 := by show (rangeI 0 c).length ≤ 5; rw [rangeI_len]; omega
  refine ⟨?_, fun y hy => ?_, fun _ h => ?_⟩
  · show 0 + sum2 2 [m_whole c] ≤ 32
    have e : sum2 2 [m_whole c] = 2 ^ (m_whole c).length := by unfold sum2; simp
    have := Nat.pow_le_pow_right (n := 2) (by decide) hl
    rw [e]; omega
  · rw [List.mem_singleton.mp (show y ∈ [m_whole c] from hy)]
    exact Cols.rng (by omega)
  · have h' : _ ∈ ([] : List (List Int)) := h
    cases h'
theorem bc_enough {c : Int} {D : List Sd} (h : 0 ≤ c ∧ c ≤ 5 ∧ DOk 16 D) : bcMu (boyce_codd_pending1 c D, boyce_codd_found1 c D) < 244 := by
  have hl : (m_whole c).length ≤ 5 := by show (rangeI 0 c).length ≤ 5; rw [rangeI_len]; omega
  show sum2 3 [m_whole c] < 244
  have e : sum2 3 [m_whole c] = 3 ^ (m_whole c).length := by unfold sum2; simp
  have := Nat.pow_le_pow_right (n := 3) (by decide) hl
  rw [e]; omega
theorem bc_step (c : Int) (D : List Sd) (s : List (List Int) × List (List Int)) : boyce_codd_st1 c D s = match m_broken c D (ix s.1 (-1)) with
    | none => (s.1.dropLast, s.2 ++ [ix s.1 (-1)])
    | some d => (s.1.dropLast ++ [m_united d.l d.r] ++ [m_less (ix s.1 (-1)) d.r], s.2) := by
  unfold boyce_codd_st1 boyce_codd_j_pending_found1 boyce_codd_found2 boyce_codd_pending4 boyce_codd_pending3 boyce_codd_pending2 boyce_codd_shown1 boyce_codd_columns1
  cases m_broken c D (ix s.1 (-1)) <;> rfl
theorem bc_dec {c : Int} {D : List Sd} (h : 0 ≤ c ∧ c ≤ 5 ∧ DOk 16 D) (s : List (List Int) × List (List Int)) (hi : BcInv s) (ht : boyce_codd_ts1 c D s = true) : BcInv (boyce_codd_st1 c D s) ∧ bcMu (boyce_codd_st1 c D s) < bcMu s := by
  have hp : 0 < s.1.length := by have := of_decide_eq_true ht; omega
  have es := last_split hp
  obtain ⟨h1, h2, h3⟩ := hi
  have hc : Cols 7 (ix s.1 (-1)) := h2 _ (by rw [es]; exact List.mem_append_right _ (by rw [← es]; exact List.mem_singleton.mpr rfl))
  have hd : ∀ x ∈ s.1.dropLast, Cols 7 x := fun x hx => h2 x (List.dropLast_subset _ hx)
  have e2 : sum2 2 s.1 = sum2 2 s.1.dropLast + 2 ^ (ix s.1 (-1)).length := by conv => lhs; rw [es]
                                                                              exact sum2_app _ _ _
  have e3 : sum2 3 s.1 = sum2 3 s.1.dropLast + 3 ^ (ix s.1 (-1)).length := by conv => lhs; rw [es]
                                                                              exact sum2_app _ _ _
  rw [bc_step]
  rcases broken_is c D hc h.2.2 with ⟨e, _⟩ | ⟨d, e, hb⟩
  · rw [e]
    have p2 : 0 < 2 ^ (ix s.1 (-1)).length := Nat.pow_pos (by decide)
    have p3 : 0 < 3 ^ (ix s.1 (-1)).length := Nat.pow_pos (by decide)
    refine ⟨⟨?_, hd, fun x hx => ?_⟩, ?_⟩
    · show (s.2 ++ [_]).length + sum2 2 s.1.dropLast ≤ 32
      rw [List.length_append, List.length_singleton]; omega
    · rcases List.mem_append.mp hx with hx | hx
      · exact h3 x hx
      · rw [List.mem_singleton.mp hx]; exact hc
    · show sum2 3 s.1.dropLast < sum2 3 s.1
      omega
  · rw [e]
    obtain ⟨⟨u1, _, u3⟩, l1, _, l3⟩ := hb.two hc h.2.2
    have q2 := (pow_two (k := 2) (by decide) u3 l3).1
    have q3 := (pow_two (k := 3) (by decide) u3 l3).2 (by decide)
    refine ⟨⟨?_, fun x hx => ?_, h3⟩, ?_⟩
    · show s.2.length + sum2 2 (s.1.dropLast ++ [_] ++ [_]) ≤ 32
      rw [sum2_app, sum2_app]; omega
    · rcases List.mem_append.mp hx with hx | hx
      · rcases List.mem_append.mp hx with hx | hx
        · exact hd x hx
        · rw [List.mem_singleton.mp hx]; exact u1
      · rw [List.mem_singleton.mp hx]; exact l1
    · show sum2 3 (s.1.dropLast ++ [_] ++ [_]) < sum2 3 s.1
      rw [sum2_app, sum2_app]; omega
theorem rset_len (xs : List (List Int)) : (rset xs).length ≤ xs.length := by
  have key : ∀ ys : List (List Int), (undup ys).length ≤ ys.length := fun ys => by
    induction ys with
    | nil => exact Nat.le_refl _
    | cons y r ih =>
      unfold undup
      split
      · rw [List.length_cons]; omega
      · rw [List.length_cons, List.length_cons]; omega
  unfold rset
  rw [(rowSort_perm _).length_eq]
  exact key xs
theorem bc_last {s : List (List Int) × List (List Int)} (hi : BcInv s) (hp : 0 < s.1.length) : Cols 7 (ix s.1 (-1)) := hi.2.1 _ (ix_mem ⟨by omega, by omega⟩)
theorem sum2_len (xs : List (List Int)) : xs.length ≤ sum2 2 xs := by
  induction xs with
  | nil => exact Nat.zero_le _
  | cons x r ih =>
    have e : sum2 2 (x :: r) = 2 ^ x.length + sum2 2 r := by unfold sum2; simp
    have : 0 < 2 ^ x.length := Nat.pow_pos (by decide)
    rw [e, List.length_cons]; omega
theorem bc_end {c : Int} {D : List Sd} (h : 0 ≤ c ∧ c ≤ 5 ∧ DOk 16 D) : BcInv (boyce_codd_loop1 c D) :=
  (while_end (boyce_codd_ts1 c D) (boyce_codd_st1 c D) BcInv bcMu (fun s hi ht => bc_dec h s hi ht) 244 (boyce_codd_pending1 c D, boyce_codd_found1 c D) (bc_start h) (bc_enough h)).1
theorem bc_some {c : Int} {D : List Sd} (hD : DOk 16 D) {cols : List Int} (hc : Cols 7 cols) (h : ¬ (m_broken c D cols).isNone = true) : BrOk D cols ((m_broken c D cols).getD default) := by
  rcases broken_is c D hc hD with ⟨e, _⟩ | ⟨d, e, hb⟩
  · rw [e] at h; exact absurd rfl h
  · rw [e]; exact hb
theorem ix65_ok {x : Int} (h : 0 ≤ x ∧ x ≤ 6) : 1 ≤ ix ([(1 : Int), (2 : Int), (4 : Int), (8 : Int), (16 : Int), (32 : Int), (64 : Int)] : List Int) x ∧ ix ([(1 : Int), (2 : Int), (4 : Int), (8 : Int), (16 : Int), (32 : Int), (64 : Int)] : List Int) x ≤ 64 := by
  obtain ⟨h0, h1⟩ := h
  have : x = 0 ∨ x = 1 ∨ x = 2 ∨ x = 3 ∨ x = 4 ∨ x = 5 ∨ x = 6 := by omega
  rcases this with rfl | rfl | rfl | rfl | rfl | rfl | rfl <;> exact ⟨by decide, by decide⟩
theorem go_inv {α κ ρ : Type} (P : κ → Prop) (st : κ → α → Lp κ ρ) : ∀ (xs : List α) (s0 s : κ), (∀ s x, x ∈ xs → P s → ∀ s', st s x = .go s' → P s') → P s0 → goL st s0 xs = some s → P s
  | [], s0, s, _, h, e => by cases e; exact h
  | x :: xs, s0, s, hs, h, e => by
    unfold goL at e
    split at e
    · rename_i s' q
      exact go_inv P st xs _ _ (fun s y hy => hs s y (List.mem_cons_of_mem _ hy)) (hs s0 x List.mem_cons_self h _ q) e
    · cases e
theorem split_at {parts : List (List Int)} {count : Int} (h : ∀ y ∈ parts, Cols 7 y) {i : Nat} {s : List Int} (e : goL (Lis_split_st1 parts count) (Lis_split_Lcolumns1 parts count) (parts.take i) = some s) : Cols 7 s := by
  refine go_inv (Cols 7) _ _ _ _ (fun s x hx hs s' q => ?_) Cols.nil e
  unfold Lis_split_st1 at q
  split at q
  · cases q
  · cases q
    exact hs.uni (h x (List.mem_of_mem_take hx))
theorem greatest_walk (parts : List (List Int)) : ∀ (xs s : List (List Int)), (xs.foldl (greatest_st1 parts) s).length ≤ s.length + xs.length ∧ ∀ x ∈ xs.foldl (greatest_st1 parts) s, x ∈ s ∨ x ∈ xs
  | [], s => ⟨Nat.le_refl _, fun x h => .inl h⟩
  | y :: xs, s => by
    rw [List.foldl_cons, List.length_cons]
    obtain ⟨h1, h2⟩ := greatest_walk parts xs (greatest_st1 parts s y)
    have k : (greatest_st1 parts s y).length ≤ s.length + 1 ∧ ∀ x ∈ greatest_st1 parts s y, x ∈ s ∨ x = y := by
      unfold greatest_st1 greatest_j_found1 greatest_found2
      split
      · exact ⟨by rw [List.length_append, List.length_singleton]; exact Nat.le_refl _, fun x hx => (List.mem_append.mp hx).imp id List.mem_singleton.mp⟩
      · exact ⟨Nat.le_succ _, fun x hx => .inl hx⟩
    refine ⟨by omega, fun x hx => ?_⟩
    rcases h2 x hx with q | q
    · rcases k.2 x q with q | q
      · exact .inl q
      · exact .inr (by rw [q]; exact List.mem_cons_self)
    · exact .inr (List.mem_cons_of_mem _ q)
theorem greatest_ok (parts : List (List Int)) : (m_greatest parts).length ≤ parts.length ∧ ∀ x ∈ m_greatest parts, x ∈ parts := by
  obtain ⟨h1, h2⟩ := greatest_walk parts (rset parts) []
  have := rset_len parts
  refine ⟨by have h1' : (m_greatest parts).length ≤ 0 + (rset parts).length := h1; omega, fun x hx => ?_⟩
  rcases h2 x hx with q | q
  · cases q
  · exact rset_mem.mp q
theorem law_n (v : List Int) : (law_Lnumbers_here1 v).length = 10 := m_Lnumbers_len v 10
theorem law_count (v : List Int) : 1 ≤ law_Lcount1 v ∧ law_Lcount1 v ≤ 5 := by
  have := emod_in (a := ix (law_Lnumbers_here1 v) 0) (b := 5) (by decide)
  unfold law_Lcount1
  omega
theorem law_rows (v : List Int) : POk (law_Lcount1 v).toNat (law_Lrows1 v) ∧ (law_Lrows1 v).length ≤ 6 := m_Lfds_ok (by have := law_count v; omega)
theorem law_rows16 (v : List Int) : POk 16 (law_Lrows1 v) := fun d hd => by
  have hc := law_count v
  have h := (law_rows v).1 d hd
  exact ⟨h.1.mono (by omega), h.2.mono (by omega)⟩
theorem law_told (v : List Int) : law_Ltold1 v = (law_Lrows1 v).map (fun p : List Int × List Int => (⟨p.1, p.2⟩ : Sd)) := List.map_congr_left fun p hp => ((law_rows16 v) p hp).1.mk1 ((law_rows16 v) p hp).2
theorem law_tdok (v : List Int) : DOk 16 (law_Ltold1 v) := fun d hd => by
  rw [law_told] at hd
  obtain ⟨p, hp, rfl⟩ := List.mem_map.mp hd
  exact law_rows16 v p hp
theorem law_cols (v : List Int) : Cols 7 (law_Lcolumns1 v) := m_Lset_cols (by have := law_count v; omega)
theorem law_shown (v : List Int) (h : (law_Lshown1 v).isSome = true) : BrOk (law_Ltold1 v) (law_Lcolumns1 v) ((law_Lshown1 v).getD default) := bc_some (c := law_Lcount1 v) (law_tdok v) (law_cols v) fun q => by
  have e : (law_Lshown1 v).isNone = true := q
  cases hs : law_Lshown1 v with
  | none => rw [hs] at h; cases h
  | some d => rw [hs] at e; cases e
theorem law_bc (v : List Int) : (m_boyce_codd (law_Lcount1 v) (law_Ltold1 v)).length ≤ 32 ∧ ∀ y ∈ m_boyce_codd (law_Lcount1 v) (law_Ltold1 v), Cols 7 y := by
  have hc := law_count v
  have hb := bc_end (c := law_Lcount1 v) (D := law_Ltold1 v) ⟨by omega, by omega, law_tdok v⟩
  obtain ⟨g1, g2⟩ := greatest_ok (boyce_codd_loop1 (law_Lcount1 v) (law_Ltold1 v)).2
  have h1 := hb.1
  exact ⟨by show (m_greatest _).length ≤ 32; omega, fun y hy => hb.2.2 y (g2 y hy)⟩
/-! the table of parts comes to rest, and keeps all rows then -/
def colOf (T : List (List Int)) (c : Int) : List Int := T.map fun r => ix r c
def muT (count : Int) (T : List (List Int)) : Nat := ((rangeI 0 count).map fun c => (sset (colOf T c)).length).sum
def mrg (c lo hi : Int) (r : List Int) : List Int := if ix r c = hi then r.set c.toNat lo else r
theorem ix_mid {A B : List (List Int)} {y : List Int} : ix (A ++ y :: B) (A.length : Int) = y := by
  rw [ix_nat (by omega) (by rw [List.length_append, List.length_cons]; omega)]
  simp
theorem merge_is (T : List (List Int)) (c lo hi : Int) : m_Lmerge T c lo hi = T.map (mrg c lo hi) := by
  have key : ∀ n : Nat, n ≤ T.length → ((rangeI 0 (T.length : Int)).take n).foldl (Lmerge_st1 T c lo hi) T = (T.take n).map (mrg c lo hi) ++ T.drop n := fun n => by
    induction n with
    | zero => intro _; simp
    | succ n ih =>
      intro hn
      have h1 := ih (by omega)
      have e1 : (rangeI 0 (T.length : Int))[n]? = some (n : Int) := by rw [rangeI_get (by omega), Int.zero_add]
      have hlt : n < T.length := by omega
      rw [List.take_add_one, e1, List.take_add_one, List.getElem?_eq_getElem hlt]
      rw [List.foldl_append, h1, List.map_append]
      have hd : T.drop n = T[n] :: T.drop (n + 1) := List.drop_eq_getElem_cons hlt
      have hl : ((T.take n).map (mrg c lo hi)).length = n := by rw [List.length_map, List.length_take]; omega
      have hix : ix ((T.take n).map (mrg c lo hi) ++ T.drop n) (n : Int) = T[n] := by
        rw [hd]
        have := ix_mid (A := (T.take n).map (mrg c lo hi)) (y := T[n]) (B := T.drop (n + 1))
        rw [hl] at this
        exact this
      show Lmerge_st1 T c lo hi _ (n : Int) = _
      unfold Lmerge_st1 Lmerge_j_Ltable1 Lmerge_Ltable1
      rw [hix]
      have e2 : ((n : Int)).toNat = n := by omega
      rw [e2, hd]
      have e3 : List.map (mrg c lo hi) (some T[n]).toList = [mrg c lo hi T[n]] := rfl
      by_cases q : ix T[n] c = hi
      · rw [if_pos (decide_eq_true q), List.set_append_right _ _ (by rw [hl]; exact Nat.le_refl _), hl, Nat.sub_self, e3]
        have e4 : mrg c lo hi T[n] = T[n].set c.toNat lo := by unfold mrg; rw [if_pos q]
        rw [e4, List.append_assoc]
        rfl
      · rw [if_neg (by rw [decide_eq_false q]; decide), e3]
        have e4 : mrg c lo hi T[n] = T[n] := by unfold mrg; rw [if_neg q]
        rw [e4, List.append_assoc]
        rfl
  have h := key T.length (Nat.le_refl _)
  rw [List.take_of_length_le (by rw [rangeI_len]; omega), List.take_length, List.drop_length, List.append_nil] at h
  exact h
/-- a walk each step of which stays or goes down -/
theorem fold_stay {α κ : Type} (P : κ → Prop) (mu : κ → Nat) (st : κ → α → κ) : ∀ (xs : List α) (s0 : κ), P s0 → (∀ x ∈ xs, ∀ s, P s → P (st s x) ∧ (st s x = s ∨ mu (st s x) < mu s)) →
    P (xs.foldl st s0) ∧ (xs.foldl st s0 = s0 ∨ mu (xs.foldl st s0) < mu s0) ∧ (xs.foldl st s0 = s0 → ∀ x ∈ xs, st s0 x = s0)
  | [], s0, h, _ => ⟨h, .inl rfl, fun _ _ h => nomatch h⟩
  | x :: xs, s0, h, k => by
    rw [List.foldl_cons]
    obtain ⟨k1, k2⟩ := k x List.mem_cons_self s0 h
    obtain ⟨i1, i2, i3⟩ := fold_stay P mu st xs (st s0 x) k1 fun y hy => k y (List.mem_cons_of_mem _ hy)
    refine ⟨i1, ?_, fun e y hy => ?_⟩
    · rcases k2 with k2 | k2
      · rw [k2] at i2 ⊢; exact i2
      · rcases i2 with i2 | i2
        · rw [i2]; exact .inr k2
        · exact .inr (Nat.lt_trans i2 k2)
    · have hs : st s0 x = s0 := by
        rcases k2 with k2 | k2
        · exact k2
        · rcases i2 with i2 | i2
          · rw [e] at i2; exact i2.symm
          · rw [e] at i2; omega
      rcases List.mem_cons.mp hy with rfl | hy
      · exact hs
      · rw [hs] at i3 e
        exact i3 e y hy
/-- enough turns -/
theorem turns {κ : Type} (P : κ → Prop) (mu : κ → Nat) (f : κ → κ) (h : ∀ s, P s → P (f s) ∧ (f s = s ∨ mu (f s) < mu s)) : ∀ (xs : List Int) (s : κ), P s → mu s < xs.length → f (xs.foldl (fun s _ => f s) s) = xs.foldl (fun s _ => f s) s
  | [], s, _, hl => by simp at hl
  | x :: xs, s, hp, hl => by
    rw [List.foldl_cons]
    obtain ⟨h1, h2⟩ := h s hp
    rcases h2 with h2 | h2
    · rw [h2]
      have e : ∀ ys : List Int, ys.foldl (fun s _ => f s) s = s := fun ys => by
        induction ys with
        | nil => rfl
        | cons y ys ih => rw [List.foldl_cons, h2]; exact ih
      rw [e, h2]
    · exact turns P mu f h xs (f s) h1 (by rw [List.length_cons] at hl; omega)
theorem asc_lt {a b : List Int} (ha : a.Pairwise (· < ·)) (hb : b.Pairwise (· < ·)) (h : sub a b) {y : Int} (hy : y ∈ b) (hn : ¬ y ∈ a) : a.length < b.length := by
  have e : a = b.filter (fun x => decide (x ∈ a)) := asc_unique ha (hb.filter _) fun x => by
    rw [List.mem_filter, decide_eq_true_eq]
    exact ⟨fun k => ⟨h x k, k⟩, fun k => k.2⟩
  have l1 : a.length ≤ b.length := by
    conv => lhs; rw [e]
    exact List.length_filter_le _ _
  rcases Nat.lt_or_ge a.length b.length with q | q
  · exact q
  · exfalso
    have l3 : (b.filter (fun x => decide (x ∈ a))).length = b.length := by rw [← e]; omega
    exact hn (of_decide_eq_true (List.length_filter_eq_length_iff.mp l3 y hy))
theorem sum_lt {f g : Int → Nat} : ∀ {xs : List Int}, (∀ x ∈ xs, f x ≤ g x) → ∀ {x : Int}, x ∈ xs → f x < g x → (xs.map f).sum < (xs.map g).sum
  | [], _, _, h, _ => by cases h
  | y :: xs, hl, x, hx, hlt => by
    have le : ∀ ys : List Int, (∀ z ∈ ys, f z ≤ g z) → (ys.map f).sum ≤ (ys.map g).sum := fun ys => by
      induction ys with
      | nil => intro _; exact Nat.le_refl _
      | cons z ys ih =>
        intro h
        have h1 := h z List.mem_cons_self
        have h2 := ih fun w hw => h w (List.mem_cons_of_mem _ hw)
        simp only [List.map_cons, List.sum_cons]; omega
    simp only [List.map_cons, List.sum_cons]
    rcases List.mem_cons.mp hx with rfl | hx
    · have := le xs fun z hz => hl z (List.mem_cons_of_mem _ hz)
      omega
    · have h1 := hl y List.mem_cons_self
      have h2 := sum_lt (fun z hz => hl z (List.mem_cons_of_mem _ hz)) hx hlt
      omega
theorem ix_set {r : List Int} {c y lo : Int} (hc : 0 ≤ c ∧ c < (r.length : Int)) (hy : 0 ≤ y ∧ y < (r.length : Int)) : ix (r.set c.toNat lo) y = if y = c then lo else ix r y := by
  rw [ix_nat hy.1 (by rw [List.length_set]; exact hy.2), ix_nat hy.1 hy.2, List.getElem_set]
  by_cases e : y = c
  · subst e; simp
  · rw [if_neg (fun q => e (by omega)), if_neg e]
theorem ix_mrg {c lo hi : Int} {r : List Int} (hc : 0 ≤ c ∧ c < (r.length : Int)) {y : Int} (hy : 0 ≤ y ∧ y < (r.length : Int)) : ix (mrg c lo hi r) y = if y = c ∧ ix r c = hi then lo else ix r y := by
  unfold mrg
  by_cases q : ix r c = hi
  · rw [if_pos q, ix_set hc hy]
    by_cases e : y = c <;> simp [e, q]
  · rw [if_neg q, if_neg (fun k => q k.2)]
structure PT (n c : Nat) (parts T : List (List Int)) : Prop where
  sh : Shape n c T
  nn : ∀ r ∈ T, ∀ y : Int, 0 ≤ y ∧ y < (c : Int) → 0 ≤ ix r y
  z : ∀ k : Int, 0 ≤ k ∧ k < (n : Int) → ∀ y ∈ ix parts k, 0 ≤ y ∧ y < (c : Int) → ix (ix T k) y = 0
theorem ix_mapT {n c : Nat} {T : List (List Int)} (h : Shape n c T) (f : List Int → List Int) {k : Int} (hk : 0 ≤ k ∧ k < (n : Int)) : ix (T.map f) k = f (ix T k) := by
  have hl := h.1
  rw [ix_nat hk.1 (by rw [List.length_map]; omega), ix_nat hk.1 (by omega), List.getElem_map]
theorem mrg_len (c lo hi : Int) (r : List Int) : (mrg c lo hi r).length = r.length := by
  unfold mrg
  split
  · rw [List.length_set]
  · rfl
theorem merge_step {n c : Nat} {parts T : List (List Int)} (h : PT n c parts T) {x i j : Int} (hx : 0 ≤ x ∧ x < (c : Int)) (hi : 0 ≤ i ∧ i < (n : Int)) (hj : 0 ≤ j ∧ j < (n : Int)) {lo up : Int}
    (elo : lo = if ix (ix T j) x < ix (ix T i) x then ix (ix T j) x else ix (ix T i) x) (eup : up = if ix (ix T j) x > ix (ix T i) x then ix (ix T j) x else ix (ix T i) x) :
    PT n c parts (m_Lmerge T x lo up) ∧ (m_Lmerge T x lo up = T ∨ muT (c : Int) (m_Lmerge T x lo up) < muT (c : Int) T) ∧ (m_Lmerge T x lo up = T → ix (ix T i) x = ix (ix T j) x) := by
  have mi : ix T i ∈ T := ix_mem ⟨by have := h.sh.1; omega, by have := h.sh.1; omega⟩
  have mj : ix T j ∈ T := ix_mem ⟨by have := h.sh.1; omega, by have := h.sh.1; omega⟩
  have ni := h.nn _ mi x hx
  have nj := h.nn _ mj x hx
  have hlo : 0 ≤ lo := by rw [elo]; split <;> assumption
  have hle : lo ≤ up := by rw [elo, eup]; split <;> split <;> omega
  have hloc : lo = ix (ix T i) x ∨ lo = ix (ix T j) x := by rw [elo]; split; exact .inr rfl; exact .inl rfl
  have hupc : up = ix (ix T i) x ∨ up = ix (ix T j) x := by rw [eup]; split; exact .inr rfl; exact .inl rfl
  have rl : ∀ r ∈ T, (r.length : Int) = (c : Int) := fun r hr => by rw [h.sh.2 r hr]
  have cell : ∀ r ∈ T, ∀ y : Int, 0 ≤ y ∧ y < (c : Int) → ix (mrg x lo up r) y = if y = x ∧ ix r x = up then lo else ix r y := fun r hr y hy => ix_mrg (by rw [rl r hr]; exact hx) (by rw [rl r hr]; exact hy)
  rw [merge_is]
  have hPT : PT n c parts (T.map (mrg x lo up)) := by
    refine ⟨⟨by rw [List.length_map]; exact h.sh.1, fun r hr => ?_⟩, fun r hr y hy => ?_, fun k hk y hy hyr => ?_⟩
    · obtain ⟨r0, h0, rfl⟩ := List.mem_map.mp hr
      rw [mrg_len]; exact h.sh.2 r0 h0
    · obtain ⟨r0, h0, rfl⟩ := List.mem_map.mp hr
      rw [cell r0 h0 y hy]
      split
      · exact hlo
      · exact h.nn r0 h0 y hy
    · have mk : ix T k ∈ T := ix_mem ⟨by have := h.sh.1; omega, by have := h.sh.1; omega⟩
      rw [ix_mapT h.sh _ hk, cell _ mk y hyr]
      have z0 := h.z k hk y hy hyr
      split
      · rename_i q
        obtain ⟨q1, q2⟩ := q
        rw [q1] at z0
        omega
      · exact z0
  refine ⟨hPT, ?_, fun e => ?_⟩
  · by_cases eq : lo = up
    · left
      have : ∀ r ∈ T, mrg x lo up r = r := fun r hr => by
        have hlen := mrg_len x lo up r
        refine List.ext_getElem hlen fun m m1 m2 => ?_
        have hc := rl r hr
        have hm : 0 ≤ (m : Int) ∧ (m : Int) < (c : Int) := ⟨by omega, by omega⟩
        have q := cell r hr (m : Int) hm
        rw [ix_nat (by omega) (by omega)] at q
        have e1 : (mrg x lo up r)[m] = (mrg x lo up r)[((m : Int)).toNat]'(by omega) := by simp
        have e2 : r[m] = ix r (m : Int) := by rw [ix_nat (by omega) (by omega)]; simp
        rw [e1, q, e2]
        split
        · rename_i k
          rw [eq, ← k.2, k.1]
        · rfl
      exact (List.map_congr_left this).trans (List.map_id' _)
    · right
      unfold muT
      have hxr : x ∈ rangeI 0 (c : Int) := rng_mem.mpr hx
      have cm : ∀ y : Int, 0 ≤ y ∧ y < (c : Int) → ∀ w, w ∈ colOf (T.map (mrg x lo up)) y → w ∈ colOf T y := fun y hy w hw => by
        unfold colOf at hw ⊢
        rw [List.map_map] at hw
        obtain ⟨r, hr, rfl⟩ := List.mem_map.mp hw
        show ix (mrg x lo up r) y ∈ _
        rw [cell r hr y hy]
        split
        · rename_i k
          rw [k.1]
          rcases hloc with q | q
          · rw [q]; exact List.mem_map.mpr ⟨_, mi, rfl⟩
          · rw [q]; exact List.mem_map.mpr ⟨_, mj, rfl⟩
        · exact List.mem_map.mpr ⟨r, hr, rfl⟩
      have sm : ∀ y : Int, 0 ≤ y ∧ y < (c : Int) → sub (sset (colOf (T.map (mrg x lo up)) y)) (sset (colOf T y)) := fun y hy w hw => (mem_sset _ _).mpr (cm y hy w ((mem_sset _ _).mp hw))
      have strict : (sset (colOf (T.map (mrg x lo up)) x)).length < (sset (colOf T x)).length := by
        refine asc_lt (sset_asc _) (sset_asc _) (sm x hx) (y := up) ((mem_sset _ _).mpr ?_) fun k => ?_
        · rcases hupc with q | q
          · rw [q]; exact List.mem_map.mpr ⟨_, mi, rfl⟩
          · rw [q]; exact List.mem_map.mpr ⟨_, mj, rfl⟩
        · have k' := (mem_sset _ _).mp k
          unfold colOf at k'
          rw [List.map_map] at k'
          obtain ⟨r, hr, e⟩ := List.mem_map.mp k'
          have e' : ix (mrg x lo up r) x = up := e
          rw [cell r hr x hx] at e'
          by_cases q : ix r x = up
          · rw [if_pos ⟨rfl, q⟩] at e'; exact eq e'
          · rw [if_neg (fun z => q z.2)] at e'; exact q e'
      refine sum_lt (fun y hy => ?_) hxr strict
      have hy' := rng_mem.mp hy
      refine Classical.byContradiction fun hcon => ?_
      have e : sset (colOf (T.map (mrg x lo up)) y) = (sset (colOf T y)).filter (fun z => decide (z ∈ sset (colOf (T.map (mrg x lo up)) y))) := asc_unique (sset_asc _) ((sset_asc _).filter _) fun z => by
        rw [List.mem_filter, decide_eq_true_eq]
        exact ⟨fun k => ⟨sm y hy' z k, k⟩, fun k => k.2⟩
      have := List.length_filter_le (fun z => decide (z ∈ sset (colOf (T.map (mrg x lo up)) y))) (sset (colOf T y))
      rw [← e] at this
      exact hcon this
  · refine Classical.byContradiction fun hne => ?_
    have hlu : lo ≠ up := by rw [elo, eup]; split <;> split <;> omega
    have stay : ∀ r ∈ T, ix r x ≠ up := fun r hr q => by
      have e1 : (T.map (mrg x lo up)) = T := e
      obtain ⟨k, hk1, hk2⟩ := List.getElem_of_mem hr
      have e2 : (T.map (mrg x lo up))[k]'(by rw [List.length_map]; exact hk1) = T[k] := by simp only [e1]
      rw [List.getElem_map, hk2] at e2
      have := cell r hr x hx
      rw [if_pos ⟨rfl, q⟩, e2, q] at this
      exact hlu this.symm
    rcases hupc with q | q
    · exact stay _ mi q.symm
    · exact stay _ mj q.symm
structure Tx [Tb] (K : PySem.W.Frag) (mg : Str → Option Value) (base : Heap) where
  a_Lnumbers : Addr
  d_Lnumbers : FuncData
  F_Lnumbers : Fun K "_law_numbers" "_law_numbers" s_Lnumbers a_Lnumbers d_Lnumbers
  b_Lnumbers : Binds K d_Lnumbers ["_law_script", "_law_count"] []
  g_Lnumbers : mg "_law_numbers" = some (.ref a_Lnumbers)
  a_Lsparse : Addr
  d_Lsparse : FuncData
  F_Lsparse : Fun K "_law_sparse" "_law_sparse" s_Lsparse a_Lsparse d_Lsparse
  b_Lsparse : Binds K d_Lsparse ["_law_number", "_law_count"] []
  g_Lsparse : mg "_law_sparse" = some (.ref a_Lsparse)
  a_Lfds : Addr
  d_Lfds : FuncData
  F_Lfds : Fun K "_law_fds" "_law_fds" s_Lfds a_Lfds d_Lfds
  b_Lfds : Binds K d_Lfds ["_law_numbers_here", "_law_place", "_law_count"] []
  g_Lfds : mg "_law_fds" = some (.ref a_Lfds)
  a_as_set : Addr
  d_as_set : FuncData
  F_as_set : Fun K "as_set" "as_set" s_as_set a_as_set d_as_set
  b_as_set : Binds K d_as_set ["columns"] []
  g_as_set : mg "as_set" = some (.ref a_as_set)
  a_Sides_init : Addr
  d_Sides_init : FuncData
  F_Sides_init : Fun K "__init__" "Sides.__init__" s_Sides_init a_Sides_init d_Sides_init
  b_Sides_init : Binds K d_Sides_init ["self", "left", "right"] []
  a_Lset : Addr
  d_Lset : FuncData
  F_Lset : Fun K "_law_set" "_law_set" s_Lset a_Lset d_Lset
  b_Lset : Binds K d_Lset ["_law_number", "_law_count"] []
  g_Lset : mg "_law_set" = some (.ref a_Lset)
  a_all_sets : Addr
  d_all_sets : FuncData
  F_all_sets : Fun K "all_sets" "all_sets" s_all_sets a_all_sets d_all_sets
  b_all_sets : Binds K d_all_sets ["columns"] []
  g_all_sets : mg "all_sets" = some (.ref a_all_sets)
  lc_all_sets : Addr
  lp_all_sets : Addr
  FC_all_sets : FunC K "all_sets" "all_sets" s_all_sets a_all_sets d_all_sets lc_all_sets
  TB_all_sets : LamX.TabB base mg lc_all_sets lp_all_sets
  tm_all_sets : (lp_all_sets, (("all_sets" : Str) ++ ".<locals>." ++ "<lambda>")) ∈ Tb.tt
  tu_all_sets : ∀ p ∈ Tb.tt, p.1 = lp_all_sets → p.2 = (("all_sets" : Str) ++ ".<locals>." ++ "<lambda>")
  a_is_within : Addr
  d_is_within : FuncData
  F_is_within : Fun K "is_within" "is_within" s_is_within a_is_within d_is_within
  b_is_within : Binds K d_is_within ["a", "b"] []
  g_is_within : mg "is_within" = some (.ref a_is_within)
  a_united : Addr
  d_united : FuncData
  F_united : Fun K "united" "united" s_united a_united d_united
  b_united : Binds K d_united ["a", "b"] []
  g_united : mg "united" = some (.ref a_united)
  a_closed : Addr
  d_closed : FuncData
  F_closed : Fun K "closed" "closed" s_closed a_closed d_closed
  b_closed : Binds K d_closed ["dependencies", "columns"] []
  g_closed : mg "closed" = some (.ref a_closed)
  a_less : Addr
  d_less : FuncData
  F_less : Fun K "less" "less" s_less a_less d_less
  b_less : Binds K d_less ["a", "b"] []
  g_less : mg "less" = some (.ref a_less)
  a_met : Addr
  d_met : FuncData
  F_met : Fun K "met" "met" s_met a_met d_met
  b_met : Binds K d_met ["a", "b"] []
  g_met : mg "met" = some (.ref a_met)
  a_broken : Addr
  d_broken : FuncData
  F_broken : Fun K "broken" "broken" s_broken a_broken d_broken
  b_broken : Binds K d_broken ["count", "dependencies", "columns"] []
  g_broken : mg "broken" = some (.ref a_broken)
  a_Lless : Addr
  d_Lless : FuncData
  F_Lless : Fun K "_law_less" "_law_less" s_Lless a_Lless d_Lless
  b_Lless : Binds K d_Lless ["_law_a", "_law_b"] []
  g_Lless : mg "_law_less" = some (.ref a_Lless)
  a_Lis_within : Addr
  d_Lis_within : FuncData
  F_Lis_within : Fun K "_law_is_within" "_law_is_within" s_Lis_within a_Lis_within d_Lis_within
  b_Lis_within : Binds K d_Lis_within ["_law_a", "_law_b"] []
  g_Lis_within : mg "_law_is_within" = some (.ref a_Lis_within)
  a_Lunited : Addr
  d_Lunited : FuncData
  F_Lunited : Fun K "_law_united" "_law_united" s_Lunited a_Lunited d_Lunited
  b_Lunited : Binds K d_Lunited ["_law_a", "_law_b"] []
  g_Lunited : mg "_law_united" = some (.ref a_Lunited)
  a_Lclosed : Addr
  d_Lclosed : FuncData
  F_Lclosed : Fun K "_law_closed" "_law_closed" s_Lclosed a_Lclosed d_Lclosed
  b_Lclosed : Binds K d_Lclosed ["_law_rows", "_law_columns"] []
  g_Lclosed : mg "_law_closed" = some (.ref a_Lclosed)
  a_Lmet : Addr
  d_Lmet : FuncData
  F_Lmet : Fun K "_law_met" "_law_met" s_Lmet a_Lmet d_Lmet
  b_Lmet : Binds K d_Lmet ["_law_a", "_law_b"] []
  g_Lmet : mg "_law_met" = some (.ref a_Lmet)
  a_Lbreaks : Addr
  d_Lbreaks : FuncData
  F_Lbreaks : Fun K "_law_breaks" "_law_breaks" s_Lbreaks a_Lbreaks d_Lbreaks
  b_Lbreaks : Binds K d_Lbreaks ["_law_rows", "_law_columns", "_law_count"] []
  g_Lbreaks : mg "_law_breaks" = some (.ref a_Lbreaks)
  a_whole : Addr
  d_whole : FuncData
  F_whole : Fun K "whole" "whole" s_whole a_whole d_whole
  b_whole : Binds K d_whole ["count"] []
  g_whole : mg "whole" = some (.ref a_whole)
  a_greatest : Addr
  d_greatest : FuncData
  F_greatest : Fun K "greatest" "greatest" s_greatest a_greatest d_greatest
  b_greatest : Binds K d_greatest ["parts"] []
  g_greatest : mg "greatest" = some (.ref a_greatest)
  a_boyce_codd : Addr
  d_boyce_codd : FuncData
  F_boyce_codd : Fun K "boyce_codd" "boyce_codd" s_boyce_codd a_boyce_codd d_boyce_codd
  b_boyce_codd : Binds K d_boyce_codd ["count", "dependencies"] []
  g_boyce_codd : mg "boyce_codd" = some (.ref a_boyce_codd)
  a_Lis_split : Addr
  d_Lis_split : FuncData
  F_Lis_split : Fun K "_law_is_split" "_law_is_split" s_Lis_split a_Lis_split d_Lis_split
  b_Lis_split : Binds K d_Lis_split ["_law_parts", "_law_count"] []
  g_Lis_split : mg "_law_is_split" = some (.ref a_Lis_split)
  a_Lmerge : Addr
  d_Lmerge : FuncData
  F_Lmerge : Fun K "_law_merge" "_law_merge" s_Lmerge a_Lmerge d_Lmerge
  b_Lmerge : Binds K d_Lmerge ["_law_table", "_law_column", "_law_low", "_law_high"] []
  g_Lmerge : mg "_law_merge" = some (.ref a_Lmerge)
  a_Lis_lossless : Addr
  d_Lis_lossless : FuncData
  F_Lis_lossless : Fun K "_law_is_lossless" "_law_is_lossless" s_Lis_lossless a_Lis_lossless d_Lis_lossless
  b_Lis_lossless : Binds K d_Lis_lossless ["_law_rows", "_law_parts", "_law_count"] []
  g_Lis_lossless : mg "_law_is_lossless" = some (.ref a_Lis_lossless)
  a_law : Addr
  d_law : FuncData
  F_law : Fun K "law" "law" s_law a_law d_law
  b_law : Binds K d_law ["_law_script"] []
  g_law : mg "law" = some (.ref a_law)
  c_Fd : Addr
  cl_Fd : Cls K c_Fd
  gc_Fd : mg "Fd" = some (.ref c_Fd)
  M_Fd : Mk K c_Fd a_Sides_init
  na_Fd_left : NoAttr K c_Fd "left"
  na_Fd_right : NoAttr K c_Fd "right"
  ci_Fd : CI K c_Fd
  ki_Fd_Fd : PySem.W.kitOne K (.ref c_Fd) (.ref c_Fd) = some true
  n_all : mg "all" = none
  n_any : mg "any" = none
  n_int : mg "int" = none
  n_isinstance : mg "isinstance" = none
  n_len : mg "len" = none
  n_list : mg "list" = none
  n_max : mg "max" = none
  n_min : mg "min" = none
  n_range : mg "range" = none
  n_set : mg "set" = none
  n_sorted : mg "sorted" = none
  n_tuple : mg "tuple" = none
section
variable [Tb] {P : Program} {w : World} {K : PySem.W.Frag} {mg : Str → Option Value} {base : Heap}
theorem ok_Lnumbers (T : Tx K mg base) : FnOk P w K mg base CX0 1 T.a_Lnumbers T.d_Lnumbers ["_law_script", "_law_count"] (spP (A := (List Int) × Int) (fun x => (x.1.length ≤ 63 ∧ 0 ≤ x.2 ∧ x.2 ≤ 1000)) (fun x => [pu (tL K tI) x.1, pu tI x.2]) (fun x => pu (tLs K tI) (m_Lnumbers x.1 x.2))) := by
  refine fn_ok T.F_Lnumbers sc_Lnumbers (fun _ => rfl) fun X x hX hr hpre => ?_
  obtain ⟨vLscript, vLcount⟩ := x
  obtain ⟨cdv, A, outer, s, H, E, rfl⟩ := hX
  replace hpre : vLscript.length ≤ 63 ∧ 0 ≤ vLcount ∧ vLcount ≤ 1000 := hpre
  have hz1 : sizeLine = 16777216 := rfl
  have hz2 : scanBound = 4096 := rfl
  show SX _ _ [pu (tL K tI) vLscript, pu tI vLcount, un, un, un, un, un] _
  refine SX.imp (P := RetP (fun z : (List Int) => pu (tLs K tI) z) (m_Lnumbers vLscript vLcount)) ?_ fun r h => .inl h
  unfold m_Lnumbers
  refine sx_seq (Γ1 := [pu (tL K tI) vLscript, pu tI vLcount, pu tI (Lnumbers_Lrest1 vLscript vLcount), un, un, un, un]) (s1_setE (i := 2) sc_Lnumbers.nd rfl (by first | exact Or.inl rfl | exact Or.inr rfl) (x_val x_int (z := (Lnumbers_Lrest1 vLscript vLcount)) rfl) (show 2 < 7 by decide) rfl) ?_
  refine f_ifJ (fun (s : Int) => [pu (tL K tI) vLscript, pu tI vLcount, pu tI s, un, un, un, un]) (Lnumbers_j_Lrest1 vLscript vLcount) (A := (Lnumbers_Lrest2 vLscript vLcount)) (B := (Lnumbers_Lrest1 vLscript vLcount)) (t_cmp op_gt (nomark _) (o_IB (g := fun i j => decide (j < i))) (x_callB call_len T.n_len (by decide +kernel) (n_lenA saL) (ea_cons (x_var (i := 0) rfl) ea_nil)) x_int) rfl (fun h1 => ?_) (fun h2 => ?_) ?_
  · try simp only [decide_eq_true_eq, decide_eq_false_iff_not, Bool.and_eq_true, Bool.or_eq_true, Bool.not_eq_true', Bool.not_eq_false', Bool.and_eq_false_iff, Bool.or_eq_false_iff] at h1
    refine sx_seq (Γ1 := [pu (tL K tI) vLscript, pu tI vLcount, pu tI (Lnumbers_Lrest2 vLscript vLcount), un, un, un, un]) (s1_setE (i := 2) sc_Lnumbers.nd rfl (by first | exact Or.inl rfl | exact Or.inr rfl) (x_val (x_ix ix_list (o_ixL sqL (by /-1-/ (try dsimp only); (try simp only [InIx, CDiv, CMul, CPow, List.length_append, List.length_cons, List.length_nil, List.length_singleton, List.length_map, List.length_reverse, List.length_take, List.length_drop]) <;> first | assumption | omega | decide)) (x_var (i := 0) rfl) x_int) (z := (Lnumbers_Lrest2 vLscript vLcount)) rfl) (show 2 < 7 by decide) rfl) ?_
    exact f_nx ⟨_, rfl, Wk.uns []⟩
  · try simp only [decide_eq_true_eq, decide_eq_false_iff_not, Bool.and_eq_true, Bool.or_eq_true, Bool.not_eq_true', Bool.not_eq_false', Bool.and_eq_false_iff, Bool.or_eq_false_iff] at h2
    exact f_nx ⟨_, rfl, Wk.uns []⟩
  refine sx_seq (Γ1 := [pu (tL K tI) vLscript, pu tI vLcount, pu tI (Lnumbers_j_Lrest1 vLscript vLcount), pu tB (Lnumbers_Lby_digits1 vLscript vLcount), un, un, un]) (s1_setE (i := 3) sc_Lnumbers.nd rfl (by first | exact Or.inl rfl | exact Or.inr rfl) (x_val (x_cmp op_ge (nomark _) (o_IB (g := fun i j => decide (j ≤ i))) (x_var (i := 2) rfl) (x_pow x_int x_int (by /-2-/ (try dsimp only); (try simp only [InIx, CDiv, CMul, CPow, List.length_append, List.length_cons, List.length_nil, List.length_singleton, List.length_map, List.length_reverse, List.length_take, List.length_drop]) <;> first | assumption | omega | decide))) (z := (Lnumbers_Lby_digits1 vLscript vLcount)) rfl) (show 3 < 7 by decide) rfl) ?_
  refine sx_seq (Γ1 := [pu (tL K tI) vLscript, pu tI vLcount, pu tI (Lnumbers_j_Lrest1 vLscript vLcount), pu tB (Lnumbers_Lby_digits1 vLscript vLcount), ol tI (Lnumbers_Lnumbers_here1 vLscript vLcount), un, un]) (s1_setE (i := 4) sc_Lnumbers.nd rfl (by first | exact Or.inl rfl | exact Or.inr rfl) (x_valo (x_lst (Ss := []) (n_lst (R := tI) (xs := []) (show 0 ≤ sizeLine by decide)) ea_nil) (zs := (Lnumbers_Lnumbers_here1 vLscript vLcount)) rfl) (show 4 < 7 by decide) rfl) ?_
  refine f_for PassesOwn.never rfl (w_range1 T.n_range (x_var (i := 1) rfl) (by /-3-/ (try dsimp only); (try simp only [InIx, CDiv, CMul, CPow, List.length_append, List.length_cons, List.length_nil, List.length_singleton, List.length_map, List.length_reverse, List.length_take, List.length_drop]) <;> first | assumption | omega | decide) (by /-4-/ (try dsimp only); (try simp only [InIx, CDiv, CMul, CPow, List.length_append, List.length_cons, List.length_nil, List.length_singleton, List.length_map, List.length_reverse, List.length_take, List.length_drop]) <;> first | assumption | omega | decide)) (pg_name (i := 5) sc_Lnumbers.nd rfl (by first | exact Or.inl rfl | exact Or.inr rfl)) (tg_name (show 5 < 7 by decide)) (fun (s : Int × (List Int)) => [pu (tL K tI) vLscript, pu tI vLcount, pu tI s.1, pu tB (Lnumbers_Lby_digits1 vLscript vLcount), ol tI s.2, un, un]) (Lnumbers_st1 vLscript vLcount) ((Lnumbers_j_Lrest1 vLscript vLcount), (Lnumbers_Lnumbers_here1 vLscript vLcount)) (Lnumbers_loop1 vLscript vLcount) rfl (fun _ => rfl) (Wk.uns []) ?_ ?_
  · rintro ix3 x3 ⟨vLrest4, vLnumbers_here5⟩ hxx3 hsx3 hzx3
    have hrhxx3 := rng_at hxx3
    have hl_Lnumbers_here := foldl_len (fun s : Int × (List Int) => s.2) 1 (Lnumbers_st1 vLscript vLcount) (by intro s x; (try unfold Lnumbers_st1); (try unfold Lnumbers_j_Lrest_Lnumbers_here1); (try unfold Lnumbers_j_Lcell1); (repeat' split) <;> (try simp only [Lnumbers_st1, Lnumbers_Lnumbers_here2, Lnumbers_Lrest3, Lnumbers_Lcell1, Lnumbers_Lcell2, Lnumbers_j_Lcell1, Lnumbers_Lnumbers_here3, Lnumbers_j_Lrest_Lnumbers_here1, List.length_append, List.length_cons, List.length_nil]) <;> (try omega)) ((rangeI 0 vLcount).take ix3) ((Lnumbers_j_Lrest1 vLscript vLcount), (Lnumbers_Lnumbers_here1 vLscript vLcount))
    rw [hsx3] at hl_Lnumbers_here
    have hi_Lnumbers_here := (w_at hxx3).1
    simp only [Lnumbers_Lnumbers_here1, List.length_take, List.length_nil, rangeI_len] at hl_Lnumbers_here hi_Lnumbers_here
    refine f_ifJ (fun (s : Int × (List Int)) => [pu (tL K tI) vLscript, pu tI vLcount, pu tI s.1, pu tB (Lnumbers_Lby_digits1 vLscript vLcount), ol tI s.2, pu tI x3, un]) (Lnumbers_j_Lrest_Lnumbers_here1 vLscript vLcount vLrest4 vLnumbers_here5 x3) (A := ((Lnumbers_Lrest3 vLscript vLcount vLrest4 vLnumbers_here5 x3), (Lnumbers_Lnumbers_here2 vLscript vLcount vLrest4 vLnumbers_here5 x3))) (B := (vLrest4, (Lnumbers_Lnumbers_here3 vLscript vLcount vLrest4 vLnumbers_here5 x3))) (t_w (w_and (t_val (x_var (i := 3) rfl)) (fun h6 => (w_one (t_cmp op_gt (nomark _) (o_IB (g := fun i j => decide (j < i))) (x_var (i := 2) rfl) x_int) (.inl rfl))))) rfl (fun h8 => ?_) (fun h9 => ?_) ?_
    · try simp only [decide_eq_true_eq, decide_eq_false_iff_not, Bool.and_eq_true, Bool.or_eq_true, Bool.not_eq_true', Bool.not_eq_false', Bool.and_eq_false_iff, Bool.or_eq_false_iff] at h8
      refine sx_seq (Γ1 := [pu (tL K tI) vLscript, pu tI vLcount, pu tI vLrest4, pu tB (Lnumbers_Lby_digits1 vLscript vLcount), ol tI (Lnumbers_Lnumbers_here2 vLscript vLcount vLrest4 vLnumbers_here5 x3), pu tI x3, un]) (s1_app (i := 4) rfl (x_mod (x_var (i := 2) rfl) x_int (by /-5-/ (try dsimp only); (try simp only [InIx, CDiv, CMul, CPow, List.length_append, List.length_cons, List.length_nil, List.length_singleton, List.length_map, List.length_reverse, List.length_take, List.length_drop]) <;> first | assumption | omega | decide)) rfl (by /-6-/ (try dsimp only); (try simp only [InIx, CDiv, CMul, CPow, List.length_append, List.length_cons, List.length_nil, List.length_singleton, List.length_map, List.length_reverse, List.length_take, List.length_drop]) <;> first | assumption | omega | decide)) ?_
      refine sx_seq (Γ1 := [pu (tL K tI) vLscript, pu tI vLcount, pu tI (Lnumbers_Lrest3 vLscript vLcount vLrest4 vLnumbers_here5 x3), pu tB (Lnumbers_Lby_digits1 vLscript vLcount), ol tI (Lnumbers_Lnumbers_here2 vLscript vLcount vLrest4 vLnumbers_here5 x3), pu tI x3, un]) (s1_setE (i := 2) sc_Lnumbers.nd rfl (by first | exact Or.inl rfl | exact Or.inr rfl) (x_val (x_div (x_var (i := 2) rfl) x_int (by /-7-/ (try dsimp only); (try simp only [InIx, CDiv, CMul, CPow, List.length_append, List.length_cons, List.length_nil, List.length_singleton, List.length_map, List.length_reverse, List.length_take, List.length_drop]) <;> first | assumption | omega | decide)) (z := (Lnumbers_Lrest3 vLscript vLcount vLrest4 vLnumbers_here5 x3)) rfl) (show 2 < 7 by decide) rfl) ?_
      exact f_nx ⟨_, rfl, Wk.uns []⟩
    · try simp only [decide_eq_true_eq, decide_eq_false_iff_not, Bool.and_eq_true, Bool.or_eq_true, Bool.not_eq_true', Bool.not_eq_false', Bool.and_eq_false_iff, Bool.or_eq_false_iff] at h9
      refine sx_seq (Γ1 := [pu (tL K tI) vLscript, pu tI vLcount, pu tI vLrest4, pu tB (Lnumbers_Lby_digits1 vLscript vLcount), ol tI vLnumbers_here5, pu tI x3, pu tI (Lnumbers_Lcell1 vLscript vLcount vLrest4 vLnumbers_here5 x3)]) (s1_setE (i := 6) sc_Lnumbers.nd rfl (by first | exact Or.inl rfl | exact Or.inr rfl) (x_val x_int (z := (Lnumbers_Lcell1 vLscript vLcount vLrest4 vLnumbers_here5 x3)) rfl) (show 6 < 7 by decide) rfl) ?_
      refine f_ifJ (fun (s : Int) => [pu (tL K tI) vLscript, pu tI vLcount, pu tI vLrest4, pu tB (Lnumbers_Lby_digits1 vLscript vLcount), ol tI vLnumbers_here5, pu tI x3, pu tI s]) (Lnumbers_j_Lcell1 vLscript vLcount vLrest4 vLnumbers_here5 x3) (A := (Lnumbers_Lcell2 vLscript vLcount vLrest4 vLnumbers_here5 x3)) (B := (Lnumbers_Lcell1 vLscript vLcount vLrest4 vLnumbers_here5 x3)) (t_cmp op_gt (nomark _) (o_IB (g := fun i j => decide (j < i))) (x_callB call_len T.n_len (by decide +kernel) (n_lenA saL) (ea_cons (x_var (i := 0) rfl) ea_nil)) x_int) rfl (fun h10 => ?_) (fun h11 => ?_) ?_
      · try simp only [decide_eq_true_eq, decide_eq_false_iff_not, Bool.and_eq_true, Bool.or_eq_true, Bool.not_eq_true', Bool.not_eq_false', Bool.and_eq_false_iff, Bool.or_eq_false_iff] at h10
        refine sx_seq (Γ1 := [pu (tL K tI) vLscript, pu tI vLcount, pu tI vLrest4, pu tB (Lnumbers_Lby_digits1 vLscript vLcount), ol tI vLnumbers_here5, pu tI x3, pu tI (Lnumbers_Lcell2 vLscript vLcount vLrest4 vLnumbers_here5 x3)]) (s1_setE (i := 6) sc_Lnumbers.nd rfl (by first | exact Or.inl rfl | exact Or.inr rfl) (x_val (x_add (x_ix ix_list (o_ixL sqL (by have := emod_in (a := x3) h10; simp only [InIx]; omega)) (x_var (i := 0) rfl) (x_mod (x_var (i := 5) rfl) (x_callB call_len T.n_len (by decide +kernel) (n_lenA saL) (ea_cons (x_var (i := 0) rfl) ea_nil)) (by /-8-/ (try dsimp only); (try simp only [InIx, CDiv, CMul, CPow, List.length_append, List.length_cons, List.length_nil, List.length_singleton, List.length_map, List.length_reverse, List.length_take, List.length_drop]) <;> first | assumption | omega | decide))) (x_mul x_int (x_var (i := 5) rfl) (by /-10-/ (try dsimp only); (try simp only [InIx, CDiv, CMul, CPow, List.length_append, List.length_cons, List.length_nil, List.length_singleton, List.length_map, List.length_reverse, List.length_take, List.length_drop]) <;> first | assumption | omega | decide))) (z := (Lnumbers_Lcell2 vLscript vLcount vLrest4 vLnumbers_here5 x3)) rfl) (show 6 < 7 by decide) rfl) ?_
        exact f_nx ⟨_, rfl, Wk.uns []⟩
      · try simp only [decide_eq_true_eq, decide_eq_false_iff_not, Bool.and_eq_true, Bool.or_eq_true, Bool.not_eq_true', Bool.not_eq_false', Bool.and_eq_false_iff, Bool.or_eq_false_iff] at h11
        exact f_nx ⟨_, rfl, Wk.uns []⟩
      refine sx_seq (Γ1 := [pu (tL K tI) vLscript, pu tI vLcount, pu tI vLrest4, pu tB (Lnumbers_Lby_digits1 vLscript vLcount), ol tI (Lnumbers_Lnumbers_here3 vLscript vLcount vLrest4 vLnumbers_here5 x3), pu tI x3, pu tI (Lnumbers_j_Lcell1 vLscript vLcount vLrest4 vLnumbers_here5 x3)]) (s1_app (i := 4) rfl (x_mod (x_mod (x_mul (x_mod (x_mul (x_var (i := 6) rfl) x_int (by /-11-/ (try dsimp only); (try simp only [InIx, CDiv, CMul, CPow, List.length_append, List.length_cons, List.length_nil, List.length_singleton, List.length_map, List.length_reverse, List.length_take, List.length_drop]) <;> first | assumption | omega | decide)) x_int (by /-12-/ (try dsimp only); (try simp only [InIx, CDiv, CMul, CPow, List.length_append, List.length_cons, List.length_nil, List.length_singleton, List.length_map, List.length_reverse, List.length_take, List.length_drop]) <;> first | assumption | omega | decide)) x_int (by /-13-/ (try dsimp only); (try simp only [InIx, CDiv, CMul, CPow, List.length_append, List.length_cons, List.length_nil, List.length_singleton, List.length_map, List.length_reverse, List.length_take, List.length_drop]) <;> first | assumption | omega | decide)) x_int (by /-14-/ (try dsimp only); (try simp only [InIx, CDiv, CMul, CPow, List.length_append, List.length_cons, List.length_nil, List.length_singleton, List.length_map, List.length_reverse, List.length_take, List.length_drop]) <;> first | assumption | omega | decide)) x_int (by /-15-/ (try dsimp only); (try simp only [InIx, CDiv, CMul, CPow, List.length_append, List.length_cons, List.length_nil, List.length_singleton, List.length_map, List.length_reverse, List.length_take, List.length_drop]) <;> first | assumption | omega | decide)) rfl (by /-16-/ (try dsimp only); (try simp only [InIx, CDiv, CMul, CPow, List.length_append, List.length_cons, List.length_nil, List.length_singleton, List.length_map, List.length_reverse, List.length_take, List.length_drop]) <;> first | assumption | omega | decide)) ?_
      exact f_nx ⟨_, rfl, Wk.uns [6]⟩
    exact f_nx ⟨_, .inl rfl, Wk.uns [5]⟩
  exact sx_ret (x_frz (x_mov (i := 4) rfl ol_some)) ⟨_, rfl⟩

theorem ok_Lsparse (T : Tx K mg base) : FnOk P w K mg base CX0 1 T.a_Lsparse T.d_Lsparse ["_law_number", "_law_count"] (spP (A := Int × Int) (fun x => (0 ≤ x.2 ∧ x.2 ≤ 7)) (fun x => [pu tI x.1, pu tI x.2]) (fun x => pu (tT K tI) (m_Lsparse x.1 x.2))) := by
  refine fn_ok T.F_Lsparse sc_Lsparse (fun _ => rfl) fun X x hX hr hpre => ?_
  obtain ⟨vLnumber, vLcount⟩ := x
  obtain ⟨cdv, A, outer, s, H, E, rfl⟩ := hX
  replace hpre : 0 ≤ vLcount ∧ vLcount ≤ 7 := hpre
  have hz1 : sizeLine = 16777216 := rfl
  have hz2 : scanBound = 4096 := rfl
  show SX _ _ [pu tI vLnumber, pu tI vLcount, un] _
  refine SX.imp (P := RetP (fun z : (List Int) => pu (tT K tI) z) (m_Lsparse vLnumber vLcount)) ?_ fun r h => .inl h
  unfold m_Lsparse
  exact sx_ret (x_callT call_tuple_of T.n_tuple (by decide +kernel) (n_tupleL sqLs) (ea_cons (x_frz (x_valoE (x_lc rfl sc_Lsparse.nd (w_range1 T.n_range (x_var (i := 1) rfl) (by /-1-/ (try dsimp only); (try simp only [InIx, CDiv, CMul, CPow, List.length_append, List.length_cons, List.length_nil, List.length_singleton, List.length_map, List.length_reverse, List.length_take, List.length_drop]) <;> first | assumption | omega | decide) (by /-2-/ (try dsimp only); (try simp only [InIx, CDiv, CMul, CPow, List.length_append, List.length_cons, List.length_nil, List.length_singleton, List.length_map, List.length_reverse, List.length_take, List.length_drop]) <;> first | assumption | omega | decide)) (blkOk_by (own := [("_law_k", 2)]) (N := N_Lsparse) (sc := defScope s_Lsparse) (by decide +kernel)) (fun _ _ _ _ _ => (pg_name (i := 2) sc_Lsparse.nd rfl (by first | exact Or.inl rfl | exact Or.inr rfl))) (tg_name (show 2 < 3 by decide)) (fun (x1 : Int) => (decide (((vLnumber / (ix ([(1 : Int), (3 : Int), (9 : Int), (27 : Int), (81 : Int), (243 : Int), (729 : Int)] : List Int) x1)) % (3 : Int)) = (1 : Int)))) (fun (x1 : Int) => x1) (fun _ _ _ _ _ ix1 x1 hxx1 => (is_one (t_cmp (op_eqD hr.units) (nomark _) (o_eqD dI) (x_mod (x_div (x_var (i := 0) rfl) (x_ix ix_list (o_ixL sqLs (by /-3-/ have hrhxx1 := rng_at hxx1; (try dsimp only); (try simp only [InIx, CDiv, CMul, CPow, List.length_append, List.length_cons, List.length_nil, List.length_singleton, List.length_map, List.length_reverse, List.length_take, List.length_drop]) <;> first | assumption | omega | decide)) (x_frz (x_lst (n_lst (R := tI) (xs := [(1 : Int), (3 : Int), (9 : Int), (27 : Int), (81 : Int), (243 : Int), (729 : Int)]) (show 7 ≤ sizeLine by decide)) (ea_lits rfl))) (x_var (i := 2) rfl)) (by have := rng_at hxx1; exact ix3_ok ⟨this.1, by omega⟩)) x_int (by /-5-/ have hrhxx1 := rng_at hxx1; (try dsimp only); (try simp only [InIx, CDiv, CMul, CPow, List.length_append, List.length_cons, List.length_nil, List.length_singleton, List.length_map, List.length_reverse, List.length_take, List.length_drop]) <;> first | assumption | omega | decide)) x_int))) (fun _ _ _ _ _ ix1 x1 hxx1 hpx1 => (x_var (i := 2) rfl))) lc_fid rfl)) ea_nil)) ⟨_, rfl⟩

theorem ok_Lfds (T : Tx K mg base) : FnOk P w K mg base CX0 2 T.a_Lfds T.d_Lfds ["_law_numbers_here", "_law_place", "_law_count"] (spP (A := (List Int) × Int × Int) (fun x => (0 ≤ x.2.1 ∧ x.2.1 + 8 ≤ x.1.length ∧ 0 ≤ x.2.2 ∧ x.2.2 ≤ 7)) (fun x => [pu (tLs K tI) x.1, pu tI x.2.1, pu tI x.2.2]) (fun x => pu (tLs K (tP2 K (tT K tI) (tT K tI))) (m_Lfds x.1 x.2.1 x.2.2))) := by
  refine fn_ok T.F_Lfds sc_Lfds (fun _ => rfl) fun X x hX hr hpre => ?_
  obtain ⟨vLnumbers_here, vLplace, vLcount⟩ := x
  obtain ⟨cdv, A, outer, s, H, E, rfl⟩ := hX
  replace hpre : 0 ≤ vLplace ∧ vLplace + 8 ≤ vLnumbers_here.length ∧ 0 ≤ vLcount ∧ vLcount ≤ 7 := hpre
  have hz1 : sizeLine = 16777216 := rfl
  have hz2 : scanBound = 4096 := rfl
  show SX _ _ [pu (tLs K tI) vLnumbers_here, pu tI vLplace, pu tI vLcount, un, un, un] _
  refine SX.imp (P := RetP (fun z : (List ((List Int) × (List Int))) => pu (tLs K (tP2 K (tT K tI) (tT K tI))) z) (m_Lfds vLnumbers_here vLplace vLcount)) ?_ fun r h => .inl h
  unfold m_Lfds
  refine sx_seq (Γ1 := [pu (tLs K tI) vLnumbers_here, pu tI vLplace, pu tI vLcount, ol (tP2 K (tT K tI) (tT K tI)) (Lfds_Lrows1 vLnumbers_here vLplace vLcount), un, un]) (s1_setE (i := 3) sc_Lfds.nd rfl (by first | exact Or.inl rfl | exact Or.inr rfl) (x_valo (x_lst (Ss := []) (n_lst (R := (tP2 K (tT K tI) (tT K tI))) (xs := []) (show 0 ≤ sizeLine by decide)) ea_nil) (zs := (Lfds_Lrows1 vLnumbers_here vLplace vLcount)) rfl) (show 3 < 6 by decide) rfl) ?_
  refine f_for PassesOwn.never rfl (w_range1 T.n_range (x_mod (x_ix ix_list (o_ixL sqLs (by /-1-/ (try dsimp only); (try simp only [InIx, CDiv, CMul, CPow, List.length_append, List.length_cons, List.length_nil, List.length_singleton, List.length_map, List.length_reverse, List.length_take, List.length_drop]) <;> first | assumption | omega | decide)) (x_var (i := 0) rfl) (x_var (i := 1) rfl)) x_int (by /-2-/ (try dsimp only); (try simp only [InIx, CDiv, CMul, CPow, List.length_append, List.length_cons, List.length_nil, List.length_singleton, List.length_map, List.length_reverse, List.length_take, List.length_drop]) <;> first | assumption | omega | decide)) (by /-3-/ (try dsimp only); (try simp only [InIx, CDiv, CMul, CPow, List.length_append, List.length_cons, List.length_nil, List.length_singleton, List.length_map, List.length_reverse, List.length_take, List.length_drop]) <;> first | assumption | omega | decide) (by /-4-/ (try dsimp only); (try simp only [InIx, CDiv, CMul, CPow, List.length_append, List.length_cons, List.length_nil, List.length_singleton, List.length_map, List.length_reverse, List.length_take, List.length_drop]) <;> first | assumption | omega | decide)) (pg_name (i := 4) sc_Lfds.nd rfl (by first | exact Or.inl rfl | exact Or.inr rfl)) (tg_name (show 4 < 6 by decide)) (fun (s : (List ((List Int) × (List Int)))) => [pu (tLs K tI) vLnumbers_here, pu tI vLplace, pu tI vLcount, ol (tP2 K (tT K tI) (tT K tI)) s, un, un]) (Lfds_st1 vLnumbers_here vLplace vLcount) (Lfds_Lrows1 vLnumbers_here vLplace vLcount) (Lfds_loop1 vLnumbers_here vLplace vLcount) rfl (fun _ => rfl) (Wk.uns []) ?_ ?_
  · intro ix1 x1 vLrows2 hxx1 hsx1 hzx1
    have hrhxx1 := rng_at hxx1
    have hl_Lrows := foldl_len (fun s : (List ((List Int) × (List Int))) => s) 1 (Lfds_st1 vLnumbers_here vLplace vLcount) (by intro s x; (try unfold Lfds_st1); (repeat' split) <;> (try simp only [Lfds_st1, Lfds_Lnumber1, Lfds_Lrows2, List.length_append, List.length_cons, List.length_nil]) <;> (try omega)) ((rangeI 0 ((ix vLnumbers_here vLplace) % (7 : Int))).take ix1) (Lfds_Lrows1 vLnumbers_here vLplace vLcount)
    rw [hsx1] at hl_Lrows
    have hi_Lrows := (w_at hxx1).1
    simp only [Lfds_Lrows1, List.length_take, List.length_nil, rangeI_len] at hl_Lrows hi_Lrows
    refine sx_seq (Γ1 := [pu (tLs K tI) vLnumbers_here, pu tI vLplace, pu tI vLcount, ol (tP2 K (tT K tI) (tT K tI)) vLrows2, pu tI x1, pu tI (Lfds_Lnumber1 vLnumbers_here vLplace vLcount vLrows2 x1)]) (s1_setE (i := 5) sc_Lfds.nd rfl (by first | exact Or.inl rfl | exact Or.inr rfl) (x_val (x_ix ix_list (o_ixL sqLs (by /-5-/ (try dsimp only); (try simp only [InIx, CDiv, CMul, CPow, List.length_append, List.length_cons, List.length_nil, List.length_singleton, List.length_map, List.length_reverse, List.length_take, List.length_drop]) <;> first | assumption | omega | decide)) (x_var (i := 0) rfl) (x_add (x_add (x_var (i := 1) rfl) x_int) (x_var (i := 4) rfl))) (z := (Lfds_Lnumber1 vLnumbers_here vLplace vLcount vLrows2 x1)) rfl) (show 5 < 6 by decide) rfl) ?_
    refine sx_seq (Γ1 := [pu (tLs K tI) vLnumbers_here, pu tI vLplace, pu tI vLcount, ol (tP2 K (tT K tI) (tT K tI)) (Lfds_Lrows2 vLnumbers_here vLplace vLcount vLrows2 x1), pu tI x1, pu tI (Lfds_Lnumber1 vLnumbers_here vLplace vLcount vLrows2 x1)]) (s1_app (i := 3) rfl (x_tup (n_p2 (K := K) (R1 := (tT K tI)) (R2' := (tT K tI))) (ea_cons (x_callE (Ss := [pu tI (Lfds_Lnumber1 vLnumbers_here vLplace vLcount vLrows2 x1), pu tI vLcount]) (S' := pu (tT K tI) (m_Lsparse (Lfds_Lnumber1 vLnumbers_here vLplace vLcount vLrows2 x1) vLcount)) (ok_Lsparse T) (hr.mono (by decide)) T.g_Lsparse T.F_Lsparse.kp T.b_Lsparse ((Lfds_Lnumber1 vLnumbers_here vLplace vLcount vLrows2 x1), vLcount) (by /-6-/ (try dsimp only); (try simp only [InIx, CDiv, CMul, CPow, List.length_append, List.length_cons, List.length_nil, List.length_singleton, List.length_map, List.length_reverse, List.length_take, List.length_drop]) <;> first | assumption | omega | decide) (ea_cons (x_var (i := 5) rfl) (ea_cons (x_var (i := 2) rfl) ea_nil)) rfl rfl) (ea_cons (x_callE (Ss := [pu tI ((Lfds_Lnumber1 vLnumbers_here vLplace vLcount vLrows2 x1) / (729 : Int)), pu tI vLcount]) (S' := pu (tT K tI) (m_Lsparse ((Lfds_Lnumber1 vLnumbers_here vLplace vLcount vLrows2 x1) / (729 : Int)) vLcount)) (ok_Lsparse T) (hr.mono (by decide)) T.g_Lsparse T.F_Lsparse.kp T.b_Lsparse (((Lfds_Lnumber1 vLnumbers_here vLplace vLcount vLrows2 x1) / (729 : Int)), vLcount) (by /-8-/ (try dsimp only); (try simp only [InIx, CDiv, CMul, CPow, List.length_append, List.length_cons, List.length_nil, List.length_singleton, List.length_map, List.length_reverse, List.length_take, List.length_drop]) <;> first | assumption | omega | decide) (ea_cons (x_div (x_var (i := 5) rfl) x_int (by /-7-/ (try dsimp only); (try simp only [InIx, CDiv, CMul, CPow, List.length_append, List.length_cons, List.length_nil, List.length_singleton, List.length_map, List.length_reverse, List.length_take, List.length_drop]) <;> first | assumption | omega | decide)) (ea_cons (x_var (i := 2) rfl) ea_nil)) rfl rfl) ea_nil))) rfl (by /-9-/ (try dsimp only); (try simp only [InIx, CDiv, CMul, CPow, List.length_append, List.length_cons, List.length_nil, List.length_singleton, List.length_map, List.length_reverse, List.length_take, List.length_drop]) <;> first | assumption | omega | decide)) ?_
    exact f_nx ⟨_, .inl rfl, Wk.uns [4, 5]⟩
  exact sx_ret (x_frz (x_mov (i := 3) rfl ol_some)) ⟨_, rfl⟩

theorem ok_as_set (T : Tx K mg base) : FnOk P w K mg base CX0 1 T.a_as_set T.d_as_set ["columns"] (spP (A := (List Int)) (fun x => (x.length < 64)) (fun x => [pu (tQ K tI) x]) (fun x => pu (tT K tI) (m_as_set x))) := by
  refine fn_ok T.F_as_set sc_as_set (fun _ => rfl) fun X vcolumns hX hr hpre => ?_
  obtain ⟨cdv, A, outer, s, H, E, rfl⟩ := hX
  replace hpre : vcolumns.length < 64 := hpre
  have hz1 : sizeLine = 16777216 := rfl
  have hz2 : scanBound = 4096 := rfl
  show SX _ _ [pu (tQ K tI) vcolumns] _
  refine SX.imp (P := RetP (fun z : (List Int) => pu (tT K tI) z) (m_as_set vcolumns)) ?_ fun r h => .inl h
  unfold m_as_set
  exact sx_ret (x_callT call_tuple_of T.n_tuple (by decide +kernel) (n_tupleL sqLs) (ea_cons (x_frz (x_callB (cr_sortedSet rfl) T.n_sorted (by decide +kernel) (n_sortSet (by /-2-/ (try dsimp only); (try simp only [InIx, CDiv, CMul, CPow, List.length_append, List.length_cons, List.length_nil, List.length_singleton, List.length_map, List.length_reverse, List.length_take, List.length_drop]) <;> first | assumption | omega | decide)) (ea_cons (x_callT (cr_setQ rfl) T.n_set (by decide +kernel) (n_setQ saQ (by /-1-/ (try dsimp only); (try simp only [InIx, CDiv, CMul, CPow, List.length_append, List.length_cons, List.length_nil, List.length_singleton, List.length_map, List.length_reverse, List.length_take, List.length_drop]) <;> first | assumption | omega | decide)) (ea_cons (x_var (i := 0) rfl) ea_nil)) ea_nil))) ea_nil)) ⟨_, rfl⟩

theorem ok_Sides_init (T : Tx K mg base) (C : Addr) (cl : Cls K C) (na_left : NoAttr K C "left") (na_right : NoAttr K C "right") : FnOk P w K mg base CX0 2 T.a_Sides_init T.d_Sides_init ["self", "left", "right"] (spM (A := (List Int) × (List Int)) (fun x => (x.1.length < 64 ∧ x.2.length < 64)) (fun _ => oi C []) (fun x => [pu (tQ K tI) x.1, pu (tQ K tI) x.2]) (fun x => oi C [("left", fld (tT K tI) (m_as_set x.1)), ("right", fld (tT K tI) (m_as_set x.2))]) (fun _ => pu tN ())) := by
  refine fn_okM T.F_Sides_init sc_Sides_init (fun _ => rfl) (fun _ => gho_oi) (fun _ => gho_oi) fun X x a hX hr hpre => ?_
  obtain ⟨vleft, vright⟩ := x
  obtain ⟨cdv, A, outer, s, H, E, rfl⟩ := hX
  replace hpre : vleft.length < 64 ∧ vright.length < 64 := hpre
  have hz1 : sizeLine = 16777216 := rfl
  have hz2 : scanBound = 4096 := rfl
  show SX _ _ [oi C [] a, pu (tQ K tI) vleft, pu (tQ K tI) vright] _
  refine sx_seq (Γ1 := [oi C [("left", fld (tT K tI) (m_as_set vleft))] a, pu (tQ K tI) vleft, pu (tQ K tI) vright]) (s1_fld (i := 0) (fs := []) (Γ1 := [oi C [] a, pu (tQ K tI) vleft, pu (tQ K tI) vright]) (gs := []) (a := a) (R := (tT K tI)) (y := (m_as_set vleft)) (x_callE (Ss := [pu (tQ K tI) vleft]) (S' := pu (tT K tI) (m_as_set vleft)) (ok_as_set T) (hr.mono (by decide)) T.g_as_set T.F_as_set.kp T.b_as_set vleft (by exact hpre.1) (ea_cons (x_var (i := 1) rfl) ea_nil) rfl rfl) rfl cl na_left (show 0 < 1000 by decide)) ?_
  refine sx_seq (Γ1 := [oi C [("left", fld (tT K tI) (m_as_set vleft)), ("right", fld (tT K tI) (m_as_set vright))] a, pu (tQ K tI) vleft, pu (tQ K tI) vright]) (s1_fld (i := 0) (fs := []) (Γ1 := [oi C [("left", fld (tT K tI) (m_as_set vleft))] a, pu (tQ K tI) vleft, pu (tQ K tI) vright]) (gs := [("left", fld (tT K tI) (m_as_set vleft))]) (a := a) (R := (tT K tI)) (y := (m_as_set vright)) (x_callE (Ss := [pu (tQ K tI) vright]) (S' := pu (tT K tI) (m_as_set vright)) (ok_as_set T) (hr.mono (by decide)) T.g_as_set T.F_as_set.kp T.b_as_set vright (by exact hpre.2) (ea_cons (x_var (i := 2) rfl) ea_nil) rfl rfl) rfl cl na_right (show 1 < 1000 by decide)) ?_
  exact f_nx (.inr ⟨_, rfl, fun _ => ⟨rfl, _, rfl, rfl⟩⟩)

theorem ok_Lset (T : Tx K mg base) : FnOk P w K mg base CX0 1 T.a_Lset T.d_Lset ["_law_number", "_law_count"] (spP (A := Int × Int) (fun x => (0 ≤ x.2 ∧ x.2 ≤ 10)) (fun x => [pu tI x.1, pu tI x.2]) (fun x => pu (tT K tI) (m_Lset x.1 x.2))) := by
  refine fn_ok T.F_Lset sc_Lset (fun _ => rfl) fun X x hX hr hpre => ?_
  obtain ⟨vLnumber, vLcount⟩ := x
  obtain ⟨cdv, A, outer, s, H, E, rfl⟩ := hX
  replace hpre : 0 ≤ vLcount ∧ vLcount ≤ 10 := hpre
  have hz1 : sizeLine = 16777216 := rfl
  have hz2 : scanBound = 4096 := rfl
  show SX _ _ [pu tI vLnumber, pu tI vLcount, un] _
  refine SX.imp (P := RetP (fun z : (List Int) => pu (tT K tI) z) (m_Lset vLnumber vLcount)) ?_ fun r h => .inl h
  unfold m_Lset
  exact sx_ret (x_callT call_tuple_of T.n_tuple (by decide +kernel) (n_tupleL sqLs) (ea_cons (x_frz (x_valoE (x_lc rfl sc_Lset.nd (w_range1 T.n_range (x_var (i := 1) rfl) (by /-1-/ (try dsimp only); (try simp only [InIx, CDiv, CMul, CPow, List.length_append, List.length_cons, List.length_nil, List.length_singleton, List.length_map, List.length_reverse, List.length_take, List.length_drop]) <;> first | assumption | omega | decide) (by /-2-/ (try dsimp only); (try simp only [InIx, CDiv, CMul, CPow, List.length_append, List.length_cons, List.length_nil, List.length_singleton, List.length_map, List.length_reverse, List.length_take, List.length_drop]) <;> first | assumption | omega | decide)) (blkOk_by (own := [("_law_k", 2)]) (N := N_Lset) (sc := defScope s_Lset) (by decide +kernel)) (fun _ _ _ _ _ => (pg_name (i := 2) sc_Lset.nd rfl (by first | exact Or.inl rfl | exact Or.inr rfl))) (tg_name (show 2 < 3 by decide)) (fun (x1 : Int) => (decide (((vLnumber / (ix ([(1 : Int), (2 : Int), (4 : Int), (8 : Int), (16 : Int), (32 : Int), (64 : Int), (128 : Int), (256 : Int), (512 : Int)] : List Int) x1)) % (2 : Int)) = (1 : Int)))) (fun (x1 : Int) => x1) (fun _ _ _ _ _ ix1 x1 hxx1 => (is_one (t_cmp (op_eqD hr.units) (nomark _) (o_eqD dI) (x_mod (x_div (x_var (i := 0) rfl) (x_ix ix_list (o_ixL sqLs (by /-3-/ have hrhxx1 := rng_at hxx1; (try dsimp only); (try simp only [InIx, CDiv, CMul, CPow, List.length_append, List.length_cons, List.length_nil, List.length_singleton, List.length_map, List.length_reverse, List.length_take, List.length_drop]) <;> first | assumption | omega | decide)) (x_frz (x_lst (n_lst (R := tI) (xs := [(1 : Int), (2 : Int), (4 : Int), (8 : Int), (16 : Int), (32 : Int), (64 : Int), (128 : Int), (256 : Int), (512 : Int)]) (show 10 ≤ sizeLine by decide)) (ea_lits rfl))) (x_var (i := 2) rfl)) (by have := rng_at hxx1; exact ix2_ok ⟨this.1, by omega⟩)) x_int (by /-5-/ have hrhxx1 := rng_at hxx1; (try dsimp only); (try simp only [InIx, CDiv, CMul, CPow, List.length_append, List.length_cons, List.length_nil, List.length_singleton, List.length_map, List.length_reverse, List.length_take, List.length_drop]) <;> first | assumption | omega | decide)) x_int))) (fun _ _ _ _ _ ix1 x1 hxx1 hpx1 => (x_var (i := 2) rfl))) lc_fid rfl)) ea_nil)) ⟨_, rfl⟩

theorem ok_all_sets (T : Tx K mg base) : FnOk P w K mg base CX0 4 T.a_all_sets T.d_all_sets ["columns"] (spP (A := (List Int)) (fun x => (x.length ≤ 16)) (fun x => [pu (tT K tI) x]) (fun x => ol (tT K tI) (m_all_sets x))) := by
  refine fn_okC T.FC_all_sets sc_all_sets (fun _ => rfl) fun X vcolumns hX hr hpre => ?_
  obtain ⟨A, outer, s, H, E, rfl⟩ := hX
  replace hpre : vcolumns.length ≤ 16 := hpre
  have hz1 : sizeLine = 16777216 := rfl
  have hz2 : scanBound = 4096 := rfl
  show SX _ _ [pu (tT K tI) vcolumns, un, un, un] _
  refine SX.imp (P := RetP (fun z : (List (List Int)) => ol (tT K tI) z) (m_all_sets vcolumns)) ?_ fun r h => .inl h
  unfold m_all_sets
  refine sx_seq (Γ1 := [pu (tT K tI) vcolumns, pu (tLs K (tT K tI)) (all_sets_found1 vcolumns), un, un]) (s1_setE (i := 1) sc_all_sets.nd rfl (by first | exact Or.inl rfl | exact Or.inr rfl) (x_val (x_frz (x_lst (Ss := [pu (tT K tI) ([] : List Int)]) (n_lst (R := (tT K tI)) (xs := [([] : List Int)]) (show 1 ≤ sizeLine by decide)) (ea_cons (x_tup (Ss := []) (n_tup (R := tI) (xs := []) (show 0 ≤ sizeLine by decide)) ea_nil) ea_nil))) (z := (all_sets_found1 vcolumns)) rfl) (show 1 < 4 by decide) rfl) ?_
  refine f_for PassesOwn.never rfl (w_tup sqT (x_var (i := 0) rfl)) (pg_name (i := 2) sc_all_sets.nd rfl (by first | exact Or.inl rfl | exact Or.inr rfl)) (tg_name (show 2 < 4 by decide)) (fun (s : (List (List Int))) => [pu (tT K tI) vcolumns, pu (tLs K (tT K tI)) s, un, un]) (all_sets_st1 vcolumns) (all_sets_found1 vcolumns) (all_sets_loop1 vcolumns) rfl (fun _ => rfl) (Wk.uns []) ?_ ?_
  · intro ix1 x1 vfound2 hxx1 hsx1 hzx1
    have hat := sets_at vcolumns hpre hsx1
    have hat1 := hat.1
    refine sx_seq (Γ1 := [pu (tT K tI) vcolumns, pu (tLs K (tT K tI)) (all_sets_found2 vcolumns vfound2 x1), pu tI x1, un]) (s1_setE (i := 1) sc_all_sets.nd rfl (by first | exact Or.inl rfl | exact Or.inr rfl) (x_val (x_frz (x_catLO (x_var (i := 1) rfl) (x_frz (x_valoE (x_lc rfl sc_all_sets.nd (w_list sqLs (x_var (i := 1) rfl)) (blkOk_by (own := [("part", 3)]) (N := N_all_sets) (sc := defScope s_all_sets) (by decide +kernel)) (fun _ _ _ _ _ => (pg_name (i := 3) sc_all_sets.nd rfl (by first | exact Or.inl rfl | exact Or.inr rfl))) (tg_name (show 3 < 4 by decide)) (fun (x3 : (List Int)) => true) (fun (x3 : (List Int)) => (x3 ++ ([x1] : List Int))) (fun _ _ _ _ _ ix3 x3 hxx3 => is_nil) (fun _ _ _ _ _ ix3 x3 hxx3 hpx3 => (x_catT (x_var (i := 3) rfl) (x_tup (Ss := [pu tI x1]) (n_tup (R := tI) (xs := [x1]) (show 1 ≤ sizeLine by decide)) (ea_cons (x_var (i := 2) rfl) ea_nil)) (by have hp1 := hat.2 x3 (w_at hxx3).2; simp only [List.length_cons, List.length_nil]; omega)))) lc_all rfl)) (by have hp1 := hat.1; simp only [List.length_map]; omega))) (z := (all_sets_found2 vcolumns vfound2 x1)) rfl) (show 1 < 4 by decide) rfl) ?_
    exact f_nx ⟨_, .inl rfl, Wk.uns [2]⟩
  exact sx_ret (x_sortLam (k := 0) sqLs (x_var (i := 1) rfl) T.n_sorted T.n_len (hr.mono (by decide)) T.TB_all_sets rfl T.tm_all_sets T.tu_all_sets (by exact ⟨rfl, by decide +kernel, rfl, rfl, rfl, rfl, by decide⟩) (fun _ _ _ _ _ => rfl)) ⟨_, rfl⟩

theorem ok_is_within (T : Tx K mg base) : FnOk P w K mg base CX0 1 T.a_is_within T.d_is_within ["a", "b"] (spP (A := (List Int) × (List Int)) (fun x => True) (fun x => [pu (tQ K tI) x.1, pu (tQ K tI) x.2]) (fun x => pu tB (m_is_within x.1 x.2))) := by
  refine fn_ok T.F_is_within sc_is_within (fun _ => rfl) fun X x hX hr hpre => ?_
  obtain ⟨va, vb⟩ := x
  obtain ⟨cdv, A, outer, s, H, E, rfl⟩ := hX
  have hz1 : sizeLine = 16777216 := rfl
  have hz2 : scanBound = 4096 := rfl
  show SX _ _ [pu (tQ K tI) va, pu (tQ K tI) vb, un] _
  refine SX.imp (P := RetP (fun z : Bool => pu tB z) (m_is_within va vb)) ?_ fun r h => .inl h
  unfold m_is_within
  exact sx_ret (x_val (x_callB (cr_all rfl) T.n_all (by decide +kernel) (n_all sqLs) (ea_cons (x_frz (x_valoE (x_lc rfl sc_is_within.nd (w_seq saQ (x_var (i := 0) rfl)) (blkOk_by (own := [("column", 2)]) (N := N_is_within) (sc := defScope s_is_within) (by decide +kernel)) (fun _ _ _ _ _ => (pg_name (i := 2) sc_is_within.nd rfl (by first | exact Or.inl rfl | exact Or.inr rfl))) (tg_name (show 2 < 3 by decide)) (fun (x1 : Int) => true) (fun (x1 : Int) => (decide (x1 ∈ vb))) (fun _ _ _ _ _ ix1 x1 hxx1 => is_nil) (fun _ _ _ _ _ ix1 x1 hxx1 hpx1 => (x_cmp op_in_seq (by rfl) (o_in saQ) (x_var (i := 2) rfl) (x_var (i := 1) rfl)))) lc_all rfl)) ea_nil)) all_id) ⟨_, rfl⟩

theorem ok_united (T : Tx K mg base) : FnOk P w K mg base CX0 2 T.a_united T.d_united ["a", "b"] (spP (A := (List Int) × (List Int)) (fun x => (x.1.length + x.2.length < 64)) (fun x => [pu (tQ K tI) x.1, pu (tQ K tI) x.2]) (fun x => pu (tT K tI) (m_united x.1 x.2))) := by
  refine fn_ok T.F_united sc_united (fun _ => rfl) fun X x hX hr hpre => ?_
  obtain ⟨va, vb⟩ := x
  obtain ⟨cdv, A, outer, s, H, E, rfl⟩ := hX
  replace hpre : va.length + vb.length < 64 := hpre
  have hz1 : sizeLine = 16777216 := rfl
  have hz2 : scanBound = 4096 := rfl
  show SX _ _ [pu (tQ K tI) va, pu (tQ K tI) vb] _
  refine SX.imp (P := RetP (fun z : (List Int) => pu (tT K tI) z) (m_united va vb)) ?_ fun r h => .inl h
  unfold m_united
  exact sx_ret (x_callE (Ss := [pu (tQ K tI) (va ++ vb)]) (S' := pu (tT K tI) (m_as_set (va ++ vb))) (ok_as_set T) (hr.mono (by decide)) T.g_as_set T.F_as_set.kp T.b_as_set (va ++ vb) (by /-2-/ (try dsimp only); (try simp only [InIx, CDiv, CMul, CPow, List.length_append, List.length_cons, List.length_nil, List.length_singleton, List.length_map, List.length_reverse, List.length_take, List.length_drop]) <;> first | assumption | omega | decide) (ea_cons (x_q saLs (x_frz (x_catLO (x_frz (x_callT call_list_of T.n_list (by decide +kernel) (n_listOf saQ) (ea_cons (x_var (i := 0) rfl) ea_nil))) (x_frz (x_callT call_list_of T.n_list (by decide +kernel) (n_listOf saQ) (ea_cons (x_var (i := 1) rfl) ea_nil))) (by /-1-/ (try dsimp only); (try simp only [InIx, CDiv, CMul, CPow, List.length_append, List.length_cons, List.length_nil, List.length_singleton, List.length_map, List.length_reverse, List.length_take, List.length_drop]) <;> first | assumption | omega | decide)))) ea_nil) rfl rfl) ⟨_, rfl⟩

theorem ok_closed (T : Tx K mg base) : FnOk P w K mg base CX0 3 T.a_closed T.d_closed ["dependencies", "columns"] (spP (A := (List Sd) × (List Int)) (fun x => (Cols 16 x.2 ∧ ∀ d ∈ x.1, Cols 16 d.l ∧ Cols 16 d.r)) (fun x => [pu (tQ K (tObj T.c_Fd (flSd K))) x.1, pu (tT K tI) x.2]) (fun x => pu (tT K tI) (m_closed x.1 x.2))) := by
  refine fn_ok T.F_closed sc_closed (fun _ => rfl) fun X x hX hr hpre => ?_
  obtain ⟨vdependencies, vcolumns⟩ := x
  obtain ⟨cdv, A, outer, s, H, E, rfl⟩ := hX
  replace hpre : Cols 16 vcolumns ∧ ∀ d ∈ vdependencies, Cols 16 d.l ∧ Cols 16 d.r := hpre
  have hz1 : sizeLine = 16777216 := rfl
  have hz2 : scanBound = 4096 := rfl
  show SX _ _ [pu (tQ K (tObj T.c_Fd (flSd K))) vdependencies, pu (tT K tI) vcolumns, un, un, un] _
  refine SX.imp (P := RetP (fun z : (List Int) => pu (tT K tI) z) (m_closed vdependencies vcolumns)) ?_ fun r h => .inl h
  unfold m_closed
  refine sx_seq (Γ1 := [pu (tQ K (tObj T.c_Fd (flSd K))) vdependencies, pu (tT K tI) vcolumns, pu (tT K tI) (closed_found1 vdependencies vcolumns), un, un]) (s1_setE (i := 2) sc_closed.nd rfl (by first | exact Or.inl rfl | exact Or.inr rfl) (x_val (x_var (i := 1) rfl) (z := (closed_found1 vdependencies vcolumns)) rfl) (show 2 < 5 by decide) rfl) ?_
  refine sx_seq (Γ1 := [pu (tQ K (tObj T.c_Fd (flSd K))) vdependencies, pu (tT K tI) vcolumns, pu (tT K tI) (closed_found1 vdependencies vcolumns), pu tB (closed_changed1 vdependencies vcolumns), un]) (s1_setE (i := 3) sc_closed.nd rfl (by first | exact Or.inl rfl | exact Or.inr rfl) (x_val x_bl (z := (closed_changed1 vdependencies vcolumns)) rfl) (show 3 < 5 by decide) rfl) ?_
  refine f_while PassesOwn.never (fun (s : (List Int) × Bool) => [pu (tQ K (tObj T.c_Fd (flSd K))) vdependencies, pu (tT K tI) vcolumns, pu (tT K tI) s.1, pu tB s.2, un]) (closed_ts1 vdependencies vcolumns) (closed_st1 vdependencies vcolumns) (fun s => Cols 16 s.1) (closedMu vdependencies) (vdependencies.length + 2) ((closed_found1 vdependencies vcolumns), (closed_changed1 vdependencies vcolumns)) (closed_loop2 vdependencies vcolumns) rfl (fun _ => rfl) (Wk.uns []) (by exact hpre.1) (by exact closed_enough _ _) ?_ (by exact closed_dec _ _ hpre.2) ?_ ?_
  · rintro ⟨vfound1, vchanged2⟩ hw1
    exact (t_val (x_var (i := 3) rfl))
  · rintro ⟨vfound1, vchanged2⟩ hw1 ht1
    refine sx_seq (Γ1 := [pu (tQ K (tObj T.c_Fd (flSd K))) vdependencies, pu (tT K tI) vcolumns, pu (tT K tI) vfound1, pu tB (closed_changed2 vdependencies vcolumns vfound1 vchanged2), un]) (s1_setE (i := 3) sc_closed.nd rfl (by first | exact Or.inl rfl | exact Or.inr rfl) (x_val x_bl (z := (closed_changed2 vdependencies vcolumns vfound1 vchanged2)) rfl) (show 3 < 5 by decide) rfl) ?_
    refine f_for PassesOwn.never rfl (w_seq saQ (x_var (i := 0) rfl)) (pg_name (i := 4) sc_closed.nd rfl (by first | exact Or.inl rfl | exact Or.inr rfl)) (tg_name (show 4 < 5 by decide)) (fun (s : (List Int) × Bool) => [pu (tQ K (tObj T.c_Fd (flSd K))) vdependencies, pu (tT K tI) vcolumns, pu (tT K tI) s.1, pu tB s.2, un]) (closed_st2 vdependencies vcolumns vfound1 vchanged2) (vfound1, (closed_changed2 vdependencies vcolumns vfound1 vchanged2)) (closed_loop1 vdependencies vcolumns vfound1 vchanged2) rfl (fun _ => rfl) (Wk.uns []) ?_ ?_
    · rintro ix3 x3 ⟨vfound4, vchanged5⟩ hxx3 hsx3 hzx3
      have hc := closed_st2_inv vdependencies vcolumns _ _ hpre.2 hw1 hsx3
      have hd := hpre.2 x3 (w_at hxx3).2
      have hl1 : vfound4.length ≤ 16 := hc.len
      have hl2 := hd.2.len
      refine f_ifJ (fun (s : (List Int) × Bool) => [pu (tQ K (tObj T.c_Fd (flSd K))) vdependencies, pu (tT K tI) vcolumns, pu (tT K tI) s.1, pu tB s.2, pu (tObj T.c_Fd (flSd K)) x3]) (closed_j_found_changed1 vdependencies vcolumns vfound1 vchanged2 vfound4 vchanged5 x3) (A := ((closed_found2 vdependencies vcolumns vfound1 vchanged2 vfound4 vchanged5 x3), (closed_changed3 vdependencies vcolumns vfound1 vchanged2 vfound4 vchanged5 x3))) (B := (vfound4, vchanged5)) (t_w (w_and (t_val (x_callE (Ss := [pu (tQ K tI) x3.l, pu (tQ K tI) vfound4]) (S' := pu tB (m_is_within x3.l vfound4)) (ok_is_within T) (hr.mono (by decide)) T.g_is_within T.F_is_within.kp T.b_is_within (x3.l, vfound4) trivial (ea_cons (x_q saT (x_fld (x_var (i := 4) rfl) rfl T.cl_Fd T.na_Fd_left)) (ea_cons (x_q saT (x_var (i := 2) rfl)) ea_nil)) rfl rfl)) (fun h6 => (w_one (t_not (t_val (x_callE (Ss := [pu (tQ K tI) x3.r, pu (tQ K tI) vfound4]) (S' := pu tB (m_is_within x3.r vfound4)) (ok_is_within T) (hr.mono (by decide)) T.g_is_within T.F_is_within.kp T.b_is_within (x3.r, vfound4) trivial (ea_cons (x_q saT (x_fld (x_var (i := 4) rfl) rfl T.cl_Fd T.na_Fd_right)) (ea_cons (x_q saT (x_var (i := 2) rfl)) ea_nil)) rfl rfl))) (.inl rfl))))) rfl (fun h8 => ?_) (fun h9 => ?_) ?_
      · try simp only [decide_eq_true_eq, decide_eq_false_iff_not, Bool.and_eq_true, Bool.or_eq_true, Bool.not_eq_true', Bool.not_eq_false', Bool.and_eq_false_iff, Bool.or_eq_false_iff] at h8
        refine sx_seq (Γ1 := [pu (tQ K (tObj T.c_Fd (flSd K))) vdependencies, pu (tT K tI) vcolumns, pu (tT K tI) (closed_found2 vdependencies vcolumns vfound1 vchanged2 vfound4 vchanged5 x3), pu tB vchanged5, pu (tObj T.c_Fd (flSd K)) x3]) (s1_setE (i := 2) sc_closed.nd rfl (by first | exact Or.inl rfl | exact Or.inr rfl) (x_val (x_callE (Ss := [pu (tQ K tI) vfound4, pu (tQ K tI) x3.r]) (S' := pu (tT K tI) (m_united vfound4 x3.r)) (ok_united T) (hr.mono (by decide)) T.g_united T.F_united.kp T.b_united (vfound4, x3.r) (by /-1-/ (try dsimp only); (try simp only [InIx, CDiv, CMul, CPow, List.length_append, List.length_cons, List.length_nil, List.length_singleton, List.length_map, List.length_reverse, List.length_take, List.length_drop]) <;> first | assumption | omega | decide) (ea_cons (x_q saT (x_var (i := 2) rfl)) (ea_cons (x_q saT (x_fld (x_var (i := 4) rfl) rfl T.cl_Fd T.na_Fd_right)) ea_nil)) rfl rfl) (z := (closed_found2 vdependencies vcolumns vfound1 vchanged2 vfound4 vchanged5 x3)) rfl) (show 2 < 5 by decide) rfl) ?_
        refine sx_seq (Γ1 := [pu (tQ K (tObj T.c_Fd (flSd K))) vdependencies, pu (tT K tI) vcolumns, pu (tT K tI) (closed_found2 vdependencies vcolumns vfound1 vchanged2 vfound4 vchanged5 x3), pu tB (closed_changed3 vdependencies vcolumns vfound1 vchanged2 vfound4 vchanged5 x3), pu (tObj T.c_Fd (flSd K)) x3]) (s1_setE (i := 3) sc_closed.nd rfl (by first | exact Or.inl rfl | exact Or.inr rfl) (x_val x_bl (z := (closed_changed3 vdependencies vcolumns vfound1 vchanged2 vfound4 vchanged5 x3)) rfl) (show 3 < 5 by decide) rfl) ?_
        exact f_nx ⟨_, rfl, Wk.uns []⟩
      · try simp only [decide_eq_true_eq, decide_eq_false_iff_not, Bool.and_eq_true, Bool.or_eq_true, Bool.not_eq_true', Bool.not_eq_false', Bool.and_eq_false_iff, Bool.or_eq_false_iff] at h9
        exact f_nx ⟨_, rfl, Wk.uns []⟩
      exact f_nx ⟨_, .inl rfl, Wk.uns [4]⟩
    exact f_nx ⟨_, .inl rfl, Wk.uns []⟩
  exact sx_ret (x_var (i := 2) rfl) ⟨_, rfl⟩

theorem ok_less (T : Tx K mg base) : FnOk P w K mg base CX0 1 T.a_less T.d_less ["a", "b"] (spP (A := (List Int) × (List Int)) (fun x => True) (fun x => [pu (tT K tI) x.1, pu (tT K tI) x.2]) (fun x => pu (tT K tI) (m_less x.1 x.2))) := by
  refine fn_ok T.F_less sc_less (fun _ => rfl) fun X x hX hr hpre => ?_
  obtain ⟨va, vb⟩ := x
  obtain ⟨cdv, A, outer, s, H, E, rfl⟩ := hX
  have hz1 : sizeLine = 16777216 := rfl
  have hz2 : scanBound = 4096 := rfl
  show SX _ _ [pu (tT K tI) va, pu (tT K tI) vb, un] _
  refine SX.imp (P := RetP (fun z : (List Int) => pu (tT K tI) z) (m_less va vb)) ?_ fun r h => .inl h
  unfold m_less
  exact sx_ret (x_callT call_tuple_of T.n_tuple (by decide +kernel) (n_tupleL sqLs) (ea_cons (x_frz (x_valoE (x_lc rfl sc_less.nd (w_tup sqT (x_var (i := 0) rfl)) (blkOk_by (own := [("column", 2)]) (N := N_less) (sc := defScope s_less) (by decide +kernel)) (fun _ _ _ _ _ => (pg_name (i := 2) sc_less.nd rfl (by first | exact Or.inl rfl | exact Or.inr rfl))) (tg_name (show 2 < 3 by decide)) (fun (x1 : Int) => (!(decide (x1 ∈ vb)))) (fun (x1 : Int) => x1) (fun _ _ _ _ _ ix1 x1 hxx1 => (is_one (t_cmp op_notIn_seq (by rfl) (o_notin saT) (x_var (i := 2) rfl) (x_var (i := 1) rfl)))) (fun _ _ _ _ _ ix1 x1 hxx1 hpx1 => (x_var (i := 2) rfl))) lc_fid rfl)) ea_nil)) ⟨_, rfl⟩

theorem ok_met (T : Tx K mg base) : FnOk P w K mg base CX0 1 T.a_met T.d_met ["a", "b"] (spP (A := (List Int) × (List Int)) (fun x => True) (fun x => [pu (tT K tI) x.1, pu (tT K tI) x.2]) (fun x => pu (tT K tI) (m_met x.1 x.2))) := by
  refine fn_ok T.F_met sc_met (fun _ => rfl) fun X x hX hr hpre => ?_
  obtain ⟨va, vb⟩ := x
  obtain ⟨cdv, A, outer, s, H, E, rfl⟩ := hX
  have hz1 : sizeLine = 16777216 := rfl
  have hz2 : scanBound = 4096 := rfl
  show SX _ _ [pu (tT K tI) va, pu (tT K tI) vb, un] _
  refine SX.imp (P := RetP (fun z : (List Int) => pu (tT K tI) z) (m_met va vb)) ?_ fun r h => .inl h
  unfold m_met
  exact sx_ret (x_callT call_tuple_of T.n_tuple (by decide +kernel) (n_tupleL sqLs) (ea_cons (x_frz (x_valoE (x_lc rfl sc_met.nd (w_tup sqT (x_var (i := 0) rfl)) (blkOk_by (own := [("column", 2)]) (N := N_met) (sc := defScope s_met) (by decide +kernel)) (fun _ _ _ _ _ => (pg_name (i := 2) sc_met.nd rfl (by first | exact Or.inl rfl | exact Or.inr rfl))) (tg_name (show 2 < 3 by decide)) (fun (x1 : Int) => (decide (x1 ∈ vb))) (fun (x1 : Int) => x1) (fun _ _ _ _ _ ix1 x1 hxx1 => (is_one (t_cmp op_in_seq (by rfl) (o_in saT) (x_var (i := 2) rfl) (x_var (i := 1) rfl)))) (fun _ _ _ _ _ ix1 x1 hxx1 hpx1 => (x_var (i := 2) rfl))) lc_fid rfl)) ea_nil)) ⟨_, rfl⟩

theorem ok_broken (T : Tx K mg base) : FnOk P w K mg base CX0 5 T.a_broken T.d_broken ["count", "dependencies", "columns"] (spP (A := Int × (List Sd) × (List Int)) (fun x => (Cols 7 x.2.2 ∧ DOk 16 x.2.1)) (fun x => [pu tI x.1, pu (tQ K (tObj T.c_Fd (flSd K))) x.2.1, pu (tT K tI) x.2.2]) (fun x => pu (tO (tObj T.c_Fd (flSd K))) (m_broken x.1 x.2.1 x.2.2))) := by
  refine fn_ok T.F_broken sc_broken (fun _ => rfl) fun X x hX hr hpre => ?_
  obtain ⟨vcount, vdependencies, vcolumns⟩ := x
  obtain ⟨cdv, A, outer, s, H, E, rfl⟩ := hX
  replace hpre : Cols 7 vcolumns ∧ DOk 16 vdependencies := hpre
  have hz1 : sizeLine = 16777216 := rfl
  have hz2 : scanBound = 4096 := rfl
  have hcl := hpre.1.len
  show SX _ _ [pu tI vcount, pu (tQ K (tObj T.c_Fd (flSd K))) vdependencies, pu (tT K tI) vcolumns, un, un, un] _
  refine SX.imp (P := RetP (fun z : (Option Sd) => pu (tO (tObj T.c_Fd (flSd K))) z) (m_broken vcount vdependencies vcolumns)) ?_ fun r h => .inl h
  unfold m_broken
  refine f_forE (P := (RetP (fun z : (Option Sd) => pu (tO (tObj T.c_Fd (flSd K))) z))) (Pq := (RetP (fun z : (Option Sd) => pu (tO (tObj T.c_Fd (flSd K))) z))) (fun (s6 : Unit) => none) (fun q => q) PassesOwn.never rfl (w_list sqLs (x_frz (x_callE (Ss := [pu (tT K tI) vcolumns]) (S' := ol (tT K tI) (m_all_sets vcolumns)) (ok_all_sets T) (hr.mono (by decide)) T.g_all_sets T.F_all_sets.kp T.b_all_sets vcolumns (by /-1-/ (try dsimp only); (try simp only [InIx, CDiv, CMul, CPow, List.length_append, List.length_cons, List.length_nil, List.length_singleton, List.length_map, List.length_reverse, List.length_take, List.length_drop]) <;> first | assumption | omega | decide) (ea_cons (x_var (i := 2) rfl) ea_nil) rfl rfl))) (pg_name (i := 3) sc_broken.nd rfl (by first | exact Or.inl rfl | exact Or.inr rfl)) (tg_name (show 3 < 6 by decide)) (fun (s : Unit) => [pu tI vcount, pu (tQ K (tObj T.c_Fd (flSd K))) vdependencies, pu (tT K tI) vcolumns, un, un, un]) (broken_st1 vcount vdependencies vcolumns) () (fun _ => rfl) (Wk.uns []) ?_ (fun s6 hrs6 => ?_) (fun _ _ h => h) rfl
  · rintro ix1 x1 ⟨⟩ hxx1 hsx1 hzx1
    have ha := all_in hpre.1 (w_at hxx1).2
    have h16 := ha.1.mono (m := 16) (by decide)
    have hl1 := h16.len
    have hbr := br_right (c := vcount) (cols := vcolumns) hpre.2 h16
    have p1 : Cols 16 x1 ∧ DOk 16 vdependencies := ⟨h16, hpre.2⟩
    refine sx_seq (Γ1 := [pu tI vcount, pu (tQ K (tObj T.c_Fd (flSd K))) vdependencies, pu (tT K tI) vcolumns, pu (tT K tI) x1, pu (tT K tI) (broken_closure1 vcount vdependencies vcolumns x1), un]) (s1_setE (i := 4) sc_broken.nd rfl (by first | exact Or.inl rfl | exact Or.inr rfl) (x_val (x_callE (Ss := [pu (tQ K (tObj T.c_Fd (flSd K))) vdependencies, pu (tT K tI) x1]) (S' := pu (tT K tI) (m_closed vdependencies x1)) (ok_closed T) (hr.mono (by decide)) T.g_closed T.F_closed.kp T.b_closed (vdependencies, x1) (by /-2-/ (try dsimp only); (try simp only [InIx, CDiv, CMul, CPow, List.length_append, List.length_cons, List.length_nil, List.length_singleton, List.length_map, List.length_reverse, List.length_take, List.length_drop]) <;> first | assumption | omega | decide) (ea_cons (x_var (i := 1) rfl) (ea_cons (x_var (i := 3) rfl) ea_nil)) rfl rfl) (z := (broken_closure1 vcount vdependencies vcolumns x1)) rfl) (show 4 < 6 by decide) rfl) ?_
    refine sx_seq (Γ1 := [pu tI vcount, pu (tQ K (tObj T.c_Fd (flSd K))) vdependencies, pu (tT K tI) vcolumns, pu (tT K tI) x1, pu (tT K tI) (broken_closure1 vcount vdependencies vcolumns x1), pu (tT K tI) (broken_right1 vcount vdependencies vcolumns x1)]) (s1_setE (i := 5) sc_broken.nd rfl (by first | exact Or.inl rfl | exact Or.inr rfl) (x_val (x_callE (Ss := [pu (tT K tI) (m_met (broken_closure1 vcount vdependencies vcolumns x1) vcolumns), pu (tT K tI) x1]) (S' := pu (tT K tI) (m_less (m_met (broken_closure1 vcount vdependencies vcolumns x1) vcolumns) x1)) (ok_less T) (hr.mono (by decide)) T.g_less T.F_less.kp T.b_less ((m_met (broken_closure1 vcount vdependencies vcolumns x1) vcolumns), x1) trivial (ea_cons (x_callE (Ss := [pu (tT K tI) (broken_closure1 vcount vdependencies vcolumns x1), pu (tT K tI) vcolumns]) (S' := pu (tT K tI) (m_met (broken_closure1 vcount vdependencies vcolumns x1) vcolumns)) (ok_met T) (hr.mono (by decide)) T.g_met T.F_met.kp T.b_met ((broken_closure1 vcount vdependencies vcolumns x1), vcolumns) trivial (ea_cons (x_var (i := 4) rfl) (ea_cons (x_var (i := 2) rfl) ea_nil)) rfl rfl) (ea_cons (x_var (i := 3) rfl) ea_nil)) rfl rfl) (z := (broken_right1 vcount vdependencies vcolumns x1)) rfl) (show 5 < 6 by decide) rfl) ?_
    refine f_ifr (P := (Turn1 (fun (s : Unit) => [pu tI vcount, pu (tQ K (tObj T.c_Fd (flSd K))) vdependencies, pu (tT K tI) vcolumns, un, un, un]) (RetP (fun z : (Option Sd) => pu (tO (tObj T.c_Fd (flSd K))) z)))) (t_w (w_and (t_cmp op_gt (nomark _) (o_IB (g := fun i j => decide (j < i))) (x_callB call_len T.n_len (by decide +kernel) (n_lenA saT) (ea_cons (x_var (i := 5) rfl) ea_nil)) x_int) (fun h2 => (w_one (t_not (t_val (x_callE (Ss := [pu (tQ K tI) vcolumns, pu (tQ K tI) (broken_closure1 vcount vdependencies vcolumns x1)]) (S' := pu tB (m_is_within vcolumns (broken_closure1 vcount vdependencies vcolumns x1))) (ok_is_within T) (hr.mono (by decide)) T.g_is_within T.F_is_within.kp T.b_is_within (vcolumns, (broken_closure1 vcount vdependencies vcolumns x1)) trivial (ea_cons (x_q saT (x_var (i := 2) rfl)) (ea_cons (x_q saT (x_var (i := 4) rfl)) ea_nil)) rfl rfl))) (.inl rfl))))) (fun h4 => ?_) (fun h5 => ?_)
    · try simp only [decide_eq_true_eq, decide_eq_false_iff_not, Bool.and_eq_true, Bool.or_eq_true, Bool.not_eq_true', Bool.not_eq_false', Bool.and_eq_false_iff, Bool.or_eq_false_iff] at h4
      exact sx_ret (x_some nn_Ob (x_makeI (fl := flSd K) (a := (mkSd x1 (broken_right1 vcount vdependencies vcolumns x1))) (Ss := [pu (tQ K tI) x1, pu (tQ K tI) (broken_right1 vcount vdependencies vcolumns x1)]) T.M_Fd (ok_Sides_init T T.c_Fd T.cl_Fd T.na_Fd_left T.na_Fd_right) (hr.mono (by decide)) T.gc_Fd T.b_Sides_init (x1, (broken_right1 vcount vdependencies vcolumns x1)) (by /-3-/ (try dsimp only); (try simp only [InIx, CDiv, CMul, CPow, List.length_append, List.length_cons, List.length_nil, List.length_singleton, List.length_map, List.length_reverse, List.length_take, List.length_drop]) <;> first | assumption | omega | decide) (ea_cons (x_q saT (x_var (i := 3) rfl)) (ea_cons (x_q saT (x_var (i := 5) rfl)) ea_nil)) rfl rfl rfl rfl)) ⟨⟨⟨_, rfl⟩, _, _, rfl⟩, fun h => h⟩
    try simp only [decide_eq_true_eq, decide_eq_false_iff_not, Bool.and_eq_true, Bool.or_eq_true, Bool.not_eq_true', Bool.not_eq_false', Bool.and_eq_false_iff, Bool.or_eq_false_iff] at h5
    exact f_nx ⟨_, .inl rfl, Wk.uns [3, 4, 5]⟩
  exact sx_ret x_none ⟨_, rfl⟩

theorem ok_Lless (T : Tx K mg base) : FnOk P w K mg base CX0 1 T.a_Lless T.d_Lless ["_law_a", "_law_b"] (spP (A := (List Int) × (List Int)) (fun x => True) (fun x => [pu (tT K tI) x.1, pu (tT K tI) x.2]) (fun x => pu (tT K tI) (m_Lless x.1 x.2))) := by
  refine fn_ok T.F_Lless sc_Lless (fun _ => rfl) fun X x hX hr hpre => ?_
  obtain ⟨vLa, vLb⟩ := x
  obtain ⟨cdv, A, outer, s, H, E, rfl⟩ := hX
  have hz1 : sizeLine = 16777216 := rfl
  have hz2 : scanBound = 4096 := rfl
  show SX _ _ [pu (tT K tI) vLa, pu (tT K tI) vLb, un] _
  refine SX.imp (P := RetP (fun z : (List Int) => pu (tT K tI) z) (m_Lless vLa vLb)) ?_ fun r h => .inl h
  unfold m_Lless
  exact sx_ret (x_callT call_tuple_of T.n_tuple (by decide +kernel) (n_tupleL sqLs) (ea_cons (x_frz (x_valoE (x_lc rfl sc_Lless.nd (w_tup sqT (x_var (i := 0) rfl)) (blkOk_by (own := [("_law_k", 2)]) (N := N_Lless) (sc := defScope s_Lless) (by decide +kernel)) (fun _ _ _ _ _ => (pg_name (i := 2) sc_Lless.nd rfl (by first | exact Or.inl rfl | exact Or.inr rfl))) (tg_name (show 2 < 3 by decide)) (fun (x1 : Int) => (!(decide (x1 ∈ vLb)))) (fun (x1 : Int) => x1) (fun _ _ _ _ _ ix1 x1 hxx1 => (is_one (t_cmp op_notIn_seq (by rfl) (o_notin saT) (x_var (i := 2) rfl) (x_var (i := 1) rfl)))) (fun _ _ _ _ _ ix1 x1 hxx1 hpx1 => (x_var (i := 2) rfl))) lc_fid rfl)) ea_nil)) ⟨_, rfl⟩

theorem ok_Lis_within (T : Tx K mg base) : FnOk P w K mg base CX0 2 T.a_Lis_within T.d_Lis_within ["_law_a", "_law_b"] (spP (A := (List Int) × (List Int)) (fun x => True) (fun x => [pu (tT K tI) x.1, pu (tT K tI) x.2]) (fun x => pu tB (m_Lis_within x.1 x.2))) := by
  refine fn_ok T.F_Lis_within sc_Lis_within (fun _ => rfl) fun X x hX hr hpre => ?_
  obtain ⟨vLa, vLb⟩ := x
  obtain ⟨cdv, A, outer, s, H, E, rfl⟩ := hX
  have hz1 : sizeLine = 16777216 := rfl
  have hz2 : scanBound = 4096 := rfl
  show SX _ _ [pu (tT K tI) vLa, pu (tT K tI) vLb] _
  refine SX.imp (P := RetP (fun z : Bool => pu tB z) (m_Lis_within vLa vLb)) ?_ fun r h => .inl h
  unfold m_Lis_within
  exact sx_ret (x_cmp (op_eqD hr.units) (nomark _) (o_eqD dI) (x_callB call_len T.n_len (by decide +kernel) (n_lenA saT) (ea_cons (x_callE (Ss := [pu (tT K tI) vLa, pu (tT K tI) vLb]) (S' := pu (tT K tI) (m_Lless vLa vLb)) (ok_Lless T) (hr.mono (by decide)) T.g_Lless T.F_Lless.kp T.b_Lless (vLa, vLb) trivial (ea_cons (x_var (i := 0) rfl) (ea_cons (x_var (i := 1) rfl) ea_nil)) rfl rfl) ea_nil)) x_int) ⟨_, rfl⟩

theorem ok_Lunited (T : Tx K mg base) : FnOk P w K mg base CX0 1 T.a_Lunited T.d_Lunited ["_law_a", "_law_b"] (spP (A := (List Int) × (List Int)) (fun x => (x.1.length + x.2.length < 64)) (fun x => [pu (tT K tI) x.1, pu (tT K tI) x.2]) (fun x => pu (tT K tI) (m_Lunited x.1 x.2))) := by
  refine fn_ok T.F_Lunited sc_Lunited (fun _ => rfl) fun X x hX hr hpre => ?_
  obtain ⟨vLa, vLb⟩ := x
  obtain ⟨cdv, A, outer, s, H, E, rfl⟩ := hX
  replace hpre : vLa.length + vLb.length < 64 := hpre
  have hz1 : sizeLine = 16777216 := rfl
  have hz2 : scanBound = 4096 := rfl
  show SX _ _ [pu (tT K tI) vLa, pu (tT K tI) vLb] _
  refine SX.imp (P := RetP (fun z : (List Int) => pu (tT K tI) z) (m_Lunited vLa vLb)) ?_ fun r h => .inl h
  unfold m_Lunited
  exact sx_ret (x_callT call_tuple_of T.n_tuple (by decide +kernel) (n_tupleL sqLs) (ea_cons (x_frz (x_callB (cr_sortedSet rfl) T.n_sorted (by decide +kernel) (n_sortSet (by /-3-/ (try dsimp only); (try simp only [InIx, CDiv, CMul, CPow, List.length_append, List.length_cons, List.length_nil, List.length_singleton, List.length_map, List.length_reverse, List.length_take, List.length_drop]) <;> first | assumption | omega | decide)) (ea_cons (x_callT (cr_setT rfl) T.n_set (by decide +kernel) (n_setT sqT (by /-2-/ (try dsimp only); (try simp only [InIx, CDiv, CMul, CPow, List.length_append, List.length_cons, List.length_nil, List.length_singleton, List.length_map, List.length_reverse, List.length_take, List.length_drop]) <;> first | assumption | omega | decide)) (ea_cons (x_catT (x_var (i := 0) rfl) (x_var (i := 1) rfl) (by /-1-/ (try dsimp only); (try simp only [InIx, CDiv, CMul, CPow, List.length_append, List.length_cons, List.length_nil, List.length_singleton, List.length_map, List.length_reverse, List.length_take, List.length_drop]) <;> first | assumption | omega | decide)) ea_nil)) ea_nil))) ea_nil)) ⟨_, rfl⟩

theorem ok_Lclosed (T : Tx K mg base) : FnOk P w K mg base CX0 3 T.a_Lclosed T.d_Lclosed ["_law_rows", "_law_columns"] (spP (A := (List ((List Int) × (List Int))) × (List Int)) (fun x => (x.1.length ≤ 1000 ∧ Cols 16 x.2 ∧ ∀ d ∈ x.1, Cols 16 d.1 ∧ Cols 16 d.2)) (fun x => [pu (tLs K (tP2 K (tT K tI) (tT K tI))) x.1, pu (tT K tI) x.2]) (fun x => pu (tT K tI) (m_Lclosed x.1 x.2))) := by
  refine fn_ok T.F_Lclosed sc_Lclosed (fun _ => rfl) fun X x hX hr hpre => ?_
  obtain ⟨vLrows, vLcolumns⟩ := x
  obtain ⟨cdv, A, outer, s, H, E, rfl⟩ := hX
  replace hpre : vLrows.length ≤ 1000 ∧ Cols 16 vLcolumns ∧ ∀ d ∈ vLrows, Cols 16 d.1 ∧ Cols 16 d.2 := hpre
  have hz1 : sizeLine = 16777216 := rfl
  have hz2 : scanBound = 4096 := rfl
  show SX _ _ [pu (tLs K (tP2 K (tT K tI) (tT K tI))) vLrows, pu (tT K tI) vLcolumns, un, un, un] _
  refine SX.imp (P := RetP (fun z : (List Int) => pu (tT K tI) z) (m_Lclosed vLrows vLcolumns)) ?_ fun r h => .inl h
  unfold m_Lclosed
  refine sx_seq (Γ1 := [pu (tLs K (tP2 K (tT K tI) (tT K tI))) vLrows, pu (tT K tI) vLcolumns, pu (tT K tI) (Lclosed_Lfound1 vLrows vLcolumns), un, un]) (s1_setE (i := 2) sc_Lclosed.nd rfl (by first | exact Or.inl rfl | exact Or.inr rfl) (x_val (x_var (i := 1) rfl) (z := (Lclosed_Lfound1 vLrows vLcolumns)) rfl) (show 2 < 5 by decide) rfl) ?_
  refine f_for PassesOwn.never rfl (w_range1 T.n_range (x_add (x_callB call_len T.n_len (by decide +kernel) (n_lenA saLs) (ea_cons (x_var (i := 0) rfl) ea_nil)) x_int) (by /-1-/ (try dsimp only); (try simp only [InIx, CDiv, CMul, CPow, List.length_append, List.length_cons, List.length_nil, List.length_singleton, List.length_map, List.length_reverse, List.length_take, List.length_drop]) <;> first | assumption | omega | decide) (by /-2-/ (try dsimp only); (try simp only [InIx, CDiv, CMul, CPow, List.length_append, List.length_cons, List.length_nil, List.length_singleton, List.length_map, List.length_reverse, List.length_take, List.length_drop]) <;> first | assumption | omega | decide)) (pg_name (i := 3) sc_Lclosed.nd rfl (by first | exact Or.inl rfl | exact Or.inr rfl)) (tg_name (show 3 < 5 by decide)) (fun (s : (List Int)) => [pu (tLs K (tP2 K (tT K tI) (tT K tI))) vLrows, pu (tT K tI) vLcolumns, pu (tT K tI) s, un, un]) (Lclosed_st1 vLrows vLcolumns) (Lclosed_Lfound1 vLrows vLcolumns) (Lclosed_loop2 vLrows vLcolumns) rfl (fun _ => rfl) (Wk.uns []) ?_ ?_
  · intro ix1 x1 vLfound2 hxx1 hsx1 hzx1
    have hrhxx1 := rng_at hxx1
    have hc := Lclosed_st1_inv vLrows vLcolumns hpre.2.2 hpre.2.1 hsx1
    refine f_for PassesOwn.never rfl (w_list sqLs (x_var (i := 0) rfl)) (pg_name (i := 4) sc_Lclosed.nd rfl (by first | exact Or.inl rfl | exact Or.inr rfl)) (tg_name (show 4 < 5 by decide)) (fun (s : (List Int)) => [pu (tLs K (tP2 K (tT K tI) (tT K tI))) vLrows, pu (tT K tI) vLcolumns, pu (tT K tI) s, pu tI x1, un]) (Lclosed_st2 vLrows vLcolumns vLfound2 x1) vLfound2 (Lclosed_loop1 vLrows vLcolumns vLfound2 x1) rfl (fun _ => rfl) (Wk.uns []) ?_ ?_
    · intro ix3 x3 vLfound4 hxx3 hsx3 hzx3
      have hd := hpre.2.2 x3 (w_at hxx3).2
      have hc2 := Lclosed_st2_inv vLrows vLcolumns _ _ hpre.2.2 hc hsx3
      have hl1 := hc2.len
      have hl2 := hd.2.len
      refine f_ifJ (fun (s : (List Int)) => [pu (tLs K (tP2 K (tT K tI) (tT K tI))) vLrows, pu (tT K tI) vLcolumns, pu (tT K tI) s, pu tI x1, pu (tP2 K (tT K tI) (tT K tI)) x3]) (Lclosed_j_Lfound1 vLrows vLcolumns vLfound2 x1 vLfound4 x3) (A := (Lclosed_Lfound2 vLrows vLcolumns vLfound2 x1 vLfound4 x3)) (B := vLfound4) (t_val (x_callE (Ss := [pu (tT K tI) x3.1, pu (tT K tI) vLfound4]) (S' := pu tB (m_Lis_within x3.1 vLfound4)) (ok_Lis_within T) (hr.mono (by decide)) T.g_Lis_within T.F_Lis_within.kp T.b_Lis_within (x3.1, vLfound4) trivial (ea_cons (x_ix ix_tup (o_ixP2_0 (x := x3)) (x_var (i := 4) rfl) x_int) (ea_cons (x_var (i := 2) rfl) ea_nil)) rfl rfl)) rfl (fun h5 => ?_) (fun h6 => ?_) ?_
      · try simp only [decide_eq_true_eq, decide_eq_false_iff_not, Bool.and_eq_true, Bool.or_eq_true, Bool.not_eq_true', Bool.not_eq_false', Bool.and_eq_false_iff, Bool.or_eq_false_iff] at h5
        refine sx_seq (Γ1 := [pu (tLs K (tP2 K (tT K tI) (tT K tI))) vLrows, pu (tT K tI) vLcolumns, pu (tT K tI) (Lclosed_Lfound2 vLrows vLcolumns vLfound2 x1 vLfound4 x3), pu tI x1, pu (tP2 K (tT K tI) (tT K tI)) x3]) (s1_setE (i := 2) sc_Lclosed.nd rfl (by first | exact Or.inl rfl | exact Or.inr rfl) (x_val (x_callE (Ss := [pu (tT K tI) vLfound4, pu (tT K tI) x3.2]) (S' := pu (tT K tI) (m_Lunited vLfound4 x3.2)) (ok_Lunited T) (hr.mono (by decide)) T.g_Lunited T.F_Lunited.kp T.b_Lunited (vLfound4, x3.2) (by /-3-/ (try dsimp only); (try simp only [InIx, CDiv, CMul, CPow, List.length_append, List.length_cons, List.length_nil, List.length_singleton, List.length_map, List.length_reverse, List.length_take, List.length_drop]) <;> first | assumption | omega | decide) (ea_cons (x_var (i := 2) rfl) (ea_cons (x_ix ix_tup (o_ixP2_1 (x := x3)) (x_var (i := 4) rfl) x_int) ea_nil)) rfl rfl) (z := (Lclosed_Lfound2 vLrows vLcolumns vLfound2 x1 vLfound4 x3)) rfl) (show 2 < 5 by decide) rfl) ?_
        exact f_nx ⟨_, rfl, Wk.uns []⟩
      · try simp only [decide_eq_true_eq, decide_eq_false_iff_not, Bool.and_eq_true, Bool.or_eq_true, Bool.not_eq_true', Bool.not_eq_false', Bool.and_eq_false_iff, Bool.or_eq_false_iff] at h6
        exact f_nx ⟨_, rfl, Wk.uns []⟩
      exact f_nx ⟨_, .inl rfl, Wk.uns [4]⟩
    exact f_nx ⟨_, .inl rfl, Wk.uns [3]⟩
  exact sx_ret (x_var (i := 2) rfl) ⟨_, rfl⟩

theorem ok_Lmet (T : Tx K mg base) : FnOk P w K mg base CX0 1 T.a_Lmet T.d_Lmet ["_law_a", "_law_b"] (spP (A := (List Int) × (List Int)) (fun x => True) (fun x => [pu (tT K tI) x.1, pu (tT K tI) x.2]) (fun x => pu (tT K tI) (m_Lmet x.1 x.2))) := by
  refine fn_ok T.F_Lmet sc_Lmet (fun _ => rfl) fun X x hX hr hpre => ?_
  obtain ⟨vLa, vLb⟩ := x
  obtain ⟨cdv, A, outer, s, H, E, rfl⟩ := hX
  have hz1 : sizeLine = 16777216 := rfl
  have hz2 : scanBound = 4096 := rfl
  show SX _ _ [pu (tT K tI) vLa, pu (tT K tI) vLb, un] _
  refine SX.imp (P := RetP (fun z : (List Int) => pu (tT K tI) z) (m_Lmet vLa vLb)) ?_ fun r h => .inl h
  unfold m_Lmet
  exact sx_ret (x_callT call_tuple_of T.n_tuple (by decide +kernel) (n_tupleL sqLs) (ea_cons (x_frz (x_valoE (x_lc rfl sc_Lmet.nd (w_tup sqT (x_var (i := 0) rfl)) (blkOk_by (own := [("_law_k", 2)]) (N := N_Lmet) (sc := defScope s_Lmet) (by decide +kernel)) (fun _ _ _ _ _ => (pg_name (i := 2) sc_Lmet.nd rfl (by first | exact Or.inl rfl | exact Or.inr rfl))) (tg_name (show 2 < 3 by decide)) (fun (x1 : Int) => (decide (x1 ∈ vLb))) (fun (x1 : Int) => x1) (fun _ _ _ _ _ ix1 x1 hxx1 => (is_one (t_cmp op_in_seq (by rfl) (o_in saT) (x_var (i := 2) rfl) (x_var (i := 1) rfl)))) (fun _ _ _ _ _ ix1 x1 hxx1 hpx1 => (x_var (i := 2) rfl))) lc_fid rfl)) ea_nil)) ⟨_, rfl⟩

theorem ok_Lbreaks (T : Tx K mg base) : FnOk P w K mg base CX0 4 T.a_Lbreaks T.d_Lbreaks ["_law_rows", "_law_columns", "_law_count"] (spP (A := (List ((List Int) × (List Int))) × (List Int) × Int) (fun x => (0 ≤ x.2.2 ∧ x.2.2 ≤ 6 ∧ x.1.length ≤ 1000 ∧ POk 16 x.1)) (fun x => [pu (tLs K (tP2 K (tT K tI) (tT K tI))) x.1, pu (tT K tI) x.2.1, pu tI x.2.2]) (fun x => pu tB (m_Lbreaks x.1 x.2.1 x.2.2))) := by
  refine fn_ok T.F_Lbreaks sc_Lbreaks (fun _ => rfl) fun X x hX hr hpre => ?_
  obtain ⟨vLrows, vLcolumns, vLcount⟩ := x
  obtain ⟨cdv, A, outer, s, H, E, rfl⟩ := hX
  replace hpre : 0 ≤ vLcount ∧ vLcount ≤ 6 ∧ vLrows.length ≤ 1000 ∧ POk 16 vLrows := hpre
  have hz1 : sizeLine = 16777216 := rfl
  have hz2 : scanBound = 4096 := rfl
  have h65 := ix65_ok (x := vLcount) ⟨hpre.1, hpre.2.1⟩
  show SX _ _ [pu (tLs K (tP2 K (tT K tI) (tT K tI))) vLrows, pu (tT K tI) vLcolumns, pu tI vLcount, un, un, un] _
  refine SX.imp (P := RetP (fun z : Bool => pu tB z) (m_Lbreaks vLrows vLcolumns vLcount)) ?_ fun r h => .inl h
  unfold m_Lbreaks
  refine f_forE (P := (RetP (fun z : Bool => pu tB z))) (Pq := (RetP (fun z : Bool => pu tB z))) (fun (s8 : Unit) => false) (fun q => q) PassesOwn.never rfl (w_range1 T.n_range (x_ix ix_list (o_ixL sqLs (by /-1-/ (try dsimp only); (try simp only [InIx, CDiv, CMul, CPow, List.length_append, List.length_cons, List.length_nil, List.length_singleton, List.length_map, List.length_reverse, List.length_take, List.length_drop]) <;> first | assumption | omega | decide)) (x_frz (x_lst (n_lst (R := tI) (xs := [(1 : Int), (2 : Int), (4 : Int), (8 : Int), (16 : Int), (32 : Int), (64 : Int)]) (show 7 ≤ sizeLine by decide)) (ea_lits rfl))) (x_var (i := 2) rfl)) (by /-2-/ (try dsimp only); (try simp only [InIx, CDiv, CMul, CPow, List.length_append, List.length_cons, List.length_nil, List.length_singleton, List.length_map, List.length_reverse, List.length_take, List.length_drop]) <;> first | assumption | omega | decide) (by /-3-/ (try dsimp only); (try simp only [InIx, CDiv, CMul, CPow, List.length_append, List.length_cons, List.length_nil, List.length_singleton, List.length_map, List.length_reverse, List.length_take, List.length_drop]) <;> first | assumption | omega | decide)) (pg_name (i := 3) sc_Lbreaks.nd rfl (by first | exact Or.inl rfl | exact Or.inr rfl)) (tg_name (show 3 < 6 by decide)) (fun (s : Unit) => [pu (tLs K (tP2 K (tT K tI) (tT K tI))) vLrows, pu (tT K tI) vLcolumns, pu tI vLcount, un, un, un]) (Lbreaks_st1 vLrows vLcolumns vLcount) () (fun _ => rfl) (Wk.uns []) ?_ (fun s8 hrs8 => ?_) (fun _ _ h => h) rfl
  · rintro ix1 x1 ⟨⟩ hxx1 hsx1 hzx1
    have hrhxx1 := rng_at hxx1
    have p1 : vLrows.length ≤ 1000 ∧ Cols 16 (m_Lset x1 vLcount) ∧ POk 16 vLrows := ⟨hpre.2.2.1, m_Lset_cols (by have := hpre.2.1; omega), hpre.2.2.2⟩
    refine sx_seq (Γ1 := [pu (tLs K (tP2 K (tT K tI) (tT K tI))) vLrows, pu (tT K tI) vLcolumns, pu tI vLcount, pu tI x1, pu (tT K tI) (Lbreaks_Lleft1 vLrows vLcolumns vLcount x1), un]) (s1_setE (i := 4) sc_Lbreaks.nd rfl (by first | exact Or.inl rfl | exact Or.inr rfl) (x_val (x_callE (Ss := [pu tI x1, pu tI vLcount]) (S' := pu (tT K tI) (m_Lset x1 vLcount)) (ok_Lset T) (hr.mono (by decide)) T.g_Lset T.F_Lset.kp T.b_Lset (x1, vLcount) (by /-4-/ (try dsimp only); (try simp only [InIx, CDiv, CMul, CPow, List.length_append, List.length_cons, List.length_nil, List.length_singleton, List.length_map, List.length_reverse, List.length_take, List.length_drop]) <;> first | assumption | omega | decide) (ea_cons (x_var (i := 3) rfl) (ea_cons (x_var (i := 2) rfl) ea_nil)) rfl rfl) (z := (Lbreaks_Lleft1 vLrows vLcolumns vLcount x1)) rfl) (show 4 < 6 by decide) rfl) ?_
    refine f_ifE (P := (Turn1 (fun (s : Unit) => [pu (tLs K (tP2 K (tT K tI) (tT K tI))) vLrows, pu (tT K tI) vLcolumns, pu tI vLcount, un, un, un]) (RetP (fun z : Bool => pu tB z)))) (t_val (x_callE (Ss := [pu (tT K tI) (Lbreaks_Lleft1 vLrows vLcolumns vLcount x1), pu (tT K tI) vLcolumns]) (S' := pu tB (m_Lis_within (Lbreaks_Lleft1 vLrows vLcolumns vLcount x1) vLcolumns)) (ok_Lis_within T) (hr.mono (by decide)) T.g_Lis_within T.F_Lis_within.kp T.b_Lis_within ((Lbreaks_Lleft1 vLrows vLcolumns vLcount x1), vLcolumns) trivial (ea_cons (x_var (i := 4) rfl) (ea_cons (x_var (i := 1) rfl) ea_nil)) rfl rfl)) (fun h2 => ?_) (fun h3 => ?_)
    · try simp only [decide_eq_true_eq, decide_eq_false_iff_not, Bool.and_eq_true, Bool.or_eq_true, Bool.not_eq_true', Bool.not_eq_false', Bool.and_eq_false_iff, Bool.or_eq_false_iff] at h2
      refine sx_seq (Γ1 := [pu (tLs K (tP2 K (tT K tI) (tT K tI))) vLrows, pu (tT K tI) vLcolumns, pu tI vLcount, pu tI x1, pu (tT K tI) (Lbreaks_Lleft1 vLrows vLcolumns vLcount x1), pu (tT K tI) (Lbreaks_Lreached1 vLrows vLcolumns vLcount x1)]) (s1_setE (i := 5) sc_Lbreaks.nd rfl (by first | exact Or.inl rfl | exact Or.inr rfl) (x_val (x_callE (Ss := [pu (tLs K (tP2 K (tT K tI) (tT K tI))) vLrows, pu (tT K tI) (Lbreaks_Lleft1 vLrows vLcolumns vLcount x1)]) (S' := pu (tT K tI) (m_Lclosed vLrows (Lbreaks_Lleft1 vLrows vLcolumns vLcount x1))) (ok_Lclosed T) (hr.mono (by decide)) T.g_Lclosed T.F_Lclosed.kp T.b_Lclosed (vLrows, (Lbreaks_Lleft1 vLrows vLcolumns vLcount x1)) (by /-5-/ (try dsimp only); (try simp only [InIx, CDiv, CMul, CPow, List.length_append, List.length_cons, List.length_nil, List.length_singleton, List.length_map, List.length_reverse, List.length_take, List.length_drop]) <;> first | assumption | omega | decide) (ea_cons (x_var (i := 0) rfl) (ea_cons (x_var (i := 4) rfl) ea_nil)) rfl rfl) (z := (Lbreaks_Lreached1 vLrows vLcolumns vLcount x1)) rfl) (show 5 < 6 by decide) rfl) ?_
      refine f_ifr (P := (Turn1 (fun (s : Unit) => [pu (tLs K (tP2 K (tT K tI) (tT K tI))) vLrows, pu (tT K tI) vLcolumns, pu tI vLcount, un, un, un]) (RetP (fun z : Bool => pu tB z)))) (t_w (w_and (t_cmp op_gt (nomark _) (o_IB (g := fun i j => decide (j < i))) (x_callB call_len T.n_len (by decide +kernel) (n_lenA saT) (ea_cons (x_callE (Ss := [pu (tT K tI) (m_Lmet (Lbreaks_Lreached1 vLrows vLcolumns vLcount x1) vLcolumns), pu (tT K tI) (Lbreaks_Lleft1 vLrows vLcolumns vLcount x1)]) (S' := pu (tT K tI) (m_Lless (m_Lmet (Lbreaks_Lreached1 vLrows vLcolumns vLcount x1) vLcolumns) (Lbreaks_Lleft1 vLrows vLcolumns vLcount x1))) (ok_Lless T) (hr.mono (by decide)) T.g_Lless T.F_Lless.kp T.b_Lless ((m_Lmet (Lbreaks_Lreached1 vLrows vLcolumns vLcount x1) vLcolumns), (Lbreaks_Lleft1 vLrows vLcolumns vLcount x1)) trivial (ea_cons (x_callE (Ss := [pu (tT K tI) (Lbreaks_Lreached1 vLrows vLcolumns vLcount x1), pu (tT K tI) vLcolumns]) (S' := pu (tT K tI) (m_Lmet (Lbreaks_Lreached1 vLrows vLcolumns vLcount x1) vLcolumns)) (ok_Lmet T) (hr.mono (by decide)) T.g_Lmet T.F_Lmet.kp T.b_Lmet ((Lbreaks_Lreached1 vLrows vLcolumns vLcount x1), vLcolumns) trivial (ea_cons (x_var (i := 5) rfl) (ea_cons (x_var (i := 1) rfl) ea_nil)) rfl rfl) (ea_cons (x_var (i := 4) rfl) ea_nil)) rfl rfl) ea_nil)) x_int) (fun h4 => (w_one (t_not (t_val (x_callE (Ss := [pu (tT K tI) vLcolumns, pu (tT K tI) (Lbreaks_Lreached1 vLrows vLcolumns vLcount x1)]) (S' := pu tB (m_Lis_within vLcolumns (Lbreaks_Lreached1 vLrows vLcolumns vLcount x1))) (ok_Lis_within T) (hr.mono (by decide)) T.g_Lis_within T.F_Lis_within.kp T.b_Lis_within (vLcolumns, (Lbreaks_Lreached1 vLrows vLcolumns vLcount x1)) trivial (ea_cons (x_var (i := 1) rfl) (ea_cons (x_var (i := 5) rfl) ea_nil)) rfl rfl))) (.inl rfl))))) (fun h6 => ?_) (fun h7 => ?_)
      · try simp only [decide_eq_true_eq, decide_eq_false_iff_not, Bool.and_eq_true, Bool.or_eq_true, Bool.not_eq_true', Bool.not_eq_false', Bool.and_eq_false_iff, Bool.or_eq_false_iff] at h6
        exact sx_ret x_bl ⟨⟨⟨_, rfl⟩, _, _, rfl⟩, fun h => h⟩
      try simp only [decide_eq_true_eq, decide_eq_false_iff_not, Bool.and_eq_true, Bool.or_eq_true, Bool.not_eq_true', Bool.not_eq_false', Bool.and_eq_false_iff, Bool.or_eq_false_iff] at h7
      exact f_nx ⟨_, .inl rfl, Wk.uns [3, 4, 5]⟩
    · try simp only [decide_eq_true_eq, decide_eq_false_iff_not, Bool.and_eq_true, Bool.or_eq_true, Bool.not_eq_true', Bool.not_eq_false', Bool.and_eq_false_iff, Bool.or_eq_false_iff] at h3
      exact f_nx ⟨_, .inl rfl, Wk.uns [3, 4]⟩
  exact sx_ret x_bl ⟨_, rfl⟩

theorem ok_whole (T : Tx K mg base) : FnOk P w K mg base CX0 1 T.a_whole T.d_whole ["count"] (spP (A := Int) (fun x => (0 ≤ x ∧ x ≤ 1000)) (fun x => [pu tI x]) (fun x => pu (tT K tI) (m_whole x))) := by
  refine fn_ok T.F_whole sc_whole (fun _ => rfl) fun X vcount hX hr hpre => ?_
  obtain ⟨cdv, A, outer, s, H, E, rfl⟩ := hX
  replace hpre : 0 ≤ vcount ∧ vcount ≤ 1000 := hpre
  have hz1 : sizeLine = 16777216 := rfl
  have hz2 : scanBound = 4096 := rfl
  show SX _ _ [pu tI vcount] _
  refine SX.imp (P := RetP (fun z : (List Int) => pu (tT K tI) z) (m_whole vcount)) ?_ fun r h => .inl h
  unfold m_whole
  exact sx_ret (x_tupRange rfl T.n_tuple T.n_range (x_var (i := 0) rfl) (by /-1-/ (try dsimp only); (try simp only [InIx, CDiv, CMul, CPow, List.length_append, List.length_cons, List.length_nil, List.length_singleton, List.length_map, List.length_reverse, List.length_take, List.length_drop]) <;> first | assumption | omega | decide)) ⟨_, rfl⟩

theorem ok_greatest (T : Tx K mg base) : FnOk P w K mg base CX0 3 T.a_greatest T.d_greatest ["parts"] (spP (A := (List (List Int))) (fun x => (x.length < 64 ∧ ∀ y ∈ x, Cols 7 y)) (fun x => [pu (tLs K (tT K tI)) x]) (fun x => ol (tT K tI) (m_greatest x))) := by
  refine fn_ok T.F_greatest sc_greatest (fun _ => rfl) fun X vparts hX hr hpre => ?_
  obtain ⟨cdv, A, outer, s, H, E, rfl⟩ := hX
  replace hpre : vparts.length < 64 ∧ ∀ y ∈ vparts, Cols 7 y := hpre
  have hz1 : sizeLine = 16777216 := rfl
  have hz2 : scanBound = 4096 := rfl
  have hrl := rset_len vparts
  have hpl := hpre.1
  show SX _ _ [pu (tLs K (tT K tI)) vparts, un, un, un] _
  refine SX.imp (P := RetP (fun z : (List (List Int)) => ol (tT K tI) z) (m_greatest vparts)) ?_ fun r h => .inl h
  unfold m_greatest
  refine sx_seq (Γ1 := [pu (tLs K (tT K tI)) vparts, ol (tT K tI) (greatest_found1 vparts), un, un]) (s1_setE (i := 1) sc_greatest.nd rfl (by first | exact Or.inl rfl | exact Or.inr rfl) (x_valo (x_lst (Ss := []) (n_lst (R := (tT K tI)) (xs := []) (show 0 ≤ sizeLine by decide)) ea_nil) (zs := (greatest_found1 vparts)) rfl) (show 1 < 4 by decide) rfl) ?_
  refine f_for PassesOwn.never rfl (w_list sqLs (x_frz (x_callB (cr_sortST rfl (by have h_ := hr.un; omega)) T.n_sorted (by decide +kernel) n_sortST (ea_cons (x_callT (cr_setOfT rfl (by have h_ := hr.un; omega)) T.n_set (by decide +kernel) (n_setOfT sqLs (by /-1-/ (try dsimp only); (try simp only [InIx, CDiv, CMul, CPow, List.length_append, List.length_cons, List.length_nil, List.length_singleton, List.length_map, List.length_reverse, List.length_take, List.length_drop]) <;> first | assumption | omega | decide)) (ea_cons (x_var (i := 0) rfl) ea_nil)) ea_nil)))) (pg_name (i := 2) sc_greatest.nd rfl (by first | exact Or.inl rfl | exact Or.inr rfl)) (tg_name (show 2 < 4 by decide)) (fun (s : (List (List Int))) => [pu (tLs K (tT K tI)) vparts, ol (tT K tI) s, un, un]) (greatest_st1 vparts) (greatest_found1 vparts) (greatest_loop1 vparts) rfl (fun _ => rfl) (Wk.uns []) ?_ ?_
  · intro ix1 x1 vfound2 hxx1 hsx1 hzx1
    have hl_found := foldl_len (fun s : (List (List Int)) => s) 1 (greatest_st1 vparts) (by intro s x; (try unfold greatest_st1); (try unfold greatest_j_found1); (repeat' split) <;> (try simp only [greatest_st1, greatest_found2, greatest_j_found1, List.length_append, List.length_cons, List.length_nil]) <;> (try omega)) ((rset vparts).take ix1) (greatest_found1 vparts)
    rw [hsx1] at hl_found
    have hi_found := (w_at hxx1).1
    simp only [greatest_found1, List.length_take, List.length_nil, rangeI_len] at hl_found hi_found
    refine f_ifJ (fun (s : (List (List Int))) => [pu (tLs K (tT K tI)) vparts, ol (tT K tI) s, pu (tT K tI) x1, un]) (greatest_j_found1 vparts vfound2 x1) (A := (greatest_found2 vparts vfound2 x1)) (B := vfound2) (t_not (t_val (x_val (x_callB (cr_any rfl) T.n_any (by decide +kernel) (n_any sqLs) (ea_cons (x_frz (x_valoE (x_lc rfl sc_greatest.nd (w_list sqLs (x_var (i := 0) rfl)) (blkOk_by (own := [("other", 3)]) (N := N_greatest) (sc := defScope s_greatest) (by decide +kernel)) (fun _ _ _ _ _ => (pg_name (i := 3) sc_greatest.nd rfl (by first | exact Or.inl rfl | exact Or.inr rfl))) (tg_name (show 3 < 4 by decide)) (fun (x3 : (List Int)) => true) (fun (x3 : (List Int)) => ((!(decide (x1 = x3))) && (m_is_within x1 x3))) (fun _ _ _ _ _ ix3 x3 hxx3 => is_nil) (fun _ _ _ _ _ ix3 x3 hxx3 hpx3 => (x_and (x_cmp (op_neD hr.units) (nomark _) (o_neD (dT dI)) (x_var (i := 2) rfl) (x_var (i := 3) rfl)) (fun h4 => (x_one (x_callE (Ss := [pu (tQ K tI) x1, pu (tQ K tI) x3]) (S' := pu tB (m_is_within x1 x3)) (ok_is_within T) (by exact hr.mono (by decide)) T.g_is_within T.F_is_within.kp T.b_is_within (x1, x3) trivial (ea_cons (x_q saT (x_var (i := 2) rfl)) (ea_cons (x_q saT (x_var (i := 3) rfl)) ea_nil)) rfl rfl)))))) lc_all rfl)) ea_nil)) any_id))) rfl (fun h6 => ?_) (fun h7 => ?_) ?_
    · try simp only [decide_eq_true_eq, decide_eq_false_iff_not, Bool.and_eq_true, Bool.or_eq_true, Bool.not_eq_true', Bool.not_eq_false', Bool.and_eq_false_iff, Bool.or_eq_false_iff] at h6
      refine sx_seq (Γ1 := [pu (tLs K (tT K tI)) vparts, ol (tT K tI) (greatest_found2 vparts vfound2 x1), pu (tT K tI) x1, un]) (s1_app (i := 1) rfl (x_var (i := 2) rfl) rfl (by /-2-/ (try dsimp only); (try simp only [InIx, CDiv, CMul, CPow, List.length_append, List.length_cons, List.length_nil, List.length_singleton, List.length_map, List.length_reverse, List.length_take, List.length_drop]) <;> first | assumption | omega | decide)) ?_
      exact f_nx ⟨_, rfl, Wk.uns []⟩
    · try simp only [decide_eq_true_eq, decide_eq_false_iff_not, Bool.and_eq_true, Bool.or_eq_true, Bool.not_eq_true', Bool.not_eq_false', Bool.and_eq_false_iff, Bool.or_eq_false_iff] at h7
      exact f_nx ⟨_, rfl, Wk.uns []⟩
    exact f_nx ⟨_, .inl rfl, Wk.uns [2]⟩
  exact sx_ret (x_mov (i := 1) rfl ol_some) ⟨_, rfl⟩

theorem ok_boyce_codd (T : Tx K mg base) : FnOk P w K mg base CX0 6 T.a_boyce_codd T.d_boyce_codd ["count", "dependencies"] (spP (A := Int × (List Sd)) (fun x => (0 ≤ x.1 ∧ x.1 ≤ 5 ∧ DOk 16 x.2)) (fun x => [pu tI x.1, pu (tQ K (tObj T.c_Fd (flSd K))) x.2]) (fun x => ol (tT K tI) (m_boyce_codd x.1 x.2))) := by
  refine fn_ok T.F_boyce_codd sc_boyce_codd (fun _ => rfl) fun X x hX hr hpre => ?_
  obtain ⟨vcount, vdependencies⟩ := x
  obtain ⟨cdv, A, outer, s, H, E, rfl⟩ := hX
  replace hpre : 0 ≤ vcount ∧ vcount ≤ 5 ∧ DOk 16 vdependencies := hpre
  have hz1 : sizeLine = 16777216 := rfl
  have hz2 : scanBound = 4096 := rfl
  show SX _ _ [pu tI vcount, pu (tQ K (tObj T.c_Fd (flSd K))) vdependencies, un, un, un, un] _
  refine SX.imp (P := RetP (fun z : (List (List Int)) => ol (tT K tI) z) (m_boyce_codd vcount vdependencies)) ?_ fun r h => .inl h
  unfold m_boyce_codd
  refine sx_seq (Γ1 := [pu tI vcount, pu (tQ K (tObj T.c_Fd (flSd K))) vdependencies, ol (tT K tI) (boyce_codd_pending1 vcount vdependencies), un, un, un]) (s1_setE (i := 2) sc_boyce_codd.nd rfl (by first | exact Or.inl rfl | exact Or.inr rfl) (x_valo (x_lst (Ss := [pu (tT K tI) (m_whole vcount)]) (n_lst (R := (tT K tI)) (xs := [(m_whole vcount)]) (show 1 ≤ sizeLine by decide)) (ea_cons (x_callE (Ss := [pu tI vcount]) (S' := pu (tT K tI) (m_whole vcount)) (ok_whole T) (hr.mono (by decide)) T.g_whole T.F_whole.kp T.b_whole vcount (by /-1-/ (try dsimp only); (try simp only [InIx, CDiv, CMul, CPow, List.length_append, List.length_cons, List.length_nil, List.length_singleton, List.length_map, List.length_reverse, List.length_take, List.length_drop]) <;> first | assumption | omega | decide) (ea_cons (x_var (i := 0) rfl) ea_nil) rfl rfl) ea_nil)) (zs := (boyce_codd_pending1 vcount vdependencies)) rfl) (show 2 < 6 by decide) rfl) ?_
  refine sx_seq (Γ1 := [pu tI vcount, pu (tQ K (tObj T.c_Fd (flSd K))) vdependencies, ol (tT K tI) (boyce_codd_pending1 vcount vdependencies), ol (tT K tI) (boyce_codd_found1 vcount vdependencies), un, un]) (s1_setE (i := 3) sc_boyce_codd.nd rfl (by first | exact Or.inl rfl | exact Or.inr rfl) (x_valo (x_lst (Ss := []) (n_lst (R := (tT K tI)) (xs := []) (show 0 ≤ sizeLine by decide)) ea_nil) (zs := (boyce_codd_found1 vcount vdependencies)) rfl) (show 3 < 6 by decide) rfl) ?_
  refine f_while PassesOwn.never (fun (s : (List (List Int)) × (List (List Int))) => [pu tI vcount, pu (tQ K (tObj T.c_Fd (flSd K))) vdependencies, ol (tT K tI) s.1, ol (tT K tI) s.2, un, un]) (boyce_codd_ts1 vcount vdependencies) (boyce_codd_st1 vcount vdependencies) (fun s => BcInv s) (bcMu) (244) ((boyce_codd_pending1 vcount vdependencies), (boyce_codd_found1 vcount vdependencies)) (boyce_codd_loop1 vcount vdependencies) rfl (fun _ => rfl) (Wk.uns []) (by exact bc_start hpre) (by exact bc_enough hpre) ?_ (by exact bc_dec hpre) ?_ ?_
  · rintro ⟨vpending1, vfound2⟩ hw1
    exact (t_bor (Fz.pu (Fz.pu (Fz.ol (Fz.ol (Fz.un (Fz.un Fz.nil)))))) (t_cmp op_gt (nomark _) (o_IB (g := fun i j => decide (j < i))) (x_callB call_len T.n_len (by decide +kernel) (n_lenA saLs) (ea_cons (x_var (i := 2) rfl) ea_nil)) x_int))
  · rintro ⟨vpending1, vfound2⟩ hw1 ht1
    have hp0 : 0 < vpending1.length := by have q : (0 : Int) < (vpending1.length : Int) := of_decide_eq_true ht1; omega
    have hcc := bc_last hw1 hp0
    have hfl : vfound2.length + sum2 2 vpending1 ≤ 32 := hw1.1
    have hsl := sum2_len vpending1
    refine sx_seq (Γ1 := [pu tI vcount, pu (tQ K (tObj T.c_Fd (flSd K))) vdependencies, ol (tT K tI) (boyce_codd_pending2 vcount vdependencies vpending1 vfound2), ol (tT K tI) vfound2, pu (tT K tI) (boyce_codd_columns1 vcount vdependencies vpending1 vfound2), un]) (s1_setE (i := 4) sc_boyce_codd.nd rfl (by first | exact Or.inl rfl | exact Or.inr rfl) (x_val (x_pop0 (i := 2) (Γ := [pu tI vcount, pu (tQ K (tObj T.c_Fd (flSd K))) vdependencies, ol (tT K tI) vpending1, ol (tT K tI) vfound2, un, un]) (Γ2 := [pu tI vcount, pu (tQ K (tObj T.c_Fd (flSd K))) vdependencies, ol (tT K tI) (boyce_codd_pending2 vcount vdependencies vpending1 vfound2), ol (tT K tI) vfound2, un, un]) rfl (by exact hp0) rfl) (z := (boyce_codd_columns1 vcount vdependencies vpending1 vfound2)) rfl) (show 4 < 6 by decide) rfl) ?_
    refine sx_seq (Γ1 := [pu tI vcount, pu (tQ K (tObj T.c_Fd (flSd K))) vdependencies, ol (tT K tI) (boyce_codd_pending2 vcount vdependencies vpending1 vfound2), ol (tT K tI) vfound2, pu (tT K tI) (boyce_codd_columns1 vcount vdependencies vpending1 vfound2), pu (tO (tObj T.c_Fd (flSd K))) (boyce_codd_shown1 vcount vdependencies vpending1 vfound2)]) (s1_setE (i := 5) sc_boyce_codd.nd rfl (by first | exact Or.inl rfl | exact Or.inr rfl) (x_val (x_callE (Ss := [pu tI vcount, pu (tQ K (tObj T.c_Fd (flSd K))) vdependencies, pu (tT K tI) (boyce_codd_columns1 vcount vdependencies vpending1 vfound2)]) (S' := pu (tO (tObj T.c_Fd (flSd K))) (m_broken vcount vdependencies (boyce_codd_columns1 vcount vdependencies vpending1 vfound2))) (ok_broken T) (hr.mono (by decide)) T.g_broken T.F_broken.kp T.b_broken (vcount, vdependencies, (boyce_codd_columns1 vcount vdependencies vpending1 vfound2)) (by exact ⟨hcc, hpre.2.2⟩) (ea_cons (x_var (i := 0) rfl) (ea_cons (x_var (i := 1) rfl) (ea_cons (x_var (i := 4) rfl) ea_nil))) rfl rfl) (z := (boyce_codd_shown1 vcount vdependencies vpending1 vfound2)) rfl) (show 5 < 6 by decide) rfl) ?_
    refine f_ifJ (fun (s : (List (List Int)) × (List (List Int))) => [pu tI vcount, pu (tQ K (tObj T.c_Fd (flSd K))) vdependencies, ol (tT K tI) s.1, ol (tT K tI) s.2, pu (tT K tI) (boyce_codd_columns1 vcount vdependencies vpending1 vfound2), pu (tO (tObj T.c_Fd (flSd K))) (boyce_codd_shown1 vcount vdependencies vpending1 vfound2)]) (boyce_codd_j_pending_found1 vcount vdependencies vpending1 vfound2) (A := ((boyce_codd_pending2 vcount vdependencies vpending1 vfound2), (boyce_codd_found2 vcount vdependencies vpending1 vfound2))) (B := ((boyce_codd_pending4 vcount vdependencies vpending1 vfound2), vfound2)) (t_cmp op_isN (nomark _) o_isN (x_var (i := 5) rfl) x_non) rfl (fun h3 => ?_) (fun h4 => ?_) ?_
    · try simp only [decide_eq_true_eq, decide_eq_false_iff_not, Bool.and_eq_true, Bool.or_eq_true, Bool.not_eq_true', Bool.not_eq_false', Bool.and_eq_false_iff, Bool.or_eq_false_iff] at h3
      refine sx_seq (Γ1 := [pu tI vcount, pu (tQ K (tObj T.c_Fd (flSd K))) vdependencies, ol (tT K tI) (boyce_codd_pending2 vcount vdependencies vpending1 vfound2), ol (tT K tI) (boyce_codd_found2 vcount vdependencies vpending1 vfound2), pu (tT K tI) (boyce_codd_columns1 vcount vdependencies vpending1 vfound2), pu (tO (tObj T.c_Fd (flSd K))) (boyce_codd_shown1 vcount vdependencies vpending1 vfound2)]) (s1_app (i := 3) rfl (x_var (i := 4) rfl) rfl (by /-4-/ (try dsimp only); (try simp only [InIx, CDiv, CMul, CPow, List.length_append, List.length_cons, List.length_nil, List.length_singleton, List.length_map, List.length_reverse, List.length_take, List.length_drop]) <;> first | assumption | omega | decide)) ?_
      exact f_nx ⟨_, rfl, Wk.uns []⟩
    · try simp only [decide_eq_true_eq, decide_eq_false_iff_not, Bool.and_eq_true, Bool.or_eq_true, Bool.not_eq_true', Bool.not_eq_false', Bool.and_eq_false_iff, Bool.or_eq_false_iff] at h4
      refine sx_seq (Γ1 := [pu tI vcount, pu (tQ K (tObj T.c_Fd (flSd K))) vdependencies, ol (tT K tI) (boyce_codd_pending3 vcount vdependencies vpending1 vfound2), ol (tT K tI) vfound2, pu (tT K tI) (boyce_codd_columns1 vcount vdependencies vpending1 vfound2), pu (tO (tObj T.c_Fd (flSd K))) (boyce_codd_shown1 vcount vdependencies vpending1 vfound2)]) (s1_app (i := 2) rfl (x_callE (Ss := [pu (tQ K tI) ((boyce_codd_shown1 vcount vdependencies vpending1 vfound2).getD default).l, pu (tQ K tI) ((boyce_codd_shown1 vcount vdependencies vpending1 vfound2).getD default).r]) (S' := pu (tT K tI) (m_united ((boyce_codd_shown1 vcount vdependencies vpending1 vfound2).getD default).l ((boyce_codd_shown1 vcount vdependencies vpending1 vfound2).getD default).r)) (ok_united T) (hr.mono (by decide)) T.g_united T.F_united.kp T.b_united (((boyce_codd_shown1 vcount vdependencies vpending1 vfound2).getD default).l, ((boyce_codd_shown1 vcount vdependencies vpending1 vfound2).getD default).r) (by have hb := bc_some (c := vcount) hpre.2.2 hcc (fun q => by rw [show (m_broken vcount vdependencies (ix vpending1 (-1))).isNone = false from h4] at q; cases q); have l1 := (hb.l.mono (m := 16) (by decide)).len; have l2 := (hb.r.mono (m := 16) (by decide)).len; show ((m_broken vcount vdependencies (ix vpending1 (-1))).getD default).l.length + ((m_broken vcount vdependencies (ix vpending1 (-1))).getD default).r.length < 64; simp only [] at l1 l2; omega) (ea_cons (x_q saT (x_fld (x_unO (d := default) (x_var (i := 5) rfl) (by revert h4; cases boyce_codd_shown1 vcount vdependencies vpending1 vfound2 <;> simp)) rfl T.cl_Fd T.na_Fd_left)) (ea_cons (x_q saT (x_fld (x_unO (d := default) (x_var (i := 5) rfl) (by revert h4; cases boyce_codd_shown1 vcount vdependencies vpending1 vfound2 <;> simp)) rfl T.cl_Fd T.na_Fd_right)) ea_nil)) rfl rfl) rfl (by show vpending1.dropLast.length < sizeLine; rw [List.length_dropLast]; omega)) ?_
      refine sx_seq (Γ1 := [pu tI vcount, pu (tQ K (tObj T.c_Fd (flSd K))) vdependencies, ol (tT K tI) (boyce_codd_pending4 vcount vdependencies vpending1 vfound2), ol (tT K tI) vfound2, pu (tT K tI) (boyce_codd_columns1 vcount vdependencies vpending1 vfound2), pu (tO (tObj T.c_Fd (flSd K))) (boyce_codd_shown1 vcount vdependencies vpending1 vfound2)]) (s1_app (i := 2) rfl (x_callE (Ss := [pu (tT K tI) (boyce_codd_columns1 vcount vdependencies vpending1 vfound2), pu (tT K tI) ((boyce_codd_shown1 vcount vdependencies vpending1 vfound2).getD default).r]) (S' := pu (tT K tI) (m_less (boyce_codd_columns1 vcount vdependencies vpending1 vfound2) ((boyce_codd_shown1 vcount vdependencies vpending1 vfound2).getD default).r)) (ok_less T) (hr.mono (by decide)) T.g_less T.F_less.kp T.b_less ((boyce_codd_columns1 vcount vdependencies vpending1 vfound2), ((boyce_codd_shown1 vcount vdependencies vpending1 vfound2).getD default).r) trivial (ea_cons (x_var (i := 4) rfl) (ea_cons (x_fld (x_unO (d := default) (x_var (i := 5) rfl) (by revert h4; cases boyce_codd_shown1 vcount vdependencies vpending1 vfound2 <;> simp)) rfl T.cl_Fd T.na_Fd_right) ea_nil)) rfl rfl) rfl (by show (vpending1.dropLast ++ [_]).length < sizeLine; rw [List.length_append, List.length_dropLast, List.length_singleton]; omega)) ?_
      exact f_nx ⟨_, rfl, Wk.uns []⟩
    exact f_nx ⟨_, .inl rfl, Wk.uns [4, 5]⟩
  refine SX.wk (Γ' := [pu tI vcount, pu (tQ K (tObj T.c_Fd (flSd K))) vdependencies, ol (tT K tI) (boyce_codd_loop1 vcount vdependencies).1, pu (tLs K (tT K tI)) (boyce_codd_loop1 vcount vdependencies).2, un, un]) (Wk.frz K (i := 3) rfl) ?_
  exact sx_ret (x_callE (Ss := [pu (tLs K (tT K tI)) (boyce_codd_loop1 vcount vdependencies).2]) (S' := ol (tT K tI) (m_greatest (boyce_codd_loop1 vcount vdependencies).2)) (ok_greatest T) (hr.mono (by decide)) T.g_greatest T.F_greatest.kp T.b_greatest (boyce_codd_loop1 vcount vdependencies).2 (by have hbe := bc_end hpre; exact ⟨by have := hbe.1; omega, hbe.2.2⟩) (ea_cons (x_var (i := 3) rfl) ea_nil) rfl rfl) ⟨_, rfl⟩

theorem ok_Lis_split (T : Tx K mg base) : FnOk P w K mg base CX0 3 T.a_Lis_split T.d_Lis_split ["_law_parts", "_law_count"] (spP (A := (List (List Int)) × Int) (fun x => (x.1.length ≤ 60 ∧ 0 ≤ x.2 ∧ x.2 ≤ 7 ∧ ∀ y ∈ x.1, Cols 7 y)) (fun x => [pu (tLs K (tT K tI)) x.1, pu tI x.2]) (fun x => pu tB (m_Lis_split x.1 x.2))) := by
  refine fn_ok T.F_Lis_split sc_Lis_split (fun _ => rfl) fun X x hX hr hpre => ?_
  obtain ⟨vLparts, vLcount⟩ := x
  obtain ⟨cdv, A, outer, s, H, E, rfl⟩ := hX
  replace hpre : vLparts.length ≤ 60 ∧ 0 ≤ vLcount ∧ vLcount ≤ 7 ∧ ∀ y ∈ vLparts, Cols 7 y := hpre
  have hz1 : sizeLine = 16777216 := rfl
  have hz2 : scanBound = 4096 := rfl
  have hpl := hpre.1
  show SX _ _ [pu (tLs K (tT K tI)) vLparts, pu tI vLcount, un, un, un] _
  refine SX.imp (P := RetP (fun z : Bool => pu tB z) (m_Lis_split vLparts vLcount)) ?_ fun r h => .inl h
  unfold m_Lis_split
  refine sx_seq (Γ1 := [pu (tLs K (tT K tI)) vLparts, pu tI vLcount, pu (tT K tI) (Lis_split_Lcolumns1 vLparts vLcount), un, un]) (s1_setE (i := 2) sc_Lis_split.nd rfl (by first | exact Or.inl rfl | exact Or.inr rfl) (x_val (x_tup (Ss := []) (n_tup (R := tI) (xs := []) (show 0 ≤ sizeLine by decide)) ea_nil) (z := (Lis_split_Lcolumns1 vLparts vLcount)) rfl) (show 2 < 5 by decide) rfl) ?_
  refine f_forE (P := (RetP (fun z : Bool => pu tB z))) (Pq := (RetP (fun z : Bool => pu tB z))) (fun (s8 : (List Int)) => ((decide (s8 = (rangeI 0 vLcount))) && ((decide (vLparts = (rowSort vLparts))) && (decide (((rset vLparts).length : Int) = (vLparts.length : Int)))))) (fun q => q) PassesOwn.never rfl (w_list sqLs (x_var (i := 0) rfl)) (pg_name (i := 3) sc_Lis_split.nd rfl (by first | exact Or.inl rfl | exact Or.inr rfl)) (tg_name (show 3 < 5 by decide)) (fun (s : (List Int)) => [pu (tLs K (tT K tI)) vLparts, pu tI vLcount, pu (tT K tI) s, un, un]) (Lis_split_st1 vLparts vLcount) (Lis_split_Lcolumns1 vLparts vLcount) (fun _ => rfl) (Wk.uns []) ?_ (fun s8 hrs8 => ?_) (fun _ _ h => h) rfl
  · intro ix1 x1 vLcolumns2 hxx1 hsx1 hzx1
    have hs1 := (split_at hpre.2.2.2 hsx1).len
    have hx1 := (hpre.2.2.2 _ (w_at hxx1).2).len
    refine sx_seq (Γ1 := [pu (tLs K (tT K tI)) vLparts, pu tI vLcount, pu (tT K tI) (Lis_split_Lcolumns2 vLparts vLcount vLcolumns2 x1), pu (tT K tI) x1, un]) (s1_setE (i := 2) sc_Lis_split.nd rfl (by first | exact Or.inl rfl | exact Or.inr rfl) (x_val (x_callE (Ss := [pu (tT K tI) vLcolumns2, pu (tT K tI) x1]) (S' := pu (tT K tI) (m_Lunited vLcolumns2 x1)) (ok_Lunited T) (hr.mono (by decide)) T.g_Lunited T.F_Lunited.kp T.b_Lunited (vLcolumns2, x1) (by /-1-/ (try dsimp only); (try simp only [InIx, CDiv, CMul, CPow, List.length_append, List.length_cons, List.length_nil, List.length_singleton, List.length_map, List.length_reverse, List.length_take, List.length_drop]) <;> first | assumption | omega | decide) (ea_cons (x_var (i := 2) rfl) (ea_cons (x_var (i := 3) rfl) ea_nil)) rfl rfl) (z := (Lis_split_Lcolumns2 vLparts vLcount vLcolumns2 x1)) rfl) (show 2 < 5 by decide) rfl) ?_
    refine f_ifr (P := (Turn1 (fun (s : (List Int)) => [pu (tLs K (tT K tI)) vLparts, pu tI vLcount, pu (tT K tI) s, un, un]) (RetP (fun z : Bool => pu tB z)))) (t_cmp op_gt (nomark _) (o_IB (g := fun i j => decide (j < i))) (x_callB call_len T.n_len (by decide +kernel) (n_lenA saLs) (ea_cons (x_frz (x_valoE (x_lc rfl sc_Lis_split.nd (w_list sqLs (x_var (i := 0) rfl)) (blkOk_by (own := [("_law_other", 4)]) (N := N_Lis_split) (sc := defScope s_Lis_split) (by decide +kernel)) (fun _ _ _ _ _ => (pg_name (i := 4) sc_Lis_split.nd rfl (by first | exact Or.inl rfl | exact Or.inr rfl))) (tg_name (show 4 < 5 by decide)) (fun (x3 : (List Int)) => ((!(decide (x3 = x1))) && (m_Lis_within x1 x3))) (fun (x3 : (List Int)) => x3) (fun _ _ _ _ _ ix3 x3 hxx3 => (is_one (t_w (w_and (t_cmp (op_neD hr.units) (nomark _) (o_neD (dT dI)) (x_var (i := 4) rfl) (x_var (i := 3) rfl)) (fun h4 => (w_one (t_val (x_callE (Ss := [pu (tT K tI) x1, pu (tT K tI) x3]) (S' := pu tB (m_Lis_within x1 x3)) (ok_Lis_within T) (by exact hr.mono (by decide)) T.g_Lis_within T.F_Lis_within.kp T.b_Lis_within (x1, x3) trivial (ea_cons (x_var (i := 3) rfl) (ea_cons (x_var (i := 4) rfl) ea_nil)) rfl rfl)) (.inl rfl))))))) (fun _ _ _ _ _ ix3 x3 hxx3 hpx3 => (x_var (i := 4) rfl))) lc_fid rfl)) ea_nil)) x_int) (fun h6 => ?_) (fun h7 => ?_)
    · try simp only [decide_eq_true_eq, decide_eq_false_iff_not, Bool.and_eq_true, Bool.or_eq_true, Bool.not_eq_true', Bool.not_eq_false', Bool.and_eq_false_iff, Bool.or_eq_false_iff] at h6
      exact sx_ret x_bl ⟨⟨⟨_, rfl⟩, _, _, rfl⟩, fun h => h⟩
    try simp only [decide_eq_true_eq, decide_eq_false_iff_not, Bool.and_eq_true, Bool.or_eq_true, Bool.not_eq_true', Bool.not_eq_false', Bool.and_eq_false_iff, Bool.or_eq_false_iff] at h7
    exact f_nx ⟨_, .inl rfl, Wk.uns [3]⟩
  exact sx_ret (x_and (x_cmp (op_eqD hr.units) (nomark _) (o_eqD (dT dI)) (x_var (i := 2) rfl) (x_tupRange rfl T.n_tuple T.n_range (x_var (i := 1) rfl) (by /-2-/ (try dsimp only); (try simp only [InIx, CDiv, CMul, CPow, List.length_append, List.length_cons, List.length_nil, List.length_singleton, List.length_map, List.length_reverse, List.length_take, List.length_drop]) <;> first | assumption | omega | decide))) (fun h9 => (x_and (x_cmp (op_eqD hr.units) (nomark _) (o_eqD (dLs (dT dI))) (x_var (i := 0) rfl) (x_frz (x_callB (Fw.cr_sortedT (by have h_ := hr.un; omega)) T.n_sorted (by decide +kernel) (n_sortT sqLs) (ea_cons (x_var (i := 0) rfl) ea_nil)))) (fun h10 => (x_one (x_cmp (op_eqD hr.units) (nomark _) (o_eqD dI) (x_callB cr_lenST T.n_len (by decide +kernel) n_lenST (ea_cons (x_callT (cr_setOfT rfl (by have h_ := hr.un; omega)) T.n_set (by decide +kernel) (n_setOfT sqLs (by /-3-/ (try simp only [decide_eq_true_eq, decide_eq_false_iff_not, Bool.and_eq_true, Bool.or_eq_true, Bool.not_eq_true', Bool.not_eq_false'] at h9 h10); (try dsimp only); (try simp only [InIx, CDiv, CMul, CPow, List.length_append, List.length_cons, List.length_nil, List.length_singleton, List.length_map, List.length_reverse, List.length_take, List.length_drop]) <;> first | assumption | omega | decide)) (ea_cons (x_var (i := 0) rfl) ea_nil)) ea_nil)) (x_callB call_len T.n_len (by decide +kernel) (n_lenA saLs) (ea_cons (x_var (i := 0) rfl) ea_nil)))))))) ⟨_, rfl⟩

theorem ok_Lmerge (T : Tx K mg base) : FnOk P w K mg base CX0 1 T.a_Lmerge T.d_Lmerge ["_law_table", "_law_column", "_law_low", "_law_high"] (spM (A := (List Addr) × (List (List Int)) × Int × Int × Int) (fun x => (∃ n c : Nat, Shape n c x.2.1 ∧ 0 ≤ x.2.2.1 ∧ x.2.2.1 < (c : Int))) (fun x => mx tI x.1 x.2.1) (fun x => [pu tI x.2.2.1, pu tI x.2.2.2.1, pu tI x.2.2.2.2]) (fun x => mx tI x.1 (m_Lmerge x.2.1 x.2.2.1 x.2.2.2.1 x.2.2.2.2)) (fun _ => pu tN ())) := by
  refine fn_okM T.F_Lmerge sc_Lmerge (fun _ => rfl) (fun _ => gho_mx) (fun _ => gho_mx) fun X x a hX hr hpre => ?_
  obtain ⟨qs, vLtable, vLcolumn, vLlow, vLhigh⟩ := x
  obtain ⟨cdv, A, outer, s, H, E, rfl⟩ := hX
  replace hpre : ∃ n c : Nat, Shape n c vLtable ∧ 0 ≤ vLcolumn ∧ vLcolumn < (c : Int) := hpre
  have hz1 : sizeLine = 16777216 := rfl
  have hz2 : scanBound = 4096 := rfl
  obtain ⟨n, c, hsh, hc0, hc1⟩ := hpre
  have hln := hsh.1
  show SX _ _ [mx tI qs vLtable a, pu tI vLcolumn, pu tI vLlow, pu tI vLhigh, un] _
  refine f_for PassesOwn.never rfl (w_list sqLs (x_mxVar (i := 0) rfl)) (pg_name (i := 4) sc_Lmerge.nd rfl (by first | exact Or.inl rfl | exact Or.inr rfl)) (tg_name (show 4 < 5 by decide)) (fun (s : (List (List Int))) => [mx tI qs s a, pu tI vLcolumn, pu tI vLlow, pu tI vLhigh, un]) (Lmerge_st1 vLtable vLcolumn vLlow vLhigh) vLtable (Lmerge_loop1 vLtable vLcolumn vLlow vLhigh) rfl (fun _ => rfl) (Wk.uns []) ?_ ?_
  · intro ix1 x1 vLtable2 hxx1 hsx1 hzx1
    have hrhxx1 := rng_at hxx1
    have hat := merge_at hsh hsx1
    have hal := hat.1
    have hrx := rng_at hxx1
    have hax := shape_ix hat (k := x1) (by omega)
    refine f_ifJ (fun (s : (List (List Int))) => [mx tI qs s a, pu tI vLcolumn, pu tI vLlow, pu tI vLhigh, pu (tRef qs) x1]) (Lmerge_j_Ltable1 vLtable vLcolumn vLlow vLhigh vLtable2 x1) (A := (Lmerge_Ltable1 vLtable vLcolumn vLlow vLhigh vLtable2 x1)) (B := vLtable2) (t_cmp (op_eqD hr.units) (nomark _) (o_eqD dI) (x_mxIx (i := 0) (j := 4) rfl rfl (x_var (i := 1) rfl) (by /-1-/ (try dsimp only); (try simp only [InIx, CDiv, CMul, CPow, List.length_append, List.length_cons, List.length_nil, List.length_singleton, List.length_map, List.length_reverse, List.length_take, List.length_drop]) <;> first | assumption | omega | decide) (by /-2-/ (try dsimp only); (try simp only [InIx, CDiv, CMul, CPow, List.length_append, List.length_cons, List.length_nil, List.length_singleton, List.length_map, List.length_reverse, List.length_take, List.length_drop]) <;> first | assumption | omega | decide)) (x_var (i := 3) rfl)) rfl (fun h3 => ?_) (fun h4 => ?_) ?_
    · try simp only [decide_eq_true_eq, decide_eq_false_iff_not, Bool.and_eq_true, Bool.or_eq_true, Bool.not_eq_true', Bool.not_eq_false', Bool.and_eq_false_iff, Bool.or_eq_false_iff] at h3
      refine sx_seq (Γ1 := [mx tI qs (Lmerge_Ltable1 vLtable vLcolumn vLlow vLhigh vLtable2 x1) a, pu tI vLcolumn, pu tI vLlow, pu tI vLhigh, pu (tRef qs) x1]) (s1_mxPut (Γ := [mx tI qs vLtable2 a, pu tI vLcolumn, pu tI vLlow, pu tI vLhigh, pu (tRef qs) x1]) (i := 0) (j := 4) rfl rfl (x_var (i := 2) rfl) (x_var (i := 1) rfl) (by /-3-/ (try dsimp only); (try simp only [InIx, CDiv, CMul, CPow, List.length_append, List.length_cons, List.length_nil, List.length_singleton, List.length_map, List.length_reverse, List.length_take, List.length_drop]) <;> first | assumption | omega | decide) (by /-4-/ (try dsimp only); (try simp only [InIx, CDiv, CMul, CPow, List.length_append, List.length_cons, List.length_nil, List.length_singleton, List.length_map, List.length_reverse, List.length_take, List.length_drop]) <;> first | assumption | omega | decide) rfl) ?_
      exact f_nx ⟨_, rfl, Wk.uns []⟩
    · try simp only [decide_eq_true_eq, decide_eq_false_iff_not, Bool.and_eq_true, Bool.or_eq_true, Bool.not_eq_true', Bool.not_eq_false', Bool.and_eq_false_iff, Bool.or_eq_false_iff] at h4
      exact f_nx ⟨_, rfl, Wk.uns []⟩
    exact f_nx ⟨_, .inl rfl, Wk.uns [4]⟩
  exact f_nx (.inr ⟨_, rfl, fun _ => ⟨rfl, _, rfl, rfl⟩⟩)

theorem ok_Lis_lossless (T : Tx K mg base) : FnOk P w K mg base CX0 2 T.a_Lis_lossless T.d_Lis_lossless ["_law_rows", "_law_parts", "_law_count"] (spP (A := (List ((List Int) × (List Int))) × (List (List Int)) × Int) (fun x => (0 ≤ x.2.2 ∧ x.2.2 ≤ 7 ∧ x.2.1.length ≤ 200 ∧ ∀ d ∈ x.1, Cols x.2.2.toNat d.1 ∧ Cols x.2.2.toNat d.2)) (fun x => [pu (tLs K (tP2 K (tT K tI) (tT K tI))) x.1, pu (tLs K (tT K tI)) x.2.1, pu tI x.2.2]) (fun x => pu tB (m_Lis_lossless x.1 x.2.1 x.2.2))) := by
  refine fn_ok T.F_Lis_lossless sc_Lis_lossless (fun _ => rfl) fun X x hX hr hpre => ?_
  obtain ⟨vLrows, vLparts, vLcount⟩ := x
  obtain ⟨cdv, A, outer, s, H, E, rfl⟩ := hX
  replace hpre : 0 ≤ vLcount ∧ vLcount ≤ 7 ∧ vLparts.length ≤ 200 ∧ ∀ d ∈ vLrows, Cols vLcount.toNat d.1 ∧ Cols vLcount.toNat d.2 := hpre
  have hz1 : sizeLine = 16777216 := rfl
  have hz2 : scanBound = 4096 := rfl
  have htl := turns_le (k := vLparts.length) ⟨hpre.1, hpre.2.1⟩ hpre.2.2.1
  show SX _ _ [pu (tLs K (tP2 K (tT K tI) (tT K tI))) vLrows, pu (tLs K (tT K tI)) vLparts, pu tI vLcount, un, un, un, un, un, un, un] _
  refine SX.imp (P := RetP (fun z : Bool => pu tB z) (m_Lis_lossless vLrows vLparts vLcount)) ?_ fun r h => .inl h
  unfold m_Lis_lossless
  refine sx_seq (s1_setLcW (AS := ml tI) (ES := ol tI) ml_nil ml_app (i := 3) (v := (Lis_lossless_Ltable1 vLrows vLparts vLcount)) rfl sc_Lis_lossless.nd rfl rfl (sw_true rfl rfl rfl (by decide +kernel)) (show 3 < 10 by decide) (w_range1 T.n_range (x_callB call_len T.n_len (by decide +kernel) (n_lenA saLs) (ea_cons (x_var (i := 1) rfl) ea_nil)) (by /-1-/ (try dsimp only); (try simp only [InIx, CDiv, CMul, CPow, List.length_append, List.length_cons, List.length_nil, List.length_singleton, List.length_map, List.length_reverse, List.length_take, List.length_drop]) <;> first | assumption | omega | decide) (by /-2-/ (try dsimp only); (try simp only [InIx, CDiv, CMul, CPow, List.length_append, List.length_cons, List.length_nil, List.length_singleton, List.length_map, List.length_reverse, List.length_take, List.length_drop]) <;> first | assumption | omega | decide)) (blkOk_by (own := [("_law_k", 5)]) (N := N_Lis_lossless) (sc := defScope s_Lis_lossless) (by decide +kernel)) (fun _ _ _ _ _ => (pg_name (i := 5) sc_Lis_lossless.nd rfl (by first | exact Or.inl rfl | exact Or.inr rfl))) (tg_name (show 5 < 10 by decide)) (fun (x1 : Int) => true) (fun (x1 : Int) => ((rangeI 0 vLcount).map (fun (x2 : Int) => (ix ([(x1 + (1 : Int)), (0 : Int)] : List Int) (if (decide (x2 ∈ (ix vLparts x1))) = true then (1 : Int) else (0 : Int)))))) (fun _ _ _ _ _ ix1 x1 hxx1 => is_nil) (fun _ _ _ _ _ ix1 x1 hxx1 hpx1 => (x_valoE (x_lc rfl sc_Lis_lossless.nd (w_range1 T.n_range (x_var (i := 2) rfl) (by /-3-/ have hrhxx1 := rng_at hxx1; (try dsimp only); (try simp only [InIx, CDiv, CMul, CPow, List.length_append, List.length_cons, List.length_nil, List.length_singleton, List.length_map, List.length_reverse, List.length_take, List.length_drop]) <;> first | assumption | omega | decide) (by /-4-/ have hrhxx1 := rng_at hxx1; (try dsimp only); (try simp only [InIx, CDiv, CMul, CPow, List.length_append, List.length_cons, List.length_nil, List.length_singleton, List.length_map, List.length_reverse, List.length_take, List.length_drop]) <;> first | assumption | omega | decide)) (blkOk_nest (own := [("_law_c", 4)]) (N := N_Lis_lossless) (sc := defScope s_Lis_lossless) rfl rfl (by decide +kernel)) (fun _ _ _ _ _ => (pg_name (i := 4) sc_Lis_lossless.nd rfl (by first | exact Or.inl rfl | exact Or.inr rfl))) (tg_name (by show 4 < 10; decide)) (fun (x2 : Int) => true) (fun (x2 : Int) => (ix ([(x1 + (1 : Int)), (0 : Int)] : List Int) (if (decide (x2 ∈ (ix vLparts x1))) = true then (1 : Int) else (0 : Int)))) (fun _ _ _ _ _ ix2 x2 hxx2 => is_nil) (fun _ _ _ _ _ ix2 x2 hxx2 hpx2 => (x_ix ix_list (o_ixL sqLs (by /-6-/ have hrhxx1 := rng_at hxx1; have hrhxx2 := rng_at hxx2; (try dsimp only); (try simp only [InIx, CDiv, CMul, CPow, List.length_append, List.length_cons, List.length_nil, List.length_singleton, List.length_map, List.length_reverse, List.length_take, List.length_drop]) <;> first | assumption | omega | decide)) (x_frz (x_lst (Ss := [pu tI (x1 + (1 : Int)), pu tI (0 : Int)]) (n_lst (R := tI) (xs := [(x1 + (1 : Int)), (0 : Int)]) (show 2 ≤ sizeLine by decide)) (ea_cons (x_add (x_var (i := 5) rfl) x_int) (ea_cons x_int ea_nil)))) (x_callT call_int1 T.n_int (by decide +kernel) n_intB (ea_cons (x_cmp op_in_seq (by rfl) (o_in saT) (x_var (i := 4) rfl) (x_ix ix_list (o_ixL sqLs (by /-5-/ have hrhxx1 := rng_at hxx1; have hrhxx2 := rng_at hxx2; (try dsimp only); (try simp only [InIx, CDiv, CMul, CPow, List.length_append, List.length_cons, List.length_nil, List.length_singleton, List.length_map, List.length_reverse, List.length_take, List.length_drop]) <;> first | assumption | omega | decide)) (x_var (i := 1) rfl) (x_var (i := 5) rfl))) ea_nil))))) lc_all rfl)) lc_all) ?_
  show SX _ _ [pu (tLs K (tP2 K (tT K tI) (tT K tI))) vLrows, pu (tLs K (tT K tI)) vLparts, pu tI vLcount, ml tI (Lis_lossless_Ltable1 vLrows vLparts vLcount), un, un, un, un, un, un] _
  refine sx_mx (i := 3) rfl fun qs3 p4 => ?_
  show SX _ _ [pu (tLs K (tP2 K (tT K tI) (tT K tI))) vLrows, pu (tLs K (tT K tI)) vLparts, pu tI vLcount, mx tI qs3 (Lis_lossless_Ltable1 vLrows vLparts vLcount) p4, un, un, un, un, un, un] _
  refine f_for PassesOwn.never rfl (w_range1 T.n_range (x_add (x_mul (x_var (i := 2) rfl) (x_callB call_len T.n_len (by decide +kernel) (n_lenA saLs) (ea_cons (x_var (i := 1) rfl) ea_nil)) (by /-7-/ (try dsimp only); (try simp only [InIx, CDiv, CMul, CPow, List.length_append, List.length_cons, List.length_nil, List.length_singleton, List.length_map, List.length_reverse, List.length_take, List.length_drop]) <;> first | assumption | omega | decide)) x_int) (by /-8-/ (try dsimp only); (try simp only [InIx, CDiv, CMul, CPow, List.length_append, List.length_cons, List.length_nil, List.length_singleton, List.length_map, List.length_reverse, List.length_take, List.length_drop]) <;> first | assumption | omega | decide) (by /-9-/ (try dsimp only); (try simp only [InIx, CDiv, CMul, CPow, List.length_append, List.length_cons, List.length_nil, List.length_singleton, List.length_map, List.length_reverse, List.length_take, List.length_drop]) <;> first | assumption | omega | decide)) (pg_name (i := 6) sc_Lis_lossless.nd rfl (by first | exact Or.inl rfl | exact Or.inr rfl)) (tg_name (show 6 < 10 by decide)) (fun (s : (List (List Int))) => [pu (tLs K (tP2 K (tT K tI) (tT K tI))) vLrows, pu (tLs K (tT K tI)) vLparts, pu tI vLcount, mx tI qs3 s p4, un, un, un, un, un, un]) (Lis_lossless_st1 vLrows vLparts vLcount) (Lis_lossless_Ltable1 vLrows vLparts vLcount) (Lis_lossless_loop5 vLrows vLparts vLcount) rfl (fun _ => rfl) (Wk.uns []) ?_ ?_
  · intro ix5 x5 vLtable6 hxx5 hsx5 hzx5
    have hrhxx5 := rng_at hxx5
    have h1 := ll_at1 vLrows vLparts vLcount hsx5
    have h1l := h1.1
    refine f_for PassesOwn.never rfl (w_list sqLs (x_var (i := 0) rfl)) (pg_name (i := 7) sc_Lis_lossless.nd rfl (by first | exact Or.inl rfl | exact Or.inr rfl)) (tg_name (show 7 < 10 by decide)) (fun (s : (List (List Int))) => [pu (tLs K (tP2 K (tT K tI) (tT K tI))) vLrows, pu (tLs K (tT K tI)) vLparts, pu tI vLcount, mx tI qs3 s p4, un, un, pu tI x5, un, un, un]) (Lis_lossless_st2 vLrows vLparts vLcount vLtable6 x5) vLtable6 (Lis_lossless_loop4 vLrows vLparts vLcount vLtable6 x5) rfl (fun _ => rfl) (Wk.uns []) ?_ ?_
    · intro ix7 x7 vLtable8 hxx7 hsx7 hzx7
      have h2 := ll_at2 vLrows vLparts vLcount x5 h1 hsx7
      have h2l := h2.1
      have hd := hpre.2.2.2 _ (w_at hxx7).2
      refine f_for PassesOwn.never rfl (w_list sqLs (x_mxVar (i := 3) rfl)) (pg_name (i := 8) sc_Lis_lossless.nd rfl (by first | exact Or.inl rfl | exact Or.inr rfl)) (tg_name (show 8 < 10 by decide)) (fun (s : (List (List Int))) => [pu (tLs K (tP2 K (tT K tI) (tT K tI))) vLrows, pu (tLs K (tT K tI)) vLparts, pu tI vLcount, mx tI qs3 s p4, un, un, pu tI x5, pu (tP2 K (tT K tI) (tT K tI)) x7, un, un]) (Lis_lossless_st3 vLrows vLparts vLcount vLtable6 x5 vLtable8 x7) vLtable8 (Lis_lossless_loop3 vLrows vLparts vLcount vLtable6 x5 vLtable8 x7) rfl (fun _ => rfl) (Wk.uns []) ?_ ?_
      · intro ix9 x9 vLtable10 hxx9 hsx9 hzx9
        have hrhxx9 := rng_at hxx9
        have h3 := ll_at3 vLrows vLparts vLcount _ x5 x7 h2 hsx9
        have h3l := h3.1
        have hr9 := rng_at hxx9
        refine f_for PassesOwn.never rfl (w_list sqLs (x_mxVar (i := 3) rfl)) (pg_name (i := 9) sc_Lis_lossless.nd rfl (by first | exact Or.inl rfl | exact Or.inr rfl)) (tg_name (show 9 < 10 by decide)) (fun (s : (List (List Int))) => [pu (tLs K (tP2 K (tT K tI) (tT K tI))) vLrows, pu (tLs K (tT K tI)) vLparts, pu tI vLcount, mx tI qs3 s p4, un, un, pu tI x5, pu (tP2 K (tT K tI) (tT K tI)) x7, pu (tRef qs3) x9, un]) (Lis_lossless_st4 vLrows vLparts vLcount vLtable6 x5 vLtable8 x7 vLtable10 x9) vLtable10 (Lis_lossless_loop2 vLrows vLparts vLcount vLtable6 x5 vLtable8 x7 vLtable10 x9) rfl (fun _ => rfl) (Wk.uns []) ?_ ?_
        · intro ix11 x11 vLtable12 hxx11 hsx11 hzx11
          have hrhxx11 := rng_at hxx11
          have h4 := ll_at4 vLrows vLparts vLcount _ x5 _ x7 x9 h3 hsx11
          have h4l := h4.1
          have hr11 := rng_at hxx11
          have hq9 := shape_ix h4 (k := x9) (by omega)
          have hq11 := shape_ix h4 (k := x11) (by omega)
          refine f_ifJ (fun (s : (List (List Int))) => [pu (tLs K (tP2 K (tT K tI) (tT K tI))) vLrows, pu (tLs K (tT K tI)) vLparts, pu tI vLcount, mx tI qs3 s p4, un, un, pu tI x5, pu (tP2 K (tT K tI) (tT K tI)) x7, pu (tRef qs3) x9, pu (tRef qs3) x11]) (Lis_lossless_j_Ltable1 vLrows vLparts vLcount vLtable6 x5 vLtable8 x7 vLtable10 x9 vLtable12 x11) (A := (Lis_lossless_loop1 vLrows vLparts vLcount vLtable6 x5 vLtable8 x7 vLtable10 x9 vLtable12 x11)) (B := vLtable12) (t_cmp (op_eqD hr.units) (nomark _) (o_eqD (dLs dI)) (x_frz (x_valoE (x_lc rfl sc_Lis_lossless.nd (w_tup sqT (x_ix ix_tup (o_ixP2_0 (x := x7)) (x_var (i := 7) rfl) x_int)) (blkOk_by (own := [("_law_c", 4)]) (N := N_Lis_lossless) (sc := defScope s_Lis_lossless) (by decide +kernel)) (fun _ _ _ _ _ => (pg_name (i := 4) sc_Lis_lossless.nd rfl (by first | exact Or.inl rfl | exact Or.inr rfl))) (tg_name (show 4 < 10 by decide)) (fun (x13 : Int) => true) (fun (x13 : Int) => (ix (ix vLtable12 x9) x13)) (fun _ _ _ _ _ ix13 x13 hxx13 => is_nil) (fun _ _ _ _ _ ix13 x13 hxx13 hpx13 => (x_mxIx (i := 3) (j := 8) rfl rfl (x_var (i := 4) rfl) (by /-10-/ (try dsimp only); (try simp only [InIx, CDiv, CMul, CPow, List.length_append, List.length_cons, List.length_nil, List.length_singleton, List.length_map, List.length_reverse, List.length_take, List.length_drop]) <;> first | assumption | omega | decide) (by have hr := hd.1.rg _ (w_at hxx13).2; exact ⟨by omega, by omega⟩)))) lc_all rfl)) (x_frz (x_valoE (x_lc rfl sc_Lis_lossless.nd (w_tup sqT (x_ix ix_tup (o_ixP2_0 (x := x7)) (x_var (i := 7) rfl) x_int)) (blkOk_by (own := [("_law_c", 4)]) (N := N_Lis_lossless) (sc := defScope s_Lis_lossless) (by decide +kernel)) (fun _ _ _ _ _ => (pg_name (i := 4) sc_Lis_lossless.nd rfl (by first | exact Or.inl rfl | exact Or.inr rfl))) (tg_name (show 4 < 10 by decide)) (fun (x14 : Int) => true) (fun (x14 : Int) => (ix (ix vLtable12 x11) x14)) (fun _ _ _ _ _ ix14 x14 hxx14 => is_nil) (fun _ _ _ _ _ ix14 x14 hxx14 hpx14 => (x_mxIx (i := 3) (j := 9) rfl rfl (x_var (i := 4) rfl) (by /-12-/ (try dsimp only); (try simp only [InIx, CDiv, CMul, CPow, List.length_append, List.length_cons, List.length_nil, List.length_singleton, List.length_map, List.length_reverse, List.length_take, List.length_drop]) <;> first | assumption | omega | decide) (by have hr := hd.1.rg _ (w_at hxx14).2; exact ⟨by omega, by omega⟩)))) lc_all rfl))) rfl (fun h15 => ?_) (fun h16 => ?_) ?_
          · try simp only [decide_eq_true_eq, decide_eq_false_iff_not, Bool.and_eq_true, Bool.or_eq_true, Bool.not_eq_true', Bool.not_eq_false', Bool.and_eq_false_iff, Bool.or_eq_false_iff] at h15
            refine f_for PassesOwn.never rfl (w_tup sqT (x_ix ix_tup (o_ixP2_1 (x := x7)) (x_var (i := 7) rfl) x_int)) (pg_name (i := 4) sc_Lis_lossless.nd rfl (by first | exact Or.inl rfl | exact Or.inr rfl)) (tg_name (show 4 < 10 by decide)) (fun (s : (List (List Int))) => [pu (tLs K (tP2 K (tT K tI) (tT K tI))) vLrows, pu (tLs K (tT K tI)) vLparts, pu tI vLcount, mx tI qs3 s p4, un, un, pu tI x5, pu (tP2 K (tT K tI) (tT K tI)) x7, pu (tRef qs3) x9, pu (tRef qs3) x11]) (Lis_lossless_st5 vLrows vLparts vLcount vLtable6 x5 vLtable8 x7 vLtable10 x9 vLtable12 x11) vLtable12 (Lis_lossless_loop1 vLrows vLparts vLcount vLtable6 x5 vLtable8 x7 vLtable10 x9 vLtable12 x11) rfl (fun _ => rfl) (Wk.uns []) ?_ ?_
            · intro ix17 x17 vLtable18 hxx17 hsx17 hzx17
              have h5 := ll_at5 vLrows vLparts vLcount _ x5 _ x7 _ x9 x11 h4 hsx17
              have h5l := h5.1
              have hp9 := shape_ix h5 (k := x9) (by omega)
              have hp11 := shape_ix h5 (k := x11) (by omega)
              have hr17 := hd.2.rg _ (w_at hxx17).2
              refine sx_seq (Γ1 := [pu (tLs K (tP2 K (tT K tI) (tT K tI))) vLrows, pu (tLs K (tT K tI)) vLparts, pu tI vLcount, mx tI qs3 (Lis_lossless_Ltable2 vLrows vLparts vLcount vLtable6 x5 vLtable8 x7 vLtable10 x9 vLtable12 x11 vLtable18 x17) p4, pu tI x17, un, pu tI x5, pu (tP2 K (tT K tI) (tT K tI)) x7, pu (tRef qs3) x9, pu (tRef qs3) x11]) (s1_expr (x_callX (i := 3) (Γ := [pu (tLs K (tP2 K (tT K tI) (tT K tI))) vLrows, pu (tLs K (tT K tI)) vLparts, pu tI vLcount, mx tI qs3 vLtable18 p4, pu tI x17, un, pu tI x5, pu (tP2 K (tT K tI) (tT K tI)) x7, pu (tRef qs3) x9, pu (tRef qs3) x11]) (Γ2 := [pu (tLs K (tP2 K (tT K tI) (tT K tI))) vLrows, pu (tLs K (tT K tI)) vLparts, pu tI vLcount, mx tI qs3 (Lis_lossless_Ltable2 vLrows vLparts vLcount vLtable6 x5 vLtable8 x7 vLtable10 x9 vLtable12 x11 vLtable18 x17) p4, pu tI x17, un, pu tI x5, pu (tP2 K (tT K tI) (tT K tI)) x7, pu (tRef qs3) x9, pu (tRef qs3) x11]) (S0 := mx tI qs3 vLtable18 p4) (S2 := mx tI qs3 (Lis_lossless_Ltable2 vLrows vLparts vLcount vLtable6 x5 vLtable8 x7 vLtable10 x9 vLtable12 x11 vLtable18 x17) p4) (Ss := [pu tI x17, pu tI (if (ix (ix vLtable18 x11) x17) < (ix (ix vLtable18 x9) x17) then (ix (ix vLtable18 x11) x17) else (ix (ix vLtable18 x9) x17)), pu tI (if (ix (ix vLtable18 x11) x17) > (ix (ix vLtable18 x9) x17) then (ix (ix vLtable18 x11) x17) else (ix (ix vLtable18 x9) x17))]) (S' := pu tN ()) (a := p4) rfl (ok_Lmerge T) (hr.mono (by decide)) T.g_Lmerge T.F_Lmerge.kp T.b_Lmerge (ea_cons (x_mxAt (i := 3) rfl) (ea_cons (x_var (i := 4) rfl) (ea_cons (x_callB (call_min2 rfl) T.n_min (by decide +kernel) n_min2 (ea_cons (x_mxIx (i := 3) (j := 8) rfl rfl (x_var (i := 4) rfl) (by /-14-/ (try dsimp only); (try simp only [InIx, CDiv, CMul, CPow, List.length_append, List.length_cons, List.length_nil, List.length_singleton, List.length_map, List.length_reverse, List.length_take, List.length_drop]) <;> first | assumption | omega | decide) (by /-15-/ (try dsimp only); (try simp only [InIx, CDiv, CMul, CPow, List.length_append, List.length_cons, List.length_nil, List.length_singleton, List.length_map, List.length_reverse, List.length_take, List.length_drop]) <;> first | assumption | omega | decide)) (ea_cons (x_mxIx (i := 3) (j := 9) rfl rfl (x_var (i := 4) rfl) (by /-16-/ (try dsimp only); (try simp only [InIx, CDiv, CMul, CPow, List.length_append, List.length_cons, List.length_nil, List.length_singleton, List.length_map, List.length_reverse, List.length_take, List.length_drop]) <;> first | assumption | omega | decide) (by /-17-/ (try dsimp only); (try simp only [InIx, CDiv, CMul, CPow, List.length_append, List.length_cons, List.length_nil, List.length_singleton, List.length_map, List.length_reverse, List.length_take, List.length_drop]) <;> first | assumption | omega | decide)) ea_nil))) (ea_cons (x_callB (call_max2 rfl) T.n_max (by decide +kernel) n_max2 (ea_cons (x_mxIx (i := 3) (j := 8) rfl rfl (x_var (i := 4) rfl) (by /-18-/ (try dsimp only); (try simp only [InIx, CDiv, CMul, CPow, List.length_append, List.length_cons, List.length_nil, List.length_singleton, List.length_map, List.length_reverse, List.length_take, List.length_drop]) <;> first | assumption | omega | decide) (by /-19-/ (try dsimp only); (try simp only [InIx, CDiv, CMul, CPow, List.length_append, List.length_cons, List.length_nil, List.length_singleton, List.length_map, List.length_reverse, List.length_take, List.length_drop]) <;> first | assumption | omega | decide)) (ea_cons (x_mxIx (i := 3) (j := 9) rfl rfl (x_var (i := 4) rfl) (by /-20-/ (try dsimp only); (try simp only [InIx, CDiv, CMul, CPow, List.length_append, List.length_cons, List.length_nil, List.length_singleton, List.length_map, List.length_reverse, List.length_take, List.length_drop]) <;> first | assumption | omega | decide) (by /-21-/ (try dsimp only); (try simp only [InIx, CDiv, CMul, CPow, List.length_append, List.length_cons, List.length_nil, List.length_singleton, List.length_map, List.length_reverse, List.length_take, List.length_drop]) <;> first | assumption | omega | decide)) ea_nil))) ea_nil)))) (qs3, vLtable18, x17, (if (ix (ix vLtable18 x11) x17) < (ix (ix vLtable18 x9) x17) then (ix (ix vLtable18 x11) x17) else (ix (ix vLtable18 x9) x17)), (if (ix (ix vLtable18 x11) x17) > (ix (ix vLtable18 x9) x17) then (ix (ix vLtable18 x11) x17) else (ix (ix vLtable18 x9) x17))) (by dsimp only; exact ⟨_, _, h5, by omega, by omega⟩) rfl rfl rfl gho_mx gho_mx rfl rfl)) ?_
              exact f_nx ⟨_, .inl rfl, Wk.uns [4]⟩
            exact f_nx ⟨_, rfl, Wk.uns []⟩
          · try simp only [decide_eq_true_eq, decide_eq_false_iff_not, Bool.and_eq_true, Bool.or_eq_true, Bool.not_eq_true', Bool.not_eq_false', Bool.and_eq_false_iff, Bool.or_eq_false_iff] at h16
            exact f_nx ⟨_, rfl, Wk.uns []⟩
          exact f_nx ⟨_, .inl rfl, Wk.uns [9]⟩
        exact f_nx ⟨_, .inl rfl, Wk.uns [8]⟩
      exact f_nx ⟨_, .inl rfl, Wk.uns [7]⟩
    exact f_nx ⟨_, .inl rfl, Wk.uns [6]⟩
  refine SX.wk (Γ' := [pu (tLs K (tP2 K (tT K tI) (tT K tI))) vLrows, pu (tLs K (tT K tI)) vLparts, pu tI vLcount, pu (tLs K (tLs K tI)) (Lis_lossless_loop5 vLrows vLparts vLcount), un, un, un, un, un, un]) (Wk.frzMx K (i := 3) rfl) ?_
  exact sx_ret (x_cmp (op_inD hr.units) (by rfl) (o_inLy (dLs dI)) (x_frz (x_valoE (x_lc rfl sc_Lis_lossless.nd (w_range1 T.n_range (x_var (i := 2) rfl) (by /-23-/ (try dsimp only); (try simp only [InIx, CDiv, CMul, CPow, List.length_append, List.length_cons, List.length_nil, List.length_singleton, List.length_map, List.length_reverse, List.length_take, List.length_drop]) <;> first | assumption | omega | decide) (by /-24-/ (try dsimp only); (try simp only [InIx, CDiv, CMul, CPow, List.length_append, List.length_cons, List.length_nil, List.length_singleton, List.length_map, List.length_reverse, List.length_take, List.length_drop]) <;> first | assumption | omega | decide)) (blkOk_by (own := [("_law_c", 4)]) (N := N_Lis_lossless) (sc := defScope s_Lis_lossless) (by decide +kernel)) (fun _ _ _ _ _ => (pg_name (i := 4) sc_Lis_lossless.nd rfl (by first | exact Or.inl rfl | exact Or.inr rfl))) (tg_name (show 4 < 10 by decide)) (fun (x19 : Int) => true) (fun (x19 : Int) => (0 : Int)) (fun _ _ _ _ _ ix19 x19 hxx19 => is_nil) (fun _ _ _ _ _ ix19 x19 hxx19 hpx19 => x_int)) lc_all rfl)) (x_var (i := 3) rfl)) ⟨_, rfl⟩

theorem ok_law (T : Tx K mg base) : FnOk P w K mg base CX0 7 T.a_law T.d_law ["_law_script"] (spP (A := (List Int)) (fun x => (x.length ≤ 63)) (fun x => [pu (tL K tI) x]) (fun x => pu tB (m_law x))) := by
  refine fn_ok T.F_law sc_law (fun _ => rfl) fun X vLscript hX hr hpre => ?_
  obtain ⟨cdv, A, outer, s, H, E, rfl⟩ := hX
  replace hpre : vLscript.length ≤ 63 := hpre
  have hz1 : sizeLine = 16777216 := rfl
  have hz2 : scanBound = 4096 := rfl
  have hn := law_n vLscript
  have hcnt := law_count vLscript
  have hrw := law_rows vLscript
  have hrl := hrw.2
  have hr16 := law_rows16 vLscript
  have htd := law_tdok vLscript
  have hcl := law_cols vLscript
  have hbc := law_bc vLscript
  have hbl := hbc.1
  have p1 : Cols 7 (law_Lcolumns1 vLscript) ∧ DOk 16 (law_Ltold1 vLscript) := ⟨hcl, htd⟩
  have p2 : 0 ≤ law_Lcount1 vLscript ∧ law_Lcount1 vLscript ≤ 6 ∧ (law_Lrows1 vLscript).length ≤ 1000 ∧ POk 16 (law_Lrows1 vLscript) := ⟨by omega, by omega, by omega, hr16⟩
  have p3 : 0 ≤ law_Lcount1 vLscript ∧ law_Lcount1 vLscript ≤ 5 ∧ DOk 16 (law_Ltold1 vLscript) := ⟨by omega, by omega, htd⟩
  have p4 : (law_Lparts1 vLscript).length ≤ 60 ∧ 0 ≤ law_Lcount1 vLscript ∧ law_Lcount1 vLscript ≤ 7 ∧ ∀ y ∈ law_Lparts1 vLscript, Cols 7 y := ⟨Nat.le_trans hbl (by decide), by omega, by omega, hbc.2⟩
  have p5 : 0 ≤ law_Lcount1 vLscript ∧ law_Lcount1 vLscript ≤ 7 ∧ (law_Lparts1 vLscript).length ≤ 200 ∧ ∀ d ∈ law_Lrows1 vLscript, Cols (law_Lcount1 vLscript).toNat d.1 ∧ Cols (law_Lcount1 vLscript).toNat d.2 := ⟨by omega, by omega, Nat.le_trans hbl (by decide), hrw.1⟩
  show SX _ _ [pu (tL K tI) vLscript, un, un, un, un, un, un, un, un, un, un, un, un] _
  refine SX.imp (P := RetP (fun z : Bool => pu tB z) (m_law vLscript)) ?_ fun r h => .inl h
  unfold m_law
  refine sx_seq (Γ1 := [pu (tL K tI) vLscript, pu (tLs K tI) (law_Lnumbers_here1 vLscript), un, un, un, un, un, un, un, un, un, un, un]) (s1_setE (i := 1) sc_law.nd rfl (by first | exact Or.inl rfl | exact Or.inr rfl) (x_val (x_callE (Ss := [pu (tL K tI) vLscript, pu tI (10 : Int)]) (S' := pu (tLs K tI) (m_Lnumbers vLscript (10 : Int))) (ok_Lnumbers T) (hr.mono (by decide)) T.g_Lnumbers T.F_Lnumbers.kp T.b_Lnumbers (vLscript, (10 : Int)) (by /-1-/ (try dsimp only); (try simp only [InIx, CDiv, CMul, CPow, List.length_append, List.length_cons, List.length_nil, List.length_singleton, List.length_map, List.length_reverse, List.length_take, List.length_drop]) <;> first | assumption | omega | decide) (ea_cons (x_var (i := 0) rfl) (ea_cons x_int ea_nil)) rfl rfl) (z := (law_Lnumbers_here1 vLscript)) rfl) (show 1 < 13 by decide) rfl) ?_
  refine sx_seq (Γ1 := [pu (tL K tI) vLscript, pu (tLs K tI) (law_Lnumbers_here1 vLscript), pu tI (law_Lcount1 vLscript), un, un, un, un, un, un, un, un, un, un]) (s1_setE (i := 2) sc_law.nd rfl (by first | exact Or.inl rfl | exact Or.inr rfl) (x_val (x_add (x_mod (x_ix ix_list (o_ixL sqLs (by /-2-/ (try dsimp only); (try simp only [InIx, CDiv, CMul, CPow, List.length_append, List.length_cons, List.length_nil, List.length_singleton, List.length_map, List.length_reverse, List.length_take, List.length_drop]) <;> first | assumption | omega | decide)) (x_var (i := 1) rfl) x_int) x_int (by /-3-/ (try dsimp only); (try simp only [InIx, CDiv, CMul, CPow, List.length_append, List.length_cons, List.length_nil, List.length_singleton, List.length_map, List.length_reverse, List.length_take, List.length_drop]) <;> first | assumption | omega | decide)) x_int) (z := (law_Lcount1 vLscript)) rfl) (show 2 < 13 by decide) rfl) ?_
  refine sx_seq (Γ1 := [pu (tL K tI) vLscript, pu (tLs K tI) (law_Lnumbers_here1 vLscript), pu tI (law_Lcount1 vLscript), pu (tLs K (tP2 K (tT K tI) (tT K tI))) (law_Lrows1 vLscript), un, un, un, un, un, un, un, un, un]) (s1_setE (i := 3) sc_law.nd rfl (by first | exact Or.inl rfl | exact Or.inr rfl) (x_val (x_callE (Ss := [pu (tLs K tI) (law_Lnumbers_here1 vLscript), pu tI (1 : Int), pu tI (law_Lcount1 vLscript)]) (S' := pu (tLs K (tP2 K (tT K tI) (tT K tI))) (m_Lfds (law_Lnumbers_here1 vLscript) (1 : Int) (law_Lcount1 vLscript))) (ok_Lfds T) (hr.mono (by decide)) T.g_Lfds T.F_Lfds.kp T.b_Lfds ((law_Lnumbers_here1 vLscript), (1 : Int), (law_Lcount1 vLscript)) (by /-4-/ (try dsimp only); (try simp only [InIx, CDiv, CMul, CPow, List.length_append, List.length_cons, List.length_nil, List.length_singleton, List.length_map, List.length_reverse, List.length_take, List.length_drop]) <;> first | assumption | omega | decide) (ea_cons (x_var (i := 1) rfl) (ea_cons x_int (ea_cons (x_var (i := 2) rfl) ea_nil))) rfl rfl) (z := (law_Lrows1 vLscript)) rfl) (show 3 < 13 by decide) rfl) ?_
  refine sx_seq (s1_setLcV (i := 4) (v := (law_Ltold1 vLscript)) rfl sc_law.nd rfl rfl (sw_true rfl rfl rfl (by decide +kernel)) (show 4 < 13 by decide) (w_list sqLs (x_var (i := 3) rfl)) (blkOk_by (own := [("_law_row", 5)]) (N := N_law) (sc := defScope s_law) (by decide +kernel)) (fun _ _ _ _ _ => (pg_name (i := 5) sc_law.nd rfl (by first | exact Or.inl rfl | exact Or.inr rfl))) (tg_name (show 5 < 13 by decide)) (fun (x1 : ((List Int) × (List Int))) => true) (fun (x1 : ((List Int) × (List Int))) => (mkSd x1.1 x1.2)) (fun _ _ _ _ _ ix1 x1 hxx1 => is_nil) (fun _ _ _ _ _ ix1 x1 hxx1 hpx1 => (x_makeI (fl := flSd K) (a := (mkSd x1.1 x1.2)) (Ss := [pu (tQ K tI) x1.1, pu (tQ K tI) x1.2]) T.M_Fd (ok_Sides_init T T.c_Fd T.cl_Fd T.na_Fd_left T.na_Fd_right) (by exact hr.mono (by decide)) T.gc_Fd T.b_Sides_init (x1.1, x1.2) (by dsimp only; have hd := hr16 x1 (w_at hxx1).2; exact ⟨by have := hd.1.len; omega, by have := hd.2.len; omega⟩) (ea_cons (x_q saT (x_ix ix_tup (o_ixP2_0 (x := x1)) (x_var (i := 5) rfl) x_int)) (ea_cons (x_q saT (x_ix ix_tup (o_ixP2_1 (x := x1)) (x_var (i := 5) rfl) x_int)) ea_nil)) rfl rfl rfl rfl)) lc_all) ?_
  show SX _ _ [pu (tL K tI) vLscript, pu (tLs K tI) (law_Lnumbers_here1 vLscript), pu tI (law_Lcount1 vLscript), pu (tLs K (tP2 K (tT K tI) (tT K tI))) (law_Lrows1 vLscript), ol (tObj T.c_Fd (flSd K)) (law_Ltold1 vLscript), un, un, un, un, un, un, un, un] _
  refine SX.wk (Γ' := [pu (tL K tI) vLscript, pu (tLs K tI) (law_Lnumbers_here1 vLscript), pu tI (law_Lcount1 vLscript), pu (tLs K (tP2 K (tT K tI) (tT K tI))) (law_Lrows1 vLscript), pu (tLs K (tObj T.c_Fd (flSd K))) (law_Ltold1 vLscript), un, un, un, un, un, un, un, un]) (Wk.frz K (i := 4) rfl) ?_
  refine sx_seq (Γ1 := [pu (tL K tI) vLscript, pu (tLs K tI) (law_Lnumbers_here1 vLscript), pu tI (law_Lcount1 vLscript), pu (tLs K (tP2 K (tT K tI) (tT K tI))) (law_Lrows1 vLscript), pu (tLs K (tObj T.c_Fd (flSd K))) (law_Ltold1 vLscript), un, pu (tT K tI) (law_Lcolumns1 vLscript), un, un, un, un, un, un]) (s1_setE (i := 6) sc_law.nd rfl (by first | exact Or.inl rfl | exact Or.inr rfl) (x_val (x_callE (Ss := [pu tI (ix (law_Lnumbers_here1 vLscript) (8 : Int)), pu tI (law_Lcount1 vLscript)]) (S' := pu (tT K tI) (m_Lset (ix (law_Lnumbers_here1 vLscript) (8 : Int)) (law_Lcount1 vLscript))) (ok_Lset T) (hr.mono (by decide)) T.g_Lset T.F_Lset.kp T.b_Lset ((ix (law_Lnumbers_here1 vLscript) (8 : Int)), (law_Lcount1 vLscript)) (by /-7-/ (try dsimp only); (try simp only [InIx, CDiv, CMul, CPow, List.length_append, List.length_cons, List.length_nil, List.length_singleton, List.length_map, List.length_reverse, List.length_take, List.length_drop]) <;> first | assumption | omega | decide) (ea_cons (x_ix ix_list (o_ixL sqLs (by /-6-/ (try dsimp only); (try simp only [InIx, CDiv, CMul, CPow, List.length_append, List.length_cons, List.length_nil, List.length_singleton, List.length_map, List.length_reverse, List.length_take, List.length_drop]) <;> first | assumption | omega | decide)) (x_var (i := 1) rfl) x_int) (ea_cons (x_var (i := 2) rfl) ea_nil)) rfl rfl) (z := (law_Lcolumns1 vLscript)) rfl) (show 6 < 13 by decide) rfl) ?_
  refine sx_seq (Γ1 := [pu (tL K tI) vLscript, pu (tLs K tI) (law_Lnumbers_here1 vLscript), pu tI (law_Lcount1 vLscript), pu (tLs K (tP2 K (tT K tI) (tT K tI))) (law_Lrows1 vLscript), pu (tLs K (tObj T.c_Fd (flSd K))) (law_Ltold1 vLscript), un, pu (tT K tI) (law_Lcolumns1 vLscript), pu (tO (tObj T.c_Fd (flSd K))) (law_Lshown1 vLscript), un, un, un, un, un]) (s1_setE (i := 7) sc_law.nd rfl (by first | exact Or.inl rfl | exact Or.inr rfl) (x_val (x_callE (Ss := [pu tI (law_Lcount1 vLscript), pu (tQ K (tObj T.c_Fd (flSd K))) (law_Ltold1 vLscript), pu (tT K tI) (law_Lcolumns1 vLscript)]) (S' := pu (tO (tObj T.c_Fd (flSd K))) (m_broken (law_Lcount1 vLscript) (law_Ltold1 vLscript) (law_Lcolumns1 vLscript))) (ok_broken T) (hr.mono (by decide)) T.g_broken T.F_broken.kp T.b_broken ((law_Lcount1 vLscript), (law_Ltold1 vLscript), (law_Lcolumns1 vLscript)) (by /-8-/ (try dsimp only); (try simp only [InIx, CDiv, CMul, CPow, List.length_append, List.length_cons, List.length_nil, List.length_singleton, List.length_map, List.length_reverse, List.length_take, List.length_drop]) <;> first | assumption | omega | decide) (ea_cons (x_var (i := 2) rfl) (ea_cons (x_q saLs (x_var (i := 4) rfl)) (ea_cons (x_var (i := 6) rfl) ea_nil))) rfl rfl) (z := (law_Lshown1 vLscript)) rfl) (show 7 < 13 by decide) rfl) ?_
  refine f_ifr (P := (RetP (fun z : Bool => pu tB z))) (t_cmp (op_neD hr.units) (nomark _) (o_neD dB) (x_cmp op_notN (nomark _) o_notN (x_var (i := 7) rfl) x_non) (x_callE (Ss := [pu (tLs K (tP2 K (tT K tI) (tT K tI))) (law_Lrows1 vLscript), pu (tT K tI) (law_Lcolumns1 vLscript), pu tI (law_Lcount1 vLscript)]) (S' := pu tB (m_Lbreaks (law_Lrows1 vLscript) (law_Lcolumns1 vLscript) (law_Lcount1 vLscript))) (ok_Lbreaks T) (hr.mono (by decide)) T.g_Lbreaks T.F_Lbreaks.kp T.b_Lbreaks ((law_Lrows1 vLscript), (law_Lcolumns1 vLscript), (law_Lcount1 vLscript)) (by /-9-/ (try dsimp only); (try simp only [InIx, CDiv, CMul, CPow, List.length_append, List.length_cons, List.length_nil, List.length_singleton, List.length_map, List.length_reverse, List.length_take, List.length_drop]) <;> first | assumption | omega | decide) (ea_cons (x_var (i := 3) rfl) (ea_cons (x_var (i := 6) rfl) (ea_cons (x_var (i := 2) rfl) ea_nil))) rfl rfl)) (fun h2 => ?_) (fun h3 => ?_)
  · try simp only [decide_eq_true_eq, decide_eq_false_iff_not, Bool.and_eq_true, Bool.or_eq_true, Bool.not_eq_true', Bool.not_eq_false', Bool.and_eq_false_iff, Bool.or_eq_false_iff] at h2
    exact sx_ret x_bl ⟨⟨_, rfl⟩, fun h => h⟩
  try simp only [decide_eq_true_eq, decide_eq_false_iff_not, Bool.and_eq_true, Bool.or_eq_true, Bool.not_eq_true', Bool.not_eq_false', Bool.and_eq_false_iff, Bool.or_eq_false_iff] at h3
  refine f_ifO (P := (RetP (fun z : Bool => pu tB z))) [pu (tL K tI) vLscript, pu (tLs K tI) (law_Lnumbers_here1 vLscript), pu tI (law_Lcount1 vLscript), pu (tLs K (tP2 K (tT K tI) (tT K tI))) (law_Lrows1 vLscript), pu (tLs K (tObj T.c_Fd (flSd K))) (law_Ltold1 vLscript), un, pu (tT K tI) (law_Lcolumns1 vLscript), pu (tO (tObj T.c_Fd (flSd K))) (law_Lshown1 vLscript), un, un, un, un, un] (t_cmp op_notN (nomark _) o_notN (x_var (i := 7) rfl) x_non) (fun h4 => ?_) (Wk.uns []) ?_
  · try simp only [decide_eq_true_eq, decide_eq_false_iff_not, Bool.and_eq_true, Bool.or_eq_true, Bool.not_eq_true', Bool.not_eq_false', Bool.and_eq_false_iff, Bool.or_eq_false_iff] at h4
    refine f_ifr (P := (OP (RetP (fun z : Bool => pu tB z)) [pu (tL K tI) vLscript, pu (tLs K tI) (law_Lnumbers_here1 vLscript), pu tI (law_Lcount1 vLscript), pu (tLs K (tP2 K (tT K tI) (tT K tI))) (law_Lrows1 vLscript), pu (tLs K (tObj T.c_Fd (flSd K))) (law_Ltold1 vLscript), un, pu (tT K tI) (law_Lcolumns1 vLscript), pu (tO (tObj T.c_Fd (flSd K))) (law_Lshown1 vLscript), un, un, un, un, un])) (t_not (t_val (x_callB call_isi T.n_isinstance (by decide +kernel) (n_isi (b := true) (typ_ins T.cl_Fd T.ci_Fd) (.own _) T.ki_Fd_Fd) (ea_cons (x_unO (d := default) (x_var (i := 7) rfl) (by /-10-/ (try dsimp only); (try simp only [InIx, CDiv, CMul, CPow, List.length_append, List.length_cons, List.length_nil, List.length_singleton, List.length_map, List.length_reverse, List.length_take, List.length_drop]) <;> first | assumption | omega | decide)) (ea_cons (x_cls T.gc_Fd) ea_nil))))) (fun h6 => ?_) (fun h7 => ?_)
    · try simp only [decide_eq_true_eq, decide_eq_false_iff_not, Bool.and_eq_true, Bool.or_eq_true, Bool.not_eq_true', Bool.not_eq_false', Bool.and_eq_false_iff, Bool.or_eq_false_iff] at h6
      exact sx_ret x_bl ⟨⟨⟨_, rfl⟩, fun h => h⟩, fun h => h⟩
    try simp only [decide_eq_true_eq, decide_eq_false_iff_not, Bool.and_eq_true, Bool.or_eq_true, Bool.not_eq_true', Bool.not_eq_false', Bool.and_eq_false_iff, Bool.or_eq_false_iff] at h7
    refine sx_seq (Γ1 := [pu (tL K tI) vLscript, pu (tLs K tI) (law_Lnumbers_here1 vLscript), pu tI (law_Lcount1 vLscript), pu (tLs K (tP2 K (tT K tI) (tT K tI))) (law_Lrows1 vLscript), pu (tLs K (tObj T.c_Fd (flSd K))) (law_Ltold1 vLscript), un, pu (tT K tI) (law_Lcolumns1 vLscript), pu (tO (tObj T.c_Fd (flSd K))) (law_Lshown1 vLscript), pu (tT K tI) (law_Lreached1 vLscript), un, un, un, un]) (s1_setE (i := 8) sc_law.nd rfl (by first | exact Or.inl rfl | exact Or.inr rfl) (x_val (x_callE (Ss := [pu (tLs K (tP2 K (tT K tI) (tT K tI))) (law_Lrows1 vLscript), pu (tT K tI) ((law_Lshown1 vLscript).getD default).l]) (S' := pu (tT K tI) (m_Lclosed (law_Lrows1 vLscript) ((law_Lshown1 vLscript).getD default).l)) (ok_Lclosed T) (hr.mono (by decide)) T.g_Lclosed T.F_Lclosed.kp T.b_Lclosed ((law_Lrows1 vLscript), ((law_Lshown1 vLscript).getD default).l) (by dsimp only; exact ⟨by omega, (law_shown vLscript (by assumption)).l.mono (by decide), hr16⟩) (ea_cons (x_var (i := 3) rfl) (ea_cons (x_fld (x_unO (d := default) (x_var (i := 7) rfl) (by /-11-/ (try dsimp only); (try simp only [InIx, CDiv, CMul, CPow, List.length_append, List.length_cons, List.length_nil, List.length_singleton, List.length_map, List.length_reverse, List.length_take, List.length_drop]) <;> first | assumption | omega | decide)) rfl T.cl_Fd T.na_Fd_left) ea_nil)) rfl rfl) (z := (law_Lreached1 vLscript)) rfl) (show 8 < 13 by decide) rfl) ?_
    refine f_ifr (P := (OP (RetP (fun z : Bool => pu tB z)) [pu (tL K tI) vLscript, pu (tLs K tI) (law_Lnumbers_here1 vLscript), pu tI (law_Lcount1 vLscript), pu (tLs K (tP2 K (tT K tI) (tT K tI))) (law_Lrows1 vLscript), pu (tLs K (tObj T.c_Fd (flSd K))) (law_Ltold1 vLscript), un, pu (tT K tI) (law_Lcolumns1 vLscript), pu (tO (tObj T.c_Fd (flSd K))) (law_Lshown1 vLscript), un, un, un, un, un])) (t_w (w_or (t_not (t_val (x_callE (Ss := [pu (tT K tI) ((law_Lshown1 vLscript).getD default).l, pu (tT K tI) (law_Lcolumns1 vLscript)]) (S' := pu tB (m_Lis_within ((law_Lshown1 vLscript).getD default).l (law_Lcolumns1 vLscript))) (ok_Lis_within T) (hr.mono (by decide)) T.g_Lis_within T.F_Lis_within.kp T.b_Lis_within (((law_Lshown1 vLscript).getD default).l, (law_Lcolumns1 vLscript)) trivial (ea_cons (x_fld (x_unO (d := default) (x_var (i := 7) rfl) (by /-13-/ (try dsimp only); (try simp only [InIx, CDiv, CMul, CPow, List.length_append, List.length_cons, List.length_nil, List.length_singleton, List.length_map, List.length_reverse, List.length_take, List.length_drop]) <;> first | assumption | omega | decide)) rfl T.cl_Fd T.na_Fd_left) (ea_cons (x_var (i := 6) rfl) ea_nil)) rfl rfl))) (fun h8 => (w_one (t_cmp (op_neD hr.units) (nomark _) (o_neD (dT dI)) (x_fld (x_unO (d := default) (x_var (i := 7) rfl) (by /-14-/ (try simp only [decide_eq_true_eq, decide_eq_false_iff_not, Bool.and_eq_true, Bool.or_eq_true, Bool.not_eq_true', Bool.not_eq_false'] at h8); (try dsimp only); (try simp only [InIx, CDiv, CMul, CPow, List.length_append, List.length_cons, List.length_nil, List.length_singleton, List.length_map, List.length_reverse, List.length_take, List.length_drop]) <;> first | assumption | omega | decide)) rfl T.cl_Fd T.na_Fd_right) (x_callE (Ss := [pu (tT K tI) (m_Lmet (law_Lreached1 vLscript) (law_Lcolumns1 vLscript)), pu (tT K tI) ((law_Lshown1 vLscript).getD default).l]) (S' := pu (tT K tI) (m_Lless (m_Lmet (law_Lreached1 vLscript) (law_Lcolumns1 vLscript)) ((law_Lshown1 vLscript).getD default).l)) (ok_Lless T) (hr.mono (by decide)) T.g_Lless T.F_Lless.kp T.b_Lless ((m_Lmet (law_Lreached1 vLscript) (law_Lcolumns1 vLscript)), ((law_Lshown1 vLscript).getD default).l) trivial (ea_cons (x_callE (Ss := [pu (tT K tI) (law_Lreached1 vLscript), pu (tT K tI) (law_Lcolumns1 vLscript)]) (S' := pu (tT K tI) (m_Lmet (law_Lreached1 vLscript) (law_Lcolumns1 vLscript))) (ok_Lmet T) (hr.mono (by decide)) T.g_Lmet T.F_Lmet.kp T.b_Lmet ((law_Lreached1 vLscript), (law_Lcolumns1 vLscript)) trivial (ea_cons (x_var (i := 8) rfl) (ea_cons (x_var (i := 6) rfl) ea_nil)) rfl rfl) (ea_cons (x_fld (x_unO (d := default) (x_var (i := 7) rfl) (by /-15-/ (try simp only [decide_eq_true_eq, decide_eq_false_iff_not, Bool.and_eq_true, Bool.or_eq_true, Bool.not_eq_true', Bool.not_eq_false'] at h8); (try dsimp only); (try simp only [InIx, CDiv, CMul, CPow, List.length_append, List.length_cons, List.length_nil, List.length_singleton, List.length_map, List.length_reverse, List.length_take, List.length_drop]) <;> first | assumption | omega | decide)) rfl T.cl_Fd T.na_Fd_left) ea_nil)) rfl rfl)) (.inr rfl))))) (fun h10 => ?_) (fun h11 => ?_)
    · try simp only [decide_eq_true_eq, decide_eq_false_iff_not, Bool.and_eq_true, Bool.or_eq_true, Bool.not_eq_true', Bool.not_eq_false', Bool.and_eq_false_iff, Bool.or_eq_false_iff] at h10
      exact sx_ret x_bl ⟨⟨⟨_, rfl⟩, fun h => h⟩, fun h => h⟩
    try simp only [decide_eq_true_eq, decide_eq_false_iff_not, Bool.and_eq_true, Bool.or_eq_true, Bool.not_eq_true', Bool.not_eq_false', Bool.and_eq_false_iff, Bool.or_eq_false_iff] at h11
    refine f_ifr (P := (OP (RetP (fun z : Bool => pu tB z)) [pu (tL K tI) vLscript, pu (tLs K tI) (law_Lnumbers_here1 vLscript), pu tI (law_Lcount1 vLscript), pu (tLs K (tP2 K (tT K tI) (tT K tI))) (law_Lrows1 vLscript), pu (tLs K (tObj T.c_Fd (flSd K))) (law_Ltold1 vLscript), un, pu (tT K tI) (law_Lcolumns1 vLscript), pu (tO (tObj T.c_Fd (flSd K))) (law_Lshown1 vLscript), un, un, un, un, un])) (t_w (w_or (t_cmp (op_eqD hr.units) (nomark _) (o_eqD dI) (x_callB call_len T.n_len (by decide +kernel) (n_lenA saT) (ea_cons (x_fld (x_unO (d := default) (x_var (i := 7) rfl) (by /-16-/ (try dsimp only); (try simp only [InIx, CDiv, CMul, CPow, List.length_append, List.length_cons, List.length_nil, List.length_singleton, List.length_map, List.length_reverse, List.length_take, List.length_drop]) <;> first | assumption | omega | decide)) rfl T.cl_Fd T.na_Fd_right) ea_nil)) x_int) (fun h12 => (w_one (t_val (x_callE (Ss := [pu (tT K tI) (law_Lcolumns1 vLscript), pu (tT K tI) (law_Lreached1 vLscript)]) (S' := pu tB (m_Lis_within (law_Lcolumns1 vLscript) (law_Lreached1 vLscript))) (ok_Lis_within T) (hr.mono (by decide)) T.g_Lis_within T.F_Lis_within.kp T.b_Lis_within ((law_Lcolumns1 vLscript), (law_Lreached1 vLscript)) trivial (ea_cons (x_var (i := 6) rfl) (ea_cons (x_var (i := 8) rfl) ea_nil)) rfl rfl)) (.inr rfl))))) (fun h14 => ?_) (fun h15 => ?_)
    · try simp only [decide_eq_true_eq, decide_eq_false_iff_not, Bool.and_eq_true, Bool.or_eq_true, Bool.not_eq_true', Bool.not_eq_false', Bool.and_eq_false_iff, Bool.or_eq_false_iff] at h14
      exact sx_ret x_bl ⟨⟨⟨_, rfl⟩, fun h => h⟩, fun h => h⟩
    try simp only [decide_eq_true_eq, decide_eq_false_iff_not, Bool.and_eq_true, Bool.or_eq_true, Bool.not_eq_true', Bool.not_eq_false', Bool.and_eq_false_iff, Bool.or_eq_false_iff] at h15
    exact f_nx ⟨_, rfl, Wk.uns [8]⟩
  refine sx_seq (Γ1 := [pu (tL K tI) vLscript, pu (tLs K tI) (law_Lnumbers_here1 vLscript), pu tI (law_Lcount1 vLscript), pu (tLs K (tP2 K (tT K tI) (tT K tI))) (law_Lrows1 vLscript), pu (tLs K (tObj T.c_Fd (flSd K))) (law_Ltold1 vLscript), un, pu (tT K tI) (law_Lcolumns1 vLscript), pu (tO (tObj T.c_Fd (flSd K))) (law_Lshown1 vLscript), un, ol (tT K tI) (law_Lparts1 vLscript), un, un, un]) (s1_setE (i := 9) sc_law.nd rfl (by first | exact Or.inl rfl | exact Or.inr rfl) (x_valo (x_callE (Ss := [pu tI (law_Lcount1 vLscript), pu (tQ K (tObj T.c_Fd (flSd K))) (law_Ltold1 vLscript)]) (S' := ol (tT K tI) (m_boyce_codd (law_Lcount1 vLscript) (law_Ltold1 vLscript))) (ok_boyce_codd T) (hr.mono (by decide)) T.g_boyce_codd T.F_boyce_codd.kp T.b_boyce_codd ((law_Lcount1 vLscript), (law_Ltold1 vLscript)) (by /-17-/ (try dsimp only); (try simp only [InIx, CDiv, CMul, CPow, List.length_append, List.length_cons, List.length_nil, List.length_singleton, List.length_map, List.length_reverse, List.length_take, List.length_drop]) <;> first | assumption | omega | decide) (ea_cons (x_var (i := 2) rfl) (ea_cons (x_q saLs (x_var (i := 4) rfl)) ea_nil)) rfl rfl) (zs := (law_Lparts1 vLscript)) rfl) (show 9 < 13 by decide) rfl) ?_
  refine f_ifr (P := (RetP (fun z : Bool => pu tB z))) (t_bor (Fz.pu (Fz.pu (Fz.pu (Fz.pu (Fz.pu (Fz.un (Fz.pu (Fz.pu (Fz.un (Fz.ol (Fz.un (Fz.un (Fz.un Fz.nil))))))))))))) (t_w (w_or (t_not (t_val (x_callB call_isi T.n_isinstance (by decide +kernel) (n_isi (b := true) typ_tLs (.ty "list") (kit_ty (by decide +kernel))) (ea_cons (x_var (i := 9) rfl) (ea_cons (x_ty (n := "list") T.n_list (by decide +kernel)) ea_nil))))) (fun h16 => (w_or (t_not (t_val (x_callE (Ss := [pu (tLs K (tT K tI)) (law_Lparts1 vLscript), pu tI (law_Lcount1 vLscript)]) (S' := pu tB (m_Lis_split (law_Lparts1 vLscript) (law_Lcount1 vLscript))) (ok_Lis_split T) (hr.mono (by decide)) T.g_Lis_split T.F_Lis_split.kp T.b_Lis_split ((law_Lparts1 vLscript), (law_Lcount1 vLscript)) (by /-18-/ (try simp only [decide_eq_true_eq, decide_eq_false_iff_not, Bool.and_eq_true, Bool.or_eq_true, Bool.not_eq_true', Bool.not_eq_false'] at h16); (try dsimp only); (try simp only [InIx, CDiv, CMul, CPow, List.length_append, List.length_cons, List.length_nil, List.length_singleton, List.length_map, List.length_reverse, List.length_take, List.length_drop]) <;> first | assumption | omega | decide) (ea_cons (x_var (i := 9) rfl) (ea_cons (x_var (i := 2) rfl) ea_nil)) rfl rfl))) (fun h17 => (w_one (t_not (t_val (x_callE (Ss := [pu (tLs K (tP2 K (tT K tI) (tT K tI))) (law_Lrows1 vLscript), pu (tLs K (tT K tI)) (law_Lparts1 vLscript), pu tI (law_Lcount1 vLscript)]) (S' := pu tB (m_Lis_lossless (law_Lrows1 vLscript) (law_Lparts1 vLscript) (law_Lcount1 vLscript))) (ok_Lis_lossless T) (hr.mono (by decide)) T.g_Lis_lossless T.F_Lis_lossless.kp T.b_Lis_lossless ((law_Lrows1 vLscript), (law_Lparts1 vLscript), (law_Lcount1 vLscript)) (by /-19-/ (try simp only [decide_eq_true_eq, decide_eq_false_iff_not, Bool.and_eq_true, Bool.or_eq_true, Bool.not_eq_true', Bool.not_eq_false'] at h16 h17); (try dsimp only); (try simp only [InIx, CDiv, CMul, CPow, List.length_append, List.length_cons, List.length_nil, List.length_singleton, List.length_map, List.length_reverse, List.length_take, List.length_drop]) <;> first | assumption | omega | decide) (ea_cons (x_var (i := 3) rfl) (ea_cons (x_var (i := 9) rfl) (ea_cons (x_var (i := 2) rfl) ea_nil))) rfl rfl))) (.inr rfl)))))))) (fun h19 => ?_) (fun h20 => ?_)
  · try simp only [decide_eq_true_eq, decide_eq_false_iff_not, Bool.and_eq_true, Bool.or_eq_true, Bool.not_eq_true', Bool.not_eq_false', Bool.and_eq_false_iff, Bool.or_eq_false_iff] at h19
    exact sx_ret x_bl ⟨⟨_, rfl⟩, fun h => h⟩
  try simp only [decide_eq_true_eq, decide_eq_false_iff_not, Bool.and_eq_true, Bool.or_eq_true, Bool.not_eq_true', Bool.not_eq_false', Bool.and_eq_false_iff, Bool.or_eq_false_iff] at h20
  refine f_ifr (P := (RetP (fun z : Bool => pu tB z))) (t_cmp (op_neD hr.units) (nomark _) (o_neD (dLs (dP2 (dT dI) (dT dI)))) (x_frz (x_valoE (x_lc rfl sc_law.nd (w_list sqLs (x_var (i := 4) rfl)) (blkOk_by (own := [("_law_one", 10)]) (N := N_law) (sc := defScope s_law) (by decide +kernel)) (fun _ _ _ _ _ => (pg_name (i := 10) sc_law.nd rfl (by first | exact Or.inl rfl | exact Or.inr rfl))) (tg_name (show 10 < 13 by decide)) (fun (x21 : Sd) => true) (fun (x21 : Sd) => (x21.l, x21.r)) (fun _ _ _ _ _ ix21 x21 hxx21 => is_nil) (fun _ _ _ _ _ ix21 x21 hxx21 hpx21 => (x_tup (n_p2 (K := K) (R1 := (tT K tI)) (R2' := (tT K tI))) (ea_cons (x_fld (x_var (i := 10) rfl) rfl T.cl_Fd T.na_Fd_left) (ea_cons (x_fld (x_var (i := 10) rfl) rfl T.cl_Fd T.na_Fd_right) ea_nil))))) lc_all rfl)) (x_var (i := 3) rfl)) (fun h22 => ?_) (fun h23 => ?_)
  · try simp only [decide_eq_true_eq, decide_eq_false_iff_not, Bool.and_eq_true, Bool.or_eq_true, Bool.not_eq_true', Bool.not_eq_false', Bool.and_eq_false_iff, Bool.or_eq_false_iff] at h22
    exact sx_ret x_bl ⟨⟨_, rfl⟩, fun h => h⟩
  try simp only [decide_eq_true_eq, decide_eq_false_iff_not, Bool.and_eq_true, Bool.or_eq_true, Bool.not_eq_true', Bool.not_eq_false', Bool.and_eq_false_iff, Bool.or_eq_false_iff] at h23
  refine sx_seq (Γ1 := [pu (tL K tI) vLscript, pu (tLs K tI) (law_Lnumbers_here1 vLscript), pu tI (law_Lcount1 vLscript), pu (tLs K (tP2 K (tT K tI) (tT K tI))) (law_Lrows1 vLscript), pu (tLs K (tObj T.c_Fd (flSd K))) (law_Ltold1 vLscript), un, pu (tT K tI) (law_Lcolumns1 vLscript), pu (tO (tObj T.c_Fd (flSd K))) (law_Lshown1 vLscript), un, ol (tT K tI) (law_Lparts1 vLscript), un, pu (tLs K (tT K tI)) (law_Lkept1 vLscript), un]) (s1_setE (i := 11) sc_law.nd rfl (by first | exact Or.inl rfl | exact Or.inr rfl) (x_val (x_frz (x_borO (Fy.pu (Fy.pu (Fy.pu (Fy.pu (Fy.pu (Fy.un (Fy.pu (Fy.pu (Fy.un (Fy.ol (Fy.un (Fy.un (Fy.un Fy.nil))))))))))))) (nl_T nl_I) (x_callT call_list_of T.n_list (by decide +kernel) (n_listOf saLs) (ea_cons (x_var (i := 9) rfl) ea_nil)))) (z := (law_Lkept1 vLscript)) rfl) (show 11 < 13 by decide) rfl) ?_
  refine sx_seq (Γ1 := [pu (tL K tI) vLscript, pu (tLs K tI) (law_Lnumbers_here1 vLscript), pu tI (law_Lcount1 vLscript), pu (tLs K (tP2 K (tT K tI) (tT K tI))) (law_Lrows1 vLscript), pu (tLs K (tObj T.c_Fd (flSd K))) (law_Ltold1 vLscript), un, pu (tT K tI) (law_Lcolumns1 vLscript), pu (tO (tObj T.c_Fd (flSd K))) (law_Lshown1 vLscript), un, ol (tT K tI) ([] : List (List Int)), un, pu (tLs K (tT K tI)) (law_Lkept1 vLscript), un]) (s1_clear (i := 9) rfl) ?_
  refine f_ifr (P := (RetP (fun z : Bool => pu tB z))) (t_cmp (op_neD hr.units) (nomark _) (o_neD (dLs (dT dI))) (x_frz (x_callE (Ss := [pu tI (law_Lcount1 vLscript), pu (tQ K (tObj T.c_Fd (flSd K))) (law_Ltold1 vLscript)]) (S' := ol (tT K tI) (m_boyce_codd (law_Lcount1 vLscript) (law_Ltold1 vLscript))) (ok_boyce_codd T) (hr.mono (by decide)) T.g_boyce_codd T.F_boyce_codd.kp T.b_boyce_codd ((law_Lcount1 vLscript), (law_Ltold1 vLscript)) (by /-20-/ (try dsimp only); (try simp only [InIx, CDiv, CMul, CPow, List.length_append, List.length_cons, List.length_nil, List.length_singleton, List.length_map, List.length_reverse, List.length_take, List.length_drop]) <;> first | assumption | omega | decide) (ea_cons (x_var (i := 2) rfl) (ea_cons (x_q saLs (x_var (i := 4) rfl)) ea_nil)) rfl rfl)) (x_var (i := 11) rfl)) (fun h24 => ?_) (fun h25 => ?_)
  · try simp only [decide_eq_true_eq, decide_eq_false_iff_not, Bool.and_eq_true, Bool.or_eq_true, Bool.not_eq_true', Bool.not_eq_false', Bool.and_eq_false_iff, Bool.or_eq_false_iff] at h24
    exact sx_ret x_bl ⟨⟨_, rfl⟩, fun h => h⟩
  try simp only [decide_eq_true_eq, decide_eq_false_iff_not, Bool.and_eq_true, Bool.or_eq_true, Bool.not_eq_true', Bool.not_eq_false', Bool.and_eq_false_iff, Bool.or_eq_false_iff] at h25
  exact sx_ret (x_cmp (op_eqD hr.units) (nomark _) (o_eqD dI) (x_callB call_len T.n_len (by decide +kernel) (n_lenA saLs) (ea_cons (x_frz (x_valoE (x_lc rfl sc_law.nd (w_list sqLs (x_var (i := 11) rfl)) (blkOk_by (own := [("_law_part", 12)]) (N := N_law) (sc := defScope s_law) (by decide +kernel)) (fun _ _ _ _ _ => (pg_name (i := 12) sc_law.nd rfl (by first | exact Or.inl rfl | exact Or.inr rfl))) (tg_name (show 12 < 13 by decide)) (fun (x26 : (List Int)) => (m_Lbreaks (law_Lrows1 vLscript) x26 (law_Lcount1 vLscript))) (fun (x26 : (List Int)) => x26) (fun _ _ _ _ _ ix26 x26 hxx26 => (is_one (t_val (x_callE (Ss := [pu (tLs K (tP2 K (tT K tI) (tT K tI))) (law_Lrows1 vLscript), pu (tT K tI) x26, pu tI (law_Lcount1 vLscript)]) (S' := pu tB (m_Lbreaks (law_Lrows1 vLscript) x26 (law_Lcount1 vLscript))) (ok_Lbreaks T) (by exact hr.mono (by decide)) T.g_Lbreaks T.F_Lbreaks.kp T.b_Lbreaks ((law_Lrows1 vLscript), x26, (law_Lcount1 vLscript)) (by /-21-/ (try dsimp only); (try simp only [InIx, CDiv, CMul, CPow, List.length_append, List.length_cons, List.length_nil, List.length_singleton, List.length_map, List.length_reverse, List.length_take, List.length_drop]) <;> first | assumption | omega | decide) (ea_cons (x_var (i := 3) rfl) (ea_cons (x_var (i := 12) rfl) (ea_cons (x_var (i := 2) rfl) ea_nil))) rfl rfl)))) (fun _ _ _ _ _ ix26 x26 hxx26 hpx26 => (x_var (i := 12) rfl))) lc_fid rfl)) ea_nil)) x_int) ⟨_, rfl⟩

end
/-! the plain law, its first parts -/
theorem whole_asc (c : Int) : (m_whole c).Pairwise (· < ·) := rng_asc 0 c
theorem sets_is {c : Int} (h : 0 ≤ c ∧ c ≤ 6) : (rangeI 0 (ix ([(1 : Int), (2 : Int), (4 : Int), (8 : Int), (16 : Int), (32 : Int), (64 : Int)] : List Int) c)).map (fun k => m_Lset k c) = (rangeI 0 c).foldl (all_sets_st1 (m_whole c)) (all_sets_found1 (m_whole c)) := by
  have : c = 0 ∨ c = 1 ∨ c = 2 ∨ c = 3 ∨ c = 4 ∨ c = 5 ∨ c = 6 := by omega
  rcases this with rfl | rfl | rfl | rfl | rfl | rfl | rfl <;> decide +kernel
theorem num_mem {c : Int} (h : 0 ≤ c ∧ c ≤ 6) (x : List Int) : (∃ k ∈ rangeI 0 (ix ([(1 : Int), (2 : Int), (4 : Int), (8 : Int), (16 : Int), (32 : Int), (64 : Int)] : List Int) c), m_Lset k c = x) ↔ x.Pairwise (· < ·) ∧ ∀ y ∈ x, 0 ≤ y ∧ y < c := by
  have q := (sets_asc (m_whole c) (rangeI 0 c) (rng_asc 0 c)).1 x
  rw [← sets_is h, List.mem_map] at q
  rw [q]
  exact and_congr_right fun _ => forall_congr' fun y => forall_congr' fun _ => rng_mem
theorem closed_L {rows : List (List Int × List Int)} (hr : POk 16 rows) {x : List Int} (hx : Cols 16 x) : m_closed (rows.map sdOf) x = m_Lclosed rows x := by
  have hD : DOk 16 (rows.map sdOf) := fun d hd => by
    obtain ⟨p, hp, rfl⟩ := List.mem_map.mp hd
    exact hr p hp
  obtain ⟨h1, h2⟩ := closed_is hD hx
  obtain ⟨k1, k2⟩ := Lclosed_is hr hx
  exact h1.eq k1 h2 k2
theorem run_any (st : Unit → Int → Lp Unit Bool) (p : Int → Bool) (h : ∀ x, st () x = if p x = true then .ret true else .go ()) : ∀ xs : List Int, runL st () xs = if xs.any p = true then .inr true else .inl ()
  | [] => rfl
  | x :: xs => by
    unfold runL
    rw [h x]
    cases e : p x with
    | true => simp [e]
    | false =>
      rw [if_neg (by decide), List.any_cons, e, Bool.false_or]
      exact run_any st p h xs
theorem within_L (a b : List Int) : m_Lis_within a b = m_is_within a b := by
  rw [Bool.eq_iff_iff, m_Lis_within_iff, m_is_within_iff]
theorem Lbreaks_iff {rows : List (List Int × List Int)} (hr : POk 16 rows) {c : Int} (h : 0 ≤ c ∧ c ≤ 6) {cols : List Int} (hc : Cols c.toNat cols) : m_Lbreaks rows cols c = true ↔ ∃ x ∈ m_all_sets cols, brk (rows.map sdOf) cols x = true := by
  let p (k : Int) : Bool := m_is_within (m_Lset k c) cols && brk (rows.map sdOf) cols (m_Lset k c)
  have hst : ∀ k, Lbreaks_st1 rows cols c () k = if p k = true then .ret true else .go () := fun k => by
    have h16 : Cols 16 (m_Lset k c) := m_Lset_cols (by omega)
    unfold Lbreaks_st1 Lbreaks_Lreached1 Lbreaks_Lleft1
    rw [within_L, within_L, ← closed_L hr h16]
    show _ = if (m_is_within (m_Lset k c) cols && brk (rows.map sdOf) cols (m_Lset k c)) = true then _ else _
    have e : brk (rows.map sdOf) cols (m_Lset k c) = ((decide ((0 : Int) < ((m_Lless (m_Lmet (m_closed (rows.map sdOf) (m_Lset k c)) cols) (m_Lset k c)).length : Int))) && (!(m_is_within cols (m_closed (rows.map sdOf) (m_Lset k c))))) := rfl
    rw [← e]
    cases m_is_within (m_Lset k c) cols <;> cases brk (rows.map sdOf) cols (m_Lset k c) <;> rfl
  unfold m_Lbreaks
  rw [run_any _ p hst]
  have e : (rangeI 0 (ix ([(1 : Int), (2 : Int), (4 : Int), (8 : Int), (16 : Int), (32 : Int), (64 : Int)] : List Int) c)).any p = true ↔ ∃ x ∈ m_all_sets cols, brk (rows.map sdOf) cols x = true := by
    rw [List.any_eq_true]
    constructor
    · rintro ⟨k, hk, hp⟩
      rw [Bool.and_eq_true] at hp
      have q := (num_mem h (m_Lset k c)).mp ⟨k, hk, rfl⟩
      exact ⟨_, (m_sets_mem hc.asc).mpr ⟨q.1, m_is_within_iff.mp hp.1⟩, hp.2⟩
    · rintro ⟨x, hx, hb⟩
      obtain ⟨k1, k2⟩ := (m_sets_mem hc.asc).mp hx
      obtain ⟨k, hk, e⟩ := (num_mem h x).mpr ⟨k1, fun y hy => by have := hc.rg y (k2 y hy); omega⟩
      refine ⟨k, hk, ?_⟩
      show (m_is_within (m_Lset k c) cols && brk (rows.map sdOf) cols (m_Lset k c)) = true
      rw [e, m_is_within_iff.mpr k2, hb]
      rfl
  rw [← e]
  cases (rangeI 0 (ix ([(1 : Int), (2 : Int), (4 : Int), (8 : Int), (16 : Int), (32 : Int), (64 : Int)] : List Int) c)).any p <;> simp [elimS]
theorem Lbreaks_is (n : Int) {rows : List (List Int × List Int)} (hr : POk 16 rows) {c : Int} (h : 0 ≤ c ∧ c ≤ 6) {cols : List Int} (hc : Cols c.toNat cols) : m_Lbreaks rows cols c = (m_broken n (rows.map sdOf) cols).isSome := by
  have hD : DOk 16 (rows.map sdOf) := fun d hd => by
    obtain ⟨p, hp, rfl⟩ := List.mem_map.mp hd
    exact hr p hp
  have h7 : Cols 7 cols := hc.mono (by omega)
  rw [Bool.eq_iff_iff, Lbreaks_iff hr h hc]
  rcases broken_is n (rows.map sdOf) h7 hD with ⟨e, k⟩ | ⟨d, e, hb⟩
  · rw [e]
    exact ⟨fun ⟨x, hx, hq⟩ => absurd hq (k x hx), fun q => nomatch q⟩
  · rw [e]
    refine ⟨fun _ => rfl, fun _ => ⟨d.l, (m_sets_mem hc.asc).mpr ⟨hb.l.asc, hb.subl⟩, brk_iff.mpr ⟨?_, hb.out⟩⟩⟩
    rw [← hb.is]
    have := List.length_pos_iff.mpr hb.ne
    omega
/-! tables of rows, and rows of zeros -/
def KeepsAll (T : List (List Int)) (rows : List (List Int × List Int)) : Prop := ∀ d ∈ rows, ∀ a ∈ T, ∀ b ∈ T, (∀ c ∈ d.1, ix a c = ix b c) → ∀ c ∈ d.2, ix a c = ix b c
def ZR (T : List (List Int)) (X : List Int) : Prop := ∃ a ∈ T, ∀ c ∈ X, ix a c = 0
theorem agree_closed {T : List (List Int)} {rows : List (List Int × List Int)} (hk : KeepsAll T rows) (hr : POk 16 rows) {x : List Int} (hx : Cols 16 x) {a b : List Int} (ha : a ∈ T) (hb : b ∈ T) (h : ∀ c ∈ x, ix a c = ix b c) : ∀ c ∈ m_closed (rows.map sdOf) x, ix a c = ix b c := by
  have hD : DOk 16 (rows.map sdOf) := fun d hd => by
    obtain ⟨p, hp, rfl⟩ := List.mem_map.mp hd
    exact hr p hp
  obtain ⟨cl, _⟩ := closed_is hD hx
  have hY : sub (m_closed (rows.map sdOf) x) ((rangeI 0 16).filter fun c => decide (ix a c = ix b c)) := by
    refine cl.least _ (fun c hc => ?_) fun d hd => ?_
    · have := hx.rg c hc
      exact List.mem_filter.mpr ⟨rng_mem.mpr (by omega), decide_eq_true (h c hc)⟩
    · obtain ⟨p, hp, rfl⟩ := List.mem_map.mp hd
      intro hs y hy
      have hy' : y ∈ p.2 := hy
      have := (hr p hp).2.rg y hy'
      exact List.mem_filter.mpr ⟨rng_mem.mpr (by omega), decide_eq_true (hk p hp a ha b hb (fun z hz => of_decide_eq_true (List.mem_filter.mp (hs z hz)).2) y hy')⟩
  intro c hc
  exact of_decide_eq_true (List.mem_filter.mp (hY c hc)).2
theorem split_zero {T : List (List Int)} {rows : List (List Int × List Int)} (hk : KeepsAll T rows) (hr : POk 16 rows) {cols : List Int} {d : Sd} (hb : BrOk (rows.map sdOf) cols d) (h1 : ZR T (m_united d.l d.r)) (h2 : ZR T (m_less cols d.r)) : ZR T cols := by
  obtain ⟨u, hu, zu⟩ := h1
  obtain ⟨w, hw, zw⟩ := h2
  have h16 : Cols 16 d.l := hb.l.mono (by decide)
  have hlr : ∀ c ∈ d.l, ¬ c ∈ d.r := fun c hc hcr => by
    rw [hb.is] at hcr
    have := (List.mem_filter.mp hcr).2
    rw [decide_eq_true hc] at this
    cases this
  have hl0 : ∀ c ∈ d.l, ix w c = 0 := fun c hc => zw c (List.mem_filter.mpr ⟨hb.subl c hc, by rw [decide_eq_false (hlr c hc)]; rfl⟩)
  have hu0 : ∀ c ∈ d.l, ix u c = 0 := fun c hc => zu c ((mem_sset _ _).mpr (List.mem_append_left _ hc))
  have ag := agree_closed hk hr h16 hu hw fun c hc => (hu0 c hc).trans (hl0 c hc).symm
  refine ⟨w, hw, fun c hc => ?_⟩
  by_cases q : c ∈ d.r
  · have hcl : c ∈ m_closed (rows.map sdOf) d.l := by
      have q' := q
      rw [hb.is] at q'
      exact (List.mem_filter.mp (List.mem_filter.mp q').1).1
    rw [← ag c hcl]
    exact zu c ((mem_sset _ _).mpr (List.mem_append_right _ q))
  · exact zw c (List.mem_filter.mpr ⟨hc, by rw [decide_eq_false q]; rfl⟩)
/-- what boyce_codd's walk keeps -/
structure BcW (n : Int) (rows : List (List Int × List Int)) (s : List (List Int) × List (List Int)) : Prop where
  inv : BcInv s
  all : ∀ c ∈ m_whole n, (∃ x ∈ s.1, c ∈ x) ∨ ∃ x ∈ s.2, c ∈ x
  sub : ∀ x, x ∈ s.1 ∨ x ∈ s.2 → Pf.sub x (m_whole n)
  zero : ∀ T, KeepsAll T rows → (∀ x ∈ s.1, ZR T x) → (∀ x ∈ s.2, ZR T x) → ZR T (m_whole n)
  done : ∀ x ∈ s.2, m_broken n (rows.map sdOf) x = none
theorem bcw_end {n : Int} {rows : List (List Int × List Int)} (hr : POk 16 rows) (h : 0 ≤ n ∧ n ≤ 5 ∧ DOk 16 (rows.map sdOf)) : BcW n rows (boyce_codd_loop1 n (rows.map sdOf)) ∧ (boyce_codd_loop1 n (rows.map sdOf)).1 = [] := by
  have q := while_end (boyce_codd_ts1 n (rows.map sdOf)) (boyce_codd_st1 n (rows.map sdOf)) (BcW n rows) bcMu (fun s hi ht => ?_) 244 (boyce_codd_pending1 n (rows.map sdOf), boyce_codd_found1 n (rows.map sdOf)) ?_ (bc_enough h)
  · refine ⟨q.1, ?_⟩
    have z := q.2
    have z' : decide ((0 : Int) < ((boyce_codd_loop1 n (rows.map sdOf)).1.length : Int)) = false := z
    rw [decide_eq_false_iff_not] at z'
    exact List.eq_nil_of_length_eq_zero (by omega)
  · have hd := bc_dec h s hi.inv ht
    refine ⟨?_, hd.2⟩
    have hp : 0 < s.1.length := by have := of_decide_eq_true ht; omega
    have es := last_split hp
    have hc := bc_last hi.inv hp
    have hin : ix s.1 (-1) ∈ s.1 := ix_mem ⟨by omega, by omega⟩
    have mem : ∀ x, x ∈ s.1 ↔ x ∈ s.1.dropLast ∨ x = ix s.1 (-1) := fun x => by
      conv => lhs; rw [es]
      rw [List.mem_append, List.mem_singleton]
    have hst := bc_step n (rows.map sdOf) s
    rcases broken_is n (rows.map sdOf) hc h.2.2 with ⟨e, _⟩ | ⟨d, e, hb⟩
    · rw [e] at hst
      have hst' : boyce_codd_st1 n (rows.map sdOf) s = (s.1.dropLast, s.2 ++ [ix s.1 (-1)]) := hst
      rw [hst']
      rw [hst'] at hd
      refine ⟨hd.1, fun c hc' => ?_, fun x hx => ?_, fun T hk z1 z2 => hi.zero T hk (fun x hx => ?_) (fun x hx => z2 x (List.mem_append_left _ hx)), fun x hx => ?_⟩
      · rcases hi.all c hc' with ⟨x, hx, k⟩ | ⟨x, hx, k⟩
        · rcases (mem x).mp hx with hx | rfl
          · exact .inl ⟨x, hx, k⟩
          · exact .inr ⟨_, List.mem_append_right _ List.mem_cons_self, k⟩
        · exact .inr ⟨x, List.mem_append_left _ hx, k⟩
      · rcases hx with hx | hx
        · exact hi.sub x (.inl ((mem x).mpr (.inl hx)))
        · rcases List.mem_append.mp hx with hx | hx
          · exact hi.sub x (.inr hx)
          · rw [List.mem_singleton.mp hx]; exact hi.sub _ (.inl hin)
      · rcases (mem x).mp hx with hx | rfl
        · exact z1 x hx
        · exact z2 _ (List.mem_append_right _ List.mem_cons_self)
      · rcases List.mem_append.mp hx with hx | hx
        · exact hi.done x hx
        · rw [List.mem_singleton.mp hx]; exact e
    · rw [e] at hst
      have hst' : boyce_codd_st1 n (rows.map sdOf) s = (s.1.dropLast ++ [m_united d.l d.r] ++ [m_less (ix s.1 (-1)) d.r], s.2) := hst
      rw [hst']
      rw [hst'] at hd
      obtain ⟨⟨_, u2, _⟩, _, l2, _⟩ := hb.two hc h.2.2
      have m1 : m_united d.l d.r ∈ s.1.dropLast ++ [m_united d.l d.r] ++ [m_less (ix s.1 (-1)) d.r] := List.mem_append_left _ (List.mem_append_right _ List.mem_cons_self)
      have m2 : m_less (ix s.1 (-1)) d.r ∈ s.1.dropLast ++ [m_united d.l d.r] ++ [m_less (ix s.1 (-1)) d.r] := List.mem_append_right _ List.mem_cons_self
      refine ⟨hd.1, fun c hc' => ?_, fun x hx => ?_, fun T hk z1 z2 => hi.zero T hk (fun x hx => ?_) z2, hi.done⟩
      · rcases hi.all c hc' with ⟨x, hx, k⟩ | ⟨x, hx, k⟩
        · rcases (mem x).mp hx with hx | rfl
          · exact .inl ⟨x, List.mem_append_left _ (List.mem_append_left _ hx), k⟩
          · by_cases q : c ∈ d.r
            · exact .inl ⟨_, m1, (mem_sset _ _).mpr (List.mem_append_right _ q)⟩
            · exact .inl ⟨_, m2, List.mem_filter.mpr ⟨k, by rw [decide_eq_false q]; rfl⟩⟩
        · exact .inr ⟨x, hx, k⟩
      · rcases hx with hx | hx
        · rcases List.mem_append.mp hx with hx | hx
          · rcases List.mem_append.mp hx with hx | hx
            · exact hi.sub x (.inl ((mem x).mpr (.inl hx)))
            · rw [List.mem_singleton.mp hx]; exact fun c hc => hi.sub _ (.inl hin) c (u2 c hc)
          · rw [List.mem_singleton.mp hx]; exact fun c hc => hi.sub _ (.inl hin) c (l2 c hc)
        · exact hi.sub x (.inr hx)
      · rcases (mem x).mp hx with hx | rfl
        · exact z1 x (List.mem_append_left _ (List.mem_append_left _ hx))
        · exact split_zero hk hr hb (z1 _ m1) (z1 _ m2)
  · refine ⟨bc_start h, fun c hc => .inl ⟨m_whole n, List.mem_cons_self, hc⟩, fun x hx => ?_, fun T _ z1 _ => z1 _ List.mem_cons_self, fun x hx => ?_⟩
    · rcases hx with hx | hx
      · rw [List.mem_singleton.mp (show x ∈ [m_whole n] from hx)]; exact fun _ h => h
      · have h' : x ∈ ([] : List (List Int)) := hx
        cases h'
    · have h' : x ∈ ([] : List (List Int)) := hx
      cases h'
/-! the greatest ones -/
def grt (parts : List (List Int)) (x : List Int) : Bool := !(parts.any fun y => (!(decide (x = y))) && m_is_within x y)
theorem greatest_is (parts : List (List Int)) : m_greatest parts = (rset parts).filter (grt parts) := by
  have key : ∀ xs s : List (List Int), xs.foldl (greatest_st1 parts) s = s ++ xs.filter (grt parts) := fun xs => by
    induction xs with
    | nil => intro s; simp
    | cons x xs ih =>
      intro s
      rw [List.foldl_cons, ih, List.filter_cons]
      unfold greatest_st1 greatest_j_found1 greatest_found2
      show (if grt parts x = true then _ else _) ++ _ = _
      split <;> simp
  exact (key _ []).trans (List.nil_append _)
theorem grt_iff {parts : List (List Int)} {x : List Int} : grt parts x = true ↔ ∀ y ∈ parts, sub x y → x = y := by
  unfold grt
  rw [Bool.not_eq_true', ← Bool.not_eq_true, List.any_eq_true]
  constructor
  · intro h y hy hs
    refine Classical.byContradiction fun c => h ⟨y, hy, ?_⟩
    rw [decide_eq_false c, m_is_within_iff.mpr hs]; rfl
  · rintro h ⟨y, hy, e⟩
    rw [Bool.and_eq_true, Bool.not_eq_true', decide_eq_false_iff_not, m_is_within_iff] at e
    exact e.1 (h y hy e.2)
theorem greatest_mem {parts : List (List Int)} {x : List Int} : x ∈ m_greatest parts ↔ x ∈ parts ∧ ∀ y ∈ parts, sub x y → x = y := by
  rw [greatest_is, List.mem_filter, rset_mem, grt_iff]
theorem greatest_over {parts : List (List Int)} (hc : ∀ x ∈ parts, Cols 7 x) : ∀ (m : Nat) (x : List Int), x ∈ parts → 7 ≤ x.length + m → ∃ y ∈ m_greatest parts, sub x y
  | m, x, hx, hl => by
    by_cases q : ∀ y ∈ parts, sub x y → x = y
    · exact ⟨x, greatest_mem.mpr ⟨hx, q⟩, fun _ h => h⟩
    · have : ∃ y, y ∈ parts ∧ sub x y ∧ x ≠ y := Classical.byContradiction fun k => q fun y hy hs => Classical.byContradiction fun h3 => k ⟨y, hy, hs, h3⟩
      obtain ⟨y, hy, hs, hne⟩ := this
      have hlt := lt_of_sub (hc x hx) (hc y hy) hs fun k => hne ((hc x hx).ext (hc y hy) fun z => ⟨hs z, k z⟩)
      have h7 := (hc y hy).len
      cases m with
      | zero => omega
      | succ m =>
        obtain ⟨z, hz, k⟩ := greatest_over hc m y hy (by omega)
        exact ⟨z, hz, fun c hcx => k c (hs c hcx)⟩
theorem greatest_asc (parts : List (List Int)) : (m_greatest parts).Nodup ∧ (m_greatest parts).Pairwise (· ≤ ·) := by
  rw [greatest_is]
  exact ⟨List.Pairwise.filter (R := fun a b => a ≠ b) _ (rset_nodup parts), (rset_asc parts).filter _⟩
/-- a split as the law asks it -/
theorem split_true {parts : List (List Int)} {count : Int} (hc : ∀ x ∈ parts, Cols 7 x) (hn : parts.Nodup) (ha : parts.Pairwise (· ≤ ·)) (ht : ∀ x ∈ parts, ∀ y ∈ parts, sub x y → x = y) (hu : ∀ c, c ∈ rangeI 0 count ↔ ∃ x ∈ parts, c ∈ x) : m_Lis_split parts count = true := by
  have run : ∀ (xs : List (List Int)) (s : List Int), (∀ x ∈ xs, x ∈ parts) → Cols 7 s → ∃ s', runL (Lis_split_st1 parts count) s xs = .inl s' ∧ Cols 7 s' ∧ ∀ c, c ∈ s' ↔ c ∈ s ∨ ∃ x ∈ xs, c ∈ x := fun xs => by
    induction xs with
    | nil => intro s _ h; exact ⟨s, rfl, h, fun c => ⟨.inl, fun k => k.elim id fun ⟨_, h, _⟩ => nomatch h⟩⟩
    | cons x xs ih =>
      intro s hx hs
      have hxp := hx x List.mem_cons_self
      have e : parts.filter (fun x3 => ((!(decide (x3 = x))) && (m_Lis_within x x3))) = [] := List.filter_eq_nil_iff.mpr fun y hy k => by
        rw [Bool.and_eq_true, Bool.not_eq_true', decide_eq_false_iff_not, within_L, m_is_within_iff] at k
        exact k.1 (ht x hxp y hy k.2).symm
      have est : Lis_split_st1 parts count s x = .go (m_Lunited s x) := by
        unfold Lis_split_st1 Lis_split_Lcolumns2
        rw [e]; rfl
      obtain ⟨s', h1, h2, h3⟩ := ih (m_Lunited s x) (fun y hy => hx y (List.mem_cons_of_mem _ hy)) (hs.uni (hc x hxp))
      refine ⟨s', ?_, h2, fun c => ?_⟩
      · unfold runL
        rw [est]
        exact h1
      · rw [h3]
        have : c ∈ m_Lunited s x ↔ c ∈ s ∨ c ∈ x := by
          show c ∈ sset (s ++ x) ↔ _
          rw [mem_sset, List.mem_append]
        rw [this]
        constructor
        · rintro ((k | k) | ⟨y, hy, k⟩)
          · exact .inl k
          · exact .inr ⟨x, List.mem_cons_self, k⟩
          · exact .inr ⟨y, List.mem_cons_of_mem _ hy, k⟩
        · rintro (k | ⟨y, hy, k⟩)
          · exact .inl (.inl k)
          · rcases List.mem_cons.mp hy with rfl | hy
            · exact .inl (.inr k)
            · exact .inr ⟨y, hy, k⟩
  obtain ⟨s', h1, h2, h3⟩ := run parts [] (fun _ h => h) Cols.nil
  have es : s' = rangeI 0 count := asc_unique h2.asc (rng_asc 0 count) fun c => by
    rw [h3, hu]
    exact ⟨fun k => k.elim (fun h => nomatch h) id, .inr⟩
  have er : parts = rowSort parts := rows_unique ha (rowSort_asc parts) (rowSort_perm parts).symm
  have el : rset parts = parts := (rset_is hn ha fun _ => Iff.rfl).symm
  unfold m_Lis_split
  have h1' : runL (Lis_split_st1 parts count) (Lis_split_Lcolumns1 parts count) parts = .inl s' := h1
  rw [h1']
  show ((decide (s' = rangeI 0 count)) && ((decide (parts = rowSort parts)) && (decide (((rset parts).length : Int) = (parts.length : Int))))) = true
  rw [decide_eq_true es, decide_eq_true er, el]
  simp
section
variable {n c : Nat} {parts : List (List Int)} {rows : List (List Int × List Int)} {count : Int}
theorem ll4 {d : List Int × List Int} (hd2 : ∀ y ∈ d.2, 0 ≤ y ∧ y < (c : Int)) (t1 : List (List Int)) (x5 : Int) (t2 t3 : List (List Int)) {x9 x11 : Int} (h9 : 0 ≤ x9 ∧ x9 < (n : Int)) (h11 : 0 ≤ x11 ∧ x11 < (n : Int)) {s : List (List Int)} (h : PT n c parts s) :
    PT n c parts (Lis_lossless_st4 rows parts count t1 x5 t2 d t3 x9 s x11) ∧ (Lis_lossless_st4 rows parts count t1 x5 t2 d t3 x9 s x11 = s ∨ muT (c : Int) (Lis_lossless_st4 rows parts count t1 x5 t2 d t3 x9 s x11) < muT (c : Int) s) ∧
      (Lis_lossless_st4 rows parts count t1 x5 t2 d t3 x9 s x11 = s → (∀ y ∈ d.1, ix (ix s x9) y = ix (ix s x11) y) → ∀ y ∈ d.2, ix (ix s x9) y = ix (ix s x11) y) := by
  have hf := fold_stay (PT n c parts) (muT (c : Int)) (Lis_lossless_st5 rows parts count t1 x5 t2 d t3 x9 s x11) d.2 s h fun y hy s' hs' => by
    have q := merge_step hs' (hd2 y hy) h9 h11 rfl rfl
    exact ⟨q.1, q.2.1⟩
  have est : Lis_lossless_st4 rows parts count t1 x5 t2 d t3 x9 s x11 = if decide (d.1.map (fun y => ix (ix s x9) y) = d.1.map (fun y => ix (ix s x11) y)) = true then d.2.foldl (Lis_lossless_st5 rows parts count t1 x5 t2 d t3 x9 s x11) s else s := rfl
  rw [est]
  by_cases q : d.1.map (fun y => ix (ix s x9) y) = d.1.map (fun y => ix (ix s x11) y)
  · rw [if_pos (decide_eq_true q)]
    refine ⟨hf.1, hf.2.1, fun e _ y hy => ?_⟩
    have e1 := hf.2.2 e y hy
    exact (merge_step h (hd2 y hy) h9 h11 rfl rfl).2.2 e1
  · rw [if_neg (by rw [decide_eq_false q]; decide)]
    exact ⟨h, .inl rfl, fun _ k => absurd (List.map_congr_left k) q⟩
theorem ll3 {d : List Int × List Int} (hd2 : ∀ y ∈ d.2, 0 ≤ y ∧ y < (c : Int)) (t1 : List (List Int)) (x5 : Int) (t2 : List (List Int)) {x9 : Int} (h9 : 0 ≤ x9 ∧ x9 < (n : Int)) {s : List (List Int)} (h : PT n c parts s) :
    PT n c parts (Lis_lossless_st3 rows parts count t1 x5 t2 d s x9) ∧ (Lis_lossless_st3 rows parts count t1 x5 t2 d s x9 = s ∨ muT (c : Int) (Lis_lossless_st3 rows parts count t1 x5 t2 d s x9) < muT (c : Int) s) ∧
      (Lis_lossless_st3 rows parts count t1 x5 t2 d s x9 = s → ∀ x11, 0 ≤ x11 ∧ x11 < (n : Int) → (∀ y ∈ d.1, ix (ix s x9) y = ix (ix s x11) y) → ∀ y ∈ d.2, ix (ix s x9) y = ix (ix s x11) y) := by
  have hr : ∀ x ∈ rangeI 0 (s.length : Int), 0 ≤ x ∧ x < (n : Int) := fun x hx => by have := rng_mem.mp hx; have := h.sh.1; omega
  have hf := fold_stay (PT n c parts) (muT (c : Int)) (Lis_lossless_st4 rows parts count t1 x5 t2 d s x9) (rangeI 0 (s.length : Int)) s h fun x hx s' hs' => by
    have q := ll4 (rows := rows) (count := count) hd2 t1 x5 t2 s h9 (hr x hx) hs'
    exact ⟨q.1, q.2.1⟩
  refine ⟨hf.1, hf.2.1, fun e x11 h11 k => ?_⟩
  have hx : x11 ∈ rangeI 0 (s.length : Int) := rng_mem.mpr (by have := h.sh.1; omega)
  exact (ll4 (rows := rows) (count := count) hd2 t1 x5 t2 s h9 h11 h).2.2 (hf.2.2 e x11 hx) k
theorem ll2 {d : List Int × List Int} (hd2 : ∀ y ∈ d.2, 0 ≤ y ∧ y < (c : Int)) (t1 : List (List Int)) (x5 : Int) {s : List (List Int)} (h : PT n c parts s) :
    PT n c parts (Lis_lossless_st2 rows parts count t1 x5 s d) ∧ (Lis_lossless_st2 rows parts count t1 x5 s d = s ∨ muT (c : Int) (Lis_lossless_st2 rows parts count t1 x5 s d) < muT (c : Int) s) ∧
      (Lis_lossless_st2 rows parts count t1 x5 s d = s → ∀ x9, 0 ≤ x9 ∧ x9 < (n : Int) → ∀ x11, 0 ≤ x11 ∧ x11 < (n : Int) → (∀ y ∈ d.1, ix (ix s x9) y = ix (ix s x11) y) → ∀ y ∈ d.2, ix (ix s x9) y = ix (ix s x11) y) := by
  have hr : ∀ x ∈ rangeI 0 (s.length : Int), 0 ≤ x ∧ x < (n : Int) := fun x hx => by have := rng_mem.mp hx; have := h.sh.1; omega
  have hf := fold_stay (PT n c parts) (muT (c : Int)) (Lis_lossless_st3 rows parts count t1 x5 s d) (rangeI 0 (s.length : Int)) s h fun x hx s' hs' => by
    have q := ll3 (rows := rows) (count := count) hd2 t1 x5 s (hr x hx) hs'
    exact ⟨q.1, q.2.1⟩
  refine ⟨hf.1, hf.2.1, fun e x9 h9 => ?_⟩
  have hx : x9 ∈ rangeI 0 (s.length : Int) := rng_mem.mpr (by have := h.sh.1; omega)
  exact (ll3 (rows := rows) (count := count) hd2 t1 x5 s h9 h).2.2 (hf.2.2 e x9 hx)
theorem ll1 (hR : ∀ d ∈ rows, ∀ y ∈ d.2, 0 ≤ y ∧ y < (c : Int)) (x5 : Int) {s : List (List Int)} (h : PT n c parts s) :
    PT n c parts (Lis_lossless_st1 rows parts count s x5) ∧ (Lis_lossless_st1 rows parts count s x5 = s ∨ muT (c : Int) (Lis_lossless_st1 rows parts count s x5) < muT (c : Int) s) ∧
      (Lis_lossless_st1 rows parts count s x5 = s → KeepsAll s rows) := by
  have hf := fold_stay (PT n c parts) (muT (c : Int)) (Lis_lossless_st2 rows parts count s x5) rows s h fun d hd s' hs' => by
    have q := ll2 (rows := rows) (count := count) (hR d hd) s x5 hs'
    exact ⟨q.1, q.2.1⟩
  refine ⟨hf.1, hf.2.1, fun e d hd a ha b hb k => ?_⟩
  have at_ : ∀ r ∈ s, ∃ k : Int, (0 ≤ k ∧ k < (n : Int)) ∧ ix s k = r := fun r hr => by
    obtain ⟨m, hm1, hm2⟩ := List.getElem_of_mem hr
    have := h.sh.1
    exact ⟨(m : Int), ⟨by omega, by omega⟩, by rw [ix_nat (by omega) (by omega)]; simpa using hm2⟩
  obtain ⟨i, hi, rfl⟩ := at_ a ha
  obtain ⟨j, hj, rfl⟩ := at_ b hb
  exact (ll2 (rows := rows) (count := count) (hR d hd) s x5 h).2.2 (hf.2.2 e d hd) i hi j hj k
end
theorem sset_le (xs : List Int) : (sset xs).length ≤ xs.length := by
  have key : ∀ (ys zs : List Int), ys.Nodup → (∀ y ∈ ys, y ∈ zs) → ys.length ≤ zs.length := fun ys => by
    induction ys with
    | nil => intro zs _ _; exact Nat.zero_le _
    | cons y ys ih =>
      intro zs hn h
      have hn' := List.nodup_cons.mp hn
      have hy := h y List.mem_cons_self
      have q := ih (zs.erase y) hn'.2 fun w hw => (List.mem_erase_of_ne (fun e => hn'.1 (by rw [← e]; exact hw))).mpr (h w (List.mem_cons_of_mem _ hw))
      rw [List.length_erase_of_mem hy] at q
      have := List.length_pos_of_mem hy
      rw [List.length_cons]; omega
  exact key _ _ ((sset_asc xs).imp fun k => by omega) fun y hy => (mem_sset _ _).mp hy
theorem mu_le (c : Nat) (T : List (List Int)) : muT (c : Int) T ≤ c * T.length := by
  unfold muT
  have key : ∀ xs : List Int, (xs.map fun y => (sset (colOf T y)).length).sum ≤ xs.length * T.length := fun xs => by
    induction xs with
    | nil => simp
    | cons y xs ih =>
      simp only [List.map_cons, List.sum_cons, List.length_cons]
      have := sset_le (colOf T y)
      have e : (colOf T y).length = T.length := by unfold colOf; rw [List.length_map]
      rw [Nat.succ_mul]; omega
  have := key (rangeI 0 (c : Int))
  rw [rangeI_len] at this
  have e : ((c : Int) - 0).toNat = c := by omega
  rw [e] at this
  exact this
theorem pt_init (rows : List (List Int × List Int)) (parts : List (List Int)) (c : Nat) : PT parts.length c parts (Lis_lossless_Ltable1 rows parts (c : Int)) := by
  have hs := ll_init rows parts (c : Int)
  have e0 : ((c : Int)).toNat = c := by omega
  rw [e0] at hs
  have cell : ∀ k : Int, 0 ≤ k ∧ k < (parts.length : Int) → ∀ y : Int, 0 ≤ y ∧ y < (c : Int) → ix (ix (Lis_lossless_Ltable1 rows parts (c : Int)) k) y = if y ∈ ix parts k then 0 else k + 1 := fun k hk y hy => by
    unfold Lis_lossless_Ltable1
    have hl : ((rangeI 0 (parts.length : Int)).length : Int) = (parts.length : Int) := by rw [rangeI_len]; omega
    have hl2 : ((rangeI 0 (c : Int)).length : Int) = (c : Int) := by rw [rangeI_len]; omega
    have g1 : (rangeI 0 (parts.length : Int))[k.toNat]? = some k := by rw [rangeI_get (by omega)]; congr 1; omega
    have g2 : (rangeI 0 (c : Int))[y.toNat]? = some y := by rw [rangeI_get (by omega)]; congr 1; omega
    have g1' := (List.getElem?_eq_some_iff.mp g1).2
    have g2' := (List.getElem?_eq_some_iff.mp g2).2
    rw [ix_nat hk.1 (by rw [List.length_map]; omega), List.getElem_map, ix_nat hy.1 (by rw [List.length_map]; omega), List.getElem_map, g1', g2']
    by_cases q : y ∈ ix parts k
    · rw [decide_eq_true q, if_pos q]; rfl
    · rw [decide_eq_false q, if_neg q]; rfl
  refine ⟨hs, fun r hr y hy => ?_, fun k hk y hy hyr => ?_⟩
  · obtain ⟨m, hm1, hm2⟩ := List.getElem_of_mem hr
    have := hs.1
    have e : ix (Lis_lossless_Ltable1 rows parts (c : Int)) (m : Int) = r := by rw [ix_nat (by omega) (by omega)]; simpa using hm2
    rw [← e, cell (m : Int) (by omega) y hy]
    split <;> omega
  · rw [cell k hk y hyr, if_pos hy]
/-- the table at rest -/
theorem rest_ok {rows : List (List Int × List Int)} {parts : List (List Int)} {c : Nat} (hR : ∀ d ∈ rows, ∀ y ∈ d.2, 0 ≤ y ∧ y < (c : Int)) : PT parts.length c parts (Lis_lossless_loop5 rows parts (c : Int)) ∧ KeepsAll (Lis_lossless_loop5 rows parts (c : Int)) rows := by
  let f : List (List Int) → List (List Int) := fun s => Lis_lossless_st1 rows parts (c : Int) s 0
  have e : Lis_lossless_loop5 rows parts (c : Int) = (rangeI 0 (((c : Int) * (parts.length : Int)) + 1)).foldl (fun s _ => f s) (Lis_lossless_Ltable1 rows parts (c : Int)) := rfl
  have h0 := pt_init rows parts c
  have hstep : ∀ s, PT parts.length c parts s → PT parts.length c parts (f s) ∧ (f s = s ∨ muT (c : Int) (f s) < muT (c : Int) s) := fun s hs => by
    have q := ll1 (rows := rows) (count := (c : Int)) hR 0 hs
    exact ⟨q.1, q.2.1⟩
  have hP : PT parts.length c parts (Lis_lossless_loop5 rows parts (c : Int)) := by
    rw [e]
    exact fold_all (PT parts.length c parts) _ _ _ h0 fun _ _ s hs => (hstep s hs).1
  refine ⟨hP, (ll1 (rows := rows) (count := (c : Int)) hR 0 hP).2.2 ?_⟩
  show f _ = _
  rw [e]
  refine turns (PT parts.length c parts) (muT (c : Int)) f hstep _ _ h0 ?_
  have h1 := mu_le c (Lis_lossless_Ltable1 rows parts (c : Int))
  rw [h0.sh.1] at h1
  rw [rangeI_len]
  have e2 : ((c : Int) * (parts.length : Int) + 1 - 0).toNat = c * parts.length + 1 := by
    rw [← Int.natCast_mul]; omega
  rw [e2]; omega
/-! the law -/
theorem told_sd (v : List Int) : law_Ltold1 v = (law_Lrows1 v).map sdOf := law_told v
theorem law_walk (v : List Int) : BcW (law_Lcount1 v) (law_Lrows1 v) (boyce_codd_loop1 (law_Lcount1 v) (law_Ltold1 v)) ∧ (boyce_codd_loop1 (law_Lcount1 v) (law_Ltold1 v)).1 = [] := by
  have hc := law_count v
  have hD := law_tdok v
  rw [told_sd] at hD ⊢
  exact bcw_end (law_rows16 v) ⟨by omega, hc.2, hD⟩
theorem parts_is (v : List Int) : law_Lparts1 v = m_greatest (boyce_codd_loop1 (law_Lcount1 v) (law_Ltold1 v)).2 := rfl
theorem parts_in (v : List Int) {x : List Int} (hx : x ∈ law_Lparts1 v) : x ∈ (boyce_codd_loop1 (law_Lcount1 v) (law_Ltold1 v)).2 := (greatest_mem.mp hx).1
theorem parts_sub (v : List Int) {x : List Int} (hx : x ∈ law_Lparts1 v) : sub x (m_whole (law_Lcount1 v)) := (law_walk v).1.sub x (.inr (parts_in v hx))
theorem parts_over (v : List Int) {x : List Int} (hx : x ∈ (boyce_codd_loop1 (law_Lcount1 v) (law_Ltold1 v)).2) : ∃ y ∈ law_Lparts1 v, sub x y := greatest_over (law_walk v).1.inv.2.2 7 x hx (by omega)
theorem law_split (v : List Int) : m_Lis_split (law_Lparts1 v) (law_Lcount1 v) = true := by
  obtain ⟨hw, he⟩ := law_walk v
  refine split_true (fun x hx => hw.inv.2.2 x (parts_in v hx)) (greatest_asc _).1 (greatest_asc _).2 (fun x hx y hy hs => (greatest_mem.mp hx).2 y (parts_in v hy) hs) fun c => ⟨fun hc => ?_, fun ⟨x, hx, hc⟩ => parts_sub v hx c hc⟩
  rcases hw.all c hc with ⟨x, hx, _⟩ | ⟨x, hx, k⟩
  · rw [he] at hx; cases hx
  · obtain ⟨y, hy, hs⟩ := parts_over v hx
    exact ⟨y, hy, hs c k⟩
theorem law_lossless (v : List Int) : m_Lis_lossless (law_Lrows1 v) (law_Lparts1 v) (law_Lcount1 v) = true := by
  have hc := law_count v
  obtain ⟨hw, he⟩ := law_walk v
  have ec : (((law_Lcount1 v).toNat : Nat) : Int) = law_Lcount1 v := by omega
  have hR : ∀ d ∈ law_Lrows1 v, ∀ y ∈ d.2, 0 ≤ y ∧ y < (((law_Lcount1 v).toNat : Nat) : Int) := fun d hd y hy => ((law_rows v).1 d hd).2.rg y hy
  obtain ⟨hP, hK⟩ := rest_ok (parts := law_Lparts1 v) hR
  rw [ec] at hP hK
  have hz : ∀ x ∈ law_Lparts1 v, ZR (Lis_lossless_loop5 (law_Lrows1 v) (law_Lparts1 v) (law_Lcount1 v)) x := fun x hx => by
    obtain ⟨m, hm1, hm2⟩ := List.getElem_of_mem hx
    have ek : ix (law_Lparts1 v) (m : Int) = x := by rw [ix_nat (by omega) (by omega)]; simpa using hm2
    have hl := hP.sh.1
    refine ⟨ix (Lis_lossless_loop5 (law_Lrows1 v) (law_Lparts1 v) (law_Lcount1 v)) (m : Int), ix_mem ⟨by omega, by omega⟩, fun c hcx => ?_⟩
    have hr := rng_mem.mp (parts_sub v hx c hcx)
    exact hP.z (m : Int) ⟨by omega, by omega⟩ c (by rw [ek]; exact hcx) (by omega)
  obtain ⟨a, ha, h0⟩ := hw.zero _ hK (fun x hx => by rw [he] at hx; cases hx) fun x hx => by
    obtain ⟨y, hy, hs⟩ := parts_over v hx
    obtain ⟨a, ha, h0⟩ := hz y hy
    exact ⟨a, ha, fun c hcx => h0 c (hs c hcx)⟩
  have hal := hP.sh.2 a ha
  have ea : (rangeI 0 (law_Lcount1 v)).map (fun _ => (0 : Int)) = a := by
    refine List.ext_getElem (by rw [List.length_map, rangeI_len]; omega) fun m m1 m2 => ?_
    rw [List.getElem_map]
    have := h0 (m : Int) (rng_mem.mpr (by omega))
    rw [ix_nat (by omega) (by omega)] at this
    simpa using this.symm
  unfold m_Lis_lossless
  rw [ea]
  exact decide_eq_true ha
theorem law_breaks (v : List Int) {cols : List Int} (hc : Cols (law_Lcount1 v).toNat cols) : m_Lbreaks (law_Lrows1 v) cols (law_Lcount1 v) = (m_broken (law_Lcount1 v) (law_Ltold1 v) cols).isSome := by
  have h := law_count v
  rw [told_sd]
  exact Lbreaks_is _ (law_rows16 v) ⟨by omega, by omega⟩ hc
theorem law_true (v : List Int) (_ : v.length ≤ 63) : m_law v = true := by
  have hcnt := law_count v
  have e1 : m_Lbreaks (law_Lrows1 v) (law_Lcolumns1 v) (law_Lcount1 v) = (law_Lshown1 v).isSome := law_breaks v (m_Lset_cols (by omega))
  have e2 := law_split v
  have e3 := law_lossless v
  have e4 : (law_Ltold1 v).map (fun (x21 : Sd) => (x21.l, x21.r)) = law_Lrows1 v := by
    rw [told_sd, List.map_map]
    exact (List.map_congr_left fun p _ => rfl).trans (List.map_id' _)
  have e5 : m_boyce_codd (law_Lcount1 v) (law_Ltold1 v) = law_Lkept1 v := rfl
  have e6 : (law_Lkept1 v).filter (fun (x26 : (List Int)) => (m_Lbreaks (law_Lrows1 v) x26 (law_Lcount1 v))) = [] := List.filter_eq_nil_iff.mpr fun x hx k => by
    have hx' : x ∈ law_Lparts1 v := hx
    have hin := parts_in v hx'
    have h7 := (law_walk v).1.inv.2.2 x hin
    have hcx : Cols (law_Lcount1 v).toNat x := ⟨h7.asc, fun y hy => by have := rng_mem.mp (parts_sub v hx' y hy); omega⟩
    have hd := (law_walk v).1.done x hin
    rw [← told_sd] at hd
    rw [law_breaks v hcx, hd] at k
    cases k
  have e7 : (law_Lshown1 v).isSome = true → (!(m_Lis_within ((law_Lshown1 v).getD default).l (law_Lcolumns1 v))) = false ∧ ((law_Lshown1 v).getD default).r = (m_Lless (m_Lmet (law_Lreached1 v) (law_Lcolumns1 v)) ((law_Lshown1 v).getD default).l) ∧ ¬ ((((law_Lshown1 v).getD default).r.length : Int) = (0 : Int)) ∧ m_Lis_within (law_Lcolumns1 v) (law_Lreached1 v) = false := fun hs => by
    have hb := law_shown v hs
    have hl16 : Cols 16 ((law_Lshown1 v).getD default).l := hb.l.mono (by decide)
    have er : law_Lreached1 v = m_closed (law_Ltold1 v) ((law_Lshown1 v).getD default).l := by
      rw [told_sd]
      exact (closed_L (law_rows16 v) hl16).symm
    rw [er]
    refine ⟨by rw [within_L, m_is_within_iff.mpr hb.subl]; rfl, hb.is, fun k => hb.ne (List.eq_nil_of_length_eq_zero (by omega)), ?_⟩
    rw [within_L]
    cases q : m_is_within (law_Lcolumns1 v) (m_closed (law_Ltold1 v) ((law_Lshown1 v).getD default).l) with
    | false => rfl
    | true => exact absurd (m_is_within_iff.mp q) hb.out
  unfold m_law
  rw [e1, e2, e3, e4, e5, e6]
  cases hs : (law_Lshown1 v).isSome with
  | false => simp
  | true =>
    obtain ⟨g1, g2, g3, g4⟩ := e7 hs
    rw [g1, g4, decide_eq_true g2, decide_eq_false g3]
    simp
def spL [Tb] (K : PySem.W.Frag) : Sp := spP (A := List Int) (fun x => (x.length ≤ 63)) (fun x => [pu (tL K tI) x]) (fun x => pu tB (m_law x))
theorem all_mk {l : PySem.W.OpenLaw} {q : Program} {w : World} {K : PySem.W.Frag} {h : Heap} {mg : Str → Option Value} {fa : Addr} (X : K.In h) (G : h.Ns mainGlobals mg) (hfa : mg "law" = some (.ref fa))
    {f_Lnumbers : Addr} {oc1 kV1 dc1 pm1 cd1 ct1 : Value} {od1 an1 : Option Addr} {sl1 : Array (Option Value)}
    {f_Lsparse : Addr} {oc2 kV2 dc2 pm2 cd2 ct2 : Value} {od2 an2 : Option Addr} {sl2 : Array (Option Value)}
    {f_Lfds : Addr} {oc3 kV3 dc3 pm3 cd3 ct3 : Value} {od3 an3 : Option Addr} {sl3 : Array (Option Value)}
    {f_as_set : Addr} {oc4 kV4 dc4 pm4 cd4 ct4 : Value} {od4 an4 : Option Addr} {sl4 : Array (Option Value)}
    {f_Sides_init : Addr} {oc5 kV5 dc5 pm5 cd5 ct5 : Value} {od5 an5 : Option Addr} {sl5 : Array (Option Value)}
    {f_Lset : Addr} {oc6 kV6 dc6 pm6 cd6 ct6 : Value} {od6 an6 : Option Addr} {sl6 : Array (Option Value)}
    {f_all_sets : Addr} {oc7 kV7 dc7 pm7 ct7 : Value} {od7 an7 : Option Addr} {sl7 : Array (Option Value)}
    {lc_all_sets lp_all_sets : Addr} {ec7 : Value} {dd7 : Option Addr} {vc7 : Array Value} {sc7 : Array (Option Value)}
    {f_is_within : Addr} {oc8 kV8 dc8 pm8 cd8 ct8 : Value} {od8 an8 : Option Addr} {sl8 : Array (Option Value)}
    {f_united : Addr} {oc9 kV9 dc9 pm9 cd9 ct9 : Value} {od9 an9 : Option Addr} {sl9 : Array (Option Value)}
    {f_closed : Addr} {oc10 kV10 dc10 pm10 cd10 ct10 : Value} {od10 an10 : Option Addr} {sl10 : Array (Option Value)}
    {f_less : Addr} {oc11 kV11 dc11 pm11 cd11 ct11 : Value} {od11 an11 : Option Addr} {sl11 : Array (Option Value)}
    {f_met : Addr} {oc12 kV12 dc12 pm12 cd12 ct12 : Value} {od12 an12 : Option Addr} {sl12 : Array (Option Value)}
    {f_broken : Addr} {oc13 kV13 dc13 pm13 cd13 ct13 : Value} {od13 an13 : Option Addr} {sl13 : Array (Option Value)}
    {f_Lless : Addr} {oc14 kV14 dc14 pm14 cd14 ct14 : Value} {od14 an14 : Option Addr} {sl14 : Array (Option Value)}
    {f_Lis_within : Addr} {oc15 kV15 dc15 pm15 cd15 ct15 : Value} {od15 an15 : Option Addr} {sl15 : Array (Option Value)}
    {f_Lunited : Addr} {oc16 kV16 dc16 pm16 cd16 ct16 : Value} {od16 an16 : Option Addr} {sl16 : Array (Option Value)}
    {f_Lclosed : Addr} {oc17 kV17 dc17 pm17 cd17 ct17 : Value} {od17 an17 : Option Addr} {sl17 : Array (Option Value)}
    {f_Lmet : Addr} {oc18 kV18 dc18 pm18 cd18 ct18 : Value} {od18 an18 : Option Addr} {sl18 : Array (Option Value)}
    {f_Lbreaks : Addr} {oc19 kV19 dc19 pm19 cd19 ct19 : Value} {od19 an19 : Option Addr} {sl19 : Array (Option Value)}
    {f_whole : Addr} {oc20 kV20 dc20 pm20 cd20 ct20 : Value} {od20 an20 : Option Addr} {sl20 : Array (Option Value)}
    {f_greatest : Addr} {oc21 kV21 dc21 pm21 cd21 ct21 : Value} {od21 an21 : Option Addr} {sl21 : Array (Option Value)}
    {f_boyce_codd : Addr} {oc22 kV22 dc22 pm22 cd22 ct22 : Value} {od22 an22 : Option Addr} {sl22 : Array (Option Value)}
    {f_Lis_split : Addr} {oc23 kV23 dc23 pm23 cd23 ct23 : Value} {od23 an23 : Option Addr} {sl23 : Array (Option Value)}
    {f_Lmerge : Addr} {oc24 kV24 dc24 pm24 cd24 ct24 : Value} {od24 an24 : Option Addr} {sl24 : Array (Option Value)}
    {f_Lis_lossless : Addr} {oc25 kV25 dc25 pm25 cd25 ct25 : Value} {od25 an25 : Option Addr} {sl25 : Array (Option Value)}
    {f_law : Addr} {oc26 kV26 dc26 pm26 cd26 ct26 : Value} {od26 an26 : Option Addr} {sl26 : Array (Option Value)}
    {C_Fd : Addr}
    (g1 : PySem.W.nsIn K mainGlobals "_law_numbers" = some (some (.ref f_Lnumbers)))
    (g2 : PySem.W.nsIn K mainGlobals "_law_sparse" = some (some (.ref f_Lsparse)))
    (g3 : PySem.W.nsIn K mainGlobals "_law_fds" = some (some (.ref f_Lfds)))
    (g4 : PySem.W.nsIn K mainGlobals "as_set" = some (some (.ref f_as_set)))
    (g6 : PySem.W.nsIn K mainGlobals "_law_set" = some (some (.ref f_Lset)))
    (g7 : PySem.W.nsIn K mainGlobals "all_sets" = some (some (.ref f_all_sets)))
    (g8 : PySem.W.nsIn K mainGlobals "is_within" = some (some (.ref f_is_within)))
    (g9 : PySem.W.nsIn K mainGlobals "united" = some (some (.ref f_united)))
    (g10 : PySem.W.nsIn K mainGlobals "closed" = some (some (.ref f_closed)))
    (g11 : PySem.W.nsIn K mainGlobals "less" = some (some (.ref f_less)))
    (g12 : PySem.W.nsIn K mainGlobals "met" = some (some (.ref f_met)))
    (g13 : PySem.W.nsIn K mainGlobals "broken" = some (some (.ref f_broken)))
    (g14 : PySem.W.nsIn K mainGlobals "_law_less" = some (some (.ref f_Lless)))
    (g15 : PySem.W.nsIn K mainGlobals "_law_is_within" = some (some (.ref f_Lis_within)))
    (g16 : PySem.W.nsIn K mainGlobals "_law_united" = some (some (.ref f_Lunited)))
    (g17 : PySem.W.nsIn K mainGlobals "_law_closed" = some (some (.ref f_Lclosed)))
    (g18 : PySem.W.nsIn K mainGlobals "_law_met" = some (some (.ref f_Lmet)))
    (g19 : PySem.W.nsIn K mainGlobals "_law_breaks" = some (some (.ref f_Lbreaks)))
    (g20 : PySem.W.nsIn K mainGlobals "whole" = some (some (.ref f_whole)))
    (g21 : PySem.W.nsIn K mainGlobals "greatest" = some (some (.ref f_greatest)))
    (g22 : PySem.W.nsIn K mainGlobals "boyce_codd" = some (some (.ref f_boyce_codd)))
    (g23 : PySem.W.nsIn K mainGlobals "_law_is_split" = some (some (.ref f_Lis_split)))
    (g24 : PySem.W.nsIn K mainGlobals "_law_merge" = some (some (.ref f_Lmerge)))
    (g25 : PySem.W.nsIn K mainGlobals "_law_is_lossless" = some (some (.ref f_Lis_lossless)))
    (g26 : PySem.W.nsIn K mainGlobals "law" = some (some (.ref f_law)))
    (g_Fd : PySem.W.nsIn K mainGlobals "Fd" = some (some (.ref C_Fd)))
    (in_Fd : PySem.W.findIn K (.ref C_Fd) "__init__" = some (some (.ref f_Sides_init)))
    (l1 : K.lookup f_Lnumbers = some ⟨oc1, od1, .func (PySem.W.fnOf "_law_numbers" "_law_numbers" (defArgs s_Lnumbers) (defBody s_Lnumbers) (defScope s_Lnumbers) .none kV1 dc1 pm1 an1 cd1 ct1), sl1⟩)
    (c1 : PySem.W.codeIn K cd1 "_law_numbers" = true)
    (k1 : PySem.W.keepIn K (.ref f_Lnumbers) = true)
    (l2 : K.lookup f_Lsparse = some ⟨oc2, od2, .func (PySem.W.fnOf "_law_sparse" "_law_sparse" (defArgs s_Lsparse) (defBody s_Lsparse) (defScope s_Lsparse) .none kV2 dc2 pm2 an2 cd2 ct2), sl2⟩)
    (c2 : PySem.W.codeIn K cd2 "_law_sparse" = true)
    (k2 : PySem.W.keepIn K (.ref f_Lsparse) = true)
    (l3 : K.lookup f_Lfds = some ⟨oc3, od3, .func (PySem.W.fnOf "_law_fds" "_law_fds" (defArgs s_Lfds) (defBody s_Lfds) (defScope s_Lfds) .none kV3 dc3 pm3 an3 cd3 ct3), sl3⟩)
    (c3 : PySem.W.codeIn K cd3 "_law_fds" = true)
    (k3 : PySem.W.keepIn K (.ref f_Lfds) = true)
    (l4 : K.lookup f_as_set = some ⟨oc4, od4, .func (PySem.W.fnOf "as_set" "as_set" (defArgs s_as_set) (defBody s_as_set) (defScope s_as_set) .none kV4 dc4 pm4 an4 cd4 ct4), sl4⟩)
    (c4 : PySem.W.codeIn K cd4 "as_set" = true)
    (k4 : PySem.W.keepIn K (.ref f_as_set) = true)
    (l5 : K.lookup f_Sides_init = some ⟨oc5, od5, .func (PySem.W.fnOf "__init__" "Sides.__init__" (defArgs s_Sides_init) (defBody s_Sides_init) (defScope s_Sides_init) .none kV5 dc5 pm5 an5 cd5 ct5), sl5⟩)
    (c5 : PySem.W.codeIn K cd5 "Sides.__init__" = true)
    (k5 : PySem.W.keepIn K (.ref f_Sides_init) = true)
    (l6 : K.lookup f_Lset = some ⟨oc6, od6, .func (PySem.W.fnOf "_law_set" "_law_set" (defArgs s_Lset) (defBody s_Lset) (defScope s_Lset) .none kV6 dc6 pm6 an6 cd6 ct6), sl6⟩)
    (c6 : PySem.W.codeIn K cd6 "_law_set" = true)
    (k6 : PySem.W.keepIn K (.ref f_Lset) = true)
    (l7 : K.lookup f_all_sets = some ⟨oc7, od7, .func (PySem.W.fnOf "all_sets" "all_sets" (defArgs s_all_sets) (defBody s_all_sets) (defScope s_all_sets) .none kV7 dc7 pm7 an7 (.ref lc_all_sets) ct7), sl7⟩)
    (c7 : PySem.W.codeIn K (.ref lc_all_sets) "all_sets" = true)
    (lk7 : K.lookup lc_all_sets = some ⟨ec7, dd7, .fields vc7, sc7⟩)
    (k7 : PySem.W.keepIn K (.ref f_all_sets) = true)
    (l8 : K.lookup f_is_within = some ⟨oc8, od8, .func (PySem.W.fnOf "is_within" "is_within" (defArgs s_is_within) (defBody s_is_within) (defScope s_is_within) .none kV8 dc8 pm8 an8 cd8 ct8), sl8⟩)
    (c8 : PySem.W.codeIn K cd8 "is_within" = true)
    (k8 : PySem.W.keepIn K (.ref f_is_within) = true)
    (l9 : K.lookup f_united = some ⟨oc9, od9, .func (PySem.W.fnOf "united" "united" (defArgs s_united) (defBody s_united) (defScope s_united) .none kV9 dc9 pm9 an9 cd9 ct9), sl9⟩)
    (c9 : PySem.W.codeIn K cd9 "united" = true)
    (k9 : PySem.W.keepIn K (.ref f_united) = true)
    (l10 : K.lookup f_closed = some ⟨oc10, od10, .func (PySem.W.fnOf "closed" "closed" (defArgs s_closed) (defBody s_closed) (defScope s_closed) .none kV10 dc10 pm10 an10 cd10 ct10), sl10⟩)
    (c10 : PySem.W.codeIn K cd10 "closed" = true)
    (k10 : PySem.W.keepIn K (.ref f_closed) = true)
    (l11 : K.lookup f_less = some ⟨oc11, od11, .func (PySem.W.fnOf "less" "less" (defArgs s_less) (defBody s_less) (defScope s_less) .none kV11 dc11 pm11 an11 cd11 ct11), sl11⟩)
    (c11 : PySem.W.codeIn K cd11 "less" = true)
    (k11 : PySem.W.keepIn K (.ref f_less) = true)
    (l12 : K.lookup f_met = some ⟨oc12, od12, .func (PySem.W.fnOf "met" "met" (defArgs s_met) (defBody s_met) (defScope s_met) .none kV12 dc12 pm12 an12 cd12 ct12), sl12⟩)
    (c12 : PySem.W.codeIn K cd12 "met" = true)
    (k12 : PySem.W.keepIn K (.ref f_met) = true)
    (l13 : K.lookup f_broken = some ⟨oc13, od13, .func (PySem.W.fnOf "broken" "broken" (defArgs s_broken) (defBody s_broken) (defScope s_broken) .none kV13 dc13 pm13 an13 cd13 ct13), sl13⟩)
    (c13 : PySem.W.codeIn K cd13 "broken" = true)
    (k13 : PySem.W.keepIn K (.ref f_broken) = true)
    (l14 : K.lookup f_Lless = some ⟨oc14, od14, .func (PySem.W.fnOf "_law_less" "_law_less" (defArgs s_Lless) (defBody s_Lless) (defScope s_Lless) .none kV14 dc14 pm14 an14 cd14 ct14), sl14⟩)
    (c14 : PySem.W.codeIn K cd14 "_law_less" = true)
    (k14 : PySem.W.keepIn K (.ref f_Lless) = true)
    (l15 : K.lookup f_Lis_within = some ⟨oc15, od15, .func (PySem.W.fnOf "_law_is_within" "_law_is_within" (defArgs s_Lis_within) (defBody s_Lis_within) (defScope s_Lis_within) .none kV15 dc15 pm15 an15 cd15 ct15), sl15⟩)
    (c15 : PySem.W.codeIn K cd15 "_law_is_within" = true)
    (k15 : PySem.W.keepIn K (.ref f_Lis_within) = true)
    (l16 : K.lookup f_Lunited = some ⟨oc16, od16, .func (PySem.W.fnOf "_law_united" "_law_united" (defArgs s_Lunited) (defBody s_Lunited) (defScope s_Lunited) .none kV16 dc16 pm16 an16 cd16 ct16), sl16⟩)
    (c16 : PySem.W.codeIn K cd16 "_law_united" = true)
    (k16 : PySem.W.keepIn K (.ref f_Lunited) = true)
    (l17 : K.lookup f_Lclosed = some ⟨oc17, od17, .func (PySem.W.fnOf "_law_closed" "_law_closed" (defArgs s_Lclosed) (defBody s_Lclosed) (defScope s_Lclosed) .none kV17 dc17 pm17 an17 cd17 ct17), sl17⟩)
    (c17 : PySem.W.codeIn K cd17 "_law_closed" = true)
    (k17 : PySem.W.keepIn K (.ref f_Lclosed) = true)
    (l18 : K.lookup f_Lmet = some ⟨oc18, od18, .func (PySem.W.fnOf "_law_met" "_law_met" (defArgs s_Lmet) (defBody s_Lmet) (defScope s_Lmet) .none kV18 dc18 pm18 an18 cd18 ct18), sl18⟩)
    (c18 : PySem.W.codeIn K cd18 "_law_met" = true)
    (k18 : PySem.W.keepIn K (.ref f_Lmet) = true)
    (l19 : K.lookup f_Lbreaks = some ⟨oc19, od19, .func (PySem.W.fnOf "_law_breaks" "_law_breaks" (defArgs s_Lbreaks) (defBody s_Lbreaks) (defScope s_Lbreaks) .none kV19 dc19 pm19 an19 cd19 ct19), sl19⟩)
    (c19 : PySem.W.codeIn K cd19 "_law_breaks" = true)
    (k19 : PySem.W.keepIn K (.ref f_Lbreaks) = true)
    (l20 : K.lookup f_whole = some ⟨oc20, od20, .func (PySem.W.fnOf "whole" "whole" (defArgs s_whole) (defBody s_whole) (defScope s_whole) .none kV20 dc20 pm20 an20 cd20 ct20), sl20⟩)
    (c20 : PySem.W.codeIn K cd20 "whole" = true)
    (k20 : PySem.W.keepIn K (.ref f_whole) = true)
    (l21 : K.lookup f_greatest = some ⟨oc21, od21, .func (PySem.W.fnOf "greatest" "greatest" (defArgs s_greatest) (defBody s_greatest) (defScope s_greatest) .none kV21 dc21 pm21 an21 cd21 ct21), sl21⟩)
    (c21 : PySem.W.codeIn K cd21 "greatest" = true)
    (k21 : PySem.W.keepIn K (.ref f_greatest) = true)
    (l22 : K.lookup f_boyce_codd = some ⟨oc22, od22, .func (PySem.W.fnOf "boyce_codd" "boyce_codd" (defArgs s_boyce_codd) (defBody s_boyce_codd) (defScope s_boyce_codd) .none kV22 dc22 pm22 an22 cd22 ct22), sl22⟩)
    (c22 : PySem.W.codeIn K cd22 "boyce_codd" = true)
    (k22 : PySem.W.keepIn K (.ref f_boyce_codd) = true)
    (l23 : K.lookup f_Lis_split = some ⟨oc23, od23, .func (PySem.W.fnOf "_law_is_split" "_law_is_split" (defArgs s_Lis_split) (defBody s_Lis_split) (defScope s_Lis_split) .none kV23 dc23 pm23 an23 cd23 ct23), sl23⟩)
    (c23 : PySem.W.codeIn K cd23 "_law_is_split" = true)
    (k23 : PySem.W.keepIn K (.ref f_Lis_split) = true)
    (l24 : K.lookup f_Lmerge = some ⟨oc24, od24, .func (PySem.W.fnOf "_law_merge" "_law_merge" (defArgs s_Lmerge) (defBody s_Lmerge) (defScope s_Lmerge) .none kV24 dc24 pm24 an24 cd24 ct24), sl24⟩)
    (c24 : PySem.W.codeIn K cd24 "_law_merge" = true)
    (k24 : PySem.W.keepIn K (.ref f_Lmerge) = true)
    (l25 : K.lookup f_Lis_lossless = some ⟨oc25, od25, .func (PySem.W.fnOf "_law_is_lossless" "_law_is_lossless" (defArgs s_Lis_lossless) (defBody s_Lis_lossless) (defScope s_Lis_lossless) .none kV25 dc25 pm25 an25 cd25 ct25), sl25⟩)
    (c25 : PySem.W.codeIn K cd25 "_law_is_lossless" = true)
    (k25 : PySem.W.keepIn K (.ref f_Lis_lossless) = true)
    (l26 : K.lookup f_law = some ⟨oc26, od26, .func (PySem.W.fnOf "law" "law" (defArgs s_law) (defBody s_law) (defScope s_law) .none kV26 dc26 pm26 an26 cd26 ct26), sl26⟩)
    (c26 : PySem.W.codeIn K cd26 "law" = true)
    (k26 : PySem.W.keepIn K (.ref f_law) = true)
    (pg_Fd : PySem.W.plainGet K C_Fd Str.empty = true)
    (hd_Fd : PySem.W.hasDictIn K C_Fd = true)
    (po_Fd : PySem.W.plainOver K C_Fd = true)
    (sa_Fd : PySem.W.findIn K (.ref C_Fd) "__setattr__" = some (some (.builtin "object.__setattr__")))
    (mk_Fd : PySem.W.makesIn K C_Fd = true)
    (if_Fd : PySem.W.isFn K (.ref f_Sides_init) = true)
    (kc_Fd : PySem.W.keepIn K (.ref C_Fd) = true)
    (na_Fd_left : PySem.W.findIn K (.ref C_Fd) "left" = some none)
    (na_Fd_right : PySem.W.findIn K (.ref C_Fd) "right" = some none)
    (ha_Fd : PySem.W.findIn K (.ref C_Fd) "__class__" = some (some (.builtin "object.__class__")))
    (hm_Fd : PySem.W.mroIn K C_Fd (.type "object") = some true)
    (hn_ : PySem.W.specialIn K (.builtin "object.__class__") "__get__" = some (some (.builtin "getset_descriptor.__get__")))
    (htk_ : PySem.W.takesIn K (.builtin "object.__class__") = some true)
    (z_all : PySem.W.nsIn K mainGlobals "all" = some none)
    (z_any : PySem.W.nsIn K mainGlobals "any" = some none)
    (z_int : PySem.W.nsIn K mainGlobals "int" = some none)
    (z_isinstance : PySem.W.nsIn K mainGlobals "isinstance" = some none)
    (z_len : PySem.W.nsIn K mainGlobals "len" = some none)
    (z_list : PySem.W.nsIn K mainGlobals "list" = some none)
    (z_max : PySem.W.nsIn K mainGlobals "max" = some none)
    (z_min : PySem.W.nsIn K mainGlobals "min" = some none)
    (z_range : PySem.W.nsIn K mainGlobals "range" = some none)
    (z_set : PySem.W.nsIn K mainGlobals "set" = some none)
    (z_sorted : PySem.W.nsIn K mainGlobals "sorted" = some none)
    (z_tuple : PySem.W.nsIn K mainGlobals "tuple" = some none)
    (ht7 : vc7[11]? = some (.ref lp_all_sets)) (hn7 : K.lookup lp_all_sets = none) (hy7 : ((PyProof.Rows.recsOf q).any fun e => e.name == ("all_sets" : Str)) = true)
    (tabs : TabsOf q K mg h)
    : LamX.LawAtS l w K CX0 7 63 "_law_script" mg fa h := by
  have e := hfa.symm.trans (PySem.W.mg_of X G g26)
  cases e
  have tb7 := tabs.at X hy7 (PySem.W.mg_of X G g7) l7 rfl lk7 ht7
  letI : Tb := ⟨[(lp_all_sets, (("all_sets" : Str) ++ ".<locals>." ++ "<lambda>"))]⟩
  refine ⟨PySem.W.fnOf "law" "law" (defArgs s_law) (defBody s_law) (defScope s_law) .none kV26 dc26 pm26 an26 cd26 ct26, [(lc_all_sets, lp_all_sets)], spL K, (by intro p hp; simp only [List.mem_cons, List.not_mem_nil, or_false] at hp; subst hp; exact tb7.1), (by intro p hp; simp only [List.mem_cons, List.not_mem_nil, or_false] at hp; subst hp; exact hn7), (by intro p hp; simp only [List.mem_cons, List.not_mem_nil, or_false] at hp; subst hp; exact tb7.2), fun s v => .of_eq rfl, fun H a ns hl _ hH hS => sp_law hl hS (show ∀ p ∈ [(lp_all_sets, (("all_sets" : Str) ++ ".<locals>." ++ "<lambda>"))], H p.1 = some (.tbl #[]) from by intro p hp; simp only [List.mem_cons, List.not_mem_nil, or_false] at hp; subst hp; exact hH _ (List.mem_singleton.mpr rfl)) (law_true ns hl), fun base _ _ TB => ok_law (P := l.prog) (w := w) (base := base) (mg := mg) {
    a_Lnumbers := f_Lnumbers,
    d_Lnumbers := _,
    F_Lnumbers := fun_mk (st := s_Lnumbers) l1 c1 k1,
    b_Lnumbers := (fun_mk (st := s_Lnumbers) l1 c1 k1).binds (ps := ["_law_script", "_law_count"]) (fun _ _ _ _ _ _ us hl => match us, hl with | [_, _], _ => rfl),
    g_Lnumbers := PySem.W.mg_of X G g1,
    a_Lsparse := f_Lsparse,
    d_Lsparse := _,
    F_Lsparse := fun_mk (st := s_Lsparse) l2 c2 k2,
    b_Lsparse := (fun_mk (st := s_Lsparse) l2 c2 k2).binds (ps := ["_law_number", "_law_count"]) (fun _ _ _ _ _ _ us hl => match us, hl with | [_, _], _ => rfl),
    g_Lsparse := PySem.W.mg_of X G g2,
    a_Lfds := f_Lfds,
    d_Lfds := _,
    F_Lfds := fun_mk (st := s_Lfds) l3 c3 k3,
    b_Lfds := (fun_mk (st := s_Lfds) l3 c3 k3).binds (ps := ["_law_numbers_here", "_law_place", "_law_count"]) (fun _ _ _ _ _ _ us hl => match us, hl with | [_, _, _], _ => rfl),
    g_Lfds := PySem.W.mg_of X G g3,
    a_as_set := f_as_set,
    d_as_set := _,
    F_as_set := fun_mk (st := s_as_set) l4 c4 k4,
    b_as_set := (fun_mk (st := s_as_set) l4 c4 k4).binds (ps := ["columns"]) (fun _ _ _ _ _ _ us hl => match us, hl with | [_], _ => rfl),
    g_as_set := PySem.W.mg_of X G g4,
    a_Sides_init := f_Sides_init,
    d_Sides_init := _,
    F_Sides_init := fun_mk (st := s_Sides_init) l5 c5 k5,
    b_Sides_init := (fun_mk (st := s_Sides_init) l5 c5 k5).binds (ps := ["self", "left", "right"]) (fun _ _ _ _ _ _ us hl => match us, hl with | [_, _, _], _ => rfl),
    a_Lset := f_Lset,
    d_Lset := _,
    F_Lset := fun_mk (st := s_Lset) l6 c6 k6,
    b_Lset := (fun_mk (st := s_Lset) l6 c6 k6).binds (ps := ["_law_number", "_law_count"]) (fun _ _ _ _ _ _ us hl => match us, hl with | [_, _], _ => rfl),
    g_Lset := PySem.W.mg_of X G g6,
    a_all_sets := f_all_sets,
    d_all_sets := _,
    F_all_sets := FunC.fn ⟨⟨_, _, _, _, _, _, _, _, rfl, l7, c7⟩⟩ k7,
    b_all_sets := (fun_mk (st := s_all_sets) l7 c7 k7).binds (ps := ["columns"]) (fun _ _ _ _ _ _ us hl => match us, hl with | [_], _ => rfl),
    lc_all_sets := lc_all_sets,
    lp_all_sets := lp_all_sets,
    FC_all_sets := ⟨⟨_, _, _, _, _, _, _, _, rfl, l7, c7⟩⟩,
    TB_all_sets := TB _ (List.mem_singleton.mpr rfl),
    tm_all_sets := (show (lp_all_sets, (("all_sets" : Str) ++ ".<locals>." ++ "<lambda>")) ∈ [(lp_all_sets, (("all_sets" : Str) ++ ".<locals>." ++ "<lambda>"))] from List.mem_singleton.mpr rfl),
    tu_all_sets := (show ∀ p ∈ [(lp_all_sets, (("all_sets" : Str) ++ ".<locals>." ++ "<lambda>"))], p.1 = lp_all_sets → p.2 = (("all_sets" : Str) ++ ".<locals>." ++ "<lambda>") from fun p hp _ => by rw [List.mem_singleton.mp hp]),
    g_all_sets := PySem.W.mg_of X G g7,
    a_is_within := f_is_within,
    d_is_within := _,
    F_is_within := fun_mk (st := s_is_within) l8 c8 k8,
    b_is_within := (fun_mk (st := s_is_within) l8 c8 k8).binds (ps := ["a", "b"]) (fun _ _ _ _ _ _ us hl => match us, hl with | [_, _], _ => rfl),
    g_is_within := PySem.W.mg_of X G g8,
    a_united := f_united,
    d_united := _,
    F_united := fun_mk (st := s_united) l9 c9 k9,
    b_united := (fun_mk (st := s_united) l9 c9 k9).binds (ps := ["a", "b"]) (fun _ _ _ _ _ _ us hl => match us, hl with | [_, _], _ => rfl),
    g_united := PySem.W.mg_of X G g9,
    a_closed := f_closed,
    d_closed := _,
    F_closed := fun_mk (st := s_closed) l10 c10 k10,
    b_closed := (fun_mk (st := s_closed) l10 c10 k10).binds (ps := ["dependencies", "columns"]) (fun _ _ _ _ _ _ us hl => match us, hl with | [_, _], _ => rfl),
    g_closed := PySem.W.mg_of X G g10,
    a_less := f_less,
    d_less := _,
    F_less := fun_mk (st := s_less) l11 c11 k11,
    b_less := (fun_mk (st := s_less) l11 c11 k11).binds (ps := ["a", "b"]) (fun _ _ _ _ _ _ us hl => match us, hl with | [_, _], _ => rfl),
    g_less := PySem.W.mg_of X G g11,
    a_met := f_met,
    d_met := _,
    F_met := fun_mk (st := s_met) l12 c12 k12,
    b_met := (fun_mk (st := s_met) l12 c12 k12).binds (ps := ["a", "b"]) (fun _ _ _ _ _ _ us hl => match us, hl with | [_, _], _ => rfl),
    g_met := PySem.W.mg_of X G g12,
    a_broken := f_broken,
    d_broken := _,
    F_broken := fun_mk (st := s_broken) l13 c13 k13,
    b_broken := (fun_mk (st := s_broken) l13 c13 k13).binds (ps := ["count", "dependencies", "columns"]) (fun _ _ _ _ _ _ us hl => match us, hl with | [_, _, _], _ => rfl),
    g_broken := PySem.W.mg_of X G g13,
    a_Lless := f_Lless,
    d_Lless := _,
    F_Lless := fun_mk (st := s_Lless) l14 c14 k14,
    b_Lless := (fun_mk (st := s_Lless) l14 c14 k14).binds (ps := ["_law_a", "_law_b"]) (fun _ _ _ _ _ _ us hl => match us, hl with | [_, _], _ => rfl),
    g_Lless := PySem.W.mg_of X G g14,
    a_Lis_within := f_Lis_within,
    d_Lis_within := _,
    F_Lis_within := fun_mk (st := s_Lis_within) l15 c15 k15,
    b_Lis_within := (fun_mk (st := s_Lis_within) l15 c15 k15).binds (ps := ["_law_a", "_law_b"]) (fun _ _ _ _ _ _ us hl => match us, hl with | [_, _], _ => rfl),
    g_Lis_within := PySem.W.mg_of X G g15,
    a_Lunited := f_Lunited,
    d_Lunited := _,
    F_Lunited := fun_mk (st := s_Lunited) l16 c16 k16,
    b_Lunited := (fun_mk (st := s_Lunited) l16 c16 k16).binds (ps := ["_law_a", "_law_b"]) (fun _ _ _ _ _ _ us hl => match us, hl with | [_, _], _ => rfl),
    g_Lunited := PySem.W.mg_of X G g16,
    a_Lclosed := f_Lclosed,
    d_Lclosed := _,
    F_Lclosed := fun_mk (st := s_Lclosed) l17 c17 k17,
    b_Lclosed := (fun_mk (st := s_Lclosed) l17 c17 k17).binds (ps := ["_law_rows", "_law_columns"]) (fun _ _ _ _ _ _ us hl => match us, hl with | [_, _], _ => rfl),
    g_Lclosed := PySem.W.mg_of X G g17,
    a_Lmet := f_Lmet,
    d_Lmet := _,
    F_Lmet := fun_mk (st := s_Lmet) l18 c18 k18,
    b_Lmet := (fun_mk (st := s_Lmet) l18 c18 k18).binds (ps := ["_law_a", "_law_b"]) (fun _ _ _ _ _ _ us hl => match us, hl with | [_, _], _ => rfl),
    g_Lmet := PySem.W.mg_of X G g18,
    a_Lbreaks := f_Lbreaks,
    d_Lbreaks := _,
    F_Lbreaks := fun_mk (st := s_Lbreaks) l19 c19 k19,
    b_Lbreaks := (fun_mk (st := s_Lbreaks) l19 c19 k19).binds (ps := ["_law_rows", "_law_columns", "_law_count"]) (fun _ _ _ _ _ _ us hl => match us, hl with | [_, _, _], _ => rfl),
    g_Lbreaks := PySem.W.mg_of X G g19,
    a_whole := f_whole,
    d_whole := _,
    F_whole := fun_mk (st := s_whole) l20 c20 k20,
    b_whole := (fun_mk (st := s_whole) l20 c20 k20).binds (ps := ["count"]) (fun _ _ _ _ _ _ us hl => match us, hl with | [_], _ => rfl),
    g_whole := PySem.W.mg_of X G g20,
    a_greatest := f_greatest,
    d_greatest := _,
    F_greatest := fun_mk (st := s_greatest) l21 c21 k21,
    b_greatest := (fun_mk (st := s_greatest) l21 c21 k21).binds (ps := ["parts"]) (fun _ _ _ _ _ _ us hl => match us, hl with | [_], _ => rfl),
    g_greatest := PySem.W.mg_of X G g21,
    a_boyce_codd := f_boyce_codd,
    d_boyce_codd := _,
    F_boyce_codd := fun_mk (st := s_boyce_codd) l22 c22 k22,
    b_boyce_codd := (fun_mk (st := s_boyce_codd) l22 c22 k22).binds (ps := ["count", "dependencies"]) (fun _ _ _ _ _ _ us hl => match us, hl with | [_, _], _ => rfl),
    g_boyce_codd := PySem.W.mg_of X G g22,
    a_Lis_split := f_Lis_split,
    d_Lis_split := _,
    F_Lis_split := fun_mk (st := s_Lis_split) l23 c23 k23,
    b_Lis_split := (fun_mk (st := s_Lis_split) l23 c23 k23).binds (ps := ["_law_parts", "_law_count"]) (fun _ _ _ _ _ _ us hl => match us, hl with | [_, _], _ => rfl),
    g_Lis_split := PySem.W.mg_of X G g23,
    a_Lmerge := f_Lmerge,
    d_Lmerge := _,
    F_Lmerge := fun_mk (st := s_Lmerge) l24 c24 k24,
    b_Lmerge := (fun_mk (st := s_Lmerge) l24 c24 k24).binds (ps := ["_law_table", "_law_column", "_law_low", "_law_high"]) (fun _ _ _ _ _ _ us hl => match us, hl with | [_, _, _, _], _ => rfl),
    g_Lmerge := PySem.W.mg_of X G g24,
    a_Lis_lossless := f_Lis_lossless,
    d_Lis_lossless := _,
    F_Lis_lossless := fun_mk (st := s_Lis_lossless) l25 c25 k25,
    b_Lis_lossless := (fun_mk (st := s_Lis_lossless) l25 c25 k25).binds (ps := ["_law_rows", "_law_parts", "_law_count"]) (fun _ _ _ _ _ _ us hl => match us, hl with | [_, _, _], _ => rfl),
    g_Lis_lossless := PySem.W.mg_of X G g25,
    a_law := fa,
    d_law := PySem.W.fnOf "law" "law" (defArgs s_law) (defBody s_law) (defScope s_law) .none kV26 dc26 pm26 an26 cd26 ct26,
    F_law := fun_mk (st := s_law) l26 c26 k26,
    b_law := (fun_mk (st := s_law) l26 c26 k26).binds (ps := ["_law_script"]) (fun _ _ _ _ _ _ us hl => match us, hl with | [_], _ => rfl),
    g_law := PySem.W.mg_of X G g26,
    c_Fd := C_Fd,
    cl_Fd := ⟨pg_Fd, hd_Fd, po_Fd, sa_Fd⟩,
    gc_Fd := PySem.W.mg_of X G g_Fd,
    M_Fd := ⟨mk_Fd, in_Fd, if_Fd, kc_Fd⟩,
    na_Fd_left := na_Fd_left,
    na_Fd_right := na_Fd_right,
    ci_Fd := ⟨ha_Fd, hn_, htk_, hm_Fd⟩,
    ki_Fd_Fd := if_pos (beq_self_eq_true _),
    n_all := PySem.W.mg_none_of X G z_all,
    n_any := PySem.W.mg_none_of X G z_any,
    n_int := PySem.W.mg_none_of X G z_int,
    n_isinstance := PySem.W.mg_none_of X G z_isinstance,
    n_len := PySem.W.mg_none_of X G z_len,
    n_list := PySem.W.mg_none_of X G z_list,
    n_max := PySem.W.mg_none_of X G z_max,
    n_min := PySem.W.mg_none_of X G z_min,
    n_range := PySem.W.mg_none_of X G z_range,
    n_set := PySem.W.mg_none_of X G z_set,
    n_sorted := PySem.W.mg_none_of X G z_sorted,
    n_tuple := PySem.W.mg_none_of X G z_tuple }⟩
theorem walk {l : PySem.W.OpenLaw} {q : Program} {loose : List Str} {XP : (Str → Option Value) → Heap → Prop} {YP : World → Heap → Prop} {d : DefRec} {K : Params → PySem.W.Frag} (hn : l.most = some 63) (hdf : d.params.defaults = [])
    (hY : ∀ (w : World) (h : Heap), YP w h → (K w.params).In h)
    (F : ∀ (w : World) (mg : Str → Option Value) (fa : Addr) (h : Heap), (K w.params).In h → h.Ns mainGlobals mg → mg d.name = some (.ref fa) → TabsOf q (K w.params) mg h → LamX.LawAtS l w (K w.params) CX0 7 63 "_law_script" mg fa h) :
    PySem.W.WalkO q loose XP YP l.row.toRowW d [] (fun f vs => PySem.call f vs) :=
  walkTabs hn (by decide) hdf ⟨rfl, by decide, by decide⟩ hY F
end Pf
open Pf Fw PySem PySem.W PyProof.Rows in
set_option maxRecDepth 100000 in
set_option maxHeartbeats 0 in
theorem PySem.Challenge.cw_followsortable_k75_whole_boyce_codd_holds : PySem.Challenge.rw_followsortable_k75_whole_boyce_codd.Holds := by
  w_on; o_law; k_head; (case hw => w_witness2)
  k_fill
  refine walk (l := PySem.Challenge.rw_followsortable_k75_whole_boyce_codd) rfl rfl (fun w h Y => PySem.W.km_in_of Y) ?F
  case F =>
    intro w mg fa h KX G hmg tabs
    refine' all_mk KX G hmg ?g1 ?g2 ?g3 ?g4 ?g6 ?g7 ?g8 ?g9 ?g10 ?g11 ?g12 ?g13 ?g14 ?g15 ?g16 ?g17 ?g18 ?g19 ?g20 ?g21 ?g22 ?g23 ?g24 ?g25 ?g26 ?g_Fd ?in_Fd ?l1 ?c1 ?k1 ?l2 ?c2 ?k2 ?l3 ?c3 ?k3 ?l4 ?c4 ?k4 ?l5 ?c5 ?k5 ?l6 ?c6 ?k6 ?l7 ?c7 ?lk7 ?k7 ?l8 ?c8 ?k8 ?l9 ?c9 ?k9 ?l10 ?c10 ?k10 ?l11 ?c11 ?k11 ?l12 ?c12 ?k12 ?l13 ?c13 ?k13 ?l14 ?c14 ?k14 ?l15 ?c15 ?k15 ?l16 ?c16 ?k16 ?l17 ?c17 ?k17 ?l18 ?c18 ?k18 ?l19 ?c19 ?k19 ?l20 ?c20 ?k20 ?l21 ?c21 ?k21 ?l22 ?c22 ?k22 ?l23 ?c23 ?k23 ?l24 ?c24 ?k24 ?l25 ?c25 ?k25 ?l26 ?c26 ?k26 ?pg_Fd ?hd_Fd ?po_Fd ?sa_Fd ?mk_Fd ?if_Fd ?kc_Fd ?na_Fd_left ?na_Fd_right ?ha_Fd ?hm_Fd ?hn_ ?htk_ ?z_all ?z_any ?z_int ?z_isinstance ?z_len ?z_list ?z_max ?z_min ?z_range ?z_set ?z_sorted ?z_tuple ?ht7 ?hn7 ?hy7 tabs
    (case g1 => k_is)
    (case g2 => k_is)
    (case g3 => k_is)
    (case g4 => k_is)
    (case g6 => k_is)
    (case g7 => k_is)
    (case g8 => k_is)
    (case g9 => k_is)
    (case g10 => k_is)
    (case g11 => k_is)
    (case g12 => k_is)
    (case g13 => k_is)
    (case g14 => k_is)
    (case g15 => k_is)
    (case g16 => k_is)
    (case g17 => k_is)
    (case g18 => k_is)
    (case g19 => k_is)
    (case g20 => k_is)
    (case g21 => k_is)
    (case g22 => k_is)
    (case g23 => k_is)
    (case g24 => k_is)
    (case g25 => k_is)
    (case g26 => k_is)
    (case g_Fd => k_is)
    (case in_Fd => k_is)
    (case l1 => k_is)
    (case c1 => k_is)
    (case k1 => k_is)
    (case l2 => k_is)
    (case c2 => k_is)
    (case k2 => k_is)
    (case l3 => k_is)
    (case c3 => k_is)
    (case k3 => k_is)
    (case l4 => k_is)
    (case c4 => k_is)
    (case k4 => k_is)
    (case l5 => k_is)
    (case c5 => k_is)
    (case k5 => k_is)
    (case l6 => k_is)
    (case c6 => k_is)
    (case k6 => k_is)
    (case l7 => k_is)
    (case c7 => k_is)
    (case lk7 => k_is)
    (case k7 => k_is)
    (case l8 => k_is)
    (case c8 => k_is)
    (case k8 => k_is)
    (case l9 => k_is)
    (case c9 => k_is)
    (case k9 => k_is)
    (case l10 => k_is)
    (case c10 => k_is)
    (case k10 => k_is)
    (case l11 => k_is)
    (case c11 => k_is)
    (case k11 => k_is)
    (case l12 => k_is)
    (case c12 => k_is)
    (case k12 => k_is)
    (case l13 => k_is)
    (case c13 => k_is)
    (case k13 => k_is)
    (case l14 => k_is)
    (case c14 => k_is)
    (case k14 => k_is)
    (case l15 => k_is)
    (case c15 => k_is)
    (case k15 => k_is)
    (case l16 => k_is)
    (case c16 => k_is)
    (case k16 => k_is)
    (case l17 => k_is)
    (case c17 => k_is)
    (case k17 => k_is)
    (case l18 => k_is)
    (case c18 => k_is)
    (case k18 => k_is)
    (case l19 => k_is)
    (case c19 => k_is)
    (case k19 => k_is)
    (case l20 => k_is)
    (case c20 => k_is)
    (case k20 => k_is)
    (case l21 => k_is)
    (case c21 => k_is)
    (case k21 => k_is)
    (case l22 => k_is)
    (case c22 => k_is)
    (case k22 => k_is)
    (case l23 => k_is)
    (case c23 => k_is)
    (case k23 => k_is)
    (case l24 => k_is)
    (case c24 => k_is)
    (case k24 => k_is)
    (case l25 => k_is)
    (case c25 => k_is)
    (case k25 => k_is)
    (case l26 => k_is)
    (case c26 => k_is)
    (case k26 => k_is)
    (case pg_Fd => k_is)
    (case hd_Fd => k_is)
    (case po_Fd => k_is)
    (case sa_Fd => k_is)
    (case mk_Fd => k_is)
    (case if_Fd => k_is)
    (case kc_Fd => k_is)
    (case na_Fd_left => k_is)
    (case na_Fd_right => k_is)
    (case ha_Fd => k_is)
    (case hm_Fd => k_is)
    (case hn_ => k_is)
    (case htk_ => k_is)
    (case z_all => k_is)
    (case z_any => k_is)
    (case z_int => k_is)
    (case z_isinstance => k_is)
    (case z_len => k_is)
    (case z_list => k_is)
    (case z_max => k_is)
    (case z_min => k_is)
    (case z_range => k_is)
    (case z_set => k_is)
    (case z_sorted => k_is)
    (case z_tuple => k_is)
    (case ht7 => rfl)
    (case hn7 => rfl)
    (case hy7 => rfl)
