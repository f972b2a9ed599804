import PyProof.Rows.All
import Wide.All
import OpenK.AllK
import Wide.FinOn
import Flt.Ops
import HandS.Conv
import HandS.DictEq
import HandS.DictTup
import HandS.EndOwn
import HandS.FltList
import HandS.ForMost
import HandS.IsInst
import HandS.Lambda
import HandS.ListItems
import HandS.NestedK
import HandS.OwnEq
import HandS.Property
import HandS.Rev
import HandS.SetFor
import HandS.SetKeys
import HandS.SortInts
import HandS.Strs
import HandS.Style
import HandS.TupAny
import HandS.TupLe
import HandS.TupSets
import HandS.Walk
import KE.DataEq
import KE.GoesMore
import KE.KDictCopyH
import KE.KDictZip
import KE.KRevSl
import KE.RegKIsAll
import KE.SortData
import KE.SortKeyHeap
import PyProof.DictMoreH
import PyProof.MinMaxWalk
import PyProof.P3Eq
import PyProof.WalksMore
import PySem.Challenge.RW_followsortable_k53_derivations_changed
set_option Elab.async false
set_option linter.all false
set_option maxRecDepth 100000
set_option maxHeartbeats 4000000
set_option autoImplicit false
namespace Fw
open PySem L2
/-! ## regions of the abstract heap -/
def em : Hp := fun _ => none
def one (p : Addr) (o : HO) : Hp := fun a => if a = p then some o else none
def un2 (A B : Hp) : Hp := fun a => match A a with | some o => some o | none => B a
theorem one_self {p : Addr} {o : HO} : one p o p = some o := by simp [one]
theorem one_ne {p a : Addr} {o : HO} (h : one p o a ≠ none) : a = p := by
  unfold one at h; split at h
  · assumption
  · exact absurd rfl h
theorem un2_l {A B : Hp} {a : Addr} {o : HO} (h : A a = some o) : un2 A B a = some o := by simp [un2, h]
theorem un2_r {A B : Hp} {a : Addr} (h : A a = none) : un2 A B a = B a := by simp [un2, h]
theorem un2_some {A B : Hp} {a : Addr} {o : HO} (h : un2 A B a = some o) : A a = some o ∨ (A a = none ∧ B a = some o) := by
  unfold un2 at h; cases e : A a with
  | some u => rw [e] at h; exact .inl h
  | none => rw [e] at h; exact .inr ⟨rfl, h⟩
theorem un2_ne {A B : Hp} {a : Addr} (h : un2 A B a ≠ none) : A a ≠ none ∨ B a ≠ none := by
  cases e : A a with
  | some u => exact .inl (by simp)
  | none => rw [un2_r e] at h; exact .inr h
theorem ex_of_ne {A : Hp} {a : Addr} (h : A a ≠ none) : ∃ o, A a = some o := by
  cases e : A a with
  | some u => exact ⟨u, rfl⟩
  | none => exact absurd e h
theorem same_un2 {A B H : Hp} (a : Same A H) (b : Same B H) : Same (un2 A B) H := fun x o h => by
  rcases un2_some h with h | ⟨_, h⟩
  · exact a _ _ h
  · exact b _ _ h
theorem same_l {A B : Hp} : Same A (un2 A B) := fun _ _ h => un2_l h
theorem same_r {A B H : Hp} (a : Same A H) (b : Same B H) : Same B (un2 A B) := fun x o h => by
  cases e : A x with
  | none => rw [un2_r e]; exact h
  | some u =>
    rw [un2_l e]
    rw [← a x u e, ← b x o h]
/-! ## types: how a value lies in the pure region -/
structure Ty (α : Type) where
  rep : Hp → V → α → Prop
  mono : ∀ {B B' : Hp} {v : V} {a : α}, Same B B' → rep B v a → rep B' v a
/-- a footprint without its tuples -/
def ntF (F : Hp) : Hp := fun a => match F a with | some (.tup _) => none | some (.frz _ (.tup _)) => none | o => o
theorem ntF_some {F : Hp} {a : Addr} {o : HO} (h : F a = some o) (n : ∀ xs, o ≠ .tup xs) (n2 : ∀ od xs, o ≠ .frz od (.tup xs) := by intro _ _ z; cases z) : ntF F a = some o := by
  unfold ntF; rw [h]; split
  · rename_i q; exact absurd (Option.some.inj q) (n _)
  · rename_i q; exact absurd (Option.some.inj q) (n2 _ _)
  · rfl
theorem ntF_sub {F : Hp} {a : Addr} {o : HO} (h : ntF F a = some o) : F a = some o ∧ (∀ xs, o ≠ .tup xs) ∧ ∀ od xs, o ≠ .frz od (.tup xs) := by
  unfold ntF at h; split at h
  · cases h
  · cases h
  · rename_i q q2; exact ⟨h, fun xs e => q xs (by rw [h, e]), fun od xs e => q2 od xs (by rw [h, e])⟩
def NtF (F : Hp) : Prop := (∀ a xs, F a ≠ some (.tup xs)) ∧ ∀ a od xs, F a ≠ some (.frz od (.tup xs))
theorem ntF_eq {F : Hp} (h : NtF F) : ntF F = F := by
  funext a; unfold ntF; split
  · rename_i q; exact absurd q (h.1 _ _)
  · rename_i q; exact absurd q (h.2 _ _ _)
  · rfl
theorem ntF_em : ntF em = em := ntF_eq ⟨(fun _ _ h => nomatch h), (fun _ _ _ h => nomatch h)⟩
theorem nt_one {p : Addr} {o : HO} (n : ∀ xs, o ≠ .tup xs) (n2 : ∀ od xs, o ≠ .frz od (.tup xs) := by intro _ _ z; cases z) : NtF (one p o) := by
  refine ⟨fun a xs h => ?_, fun a od xs h => ?_⟩
  · unfold one at h; split at h
    · exact n xs (Option.some.inj h)
    · cases h
  · unfold one at h; split at h
    · exact n2 od xs (Option.some.inj h)
    · cases h
theorem ntF_one {p : Addr} {o : HO} (n : ∀ xs, o ≠ .tup xs) (n2 : ∀ od xs, o ≠ .frz od (.tup xs) := by intro _ _ z; cases z) : ntF (one p o) = one p o := ntF_eq (nt_one n n2)
theorem nt_un2 {A B : Hp} (hA : NtF A) (hB : NtF B) : NtF (un2 A B) := by
  refine ⟨fun a xs h => ?_, fun a od xs h => ?_⟩
  · rcases un2_some h with h | ⟨_, h⟩
    · exact hA.1 _ _ h
    · exact hB.1 _ _ h
  · rcases un2_some h with h | ⟨_, h⟩
    · exact hA.2 _ _ _ h
    · exact hB.2 _ _ _ h
structure Slot where
  p : Hp → Hp → Option V → Prop
  mono : ∀ {B B' F : Hp} {o : Option V}, Same B B' → p B F o → p B' F o
  cut : ∀ {B F : Hp} {o : Option V}, p B F o → p B (ntF F) o
def un : Slot := ⟨fun _ F _ => F = em, fun _ h => h, fun h => by rw [h]; exact ntF_em⟩
def pu {α : Type} (R : Ty α) (a : α) : Slot := ⟨fun B F o => F = em ∧ ∃ v, o = some v ∧ R.rep B v a, fun s h => ⟨h.1, h.2.choose, h.2.choose_spec.1, R.mono s h.2.choose_spec.2⟩, fun h => ⟨by rw [h.1]; exact ntF_em, h.2⟩⟩
structure Sta where
  B : Hp
  H : Hp
  F : Nat → Hp
/-- the footprints from n on are dropped -/
def Sta.cut (s : Sta) (n : Nat) : Sta := ⟨s.B, s.H, fun i => if i < n then s.F i else em⟩
structure EnvOk (s : Sta) (σ : St) (Γ : List Slot) : Prop where
  sub : Same s.B s.H
  subF : ∀ i, Same (s.F i) s.H
  dis : ∀ i a, s.F i a ≠ none → s.B a = none
  disF : ∀ i j a, s.F i a ≠ none → s.F j a ≠ none → i = j
  len : σ.length = Γ.length
  sl : ∀ (i : Nat) (S : Slot), Γ[i]? = some S → S.p s.B (s.F i) (σ[i]?.join)
  out : ∀ i, Γ.length ≤ i → s.F i = em
structure Evo (s s' : Sta) : Prop where
  b : Same s.B s'.B
  fr : ∀ a o, s.H a = some o → (∀ i, s.F i a = none) → s'.H a = some o
  dom : ∀ a, s.H a ≠ none → s'.H a ≠ none
  nb : ∀ a, s'.B a ≠ none → s.B a ≠ none ∨ s.H a = none ∨ (∃ i, s.F i a ≠ none) ∨ ∃ xs, s.H a = some (.tup xs)
  nf : ∀ a i, s'.F i a ≠ none → s.H a = none ∨ ∃ j, s.F j a ≠ none
theorem Evo.refl (s : Sta) : Evo s s := ⟨fun _ _ h => h, fun _ _ h _ => h, fun _ h => h, fun _ h => .inl h, fun _ i h => .inr ⟨i, h⟩⟩
theorem Evo.trans {s t u : Sta} (a : Evo s t) (b : Evo t u) : Evo s u where
  b := fun x o h => b.b x o (a.b x o h)
  fr := fun x o h n => b.fr x o (a.fr x o h n) fun i => by
    cases e : t.F i x with
    | none => rfl
    | some q =>
      rcases a.nf x i (by rw [e]; simp) with z | ⟨j, z⟩
      · rw [z] at h; cases h
      · exact absurd (n j) z
  dom := fun x h => b.dom x (a.dom x h)
  nb := fun x h => by
    rcases b.nb x h with z | z | ⟨i, z⟩ | ⟨xs, z⟩
    · exact a.nb x z
    · refine .inr (.inl ?_)
      cases e : s.H x with
      | none => rfl
      | some q => exact absurd z (a.dom x (by rw [e]; simp))
    · rcases a.nf x i z with z | z
      · exact .inr (.inl z)
      · exact .inr (.inr (.inl z))
    · cases e : s.H x with
      | none => exact .inr (.inl rfl)
      | some q =>
        by_cases n : ∃ i, s.F i x ≠ none
        · exact .inr (.inr (.inl n))
        · have := a.fr x q e fun i => by
            cases e2 : s.F i x with
            | none => rfl
            | some y => exact absurd ⟨i, by rw [e2]; simp⟩ n
          rw [z] at this
          exact .inr (.inr (.inr ⟨xs, this.symm⟩))
  nf := fun x i h => by
    rcases b.nf x i h with z | ⟨j, z⟩
    · refine .inl ?_
      cases e : s.H x with
      | none => rfl
      | some q => exact absurd z (a.dom x (by rw [e]; simp))
    · exact a.nf x j z
/-! ## moves of the environment -/
section
variable {s : Sta} {σ τ : St} {Γ T : List Slot} {S S' : Slot} {o : Option V}
theorem join_get {σ : St} {i : Nat} {o : Option V} (h : σ[i]? = some o) : σ[i]?.join = o := by rw [h]; rfl
/-- the pure region grows by fresh things, a pure value is pushed -/
theorem EnvOk.push {B' H' : Hp} (E : EnvOk s σ Γ) (hB : Same s.B B') (hH : Same s.H H') (hs : Same B' H') (hn : ∀ a, s.H a ≠ none → B' a ≠ none → s.B a ≠ none)
    (S : Slot) (hp : S.p B' em o) : EnvOk ⟨B', H', s.F⟩ (σ ++ [o]) (Γ ++ [S]) where
  sub := hs
  subF := fun i a u h => hH a u (E.subF i a u h)
  dis := fun i a h => by
    show B' a = none
    cases e : B' a with
    | none => rfl
    | some u =>
      obtain ⟨v, hv⟩ := ex_of_ne h
      exact absurd (E.dis i a h) (hn a (by rw [E.subF i a v hv]; simp) (by rw [e]; simp))
  disF := E.disF
  len := by simp [E.len]
  sl := fun i S2 h => by
    by_cases hi : i < Γ.length
    · rw [List.getElem?_append_left hi] at h
      rw [List.getElem?_append_left (by rw [E.len]; exact hi)]
      exact S2.mono hB (E.sl i S2 h)
    · have hl := (List.getElem?_eq_some_iff.mp h).1
      simp at hl
      have e : i = Γ.length := by omega
      subst e
      have h2 : (Γ ++ [S])[Γ.length]? = some S := by simp
      rw [h2] at h; cases h
      have h3 : (σ ++ [o])[Γ.length]? = some o := by rw [← E.len]; simp
      rw [join_get h3]
      show S.p B' (s.F Γ.length) o
      rw [E.out _ (Nat.le_refl _)]
      exact hp
  out := fun i h => E.out i (by simp at h; omega)
theorem Evo.grow {B' H' : Hp} (hB : Same s.B B') (hH : Same s.H H') (hn : ∀ a, s.H a ≠ none → B' a ≠ none → s.B a ≠ none) : Evo s ⟨B', H', s.F⟩ where
  b := hB
  fr := fun a o h _ => hH a o h
  dom := fun a h => by obtain ⟨o, e⟩ := ex_of_ne h; show H' a ≠ none; rw [hH a o e]; simp
  nb := fun a h => by
    by_cases q : s.H a = none
    · exact .inr (.inl q)
    · exact .inl (hn a q h)
  nf := fun a i h => .inr ⟨i, h⟩
/-- nothing of the heap changes -/
theorem EnvOk.push0 (E : EnvOk s σ Γ) (S : Slot) (hp : S.p s.B em o) : EnvOk s (σ ++ [o]) (Γ ++ [S]) :=
  E.push (fun _ _ h => h) (fun _ _ h => h) E.sub (fun _ _ h => h) S hp
/-- one new pure object -/
theorem EnvOk.push1 {p : Addr} {ob : HO} (E : EnvOk s σ Γ) (hp : s.H p = none) (S : Slot) (hS : Same s.B (upd s.B p ob) → (upd s.B p ob) p = some ob → S.p (upd s.B p ob) em o) :
    EnvOk ⟨upd s.B p ob, upd s.H p ob, s.F⟩ (σ ++ [o]) (Γ ++ [S]) ∧ Evo s ⟨upd s.B p ob, upd s.H p ob, s.F⟩ := by
  have hb : s.B p = none := by
    cases e : s.B p with
    | none => rfl
    | some u => rw [E.sub p u e] at hp; cases hp
  have s1 : Same s.B (upd s.B p ob) := fun a u h => by rw [upd_ne (ne_of_none h hb)]; exact h
  have s2 : Same s.H (upd s.H p ob) := fun a u h => by rw [upd_ne (ne_of_none h hp)]; exact h
  have s3 : Same (upd s.B p ob) (upd s.H p ob) := fun a u h => by
    by_cases q : a = p
    · subst q; rw [upd_same] at h ⊢; exact h
    · rw [upd_ne q] at h ⊢; exact E.sub a u h
  have s4 : ∀ a, s.H a ≠ none → (upd s.B p ob) a ≠ none → s.B a ≠ none := fun a h1 h2 => by
    have q : a ≠ p := fun e => h1 (by rw [e]; exact hp)
    rw [upd_ne q] at h2; exact h2
  exact ⟨E.push s1 s2 s3 s4 S (hS s1 upd_same), Evo.grow s1 s2 s4⟩
/-- one new owned object, pushed -/
theorem EnvOk.pushO {p : Addr} {ob : HO} (E : EnvOk s σ Γ) (hp : s.H p = none) (S : Slot) (hS : S.p s.B (one p ob) o) :
    EnvOk ⟨s.B, upd s.H p ob, fun i => if i = Γ.length then one p ob else s.F i⟩ (σ ++ [o]) (Γ ++ [S]) ∧ Evo s ⟨s.B, upd s.H p ob, fun i => if i = Γ.length then one p ob else s.F i⟩ := by
  have s2 : Same s.H (upd s.H p ob) := fun a u h => by rw [upd_ne (ne_of_none h hp)]; exact h
  have key : ∀ i a, (if i = Γ.length then one p ob else s.F i) a ≠ none → (i = Γ.length ∧ a = p) ∨ (i ≠ Γ.length ∧ s.F i a ≠ none) := fun i a h => by
    by_cases q : i = Γ.length
    · rw [if_pos q] at h; exact .inl ⟨q, one_ne h⟩
    · rw [if_neg q] at h; exact .inr ⟨q, h⟩
  have fp : ∀ i, s.F i p = none := fun i => by
    cases e : s.F i p with
    | none => rfl
    | some u => rw [E.subF i p u e] at hp; cases hp
  refine ⟨⟨fun a u h => s2 a u (E.sub a u h), fun i a u h => ?_, fun i a h => ?_, fun i j a h1 h2 => ?_, by simp [E.len], fun i S2 h => ?_, fun i h => ?_⟩, ⟨fun _ _ h => h, fun a u h _ => s2 a u h, fun a h => ?_, fun a h => .inl h, fun a i h => ?_⟩⟩
  · have h0 : (if i = Γ.length then one p ob else s.F i) a = some u := h
    rcases key i a (by rw [h0]; simp) with ⟨q, r⟩ | ⟨q, r⟩
    · have h' : (if i = Γ.length then one p ob else s.F i) a = some u := h
      rw [if_pos q, r, one_self] at h'
      cases h'; rw [r]; exact upd_same
    · have h' : (if i = Γ.length then one p ob else s.F i) a = some u := h
      rw [if_neg q] at h'
      exact s2 a u (E.subF i a u h')
  · rcases key i a h with ⟨q, r⟩ | ⟨q, r⟩
    · cases e : s.B a with
      | none => rfl
      | some u => have := E.sub a u e; rw [r, hp] at this; cases this
    · exact E.dis i a r
  · rcases key i a h1 with ⟨q, r⟩ | ⟨q, r⟩
    · rcases key j a h2 with ⟨q', r'⟩ | ⟨q', r'⟩
      · omega
      · rw [r, fp] at r'; exact absurd rfl r'
    · rcases key j a h2 with ⟨q', r'⟩ | ⟨q', r'⟩
      · rw [r', fp] at r; exact absurd rfl r
      · exact E.disF i j a r r'
  · by_cases hi : i < Γ.length
    · rw [List.getElem?_append_left hi] at h
      rw [List.getElem?_append_left (by rw [E.len]; exact hi)]
      show S2.p s.B (if i = Γ.length then one p ob else s.F i) _
      rw [if_neg (by omega)]
      exact E.sl i S2 h
    · have hl := (List.getElem?_eq_some_iff.mp h).1
      simp at hl
      have e : i = Γ.length := by omega
      subst e
      have h2 : (Γ ++ [S])[Γ.length]? = some S := by simp
      rw [h2] at h; cases h
      have h3 : (σ ++ [o])[Γ.length]? = some o := by rw [← E.len]; simp
      rw [join_get h3]
      show S.p s.B (if Γ.length = Γ.length then one p ob else s.F Γ.length) o
      rw [if_pos rfl]
      exact hS
  · have : ¬ i = Γ.length := by simp at h; omega
    show (if i = Γ.length then one p ob else s.F i) = em
    rw [if_neg this]
    exact E.out i (by simp at h; omega)
  · obtain ⟨u, e⟩ := ex_of_ne h; show upd s.H p ob a ≠ none; rw [s2 a u e]; simp
  · rcases key i a h with ⟨q, r⟩ | ⟨q, r⟩
    · exact .inl (by rw [r]; exact hp)
    · exact .inr ⟨i, r⟩
/-- the last slot is dropped -/
theorem EnvOk.pop (E : EnvOk s (σ ++ [o]) (Γ ++ [S])) : EnvOk (s.cut Γ.length) σ Γ ∧ Evo s (s.cut Γ.length) := by
  have hl : σ.length = Γ.length := by have := E.len; simp at this; exact this
  have key : ∀ i a, (if i < Γ.length then s.F i else em) a ≠ none → i < Γ.length ∧ s.F i a ≠ none := fun i a h => by
    by_cases q : i < Γ.length
    · rw [if_pos q] at h; exact ⟨q, h⟩
    · rw [if_neg q] at h; exact absurd rfl h
  refine ⟨⟨E.sub, fun i a u h => ?_, fun i a h => E.dis i a (key i a h).2, fun i j a h1 h2 => E.disF i j a (key i a h1).2 (key j a h2).2, hl, fun i S2 h => ?_, fun i h => ?_⟩, ⟨fun _ _ h => h, fun _ _ h _ => h, fun _ h => h, fun _ h => .inl h, fun a i h => .inr ⟨i, (key i a h).2⟩⟩⟩
  · have h' : (if i < Γ.length then s.F i else em) a = some u := h
    by_cases q : i < Γ.length
    · rw [if_pos q] at h'; exact E.subF i a u h'
    · rw [if_neg q] at h'; cases h'
  · have hi := (List.getElem?_eq_some_iff.mp h).1
    have := E.sl i S2 (by rw [List.getElem?_append_left hi]; exact h)
    rw [List.getElem?_append_left (by omega)] at this
    show S2.p s.B (if i < Γ.length then s.F i else em) _
    rw [if_pos hi]
    exact this
  · show (if i < Γ.length then s.F i else em) = em
    rw [if_neg (by omega)]
/-- a slot's content is turned (also forgotten) without a change of the heap -/
theorem EnvOk.top (E : EnvOk s (σ ++ [o]) (Γ ++ [S])) : S.p s.B (s.F Γ.length) o := by
  have hl : σ.length = Γ.length := by have := E.len; simp at this; exact this
  have := E.sl Γ.length S (by simp)
  rw [join_get (show (σ ++ [o])[Γ.length]? = some o by rw [← hl]; simp)] at this
  exact this
/-- the slot i is weakened to one that a pure slot, without footprint, or a smaller footprint satisfies -/
theorem EnvOk.turn {i : Nat} {F' : Hp} (E : EnvOk s σ Γ) (hi : Γ[i]? = some S) (hF : Same F' (s.F i)) (h : S'.p s.B F' (σ[i]?.join)) :
    EnvOk ⟨s.B, s.H, fun j => if j = i then F' else s.F j⟩ σ (Γ.set i S') ∧ Evo s ⟨s.B, s.H, fun j => if j = i then F' else s.F j⟩ := by
  have hl := (List.getElem?_eq_some_iff.mp hi).1
  have key : ∀ j a, (if j = i then F' else s.F j) a ≠ none → s.F j a ≠ none := fun j a h => by
    by_cases q : j = i
    · rw [if_pos q] at h
      obtain ⟨u, e⟩ := ex_of_ne h
      rw [q, hF a u e]; simp
    · rw [if_neg q] at h; exact h
  refine ⟨⟨E.sub, fun j a u h => ?_, fun j a h => E.dis j a (key j a h), fun j k a h1 h2 => E.disF j k a (key j a h1) (key k a h2), by simp [E.len], fun j S2 h2 => ?_, fun j h2 => ?_⟩, ⟨fun _ _ h => h, fun _ _ h _ => h, fun _ h => h, fun _ h => .inl h, fun a j h => .inr ⟨j, key j a h⟩⟩⟩
  · have h' : (if j = i then F' else s.F j) a = some u := h
    by_cases q : j = i
    · rw [if_pos q] at h'; exact E.subF i a u (hF a u h')
    · rw [if_neg q] at h'; exact E.subF j a u h'
  · show S2.p s.B (if j = i then F' else s.F j) _
    by_cases q : j = i
    · subst q
      rw [List.getElem?_set_self hl] at h2; cases h2
      rw [if_pos rfl]; exact h
    · rw [List.getElem?_set_ne (Ne.symm q)] at h2
      rw [if_neg q]
      exact E.sl j S2 h2
  · show (if j = i then F' else s.F j) = em
    rw [List.length_set] at h2
    rw [if_neg (by omega)]
    exact E.out j h2
/-- the footprints without tuples -/
def Sta.nt (s : Sta) : Sta := ⟨s.B, s.H, fun i => ntF (s.F i)⟩
theorem EnvOk.cutF (E : EnvOk s σ Γ) : EnvOk s.nt σ Γ ∧ Evo s s.nt ∧ ∀ i a xs, s.nt.F i a ≠ some (.tup xs) := by
  have ne : ∀ i a, ntF (s.F i) a ≠ none → s.F i a ≠ none := fun i a h => by
    obtain ⟨u, e⟩ := ex_of_ne h
    rw [(ntF_sub e).1]; simp
  exact ⟨⟨E.sub, fun i a u h => E.subF i a u (ntF_sub h).1, fun i a h => E.dis i a (ne i a h), fun i j a h1 h2 => E.disF i j a (ne i a h1) (ne j a h2), E.len, fun i S h => S.cut (E.sl i S h), fun i h => by
      show ntF (s.F i) = em
      rw [E.out i h]; exact ntF_em⟩,
    ⟨fun _ _ h => h, fun _ _ h _ => h, fun _ h => h, fun _ h => .inl h, fun a i h => .inr ⟨i, ne i a h⟩⟩, fun i a xs h => (ntF_sub h).2.1 xs rfl⟩
/-- a tuple of the heap goes into the pure region -/
theorem EnvOk.tup {b : Addr} {xs : List V} (E : EnvOk s σ Γ) (h : s.H b = some (.tup xs)) : ∃ s' : Sta, s'.H = s.H ∧ EnvOk s' σ Γ ∧ Evo s s' ∧ s'.B b = some (.tup xs) := by
  obtain ⟨Ec, ec, hn⟩ := E.cutF
  have s1 : Same s.B (upd s.B b (.tup xs)) := fun a u e => by
    by_cases q : a = b
    · subst q; rw [upd_same]; have := E.sub a u e; rw [h] at this; exact this
    · rw [upd_ne q]; exact e
  refine ⟨⟨upd s.B b (.tup xs), s.H, s.nt.F⟩, rfl, ⟨fun a u e => ?_, Ec.subF, fun i a e => ?_, Ec.disF, Ec.len, fun i S e => S.mono s1 (Ec.sl i S e), Ec.out⟩, ⟨s1, fun _ _ h _ => h, fun _ h => h, fun a e => ?_, fun a i e => ec.nf a i e⟩, upd_same⟩
  · by_cases q : a = b
    · subst q; have e' : upd s.B a (.tup xs) a = some u := e; rw [upd_same] at e'; cases e'; exact h
    · have e' : upd s.B b (.tup xs) a = some u := e; rw [upd_ne q] at e'; exact E.sub a u e'
  · have q : a ≠ b := fun q => by
      obtain ⟨u, hu⟩ := ex_of_ne e
      have := Ec.subF i a u hu
      rw [q] at this
      have h2 : s.H b = some u := this
      rw [h] at h2
      cases h2
      exact hn i a xs hu
    show upd s.B b (.tup xs) a = none
    rw [upd_ne q]; exact Ec.dis i a e
  · by_cases q : a = b
    · exact .inr (.inr (.inr ⟨xs, by rw [q]; exact h⟩))
    · have e' : upd s.B b (.tup xs) a ≠ none := e; rw [upd_ne q] at e'; exact .inl e'
theorem same_em {A : Hp} : Same em A := fun _ _ h => nomatch h
end
end Fw
namespace Fw
open PySem L2
/-! ## runs at one state -/
def RE (X : Cx) (e : Expr) (σ : St) (H : Hp) (Q : VK) : Prop := ∀ (pins : List (Addr × Obj)) (s : Shared), Inv X pins σ H s → wpAny (model X.prog X.w) X.A (eval e X.env) (EP X pins σ Q) X.xe s
def RT (X : Cx) (e : Expr) (σ : St) (H : Hp) (Q : Bool → Hp → Prop) : Prop := ∀ (pins : List (Addr × Obj)) (s : Shared), Inv X pins σ H s → wpAny (model X.prog X.w) X.A (isTrue e X.env (eval e X.env)) (TP X pins σ Q) X.xe s
def RA (X : Cx) (es : List Expr) (σ : St) (H : Hp) (Q : List V → Hp → Prop) : Prop := ∀ (pos : Pos) (pins : List (Addr × Obj)) (s : Shared), Inv X pins σ H s → wpAny (model X.prog X.w) X.A (spliced (backTo pos (starEach es X.env))) (AP X pins σ Q) X.xe s
def RS (X : Cx) (st : Stmt) (D : Ends) (σ : St) (H : Hp) : Prop := ∀ (pins : List (Addr × Obj)) (s : Shared), Inv X pins σ H s → wpAny (model X.prog X.w) X.A (exec st X.env) (SP X pins D) X.xe s
def RSs (X : Cx) (st : List Stmt) (D : Ends) (σ : St) (H : Hp) : Prop := ∀ (pins : List (Addr × Obj)) (s : Shared), Inv X pins σ H s → wpAny (model X.prog X.w) X.A (execs st X.env) (SP X pins D) X.xe s
section
variable {X : Cx} {e : Expr} {es : List Expr} {st : Stmt} {sts : List Stmt} {σ : St} {H : Hp}
theorem peR : PE X e (RE X e) := ⟨fun pins s _ _ _ I h => h pins s I⟩
theorem ptR : PT X e (RT X e) := ⟨fun pins s _ _ _ I h => h pins s I⟩
theorem paR : PA X es (RA X es) := ⟨fun pos pins s _ _ _ I h => h pos pins s I⟩
theorem psR : PS X st (RS X st) := ⟨fun pins s _ _ _ I h => h pins s I⟩
theorem pssR : PSs X sts (RSs X sts) := ⟨fun pins s _ _ _ I h => h pins s I⟩
theorem re_of {t : TE} {Q : VK} (p : PE X e t) (h : t σ H Q) : RE X e σ H Q := fun pins s I => p.run pins s σ H Q I h
theorem rt_of {t : TT} {Q : Bool → Hp → Prop} (p : PT X e t) (h : t σ H Q) : RT X e σ H Q := fun pins s I => p.run pins s σ H Q I h
theorem ra_of {t : TA} {Q : List V → Hp → Prop} (p : PA X es t) (h : t σ H Q) : RA X es σ H Q := fun pos pins s I => p.run pos pins s σ H Q I h
theorem rs_of {t : TS} {D : Ends} (p : PS X st t) (h : t D σ H) : RS X st D σ H := fun pins s I => p.run pins s σ H D I h
theorem rss_of {t : TS} {D : Ends} (p : PSs X sts t) (h : t D σ H) : RSs X sts D σ H := fun pins s I => p.run pins s σ H D I h
end
/-! ## tables of code objects: a hidden slot -/
class Tb where
  tt : List (Addr × Str)
theorem tabs_nt {T : List (Addr × Str)} {F : Hp} (h : LamX.Tabs T F) : LamX.Tabs T (ntF F) := fun p hp => by
  obtain ⟨ps, e, k, f⟩ := h p hp
  exact ⟨ps, ntF_some e (fun _ z => nomatch z), k, fun pos cv q => let ⟨c, e1, e2⟩ := f pos cv q; ⟨c, e1, ntF_some e2 (fun _ z => nomatch z)⟩⟩
def tabS [Tb] : Slot := ⟨fun _ F o => o = none ∧ LamX.Tabs Tb.tt F, fun _ h => h, fun h => ⟨h.1, tabs_nt h.2⟩⟩
class HasTab [Tb] (T : List Slot) : Prop where
  mem : tabS ∈ T
instance [Tb] {T U : List Slot} [h : HasTab T] : HasTab (T ++ U) := ⟨List.mem_append_left _ h.mem⟩
instance [Tb] {T U : List Slot} [h : HasTab U] : HasTab (T ++ U) := ⟨List.mem_append_right _ h.mem⟩
instance [Tb] {T : List Slot} {S : Slot} [h : HasTab T] : HasTab (S :: T) := ⟨List.mem_cons_of_mem _ h.mem⟩
instance [Tb] {T : List Slot} : HasTab (tabS :: T) := ⟨List.mem_cons_self⟩
variable [Tb]
/-! ## typed judgements -/
structure EX (X : Cx) (e : Expr) (Γ : List Slot) (S : Slot) (Γ' : List Slot) : Prop where
  r : ∀ (T : List Slot) [HasTab T] (τ σ : St) (s : Sta), σ.length = Γ.length → EnvOk s (σ ++ τ) (Γ ++ T) → ∀ Q : VK,
    (∀ v s', EnvOk s' ((σ ++ τ) ++ [some v]) ((Γ' ++ T) ++ [S]) → Γ'.length = Γ.length → Evo s s' → Q v s'.H) → RE X e σ s.H Q
instance {X : Cx} {e : Expr} {Γ : List Slot} {S : Slot} {Γ' : List Slot} : CoeFun (EX X e Γ S Γ') (fun _ => ∀ (T : List Slot) [HasTab T] (τ σ : St) (s : Sta), σ.length = Γ.length → EnvOk s (σ ++ τ) (Γ ++ T) → ∀ Q : VK,
    (∀ v s', EnvOk s' ((σ ++ τ) ++ [some v]) ((Γ' ++ T) ++ [S]) → Γ'.length = Γ.length → Evo s s' → Q v s'.H) → RE X e σ s.H Q) := ⟨fun h => h.r⟩
structure ET (X : Cx) (e : Expr) (Γ : List Slot) (b : Bool) (Γ' : List Slot) : Prop where
  r : ∀ (T : List Slot) [HasTab T] (τ σ : St) (s : Sta), σ.length = Γ.length → EnvOk s (σ ++ τ) (Γ ++ T) → ∀ Q : Bool → Hp → Prop,
    (∀ s', EnvOk s' (σ ++ τ) (Γ' ++ T) → Γ'.length = Γ.length → Evo s s' → Q b s'.H) → RT X e σ s.H Q
instance {X : Cx} {e : Expr} {Γ : List Slot} {b : Bool} {Γ' : List Slot} : CoeFun (ET X e Γ b Γ') (fun _ => ∀ (T : List Slot) [HasTab T] (τ σ : St) (s : Sta), σ.length = Γ.length → EnvOk s (σ ++ τ) (Γ ++ T) → ∀ Q : Bool → Hp → Prop,
    (∀ s', EnvOk s' (σ ++ τ) (Γ' ++ T) → Γ'.length = Γ.length → Evo s s' → Q b s'.H) → RT X e σ s.H Q) := ⟨fun h => h.r⟩
structure EA (X : Cx) (es : List Expr) (Γ : List Slot) (Ss : List Slot) (Γ' : List Slot) : Prop where
  r : ∀ (T : List Slot) [HasTab T] (τ σ : St) (s : Sta), σ.length = Γ.length → EnvOk s (σ ++ τ) (Γ ++ T) → ∀ Q : List V → Hp → Prop,
    (∀ vs s', EnvOk s' ((σ ++ τ) ++ vs.map some) ((Γ' ++ T) ++ Ss) → Γ'.length = Γ.length → vs.length = Ss.length → Evo s s' → Q vs s'.H) → RA X es σ s.H Q
instance {X : Cx} {es : List Expr} {Γ : List Slot} {Ss : List Slot} {Γ' : List Slot} : CoeFun (EA X es Γ Ss Γ') (fun _ => ∀ (T : List Slot) [HasTab T] (τ σ : St) (s : Sta), σ.length = Γ.length → EnvOk s (σ ++ τ) (Γ ++ T) → ∀ Q : List V → Hp → Prop,
    (∀ vs s', EnvOk s' ((σ ++ τ) ++ vs.map some) ((Γ' ++ T) ++ Ss) → Γ'.length = Γ.length → vs.length = Ss.length → Evo s s' → Q vs s'.H) → RA X es σ s.H Q) := ⟨fun h => h.r⟩
/-- what an operation makes of the two values on top -/
def Op2 (r : R2) (S1 S2 S : Slot) : Prop :=
  ∀ (σ : St) (Γ : List Slot) (s : Sta) (v u : V), EnvOk s ((σ ++ [some v]) ++ [some u]) ((Γ ++ [S1]) ++ [S2]) → ∀ Q : VK,
    (∀ v' s', EnvOk s' (σ ++ [some v']) (Γ ++ [S]) → Evo s s' → Q v' s'.H) → r v u s.H Q
def Op1 (r : V → Hp → VK → Prop) (S1 S : Slot) : Prop :=
  ∀ (σ : St) (Γ : List Slot) (s : Sta) (v : V), EnvOk s (σ ++ [some v]) (Γ ++ [S1]) → ∀ Q : VK,
    (∀ v' s', EnvOk s' (σ ++ [some v']) (Γ ++ [S]) → Evo s s' → Q v' s'.H) → r v s.H Q
def OpN (r : List V → Hp → VK → Prop) (Ss : List Slot) (S : Slot) : Prop :=
  ∀ (σ : St) (Γ : List Slot) [HasTab Γ] (s : Sta) (vs : List V), vs.length = Ss.length → EnvOk s (σ ++ vs.map some) (Γ ++ Ss) → ∀ Q : VK,
    (∀ v' s', EnvOk s' (σ ++ [some v']) (Γ ++ [S]) → Evo s s' → Q v' s'.H) → r vs s.H Q
section
variable {X : Cx} {e a b : Expr} {es : List Expr} {pos : Pos} {Γ Γ1 Γ2 : List Slot} {S S1 S2 : Slot} {Ss : List Slot}
theorem ex_bin {r : R2} (pe : PE X e (tOp r (RE X a) (RE X b))) (ha : EX X a Γ S1 Γ1) (hb : EX X b Γ1 S2 Γ2) (hr : Op2 r S1 S2 S) : EX X e Γ S Γ2 := by
  (first | refine ⟨?_⟩ | skip); intro T _ τ σ s hl E Q hQ
  refine re_of pe ?_
  refine ha T τ σ s hl E _ fun v1 s1 E1 l1 e1 => ?_
  rw [List.append_assoc, List.append_assoc] at E1
  refine hb _ _ σ s1 (by rw [hl, l1]) E1 _ fun v2 s2 E2 l2 e2 => ?_
  rw [← List.append_assoc, ← List.append_assoc] at E2
  refine hr (σ ++ τ) (Γ2 ++ T) s2 v1 v2 E2 Q fun v' s3 E3 e3 => ?_
  exact hQ v' s3 E3 (by rw [l2, l1]) ((e1.trans e2).trans e3)
theorem ex_un {r : V → Hp → VK → Prop} (pe : PE X e (tUn r (RE X a))) (ha : EX X a Γ S1 Γ1) (hr : Op1 r S1 S) : EX X e Γ S Γ1 := by
  (first | refine ⟨?_⟩ | skip); intro T _ τ σ s hl E Q hQ
  refine re_of pe ?_
  refine ha T τ σ s hl E _ fun v1 s1 E1 l1 e1 => ?_
  refine hr (σ ++ τ) (Γ1 ++ T) s1 v1 E1 Q fun v' s3 E3 e3 => ?_
  exact hQ v' s3 E3 l1 (e1.trans e3)
theorem ex_n {r : List V → Hp → VK → Prop} (pe : PE X e (fun σ H Q => RA X es σ H fun vs H1 => r vs H1 Q)) (ha : EA X es Γ Ss Γ1) (hr : OpN r Ss S) : EX X e Γ S Γ1 := by
  (first | refine ⟨?_⟩ | skip); intro T _ τ σ s hl E Q hQ
  refine re_of pe ?_
  refine ha T τ σ s hl E _ fun vs s1 E1 l1 lv e1 => ?_
  refine hr (σ ++ τ) (Γ1 ++ T) s1 vs lv E1 Q fun v' s3 E3 e3 => ?_
  exact hQ v' s3 E3 l1 (e1.trans e3)
theorem ea_nil : EA X [] Γ [] Γ := by
  (first | refine ⟨?_⟩ | skip); intro T _ τ σ s hl E Q hQ
  refine ra_of pa_nil ?_
  exact hQ [] s (by simpa using E) rfl rfl (Evo.refl s)
theorem ea_cons (ha : EX X e Γ S Γ1) (hr : EA X es Γ1 Ss Γ2) (hs : starEach (e :: es) X.env = (false, eval e X.env) :: starEach es X.env := by rfl) : EA X (e :: es) Γ (S :: Ss) Γ2 := by
  (first | refine ⟨?_⟩ | skip); intro T _ τ σ s hl E Q hQ
  refine ra_of (pa_cons peR paR hs) ?_
  refine ha T τ σ s hl E _ fun v1 s1 E1 l1 e1 => ?_
  rw [List.append_assoc, List.append_assoc] at E1
  refine hr _ _ σ s1 (by rw [hl, l1]) E1 _ fun vs s2 E2 l2 lv e2 => ?_
  refine hQ (v1 :: vs) s2 ?_ (by rw [l2, l1]) (by simp [lv]) (e1.trans e2)
  simpa using E2
end
/-! ## pure results -/
section
variable {α β γ : Type} {R1 : Ty α} {R2' : Ty β} {R : Ty γ} {x : α} {y : β} {z : γ}
theorem pu_top {s : Sta} {σ : St} {Γ : List Slot} {v : V} (E : EnvOk s (σ ++ [some v]) (Γ ++ [pu R1 x])) : R1.rep s.B v x := by
  obtain ⟨_, u, e, h⟩ := E.top
  cases e; exact h
theorem pu_top2 {s : Sta} {σ : St} {Γ : List Slot} {v u : V} (E : EnvOk s ((σ ++ [some v]) ++ [some u]) ((Γ ++ [pu R1 x]) ++ [pu R2' y])) : R1.rep s.B v x ∧ R2'.rep s.B u y := by
  have h1 := pu_top E
  obtain ⟨E2, _⟩ := E.pop
  have h2 := pu_top E2
  exact ⟨h2, h1⟩
/-- a pure value is pushed in the place of the last ones -/
theorem op2_val {r : R2} (h : ∀ (B H : Hp) (v u : V), Same B H → R1.rep B v x → R2'.rep B u y → ∀ Q : VK, (∀ v', R.rep B v' z → Q v' H) → r v u H Q) : Op2 r (pu R1 x) (pu R2' y) (pu R z) := by
  intro σ Γ s v u E Q hQ
  obtain ⟨h1, h2⟩ := pu_top2 E
  obtain ⟨E2, e2⟩ := E.pop
  obtain ⟨E3, e3⟩ := E2.pop
  refine h s.B s.H v u E.sub h1 h2 Q fun v' hv => ?_
  exact hQ v' ((s.cut _).cut _) (E3.push0 (pu R z) ⟨rfl, v', rfl, hv⟩) (e2.trans e3)
theorem op1_val {r : V → Hp → VK → Prop} (h : ∀ (B H : Hp) (v : V), Same B H → R1.rep B v x → ∀ Q : VK, (∀ v', R.rep B v' z → Q v' H) → r v H Q) : Op1 r (pu R1 x) (pu R z) := by
  intro σ Γ s v E Q hQ
  obtain ⟨E2, e2⟩ := E.pop
  refine h s.B s.H v E.sub (pu_top E) Q fun v' hv => ?_
  exact hQ v' (s.cut _) (E2.push0 (pu R z) ⟨rfl, v', rfl, hv⟩) e2
/-- .. with a new pure object -/
theorem op2_new {r : R2} (h : ∀ (B H : Hp) (v u : V), Same B H → R1.rep B v x → R2'.rep B u y → ∀ Q : VK, (∀ p o, H p = none → (∀ B', Same B B' → B' p = some o → R.rep B' (.ref p) z) → Q (.ref p) (upd H p o)) → (∀ v', R.rep B v' z → Q v' H) → r v u H Q) : Op2 r (pu R1 x) (pu R2' y) (pu R z) := by
  intro σ Γ s v u E Q hQ
  obtain ⟨h1, h2⟩ := pu_top2 E
  obtain ⟨E2, e2⟩ := E.pop
  obtain ⟨E3, e3⟩ := E2.pop
  refine h s.B s.H v u E.sub h1 h2 Q (fun p o hp hv => ?_) fun v' hv => ?_
  · obtain ⟨E4, e4⟩ := E3.push1 (o := some (.ref p)) (ob := o) hp (pu R z) fun k1 k2 => ⟨rfl, _, rfl, hv _ k1 k2⟩
    exact hQ _ _ E4 ((e2.trans e3).trans e4)
  · exact hQ v' ((s.cut _).cut _) (E3.push0 (pu R z) ⟨rfl, v', rfl, hv⟩) (e2.trans e3)
theorem op1_new {r : V → Hp → VK → Prop} (h : ∀ (B H : Hp) (v : V), Same B H → R1.rep B v x → ∀ Q : VK, (∀ p o, H p = none → (∀ B', Same B B' → B' p = some o → R.rep B' (.ref p) z) → Q (.ref p) (upd H p o)) → (∀ v', R.rep B v' z → Q v' H) → r v H Q) : Op1 r (pu R1 x) (pu R z) := by
  intro σ Γ s v E Q hQ
  obtain ⟨E2, e2⟩ := E.pop
  refine h s.B s.H v E.sub (pu_top E) Q (fun p o hp hv => ?_) fun v' hv => ?_
  · obtain ⟨E4, e4⟩ := E2.push1 (o := some (.ref p)) (ob := o) hp (pu R z) fun k1 k2 => ⟨rfl, _, rfl, hv _ k1 k2⟩
    exact hQ _ _ E4 (e2.trans e4)
  · exact hQ v' (s.cut _) (E2.push0 (pu R z) ⟨rfl, v', rfl, hv⟩) e2
theorem opN_1 {r : List V → Hp → VK → Prop} {S1 S : Slot} (h : Op1 (fun v H Q => r [v] H Q) S1 S) : OpN r [S1] S := by
  intro σ Γ _ s vs lv E Q hQ
  match vs, lv with
  | [v], _ => exact h σ Γ s v E Q hQ
theorem opN_2 {r : List V → Hp → VK → Prop} {S1 S2 S : Slot} (h : Op2 (fun v u H Q => r [v, u] H Q) S1 S2 S) : OpN r [S1, S2] S := by
  intro σ Γ _ s vs lv E Q hQ
  match vs, lv with
  | [v, u], _ => exact h σ Γ s v u (by simpa using E) Q hQ
end
/-! ## the basic types -/
def tI : Ty Int := ⟨fun _ v i => v = .int i, fun _ h => h⟩
def tB : Ty Bool := ⟨fun _ v b => v = .bl b, fun _ h => h⟩
def tN : Ty Unit := ⟨fun _ v _ => v = .non, fun _ h => h⟩
def tS : Ty Str := ⟨fun _ v x => v = .str x, fun _ h => h⟩
theorem same_sqt {K : PySem.W.Frag} {B B' : Hp} {a : Addr} {xs : List V} (e : Same B B') (h : SqT K B a xs) : SqT K B' a xs := by
  rcases h with (h | ⟨o, h⟩) | h
  · exact .inl (.inl (e _ _ h))
  · exact .inl (.inr ⟨o, e _ _ h⟩)
  · exact .inr h
theorem paired_mono {α β : Type} {F G : α → β → Prop} (h : ∀ x y, F x y → G x y) : ∀ {l : List α} {m : List β}, Paired F l m → Paired G l m
  | _, _, .nil => .nil
  | _, _, .cons a r => .cons (h _ _ a) (paired_mono h r)
variable {α β γ δ ε : Type}
/-- a tuple, a list of things of one type -/
def tT (K : PySem.W.Frag) (R : Ty α) : Ty (List α) := ⟨fun B v xs => ∃ a vs, v = .ref a ∧ SqT K B a vs ∧ Paired (R.rep B) vs xs,
  fun s h => let ⟨a, vs, e, q, r⟩ := h; ⟨a, vs, e, same_sqt s q, paired_mono (fun _ _ z => R.mono s z) r⟩⟩
def tL (K : PySem.W.Frag) (R : Ty α) : Ty (List α) := ⟨fun B v xs => ∃ a vs, v = .ref a ∧ SqL K B a vs ∧ Paired (R.rep B) vs xs,
  fun s h => let ⟨a, vs, e, q, r⟩ := h; ⟨a, vs, e, s.seq q, paired_mono (fun _ _ z => R.mono s z) r⟩⟩
/-- pairs, triples, .. -/
def tP2 (K : PySem.W.Frag) (R : Ty α) (R' : Ty β) : Ty (α × β) := ⟨fun B v x => ∃ a v1 v2, v = .ref a ∧ SqT K B a [v1, v2] ∧ R.rep B v1 x.1 ∧ R'.rep B v2 x.2,
  fun s h => let ⟨a, v1, v2, e, q, r1, r2⟩ := h; ⟨a, v1, v2, e, same_sqt s q, R.mono s r1, R'.mono s r2⟩⟩
def tP3 (K : PySem.W.Frag) (R1 : Ty α) (R2 : Ty β) (R3 : Ty γ) : Ty (α × β × γ) := ⟨fun B v x => ∃ a v1 v2 v3, v = .ref a ∧ SqT K B a [v1, v2, v3] ∧ R1.rep B v1 x.1 ∧ R2.rep B v2 x.2.1 ∧ R3.rep B v3 x.2.2,
  fun s h => let ⟨a, v1, v2, v3, e, q, r1, r2, r3⟩ := h; ⟨a, v1, v2, v3, e, same_sqt s q, R1.mono s r1, R2.mono s r2, R3.mono s r3⟩⟩
/-- None or a thing -/
def tO (R : Ty α) : Ty (Option α) := ⟨fun B v x => match x with | none => v = .non | some a => R.rep B v a ∧ v ≠ .non,
  fun {B B' v x} s h => match x, h with | none, h => h | some _, h => ⟨R.mono s h.1, h.2⟩⟩
end Fw
namespace Fw
open PySem L2
variable [Tb]
variable {α β γ δ ε : Type}
/-! ## rows of things that lie in a tuple or a list -/
/-- a list as a pure thing stands itself in the region -/
def tLs (K : PySem.W.Frag) (R : Ty α) : Ty (List α) := ⟨fun B v xs => ∃ a vs, v = .ref a ∧ B a = some (.lst vs) ∧ Paired (R.rep B) vs xs,
  fun s h => let ⟨a, vs, e, q, r⟩ := h; ⟨a, vs, e, s _ _ q, paired_mono (fun _ _ z => R.mono s z) r⟩⟩
structure SeqL (K : PySem.W.Frag) (S : Ty (List α)) (R : Ty α) : Prop where
  get : ∀ {B v xs}, S.rep B v xs → ∃ a vs, v = .ref a ∧ SqL K B a vs ∧ Paired (R.rep B) vs xs
structure SeqT (K : PySem.W.Frag) (S : Ty (List α)) (R : Ty α) : Prop where
  get : ∀ {B v xs}, S.rep B v xs → ∃ a vs, v = .ref a ∧ SqT K B a vs ∧ Paired (R.rep B) vs xs
/-- a list or a tuple -/
structure SeqA (K : PySem.W.Frag) (S : Ty (List α)) (R : Ty α) : Prop where
  get : ∀ {B v xs}, S.rep B v xs → ∃ a vs, v = .ref a ∧ (SqL K B a vs ∨ SqT K B a vs) ∧ Paired (R.rep B) vs xs
section
variable {K : PySem.W.Frag} {R : Ty α} {S : Ty (List α)}
theorem sqL : SeqL K (tL K R) R := ⟨fun h => h⟩
theorem sqLs : SeqL K (tLs K R) R := ⟨fun h => let ⟨a, vs, e, q, r⟩ := h; ⟨a, vs, e, .inl (.inl q), r⟩⟩
theorem sqT : SeqT K (tT K R) R := ⟨fun h => h⟩
theorem SeqL.a (h : SeqL K S R) : SeqA K S R := ⟨fun q => let ⟨a, vs, e, z, r⟩ := h.get q; ⟨a, vs, e, .inl z, r⟩⟩
theorem SeqT.a (h : SeqT K S R) : SeqA K S R := ⟨fun q => let ⟨a, vs, e, z, r⟩ := h.get q; ⟨a, vs, e, .inr z, r⟩⟩
theorem saL : SeqA K (tL K R) R := sqL.a
theorem saLs : SeqA K (tLs K R) R := sqLs.a
theorem saT : SeqA K (tT K R) R := sqT.a
theorem same_or {B H : Hp} {a : Addr} {vs : List V} (s : Same B H) (h : SqL K B a vs ∨ SqT K B a vs) : SqL K H a vs ∨ SqT K H a vs := h.elim (fun z => .inl (s.seq z)) fun z => .inr (same_sqt s z)
end
theorem paired_len {F : V → α → Prop} {vs : List V} {xs : List α} (h : Paired F vs xs) : vs.length = xs.length := Paired.length h
theorem paired_get {F : V → α → Prop} : ∀ {vs : List V} {xs : List α} {i : Nat} {x : α}, Paired F vs xs → xs[i]? = some x → ∃ v, vs[i]? = some v ∧ F v x
  | _, _, _, _, .nil, e => by simp at e
  | _, _, 0, x, .cons h r, e => by simp at e; subst e; exact ⟨_, rfl, h⟩
  | _, _, i + 1, x, .cons h r, e => by
    obtain ⟨v, h1, h2⟩ := paired_get (i := i) (x := x) r (by simpa using e)
    exact ⟨v, by simpa using h1, h2⟩
theorem paired_getV {F : V → α → Prop} : ∀ {vs : List V} {xs : List α} {i : Nat} {v : V}, Paired F vs xs → vs[i]? = some v → ∃ x, xs[i]? = some x ∧ F v x
  | _, _, _, _, .nil, e => by simp at e
  | _, _, 0, x, .cons h r, e => by simp at e; subst e; exact ⟨_, rfl, h⟩
  | _, _, i + 1, x, .cons h r, e => by
    obtain ⟨v, h1, h2⟩ := paired_getV (i := i) (v := x) r (by simpa using e)
    exact ⟨v, by simpa using h1, h2⟩
theorem paired_app {F : V → α → Prop} : ∀ {vs us : List V} {xs ys : List α}, Paired F vs xs → Paired F us ys → Paired F (vs ++ us) (xs ++ ys)
  | _, _, _, _, .nil, s => s
  | _, _, _, _, .cons r t, s => .cons r (paired_app t s)
theorem paired_take {F : V → α → Prop} : ∀ {vs : List V} {xs : List α} (n : Nat), Paired F vs xs → Paired F (vs.take n) (xs.take n)
  | _, _, 0, _ => .nil
  | _, _, _ + 1, .nil => .nil
  | _, _, n + 1, .cons r t => .cons r (paired_take n t)
theorem paired_drop {F : V → α → Prop} : ∀ {vs : List V} {xs : List α} (n : Nat), Paired F vs xs → Paired F (vs.drop n) (xs.drop n)
  | _, _, 0, r => r
  | _, _, _ + 1, .nil => .nil
  | _, _, n + 1, .cons _ t => paired_drop n t
theorem paired_int {B : Hp} : ∀ {vs : List V} {xs : List Int}, Paired (tI.rep B) vs xs → vs = xs.map V.int
  | _, _, .nil => rfl
  | _, _, .cons r t => by rw [show _ = V.int _ from r, paired_int t]; rfl
theorem paired_of_int {B : Hp} : ∀ (xs : List Int), Paired (tI.rep B) (xs.map V.int) xs
  | [] => .nil
  | _ :: r => .cons rfl (paired_of_int r)
theorem paired_bl {B : Hp} : ∀ {vs : List V} {xs : List Bool}, Paired (tB.rep B) vs xs → vs = xs.map V.bl
  | _, _, .nil => rfl
  | _, _, .cons r t => by rw [show _ = V.bl _ from r, paired_bl t]; rfl
/-! ## data for == -/
structure Dat (K : PySem.W.Frag) (R : Ty α) [DecidableEq α] (n : Nat) where
  d : α → PyData
  rp : ∀ {B v a}, R.rep B v a → Dp K B v (d a)
  lay : ∀ a, (d a).canLay0 = true
  dep : ∀ a, (d a).depth ≤ n
  eqv : ∀ a b, PyData.eqv (d a) (d b) = decide (a = b)
section
variable {K : PySem.W.Frag}
theorem dp_same {B H : Hp} (s : Same B H) : ∀ (d : PyData) (v : V), Dp K B v d → Dp K H v d
  | .none, _, h => by cases h; exact .non
  | .bool b, _, h => by cases h; exact .bl b
  | .int i, _, h => by cases h; exact .int i
  | .str x, _, h => by cases h; exact .str x
  | .list ds, _, h => by
    cases h with
    | lst q r => exact .lst (s.seq q) (all s ds _ r)
  | .tuple ds, _, h => by
    cases h with
    | tup q r => exact .tup (same_sqt s q) (all s ds _ r)
  | .dict _, _, h => by cases h
where all {B H : Hp} (s : Same B H) : ∀ (ds : List PyData) (vs : List V), DpAll K B vs ds → DpAll K H vs ds
  | [], _, h => by cases h; exact .nil
  | d :: ds, _, h => by
    cases h with
    | cons h1 h2 => exact .cons (dp_same s d _ h1) (all s ds _ h2)
def dI : Dat K tI 0 := ⟨PyData.int, fun h => by rw [show _ = V.int _ from h]; exact .int _, fun _ => rfl, fun _ => Nat.le_refl _, fun a b => by simp [PyData.eqv, Bool.beq_eq_decide_eq]⟩
def dB : Dat K tB 0 := ⟨PyData.bool, fun h => by rw [show _ = V.bl _ from h]; exact .bl _, fun _ => rfl, fun _ => Nat.le_refl _, fun a b => by simp [PyData.eqv, Bool.beq_eq_decide_eq]⟩
theorem dat_all {R : Ty α} [DecidableEq α] {n : Nat} (D : Dat K R n) {B : Hp} : ∀ {vs : List V} {xs : List α}, Paired (R.rep B) vs xs → DpAll K B vs (xs.map D.d)
  | _, _, .nil => .nil
  | _, _, .cons r t => .cons (D.rp r) (dat_all D t)
theorem dat_lay {R : Ty α} [DecidableEq α] {n : Nat} (D : Dat K R n) : ∀ xs : List α, PyData.canLayAll0 (xs.map D.d) = true
  | [] => by simp [PyData.canLayAll0]
  | x :: r => by simp [PyData.canLayAll0, D.lay x, dat_lay D r]
theorem dat_dep {R : Ty α} [DecidableEq α] {n : Nat} (D : Dat K R n) : ∀ xs : List α, PyData.depthAll (xs.map D.d) ≤ n
  | [] => by simp [PyData.depthAll]
  | x :: r => by
    have h1 := D.dep x
    have h2 := dat_dep D r
    simp only [List.map_cons, PyData.depthAll]
    omega
theorem dat_eqv {R : Ty α} [DecidableEq α] {n : Nat} (D : Dat K R n) : ∀ xs ys : List α, PyData.eqvAll (xs.map D.d) (ys.map D.d) = decide (xs = ys)
  | [], [] => by simp [PyData.eqvAll]
  | [], _ :: _ => by simp [PyData.eqvAll]
  | _ :: _, [] => by simp [PyData.eqvAll]
  | x :: r, y :: q => by
    simp only [List.map_cons, PyData.eqvAll, D.eqv x y, dat_eqv D r q]
    by_cases e : x = y <;> by_cases f : r = q <;> simp [e, f]
def dSeqT {R : Ty α} {S : Ty (List α)} [DecidableEq α] {n : Nat} (q : SeqT K S R) (D : Dat K R n) : Dat K S (n + 1) := ⟨fun xs => .tuple (xs.map D.d),
  fun h => by obtain ⟨a, vs, e, z, r⟩ := q.get h; rw [e]; exact .tup z (dat_all D r), fun a => by simp only [PyData.canLay0]; exact dat_lay D a,
  fun a => by have := dat_dep D a; simp only [PyData.depth]; omega, fun a b => by simp only [PyData.eqv]; exact dat_eqv D a b⟩
def dSeqL {R : Ty α} {S : Ty (List α)} [DecidableEq α] {n : Nat} (q : SeqL K S R) (D : Dat K R n) : Dat K S (n + 1) := ⟨fun xs => .list (xs.map D.d),
  fun h => by obtain ⟨a, vs, e, z, r⟩ := q.get h; rw [e]; exact .lst z (dat_all D r), fun a => by simp only [PyData.canLay0]; exact dat_lay D a,
  fun a => by have := dat_dep D a; simp only [PyData.depth]; omega, fun a b => by simp only [PyData.eqv]; exact dat_eqv D a b⟩
def dT {R : Ty α} [DecidableEq α] {n : Nat} (D : Dat K R n) : Dat K (tT K R) (n + 1) := dSeqT sqT D
def dL {R : Ty α} [DecidableEq α] {n : Nat} (D : Dat K R n) : Dat K (tL K R) (n + 1) := dSeqL sqL D
def dP2 {R : Ty α} {R' : Ty β} [DecidableEq α] [DecidableEq β] {n : Nat} (D : Dat K R n) (D' : Dat K R' n) : Dat K (tP2 K R R') (n + 1) := ⟨fun x => .tuple [D.d x.1, D'.d x.2],
  fun h => by obtain ⟨a, v1, v2, e, q, r1, r2⟩ := h; rw [e]; exact .tup q (.cons (D.rp r1) (.cons (D'.rp r2) .nil)), fun a => by simp [PyData.canLay0, PyData.canLayAll0, D.lay, D'.lay],
  fun a => by have := D.dep a.1; have := D'.dep a.2; simp only [PyData.depth, PyData.depthAll]; omega,
  fun a b => by obtain ⟨a1, a2⟩ := a; obtain ⟨b1, b2⟩ := b; simp only [PyData.eqv, PyData.eqvAll, D.eqv, D'.eqv]; by_cases e : a1 = b1 <;> by_cases f : a2 = b2 <;> simp [e, f]⟩
def Dat.up {R : Ty α} [DecidableEq α] {n m : Nat} (D : Dat K R n) (h : n ≤ m) : Dat K R m := ⟨D.d, D.rp, D.lay, fun a => Nat.le_trans (D.dep a) h, D.eqv⟩
theorem Dat.shaped {R : Ty α} [DecidableEq α] {n : Nat} (D : Dat K R n) (h : n ≤ 64) (a : α) : SeqAt.shaped (D.d a) = true := by
  unfold SeqAt.shaped
  rw [D.lay a, decide_eq_true (Nat.le_trans (D.dep a) h)]; rfl
end
/-! ## operations by values -/
section
variable {K : PySem.W.Frag} {R R1 : Ty α} {R2' : Ty β}
theorem o_II {C : Int → Int → Prop} {g : Int → Int → Int} {x y : Int} (hc : C x y) : Op2 (rI C fun i j => .int (g i j)) (pu tI x) (pu tI y) (pu tI (g x y)) :=
  op2_val fun _ _ _ _ _ h1 h2 _ q => ⟨x, y, h1, h2, hc, q _ rfl⟩
theorem o_II0 {g : Int → Int → Int} {x y : Int} : Op2 (rI0 fun i j => .int (g i j)) (pu tI x) (pu tI y) (pu tI (g x y)) :=
  op2_val fun _ _ _ _ _ h1 h2 _ q => ⟨x, y, h1, h2, q _ rfl⟩
theorem o_IB {g : Int → Int → Bool} {x y : Int} : Op2 (rI0 fun i j => .bl (g i j)) (pu tI x) (pu tI y) (pu tB (g x y)) :=
  op2_val fun _ _ _ _ _ h1 h2 _ q => ⟨x, y, h1, h2, q _ rfl⟩
theorem o_eqD [DecidableEq α] {n : Nat} {x y : α} (D : Dat K R n) (hn : n ≤ 64 := by decide) : Op2 (rEqD K) (pu R x) (pu R y) (pu tB (decide (x = y))) :=
  op2_val fun _ _ _ _ s h1 h2 _ q => ⟨_, _, dp_same s _ _ (D.rp h1), dp_same s _ _ (D.rp h2), D.shaped hn _, D.shaped hn _, by rw [D.eqv]; exact q _ rfl⟩
theorem flat_ints : ∀ xs : List Int, (xs.map V.int).all flatV = true
  | [] => rfl
  | x :: r => by simp only [List.map_cons, List.all_cons, flat_ints r]; rfl
theorem inV_ints (x : Int) : ∀ xs : List Int, inV (.int x) (xs.map V.int) = decide (x ∈ xs)
  | [] => by simp [inV]
  | y :: r => by
    have ih := inV_ints x r
    unfold inV at ih ⊢
    rw [List.map_cons, List.any_cons, ih]
    show (eqV (.int y) (.int x) || _) = _
    have e : eqV (.int y) (.int x) = decide (x = y) := by
      show (y == x) = decide (x = y)
      by_cases h : x = y
      · subst h; simp
      · rw [decide_eq_false h]; exact beq_eq_false_iff_ne.mpr (Ne.symm h)
    rw [e]
    by_cases h : x = y <;> by_cases h2 : x ∈ r <;> simp [h, h2]
theorem o_in {S : Ty (List Int)} {x : Int} {xs : List Int} (q : SeqA K S tI) : Op2 (rIn K false) (pu tI x) (pu S xs) (pu tB (decide (x ∈ xs))) :=
  op2_val fun B H v u s h1 h2 Q k => by
    obtain ⟨a, vs, e, z, r⟩ := q.get h2
    rw [paired_int r] at z
    refine ⟨a, _, e, same_or s z, by rw [show v = V.int x from h1]; rfl, flat_ints xs, ?_⟩
    rw [show v = V.int x from h1, inV_ints]
    exact k _ rfl
theorem o_notin {S : Ty (List Int)} {x : Int} {xs : List Int} (q : SeqA K S tI) : Op2 (rIn K true) (pu tI x) (pu S xs) (pu tB (!decide (x ∈ xs))) :=
  op2_val fun B H v u s h1 h2 Q k => by
    obtain ⟨a, vs, e, z, r⟩ := q.get h2
    rw [paired_int r] at z
    refine ⟨a, _, e, same_or s z, by rw [show v = V.int x from h1]; rfl, flat_ints xs, ?_⟩
    rw [show v = V.int x from h1, inV_ints]
    exact k _ rfl
theorem o_isN {x : Option α} : Op2 (fun x y H Q => y = .non ∧ Q (.bl (decide (x = .non))) H) (pu (tO R) x) (pu tN ()) (pu tB x.isNone) :=
  op2_val fun B H v u s h1 h2 Q k => ⟨h2, by
    cases x with
    | none => rw [show v = V.non from h1]; exact k _ rfl
    | some a => rw [decide_eq_false (show ¬ v = V.non from h1.2)]; exact k _ rfl⟩
theorem o_notN {x : Option α} : Op2 (fun x y H Q => y = .non ∧ Q (.bl (!decide (x = .non))) H) (pu (tO R) x) (pu tN ()) (pu tB x.isSome) :=
  op2_val fun B H v u s h1 h2 Q k => ⟨h2, by
    cases x with
    | none => rw [show v = V.non from h1]; exact k _ rfl
    | some a => rw [decide_eq_false (show ¬ v = V.non from h1.2)]; exact k _ rfl⟩
end
end Fw
namespace Fw
open PySem L2
variable [Tb]
variable {α β γ δ ε : Type}
/-! ## owned things -/
/-- an owned list of pure things -/
def ol (R : Ty α) (xs : List α) : Slot := ⟨fun B F o => ∃ p vs, o = some (.ref p) ∧ F = one p (.lst vs) ∧ Paired (R.rep B) vs xs,
  fun s h => let ⟨p, vs, e, f, r⟩ := h; ⟨p, vs, e, f, paired_mono (fun _ _ z => R.mono s z) r⟩,
  fun h => let ⟨p, vs, e, f, r⟩ := h; ⟨p, vs, e, by rw [f]; exact ntF_one (fun _ z => nomatch z), r⟩⟩
section
variable {s : Sta} {σ τ : St} {Γ Γ' Γ'' T : List Slot} {S S' : Slot} {o : Option V}
/-- the content and footprint of the slot i move to the top -/
theorem EnvOk.move {i : Nat} (E : EnvOk s σ Γ) (hi : Γ[i]? = some S) :
    EnvOk ⟨s.B, s.H, fun j => if j = Γ.length then s.F i else if j = i then em else s.F j⟩ (σ ++ [σ[i]?.join]) (Γ.set i un ++ [S]) ∧ Evo s ⟨s.B, s.H, fun j => if j = Γ.length then s.F i else if j = i then em else s.F j⟩ := by
  have hl := (List.getElem?_eq_some_iff.mp hi).1
  have key : ∀ j a, (if j = Γ.length then s.F i else if j = i then em else s.F j) a ≠ none → (j = Γ.length ∧ s.F i a ≠ none) ∨ (j ≠ Γ.length ∧ j ≠ i ∧ s.F j a ≠ none) := fun j a h => by
    by_cases q : j = Γ.length
    · rw [if_pos q] at h; exact .inl ⟨q, h⟩
    · rw [if_neg q] at h
      by_cases q2 : j = i
      · rw [if_pos q2] at h; exact absurd rfl h
      · rw [if_neg q2] at h; exact .inr ⟨q, q2, h⟩
  have val : ∀ j a u, (if j = Γ.length then s.F i else if j = i then em else s.F j) a = some u → s.H a = some u := fun j a u h => by
    by_cases q : j = Γ.length
    · rw [if_pos q] at h; exact E.subF i a u h
    · rw [if_neg q] at h
      by_cases q2 : j = i
      · rw [if_pos q2] at h; cases h
      · rw [if_neg q2] at h; exact E.subF j a u h
  refine ⟨⟨E.sub, val, fun j a h => ?_, fun j k a h1 h2 => ?_, by simp [E.len], fun j S2 h2 => ?_, fun j h2 => ?_⟩, ⟨fun _ _ h => h, fun _ _ h _ => h, fun _ h => h, fun _ h => .inl h, fun a j h => ?_⟩⟩
  · rcases key j a h with ⟨_, z⟩ | ⟨_, _, z⟩
    · exact E.dis i a z
    · exact E.dis j a z
  · rcases key j a h1 with ⟨q, z⟩ | ⟨q, q2, z⟩
    · rcases key k a h2 with ⟨q', z'⟩ | ⟨q', q2', z'⟩
      · omega
      · exact absurd (E.disF i k a z z').symm q2'
    · rcases key k a h2 with ⟨q', z'⟩ | ⟨q', q2', z'⟩
      · exact absurd (E.disF j i a z z') q2
      · exact E.disF j k a z z'
  · show S2.p s.B (if j = Γ.length then s.F i else if j = i then em else s.F j) _
    by_cases hj : j < Γ.length
    · rw [List.getElem?_append_left (by simpa using hj)] at h2
      rw [List.getElem?_append_left (by rw [E.len]; exact hj), if_neg (by omega)]
      by_cases q : j = i
      · subst q
        rw [List.getElem?_set_self hl] at h2; cases h2
        rw [if_pos rfl]; rfl
      · rw [List.getElem?_set_ne (Ne.symm q)] at h2
        rw [if_neg q]
        exact E.sl j S2 h2
    · have hl2 := (List.getElem?_eq_some_iff.mp h2).1
      simp at hl2
      have e : j = Γ.length := by omega
      subst e
      have h3 : (Γ.set i un ++ [S])[Γ.length]? = some S := by
        rw [List.getElem?_append_right (by simp)]; simp
      rw [h3] at h2; cases h2
      rw [if_pos rfl, join_get (show (σ ++ [σ[i]?.join])[Γ.length]? = some (σ[i]?.join) by rw [← E.len]; simp)]
      exact E.sl i S hi
  · have h3 : Γ.length + 1 ≤ j := by simpa using h2
    show (if j = Γ.length then s.F i else if j = i then em else s.F j) = em
    rw [if_neg (by omega), if_neg (by omega)]
    exact E.out j (by omega)
  · rcases key j a h with ⟨_, z⟩ | ⟨_, _, z⟩
    · exact .inr ⟨i, z⟩
    · exact .inr ⟨j, z⟩
/-- the top moves into the slot i; what was there is dropped -/
theorem EnvOk.store {i : Nat} (E : EnvOk s (σ ++ [o]) (Γ ++ [S])) (hi : i < Γ.length) :
    EnvOk ⟨s.B, s.H, fun j => if j = Γ.length then em else if j = i then s.F Γ.length else s.F j⟩ (σ.set i o) (Γ.set i S) ∧ Evo s ⟨s.B, s.H, fun j => if j = Γ.length then em else if j = i then s.F Γ.length else s.F j⟩ := by
  have hlen : σ.length = Γ.length := by have := E.len; simp at this; exact this
  have key : ∀ j a, (if j = Γ.length then em else if j = i then s.F Γ.length else s.F j) a ≠ none → (j = i ∧ s.F Γ.length a ≠ none) ∨ (j ≠ Γ.length ∧ j ≠ i ∧ s.F j a ≠ none) := fun j a h => by
    by_cases q : j = Γ.length
    · rw [if_pos q] at h; exact absurd rfl h
    · rw [if_neg q] at h
      by_cases q2 : j = i
      · rw [if_pos q2] at h; exact .inl ⟨q2, h⟩
      · rw [if_neg q2] at h; exact .inr ⟨q, q2, h⟩
  refine ⟨⟨E.sub, fun j a u h => ?_, fun j a h => ?_, fun j k a h1 h2 => ?_, by simp [hlen], fun j S2 h2 => ?_, fun j h2 => ?_⟩, ⟨fun _ _ h => h, fun _ _ h _ => h, fun _ h => h, fun _ h => .inl h, fun a j h => ?_⟩⟩
  · have h' : (if j = Γ.length then em else if j = i then s.F Γ.length else s.F j) a = some u := h
    by_cases q : j = Γ.length
    · rw [if_pos q] at h'; cases h'
    · rw [if_neg q] at h'
      by_cases q2 : j = i
      · rw [if_pos q2] at h'; exact E.subF _ a u h'
      · rw [if_neg q2] at h'; exact E.subF j a u h'
  · rcases key j a h with ⟨_, z⟩ | ⟨_, _, z⟩
    · exact E.dis _ a z
    · exact E.dis j a z
  · rcases key j a h1 with ⟨q, z⟩ | ⟨q, q2, z⟩
    · rcases key k a h2 with ⟨q', z'⟩ | ⟨q', q2', z'⟩
      · omega
      · exact absurd (E.disF _ k a z z').symm q'
    · rcases key k a h2 with ⟨q', z'⟩ | ⟨q', q2', z'⟩
      · exact absurd (E.disF j _ a z z') q
      · exact E.disF j k a z z'
  · have hj : j < Γ.length := by have := (List.getElem?_eq_some_iff.mp h2).1; simpa using this
    show S2.p s.B (if j = Γ.length then em else if j = i then s.F Γ.length else s.F j) _
    rw [if_neg (by omega)]
    by_cases q : j = i
    · subst q
      rw [List.getElem?_set_self hi] at h2; cases h2
      rw [if_pos rfl, List.getElem?_set_self (by omega)]
      exact E.top
    · rw [List.getElem?_set_ne (Ne.symm q)] at h2
      rw [if_neg q, List.getElem?_set_ne (Ne.symm q)]
      have := E.sl j S2 (by rw [List.getElem?_append_left hj]; exact h2)
      rw [List.getElem?_append_left (by omega)] at this
      exact this
  · show (if j = Γ.length then em else if j = i then s.F Γ.length else s.F j) = em
    simp at h2
    by_cases q : j = Γ.length
    · rw [if_pos q]
    · rw [if_neg q, if_neg (by omega)]
      exact E.out j (by simp; omega)
  · rcases key j a h with ⟨_, z⟩ | ⟨_, _, z⟩
    · exact .inr ⟨_, z⟩
    · exact .inr ⟨j, z⟩
/-- an owned object is written -/
theorem EnvOk.write {i : Nat} {p : Addr} {ob ob' : HO} (E : EnvOk s σ Γ) (hi : i < Γ.length) (hF : s.F i = one p ob) (h : S'.p s.B (one p ob') (σ[i]?.join)) :
    EnvOk ⟨s.B, upd s.H p ob', fun j => if j = i then one p ob' else s.F j⟩ σ (Γ.set i S') ∧ Evo s ⟨s.B, upd s.H p ob', fun j => if j = i then one p ob' else s.F j⟩ := by
  have hp : s.F i p ≠ none := by rw [hF, one_self]; simp
  have hb : s.B p = none := E.dis i p hp
  have hnp : ∀ j, j ≠ i → s.F j p = none := fun j q => by
    cases e : s.F j p with
    | none => rfl
    | some u => exact absurd (E.disF j i p (by rw [e]; simp) hp) q
  have key : ∀ j a, (if j = i then one p ob' else s.F j) a ≠ none → s.F j a ≠ none := fun j a h => by
    by_cases q : j = i
    · rw [if_pos q] at h; rw [q, one_ne h]; exact hp
    · rw [if_neg q] at h; exact h
  refine ⟨⟨fun a u h => ?_, fun j a u h => ?_, fun j a h => E.dis j a (key j a h), fun j k a h1 h2 => E.disF j k a (key j a h1) (key k a h2), by simp [E.len], fun j S2 h2 => ?_, fun j h2 => ?_⟩, ⟨fun _ _ h => h, fun a u h n => ?_, fun a h => ?_, fun _ h => .inl h, fun a j h => .inr ⟨j, key j a h⟩⟩⟩
  · show upd s.H p ob' a = some u
    rw [upd_ne (ne_of_none h hb)]; exact E.sub a u h
  · have h' : (if j = i then one p ob' else s.F j) a = some u := h
    show upd s.H p ob' a = some u
    by_cases q : j = i
    · rw [if_pos q] at h'
      have e := one_ne (p := p) (o := ob') (a := a) (by rw [h']; simp)
      rw [e, one_self] at h'; cases h'
      rw [e]; exact upd_same
    · rw [if_neg q] at h'
      rw [upd_ne (ne_of_none h' (hnp j q))]
      exact E.subF j a u h'
  · show S2.p s.B (if j = i then one p ob' else s.F j) _
    by_cases q : j = i
    · subst q
      rw [List.getElem?_set_self hi] at h2; cases h2
      rw [if_pos rfl]; exact h
    · rw [List.getElem?_set_ne (Ne.symm q)] at h2
      rw [if_neg q]
      exact E.sl j S2 h2
  · show (if j = i then one p ob' else s.F j) = em
    rw [List.length_set] at h2
    rw [if_neg (by omega)]
    exact E.out j h2
  · show upd s.H p ob' a = some u
    have : a ≠ p := fun e => hp (by rw [← e]; exact n i)
    rw [upd_ne this]; exact h
  · show upd s.H p ob' a ≠ none
    by_cases q : a = p
    · rw [q, upd_same]; simp
    · rw [upd_ne q]; exact h
/-- what a slot owns goes over into the pure region -/
theorem EnvOk.freeze {i : Nat} (E : EnvOk s σ Γ) (hi : i < Γ.length) (h : ∀ B', Same s.B B' → Same (s.F i) B' → S'.p B' em (σ[i]?.join)) :
    EnvOk ⟨un2 (s.F i) s.B, s.H, fun j => if j = i then em else s.F j⟩ σ (Γ.set i S') ∧ Evo s ⟨un2 (s.F i) s.B, s.H, fun j => if j = i then em else s.F j⟩ := by
  have s1 : Same s.B (un2 (s.F i) s.B) := same_r (E.subF i) E.sub
  have key : ∀ j a, (if j = i then em else s.F j) a ≠ none → j ≠ i ∧ s.F j a ≠ none := fun j a h => by
    by_cases q : j = i
    · rw [if_pos q] at h; exact absurd rfl h
    · rw [if_neg q] at h; exact ⟨q, h⟩
  refine ⟨⟨same_un2 (E.subF i) E.sub, fun j a u h => ?_, fun j a h => ?_, fun j k a h1 h2 => E.disF j k a (key j a h1).2 (key k a h2).2, by simp [E.len], fun j S2 h2 => ?_, fun j h2 => ?_⟩, ⟨s1, fun _ _ h _ => h, fun _ h => h, fun a h => ?_, fun a j h => .inr ⟨j, (key j a h).2⟩⟩⟩
  · have h' : (if j = i then em else s.F j) a = some u := h
    by_cases q : j = i
    · rw [if_pos q] at h'; cases h'
    · rw [if_neg q] at h'; exact E.subF j a u h'
  · obtain ⟨q, z⟩ := key j a h
    show un2 (s.F i) s.B a = none
    have e : s.F i a = none := by
      cases e : s.F i a with
      | none => rfl
      | some u => exact absurd (E.disF j i a z (by rw [e]; simp)) q
    rw [un2_r e]
    exact E.dis j a z
  · show S2.p (un2 (s.F i) s.B) (if j = i then em else s.F j) _
    by_cases q : j = i
    · subst q
      rw [List.getElem?_set_self hi] at h2; cases h2
      rw [if_pos rfl]; exact h _ s1 same_l
    · rw [List.getElem?_set_ne (Ne.symm q)] at h2
      rw [if_neg q]
      exact S2.mono s1 (E.sl j S2 h2)
  · show (if j = i then em else s.F j) = em
    rw [List.length_set] at h2
    rw [if_neg (by omega)]
    exact E.out j h2
  · rcases un2_ne h with z | z
    · exact .inr (.inr (.inl ⟨i, z⟩))
    · exact .inl z
/-! ## weakening -/
def Wk (Γ Γ' : List Slot) : Prop := Γ'.length = Γ.length ∧ ∀ (T : List Slot) (τ σ : St) (s : Sta), σ.length = Γ.length → EnvOk s (σ ++ τ) (Γ ++ T) → ∃ s', EnvOk s' (σ ++ τ) (Γ' ++ T) ∧ Evo s s' ∧ s'.H = s.H
theorem Wk.refl : Wk Γ Γ := ⟨rfl, fun _ _ _ s _ E => ⟨s, E, Evo.refl s, rfl⟩⟩
theorem Wk.trans (a : Wk Γ Γ') (b : Wk Γ' Γ'') : Wk Γ Γ'' := ⟨b.1.trans a.1, fun T τ σ s hl E => by
  obtain ⟨s1, E1, e1, h1⟩ := a.2 T τ σ s hl E
  obtain ⟨s2, E2, e2, h2⟩ := b.2 T τ σ s1 (hl.trans a.1.symm) E1
  exact ⟨s2, E2, e1.trans e2, h2.trans h1⟩⟩
theorem set_app {i : Nat} (hi : i < Γ.length) : (Γ ++ T).set i S = Γ.set i S ++ T := List.set_append_left _ _ hi
theorem Wk.turn {i : Nat} (hi : Γ[i]? = some S) (h : ∀ B o, S.p B em o → S'.p B em o) (he : ∀ B F o, S.p B F o → F = em) : Wk Γ (Γ.set i S') := ⟨by simp, fun T τ σ s hl E => by
  have hl2 := (List.getElem?_eq_some_iff.mp hi).1
  have hi' : (Γ ++ T)[i]? = some S := by rw [List.getElem?_append_left hl2]; exact hi
  have q := E.sl i S hi'
  have e := he _ _ _ q
  rw [e] at q
  obtain ⟨E', e'⟩ := E.turn (S' := S') (F' := em) hi' same_em (h _ _ q)
  rw [set_app hl2] at E'
  exact ⟨_, E', e', rfl⟩⟩
theorem Wk.un (i : Nat) : Wk Γ (Γ.set i un) := by
  by_cases hi : i < Γ.length
  · refine ⟨by simp, fun T τ σ s hl E => ?_⟩
    have hi' : (Γ ++ T)[i]? = some Γ[i] := by rw [List.getElem?_append_left hi]; simp
    obtain ⟨E', e'⟩ := E.turn (S' := Fw.un) (F' := em) hi' same_em rfl
    rw [set_app hi] at E'
    exact ⟨_, E', e', rfl⟩
  · rw [List.set_eq_of_length_le (by omega)]
    exact Wk.refl
def uns : List Nat → List Slot → List Slot
  | [], Γ => Γ
  | i :: r, Γ => uns r (Γ.set i un)
theorem Wk.uns : ∀ (is : List Nat) {Γ : List Slot}, Wk Γ (uns is Γ)
  | [], _ => Wk.refl
  | i :: r, _ => (Wk.un i).trans (Wk.uns r)
theorem Wk.pu {α β : Type} {R : Ty α} {a : α} {R' : Ty β} {b : β} {i : Nat} (hi : Γ[i]? = some (Fw.pu R a)) (h : ∀ B v, R.rep B v a → R'.rep B v b) : Wk Γ (Γ.set i (Fw.pu R' b)) :=
  Wk.turn hi (fun B o ⟨e, v, ho, r⟩ => ⟨e, v, ho, h B v r⟩) fun _ _ _ z => z.1
theorem ol_pure {α : Type} {R : Ty α} {xs : List α} {B F B' : Hp} {o : Option V} (h : (ol R xs).p B F o) (s1 : Same B B') (s2 : Same F B') (K : PySem.W.Frag) : (pu (tLs K R) xs).p B' em o := by
  obtain ⟨p, vs, e, f, r⟩ := h
  rw [f] at s2
  exact ⟨rfl, _, e, p, vs, rfl, s2 _ _ one_self, paired_mono (fun _ _ z => R.mono s1 z) r⟩
theorem Wk.frz {α : Type} {R : Ty α} {xs : List α} {i : Nat} (K : PySem.W.Frag) (hi : Γ[i]? = some (ol R xs)) : Wk Γ (Γ.set i (Fw.pu (tLs K R) xs)) := ⟨by simp, fun T τ σ s hl E => by
  have hl2 := (List.getElem?_eq_some_iff.mp hi).1
  have hi' : (Γ ++ T)[i]? = some (ol R xs) := by rw [List.getElem?_append_left hl2]; exact hi
  obtain ⟨E', e'⟩ := E.freeze (S' := Fw.pu (tLs K R) xs) (i := i) (by simp; omega) fun B' s1 s2 => ol_pure (E.sl i _ hi') s1 s2 K
  rw [set_app hl2] at E'
  exact ⟨_, E', e', rfl⟩⟩
end
/-! ## statements -/
inductive Res where
  | nx (Γ : List Slot) | rt (Γ : List Slot) (S : Slot) | bk (Γ : List Slot) | ct (Γ : List Slot)
def Sat (D : Ends) (s : Sta) (T : List Slot) (τ : St) : Res → Prop
  | .nx Γ' => ∀ σ' s', σ'.length = Γ'.length → EnvOk s' (σ' ++ τ) (Γ' ++ T) → Evo s s' → D.nx σ' s'.H
  | .bk Γ' => ∀ σ' s', σ'.length = Γ'.length → EnvOk s' (σ' ++ τ) (Γ' ++ T) → Evo s s' → D.bk σ' s'.H
  | .ct Γ' => ∀ σ' s', σ'.length = Γ'.length → EnvOk s' (σ' ++ τ) (Γ' ++ T) → Evo s s' → D.ct σ' s'.H
  | .rt Γ' S => ∀ σ' v s', σ'.length = Γ'.length → EnvOk s' ((σ' ++ τ) ++ [some v]) ((Γ' ++ T) ++ [S]) → Evo s s' → D.rt v s'.H
theorem Sat.mono {D : Ends} {s s1 : Sta} {T : List Slot} {τ : St} (e : Evo s s1) : ∀ {r : Res}, Sat D s T τ r → Sat D s1 T τ r
  | .nx _, h => fun σ' s' l E e' => h σ' s' l E (e.trans e')
  | .bk _, h => fun σ' s' l E e' => h σ' s' l E (e.trans e')
  | .ct _, h => fun σ' s' l E e' => h σ' s' l E (e.trans e')
  | .rt _ _, h => fun σ' v s' l E e' => h σ' v s' l E (e.trans e')
structure SX (X : Cx) (sts : List Stmt) (Γ : List Slot) (P : Res → Prop) : Prop where
  r : ∀ (T : List Slot) [HasTab T] (τ σ : St) (s : Sta), σ.length = Γ.length → EnvOk s (σ ++ τ) (Γ ++ T) → ∀ D : Ends, (∀ r, P r → Sat D s T τ r) → RSs X sts D σ s.H
instance {X : Cx} {sts : List Stmt} {Γ : List Slot} {P : Res → Prop} : CoeFun (SX X sts Γ P) (fun _ => ∀ (T : List Slot) [HasTab T] (τ σ : St) (s : Sta), σ.length = Γ.length → EnvOk s (σ ++ τ) (Γ ++ T) → ∀ D : Ends, (∀ r, P r → Sat D s T τ r) → RSs X sts D σ s.H) := ⟨fun h => h.r⟩
structure S1 (X : Cx) (st : Stmt) (Γ : List Slot) (P : Res → Prop) : Prop where
  r : ∀ (T : List Slot) [HasTab T] (τ σ : St) (s : Sta), σ.length = Γ.length → EnvOk s (σ ++ τ) (Γ ++ T) → ∀ D : Ends, (∀ r, P r → Sat D s T τ r) → RS X st D σ s.H
instance {X : Cx} {st : Stmt} {Γ : List Slot} {P : Res → Prop} : CoeFun (S1 X st Γ P) (fun _ => ∀ (T : List Slot) [HasTab T] (τ σ : St) (s : Sta), σ.length = Γ.length → EnvOk s (σ ++ τ) (Γ ++ T) → ∀ D : Ends, (∀ r, P r → Sat D s T τ r) → RS X st D σ s.H) := ⟨fun h => h.r⟩
def isNx : Res → Prop
  | .nx _ => True
  | _ => False
section
variable {X : Cx} {e : Expr} {st : Stmt} {sts t u : List Stmt} {pos : Pos} {Γ Γ1 Γ2 Γ' : List Slot} {S : Slot} {P P1 : Res → Prop} {b : Bool}
theorem SX.imp (h : SX X sts Γ P) (k : ∀ r, P r → P1 r) : SX X sts Γ P1 := .mk fun T _ τ σ s hl E D hD => h T τ σ s hl E D fun r q => hD r (k r q)
theorem S1.imp (h : S1 X st Γ P) (k : ∀ r, P r → P1 r) : S1 X st Γ P1 := .mk fun T _ τ σ s hl E D hD => h T τ σ s hl E D fun r q => hD r (k r q)
theorem SX.wk (w : Wk Γ Γ') (h : SX X sts Γ' P) : SX X sts Γ P := .mk fun T _ τ σ s hl E D hD => by
  obtain ⟨s1, E1, e1, h1⟩ := w.2 T τ σ s hl E
  rw [← h1]
  exact h T τ σ s1 (hl.trans w.1.symm) E1 D fun r q => (hD r q).mono e1
theorem sx_nil (h : P (.nx Γ)) : SX X [] Γ P := .mk fun T _ τ σ s hl E D hD => rss_of pss_nil (hD _ h σ s hl E (Evo.refl s))
theorem sx_cons (h1 : S1 X st Γ P1) (h2 : ∀ Γ', P1 (.nx Γ') → SX X sts Γ' P) (h3 : ∀ r, P1 r → ¬ isNx r → P r) : SX X (st :: sts) Γ P := by
  (first | refine ⟨?_⟩ | skip); intro T _ τ σ s hl E D hD
  refine rss_of (pss_cons psR pssR) ?_
  refine h1 T τ σ s hl E _ fun r hr => ?_
  cases r with
  | nx Γ' => exact fun σ' s' l E' e' => h2 Γ' hr T τ σ' s' l E' D fun r q => (hD r q).mono e'
  | bk Γ' => exact hD _ (h3 _ hr fun z => z)
  | ct Γ' => exact hD _ (h3 _ hr fun z => z)
  | rt Γ' S => exact hD _ (h3 _ hr fun z => z)
/-- a statement that only goes on -/
theorem sx_seq (h1 : S1 X st Γ (fun r => r = .nx Γ1)) (h2 : SX X sts Γ1 P) : SX X (st :: sts) Γ P :=
  sx_cons h1 (fun Γ' q => by cases q; exact h2) fun r q n => by subst q; exact absurd trivial n
/-- x = e -/
theorem s1_set {i : Nat} {x : Str} {pos' : Pos} (hN : X.N.Nodup) (hi : X.N[i]? = some x) (hx : Loc X.env.scope x) (he : EX X e Γ S Γ1) (hG : i < Γ.length)
    (hs : swapsWith e (some (.Name x pos')) pos.line X.env = pure false := by rfl) (hf : X.fn x = true ∨ X.env.scope.names.lookup x = some .local := by first | exact .inl rfl | exact .inr rfl) :
    S1 X (.Assign [.Name x pos'] e pos) Γ (fun r => r = .nx (Γ1.set i S)) := by
  (first | refine ⟨?_⟩ | skip); intro T _ τ σ s hl E D hD
  refine rs_of (ps_set hN hi hx peR hs hf) ?_
  refine he T τ σ s hl E _ fun v s1 E1 l1 e1 => ?_
  have hG1 : i < Γ1.length := by omega
  obtain ⟨E2, e2⟩ := E1.store (i := i) (by simp; omega)
  rw [set_app hG1, List.set_append_left _ _ (by omega)] at E2
  have q := hD _ rfl (σ.set i (some v)) _ (by simp; omega) E2 (e1.trans e2)
  exact q
theorem s1_ret (he : EX X e Γ S Γ1) : S1 X (.Return (some e) pos) Γ (fun r => r = .rt Γ1 S) := by
  (first | refine ⟨?_⟩ | skip); intro T _ τ σ s hl E D hD
  refine rs_of (ps_ret peR) ?_
  refine he T τ σ s hl E _ fun v s1 E1 l1 e1 => ?_
  exact hD _ rfl σ v s1 (by omega) E1 e1
theorem s1_if {c : Expr} (hc : ET X c Γ b Γ1) (h1 : b = true → SX X t Γ1 P) (h2 : b = false → SX X u Γ1 P) : S1 X (.If c t u pos) Γ P := by
  (first | refine ⟨?_⟩ | skip); intro T _ τ σ s hl E D hD
  refine rs_of (ps_if ptR pssR pssR) ?_
  refine hc T τ σ s hl E _ fun s1 E1 l1 e1 => ?_
  cases b with
  | true => exact iteT (h1 rfl T τ σ s1 (by omega) E1 D fun r q => (hD r q).mono e1)
  | false => exact iteF (h2 rfl T τ σ s1 (by omega) E1 D fun r q => (hD r q).mono e1)
/-- return, last -/
theorem sx_ret (he : EX X e Γ S Γ1) (h : P (.rt Γ1 S)) : SX X (.Return (some e) pos :: sts) Γ P :=
  sx_cons (s1_ret he) (fun Γ' q => nomatch q) fun r q _ => by subst q; exact h
/-- an if whose first branch leaves; the rest behind -/
theorem sx_ifr {c : Expr} (hc : ET X c Γ b Γ1) (h1 : b = true → SX X t Γ1 (fun r => P r ∧ ¬ isNx r)) (h2 : b = false → SX X sts Γ1 P) : SX X (.If c t [] pos :: sts) Γ P := by
  refine sx_cons (P1 := fun r => (b = true → P r ∧ ¬ isNx r) ∧ (b = false → r = .nx Γ1)) (s1_if hc (fun hb => (h1 hb).imp fun r q => ⟨fun _ => q, fun z => absurd (hb.symm.trans z) (by decide)⟩)
    fun hb => sx_nil ⟨fun z => absurd (hb.symm.trans z) (by decide), fun _ => rfl⟩) (fun Γ' q => ?_) fun r q n => ?_
  · cases b with
    | true => exact absurd trivial (q.1 rfl).2
    | false => cases q.2 rfl; exact h2 rfl
  · cases b with
    | true => exact (q.1 rfl).1
    | false => cases q.2 rfl; exact absurd trivial n
/-- an if that goes on, both ways to one environment -/
theorem sx_if {c : Expr} (hc : ET X c Γ b Γ1) (h1 : b = true → SX X t Γ1 (fun r => ∃ Γ', r = .nx Γ' ∧ Wk Γ' Γ2)) (h2 : b = false → SX X u Γ1 (fun r => ∃ Γ', r = .nx Γ' ∧ Wk Γ' Γ2)) (h : SX X sts Γ2 P) : SX X (.If c t u pos :: sts) Γ P := by
  refine sx_cons (P1 := fun r => ∃ Γ', r = .nx Γ' ∧ Wk Γ' Γ2) (s1_if hc h1 h2) (fun Γ' q => ?_) fun r q n => ?_
  · obtain ⟨Γ3, e, w⟩ := q
    cases e
    exact h.wk w
  · obtain ⟨Γ3, e, w⟩ := q
    subst e
    exact absurd trivial n
end
end Fw
namespace Fw
open PySem L2
variable [Tb]
variable {α β γ δ ε : Type}
/-! ## sizes that the machine keeps -/
def Sz (K : PySem.W.Frag) (v : V) (H : Hp) : Prop := ∀ a xs, v = .ref a → (SqL K H a xs ∨ SqT K H a xs) → xs.length ≤ sizeLine
section
variable {X : Cx} {e : Expr} {σ : St} {H : Hp} {Q : VK}
theorem re_sz (h : RE X e σ H (fun x H1 => Sz X.K x H1 → Q x H1)) : RE X e σ H Q := fun pins s I =>
  thn (h pins s I) fun u s1 ⟨v, H1, I1, r, q⟩ => ⟨v, H1, I1, r, q fun a xs e z => by
    rcases z with z | z
    · obtain ⟨_, _, _, hz⟩ := I1.list z; exact hz
    · obtain ⟨_, _, _, hz⟩ := I1.tuple z; exact hz⟩
end
theorem EX.sz {X : Cx} {e : Expr} {Γ Γ' : List Slot} {S : Slot} (h : EX X e Γ S Γ') {T : List Slot} [HasTab T] {τ σ : St} {s : Sta} (hl : σ.length = Γ.length) (E : EnvOk s (σ ++ τ) (Γ ++ T)) {Q : VK}
    (hQ : ∀ v s', EnvOk s' ((σ ++ τ) ++ [some v]) ((Γ' ++ T) ++ [S]) → Γ'.length = Γ.length → Evo s s' → Sz X.K v s'.H → Q v s'.H) : RE X e σ s.H Q :=
  re_sz (h T τ σ s hl E _ fun v s' E' l' e' z => hQ v s' E' l' e' z)
theorem seq_size {K : PySem.W.Frag} {S : Ty (List α)} {R : Ty α} (q : SeqA K S R) {B H : Hp} {v : V} {xs : List α} (h : S.rep B v xs) (s : Same B H) (z : Sz K v H) : xs.length ≤ sizeLine := by
  obtain ⟨a, vs, e, r, p⟩ := q.get h
  rw [← paired_len p]
  exact z a vs e (same_or s r)
/-! ## names and constants -/
section
variable {X : Cx} {e a b : Expr} {es : List Expr} {pos : Pos} {Γ Γ1 Γ2 Γ3 : List Slot} {S S1 S2 S3 : Slot} {Ss : List Slot}
theorem x_var {i : Nat} {x : Str} {R : Ty α} {y : α} (h : Γ[i]? = some (pu R y)) (hN : X.N[i]? = some x := by rfl) (hv : Vis X.env.scope x := by first | exact Or.inl rfl | exact Or.inr (Or.inl rfl) | exact Or.inr (Or.inr rfl))
    (hd : (x == ("__debug__" : Str)) = false := by decide) (hcd : (x == ("__classdict__" : Str)) = false := by decide) : EX X (.Name x pos) Γ (pu R y) Γ := by
  (first | refine ⟨?_⟩ | skip); intro T _ τ σ s hl E Q hQ
  have hi := (List.getElem?_eq_some_iff.mp h).1
  obtain ⟨_, v, hv', hr⟩ := E.sl i _ (by rw [List.getElem?_append_left hi]; exact h)
  rw [List.getElem?_append_left (by omega)] at hv'
  have hs : σ[i]? = some (some v) := by
    rw [List.getElem?_eq_getElem (by omega)] at hv' ⊢
    exact congrArg some hv'
  exact re_of (pe_var hN hv hd hcd) ⟨v, hs, hQ v s (E.push0 _ ⟨rfl, v, rfl, hr⟩) rfl (Evo.refl s)⟩
/-- an owned thing is handed on; its slot is forgotten -/
theorem x_mov {i : Nat} {x : Str} (h : Γ[i]? = some S) (hv' : ∀ B F o, S.p B F o → ∃ v, o = some v) (hN : X.N[i]? = some x := by rfl) (hv : Vis X.env.scope x := by first | exact Or.inl rfl | exact Or.inr (Or.inl rfl) | exact Or.inr (Or.inr rfl))
    (hd : (x == ("__debug__" : Str)) = false := by decide) (hcd : (x == ("__classdict__" : Str)) = false := by decide) : EX X (.Name x pos) Γ S (Γ.set i un) := by
  (first | refine ⟨?_⟩ | skip); intro T _ τ σ s hl E Q hQ
  have hi := (List.getElem?_eq_some_iff.mp h).1
  have h2 : (Γ ++ T)[i]? = some S := by rw [List.getElem?_append_left hi]; exact h
  obtain ⟨v, e⟩ := hv' _ _ _ (E.sl i _ h2)
  obtain ⟨E2, e2⟩ := E.move h2
  rw [e, set_app hi] at E2
  have hs : σ[i]? = some (some v) := by
    rw [List.getElem?_append_left (by omega)] at e
    rw [List.getElem?_eq_getElem (by omega)] at e ⊢
    exact congrArg some e
  have q := hQ v _ E2 (by simp) e2
  exact re_of (pe_var hN hv hd hcd) ⟨v, hs, q⟩
theorem ol_some {R : Ty α} {xs : List α} : ∀ B F o, (ol R xs).p B F o → ∃ v, o = some v := fun _ _ _ ⟨p, _, e, _⟩ => ⟨_, e⟩
theorem x_c {t : TE} {R : Ty α} {y : α} {v : V} (p : PE X e (tC v)) (h : ∀ B, R.rep B v y) : EX X e Γ (pu R y) Γ := by
  (first | refine ⟨?_⟩ | skip); intro T _ τ σ s hl E Q hQ
  exact re_of p (hQ v s (E.push0 _ ⟨rfl, v, rfl, h _⟩) rfl (Evo.refl s))
theorem x_int {i : Int} {j : Nat} : EX X (.Constant (.int i) j pos) Γ (pu tI i) Γ := x_c (t := tC (.int i)) pe_int fun _ => rfl
theorem x_bl {c : Bool} {j : Nat} : EX X (.Constant (.bool c) j pos) Γ (pu tB c) Γ := x_c (t := tC (.bl c)) pe_bl fun _ => rfl
theorem x_non {j : Nat} : EX X (.Constant .none j pos) Γ (pu tN ()) Γ := x_c (t := tC .non) pe_non fun _ => rfl
theorem x_none {R : Ty α} {j : Nat} : EX X (.Constant .none j pos) Γ (pu (tO R) none) Γ := x_c (t := tC .non) pe_non fun _ => rfl
theorem x_str {z : Str} {j : Nat} : EX X (.Constant (.str z) j pos) Γ (pu tS z) Γ := x_c (t := tC (.str z)) pe_str fun _ => rfl
/-- another reading of a pure result -/
theorem x_sub {R : Ty α} {y : α} {R' : Ty β} {z : β} (h : EX X e Γ (pu R y) Γ1) (k : ∀ B v, R.rep B v y → R'.rep B v z) : EX X e Γ (pu R' z) Γ1 := by
  (first | refine ⟨?_⟩ | skip); intro T _ τ σ s hl E Q hQ
  refine h T τ σ s hl E Q fun v s1 E1 l1 e1 => ?_
  have r := pu_top E1
  obtain ⟨E2, e2⟩ := E1.pop
  have q := hQ v _ (E2.push0 (pu R' z) ⟨rfl, v, rfl, k _ _ r⟩) l1 (e1.trans e2)
  exact q
/-- what a result owns goes over into the pure region -/
theorem x_frz {R : Ty α} {xs : List α} (h : EX X e Γ (ol R xs) Γ1) : EX X e Γ (pu (tLs X.K R) xs) Γ1 := by
  (first | refine ⟨?_⟩ | skip); intro T _ τ σ s hl E Q hQ
  refine h T τ σ s hl E Q fun v s1 E1 l1 e1 => ?_
  obtain ⟨E2, e2⟩ := E1.freeze (S' := pu (tLs X.K R) xs) (i := (Γ1 ++ T).length) (by simp) fun B' k1 k2 => ol_pure (E1.sl _ _ (by simp)) k1 k2 X.K
  have hz : ((Γ1 ++ T) ++ [ol R xs]).set (Γ1 ++ T).length (pu (tLs X.K R) xs) = (Γ1 ++ T) ++ [pu (tLs X.K R) xs] := by
    rw [List.set_append_right _ _ (Nat.le_refl _)]; simp
  rw [hz] at E2
  have q := hQ v _ E2 l1 (e1.trans e2)
  exact q
/-! ## operators -/
theorem x_add {x y : Int} (ha : EX X a Γ (pu tI x) Γ1) (hb : EX X b Γ1 (pu tI y) Γ2) : EX X (.BinOp a .Add b pos) Γ (pu tI (x + y)) Γ2 := ex_bin (pe_op op_add peR peR) ha hb (o_II0 (g := fun i j => i + j))
theorem x_subt {x y : Int} (ha : EX X a Γ (pu tI x) Γ1) (hb : EX X b Γ1 (pu tI y) Γ2) : EX X (.BinOp a .Sub b pos) Γ (pu tI (x - y)) Γ2 := ex_bin (pe_op op_sub peR peR) ha hb (o_II0 (g := fun i j => i - j))
theorem x_mul {x y : Int} (ha : EX X a Γ (pu tI x) Γ1) (hb : EX X b Γ1 (pu tI y) Γ2) (hc : CMul x y) : EX X (.BinOp a .Mult b pos) Γ (pu tI (x * y)) Γ2 := ex_bin (pe_op op_mul peR peR) ha hb (o_II (g := fun i j => i * j) hc)
theorem x_div {x y : Int} (ha : EX X a Γ (pu tI x) Γ1) (hb : EX X b Γ1 (pu tI y) Γ2) (hc : CDiv x y) : EX X (.BinOp a .FloorDiv b pos) Γ (pu tI (x / y)) Γ2 := ex_bin (pe_op op_fdiv peR peR) ha hb (o_II (g := fun i j => i / j) hc)
theorem x_mod {x y : Int} (ha : EX X a Γ (pu tI x) Γ1) (hb : EX X b Γ1 (pu tI y) Γ2) (hc : 0 < y) : EX X (.BinOp a .Mod b pos) Γ (pu tI (x % y)) Γ2 := ex_bin (pe_op op_mod peR peR) ha hb (o_II (C := fun _ j => 0 < j) (g := fun i j => i % j) hc)
theorem x_pow {x y : Int} (ha : EX X a Γ (pu tI x) Γ1) (hb : EX X b Γ1 (pu tI y) Γ2) (hc : CPow x y) : EX X (.BinOp a .Pow b pos) Γ (pu tI (x ^ y.toNat)) Γ2 := ex_bin (pe_op op_pow peR peR) ha hb (o_II (g := fun i j => i ^ j.toNat) hc)
theorem x_neg {x : Int} (ha : EX X a Γ (pu tI x) Γ1) : EX X (.UnaryOp .USub a pos) Γ (pu tI (-x)) Γ1 := ex_un (pe_un un_neg peR) ha (op1_val fun _ _ _ _ h1 _ q => ⟨x, h1, q _ rfl⟩)
theorem x_cmp {op : CmpOp} {r : R2} (ho : OpR X (compareOp op) r) (hm : behindInMarks op b = false) (hr : Op2 r S1 S2 S3) (ha : EX X a Γ S1 Γ1) (hb : EX X b Γ1 S2 Γ2) : EX X (.Compare a [op] [b] pos) Γ S3 Γ2 := ex_bin (pe_cmpR ho peR peR hm) ha hb hr
theorem t_cmp {op : CmpOp} {r : R2} {c : Bool} (ho : OpR X (compareOp op) r) (hm : behindInMarks op b = false) (hr : Op2 r S1 S2 (pu tB c)) (ha : EX X a Γ S1 Γ1) (hb : EX X b Γ1 S2 Γ2) : ET X (.Compare a [op] [b] pos) Γ c Γ2 := by
  (first | refine ⟨?_⟩ | skip); intro T _ τ σ s hl E Q hQ
  refine rt_of (pt_cmpR ho peR peR hm) ?_
  refine ha T τ σ s hl E _ fun v1 s1 E1 l1 e1 => ?_
  rw [List.append_assoc, List.append_assoc] at E1
  refine hb _ _ σ s1 (by rw [hl, l1]) E1 _ fun v2 s2 E2 l2 e2 => ?_
  rw [← List.append_assoc, ← List.append_assoc] at E2
  refine hr (σ ++ τ) (Γ2 ++ T) s2 v1 v2 E2 _ fun v' s3 E3 e3 => ?_
  obtain ⟨E4, e4⟩ := E3.pop
  have q := hQ _ E4 (by rw [l2, l1]) (((e1.trans e2).trans e3).trans e4)
  exact ⟨c, pu_top E3, q⟩
/-- a value that is True or False, as a test -/
theorem t_val {c : Bool} (he : EX X e Γ (pu tB c) Γ1) (h : ∀ whole, isTrue e X.env whole = (do let v ← whole; standAt e.pos; holding [v] (truthy v)) := by intro _; rfl) : ET X e Γ c Γ1 := by
  (first | refine ⟨?_⟩ | skip); intro T _ τ σ s hl E Q hQ
  refine rt_of (pt_val peR h) ?_
  refine he T τ σ s hl E _ fun v1 s1 E1 l1 e1 => ?_
  obtain ⟨E4, e4⟩ := E1.pop
  have q := hQ _ E4 l1 (e1.trans e4)
  exact ⟨c, pu_top E1, q⟩
theorem t_not {c : Bool} (h : ET X e Γ c Γ1) : ET X (.UnaryOp .Not e pos) Γ (!c) Γ1 := by
  (first | refine ⟨?_⟩ | skip); intro T _ τ σ s hl E Q hQ
  refine rt_of (pt_not ptR) ?_
  exact h T τ σ s hl E _ fun s1 E1 l1 e1 => hQ s1 E1 l1 e1
/-- chains of and, or as tests -/
def EW (X : Cx) (e : Expr) (Γ : List Slot) (b : Bool) (Γ' : List Slot) : Prop :=
  ∀ (T : List Slot) [HasTab T] (τ σ : St) (s : Sta), σ.length = Γ.length → EnvOk s (σ ++ τ) (Γ ++ T) → ∀ Q : Bool → Hp → Prop,
    (∀ s', EnvOk s' (σ ++ τ) (Γ' ++ T) → Γ'.length = Γ.length → Evo s s' → Q b s'.H) → ∀ (whole : Sem Value) (pins : List (Addr × Obj)) (sh : Shared), Inv X pins σ s.H sh → wpAny (model X.prog X.w) X.A (isTrue e X.env whole) (TP X pins σ Q) X.xe sh
theorem t_w {c : Bool} (h : EW X e Γ c Γ1) : ET X e Γ c Γ1 := .mk fun T _ τ σ s hl E Q hQ pins sh I => h T τ σ s hl E Q hQ _ pins sh I
theorem pwR {t : TT} (h : ∀ σ H Q, t σ H Q → ∀ (whole : Sem Value) (pins : List (Addr × Obj)) (sh : Shared), Inv X pins σ H sh → wpAny (model X.prog X.w) X.A (isTrue e X.env whole) (TP X pins σ Q) X.xe sh) : PW X e t :=
  ⟨fun wh pins s σ H Q I q => h σ H Q q wh pins s I⟩
theorem w_one {op : BoolOp} {c : Bool} (h : ET X a Γ c Γ1) (hop : op = .And ∨ op = .Or) : EW X (.BoolOp op [a] pos) Γ c Γ1 := by
  (first | refine ⟨?_⟩ | skip); intro T _ τ σ s hl E Q hQ wh pins sh I
  rcases hop with e | e
  · subst e; exact (pw_and1 ptR).run wh pins sh σ s.H Q I (h T τ σ s hl E Q hQ)
  · subst e; exact (pw_or1 ptR).run wh pins sh σ s.H Q I (h T τ σ s hl E Q hQ)
theorem w_and {c d : Bool} (h1 : ET X a Γ c Γ) (h2 : c = true → EW X (.BoolOp .And (b :: es) pos) Γ d Γ) : EW X (.BoolOp .And (a :: b :: es) pos) Γ (c && d) Γ := by
  (first | refine ⟨?_⟩ | skip); intro T _ τ σ s hl E Q hQ wh pins sh I
  refine (pw_and (tB' := fun σ' H' Q' => ∀ (whole : Sem Value) (pins : List (Addr × Obj)) (sh : Shared), Inv X pins σ' H' sh → wpAny (model X.prog X.w) X.A (isTrue (.BoolOp .And (b :: es) pos) X.env whole) (TP X pins σ' Q') X.xe sh) ptR (pwR fun _ _ _ q => q)).run wh pins sh σ s.H Q I ?_
  refine h1 T τ σ s hl E _ fun s1 E1 l1 e1 => ?_
  cases c with
  | true => exact iteT (h2 rfl T τ σ s1 hl E1 Q fun s2 E2 l2 e2 => hQ s2 E2 l2 (e1.trans e2))
  | false => exact iteF (hQ s1 E1 l1 e1)
theorem w_or {c d : Bool} (h1 : ET X a Γ c Γ) (h2 : c = false → EW X (.BoolOp .Or (b :: es) pos) Γ d Γ) : EW X (.BoolOp .Or (a :: b :: es) pos) Γ (c || d) Γ := by
  (first | refine ⟨?_⟩ | skip); intro T _ τ σ s hl E Q hQ wh pins sh I
  refine (pw_or (tB' := fun σ' H' Q' => ∀ (whole : Sem Value) (pins : List (Addr × Obj)) (sh : Shared), Inv X pins σ' H' sh → wpAny (model X.prog X.w) X.A (isTrue (.BoolOp .Or (b :: es) pos) X.env whole) (TP X pins σ' Q') X.xe sh) ptR (pwR fun _ _ _ q => q)).run wh pins sh σ s.H Q I ?_
  refine h1 T τ σ s hl E _ fun s1 E1 l1 e1 => ?_
  cases c with
  | true => exact iteT (hQ s1 E1 l1 e1)
  | false => exact iteF (h2 rfl T τ σ s1 hl E1 Q fun s2 E2 l2 e2 => hQ s2 E2 l2 (e1.trans e2))
/-- and, or, not as values -/
theorem x_one {op : BoolOp} (h : EX X a Γ S Γ1) : EX X (.BoolOp op [a] pos) Γ S Γ1 := .mk fun T _ τ σ s hl E Q hQ => re_of (pe_one peR) (h T τ σ s hl E Q hQ)
theorem x_and {c d : Bool} (h1 : EX X a Γ (pu tB c) Γ) (h2 : c = true → EX X (.BoolOp .And (b :: es) pos) Γ (pu tB d) Γ) : EX X (.BoolOp .And (a :: b :: es) pos) Γ (pu tB (c && d)) Γ := by
  (first | refine ⟨?_⟩ | skip); intro T _ τ σ s hl E Q hQ
  refine re_of (pe_and peR peR) ?_
  refine h1 T τ σ s hl E _ fun v1 s1 E1 l1 e1 => ?_
  refine ⟨c, pu_top E1, ?_⟩
  cases c with
  | true =>
    obtain ⟨E2, e2⟩ := E1.pop
    have q := h2 rfl T τ σ _ hl E2 Q fun v3 s3 E3 l3 e3 => hQ v3 s3 E3 l3 ((e1.trans e2).trans e3)
    exact iteT q
  | false =>
    have e : v1 = V.bl false := pu_top E1
    rw [e] at E1
    exact iteF (hQ _ s1 E1 l1 e1)
end
end Fw
namespace Fw
open PySem L2
variable [Tb]
variable {α β γ δ ε : Type}
/-! ## lists and tuples by place -/
/-- the item at a place of any sign -/
def ix [Inhabited α] (xs : List α) (i : Int) : α := (atI xs i).getD default
def InIx (n : Nat) (i : Int) : Prop := -(n : Int) ≤ i ∧ i < n
theorem ix_nat [Inhabited α] {xs : List α} {i : Int} (h0 : 0 ≤ i) (h : i < xs.length) : ix xs i = xs[i.toNat]'(by omega) := by
  have e : xs[i.toNat]? = some (xs[i.toNat]'(by omega)) := List.getElem?_eq_getElem _
  have := atI_nat e
  rw [Int.toNat_of_nonneg h0] at this
  simp [ix, this]
theorem atI_some {xs : List α} {i : Int} (h : InIx xs.length i) : ∃ j, ixN xs.length i = some j ∧ j < xs.length ∧ (0 ≤ i → j = i.toNat) ∧ (i < 0 → j = (i + xs.length).toNat) := by
  obtain ⟨h1, h2⟩ := h
  unfold ixN
  by_cases q : 0 ≤ i
  · rw [if_pos q, if_pos h2]; exact ⟨_, rfl, by omega, fun _ => rfl, fun z => by omega⟩
  · rw [if_neg q, if_pos h1]; exact ⟨_, rfl, by omega, fun z => by omega, fun _ => rfl⟩
theorem ix_at [Inhabited α] {xs : List α} {i : Int} (h : InIx xs.length i) : ∃ j, ixN xs.length i = some j ∧ xs[j]? = some (ix xs i) := by
  obtain ⟨j, e, hj, _⟩ := atI_some h
  refine ⟨j, e, ?_⟩
  have e2 : atI xs i = xs[j]? := by unfold atI; rw [e]; rfl
  unfold ix
  rw [e2, List.getElem?_eq_getElem hj]; rfl
section
variable {K : PySem.W.Frag} {R R1 : Ty α} {R2' : Ty β} {R3' : Ty γ} {R4' : Ty δ}
theorem ix_of [Inhabited α] {F : V → α → Prop} {vs : List V} {xs : List α} {i : Int} (r : Paired F vs xs) (h : InIx xs.length i) : ∃ v, atI vs i = some v ∧ F v (ix xs i) := by
  obtain ⟨j, e, g⟩ := ix_at h
  obtain ⟨v, g2, f⟩ := paired_get r g
  refine ⟨v, ?_, f⟩
  unfold atI
  rw [paired_len r, e]; exact g2
theorem o_ixL [Inhabited α] {S : Ty (List α)} {xs : List α} {i : Int} (q : SeqL K S R) (h : InIx xs.length i) : Op2 (rIxL K) (pu S xs) (pu tI i) (pu R (ix xs i)) :=
  op2_val fun B H v u s h1 h2 Q k => by
    obtain ⟨a, vs, e, z, r⟩ := q.get h1
    obtain ⟨w, g, f⟩ := ix_of r h
    exact ⟨a, vs, i, w, e, h2, s.seq z, g, k _ f⟩
theorem o_ixT [Inhabited α] {S : Ty (List α)} {xs : List α} {i : Int} (q : SeqT K S R) (h : InIx xs.length i) : Op2 (rIxT K) (pu S xs) (pu tI i) (pu R (ix xs i)) :=
  op2_val fun B H v u s h1 h2 Q k => by
    obtain ⟨a, vs, e, z, r⟩ := q.get h1
    obtain ⟨w, g, f⟩ := ix_of r h
    exact ⟨a, vs, i, w, e, h2, same_sqt s z, g, k _ f⟩
theorem o_ixP2_0 {x : α × β} : Op2 (rIxT K) (pu (tP2 K R1 R2') x) (pu tI 0) (pu R1 x.1) :=
  op2_val fun B H v u s h1 h2 Q k => by
    obtain ⟨a, v1, v2, e, z, r1, r2⟩ := h1
    exact ⟨a, _, 0, v1, e, h2, same_sqt s z, rfl, k _ r1⟩
theorem o_ixP2_1 {x : α × β} : Op2 (rIxT K) (pu (tP2 K R1 R2') x) (pu tI 1) (pu R2' x.2) :=
  op2_val fun B H v u s h1 h2 Q k => by
    obtain ⟨a, v1, v2, e, z, r1, r2⟩ := h1
    exact ⟨a, _, 1, v2, e, h2, same_sqt s z, rfl, k _ r2⟩
theorem o_ixP3_0 {x : α × β × γ} : Op2 (rIxT K) (pu (tP3 K R1 R2' R3') x) (pu tI 0) (pu R1 x.1) :=
  op2_val fun B H v u s h1 h2 Q k => by
    obtain ⟨a, v1, v2, v3, e, z, r1, r2, r3⟩ := h1
    exact ⟨a, _, 0, v1, e, h2, same_sqt s z, rfl, k _ r1⟩
theorem o_ixP3_1 {x : α × β × γ} : Op2 (rIxT K) (pu (tP3 K R1 R2' R3') x) (pu tI 1) (pu R2' x.2.1) :=
  op2_val fun B H v u s h1 h2 Q k => by
    obtain ⟨a, v1, v2, v3, e, z, r1, r2, r3⟩ := h1
    exact ⟨a, _, 1, v2, e, h2, same_sqt s z, rfl, k _ r2⟩
theorem o_ixP3_2 {x : α × β × γ} : Op2 (rIxT K) (pu (tP3 K R1 R2' R3') x) (pu tI 2) (pu R3' x.2.2) :=
  op2_val fun B H v u s h1 h2 Q k => by
    obtain ⟨a, v1, v2, v3, e, z, r1, r2, r3⟩ := h1
    exact ⟨a, _, 2, v3, e, h2, same_sqt s z, rfl, k _ r3⟩
/-! ## displays -/
def rTup : List V → Hp → VK → Prop := fun xs H1 Q => xs.length ≤ sizeLine ∧ ∀ p, H1 p = none → Q (.ref p) (upd H1 p (.tup xs))
def rLst : List V → Hp → VK → Prop := fun xs H1 Q => xs.length ≤ sizeLine ∧ ∀ p, H1 p = none → Q (.ref p) (upd H1 p (.lst xs))
theorem sqt_new {B : Hp} {p : Addr} {xs : List V} (h : B p = some (.tup xs)) : SqT K B p xs := .inl (.inl h)
theorem rev_ind {motive : List α → Prop} (h0 : motive []) (h1 : ∀ ys y, motive ys → motive (ys ++ [y])) (xs : List α) : motive xs := by
  have key : ∀ n (xs : List α), xs.length = n → motive xs := fun n => by
    induction n with
    | zero => intro xs h; have : xs = [] := List.eq_nil_of_length_eq_zero h; subst this; exact h0
    | succ n ih =>
      intro xs h
      have hne : xs ≠ [] := by intro e; subst e; simp at h
      rw [← List.dropLast_concat_getLast hne]
      exact h1 _ _ (ih _ (by rw [List.length_dropLast, h]; rfl))
  exact key _ xs rfl
/-- pure values on top -/
theorem pus_top {σ : St} {Γ : List Slot} {xs : List α} : ∀ {s : Sta} {vs : List V}, vs.length = xs.length → EnvOk s (σ ++ vs.map some) (Γ ++ xs.map (pu R)) → Paired (R.rep s.B) vs xs ∧ ∃ s', EnvOk s' σ Γ ∧ Evo s s' ∧ s'.B = s.B ∧ s'.H = s.H := by
    induction xs using rev_ind with
    | h0 =>
      intro s vs hl E
      have : vs = [] := by cases vs with | nil => rfl | cons _ _ => simp at hl
      subst this
      exact ⟨.nil, s, by simpa using E, Evo.refl s, rfl, rfl⟩
    | h1 ys y ih =>
      intro s vs hl E
      obtain ⟨us, v, rfl⟩ : ∃ us v, vs = us ++ [v] := ⟨vs.dropLast, vs.getLast (by intro h; subst h; simp at hl), (List.dropLast_concat_getLast _).symm⟩
      have hl' : us.length = ys.length := by simpa using hl
      have E' : EnvOk s ((σ ++ us.map some) ++ [some v]) ((Γ ++ ys.map (pu R)) ++ [pu R y]) := by simpa using E
      have ht := pu_top E'
      obtain ⟨E2, e2⟩ := E'.pop
      obtain ⟨r, s', E3, e3, hB, hH⟩ := ih hl' E2
      exact ⟨paired_app r (.cons ht .nil), s', E3, e2.trans e3, hB, hH⟩
theorem n_tup {xs : List α} (hz : xs.length ≤ sizeLine) : OpN rTup (xs.map (pu R)) (pu (tT K R) xs) := by
  intro σ Γ _ s vs lv E Q hQ
  obtain ⟨r, s', E', e', hB, hH⟩ := pus_top (by simpa using lv) E
  refine ⟨by rw [paired_len r]; exact hz, fun p hp => ?_⟩
  obtain ⟨E4, e4⟩ := E'.push1 (o := some (.ref p)) (ob := .tup vs) (by rw [hH]; exact hp) (pu (tT K R) xs) fun k1 k2 => ⟨rfl, _, rfl, p, vs, rfl, sqt_new k2, paired_mono (fun _ _ z => R.mono k1 z) (by rw [hB]; exact r)⟩
  have q := hQ _ _ E4 (e'.trans e4)
  rw [hH] at q
  exact q
theorem n_lst {xs : List α} (hz : xs.length ≤ sizeLine) : OpN rLst (xs.map (pu R)) (ol R xs) := by
  intro σ Γ _ s vs lv E Q hQ
  obtain ⟨r, s', E', e', hB, hH⟩ := pus_top (by simpa using lv) E
  refine ⟨by rw [paired_len r]; exact hz, fun p hp => ?_⟩
  obtain ⟨E4, e4⟩ := E'.pushO (o := some (.ref p)) (ob := .lst vs) (by rw [hH]; exact hp) (ol R xs) ⟨p, vs, rfl, rfl, by rw [hB]; exact r⟩
  have q := hQ _ _ E4 (e'.trans e4)
  rw [hH] at q
  exact q
theorem n_p2 {x : α} {y : β} : OpN rTup [pu R1 x, pu R2' y] (pu (tP2 K R1 R2') (x, y)) := by
  intro σ Γ _ s vs lv E Q hQ
  match vs, lv with
  | [v, u], _ =>
    have E' : EnvOk s ((σ ++ [some v]) ++ [some u]) ((Γ ++ [pu R1 x]) ++ [pu R2' y]) := by simpa using E
    obtain ⟨h1, h2⟩ := pu_top2 E'
    obtain ⟨E2, e2⟩ := E'.pop
    obtain ⟨E3, e3⟩ := E2.pop
    refine ⟨by show 2 ≤ sizeLine; decide, fun p hp => ?_⟩
    obtain ⟨E4, e4⟩ := E3.push1 (o := some (.ref p)) (ob := .tup [v, u]) hp (pu (tP2 K R1 R2') (x, y)) fun k1 k2 => ⟨rfl, _, rfl, p, v, u, rfl, sqt_new k2, R1.mono k1 h1, R2'.mono k1 h2⟩
    exact hQ _ _ E4 ((e2.trans e3).trans e4)
theorem n_p3 {x : α} {y : β} {z : γ} : OpN rTup [pu R1 x, pu R2' y, pu R3' z] (pu (tP3 K R1 R2' R3') (x, y, z)) := by
  intro σ Γ _ s vs lv E Q hQ
  match vs, lv with
  | [v, u, w], _ =>
    have E' : EnvOk s (((σ ++ [some v]) ++ [some u]) ++ [some w]) (((Γ ++ [pu R1 x]) ++ [pu R2' y]) ++ [pu R3' z]) := by simpa using E
    have h3 := pu_top E'
    obtain ⟨E1, e1⟩ := E'.pop
    obtain ⟨h1, h2⟩ := pu_top2 E1
    obtain ⟨E2, e2⟩ := E1.pop
    obtain ⟨E3, e3⟩ := E2.pop
    refine ⟨by show 3 ≤ sizeLine; decide, fun p hp => ?_⟩
    obtain ⟨E4, e4⟩ := E3.push1 (o := some (.ref p)) (ob := .tup [v, u, w]) hp (pu (tP3 K R1 R2' R3') (x, y, z)) fun k1 k2 => ⟨rfl, _, rfl, p, v, u, w, rfl, sqt_new k2, R1.mono k1 h1, R2'.mono k1 h2, R3'.mono k1 h3⟩
    exact hQ _ _ E4 (((e1.trans e2).trans e3).trans e4)
/-! ## built-in functions by values -/
theorem n_lenA {S : Ty (List α)} {xs : List α} (q : SeqA K S R) : OpN (fun xs H Q => ∃ x n, xs = [x] ∧ LenV K x H n ∧ Q (.int n) H) [pu S xs] (pu tI (xs.length : Int)) :=
  opN_1 (op1_val fun B H v s h1 Q k => by
    obtain ⟨a, vs, e, z, r⟩ := q.get h1
    refine ⟨v, xs.length, rfl, ?_, k _ rfl⟩
    subst e
    rcases z with z | z
    · exact .inl ⟨vs, s.seq z, (paired_len r).symm⟩
    · exact .inr ⟨vs, same_sqt s z, (paired_len r).symm⟩)
theorem n_listOf {S : Ty (List α)} {xs : List α} (q : SeqA K S R) : OpN (fun xs H Q => ∃ p ys, xs = [.ref p] ∧ (SqL K H p ys ∨ SqT K H p ys) ∧ ∀ l, H l = none → Q (.ref l) (upd H l (.lst ys))) [pu S xs] (ol R xs) := by
  refine opN_1 fun σ Γ s v E Q hQ => ?_
  obtain ⟨a, vs, e, z, r⟩ := q.get (pu_top E)
  obtain ⟨E2, e2⟩ := E.pop
  refine ⟨a, vs, by rw [e], same_or E.sub z, fun l hl => ?_⟩
  obtain ⟨E4, e4⟩ := E2.pushO (o := some (.ref l)) (ob := .lst vs) hl (ol R xs) ⟨l, vs, rfl, rfl, r⟩
  exact hQ _ _ E4 (e2.trans e4)
/-- tuple(xs), xs a list: pure or owned -/
theorem n_tupleL {S : Ty (List α)} {xs : List α} (q : SeqL K S R) : OpN (fun xs H Q => ∃ p ys, xs = [.ref p] ∧ ((SqL K H p ys ∧ ∀ l, H l = none → Q (.ref l) (upd H l (.tup ys))) ∨ (SqT K H p ys ∧ Q (.ref p) H))) [pu S xs] (pu (tT K R) xs) :=
  opN_1 (op1_new fun B H v s h1 Q k _ => by
    obtain ⟨a, vs, e, z, r⟩ := q.get h1
    exact ⟨a, vs, by rw [e], .inl ⟨s.seq z, fun l hl => k l _ hl fun B' s' hB => ⟨l, vs, rfl, sqt_new hB, paired_mono (fun _ _ w => R.mono s' w) r⟩⟩⟩)
theorem n_all {S : Ty (List Bool)} {xs : List Bool} (q : SeqL K S tB) : OpN (rAll K) [pu S xs] (pu tB (xs.all id)) :=
  opN_1 (op1_val fun B H v s h1 Q k => by
    obtain ⟨a, vs, e, z, r⟩ := q.get h1
    rw [paired_bl r] at z
    exact ⟨a, xs, by rw [e], s.seq z, k _ rfl⟩)
end
/-! ## ints in order -/
/-! ## calls in the text -/
section
variable {X : Cx} {e a b : Expr} {es : List Expr} {pos p : Pos} {x : Str} {id T : String} {Γ Γ1 Γ2 : List Slot} {S S1 S2 : Slot} {Ss : List Slot} {r : List V → Hp → VK → Prop}
theorem x_callB (hc : CallR X (.builtin id) r) (hm : X.mg x = none) (hv : bootBuiltins x = some (.builtin id)) (hr : OpN r Ss S) (ha : EA X (e :: es) Γ Ss Γ1) (hg : Gl X x := by rfl) (hn : x ≠ "__name__" := by decide) (hdb : (x == ("__debug__" : Str)) = false := by decide)
    (he : starEach (e :: es) X.env = (false, eval e X.env) :: starEach es X.env := by rfl) (hpl : (backTo pos (starEach es X.env)).any (·.1) = false := by rfl) : EX X (.Call (.Name x p) (e :: es) [] pos) Γ S Γ1 :=
  ex_n (pe_callB hc hg hm hv paR hn hdb he hpl) ha hr
theorem x_callT (hc : CallR X (.type T) r) (hm : X.mg x = none) (hv : bootBuiltins x = some (.type T)) (hr : OpN r Ss S) (ha : EA X (e :: es) Γ Ss Γ1) (hg : Gl X x := by rfl) (hn : x ≠ "__name__" := by decide) (hdb : (x == ("__debug__" : Str)) = false := by decide)
    (he : starEach (e :: es) X.env = (false, eval e X.env) :: starEach es X.env := by rfl) (hpl : (backTo pos (starEach es X.env)).any (·.1) = false := by rfl) : EX X (.Call (.Name x p) (e :: es) [] pos) Γ S Γ1 :=
  ex_n (pe_callTy hc hg hm hv paR hn hdb he hpl) ha hr
theorem x_tup {k : Nat} (hr : OpN rTup Ss S) (ha : EA X es Γ Ss Γ1) : EX X (.Tuple es k pos) Γ S Γ1 := ex_n (r := rTup) (pe_tup paR) ha hr
theorem x_lst (hr : OpN rLst Ss S) (ha : EA X es Γ Ss Γ1) : EX X (.List es pos) Γ S Γ1 := ex_n (r := rLst) (pe_lst paR) ha hr
theorem x_ix {r : R2} (h : IxR X r) (hr : Op2 r S1 S2 S) (ha : EX X a Γ S1 Γ1) (hb : EX X b Γ1 S2 Γ2) (hs : PlainIx b := by exact fun _ _ => rfl) : EX X (.Subscript a b pos) Γ S Γ2 := ex_bin (pe_ix h peR peR hs) ha hb hr
end
end Fw
namespace Fw
open PySem L2
variable [Tb]
variable {α β γ δ ε ρ κ : Type}
/-! ## what is walked -/
/-- walking `iter` from Γ gives the things xs one by one; something lies on the stack meanwhile -/
structure IW (X : Cx) (tg iter : Expr) (wi : TI) (Γ : List Slot) (R : Ty α) (xs : List α) (Γ1 : List Slot) : Prop where
  pi : PI X tg iter wi
  run : ∀ (T : List Slot) [HasTab T] (τ σ : St) (s : Sta), σ.length = Γ.length → EnvOk s (σ ++ τ) (Γ ++ T) → ∀ Rr : It → Hp → Prop,
    (∀ J G Y us Ts s', Walk J xs.length G Y → EnvOk s' ((σ ++ τ) ++ us) ((Γ1 ++ T) ++ Ts) → Γ1.length = Γ.length → us.length = Ts.length → Evo s s' → xs.length ≤ sizeLine →
      (∀ σ2 Γ2 ρ Ps s2, σ2.length = Γ2.length → EnvOk s2 (σ2 ++ (us ++ ρ)) (Γ2 ++ (Ts ++ Ps)) → G s2.H) →
      (∀ i x H' σ2 Γ2 ρ Ps s2, i < xs.length → Y i s2.H x H' → σ2.length = Γ2.length → EnvOk s2 (σ2 ++ (us ++ ρ)) (Γ2 ++ (Ts ++ Ps)) → ∃ y s3, xs[i]? = some y ∧ s3.H = H' ∧ EnvOk s3 ((σ2 ++ (us ++ ρ)) ++ [some x]) ((Γ2 ++ (Ts ++ Ps)) ++ [pu R y]) ∧ Evo s2 s3) → Rr J s'.H) → wi σ s.H Rr
theorem mid_top {s : Sta} {σ ρ : St} {Γ Ps : List Slot} {S : Slot} {o : Option V} (E : EnvOk s (σ ++ ([o] ++ ρ)) (Γ ++ ([S] ++ Ps))) (hl : σ.length = Γ.length) : S.p s.B (s.F Γ.length) o := by
  have := E.sl Γ.length S (by simp)
  rw [join_get (show (σ ++ ([o] ++ ρ))[Γ.length]? = some o by rw [← hl]; simp)] at this
  exact this
/-- a list, a tuple at a known address -/
def pl (K : PySem.W.Frag) (R : Ty α) (a : Addr) (vs : List V) (xs : List α) : Slot := ⟨fun B F o => F = em ∧ o = some (.ref a) ∧ SqL K B a vs ∧ Paired (R.rep B) vs xs,
  fun s h => ⟨h.1, h.2.1, Same.seq s h.2.2.1, paired_mono (fun _ _ z => R.mono s z) h.2.2.2⟩, fun h => ⟨by rw [h.1]; exact ntF_em, h.2⟩⟩
def pt (K : PySem.W.Frag) (R : Ty α) (a : Addr) (vs : List V) (xs : List α) : Slot := ⟨fun B F o => F = em ∧ o = some (.ref a) ∧ SqT K B a vs ∧ Paired (R.rep B) vs xs,
  fun s h => ⟨h.1, h.2.1, same_sqt s h.2.2.1, paired_mono (fun _ _ z => R.mono s z) h.2.2.2⟩, fun h => ⟨by rw [h.1]; exact ntF_em, h.2⟩⟩
section
variable {X : Cx} {tg iter a b : Expr} {Γ Γ1 Γ2 : List Slot} {S S' : Slot} {s : Sta} {σ : St} {o : Option V}
theorem w_list {R : Ty α} {S : Ty (List α)} {xs : List α} (q : SeqL X.K S R) (he : EX X iter Γ (pu S xs) Γ1) : IW X tg iter (iList X.K (RE X iter)) Γ R xs Γ1 := by
  refine ⟨pi_list peR, fun T _ τ σ s hl E Rr h => ?_⟩
  refine he.sz hl E fun v s1 E1 l1 e1 z => ?_
  obtain ⟨a, vs, e, w, r⟩ := q.get (pu_top E1)
  have hw : SqL X.K s1.H a vs := Same.seq E1.sub w
  have hz := seq_size q.a (pu_top E1) E1.sub z
  subst e
  refine ⟨a, rfl, ⟨vs, hw⟩, ?_⟩
  have hlen : vs.length = xs.length := paired_len r
  obtain ⟨E2, e2⟩ := E1.pop
  have E3 := E2.push0 (o := some (.ref a)) (pl X.K R a vs xs) ⟨rfl, rfl, w, r⟩
  have q1 := h (Itl X.K a) _ _ [some (.ref a)] [pl X.K R a vs xs] _ (by rw [← hlen]; exact walk_list) E3 l1 rfl (e1.trans e2) hz (fun σ2 Γ2 ρ Ps s2 h2 E2 => ?_) (fun i x H' σ2 Γ2 ρ Ps s2 hi y h2 E2 => ?_)
  · exact q1
  · obtain ⟨_, _, w', _⟩ := mid_top E2 h2
    exact Same.seq E2.sub w'
  · obtain ⟨rfl, hx⟩ := y
    obtain ⟨_, _, w', r'⟩ := mid_top E2 h2
    obtain ⟨y, hy, ry⟩ := paired_getV r' hx
    exact ⟨y, s2, hy, rfl, E2.push0 _ ⟨rfl, x, rfl, ry⟩, Evo.refl s2⟩
theorem w_tup {R : Ty α} {S : Ty (List α)} {xs : List α} (q : SeqT X.K S R) (he : EX X iter Γ (pu S xs) Γ1) : IW X tg iter (iTup X.K (RE X iter)) Γ R xs Γ1 := by
  refine ⟨pi_tup peR, fun T _ τ σ s hl E Rr h => ?_⟩
  refine he.sz hl E fun v s1 E1 l1 e1 z => ?_
  obtain ⟨a, vs, e, w, r⟩ := q.get (pu_top E1)
  have hw : SqT X.K s1.H a vs := same_sqt E1.sub w
  have hz := seq_size q.a (pu_top E1) E1.sub z
  subst e
  refine ⟨a, rfl, ⟨vs, hw⟩, ?_⟩
  have hlen : vs.length = xs.length := paired_len r
  obtain ⟨E2, e2⟩ := E1.pop
  have E3 := E2.push0 (o := some (.ref a)) (pt X.K R a vs xs) ⟨rfl, rfl, w, r⟩
  have q1 := h (Itt X.K a) _ _ [some (.ref a)] [pt X.K R a vs xs] _ (by rw [← hlen]; exact walk_tup) E3 l1 rfl (e1.trans e2) hz (fun σ2 Γ2 ρ Ps s2 h2 E2 => ?_) (fun i x H' σ2 Γ2 ρ Ps s2 hi y h2 E2 => ?_)
  · exact q1
  · obtain ⟨_, _, w', _⟩ := mid_top E2 h2
    exact same_sqt E2.sub w'
  · obtain ⟨rfl, hx⟩ := y
    obtain ⟨_, _, w', r'⟩ := mid_top E2 h2
    obtain ⟨y, hy, ry⟩ := paired_getV r' hx
    exact ⟨y, s2, hy, rfl, E2.push0 _ ⟨rfl, x, rfl, ry⟩, Evo.refl s2⟩
/-- 0, 1, .., n - 1 -/
def rangeI (lo hi : Int) : List Int := (List.range (hi - lo).toNat).map fun i => lo + (i : Nat)
theorem rangeI_len (lo hi : Int) : (rangeI lo hi).length = (hi - lo).toNat := by simp [rangeI]
theorem rangeI_get {lo hi : Int} {i : Nat} (h : i < (hi - lo).toNat) : (rangeI lo hi)[i]? = some (lo + (i : Nat)) := by simp [rangeI, h]
theorem w_range1 {n : Int} {p pos : Pos} (hm : X.mg "range" = none) (he : EX X a Γ (pu tI n) Γ1) (h0 : -(2 ^ 62) ≤ n) (h1 : n ≤ sizeLine) (hg : Gl X "range" := by rfl) (hs : starEach [a] X.env = [(false, eval a X.env)] := by rfl) :
    IW X tg (.Call (.Name "range" p) [a] [] pos) (iRng1 (RA X [a])) Γ tI (rangeI 0 n) Γ1 := by
  refine ⟨pi_range1 hg hm paR hs, fun T _ τ σ s hl E Rr h => ?_⟩
  have ha : EA X [a] Γ [pu tI n] Γ1 := ea_cons he ea_nil (by rw [hs]; rfl)
  refine ha T τ σ s hl E _ fun vs s1 E1 l1 lv e1 => ?_
  match vs, lv with
  | [v], _ =>
    have E1' : EnvOk s1 ((σ ++ τ) ++ [some v]) ((Γ1 ++ T) ++ [pu tI n]) := E1
    have hv : v = .int n := pu_top E1'
    obtain ⟨E2, e2⟩ := E1'.pop
    have hsl : (sizeLine : Int) < 2 ^ 62 := by rw [sizeLine_eq]; decide
    refine ⟨n, by rw [hv], h0, by omega, ?_⟩
    have q1 := h (Itr 0 n.toNat) _ _ [] [] _ (by rw [rangeI_len, Int.sub_zero]; exact walk_range) (by simpa using E2) l1 rfl (e1.trans e2) (by rw [rangeI_len]; omega) (fun σ2 Γ2 ρ Ps s2 h2 E2 => trivial) (fun i x H' σ2 Γ2 ρ Ps s2 hi y h2 E2 => ?_)
    · exact q1
    · obtain ⟨rfl, rfl⟩ := y
      rw [rangeI_len] at hi
      exact ⟨_, s2, rangeI_get hi, rfl, E2.push0 _ ⟨rfl, _, rfl, rfl⟩, Evo.refl s2⟩
end
/-- the middle of the stack is dropped -/
theorem EnvOk.mid {s : Sta} {σ us ρ : St} {Γ Ts Ps : List Slot} (E : EnvOk s (σ ++ (us ++ ρ)) (Γ ++ (Ts ++ Ps))) (hl : σ.length = Γ.length) (hm : us.length = Ts.length) :
    ∃ s' : Sta, EnvOk s' (σ ++ ρ) (Γ ++ Ps) ∧ Evo s s' ∧ s'.H = s.H ∧ s'.B = s.B := by
  have key : ∀ j a, (if j < Γ.length then s.F j else s.F (j + Ts.length)) a ≠ none → ∃ i, s.F i a ≠ none ∧ i = (if j < Γ.length then j else j + Ts.length) := fun j a h => by
    by_cases q : j < Γ.length
    · rw [if_pos q] at h ⊢; exact ⟨j, h, rfl⟩
    · rw [if_neg q] at h ⊢; exact ⟨_, h, rfl⟩
  refine ⟨⟨s.B, s.H, fun j => if j < Γ.length then s.F j else s.F (j + Ts.length)⟩, ⟨E.sub, fun j a u h => ?_, fun j a h => ?_, fun j k a h1 h2 => ?_, ?_, fun j S hj => ?_, fun j hj => ?_⟩, ⟨fun _ _ h => h, fun _ _ h _ => h, fun _ h => h, fun _ h => .inl h, fun a j h => ?_⟩, rfl, rfl⟩
  · have h' : (if j < Γ.length then s.F j else s.F (j + Ts.length)) a = some u := h
    by_cases q : j < Γ.length
    · rw [if_pos q] at h'; exact E.subF _ a u h'
    · rw [if_neg q] at h'; exact E.subF _ a u h'
  · obtain ⟨i, h', _⟩ := key j a h; exact E.dis i a h'
  · obtain ⟨i, h1', e1⟩ := key j a h1
    obtain ⟨i', h2', e2⟩ := key k a h2
    have := E.disF i i' a h1' h2'
    subst this
    rw [e1] at e2
    split at e2 <;> split at e2 <;> omega
  · have := E.len; simp at this ⊢; omega
  · show S.p s.B (if j < Γ.length then s.F j else s.F (j + Ts.length)) _
    by_cases q : j < Γ.length
    · rw [if_pos q]
      rw [List.getElem?_append_left q] at hj
      have := E.sl j S (by rw [List.getElem?_append_left q]; exact hj)
      rw [List.getElem?_append_left (by omega)] at this ⊢
      exact this
    · rw [if_neg q]
      rw [List.getElem?_append_right (by omega)] at hj
      have := E.sl (j + Ts.length) S (by
        rw [List.getElem?_append_right (by omega), List.getElem?_append_right (by omega)]
        rw [show j + Ts.length - Γ.length - Ts.length = j - Γ.length by omega]; exact hj)
      rw [List.getElem?_append_right (by omega), List.getElem?_append_right (by omega)] at this
      rw [List.getElem?_append_right (by omega)]
      rw [show j + Ts.length - σ.length - us.length = j - σ.length by omega] at this
      exact this
  · show (if j < Γ.length then s.F j else s.F (j + Ts.length)) = em
    simp at hj
    rw [if_neg (by omega)]
    exact E.out _ (by simp; omega)
  · obtain ⟨i, h', _⟩ := key j a h; exact .inr ⟨i, h'⟩
/-! ## targets -/
/-- a target at a thing of type R turns the environment by f; it stores into the slots `is` alone -/
def TGT (g : TG) (R : Ty α) (is : List Nat) (n : Nat) (f : List Slot → α → List Slot) : Prop :=
  ∀ (x : α) (v : V) (σ τ : St) (T Γ : List Slot) (s : Sta), σ.length = Γ.length → Γ.length = n → EnvOk s ((σ ++ τ) ++ [some v]) ((Γ ++ T) ++ [pu R x]) → ∀ Q : St → Hp → Prop,
    (∀ σ' s', EnvOk s' (σ' ++ τ) (f Γ x ++ T) → σ'.length = σ.length → (f Γ x).length = Γ.length → wipe σ' is = wipe σ is → Evo s s' → Q σ' s'.H) → g v σ s.H Q
theorem wipe_at {σ : St} : ∀ {is : List Nat} {i : Nat}, i ∈ is → i < σ.length → (wipe σ is)[i]? = some none
  | v :: vs, i, h, hl => by
    unfold wipe
    by_cases e : v = i
    · subst e; rw [List.getElem?_set_self (by rw [wipe_length]; exact hl)]
    · rw [List.getElem?_set_ne e]
      rcases List.mem_cons.mp h with h | h
      · exact absurd h.symm e
      · exact wipe_at h hl
theorem wipe_off {σ : St} : ∀ {is : List Nat} {i : Nat}, i ∉ is → (wipe σ is)[i]? = σ[i]?
  | [], _, _ => rfl
  | v :: vs, i, h => by
    unfold wipe
    have h' := not_or.mp (fun z => h (List.mem_cons.mpr z))
    rw [List.getElem?_set_ne (Ne.symm h'.1)]
    exact wipe_off h'.2
theorem wipe_set {σ : St} {is : List Nat} {j : Nat} {o : Option V} (hj : j ∈ is) : wipe (σ.set j o) is = wipe σ is := by
  apply List.ext_getElem?
  intro i
  by_cases hi : i ∈ is
  · by_cases hl : i < σ.length
    · rw [wipe_at hi (by simpa using hl), wipe_at hi hl]
    · rw [List.getElem?_eq_none (by rw [wipe_length]; simp; omega), List.getElem?_eq_none (by rw [wipe_length]; omega)]
  · rw [wipe_off hi, wipe_off hi, List.getElem?_set_ne (fun e => hi (by rw [← e]; exact hj))]
theorem wipe_wipe {σ : St} {is : List Nat} : wipe (wipe σ is) is = wipe σ is := by
  apply List.ext_getElem?
  intro i
  by_cases hi : i ∈ is
  · by_cases hl : i < σ.length
    · rw [wipe_at hi (by rw [wipe_length]; exact hl), wipe_at hi hl]
    · rw [List.getElem?_eq_none (by rw [wipe_length, wipe_length]; omega), List.getElem?_eq_none (by rw [wipe_length]; omega)]
  · rw [wipe_off hi]
theorem tg_name {R : Ty α} {n j : Nat} (hj : j < n) : TGT (gName j) R [j] n (fun Γ x => Γ.set j (pu R x)) := by
  intro x v σ τ T Γ s hl hn E Q hQ
  obtain ⟨E2, e2⟩ := E.store (i := j) (by simp; omega)
  rw [set_app (by omega), List.set_append_left _ _ (by omega)] at E2
  have q := hQ (σ.set j (some v)) _ E2 (by simp) (by simp) (wipe_set (by simp)) e2
  exact q
/-- more slots counted as stored into -/
theorem TGT.mono {g : TG} {R : Ty α} {is js : List Nat} {n : Nat} {f : List Slot → α → List Slot} (h : TGT g R is n f) (hs : ∀ i ∈ is, i ∈ js) : TGT g R js n f := fun x v σ τ T Γ s hl hn E Q hQ =>
  h x v σ τ T Γ s hl hn E Q fun σ' s' E' l1 l2 hw e' => hQ σ' s' E' l1 l2 (by
    apply List.ext_getElem?
    intro i
    by_cases hi : i ∈ js
    · by_cases hlt : i < σ.length
      · rw [wipe_at hi (by omega), wipe_at hi hlt]
      · rw [List.getElem?_eq_none (by rw [wipe_length]; omega), List.getElem?_eq_none (by rw [wipe_length]; omega)]
    · have hi' : i ∉ is := fun z => hi (hs i z)
      have := congrArg (fun l => l[i]?) hw
      simp only [wipe_off hi'] at this
      rw [wipe_off hi, wipe_off hi, this]) e'
/-! ## forgotten slots -/
theorem uns_length : ∀ {is : List Nat} {Γ : List Slot}, (uns is Γ).length = Γ.length
  | [], _ => rfl
  | i :: r, Γ => by show (uns r (Γ.set i un)).length = _; rw [uns_length]; simp
theorem uns_un : ∀ {is : List Nat} {Γ : List Slot} {i : Nat}, i < Γ.length → (i ∈ is ∨ Γ[i]? = some un) → (uns is Γ)[i]? = some un
  | [], Γ, i, hl, h => h.elim (fun z => nomatch z) id
  | j :: r, Γ, i, hl, h => by
    show (uns r (Γ.set j un))[i]? = _
    apply uns_un (by simpa using hl)
    by_cases e : j = i
    · right; subst e; rw [List.getElem?_set_self hl]
    · rcases h with h | h
      · rcases List.mem_cons.mp h with h | h
        · exact absurd h.symm e
        · exact .inl h
      · right; rw [List.getElem?_set_ne e]; exact h
/-- the contents of forgotten slots do not matter -/
theorem EnvOk.rest {s : Sta} {σ σ' τ : St} {Γ T : List Slot} (E : EnvOk s (σ ++ τ) (Γ ++ T)) (hl : σ.length = Γ.length) (hl' : σ'.length = σ.length) (h : ∀ i, i < Γ.length → Γ[i]? = some un ∨ σ'[i]? = σ[i]?) : EnvOk s (σ' ++ τ) (Γ ++ T) where
  sub := E.sub
  subF := E.subF
  dis := E.dis
  disF := E.disF
  len := by have := E.len; simp at this ⊢; omega
  sl := fun i S hi => by
    have q := E.sl i S hi
    by_cases hlt : i < Γ.length
    · rw [List.getElem?_append_left (by omega)] at q
      rw [List.getElem?_append_left (by omega)]
      rw [List.getElem?_append_left hlt] at hi
      rcases h i hlt with e | e
      · rw [e] at hi; cases hi; exact q
      · rw [e]; exact q
    · rw [List.getElem?_append_right (by omega)] at q
      rw [List.getElem?_append_right (by omega), hl']
      exact q
  out := E.out
theorem EnvOk.wiped {s : Sta} {σ τ : St} {Γ T : List Slot} {is : List Nat} (hl : σ.length = Γ.length) (E : EnvOk s (σ ++ τ) (Γ ++ T)) : ∃ s', EnvOk s' (wipe σ is ++ τ) (uns is Γ ++ T) ∧ Evo s s' ∧ s'.H = s.H := by
  obtain ⟨s1, E1, e1, h1⟩ := (Wk.uns is (Γ := Γ)).2 T τ σ s hl E
  refine ⟨s1, E1.rest (by rw [uns_length]; exact hl) (wipe_length σ is) fun i hi => ?_, e1, h1⟩
  by_cases q : i ∈ is
  · exact .inl (uns_un (by rw [uns_length] at hi; exact hi) (.inl q))
  · exact .inr (wipe_off q)
theorem EnvOk.unwiped {s : Sta} {σ τ : St} {Γ T : List Slot} {is : List Nat} (hl : σ.length = Γ.length) (E : EnvOk s (wipe σ is ++ τ) (uns is Γ ++ T)) : EnvOk s (σ ++ τ) (uns is Γ ++ T) := by
  refine E.rest (by rw [uns_length, wipe_length]; exact hl) (by rw [wipe_length]) fun i hi => ?_
  by_cases q : i ∈ is
  · exact .inl (uns_un (by rw [uns_length] at hi; exact hi) (.inl q))
  · exact .inr (wipe_off q).symm
end Fw
namespace Fw
open PySem L2
variable [Tb]
variable {α β γ δ ε ρ κ : Type}
theorem take_succ_at {xs : List α} {i : Nat} {x : α} (h : xs[i]? = some x) : xs.take (i + 1) = xs.take i ++ [x] := by rw [List.take_add_one, h]; rfl
theorem one_write {s : Sta} {σ : St} {Γ : List Slot} {S' : Slot} {p : Addr} {ob ob' : HO} {o : Option V} {S : Slot} (E : EnvOk s (σ ++ [o]) (Γ ++ [S])) (hF : s.F Γ.length = one p ob) (h : S'.p s.B (one p ob') o) :
    ∃ s' : Sta, s'.H = upd s.H p ob' ∧ s'.B = s.B ∧ EnvOk s' (σ ++ [o]) (Γ ++ [S']) ∧ Evo s s' := by
  have hl : σ.length = Γ.length := by have := E.len; simp at this; exact this
  obtain ⟨E', e'⟩ := E.write (S' := S') (i := Γ.length) (ob := ob) (ob' := ob') (by simp) hF (by
    rw [join_get (show (σ ++ [o])[Γ.length]? = some o by rw [← hl]; simp)]
    exact h)
  rw [List.set_append_right _ _ (Nat.le_refl _)] at E'
  simp at E'
  exact ⟨⟨s.B, upd s.H p ob', fun j => if j = Γ.length then one p ob' else s.F j⟩, rfl, rfl, E', e'⟩
/-- the owned list at the top gets the thing that lies above it -/
theorem top_append {s : Sta} {σ : St} {Γ : List Slot} {R : Ty α} {xs : List α} {y : α} {D : Addr} {v : V} (E : EnvOk s ((σ ++ [some (.ref D)]) ++ [some v]) ((Γ ++ [ol R xs]) ++ [pu R y])) :
    ∃ (acc : List V) (s' : Sta), s.H D = some (.lst acc) ∧ acc.length = xs.length ∧ s'.H = upd s.H D (.lst (acc ++ [v])) ∧ EnvOk s' (σ ++ [some (.ref D)]) (Γ ++ [ol R (xs ++ [y])]) ∧ Evo s s' := by
  have hy := pu_top E
  obtain ⟨E2, e2⟩ := E.pop
  obtain ⟨p, vs, e, f, r⟩ := E2.top
  cases e
  have hD : s.H D = some (.lst vs) := by
    have := E2.subF Γ.length D (.lst vs) (by rw [f]; exact one_self)
    exact this
  obtain ⟨s', h1, h2, E3, e3⟩ := one_write (S' := ol R (xs ++ [y])) (ob' := .lst (vs ++ [v])) E2 f ⟨D, _, rfl, rfl, paired_app r (.cons hy .nil)⟩
  exact ⟨vs, s', hD, paired_len r, h1, E3, e2.trans e3⟩
section
variable {X : Cx} {elt tg iter : Expr} {ifs : List Expr} {scope : Scope} {own : List (Str × Nat)} {pos : Pos} {wi : TI} {g : TG} {Γ Γ1 : List Slot} {R : Ty α} {R' : Ty β} {xs : List α} {f : List Slot → α → List Slot}
/-- the contexts of a block -/
abbrev blkX (X : Cx) (scope : Scope) (s : Shared) (H : Hp) (C : Addr) (cl : List (Str × Addr)) (fp : List Addr) : Cx := X.blk s H scope (compEnvC scope cl C X.env) fp
/-- a test of a block, or none -/
def EIs (X : Cx) (ifs : List Expr) (Γ : List Slot) (b : Bool) : Prop := (ifs = [] ∧ b = true) ∨ ∃ c, ifs = [c] ∧ ET X c Γ b Γ
theorem is_nil {X : Cx} {Γ : List Slot} : EIs X [] Γ true := .inl ⟨rfl, rfl⟩
theorem is_one {X : Cx} {Γ : List Slot} {c : Expr} {b : Bool} (h : ET X c Γ b Γ) : EIs X [c] Γ b := .inr ⟨c, rfl, h⟩
def RI (X : Cx) (ifs : List Expr) (σ : St) (H : Hp) (Q : Bool → Hp → Prop) : Prop := ∀ (pins : List (Addr × Obj)) (s : Shared), Inv X pins σ H s →
  wpAny (model X.prog X.w) X.A (forIn ifs true fun c r => if r = true then do let ok ← isTrue c X.env (eval c X.env); pure (ForInStep.yield ok) else pure (ForInStep.yield r)) (TP X pins σ Q) X.xe s
def tIsA (X : Cx) (scope : Scope) (ifs : List Expr) : TT := fun σ H Q => ∀ s0 H0 C cl fp, RI (blkX X scope s0 H0 C cl fp) ifs σ H Q
def tElA (X : Cx) (scope : Scope) (elt : Expr) : TE := fun σ H Q => ∀ s0 H0 C cl fp, RE (blkX X scope s0 H0 C cl fp) elt σ H Q
theorem EIs.run {X : Cx} {ifs : List Expr} {Γ T : List Slot} [HasTab T] {b : Bool} {σ τ : St} {s : Sta} (h : EIs X ifs Γ b) (hl : σ.length = Γ.length) (E : EnvOk s (σ ++ τ) (Γ ++ T)) {Q : Bool → Hp → Prop}
    (hQ : ∀ s', EnvOk s' (σ ++ τ) (Γ ++ T) → Evo s s' → Q b s'.H) : RI X ifs σ s.H Q := by
  rcases h with ⟨e, e2⟩ | ⟨c, e, h⟩
  · subst e; subst e2
    exact fun pins sh I => pts_nil.run pins sh σ s.H Q I (hQ s E (Evo.refl s))
  · subst e
    exact fun pins sh I => (pts_one ptR).run pins sh σ s.H Q I (h T τ σ s hl E Q fun s' E' _ e' => hQ s' E' e')
/-- [elt for tg in iter if ..], its reading -/
theorem lc_run (iw : IW X tg iter wi Γ R xs Γ1)
    (ht : TGT g R (own.map (·.2)) Γ.length f) (p : α → Bool) (k : α → β)
    (hi' : ∀ s0 H0 C cl fp (i : Nat) (x : α), xs[i]? = some x → EIs (blkX X scope s0 H0 C cl fp) ifs (f (uns (own.map (·.2)) Γ1) x) (p x))
    (he : ∀ s0 H0 C cl fp (i : Nat) (x : α), xs[i]? = some x → p x = true → EX (blkX X scope s0 H0 C cl fp) elt (f (uns (own.map (·.2)) Γ1) x) (pu R' (k x)) (f (uns (own.map (·.2)) Γ1) x))
    (hw0 : ∀ x, uns (own.map (·.2)) (f (uns (own.map (·.2)) Γ1) x) = uns (own.map (·.2)) Γ1) {T : List Slot} [HasTab T] {τ σ : St} {s : Sta} (hl : σ.length = Γ.length) (E : EnvOk s (σ ++ τ) (Γ ++ T)) {Q : VK}
    (hQ : ∀ v s', EnvOk s' ((σ ++ τ) ++ [some v]) ((uns (own.map (·.2)) Γ1 ++ T) ++ [ol R' ((xs.filter p).map k)]) → (uns (own.map (·.2)) Γ1).length = Γ.length → Evo s s' → Q v s'.H) :
    tLc wi g (tIsA X scope ifs) (tElA X scope elt) (own.map (·.2)) σ s.H Q := by
  refine iw.run T τ σ s hl E _ fun J G Y us Ts s1 w E1 l1 lus e1 hz hG hY => ?_
  intro D hD
  generalize hvs : own.map (·.2) = vs at ht hi' he hw0 hQ ⊢
  have hw : ∀ x, Wk (f (uns vs Γ1) x) (uns vs Γ1) := fun x => by have := Wk.uns vs (Γ := f (uns vs Γ1) x); rw [hw0 x] at this; exact this
  -- the state at the start: the block's slots forgotten, the new list on the stack
  have E1' : EnvOk s1 (σ ++ (τ ++ us)) (Γ1 ++ (T ++ Ts)) := by simpa using E1
  obtain ⟨s2, E2, e2, h2⟩ := EnvOk.wiped (is := vs) (by omega) E1'
  have hD2 : s2.H D = none := by rw [h2]; exact hD
  obtain ⟨E3, e3⟩ := E2.pushO (o := some (.ref D)) (ob := .lst []) hD2 (ol R' []) ⟨D, [], rfl, rfl, .nil⟩
  have E4 : EnvOk ⟨s2.B, upd s2.H D (.lst []), fun i => if i = (uns vs Γ1 ++ (T ++ Ts)).length then one D (.lst []) else s2.F i⟩ ((wipe σ vs ++ τ) ++ (us ++ [some (.ref D)])) ((uns vs Γ1 ++ T) ++ (Ts ++ [ol R' []])) := by simpa using E3
  have lw : (wipe σ vs).length = (uns vs Γ1).length := by rw [wipe_length, uns_length]; omega
  have lt' : τ.length = T.length := by have := E.len; simp at this; omega
  refine lc_it w (fun i H => ∃ s4 : Sta, s4.H = H ∧ Evo s s4 ∧ EnvOk s4 ((wipe σ vs ++ τ) ++ (us ++ [some (.ref D)])) ((uns vs Γ1 ++ T) ++ (Ts ++ [ol R' (((xs.take i).filter p).map k)]))) ?h0 ?hG ?hs ?hd
  case h0 =>
    refine ⟨_, ?_, (e1.trans e2).trans e3, E4⟩
    show upd s2.H D (.lst []) = upd s1.H D (.lst [])
    rw [h2]
  case hG =>
    rintro i H hi ⟨s4, rfl, e4, E5⟩
    exact hG _ _ _ _ s4 (by simp; omega) E5
  case hd =>
    rintro H ⟨s4, rfl, e4, E5⟩
    rw [List.take_length] at E5
    have E6 : EnvOk s4 (wipe σ vs ++ (τ ++ us ++ [some (.ref D)])) (uns vs Γ1 ++ (T ++ Ts ++ [ol R' ((xs.filter p).map k)])) := by simpa using E5
    have E7 := EnvOk.unwiped (by omega) E6
    have E8 : EnvOk s4 ((σ ++ τ) ++ (us ++ [some (.ref D)])) ((uns vs Γ1 ++ T) ++ (Ts ++ [ol R' ((xs.filter p).map k)])) := by simpa using E7
    obtain ⟨s5, E9, e9, h9, _⟩ := E8.mid (by rw [List.length_append, List.length_append, uns_length]; omega) lus
    have q := hQ (.ref D) s5 E9 (by rw [uns_length]; exact l1) (e4.trans e9)
    rw [h9] at q
    exact q
  case hs =>
    rintro i x H H' hi ⟨s4, rfl, e4, E5⟩ y
    obtain ⟨z, s5, hz5, hH5, E6, e6⟩ := hY i x H' _ _ _ _ s4 hi y (by simp; omega) E5
    subst hH5
    have hlen : ((xs.take i).filter p).length ≤ i := Nat.le_trans (List.length_filter_le _ _) (by rw [List.length_take]; omega)
    have E7 : EnvOk s5 ((wipe σ vs ++ (τ ++ (us ++ [some (.ref D)]))) ++ [some x]) ((uns vs Γ1 ++ (T ++ (Ts ++ [ol R' (((xs.take i).filter p).map k)]))) ++ [pu R z]) := by simpa using E6
    refine ht z x (wipe σ vs) _ _ (uns vs Γ1) s5 lw (by rw [uns_length]; exact l1) E7 _ fun σ' s6 E8 l8 l8' hwp e8 => ?_
    refine ⟨by rw [hwp, wipe_wipe], fun s0 H0 C cl fp => ?_⟩
    refine (hi' s0 H0 C cl fp i z hz5).run (by omega) E8 fun s7 E9 e9 => ?_
    have back : ∀ {s : Sta} {acc : List β}, EnvOk s (σ' ++ (τ ++ (us ++ [some (.ref D)]))) (f (uns vs Γ1) z ++ (T ++ (Ts ++ [ol R' acc]))) → ∃ s', EnvOk s' ((wipe σ vs ++ τ) ++ (us ++ [some (.ref D)])) ((uns vs Γ1 ++ T) ++ (Ts ++ [ol R' acc])) ∧ Evo s s' ∧ s'.H = s.H := fun {s acc} E => by
      obtain ⟨s', E', e', h'⟩ := (hw z).2 _ _ σ' s (by omega) E
      refine ⟨s', ?_, e', h'⟩
      have E'' := E'.rest (σ' := wipe σ vs) (by rw [(hw z).1]; omega) (by omega) fun j hj => by
        by_cases q : j ∈ vs
        · exact .inl (uns_un (by rw [uns_length] at hj; exact hj) (.inl q))
        · right
          have hh := congrArg (fun l => l[j]?) hwp
          simp only [wipe_off q] at hh
          rw [wipe_off q]
          exact hh.symm
      simpa using E''
    cases hp : p z with
    | false =>
      obtain ⟨s8, E10, e10, h10⟩ := back E9
      refine iteF ⟨s8, h10, ((((e4.trans e6).trans e8).trans e9).trans e10), ?_⟩
      rw [take_succ_at hz5, List.filter_append]
      simpa [hp] using E10
    | true =>
      refine iteT fun s0 H0 C cl fp => ?_
      refine he s0 H0 C cl fp i z hz5 hp _ _ σ' s7 (by omega) E9 _ fun v s8 E10 l10 e10 => ?_
      have E11 : EnvOk s8 (((σ' ++ (τ ++ us)) ++ [some (.ref D)]) ++ [some v]) (((f (uns vs Γ1) z ++ (T ++ Ts)) ++ [ol R' (((xs.take i).filter p).map k)]) ++ [pu R' (k z)]) := by simpa using E10
      obtain ⟨acc, s9, hacc, hla, hH9, E12, e12⟩ := top_append E11
      have E13 : EnvOk s9 (σ' ++ (τ ++ (us ++ [some (.ref D)]))) (f (uns vs Γ1) z ++ (T ++ (Ts ++ [ol R' (((xs.take i).filter p).map k ++ [k z])]))) := by simpa using E12
      obtain ⟨s10, E14, e14, h14⟩ := back E13
      refine ⟨acc, hacc, by rw [hla, List.length_map]; omega, s10, by rw [h14, hH9], ((((((e4.trans e6).trans e8).trans e9).trans e10).trans e12).trans e14), ?_⟩
      rw [take_succ_at hz5, List.filter_append]
      simpa [hp] using E14
theorem ptsA {s : Shared} {H : Hp} {C : Addr} {cl : List (Str × Addr)} {fp : List Addr} : PTs (X.blk s H scope (compEnvC scope cl C X.env) fp) ifs (tIsA X scope ifs) := ⟨fun pins sh σ' H' Q' I q => q s H C cl fp pins sh I⟩
theorem peA {s : Shared} {H : Hp} {C : Addr} {cl : List (Str × Addr)} {fp : List Addr} : PE (X.blk s H scope (compEnvC scope cl C X.env) fp) elt (tElA X scope elt) := ⟨fun pins sh σ' H' Q' I q => q s H C cl fp pins sh I⟩
/-- as a value -/
theorem x_lc (hc : X.calm = true) (hN : X.N.Nodup) (iw : IW X tg iter wi Γ R xs Γ1) (ok : BlkOk X.N X.env.scope scope own)
    (hg : ∀ (s : Shared) (H : Hp) (C : Addr) (cl : List (Str × Addr)) (fp : List Addr), PG (X.blk s H scope (compEnvC scope cl C X.env) fp) tg g)
    (ht : TGT g R (own.map (·.2)) Γ.length f) (p : α → Bool) (k : α → β)
    (hi' : ∀ s0 H0 C cl fp (i : Nat) (x : α), xs[i]? = some x → EIs (blkX X scope s0 H0 C cl fp) ifs (f (uns (own.map (·.2)) Γ1) x) (p x))
    (he : ∀ s0 H0 C cl fp (i : Nat) (x : α), xs[i]? = some x → p x = true → EX (blkX X scope s0 H0 C cl fp) elt (f (uns (own.map (·.2)) Γ1) x) (pu R' (k x)) (f (uns (own.map (·.2)) Γ1) x))
    (hw0 : ∀ x, uns (own.map (·.2)) (f (uns (own.map (·.2)) Γ1) x) = uns (own.map (·.2)) Γ1 := by intro _; rfl)
    (hs : ∀ x, foldedSetIterable iter X.env x = pure x := by intro _; rfl) : EX X (.ListComp elt [⟨tg, iter, ifs, 0⟩] scope pos) Γ (ol R' ((xs.filter p).map k)) (uns (own.map (·.2)) Γ1) := by
  (first | refine ⟨?_⟩ | skip); intro T _ τ σ s hl E Q hQ
  exact re_of (pe_lc hc hN iw.pi ok hg (fun _ _ _ _ _ => ptsA) (fun _ _ _ _ _ => peA) hs) (lc_run iw ht p k hi' he hw0 hl E hQ)
/-- name = [..] -/
theorem s1_setLc {i : Nat} {y : Str} {py spos : Pos} (hc : X.calm = true) (hN : X.N.Nodup) (hy : X.N[i]? = some y) (hyl : X.env.scope.names.lookup y = some .local)
    (hsw : swapsWith (.ListComp elt [⟨tg, iter, ifs, 0⟩] scope pos) (some (.Name y py)) spos.line X.env = pure true) (hG : i < Γ.length) (iw : IW X tg iter wi Γ R xs Γ1) (ok : BlkOk X.N X.env.scope scope own)
    (hg : ∀ (s : Shared) (H : Hp) (C : Addr) (cl : List (Str × Addr)) (fp : List Addr), PG (X.blk s H scope (compEnvC scope cl C X.env) fp) tg g)
    (ht : TGT g R (own.map (·.2)) Γ.length f) (p : α → Bool) (k : α → β)
    (hi' : ∀ s0 H0 C cl fp (i : Nat) (x : α), xs[i]? = some x → EIs (blkX X scope s0 H0 C cl fp) ifs (f (uns (own.map (·.2)) Γ1) x) (p x))
    (he : ∀ s0 H0 C cl fp (i : Nat) (x : α), xs[i]? = some x → p x = true → EX (blkX X scope s0 H0 C cl fp) elt (f (uns (own.map (·.2)) Γ1) x) (pu R' (k x)) (f (uns (own.map (·.2)) Γ1) x))
    (hw0 : ∀ x, uns (own.map (·.2)) (f (uns (own.map (·.2)) Γ1) x) = uns (own.map (·.2)) Γ1 := by intro _; rfl)
    (hs : ∀ x, foldedSetIterable iter X.env x = pure x := by intro _; rfl) : S1 X (.Assign [.Name y py] (.ListComp elt [⟨tg, iter, ifs, 0⟩] scope pos) spos) Γ (fun r => r = .nx ((uns (own.map (·.2)) Γ1).set i (ol R' ((xs.filter p).map k)))) := by
  (first | refine ⟨?_⟩ | skip); intro T _ τ σ s hl E D hD
  refine rs_of (ps_setLc hc hN hy hyl hsw iw.pi ok hg (fun _ _ _ _ _ => ptsA) (fun _ _ _ _ _ => peA) hs) (lc_run (Q := fun x H1 => gName i x σ H1 D.nx) iw ht p k hi' he hw0 hl E fun v s1 E1 l1 e1 => ?_)
  have hG1 : i < (uns (own.map (·.2)) Γ1).length := by omega
  obtain ⟨E2, e2⟩ := E1.store (i := i) (by simp; omega)
  rw [set_app hG1, List.set_append_left _ _ (by omega)] at E2
  have q := hD _ rfl (σ.set i (some v)) _ (by simp; omega) E2 (e1.trans e2)
  exact q
end
/-! ## for -/
inductive Lp (σ ρ : Type) where
  | go (s : σ) | brk (s : σ) | ret (r : ρ)
/-- a loop that may be left -/
def runL (step : κ → α → Lp κ ρ) : κ → List α → Sum κ ρ
  | s, [] => .inl s
  | s, x :: r => match step s x with
    | .go s' => runL step s' r
    | .brk s' => .inl s'
    | .ret q => .inr q
/-- its state ahead of the rest, if it has not been left -/
def goL (step : κ → α → Lp κ ρ) : κ → List α → Option κ
  | s, [] => some s
  | s, x :: r => match step s x with
    | .go s' => goL step s' r
    | _ => none
theorem runL_app (step : κ → α → Lp κ ρ) : ∀ (xs ys : List α) (s s' : κ), goL step s xs = some s' → runL step s (xs ++ ys) = runL step s' ys
  | [], _, s, s', h => by simp [goL] at h; subst h; rfl
  | x :: r, ys, s, s', h => by
    simp only [goL] at h
    simp only [List.cons_append, runL]
    cases e : step s x with
    | go t => rw [e] at h; exact runL_app step r ys t s' h
    | brk t => rw [e] at h; cases h
    | ret t => rw [e] at h; cases h
theorem goL_app (step : κ → α → Lp κ ρ) : ∀ (xs : List α) (s s' : κ) (x : α) (t : κ), goL step s xs = some s' → step s' x = .go t → goL step s (xs ++ [x]) = some t
  | [], s, s', x, t, h, q => by simp [goL] at h; subst h; simp [goL, q]
  | y :: r, s, s', x, t, h, q => by
    simp only [goL, List.cons_append] at h ⊢
    cases e : step s y with
    | go u => rw [e] at h; exact goL_app step r u s' x t h q
    | brk u => rw [e] at h; cases h
    | ret u => rw [e] at h; cases h
section
variable {X : Cx} {tg iter : Expr} {body : List Stmt} {pos : Pos} {wi : TI} {g : TG} {Γ Γ1 : List Slot} {R : Ty α} {xs : List α} {f : List Slot → α → List Slot} {is : List Nat}
/-- a turn of a loop: from the invariant's environment G s with the item to that of the next state, or out -/
def Turn1 (G : κ → List Slot) (Pr : ρ → Res → Prop) (o : Lp κ ρ) (r : Res) : Prop := match o with
  | .go s => ∃ Γ', (r = .nx Γ' ∨ r = .ct Γ') ∧ Wk Γ' (G s)
  | .brk s => ∃ Γ', r = .bk Γ' ∧ Wk Γ' (G s)
  | .ret q => Pr q r ∧ ∃ Γ' S, r = .rt Γ' S
/-- for tg in iter: body. step: what a turn does; G: the environment between turns, by the state -/
theorem s1_for (hp : PassesOwn (model X.prog X.w) X.A X.env X.xe) (hc : X.calm = true) (iw : IW X tg iter wi Γ R xs Γ1) (hg : PG X tg g) (ht : TGT g R is Γ.length f)
    (G : κ → List Slot) (step : κ → α → Lp κ ρ) (Pr : ρ → Res → Prop) (s0 : κ) (hlen : ∀ s, (G s).length = Γ.length) (h0 : Wk Γ1 (G s0))
    (hb : ∀ (i : Nat) (x : α) (s : κ), xs[i]? = some x → goL step s0 (xs.take i) = some s → xs.length ≤ sizeLine → SX X body (f (G s) x) (Turn1 G Pr (step s x)))
    (hs : ∀ x, foldedSetIterable iter X.env x = pure x := by intro _; rfl) :
    S1 X (.For tg iter body [] pos) Γ (fun r => match runL step s0 xs with
      | .inl s => r = .nx (G s)
      | .inr q => Pr q r ∧ ∃ Γ' S, r = .rt Γ' S) := by
  (first | refine ⟨?_⟩ | skip); intro T _ τ σ s hl E D hD
  refine rs_of (ps_for hp hc iw.pi hg pssR hs) ?_
  refine iw.run T τ σ s hl E _ fun J Gh Y us Ts s1 w E1 l1 lus e1 hz hG hY => ?_
  have E1' : EnvOk s1 (σ ++ (τ ++ us)) (Γ1 ++ (T ++ Ts)) := by simpa using E1
  obtain ⟨s2, E2, e2, h2⟩ := h0.2 _ _ σ s1 (by omega) E1'
  have lt' : τ.length = T.length := by have := E.len; simp at this; omega
  -- out of the loop: the walked thing is dropped
  have out : ∀ {σ' : St} {s' : Sta} {t : κ}, σ'.length = (G t).length → EnvOk s' (σ' ++ (τ ++ us)) (G t ++ (T ++ Ts)) → Evo s s' → (match runL step s0 xs with
      | .inl s => Res.nx (G t) = .nx (G s)
      | .inr q => False) → D.nx σ' s'.H := fun {σ' s' t} hl' E' e' hm => by
    have E'' : EnvOk s' ((σ' ++ τ) ++ (us ++ [])) ((G t ++ T) ++ (Ts ++ [])) := by simpa using E'
    obtain ⟨s'', E3, e3, h3, _⟩ := E''.mid (by simp; omega) lus
    simp only [List.append_nil] at E3
    have q := hD (.nx (G t)) (by
      cases hr : runL step s0 xs with
      | inl u => rw [hr] at hm; exact hm
      | inr u => rw [hr] at hm; exact hm.elim) σ' s'' hl' E3 (e'.trans e3)
    rw [h3] at q
    exact q
  refine for_it w (fun i σ' H => ∃ (t : κ) (s4 : Sta), goL step s0 (xs.take i) = some t ∧ s4.H = H ∧ Evo s s4 ∧ σ'.length = (G t).length ∧ EnvOk s4 (σ' ++ (τ ++ us)) (G t ++ (T ++ Ts))) ?h0 ?hG ?hs ?hd
  case h0 => exact ⟨s0, s2, rfl, h2, e1.trans e2, by rw [hlen]; exact hl, E2⟩
  case hG =>
    rintro i σ' H hi ⟨t, s4, ht4, rfl, e4, l4, E4⟩
    have E5 : EnvOk s4 ((σ' ++ τ) ++ (us ++ [])) ((G t ++ T) ++ (Ts ++ [])) := by simpa using E4
    exact hG _ _ _ _ s4 (by simp; omega) E5
  case hd =>
    rintro σ' H ⟨t, s4, ht4, rfl, e4, l4, E4⟩
    rw [List.take_length] at ht4
    refine out l4 E4 e4 ?_
    have := runL_app step xs [] s0 t ht4
    rw [List.append_nil] at this
    rw [this]
    rfl
  case hs =>
    rintro i x σ' H H' hi ⟨t, s4, ht4, rfl, e4, l4, E4⟩ y
    have E5 : EnvOk s4 ((σ' ++ τ) ++ (us ++ [])) ((G t ++ T) ++ (Ts ++ [])) := by simpa using E4
    obtain ⟨z, s5, hz5, rfl, E6, e6⟩ := hY i x H' _ _ _ _ s4 hi y (by simp; omega) E5
    have E7 : EnvOk s5 ((σ' ++ (τ ++ us)) ++ [some x]) ((G t ++ (T ++ Ts)) ++ [pu R z]) := by simpa using E6
    refine ht z x σ' _ _ (G t) s5 l4 (hlen t) E7 _ fun σ2 s6 E8 l8 l8' _ e8 => ?_
    have hrun : runL step s0 xs = runL step t (z :: xs.drop (i + 1)) := by
      have hx : xs = xs.take i ++ (z :: xs.drop (i + 1)) := by
        have hlt := (List.getElem?_eq_some_iff.mp hz5).1
        have hzz := (List.getElem?_eq_some_iff.mp hz5).2
        rw [← hzz, List.getElem_cons_drop, List.take_append_drop]
      conv => lhs; rw [hx]
      exact runL_app step _ _ s0 t ht4
    refine hb i z t hz5 ht4 hz (T ++ Ts) (τ ++ us) σ2 s6 (by omega) E8 _ fun r hr => ?_
    have ee := ((e4.trans e6).trans e8)
    cases hst : step t z with
    | go t' =>
      rw [hst] at hr
      obtain ⟨Γ', hr, wk⟩ := hr
      have fin : ∀ (σ3 : St) (s7 : Sta), σ3.length = Γ'.length → EnvOk s7 (σ3 ++ (τ ++ us)) (Γ' ++ (T ++ Ts)) → Evo s6 s7 → ∃ (t : κ) (s4 : Sta), goL step s0 (xs.take (i + 1)) = some t ∧ s4.H = s7.H ∧ Evo s s4 ∧ σ3.length = (G t).length ∧ EnvOk s4 (σ3 ++ (τ ++ us)) (G t ++ (T ++ Ts)) := fun σ3 s7 l7 E9 e9 => by
        obtain ⟨s8, E10, e10, h10⟩ := wk.2 _ _ σ3 s7 l7 E9
        exact ⟨t', s8, by rw [take_succ_at hz5]; exact goL_app step _ s0 t z t' ht4 hst, h10, (ee.trans e9).trans e10, by rw [wk.1]; exact l7, E10⟩
      rcases hr with rfl | rfl
      · exact fin
      · exact fin
    | brk t' =>
      rw [hst] at hr
      obtain ⟨Γ', rfl, wk⟩ := hr
      intro σ3 s7 l7 E9 e9
      obtain ⟨s8, E10, e10, h10⟩ := wk.2 _ _ σ3 s7 l7 E9
      have q := out (t := t') (by rw [wk.1]; exact l7) E10 ((ee.trans e9).trans e10) (by
        rw [hrun]; simp only [runL, hst])
      rw [h10] at q
      exact q
    | ret q =>
      rw [hst] at hr
      obtain ⟨hpr, Γ', S, rfl⟩ := hr
      intro σ3 v s7 l7 E9 e9
      have E10 : EnvOk s7 ((σ3 ++ τ) ++ (us ++ [some v])) ((Γ' ++ T) ++ (Ts ++ [S])) := by simpa using E9
      obtain ⟨s8, E11, e11, h11, _⟩ := E10.mid (by simp; omega) lus
      have q' := hD (.rt Γ' S) (by
        rw [hrun]
        simp only [runL, hst]
        exact ⟨hpr, _, _, rfl⟩) σ3 v s8 l7 E11 ((ee.trans e9).trans e11)
      rw [h11] at q'
      exact q'
end
end Fw
namespace Fw
open PySem L2
variable [Tb]
variable {α β γ δ ε ρ κ : Type}
/-! ## while -/
/-! ## the loops that only go on -/
section
variable {X : Cx} {tg iter c : Expr} {body sts : List Stmt} {pos : Pos} {wi : TI} {g : TG} {Γ Γ1 : List Slot} {R : Ty α} {xs : List α} {f : List Slot → α → List Slot} {is : List Nat} {P : Res → Prop}
theorem runL_go (st : κ → α → κ) : ∀ (xs : List α) (s : κ), runL (ρ := Empty) (fun s x => .go (st s x)) s xs = .inl (xs.foldl st s)
  | [], _ => rfl
  | x :: r, s => runL_go st r (st s x)
theorem goL_go (st : κ → α → κ) : ∀ (xs : List α) (s : κ), goL (ρ := Empty) (fun s x => .go (st s x)) s xs = some (xs.foldl st s)
  | [], _ => rfl
  | x :: r, s => goL_go st r (st s x)
/-- a for that always goes on, then the rest -/
theorem sx_for (hp : PassesOwn (model X.prog X.w) X.A X.env X.xe) (hc : X.calm = true) (iw : IW X tg iter wi Γ R xs Γ1) (hg : PG X tg g) (ht : TGT g R is Γ.length f)
    (G : κ → List Slot) (step : κ → α → κ) (s0 : κ) (hlen : ∀ s, (G s).length = Γ.length) (h0 : Wk Γ1 (G s0))
    (hb : ∀ (i : Nat) (x : α), xs[i]? = some x → xs.length ≤ sizeLine → SX X body (f (G ((xs.take i).foldl step s0)) x) (fun r => ∃ Γ', (r = .nx Γ' ∨ r = .ct Γ') ∧ Wk Γ' (G (step ((xs.take i).foldl step s0) x))))
    (h : SX X sts (G (xs.foldl step s0)) P) (hs : ∀ x, foldedSetIterable iter X.env x = pure x := by intro _; rfl) : SX X (.For tg iter body [] pos :: sts) Γ P := by
  have q := s1_for (pos := pos) (ρ := Empty) hp hc iw hg ht G (fun s x => .go (step s x)) (fun _ _ => False) s0 hlen h0 (fun i x s hx hgo hz => by
    rw [goL_go] at hgo
    cases hgo
    exact hb i x hx hz) hs
  rw [runL_go] at q
  exact sx_seq q h
/-- a for that may return, then the rest -/
theorem sx_forR {S : ρ → Slot} (hp : PassesOwn (model X.prog X.w) X.A X.env X.xe) (hc : X.calm = true) (iw : IW X tg iter wi Γ R xs Γ1) (hg : PG X tg g) (ht : TGT g R is Γ.length f)
    (G : κ → List Slot) (step : κ → α → Lp κ ρ) (Pr : ρ → Res → Prop) (s0 : κ) (hlen : ∀ s, (G s).length = Γ.length) (h0 : Wk Γ1 (G s0))
    (hb : ∀ (i : Nat) (x : α) (s : κ), xs[i]? = some x → goL step s0 (xs.take i) = some s → xs.length ≤ sizeLine → SX X body (f (G s) x) (Turn1 G Pr (step s x)))
    (h1 : ∀ s, runL step s0 xs = .inl s → SX X sts (G s) P) (h2 : ∀ q, runL step s0 xs = .inr q → ∀ r, Pr q r → P r)
    (hs : ∀ x, foldedSetIterable iter X.env x = pure x := by intro _; rfl) : SX X (.For tg iter body [] pos :: sts) Γ P := by
  refine sx_cons (s1_for hp hc iw hg ht G step Pr s0 hlen h0 hb hs) (fun Γ' q => ?_) fun r q n => ?_
  · cases e : runL step s0 xs with
    | inl s => rw [e] at q; cases q; exact h1 s e
    | inr u => rw [e] at q; obtain ⟨_, _, _, z⟩ := q; cases z
  · cases e : runL step s0 xs with
    | inl s => rw [e] at q; subst q; exact absurd trivial n
    | inr u => rw [e] at q; exact h2 u e r q.1
end
/-! ## methods of owned lists -/
section
variable {X : Cx} {e : Expr} {x : Str} {px apos cpos pos : Pos} {Γ Γ1 : List Slot} {R : Ty α} {xs ys : List α} {y : α}
/-- x.append(e), x an owned list in the slot i -/
theorem s1_app {i : Nat} (hi : Γ[i]? = some (ol R xs)) (he : EX X e Γ (pu R y) Γ1) (hi1 : Γ1[i]? = some (ol R ys)) (hz : ys.length < sizeLine) (hN : X.N[i]? = some x := by rfl) (hv : Vis X.env.scope x := by first | exact Or.inl rfl | exact Or.inr (Or.inl rfl) | exact Or.inr (Or.inr rfl))
    (hd : (x == ("__debug__" : Str)) = false := by decide) (hcd : (x == ("__classdict__" : Str)) = false := by decide)
    (hbase : attributeBase (.Name x px) "append" X.env (eval (.Name x px) X.env) = eval (.Name x px) X.env := by rfl)
    (hfew : ((backTo cpos (starEach (e :: []) X.env)).all (fun x => !x.1) && (backToKw cpos (keywordEach [] X.env)).all (fun x => x.1.isSome)
      && decide ((e :: []).length + ([] : List Keyword).length + (if ([] : List Keyword).isEmpty then 0 else 1) < 30)) = true := by rfl)
    (hline : (apos.endLine == cpos.line) = true := by rfl) (hs : starEach (e :: []) X.env = (false, eval e X.env) :: starEach [] X.env := by rfl) (hplain : (backTo cpos (starEach [] X.env)).any (·.1) = false := by rfl)
    (hsw : swapsWith (.Call (.Attribute (.Name x px) "append" apos) [e] [] cpos) none pos.line X.env = pure false := by rfl) :
    S1 X (.Expr (.Call (.Attribute (.Name x px) "append" apos) [e] [] cpos) pos) Γ (fun r => r = .nx (Γ1.set i (ol R (ys ++ [y])))) := by
  (first | refine ⟨?_⟩ | skip); intro T _ τ σ s hl E D hD
  refine rs_of (ps_expr (pe_bm PySem.F.plainAttrs_list PySem.F.slot_list_append PySem.F.type_list_append mt_append (pe_var hN hv hd hcd) (pa_cons peR pa_nil hs) hbase hfew hline hs hplain) hsw) ?_
  have hlt := (List.getElem?_eq_some_iff.mp hi).1
  obtain ⟨p, vs, e0, f0, r0⟩ := E.sl i _ (by rw [List.getElem?_append_left hlt]; exact hi)
  rw [List.getElem?_append_left (by omega)] at e0
  have hσ : σ[i]? = some (some (.ref p)) := by
    rw [List.getElem?_eq_getElem (by omega)] at e0 ⊢
    exact congrArg some e0
  have hp : s.H p = some (.lst vs) := E.subF i p _ (by rw [f0]; exact one_self)
  refine ⟨.ref p, hσ, .inl ⟨rfl, vs, SqL.of hp⟩, ?_⟩
  refine he T τ σ s hl E _ fun v s1 E1 l1 e1 => ?_
  have hlt1 := (List.getElem?_eq_some_iff.mp hi1).1
  have hy := pu_top E1
  obtain ⟨E2, e2⟩ := E1.pop
  obtain ⟨p', us, e3, f3, r3⟩ := E2.sl i _ (by rw [List.getElem?_append_left hlt1]; exact hi1)
  rw [List.getElem?_append_left (by omega), hσ] at e3
  cases e3
  have hp3 : s1.H p = some (.lst us) := E2.subF i p _ (by rw [f3]; exact one_self)
  have hσ2 : (σ ++ τ)[i]?.join = some (.ref p) := by rw [List.getElem?_append_left (by omega), hσ]; rfl
  obtain ⟨E4, e4⟩ := E2.write (S' := ol R (ys ++ [y])) (i := i) (ob := .lst us) (ob' := .lst (us ++ [v])) (by simp; omega) f3 (by
    rw [hσ2]
    exact ⟨p, _, rfl, rfl, paired_app r3 (.cons hy .nil)⟩)
  rw [set_app hlt1] at E4
  refine ⟨p, us, v, rfl, rfl, hp3, by rw [paired_len r3]; exact hz, ?_⟩
  have q := hD _ rfl σ _ (by simp; omega) E4 ((e1.trans e2).trans e4)
  exact q
end
/-- the environment in another order -/
theorem EnvOk.re {s : Sta} {σ σ' : St} {Γ Γ' : List Slot} (E : EnvOk s σ Γ) (π : Nat → Nat) (hl : σ'.length = Γ'.length) (hinj : ∀ i j, π i = π j → i = j)
    (h : ∀ i S, Γ'[i]? = some S → Γ[π i]? = some S ∧ σ'[i]?.join = σ[π i]?.join) (ho : ∀ i, Γ'.length ≤ i → Γ.length ≤ π i) :
    ∃ s' : Sta, s'.H = s.H ∧ EnvOk s' σ' Γ' ∧ Evo s s' :=
  ⟨⟨s.B, s.H, fun i => s.F (π i)⟩, rfl, ⟨E.sub, fun i => E.subF _, fun i a q => E.dis _ a q, fun i j a h1 h2 => hinj _ _ (E.disF _ _ a h1 h2), hl, fun i S q => by
    obtain ⟨h1, h2⟩ := h i S q
    rw [h2]
    exact E.sl _ S h1, fun i q => E.out _ (ho i q)⟩, ⟨fun _ _ h => h, fun _ _ h _ => h, fun _ h => h, fun _ h => .inl h, fun a i q => .inr ⟨_, q⟩⟩⟩
def rotN (n m i : Nat) : Nat := if i < n then i else if i = n then n + m else if i ≤ n + m then i - 1 else i
theorem rotN_inj {n m i j : Nat} (h : rotN n m i = rotN n m j) : i = j := by
  unfold rotN at h
  repeat' split at h
  all_goals omega
theorem rotN_out {n m i : Nat} (h : n + m + 1 ≤ i) : n + m + 1 ≤ rotN n m i := by
  unfold rotN
  repeat' split
  all_goals omega
/-- the top goes ahead of the m below it -/
theorem EnvOk.rot {s : Sta} {σ us : St} {Γ Ss : List Slot} {o : Option V} {S : Slot} (E : EnvOk s (σ ++ (us ++ [o])) (Γ ++ (Ss ++ [S]))) (hl : σ.length = Γ.length) :
    ∃ s' : Sta, s'.H = s.H ∧ EnvOk s' (σ ++ ([o] ++ us)) (Γ ++ ([S] ++ Ss)) ∧ Evo s s' := by
  have lv : us.length = Ss.length := by have := E.len; simp at this; omega
  refine E.re (rotN Γ.length Ss.length) (by simp; omega) (fun i j h => rotN_inj h) (fun i S2 h => ?_) (fun i h => by simp at h ⊢; have := rotN_out (n := Γ.length) (m := Ss.length) (i := i) (by omega); omega)
  unfold rotN
  by_cases q : i < Γ.length
  · rw [if_pos q]
    rw [List.getElem?_append_left q] at h ⊢
    exact ⟨h, by rw [List.getElem?_append_left (by omega), List.getElem?_append_left (by omega)]⟩
  · rw [if_neg q]
    by_cases q2 : i = Γ.length
    · subst q2
      rw [if_pos rfl]
      have : (Γ ++ ([S] ++ Ss))[Γ.length]? = some S := by simp
      rw [this] at h; cases h
      refine ⟨by rw [← List.append_assoc, ← List.length_append]; simp, ?_⟩
      have h1 : (σ ++ ([o] ++ us))[Γ.length]? = some o := by rw [← hl]; simp
      have h2 : (σ ++ (us ++ [o]))[Γ.length + Ss.length]? = some o := by rw [← List.append_assoc, ← hl, ← lv, ← List.length_append]; simp
      rw [h1, h2]
    · rw [if_neg q2]
      obtain ⟨k, rfl⟩ : ∃ k, i = Γ.length + 1 + k := ⟨i - Γ.length - 1, by omega⟩
      have hk : Ss[k]? = some S2 := by
        rw [List.getElem?_append_right (by omega), show Γ.length + 1 + k - Γ.length = k + 1 by omega] at h
        simpa using h
      have hk2 := (List.getElem?_eq_some_iff.mp hk).1
      rw [if_pos (by omega), show Γ.length + 1 + k - 1 = Γ.length + k by omega]
      refine ⟨by rw [List.getElem?_append_right (by omega), show Γ.length + k - Γ.length = k by omega, List.getElem?_append_left hk2]; exact hk, ?_⟩
      have e1 : (σ ++ ([o] ++ us))[Γ.length + 1 + k]? = us[k]? := by
        rw [List.getElem?_append_right (by omega), show Γ.length + 1 + k - σ.length = k + 1 by omega]; rfl
      have e2 : (σ ++ (us ++ [o]))[Γ.length + k]? = us[k]? := by
        rw [List.getElem?_append_right (by omega), show Γ.length + k - σ.length = k by omega, List.getElem?_append_left (by omega)]
      rw [e1, e2]
/-! ## a def's promise -/
/-- from pure or owned arguments G x to the result S x; owned arguments are used up -/
def spP {A : Type} (pre : A → Prop) (G : A → List Slot) (S : A → Slot) : Sp := fun vs H Q _ => ∃ (x : A) (s : Sta), s.H = H ∧ pre x ∧ EnvOk s (vs.map some ++ [none]) (G x ++ [tabS]) ∧ ∀ v s', EnvOk s' ([some v] ++ [none]) ([S x] ++ [tabS]) → Evo s s' → Q v s'.H
section
variable {A : Type} {pre : A → Prop} {G : A → List Slot} {S : A → Slot}
/-- the values on top are handed on; what comes back takes their place -/
theorem hand0 {s : Sta} {σ us : St} {Γ Ss : List Slot} (hl : σ.length = Γ.length) (E : EnvOk s (σ ++ us) (Γ ++ Ss)) (hn : ∀ i a xs, s.F i a ≠ some (.tup xs)) :
    ∃ sc : Sta, sc.H = s.H ∧ EnvOk sc us Ss ∧ ∀ (rs : St) (Rs : List Slot) (s' : Sta), EnvOk s' rs Rs → Evo sc s' → ∃ s'' : Sta, s''.H = s'.H ∧ EnvOk s'' (σ ++ rs) (Γ ++ Rs) ∧ Evo s s'' := by
  have lv : us.length = Ss.length := by have := E.len; simp at this; omega
  refine ⟨⟨s.B, s.H, fun j => s.F (Γ.length + j)⟩, rfl, ⟨E.sub, fun j => E.subF _, fun j a h => E.dis _ a h, fun j k a h1 h2 => by have := E.disF _ _ a h1 h2; omega, lv, fun j S2 hj => ?_, fun j hj => E.out _ (by simp; omega)⟩, fun rs Rs s' E' e' => ?_⟩
  · have := E.sl (Γ.length + j) S2 (by rw [List.getElem?_append_right (by omega)]; simpa using hj)
    rw [List.getElem?_append_right (by omega)] at this
    rw [show Γ.length + j - σ.length = j by omega] at this
    exact this
  · have fresh : ∀ a, s'.B a ≠ none → s.B a ≠ none ∨ s.H a = none ∨ (∃ j, s.F (Γ.length + j) a ≠ none) ∨ ∃ xs, s.H a = some (.tup xs) := e'.nb
    have freshF : ∀ a i, s'.F i a ≠ none → s.H a = none ∨ ∃ j, s.F (Γ.length + j) a ≠ none := e'.nf
    have keep : ∀ i a u, i < Γ.length → s.F i a = some u → s'.H a = some u := fun i a u hi h => e'.fr a u (E.subF i a u h) fun j => by
      cases q : s.F (Γ.length + j) a with
      | none => rfl
      | some w => have := E.disF i (Γ.length + j) a (by rw [h]; simp) (by rw [q]; simp); omega
    have F' : ∀ i a, (if i < Γ.length then s.F i else s'.F (i - Γ.length)) a ≠ none → (i < Γ.length ∧ s.F i a ≠ none) ∨ (Γ.length ≤ i ∧ s'.F (i - Γ.length) a ≠ none) := fun i a h => by
      by_cases q : i < Γ.length
      · rw [if_pos q] at h; exact .inl ⟨q, h⟩
      · rw [if_neg q] at h; exact .inr ⟨by omega, h⟩
    have notin : ∀ i a, i < Γ.length → s.F i a ≠ none → ¬ (s.H a = none ∨ ∃ j, s.F (Γ.length + j) a ≠ none) := fun i a hi h z => by
      rcases z with z | ⟨j, z⟩
      · obtain ⟨u, hu⟩ := ex_of_ne h
        rw [E.subF i a u hu] at z; cases z
      · have := E.disF i (Γ.length + j) a h z; omega
    refine ⟨⟨s'.B, s'.H, fun i => if i < Γ.length then s.F i else s'.F (i - Γ.length)⟩, rfl, ⟨E'.sub, fun i a u h => ?_, fun i a h => ?_, fun i k a h1 h2 => ?_, by simp [hl, E'.len], fun i S2 h2 => ?_, fun i hi => ?_⟩, ⟨e'.b, fun a o h n => e'.fr a o h fun j => n _, e'.dom, fun a h => ?_, fun a i h => ?_⟩⟩
    · have h' : (if i < Γ.length then s.F i else s'.F (i - Γ.length)) a = some u := h
      rcases F' i a (by rw [h']; simp) with ⟨q, _⟩ | ⟨q, _⟩
      · rw [if_pos q] at h'; exact keep i a u q h'
      · rw [if_neg (by omega)] at h'; exact E'.subF _ a u h'
    · rcases F' i a h with ⟨q, z⟩ | ⟨q, z⟩
      · show s'.B a = none
        cases e : s'.B a with
        | none => rfl
        | some w =>
          exfalso
          rcases fresh a (by rw [e]; simp) with y | y | y | ⟨xs, y⟩
          · exact y (E.dis i a z)
          · exact notin i a q z (.inl y)
          · exact notin i a q z (.inr y)
          · obtain ⟨u, hu⟩ := ex_of_ne z
            rw [E.subF i a u hu] at y
            cases y
            exact hn i a xs hu
      · exact E'.dis _ a z
    · rcases F' i a h1 with ⟨q, z⟩ | ⟨q, z⟩
      · rcases F' k a h2 with ⟨q', z'⟩ | ⟨q', z'⟩
        · exact E.disF i k a z z'
        · exact absurd (freshF a _ z') (notin i a q z)
      · rcases F' k a h2 with ⟨q', z'⟩ | ⟨q', z'⟩
        · exact absurd (freshF a _ z) (notin k a q' z')
        · have := E'.disF _ _ a z z'; omega
    · show S2.p s'.B (if i < Γ.length then s.F i else s'.F (i - Γ.length)) _
      by_cases q : i < Γ.length
      · rw [if_pos q]
        rw [List.getElem?_append_left q] at h2
        rw [List.getElem?_append_left (by omega)]
        have := E.sl i S2 (by rw [List.getElem?_append_left q]; exact h2)
        rw [List.getElem?_append_left (by omega)] at this
        exact S2.mono e'.b this
      · rw [if_neg q]
        rw [List.getElem?_append_right (by omega)] at h2
        rw [List.getElem?_append_right (by omega), hl]
        exact E'.sl _ S2 h2
    · show (if i < Γ.length then s.F i else s'.F (i - Γ.length)) = em
      simp at hi
      rw [if_neg (by omega)]
      exact E'.out _ (by omega)
    · rcases fresh a h with z | z | ⟨j, z⟩ | z
      · exact .inl z
      · exact .inr (.inl z)
      · exact .inr (.inr (.inl ⟨_, z⟩))
      · exact .inr (.inr (.inr z))
    · rcases F' i a h with ⟨q, z⟩ | ⟨q, z⟩
      · exact .inr ⟨i, z⟩
      · rcases freshF a _ z with y | ⟨j, y⟩
        · exact .inl y
        · exact .inr ⟨_, y⟩
theorem hand {s : Sta} {σ us : St} {Γ Ss : List Slot} (hl : σ.length = Γ.length) (E : EnvOk s (σ ++ us) (Γ ++ Ss)) :
    ∃ sc : Sta, sc.H = s.H ∧ EnvOk sc us Ss ∧ ∀ (rs : St) (Rs : List Slot) (s' : Sta), EnvOk s' rs Rs → Evo sc s' → ∃ s'' : Sta, s''.H = s'.H ∧ EnvOk s'' (σ ++ rs) (Γ ++ Rs) ∧ Evo s s'' := by
  obtain ⟨Ec, ec, hn⟩ := E.cutF
  obtain ⟨sc, h1, h2, h3⟩ := hand0 hl Ec hn
  exact ⟨sc, h1, h2, fun rs Rs s' a b => let ⟨s'', q1, q2, q3⟩ := h3 rs Rs s' a b; ⟨s'', q1, q2, ec.trans q3⟩⟩
/-- .. and the tables with them -/
theorem handT {s : Sta} {σ us : St} {Γ Ss : List Slot} [ht : HasTab Γ] (hl : σ.length = Γ.length) (E : EnvOk s (σ ++ us) (Γ ++ Ss)) :
    ∃ sc : Sta, sc.H = s.H ∧ EnvOk sc (us ++ [none]) (Ss ++ [tabS]) ∧ ∀ (rs : St) (Rs : List Slot) (s' : Sta), EnvOk s' (rs ++ [none]) (Rs ++ [tabS]) → Evo sc s' → ∃ s'' : Sta, s''.H = s'.H ∧ EnvOk s'' (σ ++ rs) (Γ ++ Rs) ∧ Evo s s'' := by
  obtain ⟨j, hj⟩ := List.mem_iff_getElem?.mp ht.mem
  have hj2 := (List.getElem?_eq_some_iff.mp hj).1
  have hjT : (Γ ++ Ss)[j]? = some tabS := by rw [List.getElem?_append_left hj2]; exact hj
  have hn : σ[j]?.join = none := by
    have q := (E.sl j _ hjT).1
    rw [List.getElem?_append_left (by omega)] at q
    exact q
  have hn' : (σ ++ us)[j]?.join = none := by rw [List.getElem?_append_left (by omega)]; exact hn
  have hσ : σ[j]'(by omega) = none := by
    rw [List.getElem?_eq_getElem (by omega)] at hn
    exact hn
  obtain ⟨E1, e1⟩ := E.move hjT
  rw [hn', set_app hj2, List.append_assoc, List.append_assoc] at E1
  obtain ⟨sc, hH, Ec, back⟩ := hand (by simp [hl]) E1
  refine ⟨sc, hH, Ec, fun rs Rs s' E' e' => ?_⟩
  obtain ⟨s'', h'', E'', e''⟩ := back _ _ s' E' e'
  rw [← List.append_assoc, ← List.append_assoc] at E''
  obtain ⟨E3, e3⟩ := E''.store (i := j) (by simp; omega)
  have k1 : (σ ++ rs).set j none = σ ++ rs := by
    rw [List.set_append_left _ _ (by omega)]
    have : σ.set j none = σ := by rw [← hσ, List.set_getElem_self]
    rw [this]
  have k2 : (Γ.set j un ++ Rs).set j tabS = Γ ++ Rs := by
    rw [List.set_append_left _ _ (by simpa using hj2), List.set_set]
    have hg : Γ[j] = tabS := by
      rw [List.getElem?_eq_getElem hj2] at hj
      exact Option.some.inj hj
    have : Γ.set j tabS = Γ := by rw [← hg, List.set_getElem_self]
    rw [this]
  rw [k1, k2] at E3
  refine ⟨_, ?_, E3, (e1.trans e'').trans e3⟩
  exact h''
/-- forgotten slots behind -/
theorem EnvOk.pads {s : Sta} {σ : St} {Γ : List Slot} (E : EnvOk s σ Γ) : ∀ m : Nat, EnvOk s (σ ++ List.replicate m none) (Γ ++ List.replicate m un)
  | 0 => by simpa using E
  | m + 1 => by
    have q := (E.pads m).push0 (o := none) un rfl
    rw [List.append_assoc, List.append_assoc] at q
    rw [List.replicate_succ', List.replicate_succ']
    exact q
/-- .. the last one stays last -/
theorem EnvOk.pads1 {s : Sta} {σ : St} {Γ : List Slot} {o : Option V} {S : Slot} (E : EnvOk s (σ ++ [o]) (Γ ++ [S])) (m : Nat) :
    ∃ s' : Sta, s'.H = s.H ∧ EnvOk s' ((σ ++ List.replicate m none) ++ [o]) ((Γ ++ List.replicate m un) ++ [S]) ∧ Evo s s' := by
  have hl : σ.length = Γ.length := by have := E.len; simp at this; exact this
  refine (E.pads m).re (fun i => if i < Γ.length then i else if i < Γ.length + m then i + 1 else if i = Γ.length + m then Γ.length else i) (by simp [hl]) (fun i j h => ?_) (fun i S2 h => ?_) fun i h => ?_
  · repeat' split at h
    all_goals omega
  · by_cases q : i < Γ.length
    · rw [if_pos q]
      rw [List.append_assoc, List.getElem?_append_left q] at h
      exact ⟨by rw [List.append_assoc, List.getElem?_append_left q]; exact h, by rw [List.append_assoc, List.append_assoc, List.getElem?_append_left (by omega), List.getElem?_append_left (by omega)]⟩
    · rw [if_neg q]
      by_cases q2 : i < Γ.length + m
      · rw [if_pos q2]
        rw [List.getElem?_append_left (by simp; omega), List.getElem?_append_right (by omega)] at h
        have h1 : (List.replicate m un)[i - Γ.length]? = some un := by rw [List.getElem?_replicate, if_pos (by omega)]
        rw [h1] at h; cases h
        refine ⟨?_, ?_⟩
        · rw [List.getElem?_append_right (by simp; omega)]
          rw [List.getElem?_replicate, if_pos (by simp; omega)]
        · rw [List.getElem?_append_left (by simp; omega), List.getElem?_append_right (by omega), List.getElem?_append_right (by simp; omega), List.getElem?_replicate, List.getElem?_replicate, if_pos (by omega), if_pos (by simp; omega)]
      · rw [if_neg q2]
        have hi := (List.getElem?_eq_some_iff.mp h).1
        simp at hi
        have q3 : i = Γ.length + m := by omega
        subst q3
        rw [if_pos rfl]
        have h1 : ((Γ ++ List.replicate m un) ++ [S])[Γ.length + m]? = some S := by rw [List.getElem?_append_right (by simp)]; simp
        rw [h1] at h; cases h
        refine ⟨by rw [List.getElem?_append_left (by simp)]; simp, ?_⟩
        rw [List.getElem?_append_right (by simp [hl]), List.getElem?_append_left (by simp; omega), List.getElem?_append_right (by omega)]
        simp [hl]
  · simp at h ⊢
    rw [if_neg (by omega), if_neg (by omega), if_neg (by omega)]
    omega
/-- a def's call by values -/
theorem n_call (x : A) (hx : pre x) {Ss : List Slot} (hG : Ss = G x) : OpN (fun vs H Q => spP pre G S (vs ++ []) H Q E0) Ss (S x) := by
  intro σ Γ _ s vs lv E Q hQ
  subst hG
  rw [List.append_nil]
  have hl : σ.length = Γ.length := by have := E.len; simp at this; omega
  obtain ⟨sc, hH, Ec, back⟩ := handT hl E
  refine ⟨x, sc, hH, hx, Ec, fun v s' E' e' => ?_⟩
  obtain ⟨s'', h'', E'', e''⟩ := back [some v] [S x] s' E' e'
  have q := hQ v s'' E'' e''
  rw [h''] at q
  exact q
/-- f(e, ..) of the text -/
theorem x_call {X : Cx} {CX : CXT} {k : Nat} {f : Addr} {fd : FuncData} {ps : List Str} {fx : Str} {p pos : Pos} {e : Expr} {es : List Expr} {Γ Γ1 Ss : List Slot} (F : FnOk X.prog X.w X.K X.mg X.base CX0 k f fd ps (spP pre G S)) (hr : Room k X.A) (hm : X.mg fx = some (.ref f)) (hk : PySem.W.keepIn X.K (.ref f) = true)
    (hb : Binds X.K fd ps []) (x : A) (hx : pre x) (ha : EA X (e :: es) Γ Ss Γ1) (hG : Ss = G x) (hg : Gl X fx := by rfl) (hdb : (fx == ("__debug__" : Str)) = false := by decide)
    (he : starEach (e :: es) X.env = (false, eval e X.env) :: starEach es X.env := by rfl) (hpl : (backTo pos (starEach es X.env)).any (·.1) = false := by rfl) : EX X (.Call (.Name fx p) (e :: es) [] pos) Γ (S x) Γ1 :=
  ex_n (pe_call F hr hg hm hk hb .nil pass0 paR hdb he hpl) ha (n_call x hx hG)
/-- a def keeps its promise -/
theorem fn_ok {P : Program} {w : World} {K : PySem.W.Frag} {mg : Str → Option Value} {base : Heap} {fx qual : Str} {st : Stmt} {f : Addr} {fd : FuncData} {N ps : List Str} {k : Nat} (F : Fun K fx qual st f fd) (sc : FnScope N ps (defScope st)) (hG : ∀ x, (G x).length = ps.length)
    (hb : ∀ (X : Cx) (x : A), (∃ cdv A outer s H E, X = (cxOf CX0 P w K mg base N qual (defScope st) f cdv A outer s H E).nox) → Room k X.A → pre x → SX X (defBody st) (G x ++ List.replicate (N.length - ps.length) un) (fun r => (∃ Γ', r = .rt Γ' (S x)) ∨ (∃ Γ', r = .nx Γ' ∧ ∀ B, (S x).p B em (some .non)))) :
    FnOk P w K mg base CX0 (k + 1) f fd ps (spP pre G S) := by
  refine F.ok sc (fun vs H Q E h => ?_) (fun cdv A outer s H vs Q E hr h => ?_)
  · obtain ⟨x, s, _, _, E1, _⟩ := h
    have := E1.len
    simp at this
    rw [this, hG]
  · obtain ⟨x, s1, rfl, hx, E1, q⟩ := h
    have hlv : vs.length = ps.length := by have := E1.len; simp at this; rw [this, hG]
    obtain ⟨s2, h2, E2, e2⟩ := E1.pads1 (N.length - ps.length)
    have hst : L2.start N vs = vs.map some ++ List.replicate (N.length - ps.length) none := by
      unfold L2.start
      rw [hlv]
    rw [← hst] at E2
    rw [← h2]
    have hb' := hb _ x ⟨cdv, A, outer, s, s2.H, E, rfl⟩ hr hx [tabS] [none] (L2.start N vs) s2 (by rw [hst]; simp [hlv, hG]) E2 { nx := fun _ H' => Q .non H', rt := Q } fun r hr => ?_
    · exact ⟨_, pssR, hb'⟩
    · have fin : ∀ {σ' : St} {Γ' : List Slot} {v : V} {s' : Sta}, σ'.length = Γ'.length → EnvOk s' ((σ' ++ [none]) ++ [some v]) ((Γ' ++ [tabS]) ++ [S x]) → Evo s2 s' → Q v s'.H := fun {σ' Γ' v s'} l' E' e' => by
        have E'' : EnvOk s' ([] ++ (σ' ++ ([none] ++ [some v]))) ([] ++ (Γ' ++ ([tabS] ++ [S x]))) := by simpa using E'
        obtain ⟨s3, E3, e3, h3, _⟩ := E''.mid rfl l'
        obtain ⟨s4, h4, E4, e4⟩ := E3.rot rfl
        have q1 := q v s4 E4 (((e2.trans e').trans e3).trans e4)
        rw [h4, h3] at q1
        exact q1
      rcases hr with ⟨Γ', rfl⟩ | ⟨Γ', rfl, hn⟩
      · intro σ' v s' l' E' e'
        exact fin l' E' e'
      · intro σ' s' l' E' e'
        exact fin l' (E'.push0 (o := some .non) (S x) (hn _)) e'
end
end Fw
/-! set(xs) of a list of ints: the road of HandS.SetFor's tuple, turned to lists -/
namespace Fw
open PySem PySem.Spec PyProof.Rows L2
abbrev sob (w : World) : Obj := { cls := .type "set", dict := none, data := .set #[] 0 (.fresh 0 0 (!w.params.followText "set-order")) }
section
variable {P : Program} {w : World} {A : Around} {E : Value → Shared → Prop} {s : Shared}
theorem set_of_listI {l : Addr} {items : Array Value} (ns : List Int) {Q : Value → Shared → Prop} (hh : A.handled = none) (hl : s.heap.IsList l items) (hit : IntsAre items.toList ns) (hb : ns.length + 1 < scanBound)
    (h : ∀ (h' : Heap) (tk c : Nat), SetR w h' s.heap.objs.size (fun j => decide (j ∈ ns)) c → c ≤ ns.length → (∀ b o, s.heap.get? b = some o → h'.get? b = some o) → Q (.ref s.heap.objs.size) { s with heap := h', toks := tk }) :
    wpAny (model P w) A (call (.type "set") [.ref l]) Q E s := by
  have hisz : items.size = ns.length := by
    have q := IntsAre.length hit
    rw [Array.length_toList] at q
    exact q
  obtain ⟨c, tl, hmro⟩ := F.called_set.mro
  have hmade := F.called_set.made
  have hsub := F.called_set.sub
  refine wpAny_call (codeAny_of_tree ?_)
  show wpAny _ _ (callAny (.type "set") _) _ _ _
  refine wpAny_pure ⟨Code.quiet_builtin _ (by decide +kernel), codeAny_builtin F.entry_type_call ?_⟩
  rw [Around.under_plain (weight_type_call_type "set" [.ref l] []) rfl]
  have h1 := F.called_set.notType
  have h2 := F.called_set.canCreate
  have hct := F.typeCall_set_1 (.ref l)
  repeat (any_goals (first | assumption | wp_step))
  refine codeAny_mono (code_set_led1 (.ref l) (E := E) (Q₁ := fun obj s₁ => obj = .ref s.heap.objs.size ∧ s₁ = { s with heap := s.heap.push (sob w) }) ⟨rfl, rfl⟩) fun r s₁ hr => ?_
  cases r with
  | error e => exact hr
  | ok fl =>
    cases fl with
    | ret obj =>
      obtain ⟨rfl, rfl⟩ := hr
      have hS : (s.heap.push (sob w)).get? s.heap.objs.size = some (sob w) := Heap.get?_push_size _ rfl
      have hT : Shared.TypeIs { s with heap := s.heap.push (sob w) } (.ref s.heap.objs.size) "set" := ⟨_, hS, rfl⟩
      have hli := F.called_set.init.lookup
      have hbi := F.called_set.init.bind (.ref s.heap.objs.size)
      repeat (any_goals (first | assumption | wp_step))
      refine codeAny_mono (codeAny_call_builtin (R := wants (fun r s₂ => r = .none ∧ ∃ h' tk c, s₂ = { s with heap := h', toks := tk } ∧ SetR w h' s.heap.objs.size (fun j => decide (j ∈ ns)) c ∧ c ≤ ns.length ∧
          (∀ b o, s.heap.get? b = some o → h'.get? b = some o)) E) F.called_set.init.plain F.entry_set_init (check_set_init_1 hT ?_)) fun r₂ s₂ hr₂ => ?_
      · obtain ⟨ol, hol, hcl, nl, hdl⟩ := hl
        obtain ⟨ocls, odict, odata, oslots⟩ := ol
        simp only at hcl hdl
        subst hcl; subst hdl
        have hol' : (s.heap.push (sob w)).get? l = some { cls := .type "list", dict := odict, data := .seq items nl, slots := oslots } := Heap.get?_push_of_some _ hol
        have hsls := PySem.F.sub_list_set
        have hslf := PySem.F.sub_list_frozenset
        have hne : (Value.type "list" == Value.type "dict") = false := by decide
        have hl1 : (s.heap.push (sob w)).IsList l items := ⟨_, hol', rfl, nl, rfl⟩
        unfold Builtin.«set.__init__» noKeywords Builtin.Frozenset.updateFrom
        generalize hPI : pyIter = PI
        wp_walk
        subst hPI
        refine wpAny_pyIter_list hl1 ?_
        refine wpAny_bind (wpAny_runValue ?_)
        have hlS : l < s.heap.objs.size := Heap.lt_size hol
        have hh3 : A.in1.in1.in1.handled = none := by simp [hh]
        have hz1 : (s.heap.push (sob w)).objs.size = s.heap.objs.size + 1 := Heap.size_push ..
        have hneI : l ≠ (s.heap.push (sob w)).objs.size := by
          rw [Heap.size_push]; exact Nat.ne_of_lt (Nat.lt_succ_of_lt hlS)
        have hSf : s.heap.objs.size ∉ [(s.heap.push (sob w)).objs.size, l] := by
          rw [Heap.size_push]; simp only [List.mem_cons, List.mem_singleton, List.not_mem_nil, or_false, not_or]
          exact ⟨Nat.ne_of_lt (Nat.lt_succ_self _), Nat.ne_of_gt hlS⟩
        have hval : ∀ (i : Nat) (v : Value), items[i]? = some v → ∃ k t, ns[i]? = some k ∧ v = .int k t := fun i v hv => by
          have hi : i < ns.length := by rw [← hisz]; exact (Array.getElem?_eq_some_iff.mp hv).1
          obtain ⟨t, e⟩ := PyProof.Rows.IntsAre.int_at hit i v (by rw [Array.getElem?_toList]; exact hv)
          refine ⟨ns[i], t, List.getElem?_eq_getElem hi, ?_⟩
          rw [e, List.getD_eq_getElem?_getD, List.getElem?_eq_getElem hi] <;> rfl
        refine set_update_ints ((Walks.list hh3 _ l hneI items).toS) s.heap.objs.size
          hSf ns hisz hb hval (items.size - 0) 0 _ (by omega) (Nat.zero_le _)
          ⟨⟨_, Heap.get?_push_size _ rfl, rfl, rfl⟩, (hl1.push _)⟩ ?hS0 ?hR
        case hS0 =>
          have hget : ((s.heap.push (sob w)).push { cls := .type "list_iterator", data := .fields #[.ref l, .int 0 0] }).get? s.heap.objs.size
              = some (sob w) := Heap.get?_push_of_some _ hS
          exact ⟨0, Nat.le_refl 0, setR_new_at hget⟩
        case hR =>
          intro s' c' hm hc' hS'
          obtain ⟨h', g2, d', tk', os'⟩ := s'
          have eg : g2 = s.gens := hm.gens
          have ed : d' = s.drawn := hm.drawn
          have eo : os' = s.os := hm.os
          subst eg; subst ed; subst eo
          show wpAny _ _ _ _ _ _
          refine wpAny_pure ?_
          show wpAny _ _ (ret Value.none) _ _ _
          rw [hisz] at hc'
          refine wpAny_pure ⟨rfl, h', tk', c', rfl, hS', hc', fun b o e => ?_⟩
          have hb0 : b < s.heap.objs.size := Heap.lt_size e
          have hb1 : b ≠ s.heap.objs.size := Nat.ne_of_lt hb0
          have hb2 : b ≠ (s.heap.push (sob w)).objs.size := by
            rw [Heap.size_push]; exact Nat.ne_of_lt (Nat.lt_succ_of_lt hb0)
          exact hm.heap b o (by simp only [List.mem_cons, List.mem_singleton, List.not_mem_nil, or_false, not_or]; exact ⟨hb1, hb2⟩) (Heap.get?_push_of_some _ (Heap.get?_push_of_some _ e))
      · cases r₂ with
        | error e => exact hr₂
        | ok fl₂ =>
          cases fl₂ with
          | ret r =>
            obtain ⟨rfl, h', tk, c', rfl, hS', hc', hk'⟩ := hr₂
            repeat (any_goals (first | assumption | wp_step))
            exact h _ _ _ hS' hc' hk'
          | _ => exact hr₂.elim
    | _ => exact hr.elim
end
/-- set(xs): the members of xs -/
def rSetL (K : PySem.W.Frag) (w : World) : List V → Hp → VK → Prop := fun vs H Q => ∃ (a : Addr) (ns : List Int), vs = [V.ref a] ∧ SqL K H a (ns.map V.int) ∧ ns.length + 1 < scanBound ∧
  ∀ p c, c ≤ ns.length → H p = none → Q (.ref p) (upd H p (SetO w p (fun k => decide (k ∈ ns)) c))
theorem cr_setL {X : Cx} (hc : X.calm = true) : CallR X (.type "set") (rSetL X.K X.w) := by
  intro pins s σ H vs us Q I r h
  obtain ⟨a, ns, rfl, hs, hb, q⟩ := h
  obtain ⟨its, rv, hl, _⟩ := I.list hs
  rw [Vals.ref1 r]
  refine set_of_listI ns (I.ok.hd hc) hl.isList (by simpa using rv.ints) hb fun h' tk c hS hcl hk => ?_
  exact ⟨.ref _, upd H s.heap.objs.size (SetO X.w s.heap.objs.size (fun k => decide (k ∈ ns)) c), I.laid hk (Nat.le_refl _) (setO_new hS), rfl, q _ c hcl (I.hok.fresh (Nat.le_refl _))⟩
def rSetT (K : PySem.W.Frag) (w : World) : List V → Hp → VK → Prop := fun vs H Q => ∃ (a : Addr) (ns : List Int), vs = [V.ref a] ∧ SqT K H a (ns.map V.int) ∧ ns.length + 1 < scanBound ∧
  ∀ p c, c ≤ ns.length → H p = none → Q (.ref p) (upd H p (SetO w p (fun k => decide (k ∈ ns)) c))
theorem cr_setT {X : Cx} (hc : X.calm = true) : CallR X (.type "set") (rSetT X.K X.w) := by
  intro pins s σ H vs us Q I r h
  obtain ⟨a, ns, rfl, hs, hb, q⟩ := h
  obtain ⟨its, rv, hl, _⟩ := I.tuple hs
  rw [Vals.ref1 r]
  refine call_set_tupI ns (I.ok.hd hc) hl (by simpa using rv.ints) hb fun h' tk c hS hcl hk => ?_
  exact ⟨.ref _, upd H s.heap.objs.size (SetO X.w s.heap.objs.size (fun k => decide (k ∈ ns)) c), I.laid hk (Nat.le_refl _) (setO_new hS), rfl, q _ c hcl (I.hok.fresh (Nat.le_refl _))⟩
end Fw
namespace Fw
open PySem L2
variable [Tb]
variable {α β γ δ ε ρ κ : Type}
/-! ## sorted(set(xs)) -/
def insU (x : Int) : List Int → List Int
  | [] => [x]
  | y :: r => if x < y then x :: y :: r else if x = y then y :: r else y :: insU x r
/-- the members, ascending, each once -/
def sset : List Int → List Int
  | [] => []
  | x :: r => insU x (sset r)
theorem mem_insU (x y : Int) : ∀ l, y ∈ insU x l ↔ y = x ∨ y ∈ l
  | [] => by simp [insU]
  | z :: r => by
    unfold insU
    split
    · simp
    · split
      · rename_i h; subst h; simp
      · simp [mem_insU x y r]; exact ⟨fun h => by rcases h with h | h | h <;> simp [h], fun h => by rcases h with h | h | h <;> simp [h]⟩
theorem mem_sset (y : Int) : ∀ l, y ∈ sset l ↔ y ∈ l
  | [] => Iff.rfl
  | x :: r => by unfold sset; rw [mem_insU, mem_sset y r]; simp
theorem insU_asc (x : Int) : ∀ l : List Int, l.Pairwise (· < ·) → (insU x l).Pairwise (· < ·)
  | [], _ => by simp [insU]
  | z :: r, h => by
    have c := List.pairwise_cons.mp h
    unfold insU
    split
    · rename_i hx
      exact List.pairwise_cons.mpr ⟨fun w hw => by
        rcases List.mem_cons.mp hw with e | e
        · omega
        · have := c.1 w e; omega, h⟩
    · split
      · exact h
      · rename_i h1 h2
        refine List.pairwise_cons.mpr ⟨fun w hw => ?_, insU_asc x r c.2⟩
        rcases (mem_insU x w r).mp hw with e | e
        · omega
        · exact c.1 w e
theorem sset_asc : ∀ l : List Int, (sset l).Pairwise (· < ·)
  | [] => List.Pairwise.nil
  | x :: r => insU_asc x _ (sset_asc r)
theorem asc_unique : ∀ {l m : List Int}, l.Pairwise (· < ·) → m.Pairwise (· < ·) → (∀ x, x ∈ l ↔ x ∈ m) → l = m
  | [], [], _, _, _ => rfl
  | [], y :: m, _, _, h => absurd ((h y).mpr List.mem_cons_self) (by simp)
  | x :: l, [], _, _, h => absurd ((h x).mp List.mem_cons_self) (by simp)
  | x :: l, y :: m, h1, h2, h => by
    have c1 := List.pairwise_cons.mp h1
    have c2 := List.pairwise_cons.mp h2
    have e : x = y := by
      rcases List.mem_cons.mp ((h x).mp List.mem_cons_self) with e | e
      · exact e
      · rcases List.mem_cons.mp ((h y).mpr List.mem_cons_self) with e' | e'
        · exact e'.symm
        · have a := c2.1 x e; have b := c1.1 y e'; omega
    subst e
    congr 1
    refine asc_unique c1.2 c2.2 fun z => ⟨fun hz => ?_, fun hz => ?_⟩
    · rcases List.mem_cons.mp ((h z).mp (List.mem_cons_of_mem _ hz)) with e | e
      · have := c1.1 z hz; omega
      · exact e
    · rcases List.mem_cons.mp ((h z).mpr (List.mem_cons_of_mem _ hz)) with e | e
      · have := c2.1 z hz; omega
      · exact e
/-- an owned set of ints with the members of xs -/
def os (w : World) (xs : List Int) : Slot := ⟨fun _ F o => ∃ p c, o = some (.ref p) ∧ c ≤ xs.length ∧ F = one p (SetO w p (fun k => decide (k ∈ xs)) c), fun _ h => h,
  fun h => let ⟨p, c, e, z, f⟩ := h; ⟨p, c, e, z, by rw [f]; exact ntF_one (fun _ z => nomatch z)⟩⟩
section
variable {K : PySem.W.Frag} {w : World} {xs : List Int}
theorem n_setT {S : Ty (List Int)} (q : SeqT K S tI) (hb : xs.length + 1 < scanBound) : OpN (rSetT K w) [pu S xs] (os w xs) := by
  refine opN_1 fun σ Γ s v E Q hQ => ?_
  obtain ⟨a, vs, e, z, r⟩ := q.get (pu_top E)
  rw [paired_int r] at z
  obtain ⟨E2, e2⟩ := E.pop
  refine ⟨a, xs, by rw [e], same_sqt E.sub z, hb, fun p c hc hp => ?_⟩
  obtain ⟨E4, e4⟩ := E2.pushO (o := some (.ref p)) (ob := SetO w p (fun k => decide (k ∈ xs)) c) hp (os w xs) ⟨p, c, rfl, hc, rfl⟩
  exact hQ _ _ E4 (e2.trans e4)
theorem n_sortSet (hz : xs.length < 64) : OpN (rSortedSet w) [os w xs] (ol tI (sset xs)) := by
  refine opN_1 fun σ Γ s v E Q hQ => ?_
  obtain ⟨p, c, e, hc, f⟩ := E.top
  cases e
  have hp : s.H p = some (SetO w p (fun k => decide (k ∈ xs)) c) := E.subF _ p _ (by rw [f]; exact one_self)
  obtain ⟨E2, e2⟩ := E.pop
  refine ⟨p, _, c, rfl, hp, by omega, fun ns q hs hm hl hq => ?_⟩
  have en : ns = sset xs := asc_unique hs (sset_asc xs) fun x => by rw [hm, mem_sset, decide_eq_true_eq]
  subst en
  obtain ⟨E4, e4⟩ := E2.pushO (o := some (.ref q)) (ob := .lst ((sset xs).map V.int)) hq (ol tI (sset xs)) ⟨q, _, rfl, rfl, paired_of_int _⟩
  exact hQ _ _ E4 (e2.trans e4)
end
/-! ## instances whose fields are pure -/
structure Fld where
  p : Hp → V → Prop
  mono : ∀ {B B' : Hp} {v : V}, Same B B' → p B v → p B' v
def fld (R : Ty α) (x : α) : Fld := ⟨fun B v => R.rep B v x, fun s h => R.mono s h⟩
abbrev FldsOk (B : Hp) : List (Str × V) → List (Str × Fld) → Prop := Paired fun (p : Str × V) (q : Str × Fld) => p.1 = q.1 ∧ q.2.p B p.2
theorem fldsOk_mono {B B' : Hp} (s : Same B B') {vs : List (Str × V)} {fs : List (Str × Fld)} (h : FldsOk B vs fs) : FldsOk B' vs fs := paired_mono (fun _ q z => ⟨z.1, q.2.mono s z.2⟩) h
theorem fldsOk_get {B : Hp} {f : Str} {q : Fld} : ∀ {vs : List (Str × V)} {fs : List (Str × Fld)}, FldsOk B vs fs → fs.lookup f = some q → ∃ v, vs.lookup f = some v ∧ q.p B v
  | _, _, .nil, h => by simp at h
  | (n, v) :: _, (m, g) :: _, .cons h r, e => by
    obtain ⟨h1, h2⟩ := h
    simp only at h1 h2
    subst h1
    simp only [List.lookup_cons] at e ⊢
    cases hb : (f == n) with
    | true => rw [hb] at e; cases e; exact ⟨v, rfl, h2⟩
    | false => rw [hb] at e; exact fldsOk_get r e
def putFl (f : Str) (q : Fld) : List (Str × Fld) → List (Str × Fld)
  | [] => [(f, q)]
  | (g, w) :: r => if g = f then (g, q) :: r else (g, w) :: putFl f q r
theorem fldsOk_put {B : Hp} {f : Str} {q : Fld} {v : V} (hv : q.p B v) : ∀ {vs : List (Str × V)} {fs : List (Str × Fld)}, FldsOk B vs fs → FldsOk B (putF f v vs) (putFl f q fs)
  | _, _, .nil => .cons ⟨rfl, hv⟩ .nil
  | (n, u) :: _, (m, g) :: _, .cons h r => by
    obtain ⟨h1, h2⟩ := h
    simp only at h1 h2
    subst h1
    unfold putF putFl
    by_cases e : n = f
    · rw [if_pos e, if_pos e]; exact .cons ⟨rfl, hv⟩ r
    · rw [if_neg e, if_neg e]; exact .cons ⟨rfl, h2⟩ (fldsOk_put hv r)
/-- an instance of the class at C as a pure thing -/
def tObj (C : Addr) (fl : α → List (Str × Fld)) : Ty α := ⟨fun B v a => ∃ x dx vs, v = .ref x ∧ B x = some (.ins C dx vs) ∧ B dx = some (.own x) ∧ FldsOk B vs (fl a),
  fun s h => let ⟨x, dx, vs, e, h1, h2, r⟩ := h; ⟨x, dx, vs, e, s _ _ h1, s _ _ h2, fldsOk_mono s r⟩⟩
def two (x dx : Addr) (o1 o2 : HO) : Hp := fun a => if a = x then some o1 else if a = dx then some o2 else none
/-- an instance that is owned: its fields pure -/
def oi (C : Addr) (fs : List (Str × Fld)) (x : Addr) : Slot := ⟨fun B F o => o = some (.ref x) ∧ ∃ dx vs, dx ≠ x ∧ F = two x dx (.ins C dx vs) (.own x) ∧ FldsOk B vs fs,
  fun s h => let ⟨e, dx, vs, n, f, r⟩ := h; ⟨e, dx, vs, n, f, fldsOk_mono s r⟩,
  fun h => let ⟨e, dx, vs, n, f, r⟩ := h; ⟨e, dx, vs, n, (by
    rw [f]; refine ntF_eq ⟨fun a xs z => ?_, fun a od xs z => ?_⟩
    all_goals
      unfold two at z; split at z
      · cases z
      · split at z <;> cases z), r⟩⟩
/-- one of a family of slots by addresses -/
def exS (W : Addr → Slot) : Slot := ⟨fun B F o => ∃ x, (W x).p B F o, fun s h => let ⟨x, q⟩ := h; ⟨x, (W x).mono s q⟩, fun h => let ⟨x, q⟩ := h; ⟨x, (W x).cut q⟩⟩
/-- the family tells the address -/
def Gho (W : Addr → Slot) : Prop := ∀ x B F o, (W x).p B F o → o = some (.ref x)
theorem gho_oi {C : Addr} {fs : List (Str × Fld)} : Gho (oi C fs) := fun _ _ _ _ h => h.1
section
variable {X : Cx} {e o value : Expr} {f : Str} {pos pos' : Pos} {Γ Γ1 : List Slot} {C : Addr} {R : Ty α}
/-- e.f of a pure instance -/
theorem x_fld {fl : β → List (Str × Fld)} {a : β} {y : α} (he : EX X e Γ (pu (tObj C fl) a) Γ1) (hl : (fl a).lookup f = some (fld R y)) (c : Cls X.K C) (n : NoAttr X.K C f) (hb : attributeBase e f X.env (eval e X.env) = eval e X.env := by rfl) :
    EX X (.Attribute e f pos) Γ (pu R y) Γ1 := by
  (first | refine ⟨?_⟩ | skip); intro T _ τ σ s hs E Q hQ
  refine re_of (pe_fld peR hb) ?_
  refine he T τ σ s hs E _ fun v s1 E1 l1 e1 => ?_
  obtain ⟨x, dx, vs, ev, h1, h2, r⟩ := pu_top E1
  obtain ⟨u, hu, hp⟩ := fldsOk_get r hl
  obtain ⟨E2, e2⟩ := E1.pop
  have q := hQ u _ (E2.push0 (pu R y) ⟨rfl, u, rfl, hp⟩) l1 (e1.trans e2)
  exact ⟨x, C, dx, vs, u, ev, E1.sub _ _ h1, c, n, hu, q⟩
theorem two_x {x dx : Addr} {o1 o2 : HO} : two x dx o1 o2 x = some o1 := by simp [two]
theorem two_dx {x dx : Addr} {o1 o2 : HO} (h : dx ≠ x) : two x dx o1 o2 dx = some o2 := by simp [two, h]
theorem two_some {x dx a : Addr} {o1 o2 u : HO} (h : two x dx o1 o2 a = some u) : (a = x ∧ u = o1) ∨ (a ≠ x ∧ a = dx ∧ u = o2) := by
  unfold two at h
  by_cases q : a = x
  · rw [if_pos q] at h; exact .inl ⟨q, (Option.some.inj h).symm⟩
  · rw [if_neg q] at h
    by_cases q2 : a = dx
    · rw [if_pos q2] at h; exact .inr ⟨q, q2, (Option.some.inj h).symm⟩
    · rw [if_neg q2] at h; cases h
/-- an owned thing's footprint gets other contents at the same places -/
theorem EnvOk.rewrite {s : Sta} {σ : St} {Γ : List Slot} {S' : Slot} {i : Nat} {F' : Hp} {H' : Hp} (E : EnvOk s σ Γ) (hi : i < Γ.length) (hd : ∀ a, F' a ≠ none ↔ s.F i a ≠ none) (hH : ∀ a, s.F i a = none → H' a = s.H a) (hF : Same F' H') (h : S'.p s.B F' (σ[i]?.join)) :
    EnvOk ⟨s.B, H', fun j => if j = i then F' else s.F j⟩ σ (Γ.set i S') ∧ Evo s ⟨s.B, H', fun j => if j = i then F' else s.F j⟩ := by
  have key : ∀ j a, (if j = i then F' else s.F j) a ≠ none → s.F j a ≠ none := fun j a h => by
    by_cases q : j = i
    · rw [if_pos q] at h; rw [q]; exact (hd a).mp h
    · rw [if_neg q] at h; exact h
  have nf : ∀ j a, j ≠ i → s.F j a ≠ none → s.F i a = none := fun j a q h => by
    cases e : s.F i a with
    | none => rfl
    | some u => exact absurd (E.disF j i a h (by rw [e]; simp)) q
  refine ⟨⟨fun a u h => ?_, fun j a u h => ?_, fun j a h => E.dis j a (key j a h), fun j k a h1 h2 => E.disF j k a (key j a h1) (key k a h2), by simp [E.len], fun j S2 h2 => ?_, fun j h2 => ?_⟩, ⟨fun _ _ h => h, fun a u h n => ?_, fun a h => ?_, fun _ h => .inl h, fun a j h => .inr ⟨j, key j a h⟩⟩⟩
  · show H' a = some u
    rw [hH a (by
      cases e : s.F i a with
      | none => rfl
      | some w => have := E.dis i a (by rw [e]; simp); rw [this] at h; cases h)]
    exact E.sub a u h
  · have h' : (if j = i then F' else s.F j) a = some u := h
    show H' a = some u
    by_cases q : j = i
    · rw [if_pos q] at h'; exact hF a u h'
    · rw [if_neg q] at h'
      rw [hH a (nf j a q (by rw [h']; simp))]
      exact E.subF j a u h'
  · show S2.p s.B (if j = i then F' else s.F j) _
    by_cases q : j = i
    · subst q
      rw [List.getElem?_set_self hi] at h2; cases h2
      rw [if_pos rfl]; exact h
    · rw [List.getElem?_set_ne (Ne.symm q)] at h2
      rw [if_neg q]
      exact E.sl j S2 h2
  · show (if j = i then F' else s.F j) = em
    rw [List.length_set] at h2
    rw [if_neg (by omega)]
    exact E.out j h2
  · show H' a = some u
    rw [hH a (n i)]; exact h
  · show H' a ≠ none
    cases q : s.F i a with
    | none => rw [hH a q]; exact h
    | some w =>
      obtain ⟨u, hu⟩ := ex_of_ne ((hd a).mpr (by rw [q]; simp))
      rw [hF a u hu]; simp
/-- x.f = value, x an owned instance in the slot i -/
theorem s1_fld {i : Nat} {x : Str} {px : Pos} {fs gs : List (Str × Fld)} {y : α} {a : Addr} (hv : EX X value Γ (pu R y) Γ1) (hi1 : Γ1[i]? = some (oi C gs a)) (c : Cls X.K C) (n : NoAttr X.K C f) (hz : gs.length < 1000) (hN : X.N[i]? = some x := by rfl) (hvs : Vis X.env.scope x := by first | exact Or.inl rfl | exact Or.inr (Or.inl rfl) | exact Or.inr (Or.inr rfl))
    (hd : (x == ("__debug__" : Str)) = false := by decide) (hcd : (x == ("__classdict__" : Str)) = false := by decide) (hs : swapsWith value (some (.Attribute (.Name x px) f pos')) pos.line X.env = pure false := by rfl) :
    S1 X (.Assign [.Attribute (.Name x px) f pos'] value pos) Γ (fun r => r = .nx (Γ1.set i (oi C (putFl f (fld R y) gs) a))) := by
  (first | refine ⟨?_⟩ | skip); intro T _ τ σ s hl E D hD
  refine rs_of (ps_fld (pe_var hN hvs hd hcd) peR hs) ?_
  refine hv T τ σ s hl E _ fun v s1 E1 l1 e1 => ?_
  have hlt1 := (List.getElem?_eq_some_iff.mp hi1).1
  have hy := pu_top E1
  obtain ⟨E2, e2⟩ := E1.pop
  obtain ⟨e3, dx, vs, nd, f3, r3⟩ := E2.sl i _ (by rw [List.getElem?_append_left hlt1]; exact hi1)
  have e3' := e3
  rw [List.getElem?_append_left (by omega)] at e3
  have hσ : σ[i]? = some (some (.ref a)) := by
    rw [List.getElem?_eq_getElem (by omega)] at e3 ⊢
    exact congrArg some e3
  have ha : s1.H a = some (.ins C dx vs) := E2.subF i a _ (by rw [f3]; exact two_x)
  have hdx : s1.H dx = some (.own a) := E2.subF i dx _ (by rw [f3]; exact two_dx nd)
  obtain ⟨E4, e4⟩ := E2.rewrite (S' := oi C (putFl f (fld R y) gs) a) (i := i) (F' := two a dx (.ins C dx (putF f v vs)) (.own a)) (H' := upd s1.H a (.ins C dx (putF f v vs))) (by simp; omega) (fun b => by
      rw [f3]; unfold two
      by_cases q : b = a
      · simp [q]
      · by_cases q2 : b = dx
        · simp [q2, nd]
        · simp [q, q2]) (fun b hb => by
      rw [f3] at hb
      have : b ≠ a := fun q => by rw [q, two_x] at hb; cases hb
      rw [upd_ne this]; rfl) (fun b u hb => by
      rcases two_some hb with ⟨q, rfl⟩ | ⟨q, q2, rfl⟩
      · rw [q]; exact upd_same
      · rw [q2, upd_ne (by rw [← q2]; exact q)]; exact hdx) (by
      rw [e3']
      exact ⟨rfl, dx, _, nd, rfl, fldsOk_put hy r3⟩)
  rw [set_app hlt1] at E4
  refine ⟨.ref a, hσ, a, C, dx, vs, rfl, ha, c, n, ?_, ?_⟩
  · rw [Paired.length r3]; exact hz
  · have q := hD _ rfl σ _ (by simp; omega) E4 ((e1.trans e2).trans e4)
    exact q
end
/-! ## a def that changes its first argument -/
/-- the first argument is owned and stays so; the others are pure or used up -/
def spM {A : Type} (pre : A → Prop) (W0 : A → Addr → Slot) (Gr : A → List Slot) (W1 : A → Addr → Slot) (S : A → Slot) : Sp := fun vs H Q _ => ∃ (x : A) (p : Addr) (s : Sta), s.H = H ∧ pre x ∧ EnvOk s (vs.map some ++ [none]) ((W0 x p :: Gr x) ++ [tabS]) ∧
  ∀ v s', EnvOk s' ([some (.ref p), some v] ++ [none]) ([W1 x p, S x] ++ [tabS]) → Evo s s' → Q v s'.H
theorem EnvOk.freezeTop {s : Sta} {σ : St} {Γ : List Slot} {S S' : Slot} {o : Option V} (E : EnvOk s (σ ++ [o]) (Γ ++ [S])) (h : ∀ B', Same s.B B' → Same (s.F Γ.length) B' → S'.p B' em o) : ∃ s' : Sta, s'.H = s.H ∧ EnvOk s' (σ ++ [o]) (Γ ++ [S']) ∧ Evo s s' := by
  have hl : σ.length = Γ.length := by have := E.len; simp at this; exact this
  obtain ⟨E2, e2⟩ := E.freeze (S' := S') (i := Γ.length) (by simp) fun B' k1 k2 => by
    rw [join_get (show (σ ++ [o])[Γ.length]? = some o by rw [← hl]; simp)]
    exact h B' k1 k2
  have hz : (Γ ++ [S]).set Γ.length S' = Γ ++ [S'] := by rw [List.set_append_right _ _ (Nat.le_refl _)]; simp
  rw [hz] at E2
  exact ⟨⟨un2 (s.F Γ.length) s.B, s.H, fun j => if j = Γ.length then em else s.F j⟩, rfl, E2, e2⟩
theorem EnvOk.freezeTop' {s : Sta} {σ : St} {Γ : List Slot} {S S' : Slot} {o : Option V} (E : EnvOk s (σ ++ [o]) (Γ ++ [S])) (h : ∀ B F, S.p B F o → S'.p B F o) : ∃ s' : Sta, s'.H = s.H ∧ EnvOk s' (σ ++ [o]) (Γ ++ [S']) ∧ Evo s s' := by
  have hl : σ.length = Γ.length := by have := E.len; simp at this; exact this
  refine ⟨s, rfl, ⟨E.sub, E.subF, E.dis, E.disF, by simp [hl], fun i S2 h2 => ?_, fun i h2 => E.out i (by simpa using h2)⟩, Evo.refl s⟩
  by_cases hi : i < Γ.length
  · rw [List.getElem?_append_left hi] at h2
    exact E.sl i S2 (by rw [List.getElem?_append_left hi]; exact h2)
  · have hl2 := (List.getElem?_eq_some_iff.mp h2).1
    simp at hl2
    have e : i = Γ.length := by omega
    subst e
    have h3 : (Γ ++ [S'])[Γ.length]? = some S' := by simp
    rw [h3] at h2; cases h2
    rw [join_get (show (σ ++ [o])[Γ.length]? = some o by rw [← hl]; simp)]
    exact h _ _ E.top
theorem one_two {x dx : Addr} {o1 o2 : HO} {a : Addr} (h : two x dx o1 o2 a ≠ none) : a = x ∨ a = dx := by
  obtain ⟨u, hu⟩ := ex_of_ne h
  rcases two_some hu with ⟨q, _⟩ | ⟨_, q, _⟩
  · exact .inl q
  · exact .inr q
/-- a new instance on top -/
theorem EnvOk.pushI {s : Sta} {σ : St} {Γ : List Slot} {x dx C : Addr} (E : EnvOk s σ Γ) (hx : s.H x = none) (hd : s.H dx = none) (hn : dx ≠ x) :
    ∃ s' : Sta, s'.H = upd (upd s.H dx (.own x)) x (.ins C dx []) ∧ EnvOk s' (σ ++ [some (.ref x)]) (Γ ++ [oi C [] x]) ∧ Evo s s' := by
  have s2 : Same s.H (upd (upd s.H dx (.own x)) x (.ins C dx [])) := fun a u h => by rw [upd_ne (ne_of_none h hx), upd_ne (ne_of_none h hd)]; exact h
  have key : ∀ i a, (if i = Γ.length then two x dx (.ins C dx []) (.own x) else s.F i) a ≠ none → (i = Γ.length ∧ (a = x ∨ a = dx)) ∨ (i ≠ Γ.length ∧ s.F i a ≠ none) := fun i a h => by
    by_cases q : i = Γ.length
    · rw [if_pos q] at h; exact .inl ⟨q, one_two h⟩
    · rw [if_neg q] at h; exact .inr ⟨q, h⟩
  have fr : ∀ a, a = x ∨ a = dx → s.H a = none := fun a h => h.elim (fun e => by rw [e]; exact hx) fun e => by rw [e]; exact hd
  have fp : ∀ i a, (a = x ∨ a = dx) → s.F i a = none := fun i a h => by
    cases e : s.F i a with
    | none => rfl
    | some u => have := E.subF i a u e; rw [fr a h] at this; cases this
  refine ⟨⟨s.B, upd (upd s.H dx (.own x)) x (.ins C dx []), fun i => if i = Γ.length then two x dx (.ins C dx []) (.own x) else s.F i⟩, rfl, ⟨fun a u h => s2 a u (E.sub a u h), fun i a u h => ?_, fun i a h => ?_, fun i j a h1 h2 => ?_, by simp [E.len], fun i S2 h => ?_, fun i h => ?_⟩, ⟨fun _ _ h => h, fun a u h _ => s2 a u h, fun a h => ?_, fun a h => .inl h, fun a i h => ?_⟩⟩
  · have h' : (if i = Γ.length then two x dx (.ins C dx []) (.own x) else s.F i) a = some u := h
    by_cases q : i = Γ.length
    · rw [if_pos q] at h'
      rcases two_some h' with ⟨e, rfl⟩ | ⟨e, e2, rfl⟩
      · rw [e]; exact upd_same
      · show upd (upd s.H dx (.own x)) x (.ins C dx []) a = _
        rw [upd_ne e, e2]; exact upd_same
    · rw [if_neg q] at h'; exact s2 a u (E.subF i a u h')
  · rcases key i a h with ⟨q, r⟩ | ⟨q, r⟩
    · cases e : s.B a with
      | none => rfl
      | some u => have := E.sub a u e; rw [fr a r] at this; cases this
    · exact E.dis i a r
  · rcases key i a h1 with ⟨q, r⟩ | ⟨q, r⟩
    · rcases key j a h2 with ⟨q', r'⟩ | ⟨q', r'⟩
      · omega
      · exact absurd (fp j a r) r'
    · rcases key j a h2 with ⟨q', r'⟩ | ⟨q', r'⟩
      · exact absurd (fp i a r') r
      · exact E.disF i j a r r'
  · show S2.p s.B (if i = Γ.length then two x dx (.ins C dx []) (.own x) else s.F i) _
    by_cases hi : i < Γ.length
    · rw [List.getElem?_append_left hi] at h
      rw [List.getElem?_append_left (by rw [E.len]; exact hi), if_neg (by omega)]
      exact E.sl i S2 h
    · have hl := (List.getElem?_eq_some_iff.mp h).1
      simp at hl
      have e : i = Γ.length := by omega
      subst e
      have h2 : (Γ ++ [oi C [] x])[Γ.length]? = some (oi C [] x) := by simp
      rw [h2] at h; cases h
      have h3 : (σ ++ [some (V.ref x)])[Γ.length]? = some (some (.ref x)) := by rw [← E.len]; simp
      rw [join_get h3, if_pos rfl]
      exact ⟨rfl, dx, [], hn, rfl, .nil⟩
  · show (if i = Γ.length then two x dx (.ins C dx []) (.own x) else s.F i) = em
    simp at h
    rw [if_neg (by omega)]
    exact E.out i (by omega)
  · obtain ⟨u, e⟩ := ex_of_ne h
    show upd (upd s.H dx (.own x)) x (.ins C dx []) a ≠ none
    rw [s2 a u e]; simp
  · rcases key i a h with ⟨q, r⟩ | ⟨q, r⟩
    · exact .inl (fr a r)
    · exact .inr ⟨i, r⟩
section
variable {A : Type} {pre : A → Prop} {W0 W1 : A → Addr → Slot} {Gr : A → List Slot} {S : A → Slot}
/-- a call of such a def by values: the owned argument first -/
theorem n_callM (x : A) (hx : pre x) {p : Addr} {Ss : List Slot} (hG : Ss = Gr x) {s : Sta} {σ : St} {Γ : List Slot} [HasTab Γ] {vs : List V} (hl : σ.length = Γ.length) (E : EnvOk s (σ ++ ([some (.ref p)] ++ vs.map some)) (Γ ++ ([W0 x p] ++ Ss))) {Q : VK}
    (hQ : ∀ v s', EnvOk s' ((σ ++ [some (.ref p)]) ++ [some v]) ((Γ ++ [W1 x p]) ++ [S x]) → Evo s s' → Q v s'.H) : spM pre W0 Gr W1 S (.ref p :: (vs ++ [])) s.H Q E0 := by
  rw [List.append_nil]
  obtain ⟨sc, hH, Ec, back⟩ := handT hl E
  refine ⟨x, p, sc, hH, hx, by rw [← hG]; simpa using Ec, fun v s' E' e' => ?_⟩
  obtain ⟨s'', h'', E'', e''⟩ := back [some (.ref p), some v] [W1 x p, S x] s' E' e'
  have q := hQ v s'' (by simpa using E'') e''
  rw [h''] at q
  exact q
/-- C(e, ..), its __init__ a def of the text -/
theorem x_make {X : Cx} {C : Addr} {k : Nat} {f : Addr} {fd : FuncData} {ps : List Str} {fx : Str} {p pos : Pos} {e : Expr} {es : List Expr} {Γ Γ1 Ss : List Slot} (M : Mk X.K C f) (F : FnOk X.prog X.w X.K X.mg X.base CX0 k f fd ps (spM pre W0 Gr W1 S)) (hr : Room (k + 1) X.A) (hm : X.mg fx = some (.ref C))
    (hb : Binds X.K fd ps []) (x : A) (hx : pre x) (ha : EA X (e :: es) Γ Ss Γ1) (hG : Ss = Gr x) (h0 : W0 x = oi C []) (hS : S x = pu tN ()) (hg : Gl X fx := by rfl) (hdb : (fx == ("__debug__" : Str)) = false := by decide)
    (he : starEach (e :: es) X.env = (false, eval e X.env) :: starEach es X.env := by rfl) (hpl : (backTo pos (starEach es X.env)).any (·.1) = false := by rfl) : EX X (.Call (.Name fx p) (e :: es) [] pos) Γ (exS (W1 x)) Γ1 := by
  (first | refine ⟨?_⟩ | skip); intro T _ τ σ s hl E Q hQ
  refine re_of (pe_make M F hr hg hm hb .nil pass0 paR hdb he hpl) ?_
  refine ha T τ σ s hl E _ fun vs s1 E1 l1 lv e1 => ?_
  intro y dx hy hdx hn
  obtain ⟨s2, h2, E2, e2⟩ := E1.pushI (C := C) hy hdx hn
  rw [← h2]
  have hl2 : (σ ++ τ).length = (Γ1 ++ T).length := by have := E1.len; simp at this ⊢; omega
  have E2' : EnvOk s2 ((σ ++ τ) ++ (vs.map some ++ [some (.ref y)])) ((Γ1 ++ T) ++ (Ss ++ [oi C [] y])) := by simpa using E2
  obtain ⟨s3, h3, E3, e3⟩ := E2'.rot hl2
  rw [← h3]
  rw [← h0] at E3
  refine n_callM x hx hG hl2 E3 fun v s4 E4 e4 => ?_
  rw [hS] at E4
  have hv : v = .non := pu_top E4
  obtain ⟨E5, e5⟩ := E4.pop
  obtain ⟨s6, h6, E6, e6⟩ := E5.freezeTop' (S' := exS (W1 x)) fun B F q => ⟨y, q⟩
  have q := hQ (.ref y) _ E6 l1 (((((e1.trans e2).trans e3).trans e4).trans e5).trans e6)
  rw [h6] at q
  exact ⟨hv, q⟩
/-- an owned instance whose fields are pure goes over into the pure region -/
theorem x_frzI {X : Cx} {e : Expr} {Γ Γ1 : List Slot} {C : Addr} {fs : List (Str × Fld)} {fl : α → List (Str × Fld)} {a : α} (h : EX X e Γ (exS (oi C fs)) Γ1) (hf : fs = fl a) : EX X e Γ (pu (tObj C fl) a) Γ1 := by
  (first | refine ⟨?_⟩ | skip); intro T _ τ σ s hl E Q hQ
  refine h T τ σ s hl E Q fun v s1 E1 l1 e1 => ?_
  have ht := E1.top
  obtain ⟨s2, h2, E2, e2⟩ := E1.freezeTop (S' := pu (tObj C fl) a) fun B' k1 k2 => by
    obtain ⟨x, eo, dx, vs, nd, f, r⟩ := ht
    rw [f] at k2
    exact ⟨rfl, _, eo, x, dx, vs, rfl, k2 _ _ two_x, k2 _ _ (two_dx nd), by rw [← hf]; exact fldsOk_mono k1 r⟩
  have q := hQ v _ E2 l1 (e1.trans e2)
  rw [h2] at q
  exact q
/-- a def keeps such a promise -/
theorem fn_okM {P : Program} {w : World} {K : PySem.W.Frag} {mg : Str → Option Value} {base : Heap} {fx qual : Str} {st : Stmt} {f : Addr} {fd : FuncData} {N ps : List Str} {k : Nat} (F : Fun K fx qual st f fd) (sc : FnScope N ps (defScope st)) (hG : ∀ x, (Gr x).length + 1 = ps.length)
    (g0 : ∀ x, Gho (W0 x)) (g1 : ∀ x, Gho (W1 x))
    (hb : ∀ (X : Cx) (x : A) (p : Addr), (∃ cdv A outer s H E, X = (cxOf CX0 P w K mg base N qual (defScope st) f cdv A outer s H E).nox) → Room k X.A → pre x → SX X (defBody st) ((W0 x p :: Gr x) ++ List.replicate (N.length - ps.length) un) (fun r => (∃ Γ', r = .rt (W1 x p :: Γ') (S x)) ∨ (∃ Γ', r = .nx (W1 x p :: Γ') ∧ ∀ B, (S x).p B em (some .non)))) :
    FnOk P w K mg base CX0 (k + 1) f fd ps (spM pre W0 Gr W1 S) := by
  refine F.ok sc (fun vs H Q E h => ?_) (fun cdv A outer s H vs Q E hr h => ?_)
  · obtain ⟨x, p, s, _, _, E1, _⟩ := h
    have := E1.len
    simp at this
    rw [this, hG]
  · obtain ⟨x, p, s1, rfl, hx, E1, q⟩ := h
    have hlv : vs.length = ps.length := by have := E1.len; simp at this; rw [this, hG]
    obtain ⟨s2, h2, E2, e2⟩ := E1.pads1 (N.length - ps.length)
    have hst : L2.start N vs = vs.map some ++ List.replicate (N.length - ps.length) none := by
      unfold L2.start
      rw [hlv]
    rw [← hst] at E2
    rw [← h2]
    have first : ∀ {σ' : St} {Γ' : List Slot} {s' : Sta} {τ : St} {T : List Slot}, σ'.length = (W1 x p :: Γ').length → EnvOk s' (σ' ++ τ) ((W1 x p :: Γ') ++ T) → ∃ σ2, σ' = some (.ref p) :: σ2 := fun {σ' Γ' s' τ T} hl E' => by
      have h1 := E'.sl 0 (W1 x p) rfl
      have h2 := g1 x p _ _ _ h1
      match σ', hl with
      | o :: σ2, _ =>
        have : o = some (.ref p) := h2
        rw [this]
        exact ⟨σ2, rfl⟩
    have hb' := hb _ x p ⟨cdv, A, outer, s, s2.H, E, rfl⟩ hr hx [tabS] [none] (L2.start N vs) s2 (by rw [hst]; simp [hlv]; have := hG x; omega) E2 { nx := fun _ H' => Q .non H', rt := Q } fun r hr => ?_
    · exact ⟨_, pssR, hb'⟩
    · have fin : ∀ {σ' : St} {Γ' : List Slot} {v : V} {s' : Sta}, σ'.length = (W1 x p :: Γ').length → EnvOk s' ((σ' ++ [none]) ++ [some v]) (((W1 x p :: Γ') ++ [tabS]) ++ [S x]) → Evo s2 s' → Q v s'.H := fun {σ' Γ' v s'} l' E' e' => by
        rw [List.append_assoc, List.append_assoc] at E'
        obtain ⟨σ2, rfl⟩ := first l' E'
        have E'' : EnvOk s' ([some (.ref p)] ++ (σ2 ++ ([none] ++ [some v]))) ([W1 x p] ++ (Γ' ++ ([tabS] ++ [S x]))) := by simpa using E'
        obtain ⟨s3, E3, e3, h3, _⟩ := E''.mid rfl (by simpa using l')
        obtain ⟨s4, h4, E4, e4⟩ := E3.rot rfl
        have q1 := q v s4 E4 (((e2.trans e').trans e3).trans e4)
        rw [h4, h3] at q1
        exact q1
      rcases hr with ⟨Γ', rfl⟩ | ⟨Γ', rfl, hn⟩
      · intro σ' v s' l' E' e'
        exact fin l' E' e'
      · intro σ' s' l' E' e'
        exact fin l' (E'.push0 (o := some .non) (S x) (hn _)) e'
end
end Fw
namespace Fw
open PySem L2
variable [Tb]
variable {α β γ δ ε ρ κ θ : Type}
/-! ## results told by a value -/
def RetP (S : θ → Slot) (a : θ) (r : Res) : Prop := ∃ Γ', r = .rt Γ' (S a)
def elimS (A : κ → θ) (B : ρ → θ) : Sum κ ρ → θ
  | .inl s => A s
  | .inr q => B q
section
variable {X : Cx} {e c tg iter : Expr} {st : Stmt} {sts t u body : List Stmt} {pos : Pos} {Γ Γ1 Γ2 Γ' : List Slot} {b : Bool} {wi : TI} {g : TG} {R : Ty α} {xs : List α} {f : List Slot → α → List Slot} {is : List Nat}
theorem x_val {y z : α} (h : EX X e Γ (pu R y) Γ1) (hy : y = z) : EX X e Γ (pu R z) Γ1 := hy ▸ h
theorem x_valo {ys zs : List α} (h : EX X e Γ (ol R ys) Γ1) (hy : ys = zs) : EX X e Γ (ol R zs) Γ1 := hy ▸ h
/-- an if that leaves, the rest behind -/
theorem f_ifr {P : θ → Res → Prop} {A B : θ} (hc : ET X c Γ b Γ1) (h1 : b = true → SX X t Γ1 (fun r => P A r ∧ ¬ isNx r)) (h2 : b = false → SX X sts Γ1 (P B)) : SX X (.If c t [] pos :: sts) Γ (P (if b = true then A else B)) := by
  cases b with
  | true => exact sx_ifr hc h1 (fun z => by cases z)
  | false => exact sx_ifr hc (fun z => by cases z) h2
/-- a for that always goes on -/
theorem f_for {P : Res → Prop} (hp : PassesOwn (model X.prog X.w) X.A X.env X.xe) (hc : X.calm = true) (iw : IW X tg iter wi Γ R xs Γ1) (hg : PG X tg g) (ht : TGT g R is Γ.length f)
    (G : κ → List Slot) (step : κ → α → κ) (s0 sE : κ) (hE : xs.foldl step s0 = sE) (hlen : ∀ s, (G s).length = Γ.length) (h0 : Wk Γ1 (G s0))
    (hb : ∀ (i : Nat) (x : α) (s : κ), xs[i]? = some x → (xs.take i).foldl step s0 = s → xs.length ≤ sizeLine → SX X body (f (G s) x) (fun r => ∃ Γ', (r = .nx Γ' ∨ r = .ct Γ') ∧ Wk Γ' (G (step s x))))
    (h : SX X sts (G sE) P) (hs : ∀ x, foldedSetIterable iter X.env x = pure x := by intro _; rfl) : SX X (.For tg iter body [] pos :: sts) Γ P :=
  sx_for hp hc iw hg ht G step s0 hlen h0 (fun i x hx hz => hb i x _ hx rfl hz) (by rw [hE]; exact h) hs
/-- a for that may be left -/
theorem f_forR {P : θ → Res → Prop} {Pq : ρ → Res → Prop} (A : κ → θ) (B : ρ → θ) (hp : PassesOwn (model X.prog X.w) X.A X.env X.xe) (hc : X.calm = true) (iw : IW X tg iter wi Γ R xs Γ1) (hg : PG X tg g) (ht : TGT g R is Γ.length f)
    (G : κ → List Slot) (step : κ → α → Lp κ ρ) (s0 : κ) (hlen : ∀ s, (G s).length = Γ.length) (h0 : Wk Γ1 (G s0))
    (hb : ∀ (i : Nat) (x : α) (s : κ), xs[i]? = some x → goL step s0 (xs.take i) = some s → xs.length ≤ sizeLine → SX X body (f (G s) x) (Turn1 G Pq (step s x)))
    (h1 : ∀ s, runL step s0 xs = .inl s → SX X sts (G s) (P (A s))) (h2 : ∀ q r, Pq q r → P (B q) r)
    (hs : ∀ x, foldedSetIterable iter X.env x = pure x := by intro _; rfl) : SX X (.For tg iter body [] pos :: sts) Γ (P (elimS A B (runL step s0 xs))) := by
  refine sx_forR (S := fun _ => un) hp hc iw hg ht G step Pq s0 hlen h0 hb (fun s hr => ?_) (fun q hr r hq => ?_) hs
  · rw [hr]; exact h1 s hr
  · rw [hr]; exact h2 q r hq
theorem f_nx {P : Res → Prop} (h : P (.nx Γ)) : SX X [] Γ P := sx_nil h
end
/-! ## sequences of any kind -/
def tQ (K : PySem.W.Frag) (R : Ty α) : Ty (List α) := ⟨fun B v xs => ∃ a vs, v = .ref a ∧ (SqL K B a vs ∨ SqT K B a vs) ∧ Paired (R.rep B) vs xs,
  fun s h => let ⟨a, vs, e, q, r⟩ := h; ⟨a, vs, e, same_or s q, paired_mono (fun _ _ z => R.mono s z) r⟩⟩
theorem saQ {K : PySem.W.Frag} {R : Ty α} : SeqA K (tQ K R) R := ⟨fun h => h⟩
section
variable {X : Cx} {e tg iter : Expr} {Γ Γ1 : List Slot} {R : Ty α} {S : Ty (List α)} {xs : List α}
theorem x_q (q : SeqA X.K S R) (h : EX X e Γ (pu S xs) Γ1) : EX X e Γ (pu (tQ X.K R) xs) Γ1 := x_sub h fun _ _ z => q.get z
def iSeq (K : PySem.W.Frag) (tl : TE) : TI := fun σ H Rr => tl σ H fun x H1 => ∃ a, x = .ref a ∧ ((∃ xs, SqL K H1 a xs ∧ Rr (Itl K a) H1) ∨ (∃ xs, SqT K H1 a xs ∧ Rr (Itt K a) H1))
theorem pi_seq {l : Expr} {tl : TE} (hl : PE X l tl) : PI X tg l (iSeq X.K tl) := by
  refine ⟨fun pins s σ H Rr I h => ?_⟩
  refine thn (hl.run pins s σ H _ I h) fun v s1 ⟨x, H1, I1, r1, a, e, q1⟩ => ?_
  subst e
  cases r1
  rcases q1 with ⟨xs, hq, q⟩ | ⟨xs, hq, q⟩
  · obtain ⟨its, rv, p, hz⟩ := I1.list hq
    refine wpAny_pyIter_list p.isList ⟨s1.heap.objs.size, [s1.heap.objs.size], _, _, H1, rfl, I1.kept (t' := s1.toks) fun b o e => Heap.get?_push_of_some _ e, turn_list a _, ⟨_, Heap.get?_push_size _ rfl, rfl, rfl⟩, fun b hb => ?_, q⟩
    rw [List.mem_singleton.mp hb]
    exact I1.fpOk (Nat.le_refl _) (I1.hok.fresh (Nat.le_refl _))
  · obtain ⟨its, rv, p, hz⟩ := I1.tuple hq
    refine wpAny_pyIter_tuple (show s1.heap.IsTuple a its.toArray from p) ⟨s1.heap.objs.size, [s1.heap.objs.size], _, _, H1, rfl, I1.kept (t' := s1.toks) fun b o e => Heap.get?_push_of_some _ e, turn_tuple a _, ⟨_, Heap.get?_push_size _ rfl, rfl, rfl⟩, fun b hb => ?_, q⟩
    rw [List.mem_singleton.mp hb]
    exact I1.fpOk (Nat.le_refl _) (I1.hok.fresh (Nat.le_refl _))
theorem w_seq (q : SeqA X.K S R) (he : EX X iter Γ (pu S xs) Γ1) : IW X tg iter (iSeq X.K (RE X iter)) Γ R xs Γ1 := by
  refine ⟨pi_seq peR, fun T _ τ σ s hl E Rr h => ?_⟩
  refine he.sz hl E fun v s1 E1 l1 e1 z => ?_
  obtain ⟨a, vs, e, w, r⟩ := q.get (pu_top E1)
  have hz := seq_size q (pu_top E1) E1.sub z
  subst e
  have hlen : vs.length = xs.length := paired_len r
  obtain ⟨E2, e2⟩ := E1.pop
  rcases w with w | w
  · have E3 := E2.push0 (o := some (.ref a)) (pl X.K R a vs xs) ⟨rfl, rfl, w, r⟩
    have q1 := h (Itl X.K a) _ _ [some (.ref a)] [pl X.K R a vs xs] _ (by rw [← hlen]; exact walk_list) E3 l1 rfl (e1.trans e2) hz (fun σ2 Γ2 ρ Ps s2 h2 E2 => ?_) (fun i x H' σ2 Γ2 ρ Ps s2 hi y h2 E2 => ?_)
    · exact ⟨a, rfl, .inl ⟨vs, Same.seq E1.sub w, q1⟩⟩
    · obtain ⟨_, _, w', _⟩ := mid_top E2 h2
      exact Same.seq E2.sub w'
    · obtain ⟨rfl, hx⟩ := y
      obtain ⟨_, _, w', r'⟩ := mid_top E2 h2
      obtain ⟨y, hy, ry⟩ := paired_getV r' hx
      exact ⟨y, s2, hy, rfl, E2.push0 _ ⟨rfl, x, rfl, ry⟩, Evo.refl s2⟩
  · have E3 := E2.push0 (o := some (.ref a)) (pt X.K R a vs xs) ⟨rfl, rfl, w, r⟩
    have q1 := h (Itt X.K a) _ _ [some (.ref a)] [pt X.K R a vs xs] _ (by rw [← hlen]; exact walk_tup) E3 l1 rfl (e1.trans e2) hz (fun σ2 Γ2 ρ Ps s2 h2 E2 => ?_) (fun i x H' σ2 Γ2 ρ Ps s2 hi y h2 E2 => ?_)
    · exact ⟨a, rfl, .inr ⟨vs, same_sqt E1.sub w, q1⟩⟩
    · obtain ⟨_, _, w', _⟩ := mid_top E2 h2
      exact same_sqt E2.sub w'
    · obtain ⟨rfl, hx⟩ := y
      obtain ⟨_, _, w', r'⟩ := mid_top E2 h2
      obtain ⟨y, hy, ry⟩ := paired_getV r' hx
      exact ⟨y, s2, hy, rfl, E2.push0 _ ⟨rfl, x, rfl, ry⟩, Evo.refl s2⟩
/-! ## comprehensions, their value as told -/
theorem lc_all {xs : List α} {k : α → β} : (xs.filter (fun _ => true)).map k = xs.map k := by rw [List.filter_eq_self.mpr (fun _ _ => rfl)]
theorem lc_fid {xs : List α} {p : α → Bool} : (xs.filter p).map (fun x => x) = xs.filter p := List.map_id' _
theorem lc_aid {xs : List α} : (xs.filter (fun _ => true)).map (fun x => x) = xs := by rw [lc_all]; exact List.map_id' _
theorem all_id {l : List α} {k : α → Bool} : (l.map k).all id = l.all k := by rw [List.all_map]; rfl
end
/-! ## isinstance -/
section
variable {K : PySem.W.Frag} {R : Ty α} {x : α} {b : Bool}
/-- a thing of this type has the type t at every place -/
def Typ (K : PySem.W.Frag) (R : Ty α) (t : Value) : Prop := ∀ {B H : Hp} {v : V} {a : α}, R.rep B v a → Same B H → TyX K H v t
theorem typ_tT : Typ K (tT K R) (.type "tuple") := fun {B H v a} h s => by
  obtain ⟨p, vs, e, q, r⟩ := h
  subst e
  rcases q with (q | ⟨o, q⟩) | ⟨o, its, n, q, hc, _⟩
  · exact .base (.tup (s _ _ q))
  · exact .fTuple (s _ _ q)
  · exact .kTuple q hc
theorem typ_tI : Typ K tI (.type "int") := fun {B H v a} h s => by rw [show v = V.int a from h]; exact .base (.int _)
theorem typ_tB : Typ K tB (.type "bool") := fun {B H v a} h s => by rw [show v = V.bl a from h]; exact .base (.bl _)
/-- a class as a value -/
def tC1 (c : V) : Ty Unit := ⟨fun _ v _ => v = c, fun _ h => h⟩
theorem n_isi {t u : Value} {c : V} (ht : Typ K R t) (hc : ClsV c u) (hk : PySem.W.kitOne K t u = some b) : OpN (rIsi K) [pu R x, pu (tC1 c) ()] (pu tB b) :=
  opN_2 (op2_val fun B H v w s h1 h2 Q k => ⟨v, w, t, u, b, rfl, by rw [show w = c from h2]; exact hc, ht h1 s, hk, k _ rfl⟩)
end
theorem x_ty {X : Cx} {x : Str} {n : String} {pos : Pos} {Γ : List Slot} (hm : X.mg x = none) (hv : bootBuiltins x = some (.type n)) (hg : Gl X x := by rfl) (hn : x ≠ "__name__" := by decide) (hd : (x == ("__debug__" : Str)) = false := by decide) : EX X (.Name x pos) Γ (pu (tC1 (.ty n)) ()) Γ :=
  x_c (t := tC (.ty n)) (pe_bltn (v := V.ty n) hg hm hv rfl hn hd) fun _ => rfl
theorem x_cls {X : Cx} {x : Str} {C : Addr} {pos : Pos} {Γ : List Slot} (hm : X.mg x = some (.ref C)) (hg : Gl X x := by rfl) (hd : (x == ("__debug__" : Str)) = false := by decide) : EX X (.Name x pos) Γ (pu (tC1 (.ref C)) ()) Γ :=
  x_c (t := tC (.ref C)) (pe_glob (v := V.ref C) hg hm rfl hd) fun _ => rfl
/-! ## slices of lists -/
theorem w_at {xs : List α} {i : Nat} {x : α} (h : xs[i]? = some x) : i < xs.length ∧ x ∈ xs := ⟨(List.getElem?_eq_some_iff.mp h).1, List.mem_of_getElem? h⟩
/-- a list that grows at most by c a turn -/
theorem foldl_len (pr : κ → List β) (c : Nat) (step : κ → α → κ) (h : ∀ s x, (pr (step s x)).length ≤ (pr s).length + c) : ∀ (xs : List α) (s : κ), (pr (xs.foldl step s)).length ≤ (pr s).length + c * xs.length
  | [], s => by simp
  | x :: r, s => by
    have h1 := foldl_len pr c step h r (step s x)
    have h2 := h s x
    simp only [List.foldl_cons, List.length_cons]
    rw [Nat.mul_add]
    omega
/-- the law's own argument -/
theorem sp_law {K : PySem.W.Frag} {pre : List Int → Prop} {m : List Int → Bool} {H : Hp} {a : Addr} {ns : List Int} (hp : pre ns) (hS : SqL K H a (ns.map V.int)) (hT : ∀ p ∈ Tb.tt, H p.1 = some (.tbl #[])) (hm : m ns = true) : spP pre (fun x => [pu (tL K tI) x]) (fun x => pu tB (m x)) [.ref a] H (fun v _ => v = .bl true) (fun _ _ _ => False) := by
  have hin : ∀ b, b ∈ Tb.tt.map (·.1) → H b = some (.tbl #[]) := fun b hb => by
    obtain ⟨p, hp, e⟩ := List.mem_map.mp hb
    rw [← e]; exact hT p hp
  have hS' : SqL K (fun b => if b ∈ Tb.tt.map (·.1) then none else H b) a (ns.map V.int) := by
    have key : ∀ o, H a = some o → (∀ ps, o ≠ .tbl ps) → (if a ∈ Tb.tt.map (·.1) then none else H a) = some o := fun o h n => by
      rw [if_neg]
      · exact h
      · intro z
        rw [hin a z] at h
        exact n _ (Option.some.inj h).symm
    rcases hS with (h | ⟨o, h⟩) | h
    · exact .inl (.inl (key _ h fun _ z => by cases z))
    · exact .inl (.inr ⟨o, key _ h fun _ z => by cases z⟩)
    · exact .inr h
  refine ⟨ns, ⟨fun b => if b ∈ Tb.tt.map (·.1) then none else H b, H, fun i => if i = 1 then (fun b => if b ∈ Tb.tt.map (·.1) then H b else none) else em⟩, rfl, hp, ⟨fun b u h => ?_, fun i b u h => ?_, fun i b h => ?_, fun i j b h1 h2 => ?_, rfl, fun i S h => ?_, fun i h => ?_⟩, fun v s' E e => ?_⟩
  · have h' : (if b ∈ Tb.tt.map (·.1) then none else H b) = some u := h
    by_cases q : b ∈ Tb.tt.map (·.1)
    · rw [if_pos q] at h'; cases h'
    · rw [if_neg q] at h'; exact h'
  · by_cases q1 : i = 1
    · have h' : (if i = 1 then (fun b => if b ∈ Tb.tt.map (·.1) then H b else none) else em) b = some u := h
      rw [if_pos q1] at h'
      by_cases q : b ∈ Tb.tt.map (·.1)
      · have h2 := (if_pos q).symm.trans h'
        exact h2
      · have h2 := (if_neg q).symm.trans h'
        cases h2
    · have h' : (if i = 1 then (fun b => if b ∈ Tb.tt.map (·.1) then H b else none) else em) b = some u := h
      rw [if_neg q1] at h'; cases h'
  · have h' : (if i = 1 then (fun b => if b ∈ Tb.tt.map (·.1) then H b else none) else em) b ≠ none := h
    by_cases q1 : i = 1
    · rw [if_pos q1] at h'
      by_cases q : b ∈ Tb.tt.map (·.1)
      · exact if_pos q
      · exact absurd (if_neg q) h'
    · rw [if_neg q1] at h'; exact absurd rfl h'
  · have key : ∀ k, (if k = 1 then (fun b => if b ∈ Tb.tt.map (·.1) then H b else none) else em) b ≠ none → k = 1 := fun k h => by
      by_cases q1 : k = 1
      · exact q1
      · rw [if_neg q1] at h; exact absurd rfl h
    rw [key i h1, key j h2]
  · have hi := (List.getElem?_eq_some_iff.mp h).1
    match i, hi with
    | 0, _ => cases h; exact ⟨rfl, .ref a, rfl, a, _, rfl, hS', paired_of_int ns⟩
    | 1, _ =>
      cases h
      refine ⟨rfl, fun p hp => LamX.TabS.nil ?_⟩
      have q : p.1 ∈ Tb.tt.map (·.1) := List.mem_map.mpr ⟨p, hp, rfl⟩
      exact (if_pos q).trans (hT p hp)
  · have : ¬ i = 1 := by have h' : 2 ≤ i := h; omega
    exact if_neg this
  · obtain ⟨_, u, eu, h⟩ := E.sl 0 _ rfl
    have eu' : some v = some u := eu
    cases eu'
    have h' : v = .bl (m ns) := h
    rw [hm] at h'
    exact h'
end Fw
namespace Fw
open PySem L2
variable [Tb]
variable {α β γ δ ε ρ κ θ : Type}
section
variable {X : Cx} {e c a b tg iter elt : Expr} {ifs : List Expr} {st : Stmt} {sts t u body : List Stmt} {pos p : Pos} {Γ Γ1 Γ2 Γ' : List Slot} {k : Bool} {P : Res → Prop}
/-- both ways go on; what they change is told by A and B -/
theorem f_ifJ (G : κ → List Slot) (sJ : κ) {A B : κ} (hc : ET X c Γ k Γ1) (hJ : (if k = true then A else B) = sJ) (h1 : k = true → SX X t Γ1 (fun r => ∃ Γ', r = .nx Γ' ∧ Wk Γ' (G A))) (h2 : k = false → SX X u Γ1 (fun r => ∃ Γ', r = .nx Γ' ∧ Wk Γ' (G B)))
    (h : SX X sts (G sJ) P) : SX X (.If c t u pos :: sts) Γ P := by
  subst hJ
  cases k with
  | true => exact sx_if hc h1 (fun z => by cases z) h
  | false => exact sx_if hc (fun z => by cases z) h2 h
theorem x_some {R : Ty α} {x : α} (hn : ∀ B v, R.rep B v x → v ≠ .non) (h : EX X e Γ (pu R x) Γ1) : EX X e Γ (pu (tO R) (some x)) Γ1 := x_sub h fun B v z => ⟨z, hn B v z⟩
theorem nn_L {K : PySem.W.Frag} {R : Ty α} {x : List α} : ∀ B v, (tLs K R).rep B v x → v ≠ .non := fun _ v ⟨_, _, e, _⟩ z => by rw [e] at z; cases z
theorem nn_Ob {C : Addr} {fl : α → List (Str × Fld)} {x : α} : ∀ B v, (tObj C fl).rep B v x → v ≠ .non := fun _ v ⟨_, _, _, e, _⟩ z => by rw [e] at z; cases z
/-! tuples put together -/
/-! slices of lists -/
theorem ex_sl {r : V → Option Int → Option Int → Hp → VK → Prop} {S S' : Slot} {lo hi : Option Expr} {p2 : Pos} (hs : SlR X r) {l u : Option Int} (ha : EX X a Γ S Γ1)
    (hl : ∃ tl, PO X lo tl ∧ ∀ (T : List Slot) [HasTab T] (τ σ : St) (s : Sta), σ.length = Γ1.length → EnvOk s (σ ++ τ) (Γ1 ++ T) → ∀ Q : Option Int → Hp → Prop, (∀ s', EnvOk s' (σ ++ τ) (Γ1 ++ T) → Evo s s' → Q l s'.H) → tl σ s.H Q)
    (hu : ∃ tu, PO X hi tu ∧ ∀ (T : List Slot) [HasTab T] (τ σ : St) (s : Sta), σ.length = Γ1.length → EnvOk s (σ ++ τ) (Γ1 ++ T) → ∀ Q : Option Int → Hp → Prop, (∀ s', EnvOk s' (σ ++ τ) (Γ1 ++ T) → Evo s s' → Q u s'.H) → tu σ s.H Q)
    (hr : Op1 (fun v H Q => r v l u H Q) S S') : EX X (.Subscript a (.Slice lo hi none p2) pos) Γ S' Γ1 := by
  (first | refine ⟨?_⟩ | skip); intro T _ τ σ s hlen E Q hQ
  obtain ⟨tl, pl, hl⟩ := hl
  obtain ⟨tu, pu', hu⟩ := hu
  refine re_of (pe_slice hs peR pl pu') ?_
  refine ha T τ σ s hlen E _ fun v s1 E1 l1 e1 => ?_
  rw [List.append_assoc, List.append_assoc] at E1
  refine hl _ _ σ s1 (by omega) E1 _ fun s2 E2 e2 => ?_
  refine hu _ _ σ s2 (by omega) E2 _ fun s3 E3 e3 => ?_
  rw [← List.append_assoc, ← List.append_assoc] at E3
  exact hr (σ ++ τ) (Γ1 ++ T) s3 v E3 Q fun v' s4 E4 e4 => hQ v' s4 E4 l1 (((e1.trans e2).trans e3).trans e4)
theorem po_no : ∃ tl, PO X none tl ∧ ∀ (T : List Slot) [HasTab T] (τ σ : St) (s : Sta), σ.length = Γ1.length → EnvOk s (σ ++ τ) (Γ1 ++ T) → ∀ Q : Option Int → Hp → Prop, (∀ s', EnvOk s' (σ ++ τ) (Γ1 ++ T) → Evo s s' → Q none s'.H) → tl σ s.H Q :=
  ⟨_, po_none, fun T _ τ σ s hl E Q h => h s E (Evo.refl s)⟩
theorem po_i {i : Int} (h : EX X e Γ1 (pu tI i) Γ1) : ∃ tl, PO X (some e) tl ∧ ∀ (T : List Slot) [HasTab T] (τ σ : St) (s : Sta), σ.length = Γ1.length → EnvOk s (σ ++ τ) (Γ1 ++ T) → ∀ Q : Option Int → Hp → Prop, (∀ s', EnvOk s' (σ ++ τ) (Γ1 ++ T) → Evo s s' → Q (some i) s'.H) → tl σ s.H Q :=
  ⟨_, po_some peR, fun T _ τ σ s hl E Q hQ => h T τ σ s hl E _ fun v s1 E1 l1 e1 => by
    have hv : v = .int i := pu_top E1
    obtain ⟨E2, e2⟩ := E1.pop
    have q := hQ _ E2 (e1.trans e2)
    exact ⟨i, hv, q⟩⟩
theorem cut_drop {xs : List α} {vs : List V} {F : V → α → Prop} {i : Int} (r : Paired F vs xs) (h0 : 0 ≤ i) : Paired F (cutV vs (some i) none) (xs.drop i.toNat) := by
  obtain ⟨n, rfl⟩ : ∃ n : Nat, i = (n : Int) := ⟨i.toNat, by omega⟩
  unfold cutV
  rw [HT.sIx_nat, HT.sIx_none, Int.toNat_natCast]
  have e : (List.drop (min n vs.length) vs).take (vs.length - min n vs.length) = vs.drop n := by
    by_cases q : n ≤ vs.length
    · rw [Nat.min_eq_left q, List.take_of_length_le (by simp)]
    · rw [Nat.min_eq_right (by omega), List.drop_of_length_le (Nat.le_refl _), List.drop_of_length_le (by omega)]; simp
  rw [e]
  exact paired_drop n r
theorem cut_take {xs : List α} {vs : List V} {F : V → α → Prop} {i : Int} (r : Paired F vs xs) (h0 : 0 ≤ i) : Paired F (cutV vs none (some i)) (xs.take i.toNat) := by
  obtain ⟨n, rfl⟩ : ∃ n : Nat, i = (n : Int) := ⟨i.toNat, by omega⟩
  unfold cutV
  rw [HT.sIx_nat, HT.sIx_none, Int.toNat_natCast, List.drop_zero, Nat.sub_zero]
  have e : vs.take (min n vs.length) = vs.take n := by
    by_cases q : n ≤ vs.length
    · rw [Nat.min_eq_left q]
    · rw [Nat.min_eq_right (by omega), List.take_of_length_le (Nat.le_refl _), List.take_of_length_le (by omega)]
  rw [e]
  exact paired_take n r
theorem o_slL {K : PySem.W.Frag} {R : Ty α} {S : Ty (List α)} {xs ys : List α} {l u : Option Int} (q : SeqL K S R) (h : ∀ (F : V → α → Prop) vs, Paired F vs xs → Paired F (cutV vs l u) ys) : Op1 (fun v H Q => rSlL K v l u H Q) (pu S xs) (ol R ys) := by
  intro σ Γ s v E Q hQ
  obtain ⟨a, vs, e, z, r⟩ := q.get (pu_top E)
  obtain ⟨E2, e2⟩ := E.pop
  refine ⟨a, vs, e, Same.seq E.sub z, fun p hp => ?_⟩
  obtain ⟨E4, e4⟩ := E2.pushO (o := some (.ref p)) (ob := .lst (cutV vs l u)) hp (ol R ys) ⟨p, _, rfl, rfl, h _ _ r⟩
  exact hQ _ _ E4 (e2.trans e4)
theorem x_drop {R : Ty α} {S : Ty (List α)} {xs : List α} {i : Int} {p2 : Pos} (q : SeqL X.K S R) (ha : EX X a Γ (pu S xs) Γ1) (hb : EX X b Γ1 (pu tI i) Γ1) (h0 : 0 ≤ i) : EX X (.Subscript a (.Slice (some b) none none p2) pos) Γ (ol R (xs.drop i.toNat)) Γ1 :=
  ex_sl sl_list ha (po_i hb) po_no (o_slL q fun _ _ r => cut_drop r h0)
theorem x_take {R : Ty α} {S : Ty (List α)} {xs : List α} {i : Int} {p2 : Pos} (q : SeqL X.K S R) (ha : EX X a Γ (pu S xs) Γ1) (hb : EX X b Γ1 (pu tI i) Γ1) (h0 : 0 ≤ i) : EX X (.Subscript a (.Slice none (some b) none p2) pos) Γ (ol R (xs.take i.toNat)) Γ1 :=
  ex_sl sl_list ha po_no (po_i hb) (o_slL q fun _ _ r => cut_take r h0)
/-- tuple(range(n)) -/
theorem x_tupRange {n : Int} {p1 p2 : Pos} (hc : X.calm = true) (hm : X.mg "tuple" = none) (hm2 : X.mg "range" = none) (ha : EX X a Γ (pu tI n) Γ1) (hz : 0 ≤ n ∧ n ≤ 16777216) (hg : Gl X "tuple" := by rfl) (hg2 : Gl X "range" := by rfl)
    (na : starEach [a] X.env = (false, eval a X.env) :: starEach [] X.env := by rfl) (na2 : starEach [Expr.Call (.Name "range" p1) [a] [] p2] X.env = (false, eval (.Call (.Name "range" p1) [a] [] p2) X.env) :: starEach [] X.env := by rfl) :
    EX X (.Call (.Name "tuple" p) [.Call (.Name "range" p1) [a] [] p2] [] pos) Γ (pu (tT X.K tI) (rangeI 0 n)) Γ1 := by
  (first | refine ⟨?_⟩ | skip); intro T _ τ σ s hl E Q hQ
  refine re_of (pe_tupRg hc hg hm (prg_1 hg2 hm2 peR na) na2) ?_
  refine ha T τ σ s hl E _ fun v s1 E1 l1 e1 => ?_
  have hv : v = .int n := pu_top E1
  obtain ⟨E2, e2⟩ := E1.pop
  refine ⟨n, hv, RgOk.of_le (by omega) (by omega) (by omega) (by omega), fun q hq => ?_⟩
  obtain ⟨E4, e4⟩ := E2.push1 (o := some (.ref q)) (ob := .tup (rgV 0 n)) hq (pu (tT X.K tI) (rangeI 0 n)) fun k1 k2 => ⟨rfl, _, rfl, q, _, rfl, sqt_new k2, by
    have : rgV 0 n = (rangeI 0 n).map V.int := by unfold rgV rangeI; rw [List.map_map]; rfl
    rw [this]
    exact paired_of_int _⟩
  exact hQ _ _ E4 l1 ((e1.trans e2).trans e4)
end
section
variable {X : Cx} {elt tg iter : Expr} {ifs : List Expr} {scope : Scope} {own : List (Str × Nat)} {pos : Pos} {wi : TI} {g : TG} {Γ Γ1 : List Slot} {R : Ty α} {R' : Ty β} {xs : List α} {f : List Slot → α → List Slot} {v : List β}
/-- name = [..], its value as told -/
theorem s1_setLcV {i : Nat} {y : Str} {py spos : Pos} (hc : X.calm = true) (hN : X.N.Nodup) (hy : X.N[i]? = some y) (hyl : X.env.scope.names.lookup y = some .local)
    (hsw : swapsWith (.ListComp elt [⟨tg, iter, ifs, 0⟩] scope pos) (some (.Name y py)) spos.line X.env = pure true) (hG : i < Γ.length) (iw : IW X tg iter wi Γ R xs Γ1) (ok : BlkOk X.N X.env.scope scope own)
    (hg : ∀ (s : Shared) (H : Hp) (C : Addr) (cl : List (Str × Addr)) (fp : List Addr), PG (X.blk s H scope (compEnvC scope cl C X.env) fp) tg g) (ht : TGT g R (own.map (·.2)) Γ.length f) (p : α → Bool) (k : α → β)
    (hi' : ∀ s0 H0 C cl fp (i : Nat) (x : α), xs[i]? = some x → EIs (blkX X scope s0 H0 C cl fp) ifs (f (uns (own.map (·.2)) Γ1) x) (p x))
    (he : ∀ s0 H0 C cl fp (i : Nat) (x : α), xs[i]? = some x → p x = true → EX (blkX X scope s0 H0 C cl fp) elt (f (uns (own.map (·.2)) Γ1) x) (pu R' (k x)) (f (uns (own.map (·.2)) Γ1) x))
    (hv : (xs.filter p).map k = v)
    (hw0 : ∀ x, uns (own.map (·.2)) (f (uns (own.map (·.2)) Γ1) x) = uns (own.map (·.2)) Γ1 := by intro _; rfl)
    (hs : ∀ x, foldedSetIterable iter X.env x = pure x := by intro _; rfl) : S1 X (.Assign [.Name y py] (.ListComp elt [⟨tg, iter, ifs, 0⟩] scope pos) spos) Γ (fun r => r = .nx ((uns (own.map (·.2)) Γ1).set i (ol R' v))) := by
  subst hv
  exact s1_setLc hc hN hy hyl hsw hG iw ok hg ht p k hi' he hw0 hs
end
/-! ## a dependency with two sides -/
structure Sd where
  l : List Int
  r : List Int
deriving DecidableEq, Inhabited
def flSd (K : PySem.W.Frag) (d : Sd) : List (Str × Fld) := [("left", fld (tT K tI) d.l), ("right", fld (tT K tI) d.r)]
end Fw
namespace Fw
open PySem L2
variable [Tb]
variable {α β γ δ ε ρ κ θ : Type}
section
variable {X : Cx} {e c a b : Expr} {pos p : Pos} {Γ Γ1 Γ2 Γ' : List Slot}
theorem o_catA {K : PySem.W.Frag} {R : Ty α} {x y : List α} (hz : x.length + y.length ≤ sizeLine) : Op2 (rCatA K) (pu (tT K R) x) (pu (tT K R) y) (pu (tT K R) (x ++ y)) :=
  op2_new fun B H v u s h1 h2 Q k1 k2 => by
    obtain ⟨a, vs, e, z, r⟩ := h1
    obtain ⟨b, us, e2, z2, r2⟩ := h2
    refine ⟨a, b, vs, us, e, e2, same_sqt s z, same_sqt s z2, by rw [paired_len r, paired_len r2]; exact hz, fun hv => ?_, fun _ hu => ?_, fun _ _ p hp => ?_⟩
    · have : x = [] := by have := paired_len r; rw [hv] at this; exact List.eq_nil_of_length_eq_zero this.symm
      subst this
      exact k2 _ ⟨b, us, rfl, z2, r2⟩
    · have : y = [] := by have := paired_len r2; rw [hu] at this; exact List.eq_nil_of_length_eq_zero this.symm
      subst this
      rw [List.append_nil] at k2
      exact k2 _ ⟨a, vs, rfl, z, r⟩
    · exact k1 p _ hp fun B' s' hB => ⟨p, _, rfl, sqt_new hB, paired_app (paired_mono (fun _ _ w => R.mono s' w) r) (paired_mono (fun _ _ w => R.mono s' w) r2)⟩
theorem x_catT {R : Ty α} {x y : List α} (ha : EX X a Γ (pu (tT X.K R) x) Γ1) (hb : EX X b Γ1 (pu (tT X.K R) y) Γ2) (hz : x.length + y.length ≤ sizeLine) : EX X (.BinOp a .Add b pos) Γ (pu (tT X.K R) (x ++ y)) Γ2 := ex_bin (pe_op op_catA peR peR) ha hb (o_catA hz)
theorem paired_rev {F : V → α → Prop} : ∀ {vs : List V} {xs : List α}, Paired F vs xs → Paired F vs.reverse xs.reverse
  | _, _, .nil => .nil
  | _, _, .cons h r => by rw [List.reverse_cons, List.reverse_cons]; exact paired_app (paired_rev r) (.cons h .nil)
theorem o_slT {K : PySem.W.Frag} {R : Ty α} {xs ys : List α} {l u : Option Int} (h : ∀ (F : V → α → Prop) vs, Paired F vs xs → Paired F (cutV vs l u) ys) (hw : ∀ vs : List V, HT.sIx vs.length 0 l = 0 ∧ HT.sIx vs.length vs.length u = vs.length → cutV vs l u = vs) : Op1 (fun v H Q => rSlA K v l u H Q) (pu (tT K R) xs) (pu (tT K R) ys) :=
  op1_new fun B H v s h1 Q k1 k2 => by
    obtain ⟨a, vs, e, z, r⟩ := h1
    refine ⟨a, vs, e, same_sqt s z, fun q => ?_, fun _ p hp => ?_⟩
    · have r2 := h _ _ r
      rw [hw vs q] at r2
      exact k2 _ ⟨a, vs, rfl, z, r2⟩
    · exact k1 p _ hp fun B' s' hB => ⟨p, _, rfl, sqt_new hB, h _ _ (paired_mono (fun _ _ w => R.mono s' w) r)⟩
theorem cut_whole {vs : List V} {l u : Option Int} (h : HT.sIx vs.length 0 l = 0 ∧ HT.sIx vs.length vs.length u = vs.length) : cutV vs l u = vs := by
  unfold cutV
  rw [h.1, h.2]
  simp
theorem x_dropT {R : Ty α} {xs : List α} {i : Int} {p2 : Pos} (ha : EX X a Γ (pu (tT X.K R) xs) Γ1) (hb : EX X b Γ1 (pu tI i) Γ1) (h0 : 0 ≤ i) : EX X (.Subscript a (.Slice (some b) none none p2) pos) Γ (pu (tT X.K R) (xs.drop i.toNat)) Γ1 :=
  ex_sl sl_tupA ha (po_i hb) po_no (o_slT (fun _ _ r => cut_drop r h0) fun _ => cut_whole)
theorem x_takeT {R : Ty α} {xs : List α} {i : Int} {p2 : Pos} (ha : EX X a Γ (pu (tT X.K R) xs) Γ1) (hb : EX X b Γ1 (pu tI i) Γ1) (h0 : 0 ≤ i) : EX X (.Subscript a (.Slice none (some b) none p2) pos) Γ (pu (tT X.K R) (xs.take i.toNat)) Γ1 :=
  ex_sl sl_tupA ha po_no (po_i hb) (o_slT (fun _ _ r => cut_take r h0) fun _ => cut_whole)
end
end Fw
namespace Fw
open PySem L2
variable [Tb]
variable {α β γ δ ε ρ κ θ : Type}
/-! ## set(xs), xs a list or a tuple -/
def rSetQ (K : PySem.W.Frag) (w : World) : List V → Hp → VK → Prop := fun vs H Q => rSetL K w vs H Q ∨ rSetT K w vs H Q
theorem cr_setQ {X : Cx} (hc : X.calm = true) : CallR X (.type "set") (rSetQ X.K X.w) := by
  intro pins s σ H vs us Q I r h
  rcases h with h | h
  · exact cr_setL hc pins s σ H vs us Q I r h
  · exact cr_setT hc pins s σ H vs us Q I r h
theorem n_setQ {K : PySem.W.Frag} {w : World} {S : Ty (List Int)} {xs : List Int} (q : SeqA K S tI) (hb : xs.length + 1 < scanBound) : OpN (rSetQ K w) [pu S xs] (os w xs) := by
  refine opN_1 fun σ Γ s v E Q hQ => ?_
  obtain ⟨a, vs, e, z, r⟩ := q.get (pu_top E)
  rw [paired_int r] at z
  obtain ⟨E2, e2⟩ := E.pop
  have k : ∀ p c, c ≤ xs.length → s.H p = none → Q (.ref p) (upd s.H p (SetO w p (fun k => decide (k ∈ xs)) c)) := fun p c hc hp => by
    obtain ⟨E4, e4⟩ := E2.pushO (o := some (.ref p)) (ob := SetO w p (fun k => decide (k ∈ xs)) c) hp (os w xs) ⟨p, c, rfl, hc, rfl⟩
    exact hQ _ _ E4 (e2.trans e4)
  rcases z with z | z
  · exact .inl ⟨a, xs, by rw [e], Same.seq E.sub z, hb, k⟩
  · exact .inr ⟨a, xs, by rw [e], same_sqt E.sub z, hb, k⟩
/-- a tuple of two owned lists -/
def o2 (K : PySem.W.Frag) (R : Ty α) (R' : Ty β) (z : List α × List β) : Slot := ⟨fun B F o => ∃ t p q us vs, o = some (.ref t) ∧ B t = some (.tup [.ref p, .ref q]) ∧ p ≠ q ∧ F = un2 (one p (.lst us)) (one q (.lst vs)) ∧ Paired (R.rep B) us z.1 ∧ Paired (R'.rep B) vs z.2,
  fun s h => let ⟨t, p, q, us, vs, e, h1, h2, f, r1, r2⟩ := h; ⟨t, p, q, us, vs, e, s _ _ h1, h2, f, paired_mono (fun _ _ z => R.mono s z) r1, paired_mono (fun _ _ z => R'.mono s z) r2⟩,
  fun h => let ⟨t, p, q, us, vs, e, h1, h2, f, r⟩ := h; ⟨t, p, q, us, vs, e, h1, h2, by rw [f]; exact ntF_eq (nt_un2 (nt_one (fun _ z => nomatch z)) (nt_one (fun _ z => nomatch z))), r⟩⟩
theorem one_off {p a : Addr} {o : HO} (h : a ≠ p) : one p o a = none := by unfold one; rw [if_neg h]
theorem o2_at {p q : Addr} {us vs : List V} (h : p ≠ q) : (un2 (one p (.lst us)) (one q (.lst vs))) p = some (.lst us) ∧ (un2 (one p (.lst us)) (one q (.lst vs))) q = some (.lst vs) :=
  ⟨un2_l one_self, by rw [un2_r (one_off (Ne.symm h))]; exact one_self⟩
theorem o2_pure {K : PySem.W.Frag} {R : Ty α} {R' : Ty β} {z : List α × List β} {B F B' : Hp} {o : Option V} (h : (o2 K R R' z).p B F o) (s1 : Same B B') (s2 : Same F B') : (pu (tP2 K (tLs K R) (tLs K R')) z).p B' em o := by
  obtain ⟨t, p, q, us, vs, e, h1, h2, f, r1, r2⟩ := h
  rw [f] at s2
  obtain ⟨g1, g2⟩ := o2_at (us := us) (vs := vs) h2
  exact ⟨rfl, _, e, t, _, _, rfl, .inl (.inl (s1 _ _ h1)), ⟨p, us, rfl, s2 _ _ g1, paired_mono (fun _ _ z => R.mono s1 z) r1⟩, ⟨q, vs, rfl, s2 _ _ g2, paired_mono (fun _ _ z => R'.mono s1 z) r2⟩⟩
/-- one of two owned lists, known by their places -/
def al (K : PySem.W.Frag) (R : Ty α) (p q : Addr) (k : Int) (z : List α × List α) : Slot := ⟨fun B F o => ∃ us vs, o = some (.ref (if k = 0 then p else q)) ∧ p ≠ q ∧ F = un2 (one p (.lst us)) (one q (.lst vs)) ∧ Paired (R.rep B) us z.1 ∧ Paired (R.rep B) vs z.2,
  fun s h => let ⟨us, vs, e, h2, f, r1, r2⟩ := h; ⟨us, vs, e, h2, f, paired_mono (fun _ _ z => R.mono s z) r1, paired_mono (fun _ _ z => R.mono s z) r2⟩,
  fun h => let ⟨us, vs, e, h2, f, r⟩ := h; ⟨us, vs, e, h2, by rw [f]; exact ntF_eq (nt_un2 (nt_one (fun _ z => nomatch z)) (nt_one (fun _ z => nomatch z))), r⟩⟩
def pick2 (k : Int) (z : List α × List α) : List α := if k = 0 then z.1 else z.2
theorem al_pure {K : PySem.W.Frag} {R : Ty α} {p q : Addr} {k : Int} {z : List α × List α} {B F B' : Hp} {o : Option V} (h : (al K R p q k z).p B F o) (s1 : Same B B') (s2 : Same F B') : (pu (tLs K R) (pick2 k z)).p B' em o := by
  obtain ⟨us, vs, e, h2, f, r1, r2⟩ := h
  rw [f] at s2
  obtain ⟨g1, g2⟩ := o2_at (us := us) (vs := vs) h2
  unfold pick2
  by_cases q : k = 0
  · rw [if_pos q] at e ⊢
    exact ⟨rfl, _, e, _, us, rfl, s2 _ _ g1, paired_mono (fun _ _ z => R.mono s1 z) r1⟩
  · rw [if_neg q] at e ⊢
    exact ⟨rfl, _, e, _, vs, rfl, s2 _ _ g2, paired_mono (fun _ _ z => R.mono s1 z) r2⟩
/-! ## reading what is owned: frozen meanwhile -/
inductive Fz (K : PySem.W.Frag) : List Slot → List Slot → Prop
  | nil : Fz K [] []
  | pu {α : Type} {R : Ty α} {x : α} {Γ Γ' : List Slot} : Fz K Γ Γ' → Fz K (pu R x :: Γ) (pu R x :: Γ')
  | un {S : Slot} {Γ Γ' : List Slot} : Fz K Γ Γ' → Fz K (S :: Γ) (un :: Γ')
  | ol {α : Type} {R : Ty α} {xs : List α} {Γ Γ' : List Slot} : Fz K Γ Γ' → Fz K (ol R xs :: Γ) (pu (tLs K R) xs :: Γ')
  | o2 {α β : Type} {R : Ty α} {R' : Ty β} {z : List α × List β} {Γ Γ' : List Slot} : Fz K Γ Γ' → Fz K (o2 K R R' z :: Γ) (pu (tP2 K (tLs K R) (tLs K R')) z :: Γ')
  | al {α : Type} {R : Ty α} {p q : Addr} {k : Int} {z : List α × List α} {Γ Γ' : List Slot} : Fz K Γ Γ' → Fz K (al K R p q k z :: Γ) (pu (tLs K R) (pick2 k z) :: Γ')
theorem Fz.len {K : PySem.W.Frag} {Γ Γ' : List Slot} (h : Fz K Γ Γ') : Γ'.length = Γ.length := by
  induction h with
  | nil => rfl
  | _ _ ih => simp [ih]
theorem Fz.at {K : PySem.W.Frag} {Γ Γ' : List Slot} (h : Fz K Γ Γ') : ∀ (i : Nat) (S' : Slot), Γ'[i]? = some S' → ∃ S, Γ[i]? = some S ∧ ∀ B F B' o, S.p B F o → Same B B' → Same F B' → S'.p B' em o := by
  induction h with
  | nil => intro i S' h; simp at h
  | pu _ ih =>
    intro i S' h
    cases i with
    | zero => cases h; exact ⟨_, rfl, fun B F B' o q s1 _ => ⟨rfl, q.2.choose, q.2.choose_spec.1, Ty.mono _ s1 q.2.choose_spec.2⟩⟩
    | succ i => exact ih i S' h
  | un _ ih =>
    intro i S' h
    cases i with
    | zero => cases h; exact ⟨_, rfl, fun B F B' o q _ _ => rfl⟩
    | succ i => exact ih i S' h
  | ol _ ih =>
    intro i S' h
    cases i with
    | zero => cases h; exact ⟨_, rfl, fun B F B' o q s1 s2 => ol_pure q s1 s2 K⟩
    | succ i => exact ih i S' h
  | o2 _ ih =>
    intro i S' h
    cases i with
    | zero => cases h; exact ⟨_, rfl, fun B F B' o q s1 s2 => o2_pure q s1 s2⟩
    | succ i => exact ih i S' h
  | al _ ih =>
    intro i S' h
    cases i with
    | zero => cases h; exact ⟨_, rfl, fun B F B' o q s1 s2 => al_pure q s1 s2⟩
    | succ i => exact ih i S' h
/-- the footprints that P names -/
noncomputable def pickF (s : Sta) (P : Nat → Prop) : Hp := fun a => by
  classical
  exact if h : ∃ i, P i ∧ s.F i a ≠ none then s.F h.choose a else none
theorem pickF_at {s : Sta} {σ : St} {Γ : List Slot} {P : Nat → Prop} (E : EnvOk s σ Γ) (i : Nat) (hi : P i) : Same (s.F i) (pickF s P) := fun a u h => by
  unfold pickF
  have hx : ∃ i, P i ∧ s.F i a ≠ none := ⟨i, hi, by rw [h]; simp⟩
  rw [dif_pos hx]
  rw [E.disF _ _ a hx.choose_spec.2 (by rw [h]; simp)]
  exact h
theorem pickF_in {s : Sta} {P : Nat → Prop} {a : Addr} {u : HO} (h : pickF s P a = some u) : ∃ i, P i ∧ s.F i a = some u := by
  unfold pickF at h
  by_cases hx : ∃ i, P i ∧ s.F i a ≠ none
  · rw [dif_pos hx] at h; exact ⟨_, hx.choose_spec.1, h⟩
  · rw [dif_neg hx] at h; cases h
theorem pickF_H {s : Sta} {σ : St} {Γ : List Slot} {P : Nat → Prop} (E : EnvOk s σ Γ) : Same (pickF s P) s.H := fun a u h => by
  obtain ⟨i, _, h⟩ := pickF_in h
  exact E.subF i a u h
/-- lent: what P names lies in the pure region; the tables at j stay -/
noncomputable def lentS (s : Sta) (P : Nat → Prop) (jj : Nat) : Sta := ⟨un2 (pickF s P) s.B, s.H, fun i => if i = jj then s.F i else em⟩
theorem EnvOk.lend {s : Sta} {σ τ : St} {Γ Γ' T : List Slot} {P : Nat → Prop} {j : Nat} (E : EnvOk s (σ ++ τ) (Γ ++ T)) (hl : σ.length = Γ.length) (hj : T[j]? = some tabS) (hP : ¬ P (Γ.length + j)) (hlen : Γ'.length = Γ.length)
    (k : ∀ i S', Γ'[i]? = some S' → ∃ S, Γ[i]? = some S ∧ ∀ B F B' o, S.p B F o → Same B B' → (P i → Same F B') → S'.p B' em o) :
    EnvOk (lentS s P (Γ.length + j)) (σ ++ τ) (Γ' ++ (List.replicate T.length un).set j tabS) := by
  have hj2 := (List.getElem?_eq_some_iff.mp hj).1
  have lt : τ.length = T.length := by have := E.len; simp at this; omega
  have s1 : Same s.B (un2 (pickF s P) s.B) := same_r (pickF_H E) E.sub
  have key : ∀ i a, (if i = Γ.length + j then s.F i else em) a ≠ none → i = Γ.length + j ∧ s.F i a ≠ none := fun i a h => by
    by_cases q : i = Γ.length + j
    · rw [if_pos q] at h; exact ⟨q, h⟩
    · rw [if_neg q] at h; exact absurd rfl h
  have hjT : (Γ ++ T)[Γ.length + j]? = some tabS := by rw [List.getElem?_append_right (by omega)]; simpa using hj
  refine ⟨same_un2 (pickF_H E) E.sub, fun i a u h => ?_, fun i a h => ?_, fun i m a h1 h2 => (key i a h1).1.trans (key m a h2).1.symm, by simp [hl, hlen, lt], fun i S' h => ?_, fun i h => ?_⟩
  · have h' : (if i = Γ.length + j then s.F i else em) a = some u := h
    by_cases q : i = Γ.length + j
    · rw [if_pos q] at h'; exact E.subF i a u h'
    · rw [if_neg q] at h'; cases h'
  · obtain ⟨q, z⟩ := key i a h
    show un2 (pickF s P) s.B a = none
    have e : pickF s P a = none := by
      cases e : pickF s P a with
      | none => rfl
      | some u =>
        obtain ⟨m, hm, hF⟩ := pickF_in e
        have := E.disF m i a (by rw [hF]; simp) z
        rw [this, q] at hm
        exact absurd hm hP
    rw [un2_r e]
    exact E.dis i a z
  · show S'.p (un2 (pickF s P) s.B) (if i = Γ.length + j then s.F i else em) _
    by_cases hi : i < Γ'.length
    · rw [List.getElem?_append_left hi] at h
      obtain ⟨S, hS, k2⟩ := k i S' h
      have hi2 := (List.getElem?_eq_some_iff.mp hS).1
      rw [if_neg (by omega)]
      exact k2 _ _ _ _ (E.sl i S (by rw [List.getElem?_append_left hi2]; exact hS)) s1 fun hb a u hu => un2_l (pickF_at E i hb a u hu)
    · rw [List.getElem?_append_right (by omega)] at h
      by_cases q : i = Γ.length + j
      · subst q
        rw [show Γ.length + j - Γ'.length = j by omega, List.getElem?_set_self (by simpa using hj2)] at h
        cases h
        rw [if_pos rfl]
        exact E.sl _ tabS hjT
      · rw [if_neg q]
        rw [List.getElem?_set_ne (by omega)] at h
        have : S' = un := (List.mem_replicate.mp (List.mem_of_getElem? h)).2
        subst this
        rfl
  · show (if i = Γ.length + j then s.F i else em) = em
    simp at h
    rw [if_neg (by omega)]
/-- given back: what was, in the grown heap; B' holds what is new -/
theorem EnvOk.back {s s1 : Sta} {σ σ1 τ : St} {Γ Γ1 T : List Slot} {P : Nat → Prop} {j : Nat} {B' : Hp} (E : EnvOk s (σ ++ τ) (Γ ++ T)) (hj : T[j]? = some tabS) (E1 : EnvOk s1 ((σ ++ τ) ++ σ1) (Γ1)) (h1 : Γ1[Γ.length + j]? = some tabS)
    (e : Evo (lentS s P (Γ.length + j)) s1) (b1 : Same s.B B') (b2 : Same B' s1.H) (b3 : ∀ i a, i ≠ Γ.length + j → s.F i a ≠ none → B' a = none) (b4 : ∀ a, B' a ≠ none → s1.B a ≠ none) (b5 : ∀ a, B' a ≠ none → s.B a ≠ none ∨ s.H a = none ∨ (∃ i, s.F i a ≠ none) ∨ ∃ xs, s.H a = some (.tup xs)) :
    EnvOk ⟨B', s1.H, fun i => if i = Γ.length + j then s1.F i else s.F i⟩ (σ ++ τ) (Γ ++ T) ∧ Evo s ⟨B', s1.H, fun i => if i = Γ.length + j then s1.F i else s.F i⟩ := by
  have hj2 := (List.getElem?_eq_some_iff.mp hj).1
  have hjT : (Γ ++ T)[Γ.length + j]? = some tabS := by rw [List.getElem?_append_right (by omega)]; simpa using hj
  have hF : ∀ a, s.F (Γ.length + j) a = none → ∀ i, (lentS s P (Γ.length + j)).F i a = none := fun a h i => by
    show (if i = Γ.length + j then s.F i else em) a = none
    by_cases q : i = Γ.length + j
    · rw [if_pos q, q]; exact h
    · rw [if_neg q]; rfl
  have hk : ∀ a u, s.H a = some u → s.F (Γ.length + j) a = none → s1.H a = some u := fun a u h n => e.fr a u h (hF a n)
  have old : ∀ a i, (lentS s P (Γ.length + j)).F i a ≠ none → s.F (Γ.length + j) a ≠ none := fun a i h => by
    have h' : (if i = Γ.length + j then s.F i else em) a ≠ none := h
    by_cases q : i = Γ.length + j
    · rw [if_pos q, q] at h'; exact h'
    · rw [if_neg q] at h'; exact absurd rfl h'
  have nj : ∀ i a, i ≠ Γ.length + j → s.F i a ≠ none → s.F (Γ.length + j) a = none := fun i a q h => by
    cases r : s.F (Γ.length + j) a with
    | none => rfl
    | some u => exact absurd (E.disF i _ a h (by rw [r]; simp)) q
  have sp : ∀ i a, (if i = Γ.length + j then s1.F i else s.F i) a ≠ none → (i = Γ.length + j ∧ s1.F i a ≠ none) ∨ (i ≠ Γ.length + j ∧ s.F i a ≠ none) := fun i a h => by
    by_cases q : i = Γ.length + j
    · rw [if_pos q] at h; exact .inl ⟨q, h⟩
    · rw [if_neg q] at h; exact .inr ⟨q, h⟩
  have cross : ∀ i m a, i = Γ.length + j → s1.F i a ≠ none → m ≠ Γ.length + j → s.F m a ≠ none → False := fun i m a q h q2 h2 => by
    rcases e.nf a i h with z | ⟨i', z⟩
    · have z' : s.H a = none := z
      obtain ⟨u, hu⟩ := ex_of_ne h2
      rw [E.subF m a u hu] at z'
      cases z'
    · exact absurd (nj m a q2 h2) (old a i' z)
  refine ⟨⟨b2, fun i a u h => ?_, fun i a h => ?_, fun i m a h1 h2 => ?_, E.len, fun i S h => ?_, fun i h => ?_⟩, ⟨b1, fun a o h n => hk a o h (n _), fun a h => e.dom a h, b5, fun a i h => ?_⟩⟩
  · have h' : (if i = Γ.length + j then s1.F i else s.F i) a = some u := h
    by_cases q : i = Γ.length + j
    · rw [if_pos q] at h'; exact E1.subF i a u h'
    · rw [if_neg q] at h'; exact hk a u (E.subF i a u h') (nj i a q (by rw [h']; simp))
  · rcases sp i a h with ⟨q, z⟩ | ⟨q, z⟩
    · show B' a = none
      cases r : B' a with
      | none => rfl
      | some u => exact absurd (E1.dis i a z) (b4 a (by rw [r]; simp))
    · exact b3 i a q z
  · rcases sp i a h1 with ⟨q, z⟩ | ⟨q, z⟩
    · rcases sp m a h2 with ⟨q', z'⟩ | ⟨q', z'⟩
      · omega
      · exact absurd (cross i m a q z q' z') id
    · rcases sp m a h2 with ⟨q', z'⟩ | ⟨q', z'⟩
      · exact absurd (cross m i a q' z' q z) id
      · exact E.disF i m a z z'
  · show S.p B' (if i = Γ.length + j then s1.F i else s.F i) _
    by_cases q : i = Γ.length + j
    · subst q
      rw [hjT] at h; cases h
      rw [if_pos rfl]
      have z := E1.sl _ tabS h1
      have hlt : Γ.length + j < (σ ++ τ).length := by have := E.len; rw [this]; simp; exact hj2
      rw [List.getElem?_append_left hlt] at z
      exact z
    · rw [if_neg q]
      exact S.mono b1 (E.sl i S h)
  · show (if i = Γ.length + j then s1.F i else s.F i) = em
    simp at h
    rw [if_neg (by omega)]
    exact E.out i (by simp; omega)
  · rcases sp i a h with ⟨q, z⟩ | ⟨_, z⟩
    · rcases e.nf a i z with y | ⟨i', y⟩
      · exact .inl y
      · exact .inr ⟨_, old a i' y⟩
    · exact .inr ⟨i, z⟩
theorem lent_b {s s1 : Sta} {σ : St} {Γ : List Slot} {P : Nat → Prop} {jj : Nat} (E : EnvOk s σ Γ) (e : Evo (lentS s P jj) s1) : Same s.B s1.B := fun a u h => e.b a u (same_r (pickF_H E) E.sub a u h)
theorem hasTab_set {n j : Nat} (h : j < n) : HasTab ((List.replicate n un).set j tabS) := ⟨List.mem_iff_getElem?.mpr ⟨j, by rw [List.getElem?_set_self (by simpa using h)]⟩⟩
section
variable {X : Cx} {e : Expr} {Γ Γf Γg : List Slot} {R : Ty α} {y : α} {b : Bool}
theorem t_bor (z : Fz X.K Γ Γf) (h : ET X e Γf b Γg) : ET X e Γ b Γ := by
  (first | refine ⟨?_⟩ | skip); intro T _ τ σ s hl E Q hQ
  obtain ⟨j, hj⟩ := List.mem_iff_getElem?.mp (HasTab.mem (T := T))
  have hj2 := (List.getElem?_eq_some_iff.mp hj).1
  have E' := E.lend (P := fun i => i ≠ Γ.length + j) hl hj (fun q => q rfl) z.len fun i S' h => by
    obtain ⟨S, hS, k⟩ := z.at i S' h
    have hi := (List.getElem?_eq_some_iff.mp hS).1
    exact ⟨S, hS, fun B F B' o q s1 s2 => k B F B' o q s1 (s2 (by omega))⟩
  haveI := hasTab_set hj2
  refine h ((List.replicate T.length un).set j tabS) τ σ _ (by rw [z.len]; exact hl) E' Q fun s1 E1 l1 e1 => ?_
  have hb := lent_b E e1
  obtain ⟨E2, e2⟩ := E.back (σ1 := []) hj (by rw [List.append_nil]; exact E1) (by rw [List.getElem?_append_right (by have := z.len; omega), show Γ.length + j - Γg.length = j by have := z.len; omega, List.getElem?_set_self (by simpa using hj2)]) e1 (fun _ _ h => h)
    (fun a u h => E1.sub a u (hb a u h)) (fun i a _ h => E.dis i a h) (fun a h => by obtain ⟨u, hu⟩ := ex_of_ne h; rw [hb a u hu]; simp) (fun a h => .inl h)
  have q := hQ _ E2 rfl e2
  exact q
/-- C(e, ..) as a pure instance -/
theorem x_makeI {A : Type} {pre : A → Prop} {W0 W1 : A → Addr → Slot} {Gr : A → List Slot} {S : A → Slot} {C : Addr} {k : Nat} {f : Addr} {fd : FuncData} {ps : List Str} {fx : Str} {p pos : Pos} {e : Expr} {es : List Expr} {Γ1 Ss : List Slot} {fl : α → List (Str × Fld)} {a : α} (M : Mk X.K C f) (F : FnOk X.prog X.w X.K X.mg X.base CX0 k f fd ps (spM pre W0 Gr W1 S)) (hr : Room (k + 1) X.A) (hm : X.mg fx = some (.ref C))
    (hb : Binds X.K fd ps []) (x : A) (hx : pre x) (ha : EA X (e :: es) Γ Ss Γ1) (hG : Ss = Gr x) (h0 : W0 x = oi C []) (hS : S x = pu tN ()) (hW : W1 x = oi C (fl a)) (hg : Gl X fx := by rfl) (hdb : (fx == ("__debug__" : Str)) = false := by decide)
    (he : starEach (e :: es) X.env = (false, eval e X.env) :: starEach es X.env := by rfl) (hpl : (backTo pos (starEach es X.env)).any (·.1) = false := by rfl) : EX X (.Call (.Name fx p) (e :: es) [] pos) Γ (pu (tObj C fl) a) Γ1 := by
  have h := x_make (p := p) (pos := pos) M F hr hm hb x hx ha hG h0 hS hg hdb he hpl
  rw [hW] at h
  exact x_frzI h rfl
end
/-! ## isinstance of own instances -/
structure CI (K : PySem.W.Frag) (C : Addr) : Prop where
  ha : PySem.W.findIn K (.ref C) "__class__" = some (some (.builtin "object.__class__"))
  hn : PySem.W.specialIn K (.builtin "object.__class__") "__get__" = some (some (.builtin "getset_descriptor.__get__"))
  htk : PySem.W.takesIn K (.builtin "object.__class__") = some true
  hm : PySem.W.mroIn K C (.type "object") = some true
theorem typ_ins {K : PySem.W.Frag} {C : Addr} {fl : α → List (Str × Fld)} (c : Cls K C) (i : CI K C) : Typ K (tObj C fl) (.ref C) := fun {B H v a} h s => by
  obtain ⟨x, dx, vs, e, h1, h2, r⟩ := h
  subst e
  exact .base (.ins (s _ _ h1) c i.ha i.hn i.htk i.hm)
/-- f(e, ..) of the text, what it gives told outright -/
theorem x_callE {A : Type} {pre : A → Prop} {G : A → List Slot} {S : A → Slot} {X : Cx} {k : Nat} {f : Addr} {fd : FuncData} {ps : List Str} {fx : Str} {p pos : Pos} {e : Expr} {es : List Expr} {Γ Γ1 Ss : List Slot} {S' : Slot} (F : FnOk X.prog X.w X.K X.mg X.base CX0 k f fd ps (spP pre G S)) (hr : Room k X.A) (hm : X.mg fx = some (.ref f)) (hk : PySem.W.keepIn X.K (.ref f) = true)
    (hb : Binds X.K fd ps []) (x : A) (hx : pre x) (ha : EA X (e :: es) Γ Ss Γ1) (hG : Ss = G x) (hS : S x = S') (hg : Gl X fx := by rfl) (hdb : (fx == ("__debug__" : Str)) = false := by decide)
    (he : starEach (e :: es) X.env = (false, eval e X.env) :: starEach es X.env := by rfl) (hpl : (backTo pos (starEach es X.env)).any (·.1) = false := by rfl) : EX X (.Call (.Name fx p) (e :: es) [] pos) Γ S' Γ1 :=
  hS ▸ x_call (CX := CX0) F hr hm hk hb x hx ha hG hg hdb he hpl
/-! ## int literals -/
def litsOf : List Expr → Option (List Int)
  | [] => some []
  | .Constant (.int i) _ _ :: es => (litsOf es).map (i :: ·)
  | _ => none
theorem ea_lits {X : Cx} {Γ : List Slot} : ∀ {es : List Expr} {ns : List Int}, litsOf es = some ns → EA X es Γ (ns.map (pu tI)) Γ
  | [], ns, h => by cases h; exact ea_nil
  | e :: es, ns, h => by
    unfold litsOf at h
    split at h
    · rename_i h0; cases h0
    · rename_i i k p es' h0
      cases h0
      cases q : litsOf es with
      | none => rw [q] at h; cases h
      | some ms =>
        rw [q] at h
        cases h
        exact ea_cons x_int (ea_lits q)
    · cases h
end Fw
namespace Fw
open PySem L2
variable [Tb]
variable {α β γ δ ε ρ κ θ : Type}
/-! ## x += e, ints -/
section
variable {X : Cx} {e a b : Expr} {x : Str} {pos pos' px apos cpos : Pos} {Γ Γ1 Γ2 : List Slot} {R : Ty α} {xs ys : List α}
/-! ## owned lists read by name -/
theorem ol_at {s : Sta} {σ τ : St} {T : List Slot} {i : Nat} (E : EnvOk s (σ ++ τ) (Γ ++ T)) (hl : σ.length = Γ.length) (hi : Γ[i]? = some (ol R xs)) : ∃ p vs, σ[i]? = some (some (.ref p)) ∧ s.F i = one p (.lst vs) ∧ s.H p = some (.lst vs) ∧ Paired (R.rep s.B) vs xs := by
  have hlt := (List.getElem?_eq_some_iff.mp hi).1
  obtain ⟨p, vs, e0, f0, r0⟩ := E.sl i _ (by rw [List.getElem?_append_left hlt]; exact hi)
  rw [List.getElem?_append_left (by omega)] at e0
  refine ⟨p, vs, ?_, f0, E.subF i p _ (by rw [f0]; exact one_self), r0⟩
  rw [List.getElem?_eq_getElem (by omega)] at e0 ⊢
  exact congrArg some e0
/-- x[k] of an owned list -/
theorem x_ixO [Inhabited α] {i : Nat} {k : Int} (hi : Γ[i]? = some (ol R xs)) (hb : EX X b Γ (pu tI k) Γ) (hk : InIx xs.length k) (hN : X.N[i]? = some x := by rfl) (hv : Vis X.env.scope x := by first | exact Or.inl rfl | exact Or.inr (Or.inl rfl) | exact Or.inr (Or.inr rfl))
    (hd : (x == ("__debug__" : Str)) = false := by decide) (hcd : (x == ("__classdict__" : Str)) = false := by decide) (hs : PlainIx b := by exact fun _ _ => rfl) : EX X (.Subscript (.Name x px) b pos) Γ (pu R (ix xs k)) Γ := by
  (first | refine ⟨?_⟩ | skip); intro T _ τ σ s hl E Q hQ
  refine re_of (pe_ix ix_list (pe_var hN hv hd hcd) peR hs) ?_
  obtain ⟨p, vs, hσ, f0, hp, r0⟩ := ol_at E hl hi
  refine ⟨.ref p, hσ, ?_⟩
  refine hb T τ σ s hl E _ fun u s1 E1 l1 e1 => ?_
  have hu : u = .int k := pu_top E1
  obtain ⟨E2, e2⟩ := E1.pop
  obtain ⟨p', us, hσ', f1, hp1, r1⟩ := ol_at E2 hl hi
  rw [hσ] at hσ'
  cases hσ'
  obtain ⟨w, g, f⟩ := ix_of r1 hk
  have q := hQ w _ (E2.push0 (pu R (ix xs k)) ⟨rfl, w, rfl, f⟩) rfl (e1.trans e2)
  exact ⟨p, us, k, w, rfl, hu, SqL.of hp1, g, q⟩
/-- two lists put together: owned -/
theorem o_catO {K : PySem.W.Frag} {x y : List α} (hz : x.length + y.length ≤ sizeLine) : Op2 rCat (pu (tLs K R) x) (pu (tLs K R) y) (ol R (x ++ y)) := by
  intro σ Γ s v u E Q hQ
  obtain ⟨h1, h2⟩ := pu_top2 E
  obtain ⟨E2, e2⟩ := E.pop
  obtain ⟨E3, e3⟩ := E2.pop
  obtain ⟨a, vs, e, z, r⟩ := h1
  obtain ⟨b, us, e', z2, r2⟩ := h2
  refine ⟨a, b, vs, us, e, e', E.sub _ _ z, E.sub _ _ z2, by rw [paired_len r, paired_len r2]; exact hz, fun p hp => ?_⟩
  obtain ⟨E4, e4⟩ := E3.pushO (o := some (.ref p)) (ob := .lst (vs ++ us)) hp (ol R (x ++ y)) ⟨p, _, rfl, rfl, paired_app r r2⟩
  exact hQ _ _ E4 ((e2.trans e3).trans e4)
theorem x_catLO {x y : List α} (ha : EX X a Γ (pu (tLs X.K R) x) Γ1) (hb : EX X b Γ1 (pu (tLs X.K R) y) Γ2) (hz : x.length + y.length ≤ sizeLine) : EX X (.BinOp a .Add b pos) Γ (ol R (x ++ y)) Γ2 := ex_bin (pe_op op_cat peR peR) ha hb (o_catO hz)
end
end Fw
namespace Fw
open PySem L2
variable [Tb]
variable {α β γ δ ε ρ κ θ : Type}
/-! ## results that lean on no list -/
def strip (B : Hp) : Hp := fun a => match B a with
  | some (.lst _) => none
  | o => o
theorem strip_some {B : Hp} {a : Addr} {o : HO} (h : strip B a = some o) : B a = some o := by
  unfold strip at h
  cases e : B a with
  | none => rw [e] at h; cases h
  | some u =>
    rw [e] at h
    cases u <;> first | exact h | cases h
theorem strip_of {B : Hp} {a : Addr} {o : HO} (h : B a = some o) (hn : ∀ vs, o ≠ .lst vs) : strip B a = some o := by
  unfold strip
  rw [h]
  cases o <;> first | rfl | exact absurd rfl (hn _)
theorem strip_ne {B : Hp} {a : Addr} (h : strip B a ≠ none) : B a ≠ none ∧ ∀ vs, B a ≠ some (.lst vs) := by
  obtain ⟨o, ho⟩ := ex_of_ne h
  have q := strip_some ho
  refine ⟨by rw [q]; simp, fun vs e => ?_⟩
  unfold strip at ho
  rw [e] at ho
  cases ho
def NL (R : Ty α) : Prop := ∀ (B : Hp) (v : V) (a : α), R.rep B v a → R.rep (strip B) v a
theorem nl_I : NL tI := fun _ _ _ h => h
theorem nl_S : NL tS := fun _ _ _ h => h
theorem sqt_strip {K : PySem.W.Frag} {B : Hp} {a : Addr} {vs : List V} (h : SqT K B a vs) : SqT K (strip B) a vs := by
  rcases h with (q | ⟨o, q⟩) | q
  · exact .inl (.inl (strip_of q fun _ e => by cases e))
  · exact .inl (.inr ⟨o, strip_of q fun _ e => by cases e⟩)
  · exact .inr q
theorem nl_T {K : PySem.W.Frag} {R : Ty α} (h : NL R) : NL (tT K R) := fun B v xs ⟨a, vs, e, q, r⟩ => ⟨a, vs, e, sqt_strip q, paired_mono (fun _ _ z => h B _ _ z) r⟩
theorem nl_P2 {K : PySem.W.Frag} {R : Ty α} {R' : Ty β} (h : NL R) (h' : NL R') : NL (tP2 K R R') := fun B v x ⟨a, v1, v2, e, q, r1, r2⟩ => ⟨a, v1, v2, e, sqt_strip q, h B _ _ r1, h' B _ _ r2⟩
theorem nl_P3 {K : PySem.W.Frag} {R : Ty α} {R' : Ty β} {R'' : Ty γ} (h : NL R) (h' : NL R') (h'' : NL R'') : NL (tP3 K R R' R'') := fun B v x ⟨a, v1, v2, v3, e, q, r1, r2, r3⟩ => ⟨a, v1, v2, v3, e, sqt_strip q, h B _ _ r1, h' B _ _ r2, h'' B _ _ r3⟩
theorem nl_Ob {C : Addr} {fl : α → List (Str × Fld)} (h : ∀ a, ∀ q ∈ fl a, ∀ B v, q.2.p B v → q.2.p (strip B) v) : NL (tObj C fl) := fun B v a ⟨x, dx, vs, e, h1, h2, r⟩ => by
  refine ⟨x, dx, vs, e, strip_of h1 (fun _ e => by cases e), strip_of h2 (fun _ e => by cases e), ?_⟩
  have key : ∀ {us : List (Str × V)} {fs : List (Str × Fld)}, (∀ q ∈ fs, ∀ B v, q.2.p B v → q.2.p (strip B) v) → FldsOk B us fs → FldsOk (strip B) us fs := by
    intro us fs hq r
    induction r with
    | nil => exact .nil
    | cons z _ ih => exact .cons ⟨z.1, hq _ List.mem_cons_self _ _ z.2⟩ (ih fun q hq' => hq q (List.mem_cons_of_mem _ hq'))
  exact key (h a) r
/-- the owned lists of an environment, one by one -/
inductive Fy (K : PySem.W.Frag) : List Slot → List Slot → List Bool → Prop
  | nil : Fy K [] [] []
  | pu {α : Type} {R : Ty α} {x : α} {Γ Γ' : List Slot} {bs : List Bool} : Fy K Γ Γ' bs → Fy K (pu R x :: Γ) (pu R x :: Γ') (false :: bs)
  | un {S : Slot} {Γ Γ' : List Slot} {bs : List Bool} : Fy K Γ Γ' bs → Fy K (S :: Γ) (un :: Γ') (false :: bs)
  | ol {α : Type} {R : Ty α} {xs : List α} {Γ Γ' : List Slot} {bs : List Bool} : Fy K Γ Γ' bs → Fy K (ol R xs :: Γ) (Fw.pu (tLs K R) xs :: Γ') (true :: bs)
  | o2 {α β : Type} {R : Ty α} {R' : Ty β} {z : List α × List β} {Γ Γ' : List Slot} {bs : List Bool} : Fy K Γ Γ' bs → Fy K (o2 K R R' z :: Γ) (Fw.pu (tP2 K (tLs K R) (tLs K R')) z :: Γ') (true :: bs)
  | gn {S S' : Slot} {Γ Γ' : List Slot} {bs : List Bool} : (∀ B F B' o, S.p B F o → Same B B' → Same F B' → S'.p B' em o) → (∀ B F o, S.p B F o → ∀ a u, F a = some u → ∃ vs, u = .lst vs) → Fy K Γ Γ' bs → Fy K (S :: Γ) (S' :: Γ') (true :: bs)
theorem Fy.len {K : PySem.W.Frag} {Γ Γ' : List Slot} {bs : List Bool} (h : Fy K Γ Γ' bs) : Γ'.length = Γ.length := by
  induction h with
  | nil => rfl
  | gn _ _ _ ih => simp [ih]
  | _ _ ih => simp [ih]
theorem Fy.at {K : PySem.W.Frag} {Γ Γ' : List Slot} {bs : List Bool} (h : Fy K Γ Γ' bs) : ∀ (i : Nat) (S' : Slot), Γ'[i]? = some S' → ∃ S, Γ[i]? = some S ∧ ∀ B F B' o, S.p B F o → Same B B' → (bs[i]? = some true → Same F B') → S'.p B' em o := by
  induction h with
  | nil => intro i S' h; simp at h
  | pu _ ih =>
    intro i S' h
    cases i with
    | zero => cases h; exact ⟨_, rfl, fun B F B' o q s1 _ => ⟨rfl, q.2.choose, q.2.choose_spec.1, Ty.mono _ s1 q.2.choose_spec.2⟩⟩
    | succ i => exact ih i S' h
  | un _ ih =>
    intro i S' h
    cases i with
    | zero => cases h; exact ⟨_, rfl, fun B F B' o q _ _ => rfl⟩
    | succ i => exact ih i S' h
  | ol _ ih =>
    intro i S' h
    cases i with
    | zero => cases h; exact ⟨_, rfl, fun B F B' o q s1 s2 => ol_pure q s1 (s2 rfl) K⟩
    | succ i => exact ih i S' h
  | o2 _ ih =>
    intro i S' h
    cases i with
    | zero => cases h; exact ⟨_, rfl, fun B F B' o q s1 s2 => o2_pure q s1 (s2 rfl)⟩
    | succ i => exact ih i S' h
  | gn h1 h2 _ ih =>
    intro i S' h
    cases i with
    | zero => cases h; exact ⟨_, rfl, fun B F B' o q s1 s2 => h1 B F B' o q s1 (s2 rfl)⟩
    | succ i => exact ih i S' h
theorem Fy.lst {K : PySem.W.Frag} {Γ Γ' : List Slot} {bs : List Bool} (h : Fy K Γ Γ' bs) : ∀ (i : Nat), bs[i]? = some true → ∃ S, Γ[i]? = some S ∧ ∀ B F o, S.p B F o → ∀ a u, F a = some u → ∃ vs, u = .lst vs := by
  induction h with
  | nil => intro i h; simp at h
  | pu _ ih =>
    intro i h
    cases i with
    | zero => simp at h
    | succ i => exact ih i h
  | un _ ih =>
    intro i h
    cases i with
    | zero => simp at h
    | succ i => exact ih i h
  | ol _ ih =>
    intro i h
    cases i with
    | zero => exact ⟨_, rfl, fun B F o ⟨p, vs, _, f, _⟩ a u hu => by
        rw [f] at hu
        have e := one_ne (p := p) (o := .lst vs) (a := a) (by rw [hu]; simp)
        rw [e, one_self] at hu
        cases hu
        exact ⟨vs, rfl⟩⟩
    | succ i => exact ih i h
  | o2 _ ih =>
    intro i h
    cases i with
    | zero => exact ⟨_, rfl, fun B F o ⟨_, p, q, us, vs, _, _, _, f, _⟩ a u hu => by
        rw [f] at hu
        rcases un2_some hu with hu | ⟨_, hu⟩
        · have e := one_ne (p := p) (o := .lst us) (a := a) (by rw [hu]; simp)
          rw [e, one_self] at hu
          cases hu
          exact ⟨us, rfl⟩
        · have e := one_ne (p := q) (o := .lst vs) (a := a) (by rw [hu]; simp)
          rw [e, one_self] at hu
          cases hu
          exact ⟨vs, rfl⟩⟩
    | succ i => exact ih i h
  | gn h1 h2 _ ih =>
    intro i h
    cases i with
    | zero => exact ⟨_, rfl, h2⟩
    | succ i => exact ih i h
/-- what is left of the grown region when lists are given back -/
theorem EnvOk.backN {s s1 : Sta} {σ σ1 τ : St} {Γ Γ' Γ1 T : List Slot} {K : PySem.W.Frag} {bs : List Bool} {j : Nat} (E : EnvOk s (σ ++ τ) (Γ ++ T)) (z : Fy K Γ Γ' bs) (hj : T[j]? = some tabS) (E1 : EnvOk s1 ((σ ++ τ) ++ σ1) Γ1) (h1 : Γ1[Γ.length + j]? = some tabS) (hn : ∀ i a xs, s.F i a ≠ some (.tup xs))
    (e : Evo (lentS s (fun i => bs[i]? = some true ∧ i ≠ Γ.length + j) (Γ.length + j)) s1) :
    EnvOk ⟨un2 s.B (strip s1.B), s1.H, fun i => if i = Γ.length + j then s1.F i else s.F i⟩ (σ ++ τ) (Γ ++ T) ∧ Evo s ⟨un2 s.B (strip s1.B), s1.H, fun i => if i = Γ.length + j then s1.F i else s.F i⟩ ∧ Same (strip s1.B) (un2 s.B (strip s1.B)) := by
  have hb := lent_b E e
  have lst : ∀ a, strip s1.B a ≠ none → ∀ i y, bs[i]? = some true → s.F i a = some y → False := fun a h i y hi hF => by
    have hs := strip_ne h
    obtain ⟨S, hS, k⟩ := z.lst i hi
    have hi2 := (List.getElem?_eq_some_iff.mp hS).1
    obtain ⟨vs, ev⟩ := k _ _ _ (E.sl i S (by rw [List.getElem?_append_left hi2]; exact hS)) a y hF
    subst ev
    by_cases q : i = Γ.length + j
    · omega
    · exact hs.2 vs (e.b a _ (un2_l (pickF_at E i ⟨hi, q⟩ a _ hF)))
  have two : ∀ a, strip s1.B a ≠ none → s.B a ≠ none ∨ s.H a = none ∨ (s.F (Γ.length + j) a ≠ none ∧ s.B a = none) ∨ ∃ xs, s.H a = some (.tup xs) := fun a h => by
    have hs := strip_ne h
    rcases e.nb a hs.1 with w | w | ⟨i, w⟩ | w
    · have w' : un2 (pickF s fun i => bs[i]? = some true ∧ i ≠ Γ.length + j) s.B a ≠ none := w
      rcases un2_ne w' with w | w
      · obtain ⟨y, hy⟩ := ex_of_ne w
        obtain ⟨i, hi, hF⟩ := pickF_in hy
        exact absurd (lst a h i y hi.1 hF) id
      · exact .inl w
    · exact .inr (.inl w)
    · have w' : (if i = Γ.length + j then s.F i else em) a ≠ none := w
      by_cases q : i = Γ.length + j
      · rw [if_pos q, q] at w'
        exact .inr (.inr (.inl ⟨w', E.dis _ a w'⟩))
      · rw [if_neg q] at w'; exact absurd rfl w'
    · exact .inr (.inr (.inr w))
  have sS : Same (strip s1.B) s1.H := fun a u h => E1.sub a u (strip_some h)
  have sB : Same s.B s1.H := fun a u h => E1.sub a u (hb a u h)
  have inF : ∀ i a, i ≠ Γ.length + j → s.F i a ≠ none → strip s1.B a = none := fun i a q h => by
    cases r : strip s1.B a with
    | none => rfl
    | some o =>
      exfalso
      rcases two a (by rw [r]; simp) with w | w | ⟨w, _⟩ | ⟨xs, w⟩
      · exact w (E.dis i a h)
      · obtain ⟨u, hu⟩ := ex_of_ne h
        rw [E.subF i a u hu] at w; cases w
      · exact q (E.disF i _ a h w)
      · obtain ⟨u, hu⟩ := ex_of_ne h
        rw [E.subF i a u hu] at w; cases w
        exact hn i a xs hu
  obtain ⟨E2, e2⟩ := E.back (B' := un2 s.B (strip s1.B)) hj E1 h1 e same_l (same_un2 sB sS) (fun i a q h => by rw [un2_r (E.dis i a h)]; exact inF i a q h) (fun a h => by
    rcases un2_ne h with w | w
    · obtain ⟨u, hu⟩ := ex_of_ne w
      rw [hb a u hu]; simp
    · exact (strip_ne w).1) fun a h => by
    rcases un2_ne h with w | w
    · exact .inl w
    · rcases two a w with q | q | ⟨q, _⟩ | q
      · exact .inl q
      · exact .inr (.inl q)
      · exact .inr (.inr (.inl ⟨_, q⟩))
      · exact .inr (.inr (.inr q))
  refine ⟨E2, e2, fun a u h => ?_⟩
  cases q : s.B a with
  | none => rw [un2_r q]; exact h
  | some w =>
    have := hb a w q
    rw [strip_some h] at this
    cases this
    exact un2_l q
theorem lent_F {s : Sta} {P : Nat → Prop} {jj i : Nat} {a : Addr} (h : (lentS s P jj).F i a ≠ none) : s.F jj a ≠ none := by
  have h' : (if i = jj then s.F i else em) a ≠ none := h
  by_cases q : i = jj
  · rw [if_pos q, q] at h'; exact h'
  · rw [if_neg q] at h'; exact absurd rfl h'
theorem Fy.lendOk {K : PySem.W.Frag} {Γ Γ' : List Slot} {bs : List Bool} (z : Fy K Γ Γ' bs) (j : Nat) : ∀ i S', Γ'[i]? = some S' → ∃ S, Γ[i]? = some S ∧ ∀ B F B' o, S.p B F o → Same B B' → ((bs[i]? = some true ∧ i ≠ Γ.length + j) → Same F B') → S'.p B' em o := fun i S' h => by
  obtain ⟨S, hS, k⟩ := z.at i S' h
  have hi := (List.getElem?_eq_some_iff.mp hS).1
  exact ⟨S, hS, fun B F B' o q s1 s2 => k B F B' o q s1 fun hb => s2 ⟨hb, by omega⟩⟩
section
variable {X : Cx} {e : Expr} {Γ Γf Γg : List Slot} {R : Ty α} {y : α} {ys : List α} {bs : List Bool}
/-- owned lists lent to an expression whose value leans on no list -/
theorem x_borN (z : Fy X.K Γ Γf bs) (nl : NL R) (h : EX X e Γf (pu R y) Γg) : EX X e Γ (pu R y) Γ := by
  (first | refine ⟨?_⟩ | skip); intro T _ τ σ s0 hl E0 Q hQ0
  obtain ⟨E, ec, hn⟩ := E0.cutF
  have hHs : s0.nt.H = s0.H := rfl
  generalize s0.nt = s at E ec hn hHs
  have hQ : ∀ v s', EnvOk s' ((σ ++ τ) ++ [some v]) ((Γ ++ T) ++ [pu R y]) → Γ.length = Γ.length → Evo s s' → Q v s'.H := fun v s' a b c => hQ0 v s' a b (ec.trans c)
  have hH : s.H = s0.H := hHs
  rw [← hH]
  obtain ⟨j, hj⟩ := List.mem_iff_getElem?.mp (HasTab.mem (T := T))
  have hj2 := (List.getElem?_eq_some_iff.mp hj).1
  have E' := E.lend (P := fun i => bs[i]? = some true ∧ i ≠ Γ.length + j) hl hj (fun q => q.2 rfl) z.len (z.lendOk j)
  haveI := hasTab_set hj2
  refine h ((List.replicate T.length un).set j tabS) τ σ _ (by rw [z.len]; exact hl) E' Q fun v s1 E1 l1 e1 => ?_
  have hy := pu_top E1
  obtain ⟨E2, e2, h2⟩ := E.backN z hj E1 (by rw [List.getElem?_append_left (by simp; have := z.len; omega), List.getElem?_append_right (by have := z.len; omega), show Γ.length + j - Γg.length = j by have := z.len; omega, List.getElem?_set_self (by simpa using hj2)]) hn e1
  have q := hQ v _ (E2.push0 (pu R y) ⟨rfl, v, rfl, R.mono h2 (nl _ _ _ hy)⟩) rfl e2
  exact q
end
section
variable {X : Cx} {tg iter : Expr} {body sts : List Stmt} {pos : Pos} {wi : TI} {g : TG} {Γ Γ1 : List Slot} {R : Ty α} {xs : List α} {f : List Slot → α → List Slot} {is : List Nat}
/-- a for that may be left; what it comes to told outright -/
theorem f_forE {P : θ → Res → Prop} {Pq : ρ → Res → Prop} {v : θ} (A : κ → θ) (B : ρ → θ) (hp : PassesOwn (model X.prog X.w) X.A X.env X.xe) (hc : X.calm = true) (iw : IW X tg iter wi Γ R xs Γ1) (hg : PG X tg g) (ht : TGT g R is Γ.length f)
    (G : κ → List Slot) (step : κ → α → Lp κ ρ) (s0 : κ) (hlen : ∀ s, (G s).length = Γ.length) (h0 : Wk Γ1 (G s0))
    (hb : ∀ (i : Nat) (x : α) (s : κ), xs[i]? = some x → goL step s0 (xs.take i) = some s → xs.length ≤ sizeLine → SX X body (f (G s) x) (Turn1 G Pq (step s x)))
    (h1 : ∀ s, runL step s0 xs = .inl s → SX X sts (G s) (P (A s))) (h2 : ∀ q r, Pq q r → P (B q) r) (hv : elimS A B (runL step s0 xs) = v)
    (hs : ∀ x, foldedSetIterable iter X.env x = pure x := by intro _; rfl) : SX X (.For tg iter body [] pos :: sts) Γ (P v) :=
  hv ▸ f_forR A B hp hc iw hg ht G step s0 hlen h0 hb h1 h2 hs
end
end Fw
namespace Fw
open PySem PySem.Spec PyProof.Rows L2
/-! ## sorted(xs, key=lambda x: (len(x), x)), the xs tuples of ints -/
/-! ## the lambda is made -/
/-! ## the call -/
variable [Tb]
/-! ## as a rule of the typed layer -/
/-! ## a def whose code object is known -/
structure FunC (K : PySem.W.Frag) (x qual : Str) (st : Stmt) (f : Addr) (fd : FuncData) (c : Addr) : Prop where
  ex : ∃ (oc : Value) (od : Option Addr) (kV doc pm : Value) (an : Option Addr) (ct : Value) (osl : Array (Option Value)),
    fd = PySem.W.fnOf x qual (defArgs st) (defBody st) (defScope st) .none kV doc pm an (.ref c) ct ∧ K.lookup f = some ⟨oc, od, .func fd, osl⟩ ∧ PySem.W.codeIn K (.ref c) qual = true
theorem FunC.fn {K : PySem.W.Frag} {x qual : Str} {st : Stmt} {f c : Addr} {fd : FuncData} (F : FunC K x qual st f fd c) (k : PySem.W.keepIn K (.ref f) = true) : Fun K x qual st f fd := by
  obtain ⟨oc, od, kV, doc, pm, an, ct, osl, e, lk, hcd⟩ := F.ex
  exact ⟨⟨oc, od, kV, doc, pm, an, _, ct, osl, e, lk, hcd⟩, k⟩
end Fw
namespace Fw
open PySem PySem.Spec PyProof.Rows L2
/-- the law's end: the tables of the defs that make lambdas are empty -/
def TabsOf (q : Program) (K : PySem.W.Frag) (mg : Str → Option Value) (h : Heap) : Prop := ∀ (y : Str) (f c : Addr) (fd : FuncData) (o : Obj), ((recsOf q).any fun e => e.name == y) = true → mg y = some (.ref f) → K.lookup f = some o → o.data = .func fd → fd.code = .ref c →
  ∃ P : Addr, h.get? P = some { cls := .none, data := .fields #[] } ∧ PySem.W.CodeHd h c P
theorem TabsOf.at {q : Program} {K : PySem.W.Frag} {mg : Str → Option Value} {h : Heap} (t : TabsOf q K mg h) (X : K.In h) {y : Str} {f c P : Addr} {fd : FuncData} {e oc : Value} {dd od : Option Addr} {vs : Array Value} {sl osl : Array (Option Value)} (hr : ((recsOf q).any fun e => e.name == y) = true) (hm : mg y = some (.ref f))
    (hk : K.lookup f = some ⟨oc, od, .func fd, osl⟩) (hc : fd.code = .ref c) (hv : K.lookup c = some ⟨e, dd, .fields vs, sl⟩) (hP : vs[11]? = some (.ref P)) : h.get? P = some { cls := .none, data := .fields #[] } ∧ PySem.W.CodeHd h c P := by
  obtain ⟨P', h1, h2⟩ := t y f c fd _ hr hm hk rfl hc
  have h3 := h2
  obtain ⟨o, us, file, tf, flags, tg, inF, text, tt, v1, v2, v3, v4, _⟩ := h3
  rw [X _ _ hv] at v1
  cases v1
  cases v3
  rw [hP] at v4
  cases v4
  exact ⟨h1, h2⟩
theorem walkTabs {l : PySem.W.OpenLaw} {n k : Nat} {q : Program} {loose : List Str} {XP : (Str → Option Value) → Heap → Prop} {YP : World → Heap → Prop} {d : DefRec} {K : Params → PySem.W.Frag} {x : Str}
    (hn : l.most = some n) (hn2 : n ≤ sizeLine) (hdf : d.params.defaults = []) (hr : Room k callerA) (hY : ∀ (w : World) (h : Heap), YP w h → (K w.params).In h)
    (F : ∀ (w : World) (mg : Str → Option Value) (fa : Addr) (h : Heap), (K w.params).In h → h.Ns mainGlobals mg → mg d.name = some (.ref fa) → TabsOf q (K w.params) mg h → LamX.LawAtS l w (K w.params) CX0 k n x mg fa h) : PySem.W.WalkO q loose XP YP l.row.toRowW d [] (fun f vs => PySem.call f vs) := by
  refine Att.attach_callB hn hdf fun w sA sB mg mb fa o pm cd doc a vs ns G Y ho hd hcd hmg hobj hints hlen hbits hg => ?_
  have X := hY w _ Y
  have tabs : TabsOf q (K w.params) mg sB.heap := by
    intro y f c fd o hy hf hl hd hc
    obtain ⟨dL, hm, hn1⟩ := List.any_eq_true.mp hy
    have hn2 : dL.name = y := beq_iff_eq.mp hn1
    obtain ⟨f', o', fd', c', P', g1, g2, g3, g4, g5, g6⟩ := G.T.tab dL hm
    rw [hn2, hf] at g1
    cases g1
    rw [X _ _ hl] at g2
    cases g2
    rw [hd] at g3
    cases g3
    rw [hc] at g4
    cases g4
    exact ⟨P', g6.2, PySem.W.CodeHd.of g5 g6⟩
  obtain ⟨fd, cs, sp, kT, nT, C, kb, ksp, kF⟩ := F w mg fa _ X G.T.g hmg tabs
  exact LamX.law_callTs X G.T.g G.T.b G.T.builtins G.T.nolimit hg kT nT C G.T.bmain hobj hints (Nat.le_trans hlen hn2) hr kF kb (fun H hH hS => ksp H a ns hlen hbits hH hS) fun _ _ _ z => z
end Fw
namespace Fw
open PySem L2
variable [Tb]
variable {α β γ δ ε ρ κ θ : Type}
/-! ## lists of two things of two types -/
/-! ## >= of pairs of an int and a tuple of ints -/
/-- where none is told: no tables -/
instance (priority := low) tb0 : Tb := ⟨[]⟩
end Fw
/-! ## == and != of lists whose items have an own == -/
namespace FwE
open PySem PySem.SeqAt
open PySem.AutoSeq1 (wpAny_loadPart')
open PySem.MeetsSeq PySem.MeetsSeq2 PySem.MeetsSeq3
end FwE
namespace Fw
open PySem PySem.Spec PyProof.Rows L2
variable [Tb]
variable {α β : Type}
/-- a comparison as it runs -/
def rRun (X : Cx) (op : CmpOp) : R2 := fun x y H Q => ∀ (pins : List (Addr × Obj)) (s : Shared) (σ : L2.St) (v u : Value), Inv X pins σ H s → RelV x v → RelV y u → wpAny (model X.prog X.w) X.A (compareOp op v u) (EP X pins σ Q) X.xe s
theorem op_run {X : Cx} {op : CmpOp} : OpR X (compareOp op) (rRun X op) := fun pins s σ H x y v u Q I rx ry h => h pins s σ v u I rx ry
end Fw
namespace Fw
open PySem L2
variable [Tb]
variable {α β γ : Type}
/-! ## a thing is told by its value -/
/-! ## properties -/
theorem x_prop {A : Type} {pre : A → Prop} {G : A → List Slot} {S : A → Slot} {X : Cx} {C p g : Addr} {k : Nat} {nm : Str} {fd : FuncData} {ps : List Str} {fl : α → List (Str × Fld)} {a : α} {S' : Slot} {e : Expr} {pos : Pos} {Γ Γ1 : List Slot} (he : EX X e Γ (pu (tObj C fl) a) Γ1) (c : Cls X.K C) (hp : PropOf X.K C nm p g)
    (F : FnOk X.prog X.w X.K X.mg X.base CX0 k g fd ps (spP pre G S)) (hb : Binds X.K fd ps []) (hr : Room (k + 1) X.A) (x : A) (hx : pre x) (hG : [pu (tObj C fl) a] = G x) (hS : S x = S') (hab : attributeBase e nm X.env (eval e X.env) = eval e X.env := by rfl) :
    EX X (.Attribute e nm pos) Γ S' Γ1 := by
  subst hS
  (first | refine ⟨?_⟩ | skip); intro T _ τ σ s hl E Q hQ
  refine re_of (pe_prop peR c hp F hr hb .nil pass0 hab) ?_
  refine he T τ σ s hl E _ fun v s1 E1 l1 e1 => ?_
  obtain ⟨y, dx, vs, ev, h1, _, _⟩ := pu_top E1
  refine ⟨y, dx, vs, ev, E1.sub _ _ h1, ?_⟩
  subst ev
  have q := n_call (G := G) (S := S) x hx hG (σ ++ τ) (Γ1 ++ T) s1 [.ref y] rfl E1 Q fun v' s' E' e' => hQ v' s' E' l1 (e1.trans e')
  exact q
end Fw
namespace FwE
open PySem PySem.SeqAt PyProof.Rows PySem.W
section
variable {prog : Program} {w : World} {A : Around} {E : Value → Shared → Prop} {s : Shared}
def rowData (ns : List Int) : PyData := .tuple (ns.map .int)
/-- a tuple of ints -/
def TupI (h : Heap) (v : Value) (ns : List Int) : Prop := ∃ t its, v = .ref t ∧ IsTup h t (List.toArray its) ∧ IntsAre its ns
theorem TupI.reads {h : Heap} {v : Value} {ns : List Int} (x : TupI h v ns) : Reads h v (rowData ns) [] := by
  obtain ⟨t, its, rfl, ⟨o, ho, hc, n, hd⟩, hi⟩ := x
  exact .tuple ho hc hd (by simpa using hi.reads _)
end
end FwE
namespace Fw
open PySem PySem.Spec PyProof.Rows L2
/-! ## sorted(xs), the xs tuples of ints -/
/-! ## is, is not of truths -/
end Fw
namespace Fw
open PySem L2
variable [Tb]
variable {α β γ δ ε ρ κ θ : Type}
section
variable {X : Cx} {e a b : Expr} {es : List Expr} {pos : Pos} {Γ Γ1 Γ2 Γ3 : List Slot} {R : Ty α} {R' : Ty β} {z z' : List α × List β}
theorem x_valoE {xs zs : List α} (h : EX X e Γ (ol R xs) Γ1) (q : xs = zs) (g : Γ1 = Γ2) : EX X e Γ (ol R zs) Γ2 := by subst q; subst g; exact h
end
end Fw
namespace Fw
open PySem L2
variable [Tb]
variable {α β γ δ ε ρ κ θ : Type}
/-! ## a list of two owned lists, one of which gets a name -/
def l2 (K : PySem.W.Frag) (R : Ty α) (z : List α × List α) : Slot := ⟨fun B F o => ∃ t p q us vs, o = some (.ref t) ∧ B t = some (.lst [.ref p, .ref q]) ∧ p ≠ q ∧ F = un2 (one p (.lst us)) (one q (.lst vs)) ∧ Paired (R.rep B) us z.1 ∧ Paired (R.rep B) vs z.2,
  fun s h => let ⟨t, p, q, us, vs, e, h1, h2, f, r1, r2⟩ := h; ⟨t, p, q, us, vs, e, s _ _ h1, h2, f, paired_mono (fun _ _ z => R.mono s z) r1, paired_mono (fun _ _ z => R.mono s z) r2⟩,
  fun h => let ⟨t, p, q, us, vs, e, h1, h2, f, r⟩ := h; ⟨t, p, q, us, vs, e, h1, h2, by rw [f]; exact ntF_eq (nt_un2 (nt_one (fun _ z => nomatch z)) (nt_one (fun _ z => nomatch z))), r⟩⟩
/-! ## an item of a list or a tuple -/
end Fw
namespace FwE
open PySem PySem.Spec PyProof.Rows L2 TS SrtO
end FwE
namespace Fw
open PySem L2
/-! ## sets of tuples of ints -/
end Fw
namespace Fw
open PySem PySem.Spec PyProof.Rows L2
/-! ## methods of pure things -/
/-! ## t.index(x) -/
/-! ## tuples of ints whose object is known to bear no dict -/
/-! ## a method of such a tuple -/
end Fw
namespace FwE
open PySem
open PySem.AutoSeq1 (wpAny_loadPart')
end FwE
namespace FwE
open PySem PySem.Spec PyProof.Rows L2
end FwE
namespace Fw
open PySem PySem.Spec PyProof.Rows L2
/-! ## enumerate of a list or a tuple -/
end Fw
namespace Fw
open PySem PySem.Spec PyProof.Rows L2
variable [Tb]
variable {α β γ δ ε ρ κ θ : Type}
/-! ## tuples of ints that are keys: new in the heap -/
/-! ## dicts with such keys and pure values, owned -/
def keyOf (xs : List Int) : List L2.Key := xs.map Sum.inl
def dt (R : Ty α) (kvs : List (List Int × α)) : Slot := ⟨fun B F o => ∃ p us, o = some (.ref p) ∧ F = one p (.dT us) ∧ Paired (fun (u : List L2.Key × V) (x : List Int × α) => u.1 = keyOf x.1 ∧ R.rep B u.2 x.2) us kvs,
  fun s h => let ⟨p, us, e, f, r⟩ := h; ⟨p, us, e, f, paired_mono' (fun _ _ z => ⟨z.1, R.mono s z.2⟩) r⟩,
  fun h => let ⟨p, us, e, f, r⟩ := h; ⟨p, us, e, by rw [f]; exact ntF_one (fun _ z => nomatch z), r⟩⟩
where paired_mono' {α β : Type} {F G : α → β → Prop} (h : ∀ x y, F x y → G x y) : ∀ {l : List α} {m : List β}, Paired F l m → Paired G l m
  | _, _, .nil => .nil
  | _, _, .cons a r => .cons (h _ _ a) (dt.paired_mono' h r)
end Fw
namespace Fw
open PySem L2
/-! ## tables -/
end Fw
namespace Fw
open PySem L2
/-! ## sorted of a list of pairs -/
end Fw
namespace Fw
open PySem L2
variable [Tb]
variable {α β γ δ ε ρ κ θ : Type}
/-- x = e, the environment behind it told -/
theorem s1_setE {X : Cx} {e : Expr} {pos : Pos} {Γ Γ1 Γ2 : List Slot} {S : Slot} {i : Nat} {x : Str} {pos' : Pos} (hN : X.N.Nodup) (hi : X.N[i]? = some x) (hx : Loc X.env.scope x) (he : EX X e Γ S Γ1) (hG : i < Γ.length) (hE : Γ1.set i S = Γ2)
    (hs : swapsWith e (some (.Name x pos')) pos.line X.env = pure false := by rfl) (hf : X.fn x = true ∨ X.env.scope.names.lookup x = some .local := by first | exact .inl rfl | exact .inr rfl) : S1 X (.Assign [.Name x pos'] e pos) Γ (fun r => r = .nx Γ2) := by
  subst hE
  exact s1_set hN hi hx he hG hs hf
/-! ## d.get(k, y) and d[k] = y, d an owned dict keyed by tuples -/
end Fw
namespace FwE
open PySem PySem.Spec PyProof.Rows L2 HT
section
variable {prog : Program} {w : World} {A : Around} {E : Value → Shared → Prop} {s : Shared}
/-! ## t[::-1] -/
theorem sliceApplied_rev {sl : Addr} {vl vu vs : Value} {n : Nat} {Q : Int × Int × Nat → Shared → Prop} (hs : s.heap.IsSliceOf sl vl vu vs) (pl : IsPart vl none) (pu : IsPart vu none) (ps : IsPart vs (some (-1)))
    (h : Q ((n : Int) - 1, -1, n) s) : wpAny (model prog w) A (Builtin.Slice.sliceApplied (.ref sl) (pure (n : Int))) Q E s := by
  obtain ⟨os, hos, hcs, hds⟩ := id hs
  unfold Builtin.Slice.sliceApplied Builtin.Slice.sliceFields
  refine wpAny_bind (wpAny_bind (wpAny_field hos hds (x := vl) rfl (wpAny_bind (wpAny_field hos hds (x := vu) rfl (wpAny_bind (wpAny_field hos hds (x := vs) rfl (wpAny_pure ?_)))))))
  refine wpAny_bind (slicePart_ ps ?_)
  show wpAny _ _ (if ((-1 : Int) == 0) = true then _ else _) _ _ s
  rw [if_neg (by decide)]
  refine wpAny_bind (slicePart_ pl (wpAny_bind (slicePart_ pu (wpAny_bind (wpAny_pure ?_)))))
  show wpAny _ _ (pure ((n : Int) - 1, (-1 : Int), Builtin.Slice.slicePlaces ((n : Int) - 1) (-1) (-1))) _ _ s
  have e : Builtin.Slice.slicePlaces ((n : Int) - 1) (-1) (-1) = n := by
    unfold Builtin.Slice.slicePlaces
    rw [if_neg (by decide)]
    split
    · have : -(-1 : Int) = 1 := by decide
      rw [this, Int.ediv_one]
      omega
    · omega
  rw [e]
  exact wpAny_pure h
theorem pick_rev (xs : Array Value) : ((List.range xs.size).filterMap fun (k : Nat) => xs[(((xs.size : Int) - 1) + (k : Int) * (-1)).toNat]?) = xs.toList.reverse := by
  have e : (List.range xs.size).filterMap (fun (k : Nat) => xs[(((xs.size : Int) - 1) + (k : Int) * (-1)).toNat]?) = ((List.range xs.size).map fun k => xs.size - 1 - k).filterMap (fun k => xs[k]?) := by
    rw [List.filterMap_map]
    congr 1
    funext k
    show xs[(((xs.size : Int) - 1) + (k : Int) * (-1)).toNat]? = xs[xs.size - 1 - k]?
    congr 1
    omega
  rw [e, PySem.W.krv_range, List.filterMap_reverse]
  exact congrArg List.reverse (PySem.W.krv_all xs)
theorem getItem_tuple_rev {t sl : Addr} {items : Array Value} {vl vu vs : Value} {Q : Value → Shared → Prop} (ht : IsTup s.heap t items) (hs : s.heap.IsSliceOf sl vl vu vs) (pl : IsPart vl none) (pu : IsPart vu none) (ps : IsPart vs (some (-1)))
    (h : Q (.ref s.heap.objs.size) { s with heap := s.heap.push { cls := .type "tuple", data := .seq items.toList.reverse.toArray } })
    (hsz : items.size ≤ sizeLine) : wpAny (model prog w) A (getItem (.ref t) (.ref sl)) Q E s := by
  have htake : sizeOk (.seq items.toList.reverse.toArray) := by
    show items.toList.reverse.toArray.size ≤ sizeLine
    rw [List.size_toArray, List.length_reverse, Array.length_toList]
    omega
  obtain ⟨os, hos, hcs, hds⟩ := id hs
  have hTs : s.TypeIs (.ref sl) "slice" := ⟨os, hos, hcs⟩
  unfold getItem
  try with_reducible refine wpAny_holding ?_
  first | refine wpAny_bind (wpAny_pure ?_) | skip
  refine wpAny_bind (wpAny_sequenceKey ht.typeIs (by decide) ?_)
  refine wpAny_bind (wpAny_callSpecial?_slot (name := Str.ofString "__getitem__") ht.typeIs PyProof.Rows.slot_tuple_getitem
    (wpAny_call_entry PyProof.Rows.slot_tuple_getitem ht.typeIs PyProof.Rows.entry_tuple_getitem ?_ (PyProof.Rows.args_tuple_getitem _ _)))
  show wpAny _ _ (Builtin.Tuple.tupleItemsOf (.ref t) >>= _) _ _ s
  refine wpAny_bind (tupleItemsOf_ ht ?_)
  refine wpAny_bind (wpAny_typeOf hTs ?_)
  rw [if_pos (by decide)]
  refine wpAny_bind (sliceApplied_rev hs pl pu ps ?_)
  have hno : ¬ (((((items.size : Int) - 1)) == 0 && (-1 : Int) == 1 && items.size == items.size) = true) := by
    intro q
    rw [Bool.and_eq_true, Bool.and_eq_true] at q
    exact absurd q.1.2 (by decide)
  show wpAny _ _ (if (((items.size : Int) - 1) == 0 && (-1 : Int) == 1 && items.size == items.size) = true then _ else _) _ _ s
  rw [if_neg hno]
  have e : ((List.range items.size).filterMap fun (k : Nat) => items[(((items.size : Int) - 1) + (k : Int) * (-1)).toNat]?).toArray = items.toList.reverse.toArray := congrArg List.toArray (pick_rev items)
  rw [e]
  first
    | exact wpAny_bind (m := Builtin.Tuple.tupleExact _) (wpAny_newObj_type (wpAny_pure ⟨_, rfl, wpAny_pure h⟩) htake)
    | exact wpAny_bind (m := Builtin.Tuple.tupleExact _) (wpAny_newObj_type (wpAny_bind (wpAny_pure (wpAny_pure ⟨_, rfl, wpAny_pure h⟩))) htake)
    | exact wpAny_bind (wpAny_bind (m := Builtin.Tuple.tupleExact _) (wpAny_newObj_type (wpAny_pure (wpAny_pure ⟨_, rfl, wpAny_pure h⟩)) htake))
    | exact wpAny_bind (wpAny_bind (m := Builtin.Tuple.tupleExact _) (wpAny_newObj_type (wpAny_pure ⟨_, rfl, wpAny_pure h⟩) htake))
/-! ## sorted of a tuple of ints -/
end
end FwE
namespace Fw
open PySem PySem.Spec PyProof.Rows L2
variable [Tb]
variable {α β γ δ ε ρ κ θ : Type}
/-! ## t[::-1] -/
def tRevT (K : PySem.W.Frag) (te : TE) : TE := fun σ H Q => te σ H fun x H1 => ∃ a xs, x = .ref a ∧ SqT K H1 a xs ∧ ∀ p, H1 p = none → Q (.ref p) (upd H1 p (.tup xs.reverse))
theorem pe_revT {X : Cx} {e : Expr} {te : TE} {k : Nat} {p1 p2 p3 pos : Pos} (he : PE X e te) : PE X (.Subscript e (.Slice none none (some (.UnaryOp .USub (.Constant (.int 1) k p1) p2)) p3) pos) (tRevT X.K te) := by
  refine ⟨fun pins s σ H Q I h => ?_⟩
  refine Subscript_ (thn (he.run pins s σ H _ I h) fun v s1 ⟨x, H1, I1, r1, q1⟩ => ?_)
  obtain ⟨a, xs, ex, hx, q⟩ := q1
  subst ex
  cases r1
  have hst : PO X (some (.UnaryOp .USub (.Constant (.int 1) k p1) p2)) (tPart (tUn (rU fun i => .int (-i)) (tC (.int 1)))) := po_some (pe_un un_neg pe_int)
  refine wpAny_Slice (thn (po_none.run pins s1 σ H1 (fun o H2 => o = none ∧ H2 = H1) I1 ⟨rfl, rfl⟩) fun vl s2 ⟨l, H2, I2, pl, el, e2⟩ => ?_)
  subst el e2
  refine thn (po_none.run pins s2 σ H2 (fun o H3 => o = none ∧ H3 = H2) I2 ⟨rfl, rfl⟩) fun vu s3 ⟨u, H3, I3, pu, eu, e3⟩ => ?_
  subst eu e3
  refine thn (hst.run pins s3 σ H3 (fun o H4 => o = some (-1) ∧ H4 = H3) I3 ⟨1, rfl, -1, rfl, rfl, rfl⟩) fun vs s4 ⟨o, H4, I4, ps, eo, e4⟩ => ?_
  subst eo e4
  have I5 : L2.Inv X pins σ H4 { s4 with heap := s4.heap.push { cls := .type "slice", data := .fields #[vl, vu, vs] } } := I4.kept (t' := s4.toks) fun b ob q => Heap.get?_push_of_some _ q
  obtain ⟨its, r, ht, hz⟩ := I5.tuple hx
  have hlen := r.length
  show wpAny (model X.prog X.w) X.A (subscriptTail e (.Slice none none (some (.UnaryOp .USub (.Constant (.int 1) k p1) p2)) p3) (.ref a) (.ref s4.heap.objs.size)) (EP X pins σ Q) X.xe { s4 with heap := s4.heap.push { cls := .type "slice", data := .fields #[vl, vu, vs] } }
  refine tail_any (ops := [.ref a, .ref s4.heap.objs.size]) ht.typeIs (PyProof.Rows.slot_tuple_getitem.lookup) ?_ (by with_unfolding_all rfl)
  refine FwE.getItem_tuple_rev ht (Heap.IsSliceOf.new _ vl vu vs) pl pu ps ?_ (by rw [List.size_toArray]; omega)
  refine ⟨.ref _, _, I5.laid (t' := s4.toks) (o := .tup xs.reverse) (fun b ob q => Heap.get?_push_of_some _ q) (Nat.le_refl _) ?_, rfl, q _ (I5.hok.fresh (Nat.le_refl _))⟩
  exact ⟨by rw [List.length_reverse]; exact hz, _, r.reverse, ⟨_, Heap.get?_push_size _ rfl, rfl, _, rfl⟩⟩
section
variable {X : Cx} {a b c e : Expr} {pos : Pos} {Γ Γ1 Γ2 : List Slot}
theorem x_revT {R : Ty α} {xs : List α} {k : Nat} {p1 p2 p3 : Pos} (ha : EX X a Γ (pu (tT X.K R) xs) Γ1) : EX X (.Subscript a (.Slice none none (some (.UnaryOp .USub (.Constant (.int 1) k p1) p2)) p3) pos) Γ (pu (tT X.K R) xs.reverse) Γ1 := by
  (first | refine ⟨?_⟩ | skip); intro T _ τ σ s hl E Q hQ
  refine re_of (pe_revT peR) ?_
  refine ha T τ σ s hl E _ fun v s1 E1 l1 e1 => ?_
  obtain ⟨a', vs, e, z, r⟩ := pu_top E1
  obtain ⟨E2, e2⟩ := E1.pop
  refine ⟨a', vs, e, same_sqt E1.sub z, fun p hp => ?_⟩
  obtain ⟨E4, e4⟩ := E2.push1 (o := some (.ref p)) (ob := .tup vs.reverse) hp (pu (tT X.K R) xs.reverse) fun k1 k2 => ⟨rfl, _, rfl, p, _, rfl, sqt_new k2, paired_mono (fun _ _ w => R.mono k1 w) (paired_rev r)⟩
  exact hQ _ _ E4 l1 ((e1.trans e2).trans e4)
/-! ## slices with both bounds, and all but the last -/
theorem cut_mid {xs : List α} {vs : List V} {F : V → α → Prop} {i j : Int} (r : Paired F vs xs) (h0 : 0 ≤ i) (h1 : 0 ≤ j) : Paired F (cutV vs (some i) (some j)) ((xs.take j.toNat).drop i.toNat) := by
  obtain ⟨n, rfl⟩ : ∃ n : Nat, i = (n : Int) := ⟨i.toNat, by omega⟩
  obtain ⟨m, rfl⟩ : ∃ m : Nat, j = (m : Int) := ⟨j.toNat, by omega⟩
  unfold cutV
  rw [HT.sIx_nat, HT.sIx_nat, Int.toNat_natCast, Int.toNat_natCast]
  have e : (List.drop (min n vs.length) vs).take (min m vs.length - min n vs.length) = (vs.take m).drop n := by
    rw [List.drop_take]
    by_cases q : n ≤ vs.length
    · rw [Nat.min_eq_left q]
      by_cases q2 : m ≤ vs.length
      · rw [Nat.min_eq_left q2]
      · rw [Nat.min_eq_right (by omega), List.take_of_length_le (by simp), List.take_of_length_le (by simp; omega)]
    · have e1 : min n vs.length = vs.length := Nat.min_eq_right (by omega)
      rw [e1, List.drop_of_length_le (Nat.le_refl _), List.drop_of_length_le (l := vs) (i := n) (by omega)]; simp
  rw [e]
  exact paired_drop n (paired_take m r)
theorem x_slL {R : Ty α} {S : Ty (List α)} {xs : List α} {i j : Int} {p2 : Pos} (q : SeqL X.K S R) (ha : EX X a Γ (pu S xs) Γ1) (hb : EX X b Γ1 (pu tI i) Γ1) (hc : EX X c Γ1 (pu tI j) Γ1) (h0 : 0 ≤ i ∧ 0 ≤ j) : EX X (.Subscript a (.Slice (some b) (some c) none p2) pos) Γ (ol R ((xs.take j.toNat).drop i.toNat)) Γ1 :=
  ex_sl sl_list ha (po_i hb) (po_i hc) (o_slL q fun _ _ r => cut_mid r h0.1 h0.2)
/-! ## a op b op' c of ints -/
theorem dec_S {x y : Str} : decide (V.str x = V.str y) = decide (x = y) := decide_eq_decide.mpr ⟨fun h => V.str.inj h, fun h => by rw [h]⟩
theorem o_eqS {x y : Str} : Op2 rEq (pu tS x) (pu tS y) (pu tB (decide (x = y))) := op2_val fun _ _ _ _ _ h1 h2 _ q => by
  rw [show _ = V.str x from h1, show _ = V.str y from h2]
  exact ⟨rfl, by rw [dec_S]; exact q _ rfl⟩
theorem o_neS {x y : Str} : Op2 rNe (pu tS x) (pu tS y) (pu tB (!decide (x = y))) := op2_val fun _ _ _ _ _ h1 h2 _ q => by
  rw [show _ = V.str x from h1, show _ = V.str y from h2]
  exact ⟨rfl, by rw [dec_S]; exact q _ rfl⟩
/-! ## a target of three names -/
end
end Fw
namespace Fw
open PySem PySem.Spec PyProof.Rows L2
variable [Tb]
variable {α β γ δ ε ρ κ θ : Type}
/-! ## x in xs, of data -/
def rInD (K : PySem.W.Frag) (ne : Bool) : R2 := fun x y H Q => ∃ (d : PyData) (es : List PyData), Dp K H x d ∧ (Dp K H y (.list es) ∨ Dp K H y (.tuple es)) ∧ d.plain = true ∧ PyData.plainAll es = true ∧ d.depth ≤ 30 ∧ Q (.bl (ne != es.any fun e => PyData.eqv e d)) H
theorem op_inD {X : Cx} (hu : X.A.units + 64 < cLine) : OpR X (compareOp .In) (rInD X.K false) := by
  intro pins s σ H x y v u Q I rx ry h
  obtain ⟨d, es, hd, he, pd, pe, dd, q⟩ := h
  obtain ⟨as, r1⟩ := Dp.reads I d x v hd rx
  rcases he with he | he
  · obtain ⟨bs, r2⟩ := Dp.reads I _ y u he ry
    exact SeqAt.in_list_data r2 r1 pe pd (by omega) ⟨.bl _, H, I, rfl, by simpa using q⟩
  · obtain ⟨bs, r2⟩ := Dp.reads I _ y u he ry
    exact SeqAt.in_tuple_data r2 r1 pe pd (by omega) ⟨.bl _, H, I, rfl, by simpa using q⟩
/-! ## x == y, of things with an own == -/
end Fw
namespace Fw
open PySem L2
/-! ## a dict of owned lists -/
/-! ## a dict in the pure region -/
end Fw
namespace Fw
open PySem L2
variable [Tb]
variable {α β γ δ ε ρ κ θ : Type}
theorem n_intB {b : Bool} : OpN (fun xs H Q => (∃ i, xs = [.int i] ∧ Q (.int i) H) ∨ ∃ k, xs = [.bl k] ∧ Q (.int (if k then 1 else 0)) H) [pu tB b] (pu tI (if b = true then 1 else 0)) := by
  refine opN_1 fun σ Γ s v E Q hQ => ?_
  obtain rfl : v = .bl b := pu_top E
  obtain ⟨E2, e2⟩ := E.pop
  have q := hQ (.int (if b = true then 1 else 0)) _ (E2.push0 (pu tI (if b = true then 1 else 0)) ⟨rfl, _, rfl, rfl⟩) e2
  exact .inr ⟨b, rfl, q⟩
end Fw
namespace Fw
open PySem PySem.Spec PyProof.Rows L2
variable [Tb]
variable {α β γ δ ε ρ κ θ : Type}
/-! ## for x in reversed(a list) -/
/-! ## tuples of three ints, as triples -/
def v3 (x : List Int) : Int × Int × Int := (ix x 0, ix x 1, ix x 2)
/-! ## what may be None, and is not -/
theorem x_unO {X : Cx} {e : Expr} {Γ Γ1 : List Slot} {R : Ty α} {o : Option α} {d : α} (h : EX X e Γ (pu (tO R) o) Γ1) (hs : o.isSome = true) : EX X e Γ (pu R (o.getD d)) Γ1 := x_sub h fun B v z => by
  cases o with
  | none => cases hs
  | some x => exact z.1
theorem Wk.some {Γ : List Slot} {R : Ty α} {x : α} {i : Nat} (hi : Γ[i]? = Option.some (Fw.pu R x)) (hn : ∀ B v, R.rep B v x → v ≠ .non) : Wk Γ (Γ.set i (Fw.pu (tO R) (Option.some x))) := Wk.turn hi (fun B o h => let ⟨h1, v, e, r⟩ := h; ⟨h1, v, e, r, hn B v r⟩) fun B F o h => h.1
/-! ## sorted of tables: tuples of rows -/
end Fw
namespace Fw
open PySem L2
variable [Tb]
variable {α β γ δ ε ρ κ θ : Type}
/-! ## an owned instance, of which some fields are owned lists -/
theorem Wk.any {Γ : List Slot} {S S' : Slot} {i : Nat} (hi : Γ[i]? = Option.some S) (h : ∀ B F o, S.p B F o → S'.p B F o) : Wk Γ (Γ.set i S') := ⟨by simp, fun T τ σ s hl E => by
  have hlt := (List.getElem?_eq_some_iff.mp hi).1
  have hi' : (Γ ++ T)[i]? = Option.some S := by rw [List.getElem?_append_left hlt]; exact hi
  obtain ⟨E2, e2⟩ := E.turn (S' := S') (F' := s.F i) hi' (fun _ _ h => h) (h _ _ _ (E.sl i _ hi'))
  rw [set_app hlt] at E2
  exact ⟨_, E2, e2, rfl⟩⟩
end Fw
namespace Fw
open PySem L2
variable [Tb]
variable {α β γ δ ε ρ κ θ : Type}
/-! ## ints, texts and tuples of such, to a depth -/
inductive TupV (K : PySem.W.Frag) (B : Hp) : V → Nat → Prop
  | int (i : Int) (n : Nat) : TupV K B (.int i) n
  | str (s : Str) (n : Nat) : TupV K B (.str s) n
  | tup {a : Addr} {vs : List V} {n : Nat} (h : SqT K B a vs) (k : ∀ v ∈ vs, TupV K B v n) : TupV K B (.ref a) (n + 1)
theorem TupV.mono {K : PySem.W.Frag} {B B' : Hp} (s : Same B B') {v : V} {n : Nat} (h : TupV K B v n) : TupV K B' v n := by
  induction h with
  | int i n => exact .int i n
  | str x n => exact .str x n
  | tup h _ ih => exact .tup (same_sqt s h) ih
theorem TupV.up {K : PySem.W.Frag} {B : Hp} {v : V} {n : Nat} (h : TupV K B v n) : ∀ {m : Nat}, n ≤ m → TupV K B v m := by
  induction h with
  | int i n => exact fun _ => .int i _
  | str x n => exact fun _ => .str x _
  | @tup a vs n h _ ih =>
    intro m hm
    cases m with
    | zero => omega
    | succ m => exact .tup h fun v hv => ih v hv (by omega)
def TV (K : PySem.W.Frag) (R : Ty α) (n : Nat) : Prop := ∀ B v x, R.rep B v x → TupV K B v n
end Fw
namespace Fw
open PySem L2
variable [Tb]
variable {α β γ δ ε ρ κ θ : Type}
/-! ## comprehensions whose items are owned -/
/-! ## a list of owned lists, told by their addresses -/
/-- nothing but lists -/
def OnlyL (F : Hp) : Prop := ∀ a u, F a = some u → ∃ vs, u = .lst vs
theorem OnlyL.nt {F : Hp} (h : OnlyL F) : OnlyL (ntF F) := fun a u e => by
  unfold ntF at e
  split at e
  · cases e
  · cases e
  · exact h a u e
theorem OnlyL.one {q : Addr} {vs : List V} : OnlyL (Fw.one q (.lst vs)) := fun a u e => by
  unfold Fw.one at e
  split at e
  · cases e; exact ⟨vs, rfl⟩
  · cases e
theorem OnlyL.un {F G : Hp} (h : OnlyL F) (k : OnlyL G) : OnlyL (un2 F G) := fun a u e => (un2_some e).elim (h a u) fun z => k a u z.2
/-! ## len of a set of tuples -/
/-! ## an if whose way may be left, with more behind it -/
end Fw
namespace Fw
open PySem L2
/-! ## the key tuples -/
/-! ## reading a dict of any kind -/
/-! ## a dependency whose sides may be keys -/
end Fw
/-! ## == and != in general, by == inside a builtin -/
namespace FwE
open PySem PySem.SeqAt
open PySem.AutoSeq1 (wpAny_loadPart')
open PySem.MeetsSeq PySem.MeetsSeq2 PySem.MeetsSeq3
end FwE
namespace Fw
open PySem PySem.Spec PyProof.Rows L2
variable [Tb]
variable {α β γ : Type}
/-- == inside a builtin, of things of a type -/
def EqB (X : Cx) (n : Nat) [DecidableEq α] (R : Ty α) : Prop := ∀ (A : Around) (pins : List (Addr × Obj)) (s : Shared) (σ : L2.St) (st : Sta) (σe : L2.St) (Γ : List Slot) [HasTab Γ] (v u : V) (vv uu : Value) (x y : α), L2.Sub X n A → EnvOk st σe Γ → Inv X pins σ st.H s → RelV v vv → RelV u uu → R.rep st.B v x → R.rep st.B u y →
  wpAny (model X.prog X.w) A (eqBool vv uu) (fun r s' => r = decide (x = y) ∧ ∃ st' : Sta, EnvOk st' σe Γ ∧ Evo st st' ∧ Inv X pins σ st'.H s') X.xe s
theorem EqB.mono {X : Cx} {n m : Nat} [DecidableEq α] {R : Ty α} (h : EqB X n R) (hn : n ≤ m) : EqB X m R := fun A pins s σ st σe Γ _ v u vv uu x y sb => h A pins s σ st σe Γ v u vv uu x y (sb.mono hn)
end Fw
namespace Fw
open PySem L2
variable [Tb]
variable {α β γ δ ε ρ κ θ : Type}
theorem TV.up {K : PySem.W.Frag} {R : Ty α} {n m : Nat} (h : TV K R n) (k : n ≤ m) : TV K R m := fun B v x r => (h B v x r).up k
/-! ## one type below another -/
def SB (R R' : Ty α) : Prop := ∀ B v x, R.rep B v x → R'.rep B v x
theorem sb_refl {R : Ty α} : SB R R := fun _ _ _ h => h
theorem sb_Q {K : PySem.W.Frag} {R R' : Ty α} {S : Ty (List α)} (q : SeqA K S R) (h : SB R R') : SB S (tQ K R') := fun _ _ _ z => let ⟨a, vs, e, w, r⟩ := q.get z; ⟨a, vs, e, w, paired_mono (fun _ _ z => h _ _ _ z) r⟩
theorem x_sb {X : Cx} {e : Expr} {Γ Γ1 : List Slot} {R R' : Ty α} {y : α} (s : SB R R') (h : EX X e Γ (pu R y) Γ1) : EX X e Γ (pu R' y) Γ1 := x_sub h fun B v z => s B v y z
end Fw
namespace Fw
open PySem PySem.Spec PyProof.Rows L2
variable [Tb]
variable {α β γ δ : Type}
/-! ## data with texts: == and in -/
structure DatP (K : PySem.W.Frag) (R : Ty α) [DecidableEq α] (n : Nat) where
  d : α → PyData
  rp : ∀ {B v a}, R.rep B v a → Dp K B v (d a)
  pl : ∀ a, (d a).plain = true
  dep : ∀ a, (d a).depth ≤ n
  eqv : ∀ a b, PyData.eqv (d a) (d b) = decide (a = b)
section
variable {K : PySem.W.Frag} {R : Ty α} [DecidableEq α] {R1 : Ty β} [DecidableEq β] {R2 : Ty γ} [DecidableEq γ] {n m : Nat}
def Dat.p (D : Dat K R n) : DatP K R n := ⟨D.d, D.rp, fun a => PyData.plain_of_canLay0 _ (D.lay a), D.dep, D.eqv⟩
def pS : DatP K tS 0 := ⟨PyData.str, fun h => by rw [show _ = V.str _ from h]; exact .str _, fun _ => rfl, fun _ => Nat.le_refl _, fun a b => by simp [PyData.eqv, Bool.beq_eq_decide_eq]⟩
theorem datp_all (D : DatP K R n) {B : Hp} : ∀ {vs : List V} {xs : List α}, Paired (R.rep B) vs xs → DpAll K B vs (xs.map D.d)
  | _, _, .nil => .nil
  | _, _, .cons r t => .cons (D.rp r) (datp_all D t)
theorem datp_pl (D : DatP K R n) : ∀ xs : List α, PyData.plainAll (xs.map D.d) = true
  | [] => rfl
  | x :: r => by simp only [List.map_cons, PyData.plainAll, D.pl x, datp_pl D r, Bool.and_self]
theorem datp_dep (D : DatP K R n) : ∀ xs : List α, PyData.depthAll (xs.map D.d) ≤ n
  | [] => by simp [PyData.depthAll]
  | x :: r => by
    have h1 := D.dep x
    have h2 := datp_dep D r
    simp only [List.map_cons, PyData.depthAll]
    omega
theorem datp_eqv (D : DatP K R n) : ∀ xs ys : List α, PyData.eqvAll (xs.map D.d) (ys.map D.d) = decide (xs = ys)
  | [], [] => by simp [PyData.eqvAll]
  | [], _ :: _ => by simp [PyData.eqvAll]
  | _ :: _, [] => by simp [PyData.eqvAll]
  | x :: r, y :: q => by
    simp only [List.map_cons, PyData.eqvAll, D.eqv x y, datp_eqv D r q]
    by_cases e : x = y <;> by_cases f : r = q <;> simp [e, f]
def pLs (D : DatP K R n) : DatP K (tLs K R) (n + 1) := ⟨fun xs => .list (xs.map D.d),
  fun h => by obtain ⟨a, vs, e, z, r⟩ := sqLs.get h; rw [e]; exact .lst z (datp_all D r), fun a => by simp only [PyData.plain]; exact datp_pl D a,
  fun a => by have := datp_dep D a; simp only [PyData.depth]; omega, fun a b => by simp only [PyData.eqv]; exact datp_eqv D a b⟩
def DatP.up (D : DatP K R n) (h : n ≤ m) : DatP K R m := ⟨D.d, D.rp, D.pl, fun a => Nat.le_trans (D.dep a) h, D.eqv⟩
def pP2 (D : DatP K R n) (D1 : DatP K R1 n) : DatP K (tP2 K R R1) (n + 1) := ⟨fun x => .tuple [D.d x.1, D1.d x.2],
  fun h => by obtain ⟨a, v1, v2, e, q, r1, r2⟩ := h; rw [e]; exact .tup q (.cons (D.rp r1) (.cons (D1.rp r2) .nil)), fun a => by simp [PyData.plain, PyData.plainAll, D.pl, D1.pl],
  fun a => by have := D.dep a.1; have := D1.dep a.2; simp only [PyData.depth, PyData.depthAll]; omega,
  fun a b => by obtain ⟨a1, a2⟩ := a; obtain ⟨b1, b2⟩ := b; simp only [PyData.eqv, PyData.eqvAll, D.eqv, D1.eqv]; by_cases e : a1 = b1 <;> by_cases f : a2 = b2 <;> simp [e, f]⟩
def pP3 (D : DatP K R n) (D1 : DatP K R1 n) (D2 : DatP K R2 n) : DatP K (tP3 K R R1 R2) (n + 1) := ⟨fun x => .tuple [D.d x.1, D1.d x.2.1, D2.d x.2.2],
  fun h => by obtain ⟨a, v1, v2, v3, e, q, r1, r2, r3⟩ := h; rw [e]; exact .tup q (.cons (D.rp r1) (.cons (D1.rp r2) (.cons (D2.rp r3) .nil))), fun a => by simp [PyData.plain, PyData.plainAll, D.pl, D1.pl, D2.pl],
  fun a => by have := D.dep a.1; have := D1.dep a.2.1; have := D2.dep a.2.2; simp only [PyData.depth, PyData.depthAll]; omega,
  fun a b => by obtain ⟨a1, a2, a3⟩ := a; obtain ⟨b1, b2, b3⟩ := b; simp only [PyData.eqv, PyData.eqvAll, D.eqv, D1.eqv, D2.eqv]; by_cases e : a1 = b1 <;> by_cases f : a2 = b2 <;> by_cases g : a3 = b3 <;> simp [e, f, g]⟩
end
def rEqP (K : PySem.W.Frag) (ne : Bool) : R2 := fun x y H Q => ∃ (d e : PyData), Dp K H x d ∧ Dp K H y e ∧ d.plain = true ∧ e.plain = true ∧ d.depth ≤ 60 ∧ Q (.bl (ne != PyData.eqv d e)) H
theorem op_eqP {X : Cx} (hu : X.A.units + 64 < cLine) : OpR X (compareOp .Eq) (rEqP X.K false) := by
  intro pins s σ H x y v u Q I rx ry h
  obtain ⟨d, e, hd, he, pd, pe, dd, q⟩ := h
  obtain ⟨as, r1⟩ := Dp.reads I d x v hd rx
  obtain ⟨bs, r2⟩ := Dp.reads I e y u he ry
  exact SeqAt.eq_plain r1 r2 pd pe (by omega) ⟨.bl _, H, I, rfl, by simpa using q⟩
section
variable {K : PySem.W.Frag} {R : Ty α} [DecidableEq α] {n : Nat} {x y : α} {xs : List α}
theorem o_eqP (D : DatP K R n) (hn : n ≤ 20 := by decide) : Op2 (rEqP K false) (pu R x) (pu R y) (pu tB (decide (x = y))) :=
  op2_val fun _ _ _ _ s h1 h2 _ q => ⟨D.d x, D.d y, dp_same s _ _ (D.rp h1), dp_same s _ _ (D.rp h2), D.pl x, D.pl y, by have := D.dep x; omega, by rw [D.eqv]; exact q _ (by simp [tB])⟩
theorem any_datp (D : DatP K R n) : ((xs.map D.d).any fun e => PyData.eqv e (D.d x)) = decide (x ∈ xs) := by
  rw [Bool.eq_iff_iff, decide_eq_true_eq, List.any_map, List.any_eq_true]
  constructor
  · rintro ⟨y, hy, e⟩
    have e' : PyData.eqv (D.d y) (D.d x) = true := e
    rw [D.eqv, decide_eq_true_eq] at e'
    rw [← e']; exact hy
  · intro h
    refine ⟨x, h, ?_⟩
    show PyData.eqv (D.d x) (D.d x) = true
    rw [D.eqv]; simp
theorem o_inLp {inst : Decidable (x ∈ xs)} (D : DatP K R n) (hn : n ≤ 20 := by decide) : Op2 (rInD K false) (pu R x) (pu (tLs K R) xs) (pu tB (@decide (x ∈ xs) inst)) :=
  op2_val fun _ _ _ _ s h1 h2 _ q => ⟨D.d x, xs.map D.d, dp_same s _ _ (D.rp h1), .inl (dp_same s _ _ ((pLs D).rp h2)), D.pl x, datp_pl D xs, by have := D.dep x; omega, by rw [any_datp D]; exact q _ (by show V.bl _ = V.bl _; simp)⟩
end
/-! ## one thing seen as another -/
def Co (R : Ty α) (R' : Ty β) (x : α) (y : β) : Prop := ∀ B v, R.rep B v x → R'.rep B v y
theorem x_co {X : Cx} {e : Expr} {Γ Γ1 : List Slot} {R : Ty α} {R' : Ty β} {x : α} {y : β} (c : Co R R' x y) (h : EX X e Γ (pu R x) Γ1) : EX X e Γ (pu R' y) Γ1 := x_sub h c
section
variable {K : PySem.W.Frag} {R : Ty α} {R' : Ty β} {S : Ty γ} {S' : Ty δ}
theorem Co.trans {R2 : Ty γ} {x : α} {y : β} {z : γ} (h : Co R R' x y) (k : Co R' R2 y z) : Co R R2 x z := fun B v r => k B v (h B v r)
/-! ## one of two makes -/
theorem nl_O (h : NL R) : NL (tO R) := fun B v s r => by
  cases s with
  | none => exact r
  | some x => exact ⟨h B v x r.1, r.2⟩
end
/-! ## a text, a number, a set or sets -/
inductive FV where
  | s (x : Str)
  | i (n : Int)
  | t (xs : List Int)
  | p (xs : List (List Int))
instance : Inhabited FV := ⟨.i 0⟩
def FV.isS : FV → Bool | .s _ => true | _ => false
def FV.isI : FV → Bool | .i _ => true | _ => false
def FV.isT : FV → Bool | .t _ => true | _ => false
def FV.gS : FV → Str | .s x => x | _ => default
def FV.gI : FV → Int | .i x => x | _ => 0
def FV.gT : FV → List Int | .t x => x | _ => []
section
variable {K : PySem.W.Frag}
def tF (K : PySem.W.Frag) : Ty FV := ⟨fun B v a => match a with | .s x => tS.rep B v x | .i x => tI.rep B v x | .t x => (tT K tI).rep B v x | .p x => (tT K (tT K tI)).rep B v x,
  fun {B B' v a} s h => match a, h with | .s x, h => tS.mono s h | .i x, h => tI.mono s h | .t x, h => (tT K tI).mono s h | .p x, h => (tT K (tT K tI)).mono s h⟩
theorem co_fs {x : Str} : Co tS (tF K) x (.s x) := fun _ _ h => h
theorem co_fi {x : Int} : Co tI (tF K) x (.i x) := fun _ _ h => h
theorem co_ft {x : List Int} : Co (tT K tI) (tF K) x (.t x) := fun _ _ h => h
theorem co_gS {x : FV} (h : x.isS = true) : Co (tF K) tS x x.gS := fun _ _ r => by
  cases x <;> first | exact r | cases h
theorem co_gI {x : FV} (h : x.isI = true) : Co (tF K) tI x x.gI := fun _ _ r => by
  cases x <;> first | exact r | cases h
theorem co_gT {x : FV} (h : x.isT = true) : Co (tF K) (tT K tI) x x.gT := fun _ _ r => by
  cases x <;> first | exact r | cases h
theorem nl_F : NL (tF K) := fun B v x r => by
  cases x with
  | s x => exact nl_S B v x r
  | i x => exact nl_I B v x r
  | t x => exact nl_T nl_I B v x r
  | p x => exact nl_T (nl_T nl_I) B v x r
end
section
variable {K : PySem.W.Frag} {R1 : Ty α} {R2 : Ty β} {R3 : Ty γ}
theorem nn_P2 {x : α × β} : ∀ B v, (tP2 K R1 R2).rep B v x → v ≠ .non := fun _ _ ⟨_, _, _, e, _⟩ h => by rw [e] at h; cases h
theorem nn_P3 {x : α × β × γ} : ∀ B v, (tP3 K R1 R2 R3).rep B v x → v ≠ .non := fun _ _ ⟨_, _, _, _, e, _⟩ h => by rw [e] at h; cases h
theorem t_chain {X : Cx} {a b c : Expr} {pos : Pos} {Γ : List Slot} {op op' : CmpOp} {g g' : Int → Int → Bool} {x y z : Int} (h1 : OpR X (compareOp op) (rI0 fun i j => .bl (g i j))) (h2 : OpR X (compareOp op') (rI0 fun i j => .bl (g' i j))) (ha : EX X a Γ (pu tI x) Γ) (hb : EX X b Γ (pu tI y) Γ) (hc : EX X c Γ (pu tI z) Γ)
    (hm : lastMarks [op, op'] [b, c] = false := by with_unfolding_all rfl) : ET X (.Compare a [op, op'] [b, c] pos) Γ (g x y && g' y z) Γ := by
  (first | refine ⟨?_⟩ | skip); intro T _ τ σ s hl E Q hQ
  refine rt_of (pt_chain h1 h2 peR peR peR hm) ?_
  refine ha T τ σ s hl E _ fun v1 s1 E1 l1 e1 => ?_
  obtain rfl : v1 = .int x := pu_top E1
  obtain ⟨E2, e2⟩ := E1.pop
  refine hb T τ σ _ hl E2 _ fun v2 s3 E3 l3 e3 => ?_
  obtain rfl : v2 = .int y := pu_top E3
  obtain ⟨E4, e4⟩ := E3.pop
  refine ⟨x, y, rfl, rfl, g x y, rfl, ?_⟩
  cases hk : g x y with
  | false =>
    rw [if_neg (by decide)]
    rw [hk, Bool.false_and] at hQ
    have q := hQ _ E4 rfl (((e1.trans e2).trans e3).trans e4)
    exact ⟨false, rfl, q⟩
  | true =>
    rw [if_pos rfl]
    rw [hk, Bool.true_and] at hQ
    refine hc T τ σ _ hl E4 _ fun v5 s5 E5 l5 e5 => ?_
    obtain rfl : v5 = .int z := pu_top E5
    obtain ⟨E6, e6⟩ := E5.pop
    have q := hQ _ E6 rfl (((((e1.trans e2).trans e3).trans e4).trans e5).trans e6)
    exact ⟨y, z, rfl, rfl, _, rfl, q⟩
end
end Fw
namespace Fw
open PySem PySem.Spec PyProof.Rows L2
variable [Tb]
variable {α β γ δ : Type}
/-! ## isinstance, told by a value -/
def IsT (K : PySem.W.Frag) (R : Ty α) (u : Value) (f : α → Bool) : Prop := ∀ {B H : Hp} {v : V} {a : α}, R.rep B v a → Same B H → ∃ t, TyX K H v t ∧ PySem.W.kitOne K t u = some (f a)
section
variable {K : PySem.W.Frag} {R : Ty α} {R' : Ty β} {u : Value}
theorem n_isG {f : α → Bool} {c : V} {x : α} (h : IsT K R u f) (hc : ClsV c u) : OpN (rIsi K) [pu R x, pu (tC1 c) ()] (pu tB (f x)) :=
  opN_2 (op2_val fun B H v w s h1 h2 Q k => by
    obtain ⟨t, ht, hk⟩ := h h1 s
    exact ⟨v, w, t, u, f x, rfl, by rw [show w = c from h2]; exact hc, ht, hk, k _ rfl⟩)
end
/-! ## who has the first word in == -/
def Lk (X : Cx) (C : Addr) (R : Ty β) : Prop := ∀ {pins : List (Addr × Obj)} {σ : L2.St} {H : Hp} {s : Shared} {B : Hp} {u : V} {uu : Value} {y : β}, Inv X pins σ H s → Same B H → R.rep B u y → RelV u uu →
  ∃ tb, PySem.W.Looks (model X.prog X.w) s.heap (typeOf uu) tb ∧ PySem.W.notFirst X.K C tb = true
theorem nf_refl {K : PySem.W.Frag} {C : Addr} : PySem.W.notFirst K C (.ref C) = true := by simp [PySem.W.notFirst]
theorem nf_sub {K : PySem.W.Frag} {C : Addr} {t : Value} (h : PySem.W.subIn K t (.ref C) = some false) : PySem.W.notFirst K C t = true := by simp [PySem.W.notFirst, h]
section
variable {X : Cx} {C : Addr} {R : Ty β} {R' : Ty γ}
theorem lk_obj {C' : Addr} {fl : β → List (Str × Fld)} (h : PySem.W.notFirst X.K C (.ref C') = true) : Lk X C (tObj C' fl) := fun {pins σ H s B u uu y} I hB r ru => by
  obtain ⟨b, dx, vs, e, h1, _⟩ := r
  subst e
  obtain rfl : uu = Value.ref b := ru
  obtain ⟨m2, j2, _⟩ := ins_get I.hok (hB _ _ h1)
  obtain ⟨o2, j2, _⟩ := j2.look
  exact ⟨.ref C', j2.type, h⟩
end
/-- an own == that may be asked of anything -/
structure EqG (P : Program) (w : World) (K : PySem.W.Frag) (mg : Str → Option Value) (base : Heap) (R : Ty α) (R' : Ty β) (m : α → β → Bool) (C f : Addr) (k : Nat) (fd : FuncData) (ps : List Str) : Prop where
  F : FnOk P w K mg base CX0 k f fd ps (spP (A := α × β) (fun _ => True) (fun x => [pu R x.1, pu R' x.2]) (fun x => pu tB (m x.1 x.2)))
  hs : PySem.W.findIn K (.ref C) "__eq__" = some (some (.ref f))
  hf : PySem.W.isFn K (.ref f) = true
  hb : Binds K fd ps []
/-- R holds instances of C -/
def InsOf (R : Ty α) (C : Addr) : Prop := ∀ {B : Hp} {v : V} {x : α}, R.rep B v x → ∃ a dx fs, v = .ref a ∧ B a = some (.ins C dx fs)
theorem insOf_obj {C : Addr} {fl : α → List (Str × Fld)} : InsOf (tObj C fl) C := fun {B v x} r => by
  obtain ⟨a, dx, vs, e, h, _⟩ := r
  exact ⟨a, dx, vs, e, h⟩
/-- == inside anything, of an instance and something -/
theorem eqg_rc {X : Cx} {R : Ty α} {R' : Ty β} {m : α → β → Bool} {C f : Addr} {k : Nat} {fd : FuncData} {ps : List Str} (D : EqG X.prog X.w X.K X.mg X.base R R' m C f k fd ps) (hi : InsOf R C) (hk : Lk X C R') {A : Around} (sb : L2.Sub X k A) {pins : List (Addr × Obj)} {s : Shared} {σ : L2.St} {st : Sta} {σe : L2.St} {Γ : List Slot} [HasTab Γ]
    {v u : V} {vv uu : Value} {x : α} {y : β} (E : EnvOk st σe Γ) (I : Inv X pins σ st.H s) (rv : RelV v vv) (ru : RelV u uu) (hx : R.rep st.B v x) (hy : R'.rep st.B u y) :
    wpAny (model X.prog X.w) A (richCompare .Eq vv uu) (fun r s' => r = .bool (m x y) ∧ ∃ st' : Sta, EnvOk st' σe Γ ∧ Evo st st' ∧ Inv X pins σ st'.H s') X.xe s := by
  obtain ⟨a, dx, fs, rfl, ga⟩ := hi hx
  obtain rfl : vv = Value.ref a := rv
  obtain ⟨m1, j1, _⟩ := ins_get I.hok (E.sub _ _ ga)
  obtain ⟨o1, j1, _⟩ := j1.look
  obtain ⟨tb, lk, nf⟩ := hk I E.sub hy ru
  obtain ⟨m0, hF⟩ := I.fr
  refine PySem.W.cmp_K (op := .Eq) (tb := tb) sb.room.units0 hF I.ok.mod.kin j1 lk nf D.hs D.hf ?_
  have hl : σe.length = Γ.length := E.len
  have E2 := (E.push0 (o := some (.ref a)) (pu R x) ⟨rfl, _, rfl, hx⟩).push0 (o := some u) (pu R' y) ⟨rfl, _, rfl, hy⟩
  rw [List.append_assoc, List.append_assoc] at E2
  obtain ⟨sc, hH, Ec, back⟩ := handT hl E2
  have hsp : spP (A := α × β) (fun _ => True) (fun x => [pu R x.1, pu R' x.2]) (fun x => pu tB (m x.1 x.2)) [.ref a, u] st.H (fun z H' => z = .bl (m x y) ∧ ∃ st' : Sta, st'.H = H' ∧ EnvOk st' σe Γ ∧ Evo st st') E0 := by
    refine ⟨(x, y), sc, hH, trivial, Ec, fun z s' E' e' => ?_⟩
    obtain ⟨s3, h3, E3, e3⟩ := back [some z] [pu tB (m x y)] s' E' e'
    have hz : z = .bl (m x y) := pu_top E3
    obtain ⟨E4, e4⟩ := E3.pop
    exact ⟨hz, s3.cut Γ.length, h3, E4, e3.trans e4⟩
  have r2 : Vals [V.ref a, u] [Value.ref a, uu] := .cons rfl (.cons ru .nil)
  have hlen := D.F.len _ _ _ _ hsp
  have e0 : Env0 X.prog X.w X.K X.mg X.base A X.stack s st.H := by
    have e := I.env0
    exact ⟨by rw [sb.fr]; exact e.frames, e.mod, e.bs, e.bsz, e.funs, e.frf, e.hok, e.bare⟩
  refine wpAny_call (codeAny_mono (D.F.run A X.stack s st.H ⟨[.ref a, uu], []⟩ [.ref a, uu] [.ref a, u] _ E0 sb.room e0 (by
    have q := D.hb s [.ref a, uu] I.kIn (by simpa using hlen)
    simpa using q) r2 hsp) fun r s' hq => ?_)
  cases r with
  | error e => exact (show False from hq).elim
  | ok fl =>
    cases fl with
    | ret z =>
      obtain ⟨zv, H', I', rz, ez, st', eH, E', e'⟩ := I.after hq
      subst ez
      obtain rfl : z = Value.bool (m x y) := rz
      subst eH
      exact ⟨rfl, st', E', e', I'⟩
    | next => exact False.elim hq
    | brk => exact False.elim hq
    | cont => exact False.elim hq
/-- what == of a type with something comes to -/
def RcG (X : Cx) (n : Nat) (R : Ty α) (R' : Ty β) (m : α → β → Bool) : Prop := ∀ (A : Around) (pins : List (Addr × Obj)) (s : Shared) (σ : L2.St) (st : Sta) (σe : L2.St) (Γ : List Slot) [HasTab Γ] (v u : V) (vv uu : Value) (x : α) (y : β), L2.Sub X n A → EnvOk st σe Γ → Inv X pins σ st.H s → RelV v vv → RelV u uu → R.rep st.B v x → R'.rep st.B u y →
  wpAny (model X.prog X.w) A (richCompare .Eq vv uu) (fun r s' => r = .bool (m x y) ∧ ∃ st' : Sta, EnvOk st' σe Γ ∧ Evo st st' ∧ Inv X pins σ st'.H s') X.xe s
theorem rcg_of {X : Cx} {R : Ty α} {R' : Ty β} {m : α → β → Bool} {C f : Addr} {k : Nat} {fd : FuncData} {ps : List Str} (D : EqG X.prog X.w X.K X.mg X.base R R' m C f k fd ps) (hi : InsOf R C) (hk : Lk X C R') : RcG X k R R' m := by
  intro A pins s σ st σe Γ _ v u vv uu x y sb E I rv ru hx hy
  exact eqg_rc D hi hk sb E I rv ru hx hy
theorem RcG.mono {X : Cx} {n k : Nat} {R : Ty α} {R' : Ty β} {m : α → β → Bool} (h : RcG X n R R' m) (hn : n ≤ k) : RcG X k R R' m := fun A pins s σ st σe Γ _ v u vv uu x y sb => h A pins s σ st σe Γ v u vv uu x y (sb.mono hn)
theorem rcg_run {X : Cx} {n : Nat} {R : Ty α} {R' : Ty β} {m : α → β → Bool} (D : RcG X n R R' m) (hr : Room n X.A) {pins : List (Addr × Obj)} {σ : L2.St} {s : Shared} {st : Sta} {σe : L2.St} {Γ : List Slot} [HasTab Γ] {v u : V} {x : α} {y : β}
    (E : EnvOk st ((σe ++ [some v]) ++ [some u]) ((Γ ++ [pu R x]) ++ [pu R' y])) (I : Inv X pins σ st.H s) {vv uu : Value} (rv : RelV v vv) (ru : RelV u uu) {Q : Value → Shared → Prop}
    (fin : ∀ (st' : Sta) (s' : Shared), EnvOk st' σe Γ → Evo st st' → Inv X pins σ st'.H s' → Q (.bool (m x y)) s') :
    wpAny (model X.prog X.w) X.A (compareOp .Eq vv uu) Q X.xe s := by
  obtain ⟨hx, hy⟩ := pu_top2 E
  obtain ⟨E2, e2⟩ := E.pop
  obtain ⟨E3, e3⟩ := E2.pop
  show wpAny (model X.prog X.w) X.A (richCompare .Eq vv uu) Q X.xe s
  refine wpAny_mono (D X.A pins s σ _ σe Γ v u vv uu x y ⟨hr, rfl⟩ E3 I rv ru hx hy) (fun r s' ⟨hr', st', E', e', I'⟩ => ?_) fun _ _ z => z
  subst hr'
  exact fin st' s' E' ((e2.trans e3).trans e') I'
section
variable {X : Cx} {n : Nat} {R : Ty α} {R' : Ty β} {m : α → β → Bool} {a b : Expr} {pos : Pos} {Γ Γ1 Γ2 : List Slot} {x : α} {y : β}
theorem x_eqG (D : RcG X n R R' m) (hr : Room n X.A) (ha : EX X a Γ (pu R x) Γ1) (hb : EX X b Γ1 (pu R' y) Γ2) (hm : behindInMarks .Eq b = false := by rfl) : EX X (.Compare a [.Eq] [b] pos) Γ (pu tB (m x y)) Γ2 := by
  (first | refine ⟨?_⟩ | skip); intro T _ τ σ s hl E Q hQ
  refine re_of (pe_cmpR op_run peR peR hm) ?_
  refine ha T τ σ s hl E _ fun v1 s1 E1 l1 e1 => ?_
  rw [List.append_assoc, List.append_assoc] at E1
  refine hb _ _ σ s1 (by rw [hl, l1]) E1 _ fun v2 s2 E2 l2 e2 => ?_
  rw [← List.append_assoc, ← List.append_assoc] at E2
  intro pins sh σ' vv uu I rv ru
  refine rcg_run D hr E2 I rv ru fun st' s' E' e' I' => ⟨.bl (m x y), st'.H, I', rfl, ?_⟩
  have q := hQ _ _ (E'.push0 (pu tB (m x y)) ⟨rfl, _, rfl, rfl⟩) (l2.trans l1) ((e1.trans e2).trans e')
  exact q
end
/-! ## dependencies of all three kinds -/
inductive Dep where
  | fd (d : Sd)
  | mvd (d : Sd)
  | jd (p : List (List Int))
deriving DecidableEq
instance : Inhabited Dep := ⟨.jd []⟩
def Dep.isFd : Dep → Bool | .fd _ => true | _ => false
def Dep.isMvd : Dep → Bool | .mvd _ => true | _ => false
def Dep.isJd : Dep → Bool | .jd _ => true | _ => false
def Dep.sd : Dep → Sd | .fd d => d | .mvd d => d | .jd _ => default
def Dep.ps : Dep → List (List Int) | .jd p => p | _ => []
def flJd (R : Ty (List (List Int))) (p : List (List Int)) : List (Str × Fld) := [("parts", fld R p)]
def tDep (K : PySem.W.Frag) (cF cM cJ : Addr) (R : Ty (List (List Int))) : Ty Dep := ⟨fun B v a => match a with | .fd d => (tObj cF (flSd K)).rep B v d | .mvd d => (tObj cM (flSd K)).rep B v d | .jd p => (tObj cJ (flJd R)).rep B v p,
  fun {B B' v a} s h => match a, h with | .fd d, h => (tObj cF (flSd K)).mono s h | .mvd d, h => (tObj cM (flSd K)).mono s h | .jd p, h => (tObj cJ (flJd R)).mono s h⟩
section
variable {K : PySem.W.Frag} {cF cM cJ : Addr} {R : Ty (List (List Int))}
theorem co_dfd {x : Sd} : Co (tObj cF (flSd K)) (tDep K cF cM cJ R) x (.fd x) := fun _ _ h => h
theorem co_dmvd {x : Sd} : Co (tObj cM (flSd K)) (tDep K cF cM cJ R) x (.mvd x) := fun _ _ h => h
theorem co_djd {x : List (List Int)} : Co (tObj cJ (flJd R)) (tDep K cF cM cJ R) x (.jd x) := fun _ _ h => h
theorem co_gfd {d : Dep} (h : d.isFd = true) : Co (tDep K cF cM cJ R) (tObj cF (flSd K)) d d.sd := fun _ _ r => by
  cases d <;> first | exact r | cases h
theorem co_gmvd {d : Dep} (h : d.isMvd = true) : Co (tDep K cF cM cJ R) (tObj cM (flSd K)) d d.sd := fun _ _ r => by
  cases d <;> first | exact r | cases h
theorem co_gjd {d : Dep} (h : d.isJd = true) : Co (tDep K cF cM cJ R) (tObj cJ (flJd R)) d d.ps := fun _ _ r => by
  cases d <;> first | exact r | cases h
theorem nl_SdF {C : Addr} : NL (tObj C (flSd K)) := nl_Ob fun a q hq B v h => by
  rcases List.mem_cons.mp hq with rfl | hq
  · exact nl_T nl_I B v _ h
  · rcases List.mem_cons.mp hq with rfl | hq
    · exact nl_T nl_I B v _ h
    · cases hq
theorem nl_Jd (h : NL R) {C : Addr} : NL (tObj C (flJd R)) := nl_Ob fun a q hq B v r => by
  rcases List.mem_cons.mp hq with rfl | hq
  · exact h B v _ r
  · cases hq
theorem nl_Dep (h : NL R) : NL (tDep K cF cM cJ R) := fun B v d r => by
  cases d with
  | fd d => exact nl_SdF B v d r
  | mvd d => exact nl_SdF B v d r
  | jd p => exact nl_Jd h B v p r
theorem nn_Dep {d : Dep} : ∀ B v, (tDep K cF cM cJ R).rep B v d → v ≠ .non := fun B v r => by
  cases d with
  | fd d => exact nn_Ob B v r
  | mvd d => exact nn_Ob B v r
  | jd p => exact nn_Ob B v r
theorem isT_dep {u : Value} {f : Dep → Bool} (tF : Typ K (tObj cF (flSd K)) (.ref cF)) (tM : Typ K (tObj cM (flSd K)) (.ref cM)) (tJ : Typ K (tObj cJ (flJd R)) (.ref cJ)) (kF : ∀ d, PySem.W.kitOne K (.ref cF) u = some (f (.fd d))) (kM : ∀ d, PySem.W.kitOne K (.ref cM) u = some (f (.mvd d))) (kJ : ∀ p, PySem.W.kitOne K (.ref cJ) u = some (f (.jd p))) :
    IsT K (tDep K cF cM cJ R) u f := fun {B H v a} r s => by
  cases a with
  | fd d => exact ⟨_, tF r s, kF d⟩
  | mvd d => exact ⟨_, tM r s, kM d⟩
  | jd p => exact ⟨_, tJ r s, kJ p⟩
theorem lk_dep {X : Cx} {C : Addr} (h1 : PySem.W.notFirst X.K C (.ref cF) = true) (h2 : PySem.W.notFirst X.K C (.ref cM) = true) (h3 : PySem.W.notFirst X.K C (.ref cJ) = true) : Lk X C (tDep X.K cF cM cJ R) := fun {pins σ H s B u uu y} I hB r ru => by
  cases y with
  | fd d => exact lk_obj h1 I hB r ru
  | mvd d => exact lk_obj h2 I hB r ru
  | jd p => exact lk_obj h3 I hB r ru
def depB (f g : Sd → β → Bool) (h : List (List Int) → β → Bool) (d : Dep) (y : β) : Bool := match d with | .fd d => f d y | .mvd d => g d y | .jd p => h p y
theorem rcg_dep {X : Cx} {n : Nat} {R' : Ty β} {f g : Sd → β → Bool} {h : List (List Int) → β → Bool} (h1 : RcG X n (tObj cF (flSd X.K)) R' f) (h2 : RcG X n (tObj cM (flSd X.K)) R' g) (h3 : RcG X n (tObj cJ (flJd R)) R' h) : RcG X n (tDep X.K cF cM cJ R) R' (depB f g h) := by
  intro A pins s σ st σe Γ _ v u vv uu x y sb E I rv ru hx hy
  cases x with
  | fd d => exact h1 A pins s σ st σe Γ v u vv uu d y sb E I rv ru hx hy
  | mvd d => exact h2 A pins s σ st σe Γ v u vv uu d y sb E I rv ru hx hy
  | jd p => exact h3 A pins s σ st σe Γ v u vv uu p y sb E I rv ru hx hy
/-- a side, of either class that has sides -/
theorem x_depFld {X : Cx} {e : Expr} {f : Str} {pos : Pos} {Γ Γ1 : List Slot} {d : Dep} {S : Ty α} {y : α} (he : EX X e Γ (pu (tDep X.K cF cM cJ R) d) Γ1) (hd : d.isJd = false) (hl : (flSd X.K d.sd).lookup f = some (fld S y)) (c1 : Cls X.K cF) (n1 : NoAttr X.K cF f) (c2 : Cls X.K cM) (n2 : NoAttr X.K cM f)
    (hb : attributeBase e f X.env (eval e X.env) = eval e X.env := by rfl) : EX X (.Attribute e f pos) Γ (pu S y) Γ1 := by
  cases d with
  | fd d => exact x_fld (fl := flSd X.K) (a := d) he hl c1 n1 hb
  | mvd d => exact x_fld (fl := flSd X.K) (a := d) he hl c2 n2 hb
  | jd p => cases hd
end
end Fw
/-! ## x in xs, by == within one model -/
namespace FwE
open PySem PySem.SeqAt
open PySem.AutoSeq1 (wpAny_loadPart')
open PySem.MeetsSeq PySem.MeetsSeq2 PySem.MeetsSeq3
end FwE
namespace Fw
open PySem L2
variable [Tb]
variable {α β γ : Type}
/-! ## dicts keyed by numbers -/
abbrev kRel (R : Ty α) (B : Hp) : List (L2.Key × V) → List (Int × α) → Prop := Paired fun u x => u.1 = Sum.inl x.1 ∧ R.rep B u.2 x.2
theorem kRel.mono {R : Ty α} {B B' : Hp} (s : Same B B') {us : List (L2.Key × V)} {kvs : List (Int × α)} (r : kRel R B us kvs) : kRel R B' us kvs := dt.paired_mono' (fun _ _ z => ⟨z.1, R.mono s z.2⟩) r
/-! ## == of dicts, and x in xs of dicts -/
end Fw
namespace Fw
open PySem L2
variable [Tb]
variable {α β γ δ ε ρ κ θ : Type}
/-! ## footprints dealt anew -/
/-! ## an owned instance, each field a slot of its own -/
def hole (v : V) : Slot := ⟨fun _ F o => F = em ∧ o = some v, fun _ h => h, fun h => ⟨by rw [h.1]; exact ntF_em, h.2⟩⟩
def Dj (G G' : Hp) : Prop := ∀ x, G x ≠ none → G' x = none
theorem Dj.symm {G G' : Hp} (h : Dj G G') : Dj G' G := fun x q => by
  cases e : G x with
  | none => rfl
  | some u => exact absurd (h x (by rw [e]; simp)) q
theorem dj_em {G : Hp} : Dj em G := fun x q => absurd rfl q
theorem dj_em2 {G : Hp} : Dj G em := fun x q => rfl
inductive Tri (B : Hp) : List (Str × V) → List Hp → List (Str × Slot) → Prop
  | nil : Tri B [] [] []
  | cons {u : Str × V} {G : Hp} {g : Str × Slot} {us : List (Str × V)} {Gs : List Hp} {gs : List (Str × Slot)} : u.1 = g.1 → g.2.p B G (some u.2) → Tri B us Gs gs → Tri B (u :: us) (G :: Gs) (g :: gs)
theorem Tri.mono {B B' : Hp} (s : Same B B') {us : List (Str × V)} {Gs : List Hp} {gs : List (Str × Slot)} (h : Tri B us Gs gs) : Tri B' us Gs gs := by
  induction h with
  | nil => exact .nil
  | cons e q _ ih => exact .cons e (Slot.mono _ s q) ih
theorem Tri.cut {B : Hp} {us : List (Str × V)} {Gs : List Hp} {gs : List (Str × Slot)} (h : Tri B us Gs gs) : Tri B us (Gs.map ntF) gs := by
  induction h with
  | nil => exact .nil
  | cons e q _ ih => exact .cons e (Slot.cut _ q) ih
def putG (f : Str) (S : Slot) : List (Str × Slot) → List (Str × Slot)
  | [] => [(f, S)]
  | (g, w) :: r => if g = f then (g, S) :: r else (g, w) :: putG f S r
section
variable {B : Hp} {n : Str}
/-- a field taken out -/
theorem Tri.get {S : Slot} {us : List (Str × V)} {Gs : List Hp} {gs : List (Str × Slot)} (h : Tri B us Gs gs) : Gs.Pairwise Dj → gs.lookup n = some S → ∃ v G, us.lookup n = some v ∧ S.p B G (some v) ∧ G ∈ Gs ∧
    ∃ Gs', Tri B us Gs' (putG n (hole v) gs) ∧ (∀ G' ∈ Gs', G' = em ∨ (G' ∈ Gs ∧ Dj G G')) ∧ Gs'.Pairwise Dj := by
  induction h with
  | nil => intro _ e; cases e
  | @cons u G g us Gs gs e q r ih =>
    intro d l
    obtain ⟨un, uv⟩ := u
    obtain ⟨gn, gS⟩ := g
    have e' : un = gn := e
    subst e'
    rw [List.lookup_cons] at l
    obtain ⟨d1, d2⟩ := List.pairwise_cons.mp d
    by_cases k : un = n
    · subst k
      rw [beq_self_eq_true] at l
      cases l
      refine ⟨uv, G, by rw [List.lookup_cons, beq_self_eq_true], q, List.mem_cons_self, em :: Gs, ?_, fun G' hG' => ?_, List.pairwise_cons.mpr ⟨fun _ _ => dj_em, d2⟩⟩
      · unfold putG
        rw [if_pos rfl]
        exact .cons rfl ⟨rfl, rfl⟩ r
      · rcases List.mem_cons.mp hG' with rfl | hG'
        · exact .inl rfl
        · exact .inr ⟨List.mem_cons_of_mem _ hG', d1 G' hG'⟩
    · have kb : (n == un) = false := beq_eq_false_iff_ne.mpr (Ne.symm k)
      rw [kb] at l
      obtain ⟨v, G1, h1, h2, h3, Gs', h4, h5, h6⟩ := ih d2 l
      refine ⟨v, G1, by rw [List.lookup_cons, kb]; exact h1, h2, List.mem_cons_of_mem _ h3, G :: Gs', ?_, fun G' hG' => ?_, List.pairwise_cons.mpr ⟨fun G' hG' => ?_, h6⟩⟩
      · unfold putG
        rw [if_neg k]
        exact .cons rfl q h4
      · rcases List.mem_cons.mp hG' with rfl | hG'
        · exact .inr ⟨List.mem_cons_self, (d1 G1 h3).symm⟩
        · rcases h5 G' hG' with z | ⟨z, z2⟩
          · exact .inl z
          · exact .inr ⟨List.mem_cons_of_mem _ z, z2⟩
      · rcases h5 G' hG' with z | ⟨z, _⟩
        · rw [z]; exact dj_em2
        · exact d1 G' z
/-- a field put back -/
theorem Tri.put {S' : Slot} {v : V} {G0 : Hp} (hS : S'.p B G0 (some v)) {us : List (Str × V)} {Gs : List Hp} {gs : List (Str × Slot)} (h : Tri B us Gs gs) : Gs.Pairwise Dj → (∀ G ∈ Gs, Dj G0 G) → gs.lookup n = some (hole v) →
    ∃ Gs', Tri B us Gs' (putG n S' gs) ∧ (∀ G' ∈ Gs', G' = G0 ∨ G' ∈ Gs) ∧ Gs'.Pairwise Dj := by
  induction h with
  | nil => intro _ _ e; cases e
  | @cons u G g us Gs gs e q r ih =>
    intro d d0 l
    obtain ⟨un, uv⟩ := u
    obtain ⟨gn, gS⟩ := g
    have e' : un = gn := e
    subst e'
    rw [List.lookup_cons] at l
    obtain ⟨d1, d2⟩ := List.pairwise_cons.mp d
    by_cases k : un = n
    · subst k
      rw [beq_self_eq_true] at l
      cases l
      have ev : uv = v := Option.some.inj q.2
      subst ev
      refine ⟨G0 :: Gs, ?_, fun G' hG' => ?_, List.pairwise_cons.mpr ⟨fun G' hG' => d0 G' (List.mem_cons_of_mem _ hG'), d2⟩⟩
      · unfold putG
        rw [if_pos rfl]
        exact .cons rfl hS r
      · rcases List.mem_cons.mp hG' with rfl | hG'
        · exact .inl rfl
        · exact .inr (List.mem_cons_of_mem _ hG')
    · have kb : (n == un) = false := beq_eq_false_iff_ne.mpr (Ne.symm k)
      rw [kb] at l
      obtain ⟨Gs', h4, h5, h6⟩ := ih d2 (fun G hG => d0 G (List.mem_cons_of_mem _ hG)) l
      refine ⟨G :: Gs', ?_, fun G' hG' => ?_, List.pairwise_cons.mpr ⟨fun G' hG' => ?_, h6⟩⟩
      · unfold putG
        rw [if_neg k]
        exact .cons rfl q h4
      · rcases List.mem_cons.mp hG' with rfl | hG'
        · exact .inr List.mem_cons_self
        · rcases h5 G' hG' with z | z
          · exact .inl z
          · exact .inr (List.mem_cons_of_mem _ z)
      · rcases h5 G' hG' with z | z
        · rw [z]; exact (d0 G List.mem_cons_self).symm
        · exact d1 G' z
theorem Tri.none {us : List (Str × V)} {Gs : List Hp} {gs : List (Str × Slot)} (h : Tri B us Gs gs) (hn : n ∉ gs.map (·.1)) : us.lookup n = Option.none := by
  induction h with
  | nil => rfl
  | @cons u G g us Gs gs e q r ih =>
    obtain ⟨un, uv⟩ := u
    have h' := not_or.mp (fun z => hn (List.mem_cons.mpr z))
    have e1 : (n == un) = false := beq_eq_false_iff_ne.mpr (by have e2 : un = g.1 := e; rw [e2]; exact h'.1)
    rw [List.lookup_cons, e1]
    exact ih h'.2
end
/-! ## places -/
end Fw
namespace Fw
open PySem L2
variable [Tb]
variable {α β γ δ ε ρ κ θ : Type}
/-! ## results of tuples alone -/
/-! ## the environment seen as pure -/
def Vw1 (S S' : Slot) : Prop := ∀ B F B' o, S.p B F o → Same B B' → Same F B' → S'.p B' em o
inductive Vs : List Slot → List Slot → Prop
  | nil : Vs [] []
  | cons {S S' : Slot} {Γ Γ' : List Slot} : Vw1 S S' → Vs Γ Γ' → Vs (S :: Γ) (S' :: Γ')
theorem Vs.len {Γ Γ' : List Slot} (h : Vs Γ Γ') : Γ'.length = Γ.length := by
  induction h with
  | nil => rfl
  | cons _ _ ih => simp [ih]
theorem Vs.get {Γ Γ' : List Slot} (h : Vs Γ Γ') : ∀ (i : Nat) (S' : Slot), Γ'[i]? = some S' → ∃ S, Γ[i]? = some S ∧ Vw1 S S' := by
  induction h with
  | nil => intro i S' e; simp at e
  | cons h _ ih =>
    intro i S' e
    cases i with
    | zero => simp at e; subst e; exact ⟨_, rfl, h⟩
    | succ i => simpa using ih i S' (by simpa using e)
theorem Tri.look {B : Hp} {n : Str} {S : Slot} {vs : List (Str × V)} {Gs : List Hp} {gs : List (Str × Slot)} (h : Tri B vs Gs gs) (l : gs.lookup n = some S) : ∃ v G, vs.lookup n = some v ∧ S.p B G (some v) := by
  induction h with
  | nil => cases l
  | @cons u G g us Gs gs e q r ih =>
    obtain ⟨un, uv⟩ := u
    obtain ⟨gn, gS⟩ := g
    have e' : un = gn := e
    subst e'
    rw [List.lookup_cons] at l ⊢
    cases k : (n == un) with
    | true => rw [k] at l; cases l; exact ⟨uv, G, rfl, q⟩
    | false => rw [k] at l; exact ih l
/-! ## the whole environment lent -/
end Fw
namespace Fw
open PySem L2
/-! ## expressions that stand for a known value -/
/-! ## a field, its address told -/
end Fw
namespace Fw
open PySem L2
variable [Tb]
variable {α β γ δ ε ρ κ θ : Type}
/-! ## a field is set -/
theorem Tri.len {B : Hp} {vs : List (Str × V)} {Gs : List Hp} {gs : List (Str × Slot)} (h : Tri B vs Gs gs) : vs.length = gs.length := by
  induction h with
  | nil => rfl
  | cons _ _ _ ih => simp [ih]
/-! ## a method of a place -/
/-! ## freezing -/
/-- any of a family -/
def exT {ι : Type} (W : ι → Slot) : Slot := ⟨fun B F o => ∃ x, (W x).p B F o, fun s h => let ⟨x, q⟩ := h; ⟨x, (W x).mono s q⟩, fun h => let ⟨x, q⟩ := h; ⟨x, (W x).cut q⟩⟩
theorem Wk.ex {ι : Type} {Γ : List Slot} {W : ι → Slot} {S : Slot} {i : Nat} (x : ι) (hi : Γ[i]? = Option.some S) (hx : S = W x) : Wk Γ (Γ.set i (exT W)) := Wk.any hi fun B F o h => ⟨x, hx ▸ h⟩
end Fw
namespace L2
open PySem PySem.Spec PyProof.Rows
end L2
namespace Fw
open PySem L2
end Fw
namespace Fw
open PySem L2
/-! ## dicts locked -/
/-! ## walking a locked dict keyed by numbers -/
end Fw
namespace Fw
open PySem L2
end Fw
namespace Fw
open PySem L2
end Fw
/-! sets of tuples with up to 1199 members: the tables of the masks 7, 31, 127, 511, 2047 -/
namespace FwS
open PySem PySem.Spec PyProof.Rows L2
/-! ### the round of x to 5 x + 1 -/
def f5 : Nat → Nat → Nat
  | 0, x => x
  | n + 1, x => f5 n x * 5 + 1
theorem f5_plus (a x : Nat) : ∀ n, f5 (a + n) x = f5 n (f5 a x)
  | 0 => rfl
  | n + 1 => by
    show f5 (a + n) x * 5 + 1 = f5 n (f5 a x) * 5 + 1
    rw [f5_plus a x n]
theorem f5_lin (x : Nat) : ∀ n, f5 n x = 5 ^ n * x + f5 n 0
  | 0 => by show x = 5 ^ 0 * x + 0; rw [Nat.pow_zero, Nat.one_mul, Nat.add_zero]
  | n + 1 => by
    show f5 n x * 5 + 1 = 5 ^ (n + 1) * x + (f5 n 0 * 5 + 1)
    rw [f5_lin x n, Nat.pow_succ, Nat.mul_right_comm]
    generalize 5 ^ n * x = y
    omega
theorem f5_step : ∀ p, p < 11 → 5 ^ 2 ^ p % 2 ^ (p + 1) = 1 ∧ f5 (2 ^ p) 0 % 2 ^ (p + 1) = 2 ^ p := by decide +kernel
theorem f5_half {p : Nat} (hp : p < 11) (y : Nat) : f5 (2 ^ p) y % 2 ^ (p + 1) = (y + 2 ^ p) % 2 ^ (p + 1) := by
  obtain ⟨h1, h2⟩ := f5_step p hp
  rw [f5_lin, Nat.add_mod, Nat.mul_mod, h1, h2, Nat.one_mul, Nat.mod_mod, Nat.add_mod y]
  congr 1
  have e : 2 ^ p % 2 ^ (p + 1) = 2 ^ p := Nat.mod_eq_of_lt (Nat.pow_lt_pow_right (by decide) (Nat.lt_succ_self p))
  rw [e]
theorem f5_hit : ∀ p, p ≤ 11 → ∀ x j : Nat, ∃ k, k < 2 ^ p ∧ f5 k x % 2 ^ p = j % 2 ^ p
  | 0, _, x, j => ⟨0, by decide, by rw [Nat.pow_zero, Nat.mod_one, Nat.mod_one]⟩
  | p + 1, hp, x, j => by
    obtain ⟨k, hk, e⟩ := f5_hit p (by omega) x j
    have e2 : 2 ^ (p + 1) = 2 ^ p * 2 := Nat.pow_succ ..
    have hpos : 0 < 2 ^ p := Nat.pow_pos (by decide)
    rcases Classical.em (f5 k x % 2 ^ (p + 1) = j % 2 ^ (p + 1)) with c | c
    · exact ⟨k, by omega, c⟩
    · refine ⟨k + 2 ^ p, by omega, ?_⟩
      rw [f5_plus, f5_half (by omega)]
      generalize f5 k x = y at e c
      rw [e2] at c ⊢
      generalize 2 ^ p = q at *
      have a1 := Nat.mod_mul (x := y) (a := q) (b := 2)
      have a2 := Nat.mod_mul (x := j) (a := q) (b := 2)
      have a3 := Nat.mod_mul (x := y + q) (a := q) (b := 2)
      rw [Nat.add_mod_right, Nat.add_div_right _ hpos] at a3
      rw [a1, a2] at c
      rw [a3, a2, ← e]
      have b1 := Nat.mod_two_eq_zero_or_one (y / q)
      have b2 := Nat.mod_two_eq_zero_or_one (j / q)
      have b3 : (y / q + 1) % 2 = 1 - y / q % 2 := by omega
      rw [b3]
      have c2 : y / q % 2 ≠ j / q % 2 := fun z => c (by rw [e, z])
      have b4 : 1 - y / q % 2 = j / q % 2 := by omega
      rw [b4]
theorem lcg_f5 (m : Nat) {i : Nat} (hi : i ≤ m) : ∀ k, lcgI m i k = f5 k i % (m + 1)
  | 0 => (Nat.mod_eq_of_lt (Nat.lt_succ_of_le hi)).symm
  | k + 1 => by
    show (lcgI m i k * 5 + 1) % (m + 1) = (f5 k i * 5 + 1) % (m + 1)
    rw [lcg_f5 m hi k, Nat.add_mod, Nat.mul_mod, Nat.mod_mod, ← Nat.mul_mod, ← Nat.add_mod]
/-- the masks -/
def Mk (m : Nat) : Prop := ∃ p, 3 ≤ p ∧ p ≤ 11 ∧ m + 1 = 2 ^ p
theorem Mk.all {m : Nat} (h : Mk m) {i j : Nat} (hi : i ≤ m) (hj : j ≤ m) : ∃ k, k ≤ m ∧ lcgI m i k = j := by
  obtain ⟨p, _, hp, e⟩ := h
  obtain ⟨k, hk, e2⟩ := f5_hit p hp i j
  rw [← e] at hk e2
  exact ⟨k, Nat.le_of_lt_succ hk, by rw [lcg_f5 m hi, e2]; exact Nat.mod_eq_of_lt (Nat.lt_succ_of_le hj)⟩
/-! ### ways -/
theorem Mk.run {m : Nat} (hm : Mk m) (h : Int) {j : Nat} (hj : j ≤ m) : ∃ n, n ≤ m + 12 ∧ runI m (SetTable.bits h) n = j := by
  obtain ⟨k, hk, e⟩ := hm.all (runI_le m (SetTable.bits h) 12) hj
  refine ⟨12 + k, by omega, ?_⟩
  rw [runI_tail (bits_lt h), e]
theorem way_in (m : Nat) (h : Int) (k : Nat) : way m h k ≤ m := by
  have b := runEnd_bd (m := m) (i := SetTable.bits h % (m + 1)) (Nat.le_of_lt_succ (Nat.mod_lt _ (Nat.succ_pos _)))
  have q := nth_in (m := m) k (runAt m (SetTable.bits h % (m + 1)) (SetTable.bits h)) (show SetTable.bits h % (m + 1) + (SetTable.runEnd m _ - _) ≤ m by omega)
  exact Nat.le_trans (Nat.le_add_right _ _) q
/-- a table in which each hash is met on its way -/
structure Tbl (t : SetTable) (hs : List Int) : Prop where
  up : Ris t.place.toList
  no : t.dummies = #[]
  sz : t.place.size = hs.length
  ok : Mk t.mask
  top : ∀ x ∈ t.place.toList, x ≤ t.mask
  met : ∀ (i : Nat) (h : Int) (j : Nat), hs[i]? = some h → t.place.toList[i]? = some j → ∃ k, way t.mask h k = j ∧ ∀ c, c < k → way t.mask h c ∈ t.place.toList
variable {t : SetTable} {hs : List Int}
theorem Tbl.free (T : Tbl t hs) (hl : hs.length ≤ t.mask) (h : Int) : ∃ n, n < 10 * SetTable.turns t.mask ∧ way t.mask h n ∉ t.place.toList ∧ ∀ c, c < n → way t.mask h c ∈ t.place.toList := by
  obtain ⟨j, hj, ne⟩ := st_missing t.place.toList (t.mask + 1) (by rw [Array.length_toList, T.sz]; omega)
  obtain ⟨n, hn, e⟩ := T.ok.run h (Nat.le_of_lt_succ hj)
  obtain ⟨k, hk, e2⟩ := run_nth t.mask (SetTable.bits h) n
  have ew : way t.mask h k = j := by
    show (nth t.mask (runAt t.mask (SetTable.bits h % (t.mask + 1)) (SetTable.bits h)) k).j = j
    rw [e2]; exact e
  obtain ⟨r, r1, r2, r3⟩ := st_least (p := fun c => way t.mask h c ∉ t.place.toList) k (show way t.mask h k ∉ _ by rw [ew]; exact ne)
  exact ⟨r, by unfold SetTable.turns; omega, r2, fun c hc => Classical.byContradiction fun z => r3 c hc z⟩
/-! ### all laid anew -/
theorem Mk.find {m : Nat} (hm : Mk m) (ow : Array (Option Nat)) (h : Int) {j : Nat} (hj : j ≤ m) (hf : oAt ow j = none) :
    ∃ n, SetTable.layClean.free m ow (SetTable.turns m) (SetTable.bits h % (m + 1)) (SetTable.bits h) = some (way m h n) ∧ oAt ow (way m h n) = none ∧ ∀ c, c < n → oAt ow (way m h c) ≠ none := by
  obtain ⟨r, hr, e⟩ := hm.run h hj
  have hw : way m h (off m (SetTable.bits h % (m + 1)) (SetTable.bits h) r) = j := by
    unfold way
    rw [nth_off, itL_run]; exact e
  obtain ⟨n, n1, n2, n3⟩ := st_least (p := fun c => oAt ow (way m h c) = none) _ (show oAt ow (way m h (off m (SetTable.bits h % (m + 1)) (SetTable.bits h) r)) = none by rw [hw]; exact hf)
  refine ⟨n, free_spec m ow (SetTable.turns m) r _ _ n (by unfold SetTable.turns; omega) n1 (fun c hc => ?_) (by
    have q : oAt ow (nth m (runAt m (SetTable.bits h % (m + 1)) (SetTable.bits h)) n).j = none := n2
    rw [q]; rfl), n2, n3⟩
  have q := n3 c hc
  cases z : oAt ow (nth m (runAt m (SetTable.bits h % (m + 1)) (SetTable.bits h)) c).j with
  | none => exact absurd z q
  | some _ => rfl
theorem Mk.step {m : Nat} (hm : Mk m) {dn : List Int} {ow : Array (Option Nat)} (W : Own m dn ow) (hl : dn.length ≤ m) (h : Int) :
    ∃ j, SetTable.layClean.free m ow (SetTable.turns m) (SetTable.bits h % (m + 1)) (SetTable.bits h) = some j ∧ Own m (dn ++ [h]) (ow.setIfInBounds j (some dn.length)) := by
  obtain ⟨ps, lp, ip⟩ := W.ps
  obtain ⟨z, z1, z2⟩ := st_missing ps (m + 1) (by omega)
  have fz : oAt ow z = none := Classical.byContradiction fun q => z2 (ip z (Nat.le_of_lt_succ z1) q)
  obtain ⟨n, e1, e2, e3⟩ := hm.find ow h (Nat.le_of_lt_succ z1) fz
  have wi := way_in m h n
  have ws : way m h n < ow.size := by rw [W.sz]; omega
  have own := oAt_set_self (some dn.length) ws
  have keep : ∀ {i : Nat}, oAt ow i ≠ none → oAt (ow.setIfInBounds (way m h n) (some dn.length)) i ≠ none := fun {i} q => by
    rcases Classical.em (i = way m h n) with c | c
    · rw [c, own]; exact fun w => nomatch w
    · rw [oAt_set_ne _ c]; exact q
  refine ⟨_, e1, by rw [Array.size_setIfInBounds]; exact W.sz, fun j k hj e => ?_, fun k hk => ?_, way m h n :: ps, by rw [List.length_cons, List.length_append, lp]; rfl, fun j hj e => ?_⟩
  · rcases Classical.em (j = way m h n) with c | c
    · rw [c, own] at e
      cases e
      exact ⟨h, n, by simp, c.symm, fun c' hc' => keep (e3 c' hc')⟩
    · rw [oAt_set_ne _ c] at e
      obtain ⟨g, n', a1, a2, a3⟩ := W.at_ j k hj e
      exact ⟨g, n', by rw [List.getElem?_append_left (List.getElem?_eq_some_iff.mp a1).1]; exact a1, a2, fun c' hc' => keep (a3 c' hc')⟩
  · rw [List.length_append, List.length_singleton] at hk
    rcases Nat.lt_succ_iff_lt_or_eq.mp hk with c | c
    · obtain ⟨j, hj, e⟩ := W.all k c
      exact ⟨j, hj, by rw [oAt_set_ne _ fun w => by rw [w, e2] at e; cases e]; exact e⟩
    · exact ⟨_, wi, by rw [own, c]⟩
  · rcases Classical.em (j = way m h n) with c | c
    · rw [c]; exact List.mem_cons_self
    · rw [oAt_set_ne _ c] at e
      exact List.mem_cons_of_mem _ (ip j hj e)
theorem Mk.fold {m : Nat} (hm : Mk m) : ∀ (rs dn : List Int) (ow : Array (Option Nat)), Own m dn ow → dn.length + rs.length ≤ m →
    ∃ ow', rs.foldl (stepF m) (some (ow, dn.length)) = some (ow', (dn ++ rs).length) ∧ Own m (dn ++ rs) ow'
  | [], dn, ow, W, _ => ⟨ow, by rw [List.append_nil]; rfl, by rw [List.append_nil]; exact W⟩
  | h :: rs, dn, ow, W, hl => by
    rw [List.length_cons] at hl
    obtain ⟨j, e, W1⟩ := hm.step W (by omega) h
    have len : (dn ++ [h]).length = dn.length + 1 := by simp
    obtain ⟨ow', f, W2⟩ := hm.fold rs (dn ++ [h]) _ W1 (by omega)
    rw [List.append_assoc] at f W2
    exact ⟨ow', by rw [List.foldl_cons, stepF_some e, ← len]; exact f, W2⟩
theorem Mk.lay {m : Nat} (hm : Mk m) {hs : Array Int} (hn : hs.size ≤ m) : ∃ ow, SetTable.layClean m hs = some ow ∧ Own m hs.toList ow := by
  obtain ⟨ow, f, W⟩ := hm.fold hs.toList [] _ (Own.init m) (by show 0 + hs.toList.length ≤ m; rw [Array.length_toList]; omega)
  refine ⟨ow, ?_, W⟩
  rw [layClean_eq, show (some (Array.replicate (m + 1) (none : Option Nat), 0)) = some (Array.replicate (m + 1) none, ([] : List Int).length) from rfl, f] <;> rfl
/-! ### the set -/
/-- the masks that come, one by one -/
def Mks (m : Nat) : Prop := m = 7 ∨ m = 31 ∨ m = 127 ∨ m = 511 ∨ m = 2047
theorem Mks.mk {m : Nat} : Mks m → Mk m
  | .inl e => ⟨3, by decide, by decide, by rw [e]⟩
  | .inr (.inl e) => ⟨5, by decide, by decide, by rw [e]⟩
  | .inr (.inr (.inl e)) => ⟨7, by decide, by decide, by rw [e]⟩
  | .inr (.inr (.inr (.inl e))) => ⟨9, by decide, by decide, by rw [e]⟩
  | .inr (.inr (.inr (.inr e))) => ⟨11, by decide, by decide, by rw [e]⟩
section
variable {P : Program} {w : World} {A : Around} {E : Value → Shared → Prop} {s : Shared} {a : Addr} {L : List (Addr × List Int)} {es : Array (Int × Value)} {ep : Nat} {t : SetTable}
structure SetW (P : Program) (w : World) (h : Heap) (a : Addr) (L : List (Addr × List Int)) (es : Array (Int × Value)) (ep : Nat) (t : SetTable) : Prop where
  at_ : ∃ o, h.get? a = some o ∧ o.ExactSet ∧ o.data = .set es ep t
  row : es.toList = rowsOf P w L
  tb : Tbl t (L.map fun p => thash P w p.2)
  one : (L.map (·.2)).Nodup
  pln : t.plain = true
  led : w.params.followText "set-order" = true ∨ t.led = true
  rm : L.length * 5 < t.mask * 3
  mks : Mks t.mask
  cap : L.length < 1200
  ist : ∀ p ∈ L, IsT P w h p.2 p.1
/-! ### the loop of set(..) -/
end
end FwS
namespace FwS
open PySem PySem.Spec PyProof.Rows L2 TS SrtO FwE
section
variable {P : Program} {w : World} {A : Around} {E : Value → Shared → Prop} {s : Shared}
/-! ### the set as a thing of the abstract heap -/
structure SetB (P : Program) (w : World) (h : Heap) (a : Addr) (L : List (Addr × List Int)) : Prop where
  ex : ∃ (es : Array (Int × Value)) (ep : Nat) (t : SetTable), (∃ o, h.get? a = some o ∧ o.ExactSet ∧ o.data = .set es ep t) ∧ es.toList = rowsOf P w L ∧ Tbl t (L.map fun p => thash P w p.2) ∧ (L.map (·.2)).Nodup ∧ t.plain = true ∧
    (w.params.followText "set-order" = true ∨ t.led = true) ∧ L.length * 5 < t.mask * 3 ∧ Mks t.mask ∧ L.length < 1200
theorem SetW.bare {h : Heap} {a : Addr} {L : List (Addr × List Int)} {es : Array (Int × Value)} {ep : Nat} {t : SetTable} (R : SetW P w h a L es ep t) : SetB P w h a L :=
  ⟨es, ep, t, R.at_, R.row, R.tb, R.one, R.pln, R.led, R.rm, R.mks, R.cap⟩
end
end FwS
namespace Fw
open PySem L2 FwS
end Fw
/-! sorted and set(..) of tuples of a finer make -/
namespace Fw
open PySem L2 FwS
end Fw
/-! walking owned lists: the list stays where it is, turn by turn -/
namespace Fw
open PySem L2
end Fw
namespace Fw
open PySem L2
end Fw
namespace FwE
open PySem PySem.Spec PyProof.Rows L2
end FwE
namespace Fw
open PySem PySem.Spec PyProof.Rows L2
/-! ## dict(enumerate(xs)) -/
/-! ## list(d.items()) -/
end Fw
namespace Fw
open PySem L2
end Fw
namespace FwE
open PySem PySem.Spec PyProof.Rows L2
end FwE
namespace Fw
open PySem PySem.Spec PyProof.Rows L2
/-! ## sorted of pairs of numbers -/
/-! ## a op b op' c op'' d -/
end Fw
namespace Fw
open PySem L2
end Fw
namespace Fw
open PySem PySem.Spec PyProof.Rows L2
/-! ## max and min of a list or a tuple of numbers -/
end Fw
namespace Fw
open PySem L2
/-! ## comprehensions of two fors -/
end Fw
namespace Fw
open PySem PySem.Spec PyProof.Rows L2
/-! ## t[-1:] -/
end Fw
namespace Fw
open PySem PySem.Spec PyProof.Rows L2
variable [Tb]
variable {α β γ δ ε ρ κ θ : Type}
/-! ## dependencies as the laws tell them: tuples that begin with a word -/
def Dep.word : Dep → Str | .fd _ => "fd" | .mvd _ => "mvd" | .jd _ => "jd"
def Dep.ofW (w : Str) (l r : List Int) : Dep := if w = ("fd" : Str) then .fd ⟨l, r⟩ else .mvd ⟨l, r⟩
def tLd (K : PySem.W.Frag) : Ty Dep := ⟨fun B v a => match a with | .fd d => (tP3 K tS (tT K tI) (tT K tI)).rep B v (("fd" : Str), d.l, d.r) | .mvd d => (tP3 K tS (tT K tI) (tT K tI)).rep B v (("mvd" : Str), d.l, d.r) | .jd p => (tP2 K tS (tT K (tT K tI))).rep B v (("jd" : Str), p),
  fun {B B' v a} s h => match a, h with | .fd d, h => (tP3 K tS (tT K tI) (tT K tI)).mono s h | .mvd d, h => (tP3 K tS (tT K tI) (tT K tI)).mono s h | .jd p, h => (tP2 K tS (tT K (tT K tI))).mono s h⟩
section
variable {K : PySem.W.Frag}
theorem co_ldF {d : Sd} : Co (tLd K) (tP3 K tS (tT K tI) (tT K tI)) (.fd d) (("fd" : Str), d.l, d.r) := fun _ _ h => h
theorem co_ldM {d : Sd} : Co (tLd K) (tP3 K tS (tT K tI) (tT K tI)) (.mvd d) (("mvd" : Str), d.l, d.r) := fun _ _ h => h
theorem co_ldJ {p : List (List Int)} : Co (tLd K) (tP2 K tS (tT K (tT K tI))) (.jd p) (("jd" : Str), p) := fun _ _ h => h
theorem co_mkF {l r : List Int} : Co (tP3 K tS (tT K tI) (tT K tI)) (tLd K) (("fd" : Str), l, r) (.fd ⟨l, r⟩) := fun _ _ h => h
theorem co_mkM {l r : List Int} : Co (tP3 K tS (tT K tI) (tT K tI)) (tLd K) (("mvd" : Str), l, r) (.mvd ⟨l, r⟩) := fun _ _ h => h
theorem co_mkJ {p : List (List Int)} : Co (tP2 K tS (tT K (tT K tI))) (tLd K) (("jd" : Str), p) (.jd p) := fun _ _ h => h
theorem co_mkW {w : Str} {l r : List Int} (hw : w = ("fd" : Str) ∨ w = ("mvd" : Str)) : Co (tP3 K tS (tT K tI) (tT K tI)) (tLd K) (w, l, r) (Dep.ofW w l r) := fun B v h => by
  rcases hw with rfl | rfl
  · rw [show Dep.ofW ("fd" : Str) l r = .fd ⟨l, r⟩ from if_pos rfl]; exact h
  · rw [show Dep.ofW ("mvd" : Str) l r = .mvd ⟨l, r⟩ from if_neg (by decide)]; exact h
theorem nn_Ld {d : Dep} : ∀ B v, (tLd K).rep B v d → v ≠ .non := fun B v r => by
  cases d with
  | fd d => exact nn_P3 B v r
  | mvd d => exact nn_P3 B v r
  | jd p => exact nn_P2 B v r
theorem nl_Ld : NL (tLd K) := fun B v d r => by
  cases d with
  | fd d => exact nl_P3 nl_S (nl_T nl_I) (nl_T nl_I) B v _ r
  | mvd d => exact nl_P3 nl_S (nl_T nl_I) (nl_T nl_I) B v _ r
  | jd p => exact nl_P2 nl_S (nl_T (nl_T nl_I)) B v _ r
def pSet : DatP K (tT K tI) 2 := (dT dI).p.up (by decide)
def pSets : DatP K (tT K (tT K tI)) 2 := (dT (dT dI)).p
def pSides : DatP K (tP3 K tS (tT K tI) (tT K tI)) 3 := pP3 (pS.up (by decide)) pSet pSet
def pParts : DatP K (tP2 K tS (tT K (tT K tI))) 3 := pP2 (pS.up (by decide)) pSets
def pLd : DatP K (tLd K) 3 where
  d := fun | .fd d => (pSides (K := K)).d (("fd" : Str), d.l, d.r) | .mvd d => (pSides (K := K)).d (("mvd" : Str), d.l, d.r) | .jd p => (pParts (K := K)).d (("jd" : Str), p)
  rp := fun {B v a} h => by
    cases a with
    | fd d => exact pSides.rp h
    | mvd d => exact pSides.rp h
    | jd p => exact pParts.rp h
  pl := fun a => by
    cases a with
    | fd d => exact pSides.pl _
    | mvd d => exact pSides.pl _
    | jd p => exact pParts.pl _
  dep := fun a => by
    cases a with
    | fd d => exact pSides.dep _
    | mvd d => exact pSides.dep _
    | jd p => exact pParts.dep _
  eqv := fun a b => by
    cases a with
    | fd d => cases b with
      | fd e => rw [pSides.eqv]; obtain ⟨l, r⟩ := d; obtain ⟨l', r'⟩ := e; simp
      | mvd e => show PyData.eqv (.tuple _) (.tuple _) = _; simp [PyData.eqv, PyData.eqvAll, pS, DatP.up]; exact fun h => absurd h (by decide)
      | jd p => show PyData.eqv (.tuple _) (.tuple _) = _; simp [PyData.eqv, PyData.eqvAll, pS, DatP.up]
    | mvd d => cases b with
      | fd e => show PyData.eqv (.tuple _) (.tuple _) = _; simp [PyData.eqv, PyData.eqvAll, pS, DatP.up]; exact fun h => absurd h (by decide)
      | mvd e => rw [pSides.eqv]; obtain ⟨l, r⟩ := d; obtain ⟨l', r'⟩ := e; simp
      | jd p => show PyData.eqv (.tuple _) (.tuple _) = _; simp [PyData.eqv, PyData.eqvAll, pS, DatP.up]
    | jd p => cases b with
      | fd e => show PyData.eqv (.tuple _) (.tuple _) = _; simp [PyData.eqv, PyData.eqvAll, pS, DatP.up]
      | mvd e => show PyData.eqv (.tuple _) (.tuple _) = _; simp [PyData.eqv, PyData.eqvAll, pS, DatP.up]
      | jd q => rw [pParts.eqv]; simp
end
section
variable {X : Cx} {a b : Expr} {pos : Pos} {Γ Γ1 Γ2 : List Slot} {d : Dep}
theorem x_ldW (ha : EX X a Γ (pu (tLd X.K) d) Γ1) (hb : EX X b Γ1 (pu tI 0) Γ2) (hs : PlainIx b := by exact fun _ _ => rfl) : EX X (.Subscript a b pos) Γ (pu tS d.word) Γ2 := by
  cases d with
  | fd d => exact x_ix ix_tup (o_ixP3_0 (x := (("fd" : Str), d.l, d.r))) (x_co co_ldF ha) hb hs
  | mvd d => exact x_ix ix_tup (o_ixP3_0 (x := (("mvd" : Str), d.l, d.r))) (x_co co_ldM ha) hb hs
  | jd p => exact x_ix ix_tup (o_ixP2_0 (x := (("jd" : Str), p))) (x_co co_ldJ ha) hb hs
theorem x_ldL (hd : d.isJd = false) (ha : EX X a Γ (pu (tLd X.K) d) Γ1) (hb : EX X b Γ1 (pu tI 1) Γ2) (hs : PlainIx b := by exact fun _ _ => rfl) : EX X (.Subscript a b pos) Γ (pu (tT X.K tI) d.sd.l) Γ2 := by
  cases d with
  | fd d => exact x_ix ix_tup (o_ixP3_1 (x := (("fd" : Str), d.l, d.r))) (x_co co_ldF ha) hb hs
  | mvd d => exact x_ix ix_tup (o_ixP3_1 (x := (("mvd" : Str), d.l, d.r))) (x_co co_ldM ha) hb hs
  | jd p => cases hd
theorem x_ldR (hd : d.isJd = false) (ha : EX X a Γ (pu (tLd X.K) d) Γ1) (hb : EX X b Γ1 (pu tI 2) Γ2) (hs : PlainIx b := by exact fun _ _ => rfl) : EX X (.Subscript a b pos) Γ (pu (tT X.K tI) d.sd.r) Γ2 := by
  cases d with
  | fd d => exact x_ix ix_tup (o_ixP3_2 (x := (("fd" : Str), d.l, d.r))) (x_co co_ldF ha) hb hs
  | mvd d => exact x_ix ix_tup (o_ixP3_2 (x := (("mvd" : Str), d.l, d.r))) (x_co co_ldM ha) hb hs
  | jd p => cases hd
theorem x_ldP (hd : d.isJd = true) (ha : EX X a Γ (pu (tLd X.K) d) Γ1) (hb : EX X b Γ1 (pu tI 1) Γ2) (hs : PlainIx b := by exact fun _ _ => rfl) : EX X (.Subscript a b pos) Γ (pu (tT X.K (tT X.K tI)) d.ps) Γ2 := by
  cases d with
  | fd d => cases hd
  | mvd d => cases hd
  | jd p => exact x_ix ix_tup (o_ixP2_1 (x := (("jd" : Str), p))) (x_co co_ldJ ha) hb hs
end
/-! ## isinstance of None or a thing, of a text, number, set or sets -/
def optB (f : α → Bool) (o : Option α) : Bool := match o with | none => false | some x => f x
section
variable {K : PySem.W.Frag} {R : Ty α} {u : Value}
theorem isT_O {f : α → Bool} (h : IsT K R u f) (k : PySem.W.kitOne K (.type "NoneType") u = some false) : IsT K (tO R) u (optB f) := fun {B H v a} r s => by
  cases a with
  | none => exact ⟨_, by rw [show v = V.non from r]; exact .base .non, k⟩
  | some x => exact h r.1 s
def FV.isTup : FV → Bool | .t _ => true | .p _ => true | _ => false
theorem isT_FVt : IsT K (tF K) (.type "tuple") FV.isTup := fun {B H v a} r s => by
  cases a with
  | s x => exact ⟨.type "str", by rw [show v = V.str x from r]; exact .base (.str _), kit_ty (r := false) (by decide +kernel)⟩
  | i x => exact ⟨_, typ_tI r s, kit_ty (r := false) (by decide +kernel)⟩
  | t x => exact ⟨_, typ_tT r s, kit_ty (r := true) (by decide +kernel)⟩
  | p x => exact ⟨_, typ_tT r s, kit_ty (r := true) (by decide +kernel)⟩
end
/-! ## a target that may wipe more -/
end Fw
namespace Fw
open PySem PySem.Spec PyProof.Rows L2
variable [Tb]
/-! ## an item of a written list; a written list of texts -/
theorem x_ixLits {X : Cx} {es : List Expr} {b : Expr} {pos p : Pos} {Γ Γ' : List Slot} {xs : List Int} {i : Int} (h : litsOf es = some xs) (hz : xs.length ≤ sizeLine) (hi : InIx xs.length i) (hb : EX X b Γ (pu tI i) Γ') (hs : PlainIx b := by exact fun _ _ => rfl) : EX X (.Subscript (.List es p) b pos) Γ (pu tI (ix xs i)) Γ' :=
  x_ix ix_list (o_ixL sqLs hi) (x_frz (x_lst (n_lst (R := tI) (xs := xs) hz) (ea_lits h))) hb hs
def strsOf : List Expr → Option (List Str)
  | [] => some []
  | .Constant (.str s) _ _ :: es => (strsOf es).map (s :: ·)
  | _ => none
theorem ea_strs {X : Cx} {Γ : List Slot} : ∀ {es : List Expr} {ns : List Str}, strsOf es = some ns → EA X es Γ (ns.map (pu tS)) Γ
  | [], ns, h => by cases h; exact ea_nil
  | e :: es, ns, h => by
    unfold strsOf at h
    split at h
    · rename_i h0; cases h0
    · rename_i i k p es' h0
      cases h0
      cases q : strsOf es with
      | none => rw [q] at h; cases h
      | some ms =>
        rw [q] at h
        cases h
        exact ea_cons x_str (ea_strs q)
    · cases h
theorem x_strs {X : Cx} {es : List Expr} {p : Pos} {Γ : List Slot} {xs : List Str} (h : strsOf es = some xs) (hz : xs.length ≤ sizeLine) : EX X (.List es p) Γ (ol tS xs) Γ := x_lst (n_lst (R := tS) (xs := xs) hz) (ea_strs h)
theorem s1_setStrs {X : Cx} {x : Str} {es : List Expr} {p pos pos' : Pos} {Γ Γ2 : List Slot} {xs zs : List Str} {i : Nat} (hN : X.N.Nodup) (hi : X.N[i]? = some x) (hx : Loc X.env.scope x) (h : strsOf es = some xs) (hz : xs.length ≤ sizeLine) (hzs : zs = xs) (hG : i < Γ.length) (hE : Γ.set i (pu (tLs X.K tS) zs) = Γ2)
    (hs : swapsWith (.List es p) (some (.Name x pos')) pos.line X.env = pure false := by rfl) (hf : X.fn x = true ∨ X.env.scope.names.lookup x = some .local := by first | exact .inl rfl | exact .inr rfl) : S1 X (.Assign [.Name x pos'] (.List es p) pos) Γ (fun r => r = .nx Γ2) := by
  subst hzs
  exact s1_setE hN hi hx (x_frz (x_strs h hz)) hG hE hs hf
/-! ## arguments, told as a structure: Lean does not look into them -/
structure EAs (X : Cx) (es : List Expr) (Γ : List Slot) (Ss : List Slot) (Γ' : List Slot) : Prop where
  run : EA X es Γ Ss Γ'
theorem eas_nil {X : Cx} {Γ : List Slot} : EAs X [] Γ [] Γ := ⟨ea_nil⟩
theorem eas_cons {X : Cx} {e : Expr} {es : List Expr} {Γ Γ1 Γ2 : List Slot} {S : Slot} {Ss : List Slot} (ha : EX X e Γ S Γ1) (hr : EAs X es Γ1 Ss Γ2) (hs : starEach (e :: es) X.env = (false, eval e X.env) :: starEach es X.env := by rfl) : EAs X (e :: es) Γ (S :: Ss) Γ2 := ⟨ea_cons ha hr.run hs⟩
theorem x_callS {A : Type} {pre : A → Prop} {G : A → List Slot} {S : A → Slot} {X : Cx} {k : Nat} {f : Addr} {fd : FuncData} {ps : List Str} {fx : Str} {p pos : Pos} {e : Expr} {es : List Expr} {Γ Γ1 Ss : List Slot} {S' : Slot} (F : FnOk X.prog X.w X.K X.mg X.base CX0 k f fd ps (spP pre G S)) (hr : Room k X.A) (hm : X.mg fx = some (.ref f)) (hk : PySem.W.keepIn X.K (.ref f) = true)
    (hb : Binds X.K fd ps []) (x : A) (hx : pre x) (ha : EAs X (e :: es) Γ Ss Γ1) (hG : Ss = G x) (hS : S x = S') (hg : Gl X fx := by rfl) (hdb : (fx == ("__debug__" : Str)) = false := by decide)
    (he : starEach (e :: es) X.env = (false, eval e X.env) :: starEach es X.env := by rfl) (hpl : (backTo pos (starEach es X.env)).any (·.1) = false := by rfl) : EX X (.Call (.Name fx p) (e :: es) [] pos) Γ S' Γ1 :=
  x_callE F hr hm hk hb x hx ha.run hG hS hg hdb he hpl
end Fw
namespace Fw
open PySem PySem.Spec PyProof.Rows L2
variable [Tb]
variable {α β γ δ ε ρ κ θ : Type}
/-! ## owned lists lent to a comprehension whose value is kept -/
section
variable {X : Cx} {e : Expr} {Γ Γf Γg : List Slot} {R : Ty α} {y : α} {ys : List α} {bs : List Bool}
theorem borO_gen {Gp : L2.St → Hp → VK → Prop} (z : Fy X.K Γ Γf bs) (nl : NL R)
    (h : ∀ (T : List Slot) [HasTab T] (τ σ : L2.St) (s : Sta), σ.length = Γf.length → EnvOk s (σ ++ τ) (Γf ++ T) → ∀ Q : VK, (∀ v s', EnvOk s' ((σ ++ τ) ++ [some v]) ((Γg ++ T) ++ [ol R ys]) → Γg.length = Γf.length → Evo s s' → Q v s'.H) → Gp σ s.H Q)
    (T : List Slot) [HasTab T] (τ σ : L2.St) (s0 : Sta) (hl : σ.length = Γ.length) (E0 : EnvOk s0 (σ ++ τ) (Γ ++ T)) (Q : VK) (hQ0 : ∀ v s', EnvOk s' ((σ ++ τ) ++ [some v]) ((Γ ++ T) ++ [ol R ys]) → Γ.length = Γ.length → Evo s0 s' → Q v s'.H) : Gp σ s0.H Q := by
  obtain ⟨E, ec, hn⟩ := E0.cutF
  have hHs : s0.nt.H = s0.H := rfl
  generalize s0.nt = s at E ec hn hHs
  have hQ : ∀ v s', EnvOk s' ((σ ++ τ) ++ [some v]) ((Γ ++ T) ++ [ol R ys]) → Γ.length = Γ.length → Evo s s' → Q v s'.H := fun v s' a b c => hQ0 v s' a b (ec.trans c)
  have hH : s.H = s0.H := hHs
  rw [← hH]
  obtain ⟨j, hj⟩ := List.mem_iff_getElem?.mp (HasTab.mem (T := T))
  have hj2 := (List.getElem?_eq_some_iff.mp hj).1
  have E' := E.lend (P := fun i => bs[i]? = some true ∧ i ≠ Γ.length + j) hl hj (fun q => q.2 rfl) z.len (z.lendOk j)
  haveI := hasTab_set hj2
  refine h ((List.replicate T.length un).set j tabS) τ σ _ (by rw [z.len]; exact hl) E' Q fun v s1 E1 l1 e1 => ?_
  obtain ⟨p, vs, eo, f, r⟩ := E1.top
  cases eo
  obtain ⟨E2, e2, h2⟩ := E.backN z hj E1 (by rw [List.getElem?_append_left (by simp; have := z.len; omega), List.getElem?_append_right (by have := z.len; omega), show Γ.length + j - Γg.length = j by have := z.len; omega, List.getElem?_set_self (by simpa using hj2)]) hn e1
  have hp1 : s1.F (Γg ++ (List.replicate T.length un).set j tabS).length p ≠ none := by rw [f, one_self]; simp
  have hlg : (Γg ++ (List.replicate T.length un).set j tabS).length = (Γ ++ T).length := by have := z.len; simp; omega
  have hp : s1.H p = some (.lst vs) := E1.subF _ p _ (by rw [f]; exact one_self)
  have hB1 : s1.B p = none := E1.dis _ p hp1
  have hsB : s.B p = none := by
    cases q : s.B p with
    | none => rfl
    | some w => rw [lent_b E e1 p w q] at hB1; cases hB1
  have hs2 : ∃ s2F : Nat → Hp, s2F = fun i => if i = Γ.length + j then s1.F i else s.F i := ⟨_, rfl⟩
  obtain ⟨s2F, es⟩ := hs2
  rw [← es] at E2 e2
  have hF0 : ∀ i, s2F i p = none := fun i => by
    rw [es]
    show (if i = Γ.length + j then s1.F i else s.F i) p = none
    by_cases q : i = Γ.length + j
    · rw [if_pos q]
      cases r2 : s1.F i p with
      | none => rfl
      | some w =>
        have := E1.disF i _ p (by rw [r2]; simp) hp1
        simp at hlg this
        omega
    · rw [if_neg q]
      cases r2 : s.F i p with
      | none => rfl
      | some w =>
        exfalso
        rcases e1.nf p _ hp1 with w3 | ⟨i', w3⟩
        · have w3' : s.H p = none := w3
          rw [E.subF i p w r2] at w3'; cases w3'
        · exact q (E.disF i _ p (by rw [r2]; simp) (lent_F w3))
  have hst : strip s1.B p = none := by
    cases q : strip s1.B p with
    | none => rfl
    | some w => have := E1.dis _ p hp1; rw [strip_some q] at this; cases this
  have n0 : un2 s.B (strip s1.B) p = none := by rw [un2_r hsB]; exact hst
  -- the new list beside what was
  have key : ∀ i a, (if i = (Γ ++ T).length then one p (.lst vs) else s2F i) a ≠ none → (i = (Γ ++ T).length ∧ a = p) ∨ (i ≠ (Γ ++ T).length ∧ s2F i a ≠ none) := fun i a h => by
    by_cases q : i = (Γ ++ T).length
    · rw [if_pos q] at h; exact .inl ⟨q, one_ne h⟩
    · rw [if_neg q] at h; exact .inr ⟨q, h⟩
  have E3 : EnvOk ⟨un2 s.B (strip s1.B), s1.H, fun i => if i = (Γ ++ T).length then one p (.lst vs) else s2F i⟩ ((σ ++ τ) ++ [some (.ref p)]) ((Γ ++ T) ++ [ol R ys]) := by
    refine ⟨E2.sub, fun i a u h => ?_, fun i a h => ?_, fun i j a h1 h2 => ?_, by have := E2.len; simp at this ⊢; omega, fun i S h => ?_, fun i h => ?_⟩
    · have h' : (if i = (Γ ++ T).length then one p (.lst vs) else s2F i) a = some u := h
      by_cases q : i = (Γ ++ T).length
      · rw [if_pos q] at h'
        have e := one_ne (p := p) (o := .lst vs) (a := a) (by rw [h']; simp)
        rw [e, one_self] at h'; cases h'
        rw [e]; exact hp
      · rw [if_neg q] at h'; exact E2.subF i a u h'
    · rcases key i a h with ⟨_, rfl⟩ | ⟨_, q⟩
      · exact n0
      · exact E2.dis i a q
    · rcases key i a h1 with ⟨q, r⟩ | ⟨q, r⟩
      · rcases key j a h2 with ⟨q', r'⟩ | ⟨q', r'⟩
        · omega
        · rw [r, hF0] at r'; exact absurd rfl r'
      · rcases key j a h2 with ⟨q', r'⟩ | ⟨q', r'⟩
        · rw [r', hF0] at r; exact absurd rfl r
        · exact E2.disF i j a r r'
    · by_cases hi : i < (Γ ++ T).length
      · rw [List.getElem?_append_left hi] at h
        rw [List.getElem?_append_left (by have := E2.len; omega)]
        show S.p _ (if i = (Γ ++ T).length then one p (.lst vs) else s2F i) _
        rw [if_neg (by omega)]
        exact E2.sl i S h
      · have hl2 := (List.getElem?_eq_some_iff.mp h).1
        rw [List.length_append] at hl2
        simp only [List.length_singleton] at hl2
        have e : i = (Γ ++ T).length := by omega
        subst e
        have h2' : ((Γ ++ T) ++ [ol R ys])[(Γ ++ T).length]? = some (ol R ys) := by simp
        rw [h2'] at h; cases h
        have h3 : ((σ ++ τ) ++ [some (V.ref p)])[(Γ ++ T).length]? = some (some (.ref p)) := by have := E2.len; rw [← this]; simp
        rw [join_get h3]
        show (ol R ys).p _ (if (Γ ++ T).length = (Γ ++ T).length then one p (.lst vs) else s2F (Γ ++ T).length) _
        rw [if_pos rfl]
        exact ⟨p, vs, rfl, rfl, paired_mono (fun _ _ w => R.mono h2 (nl _ _ _ w)) r⟩
    · show (if i = (Γ ++ T).length then one p (.lst vs) else s2F i) = em
      rw [List.length_append] at h
      simp only [List.length_singleton] at h
      rw [if_neg (by omega)]
      exact E2.out i (by omega)
  have e3 : Evo s ⟨un2 s.B (strip s1.B), s1.H, fun i => if i = (Γ ++ T).length then one p (.lst vs) else s2F i⟩ := ⟨e2.b, e2.fr, e2.dom, e2.nb, fun a i h => by
    rcases key i a h with ⟨_, rfl⟩ | ⟨_, q⟩
    · rcases e1.nf a _ hp1 with w | ⟨i', w⟩
      · exact .inl w
      · exact .inr ⟨_, lent_F w⟩
    · exact e2.nf a i q⟩
  have q := hQ (.ref p) _ E3 rfl e3
  exact q
end
section
variable {X : Cx} {elt tg iter : Expr} {ifs : List Expr} {scope : Scope} {own : List (Str × Nat)} {pos : Pos} {wi : TI} {g : TG} {Γ Γf Γ1 : List Slot} {R : Ty α} {R' : Ty β} {xs : List α} {f : List Slot → α → List Slot} {v : List β} {bs : List Bool}
theorem s1_setLcB {i : Nat} {y : Str} {py spos : Pos} (z : Fy X.K Γ Γf bs) (nl : NL R') (hc : X.calm = true) (hN : X.N.Nodup) (hy : X.N[i]? = some y) (hyl : X.env.scope.names.lookup y = some .local)
    (hsw : swapsWith (.ListComp elt [⟨tg, iter, ifs, 0⟩] scope pos) (some (.Name y py)) spos.line X.env = pure true) (hG : i < Γ.length) (iw : IW X tg iter wi Γf R xs Γ1) (ok : BlkOk X.N X.env.scope scope own)
    (hg : ∀ (s : Shared) (H : Hp) (C : Addr) (cl : List (Str × Addr)) (fp : List Addr), PG (X.blk s H scope (compEnvC scope cl C X.env) fp) tg g) (ht : TGT g R (own.map (·.2)) Γf.length f) (p : α → Bool) (k : α → β)
    (hi' : ∀ s0 H0 C cl fp (i : Nat) (x : α), xs[i]? = some x → EIs (blkX X scope s0 H0 C cl fp) ifs (f (uns (own.map (·.2)) Γ1) x) (p x))
    (he : ∀ s0 H0 C cl fp (i : Nat) (x : α), xs[i]? = some x → p x = true → EX (blkX X scope s0 H0 C cl fp) elt (f (uns (own.map (·.2)) Γ1) x) (pu R' (k x)) (f (uns (own.map (·.2)) Γ1) x))
    (hv : (xs.filter p).map k = v)
    (hw0 : ∀ x, uns (own.map (·.2)) (f (uns (own.map (·.2)) Γ1) x) = uns (own.map (·.2)) Γ1 := by intro _; rfl)
    (hs : ∀ x, foldedSetIterable iter X.env x = pure x := by intro _; rfl) : S1 X (.Assign [.Name y py] (.ListComp elt [⟨tg, iter, ifs, 0⟩] scope pos) spos) Γ (fun r => r = .nx (Γ.set i (ol R' v))) := by
  subst hv
  (first | refine ⟨?_⟩ | skip); intro T _ τ σ s hl E D hD
  refine rs_of (ps_setLc hc hN hy hyl hsw iw.pi ok hg (fun _ _ _ _ _ => ptsA) (fun _ _ _ _ _ => peA) hs) (borO_gen (Γg := uns (own.map (·.2)) Γ1) z nl (fun T _ τ σ s hl E Q hQ => lc_run iw ht p k hi' he hw0 hl E hQ) T τ σ s hl E (fun x H1 => gName i x σ H1 D.nx) fun v s1 E1 l1 e1 => ?_)
  obtain ⟨E2, e2⟩ := E1.store (i := i) (by simp; omega)
  rw [set_app hG, List.set_append_left _ _ (by omega)] at E2
  have q := hD _ rfl (σ.set i (some v)) _ (by simp; omega) E2 (e1.trans e2)
  exact q
end
end Fw
namespace Pf
open PySem L2 Fw
/-! plain laws: ranges, folds, loops, ascending lists -/
theorem rng_mem {lo hi x : Int} : x ∈ rangeI lo hi ↔ lo ≤ x ∧ x < hi := by
  unfold rangeI
  rw [List.mem_map]
  constructor
  · rintro ⟨i, hi, rfl⟩
    have := List.mem_range.mp hi
    omega
  · rintro ⟨h1, h2⟩
    exact ⟨(x - lo).toNat, List.mem_range.mpr (by omega), by omega⟩
theorem rng_at {lo hi x : Int} {i : Nat} (h : (rangeI lo hi)[i]? = some x) : lo ≤ x ∧ x < hi := rng_mem.mp (List.mem_of_getElem? h)
theorem rng_asc (lo hi : Int) : (rangeI lo hi).Pairwise (· < ·) := by
  unfold rangeI
  rw [List.pairwise_map]
  exact List.pairwise_lt_range.imp fun h => by omega
theorem foldl_pre {α κ : Type} (Pv : List α → κ → Prop) (step : κ → α → κ) : ∀ (post pre : List α) (s0 : κ), Pv pre s0 → (∀ p x q s, pre ++ post = p ++ x :: q → Pv p s → Pv (p ++ [x]) (step s x)) → Pv (pre ++ post) (post.foldl step s0)
  | [], pre, s0, h, _ => by simpa using h
  | x :: r, pre, s0, h, hs => by
    have q := foldl_pre Pv step r (pre ++ [x]) (step s0 x) (hs pre x r s0 rfl h) (fun p y q s e => hs p y q s (by simpa using e))
    simpa using q
theorem foldl_inv {α κ : Type} (Pv : κ → Prop) (step : κ → α → κ) (xs : List α) (s0 : κ) (h : Pv s0) (hs : ∀ x ∈ xs, ∀ s, Pv s → Pv (step s x)) : Pv (xs.foldl step s0) :=
  foldl_pre (fun _ s => Pv s) step xs [] s0 h fun p x q s e hp => hs x (by rw [show xs = p ++ x :: q from e]; simp) s hp
/-- ascending, within 0 .. n-1 -/
structure Cols (n : Nat) (xs : List Int) : Prop where
  asc : xs.Pairwise (· < ·)
  rg : ∀ x ∈ xs, 0 ≤ x ∧ x < n
theorem asc_len : ∀ (xs : List Int) (lo hi : Int), xs.Pairwise (· < ·) → (∀ x ∈ xs, lo ≤ x ∧ x < hi) → lo ≤ hi → (xs.length : Int) ≤ hi - lo
  | [], lo, hi, _, _, h => by simp; omega
  | x :: r, lo, hi, h, hm, _ => by
    have c := List.pairwise_cons.mp h
    have hx := hm x List.mem_cons_self
    have q := asc_len r (x + 1) hi c.2 (fun y hy => ⟨by have := c.1 y hy; omega, (hm y (List.mem_cons_of_mem _ hy)).2⟩) (by omega)
    simp only [List.length_cons]
    omega
theorem Cols.len {n : Nat} {xs : List Int} (h : Cols n xs) : xs.length ≤ n := by
  have := asc_len xs 0 n h.asc h.rg (by omega)
  omega
theorem Cols.mono {n m : Nat} {xs : List Int} (h : Cols n xs) (hm : n ≤ m) : Cols m xs := ⟨h.asc, fun x hx => by have := h.rg x hx; omega⟩
theorem Cols.sset {n : Nat} {xs : List Int} (h : ∀ x ∈ xs, 0 ≤ x ∧ x < n) : Cols n (sset xs) := ⟨sset_asc _, fun x hx => h x ((mem_sset x xs).mp hx)⟩
theorem Cols.uni {n : Nat} {a b : List Int} (ha : Cols n a) (hb : Cols n b) : Cols n (Fw.sset (a ++ b)) := Cols.sset fun x hx => (List.mem_append.mp hx).elim (ha.rg x) (hb.rg x)
theorem Cols.filter {n : Nat} {a : List Int} (h : Cols n a) (p : Int → Bool) : Cols n (a.filter p) := ⟨h.asc.filter p, fun x hx => h.rg x (List.mem_filter.mp hx).1⟩
theorem Cols.rng {n : Nat} {c : Int} (h : c ≤ n) : Cols n (rangeI 0 c) := ⟨rng_asc _ _, fun x hx => by have := rng_mem.mp hx; omega⟩
theorem Cols.nil {n : Nat} : Cols n [] := ⟨List.Pairwise.nil, fun _ h => nomatch h⟩
theorem Cols.ext {n m : Nat} {a b : List Int} (ha : Cols n a) (hb : Cols m b) (h : ∀ x, x ∈ a ↔ x ∈ b) : a = b := asc_unique ha.asc hb.asc h
theorem Cols.self {n : Nat} {a : List Int} (ha : Cols n a) : Fw.sset a = a := asc_unique (sset_asc a) ha.asc (mem_sset · a)
def sub (a b : List Int) : Prop := ∀ x ∈ a, x ∈ b
theorem all_sub {a b : List Int} : a.all (fun x => decide (x ∈ b)) = true ↔ sub a b := by simp [sub]
theorem less_sub {a b : List Int} : decide (((a.filter fun x => !(decide (x ∈ b))).length : Int) = 0) = true ↔ sub a b := by
  rw [decide_eq_true_eq]
  constructor
  · intro h x hx
    have e : a.filter (fun x => !(decide (x ∈ b))) = [] := List.eq_nil_of_length_eq_zero (by omega)
    have := (List.filter_eq_nil_iff.mp e) x hx
    simpa using this
  · intro h
    have e : a.filter (fun x => !(decide (x ∈ b))) = [] := List.filter_eq_nil_iff.mpr fun x hx => by simpa using h x hx
    rw [e]; rfl
theorem ix_mem {α : Type} [Inhabited α] {xs : List α} {i : Int} (h : InIx xs.length i) : ix xs i ∈ xs := by
  obtain ⟨j, _, e⟩ := ix_at h
  exact List.mem_of_getElem? e
/-! plain laws: closures -/
def mkSd (l r : List Int) : Sd := ⟨sset l, sset r⟩
def Clo (D : List Sd) (X : List Int) : Prop := ∀ d ∈ D, sub d.l X → sub d.r X
structure IsCl (D : List Sd) (X R : List Int) : Prop where
  sub : sub X R
  clo : Clo D R
  least : ∀ Y, Pf.sub X Y → Clo D Y → Pf.sub R Y
theorem IsCl.mono {D : List Sd} {X X' R R' : List Int} (h : IsCl D X R) (h' : IsCl D X' R') (k : Pf.sub X X') : Pf.sub R R' := h.least R' (fun x hx => h'.sub x (k x hx)) h'.clo
def unsat (D : List Sd) (f : List Int) : Nat := D.countP fun d => !(d.r.all fun x => decide (x ∈ f))
theorem unsat_mono {D : List Sd} {f g : List Int} (h : sub f g) : unsat D g ≤ unsat D f := by
  unfold unsat
  refine List.countP_mono_left fun d _ hd => ?_
  simp only [Bool.not_eq_true', ← Bool.not_eq_true, all_sub] at hd ⊢
  exact fun k => hd fun x hx => h x (k x hx)
theorem countP_lt {α : Type} {p q : α → Bool} : ∀ {l : List α}, (∀ x ∈ l, q x = true → p x = true) → (∃ x ∈ l, p x = true ∧ q x = false) → l.countP q < l.countP p
  | [], _, ⟨x, hx, _⟩ => by cases hx
  | y :: r, h, ⟨x, hx, h1, h2⟩ => by
    have hy := h y List.mem_cons_self
    have hr : ∀ x ∈ r, q x = true → p x = true := fun x hx => h x (List.mem_cons_of_mem _ hx)
    rw [List.countP_cons, List.countP_cons]
    rcases List.mem_cons.mp hx with rfl | hx
    · have := List.countP_mono_left hr
      rw [h1, h2]; simp; omega
    · have := countP_lt hr ⟨x, hx, h1, h2⟩
      split <;> split <;> first | omega | (rename_i a b; exact absurd (hy a) b)
theorem unsat_lt {D : List Sd} {f g : List Int} {d : Sd} (hd : d ∈ D) (h : sub f g) (h1 : ¬ sub d.r f) (h2 : sub d.r g) : unsat D g < unsat D f := by
  unfold unsat
  refine countP_lt (fun d _ hd => ?_) ⟨d, hd, ?_, ?_⟩
  · simp only [Bool.not_eq_true', ← Bool.not_eq_true, all_sub] at hd ⊢
    exact fun k => hd fun x hx => h x (k x hx)
  · simp only [Bool.not_eq_true', ← Bool.not_eq_true, all_sub]; exact h1
  · simp only [Bool.not_eq_false', all_sub]; exact h2
theorem sub_uni_l {a b : List Int} : sub a (sset (a ++ b)) := fun x hx => (mem_sset x _).mpr (List.mem_append_left _ hx)
theorem sub_uni_r {a b : List Int} : sub b (sset (a ++ b)) := fun x hx => (mem_sset x _).mpr (List.mem_append_right _ hx)
theorem uni_sub {a b Y : List Int} (h1 : sub a Y) (h2 : sub b Y) : sub (sset (a ++ b)) Y := fun x hx => (List.mem_append.mp ((mem_sset x _).mp hx)).elim (h1 x) (h2 x)
/-- one walk over the rows, from f0, to s; some of them seen -/
structure Walked (n : Nat) (D : List Sd) (f0 : List Int) (pre : List Sd) (s : List Int) : Prop where
  cols : Cols n s
  sub : sub f0 s
  least : ∀ Y, Pf.sub f0 Y → Clo D Y → Pf.sub s Y
  ch : unsat D s < unsat D f0 ∨ (s = f0 ∧ ∀ d ∈ pre, Pf.sub d.l f0 → Pf.sub d.r f0)
theorem Walked.start {n : Nat} {D : List Sd} {f0 : List Int} (h : Cols n f0) : Walked n D f0 [] f0 := ⟨h, fun _ h => h, fun _ h _ => h, .inr ⟨rfl, fun _ h => nomatch h⟩⟩
/-- a row with nothing to do -/
theorem Walked.skip {n : Nat} {D : List Sd} {f0 s : List Int} {pre : List Sd} {d : Sd} (h : Walked n D f0 pre s) (hd : Pf.sub d.l s → Pf.sub d.r s) : Walked n D f0 (pre ++ [d]) s :=
  ⟨h.cols, h.sub, h.least, h.ch.elim .inl fun ⟨e, k⟩ => .inr ⟨e, fun d' hd' => (List.mem_append.mp hd').elim (k d') fun z => by rw [List.mem_singleton.mp z, ← e]; exact hd⟩⟩
/-- a row whose right side is put to it -/
theorem Walked.put {n : Nat} {D : List Sd} {f0 s : List Int} {pre : List Sd} {d : Sd} (h : Walked n D f0 pre s) (hD : d ∈ D) (hc : Cols n d.r) (hl : Pf.sub d.l s) : Walked n D f0 (pre ++ [d]) (sset (s ++ d.r)) := by
  refine ⟨h.cols.uni hc, fun x hx => sub_uni_l x (h.sub x hx), fun Y h1 h2 => uni_sub (h.least Y h1 h2) (h2 d hD fun x hx => h.least Y h1 h2 x (hl x hx)), ?_⟩
  by_cases q : Pf.sub d.r s
  · have e : sset (s ++ d.r) = s := (h.cols.uni hc).ext h.cols fun x => ⟨fun hx => uni_sub (fun _ z => z) q x hx, fun hx => sub_uni_l x hx⟩
    rw [e]
    exact (h.skip (d := d) fun _ => q).ch
  · exact .inl (Nat.lt_of_lt_of_le (unsat_lt hD sub_uni_l q sub_uni_r) (unsat_mono h.sub))
def mkJd (p : List (List Int)) : List (List Int) := p.map sset
/-! ## rows of derivations and dependencies: how they look -/
theorem ix0 {α : Type} [Inhabited α] {a : α} {l : List α} : ix (a :: l) 0 = a := ix_nat (by omega) (by simp)
theorem ix1 {α : Type} [Inhabited α] {a b : α} {l : List α} : ix (a :: b :: l) 1 = b := ix_nat (by omega) (by simp; omega)
theorem ix2 {α : Type} [Inhabited α] {a b c : α} {l : List α} : ix (a :: b :: c :: l) 2 = c := ix_nat (by omega) (by simp; omega)
theorem ix3 {α : Type} [Inhabited α] {a b c d : α} {l : List α} : ix (a :: b :: c :: d :: l) 3 = d := ix_nat (by omega) (by simp; omega)
inductive RowOk (n : Nat) : List FV → Prop where
  | one (w : PySem.Str) (k : Int) (h : w = ("told" : PySem.Str) ∨ w = ("also" : PySem.Str) ∨ w = ("other" : PySem.Str)) : RowOk n [.s w, .i k]
  | two (w : PySem.Str) (i j : Int) (h : w = ("through" : PySem.Str) ∨ w = ("beyond" : PySem.Str) ∨ w = ("meets" : PySem.Str)) : RowOk n [.s w, .i i, .i j]
  | within (l r : List Int) (hl : l.length ≤ n) (hr : r.length ≤ n) : RowOk n [.s ("within" : PySem.Str), .t l, .t r]
  | with_ (k : Int) (l : List Int) (hl : l.length ≤ n) : RowOk n [.s ("with" : PySem.Str), .i k, .t l]
  | wide (k : Int) (l r : List Int) (hl : l.length ≤ n) (hr : r.length ≤ n) : RowOk n [.s ("wide" : PySem.Str), .i k, .t l, .t r]
section
variable {n : Nat} {x : List FV}
theorem RowOk.i0 (h : RowOk n x) : InIx x.length 0 := by cases h <;> simp [InIx]
theorem RowOk.i1 (h : RowOk n x) : InIx x.length 1 := by cases h <;> simp [InIx]
theorem RowOk.s0 (h : RowOk n x) : (ix x 0).isS = true := by cases h <;> simp [ix0, FV.isS]
theorem RowOk.mono {m : Nat} (h : RowOk n x) (hm : n ≤ m) : RowOk m x := by
  cases h with
  | one w k h => exact .one w k h
  | two w i j h => exact .two w i j h
  | within l r h1 h2 => exact .within l r (by omega) (by omega)
  | with_ k l h1 => exact .with_ k l (by omega)
  | wide k l r h1 h2 => exact .wide k l r (by omega) (by omega)
end
/-- the sides within 0 .. n-1 -/
def DepC (n : Nat) (d : Dep) : Prop := match d with | .fd d => Cols n d.l ∧ Cols n d.r | .mvd d => Cols n d.l ∧ Cols n d.r | .jd p => 2 ≤ p.length ∧ p.length ≤ 3 ∧ ∀ q ∈ p, Cols n q
theorem DepC.sd {n : Nat} {d : Dep} (h : DepC n d) (hj : d.isJd = false) : Cols n d.sd.l ∧ Cols n d.sd.r := by
  cases d with
  | fd d => exact h
  | mvd d => exact h
  | jd p => cases hj
theorem DepC.ps {n : Nat} {d : Dep} (h : DepC n d) (hj : d.isJd = true) : 2 ≤ d.ps.length ∧ d.ps.length ≤ 3 ∧ ∀ q ∈ d.ps, Cols n q := by
  cases d with
  | fd d => cases hj
  | mvd d => cases hj
  | jd p => exact h
def DepCO (n : Nat) (o : Option Dep) : Prop := ∀ d, o = some d → DepC n d
theorem word_fd {d : Dep} : d.word = ("fd" : PySem.Str) ↔ d.isFd = true := by cases d <;> first | exact ⟨fun _ => rfl, fun _ => rfl⟩ | exact ⟨fun h => absurd (show (_ : PySem.Str) = _ from by simpa only [Dep.word] using h) (by decide), fun h => by cases h⟩
theorem word_mvd {d : Dep} : d.word = ("mvd" : PySem.Str) ↔ d.isMvd = true := by cases d <;> first | exact ⟨fun _ => rfl, fun _ => rfl⟩ | exact ⟨fun h => absurd (show (_ : PySem.Str) = _ from by simpa only [Dep.word] using h) (by decide), fun h => by cases h⟩
theorem word_jd {d : Dep} : d.word = ("jd" : PySem.Str) ↔ d.isJd = true := by cases d <;> first | exact ⟨fun _ => rfl, fun _ => rfl⟩ | exact ⟨fun h => absurd (show (_ : PySem.Str) = _ from by simpa only [Dep.word] using h) (by decide), fun h => by cases h⟩
theorem nj_fd {d : Dep} (h : d.isFd = true) : d.isJd = false := by cases d <;> first | rfl | cases h
theorem nj_mvd {d : Dep} (h : d.isMvd = true) : d.isJd = false := by cases d <;> first | rfl | cases h
theorem nj_wf {d : Dep} (h : d.word = ("fd" : PySem.Str)) : d.isJd = false := nj_fd (word_fd.mp h)
theorem nj_wm {d : Dep} (h : d.word = ("mvd" : PySem.Str)) : d.isJd = false := nj_mvd (word_mvd.mp h)
theorem nj_wj {d : Dep} (h : ¬ d.word = ("jd" : PySem.Str)) : d.isJd = false := by
  cases hd : d.isJd with
  | false => rfl
  | true => exact absurd (word_jd.mpr hd) h
theorem word_nj {d : Dep} (h : d.isJd = false) : d.word = ("fd" : PySem.Str) ∨ d.word = ("mvd" : PySem.Str) := by cases d <;> first | exact .inl rfl | exact .inr rfl | cases h
def RowOne (x : List FV) : Prop := (ix x 0).gS = ("with" : PySem.Str) ∨ (ix x 0).gS = ("also" : PySem.Str) ∨ (ix x 0).gS = ("other" : PySem.Str) ∨ (ix x 0).gS = ("wide" : PySem.Str)
theorem ix3_all {x : Int} (h : 0 ≤ x ∧ x < 10) {n : Int} : CDiv n (ix ([(1 : Int), (3 : Int), (9 : Int), (27 : Int), (81 : Int), (243 : Int), (729 : Int), (2187 : Int), (6561 : Int), (19683 : Int)] : List Int) x) := by
  obtain ⟨h0, h1⟩ := h
  have : x = 0 ∨ x = 1 ∨ x = 2 ∨ x = 3 ∨ x = 4 ∨ x = 5 ∨ x = 6 ∨ x = 7 ∨ x = 8 ∨ x = 9 := by omega
  rcases this with rfl | rfl | rfl | rfl | rfl | rfl | rfl | rfl | rfl | rfl <;> exact ⟨by decide, by decide⟩
theorem ix_def {α : Type} [Inhabited α] {xs : List α} {i : Int} (h0 : 0 ≤ i) (h : (xs.length : Int) ≤ i) : ix xs i = default := by
  unfold ix
  have : atI xs i = none := by
    unfold atI ixN
    rw [if_pos h0, if_neg (by omega)]
    rfl
  rw [this]; rfl
section
variable {n : Nat} {x : List FV}
/-- a number in the second place -/
theorem RowOk.int1 (h : RowOk n x) (hw : ¬ (ix x 0).gS = ("within" : PySem.Str)) : (ix x 1).isI = true := by
  cases h with
  | within l r hl hr => exact absurd rfl hw
  | one w k h => simp [ix1, FV.isI]
  | two w i j h => simp [ix1, FV.isI]
  | with_ k l hl => simp [ix1, FV.isI]
  | wide k l r hl hr => simp [ix1, FV.isI]
theorem RowOk.int1t (h : RowOk n x) (hw : (ix x 0).gS = ("told" : PySem.Str)) : (ix x 1).isI = true := h.int1 (by rw [hw]; decide)
theorem RowOk.set1 (h : RowOk n x) (hw : (ix x 0).gS = ("within" : PySem.Str)) : (ix x 1).isT = true ∧ InIx x.length 2 ∧ (ix x 2).isT = true := by
  cases h with
  | within l r hl hr => exact ⟨by simp [ix1, FV.isT], by simp [InIx], by simp [ix2, FV.isT]⟩
  | one w k h => simp only [ix0, FV.gS] at hw; rcases h with h | h | h <;> rw [h] at hw <;> exact absurd hw (by decide)
  | two w i j h => simp only [ix0, FV.gS] at hw; rcases h with h | h | h <;> rw [h] at hw <;> exact absurd hw (by decide)
  | with_ k l hl => simp only [ix0, FV.gS] at hw; exact absurd hw (by decide)
  | wide k l r hl hr => simp only [ix0, FV.gS] at hw; exact absurd hw (by decide)
theorem RowOk.int2 (h : RowOk n x) (hw : (ix x 0).gS = ("through" : PySem.Str) ∨ (ix x 0).gS = ("beyond" : PySem.Str) ∨ (ix x 0).gS = ("meets" : PySem.Str)) : InIx x.length 2 ∧ (ix x 2).isI = true := by
  cases h with
  | within l r hl hr => simp only [ix0, FV.gS] at hw; rcases hw with h | h | h <;> exact absurd h (by decide)
  | one w k h => simp only [ix0, FV.gS] at hw; rcases h with h | h | h <;> rw [h] at hw <;> rcases hw with h | h | h <;> exact absurd h (by decide)
  | two w i j h => exact ⟨by simp [InIx], by simp [ix2, FV.isI]⟩
  | with_ k l hl => simp only [ix0, FV.gS] at hw; rcases hw with h | h | h <;> exact absurd h (by decide)
  | wide k l r hl hr => simp only [ix0, FV.gS] at hw; rcases hw with h | h | h <;> exact absurd h (by decide)
theorem RowOk.set2 (h : RowOk n x) (hw : (ix x 0).gS = ("with" : PySem.Str) ∨ (ix x 0).gS = ("wide" : PySem.Str)) : InIx x.length 2 ∧ (ix x 2).isT = true := by
  cases h with
  | within l r hl hr => simp only [ix0, FV.gS] at hw; rcases hw with h | h <;> exact absurd h (by decide)
  | one w k h => simp only [ix0, FV.gS] at hw; rcases h with h | h | h <;> rw [h] at hw <;> rcases hw with h | h <;> exact absurd h (by decide)
  | two w i j h => simp only [ix0, FV.gS] at hw; rcases h with h | h | h <;> rw [h] at hw <;> rcases hw with h | h <;> exact absurd h (by decide)
  | with_ k l hl => exact ⟨by simp [InIx], by simp [ix2, FV.isT]⟩
  | wide k l r hl hr => exact ⟨by simp [InIx], by simp [ix2, FV.isT]⟩
theorem RowOk.set3 (h : RowOk n x) (hw : (ix x 0).gS = ("wide" : PySem.Str)) : InIx x.length 3 ∧ (ix x 3).isT = true := by
  cases h with
  | within l r hl hr => simp only [ix0, FV.gS] at hw; exact absurd hw (by decide)
  | one w k h => simp only [ix0, FV.gS] at hw; rcases h with h | h | h <;> rw [h] at hw <;> exact absurd hw (by decide)
  | two w i j h => simp only [ix0, FV.gS] at hw; rcases h with h | h | h <;> rw [h] at hw <;> exact absurd hw (by decide)
  | with_ k l hl => simp only [ix0, FV.gS] at hw; exact absurd hw (by decide)
  | wide k l r hl hr => exact ⟨by simp [InIx], by simp [ix3, FV.isT]⟩
theorem RowOne.wide (h : RowOne x) (a : ¬ (ix x 0).gS = ("with" : PySem.Str)) (b : ¬ (ix x 0).gS = ("also" : PySem.Str)) (c : ¬ (ix x 0).gS = ("other" : PySem.Str)) : (ix x 0).gS = ("wide" : PySem.Str) := by
  rcases h with h | h | h | h
  · exact absurd h a
  · exact absurd h b
  · exact absurd h c
  · exact h
theorem RowOne.set (h : RowOne x) (b : ¬ (ix x 0).gS = ("also" : PySem.Str)) (c : ¬ (ix x 0).gS = ("other" : PySem.Str)) : (ix x 0).gS = ("with" : PySem.Str) ∨ (ix x 0).gS = ("wide" : PySem.Str) := by
  rcases h with h | h | h | h
  · exact .inl h
  · exact absurd h b
  · exact absurd h c
  · exact .inr h
/-- what is left when told, within and the words of two rows are left out -/
theorem RowOk.rest (h : RowOk n x) (a : ¬ (ix x 0).gS = ("told" : PySem.Str)) (b : ¬ (ix x 0).gS = ("within" : PySem.Str)) (c : ¬ ((ix x 0).gS = ("through" : PySem.Str) ∨ (ix x 0).gS = ("beyond" : PySem.Str) ∨ (ix x 0).gS = ("meets" : PySem.Str))) : RowOne x := by
  cases h with
  | within l r hl hr => exact absurd rfl b
  | one w k h =>
    rcases h with h | h | h
    · exact absurd h a
    · exact .inr (.inl h)
    · exact .inr (.inr (.inl h))
  | two w i j h => exact absurd h c
  | with_ k l hl => exact .inl rfl
  | wide k l r hl hr => exact .inr (.inr (.inr rfl))
theorem RowOk.lens (h : RowOk n x) : (ix x 1).gT.length ≤ n ∧ (ix x 2).gT.length ≤ n ∧ (ix x 3).gT.length ≤ n := by
  cases h with
  | one w k h => exact ⟨by simp [ix1, FV.gT], by rw [ix_def (by omega) (by simp)]; exact Nat.zero_le _, by rw [ix_def (by omega) (by simp)]; exact Nat.zero_le _⟩
  | two w i j h => exact ⟨by simp [ix1, FV.gT], by simp [ix2, FV.gT], by rw [ix_def (by omega) (by simp)]; exact Nat.zero_le _⟩
  | within l r hl hr => exact ⟨by simpa [ix1, FV.gT] using hl, by simpa [ix2, FV.gT] using hr, by rw [ix_def (by omega) (by simp)]; exact Nat.zero_le _⟩
  | with_ k l hl => exact ⟨by simp [ix1, FV.gT], by simpa [ix2, FV.gT] using hl, by rw [ix_def (by omega) (by simp)]; exact Nat.zero_le _⟩
  | wide k l r hl hr => exact ⟨by simp [ix1, FV.gT], by simpa [ix2, FV.gT] using hl, by simpa [ix3, FV.gT] using hr⟩
theorem RowOk.len (h : RowOk n x) : 2 ≤ x.length ∧ x.length ≤ 4 := by cases h <;> simp
end
theorem DepC.len {n : Nat} {d : Dep} (h : DepC n d) : d.sd.l.length ≤ n ∧ d.sd.r.length ≤ n := by
  cases d with
  | fd d => exact ⟨h.1.len, h.2.len⟩
  | mvd d => exact ⟨h.1.len, h.2.len⟩
  | jd p => exact ⟨Nat.zero_le _, Nat.zero_le _⟩
theorem DepCO.len {n : Nat} {o : Option Dep} (h : DepCO n o) : (o.getD default).sd.l.length ≤ n ∧ (o.getD default).sd.r.length ≤ n := by
  cases o with
  | none => exact ⟨Nat.zero_le _, Nat.zero_le _⟩
  | some d => exact (h d rfl).len
theorem DepC.mono {n m : Nat} {d : Dep} (h : DepC n d) (hm : n ≤ m) : DepC m d := by
  cases d with
  | fd d => exact ⟨h.1.mono hm, h.2.mono hm⟩
  | mvd d => exact ⟨h.1.mono hm, h.2.mono hm⟩
  | jd p => exact ⟨h.1, h.2.1, fun q hq => (h.2.2 q hq).mono hm⟩
theorem opt_some_fd {o : Option Dep} (h : optB Dep.isFd o = true) : o.isSome = true := by cases o <;> first | rfl | cases h
theorem opt_some_mvd {o : Option Dep} (h : optB Dep.isMvd o = true) : o.isSome = true := by cases o <;> first | rfl | cases h
theorem opt_nj_fd {o : Option Dep} (h : optB Dep.isFd o = true) : (o.getD default).isJd = false := by cases o with | none => cases h | some d => exact nj_fd h
theorem opt_nj_mvd {o : Option Dep} (h : optB Dep.isMvd o = true) : (o.getD default).isJd = false := by cases o with | none => cases h | some d => exact nj_mvd h
theorem sset_len_le (xs : List Int) : (sset xs).length ≤ xs.length := by
  have h1 : ∀ (l m : List Int), l.Nodup → (∀ x ∈ l, x ∈ m) → l.length ≤ m.length := by
    intro l
    induction l with
    | nil => intro m _ _; exact Nat.zero_le _
    | cons a l ih =>
      intro m hn hs
      obtain ⟨h1, h2⟩ := List.nodup_cons.mp hn
      have hm : a ∈ m := hs a List.mem_cons_self
      have := ih (m.erase a) h2 fun x hx => (List.mem_erase_of_ne (fun e => h1 (by rw [← e]; exact hx))).mpr (hs x (List.mem_cons_of_mem _ hx))
      rw [List.length_erase_of_mem hm] at this
      have := List.length_pos_of_mem hm
      rw [List.length_cons]
      omega
  exact h1 _ _ ((sset_asc xs).imp fun h => Int.ne_of_lt h) fun x hx => (mem_sset x xs).mp hx
theorem uni_len_le (a b : List Int) : (sset (a ++ b)).length ≤ a.length + b.length := by
  have := sset_len_le (a ++ b)
  rw [List.length_append] at this
  exact this
theorem goL_inv {α κ ρ : Type} (Pv : κ → Prop) (st : κ → α → Lp κ ρ) : ∀ (xs : List α) (s0 s : κ), Pv s0 → (∀ x ∈ xs, ∀ s s', Pv s → st s x = .go s' → Pv s') → goL st s0 xs = some s → Pv s
  | [], s0, s, h, _, e => by simp [goL] at e; subst e; exact h
  | x :: r, s0, s, h, hs, e => by
    unfold goL at e
    cases q : st s0 x with
    | go s1 =>
      rw [q] at e
      exact goL_inv Pv st r s1 s (hs x List.mem_cons_self s0 s1 h q) (fun y hy => hs y (List.mem_cons_of_mem _ hy)) e
    | brk s1 => rw [q] at e; cases e
    | ret s1 => rw [q] at e; cases e
theorem some_nn {α : Type} {o : Option α} (h : ¬ o.isNone = true) : o.isSome = true := by cases o with | none => exact absurd rfl h | some x => rfl
theorem some_nf {α : Type} {o : Option α} (h : o.isNone = false) : o.isSome = true := by cases o with | none => cases h | some x => rfl
theorem RowOk.rest' {n : Nat} {x : List FV} (h : RowOk n x) (a : ¬ (ix x 0).gS = ("told" : PySem.Str)) (b : ¬ (ix x 0).gS = ("within" : PySem.Str)) (c : ¬ (ix x 0).gS = ("through" : PySem.Str) ∧ ¬ (ix x 0).gS = ("beyond" : PySem.Str) ∧ ¬ (ix x 0).gS = ("meets" : PySem.Str)) : RowOne x := h.rest a b fun z => z.elim c.1 fun z => z.elim c.2.1 c.2.2
theorem RowOk.part_len {n : Nat} {x : List FV} (h : RowOk n x) {y : FV} (hy : y ∈ x) : y.gT.length ≤ n := by
  cases h with
  | one w k h => simp at hy; rcases hy with rfl | rfl <;> exact Nat.zero_le _
  | two w i j h => simp at hy; rcases hy with rfl | rfl | rfl <;> exact Nat.zero_le _
  | within l r hl hr => simp at hy; rcases hy with rfl | rfl | rfl <;> first | exact Nat.zero_le _ | assumption
  | with_ k l hl => simp at hy; rcases hy with rfl | rfl | rfl <;> first | exact Nat.zero_le _ | assumption
  | wide k l r hl hr => simp at hy; rcases hy with rfl | rfl | rfl | rfl <;> first | exact Nat.zero_le _ | assumption
theorem kind2 (b : Bool) : ix ([("fd" : PySem.Str), ("mvd" : PySem.Str)] : List PySem.Str) (if b = true then (1 : Int) else (0 : Int)) = ("fd" : PySem.Str) ∨ ix ([("fd" : PySem.Str), ("mvd" : PySem.Str)] : List PySem.Str) (if b = true then (1 : Int) else (0 : Int)) = ("mvd" : PySem.Str) := by
  cases b
  · exact .inl ix0
  · exact .inr ix1
theorem jd_of {d : Dep} (a : ¬ d.word = ("fd" : PySem.Str)) (b : ¬ d.word = ("mvd" : PySem.Str)) : d.isJd = true := by
  cases d with
  | fd d => exact absurd rfl a
  | mvd d => exact absurd rfl b
  | jd p => rfl
theorem DepC.plen {n : Nat} {d : Dep} (h : DepC n d) : ∀ p ∈ d.ps, p.length ≤ n := by
  cases d with
  | fd d => intro p hp; cases hp
  | mvd d => intro p hp; cases hp
  | jd p => exact fun q hq => (h.2.2 q hq).len
def top (i : Nat) : Stmt := PySem.Challenge.pw_followsortable_k53_derivations_changed.main.body.getD i (.Pass ⟨0, 0, 0, 0⟩)
abbrev s_Lnumbers : Stmt := top 52
abbrev N_Lnumbers : List Str := ["_law_script", "_law_count", "_law_rest", "_law_by_digits", "_law_numbers_here", "_law_k", "_law_cell"]
theorem sc_Lnumbers : FnScope N_Lnumbers ["_law_script", "_law_count"] (defScope s_Lnumbers) := ⟨rfl, rfl, rfl, by decide +kernel, rfl, by decide +kernel, by decide +kernel⟩
abbrev s_Lsparse : Stmt := top 54
abbrev N_Lsparse : List Str := ["_law_number", "_law_count", "_law_k"]
theorem sc_Lsparse : FnScope N_Lsparse ["_law_number", "_law_count"] (defScope s_Lsparse) := ⟨rfl, rfl, rfl, by decide +kernel, rfl, by decide +kernel, by decide +kernel⟩
abbrev s_Lless : Stmt := top 57
abbrev N_Lless : List Str := ["_law_a", "_law_b", "_law_k"]
theorem sc_Lless : FnScope N_Lless ["_law_a", "_law_b"] (defScope s_Lless) := ⟨rfl, rfl, rfl, by decide +kernel, rfl, by decide +kernel, by decide +kernel⟩
abbrev s_Lunited : Stmt := top 55
abbrev N_Lunited : List Str := ["_law_a", "_law_b"]
theorem sc_Lunited : FnScope N_Lunited ["_law_a", "_law_b"] (defScope s_Lunited) := ⟨rfl, rfl, rfl, by decide +kernel, rfl, by decide +kernel, by decide +kernel⟩
abbrev s_Ldependency : Stmt := top 59
abbrev N_Ldependency : List Str := ["_law_numbers_here", "_law_place", "_law_count", "_law_kind", "_law_left", "_law_right", "_law_rest", "_law_parts"]
theorem sc_Ldependency : FnScope N_Ldependency ["_law_numbers_here", "_law_place", "_law_count"] (defScope s_Ldependency) := ⟨rfl, rfl, rfl, by decide +kernel, rfl, by decide +kernel, by decide +kernel⟩
abbrev s_Ltold : Stmt := top 60
abbrev N_Ltold : List Str := ["_law_numbers_here", "_law_place", "_law_count", "_law_many", "_law_found", "_law_k", "_law_one", "_law_theme", "_law_before"]
theorem sc_Ltold : FnScope N_Ltold ["_law_numbers_here", "_law_place", "_law_count", "_law_many"] (defScope s_Ltold) := ⟨rfl, rfl, rfl, by decide +kernel, rfl, by decide +kernel, by decide +kernel⟩
abbrev s_Lmet : Stmt := top 56
abbrev N_Lmet : List Str := ["_law_a", "_law_b", "_law_k"]
theorem sc_Lmet : FnScope N_Lmet ["_law_a", "_law_b"] (defScope s_Lmet) := ⟨rfl, rfl, rfl, by decide +kernel, rfl, by decide +kernel, by decide +kernel⟩
abbrev s_Lset : Stmt := top 53
abbrev N_Lset : List Str := ["_law_number", "_law_count", "_law_k"]
theorem sc_Lset : FnScope N_Lset ["_law_number", "_law_count"] (defScope s_Lset) := ⟨rfl, rfl, rfl, by decide +kernel, rfl, by decide +kernel, by decide +kernel⟩
abbrev s_Ltried : Stmt := top 67
abbrev N_Ltried : List Str := ["_law_numbers_here", "_law_place", "_law_count", "_law_made_here", "_law_told_here", "_law_word", "_law_columns", "_law_some", "_law_k", "_law_found", "_law_i", "_law_j"]
theorem sc_Ltried : FnScope N_Ltried ["_law_numbers_here", "_law_place", "_law_count", "_law_made_here", "_law_told_here", "_law_word"] (defScope s_Ltried) := ⟨rfl, rfl, rfl, by decide +kernel, rfl, by decide +kernel, by decide +kernel⟩
abbrev s_Lis_set : Stmt := top 62
abbrev N_Lis_set : List Str := ["_law_columns", "_law_count", "_law_k"]
theorem sc_Lis_set : FnScope N_Lis_set ["_law_columns", "_law_count"] (defScope s_Lis_set) := ⟨rfl, rfl, rfl, by decide +kernel, rfl, by decide +kernel, by decide +kernel⟩
abbrev s_Lis_within : Stmt := top 58
abbrev N_Lis_within : List Str := ["_law_a", "_law_b"]
theorem sc_Lis_within : FnScope N_Lis_within ["_law_a", "_law_b"] (defScope s_Lis_within) := ⟨rfl, rfl, rfl, by decide +kernel, rfl, by decide +kernel, by decide +kernel⟩
abbrev s_Lof_two : Stmt := top 64
abbrev N_Lof_two : List Str := ["_law_one", "_law_two", "_law_word"]
theorem sc_Lof_two : FnScope N_Lof_two ["_law_one", "_law_two", "_law_word"] (defScope s_Lof_two) := ⟨rfl, rfl, rfl, by decide +kernel, rfl, by decide +kernel, by decide +kernel⟩
abbrev s_Lof_one : Stmt := top 63
abbrev N_Lof_one : List Str := ["_law_count", "_law_one", "_law_row_here"]
theorem sc_Lof_one : FnScope N_Lof_one ["_law_count", "_law_one", "_law_row_here"] (defScope s_Lof_one) := ⟨rfl, rfl, rfl, by decide +kernel, rfl, by decide +kernel, by decide +kernel⟩
abbrev s_Lrow : Stmt := top 65
abbrev N_Lrow : List Str := ["_law_count", "_law_told_here", "_law_made_here", "_law_row_here"]
theorem sc_Lrow : FnScope N_Lrow ["_law_count", "_law_told_here", "_law_made_here", "_law_row_here"] (defScope s_Lrow) := ⟨rfl, rfl, rfl, by decide +kernel, rfl, by decide +kernel, by decide +kernel⟩
abbrev s_Lnext : Stmt := top 68
abbrev N_Lnext : List Str := ["_law_numbers_here", "_law_place", "_law_count", "_law_told_here", "_law_made_here", "_law_words", "_law_tried_here", "_law_right", "_law_row_here"]
theorem sc_Lnext : FnScope N_Lnext ["_law_numbers_here", "_law_place", "_law_count", "_law_told_here", "_law_made_here"] (defScope s_Lnext) := ⟨rfl, rfl, rfl, by decide +kernel, rfl, by decide +kernel, by decide +kernel⟩
abbrev s_Lderivation : Stmt := top 69
abbrev N_Lderivation : List Str := ["_law_numbers_here", "_law_place", "_law_count", "_law_told_here", "_law_size", "_law_rows", "_law_k", "_law_made_here", "_law_row_here"]
theorem sc_Lderivation : FnScope N_Lderivation ["_law_numbers_here", "_law_place", "_law_count", "_law_told_here", "_law_size"] (defScope s_Lderivation) := ⟨rfl, rfl, rfl, by decide +kernel, rfl, by decide +kernel, by decide +kernel⟩
abbrev s_Lmade : Stmt := top 66
abbrev N_Lmade : List Str := ["_law_count", "_law_told_here", "_law_rows", "_law_made_here", "_law_row_here", "_law_found"]
theorem sc_Lmade : FnScope N_Lmade ["_law_count", "_law_told_here", "_law_rows"] (defScope s_Lmade) := ⟨rfl, rfl, rfl, by decide +kernel, rfl, by decide +kernel, by decide +kernel⟩
abbrev s_Ltoggled : Stmt := top 70
abbrev N_Ltoggled : List Str := ["_law_columns", "_law_column"]
theorem sc_Ltoggled : FnScope N_Ltoggled ["_law_columns", "_law_column"] (defScope s_Ltoggled) := ⟨rfl, rfl, rfl, by decide +kernel, rfl, by decide +kernel, by decide +kernel⟩
abbrev s_Lother : Stmt := top 73
abbrev N_Lother : List Str := ["_law_number", "_law_one", "_law_count"]
theorem sc_Lother : FnScope N_Lother ["_law_number", "_law_one", "_law_count"] (defScope s_Lother) := ⟨rfl, rfl, rfl, by decide +kernel, rfl, by decide +kernel, by decide +kernel⟩
abbrev s_Lother_word : Stmt := top 74
abbrev N_Lother_word : List Str := ["_law_number", "_law_row_here", "_law_family"]
theorem sc_Lother_word : FnScope N_Lother_word ["_law_number", "_law_row_here"] (defScope s_Lother_word) := ⟨rfl, rfl, rfl, by decide +kernel, rfl, by decide +kernel, by decide +kernel⟩
abbrev s_Lbent_set : Stmt := top 71
abbrev N_Lbent_set : List Str := ["_law_number", "_law_columns", "_law_count", "_law_bent"]
theorem sc_Lbent_set : FnScope N_Lbent_set ["_law_number", "_law_columns", "_law_count"] (defScope s_Lbent_set) := ⟨rfl, rfl, rfl, by decide +kernel, rfl, by decide +kernel, by decide +kernel⟩
abbrev s_Lbent_row : Stmt := top 72
abbrev N_Lbent_row : List Str := ["_law_number", "_law_row_here", "_law_count", "_law_size", "_law_place", "_law_part", "_law_bent"]
theorem sc_Lbent_row : FnScope N_Lbent_row ["_law_number", "_law_row_here", "_law_count", "_law_size"] (defScope s_Lbent_row) := ⟨rfl, rfl, rfl, by decide +kernel, rfl, by decide +kernel, by decide +kernel⟩
abbrev s_Lchanged : Stmt := top 75
abbrev N_Lchanged : List Str := ["_law_number", "_law_more", "_law_rows", "_law_count", "_law_told_here", "_law_place", "_law_row_here", "_law_choice", "_law_size"]
theorem sc_Lchanged : FnScope N_Lchanged ["_law_number", "_law_more", "_law_rows", "_law_count", "_law_told_here"] (defScope s_Lchanged) := ⟨rfl, rfl, rfl, by decide +kernel, rfl, by decide +kernel, by decide +kernel⟩
abbrev s_as_set : Stmt := top 1
abbrev N_as_set : List Str := ["columns"]
theorem sc_as_set : FnScope N_as_set ["columns"] (defScope s_as_set) := ⟨rfl, rfl, rfl, by decide +kernel, rfl, by decide +kernel, by decide +kernel⟩
abbrev s_Sides_init : Stmt := inClass (top 8) 0
abbrev N_Sides_init : List Str := ["self", "left", "right"]
theorem sc_Sides_init : FnScope N_Sides_init ["self", "left", "right"] (defScope s_Sides_init) := ⟨rfl, rfl, rfl, by decide +kernel, rfl, by decide +kernel, by decide +kernel⟩
abbrev s_Jd_init : Stmt := inClass (top 11) 0
abbrev N_Jd_init : List Str := ["self", "parts", "part"]
theorem sc_Jd_init : FnScope N_Jd_init ["self", "parts"] (defScope s_Jd_init) := ⟨rfl, rfl, rfl, by decide +kernel, rfl, by decide +kernel, by decide +kernel⟩
abbrev s_Lobject : Stmt := top 61
abbrev N_Lobject : List Str := ["_law_dependency_here", "_law_part"]
theorem sc_Lobject : FnScope N_Lobject ["_law_dependency_here"] (defScope s_Lobject) := ⟨rfl, rfl, rfl, by decide +kernel, rfl, by decide +kernel, by decide +kernel⟩
abbrev s_by_told : Stmt := top 15
abbrev N_by_told : List Str := ["dependencies", "index"]
theorem sc_by_told : FnScope N_by_told ["dependencies", "index"] (defScope s_by_told) := ⟨rfl, rfl, rfl, by decide +kernel, rfl, by decide +kernel, by decide +kernel⟩
abbrev s_is_within : Stmt := top 5
abbrev N_is_within : List Str := ["a", "b", "column"]
theorem sc_is_within : FnScope N_is_within ["a", "b"] (defScope s_is_within) := ⟨rfl, rfl, rfl, by decide +kernel, rfl, by decide +kernel, by decide +kernel⟩
abbrev s_whole : Stmt := top 6
abbrev N_whole : List Str := ["count"]
theorem sc_whole : FnScope N_whole ["count"] (defScope s_whole) := ⟨rfl, rfl, rfl, by decide +kernel, rfl, by decide +kernel, by decide +kernel⟩
abbrev s_is_set : Stmt := top 13
abbrev N_is_set : List Str := ["columns", "count"]
theorem sc_is_set : FnScope N_is_set ["columns", "count"] (defScope s_is_set) := ⟨rfl, rfl, rfl, by decide +kernel, rfl, by decide +kernel, by decide +kernel⟩
abbrev s_by_within : Stmt := top 16
abbrev N_by_within : List Str := ["count", "left", "right"]
theorem sc_by_within : FnScope N_by_within ["count", "left", "right"] (defScope s_by_within) := ⟨rfl, rfl, rfl, by decide +kernel, rfl, by decide +kernel, by decide +kernel⟩
abbrev s_earlier : Stmt := top 14
abbrev N_earlier : List Str := ["made", "index"]
theorem sc_earlier : FnScope N_earlier ["made", "index"] (defScope s_earlier) := ⟨rfl, rfl, rfl, by decide +kernel, rfl, by decide +kernel, by decide +kernel⟩
abbrev s_by_through : Stmt := top 18
abbrev N_by_through : List Str := ["first", "second"]
theorem sc_by_through : FnScope N_by_through ["first", "second"] (defScope s_by_through) := ⟨rfl, rfl, rfl, by decide +kernel, rfl, by decide +kernel, by decide +kernel⟩
abbrev s_less : Stmt := top 4
abbrev N_less : List Str := ["a", "b", "column"]
theorem sc_less : FnScope N_less ["a", "b"] (defScope s_less) := ⟨rfl, rfl, rfl, by decide +kernel, rfl, by decide +kernel, by decide +kernel⟩
abbrev s_by_beyond : Stmt := top 22
abbrev N_by_beyond : List Str := ["first", "second"]
theorem sc_by_beyond : FnScope N_by_beyond ["first", "second"] (defScope s_by_beyond) := ⟨rfl, rfl, rfl, by decide +kernel, rfl, by decide +kernel, by decide +kernel⟩
abbrev s_met : Stmt := top 3
abbrev N_met : List Str := ["a", "b", "column"]
theorem sc_met : FnScope N_met ["a", "b"] (defScope s_met) := ⟨rfl, rfl, rfl, by decide +kernel, rfl, by decide +kernel, by decide +kernel⟩
abbrev s_by_meets : Stmt := top 23
abbrev N_by_meets : List Str := ["first", "second"]
theorem sc_by_meets : FnScope N_by_meets ["first", "second"] (defScope s_by_meets) := ⟨rfl, rfl, rfl, by decide +kernel, rfl, by decide +kernel, by decide +kernel⟩
abbrev s_of_two : Stmt := top 25
abbrev N_of_two : List Str := ["first", "second", "word"]
theorem sc_of_two : FnScope N_of_two ["first", "second", "word"] (defScope s_of_two) := ⟨rfl, rfl, rfl, by decide +kernel, rfl, by decide +kernel, by decide +kernel⟩
abbrev s_united : Stmt := top 2
abbrev N_united : List Str := ["a", "b"]
theorem sc_united : FnScope N_united ["a", "b"] (defScope s_united) := ⟨rfl, rfl, rfl, by decide +kernel, rfl, by decide +kernel, by decide +kernel⟩
abbrev s_by_with : Stmt := top 17
abbrev N_by_with : List Str := ["count", "first", "columns"]
theorem sc_by_with : FnScope N_by_with ["count", "first", "columns"] (defScope s_by_with) := ⟨rfl, rfl, rfl, by decide +kernel, rfl, by decide +kernel, by decide +kernel⟩
abbrev s_by_also : Stmt := top 19
abbrev N_by_also : List Str := ["first"]
theorem sc_by_also : FnScope N_by_also ["first"] (defScope s_by_also) := ⟨rfl, rfl, rfl, by decide +kernel, rfl, by decide +kernel, by decide +kernel⟩
abbrev s_by_other : Stmt := top 20
abbrev N_by_other : List Str := ["count", "first"]
theorem sc_by_other : FnScope N_by_other ["count", "first"] (defScope s_by_other) := ⟨rfl, rfl, rfl, by decide +kernel, rfl, by decide +kernel, by decide +kernel⟩
abbrev s_by_wide : Stmt := top 21
abbrev N_by_wide : List Str := ["count", "first", "columns", "some"]
theorem sc_by_wide : FnScope N_by_wide ["count", "first", "columns", "some"] (defScope s_by_wide) := ⟨rfl, rfl, rfl, by decide +kernel, rfl, by decide +kernel, by decide +kernel⟩
abbrev s_of_one : Stmt := top 24
abbrev N_of_one : List Str := ["count", "first", "row"]
theorem sc_of_one : FnScope N_of_one ["count", "first", "row"] (defScope s_of_one) := ⟨rfl, rfl, rfl, by decide +kernel, rfl, by decide +kernel, by decide +kernel⟩
abbrev s_row_tells : Stmt := top 26
abbrev N_row_tells : List Str := ["count", "dependencies", "made", "row", "first"]
theorem sc_row_tells : FnScope N_row_tells ["count", "dependencies", "made", "row"] (defScope s_row_tells) := ⟨rfl, rfl, rfl, by decide +kernel, rfl, by decide +kernel, by decide +kernel⟩
abbrev s_Sides_key : Stmt := inClass (top 8) 1
abbrev N_Sides_key : List Str := ["self"]
theorem sc_Sides_key : FnScope N_Sides_key ["self"] (defScope s_Sides_key) := ⟨rfl, rfl, rfl, by decide +kernel, rfl, by decide +kernel, by decide +kernel⟩
abbrev s_Fd_eq : Stmt := inClass (top 9) 0
abbrev N_Fd_eq : List Str := ["self", "other"]
theorem sc_Fd_eq : FnScope N_Fd_eq ["self", "other"] (defScope s_Fd_eq) := ⟨rfl, rfl, rfl, by decide +kernel, rfl, by decide +kernel, by decide +kernel⟩
abbrev s_Mvd_eq : Stmt := inClass (top 10) 0
abbrev N_Mvd_eq : List Str := ["self", "other"]
theorem sc_Mvd_eq : FnScope N_Mvd_eq ["self", "other"] (defScope s_Mvd_eq) := ⟨rfl, rfl, rfl, by decide +kernel, rfl, by decide +kernel, by decide +kernel⟩
abbrev s_Jd_eq : Stmt := inClass (top 11) 1
abbrev N_Jd_eq : List Str := ["self", "other"]
theorem sc_Jd_eq : FnScope N_Jd_eq ["self", "other"] (defScope s_Jd_eq) := ⟨rfl, rfl, rfl, by decide +kernel, rfl, by decide +kernel, by decide +kernel⟩
abbrev s_derives : Stmt := top 27
abbrev N_derives : List Str := ["count", "dependencies", "target", "rows", "made", "row", "found"]
theorem sc_derives : FnScope N_derives ["count", "dependencies", "target", "rows"] (defScope s_derives) := ⟨rfl, rfl, rfl, by decide +kernel, rfl, by decide +kernel, by decide +kernel⟩
abbrev s_takes : Stmt := top 50
abbrev N_takes : List Str := ["count", "dependencies", "target", "verdict", "paper"]
theorem sc_takes : FnScope N_takes ["count", "dependencies", "target", "verdict", "paper"] (defScope s_takes) := ⟨rfl, rfl, rfl, by decide +kernel, rfl, by decide +kernel, by decide +kernel⟩
abbrev s_Lderives : Stmt := top 76
abbrev N_Lderives : List Str := ["_law_count", "_law_told_here", "_law_target", "_law_rows", "_law_made_here"]
theorem sc_Lderives : FnScope N_Lderives ["_law_count", "_law_told_here", "_law_target", "_law_rows"] (defScope s_Lderives) := ⟨rfl, rfl, rfl, by decide +kernel, rfl, by decide +kernel, by decide +kernel⟩
abbrev s_law : Stmt := top 77
abbrev N_law : List Str := ["_law_script", "_law_numbers_here", "_law_count", "_law_told_here", "_law_rows", "_law_target", "_law_objects", "_law_one", "_law_actual"]
theorem sc_law : FnScope N_law ["_law_script"] (defScope s_law) := ⟨rfl, rfl, rfl, by decide +kernel, rfl, by decide +kernel, by decide +kernel⟩
/-! mirrors -/
def Lnumbers_Lrest1 (vLscript : (List Int)) (vLcount : Int) : Int := (0 : Int)
def Lnumbers_Lrest2 (vLscript : (List Int)) (vLcount : Int) : Int := (ix vLscript (0 : Int))
def Lnumbers_j_Lrest1 (vLscript : (List Int)) (vLcount : Int) : (Int) := (if (decide ((0 : Int) < (vLscript.length : Int))) = true then ((Lnumbers_Lrest2 vLscript vLcount) : Int) else (Lnumbers_Lrest1 vLscript vLcount))
def Lnumbers_Lby_digits1 (vLscript : (List Int)) (vLcount : Int) : Bool := (decide (((10 : Int) ^ (18 : Int).toNat) ≤ (Lnumbers_j_Lrest1 vLscript vLcount)))
def Lnumbers_Lnumbers_here1 (vLscript : (List Int)) (vLcount : Int) : (List Int) := ([] : List Int)
def Lnumbers_Lnumbers_here2 (vLscript : (List Int)) (vLcount : Int) (vLrest4 : Int) (vLnumbers_here5 : (List Int)) (x3 : Int) : (List Int) := vLnumbers_here5 ++ [(vLrest4 % (1000000 : Int))]
def Lnumbers_Lrest3 (vLscript : (List Int)) (vLcount : Int) (vLrest4 : Int) (vLnumbers_here5 : (List Int)) (x3 : Int) : Int := (vLrest4 / (1000000 : Int))
def Lnumbers_Lcell1 (vLscript : (List Int)) (vLcount : Int) (vLrest4 : Int) (vLnumbers_here5 : (List Int)) (x3 : Int) : Int := (13 : Int)
def Lnumbers_Lcell2 (vLscript : (List Int)) (vLcount : Int) (vLrest4 : Int) (vLnumbers_here5 : (List Int)) (x3 : Int) : Int := ((ix vLscript (x3 % (vLscript.length : Int))) + ((7919 : Int) * x3))
def Lnumbers_j_Lcell1 (vLscript : (List Int)) (vLcount : Int) (vLrest4 : Int) (vLnumbers_here5 : (List Int)) (x3 : Int) : (Int) := (if (decide ((0 : Int) < (vLscript.length : Int))) = true then ((Lnumbers_Lcell2 vLscript vLcount vLrest4 vLnumbers_here5 x3) : Int) else (Lnumbers_Lcell1 vLscript vLcount vLrest4 vLnumbers_here5 x3))
def Lnumbers_Lnumbers_here3 (vLscript : (List Int)) (vLcount : Int) (vLrest4 : Int) (vLnumbers_here5 : (List Int)) (x3 : Int) : (List Int) := vLnumbers_here5 ++ [((((((Lnumbers_j_Lcell1 vLscript vLcount vLrest4 vLnumbers_here5 x3) * (48271 : Int)) % (2147483647 : Int)) * (69621 : Int)) % (2147483629 : Int)) % (1000000 : Int))]
def Lnumbers_j_Lrest_Lnumbers_here1 (vLscript : (List Int)) (vLcount : Int) (vLrest4 : Int) (vLnumbers_here5 : (List Int)) (x3 : Int) : (Int × (List Int)) := (if ((Lnumbers_Lby_digits1 vLscript vLcount) && (decide ((0 : Int) < vLrest4))) = true then (((Lnumbers_Lrest3 vLscript vLcount vLrest4 vLnumbers_here5 x3), (Lnumbers_Lnumbers_here2 vLscript vLcount vLrest4 vLnumbers_here5 x3)) : Int × (List Int)) else (vLrest4, (Lnumbers_Lnumbers_here3 vLscript vLcount vLrest4 vLnumbers_here5 x3)))
def Lnumbers_st1 (vLscript : (List Int)) (vLcount : Int) (s : Int × (List Int)) (x3 : Int) : Int × (List Int) := ((Lnumbers_j_Lrest_Lnumbers_here1 vLscript vLcount s.1 s.2 x3).1, (Lnumbers_j_Lrest_Lnumbers_here1 vLscript vLcount s.1 s.2 x3).2)
def Lnumbers_loop1 (vLscript : (List Int)) (vLcount : Int) : (Int × (List Int)) := (rangeI 0 vLcount).foldl (Lnumbers_st1 vLscript vLcount) ((Lnumbers_j_Lrest1 vLscript vLcount), (Lnumbers_Lnumbers_here1 vLscript vLcount))
def m_Lnumbers (vLscript : (List Int)) (vLcount : Int) : (List Int) := (Lnumbers_loop1 vLscript vLcount).2
def m_Lsparse (vLnumber : Int) (vLcount : Int) : (List Int) := ((rangeI 0 vLcount).filter (fun (x1 : Int) => (decide (((vLnumber / (ix ([(1 : Int), (3 : Int), (9 : Int), (27 : Int), (81 : Int), (243 : Int), (729 : Int), (2187 : Int), (6561 : Int), (19683 : Int)] : List Int) x1)) % (3 : Int)) = (1 : Int)))))
def m_Lless (vLa : (List Int)) (vLb : (List Int)) : (List Int) := (vLa.filter (fun (x1 : Int) => (!(decide (x1 ∈ vLb)))))
def m_Lunited (vLa : (List Int)) (vLb : (List Int)) : (List Int) := (sset (vLa ++ vLb))
def Ldependency_Lkind1 (vLnumbers_here : (List Int)) (vLplace : Int) (vLcount : Int) : Int := ((ix vLnumbers_here vLplace) % (5 : Int))
def Ldependency_Lleft1 (vLnumbers_here : (List Int)) (vLplace : Int) (vLcount : Int) : (List Int) := (m_Lsparse ((ix vLnumbers_here vLplace) / (5 : Int)) vLcount)
def Ldependency_Lright1 (vLnumbers_here : (List Int)) (vLplace : Int) (vLcount : Int) : (List Int) := (m_Lsparse (ix vLnumbers_here (vLplace + (1 : Int))) vLcount)
def Ldependency_Lrest1 (vLnumbers_here : (List Int)) (vLplace : Int) (vLcount : Int) : (List Int) := (m_Lless (rangeI 0 vLcount) (Ldependency_Lright1 vLnumbers_here vLplace vLcount))
def Ldependency_Lparts1 (vLnumbers_here : (List Int)) (vLplace : Int) (vLcount : Int) : (List (List Int)) := ([(m_Lunited (Ldependency_Lrest1 vLnumbers_here vLplace vLcount) (Ldependency_Lleft1 vLnumbers_here vLplace vLcount)), (Ldependency_Lright1 vLnumbers_here vLplace vLcount)] : List (List Int))
def Ldependency_Lparts2 (vLnumbers_here : (List Int)) (vLplace : Int) (vLcount : Int) : (List (List Int)) := ([(Ldependency_Lright1 vLnumbers_here vLplace vLcount), (Ldependency_Lleft1 vLnumbers_here vLplace vLcount), (Ldependency_Lrest1 vLnumbers_here vLplace vLcount)] : List (List Int))
def Ldependency_j_Lparts1 (vLnumbers_here : (List Int)) (vLplace : Int) (vLcount : Int) : ((List (List Int))) := (if (decide ((((ix vLnumbers_here (vLplace + (1 : Int))) / (59049 : Int)) % (3 : Int)) = (1 : Int))) = true then ((Ldependency_Lparts2 vLnumbers_here vLplace vLcount) : (List (List Int))) else (Ldependency_Lparts1 vLnumbers_here vLplace vLcount))
def m_Ldependency (vLnumbers_here : (List Int)) (vLplace : Int) (vLcount : Int) : Dep := (if (decide ((Ldependency_Lkind1 vLnumbers_here vLplace vLcount) < (2 : Int))) = true then (Dep.fd ⟨(Ldependency_Lleft1 vLnumbers_here vLplace vLcount), (Ldependency_Lright1 vLnumbers_here vLplace vLcount)⟩) else (if (decide ((Ldependency_Lkind1 vLnumbers_here vLplace vLcount) < (4 : Int))) = true then (Dep.mvd ⟨(Ldependency_Lleft1 vLnumbers_here vLplace vLcount), (Ldependency_Lright1 vLnumbers_here vLplace vLcount)⟩) else (Dep.jd (Ldependency_j_Lparts1 vLnumbers_here vLplace vLcount))))
def Ltold_Lfound1 (vLnumbers_here : (List Int)) (vLplace : Int) (vLcount : Int) (vLmany : Int) : (List Dep) := ([] : List Dep)
def Ltold_Lone1 (vLnumbers_here : (List Int)) (vLplace : Int) (vLcount : Int) (vLmany : Int) (vLfound2 : (List Dep)) (x1 : Int) : Dep := (m_Ldependency vLnumbers_here (vLplace + ((2 : Int) * x1)) vLcount)
def Ltold_Ltheme1 (vLnumbers_here : (List Int)) (vLplace : Int) (vLcount : Int) (vLmany : Int) (vLfound2 : (List Dep)) (x1 : Int) : Int := (((ix vLnumbers_here ((vLplace + ((2 : Int) * x1)) + (1 : Int))) / (59049 : Int)) % (4 : Int))
def Ltold_Lbefore1 (vLnumbers_here : (List Int)) (vLplace : Int) (vLcount : Int) (vLmany : Int) (vLfound2 : (List Dep)) (x1 : Int) : Dep := (ix vLfound2 (x1 - (1 : Int)))
def Ltold_Lone2 (vLnumbers_here : (List Int)) (vLplace : Int) (vLcount : Int) (vLmany : Int) (vLfound2 : (List Dep)) (x1 : Int) : Dep := (Dep.fd ⟨(m_Lless (Ltold_Lone1 vLnumbers_here vLplace vLcount vLmany vLfound2 x1).sd.l (Ltold_Lbefore1 vLnumbers_here vLplace vLcount vLmany vLfound2 x1).sd.r), ((Ltold_Lbefore1 vLnumbers_here vLplace vLcount vLmany vLfound2 x1).sd.r.take (1 : Int).toNat)⟩)
def Ltold_Lone3 (vLnumbers_here : (List Int)) (vLplace : Int) (vLcount : Int) (vLmany : Int) (vLfound2 : (List Dep)) (x1 : Int) : Dep := (Dep.ofW (Ltold_Lbefore1 vLnumbers_here vLplace vLcount vLmany vLfound2 x1).word (Ltold_Lbefore1 vLnumbers_here vLplace vLcount vLmany vLfound2 x1).sd.r (Ltold_Lone1 vLnumbers_here vLplace vLcount vLmany vLfound2 x1).sd.r)
def Ltold_j_Lone1 (vLnumbers_here : (List Int)) (vLplace : Int) (vLcount : Int) (vLmany : Int) (vLfound2 : (List Dep)) (x1 : Int) : (Dep) := (if (decide ((Ltold_Ltheme1 vLnumbers_here vLplace vLcount vLmany vLfound2 x1) = (3 : Int))) = true then ((Ltold_Lone2 vLnumbers_here vLplace vLcount vLmany vLfound2 x1) : Dep) else (Ltold_Lone3 vLnumbers_here vLplace vLcount vLmany vLfound2 x1))
def Ltold_j_Lone2 (vLnumbers_here : (List Int)) (vLplace : Int) (vLcount : Int) (vLmany : Int) (vLfound2 : (List Dep)) (x1 : Int) : (Dep) := (if ((decide ((0 : Int) < x1)) && ((!(decide ((Ltold_Lone1 vLnumbers_here vLplace vLcount vLmany vLfound2 x1).word = ("jd" : PySem.Str)))) && ((!(decide ((ix vLfound2 (x1 - (1 : Int))).word = ("jd" : PySem.Str)))) && (decide ((0 : Int) < (Ltold_Ltheme1 vLnumbers_here vLplace vLcount vLmany vLfound2 x1)))))) = true then ((Ltold_j_Lone1 vLnumbers_here vLplace vLcount vLmany vLfound2 x1) : Dep) else (Ltold_Lone1 vLnumbers_here vLplace vLcount vLmany vLfound2 x1))
def Ltold_Lfound2 (vLnumbers_here : (List Int)) (vLplace : Int) (vLcount : Int) (vLmany : Int) (vLfound2 : (List Dep)) (x1 : Int) : (List Dep) := vLfound2 ++ [(Ltold_j_Lone2 vLnumbers_here vLplace vLcount vLmany vLfound2 x1)]
def Ltold_st1 (vLnumbers_here : (List Int)) (vLplace : Int) (vLcount : Int) (vLmany : Int) (s : (List Dep)) (x1 : Int) : (List Dep) := (Ltold_Lfound2 vLnumbers_here vLplace vLcount vLmany s x1)
def Ltold_loop1 (vLnumbers_here : (List Int)) (vLplace : Int) (vLcount : Int) (vLmany : Int) : ((List Dep)) := (rangeI 0 vLmany).foldl (Ltold_st1 vLnumbers_here vLplace vLcount vLmany) (Ltold_Lfound1 vLnumbers_here vLplace vLcount vLmany)
def m_Ltold (vLnumbers_here : (List Int)) (vLplace : Int) (vLcount : Int) (vLmany : Int) : (List Dep) := (Ltold_loop1 vLnumbers_here vLplace vLcount vLmany)
def m_Lmet (vLa : (List Int)) (vLb : (List Int)) : (List Int) := (vLa.filter (fun (x1 : Int) => (decide (x1 ∈ vLb))))
def m_Lset (vLnumber : Int) (vLcount : Int) : (List Int) := ((rangeI 0 vLcount).filter (fun (x1 : Int) => (decide (((vLnumber / (ix ([(1 : Int), (2 : Int), (4 : Int), (8 : Int), (16 : Int), (32 : Int), (64 : Int), (128 : Int), (256 : Int), (512 : Int)] : List Int) x1)) % (2 : Int)) = (1 : Int)))))
def Ltried_Lcolumns1 (vLnumbers_here : (List Int)) (vLplace : Int) (vLcount : Int) (vLmade_here : (List Dep)) (vLtold_here : (List Dep)) (vLword : PySem.Str) : (List Int) := (m_Lsparse (ix vLnumbers_here (vLplace + (1 : Int))) vLcount)
def Ltried_Lsome1 (vLnumbers_here : (List Int)) (vLplace : Int) (vLcount : Int) (vLmade_here : (List Dep)) (vLtold_here : (List Dep)) (vLword : PySem.Str) : (List Int) := (m_Lmet (Ltried_Lcolumns1 vLnumbers_here vLplace vLcount vLmade_here vLtold_here vLword) (m_Lset ((ix vLnumbers_here (vLplace + (1 : Int))) / (977 : Int)) vLcount))
def Ltried_Lfound1 (vLnumbers_here : (List Int)) (vLplace : Int) (vLcount : Int) (vLmade_here : (List Dep)) (vLtold_here : (List Dep)) (vLword : PySem.Str) : (List (List FV)) := ([] : List (List FV))
def Ltried_Lfound2 (vLnumbers_here : (List Int)) (vLplace : Int) (vLcount : Int) (vLmade_here : (List Dep)) (vLtold_here : (List Dep)) (vLword : PySem.Str) (vLfound18 : (List (List FV))) (x17 : Int) (vLfound20 : (List (List FV))) (x19 : Int) : (List (List FV)) := vLfound20 ++ [([(FV.s vLword), (FV.i x17), (FV.i x19)] : List FV)]
def Ltried_st2 (vLnumbers_here : (List Int)) (vLplace : Int) (vLcount : Int) (vLmade_here : (List Dep)) (vLtold_here : (List Dep)) (vLword : PySem.Str) (vLfound18 : (List (List FV))) (x17 : Int) (s : (List (List FV))) (x19 : Int) : (List (List FV)) := (Ltried_Lfound2 vLnumbers_here vLplace vLcount vLmade_here vLtold_here vLword vLfound18 x17 s x19)
def Ltried_loop1 (vLnumbers_here : (List Int)) (vLplace : Int) (vLcount : Int) (vLmade_here : (List Dep)) (vLtold_here : (List Dep)) (vLword : PySem.Str) (vLfound18 : (List (List FV))) (x17 : Int) : ((List (List FV))) := (rangeI 0 (vLmade_here.length : Int)).foldl (Ltried_st2 vLnumbers_here vLplace vLcount vLmade_here vLtold_here vLword vLfound18 x17) vLfound18
def Ltried_st1 (vLnumbers_here : (List Int)) (vLplace : Int) (vLcount : Int) (vLmade_here : (List Dep)) (vLtold_here : (List Dep)) (vLword : PySem.Str) (s : (List (List FV))) (x17 : Int) : (List (List FV)) := (Ltried_loop1 vLnumbers_here vLplace vLcount vLmade_here vLtold_here vLword s x17)
def Ltried_loop2 (vLnumbers_here : (List Int)) (vLplace : Int) (vLcount : Int) (vLmade_here : (List Dep)) (vLtold_here : (List Dep)) (vLword : PySem.Str) : ((List (List FV))) := (rangeI 0 (vLmade_here.length : Int)).foldl (Ltried_st1 vLnumbers_here vLplace vLcount vLmade_here vLtold_here vLword) (Ltried_Lfound1 vLnumbers_here vLplace vLcount vLmade_here vLtold_here vLword)
def m_Ltried (vLnumbers_here : (List Int)) (vLplace : Int) (vLcount : Int) (vLmade_here : (List Dep)) (vLtold_here : (List Dep)) (vLword : PySem.Str) : (List (List FV)) := (if (decide (vLword = ("told" : PySem.Str))) = true then ((rangeI 0 (vLtold_here.length : Int)).map (fun (x3 : Int) => ([(FV.s vLword), (FV.i x3)] : List FV))) else (if (decide (vLword = ("within" : PySem.Str))) = true then ([([(FV.s vLword), (FV.t (Ltried_Lcolumns1 vLnumbers_here vLplace vLcount vLmade_here vLtold_here vLword)), (FV.t (Ltried_Lsome1 vLnumbers_here vLplace vLcount vLmade_here vLtold_here vLword))] : List FV)] : List (List FV)) else (if (decide (vLword = ("with" : PySem.Str))) = true then ((rangeI 0 (vLmade_here.length : Int)).map (fun (x8 : Int) => ([(FV.s vLword), (FV.i x8), (FV.t (Ltried_Lcolumns1 vLnumbers_here vLplace vLcount vLmade_here vLtold_here vLword))] : List FV))) else (if (decide (vLword = ("wide" : PySem.Str))) = true then ((rangeI 0 (vLmade_here.length : Int)).map (fun (x11 : Int) => ([(FV.s vLword), (FV.i x11), (FV.t (Ltried_Lcolumns1 vLnumbers_here vLplace vLcount vLmade_here vLtold_here vLword)), (FV.t (Ltried_Lsome1 vLnumbers_here vLplace vLcount vLmade_here vLtold_here vLword))] : List FV))) else (if ((decide (vLword = ("also" : PySem.Str))) || (decide (vLword = ("other" : PySem.Str)))) = true then ((rangeI 0 (vLmade_here.length : Int)).map (fun (x16 : Int) => ([(FV.s vLword), (FV.i x16)] : List FV))) else (Ltried_loop2 vLnumbers_here vLplace vLcount vLmade_here vLtold_here vLword))))))
def m_Lis_set (vLcolumns : (List Int)) (vLcount : Int) : Bool := (decide (vLcolumns = ((rangeI 0 vLcount).filter (fun (x1 : Int) => (decide (x1 ∈ vLcolumns))))))
def m_Lis_within (vLa : (List Int)) (vLb : (List Int)) : Bool := (decide (((m_Lless vLa vLb).length : Int) = (0 : Int)))
def m_Lof_two (vLone : Dep) (vLtwo : Dep) (vLword : PySem.Str) : (Option Dep) := (if (decide (vLword = ("through" : PySem.Str))) = true then (if ((decide (vLone.word = ("fd" : PySem.Str))) && ((decide (vLtwo.word = ("fd" : PySem.Str))) && (decide (vLone.sd.r = vLtwo.sd.l)))) = true then (some (Dep.fd ⟨vLone.sd.l, vLtwo.sd.r⟩)) else none) else (if (!(decide (vLone.word = ("mvd" : PySem.Str)))) = true then none else (if (decide (vLword = ("beyond" : PySem.Str))) = true then (if ((decide (vLtwo.word = ("mvd" : PySem.Str))) && (decide (vLone.sd.r = vLtwo.sd.l))) = true then (some (Dep.mvd ⟨vLone.sd.l, (m_Lless vLtwo.sd.r vLone.sd.r)⟩)) else none) else (if ((decide (vLtwo.word = ("fd" : PySem.Str))) && ((m_Lis_within vLtwo.sd.r vLone.sd.r) && (decide (((m_Lmet vLtwo.sd.l vLone.sd.r).length : Int) = (0 : Int))))) = true then (some (Dep.fd ⟨vLone.sd.l, vLtwo.sd.r⟩)) else none))))
def m_Lof_one (vLcount : Int) (vLone : Dep) (vLrow_here : (List FV)) : (Option Dep) := (if (decide ((ix vLrow_here (0 : Int)).gS = ("also" : PySem.Str))) = true then (if (decide (vLone.word = ("fd" : PySem.Str))) = true then (some (Dep.mvd ⟨vLone.sd.l, vLone.sd.r⟩)) else none) else (if (decide ((ix vLrow_here (0 : Int)).gS = ("other" : PySem.Str))) = true then (if (decide (vLone.word = ("mvd" : PySem.Str))) = true then (some (Dep.mvd ⟨vLone.sd.l, (m_Lless (rangeI 0 vLcount) (m_Lunited vLone.sd.l vLone.sd.r))⟩)) else none) else (if (!(m_Lis_set (ix vLrow_here (2 : Int)).gT vLcount)) = true then none else (if (decide ((ix vLrow_here (0 : Int)).gS = ("with" : PySem.Str))) = true then (if (decide (vLone.word = ("fd" : PySem.Str))) = true then (some (Dep.fd ⟨(m_Lunited vLone.sd.l (ix vLrow_here (2 : Int)).gT), (m_Lunited vLone.sd.r (ix vLrow_here (2 : Int)).gT)⟩)) else none) else (if ((decide (vLone.word = ("mvd" : PySem.Str))) && ((m_Lis_set (ix vLrow_here (3 : Int)).gT vLcount) && (m_Lis_within (ix vLrow_here (3 : Int)).gT (ix vLrow_here (2 : Int)).gT))) = true then (some (Dep.mvd ⟨(m_Lunited vLone.sd.l (ix vLrow_here (2 : Int)).gT), (m_Lunited vLone.sd.r (ix vLrow_here (3 : Int)).gT)⟩)) else none)))))
def m_Lrow (vLcount : Int) (vLtold_here : (List Dep)) (vLmade_here : (List Dep)) (vLrow_here : (List FV)) : (Option Dep) := (if (decide ((ix vLrow_here (0 : Int)).gS = ("told" : PySem.Str))) = true then (if (((decide ((0 : Int) ≤ (ix vLrow_here (1 : Int)).gI)) && (decide ((ix vLrow_here (1 : Int)).gI < (vLtold_here.length : Int)))) && (!(decide ((ix vLtold_here (ix vLrow_here (1 : Int)).gI).word = ("jd" : PySem.Str))))) = true then (some (ix vLtold_here (ix vLrow_here (1 : Int)).gI)) else none) else (if (decide ((ix vLrow_here (0 : Int)).gS = ("within" : PySem.Str))) = true then (if ((m_Lis_set (ix vLrow_here (1 : Int)).gT vLcount) && ((m_Lis_set (ix vLrow_here (2 : Int)).gT vLcount) && (m_Lis_within (ix vLrow_here (2 : Int)).gT (ix vLrow_here (1 : Int)).gT))) = true then (some (Dep.fd ⟨(ix vLrow_here (1 : Int)).gT, (ix vLrow_here (2 : Int)).gT⟩)) else none) else (if (!((decide ((0 : Int) ≤ (ix vLrow_here (1 : Int)).gI)) && (decide ((ix vLrow_here (1 : Int)).gI < (vLmade_here.length : Int))))) = true then none else (if ((decide ((ix vLrow_here (0 : Int)).gS = ("through" : PySem.Str))) || ((decide ((ix vLrow_here (0 : Int)).gS = ("beyond" : PySem.Str))) || (decide ((ix vLrow_here (0 : Int)).gS = ("meets" : PySem.Str))))) = true then (if (!((decide ((0 : Int) ≤ (ix vLrow_here (2 : Int)).gI)) && (decide ((ix vLrow_here (2 : Int)).gI < (vLmade_here.length : Int))))) = true then none else (m_Lof_two (ix vLmade_here (ix vLrow_here (1 : Int)).gI) (ix vLmade_here (ix vLrow_here (2 : Int)).gI) (ix vLrow_here (0 : Int)).gS)) else (m_Lof_one vLcount (ix vLmade_here (ix vLrow_here (1 : Int)).gI) vLrow_here)))))
def Lnext_Lwords1 (vLnumbers_here : (List Int)) (vLplace : Int) (vLcount : Int) (vLtold_here : (List Dep)) (vLmade_here : (List Dep)) : (List PySem.Str) := ([("told" : PySem.Str), ("within" : PySem.Str), ("with" : PySem.Str), ("through" : PySem.Str), ("also" : PySem.Str), ("other" : PySem.Str), ("wide" : PySem.Str), ("beyond" : PySem.Str), ("meets" : PySem.Str)] : List PySem.Str)
def Lnext_Ltried_here1 (vLnumbers_here : (List Int)) (vLplace : Int) (vLcount : Int) (vLtold_here : (List Dep)) (vLmade_here : (List Dep)) : (List (List FV)) := (m_Ltried vLnumbers_here vLplace vLcount vLmade_here vLtold_here (ix (Lnext_Lwords1 vLnumbers_here vLplace vLcount vLtold_here vLmade_here) ((ix vLnumbers_here vLplace) % (9 : Int))))
def Lnext_Lright1 (vLnumbers_here : (List Int)) (vLplace : Int) (vLcount : Int) (vLtold_here : (List Dep)) (vLmade_here : (List Dep)) : (List (List FV)) := ((Lnext_Ltried_here1 vLnumbers_here vLplace vLcount vLtold_here vLmade_here).filter (fun (x1 : (List FV)) => (m_Lrow vLcount vLtold_here vLmade_here x1).isSome))
def Lnext_Lright2 (vLnumbers_here : (List Int)) (vLplace : Int) (vLcount : Int) (vLtold_here : (List Dep)) (vLmade_here : (List Dep)) : (List (List FV)) := (m_Ltried vLnumbers_here vLplace vLcount vLmade_here vLtold_here ("within" : PySem.Str))
def Lnext_j_Lright1 (vLnumbers_here : (List Int)) (vLplace : Int) (vLcount : Int) (vLtold_here : (List Dep)) (vLmade_here : (List Dep)) : ((List (List FV))) := (if (decide (((Lnext_Lright1 vLnumbers_here vLplace vLcount vLtold_here vLmade_here).length : Int) = (0 : Int))) = true then ((Lnext_Lright2 vLnumbers_here vLplace vLcount vLtold_here vLmade_here) : (List (List FV))) else (Lnext_Lright1 vLnumbers_here vLplace vLcount vLtold_here vLmade_here))
def m_Lnext (vLnumbers_here : (List Int)) (vLplace : Int) (vLcount : Int) (vLtold_here : (List Dep)) (vLmade_here : (List Dep)) : (List FV) := (ix (Lnext_j_Lright1 vLnumbers_here vLplace vLcount vLtold_here vLmade_here) (((ix vLnumbers_here vLplace) / (9 : Int)) % ((Lnext_j_Lright1 vLnumbers_here vLplace vLcount vLtold_here vLmade_here).length : Int)))
def Lderivation_Lrows1 (vLnumbers_here : (List Int)) (vLplace : Int) (vLcount : Int) (vLtold_here : (List Dep)) (vLsize : Int) : (List (List FV)) := (((rangeI 0 (vLtold_here.length : Int)).filter (fun (x1 : Int) => (!(decide ((ix vLtold_here x1).word = ("jd" : PySem.Str)))))).map (fun (x1 : Int) => ([(FV.s ("told" : PySem.Str)), (FV.i x1)] : List FV)))
def Lderivation_Lmade_here1 (vLnumbers_here : (List Int)) (vLplace : Int) (vLcount : Int) (vLtold_here : (List Dep)) (vLsize : Int) : (List Dep) := ((Lderivation_Lrows1 vLnumbers_here vLplace vLcount vLtold_here vLsize).map (fun (x2 : (List FV)) => (ix vLtold_here (ix x2 (1 : Int)).gI)))
def Lderivation_Lrow_here1 (vLnumbers_here : (List Int)) (vLplace : Int) (vLcount : Int) (vLtold_here : (List Dep)) (vLsize : Int) (vLrows4 : (List (List FV))) (vLmade_here5 : (List Dep)) (x3 : Int) : (List FV) := (m_Lnext vLnumbers_here (vLplace + ((2 : Int) * x3)) vLcount vLtold_here vLmade_here5)
def Lderivation_Lmade_here2 (vLnumbers_here : (List Int)) (vLplace : Int) (vLcount : Int) (vLtold_here : (List Dep)) (vLsize : Int) (vLrows4 : (List (List FV))) (vLmade_here5 : (List Dep)) (x3 : Int) : (List Dep) := vLmade_here5 ++ [((m_Lrow vLcount vLtold_here vLmade_here5 (Lderivation_Lrow_here1 vLnumbers_here vLplace vLcount vLtold_here vLsize vLrows4 vLmade_here5 x3)).getD default)]
def Lderivation_Lrows2 (vLnumbers_here : (List Int)) (vLplace : Int) (vLcount : Int) (vLtold_here : (List Dep)) (vLsize : Int) (vLrows4 : (List (List FV))) (vLmade_here5 : (List Dep)) (x3 : Int) : (List (List FV)) := vLrows4 ++ [(Lderivation_Lrow_here1 vLnumbers_here vLplace vLcount vLtold_here vLsize vLrows4 vLmade_here5 x3)]
def Lderivation_st1 (vLnumbers_here : (List Int)) (vLplace : Int) (vLcount : Int) (vLtold_here : (List Dep)) (vLsize : Int) (s : (List (List FV)) × (List Dep)) (x3 : Int) : (List (List FV)) × (List Dep) := ((Lderivation_Lrows2 vLnumbers_here vLplace vLcount vLtold_here vLsize s.1 s.2 x3), (Lderivation_Lmade_here2 vLnumbers_here vLplace vLcount vLtold_here vLsize s.1 s.2 x3))
def Lderivation_loop1 (vLnumbers_here : (List Int)) (vLplace : Int) (vLcount : Int) (vLtold_here : (List Dep)) (vLsize : Int) : ((List (List FV)) × (List Dep)) := (rangeI 0 vLsize).foldl (Lderivation_st1 vLnumbers_here vLplace vLcount vLtold_here vLsize) ((Lderivation_Lrows1 vLnumbers_here vLplace vLcount vLtold_here vLsize), (Lderivation_Lmade_here1 vLnumbers_here vLplace vLcount vLtold_here vLsize))
def m_Lderivation (vLnumbers_here : (List Int)) (vLplace : Int) (vLcount : Int) (vLtold_here : (List Dep)) (vLsize : Int) : (List (List FV)) := (Lderivation_loop1 vLnumbers_here vLplace vLcount vLtold_here vLsize).1
def Lmade_Lmade_here1 (vLcount : Int) (vLtold_here : (List Dep)) (vLrows : (List (List FV))) : (List Dep) := ([] : List Dep)
def Lmade_Lfound1 (vLcount : Int) (vLtold_here : (List Dep)) (vLrows : (List (List FV))) (vLmade_here2 : (List Dep)) (x1 : (List FV)) : (Option Dep) := (m_Lrow vLcount vLtold_here vLmade_here2 x1)
def Lmade_Lmade_here2 (vLcount : Int) (vLtold_here : (List Dep)) (vLrows : (List (List FV))) (vLmade_here2 : (List Dep)) (x1 : (List FV)) : (List Dep) := vLmade_here2 ++ [((Lmade_Lfound1 vLcount vLtold_here vLrows vLmade_here2 x1).getD default)]
def Lmade_st1 (vLcount : Int) (vLtold_here : (List Dep)) (vLrows : (List (List FV))) (s : (List Dep)) (x1 : (List FV)) : Lp ((List Dep)) (Option (List Dep)) := (if (Lmade_Lfound1 vLcount vLtold_here vLrows s x1).isNone = true then (Lp.ret none) else (Lp.go (Lmade_Lmade_here2 vLcount vLtold_here vLrows s x1)))
def m_Lmade (vLcount : Int) (vLtold_here : (List Dep)) (vLrows : (List (List FV))) : (Option (List Dep)) := (elimS (fun (s5 : (List Dep)) => (some s5)) (fun q => q) (runL (Lmade_st1 vLcount vLtold_here vLrows) (Lmade_Lmade_here1 vLcount vLtold_here vLrows) vLrows))
def m_Ltoggled (vLcolumns : (List Int)) (vLcolumn : Int) : (List Int) := (if (decide (vLcolumn ∈ vLcolumns)) = true then (m_Lless vLcolumns ([vLcolumn] : List Int)) else (m_Lunited vLcolumns ([vLcolumn] : List Int)))
def m_Lother (vLnumber : Int) (vLone : Dep) (vLcount : Int) : Dep := (if (decide (vLone.word = ("jd" : PySem.Str))) = true then (Dep.mvd ⟨(ix vLone.ps (0 : Int)), (ix vLone.ps (0 : Int))⟩) else (if (decide ((vLnumber % (3 : Int)) = (0 : Int))) = true then (Dep.ofW (ix ([("fd" : PySem.Str), ("mvd" : PySem.Str)] : List PySem.Str) (if (decide (vLone.word = ("fd" : PySem.Str))) = true then (1 : Int) else (0 : Int))) vLone.sd.l vLone.sd.r) else (if (decide ((vLnumber % (3 : Int)) = (1 : Int))) = true then (Dep.ofW vLone.word (m_Ltoggled vLone.sd.l ((vLnumber / (3 : Int)) % vLcount)) vLone.sd.r) else (Dep.ofW vLone.word vLone.sd.l (m_Ltoggled vLone.sd.r ((vLnumber / (3 : Int)) % vLcount))))))
def Lother_word_st1 (vLnumber : Int) (vLrow_here : (List FV)) (s : Unit) (x1 : (List PySem.Str)) : Lp (Unit) (List FV) := (if (decide ((ix vLrow_here (0 : Int)).gS ∈ x1)) = true then (Lp.ret (([(FV.s (ix x1 (vLnumber % (3 : Int))))] : List FV) ++ (vLrow_here.drop (1 : Int).toNat))) else (Lp.go ()))
def m_Lother_word (vLnumber : Int) (vLrow_here : (List FV)) : (List FV) := (elimS (fun (s4 : Unit) => vLrow_here) (fun q => q) (runL (Lother_word_st1 vLnumber vLrow_here) () ([([("told" : PySem.Str), ("also" : PySem.Str), ("other" : PySem.Str)] : List PySem.Str), ([("through" : PySem.Str), ("beyond" : PySem.Str), ("meets" : PySem.Str)] : List PySem.Str)] : List (List PySem.Str))))
def Lbent_set_Lbent1 (vLnumber : Int) (vLcolumns : (List Int)) (vLcount : Int) : (List (List Int)) := ([(vLcolumns ++ ([vLcount] : List Int)), (vLcolumns.reverse), (vLcolumns ++ (vLcolumns.take (1 : Int).toNat)), (([(-(1 : Int))] : List Int) ++ vLcolumns), (vLcolumns ++ ([((10 : Int) ^ (30 : Int).toNat)] : List Int)), ([] : List Int)] : List (List Int))
def m_Lbent_set (vLnumber : Int) (vLcolumns : (List Int)) (vLcount : Int) : (List Int) := (if (decide ((vLnumber % (9 : Int)) < (6 : Int))) = true then (ix (Lbent_set_Lbent1 vLnumber vLcolumns vLcount) (vLnumber % (9 : Int))) else (m_Ltoggled vLcolumns ((vLnumber / (9 : Int)) % vLcount)))
def Lbent_row_Lplace1 (vLnumber : Int) (vLrow_here : (List FV)) (vLcount : Int) (vLsize : Int) : Int := ((1 : Int) + (vLnumber % ((vLrow_here.length : Int) - (1 : Int))))
def Lbent_row_Lpart1 (vLnumber : Int) (vLrow_here : (List FV)) (vLcount : Int) (vLsize : Int) : FV := (ix vLrow_here (Lbent_row_Lplace1 vLnumber vLrow_here vLcount vLsize))
def Lbent_row_Lnumber1 (vLnumber : Int) (vLrow_here : (List FV)) (vLcount : Int) (vLsize : Int) : Int := (vLnumber / (6 : Int))
def Lbent_row_Lbent1 (vLnumber : Int) (vLrow_here : (List FV)) (vLcount : Int) (vLsize : Int) : FV := (FV.t (m_Lbent_set (Lbent_row_Lnumber1 vLnumber vLrow_here vLcount vLsize) (Lbent_row_Lpart1 vLnumber vLrow_here vLcount vLsize).gT vLcount))
def Lbent_row_Lbent2 (vLnumber : Int) (vLrow_here : (List FV)) (vLcount : Int) (vLsize : Int) : FV := (FV.i (ix ([((Lbent_row_Lpart1 vLnumber vLrow_here vLcount vLsize).gI + (1 : Int)), ((Lbent_row_Lpart1 vLnumber vLrow_here vLcount vLsize).gI - (1 : Int)), ((Lbent_row_Lpart1 vLnumber vLrow_here vLcount vLsize).gI - vLsize), vLsize, ((10 : Int) ^ (30 : Int).toNat), (-(1 : Int)), (((Lbent_row_Lnumber1 vLnumber vLrow_here vLcount vLsize) / (7 : Int)) % (vLsize + (1 : Int)))] : List Int) ((Lbent_row_Lnumber1 vLnumber vLrow_here vLcount vLsize) % (7 : Int))))
def Lbent_row_j_Lbent1 (vLnumber : Int) (vLrow_here : (List FV)) (vLcount : Int) (vLsize : Int) : (FV) := (if (FV.isTup (Lbent_row_Lpart1 vLnumber vLrow_here vLcount vLsize)) = true then ((Lbent_row_Lbent1 vLnumber vLrow_here vLcount vLsize) : FV) else (Lbent_row_Lbent2 vLnumber vLrow_here vLcount vLsize))
def m_Lbent_row (vLnumber : Int) (vLrow_here : (List FV)) (vLcount : Int) (vLsize : Int) : (List FV) := (((vLrow_here.take (Lbent_row_Lplace1 vLnumber vLrow_here vLcount vLsize).toNat) ++ ([(Lbent_row_j_Lbent1 vLnumber vLrow_here vLcount vLsize)] : List FV)) ++ (vLrow_here.drop ((Lbent_row_Lplace1 vLnumber vLrow_here vLcount vLsize) + (1 : Int)).toNat))
def Lchanged_Lplace1 (vLnumber : Int) (vLmore : Int) (vLrows : (List (List FV))) (vLcount : Int) (vLtold_here : (List Dep)) : Int := (vLnumber % (vLrows.length : Int))
def Lchanged_Lrow_here1 (vLnumber : Int) (vLmore : Int) (vLrows : (List (List FV))) (vLcount : Int) (vLtold_here : (List Dep)) : (List FV) := (ix vLrows (Lchanged_Lplace1 vLnumber vLmore vLrows vLcount vLtold_here))
def Lchanged_Lchoice1 (vLnumber : Int) (vLmore : Int) (vLrows : (List (List FV))) (vLcount : Int) (vLtold_here : (List Dep)) : Int := ((vLnumber / (12 : Int)) % (8 : Int))
def Lchanged_Lsize1 (vLnumber : Int) (vLmore : Int) (vLrows : (List (List FV))) (vLcount : Int) (vLtold_here : (List Dep)) : Int := (Lchanged_Lplace1 vLnumber vLmore vLrows vLcount vLtold_here)
def Lchanged_Lsize2 (vLnumber : Int) (vLmore : Int) (vLrows : (List (List FV))) (vLcount : Int) (vLtold_here : (List Dep)) : Int := (vLtold_here.length : Int)
def Lchanged_j_Lsize1 (vLnumber : Int) (vLmore : Int) (vLrows : (List (List FV))) (vLcount : Int) (vLtold_here : (List Dep)) : (Int) := (if (decide ((ix (Lchanged_Lrow_here1 vLnumber vLmore vLrows vLcount vLtold_here) (0 : Int)).gS = ("told" : PySem.Str))) = true then ((Lchanged_Lsize2 vLnumber vLmore vLrows vLcount vLtold_here) : Int) else (Lchanged_Lsize1 vLnumber vLmore vLrows vLcount vLtold_here))
def Lchanged_Lrow_here2 (vLnumber : Int) (vLmore : Int) (vLrows : (List (List FV))) (vLcount : Int) (vLtold_here : (List Dep)) : (List FV) := (m_Lother_word vLmore (Lchanged_Lrow_here1 vLnumber vLmore vLrows vLcount vLtold_here))
def Lchanged_Lrow_here3 (vLnumber : Int) (vLmore : Int) (vLrows : (List (List FV))) (vLcount : Int) (vLtold_here : (List Dep)) : (List FV) := (m_Lbent_row vLmore (Lchanged_Lrow_here1 vLnumber vLmore vLrows vLcount vLtold_here) vLcount (Lchanged_j_Lsize1 vLnumber vLmore vLrows vLcount vLtold_here))
def Lchanged_j_Lrow_here1 (vLnumber : Int) (vLmore : Int) (vLrows : (List (List FV))) (vLcount : Int) (vLtold_here : (List Dep)) : ((List FV)) := (if (decide ((Lchanged_Lchoice1 vLnumber vLmore vLrows vLcount vLtold_here) = (3 : Int))) = true then ((Lchanged_Lrow_here2 vLnumber vLmore vLrows vLcount vLtold_here) : (List FV)) else (Lchanged_Lrow_here3 vLnumber vLmore vLrows vLcount vLtold_here))
def m_Lchanged (vLnumber : Int) (vLmore : Int) (vLrows : (List (List FV))) (vLcount : Int) (vLtold_here : (List Dep)) : (List (List FV)) := (if (decide ((vLrows.length : Int) = (0 : Int))) = true then vLrows else (if (decide ((Lchanged_Lchoice1 vLnumber vLmore vLrows vLcount vLtold_here) = (0 : Int))) = true then ((vLrows.take (Lchanged_Lplace1 vLnumber vLmore vLrows vLcount vLtold_here).toNat) ++ (vLrows.drop ((Lchanged_Lplace1 vLnumber vLmore vLrows vLcount vLtold_here) + (1 : Int)).toNat)) else (if (decide ((Lchanged_Lchoice1 vLnumber vLmore vLrows vLcount vLtold_here) = (1 : Int))) = true then (((vLrows.take (Lchanged_Lplace1 vLnumber vLmore vLrows vLcount vLtold_here).toNat) ++ ([(Lchanged_Lrow_here1 vLnumber vLmore vLrows vLcount vLtold_here)] : List (List FV))) ++ (vLrows.drop (Lchanged_Lplace1 vLnumber vLmore vLrows vLcount vLtold_here).toNat)) else (if (decide ((Lchanged_Lchoice1 vLnumber vLmore vLrows vLcount vLtold_here) = (2 : Int))) = true then ((((vLrows.take (Lchanged_Lplace1 vLnumber vLmore vLrows vLcount vLtold_here).toNat) ++ ((vLrows.take ((Lchanged_Lplace1 vLnumber vLmore vLrows vLcount vLtold_here) + (2 : Int)).toNat).drop ((Lchanged_Lplace1 vLnumber vLmore vLrows vLcount vLtold_here) + (1 : Int)).toNat)) ++ ([(Lchanged_Lrow_here1 vLnumber vLmore vLrows vLcount vLtold_here)] : List (List FV))) ++ (vLrows.drop ((Lchanged_Lplace1 vLnumber vLmore vLrows vLcount vLtold_here) + (2 : Int)).toNat)) else (((vLrows.take (Lchanged_Lplace1 vLnumber vLmore vLrows vLcount vLtold_here).toNat) ++ ([(Lchanged_j_Lrow_here1 vLnumber vLmore vLrows vLcount vLtold_here)] : List (List FV))) ++ (vLrows.drop ((Lchanged_Lplace1 vLnumber vLmore vLrows vLcount vLtold_here) + (1 : Int)).toNat))))))
def m_as_set (vcolumns : (List Int)) : (List Int) := (sset vcolumns)
def m_Lobject (vLdependency_here : Dep) : Dep := (if (decide (vLdependency_here.word = ("fd" : PySem.Str))) = true then (Dep.fd (mkSd vLdependency_here.sd.l vLdependency_here.sd.r)) else (if (decide (vLdependency_here.word = ("mvd" : PySem.Str))) = true then (Dep.mvd (mkSd vLdependency_here.sd.l vLdependency_here.sd.r)) else (Dep.jd (mkJd vLdependency_here.ps))))
def m_by_told (vdependencies : (List Dep)) (vindex : Int) : (Option Dep) := (if (((decide ((0 : Int) ≤ vindex)) && (decide (vindex < (vdependencies.length : Int)))) && (!(Dep.isJd (ix vdependencies vindex)))) = true then (some (ix vdependencies vindex)) else none)
def m_is_within (va : (List Int)) (vb : (List Int)) : Bool := (va.all (fun (x1 : Int) => (decide (x1 ∈ vb))))
def m_whole (vcount : Int) : (List Int) := (rangeI 0 vcount)
def m_is_set (vcolumns : (List Int)) (vcount : Int) : Bool := ((decide (vcolumns = (m_as_set vcolumns))) && (m_is_within vcolumns (m_whole vcount)))
def m_by_within (vcount : Int) (vleft : (List Int)) (vright : (List Int)) : (Option Dep) := (if ((m_is_set vleft vcount) && ((m_is_set vright vcount) && (m_is_within vright vleft))) = true then (some (Dep.fd (mkSd vleft vright))) else none)
def m_earlier (vmade : (List Dep)) (vindex : Int) : (Option Dep) := (if ((decide ((0 : Int) ≤ vindex)) && (decide (vindex < (vmade.length : Int)))) = true then (some (ix vmade vindex)) else none)
def m_by_through (vfirst : (Option Dep)) (vsecond : (Option Dep)) : (Option Dep) := (if (((optB Dep.isFd) vfirst) && (((optB Dep.isFd) vsecond) && (decide ((vfirst.getD default).sd.r = (vsecond.getD default).sd.l)))) = true then (some (Dep.fd (mkSd (vfirst.getD default).sd.l (vsecond.getD default).sd.r))) else none)
def m_less (va : (List Int)) (vb : (List Int)) : (List Int) := (va.filter (fun (x1 : Int) => (!(decide (x1 ∈ vb)))))
def m_by_beyond (vfirst : (Option Dep)) (vsecond : (Option Dep)) : (Option Dep) := (if (((optB Dep.isMvd) vfirst) && (((optB Dep.isMvd) vsecond) && (decide ((vfirst.getD default).sd.r = (vsecond.getD default).sd.l)))) = true then (some (Dep.mvd (mkSd (vfirst.getD default).sd.l (m_less (vsecond.getD default).sd.r (vfirst.getD default).sd.r)))) else none)
def m_met (va : (List Int)) (vb : (List Int)) : (List Int) := (va.filter (fun (x1 : Int) => (decide (x1 ∈ vb))))
def m_by_meets (vfirst : (Option Dep)) (vsecond : (Option Dep)) : (Option Dep) := (if ((!((optB Dep.isMvd) vfirst)) || (!((optB Dep.isFd) vsecond))) = true then none else (if ((m_is_within (vsecond.getD default).sd.r (vfirst.getD default).sd.r) && (decide (((m_met (vsecond.getD default).sd.l (vfirst.getD default).sd.r).length : Int) = (0 : Int)))) = true then (some (Dep.fd (mkSd (vfirst.getD default).sd.l (vsecond.getD default).sd.r))) else none))
def m_of_two (vfirst : (Option Dep)) (vsecond : (Option Dep)) (vword : PySem.Str) : (Option Dep) := (if (decide (vword = ("through" : PySem.Str))) = true then (m_by_through vfirst vsecond) else (if (decide (vword = ("beyond" : PySem.Str))) = true then (m_by_beyond vfirst vsecond) else (m_by_meets vfirst vsecond)))
def m_united (va : (List Int)) (vb : (List Int)) : (List Int) := (m_as_set (va ++ vb))
def m_by_with (vcount : Int) (vfirst : (Option Dep)) (vcolumns : (List Int)) : (Option Dep) := (if (((optB Dep.isFd) vfirst) && (m_is_set vcolumns vcount)) = true then (some (Dep.fd (mkSd (m_united (vfirst.getD default).sd.l vcolumns) (m_united (vfirst.getD default).sd.r vcolumns)))) else none)
def m_by_also (vfirst : (Option Dep)) : (Option Dep) := (if ((optB Dep.isFd) vfirst) = true then (some (Dep.mvd (mkSd (vfirst.getD default).sd.l (vfirst.getD default).sd.r))) else none)
def m_by_other (vcount : Int) (vfirst : (Option Dep)) : (Option Dep) := (if ((optB Dep.isMvd) vfirst) = true then (some (Dep.mvd (mkSd (vfirst.getD default).sd.l (m_less (m_whole vcount) (m_united (vfirst.getD default).sd.l (vfirst.getD default).sd.r))))) else none)
def m_by_wide (vcount : Int) (vfirst : (Option Dep)) (vcolumns : (List Int)) (vsome : (List Int)) : (Option Dep) := (if ((!(m_is_set vcolumns vcount)) || (!(m_is_set vsome vcount))) = true then none else (if (((optB Dep.isMvd) vfirst) && (m_is_within vsome vcolumns)) = true then (some (Dep.mvd (mkSd (m_united (vfirst.getD default).sd.l vcolumns) (m_united (vfirst.getD default).sd.r vsome)))) else none))
def m_of_one (vcount : Int) (vfirst : (Option Dep)) (vrow : (List FV)) : (Option Dep) := (if (decide ((ix vrow (0 : Int)).gS = ("with" : PySem.Str))) = true then (m_by_with vcount vfirst (ix vrow (2 : Int)).gT) else (if (decide ((ix vrow (0 : Int)).gS = ("also" : PySem.Str))) = true then (m_by_also vfirst) else (if (decide ((ix vrow (0 : Int)).gS = ("other" : PySem.Str))) = true then (m_by_other vcount vfirst) else (m_by_wide vcount vfirst (ix vrow (2 : Int)).gT (ix vrow (3 : Int)).gT))))
def row_tells_first1 (vcount : Int) (vdependencies : (List Dep)) (vmade : (List Dep)) (vrow : (List FV)) : (Option Dep) := (m_earlier vmade (ix vrow (1 : Int)).gI)
def m_row_tells (vcount : Int) (vdependencies : (List Dep)) (vmade : (List Dep)) (vrow : (List FV)) : (Option Dep) := (if (decide ((ix vrow (0 : Int)).gS = ("told" : PySem.Str))) = true then (m_by_told vdependencies (ix vrow (1 : Int)).gI) else (if (decide ((ix vrow (0 : Int)).gS = ("within" : PySem.Str))) = true then (m_by_within vcount (ix vrow (1 : Int)).gT (ix vrow (2 : Int)).gT) else (if ((decide ((ix vrow (0 : Int)).gS = ("through" : PySem.Str))) || ((decide ((ix vrow (0 : Int)).gS = ("beyond" : PySem.Str))) || (decide ((ix vrow (0 : Int)).gS = ("meets" : PySem.Str))))) = true then (m_of_two (row_tells_first1 vcount vdependencies vmade vrow) (m_earlier vmade (ix vrow (2 : Int)).gI) (ix vrow (0 : Int)).gS) else (m_of_one vcount (row_tells_first1 vcount vdependencies vmade vrow) vrow))))
def m_Sides_key (vself : Sd) : ((List Int) × (List Int)) := (vself.l, vself.r)
def m_Fd_eq (vself : Sd) (vother : Dep) : Bool := ((Dep.isFd vother) && (decide ((m_Sides_key vself) = (m_Sides_key vother.sd))))
def m_Mvd_eq (vself : Sd) (vother : Dep) : Bool := ((Dep.isMvd vother) && (decide ((m_Sides_key vself) = (m_Sides_key vother.sd))))
def m_Jd_eq (vself : (List (List Int))) (vother : Dep) : Bool := ((Dep.isJd vother) && (decide (vself = vother.ps)))
def derives_made1 (vcount : Int) (vdependencies : (List Dep)) (vtarget : Dep) (vrows : (List (List FV))) : (List Dep) := ([] : List Dep)
def derives_found1 (vcount : Int) (vdependencies : (List Dep)) (vtarget : Dep) (vrows : (List (List FV))) (vmade2 : (List Dep)) (x1 : (List FV)) : (Option Dep) := (m_row_tells vcount vdependencies vmade2 x1)
def derives_made2 (vcount : Int) (vdependencies : (List Dep)) (vtarget : Dep) (vrows : (List (List FV))) (vmade2 : (List Dep)) (x1 : (List FV)) : (List Dep) := vmade2 ++ [((derives_found1 vcount vdependencies vtarget vrows vmade2 x1).getD default)]
def derives_st1 (vcount : Int) (vdependencies : (List Dep)) (vtarget : Dep) (vrows : (List (List FV))) (s : (List Dep)) (x1 : (List FV)) : Lp ((List Dep)) Bool := (if (derives_found1 vcount vdependencies vtarget vrows s x1).isNone = true then (Lp.ret false) else (Lp.go (derives_made2 vcount vdependencies vtarget vrows s x1)))
def m_derives (vcount : Int) (vdependencies : (List Dep)) (vtarget : Dep) (vrows : (List (List FV))) : Bool := (elimS (fun (s5 : (List Dep)) => ((decide ((0 : Int) < (s5.length : Int))) && ((depB m_Fd_eq m_Mvd_eq m_Jd_eq) (ix s5 (-(1 : Int))) vtarget))) (fun q => q) (runL (derives_st1 vcount vdependencies vtarget vrows) (derives_made1 vcount vdependencies vtarget vrows) vrows))
def m_takes (vcount : Int) (vdependencies : (List Dep)) (vtarget : Dep) (vverdict : Bool) (vpaper : (PySem.Str × (List (List FV)))) : Bool := (if (vverdict && (decide (vpaper.1 = ("derived" : PySem.Str)))) = true then (m_derives vcount vdependencies vtarget vpaper.2) else (if (vverdict && (decide (vpaper.1 = ("chased" : PySem.Str)))) = true then false else (if ((!vverdict) && (decide (vpaper.1 = ("table" : PySem.Str)))) = true then false else false)))
def Lderives_Lmade_here1 (vLcount : Int) (vLtold_here : (List Dep)) (vLtarget : Dep) (vLrows : (List (List FV))) : (Option (List Dep)) := (m_Lmade vLcount vLtold_here vLrows)
def m_Lderives (vLcount : Int) (vLtold_here : (List Dep)) (vLtarget : Dep) (vLrows : (List (List FV))) : Bool := ((Lderives_Lmade_here1 vLcount vLtold_here vLtarget vLrows).isSome && ((decide ((0 : Int) < (((Lderives_Lmade_here1 vLcount vLtold_here vLtarget vLrows).getD []).length : Int))) && (decide ((ix ((Lderives_Lmade_here1 vLcount vLtold_here vLtarget vLrows).getD []) ((((Lderives_Lmade_here1 vLcount vLtold_here vLtarget vLrows).getD []).length : Int) - (1 : Int))) = vLtarget))))
def law_Lnumbers_here1 (vLscript : (List Int)) : (List Int) := (m_Lnumbers vLscript (23 : Int))
def law_Lcount1 (vLscript : (List Int)) : Int := (ix ([(1 : Int), (2 : Int), (3 : Int), (4 : Int), (5 : Int), (6 : Int), (3 : Int), (4 : Int), (5 : Int), (10 : Int)] : List Int) ((ix (law_Lnumbers_here1 vLscript) (0 : Int)) % (10 : Int)))
def law_Ltold_here1 (vLscript : (List Int)) : (List Dep) := (m_Ltold (law_Lnumbers_here1 vLscript) (1 : Int) (law_Lcount1 vLscript) (((ix (law_Lnumbers_here1 vLscript) (0 : Int)) / (10 : Int)) % (4 : Int)))
def law_Lrows1 (vLscript : (List Int)) (td : (List Dep)) : (List (List FV)) := (m_Lderivation (law_Lnumbers_here1 vLscript) (8 : Int) (law_Lcount1 vLscript) td (((ix (law_Lnumbers_here1 vLscript) (7 : Int)) % (5 : Int)) + (1 : Int)))
def law_Ltarget1 (vLscript : (List Int)) (td : (List Dep)) : Dep := (ix ((m_Lmade (law_Lcount1 vLscript) td (law_Lrows1 vLscript td)).getD []) (((law_Lrows1 vLscript td).length : Int) - (1 : Int)))
def law_Ltarget2 (vLscript : (List Int)) (td : (List Dep)) : Dep := (m_Lother ((ix (law_Lnumbers_here1 vLscript) (22 : Int)) / (6 : Int)) (law_Ltarget1 vLscript td) (law_Lcount1 vLscript))
def law_j_Ltarget1 (vLscript : (List Int)) (td : (List Dep)) : (Dep) := (if (decide (((ix (law_Lnumbers_here1 vLscript) (22 : Int)) % (6 : Int)) = (0 : Int))) = true then ((law_Ltarget2 vLscript td) : Dep) else (law_Ltarget1 vLscript td))
def law_Lrows2 (vLscript : (List Int)) (td : (List Dep)) : (List (List FV)) := (m_Lchanged (ix (law_Lnumbers_here1 vLscript) (18 : Int)) (ix (law_Lnumbers_here1 vLscript) (19 : Int)) (law_Lrows1 vLscript td) (law_Lcount1 vLscript) td)
def law_Lrows3 (vLscript : (List Int)) (td : (List Dep)) : (List (List FV)) := (m_Lchanged (ix (law_Lnumbers_here1 vLscript) (20 : Int)) (ix (law_Lnumbers_here1 vLscript) (21 : Int)) (law_Lrows2 vLscript td) (law_Lcount1 vLscript) td)
def law_j_Lrows1 (vLscript : (List Int)) (td : (List Dep)) : ((List (List FV))) := (if (decide ((((ix (law_Lnumbers_here1 vLscript) (22 : Int)) / (1000 : Int)) % (4 : Int)) = (0 : Int))) = true then ((law_Lrows3 vLscript td) : (List (List FV))) else (law_Lrows2 vLscript td))
def law_Lobjects1 (vLscript : (List Int)) (td : (List Dep)) : (List Dep) := (td.map (fun (x5 : Dep) => (m_Lobject x5)))
def law_Lactual1 (vLscript : (List Int)) (td : (List Dep)) : Bool := (m_takes (law_Lcount1 vLscript) (law_Lobjects1 vLscript td) (m_Lobject (law_j_Ltarget1 vLscript td)) true (("derived" : PySem.Str), (law_j_Lrows1 vLscript td)))
def m_law (vLscript : (List Int)) : Bool := (true && (decide ((law_Lactual1 vLscript (law_Ltold_here1 vLscript)) = (m_Lderives (law_Lcount1 vLscript) (law_Ltold_here1 vLscript) (law_j_Ltarget1 vLscript (law_Ltold_here1 vLscript)) (law_j_Lrows1 vLscript (law_Ltold_here1 vLscript))))))
/-! the numbers, sets and dependencies of the laws -/
theorem emod_in {a b : Int} (h : 0 < b) : 0 ≤ a % b ∧ a % b < b := ⟨Int.emod_nonneg a (by omega), Int.emod_lt_of_pos a h⟩
theorem ix2_ok {x : Int} (h : 0 ≤ x ∧ x < 10) {n : Int} : CDiv n (ix ([(1 : Int), (2 : Int), (4 : Int), (8 : Int), (16 : Int), (32 : Int), (64 : Int), (128 : Int), (256 : Int), (512 : Int)] : List Int) x) := by
  obtain ⟨h0, h1⟩ := h
  have : x = 0 ∨ x = 1 ∨ x = 2 ∨ x = 3 ∨ x = 4 ∨ x = 5 ∨ x = 6 ∨ x = 7 ∨ x = 8 ∨ x = 9 := by omega
  rcases this with rfl | rfl | rfl | rfl | rfl | rfl | rfl | rfl | rfl | rfl <;> exact ⟨by decide, by decide⟩
theorem Lnumbers_st1_len (v : List Int) (c : Int) (s : Int × List Int) (x : Int) : (Lnumbers_st1 v c s x).2.length = s.2.length + 1 := by
  unfold Lnumbers_st1 Lnumbers_j_Lrest_Lnumbers_here1
  split <;> simp [Lnumbers_Lnumbers_here2, Lnumbers_Lnumbers_here3]
theorem m_Lnumbers_len (v : List Int) (c : Int) : (m_Lnumbers v c).length = c.toNat := by
  have q := foldl_pre (fun p (s : Int × List Int) => s.2.length = p.length) (Lnumbers_st1 v c) (rangeI 0 c) [] (Lnumbers_j_Lrest1 v c, Lnumbers_Lnumbers_here1 v c) rfl (fun p x q s e h => by
    rw [Lnumbers_st1_len, h]; simp)
  show (List.foldl (Lnumbers_st1 v c) (Lnumbers_j_Lrest1 v c, Lnumbers_Lnumbers_here1 v c) (rangeI 0 c)).2.length = _
  rw [q]
  simp [rangeI_len]
theorem m_Lsparse_cols {k c : Int} {n : Nat} (h : c ≤ n) : Cols n (m_Lsparse k c) := (Cols.rng h).filter _
theorem m_Lmet_cols {a b : List Int} {n : Nat} (h : Cols n a) : Cols n (m_Lmet a b) := h.filter _
theorem m_Lless_cols {a b : List Int} {n : Nat} (h : Cols n a) : Cols n (m_Lless a b) := h.filter _
theorem m_united_len (a b : List Int) : (m_united a b).length ≤ a.length + b.length := uni_len_le a b
theorem m_Lunited_len (a b : List Int) : (m_Lunited a b).length ≤ a.length + b.length := uni_len_le a b
theorem less_len (a b : List Int) : (m_less a b).length ≤ a.length := List.length_filter_le _ _
theorem Lless_len (a b : List Int) : (m_Lless a b).length ≤ a.length := List.length_filter_le _ _
theorem whole_len {c : Int} (h : c ≤ 10) : (m_whole c).length ≤ 10 := by
  show (rangeI 0 c).length ≤ 10
  rw [rangeI_len]; omega
theorem Lset_in {c : Int} {a : List Int} (hc : c ≤ 10) (h : m_Lis_set a c = true) : Cols 10 a ∧ Cols c.toNat a := by
  have h : a = (rangeI 0 c).filter fun x => decide (x ∈ a) := of_decide_eq_true h
  rw [h]
  exact ⟨(Cols.rng (by omega)).filter _, (Cols.rng (by omega)).filter _⟩
theorem set_same {c : Int} {a : List Int} : m_is_set a c = m_Lis_set a c := by
  rw [Bool.eq_iff_iff]
  constructor
  · intro h
    obtain ⟨h1, h2⟩ := (Bool.and_eq_true _ _).mp h
    have h1 : a = sset a := of_decide_eq_true h1
    have h2 : sub a (rangeI 0 c) := all_sub.mp h2
    refine decide_eq_true (asc_unique (by rw [h1]; exact sset_asc a) ((rng_asc _ _).filter _) fun x => ?_)
    rw [List.mem_filter, decide_eq_true_eq]
    exact ⟨fun hx => ⟨h2 x hx, hx⟩, fun hx => hx.2⟩
  · intro h
    have h : a = (rangeI 0 c).filter fun x => decide (x ∈ a) := of_decide_eq_true h
    have ha : a.Pairwise (· < ·) := by rw [h]; exact (rng_asc _ _).filter _
    refine (Bool.and_eq_true _ _).mpr ⟨decide_eq_true (asc_unique ha (sset_asc a) fun x => (mem_sset x a).symm), all_sub.mpr fun x hx => ?_⟩
    rw [h] at hx
    exact (List.mem_filter.mp hx).1
/-! ## told dependencies -/
theorem dep_ok {ns : List Int} {pl c : Int} (h0 : 0 ≤ c) (h1 : c ≤ 10) : DepC c.toNat (m_Ldependency ns pl c) := by
  have hl : Cols c.toNat (Ldependency_Lleft1 ns pl c) := m_Lsparse_cols (by omega)
  have hr : Cols c.toNat (Ldependency_Lright1 ns pl c) := m_Lsparse_cols (by omega)
  have he : Cols c.toNat (Ldependency_Lrest1 ns pl c) := m_Lless_cols (Cols.rng (by omega))
  unfold m_Ldependency
  split
  · exact ⟨hl, hr⟩
  · split
    · exact ⟨hl, hr⟩
    · unfold Ldependency_j_Lparts1 Ldependency_Lparts2 Ldependency_Lparts1
      split
      · exact ⟨by simp, by simp, fun q hq => by
          simp only [List.mem_cons, List.not_mem_nil, or_false] at hq
          rcases hq with rfl | rfl | rfl
          · exact hr
          · exact hl
          · exact he⟩
      · exact ⟨by simp, by simp, fun q hq => by
          simp only [List.mem_cons, List.not_mem_nil, or_false] at hq
          rcases hq with rfl | rfl
          · exact he.uni hl
          · exact hr⟩
theorem ofW_ok {n : Nat} {w : PySem.Str} {l r : List Int} (hl : Cols n l) (hr : Cols n r) : DepC n (Dep.ofW w l r) := by
  unfold Dep.ofW
  split <;> exact ⟨hl, hr⟩
theorem Cols.take {n : Nat} {a : List Int} (h : Cols n a) (k : Nat) : Cols n (a.take k) := ⟨h.asc.sublist (List.take_sublist _ _), fun x hx => h.rg x (List.mem_of_mem_take hx)⟩
theorem told_step {ns : List Int} {pl c m : Int} (h0 : 0 ≤ c) (h1 : c ≤ 10) {s : List Dep} (hs : ∀ d ∈ s, DepC c.toNat d) {x : Int} (hx : x ≤ s.length) : ∀ d ∈ Ltold_st1 ns pl c m s x, DepC c.toNat d := by
  intro d hd
  unfold Ltold_st1 Ltold_Lfound2 at hd
  rcases List.mem_append.mp hd with hd | hd
  · exact hs d hd
  · rw [List.mem_singleton.mp hd]
    have h1' : DepC c.toNat (Ltold_Lone1 ns pl c m s x) := dep_ok h0 h1
    unfold Ltold_j_Lone2
    split
    · rename_i hc
      obtain ⟨c1, hc⟩ := (Bool.and_eq_true _ _).mp hc
      obtain ⟨c2, hc⟩ := (Bool.and_eq_true _ _).mp hc
      obtain ⟨c3, _⟩ := (Bool.and_eq_true _ _).mp hc
      have c1 : 0 < x := of_decide_eq_true c1
      have c2 : ¬ (Ltold_Lone1 ns pl c m s x).word = ("jd" : PySem.Str) := by simpa using c2
      have c3 : ¬ (ix s (x - 1)).word = ("jd" : PySem.Str) := by simpa using c3
      have hb : DepC c.toNat (Ltold_Lbefore1 ns pl c m s x) := hs _ (ix_mem ⟨by omega, by omega⟩)
      have a := h1'.sd (nj_wj c2)
      have b := hb.sd (nj_wj c3)
      unfold Ltold_j_Lone1 Ltold_Lone2 Ltold_Lone3
      split
      · exact ⟨m_Lless_cols a.1, b.2.take _⟩
      · exact ofW_ok b.2 a.2
    · exact h1'
theorem told_pre {ns : List Int} {pl c m : Int} (h0 : 0 ≤ c) (h1 : c ≤ 10) (hm : 0 ≤ m) : (m_Ltold ns pl c m).length = m.toNat ∧ ∀ d ∈ m_Ltold ns pl c m, DepC c.toNat d := by
  have := foldl_pre (fun (p : List Int) (s : List Dep) => s.length = p.length ∧ ∀ d ∈ s, DepC c.toNat d) (Ltold_st1 ns pl c m) (rangeI 0 m) [] (Ltold_Lfound1 ns pl c m) ⟨rfl, fun d hd => by cases hd⟩ fun p x q s e h => by
    have hx : x = p.length := by
      have : (rangeI 0 m)[p.length]? = some x := by
        rw [show rangeI 0 m = p ++ x :: q from e]; simp
      unfold rangeI at this
      rw [List.getElem?_map] at this
      obtain ⟨y, hy, hz⟩ := Option.map_eq_some_iff.mp this
      rw [List.getElem?_range] at hy
      · have : y = p.length := by simpa using hy.symm
        omega
      · have := (List.getElem?_eq_some_iff.mp hy).1
        simpa using this
    refine ⟨?_, told_step h0 h1 h.2 (by omega)⟩
    unfold Ltold_st1 Ltold_Lfound2
    rw [List.length_append, h.1, List.length_append]; rfl
  rw [List.nil_append, rangeI_len] at this
  exact ⟨by have := this.1; show (Ltold_loop1 ns pl c m).length = _; unfold Ltold_loop1; omega, this.2⟩
theorem told_at {ns : List Int} {pl c m : Int} (h0 : 0 ≤ c) (h1 : c ≤ 10) {i : Nat} {s : List Dep} (e : ((rangeI 0 m).take i).foldl (Ltold_st1 ns pl c m) (Ltold_Lfound1 ns pl c m) = s) {x : Int} (hx : (rangeI 0 m)[i]? = some x) : x = (i : Int) ∧ s.length = i ∧ ∀ d ∈ s, DepC c.toNat d := by
  have hlt : i < (rangeI 0 m).length := (List.getElem?_eq_some_iff.mp hx).1
  have at_ : ∀ (j : Nat) (y : Int), (rangeI 0 m)[j]? = some y → y = j := fun j y h => by
    unfold rangeI at h
    rw [List.getElem?_map] at h
    obtain ⟨z, hz, hy⟩ := Option.map_eq_some_iff.mp h
    rw [List.getElem?_range (by have := (List.getElem?_eq_some_iff.mp hz).1; simpa using this)] at hz
    have : z = j := by simpa using hz.symm
    omega
  have := foldl_pre (fun (p : List Int) (s : List Dep) => s.length = p.length ∧ ∀ d ∈ s, DepC c.toNat d) (Ltold_st1 ns pl c m) ((rangeI 0 m).take i) [] (Ltold_Lfound1 ns pl c m) ⟨rfl, fun d hd => by cases hd⟩ fun p x q s e h => by
    have hx : x = p.length := by
      have h1 : ((rangeI 0 m).take i)[p.length]? = some x := by
        rw [show (rangeI 0 m).take i = p ++ x :: q from e]; simp
      have h2 : (rangeI 0 m)[p.length]? = some x := by
        rw [List.getElem?_take] at h1
        split at h1
        · exact h1
        · cases h1
      exact at_ _ _ h2
    refine ⟨?_, told_step h0 h1 h.2 (by omega)⟩
    unfold Ltold_st1 Ltold_Lfound2
    rw [List.length_append, h.1, List.length_append]; rfl
  rw [List.nil_append, e] at this
  exact ⟨at_ _ _ hx, by rw [this.1, List.length_take]; omega, this.2⟩
/-! ## rows that are tried -/
def Nine (w : PySem.Str) : Prop := w = ("told" : PySem.Str) ∨ w = ("within" : PySem.Str) ∨ w = ("with" : PySem.Str) ∨ w = ("wide" : PySem.Str) ∨ w = ("also" : PySem.Str) ∨ w = ("other" : PySem.Str) ∨ w = ("through" : PySem.Str) ∨ w = ("beyond" : PySem.Str) ∨ w = ("meets" : PySem.Str)
def nine : List PySem.Str := [("told" : PySem.Str), ("within" : PySem.Str), ("with" : PySem.Str), ("through" : PySem.Str), ("also" : PySem.Str), ("other" : PySem.Str), ("wide" : PySem.Str), ("beyond" : PySem.Str), ("meets" : PySem.Str)]
theorem nine_at (n : Int) : Nine (ix nine (n % 9)) := by
  have h := emod_in (a := n) (b := 9) (by decide)
  have := ix_mem (xs := nine) (i := n % 9) ⟨by show -9 ≤ n % 9; omega, by show n % 9 < 9; omega⟩
  generalize ix nine (n % 9) = w at this
  simp only [nine, List.mem_cons, List.not_mem_nil, or_false] at this
  unfold Nine
  rcases this with h | h | h | h | h | h | h | h | h <;> simp [h]
section
variable {ns : List Int} {pl c : Int} {made told : List Dep} {w : PySem.Str}
theorem tried_cols (hc : c ≤ 10) : Cols 10 (Ltried_Lcolumns1 ns pl c made told w) := m_Lsparse_cols (by omega)
theorem tried_some (hc : c ≤ 10) : Cols 10 (Ltried_Lsome1 ns pl c made told w) := m_Lmet_cols (tried_cols hc)
theorem try_at2 {f : List (List FV)} {x : Int} {j : Nat} {s : List (List FV)} {xs : List Int} (e : (xs.take j).foldl (Ltried_st2 ns pl c made told w f x) f = s) : s.length ≤ f.length + j := by
  have h : ∀ (ys : List Int) (s : List (List FV)), (ys.foldl (Ltried_st2 ns pl c made told w f x) s).length = s.length + ys.length := fun ys => by
    induction ys with
    | nil => intro s; rfl
    | cons y ys ih =>
      intro s
      rw [List.foldl_cons, ih]
      unfold Ltried_st2 Ltried_Lfound2
      rw [List.length_append, List.length_cons, List.length_cons, List.length_nil]
      omega
  rw [← e, h, List.length_take]
  omega
theorem try_step (f : List (List FV)) (x : Int) : (Ltried_st1 ns pl c made told w f x).length = f.length + made.length := by
  have h : ∀ (ys : List Int) (s : List (List FV)), (ys.foldl (Ltried_st2 ns pl c made told w f x) s).length = s.length + ys.length := fun ys => by
    induction ys with
    | nil => intro s; rfl
    | cons y ys ih =>
      intro s
      rw [List.foldl_cons, ih]
      unfold Ltried_st2 Ltried_Lfound2
      rw [List.length_append, List.length_cons, List.length_cons, List.length_nil]
      omega
  unfold Ltried_st1 Ltried_loop1
  rw [h, rangeI_len]
  omega
theorem try_at1 (hm : made.length ≤ 20) {i : Nat} {s : List (List FV)} {xs : List Int} (e : (xs.take i).foldl (Ltried_st1 ns pl c made told w) (Ltried_Lfound1 ns pl c made told w) = s) : s.length ≤ i * 20 := by
  have h : ∀ (ys : List Int) (s : List (List FV)), (ys.foldl (Ltried_st1 ns pl c made told w) s).length = s.length + ys.length * made.length := fun ys => by
    induction ys with
    | nil => intro s; simp
    | cons y ys ih =>
      intro s
      rw [List.foldl_cons, ih, try_step, List.length_cons, Nat.succ_mul]
      omega
  rw [← e, h, List.length_take]
  have h1 : (min i xs.length) * made.length ≤ i * 20 := Nat.mul_le_mul (by omega) hm
  have : (Ltried_Lfound1 ns pl c made told w).length = 0 := rfl
  omega
theorem try_loop : (∀ x ∈ Ltried_loop2 ns pl c made told w, ∃ i j, x = [FV.s w, FV.i i, FV.i j]) ∧ (Ltried_loop2 ns pl c made told w).length = made.length * made.length := by
  constructor
  · refine foldl_inv (fun s : List (List FV) => ∀ x ∈ s, ∃ i j, x = [FV.s w, FV.i i, FV.i j]) _ _ _ (fun x hx => by cases hx) fun y _ s hs => ?_
    refine foldl_inv (fun s : List (List FV) => ∀ x ∈ s, ∃ i j, x = [FV.s w, FV.i i, FV.i j]) _ _ _ hs fun z _ s hs x hx => ?_
    unfold Ltried_st2 Ltried_Lfound2 at hx
    rcases List.mem_append.mp hx with hx | hx
    · exact hs x hx
    · exact ⟨_, _, List.mem_singleton.mp hx⟩
  · have h : ∀ (ys : List Int) (s : List (List FV)), (ys.foldl (Ltried_st1 ns pl c made told w) s).length = s.length + ys.length * made.length := fun ys => by
      induction ys with
      | nil => intro s; simp
      | cons y ys ih =>
        intro s
        rw [List.foldl_cons, ih, try_step, List.length_cons, Nat.succ_mul]
        omega
    unfold Ltried_loop2
    rw [h, rangeI_len]
    have : (Ltried_Lfound1 ns pl c made told w).length = 0 := rfl
    rw [this, Nat.zero_add]
    congr 1
theorem tried_ok (hc : c ≤ 10) (hw : Nine w) : ∀ x ∈ m_Ltried ns pl c made told w, RowOk 10 x := by
  have h1 := (tried_cols (ns := ns) (pl := pl) (made := made) (told := told) (w := w) hc).len
  have h2 := (tried_some (ns := ns) (pl := pl) (made := made) (told := told) (w := w) hc).len
  intro x hx
  unfold m_Ltried at hx
  split at hx
  · rename_i e
    obtain ⟨k, _, rfl⟩ := List.mem_map.mp hx
    exact .one _ _ (.inl (of_decide_eq_true e))
  split at hx
  · rename_i e
    rw [List.mem_singleton.mp hx, of_decide_eq_true e]
    rw [of_decide_eq_true e] at h1 h2
    exact .within _ _ h1 h2
  split at hx
  · rename_i e
    obtain ⟨k, _, rfl⟩ := List.mem_map.mp hx
    rw [of_decide_eq_true e] at h1 ⊢
    exact .with_ _ _ h1
  split at hx
  · rename_i e
    obtain ⟨k, _, rfl⟩ := List.mem_map.mp hx
    rw [of_decide_eq_true e] at h1 h2 ⊢
    exact .wide _ _ _ h1 h2
  split at hx
  · rename_i e
    obtain ⟨k, _, rfl⟩ := List.mem_map.mp hx
    rcases (Bool.or_eq_true _ _).mp e with e | e
    · exact .one _ _ (.inr (.inl (of_decide_eq_true e)))
    · exact .one _ _ (.inr (.inr (of_decide_eq_true e)))
  · rename_i n1 n2 n3 n4 n5
    obtain ⟨i, j, rfl⟩ := try_loop.1 x hx
    refine .two _ _ _ ?_
    simp only [decide_eq_true_eq, Bool.or_eq_true, not_or] at n1 n2 n3 n4 n5
    rcases hw with h | h | h | h | h | h | h | h | h
    · exact absurd h n1
    · exact absurd h n2
    · exact absurd h n3
    · exact absurd h n4
    · exact absurd h n5.1
    · exact absurd h n5.2
    · exact .inl h
    · exact .inr (.inl h)
    · exact .inr (.inr h)
theorem right_ok (hc : c ≤ 10) : (∀ x ∈ Lnext_j_Lright1 ns pl c told made, RowOk 10 x) ∧ 0 < (Lnext_j_Lright1 ns pl c told made).length := by
  unfold Lnext_j_Lright1
  split
  · unfold Lnext_Lright2
    exact ⟨tried_ok hc (.inr (.inl rfl)), by
      unfold m_Ltried
      rw [if_neg (by decide), if_pos (by decide)]
      simp⟩
  · rename_i e
    refine ⟨fun x hx => ?_, ?_⟩
    · unfold Lnext_Lright1 Lnext_Ltried_here1 at hx
      exact tried_ok hc (nine_at _) x (List.mem_filter.mp hx).1
    · rw [decide_eq_true_eq] at e
      omega
theorem at_mod {α : Type} [Inhabited α] {xs : List α} {n : Int} (h : 0 < xs.length) : InIx xs.length (n % (xs.length : Int)) := by
  have := emod_in (a := n) (b := (xs.length : Int)) (by omega)
  exact ⟨by omega, this.2⟩
theorem next_ok (hc : c ≤ 10) : RowOk 10 (m_Lnext ns pl c told made) := by
  obtain ⟨h1, h2⟩ := right_ok (ns := ns) (pl := pl) (told := told) (made := made) hc
  exact h1 _ (ix_mem (at_mod h2))
end
/-! ## changed rows -/
theorem RowOk.put {n m : Nat} {x : List FV} (h : RowOk n x) (hm : n ≤ m) {p : Nat} (h1 : 1 ≤ p) (h2 : p < x.length) {b : FV} (hb : ∀ l, x[p]? = some (.t l) → ∃ q, b = .t q ∧ q.length ≤ m) (hi : ∀ k, x[p]? = some (.i k) → ∃ q, b = .i q) : RowOk m (x.take p ++ [b] ++ x.drop (p + 1)) := by
  cases h with
  | one w k h =>
    have : p = 1 := by simp at h2; omega
    subst this
    obtain ⟨q, rfl⟩ := hi k rfl
    exact .one w q h
  | two w i j h =>
    have : p = 1 ∨ p = 2 := by simp at h2; omega
    rcases this with rfl | rfl
    · obtain ⟨q, rfl⟩ := hi i rfl
      exact .two w q j h
    · obtain ⟨q, rfl⟩ := hi j rfl
      exact .two w i q h
  | within l r hl hr =>
    have : p = 1 ∨ p = 2 := by simp at h2; omega
    rcases this with rfl | rfl
    · obtain ⟨q, rfl, hq⟩ := hb l rfl
      exact .within q r hq (by omega)
    · obtain ⟨q, rfl, hq⟩ := hb r rfl
      exact .within l q (by omega) hq
  | with_ k l hl =>
    have : p = 1 ∨ p = 2 := by simp at h2; omega
    rcases this with rfl | rfl
    · obtain ⟨q, rfl⟩ := hi k rfl
      exact .with_ q l (by omega)
    · obtain ⟨q, rfl, hq⟩ := hb l rfl
      exact .with_ k q hq
  | wide k l r hl hr =>
    have : p = 1 ∨ p = 2 ∨ p = 3 := by simp at h2; omega
    rcases this with rfl | rfl | rfl
    · obtain ⟨q, rfl⟩ := hi k rfl
      exact .wide q l r (by omega) (by omega)
    · obtain ⟨q, rfl, hq⟩ := hb l rfl
      exact .wide k q r hq (by omega)
    · obtain ⟨q, rfl, hq⟩ := hb r rfl
      exact .wide k l q (by omega) hq
theorem toggled_len (a : List Int) (c : Int) : (m_Ltoggled a c).length ≤ a.length + 1 := by
  unfold m_Ltoggled
  split
  · exact Nat.le_trans (Lless_len _ _) (by omega)
  · exact Nat.le_trans (m_Lunited_len _ _) (by simp)
theorem toggled_cols {n : Nat} {a : List Int} {c : Int} (h : Cols n a) (hc : 0 ≤ c ∧ c < n) : Cols n (m_Ltoggled a c) := by
  unfold m_Ltoggled
  split
  · exact m_Lless_cols h
  · exact Cols.sset fun x hx => (List.mem_append.mp hx).elim (h.rg x) fun e => by rw [List.mem_singleton.mp e]; exact hc
theorem bent_set_len {k c : Int} {a : List Int} {n : Nat} (h : a.length ≤ n) : (m_Lbent_set k a c).length ≤ n + 1 := by
  unfold m_Lbent_set
  split
  · rename_i e
    have e : k % 9 < 6 := of_decide_eq_true e
    have h9 := emod_in (a := k) (b := 9) (by decide)
    have := ix_mem (xs := Lbent_set_Lbent1 k a c) (i := k % 9) ⟨by show -6 ≤ k % 9; omega, by show k % 9 < 6; omega⟩
    generalize ix (Lbent_set_Lbent1 k a c) (k % 9) = b at this
    simp only [Lbent_set_Lbent1, List.mem_cons, List.not_mem_nil, or_false] at this
    rcases this with h | h | h | h | h | h <;> rw [h] <;> simp <;> omega
  · have := toggled_len a (k / 9 % c)
    omega
theorem bent_place {k : Int} {x : List FV} {c z : Int} {n : Nat} (h : RowOk n x) : 1 ≤ Lbent_row_Lplace1 k x c z ∧ Lbent_row_Lplace1 k x c z < x.length := by
  have hl := h.len
  have := emod_in (a := k) (b := (x.length : Int) - 1) (by omega)
  unfold Lbent_row_Lplace1
  omega
theorem bent_ok {k : Int} {x : List FV} {c z : Int} {n : Nat} (h : RowOk n x) : RowOk (n + 1) (m_Lbent_row k x c z) := by
  obtain ⟨h1, h2⟩ := bent_place (k := k) (c := c) (z := z) h
  unfold m_Lbent_row
  have hp : Lbent_row_Lpart1 k x c z = x[(Lbent_row_Lplace1 k x c z).toNat]'(by omega) := ix_nat (by omega) h2
  have hg : x[(Lbent_row_Lplace1 k x c z).toNat]? = some (Lbent_row_Lpart1 k x c z) := by rw [hp]; exact List.getElem?_eq_getElem _
  have e : (Lbent_row_Lplace1 k x c z + 1).toNat = (Lbent_row_Lplace1 k x c z).toNat + 1 := by omega
  rw [e]
  refine h.put (Nat.le_succ n) (by omega) (by omega) (fun l hl => ?_) fun q hq => ?_
  · rw [hg] at hl
    have hl : Lbent_row_Lpart1 k x c z = .t l := by simpa using hl
    unfold Lbent_row_j_Lbent1 Lbent_row_Lbent1
    rw [hl, if_pos (show (FV.t l).isTup = true from rfl)]
    have hll : l.length ≤ n := by
      have hmem : FV.t l ∈ x := by rw [← hl, hp]; exact List.getElem_mem _
      cases h with
      | one w k h => simp at hmem
      | two w i j h => simp at hmem
      | within a b ha hb => simp at hmem; rcases hmem with rfl | rfl <;> assumption
      | with_ k a ha => simp at hmem; subst hmem; assumption
      | wide k a b ha hb => simp at hmem; rcases hmem with rfl | rfl <;> assumption
    exact ⟨_, rfl, bent_set_len hll⟩
  · rw [hg] at hq
    have hq : Lbent_row_Lpart1 k x c z = .i q := by simpa using hq
    unfold Lbent_row_j_Lbent1 Lbent_row_Lbent2
    rw [hq, if_neg (show ¬ (FV.i q).isTup = true from by simp [FV.isTup])]
    exact ⟨_, rfl⟩
theorem part_isT {x : FV} (h : FV.isTup x = true) {n : Nat} {r : List FV} (hr : RowOk n r) (hm : x ∈ r) : x.isT = true := by
  cases x with
  | t l => rfl
  | p l => cases hr <;> simp at hm
  | s l => cases h
  | i l => cases h
theorem part_isI {x : FV} (h : ¬ FV.isTup x = true) {k : Int} {n : Nat} {r : List FV} {c z : Int} (hr : RowOk n r) (e : x = Lbent_row_Lpart1 k r c z) : x.isI = true := by
  obtain ⟨h1, h2⟩ := bent_place (k := k) (c := c) (z := z) hr
  subst e
  have hp : Lbent_row_Lpart1 k r c z = r[(Lbent_row_Lplace1 k r c z).toNat]'(by omega) := ix_nat (by omega) h2
  have hm : Lbent_row_Lpart1 k r c z ∈ r.drop 1 := by
    rw [hp, List.mem_iff_getElem?]
    exact ⟨(Lbent_row_Lplace1 k r c z).toNat - 1, by rw [List.getElem?_drop, show 1 + ((Lbent_row_Lplace1 k r c z).toNat - 1) = (Lbent_row_Lplace1 k r c z).toNat from by omega]; exact List.getElem?_eq_getElem _⟩
  generalize Lbent_row_Lpart1 k r c z = x at *
  cases x with
  | t l => exact absurd rfl h
  | p l => exact absurd rfl h
  | i l => rfl
  | s l => cases hr <;> simp at hm
/-! ## the program's rows and the law's -/
theorem within_same (a b : List Int) : m_is_within a b = m_Lis_within a b := by
  rw [Bool.eq_iff_iff]
  exact all_sub.trans less_sub.symm
theorem wfd (d : Dep) : decide (d.word = ("fd" : PySem.Str)) = d.isFd := by cases d <;> rfl
theorem wmvd (d : Dep) : decide (d.word = ("mvd" : PySem.Str)) = d.isMvd := by cases d <;> rfl
theorem wjd (d : Dep) : decide (d.word = ("jd" : PySem.Str)) = d.isJd := by cases d <;> rfl
section
variable {d d1 d2 : Dep} {w : PySem.Str} {c : Int}
theorem two_same (h1 : DepC 10 d1) (n1 : d1.isJd = false) (h2 : DepC 10 d2) (n2 : d2.isJd = false) : m_of_two (some d1) (some d2) w = m_Lof_two d1 d2 w := by
  obtain ⟨a1, a2⟩ := h1.sd n1
  obtain ⟨b1, b2⟩ := h2.sd n2
  have e3 : sset (m_less d2.sd.r d1.sd.r) = m_Lless d2.sd.r d1.sd.r := (m_Lless_cols b2).self
  unfold m_of_two m_Lof_two m_by_through m_by_beyond m_by_meets
  rw [wfd d1, wfd d2, wmvd d1, wmvd d2]
  simp only [optB, Option.getD_some, mkSd, a1.self, a2.self, b1.self, b2.self, e3, within_same, m_met, m_Lmet]
  by_cases e : w = ("through" : PySem.Str)
  · rw [if_pos (decide_eq_true e), if_pos (decide_eq_true e)]
  · rw [decide_eq_false e, if_neg Bool.false_ne_true, if_neg Bool.false_ne_true]
    cases d1.isMvd with
    | false => simp
    | true => cases d2.isFd <;> cases d2.isMvd <;> simp
theorem two_none (o : Option Dep) : m_of_two none o w = none := by
  unfold m_of_two m_by_through m_by_beyond m_by_meets
  simp [optB]
theorem two_none' (o : Option Dep) : m_of_two o none w = none := by
  unfold m_of_two m_by_through m_by_beyond m_by_meets
  cases o <;> simp [optB]
theorem one_none {row : List FV} : m_of_one c none row = none := by
  unfold m_of_one m_by_with m_by_also m_by_other m_by_wide
  simp [optB]
theorem one_same {row : List FV} (hc : c ≤ 10) (h1 : DepC 10 d) (n1 : d.isJd = false) (hr : RowOne row) : m_of_one c (some d) row = m_Lof_one c d row := by
  obtain ⟨a1, a2⟩ := h1.sd n1
  have e3 : sset (m_less (m_whole c) (m_united d.sd.l d.sd.r)) = m_Lless (rangeI 0 c) (m_Lunited d.sd.l d.sd.r) := (m_Lless_cols (Cols.rng (n := 10) (by omega))).self
  have idem : ∀ xs, sset (sset xs) = sset xs := fun xs => asc_unique (sset_asc _) (sset_asc _) fun x => mem_sset x _
  unfold m_of_one m_Lof_one m_by_with m_by_also m_by_other m_by_wide
  rw [wfd d, wmvd d, set_same, set_same]
  simp only [optB, Option.getD_some, mkSd, a1.self, a2.self, e3, within_same]
  simp only [show ∀ a b, sset (m_united a b) = m_Lunited a b from fun a b => idem _]
  have w1 : ¬ ("with" : PySem.Str) = "also" := by decide
  have w2 : ¬ ("with" : PySem.Str) = "other" := by decide
  have w3 : ¬ ("also" : PySem.Str) = "with" := by decide
  have w4 : ¬ ("other" : PySem.Str) = "with" := by decide
  have w5 : ¬ ("other" : PySem.Str) = "also" := by decide
  have w6 : ¬ ("wide" : PySem.Str) = "with" := by decide
  have w7 : ¬ ("wide" : PySem.Str) = "also" := by decide
  have w8 : ¬ ("wide" : PySem.Str) = "other" := by decide
  rcases hr with h | h | h | h <;> rw [h]
  · cases m_Lis_set (ix row 2).gT c <;> cases d.isFd <;> simp [w1, w2]
  · simp [w3]
  · simp [w4, w5]
  · cases m_Lis_set (ix row 2).gT c <;> cases m_Lis_set (ix row 3).gT c <;> cases d.isMvd <;> simp [w6, w7, w8]
end
def DepN (d : Dep) : Prop := DepC 10 d ∧ d.isJd = false
theorem earlier_is {made : List Dep} {k : Int} : m_earlier made k = if 0 ≤ k ∧ k < (made.length : Int) then some (ix made k) else none := by
  unfold m_earlier
  by_cases h : 0 ≤ k ∧ k < (made.length : Int)
  · rw [if_pos h, if_pos (by simpa using h)]
  · rw [if_neg h, if_neg (by simpa using h)]
theorem earlier_ok {made : List Dep} (h : ∀ d ∈ made, DepC 10 d) (k : Int) : DepCO 10 (m_earlier made k) := by
  intro d hd
  rw [earlier_is] at hd
  split at hd
  · rename_i hk
    have hd : ix made k = d := by simpa using hd
    rw [← hd]
    exact h _ (ix_mem ⟨by omega, hk.2⟩)
  · cases hd
section
variable {c : Int} {told made : List Dep} {row : List FV} {n : Nat}
theorem row_same (hc : c ≤ 10) (ht : ∀ d ∈ told, DepC 10 d) (hm : ∀ d ∈ made, DepN d) (h : RowOk n row) : m_row_tells c told made row = m_Lrow c told made row := by
  unfold m_row_tells m_Lrow
  by_cases e1 : (ix row 0).gS = ("told" : PySem.Str)
  · rw [if_pos (decide_eq_true e1), if_pos (decide_eq_true e1)]
    unfold m_by_told
    rw [wjd]
  · rw [decide_eq_false e1, if_neg Bool.false_ne_true, if_neg Bool.false_ne_true]
    by_cases e2 : (ix row 0).gS = ("within" : PySem.Str)
    · rw [if_pos (decide_eq_true e2), if_pos (decide_eq_true e2)]
      unfold m_by_within
      rw [set_same, set_same, within_same]
      by_cases hb : (m_Lis_set (ix row 1).gT c && (m_Lis_set (ix row 2).gT c && m_Lis_within (ix row 2).gT (ix row 1).gT)) = true
      · rw [if_pos hb, if_pos hb]
        obtain ⟨b1, b2⟩ := (Bool.and_eq_true _ _).mp hb
        obtain ⟨b2, _⟩ := (Bool.and_eq_true _ _).mp b2
        unfold mkSd
        rw [(Lset_in hc b1).1.self, (Lset_in hc b2).1.self]
      · rw [if_neg hb, if_neg hb]
    · rw [decide_eq_false e2, if_neg Bool.false_ne_true, if_neg Bool.false_ne_true]
      have e0 : row_tells_first1 c told made row = m_earlier made (ix row 1).gI := rfl
      by_cases k1 : 0 ≤ (ix row 1).gI ∧ (ix row 1).gI < (made.length : Int)
      · have f1 : m_earlier made (ix row 1).gI = some (ix made (ix row 1).gI) := by rw [earlier_is, if_pos k1]
        have d1 := hm _ (ix_mem (xs := made) (i := (ix row 1).gI) ⟨by omega, k1.2⟩)
        rw [e0, f1, if_neg (c := (!((decide ((0 : Int) ≤ (ix row (1 : Int)).gI)) && (decide ((ix row (1 : Int)).gI < (made.length : Int))))) = true) (by simpa using k1)]
        by_cases e3 : (ix row 0).gS = ("through" : PySem.Str) ∨ (ix row 0).gS = ("beyond" : PySem.Str) ∨ (ix row 0).gS = ("meets" : PySem.Str)
        · have hb : ((decide ((ix row (0 : Int)).gS = ("through" : PySem.Str))) || ((decide ((ix row (0 : Int)).gS = ("beyond" : PySem.Str))) || (decide ((ix row (0 : Int)).gS = ("meets" : PySem.Str))))) = true := by simpa using e3
          rw [if_pos hb, if_pos hb]
          by_cases k2 : 0 ≤ (ix row 2).gI ∧ (ix row 2).gI < (made.length : Int)
          · have f2 : m_earlier made (ix row 2).gI = some (ix made (ix row 2).gI) := by rw [earlier_is, if_pos k2]
            have d2 := hm _ (ix_mem (xs := made) (i := (ix row 2).gI) ⟨by omega, k2.2⟩)
            rw [f2, if_neg (by simpa using k2)]
            exact two_same d1.1 d1.2 d2.1 d2.2
          · have f2 : m_earlier made (ix row 2).gI = none := by rw [earlier_is, if_neg k2]
            rw [f2, if_pos (by
              rw [Bool.not_eq_true', Bool.and_eq_false_iff]
              by_cases z : 0 ≤ (ix row 2).gI
              · exact .inr (decide_eq_false fun y => k2 ⟨z, y⟩)
              · exact .inl (decide_eq_false z))]
            exact two_none' _
        · have hb : ¬ ((decide ((ix row (0 : Int)).gS = ("through" : PySem.Str))) || ((decide ((ix row (0 : Int)).gS = ("beyond" : PySem.Str))) || (decide ((ix row (0 : Int)).gS = ("meets" : PySem.Str))))) = true := by simpa using e3
          rw [if_neg hb, if_neg hb]
          exact one_same hc d1.1 d1.2 (h.rest e1 e2 e3)
      · have f1 : m_earlier made (ix row 1).gI = none := by rw [earlier_is, if_neg k1]
        have hk : (!((decide ((0 : Int) ≤ (ix row (1 : Int)).gI)) && (decide ((ix row (1 : Int)).gI < (made.length : Int))))) = true := by
          rw [Bool.not_eq_true', Bool.and_eq_false_iff]
          by_cases z : 0 ≤ (ix row 1).gI
          · exact .inr (decide_eq_false fun y => k1 ⟨z, y⟩)
          · exact .inl (decide_eq_false z)
        rw [e0, f1, if_pos hk]
        split
        · exact two_none _
        · exact one_none
theorem Lof_two_ok {d1 d2 : Dep} {w : PySem.Str} (h1 : DepC 10 d1) (h2 : DepC 10 d2) : ∀ d, m_Lof_two d1 d2 w = some d → DepN d := by
  intro d h
  unfold m_Lof_two at h
  rw [wfd d1, wfd d2, wmvd d1, wmvd d2] at h
  split at h
  · split at h
    · rename_i hb
      obtain ⟨b1, b2⟩ := (Bool.and_eq_true _ _).mp hb
      obtain ⟨b2, _⟩ := (Bool.and_eq_true _ _).mp b2
      cases h
      exact ⟨⟨(h1.sd (nj_fd b1)).1, (h2.sd (nj_fd b2)).2⟩, rfl⟩
    · cases h
  split at h
  · cases h
  · rename_i hb1
    have b1 : d1.isMvd = true := by simpa using hb1
    split at h
    · split at h
      · rename_i hb
        obtain ⟨b2, _⟩ := (Bool.and_eq_true _ _).mp hb
        cases h
        exact ⟨⟨(h1.sd (nj_mvd b1)).1, m_Lless_cols (h2.sd (nj_mvd b2)).2⟩, rfl⟩
      · cases h
    · split at h
      · rename_i hb
        obtain ⟨b2, _⟩ := (Bool.and_eq_true _ _).mp hb
        cases h
        exact ⟨⟨(h1.sd (nj_mvd b1)).1, (h2.sd (nj_fd b2)).2⟩, rfl⟩
      · cases h
theorem Lof_one_ok {d1 : Dep} (hc : c ≤ 10) (h1 : DepC 10 d1) : ∀ d, m_Lof_one c d1 row = some d → DepN d := by
  intro d h
  unfold m_Lof_one at h
  rw [wfd d1, wmvd d1] at h
  split at h
  · split at h
    · rename_i b1
      cases h
      exact ⟨h1.sd (nj_fd b1), rfl⟩
    · cases h
  split at h
  · split at h
    · rename_i b1
      cases h
      exact ⟨⟨(h1.sd (nj_mvd b1)).1, m_Lless_cols (Cols.rng (by omega))⟩, rfl⟩
    · cases h
  split at h
  · cases h
  · rename_i hs
    have hs : m_Lis_set (ix row 2).gT c = true := by simpa using hs
    have c2 := (Lset_in hc hs).1
    split at h
    · split at h
      · rename_i b1
        cases h
        exact ⟨⟨(h1.sd (nj_fd b1)).1.uni c2, (h1.sd (nj_fd b1)).2.uni c2⟩, rfl⟩
      · cases h
    · split at h
      · rename_i hb
        obtain ⟨b1, b2⟩ := (Bool.and_eq_true _ _).mp hb
        obtain ⟨b2, _⟩ := (Bool.and_eq_true _ _).mp b2
        cases h
        exact ⟨⟨(h1.sd (nj_mvd b1)).1.uni c2, (h1.sd (nj_mvd b1)).2.uni (Lset_in hc b2).1⟩, rfl⟩
      · cases h
theorem Lrow_ok (hc : c ≤ 10) (ht : ∀ d ∈ told, DepC 10 d) (hm : ∀ d ∈ made, DepC 10 d) : ∀ d, m_Lrow c told made row = some d → DepN d := by
  intro d h
  unfold m_Lrow at h
  split at h
  · split at h
    · rename_i hb
      obtain ⟨b1, b2⟩ := (Bool.and_eq_true _ _).mp hb
      obtain ⟨b0, b1⟩ := (Bool.and_eq_true _ _).mp b1
      have b0 := of_decide_eq_true b0
      have b1 := of_decide_eq_true b1
      rw [wjd] at b2
      have h : ix told (ix row 1).gI = d := by simpa using h
      rw [← h]
      exact ⟨ht _ (ix_mem ⟨by omega, b1⟩), by simpa using b2⟩
    · cases h
  split at h
  · split at h
    · rename_i hb
      obtain ⟨b1, b2⟩ := (Bool.and_eq_true _ _).mp hb
      obtain ⟨b2, _⟩ := (Bool.and_eq_true _ _).mp b2
      cases h
      exact ⟨⟨(Lset_in hc b1).1, (Lset_in hc b2).1⟩, rfl⟩
    · cases h
  split at h
  · cases h
  · rename_i k1
    have k1 : 0 ≤ (ix row 1).gI ∧ (ix row 1).gI < (made.length : Int) := by simpa using k1
    have d1 := hm _ (ix_mem (xs := made) (i := (ix row 1).gI) ⟨by omega, k1.2⟩)
    split at h
    · split at h
      · cases h
      · rename_i k2
        have k2 : 0 ≤ (ix row 2).gI ∧ (ix row 2).gI < (made.length : Int) := by simpa using k2
        have d2 := hm _ (ix_mem (xs := made) (i := (ix row 2).gI) ⟨by omega, k2.2⟩)
        exact Lof_two_ok d1 d2 d h
    · exact Lof_one_ok hc d1 d h
/-! ## rows one after another -/
theorem derives_at {tgt : Dep} {rows : List (List FV)} (hc : c ≤ 10) (ht : ∀ d ∈ told, DepC 10 d) (hr : ∀ r ∈ rows, RowOk n r) {i : Nat} {s : List Dep} (e : goL (derives_st1 c told tgt rows) (derives_made1 c told tgt rows) (rows.take i) = some s) : ∀ d ∈ s, DepN d := by
  refine goL_inv (fun s => ∀ d ∈ s, DepN d) _ _ _ _ (fun d hd => by cases hd) (fun x hx s s' hs q => ?_) e
  unfold derives_st1 at q
  split at q
  · cases q
  · rename_i hn
    have q : derives_made2 c told tgt rows s x = s' := by simpa using q
    rw [← q]
    unfold derives_made2
    intro d hd
    rcases List.mem_append.mp hd with hd | hd
    · exact hs d hd
    · rw [List.mem_singleton.mp hd]
      have e : derives_found1 c told tgt rows s x = m_Lrow c told s x := row_same hc ht hs (hr x (List.mem_of_mem_take hx))
      cases hf : m_Lrow c told s x with
      | none => rw [e, hf] at hn; exact absurd rfl hn
      | some d => rw [e, hf]; exact Lrow_ok hc ht (fun d hd => (hs d hd).1) d hf
theorem derives_len {tgt : Dep} {rows : List (List FV)} {i : Nat} {s : List Dep} (e : goL (derives_st1 c told tgt rows) (derives_made1 c told tgt rows) (rows.take i) = some s) : s.length ≤ i := by
  have : ∀ (xs : List (List FV)) (s0 s : List Dep), goL (derives_st1 c told tgt rows) s0 xs = some s → s.length ≤ s0.length + xs.length := fun xs => by
    induction xs with
    | nil => intro s0 s e; simp [goL] at e; subst e; simp
    | cons x xs ih =>
      intro s0 s e
      unfold goL at e
      cases q : derives_st1 c told tgt rows s0 x with
      | go s1 =>
        rw [q] at e
        have := ih s1 s e
        have h1 : s1.length ≤ s0.length + 1 := by
          unfold derives_st1 at q
          split at q
          · cases q
          · have q : derives_made2 c told tgt rows s0 x = s1 := by simpa using q
            rw [← q]; unfold derives_made2; simp
        rw [List.length_cons]; omega
      | brk s1 => rw [q] at e; cases e
      | ret s1 => rw [q] at e; cases e
  have := this _ _ _ e
  rw [List.length_take] at this
  have h0 : (derives_made1 c told tgt rows).length = 0 := rfl
  omega
theorem Lmade_at {rows : List (List FV)} (hc : c ≤ 10) (ht : ∀ d ∈ told, DepC 10 d) {i : Nat} {s : List Dep} (e : goL (Lmade_st1 c told rows) (Lmade_Lmade_here1 c told rows) (rows.take i) = some s) : (∀ d ∈ s, DepN d) ∧ s.length ≤ i := by
  have : ∀ (xs : List (List FV)) (s0 s : List Dep), (∀ d ∈ s0, DepN d) → goL (Lmade_st1 c told rows) s0 xs = some s → (∀ d ∈ s, DepN d) ∧ s.length ≤ s0.length + xs.length := fun xs => by
    induction xs with
    | nil => intro s0 s h e; simp [goL] at e; subst e; exact ⟨h, by simp⟩
    | cons x xs ih =>
      intro s0 s h e
      unfold goL at e
      cases q : Lmade_st1 c told rows s0 x with
      | go s1 =>
        rw [q] at e
        unfold Lmade_st1 at q
        split at q
        · cases q
        · rename_i hn
          have q : Lmade_Lmade_here2 c told rows s0 x = s1 := by simpa using q
          have h1 : ∀ d ∈ s1, DepN d := by
            rw [← q]
            intro d hd
            rcases List.mem_append.mp hd with hd | hd
            · exact h d hd
            · rw [List.mem_singleton.mp hd]
              cases hf : m_Lrow c told s0 x with
              | none => exact absurd (by show (m_Lrow c told s0 x).isNone = true; rw [hf]; rfl) hn
              | some d => rw [show Lmade_Lfound1 c told rows s0 x = m_Lrow c told s0 x from rfl, hf]; exact Lrow_ok hc ht (fun d hd => (h d hd).1) d hf
          obtain ⟨a, b⟩ := ih s1 s h1 e
          refine ⟨a, ?_⟩
          have : s1.length = s0.length + 1 := by rw [← q]; unfold Lmade_Lmade_here2; simp
          rw [List.length_cons]; omega
      | brk s1 => rw [q] at e; cases e
      | ret s1 => rw [q] at e; cases e
  obtain ⟨a, b⟩ := this _ _ _ (fun d hd => by cases hd) e
  rw [List.length_take] at b
  have h0 : (Lmade_Lmade_here1 c told rows).length = 0 := rfl
  exact ⟨a, by omega⟩
end
section
variable {c : Int}
theorem other_ok {k : Int} {d : Dep} (hc : 1 ≤ c ∧ c ≤ 10) (h : DepC 10 d) : DepC 10 (m_Lother k d c) := by
  have hm := emod_in (a := k / 3) (b := c) (by omega)
  unfold m_Lother
  split
  · rename_i hw
    have hp := h.ps (word_jd.mp (of_decide_eq_true hw))
    have hi := hp.2.2 _ (ix_mem (xs := d.ps) (i := 0) ⟨by omega, by omega⟩)
    exact ⟨hi, hi⟩
  · rename_i hw
    have hs := h.sd (nj_wj (by simpa using hw))
    split
    · exact ofW_ok hs.1 hs.2
    split
    · exact ofW_ok (toggled_cols hs.1 ⟨hm.1, by omega⟩) hs.2
    · exact ofW_ok hs.1 (toggled_cols hs.2 ⟨hm.1, by omega⟩)
end
/-! ## derivations: the program's judge and the law's -/
theorem dep_eq (a b : Dep) : depB m_Fd_eq m_Mvd_eq m_Jd_eq a b = decide (a = b) := by
  cases a with
  | fd d =>
    cases b with
    | fd e => obtain ⟨l, r⟩ := d; obtain ⟨l', r'⟩ := e; simp [depB, m_Fd_eq, Dep.isFd, m_Sides_key, Dep.sd]
    | mvd e => simp [depB, m_Fd_eq, Dep.isFd]
    | jd p => simp [depB, m_Fd_eq, Dep.isFd]
  | mvd d =>
    cases b with
    | fd e => simp [depB, m_Mvd_eq, Dep.isMvd]
    | mvd e => obtain ⟨l, r⟩ := d; obtain ⟨l', r'⟩ := e; simp [depB, m_Mvd_eq, Dep.isMvd, m_Sides_key, Dep.sd]
    | jd p => simp [depB, m_Mvd_eq, Dep.isMvd]
  | jd p =>
    cases b with
    | fd e => simp [depB, m_Jd_eq, Dep.isJd]
    | mvd e => simp [depB, m_Jd_eq, Dep.isJd]
    | jd q =>
      show (true && decide (p = q)) = _
      by_cases e : p = q <;> simp [e]
theorem object_self {n : Nat} {d : Dep} (h : DepC n d) : m_Lobject d = d := by
  unfold m_Lobject
  rw [wfd, wmvd]
  cases d with
  | fd d =>
    rw [if_pos (show (Dep.fd d).isFd = true from rfl)]
    show Dep.fd ⟨sset d.l, sset d.r⟩ = Dep.fd d
    rw [h.1.self, h.2.self]
  | mvd d =>
    rw [if_neg (by simp [Dep.isFd]), if_pos (show (Dep.mvd d).isMvd = true from rfl)]
    show Dep.mvd ⟨sset d.l, sset d.r⟩ = Dep.mvd d
    rw [h.1.self, h.2.self]
  | jd p =>
    rw [if_neg (by simp [Dep.isFd]), if_neg (by simp [Dep.isMvd])]
    show Dep.jd (p.map sset) = Dep.jd p
    congr 1
    exact (List.map_congr_left fun q hq => (h.2.2 q hq).self).trans (List.map_id _)
theorem objects_self {n : Nat} {td : List Dep} (h : ∀ d ∈ td, DepC n d) : td.map (fun (x4 : Dep) => (m_Lobject x4)) = td :=
  (List.map_congr_left fun d hd => object_self (h d hd)).trans (List.map_id _)
theorem ix_last' {α : Type} [Inhabited α] {ms : List α} {d : α} : ix (ms ++ [d]) (-1) = d := by
  unfold ix atI ixN
  rw [if_neg (by omega), if_pos (by rw [List.length_append, List.length_singleton]; omega)]
  have e : ((-1 : Int) + ((ms ++ [d]).length : Nat)).toNat = ms.length := by rw [List.length_append, List.length_singleton]; omega
  rw [e]
  simp
section
variable {c : Int} {td : List Dep} {rows rows' : List (List FV)} {tgt : Dep} {n : Nat}
/-- what the law's rows come to, one by one -/
def mrun (c : Int) (td : List Dep) : List Dep → List (List FV) → Option (List Dep)
  | s, [] => some s
  | s, x :: xs => match m_Lrow c td s x with | none => none | some d => mrun c td (s ++ [d]) xs
theorem mrun_cons {s : List Dep} {x : List FV} {xs : List (List FV)} : mrun c td s (x :: xs) = match m_Lrow c td s x with | none => none | some d => mrun c td (s ++ [d]) xs := rfl
theorem mrun_app : ∀ (xs ys : List (List FV)) (s : List Dep), mrun c td s (xs ++ ys) = (mrun c td s xs).bind fun s' => mrun c td s' ys
  | [], _, _ => rfl
  | x :: xs, ys, s => by
    rw [List.cons_append, mrun_cons, mrun_cons]
    cases m_Lrow c td s x with
    | none => rfl
    | some d => exact mrun_app xs ys (s ++ [d])
theorem made_mrun : ∀ (xs : List (List FV)) (s : List Dep), runL (Lmade_st1 c td rows) s xs = match mrun c td s xs with | some s' => .inl s' | none => .inr none
  | [], s => rfl
  | x :: xs, s => by
    unfold runL
    rw [mrun_cons]
    have e : Lmade_st1 c td rows s x = match m_Lrow c td s x with | none => .ret none | some d => .go (s ++ [d]) := by
      unfold Lmade_st1 Lmade_Lmade_here2
      rw [show Lmade_Lfound1 c td rows s x = m_Lrow c td s x from rfl]
      cases m_Lrow c td s x <;> rfl
    rw [e]
    cases m_Lrow c td s x with
    | none => rfl
    | some d => exact made_mrun xs (s ++ [d])
theorem made_is : m_Lmade c td rows = mrun c td [] rows := by
  unfold m_Lmade
  rw [show Lmade_Lmade_here1 c td rows = [] from rfl, made_mrun]
  cases mrun c td [] rows <;> rfl
theorem mrun_ok (hc : c ≤ 10) (ht : ∀ d ∈ td, DepC 10 d) : ∀ (xs : List (List FV)) (s s' : List Dep), (∀ d ∈ s, DepN d) → mrun c td s xs = some s' → (∀ d ∈ s', DepN d) ∧ s'.length = s.length + xs.length
  | [], s, s', h, e => by
    have e : s = s' := by simpa [mrun] using e
    subst e; exact ⟨h, rfl⟩
  | x :: xs, s, s', h, e => by
    rw [mrun_cons] at e
    cases q : m_Lrow c td s x with
    | none => rw [q] at e; cases e
    | some d =>
      rw [q] at e
      obtain ⟨a, b⟩ := mrun_ok hc ht xs (s ++ [d]) s' (fun y hy => by
        rcases List.mem_append.mp hy with hy | hy
        · exact h y hy
        · rw [List.mem_singleton.mp hy]; exact Lrow_ok hc ht (fun d hd => (h d hd).1) d q) e
      refine ⟨a, ?_⟩
      rw [b, List.length_append, List.length_singleton, List.length_cons]
      omega
theorem derives_mrun (hc : c ≤ 10) (ht : ∀ d ∈ td, DepC 10 d) : ∀ (xs : List (List FV)) (s : List Dep), (∀ r ∈ xs, RowOk n r) → (∀ d ∈ s, DepN d) → runL (derives_st1 c td tgt rows) s xs = match mrun c td s xs with | some s' => .inl s' | none => .inr false
  | [], s, _, _ => rfl
  | x :: xs, s, hr, h => by
    unfold runL
    rw [mrun_cons]
    have e : derives_st1 c td tgt rows s x = match m_Lrow c td s x with | none => .ret false | some d => .go (s ++ [d]) := by
      unfold derives_st1 derives_made2
      rw [show derives_found1 c td tgt rows s x = m_Lrow c td s x from row_same hc ht h (hr x List.mem_cons_self)]
      cases m_Lrow c td s x <;> rfl
    rw [e]
    cases q : m_Lrow c td s x with
    | none => rfl
    | some d =>
      exact derives_mrun hc ht xs (s ++ [d]) (fun y hy => hr y (List.mem_cons_of_mem _ hy)) fun y hy => by
        rcases List.mem_append.mp hy with hy | hy
        · exact h y hy
        · rw [List.mem_singleton.mp hy]; exact Lrow_ok hc ht (fun d hd => (h d hd).1) d q
theorem derives_is (hc : c ≤ 10) (ht : ∀ d ∈ td, DepC 10 d) (hr : ∀ r ∈ rows, RowOk n r) : m_derives c td tgt rows = match mrun c td [] rows with | none => false | some ms => decide ((0 : Int) < (ms.length : Int)) && decide (ix ms (-1) = tgt) := by
  unfold m_derives
  rw [show derives_made1 c td tgt rows = [] from rfl, derives_mrun hc ht rows [] hr (fun d hd => by cases hd)]
  cases mrun c td [] rows with
  | none => rfl
  | some ms => simp only [elimS, dep_eq]
theorem takes_true : m_takes c td tgt true (("derived" : PySem.Str), rows) = m_derives c td tgt rows := by
  unfold m_takes
  rw [if_pos (by simp)]
/-- told rows are right -/
theorem row_told {s : List Dep} {k : Int} (h0 : 0 ≤ k) (h1 : k < td.length) (hj : (ix td k).isJd = false) : m_Lrow c td s [FV.s ("told" : PySem.Str), FV.i k] = some (ix td k) := by
  unfold m_Lrow
  rw [ix0, ix1, wjd, if_pos (show decide ((FV.s ("told" : PySem.Str)).gS = ("told" : PySem.Str)) = true from by decide)]
  exact if_pos (by simp [FV.gI, h0, h1, hj])
theorem mrun_told : ∀ (ks : List Int) (s : List Dep), (∀ k ∈ ks, 0 ≤ k ∧ k < td.length ∧ (ix td k).isJd = false) → mrun c td s (ks.map fun k => [FV.s ("told" : PySem.Str), FV.i k]) = some (s ++ ks.map (ix td))
  | [], s, _ => by simp [mrun]
  | k :: ks, s, h => by
    have hk := h k List.mem_cons_self
    rw [List.map_cons, mrun_cons]
    rw [row_told hk.1 hk.2.1 hk.2.2]
    simp only
    rw [mrun_told ks _ fun j hj => h j (List.mem_cons_of_mem _ hj)]
    simp
theorem Lset_of {n : Nat} {a : List Int} (h : Cols n a) (hn : (n : Int) ≤ c) : m_Lis_set a c = true := by
  unfold m_Lis_set
  refine decide_eq_true (asc_unique h.asc ((rng_asc _ _).filter _) fun x => ?_)
  rw [List.mem_filter, rng_mem, decide_eq_true_eq]
  exact ⟨fun hx => ⟨by have := h.rg x hx; omega, hx⟩, fun hx => hx.2⟩
theorem row_within {s : List Dep} {l r : List Int} (hl : m_Lis_set l c = true) (hr : m_Lis_set r c = true) (hs : sub r l) : m_Lrow c td s [FV.s ("within" : PySem.Str), FV.t l, FV.t r] = some (.fd ⟨l, r⟩) := by
  unfold m_Lrow
  rw [ix0, ix1, ix2, if_neg (show ¬ decide ((FV.s ("within" : PySem.Str)).gS = ("told" : PySem.Str)) = true from by decide), if_pos (show decide ((FV.s ("within" : PySem.Str)).gS = ("within" : PySem.Str)) = true from by decide)]
  exact if_pos (by
    show (m_Lis_set l c && (m_Lis_set r c && m_Lis_within r l)) = true
    rw [hl, hr, Bool.true_and, Bool.true_and]
    exact less_sub.mpr hs)
end
/-! ## drawn derivations: each row is right -/
section
variable {ns : List Int} {pl c z : Int} {td : List Dep}
theorem next_right {made : List Dep} (h0 : 0 ≤ c) (hc : c ≤ 10) : (m_Lrow c td made (m_Lnext ns pl c td made)).isSome = true := by
  obtain ⟨h1, h2⟩ := right_ok (ns := ns) (pl := pl) (told := td) (made := made) hc
  have hm : m_Lnext ns pl c td made ∈ Lnext_j_Lright1 ns pl c td made := ix_mem (at_mod h2)
  generalize m_Lnext ns pl c td made = x at *
  unfold Lnext_j_Lright1 at hm
  split at hm
  · unfold Lnext_Lright2 m_Ltried at hm
    rw [if_neg (by decide), if_pos (by decide), List.mem_singleton] at hm
    rw [hm]
    have hl : Cols c.toNat (Ltried_Lcolumns1 ns pl c made td ("within" : PySem.Str)) := m_Lsparse_cols (by omega)
    have hs : Cols c.toNat (Ltried_Lsome1 ns pl c made td ("within" : PySem.Str)) := m_Lmet_cols hl
    rw [row_within (Lset_of hl (by omega)) (Lset_of hs (by omega)) fun x hx => (List.mem_filter.mp hx).1]
    rfl
  · unfold Lnext_Lright1 at hm
    exact (List.mem_filter.mp hm).2
theorem base_rows : Lderivation_Lrows1 ns pl c td z = ((rangeI 0 (td.length : Int)).filter (fun (x1 : Int) => (!(decide ((ix td x1).word = ("jd" : PySem.Str)))))).map (fun k => [FV.s ("told" : PySem.Str), FV.i k]) := rfl
theorem base_in {x : List FV} (h : x ∈ Lderivation_Lrows1 ns pl c td z) : ∃ k, x = [FV.s ("told" : PySem.Str), FV.i k] ∧ 0 ≤ k ∧ k < td.length ∧ (ix td k).isJd = false := by
  rw [base_rows] at h
  obtain ⟨k, hk, e⟩ := List.mem_map.mp h
  obtain ⟨h1, h2⟩ := List.mem_filter.mp hk
  have h1 := rng_mem.mp h1
  rw [wjd] at h2
  exact ⟨k, e.symm, h1.1, h1.2, by simpa using h2⟩
theorem base_made : Lderivation_Lmade_here1 ns pl c td z = ((rangeI 0 (td.length : Int)).filter (fun (x1 : Int) => (!(decide ((ix td x1).word = ("jd" : PySem.Str)))))).map (ix td) := by
  unfold Lderivation_Lmade_here1
  rw [base_rows, List.map_map]
  refine List.map_congr_left fun k _ => ?_
  show ix td (ix [FV.s ("told" : PySem.Str), FV.i k] 1).gI = _
  rw [ix1]
  rfl
theorem base_run : mrun c td [] (Lderivation_Lrows1 ns pl c td z) = some (Lderivation_Lmade_here1 ns pl c td z) := by
  rw [base_made, base_rows, mrun_told]
  · simp
  · intro k hk
    obtain ⟨h1, h2⟩ := List.mem_filter.mp hk
    have h1 := rng_mem.mp h1
    rw [wjd] at h2
    exact ⟨h1.1, h1.2, by simpa using h2⟩
theorem base_len : (Lderivation_Lrows1 ns pl c td z).length ≤ td.length := by
  rw [base_rows, List.length_map]
  have := List.length_filter_le (fun (x1 : Int) => (!(decide ((ix td x1).word = ("jd" : PySem.Str))))) (rangeI 0 (td.length : Int))
  rw [rangeI_len] at this
  omega
/-- rows, and what they tell -/
structure Drv (c : Int) (td : List Dep) (b k : Nat) (s : List (List FV) × List Dep) : Prop where
  run : mrun c td [] s.1 = some s.2
  row : ∀ r ∈ s.1, RowOk 10 r
  len : b ≤ s.1.length ∧ s.1.length ≤ td.length + k
theorem Drv.made {b k : Nat} {s : List (List FV) × List Dep} (hc : c ≤ 10) (ht : ∀ d ∈ td, DepC 10 d) (h : Drv c td b k s) : (∀ d ∈ s.2, DepN d) ∧ s.2.length = s.1.length := by
  obtain ⟨a, e⟩ := mrun_ok hc ht s.1 [] s.2 (fun d hd => by cases hd) h.run
  exact ⟨a, by simpa using e⟩
theorem drv0 : Drv c td 0 0 (Lderivation_Lrows1 ns pl c td z, Lderivation_Lmade_here1 ns pl c td z) :=
  ⟨base_run, fun r hr => by
    obtain ⟨k, e, _⟩ := base_in (ns := ns) (pl := pl) (c := c) (z := z) (td := td) hr
    rw [e]; exact .one _ _ (.inl rfl), Nat.zero_le _, base_len (ns := ns) (pl := pl) (c := c) (z := z) (td := td)⟩
theorem Drv.step (h0 : 0 ≤ c) (hc : c ≤ 10) (ht : ∀ d ∈ td, DepC 10 d) {b k : Nat} {s : List (List FV) × List Dep} (h : Drv c td b k s) (x : Int) : Drv c td (b + 1) (k + 1) (Lderivation_st1 ns pl c td z s x) := by
  obtain ⟨rows, made⟩ := s
  have hn := next_right (ns := ns) (pl := pl + 2 * x) (td := td) (made := made) h0 hc
  have hr : RowOk 10 (Lderivation_Lrow_here1 ns pl c td z rows made x) := next_ok hc
  refine ⟨?_, fun r hr' => ?_, ?_⟩
  · show mrun c td [] (rows ++ [Lderivation_Lrow_here1 ns pl c td z rows made x]) = some (made ++ [(m_Lrow c td made (Lderivation_Lrow_here1 ns pl c td z rows made x)).getD default])
    rw [mrun_app, show mrun c td [] rows = some made from h.run]
    simp only [Option.bind_some]
    rw [mrun_cons]
    have hn : (m_Lrow c td made (Lderivation_Lrow_here1 ns pl c td z rows made x)).isSome = true := hn
    cases q : m_Lrow c td made (Lderivation_Lrow_here1 ns pl c td z rows made x) with
    | none => rw [q] at hn; cases hn
    | some d => rfl
  · rcases List.mem_append.mp hr' with hr' | hr'
    · exact h.row r hr'
    · rw [List.mem_singleton.mp hr']; exact hr
  · have := h.len
    show b + 1 ≤ (rows ++ [Lderivation_Lrow_here1 ns pl c td z rows made x]).length ∧ (rows ++ [Lderivation_Lrow_here1 ns pl c td z rows made x]).length ≤ td.length + (k + 1)
    rw [List.length_append, List.length_singleton]
    have h1 : b ≤ rows.length ∧ rows.length ≤ td.length + k := this
    omega
theorem drv_fold (h0 : 0 ≤ c) (hc : c ≤ 10) (ht : ∀ d ∈ td, DepC 10 d) : ∀ (xs : List Int) (b k : Nat) (s : List (List FV) × List Dep), Drv c td b k s → Drv c td (b + xs.length) (k + xs.length) (xs.foldl (Lderivation_st1 ns pl c td z) s)
  | [], b, k, s, h => h
  | x :: xs, b, k, s, h => by
    have := drv_fold h0 hc ht xs (b + 1) (k + 1) _ (h.step (ns := ns) (pl := pl) (z := z) h0 hc ht x)
    rw [List.foldl_cons, List.length_cons]
    rw [show b + (xs.length + 1) = b + 1 + xs.length from by omega, show k + (xs.length + 1) = k + 1 + xs.length from by omega]
    exact this
theorem drv_at (h0 : 0 ≤ c) (hc : c ≤ 10) (ht : ∀ d ∈ td, DepC 10 d) {i : Nat} {s : List (List FV) × List Dep} (e : ((rangeI 0 z).take i).foldl (Lderivation_st1 ns pl c td z) (Lderivation_Lrows1 ns pl c td z, Lderivation_Lmade_here1 ns pl c td z) = s) : Drv c td 0 i s := by
  have := drv_fold (ns := ns) (pl := pl) (z := z) h0 hc ht ((rangeI 0 z).take i) 0 0 _ (drv0 (ns := ns) (pl := pl) (c := c) (z := z) (td := td))
  rw [e] at this
  have hl : ((rangeI 0 z).take i).length ≤ i := List.length_take_le _ _
  exact ⟨this.run, this.row, Nat.zero_le _, by have := this.len.2; omega⟩
theorem drv_end (h0 : 0 ≤ c) (hc : c ≤ 10) (ht : ∀ d ∈ td, DepC 10 d) : ∃ ms, mrun c td [] (m_Lderivation ns pl c td z) = some ms ∧ (∀ d ∈ ms, DepN d) ∧ ms.length = (m_Lderivation ns pl c td z).length ∧ (∀ r ∈ m_Lderivation ns pl c td z, RowOk 10 r) ∧ z.toNat ≤ ms.length ∧ ms.length ≤ td.length + z.toNat := by
  have := drv_fold (ns := ns) (pl := pl) (z := z) h0 hc ht (rangeI 0 z) 0 0 _ (drv0 (ns := ns) (pl := pl) (c := c) (z := z) (td := td))
  have hl : (rangeI 0 z).length = z.toNat := by rw [rangeI_len]; omega
  rw [hl] at this
  obtain ⟨a, b⟩ := this.made hc ht
  have hlen := this.len
  have b' : ((rangeI 0 z).foldl (Lderivation_st1 ns pl c td z) (Lderivation_Lrows1 ns pl c td z, Lderivation_Lmade_here1 ns pl c td z)).2.length = ((rangeI 0 z).foldl (Lderivation_st1 ns pl c td z) (Lderivation_Lrows1 ns pl c td z, Lderivation_Lmade_here1 ns pl c td z)).1.length := b
  exact ⟨_, this.run, a, b, this.row, by omega, by omega⟩
end
/-! ## changed derivations -/
theorem fam_at {a b c : PySem.Str} (n : Int) : ix [a, b, c] (n % 3) = a ∨ ix [a, b, c] (n % 3) = b ∨ ix [a, b, c] (n % 3) = c := by
  have h := emod_in (a := n) (b := 3) (by decide)
  have := ix_mem (xs := [a, b, c]) (i := n % 3) ⟨by show (-3 : Int) ≤ _; omega, by show _ < (3 : Int); omega⟩
  simpa using this
theorem other_word_ok {k : Int} {x : List FV} {n : Nat} (h : RowOk n x) : RowOk n (m_Lother_word k x) := by
  have h1 : ∀ s, Lother_word_st1 k x s [("told" : PySem.Str), ("also" : PySem.Str), ("other" : PySem.Str)] = if (ix x 0).gS = ("told" : PySem.Str) ∨ (ix x 0).gS = ("also" : PySem.Str) ∨ (ix x 0).gS = ("other" : PySem.Str) then .ret ([FV.s (ix [("told" : PySem.Str), ("also" : PySem.Str), ("other" : PySem.Str)] (k % 3))] ++ x.drop 1) else .go () := fun s => by
    unfold Lother_word_st1
    by_cases e : (ix x 0).gS = ("told" : PySem.Str) ∨ (ix x 0).gS = ("also" : PySem.Str) ∨ (ix x 0).gS = ("other" : PySem.Str)
    · rw [if_pos e, if_pos (by simpa using e)]; rfl
    · rw [if_neg e, if_neg (by simpa using e)]
  have h2 : ∀ s, Lother_word_st1 k x s [("through" : PySem.Str), ("beyond" : PySem.Str), ("meets" : PySem.Str)] = if (ix x 0).gS = ("through" : PySem.Str) ∨ (ix x 0).gS = ("beyond" : PySem.Str) ∨ (ix x 0).gS = ("meets" : PySem.Str) then .ret ([FV.s (ix [("through" : PySem.Str), ("beyond" : PySem.Str), ("meets" : PySem.Str)] (k % 3))] ++ x.drop 1) else .go () := fun s => by
    unfold Lother_word_st1
    by_cases e : (ix x 0).gS = ("through" : PySem.Str) ∨ (ix x 0).gS = ("beyond" : PySem.Str) ∨ (ix x 0).gS = ("meets" : PySem.Str)
    · rw [if_pos e, if_pos (by simpa using e)]; rfl
    · rw [if_neg e, if_neg (by simpa using e)]
  unfold m_Lother_word
  rw [runL, h1]
  by_cases e1 : (ix x 0).gS = ("told" : PySem.Str) ∨ (ix x 0).gS = ("also" : PySem.Str) ∨ (ix x 0).gS = ("other" : PySem.Str)
  · rw [if_pos e1]
    simp only [elimS]
    cases h with
    | one w j h => exact .one _ j (fam_at k)
    | two w i j h => simp only [ix0, FV.gS] at e1; rcases h with h | h | h <;> rw [h] at e1 <;> rcases e1 with e | e | e <;> exact absurd e (by decide)
    | within l r hl hr => simp only [ix0, FV.gS] at e1; rcases e1 with e | e | e <;> exact absurd e (by decide)
    | with_ j l hl => simp only [ix0, FV.gS] at e1; rcases e1 with e | e | e <;> exact absurd e (by decide)
    | wide j l r hl hr => simp only [ix0, FV.gS] at e1; rcases e1 with e | e | e <;> exact absurd e (by decide)
  · rw [if_neg e1]
    simp only
    rw [runL, h2]
    by_cases e2 : (ix x 0).gS = ("through" : PySem.Str) ∨ (ix x 0).gS = ("beyond" : PySem.Str) ∨ (ix x 0).gS = ("meets" : PySem.Str)
    · rw [if_pos e2]
      simp only [elimS]
      cases h with
      | one w j h => exact absurd (by simpa [ix0, FV.gS] using h) e1
      | two w i j h => exact .two _ i j (fam_at k)
      | within l r hl hr => simp only [ix0, FV.gS] at e2; rcases e2 with e | e | e <;> exact absurd e (by decide)
      | with_ j l hl => simp only [ix0, FV.gS] at e2; rcases e2 with e | e | e <;> exact absurd e (by decide)
      | wide j l r hl hr => simp only [ix0, FV.gS] at e2; rcases e2 with e | e | e <;> exact absurd e (by decide)
    · rw [if_neg e2]
      simp only [runL, elimS]
      exact h
section
variable {a b c : Int} {rs : List (List FV)} {td : List Dep} {n : Nat}
theorem changed_row (hr : ∀ r ∈ rs, RowOk n r) (h0 : 0 < rs.length) : RowOk n (Lchanged_Lrow_here1 a b rs c td) := hr _ (ix_mem (at_mod h0))
theorem changed_row2 (hr : ∀ r ∈ rs, RowOk n r) (h0 : 0 < rs.length) : RowOk (n + 1) (Lchanged_j_Lrow_here1 a b rs c td) := by
  unfold Lchanged_j_Lrow_here1
  split
  · exact (other_word_ok (changed_row hr h0)).mono (Nat.le_succ n)
  · exact bent_ok (changed_row hr h0)
theorem changed_ok (hr : ∀ r ∈ rs, RowOk n r) : (∀ r ∈ m_Lchanged a b rs c td, RowOk (n + 1) r) ∧ (m_Lchanged a b rs c td).length ≤ rs.length + 1 := by
  have up : ∀ r ∈ rs, RowOk (n + 1) r := fun r h => (hr r h).mono (Nat.le_succ n)
  have tk : ∀ k, ∀ r ∈ rs.take k, RowOk (n + 1) r := fun k r h => up r (List.mem_of_mem_take h)
  have dr : ∀ k, ∀ r ∈ rs.drop k, RowOk (n + 1) r := fun k r h => up r (List.mem_of_mem_drop h)
  unfold m_Lchanged
  split
  · exact ⟨up, by omega⟩
  · rename_i hz
    have h0 : 0 < rs.length := by
      have : ¬ (rs.length : Int) = 0 := by simpa using hz
      omega
    have hp := emod_in (a := a) (b := (rs.length : Int)) (by omega)
    have hp' : 0 ≤ Lchanged_Lplace1 a b rs c td ∧ Lchanged_Lplace1 a b rs c td < rs.length := hp
    have r1 : RowOk (n + 1) (Lchanged_Lrow_here1 a b rs c td) := (changed_row hr h0).mono (Nat.le_succ n)
    have r2 := changed_row2 (a := a) (b := b) (c := c) (td := td) hr h0
    have ap : ∀ {p q : List (List FV)}, (∀ r ∈ p, RowOk (n + 1) r) → (∀ r ∈ q, RowOk (n + 1) r) → ∀ r ∈ p ++ q, RowOk (n + 1) r := fun h g r hr => (List.mem_append.mp hr).elim (h r) (g r)
    have sg : ∀ {y : List FV}, RowOk (n + 1) y → ∀ r ∈ [y], RowOk (n + 1) r := fun h r hr => by rw [List.mem_singleton.mp hr]; exact h
    split
    · exact ⟨ap (tk _) (dr _), by simp only [List.length_append, List.length_take, List.length_drop]; omega⟩
    split
    · exact ⟨ap (ap (tk _) (sg r1)) (dr _), by simp only [List.length_append, List.length_take, List.length_drop, List.length_cons, List.length_nil]; omega⟩
    split
    · refine ⟨ap (ap (ap (tk _) fun r h => ?_) (sg r1)) (dr _), by simp only [List.length_append, List.length_take, List.length_drop, List.length_cons, List.length_nil]; omega⟩
      first
        | exact up r (List.mem_of_mem_take (List.mem_of_mem_drop h))
        | exact up r (List.mem_of_mem_drop (List.mem_of_mem_take h))
    · exact ⟨ap (ap (tk _) (sg r2)) (dr _), by simp only [List.length_append, List.length_take, List.length_drop, List.length_cons, List.length_nil]; omega⟩
end
/-! ## the law's own values -/
theorem law_n (v : List Int) : (law_Lnumbers_here1 v).length = 23 := m_Lnumbers_len _ _
theorem law_c (v : List Int) : 1 ≤ law_Lcount1 v ∧ law_Lcount1 v ≤ 10 := by
  unfold law_Lcount1
  have h := emod_in (a := ix (law_Lnumbers_here1 v) 0) (b := 10) (by decide)
  have := ix_mem (xs := [(1 : Int), (2 : Int), (3 : Int), (4 : Int), (5 : Int), (6 : Int), (3 : Int), (4 : Int), (5 : Int), (10 : Int)]) (i := ix (law_Lnumbers_here1 v) 0 % 10) ⟨by show (-10 : Int) ≤ _; omega, by show _ < (10 : Int); omega⟩
  generalize ix ([(1 : Int), (2 : Int), (3 : Int), (4 : Int), (5 : Int), (6 : Int), (3 : Int), (4 : Int), (5 : Int), (10 : Int)] : List Int) _ = k at *
  simp only [List.mem_cons, List.not_mem_nil, or_false] at this
  omega
theorem law_td (v : List Int) : (law_Ltold_here1 v).length ≤ 3 ∧ ∀ d ∈ law_Ltold_here1 v, DepC 10 d := by
  have hc := law_c v
  have hm := emod_in (a := ix (law_Lnumbers_here1 v) 0 / 10) (b := 4) (by decide)
  obtain ⟨a, b⟩ := told_pre (ns := law_Lnumbers_here1 v) (pl := 1) (c := law_Lcount1 v) (m := ix (law_Lnumbers_here1 v) 0 / 10 % 4) (by omega) hc.2 hm.1
  exact ⟨by show (m_Ltold _ _ _ _).length ≤ 3; rw [a]; omega, fun d hd => (b d hd).mono (by omega)⟩
def lawZ (v : List Int) : Int := ix (law_Lnumbers_here1 v) 7 % 5 + 1
theorem lawZ_in (v : List Int) : 1 ≤ lawZ v ∧ lawZ v ≤ 5 := by
  have := emod_in (a := ix (law_Lnumbers_here1 v) 7) (b := 5) (by decide)
  unfold lawZ; omega
theorem law_rows1 (v : List Int) (td : List Dep) (ht : td.length ≤ 3 ∧ ∀ d ∈ td, DepC 10 d) : ∃ ms, m_Lmade (law_Lcount1 v) td (law_Lrows1 v td) = some ms ∧ (∀ d ∈ ms, DepN d) ∧ ms.length = (law_Lrows1 v td).length ∧ (∀ r ∈ law_Lrows1 v td, RowOk 10 r) ∧ 1 ≤ ms.length ∧ ms.length ≤ 8 := by
  have hc := law_c v
  have hz := lawZ_in v
  obtain ⟨ms, e, a, b, d, f, g⟩ := drv_end (ns := law_Lnumbers_here1 v) (pl := 8) (c := law_Lcount1 v) (td := td) (z := lawZ v) (by omega) hc.2 ht.2
  have er : law_Lrows1 v td = m_Lderivation (law_Lnumbers_here1 v) 8 (law_Lcount1 v) td (lawZ v) := rfl
  refine ⟨ms, by rw [made_is, er]; exact e, a, by rw [er]; exact b, by rw [er]; exact d, by omega, by omega⟩
theorem law_tgt (v : List Int) (td : List Dep) (ht : td.length ≤ 3 ∧ ∀ d ∈ td, DepC 10 d) : DepC 10 (law_Ltarget1 v td) ∧ DepC 10 (law_j_Ltarget1 v td) := by
  obtain ⟨ms, e, a, b, _, p, _⟩ := law_rows1 v td ht
  have h1 : DepC 10 (law_Ltarget1 v td) := by
    unfold law_Ltarget1
    rw [e]
    exact (a _ (ix_mem (xs := ms) ⟨by omega, by omega⟩)).1
  refine ⟨h1, ?_⟩
  unfold law_j_Ltarget1
  split
  · exact other_ok (law_c v) h1
  · exact h1
theorem law_rows2 (v : List Int) (td : List Dep) (ht : td.length ≤ 3 ∧ ∀ d ∈ td, DepC 10 d) : (∀ r ∈ law_Lrows2 v td, RowOk 11 r) ∧ (law_Lrows2 v td).length ≤ 9 ∧ (∀ r ∈ law_j_Lrows1 v td, RowOk 12 r) ∧ (law_j_Lrows1 v td).length ≤ 10 := by
  obtain ⟨ms, e, a, b, d, p, q⟩ := law_rows1 v td ht
  obtain ⟨h1, h2⟩ := changed_ok (a := ix (law_Lnumbers_here1 v) 18) (b := ix (law_Lnumbers_here1 v) 19) (c := law_Lcount1 v) (td := td) d
  have h2' : (law_Lrows2 v td).length ≤ 9 := by
    have : (law_Lrows2 v td).length ≤ (law_Lrows1 v td).length + 1 := h2
    omega
  refine ⟨h1, h2', ?_⟩
  unfold law_j_Lrows1
  split
  · obtain ⟨g1, g2⟩ := changed_ok (a := ix (law_Lnumbers_here1 v) 20) (b := ix (law_Lnumbers_here1 v) 21) (c := law_Lcount1 v) (td := td) (rs := law_Lrows2 v td) h1
    have g2 : (law_Lrows3 v td).length ≤ (law_Lrows2 v td).length + 1 := g2
    exact ⟨g1, by omega⟩
  · exact ⟨fun r hr => (h1 r hr).mono (by decide), by omega⟩
theorem law_rowsS (v : List Int) (td : List Dep) (ht : td.length ≤ 3 ∧ ∀ d ∈ td, DepC 10 d) : (m_Lmade (law_Lcount1 v) td (law_Lrows1 v td)).isSome = true ∧ ((m_Lmade (law_Lcount1 v) td (law_Lrows1 v td)).getD []).length = (law_Lrows1 v td).length ∧ 1 ≤ (law_Lrows1 v td).length ∧ (law_Lrows1 v td).length ≤ 8 ∧ ∀ r ∈ law_Lrows1 v td, RowOk 10 r := by
  obtain ⟨ms, e, a, b, d, p, q⟩ := law_rows1 v td ht
  rw [e]
  exact ⟨rfl, b, by omega, by omega, d⟩
structure Tx [Tb] (K : PySem.W.Frag) (mg : Str → Option Value) (base : Heap) where
  a_Lnumbers : Addr
  d_Lnumbers : FuncData
  F_Lnumbers : Fun K "_law_numbers" "_law_numbers" s_Lnumbers a_Lnumbers d_Lnumbers
  b_Lnumbers : Binds K d_Lnumbers ["_law_script", "_law_count"] []
  g_Lnumbers : mg "_law_numbers" = some (.ref a_Lnumbers)
  a_Lsparse : Addr
  d_Lsparse : FuncData
  F_Lsparse : Fun K "_law_sparse" "_law_sparse" s_Lsparse a_Lsparse d_Lsparse
  b_Lsparse : Binds K d_Lsparse ["_law_number", "_law_count"] []
  g_Lsparse : mg "_law_sparse" = some (.ref a_Lsparse)
  a_Lless : Addr
  d_Lless : FuncData
  F_Lless : Fun K "_law_less" "_law_less" s_Lless a_Lless d_Lless
  b_Lless : Binds K d_Lless ["_law_a", "_law_b"] []
  g_Lless : mg "_law_less" = some (.ref a_Lless)
  a_Lunited : Addr
  d_Lunited : FuncData
  F_Lunited : Fun K "_law_united" "_law_united" s_Lunited a_Lunited d_Lunited
  b_Lunited : Binds K d_Lunited ["_law_a", "_law_b"] []
  g_Lunited : mg "_law_united" = some (.ref a_Lunited)
  a_Ldependency : Addr
  d_Ldependency : FuncData
  F_Ldependency : Fun K "_law_dependency" "_law_dependency" s_Ldependency a_Ldependency d_Ldependency
  b_Ldependency : Binds K d_Ldependency ["_law_numbers_here", "_law_place", "_law_count"] []
  g_Ldependency : mg "_law_dependency" = some (.ref a_Ldependency)
  a_Ltold : Addr
  d_Ltold : FuncData
  F_Ltold : Fun K "_law_told" "_law_told" s_Ltold a_Ltold d_Ltold
  b_Ltold : Binds K d_Ltold ["_law_numbers_here", "_law_place", "_law_count", "_law_many"] []
  g_Ltold : mg "_law_told" = some (.ref a_Ltold)
  a_Lmet : Addr
  d_Lmet : FuncData
  F_Lmet : Fun K "_law_met" "_law_met" s_Lmet a_Lmet d_Lmet
  b_Lmet : Binds K d_Lmet ["_law_a", "_law_b"] []
  g_Lmet : mg "_law_met" = some (.ref a_Lmet)
  a_Lset : Addr
  d_Lset : FuncData
  F_Lset : Fun K "_law_set" "_law_set" s_Lset a_Lset d_Lset
  b_Lset : Binds K d_Lset ["_law_number", "_law_count"] []
  g_Lset : mg "_law_set" = some (.ref a_Lset)
  a_Ltried : Addr
  d_Ltried : FuncData
  F_Ltried : Fun K "_law_tried" "_law_tried" s_Ltried a_Ltried d_Ltried
  b_Ltried : Binds K d_Ltried ["_law_numbers_here", "_law_place", "_law_count", "_law_made_here", "_law_told_here", "_law_word"] []
  g_Ltried : mg "_law_tried" = some (.ref a_Ltried)
  a_Lis_set : Addr
  d_Lis_set : FuncData
  F_Lis_set : Fun K "_law_is_set" "_law_is_set" s_Lis_set a_Lis_set d_Lis_set
  b_Lis_set : Binds K d_Lis_set ["_law_columns", "_law_count"] []
  g_Lis_set : mg "_law_is_set" = some (.ref a_Lis_set)
  a_Lis_within : Addr
  d_Lis_within : FuncData
  F_Lis_within : Fun K "_law_is_within" "_law_is_within" s_Lis_within a_Lis_within d_Lis_within
  b_Lis_within : Binds K d_Lis_within ["_law_a", "_law_b"] []
  g_Lis_within : mg "_law_is_within" = some (.ref a_Lis_within)
  a_Lof_two : Addr
  d_Lof_two : FuncData
  F_Lof_two : Fun K "_law_of_two" "_law_of_two" s_Lof_two a_Lof_two d_Lof_two
  b_Lof_two : Binds K d_Lof_two ["_law_one", "_law_two", "_law_word"] []
  g_Lof_two : mg "_law_of_two" = some (.ref a_Lof_two)
  a_Lof_one : Addr
  d_Lof_one : FuncData
  F_Lof_one : Fun K "_law_of_one" "_law_of_one" s_Lof_one a_Lof_one d_Lof_one
  b_Lof_one : Binds K d_Lof_one ["_law_count", "_law_one", "_law_row_here"] []
  g_Lof_one : mg "_law_of_one" = some (.ref a_Lof_one)
  a_Lrow : Addr
  d_Lrow : FuncData
  F_Lrow : Fun K "_law_row" "_law_row" s_Lrow a_Lrow d_Lrow
  b_Lrow : Binds K d_Lrow ["_law_count", "_law_told_here", "_law_made_here", "_law_row_here"] []
  g_Lrow : mg "_law_row" = some (.ref a_Lrow)
  a_Lnext : Addr
  d_Lnext : FuncData
  F_Lnext : Fun K "_law_next" "_law_next" s_Lnext a_Lnext d_Lnext
  b_Lnext : Binds K d_Lnext ["_law_numbers_here", "_law_place", "_law_count", "_law_told_here", "_law_made_here"] []
  g_Lnext : mg "_law_next" = some (.ref a_Lnext)
  a_Lderivation : Addr
  d_Lderivation : FuncData
  F_Lderivation : Fun K "_law_derivation" "_law_derivation" s_Lderivation a_Lderivation d_Lderivation
  b_Lderivation : Binds K d_Lderivation ["_law_numbers_here", "_law_place", "_law_count", "_law_told_here", "_law_size"] []
  g_Lderivation : mg "_law_derivation" = some (.ref a_Lderivation)
  a_Lmade : Addr
  d_Lmade : FuncData
  F_Lmade : Fun K "_law_made" "_law_made" s_Lmade a_Lmade d_Lmade
  b_Lmade : Binds K d_Lmade ["_law_count", "_law_told_here", "_law_rows"] []
  g_Lmade : mg "_law_made" = some (.ref a_Lmade)
  a_Ltoggled : Addr
  d_Ltoggled : FuncData
  F_Ltoggled : Fun K "_law_toggled" "_law_toggled" s_Ltoggled a_Ltoggled d_Ltoggled
  b_Ltoggled : Binds K d_Ltoggled ["_law_columns", "_law_column"] []
  g_Ltoggled : mg "_law_toggled" = some (.ref a_Ltoggled)
  a_Lother : Addr
  d_Lother : FuncData
  F_Lother : Fun K "_law_other" "_law_other" s_Lother a_Lother d_Lother
  b_Lother : Binds K d_Lother ["_law_number", "_law_one", "_law_count"] []
  g_Lother : mg "_law_other" = some (.ref a_Lother)
  a_Lother_word : Addr
  d_Lother_word : FuncData
  F_Lother_word : Fun K "_law_other_word" "_law_other_word" s_Lother_word a_Lother_word d_Lother_word
  b_Lother_word : Binds K d_Lother_word ["_law_number", "_law_row_here"] []
  g_Lother_word : mg "_law_other_word" = some (.ref a_Lother_word)
  a_Lbent_set : Addr
  d_Lbent_set : FuncData
  F_Lbent_set : Fun K "_law_bent_set" "_law_bent_set" s_Lbent_set a_Lbent_set d_Lbent_set
  b_Lbent_set : Binds K d_Lbent_set ["_law_number", "_law_columns", "_law_count"] []
  g_Lbent_set : mg "_law_bent_set" = some (.ref a_Lbent_set)
  a_Lbent_row : Addr
  d_Lbent_row : FuncData
  F_Lbent_row : Fun K "_law_bent_row" "_law_bent_row" s_Lbent_row a_Lbent_row d_Lbent_row
  b_Lbent_row : Binds K d_Lbent_row ["_law_number", "_law_row_here", "_law_count", "_law_size"] []
  g_Lbent_row : mg "_law_bent_row" = some (.ref a_Lbent_row)
  a_Lchanged : Addr
  d_Lchanged : FuncData
  F_Lchanged : Fun K "_law_changed" "_law_changed" s_Lchanged a_Lchanged d_Lchanged
  b_Lchanged : Binds K d_Lchanged ["_law_number", "_law_more", "_law_rows", "_law_count", "_law_told_here"] []
  g_Lchanged : mg "_law_changed" = some (.ref a_Lchanged)
  a_as_set : Addr
  d_as_set : FuncData
  F_as_set : Fun K "as_set" "as_set" s_as_set a_as_set d_as_set
  b_as_set : Binds K d_as_set ["columns"] []
  g_as_set : mg "as_set" = some (.ref a_as_set)
  a_Sides_init : Addr
  d_Sides_init : FuncData
  F_Sides_init : Fun K "__init__" "Sides.__init__" s_Sides_init a_Sides_init d_Sides_init
  b_Sides_init : Binds K d_Sides_init ["self", "left", "right"] []
  a_Jd_init : Addr
  d_Jd_init : FuncData
  F_Jd_init : Fun K "__init__" "Jd.__init__" s_Jd_init a_Jd_init d_Jd_init
  b_Jd_init : Binds K d_Jd_init ["self", "parts"] []
  a_Lobject : Addr
  d_Lobject : FuncData
  F_Lobject : Fun K "_law_object" "_law_object" s_Lobject a_Lobject d_Lobject
  b_Lobject : Binds K d_Lobject ["_law_dependency_here"] []
  g_Lobject : mg "_law_object" = some (.ref a_Lobject)
  a_by_told : Addr
  d_by_told : FuncData
  F_by_told : Fun K "by_told" "by_told" s_by_told a_by_told d_by_told
  b_by_told : Binds K d_by_told ["dependencies", "index"] []
  g_by_told : mg "by_told" = some (.ref a_by_told)
  a_is_within : Addr
  d_is_within : FuncData
  F_is_within : Fun K "is_within" "is_within" s_is_within a_is_within d_is_within
  b_is_within : Binds K d_is_within ["a", "b"] []
  g_is_within : mg "is_within" = some (.ref a_is_within)
  a_whole : Addr
  d_whole : FuncData
  F_whole : Fun K "whole" "whole" s_whole a_whole d_whole
  b_whole : Binds K d_whole ["count"] []
  g_whole : mg "whole" = some (.ref a_whole)
  a_is_set : Addr
  d_is_set : FuncData
  F_is_set : Fun K "is_set" "is_set" s_is_set a_is_set d_is_set
  b_is_set : Binds K d_is_set ["columns", "count"] []
  g_is_set : mg "is_set" = some (.ref a_is_set)
  a_by_within : Addr
  d_by_within : FuncData
  F_by_within : Fun K "by_within" "by_within" s_by_within a_by_within d_by_within
  b_by_within : Binds K d_by_within ["count", "left", "right"] []
  g_by_within : mg "by_within" = some (.ref a_by_within)
  a_earlier : Addr
  d_earlier : FuncData
  F_earlier : Fun K "earlier" "earlier" s_earlier a_earlier d_earlier
  b_earlier : Binds K d_earlier ["made", "index"] []
  g_earlier : mg "earlier" = some (.ref a_earlier)
  a_by_through : Addr
  d_by_through : FuncData
  F_by_through : Fun K "by_through" "by_through" s_by_through a_by_through d_by_through
  b_by_through : Binds K d_by_through ["first", "second"] []
  g_by_through : mg "by_through" = some (.ref a_by_through)
  a_less : Addr
  d_less : FuncData
  F_less : Fun K "less" "less" s_less a_less d_less
  b_less : Binds K d_less ["a", "b"] []
  g_less : mg "less" = some (.ref a_less)
  a_by_beyond : Addr
  d_by_beyond : FuncData
  F_by_beyond : Fun K "by_beyond" "by_beyond" s_by_beyond a_by_beyond d_by_beyond
  b_by_beyond : Binds K d_by_beyond ["first", "second"] []
  g_by_beyond : mg "by_beyond" = some (.ref a_by_beyond)
  a_met : Addr
  d_met : FuncData
  F_met : Fun K "met" "met" s_met a_met d_met
  b_met : Binds K d_met ["a", "b"] []
  g_met : mg "met" = some (.ref a_met)
  a_by_meets : Addr
  d_by_meets : FuncData
  F_by_meets : Fun K "by_meets" "by_meets" s_by_meets a_by_meets d_by_meets
  b_by_meets : Binds K d_by_meets ["first", "second"] []
  g_by_meets : mg "by_meets" = some (.ref a_by_meets)
  a_of_two : Addr
  d_of_two : FuncData
  F_of_two : Fun K "of_two" "of_two" s_of_two a_of_two d_of_two
  b_of_two : Binds K d_of_two ["first", "second", "word"] []
  g_of_two : mg "of_two" = some (.ref a_of_two)
  a_united : Addr
  d_united : FuncData
  F_united : Fun K "united" "united" s_united a_united d_united
  b_united : Binds K d_united ["a", "b"] []
  g_united : mg "united" = some (.ref a_united)
  a_by_with : Addr
  d_by_with : FuncData
  F_by_with : Fun K "by_with" "by_with" s_by_with a_by_with d_by_with
  b_by_with : Binds K d_by_with ["count", "first", "columns"] []
  g_by_with : mg "by_with" = some (.ref a_by_with)
  a_by_also : Addr
  d_by_also : FuncData
  F_by_also : Fun K "by_also" "by_also" s_by_also a_by_also d_by_also
  b_by_also : Binds K d_by_also ["first"] []
  g_by_also : mg "by_also" = some (.ref a_by_also)
  a_by_other : Addr
  d_by_other : FuncData
  F_by_other : Fun K "by_other" "by_other" s_by_other a_by_other d_by_other
  b_by_other : Binds K d_by_other ["count", "first"] []
  g_by_other : mg "by_other" = some (.ref a_by_other)
  a_by_wide : Addr
  d_by_wide : FuncData
  F_by_wide : Fun K "by_wide" "by_wide" s_by_wide a_by_wide d_by_wide
  b_by_wide : Binds K d_by_wide ["count", "first", "columns", "some"] []
  g_by_wide : mg "by_wide" = some (.ref a_by_wide)
  a_of_one : Addr
  d_of_one : FuncData
  F_of_one : Fun K "of_one" "of_one" s_of_one a_of_one d_of_one
  b_of_one : Binds K d_of_one ["count", "first", "row"] []
  g_of_one : mg "of_one" = some (.ref a_of_one)
  a_row_tells : Addr
  d_row_tells : FuncData
  F_row_tells : Fun K "row_tells" "row_tells" s_row_tells a_row_tells d_row_tells
  b_row_tells : Binds K d_row_tells ["count", "dependencies", "made", "row"] []
  g_row_tells : mg "row_tells" = some (.ref a_row_tells)
  a_Sides_key : Addr
  d_Sides_key : FuncData
  F_Sides_key : Fun K "key" "Sides.key" s_Sides_key a_Sides_key d_Sides_key
  b_Sides_key : Binds K d_Sides_key ["self"] []
  a_Fd_eq : Addr
  d_Fd_eq : FuncData
  F_Fd_eq : Fun K "__eq__" "Fd.__eq__" s_Fd_eq a_Fd_eq d_Fd_eq
  b_Fd_eq : Binds K d_Fd_eq ["self", "other"] []
  a_Mvd_eq : Addr
  d_Mvd_eq : FuncData
  F_Mvd_eq : Fun K "__eq__" "Mvd.__eq__" s_Mvd_eq a_Mvd_eq d_Mvd_eq
  b_Mvd_eq : Binds K d_Mvd_eq ["self", "other"] []
  a_Jd_eq : Addr
  d_Jd_eq : FuncData
  F_Jd_eq : Fun K "__eq__" "Jd.__eq__" s_Jd_eq a_Jd_eq d_Jd_eq
  b_Jd_eq : Binds K d_Jd_eq ["self", "other"] []
  a_derives : Addr
  d_derives : FuncData
  F_derives : Fun K "derives" "derives" s_derives a_derives d_derives
  b_derives : Binds K d_derives ["count", "dependencies", "target", "rows"] []
  g_derives : mg "derives" = some (.ref a_derives)
  a_takes : Addr
  d_takes : FuncData
  F_takes : Fun K "takes" "takes" s_takes a_takes d_takes
  b_takes : Binds K d_takes ["count", "dependencies", "target", "verdict", "paper"] []
  g_takes : mg "takes" = some (.ref a_takes)
  a_Lderives : Addr
  d_Lderives : FuncData
  F_Lderives : Fun K "_law_derives" "_law_derives" s_Lderives a_Lderives d_Lderives
  b_Lderives : Binds K d_Lderives ["_law_count", "_law_told_here", "_law_target", "_law_rows"] []
  g_Lderives : mg "_law_derives" = some (.ref a_Lderives)
  a_law : Addr
  d_law : FuncData
  F_law : Fun K "law" "law" s_law a_law d_law
  b_law : Binds K d_law ["_law_script"] []
  g_law : mg "law" = some (.ref a_law)
  c_Fd : Addr
  cl_Fd : Cls K c_Fd
  gc_Fd : mg "Fd" = some (.ref c_Fd)
  c_Mvd : Addr
  cl_Mvd : Cls K c_Mvd
  gc_Mvd : mg "Mvd" = some (.ref c_Mvd)
  c_Jd : Addr
  cl_Jd : Cls K c_Jd
  gc_Jd : mg "Jd" = some (.ref c_Jd)
  M_Fd : Mk K c_Fd a_Sides_init
  M_Mvd : Mk K c_Mvd a_Sides_init
  M_Jd : Mk K c_Jd a_Jd_init
  na_Fd_left : NoAttr K c_Fd "left"
  na_Fd_right : NoAttr K c_Fd "right"
  na_Mvd_left : NoAttr K c_Mvd "left"
  na_Mvd_right : NoAttr K c_Mvd "right"
  na_Jd_parts : NoAttr K c_Jd "parts"
  pp_Fd_key : Addr
  pr_Fd_key : PropOf K c_Fd "key" pp_Fd_key a_Sides_key
  pp_Mvd_key : Addr
  pr_Mvd_key : PropOf K c_Mvd "key" pp_Mvd_key a_Sides_key
  se_Fd : PySem.W.findIn K (.ref c_Fd) "__eq__" = some (some (.ref a_Fd_eq))
  ie_Fd : PySem.W.isFn K (.ref a_Fd_eq) = true
  se_Mvd : PySem.W.findIn K (.ref c_Mvd) "__eq__" = some (some (.ref a_Mvd_eq))
  ie_Mvd : PySem.W.isFn K (.ref a_Mvd_eq) = true
  se_Jd : PySem.W.findIn K (.ref c_Jd) "__eq__" = some (some (.ref a_Jd_eq))
  ie_Jd : PySem.W.isFn K (.ref a_Jd_eq) = true
  ci_Fd : CI K c_Fd
  ci_Mvd : CI K c_Mvd
  ci_Jd : CI K c_Jd
  ki_Fd_Jd : PySem.W.kitOne K (.ref c_Fd) (.ref c_Jd) = some false
  ki_Mvd_Jd : PySem.W.kitOne K (.ref c_Mvd) (.ref c_Jd) = some false
  ki_Jd_Jd : PySem.W.kitOne K (.ref c_Jd) (.ref c_Jd) = some true
  ki_Fd_Fd : PySem.W.kitOne K (.ref c_Fd) (.ref c_Fd) = some true
  ki_Mvd_Fd : PySem.W.kitOne K (.ref c_Mvd) (.ref c_Fd) = some false
  ki_Jd_Fd : PySem.W.kitOne K (.ref c_Jd) (.ref c_Fd) = some false
  ki_Fd_Mvd : PySem.W.kitOne K (.ref c_Fd) (.ref c_Mvd) = some false
  ki_Mvd_Mvd : PySem.W.kitOne K (.ref c_Mvd) (.ref c_Mvd) = some true
  ki_Jd_Mvd : PySem.W.kitOne K (.ref c_Jd) (.ref c_Mvd) = some false
  nf_Mvd_Fd : PySem.W.subIn K (.ref c_Mvd) (.ref c_Fd) = some false
  nf_Jd_Fd : PySem.W.subIn K (.ref c_Jd) (.ref c_Fd) = some false
  nf_Fd_Mvd : PySem.W.subIn K (.ref c_Fd) (.ref c_Mvd) = some false
  nf_Jd_Mvd : PySem.W.subIn K (.ref c_Jd) (.ref c_Mvd) = some false
  nf_Fd_Jd : PySem.W.subIn K (.ref c_Fd) (.ref c_Jd) = some false
  nf_Mvd_Jd : PySem.W.subIn K (.ref c_Mvd) (.ref c_Jd) = some false
  kb_NoneType_Fd : PySem.W.kitOne K (.type "NoneType") (.ref c_Fd) = some false
  kb_NoneType_Mvd : PySem.W.kitOne K (.type "NoneType") (.ref c_Mvd) = some false
  n_all : mg "all" = none
  n_bool : mg "bool" = none
  n_int : mg "int" = none
  n_isinstance : mg "isinstance" = none
  n_len : mg "len" = none
  n_list : mg "list" = none
  n_range : mg "range" = none
  n_set : mg "set" = none
  n_sorted : mg "sorted" = none
  n_tuple : mg "tuple" = none
section
variable [Tb] {P : Program} {w : World} {K : PySem.W.Frag} {mg : Str → Option Value} {base : Heap}
local macro_rules | `(tactic| decreasing_trivial) => `(tactic| first | ((try dsimp only); (try simp only [InIx, CDiv, CMul, CPow, List.length_append, List.length_cons, List.length_nil, List.length_singleton, List.length_map, List.length_reverse, List.length_take, List.length_drop]) <;> first | assumption | omega | decide) | exact RowOk.i0 (by assumption) | exact RowOk.i1 (by assumption) | exact RowOk.s0 (by assumption) | exact RowOk.int1t (by assumption) (by assumption) | exact RowOk.int1 (by assumption) (by assumption) | exact (RowOk.set1 (by assumption) (by assumption)).1 | exact (RowOk.set1 (by assumption) (by assumption)).2.1 | exact (RowOk.set1 (by assumption) (by assumption)).2.2 | exact (RowOk.int2 (by assumption) (by assumption)).1 | exact (RowOk.int2 (by assumption) (by assumption)).2 | exact (RowOk.set2 (by assumption) (.inl (by assumption))).1 | exact (RowOk.set2 (by assumption) (.inl (by assumption))).2 | exact (RowOk.set2 (by assumption) (.inr (by assumption))).1 | exact (RowOk.set2 (by assumption) (.inr (by assumption))).2 | exact (RowOk.set3 (by assumption) (by assumption)).1 | exact (RowOk.set3 (by assumption) (by assumption)).2 | exact nj_wf (by assumption) | exact nj_wf (And.left (by assumption)) | exact nj_wf (And.right (by assumption)) | exact nj_wf (And.left (And.right (by assumption))) | exact nj_wm (by assumption) | exact nj_wm (And.left (by assumption)) | exact nj_wm (And.right (by assumption)) | exact nj_wm (And.left (And.right (by assumption))) | exact nj_wj (by assumption) | exact nj_wj (And.left (by assumption)) | exact nj_wj (And.right (by assumption)) | exact nj_wj (And.left (And.right (by assumption))) | exact opt_some_fd (by assumption) | exact opt_some_fd (And.left (by assumption)) | exact opt_some_fd (And.right (by assumption)) | exact opt_some_fd (And.left (And.right (by assumption))) | exact opt_some_mvd (by assumption) | exact opt_some_mvd (And.left (by assumption)) | exact opt_some_mvd (And.right (by assumption)) | exact opt_some_mvd (And.left (And.right (by assumption))) | exact opt_nj_fd (by assumption) | exact opt_nj_fd (And.left (by assumption)) | exact opt_nj_fd (And.right (by assumption)) | exact opt_nj_fd (And.left (And.right (by assumption))) | exact opt_nj_mvd (by assumption) | exact opt_nj_mvd (And.left (by assumption)) | exact opt_nj_mvd (And.right (by assumption)) | exact opt_nj_mvd (And.left (And.right (by assumption))) | exact word_jd.mp (by assumption) | exact word_jd.mp (And.left (by assumption)) | exact word_jd.mp (And.right (by assumption)) | exact word_jd.mp (And.left (And.right (by assumption))) | exact some_nn (by assumption) | exact some_nn (And.left (by assumption)) | exact some_nn (And.right (by assumption)) | exact some_nn (And.left (And.right (by assumption))) | exact some_nf (by assumption) | exact some_nf (And.left (by assumption)) | exact some_nf (And.right (by assumption)) | exact some_nf (And.left (And.right (by assumption))) | (show _ ∧ _; (repeat' apply And.intro) <;> first | assumption | omega | decide))
theorem ok_Lnumbers (T : Tx K mg base) : FnOk P w K mg base CX0 1 T.a_Lnumbers T.d_Lnumbers ["_law_script", "_law_count"] (spP (A := (List Int) × Int) (fun x => (x.1.length ≤ 63 ∧ 0 ≤ x.2 ∧ x.2 ≤ 1000)) (fun x => [pu (tL K tI) x.1, pu tI x.2]) (fun x => pu (tLs K tI) (m_Lnumbers x.1 x.2))) := by
  refine fn_ok T.F_Lnumbers sc_Lnumbers (fun _ => rfl) fun X x hX hr hpre => ?_
  obtain ⟨vLscript, vLcount⟩ := x
  obtain ⟨cdv, A, outer, s, H, E, rfl⟩ := hX
  replace hpre : vLscript.length ≤ 63 ∧ 0 ≤ vLcount ∧ vLcount ≤ 1000 := hpre
  have hz1 : sizeLine = 16777216 := rfl
  have hz2 : scanBound = 4096 := rfl
  show SX _ _ [pu (tL K tI) vLscript, pu tI vLcount, un, un, un, un, un] _
  refine SX.imp (P := RetP (fun z : (List Int) => pu (tLs K tI) z) (m_Lnumbers vLscript vLcount)) ?_ fun r h => .inl h
  unfold m_Lnumbers
  refine sx_seq (Γ1 := [pu (tL K tI) vLscript, pu tI vLcount, pu tI (Lnumbers_Lrest1 vLscript vLcount), un, un, un, un]) (s1_setE (i := 2) sc_Lnumbers.nd rfl (by first | exact Or.inl rfl | exact Or.inr rfl) (x_val x_int (z := (Lnumbers_Lrest1 vLscript vLcount)) rfl) (show 2 < 7 by decide) rfl) ?_
  refine f_ifJ (fun (s : Int) => [pu (tL K tI) vLscript, pu tI vLcount, pu tI s, un, un, un, un]) (Lnumbers_j_Lrest1 vLscript vLcount) (A := (Lnumbers_Lrest2 vLscript vLcount)) (B := (Lnumbers_Lrest1 vLscript vLcount)) (t_cmp op_gt (nomark _) (o_IB (g := fun i j => decide (j < i))) (x_callB call_len T.n_len (by decide +kernel) (n_lenA saL) (ea_cons (x_var (i := 0) rfl) ea_nil)) x_int) rfl (fun h1 => ?_) (fun h2 => ?_) ?_
  · try simp only [decide_eq_true_eq, decide_eq_false_iff_not, Bool.and_eq_true, Bool.or_eq_true, Bool.not_eq_true', Bool.not_eq_false', Bool.and_eq_false_iff, Bool.or_eq_false_iff] at h1
    refine sx_seq (Γ1 := [pu (tL K tI) vLscript, pu tI vLcount, pu tI (Lnumbers_Lrest2 vLscript vLcount), un, un, un, un]) (s1_setE (i := 2) sc_Lnumbers.nd rfl (by first | exact Or.inl rfl | exact Or.inr rfl) (x_val (x_ix ix_list (o_ixL sqL (by /-1-/ (try dsimp only); (try simp only [InIx, CDiv, CMul, CPow, List.length_append, List.length_cons, List.length_nil, List.length_singleton, List.length_map, List.length_reverse, List.length_take, List.length_drop]) <;> first | assumption | omega | decide)) (x_var (i := 0) rfl) x_int) (z := (Lnumbers_Lrest2 vLscript vLcount)) rfl) (show 2 < 7 by decide) rfl) ?_
    exact f_nx ⟨_, rfl, Wk.uns []⟩
  · try simp only [decide_eq_true_eq, decide_eq_false_iff_not, Bool.and_eq_true, Bool.or_eq_true, Bool.not_eq_true', Bool.not_eq_false', Bool.and_eq_false_iff, Bool.or_eq_false_iff] at h2
    exact f_nx ⟨_, rfl, Wk.uns []⟩
  refine sx_seq (Γ1 := [pu (tL K tI) vLscript, pu tI vLcount, pu tI (Lnumbers_j_Lrest1 vLscript vLcount), pu tB (Lnumbers_Lby_digits1 vLscript vLcount), un, un, un]) (s1_setE (i := 3) sc_Lnumbers.nd rfl (by first | exact Or.inl rfl | exact Or.inr rfl) (x_val (x_cmp op_ge (nomark _) (o_IB (g := fun i j => decide (j ≤ i))) (x_var (i := 2) rfl) (x_pow x_int x_int (by /-2-/ (try dsimp only); (try simp only [InIx, CDiv, CMul, CPow, List.length_append, List.length_cons, List.length_nil, List.length_singleton, List.length_map, List.length_reverse, List.length_take, List.length_drop]) <;> first | assumption | omega | decide))) (z := (Lnumbers_Lby_digits1 vLscript vLcount)) rfl) (show 3 < 7 by decide) rfl) ?_
  refine sx_seq (Γ1 := [pu (tL K tI) vLscript, pu tI vLcount, pu tI (Lnumbers_j_Lrest1 vLscript vLcount), pu tB (Lnumbers_Lby_digits1 vLscript vLcount), ol tI (Lnumbers_Lnumbers_here1 vLscript vLcount), un, un]) (s1_setE (i := 4) sc_Lnumbers.nd rfl (by first | exact Or.inl rfl | exact Or.inr rfl) (x_valo (x_lst (Ss := []) (n_lst (R := tI) (xs := []) (show 0 ≤ sizeLine by decide)) ea_nil) (zs := (Lnumbers_Lnumbers_here1 vLscript vLcount)) rfl) (show 4 < 7 by decide) rfl) ?_
  refine f_for PassesOwn.never rfl (w_range1 T.n_range (x_var (i := 1) rfl) (by /-3-/ (try dsimp only); (try simp only [InIx, CDiv, CMul, CPow, List.length_append, List.length_cons, List.length_nil, List.length_singleton, List.length_map, List.length_reverse, List.length_take, List.length_drop]) <;> first | assumption | omega | decide) (by /-4-/ (try dsimp only); (try simp only [InIx, CDiv, CMul, CPow, List.length_append, List.length_cons, List.length_nil, List.length_singleton, List.length_map, List.length_reverse, List.length_take, List.length_drop]) <;> first | assumption | omega | decide)) (pg_name (i := 5) sc_Lnumbers.nd rfl (by first | exact Or.inl rfl | exact Or.inr rfl)) (tg_name (show 5 < 7 by decide)) (fun (s : Int × (List Int)) => [pu (tL K tI) vLscript, pu tI vLcount, pu tI s.1, pu tB (Lnumbers_Lby_digits1 vLscript vLcount), ol tI s.2, un, un]) (Lnumbers_st1 vLscript vLcount) ((Lnumbers_j_Lrest1 vLscript vLcount), (Lnumbers_Lnumbers_here1 vLscript vLcount)) (Lnumbers_loop1 vLscript vLcount) rfl (fun _ => rfl) (Wk.uns []) ?_ ?_
  · rintro ix3 x3 ⟨vLrest4, vLnumbers_here5⟩ hxx3 hsx3 hzx3
    have hrhxx3 := rng_at hxx3
    have hl_Lnumbers_here := foldl_len (fun s : Int × (List Int) => s.2) 1 (Lnumbers_st1 vLscript vLcount) (by intro s x; (try unfold Lnumbers_st1); (try unfold Lnumbers_j_Lrest_Lnumbers_here1); (try unfold Lnumbers_j_Lcell1); (repeat' split) <;> (try simp only [Lnumbers_st1, Lnumbers_Lnumbers_here2, Lnumbers_Lrest3, Lnumbers_Lcell1, Lnumbers_Lcell2, Lnumbers_j_Lcell1, Lnumbers_Lnumbers_here3, Lnumbers_j_Lrest_Lnumbers_here1, List.length_append, List.length_cons, List.length_nil]) <;> (try omega)) ((rangeI 0 vLcount).take ix3) ((Lnumbers_j_Lrest1 vLscript vLcount), (Lnumbers_Lnumbers_here1 vLscript vLcount))
    rw [hsx3] at hl_Lnumbers_here
    have hi_Lnumbers_here := (w_at hxx3).1
    simp only [Lnumbers_Lnumbers_here1, List.length_take, List.length_nil, rangeI_len] at hl_Lnumbers_here hi_Lnumbers_here
    refine f_ifJ (fun (s : Int × (List Int)) => [pu (tL K tI) vLscript, pu tI vLcount, pu tI s.1, pu tB (Lnumbers_Lby_digits1 vLscript vLcount), ol tI s.2, pu tI x3, un]) (Lnumbers_j_Lrest_Lnumbers_here1 vLscript vLcount vLrest4 vLnumbers_here5 x3) (A := ((Lnumbers_Lrest3 vLscript vLcount vLrest4 vLnumbers_here5 x3), (Lnumbers_Lnumbers_here2 vLscript vLcount vLrest4 vLnumbers_here5 x3))) (B := (vLrest4, (Lnumbers_Lnumbers_here3 vLscript vLcount vLrest4 vLnumbers_here5 x3))) (t_w (w_and (t_val (x_var (i := 3) rfl)) (fun h6 => (w_one (t_cmp op_gt (nomark _) (o_IB (g := fun i j => decide (j < i))) (x_var (i := 2) rfl) x_int) (.inl rfl))))) rfl (fun h8 => ?_) (fun h9 => ?_) ?_
    · try simp only [decide_eq_true_eq, decide_eq_false_iff_not, Bool.and_eq_true, Bool.or_eq_true, Bool.not_eq_true', Bool.not_eq_false', Bool.and_eq_false_iff, Bool.or_eq_false_iff] at h8
      refine sx_seq (Γ1 := [pu (tL K tI) vLscript, pu tI vLcount, pu tI vLrest4, pu tB (Lnumbers_Lby_digits1 vLscript vLcount), ol tI (Lnumbers_Lnumbers_here2 vLscript vLcount vLrest4 vLnumbers_here5 x3), pu tI x3, un]) (s1_app (i := 4) rfl (x_mod (x_var (i := 2) rfl) x_int (by /-5-/ (try dsimp only); (try simp only [InIx, CDiv, CMul, CPow, List.length_append, List.length_cons, List.length_nil, List.length_singleton, List.length_map, List.length_reverse, List.length_take, List.length_drop]) <;> first | assumption | omega | decide)) rfl (by /-6-/ (try dsimp only); (try simp only [InIx, CDiv, CMul, CPow, List.length_append, List.length_cons, List.length_nil, List.length_singleton, List.length_map, List.length_reverse, List.length_take, List.length_drop]) <;> first | assumption | omega | decide)) ?_
      refine sx_seq (Γ1 := [pu (tL K tI) vLscript, pu tI vLcount, pu tI (Lnumbers_Lrest3 vLscript vLcount vLrest4 vLnumbers_here5 x3), pu tB (Lnumbers_Lby_digits1 vLscript vLcount), ol tI (Lnumbers_Lnumbers_here2 vLscript vLcount vLrest4 vLnumbers_here5 x3), pu tI x3, un]) (s1_setE (i := 2) sc_Lnumbers.nd rfl (by first | exact Or.inl rfl | exact Or.inr rfl) (x_val (x_div (x_var (i := 2) rfl) x_int (by /-7-/ (try dsimp only); (try simp only [InIx, CDiv, CMul, CPow, List.length_append, List.length_cons, List.length_nil, List.length_singleton, List.length_map, List.length_reverse, List.length_take, List.length_drop]) <;> first | assumption | omega | decide)) (z := (Lnumbers_Lrest3 vLscript vLcount vLrest4 vLnumbers_here5 x3)) rfl) (show 2 < 7 by decide) rfl) ?_
      exact f_nx ⟨_, rfl, Wk.uns []⟩
    · try simp only [decide_eq_true_eq, decide_eq_false_iff_not, Bool.and_eq_true, Bool.or_eq_true, Bool.not_eq_true', Bool.not_eq_false', Bool.and_eq_false_iff, Bool.or_eq_false_iff] at h9
      refine sx_seq (Γ1 := [pu (tL K tI) vLscript, pu tI vLcount, pu tI vLrest4, pu tB (Lnumbers_Lby_digits1 vLscript vLcount), ol tI vLnumbers_here5, pu tI x3, pu tI (Lnumbers_Lcell1 vLscript vLcount vLrest4 vLnumbers_here5 x3)]) (s1_setE (i := 6) sc_Lnumbers.nd rfl (by first | exact Or.inl rfl | exact Or.inr rfl) (x_val x_int (z := (Lnumbers_Lcell1 vLscript vLcount vLrest4 vLnumbers_here5 x3)) rfl) (show 6 < 7 by decide) rfl) ?_
      refine f_ifJ (fun (s : Int) => [pu (tL K tI) vLscript, pu tI vLcount, pu tI vLrest4, pu tB (Lnumbers_Lby_digits1 vLscript vLcount), ol tI vLnumbers_here5, pu tI x3, pu tI s]) (Lnumbers_j_Lcell1 vLscript vLcount vLrest4 vLnumbers_here5 x3) (A := (Lnumbers_Lcell2 vLscript vLcount vLrest4 vLnumbers_here5 x3)) (B := (Lnumbers_Lcell1 vLscript vLcount vLrest4 vLnumbers_here5 x3)) (t_cmp op_gt (nomark _) (o_IB (g := fun i j => decide (j < i))) (x_callB call_len T.n_len (by decide +kernel) (n_lenA saL) (ea_cons (x_var (i := 0) rfl) ea_nil)) x_int) rfl (fun h10 => ?_) (fun h11 => ?_) ?_
      · try simp only [decide_eq_true_eq, decide_eq_false_iff_not, Bool.and_eq_true, Bool.or_eq_true, Bool.not_eq_true', Bool.not_eq_false', Bool.and_eq_false_iff, Bool.or_eq_false_iff] at h10
        refine sx_seq (Γ1 := [pu (tL K tI) vLscript, pu tI vLcount, pu tI vLrest4, pu tB (Lnumbers_Lby_digits1 vLscript vLcount), ol tI vLnumbers_here5, pu tI x3, pu tI (Lnumbers_Lcell2 vLscript vLcount vLrest4 vLnumbers_here5 x3)]) (s1_setE (i := 6) sc_Lnumbers.nd rfl (by first | exact Or.inl rfl | exact Or.inr rfl) (x_val (x_add (x_ix ix_list (o_ixL sqL (by have := emod_in (a := x3) h10; simp only [InIx]; omega)) (x_var (i := 0) rfl) (x_mod (x_var (i := 5) rfl) (x_callB call_len T.n_len (by decide +kernel) (n_lenA saL) (ea_cons (x_var (i := 0) rfl) ea_nil)) (by /-8-/ (try dsimp only); (try simp only [InIx, CDiv, CMul, CPow, List.length_append, List.length_cons, List.length_nil, List.length_singleton, List.length_map, List.length_reverse, List.length_take, List.length_drop]) <;> first | assumption | omega | decide))) (x_mul x_int (x_var (i := 5) rfl) (by /-10-/ (try dsimp only); (try simp only [InIx, CDiv, CMul, CPow, List.length_append, List.length_cons, List.length_nil, List.length_singleton, List.length_map, List.length_reverse, List.length_take, List.length_drop]) <;> first | assumption | omega | decide))) (z := (Lnumbers_Lcell2 vLscript vLcount vLrest4 vLnumbers_here5 x3)) rfl) (show 6 < 7 by decide) rfl) ?_
        exact f_nx ⟨_, rfl, Wk.uns []⟩
      · try simp only [decide_eq_true_eq, decide_eq_false_iff_not, Bool.and_eq_true, Bool.or_eq_true, Bool.not_eq_true', Bool.not_eq_false', Bool.and_eq_false_iff, Bool.or_eq_false_iff] at h11
        exact f_nx ⟨_, rfl, Wk.uns []⟩
      refine sx_seq (Γ1 := [pu (tL K tI) vLscript, pu tI vLcount, pu tI vLrest4, pu tB (Lnumbers_Lby_digits1 vLscript vLcount), ol tI (Lnumbers_Lnumbers_here3 vLscript vLcount vLrest4 vLnumbers_here5 x3), pu tI x3, pu tI (Lnumbers_j_Lcell1 vLscript vLcount vLrest4 vLnumbers_here5 x3)]) (s1_app (i := 4) rfl (x_mod (x_mod (x_mul (x_mod (x_mul (x_var (i := 6) rfl) x_int (by /-11-/ (try dsimp only); (try simp only [InIx, CDiv, CMul, CPow, List.length_append, List.length_cons, List.length_nil, List.length_singleton, List.length_map, List.length_reverse, List.length_take, List.length_drop]) <;> first | assumption | omega | decide)) x_int (by /-12-/ (try dsimp only); (try simp only [InIx, CDiv, CMul, CPow, List.length_append, List.length_cons, List.length_nil, List.length_singleton, List.length_map, List.length_reverse, List.length_take, List.length_drop]) <;> first | assumption | omega | decide)) x_int (by /-13-/ (try dsimp only); (try simp only [InIx, CDiv, CMul, CPow, List.length_append, List.length_cons, List.length_nil, List.length_singleton, List.length_map, List.length_reverse, List.length_take, List.length_drop]) <;> first | assumption | omega | decide)) x_int (by /-14-/ (try dsimp only); (try simp only [InIx, CDiv, CMul, CPow, List.length_append, List.length_cons, List.length_nil, List.length_singleton, List.length_map, List.length_reverse, List.length_take, List.length_drop]) <;> first | assumption | omega | decide)) x_int (by /-15-/ (try dsimp only); (try simp only [InIx, CDiv, CMul, CPow, List.length_append, List.length_cons, List.length_nil, List.length_singleton, List.length_map, List.length_reverse, List.length_take, List.length_drop]) <;> first | assumption | omega | decide)) rfl (by /-16-/ (try dsimp only); (try simp only [InIx, CDiv, CMul, CPow, List.length_append, List.length_cons, List.length_nil, List.length_singleton, List.length_map, List.length_reverse, List.length_take, List.length_drop]) <;> first | assumption | omega | decide)) ?_
      exact f_nx ⟨_, rfl, Wk.uns [6]⟩
    exact f_nx ⟨_, .inl rfl, Wk.uns [5]⟩
  exact sx_ret (x_frz (x_mov (i := 4) rfl ol_some)) ⟨_, rfl⟩
theorem ok_Lsparse (T : Tx K mg base) : FnOk P w K mg base CX0 1 T.a_Lsparse T.d_Lsparse ["_law_number", "_law_count"] (spP (A := Int × Int) (fun x => (0 ≤ x.2 ∧ x.2 ≤ 10)) (fun x => [pu tI x.1, pu tI x.2]) (fun x => pu (tT K tI) (m_Lsparse x.1 x.2))) := by
  refine fn_ok T.F_Lsparse sc_Lsparse (fun _ => rfl) fun X x hX hr hpre => ?_
  obtain ⟨vLnumber, vLcount⟩ := x
  obtain ⟨cdv, A, outer, s, H, E, rfl⟩ := hX
  replace hpre : 0 ≤ vLcount ∧ vLcount ≤ 10 := hpre
  have hz1 : sizeLine = 16777216 := rfl
  have hz2 : scanBound = 4096 := rfl
  show SX _ _ [pu tI vLnumber, pu tI vLcount, un] _
  refine SX.imp (P := RetP (fun z : (List Int) => pu (tT K tI) z) (m_Lsparse vLnumber vLcount)) ?_ fun r h => .inl h
  unfold m_Lsparse
  exact sx_ret (x_callT call_tuple_of T.n_tuple (by decide +kernel) (n_tupleL sqLs) (ea_cons (x_frz (x_valoE (x_lc rfl sc_Lsparse.nd (w_range1 T.n_range (x_var (i := 1) rfl) (by /-1-/ (try dsimp only); (try simp only [InIx, CDiv, CMul, CPow, List.length_append, List.length_cons, List.length_nil, List.length_singleton, List.length_map, List.length_reverse, List.length_take, List.length_drop]) <;> first | assumption | omega | decide) (by /-2-/ (try dsimp only); (try simp only [InIx, CDiv, CMul, CPow, List.length_append, List.length_cons, List.length_nil, List.length_singleton, List.length_map, List.length_reverse, List.length_take, List.length_drop]) <;> first | assumption | omega | decide)) (blkOk_by (own := [("_law_k", 2)]) (N := N_Lsparse) (sc := defScope s_Lsparse) (by decide +kernel)) (fun _ _ _ _ _ => (pg_name (i := 2) sc_Lsparse.nd rfl (by first | exact Or.inl rfl | exact Or.inr rfl))) (tg_name (show 2 < 3 by decide)) (fun (x1 : Int) => (decide (((vLnumber / (ix ([(1 : Int), (3 : Int), (9 : Int), (27 : Int), (81 : Int), (243 : Int), (729 : Int), (2187 : Int), (6561 : Int), (19683 : Int)] : List Int) x1)) % (3 : Int)) = (1 : Int)))) (fun (x1 : Int) => x1) (fun _ _ _ _ _ ix1 x1 hxx1 => (is_one (t_cmp (op_eqD hr.units) (nomark _) (o_eqD dI) (x_mod (x_div (x_var (i := 0) rfl) (x_ixLits (xs := ([(1 : Int), (3 : Int), (9 : Int), (27 : Int), (81 : Int), (243 : Int), (729 : Int), (2187 : Int), (6561 : Int), (19683 : Int)] : List Int)) rfl (show 10 ≤ sizeLine by decide) (by /-3-/ have hrhxx1 := rng_at hxx1; (try dsimp only); (try simp only [InIx, CDiv, CMul, CPow, List.length_append, List.length_cons, List.length_nil, List.length_singleton, List.length_map, List.length_reverse, List.length_take, List.length_drop]) <;> first | assumption | omega | decide) (x_var (i := 2) rfl)) (by have := rng_at hxx1; exact ix3_all ⟨this.1, by omega⟩)) x_int (by /-5-/ have hrhxx1 := rng_at hxx1; (try dsimp only); (try simp only [InIx, CDiv, CMul, CPow, List.length_append, List.length_cons, List.length_nil, List.length_singleton, List.length_map, List.length_reverse, List.length_take, List.length_drop]) <;> first | assumption | omega | decide)) x_int))) (fun _ _ _ _ _ ix1 x1 hxx1 hpx1 => (x_var (i := 2) rfl))) lc_fid rfl)) ea_nil)) ⟨_, rfl⟩
theorem ok_Lless (T : Tx K mg base) : FnOk P w K mg base CX0 1 T.a_Lless T.d_Lless ["_law_a", "_law_b"] (spP (A := (List Int) × (List Int)) (fun x => True) (fun x => [pu (tT K tI) x.1, pu (tT K tI) x.2]) (fun x => pu (tT K tI) (m_Lless x.1 x.2))) := by
  refine fn_ok T.F_Lless sc_Lless (fun _ => rfl) fun X x hX hr hpre => ?_
  obtain ⟨vLa, vLb⟩ := x
  obtain ⟨cdv, A, outer, s, H, E, rfl⟩ := hX
  have hz1 : sizeLine = 16777216 := rfl
  have hz2 : scanBound = 4096 := rfl
  show SX _ _ [pu (tT K tI) vLa, pu (tT K tI) vLb, un] _
  refine SX.imp (P := RetP (fun z : (List Int) => pu (tT K tI) z) (m_Lless vLa vLb)) ?_ fun r h => .inl h
  unfold m_Lless
  exact sx_ret (x_callT call_tuple_of T.n_tuple (by decide +kernel) (n_tupleL sqLs) (ea_cons (x_frz (x_valoE (x_lc rfl sc_Lless.nd (w_tup sqT (x_var (i := 0) rfl)) (blkOk_by (own := [("_law_k", 2)]) (N := N_Lless) (sc := defScope s_Lless) (by decide +kernel)) (fun _ _ _ _ _ => (pg_name (i := 2) sc_Lless.nd rfl (by first | exact Or.inl rfl | exact Or.inr rfl))) (tg_name (show 2 < 3 by decide)) (fun (x1 : Int) => (!(decide (x1 ∈ vLb)))) (fun (x1 : Int) => x1) (fun _ _ _ _ _ ix1 x1 hxx1 => (is_one (t_cmp op_notIn_seq (by rfl) (o_notin saT) (x_var (i := 2) rfl) (x_var (i := 1) rfl)))) (fun _ _ _ _ _ ix1 x1 hxx1 hpx1 => (x_var (i := 2) rfl))) lc_fid rfl)) ea_nil)) ⟨_, rfl⟩
theorem ok_Lunited (T : Tx K mg base) : FnOk P w K mg base CX0 1 T.a_Lunited T.d_Lunited ["_law_a", "_law_b"] (spP (A := (List Int) × (List Int)) (fun x => (x.1.length + x.2.length < 64)) (fun x => [pu (tT K tI) x.1, pu (tT K tI) x.2]) (fun x => pu (tT K tI) (m_Lunited x.1 x.2))) := by
  refine fn_ok T.F_Lunited sc_Lunited (fun _ => rfl) fun X x hX hr hpre => ?_
  obtain ⟨vLa, vLb⟩ := x
  obtain ⟨cdv, A, outer, s, H, E, rfl⟩ := hX
  replace hpre : vLa.length + vLb.length < 64 := hpre
  have hz1 : sizeLine = 16777216 := rfl
  have hz2 : scanBound = 4096 := rfl
  show SX _ _ [pu (tT K tI) vLa, pu (tT K tI) vLb] _
  refine SX.imp (P := RetP (fun z : (List Int) => pu (tT K tI) z) (m_Lunited vLa vLb)) ?_ fun r h => .inl h
  unfold m_Lunited
  exact sx_ret (x_callT call_tuple_of T.n_tuple (by decide +kernel) (n_tupleL sqLs) (ea_cons (x_frz (x_callB (cr_sortedSet rfl) T.n_sorted (by decide +kernel) (n_sortSet (by /-3-/ (try dsimp only); (try simp only [InIx, CDiv, CMul, CPow, List.length_append, List.length_cons, List.length_nil, List.length_singleton, List.length_map, List.length_reverse, List.length_take, List.length_drop]) <;> first | assumption | omega | decide)) (ea_cons (x_callT (cr_setT rfl) T.n_set (by decide +kernel) (n_setT sqT (by /-2-/ (try dsimp only); (try simp only [InIx, CDiv, CMul, CPow, List.length_append, List.length_cons, List.length_nil, List.length_singleton, List.length_map, List.length_reverse, List.length_take, List.length_drop]) <;> first | assumption | omega | decide)) (ea_cons (x_catT (x_var (i := 0) rfl) (x_var (i := 1) rfl) (by /-1-/ (try dsimp only); (try simp only [InIx, CDiv, CMul, CPow, List.length_append, List.length_cons, List.length_nil, List.length_singleton, List.length_map, List.length_reverse, List.length_take, List.length_drop]) <;> first | assumption | omega | decide)) ea_nil)) ea_nil))) ea_nil)) ⟨_, rfl⟩
theorem ok_Ldependency (T : Tx K mg base) : FnOk P w K mg base CX0 2 T.a_Ldependency T.d_Ldependency ["_law_numbers_here", "_law_place", "_law_count"] (spP (A := (List Int) × Int × Int) (fun x => (0 ≤ x.2.1 ∧ x.2.1 + 1 < x.1.length ∧ 0 ≤ x.2.2 ∧ x.2.2 ≤ 10)) (fun x => [pu (tLs K tI) x.1, pu tI x.2.1, pu tI x.2.2]) (fun x => pu (tLd K) (m_Ldependency x.1 x.2.1 x.2.2))) := by
  refine fn_ok T.F_Ldependency sc_Ldependency (fun _ => rfl) fun X x hX hr hpre => ?_
  obtain ⟨vLnumbers_here, vLplace, vLcount⟩ := x
  obtain ⟨cdv, A, outer, s, H, E, rfl⟩ := hX
  replace hpre : 0 ≤ vLplace ∧ vLplace + 1 < vLnumbers_here.length ∧ 0 ≤ vLcount ∧ vLcount ≤ 10 := hpre
  have hz1 : sizeLine = 16777216 := rfl
  have hz2 : scanBound = 4096 := rfl
  have hl0 := (m_Lsparse_cols (k := ix vLnumbers_here vLplace / 5) (c := vLcount) (n := 10) (by omega)).len
  have hl1 := (m_Lsparse_cols (k := ix vLnumbers_here (vLplace + 1)) (c := vLcount) (n := 10) (by omega)).len
  have hw : (rangeI 0 vLcount).length ≤ 10 := by rw [rangeI_len]; omega
  have hs := Lless_len (rangeI 0 vLcount) (Ldependency_Lright1 vLnumbers_here vLplace vLcount)
  have hl_ : (Ldependency_Lleft1 vLnumbers_here vLplace vLcount).length ≤ 10 := hl0
  have he_ : (Ldependency_Lrest1 vLnumbers_here vLplace vLcount).length ≤ 10 := Nat.le_trans hs hw
  show SX _ _ [pu (tLs K tI) vLnumbers_here, pu tI vLplace, pu tI vLcount, un, un, un, un, un] _
  refine SX.imp (P := RetP (fun z : Dep => pu (tLd K) z) (m_Ldependency vLnumbers_here vLplace vLcount)) ?_ fun r h => .inl h
  unfold m_Ldependency
  refine sx_seq (Γ1 := [pu (tLs K tI) vLnumbers_here, pu tI vLplace, pu tI vLcount, pu tI (Ldependency_Lkind1 vLnumbers_here vLplace vLcount), un, un, un, un]) (s1_setE (i := 3) sc_Ldependency.nd rfl (by first | exact Or.inl rfl | exact Or.inr rfl) (x_val (x_mod (x_ix ix_list (o_ixL sqLs (by /-1-/ decreasing_trivial)) (x_var (i := 0) rfl) (x_var (i := 1) rfl)) x_int (by /-2-/ decreasing_trivial)) (z := (Ldependency_Lkind1 vLnumbers_here vLplace vLcount)) rfl) (show 3 < 8 by decide) rfl) ?_
  refine sx_seq (Γ1 := [pu (tLs K tI) vLnumbers_here, pu tI vLplace, pu tI vLcount, pu tI (Ldependency_Lkind1 vLnumbers_here vLplace vLcount), pu (tT K tI) (Ldependency_Lleft1 vLnumbers_here vLplace vLcount), un, un, un]) (s1_setE (i := 4) sc_Ldependency.nd rfl (by first | exact Or.inl rfl | exact Or.inr rfl) (x_val (x_callS (Ss := [pu tI ((ix vLnumbers_here vLplace) / (5 : Int)), pu tI vLcount]) (S' := pu (tT K tI) (m_Lsparse ((ix vLnumbers_here vLplace) / (5 : Int)) vLcount)) (ok_Lsparse T) (hr.mono (by decide)) T.g_Lsparse T.F_Lsparse.kp T.b_Lsparse (((ix vLnumbers_here vLplace) / (5 : Int)), vLcount) (by /-5-/ decreasing_trivial) (eas_cons (x_div (x_ix ix_list (o_ixL sqLs (by /-3-/ decreasing_trivial)) (x_var (i := 0) rfl) (x_var (i := 1) rfl)) x_int (by /-4-/ decreasing_trivial)) (eas_cons (x_var (i := 2) rfl) eas_nil)) rfl rfl) (z := (Ldependency_Lleft1 vLnumbers_here vLplace vLcount)) rfl) (show 4 < 8 by decide) rfl) ?_
  refine sx_seq (Γ1 := [pu (tLs K tI) vLnumbers_here, pu tI vLplace, pu tI vLcount, pu tI (Ldependency_Lkind1 vLnumbers_here vLplace vLcount), pu (tT K tI) (Ldependency_Lleft1 vLnumbers_here vLplace vLcount), pu (tT K tI) (Ldependency_Lright1 vLnumbers_here vLplace vLcount), un, un]) (s1_setE (i := 5) sc_Ldependency.nd rfl (by first | exact Or.inl rfl | exact Or.inr rfl) (x_val (x_callS (Ss := [pu tI (ix vLnumbers_here (vLplace + (1 : Int))), pu tI vLcount]) (S' := pu (tT K tI) (m_Lsparse (ix vLnumbers_here (vLplace + (1 : Int))) vLcount)) (ok_Lsparse T) (hr.mono (by decide)) T.g_Lsparse T.F_Lsparse.kp T.b_Lsparse ((ix vLnumbers_here (vLplace + (1 : Int))), vLcount) (by /-7-/ decreasing_trivial) (eas_cons (x_ix ix_list (o_ixL sqLs (by /-6-/ decreasing_trivial)) (x_var (i := 0) rfl) (x_add (x_var (i := 1) rfl) x_int)) (eas_cons (x_var (i := 2) rfl) eas_nil)) rfl rfl) (z := (Ldependency_Lright1 vLnumbers_here vLplace vLcount)) rfl) (show 5 < 8 by decide) rfl) ?_
  refine f_ifr (P := (RetP (fun z : Dep => pu (tLd K) z))) (t_cmp op_lt (nomark _) (o_IB (g := fun i j => decide (i < j))) (x_var (i := 3) rfl) x_int) (fun h1 => ?_) (fun h2 => ?_)
  · try simp only [decide_eq_true_eq, decide_eq_false_iff_not, Bool.and_eq_true, Bool.or_eq_true, Bool.not_eq_true', Bool.not_eq_false', Bool.and_eq_false_iff, Bool.or_eq_false_iff] at h1
    exact sx_ret (x_co co_mkF (x_tup (n_p3 (K := K) (R1 := tS) (R2' := (tT K tI)) (R3' := (tT K tI))) (ea_cons x_str (ea_cons (x_var (i := 4) rfl) (ea_cons (x_var (i := 5) rfl) ea_nil))))) ⟨⟨_, rfl⟩, fun h => h⟩
  try simp only [decide_eq_true_eq, decide_eq_false_iff_not, Bool.and_eq_true, Bool.or_eq_true, Bool.not_eq_true', Bool.not_eq_false', Bool.and_eq_false_iff, Bool.or_eq_false_iff] at h2
  refine f_ifr (P := (RetP (fun z : Dep => pu (tLd K) z))) (t_cmp op_lt (nomark _) (o_IB (g := fun i j => decide (i < j))) (x_var (i := 3) rfl) x_int) (fun h3 => ?_) (fun h4 => ?_)
  · try simp only [decide_eq_true_eq, decide_eq_false_iff_not, Bool.and_eq_true, Bool.or_eq_true, Bool.not_eq_true', Bool.not_eq_false', Bool.and_eq_false_iff, Bool.or_eq_false_iff] at h3
    exact sx_ret (x_co co_mkM (x_tup (n_p3 (K := K) (R1 := tS) (R2' := (tT K tI)) (R3' := (tT K tI))) (ea_cons x_str (ea_cons (x_var (i := 4) rfl) (ea_cons (x_var (i := 5) rfl) ea_nil))))) ⟨⟨_, rfl⟩, fun h => h⟩
  try simp only [decide_eq_true_eq, decide_eq_false_iff_not, Bool.and_eq_true, Bool.or_eq_true, Bool.not_eq_true', Bool.not_eq_false', Bool.and_eq_false_iff, Bool.or_eq_false_iff] at h4
  refine sx_seq (Γ1 := [pu (tLs K tI) vLnumbers_here, pu tI vLplace, pu tI vLcount, pu tI (Ldependency_Lkind1 vLnumbers_here vLplace vLcount), pu (tT K tI) (Ldependency_Lleft1 vLnumbers_here vLplace vLcount), pu (tT K tI) (Ldependency_Lright1 vLnumbers_here vLplace vLcount), pu (tT K tI) (Ldependency_Lrest1 vLnumbers_here vLplace vLcount), un]) (s1_setE (i := 6) sc_Ldependency.nd rfl (by first | exact Or.inl rfl | exact Or.inr rfl) (x_val (x_callS (Ss := [pu (tT K tI) (rangeI 0 vLcount), pu (tT K tI) (Ldependency_Lright1 vLnumbers_here vLplace vLcount)]) (S' := pu (tT K tI) (m_Lless (rangeI 0 vLcount) (Ldependency_Lright1 vLnumbers_here vLplace vLcount))) (ok_Lless T) (hr.mono (by decide)) T.g_Lless T.F_Lless.kp T.b_Lless ((rangeI 0 vLcount), (Ldependency_Lright1 vLnumbers_here vLplace vLcount)) trivial (eas_cons (x_tupRange rfl T.n_tuple T.n_range (x_var (i := 2) rfl) (by /-8-/ decreasing_trivial)) (eas_cons (x_var (i := 5) rfl) eas_nil)) rfl rfl) (z := (Ldependency_Lrest1 vLnumbers_here vLplace vLcount)) rfl) (show 6 < 8 by decide) rfl) ?_
  refine sx_seq (Γ1 := [pu (tLs K tI) vLnumbers_here, pu tI vLplace, pu tI vLcount, pu tI (Ldependency_Lkind1 vLnumbers_here vLplace vLcount), pu (tT K tI) (Ldependency_Lleft1 vLnumbers_here vLplace vLcount), pu (tT K tI) (Ldependency_Lright1 vLnumbers_here vLplace vLcount), pu (tT K tI) (Ldependency_Lrest1 vLnumbers_here vLplace vLcount), pu (tT K (tT K tI)) (Ldependency_Lparts1 vLnumbers_here vLplace vLcount)]) (s1_setE (i := 7) sc_Ldependency.nd rfl (by first | exact Or.inl rfl | exact Or.inr rfl) (x_val (x_tup (Ss := [pu (tT K tI) (m_Lunited (Ldependency_Lrest1 vLnumbers_here vLplace vLcount) (Ldependency_Lleft1 vLnumbers_here vLplace vLcount)), pu (tT K tI) (Ldependency_Lright1 vLnumbers_here vLplace vLcount)]) (n_tup (K := K) (R := (tT K tI)) (xs := [(m_Lunited (Ldependency_Lrest1 vLnumbers_here vLplace vLcount) (Ldependency_Lleft1 vLnumbers_here vLplace vLcount)), (Ldependency_Lright1 vLnumbers_here vLplace vLcount)]) (show 2 ≤ sizeLine by decide)) (ea_cons (x_callS (Ss := [pu (tT K tI) (Ldependency_Lrest1 vLnumbers_here vLplace vLcount), pu (tT K tI) (Ldependency_Lleft1 vLnumbers_here vLplace vLcount)]) (S' := pu (tT K tI) (m_Lunited (Ldependency_Lrest1 vLnumbers_here vLplace vLcount) (Ldependency_Lleft1 vLnumbers_here vLplace vLcount))) (ok_Lunited T) (hr.mono (by decide)) T.g_Lunited T.F_Lunited.kp T.b_Lunited ((Ldependency_Lrest1 vLnumbers_here vLplace vLcount), (Ldependency_Lleft1 vLnumbers_here vLplace vLcount)) (by /-9-/ decreasing_trivial) (eas_cons (x_var (i := 6) rfl) (eas_cons (x_var (i := 4) rfl) eas_nil)) rfl rfl) (ea_cons (x_var (i := 5) rfl) ea_nil))) (z := (Ldependency_Lparts1 vLnumbers_here vLplace vLcount)) rfl) (show 7 < 8 by decide) rfl) ?_
  refine f_ifJ (fun (s : (List (List Int))) => [pu (tLs K tI) vLnumbers_here, pu tI vLplace, pu tI vLcount, pu tI (Ldependency_Lkind1 vLnumbers_here vLplace vLcount), pu (tT K tI) (Ldependency_Lleft1 vLnumbers_here vLplace vLcount), pu (tT K tI) (Ldependency_Lright1 vLnumbers_here vLplace vLcount), pu (tT K tI) (Ldependency_Lrest1 vLnumbers_here vLplace vLcount), pu (tT K (tT K tI)) s]) (Ldependency_j_Lparts1 vLnumbers_here vLplace vLcount) (A := (Ldependency_Lparts2 vLnumbers_here vLplace vLcount)) (B := (Ldependency_Lparts1 vLnumbers_here vLplace vLcount)) (t_cmp (op_eqD hr.units) (nomark _) (o_eqD dI) (x_mod (x_div (x_ix ix_list (o_ixL sqLs (by /-10-/ decreasing_trivial)) (x_var (i := 0) rfl) (x_add (x_var (i := 1) rfl) x_int)) x_int (by /-11-/ decreasing_trivial)) x_int (by /-12-/ decreasing_trivial)) x_int) rfl (fun h5 => ?_) (fun h6 => ?_) ?_
  · try simp only [decide_eq_true_eq, decide_eq_false_iff_not, Bool.and_eq_true, Bool.or_eq_true, Bool.not_eq_true', Bool.not_eq_false', Bool.and_eq_false_iff, Bool.or_eq_false_iff] at h5
    refine sx_seq (Γ1 := [pu (tLs K tI) vLnumbers_here, pu tI vLplace, pu tI vLcount, pu tI (Ldependency_Lkind1 vLnumbers_here vLplace vLcount), pu (tT K tI) (Ldependency_Lleft1 vLnumbers_here vLplace vLcount), pu (tT K tI) (Ldependency_Lright1 vLnumbers_here vLplace vLcount), pu (tT K tI) (Ldependency_Lrest1 vLnumbers_here vLplace vLcount), pu (tT K (tT K tI)) (Ldependency_Lparts2 vLnumbers_here vLplace vLcount)]) (s1_setE (i := 7) sc_Ldependency.nd rfl (by first | exact Or.inl rfl | exact Or.inr rfl) (x_val (x_tup (Ss := [pu (tT K tI) (Ldependency_Lright1 vLnumbers_here vLplace vLcount), pu (tT K tI) (Ldependency_Lleft1 vLnumbers_here vLplace vLcount), pu (tT K tI) (Ldependency_Lrest1 vLnumbers_here vLplace vLcount)]) (n_tup (K := K) (R := (tT K tI)) (xs := [(Ldependency_Lright1 vLnumbers_here vLplace vLcount), (Ldependency_Lleft1 vLnumbers_here vLplace vLcount), (Ldependency_Lrest1 vLnumbers_here vLplace vLcount)]) (show 3 ≤ sizeLine by decide)) (ea_cons (x_var (i := 5) rfl) (ea_cons (x_var (i := 4) rfl) (ea_cons (x_var (i := 6) rfl) ea_nil)))) (z := (Ldependency_Lparts2 vLnumbers_here vLplace vLcount)) rfl) (show 7 < 8 by decide) rfl) ?_
    exact f_nx ⟨_, rfl, Wk.uns []⟩
  · try simp only [decide_eq_true_eq, decide_eq_false_iff_not, Bool.and_eq_true, Bool.or_eq_true, Bool.not_eq_true', Bool.not_eq_false', Bool.and_eq_false_iff, Bool.or_eq_false_iff] at h6
    exact f_nx ⟨_, rfl, Wk.uns []⟩
  exact sx_ret (x_co co_mkJ (x_tup (n_p2 (K := K) (R1 := tS) (R2' := (tT K (tT K tI)))) (ea_cons x_str (ea_cons (x_var (i := 7) rfl) ea_nil)))) ⟨_, rfl⟩
theorem ok_Ltold (T : Tx K mg base) : FnOk P w K mg base CX0 3 T.a_Ltold T.d_Ltold ["_law_numbers_here", "_law_place", "_law_count", "_law_many"] (spP (A := (List Int) × Int × Int × Int) (fun x => (0 ≤ x.2.1 ∧ x.2.1 + 2 * x.2.2.2 ≤ x.1.length ∧ 0 ≤ x.2.2.1 ∧ x.2.2.1 ≤ 10 ∧ 0 ≤ x.2.2.2 ∧ x.2.2.2 ≤ 4)) (fun x => [pu (tLs K tI) x.1, pu tI x.2.1, pu tI x.2.2.1, pu tI x.2.2.2]) (fun x => pu (tLs K (tLd K)) (m_Ltold x.1 x.2.1 x.2.2.1 x.2.2.2))) := by
  refine fn_ok T.F_Ltold sc_Ltold (fun _ => rfl) fun X x hX hr hpre => ?_
  obtain ⟨vLnumbers_here, vLplace, vLcount, vLmany⟩ := x
  obtain ⟨cdv, A, outer, s, H, E, rfl⟩ := hX
  replace hpre : 0 ≤ vLplace ∧ vLplace + 2 * vLmany ≤ vLnumbers_here.length ∧ 0 ≤ vLcount ∧ vLcount ≤ 10 ∧ 0 ≤ vLmany ∧ vLmany ≤ 4 := hpre
  have hz1 : sizeLine = 16777216 := rfl
  have hz2 : scanBound = 4096 := rfl
  show SX _ _ [pu (tLs K tI) vLnumbers_here, pu tI vLplace, pu tI vLcount, pu tI vLmany, un, un, un, un, un] _
  refine SX.imp (P := RetP (fun z : (List Dep) => pu (tLs K (tLd K)) z) (m_Ltold vLnumbers_here vLplace vLcount vLmany)) ?_ fun r h => .inl h
  unfold m_Ltold
  refine sx_seq (Γ1 := [pu (tLs K tI) vLnumbers_here, pu tI vLplace, pu tI vLcount, pu tI vLmany, ol (tLd K) (Ltold_Lfound1 vLnumbers_here vLplace vLcount vLmany), un, un, un, un]) (s1_setE (i := 4) sc_Ltold.nd rfl (by first | exact Or.inl rfl | exact Or.inr rfl) (x_valo (x_lst (Ss := []) (n_lst (R := (tLd K)) (xs := []) (show 0 ≤ sizeLine by decide)) ea_nil) (zs := (Ltold_Lfound1 vLnumbers_here vLplace vLcount vLmany)) rfl) (show 4 < 9 by decide) rfl) ?_
  refine f_for PassesOwn.never rfl (w_range1 T.n_range (x_var (i := 3) rfl) (by /-1-/ decreasing_trivial) (by /-2-/ decreasing_trivial)) (pg_name (i := 5) sc_Ltold.nd rfl (by first | exact Or.inl rfl | exact Or.inr rfl)) (tg_name (show 5 < 9 by decide)) (fun (s : (List Dep)) => [pu (tLs K tI) vLnumbers_here, pu tI vLplace, pu tI vLcount, pu tI vLmany, ol (tLd K) s, un, un, un, un]) (Ltold_st1 vLnumbers_here vLplace vLcount vLmany) (Ltold_Lfound1 vLnumbers_here vLplace vLcount vLmany) (Ltold_loop1 vLnumbers_here vLplace vLcount vLmany) rfl (fun _ => rfl) (Wk.uns []) ?_ ?_
  · intro ix1 x1 vLfound2 hxx1 hsx1 hzx1
    have hrhxx1 := rng_at hxx1
    have ht_ := told_at hpre.2.2.1 hpre.2.2.2.1 hsx1 hxx1
    have hti := ht_.1
    have htl := ht_.2.1
    have hl_Lfound := foldl_len (fun s : (List Dep) => s) 1 (Ltold_st1 vLnumbers_here vLplace vLcount vLmany) (by intro s x; (try unfold Ltold_st1); (try unfold Ltold_j_Lone2); (try unfold Ltold_j_Lone1); (repeat' split) <;> (try simp only [Ltold_st1, Ltold_Lone1, Ltold_Ltheme1, Ltold_Lbefore1, Ltold_Lone2, Ltold_Lone3, Ltold_j_Lone1, Ltold_j_Lone2, Ltold_Lfound2, List.length_append, List.length_cons, List.length_nil]) <;> (try omega)) ((rangeI 0 vLmany).take ix1) (Ltold_Lfound1 vLnumbers_here vLplace vLcount vLmany)
    rw [hsx1] at hl_Lfound
    have hi_Lfound := (w_at hxx1).1
    simp only [Ltold_Lfound1, List.length_take, List.length_nil, rangeI_len] at hl_Lfound hi_Lfound
    refine sx_seq (Γ1 := [pu (tLs K tI) vLnumbers_here, pu tI vLplace, pu tI vLcount, pu tI vLmany, ol (tLd K) vLfound2, pu tI x1, pu (tLd K) (Ltold_Lone1 vLnumbers_here vLplace vLcount vLmany vLfound2 x1), un, un]) (s1_setE (i := 6) sc_Ltold.nd rfl (by first | exact Or.inl rfl | exact Or.inr rfl) (x_val (x_callS (Ss := [pu (tLs K tI) vLnumbers_here, pu tI (vLplace + ((2 : Int) * x1)), pu tI vLcount]) (S' := pu (tLd K) (m_Ldependency vLnumbers_here (vLplace + ((2 : Int) * x1)) vLcount)) (ok_Ldependency T) (hr.mono (by decide)) T.g_Ldependency T.F_Ldependency.kp T.b_Ldependency (vLnumbers_here, (vLplace + ((2 : Int) * x1)), vLcount) (by /-4-/ decreasing_trivial) (eas_cons (x_var (i := 0) rfl) (eas_cons (x_add (x_var (i := 1) rfl) (x_mul x_int (x_var (i := 5) rfl) (by /-3-/ decreasing_trivial))) (eas_cons (x_var (i := 2) rfl) eas_nil))) rfl rfl) (z := (Ltold_Lone1 vLnumbers_here vLplace vLcount vLmany vLfound2 x1)) rfl) (show 6 < 9 by decide) rfl) ?_
    refine sx_seq (Γ1 := [pu (tLs K tI) vLnumbers_here, pu tI vLplace, pu tI vLcount, pu tI vLmany, ol (tLd K) vLfound2, pu tI x1, pu (tLd K) (Ltold_Lone1 vLnumbers_here vLplace vLcount vLmany vLfound2 x1), pu tI (Ltold_Ltheme1 vLnumbers_here vLplace vLcount vLmany vLfound2 x1), un]) (s1_setE (i := 7) sc_Ltold.nd rfl (by first | exact Or.inl rfl | exact Or.inr rfl) (x_val (x_mod (x_div (x_ix ix_list (o_ixL sqLs (by /-6-/ decreasing_trivial)) (x_var (i := 0) rfl) (x_add (x_add (x_var (i := 1) rfl) (x_mul x_int (x_var (i := 5) rfl) (by /-5-/ decreasing_trivial))) x_int)) x_int (by /-7-/ decreasing_trivial)) x_int (by /-8-/ decreasing_trivial)) (z := (Ltold_Ltheme1 vLnumbers_here vLplace vLcount vLmany vLfound2 x1)) rfl) (show 7 < 9 by decide) rfl) ?_
    refine f_ifJ (fun (s : Dep) => [pu (tLs K tI) vLnumbers_here, pu tI vLplace, pu tI vLcount, pu tI vLmany, ol (tLd K) vLfound2, pu tI x1, pu (tLd K) s, pu tI (Ltold_Ltheme1 vLnumbers_here vLplace vLcount vLmany vLfound2 x1), un]) (Ltold_j_Lone2 vLnumbers_here vLplace vLcount vLmany vLfound2 x1) (A := (Ltold_j_Lone1 vLnumbers_here vLplace vLcount vLmany vLfound2 x1)) (B := (Ltold_Lone1 vLnumbers_here vLplace vLcount vLmany vLfound2 x1)) (t_bor (Fz.pu (Fz.pu (Fz.pu (Fz.pu (Fz.ol (Fz.pu (Fz.pu (Fz.pu (Fz.un Fz.nil))))))))) (t_w (w_and (t_cmp op_gt (nomark _) (o_IB (g := fun i j => decide (j < i))) (x_var (i := 5) rfl) x_int) (fun h3 => (w_and (t_cmp op_ne (nomark _) o_neS (x_ldW (x_var (i := 6) rfl) x_int) x_str) (fun h4 => (w_and (t_cmp op_ne (nomark _) o_neS (x_ldW (x_ix ix_list (o_ixL sqLs (by /-9-/ (try simp only [decide_eq_true_eq, decide_eq_false_iff_not, Bool.and_eq_true, Bool.or_eq_true, Bool.not_eq_true', Bool.not_eq_false'] at h3 h4); decreasing_trivial)) (x_var (i := 4) rfl) (x_subt (x_var (i := 5) rfl) x_int)) x_int) x_str) (fun h5 => (w_one (t_cmp op_gt (nomark _) (o_IB (g := fun i j => decide (j < i))) (x_var (i := 7) rfl) x_int) (.inl rfl)))))))))) rfl (fun h7 => ?_) (fun h8 => ?_) ?_
    · try simp only [decide_eq_true_eq, decide_eq_false_iff_not, Bool.and_eq_true, Bool.or_eq_true, Bool.not_eq_true', Bool.not_eq_false', Bool.and_eq_false_iff, Bool.or_eq_false_iff] at h7
      refine sx_seq (Γ1 := [pu (tLs K tI) vLnumbers_here, pu tI vLplace, pu tI vLcount, pu tI vLmany, ol (tLd K) vLfound2, pu tI x1, pu (tLd K) (Ltold_Lone1 vLnumbers_here vLplace vLcount vLmany vLfound2 x1), pu tI (Ltold_Ltheme1 vLnumbers_here vLplace vLcount vLmany vLfound2 x1), pu (tLd K) (Ltold_Lbefore1 vLnumbers_here vLplace vLcount vLmany vLfound2 x1)]) (s1_setE (i := 8) sc_Ltold.nd rfl (by first | exact Or.inl rfl | exact Or.inr rfl) (x_val (x_ixO (i := 4) rfl (x_subt (x_var (i := 5) rfl) x_int) (by /-10-/ decreasing_trivial)) (z := (Ltold_Lbefore1 vLnumbers_here vLplace vLcount vLmany vLfound2 x1)) rfl) (show 8 < 9 by decide) rfl) ?_
      refine f_ifJ (fun (s : Dep) => [pu (tLs K tI) vLnumbers_here, pu tI vLplace, pu tI vLcount, pu tI vLmany, ol (tLd K) vLfound2, pu tI x1, pu (tLd K) s, pu tI (Ltold_Ltheme1 vLnumbers_here vLplace vLcount vLmany vLfound2 x1), pu (tLd K) (Ltold_Lbefore1 vLnumbers_here vLplace vLcount vLmany vLfound2 x1)]) (Ltold_j_Lone1 vLnumbers_here vLplace vLcount vLmany vLfound2 x1) (A := (Ltold_Lone2 vLnumbers_here vLplace vLcount vLmany vLfound2 x1)) (B := (Ltold_Lone3 vLnumbers_here vLplace vLcount vLmany vLfound2 x1)) (t_cmp (op_eqD hr.units) (nomark _) (o_eqD dI) (x_var (i := 7) rfl) x_int) rfl (fun h9 => ?_) (fun h10 => ?_) ?_
      · try simp only [decide_eq_true_eq, decide_eq_false_iff_not, Bool.and_eq_true, Bool.or_eq_true, Bool.not_eq_true', Bool.not_eq_false', Bool.and_eq_false_iff, Bool.or_eq_false_iff] at h9
        refine sx_seq (Γ1 := [pu (tLs K tI) vLnumbers_here, pu tI vLplace, pu tI vLcount, pu tI vLmany, ol (tLd K) vLfound2, pu tI x1, pu (tLd K) (Ltold_Lone2 vLnumbers_here vLplace vLcount vLmany vLfound2 x1), pu tI (Ltold_Ltheme1 vLnumbers_here vLplace vLcount vLmany vLfound2 x1), pu (tLd K) (Ltold_Lbefore1 vLnumbers_here vLplace vLcount vLmany vLfound2 x1)]) (s1_setE (i := 6) sc_Ltold.nd rfl (by first | exact Or.inl rfl | exact Or.inr rfl) (x_val (x_co co_mkF (x_tup (n_p3 (K := K) (R1 := tS) (R2' := (tT K tI)) (R3' := (tT K tI))) (ea_cons x_str (ea_cons (x_callS (Ss := [pu (tT K tI) (Ltold_Lone1 vLnumbers_here vLplace vLcount vLmany vLfound2 x1).sd.l, pu (tT K tI) (Ltold_Lbefore1 vLnumbers_here vLplace vLcount vLmany vLfound2 x1).sd.r]) (S' := pu (tT K tI) (m_Lless (Ltold_Lone1 vLnumbers_here vLplace vLcount vLmany vLfound2 x1).sd.l (Ltold_Lbefore1 vLnumbers_here vLplace vLcount vLmany vLfound2 x1).sd.r)) (ok_Lless T) (hr.mono (by decide)) T.g_Lless T.F_Lless.kp T.b_Lless ((Ltold_Lone1 vLnumbers_here vLplace vLcount vLmany vLfound2 x1).sd.l, (Ltold_Lbefore1 vLnumbers_here vLplace vLcount vLmany vLfound2 x1).sd.r) trivial (eas_cons (x_ldL (by /-11-/ decreasing_trivial) (x_var (i := 6) rfl) x_int) (eas_cons (x_ldR (by exact nj_wj (d := ix vLfound2 (x1 - (1 : Int))) (And.left (And.right (And.right (by assumption))))) (x_var (i := 8) rfl) x_int) eas_nil)) rfl rfl) (ea_cons (x_takeT (x_ldR (by exact nj_wj (d := ix vLfound2 (x1 - (1 : Int))) (And.left (And.right (And.right (by assumption))))) (x_var (i := 8) rfl) x_int) x_int (by /-14-/ decreasing_trivial)) ea_nil))))) (z := (Ltold_Lone2 vLnumbers_here vLplace vLcount vLmany vLfound2 x1)) rfl) (show 6 < 9 by decide) rfl) ?_
        exact f_nx ⟨_, rfl, Wk.uns []⟩
      · try simp only [decide_eq_true_eq, decide_eq_false_iff_not, Bool.and_eq_true, Bool.or_eq_true, Bool.not_eq_true', Bool.not_eq_false', Bool.and_eq_false_iff, Bool.or_eq_false_iff] at h10
        refine sx_seq (Γ1 := [pu (tLs K tI) vLnumbers_here, pu tI vLplace, pu tI vLcount, pu tI vLmany, ol (tLd K) vLfound2, pu tI x1, pu (tLd K) (Ltold_Lone3 vLnumbers_here vLplace vLcount vLmany vLfound2 x1), pu tI (Ltold_Ltheme1 vLnumbers_here vLplace vLcount vLmany vLfound2 x1), pu (tLd K) (Ltold_Lbefore1 vLnumbers_here vLplace vLcount vLmany vLfound2 x1)]) (s1_setE (i := 6) sc_Ltold.nd rfl (by first | exact Or.inl rfl | exact Or.inr rfl) (x_val (x_co (co_mkW (by exact word_nj (nj_wj (d := ix vLfound2 (x1 - (1 : Int))) (And.left (And.right (And.right (by assumption))))))) (x_tup (n_p3 (K := K) (R1 := tS) (R2' := (tT K tI)) (R3' := (tT K tI))) (ea_cons (x_ldW (x_var (i := 8) rfl) x_int) (ea_cons (x_ldR (by exact nj_wj (d := ix vLfound2 (x1 - (1 : Int))) (And.left (And.right (And.right (by assumption))))) (x_var (i := 8) rfl) x_int) (ea_cons (x_ldR (by /-16-/ decreasing_trivial) (x_var (i := 6) rfl) x_int) ea_nil))))) (z := (Ltold_Lone3 vLnumbers_here vLplace vLcount vLmany vLfound2 x1)) rfl) (show 6 < 9 by decide) rfl) ?_
        exact f_nx ⟨_, rfl, Wk.uns []⟩
      exact f_nx ⟨_, rfl, Wk.uns [8]⟩
    · try simp only [decide_eq_true_eq, decide_eq_false_iff_not, Bool.and_eq_true, Bool.or_eq_true, Bool.not_eq_true', Bool.not_eq_false', Bool.and_eq_false_iff, Bool.or_eq_false_iff] at h8
      exact f_nx ⟨_, rfl, Wk.uns []⟩
    refine sx_seq (Γ1 := [pu (tLs K tI) vLnumbers_here, pu tI vLplace, pu tI vLcount, pu tI vLmany, ol (tLd K) (Ltold_Lfound2 vLnumbers_here vLplace vLcount vLmany vLfound2 x1), pu tI x1, pu (tLd K) (Ltold_j_Lone2 vLnumbers_here vLplace vLcount vLmany vLfound2 x1), pu tI (Ltold_Ltheme1 vLnumbers_here vLplace vLcount vLmany vLfound2 x1), un]) (s1_app (i := 4) rfl (x_var (i := 6) rfl) rfl (by /-18-/ decreasing_trivial)) ?_
    exact f_nx ⟨_, .inl rfl, Wk.uns [5, 6, 7]⟩
  exact sx_ret (x_frz (x_mov (i := 4) rfl ol_some)) ⟨_, rfl⟩
theorem ok_Lmet (T : Tx K mg base) : FnOk P w K mg base CX0 1 T.a_Lmet T.d_Lmet ["_law_a", "_law_b"] (spP (A := (List Int) × (List Int)) (fun x => True) (fun x => [pu (tT K tI) x.1, pu (tT K tI) x.2]) (fun x => pu (tT K tI) (m_Lmet x.1 x.2))) := by
  refine fn_ok T.F_Lmet sc_Lmet (fun _ => rfl) fun X x hX hr hpre => ?_
  obtain ⟨vLa, vLb⟩ := x
  obtain ⟨cdv, A, outer, s, H, E, rfl⟩ := hX
  have hz1 : sizeLine = 16777216 := rfl
  have hz2 : scanBound = 4096 := rfl
  show SX _ _ [pu (tT K tI) vLa, pu (tT K tI) vLb, un] _
  refine SX.imp (P := RetP (fun z : (List Int) => pu (tT K tI) z) (m_Lmet vLa vLb)) ?_ fun r h => .inl h
  unfold m_Lmet
  exact sx_ret (x_callT call_tuple_of T.n_tuple (by decide +kernel) (n_tupleL sqLs) (ea_cons (x_frz (x_valoE (x_lc rfl sc_Lmet.nd (w_tup sqT (x_var (i := 0) rfl)) (blkOk_by (own := [("_law_k", 2)]) (N := N_Lmet) (sc := defScope s_Lmet) (by decide +kernel)) (fun _ _ _ _ _ => (pg_name (i := 2) sc_Lmet.nd rfl (by first | exact Or.inl rfl | exact Or.inr rfl))) (tg_name (show 2 < 3 by decide)) (fun (x1 : Int) => (decide (x1 ∈ vLb))) (fun (x1 : Int) => x1) (fun _ _ _ _ _ ix1 x1 hxx1 => (is_one (t_cmp op_in_seq (by rfl) (o_in saT) (x_var (i := 2) rfl) (x_var (i := 1) rfl)))) (fun _ _ _ _ _ ix1 x1 hxx1 hpx1 => (x_var (i := 2) rfl))) lc_fid rfl)) ea_nil)) ⟨_, rfl⟩
theorem ok_Lset (T : Tx K mg base) : FnOk P w K mg base CX0 1 T.a_Lset T.d_Lset ["_law_number", "_law_count"] (spP (A := Int × Int) (fun x => (0 ≤ x.2 ∧ x.2 ≤ 10)) (fun x => [pu tI x.1, pu tI x.2]) (fun x => pu (tT K tI) (m_Lset x.1 x.2))) := by
  refine fn_ok T.F_Lset sc_Lset (fun _ => rfl) fun X x hX hr hpre => ?_
  obtain ⟨vLnumber, vLcount⟩ := x
  obtain ⟨cdv, A, outer, s, H, E, rfl⟩ := hX
  replace hpre : 0 ≤ vLcount ∧ vLcount ≤ 10 := hpre
  have hz1 : sizeLine = 16777216 := rfl
  have hz2 : scanBound = 4096 := rfl
  show SX _ _ [pu tI vLnumber, pu tI vLcount, un] _
  refine SX.imp (P := RetP (fun z : (List Int) => pu (tT K tI) z) (m_Lset vLnumber vLcount)) ?_ fun r h => .inl h
  unfold m_Lset
  exact sx_ret (x_callT call_tuple_of T.n_tuple (by decide +kernel) (n_tupleL sqLs) (ea_cons (x_frz (x_valoE (x_lc rfl sc_Lset.nd (w_range1 T.n_range (x_var (i := 1) rfl) (by /-1-/ (try dsimp only); (try simp only [InIx, CDiv, CMul, CPow, List.length_append, List.length_cons, List.length_nil, List.length_singleton, List.length_map, List.length_reverse, List.length_take, List.length_drop]) <;> first | assumption | omega | decide) (by /-2-/ (try dsimp only); (try simp only [InIx, CDiv, CMul, CPow, List.length_append, List.length_cons, List.length_nil, List.length_singleton, List.length_map, List.length_reverse, List.length_take, List.length_drop]) <;> first | assumption | omega | decide)) (blkOk_by (own := [("_law_k", 2)]) (N := N_Lset) (sc := defScope s_Lset) (by decide +kernel)) (fun _ _ _ _ _ => (pg_name (i := 2) sc_Lset.nd rfl (by first | exact Or.inl rfl | exact Or.inr rfl))) (tg_name (show 2 < 3 by decide)) (fun (x1 : Int) => (decide (((vLnumber / (ix ([(1 : Int), (2 : Int), (4 : Int), (8 : Int), (16 : Int), (32 : Int), (64 : Int), (128 : Int), (256 : Int), (512 : Int)] : List Int) x1)) % (2 : Int)) = (1 : Int)))) (fun (x1 : Int) => x1) (fun _ _ _ _ _ ix1 x1 hxx1 => (is_one (t_cmp (op_eqD hr.units) (nomark _) (o_eqD dI) (x_mod (x_div (x_var (i := 0) rfl) (x_ixLits (xs := ([(1 : Int), (2 : Int), (4 : Int), (8 : Int), (16 : Int), (32 : Int), (64 : Int), (128 : Int), (256 : Int), (512 : Int)] : List Int)) rfl (show 10 ≤ sizeLine by decide) (by /-3-/ have hrhxx1 := rng_at hxx1; (try dsimp only); (try simp only [InIx, CDiv, CMul, CPow, List.length_append, List.length_cons, List.length_nil, List.length_singleton, List.length_map, List.length_reverse, List.length_take, List.length_drop]) <;> first | assumption | omega | decide) (x_var (i := 2) rfl)) (by have := rng_at hxx1; exact ix2_ok ⟨this.1, by omega⟩)) x_int (by /-5-/ have hrhxx1 := rng_at hxx1; (try dsimp only); (try simp only [InIx, CDiv, CMul, CPow, List.length_append, List.length_cons, List.length_nil, List.length_singleton, List.length_map, List.length_reverse, List.length_take, List.length_drop]) <;> first | assumption | omega | decide)) x_int))) (fun _ _ _ _ _ ix1 x1 hxx1 hpx1 => (x_var (i := 2) rfl))) lc_fid rfl)) ea_nil)) ⟨_, rfl⟩
theorem ok_Ltried (T : Tx K mg base) : FnOk P w K mg base CX0 2 T.a_Ltried T.d_Ltried ["_law_numbers_here", "_law_place", "_law_count", "_law_made_here", "_law_told_here", "_law_word"] (spP (A := (List Int) × Int × Int × (List Dep) × (List Dep) × PySem.Str) (fun x => (0 ≤ x.2.1 ∧ x.2.1 + 1 < x.1.length ∧ 0 ≤ x.2.2.1 ∧ x.2.2.1 ≤ 10 ∧ x.2.2.2.1.length ≤ 20 ∧ x.2.2.2.2.1.length ≤ 20)) (fun x => [pu (tLs K tI) x.1, pu tI x.2.1, pu tI x.2.2.1, pu (tLs K (tLd K)) x.2.2.2.1, pu (tLs K (tLd K)) x.2.2.2.2.1, pu tS x.2.2.2.2.2]) (fun x => pu (tLs K (tT K (tF K))) (m_Ltried x.1 x.2.1 x.2.2.1 x.2.2.2.1 x.2.2.2.2.1 x.2.2.2.2.2))) := by
  refine fn_ok T.F_Ltried sc_Ltried (fun _ => rfl) fun X x hX hr hpre => ?_
  obtain ⟨vLnumbers_here, vLplace, vLcount, vLmade_here, vLtold_here, vLword⟩ := x
  obtain ⟨cdv, A, outer, s, H, E, rfl⟩ := hX
  replace hpre : 0 ≤ vLplace ∧ vLplace + 1 < vLnumbers_here.length ∧ 0 ≤ vLcount ∧ vLcount ≤ 10 ∧ vLmade_here.length ≤ 20 ∧ vLtold_here.length ≤ 20 := hpre
  have hz1 : sizeLine = 16777216 := rfl
  have hz2 : scanBound = 4096 := rfl
  show SX _ _ [pu (tLs K tI) vLnumbers_here, pu tI vLplace, pu tI vLcount, pu (tLs K (tLd K)) vLmade_here, pu (tLs K (tLd K)) vLtold_here, pu tS vLword, un, un, un, un, un, un] _
  refine SX.imp (P := RetP (fun z : (List (List FV)) => pu (tLs K (tT K (tF K))) z) (m_Ltried vLnumbers_here vLplace vLcount vLmade_here vLtold_here vLword)) ?_ fun r h => .inl h
  unfold m_Ltried
  refine sx_seq (Γ1 := [pu (tLs K tI) vLnumbers_here, pu tI vLplace, pu tI vLcount, pu (tLs K (tLd K)) vLmade_here, pu (tLs K (tLd K)) vLtold_here, pu tS vLword, pu (tT K tI) (Ltried_Lcolumns1 vLnumbers_here vLplace vLcount vLmade_here vLtold_here vLword), un, un, un, un, un]) (s1_setE (i := 6) sc_Ltried.nd rfl (by first | exact Or.inl rfl | exact Or.inr rfl) (x_val (x_callS (Ss := [pu tI (ix vLnumbers_here (vLplace + (1 : Int))), pu tI vLcount]) (S' := pu (tT K tI) (m_Lsparse (ix vLnumbers_here (vLplace + (1 : Int))) vLcount)) (ok_Lsparse T) (hr.mono (by decide)) T.g_Lsparse T.F_Lsparse.kp T.b_Lsparse ((ix vLnumbers_here (vLplace + (1 : Int))), vLcount) (by /-2-/ decreasing_trivial) (eas_cons (x_ix ix_list (o_ixL sqLs (by /-1-/ decreasing_trivial)) (x_var (i := 0) rfl) (x_add (x_var (i := 1) rfl) x_int)) (eas_cons (x_var (i := 2) rfl) eas_nil)) rfl rfl) (z := (Ltried_Lcolumns1 vLnumbers_here vLplace vLcount vLmade_here vLtold_here vLword)) rfl) (show 6 < 12 by decide) rfl) ?_
  refine sx_seq (Γ1 := [pu (tLs K tI) vLnumbers_here, pu tI vLplace, pu tI vLcount, pu (tLs K (tLd K)) vLmade_here, pu (tLs K (tLd K)) vLtold_here, pu tS vLword, pu (tT K tI) (Ltried_Lcolumns1 vLnumbers_here vLplace vLcount vLmade_here vLtold_here vLword), pu (tT K tI) (Ltried_Lsome1 vLnumbers_here vLplace vLcount vLmade_here vLtold_here vLword), un, un, un, un]) (s1_setE (i := 7) sc_Ltried.nd rfl (by first | exact Or.inl rfl | exact Or.inr rfl) (x_val (x_callS (Ss := [pu (tT K tI) (Ltried_Lcolumns1 vLnumbers_here vLplace vLcount vLmade_here vLtold_here vLword), pu (tT K tI) (m_Lset ((ix vLnumbers_here (vLplace + (1 : Int))) / (977 : Int)) vLcount)]) (S' := pu (tT K tI) (m_Lmet (Ltried_Lcolumns1 vLnumbers_here vLplace vLcount vLmade_here vLtold_here vLword) (m_Lset ((ix vLnumbers_here (vLplace + (1 : Int))) / (977 : Int)) vLcount))) (ok_Lmet T) (hr.mono (by decide)) T.g_Lmet T.F_Lmet.kp T.b_Lmet ((Ltried_Lcolumns1 vLnumbers_here vLplace vLcount vLmade_here vLtold_here vLword), (m_Lset ((ix vLnumbers_here (vLplace + (1 : Int))) / (977 : Int)) vLcount)) trivial (eas_cons (x_var (i := 6) rfl) (eas_cons (x_callS (Ss := [pu tI ((ix vLnumbers_here (vLplace + (1 : Int))) / (977 : Int)), pu tI vLcount]) (S' := pu (tT K tI) (m_Lset ((ix vLnumbers_here (vLplace + (1 : Int))) / (977 : Int)) vLcount)) (ok_Lset T) (hr.mono (by decide)) T.g_Lset T.F_Lset.kp T.b_Lset (((ix vLnumbers_here (vLplace + (1 : Int))) / (977 : Int)), vLcount) (by /-5-/ decreasing_trivial) (eas_cons (x_div (x_ix ix_list (o_ixL sqLs (by /-3-/ decreasing_trivial)) (x_var (i := 0) rfl) (x_add (x_var (i := 1) rfl) x_int)) x_int (by /-4-/ decreasing_trivial)) (eas_cons (x_var (i := 2) rfl) eas_nil)) rfl rfl) eas_nil)) rfl rfl) (z := (Ltried_Lsome1 vLnumbers_here vLplace vLcount vLmade_here vLtold_here vLword)) rfl) (show 7 < 12 by decide) rfl) ?_
  refine f_ifr (P := (RetP (fun z : (List (List FV)) => pu (tLs K (tT K (tF K))) z))) (t_cmp op_eq (nomark _) o_eqS (x_var (i := 5) rfl) x_str) (fun h1 => ?_) (fun h2 => ?_)
  · try simp only [decide_eq_true_eq, decide_eq_false_iff_not, Bool.and_eq_true, Bool.or_eq_true, Bool.not_eq_true', Bool.not_eq_false', Bool.and_eq_false_iff, Bool.or_eq_false_iff] at h1
    exact sx_ret (x_frz (x_valoE (x_lc rfl sc_Ltried.nd (w_range1 T.n_range (x_callB call_len T.n_len (by decide +kernel) (n_lenA saLs) (ea_cons (x_var (i := 4) rfl) ea_nil)) (by /-6-/ decreasing_trivial) (by /-7-/ decreasing_trivial)) (blkOk_by (own := [("_law_k", 8)]) (N := N_Ltried) (sc := defScope s_Ltried) (by decide +kernel)) (fun _ _ _ _ _ => (pg_name (i := 8) sc_Ltried.nd rfl (by first | exact Or.inl rfl | exact Or.inr rfl))) (tg_name (show 8 < 12 by decide)) (fun (x3 : Int) => true) (fun (x3 : Int) => ([(FV.s vLword), (FV.i x3)] : List FV)) (fun _ _ _ _ _ ix3 x3 hxx3 => is_nil) (fun _ _ _ _ _ ix3 x3 hxx3 hpx3 => (x_tup (Ss := [pu (tF K) (FV.s vLword), pu (tF K) (FV.i x3)]) (n_tup (K := K) (R := (tF K)) (xs := [(FV.s vLword), (FV.i x3)]) (show 2 ≤ sizeLine by decide)) (ea_cons (x_co co_fs (x_var (i := 5) rfl)) (ea_cons (x_co co_fi (x_var (i := 8) rfl)) ea_nil))))) lc_all rfl)) ⟨⟨_, rfl⟩, fun h => h⟩
  try simp only [decide_eq_true_eq, decide_eq_false_iff_not, Bool.and_eq_true, Bool.or_eq_true, Bool.not_eq_true', Bool.not_eq_false', Bool.and_eq_false_iff, Bool.or_eq_false_iff] at h2
  refine f_ifr (P := (RetP (fun z : (List (List FV)) => pu (tLs K (tT K (tF K))) z))) (t_cmp op_eq (nomark _) o_eqS (x_var (i := 5) rfl) x_str) (fun h4 => ?_) (fun h5 => ?_)
  · try simp only [decide_eq_true_eq, decide_eq_false_iff_not, Bool.and_eq_true, Bool.or_eq_true, Bool.not_eq_true', Bool.not_eq_false', Bool.and_eq_false_iff, Bool.or_eq_false_iff] at h4
    exact sx_ret (x_frz (x_lst (Ss := [pu (tT K (tF K)) ([(FV.s vLword), (FV.t (Ltried_Lcolumns1 vLnumbers_here vLplace vLcount vLmade_here vLtold_here vLword)), (FV.t (Ltried_Lsome1 vLnumbers_here vLplace vLcount vLmade_here vLtold_here vLword))] : List FV)]) (n_lst (R := (tT K (tF K))) (xs := [([(FV.s vLword), (FV.t (Ltried_Lcolumns1 vLnumbers_here vLplace vLcount vLmade_here vLtold_here vLword)), (FV.t (Ltried_Lsome1 vLnumbers_here vLplace vLcount vLmade_here vLtold_here vLword))] : List FV)]) (show 1 ≤ sizeLine by decide)) (ea_cons (x_tup (Ss := [pu (tF K) (FV.s vLword), pu (tF K) (FV.t (Ltried_Lcolumns1 vLnumbers_here vLplace vLcount vLmade_here vLtold_here vLword)), pu (tF K) (FV.t (Ltried_Lsome1 vLnumbers_here vLplace vLcount vLmade_here vLtold_here vLword))]) (n_tup (K := K) (R := (tF K)) (xs := [(FV.s vLword), (FV.t (Ltried_Lcolumns1 vLnumbers_here vLplace vLcount vLmade_here vLtold_here vLword)), (FV.t (Ltried_Lsome1 vLnumbers_here vLplace vLcount vLmade_here vLtold_here vLword))]) (show 3 ≤ sizeLine by decide)) (ea_cons (x_co co_fs (x_var (i := 5) rfl)) (ea_cons (x_co co_ft (x_var (i := 6) rfl)) (ea_cons (x_co co_ft (x_var (i := 7) rfl)) ea_nil)))) ea_nil))) ⟨⟨_, rfl⟩, fun h => h⟩
  try simp only [decide_eq_true_eq, decide_eq_false_iff_not, Bool.and_eq_true, Bool.or_eq_true, Bool.not_eq_true', Bool.not_eq_false', Bool.and_eq_false_iff, Bool.or_eq_false_iff] at h5
  refine f_ifr (P := (RetP (fun z : (List (List FV)) => pu (tLs K (tT K (tF K))) z))) (t_cmp op_eq (nomark _) o_eqS (x_var (i := 5) rfl) x_str) (fun h6 => ?_) (fun h7 => ?_)
  · try simp only [decide_eq_true_eq, decide_eq_false_iff_not, Bool.and_eq_true, Bool.or_eq_true, Bool.not_eq_true', Bool.not_eq_false', Bool.and_eq_false_iff, Bool.or_eq_false_iff] at h6
    exact sx_ret (x_frz (x_valoE (x_lc rfl sc_Ltried.nd (w_range1 T.n_range (x_callB call_len T.n_len (by decide +kernel) (n_lenA saLs) (ea_cons (x_var (i := 3) rfl) ea_nil)) (by /-8-/ decreasing_trivial) (by /-9-/ decreasing_trivial)) (blkOk_by (own := [("_law_k", 8)]) (N := N_Ltried) (sc := defScope s_Ltried) (by decide +kernel)) (fun _ _ _ _ _ => (pg_name (i := 8) sc_Ltried.nd rfl (by first | exact Or.inl rfl | exact Or.inr rfl))) (tg_name (show 8 < 12 by decide)) (fun (x8 : Int) => true) (fun (x8 : Int) => ([(FV.s vLword), (FV.i x8), (FV.t (Ltried_Lcolumns1 vLnumbers_here vLplace vLcount vLmade_here vLtold_here vLword))] : List FV)) (fun _ _ _ _ _ ix8 x8 hxx8 => is_nil) (fun _ _ _ _ _ ix8 x8 hxx8 hpx8 => (x_tup (Ss := [pu (tF K) (FV.s vLword), pu (tF K) (FV.i x8), pu (tF K) (FV.t (Ltried_Lcolumns1 vLnumbers_here vLplace vLcount vLmade_here vLtold_here vLword))]) (n_tup (K := K) (R := (tF K)) (xs := [(FV.s vLword), (FV.i x8), (FV.t (Ltried_Lcolumns1 vLnumbers_here vLplace vLcount vLmade_here vLtold_here vLword))]) (show 3 ≤ sizeLine by decide)) (ea_cons (x_co co_fs (x_var (i := 5) rfl)) (ea_cons (x_co co_fi (x_var (i := 8) rfl)) (ea_cons (x_co co_ft (x_var (i := 6) rfl)) ea_nil)))))) lc_all rfl)) ⟨⟨_, rfl⟩, fun h => h⟩
  try simp only [decide_eq_true_eq, decide_eq_false_iff_not, Bool.and_eq_true, Bool.or_eq_true, Bool.not_eq_true', Bool.not_eq_false', Bool.and_eq_false_iff, Bool.or_eq_false_iff] at h7
  refine f_ifr (P := (RetP (fun z : (List (List FV)) => pu (tLs K (tT K (tF K))) z))) (t_cmp op_eq (nomark _) o_eqS (x_var (i := 5) rfl) x_str) (fun h9 => ?_) (fun h10 => ?_)
  · try simp only [decide_eq_true_eq, decide_eq_false_iff_not, Bool.and_eq_true, Bool.or_eq_true, Bool.not_eq_true', Bool.not_eq_false', Bool.and_eq_false_iff, Bool.or_eq_false_iff] at h9
    exact sx_ret (x_frz (x_valoE (x_lc rfl sc_Ltried.nd (w_range1 T.n_range (x_callB call_len T.n_len (by decide +kernel) (n_lenA saLs) (ea_cons (x_var (i := 3) rfl) ea_nil)) (by /-10-/ decreasing_trivial) (by /-11-/ decreasing_trivial)) (blkOk_by (own := [("_law_k", 8)]) (N := N_Ltried) (sc := defScope s_Ltried) (by decide +kernel)) (fun _ _ _ _ _ => (pg_name (i := 8) sc_Ltried.nd rfl (by first | exact Or.inl rfl | exact Or.inr rfl))) (tg_name (show 8 < 12 by decide)) (fun (x11 : Int) => true) (fun (x11 : Int) => ([(FV.s vLword), (FV.i x11), (FV.t (Ltried_Lcolumns1 vLnumbers_here vLplace vLcount vLmade_here vLtold_here vLword)), (FV.t (Ltried_Lsome1 vLnumbers_here vLplace vLcount vLmade_here vLtold_here vLword))] : List FV)) (fun _ _ _ _ _ ix11 x11 hxx11 => is_nil) (fun _ _ _ _ _ ix11 x11 hxx11 hpx11 => (x_tup (Ss := [pu (tF K) (FV.s vLword), pu (tF K) (FV.i x11), pu (tF K) (FV.t (Ltried_Lcolumns1 vLnumbers_here vLplace vLcount vLmade_here vLtold_here vLword)), pu (tF K) (FV.t (Ltried_Lsome1 vLnumbers_here vLplace vLcount vLmade_here vLtold_here vLword))]) (n_tup (K := K) (R := (tF K)) (xs := [(FV.s vLword), (FV.i x11), (FV.t (Ltried_Lcolumns1 vLnumbers_here vLplace vLcount vLmade_here vLtold_here vLword)), (FV.t (Ltried_Lsome1 vLnumbers_here vLplace vLcount vLmade_here vLtold_here vLword))]) (show 4 ≤ sizeLine by decide)) (ea_cons (x_co co_fs (x_var (i := 5) rfl)) (ea_cons (x_co co_fi (x_var (i := 8) rfl)) (ea_cons (x_co co_ft (x_var (i := 6) rfl)) (ea_cons (x_co co_ft (x_var (i := 7) rfl)) ea_nil))))))) lc_all rfl)) ⟨⟨_, rfl⟩, fun h => h⟩
  try simp only [decide_eq_true_eq, decide_eq_false_iff_not, Bool.and_eq_true, Bool.or_eq_true, Bool.not_eq_true', Bool.not_eq_false', Bool.and_eq_false_iff, Bool.or_eq_false_iff] at h10
  refine f_ifr (P := (RetP (fun z : (List (List FV)) => pu (tLs K (tT K (tF K))) z))) (t_w (w_or (t_cmp op_eq (nomark _) o_eqS (x_var (i := 5) rfl) x_str) (fun h12 => (w_one (t_cmp op_eq (nomark _) o_eqS (x_var (i := 5) rfl) x_str) (.inr rfl))))) (fun h14 => ?_) (fun h15 => ?_)
  · try simp only [decide_eq_true_eq, decide_eq_false_iff_not, Bool.and_eq_true, Bool.or_eq_true, Bool.not_eq_true', Bool.not_eq_false', Bool.and_eq_false_iff, Bool.or_eq_false_iff] at h14
    exact sx_ret (x_frz (x_valoE (x_lc rfl sc_Ltried.nd (w_range1 T.n_range (x_callB call_len T.n_len (by decide +kernel) (n_lenA saLs) (ea_cons (x_var (i := 3) rfl) ea_nil)) (by /-12-/ decreasing_trivial) (by /-13-/ decreasing_trivial)) (blkOk_by (own := [("_law_k", 8)]) (N := N_Ltried) (sc := defScope s_Ltried) (by decide +kernel)) (fun _ _ _ _ _ => (pg_name (i := 8) sc_Ltried.nd rfl (by first | exact Or.inl rfl | exact Or.inr rfl))) (tg_name (show 8 < 12 by decide)) (fun (x16 : Int) => true) (fun (x16 : Int) => ([(FV.s vLword), (FV.i x16)] : List FV)) (fun _ _ _ _ _ ix16 x16 hxx16 => is_nil) (fun _ _ _ _ _ ix16 x16 hxx16 hpx16 => (x_tup (Ss := [pu (tF K) (FV.s vLword), pu (tF K) (FV.i x16)]) (n_tup (K := K) (R := (tF K)) (xs := [(FV.s vLword), (FV.i x16)]) (show 2 ≤ sizeLine by decide)) (ea_cons (x_co co_fs (x_var (i := 5) rfl)) (ea_cons (x_co co_fi (x_var (i := 8) rfl)) ea_nil))))) lc_all rfl)) ⟨⟨_, rfl⟩, fun h => h⟩
  try simp only [decide_eq_true_eq, decide_eq_false_iff_not, Bool.and_eq_true, Bool.or_eq_true, Bool.not_eq_true', Bool.not_eq_false', Bool.and_eq_false_iff, Bool.or_eq_false_iff] at h15
  refine sx_seq (Γ1 := [pu (tLs K tI) vLnumbers_here, pu tI vLplace, pu tI vLcount, pu (tLs K (tLd K)) vLmade_here, pu (tLs K (tLd K)) vLtold_here, pu tS vLword, pu (tT K tI) (Ltried_Lcolumns1 vLnumbers_here vLplace vLcount vLmade_here vLtold_here vLword), pu (tT K tI) (Ltried_Lsome1 vLnumbers_here vLplace vLcount vLmade_here vLtold_here vLword), un, ol (tT K (tF K)) (Ltried_Lfound1 vLnumbers_here vLplace vLcount vLmade_here vLtold_here vLword), un, un]) (s1_setE (i := 9) sc_Ltried.nd rfl (by first | exact Or.inl rfl | exact Or.inr rfl) (x_valo (x_lst (Ss := []) (n_lst (R := (tT K (tF K))) (xs := []) (show 0 ≤ sizeLine by decide)) ea_nil) (zs := (Ltried_Lfound1 vLnumbers_here vLplace vLcount vLmade_here vLtold_here vLword)) rfl) (show 9 < 12 by decide) rfl) ?_
  refine f_for PassesOwn.never rfl (w_range1 T.n_range (x_callB call_len T.n_len (by decide +kernel) (n_lenA saLs) (ea_cons (x_var (i := 3) rfl) ea_nil)) (by /-14-/ decreasing_trivial) (by /-15-/ decreasing_trivial)) (pg_name (i := 10) sc_Ltried.nd rfl (by first | exact Or.inl rfl | exact Or.inr rfl)) (tg_name (show 10 < 12 by decide)) (fun (s : (List (List FV))) => [pu (tLs K tI) vLnumbers_here, pu tI vLplace, pu tI vLcount, pu (tLs K (tLd K)) vLmade_here, pu (tLs K (tLd K)) vLtold_here, pu tS vLword, pu (tT K tI) (Ltried_Lcolumns1 vLnumbers_here vLplace vLcount vLmade_here vLtold_here vLword), pu (tT K tI) (Ltried_Lsome1 vLnumbers_here vLplace vLcount vLmade_here vLtold_here vLword), un, ol (tT K (tF K)) s, un, un]) (Ltried_st1 vLnumbers_here vLplace vLcount vLmade_here vLtold_here vLword) (Ltried_Lfound1 vLnumbers_here vLplace vLcount vLmade_here vLtold_here vLword) (Ltried_loop2 vLnumbers_here vLplace vLcount vLmade_here vLtold_here vLword) rfl (fun _ => rfl) (Wk.uns []) ?_ ?_
  · intro ix17 x17 vLfound18 hxx17 hsx17 hzx17
    have hrhxx17 := rng_at hxx17
    have h1_ := try_at1 hpre.2.2.2.2.1 hsx17
    have hi1_ := (w_at hxx17).1
    rw [rangeI_len] at hi1_
    refine f_for PassesOwn.never rfl (w_range1 T.n_range (x_callB call_len T.n_len (by decide +kernel) (n_lenA saLs) (ea_cons (x_var (i := 3) rfl) ea_nil)) (by /-16-/ decreasing_trivial) (by /-17-/ decreasing_trivial)) (pg_name (i := 11) sc_Ltried.nd rfl (by first | exact Or.inl rfl | exact Or.inr rfl)) (tg_name (show 11 < 12 by decide)) (fun (s : (List (List FV))) => [pu (tLs K tI) vLnumbers_here, pu tI vLplace, pu tI vLcount, pu (tLs K (tLd K)) vLmade_here, pu (tLs K (tLd K)) vLtold_here, pu tS vLword, pu (tT K tI) (Ltried_Lcolumns1 vLnumbers_here vLplace vLcount vLmade_here vLtold_here vLword), pu (tT K tI) (Ltried_Lsome1 vLnumbers_here vLplace vLcount vLmade_here vLtold_here vLword), un, ol (tT K (tF K)) s, pu tI x17, un]) (Ltried_st2 vLnumbers_here vLplace vLcount vLmade_here vLtold_here vLword vLfound18 x17) vLfound18 (Ltried_loop1 vLnumbers_here vLplace vLcount vLmade_here vLtold_here vLword vLfound18 x17) rfl (fun _ => rfl) (Wk.uns []) ?_ ?_
    · intro ix19 x19 vLfound20 hxx19 hsx19 hzx19
      have hrhxx19 := rng_at hxx19
      have h2_ := try_at2 hsx19
      have hi2_ := (w_at hxx19).1
      rw [rangeI_len] at hi2_
      have hl_Lfound := foldl_len (fun s : (List (List FV)) => s) 1 (Ltried_st2 vLnumbers_here vLplace vLcount vLmade_here vLtold_here vLword vLfound18 x17) (by intro s x; (try unfold Ltried_st2); (repeat' split) <;> (try simp only [Ltried_st2, Ltried_Lfound2, List.length_append, List.length_cons, List.length_nil]) <;> (try omega)) ((rangeI 0 (vLmade_here.length : Int)).take ix19) vLfound18
      rw [hsx19] at hl_Lfound
      have hi_Lfound := (w_at hxx19).1
      simp only [List.length_take, List.length_nil, rangeI_len] at hl_Lfound hi_Lfound
      refine sx_seq (Γ1 := [pu (tLs K tI) vLnumbers_here, pu tI vLplace, pu tI vLcount, pu (tLs K (tLd K)) vLmade_here, pu (tLs K (tLd K)) vLtold_here, pu tS vLword, pu (tT K tI) (Ltried_Lcolumns1 vLnumbers_here vLplace vLcount vLmade_here vLtold_here vLword), pu (tT K tI) (Ltried_Lsome1 vLnumbers_here vLplace vLcount vLmade_here vLtold_here vLword), un, ol (tT K (tF K)) (Ltried_Lfound2 vLnumbers_here vLplace vLcount vLmade_here vLtold_here vLword vLfound18 x17 vLfound20 x19), pu tI x17, pu tI x19]) (s1_app (i := 9) rfl (x_tup (Ss := [pu (tF K) (FV.s vLword), pu (tF K) (FV.i x17), pu (tF K) (FV.i x19)]) (n_tup (K := K) (R := (tF K)) (xs := [(FV.s vLword), (FV.i x17), (FV.i x19)]) (show 3 ≤ sizeLine by decide)) (ea_cons (x_co co_fs (x_var (i := 5) rfl)) (ea_cons (x_co co_fi (x_var (i := 10) rfl)) (ea_cons (x_co co_fi (x_var (i := 11) rfl)) ea_nil)))) rfl (by /-18-/ decreasing_trivial)) ?_
      exact f_nx ⟨_, .inl rfl, Wk.uns [11]⟩
    exact f_nx ⟨_, .inl rfl, Wk.uns [10]⟩
  exact sx_ret (x_frz (x_mov (i := 9) rfl ol_some)) ⟨_, rfl⟩
theorem ok_Lis_set (T : Tx K mg base) : FnOk P w K mg base CX0 1 T.a_Lis_set T.d_Lis_set ["_law_columns", "_law_count"] (spP (A := (List Int) × Int) (fun x => (0 ≤ x.2 ∧ x.2 ≤ 10)) (fun x => [pu (tT K tI) x.1, pu tI x.2]) (fun x => pu tB (m_Lis_set x.1 x.2))) := by
  refine fn_ok T.F_Lis_set sc_Lis_set (fun _ => rfl) fun X x hX hr hpre => ?_
  obtain ⟨vLcolumns, vLcount⟩ := x
  obtain ⟨cdv, A, outer, s, H, E, rfl⟩ := hX
  replace hpre : 0 ≤ vLcount ∧ vLcount ≤ 10 := hpre
  have hz1 : sizeLine = 16777216 := rfl
  have hz2 : scanBound = 4096 := rfl
  show SX _ _ [pu (tT K tI) vLcolumns, pu tI vLcount, un] _
  refine SX.imp (P := RetP (fun z : Bool => pu tB z) (m_Lis_set vLcolumns vLcount)) ?_ fun r h => .inl h
  unfold m_Lis_set
  exact sx_ret (x_cmp (op_eqD hr.units) (nomark _) (o_eqD (dT dI)) (x_var (i := 0) rfl) (x_callT call_tuple_of T.n_tuple (by decide +kernel) (n_tupleL sqLs) (ea_cons (x_frz (x_valoE (x_lc rfl sc_Lis_set.nd (w_range1 T.n_range (x_var (i := 1) rfl) (by /-1-/ decreasing_trivial) (by /-2-/ decreasing_trivial)) (blkOk_by (own := [("_law_k", 2)]) (N := N_Lis_set) (sc := defScope s_Lis_set) (by decide +kernel)) (fun _ _ _ _ _ => (pg_name (i := 2) sc_Lis_set.nd rfl (by first | exact Or.inl rfl | exact Or.inr rfl))) (tg_name (show 2 < 3 by decide)) (fun (x1 : Int) => (decide (x1 ∈ vLcolumns))) (fun (x1 : Int) => x1) (fun _ _ _ _ _ ix1 x1 hxx1 => (is_one (t_cmp op_in_seq (by rfl) (o_in saT) (x_var (i := 2) rfl) (x_var (i := 0) rfl)))) (fun _ _ _ _ _ ix1 x1 hxx1 hpx1 => (x_var (i := 2) rfl))) lc_fid rfl)) ea_nil))) ⟨_, rfl⟩
theorem ok_Lis_within (T : Tx K mg base) : FnOk P w K mg base CX0 2 T.a_Lis_within T.d_Lis_within ["_law_a", "_law_b"] (spP (A := (List Int) × (List Int)) (fun x => True) (fun x => [pu (tT K tI) x.1, pu (tT K tI) x.2]) (fun x => pu tB (m_Lis_within x.1 x.2))) := by
  refine fn_ok T.F_Lis_within sc_Lis_within (fun _ => rfl) fun X x hX hr hpre => ?_
  obtain ⟨vLa, vLb⟩ := x
  obtain ⟨cdv, A, outer, s, H, E, rfl⟩ := hX
  have hz1 : sizeLine = 16777216 := rfl
  have hz2 : scanBound = 4096 := rfl
  show SX _ _ [pu (tT K tI) vLa, pu (tT K tI) vLb] _
  refine SX.imp (P := RetP (fun z : Bool => pu tB z) (m_Lis_within vLa vLb)) ?_ fun r h => .inl h
  unfold m_Lis_within
  exact sx_ret (x_cmp (op_eqD hr.units) (nomark _) (o_eqD dI) (x_callB call_len T.n_len (by decide +kernel) (n_lenA saT) (ea_cons (x_callS (Ss := [pu (tT K tI) vLa, pu (tT K tI) vLb]) (S' := pu (tT K tI) (m_Lless vLa vLb)) (ok_Lless T) (hr.mono (by decide)) T.g_Lless T.F_Lless.kp T.b_Lless (vLa, vLb) trivial (eas_cons (x_var (i := 0) rfl) (eas_cons (x_var (i := 1) rfl) eas_nil)) rfl rfl) ea_nil)) x_int) ⟨_, rfl⟩
theorem ok_Lof_two (T : Tx K mg base) : FnOk P w K mg base CX0 3 T.a_Lof_two T.d_Lof_two ["_law_one", "_law_two", "_law_word"] (spP (A := Dep × Dep × PySem.Str) (fun x => (DepC 10 x.1 ∧ DepC 10 x.2.1)) (fun x => [pu (tLd K) x.1, pu (tLd K) x.2.1, pu tS x.2.2]) (fun x => pu (tO (tLd K)) (m_Lof_two x.1 x.2.1 x.2.2))) := by
  refine fn_ok T.F_Lof_two sc_Lof_two (fun _ => rfl) fun X x hX hr hpre => ?_
  obtain ⟨vLone, vLtwo, vLword⟩ := x
  obtain ⟨cdv, A, outer, s, H, E, rfl⟩ := hX
  replace hpre : DepC 10 vLone ∧ DepC 10 vLtwo := hpre
  have hz1 : sizeLine = 16777216 := rfl
  have hz2 : scanBound = 4096 := rfl
  have hl1 := hpre.1.len
  have hl2 := hpre.2.len
  show SX _ _ [pu (tLd K) vLone, pu (tLd K) vLtwo, pu tS vLword] _
  refine SX.imp (P := RetP (fun z : (Option Dep) => pu (tO (tLd K)) z) (m_Lof_two vLone vLtwo vLword)) ?_ fun r h => .inl h
  unfold m_Lof_two
  refine f_ifr (P := (RetP (fun z : (Option Dep) => pu (tO (tLd K)) z))) (t_cmp op_eq (nomark _) o_eqS (x_var (i := 2) rfl) x_str) (fun h1 => ?_) (fun h2 => ?_)
  · try simp only [decide_eq_true_eq, decide_eq_false_iff_not, Bool.and_eq_true, Bool.or_eq_true, Bool.not_eq_true', Bool.not_eq_false', Bool.and_eq_false_iff, Bool.or_eq_false_iff] at h1
    refine f_ifr (P := (fun v r => RetP (fun z : (Option Dep) => pu (tO (tLd K)) z) v r ∧ ¬ isNx r)) (t_w (w_and (t_cmp op_eq (nomark _) o_eqS (x_ldW (x_var (i := 0) rfl) x_int) x_str) (fun h3 => (w_and (t_cmp op_eq (nomark _) o_eqS (x_ldW (x_var (i := 1) rfl) x_int) x_str) (fun h4 => (w_one (t_cmp (op_eqD hr.units) (nomark _) (o_eqD (dT dI)) (x_ldR (by /-1-/ (try simp only [decide_eq_true_eq, decide_eq_false_iff_not, Bool.and_eq_true, Bool.or_eq_true, Bool.not_eq_true', Bool.not_eq_false'] at h3 h4); decreasing_trivial) (x_var (i := 0) rfl) x_int) (x_ldL (by /-2-/ (try simp only [decide_eq_true_eq, decide_eq_false_iff_not, Bool.and_eq_true, Bool.or_eq_true, Bool.not_eq_true', Bool.not_eq_false'] at h3 h4); decreasing_trivial) (x_var (i := 1) rfl) x_int)) (.inl rfl))))))) (fun h6 => ?_) (fun h7 => ?_)
    · try simp only [decide_eq_true_eq, decide_eq_false_iff_not, Bool.and_eq_true, Bool.or_eq_true, Bool.not_eq_true', Bool.not_eq_false', Bool.and_eq_false_iff, Bool.or_eq_false_iff] at h6
      exact sx_ret (x_some nn_Ld (x_co co_mkF (x_tup (n_p3 (K := K) (R1 := tS) (R2' := (tT K tI)) (R3' := (tT K tI))) (ea_cons x_str (ea_cons (x_ldL (by /-3-/ decreasing_trivial) (x_var (i := 0) rfl) x_int) (ea_cons (x_ldR (by /-4-/ decreasing_trivial) (x_var (i := 1) rfl) x_int) ea_nil)))))) ⟨⟨⟨_, rfl⟩, fun h => h⟩, fun h => h⟩
    try simp only [decide_eq_true_eq, decide_eq_false_iff_not, Bool.and_eq_true, Bool.or_eq_true, Bool.not_eq_true', Bool.not_eq_false', Bool.and_eq_false_iff, Bool.or_eq_false_iff] at h7
    exact sx_ret x_none ⟨⟨_, rfl⟩, fun h => h⟩
  try simp only [decide_eq_true_eq, decide_eq_false_iff_not, Bool.and_eq_true, Bool.or_eq_true, Bool.not_eq_true', Bool.not_eq_false', Bool.and_eq_false_iff, Bool.or_eq_false_iff] at h2
  refine f_ifr (P := (RetP (fun z : (Option Dep) => pu (tO (tLd K)) z))) (t_cmp op_ne (nomark _) o_neS (x_ldW (x_var (i := 0) rfl) x_int) x_str) (fun h8 => ?_) (fun h9 => ?_)
  · try simp only [decide_eq_true_eq, decide_eq_false_iff_not, Bool.and_eq_true, Bool.or_eq_true, Bool.not_eq_true', Bool.not_eq_false', Bool.and_eq_false_iff, Bool.or_eq_false_iff] at h8
    exact sx_ret x_none ⟨⟨_, rfl⟩, fun h => h⟩
  try simp only [decide_eq_true_eq, decide_eq_false_iff_not, Bool.and_eq_true, Bool.or_eq_true, Bool.not_eq_true', Bool.not_eq_false', Bool.and_eq_false_iff, Bool.or_eq_false_iff] at h9
  refine f_ifr (P := (RetP (fun z : (Option Dep) => pu (tO (tLd K)) z))) (t_cmp op_eq (nomark _) o_eqS (x_var (i := 2) rfl) x_str) (fun h10 => ?_) (fun h11 => ?_)
  · try simp only [decide_eq_true_eq, decide_eq_false_iff_not, Bool.and_eq_true, Bool.or_eq_true, Bool.not_eq_true', Bool.not_eq_false', Bool.and_eq_false_iff, Bool.or_eq_false_iff] at h10
    refine f_ifr (P := (fun v r => RetP (fun z : (Option Dep) => pu (tO (tLd K)) z) v r ∧ ¬ isNx r)) (t_w (w_and (t_cmp op_eq (nomark _) o_eqS (x_ldW (x_var (i := 1) rfl) x_int) x_str) (fun h12 => (w_one (t_cmp (op_eqD hr.units) (nomark _) (o_eqD (dT dI)) (x_ldR (by /-5-/ (try simp only [decide_eq_true_eq, decide_eq_false_iff_not, Bool.and_eq_true, Bool.or_eq_true, Bool.not_eq_true', Bool.not_eq_false'] at h12); decreasing_trivial) (x_var (i := 0) rfl) x_int) (x_ldL (by /-6-/ (try simp only [decide_eq_true_eq, decide_eq_false_iff_not, Bool.and_eq_true, Bool.or_eq_true, Bool.not_eq_true', Bool.not_eq_false'] at h12); decreasing_trivial) (x_var (i := 1) rfl) x_int)) (.inl rfl))))) (fun h14 => ?_) (fun h15 => ?_)
    · try simp only [decide_eq_true_eq, decide_eq_false_iff_not, Bool.and_eq_true, Bool.or_eq_true, Bool.not_eq_true', Bool.not_eq_false', Bool.and_eq_false_iff, Bool.or_eq_false_iff] at h14
      exact sx_ret (x_some nn_Ld (x_co co_mkM (x_tup (n_p3 (K := K) (R1 := tS) (R2' := (tT K tI)) (R3' := (tT K tI))) (ea_cons x_str (ea_cons (x_ldL (by /-7-/ decreasing_trivial) (x_var (i := 0) rfl) x_int) (ea_cons (x_callS (Ss := [pu (tT K tI) vLtwo.sd.r, pu (tT K tI) vLone.sd.r]) (S' := pu (tT K tI) (m_Lless vLtwo.sd.r vLone.sd.r)) (ok_Lless T) (hr.mono (by decide)) T.g_Lless T.F_Lless.kp T.b_Lless (vLtwo.sd.r, vLone.sd.r) trivial (eas_cons (x_ldR (by /-8-/ decreasing_trivial) (x_var (i := 1) rfl) x_int) (eas_cons (x_ldR (by /-9-/ decreasing_trivial) (x_var (i := 0) rfl) x_int) eas_nil)) rfl rfl) ea_nil)))))) ⟨⟨⟨_, rfl⟩, fun h => h⟩, fun h => h⟩
    try simp only [decide_eq_true_eq, decide_eq_false_iff_not, Bool.and_eq_true, Bool.or_eq_true, Bool.not_eq_true', Bool.not_eq_false', Bool.and_eq_false_iff, Bool.or_eq_false_iff] at h15
    exact sx_ret x_none ⟨⟨_, rfl⟩, fun h => h⟩
  try simp only [decide_eq_true_eq, decide_eq_false_iff_not, Bool.and_eq_true, Bool.or_eq_true, Bool.not_eq_true', Bool.not_eq_false', Bool.and_eq_false_iff, Bool.or_eq_false_iff] at h11
  refine f_ifr (P := (RetP (fun z : (Option Dep) => pu (tO (tLd K)) z))) (t_w (w_and (t_cmp op_eq (nomark _) o_eqS (x_ldW (x_var (i := 1) rfl) x_int) x_str) (fun h16 => (w_and (t_val (x_callS (Ss := [pu (tT K tI) vLtwo.sd.r, pu (tT K tI) vLone.sd.r]) (S' := pu tB (m_Lis_within vLtwo.sd.r vLone.sd.r)) (ok_Lis_within T) (hr.mono (by decide)) T.g_Lis_within T.F_Lis_within.kp T.b_Lis_within (vLtwo.sd.r, vLone.sd.r) trivial (eas_cons (x_ldR (by /-10-/ (try simp only [decide_eq_true_eq, decide_eq_false_iff_not, Bool.and_eq_true, Bool.or_eq_true, Bool.not_eq_true', Bool.not_eq_false'] at h16); decreasing_trivial) (x_var (i := 1) rfl) x_int) (eas_cons (x_ldR (by /-11-/ (try simp only [decide_eq_true_eq, decide_eq_false_iff_not, Bool.and_eq_true, Bool.or_eq_true, Bool.not_eq_true', Bool.not_eq_false'] at h16); decreasing_trivial) (x_var (i := 0) rfl) x_int) eas_nil)) rfl rfl)) (fun h17 => (w_one (t_cmp (op_eqD hr.units) (nomark _) (o_eqD dI) (x_callB call_len T.n_len (by decide +kernel) (n_lenA saT) (ea_cons (x_callS (Ss := [pu (tT K tI) vLtwo.sd.l, pu (tT K tI) vLone.sd.r]) (S' := pu (tT K tI) (m_Lmet vLtwo.sd.l vLone.sd.r)) (ok_Lmet T) (hr.mono (by decide)) T.g_Lmet T.F_Lmet.kp T.b_Lmet (vLtwo.sd.l, vLone.sd.r) trivial (eas_cons (x_ldL (by /-12-/ (try simp only [decide_eq_true_eq, decide_eq_false_iff_not, Bool.and_eq_true, Bool.or_eq_true, Bool.not_eq_true', Bool.not_eq_false'] at h16 h17); decreasing_trivial) (x_var (i := 1) rfl) x_int) (eas_cons (x_ldR (by /-13-/ (try simp only [decide_eq_true_eq, decide_eq_false_iff_not, Bool.and_eq_true, Bool.or_eq_true, Bool.not_eq_true', Bool.not_eq_false'] at h16 h17); decreasing_trivial) (x_var (i := 0) rfl) x_int) eas_nil)) rfl rfl) ea_nil)) x_int) (.inl rfl))))))) (fun h19 => ?_) (fun h20 => ?_)
  · try simp only [decide_eq_true_eq, decide_eq_false_iff_not, Bool.and_eq_true, Bool.or_eq_true, Bool.not_eq_true', Bool.not_eq_false', Bool.and_eq_false_iff, Bool.or_eq_false_iff] at h19
    exact sx_ret (x_some nn_Ld (x_co co_mkF (x_tup (n_p3 (K := K) (R1 := tS) (R2' := (tT K tI)) (R3' := (tT K tI))) (ea_cons x_str (ea_cons (x_ldL (by /-14-/ decreasing_trivial) (x_var (i := 0) rfl) x_int) (ea_cons (x_ldR (by /-15-/ decreasing_trivial) (x_var (i := 1) rfl) x_int) ea_nil)))))) ⟨⟨_, rfl⟩, fun h => h⟩
  try simp only [decide_eq_true_eq, decide_eq_false_iff_not, Bool.and_eq_true, Bool.or_eq_true, Bool.not_eq_true', Bool.not_eq_false', Bool.and_eq_false_iff, Bool.or_eq_false_iff] at h20
  exact sx_ret x_none ⟨_, rfl⟩
theorem ok_Lof_one (T : Tx K mg base) : FnOk P w K mg base CX0 3 T.a_Lof_one T.d_Lof_one ["_law_count", "_law_one", "_law_row_here"] (spP (A := Int × Dep × (List FV)) (fun x => (0 ≤ x.1 ∧ x.1 ≤ 10 ∧ DepC 10 x.2.1 ∧ RowOk 12 x.2.2 ∧ RowOne x.2.2)) (fun x => [pu tI x.1, pu (tLd K) x.2.1, pu (tT K (tF K)) x.2.2]) (fun x => pu (tO (tLd K)) (m_Lof_one x.1 x.2.1 x.2.2))) := by
  refine fn_ok T.F_Lof_one sc_Lof_one (fun _ => rfl) fun X x hX hr hpre => ?_
  obtain ⟨vLcount, vLone, vLrow_here⟩ := x
  obtain ⟨cdv, A, outer, s, H, E, rfl⟩ := hX
  replace hpre : 0 ≤ vLcount ∧ vLcount ≤ 10 ∧ DepC 10 vLone ∧ RowOk 12 vLrow_here ∧ RowOne vLrow_here := hpre
  have hz1 : sizeLine = 16777216 := rfl
  have hz2 : scanBound = 4096 := rfl
  have hd := hpre.2.2.1
  have hrow := hpre.2.2.2.1
  have hone := hpre.2.2.2.2
  have hlens := hrow.lens
  have hl := hd.len
  show SX _ _ [pu tI vLcount, pu (tLd K) vLone, pu (tT K (tF K)) vLrow_here] _
  refine SX.imp (P := RetP (fun z : (Option Dep) => pu (tO (tLd K)) z) (m_Lof_one vLcount vLone vLrow_here)) ?_ fun r h => .inl h
  unfold m_Lof_one
  refine f_ifr (P := (RetP (fun z : (Option Dep) => pu (tO (tLd K)) z))) (t_cmp op_eq (nomark _) o_eqS (x_co (co_gS (by /-2-/ decreasing_trivial)) (x_ix ix_tup (o_ixT sqT (by /-1-/ decreasing_trivial)) (x_var (i := 2) rfl) x_int)) x_str) (fun h1 => ?_) (fun h2 => ?_)
  · try simp only [decide_eq_true_eq, decide_eq_false_iff_not, Bool.and_eq_true, Bool.or_eq_true, Bool.not_eq_true', Bool.not_eq_false', Bool.and_eq_false_iff, Bool.or_eq_false_iff] at h1
    refine f_ifr (P := (fun v r => RetP (fun z : (Option Dep) => pu (tO (tLd K)) z) v r ∧ ¬ isNx r)) (t_cmp op_eq (nomark _) o_eqS (x_ldW (x_var (i := 1) rfl) x_int) x_str) (fun h3 => ?_) (fun h4 => ?_)
    · try simp only [decide_eq_true_eq, decide_eq_false_iff_not, Bool.and_eq_true, Bool.or_eq_true, Bool.not_eq_true', Bool.not_eq_false', Bool.and_eq_false_iff, Bool.or_eq_false_iff] at h3
      exact sx_ret (x_some nn_Ld (x_co co_mkM (x_tup (n_p3 (K := K) (R1 := tS) (R2' := (tT K tI)) (R3' := (tT K tI))) (ea_cons x_str (ea_cons (x_ldL (by /-3-/ decreasing_trivial) (x_var (i := 1) rfl) x_int) (ea_cons (x_ldR (by /-4-/ decreasing_trivial) (x_var (i := 1) rfl) x_int) ea_nil)))))) ⟨⟨⟨_, rfl⟩, fun h => h⟩, fun h => h⟩
    try simp only [decide_eq_true_eq, decide_eq_false_iff_not, Bool.and_eq_true, Bool.or_eq_true, Bool.not_eq_true', Bool.not_eq_false', Bool.and_eq_false_iff, Bool.or_eq_false_iff] at h4
    exact sx_ret x_none ⟨⟨_, rfl⟩, fun h => h⟩
  try simp only [decide_eq_true_eq, decide_eq_false_iff_not, Bool.and_eq_true, Bool.or_eq_true, Bool.not_eq_true', Bool.not_eq_false', Bool.and_eq_false_iff, Bool.or_eq_false_iff] at h2
  refine f_ifr (P := (RetP (fun z : (Option Dep) => pu (tO (tLd K)) z))) (t_cmp op_eq (nomark _) o_eqS (x_co (co_gS (by /-6-/ decreasing_trivial)) (x_ix ix_tup (o_ixT sqT (by /-5-/ decreasing_trivial)) (x_var (i := 2) rfl) x_int)) x_str) (fun h5 => ?_) (fun h6 => ?_)
  · try simp only [decide_eq_true_eq, decide_eq_false_iff_not, Bool.and_eq_true, Bool.or_eq_true, Bool.not_eq_true', Bool.not_eq_false', Bool.and_eq_false_iff, Bool.or_eq_false_iff] at h5
    refine f_ifr (P := (fun v r => RetP (fun z : (Option Dep) => pu (tO (tLd K)) z) v r ∧ ¬ isNx r)) (t_cmp op_eq (nomark _) o_eqS (x_ldW (x_var (i := 1) rfl) x_int) x_str) (fun h7 => ?_) (fun h8 => ?_)
    · try simp only [decide_eq_true_eq, decide_eq_false_iff_not, Bool.and_eq_true, Bool.or_eq_true, Bool.not_eq_true', Bool.not_eq_false', Bool.and_eq_false_iff, Bool.or_eq_false_iff] at h7
      exact sx_ret (x_some nn_Ld (x_co co_mkM (x_tup (n_p3 (K := K) (R1 := tS) (R2' := (tT K tI)) (R3' := (tT K tI))) (ea_cons x_str (ea_cons (x_ldL (by /-7-/ decreasing_trivial) (x_var (i := 1) rfl) x_int) (ea_cons (x_callS (Ss := [pu (tT K tI) (rangeI 0 vLcount), pu (tT K tI) (m_Lunited vLone.sd.l vLone.sd.r)]) (S' := pu (tT K tI) (m_Lless (rangeI 0 vLcount) (m_Lunited vLone.sd.l vLone.sd.r))) (ok_Lless T) (hr.mono (by decide)) T.g_Lless T.F_Lless.kp T.b_Lless ((rangeI 0 vLcount), (m_Lunited vLone.sd.l vLone.sd.r)) trivial (eas_cons (x_tupRange rfl T.n_tuple T.n_range (x_var (i := 0) rfl) (by /-8-/ decreasing_trivial)) (eas_cons (x_callS (Ss := [pu (tT K tI) vLone.sd.l, pu (tT K tI) vLone.sd.r]) (S' := pu (tT K tI) (m_Lunited vLone.sd.l vLone.sd.r)) (ok_Lunited T) (hr.mono (by decide)) T.g_Lunited T.F_Lunited.kp T.b_Lunited (vLone.sd.l, vLone.sd.r) (by /-11-/ decreasing_trivial) (eas_cons (x_ldL (by /-9-/ decreasing_trivial) (x_var (i := 1) rfl) x_int) (eas_cons (x_ldR (by /-10-/ decreasing_trivial) (x_var (i := 1) rfl) x_int) eas_nil)) rfl rfl) eas_nil)) rfl rfl) ea_nil)))))) ⟨⟨⟨_, rfl⟩, fun h => h⟩, fun h => h⟩
    try simp only [decide_eq_true_eq, decide_eq_false_iff_not, Bool.and_eq_true, Bool.or_eq_true, Bool.not_eq_true', Bool.not_eq_false', Bool.and_eq_false_iff, Bool.or_eq_false_iff] at h8
    exact sx_ret x_none ⟨⟨_, rfl⟩, fun h => h⟩
  try simp only [decide_eq_true_eq, decide_eq_false_iff_not, Bool.and_eq_true, Bool.or_eq_true, Bool.not_eq_true', Bool.not_eq_false', Bool.and_eq_false_iff, Bool.or_eq_false_iff] at h6
  refine f_ifr (P := (RetP (fun z : (Option Dep) => pu (tO (tLd K)) z))) (t_not (t_val (x_callS (Ss := [pu (tT K tI) (ix vLrow_here (2 : Int)).gT, pu tI vLcount]) (S' := pu tB (m_Lis_set (ix vLrow_here (2 : Int)).gT vLcount)) (ok_Lis_set T) (hr.mono (by decide)) T.g_Lis_set T.F_Lis_set.kp T.b_Lis_set ((ix vLrow_here (2 : Int)).gT, vLcount) (by /-14-/ decreasing_trivial) (eas_cons (x_co (co_gT (by have hw_ := hone.set (by assumption) (by assumption); first | exact (hrow.set2 hw_).1 | exact (hrow.set2 hw_).2)) (x_ix ix_tup (o_ixT sqT (by have hw_ := hone.set (by assumption) (by assumption); first | exact (hrow.set2 hw_).1 | exact (hrow.set2 hw_).2)) (x_var (i := 2) rfl) x_int)) (eas_cons (x_var (i := 0) rfl) eas_nil)) rfl rfl))) (fun h9 => ?_) (fun h10 => ?_)
  · try simp only [decide_eq_true_eq, decide_eq_false_iff_not, Bool.and_eq_true, Bool.or_eq_true, Bool.not_eq_true', Bool.not_eq_false', Bool.and_eq_false_iff, Bool.or_eq_false_iff] at h9
    exact sx_ret x_none ⟨⟨_, rfl⟩, fun h => h⟩
  try simp only [decide_eq_true_eq, decide_eq_false_iff_not, Bool.and_eq_true, Bool.or_eq_true, Bool.not_eq_true', Bool.not_eq_false', Bool.and_eq_false_iff, Bool.or_eq_false_iff] at h10
  refine f_ifr (P := (RetP (fun z : (Option Dep) => pu (tO (tLd K)) z))) (t_cmp op_eq (nomark _) o_eqS (x_co (co_gS (by /-16-/ decreasing_trivial)) (x_ix ix_tup (o_ixT sqT (by /-15-/ decreasing_trivial)) (x_var (i := 2) rfl) x_int)) x_str) (fun h11 => ?_) (fun h12 => ?_)
  · try simp only [decide_eq_true_eq, decide_eq_false_iff_not, Bool.and_eq_true, Bool.or_eq_true, Bool.not_eq_true', Bool.not_eq_false', Bool.and_eq_false_iff, Bool.or_eq_false_iff] at h11
    refine f_ifr (P := (fun v r => RetP (fun z : (Option Dep) => pu (tO (tLd K)) z) v r ∧ ¬ isNx r)) (t_cmp op_eq (nomark _) o_eqS (x_ldW (x_var (i := 1) rfl) x_int) x_str) (fun h13 => ?_) (fun h14 => ?_)
    · try simp only [decide_eq_true_eq, decide_eq_false_iff_not, Bool.and_eq_true, Bool.or_eq_true, Bool.not_eq_true', Bool.not_eq_false', Bool.and_eq_false_iff, Bool.or_eq_false_iff] at h13
      exact sx_ret (x_some nn_Ld (x_co co_mkF (x_tup (n_p3 (K := K) (R1 := tS) (R2' := (tT K tI)) (R3' := (tT K tI))) (ea_cons x_str (ea_cons (x_callS (Ss := [pu (tT K tI) vLone.sd.l, pu (tT K tI) (ix vLrow_here (2 : Int)).gT]) (S' := pu (tT K tI) (m_Lunited vLone.sd.l (ix vLrow_here (2 : Int)).gT)) (ok_Lunited T) (hr.mono (by decide)) T.g_Lunited T.F_Lunited.kp T.b_Lunited (vLone.sd.l, (ix vLrow_here (2 : Int)).gT) (by /-20-/ decreasing_trivial) (eas_cons (x_ldL (by /-17-/ decreasing_trivial) (x_var (i := 1) rfl) x_int) (eas_cons (x_co (co_gT (by /-19-/ decreasing_trivial)) (x_ix ix_tup (o_ixT sqT (by /-18-/ decreasing_trivial)) (x_var (i := 2) rfl) x_int)) eas_nil)) rfl rfl) (ea_cons (x_callS (Ss := [pu (tT K tI) vLone.sd.r, pu (tT K tI) (ix vLrow_here (2 : Int)).gT]) (S' := pu (tT K tI) (m_Lunited vLone.sd.r (ix vLrow_here (2 : Int)).gT)) (ok_Lunited T) (hr.mono (by decide)) T.g_Lunited T.F_Lunited.kp T.b_Lunited (vLone.sd.r, (ix vLrow_here (2 : Int)).gT) (by /-24-/ decreasing_trivial) (eas_cons (x_ldR (by /-21-/ decreasing_trivial) (x_var (i := 1) rfl) x_int) (eas_cons (x_co (co_gT (by /-23-/ decreasing_trivial)) (x_ix ix_tup (o_ixT sqT (by /-22-/ decreasing_trivial)) (x_var (i := 2) rfl) x_int)) eas_nil)) rfl rfl) ea_nil)))))) ⟨⟨⟨_, rfl⟩, fun h => h⟩, fun h => h⟩
    try simp only [decide_eq_true_eq, decide_eq_false_iff_not, Bool.and_eq_true, Bool.or_eq_true, Bool.not_eq_true', Bool.not_eq_false', Bool.and_eq_false_iff, Bool.or_eq_false_iff] at h14
    exact sx_ret x_none ⟨⟨_, rfl⟩, fun h => h⟩
  try simp only [decide_eq_true_eq, decide_eq_false_iff_not, Bool.and_eq_true, Bool.or_eq_true, Bool.not_eq_true', Bool.not_eq_false', Bool.and_eq_false_iff, Bool.or_eq_false_iff] at h12
  refine f_ifr (P := (RetP (fun z : (Option Dep) => pu (tO (tLd K)) z))) (t_w (w_and (t_cmp op_eq (nomark _) o_eqS (x_ldW (x_var (i := 1) rfl) x_int) x_str) (fun h15 => (w_and (t_val (x_callS (Ss := [pu (tT K tI) (ix vLrow_here (3 : Int)).gT, pu tI vLcount]) (S' := pu tB (m_Lis_set (ix vLrow_here (3 : Int)).gT vLcount)) (ok_Lis_set T) (hr.mono (by decide)) T.g_Lis_set T.F_Lis_set.kp T.b_Lis_set ((ix vLrow_here (3 : Int)).gT, vLcount) (by /-27-/ (try simp only [decide_eq_true_eq, decide_eq_false_iff_not, Bool.and_eq_true, Bool.or_eq_true, Bool.not_eq_true', Bool.not_eq_false'] at h15); decreasing_trivial) (eas_cons (x_co (co_gT (by have hw_ := (hone.set (by assumption) (by assumption)).resolve_left (by assumption); first | exact (hrow.set2 (.inr hw_)).1 | exact (hrow.set2 (.inr hw_)).2 | exact (hrow.set3 hw_).1 | exact (hrow.set3 hw_).2)) (x_ix ix_tup (o_ixT sqT (by have hw_ := (hone.set (by assumption) (by assumption)).resolve_left (by assumption); first | exact (hrow.set2 (.inr hw_)).1 | exact (hrow.set2 (.inr hw_)).2 | exact (hrow.set3 hw_).1 | exact (hrow.set3 hw_).2)) (x_var (i := 2) rfl) x_int)) (eas_cons (x_var (i := 0) rfl) eas_nil)) rfl rfl)) (fun h16 => (w_one (t_val (x_callS (Ss := [pu (tT K tI) (ix vLrow_here (3 : Int)).gT, pu (tT K tI) (ix vLrow_here (2 : Int)).gT]) (S' := pu tB (m_Lis_within (ix vLrow_here (3 : Int)).gT (ix vLrow_here (2 : Int)).gT)) (ok_Lis_within T) (hr.mono (by decide)) T.g_Lis_within T.F_Lis_within.kp T.b_Lis_within ((ix vLrow_here (3 : Int)).gT, (ix vLrow_here (2 : Int)).gT) trivial (eas_cons (x_co (co_gT (by have hw_ := (hone.set (by assumption) (by assumption)).resolve_left (by assumption); first | exact (hrow.set2 (.inr hw_)).1 | exact (hrow.set2 (.inr hw_)).2 | exact (hrow.set3 hw_).1 | exact (hrow.set3 hw_).2)) (x_ix ix_tup (o_ixT sqT (by have hw_ := (hone.set (by assumption) (by assumption)).resolve_left (by assumption); first | exact (hrow.set2 (.inr hw_)).1 | exact (hrow.set2 (.inr hw_)).2 | exact (hrow.set3 hw_).1 | exact (hrow.set3 hw_).2)) (x_var (i := 2) rfl) x_int)) (eas_cons (x_co (co_gT (by have hw_ := (hone.set (by assumption) (by assumption)).resolve_left (by assumption); first | exact (hrow.set2 (.inr hw_)).1 | exact (hrow.set2 (.inr hw_)).2 | exact (hrow.set3 hw_).1 | exact (hrow.set3 hw_).2)) (x_ix ix_tup (o_ixT sqT (by have hw_ := (hone.set (by assumption) (by assumption)).resolve_left (by assumption); first | exact (hrow.set2 (.inr hw_)).1 | exact (hrow.set2 (.inr hw_)).2 | exact (hrow.set3 hw_).1 | exact (hrow.set3 hw_).2)) (x_var (i := 2) rfl) x_int)) eas_nil)) rfl rfl)) (.inl rfl))))))) (fun h18 => ?_) (fun h19 => ?_)
  · try simp only [decide_eq_true_eq, decide_eq_false_iff_not, Bool.and_eq_true, Bool.or_eq_true, Bool.not_eq_true', Bool.not_eq_false', Bool.and_eq_false_iff, Bool.or_eq_false_iff] at h18
    exact sx_ret (x_some nn_Ld (x_co co_mkM (x_tup (n_p3 (K := K) (R1 := tS) (R2' := (tT K tI)) (R3' := (tT K tI))) (ea_cons x_str (ea_cons (x_callS (Ss := [pu (tT K tI) vLone.sd.l, pu (tT K tI) (ix vLrow_here (2 : Int)).gT]) (S' := pu (tT K tI) (m_Lunited vLone.sd.l (ix vLrow_here (2 : Int)).gT)) (ok_Lunited T) (hr.mono (by decide)) T.g_Lunited T.F_Lunited.kp T.b_Lunited (vLone.sd.l, (ix vLrow_here (2 : Int)).gT) (by /-35-/ decreasing_trivial) (eas_cons (x_ldL (by /-32-/ decreasing_trivial) (x_var (i := 1) rfl) x_int) (eas_cons (x_co (co_gT (by have hw_ := (hone.set (by assumption) (by assumption)).resolve_left (by assumption); first | exact (hrow.set2 (.inr hw_)).1 | exact (hrow.set2 (.inr hw_)).2 | exact (hrow.set3 hw_).1 | exact (hrow.set3 hw_).2)) (x_ix ix_tup (o_ixT sqT (by have hw_ := (hone.set (by assumption) (by assumption)).resolve_left (by assumption); first | exact (hrow.set2 (.inr hw_)).1 | exact (hrow.set2 (.inr hw_)).2 | exact (hrow.set3 hw_).1 | exact (hrow.set3 hw_).2)) (x_var (i := 2) rfl) x_int)) eas_nil)) rfl rfl) (ea_cons (x_callS (Ss := [pu (tT K tI) vLone.sd.r, pu (tT K tI) (ix vLrow_here (3 : Int)).gT]) (S' := pu (tT K tI) (m_Lunited vLone.sd.r (ix vLrow_here (3 : Int)).gT)) (ok_Lunited T) (hr.mono (by decide)) T.g_Lunited T.F_Lunited.kp T.b_Lunited (vLone.sd.r, (ix vLrow_here (3 : Int)).gT) (by /-39-/ decreasing_trivial) (eas_cons (x_ldR (by /-36-/ decreasing_trivial) (x_var (i := 1) rfl) x_int) (eas_cons (x_co (co_gT (by have hw_ := (hone.set (by assumption) (by assumption)).resolve_left (by assumption); first | exact (hrow.set2 (.inr hw_)).1 | exact (hrow.set2 (.inr hw_)).2 | exact (hrow.set3 hw_).1 | exact (hrow.set3 hw_).2)) (x_ix ix_tup (o_ixT sqT (by have hw_ := (hone.set (by assumption) (by assumption)).resolve_left (by assumption); first | exact (hrow.set2 (.inr hw_)).1 | exact (hrow.set2 (.inr hw_)).2 | exact (hrow.set3 hw_).1 | exact (hrow.set3 hw_).2)) (x_var (i := 2) rfl) x_int)) eas_nil)) rfl rfl) ea_nil)))))) ⟨⟨_, rfl⟩, fun h => h⟩
  try simp only [decide_eq_true_eq, decide_eq_false_iff_not, Bool.and_eq_true, Bool.or_eq_true, Bool.not_eq_true', Bool.not_eq_false', Bool.and_eq_false_iff, Bool.or_eq_false_iff] at h19
  exact sx_ret x_none ⟨_, rfl⟩
theorem ok_Lrow (T : Tx K mg base) : FnOk P w K mg base CX0 4 T.a_Lrow T.d_Lrow ["_law_count", "_law_told_here", "_law_made_here", "_law_row_here"] (spP (A := Int × (List Dep) × (List Dep) × (List FV)) (fun x => (0 ≤ x.1 ∧ x.1 ≤ 10 ∧ (∀ d ∈ x.2.2.1, DepC 10 d) ∧ RowOk 12 x.2.2.2)) (fun x => [pu tI x.1, pu (tLs K (tLd K)) x.2.1, pu (tLs K (tLd K)) x.2.2.1, pu (tT K (tF K)) x.2.2.2]) (fun x => pu (tO (tLd K)) (m_Lrow x.1 x.2.1 x.2.2.1 x.2.2.2))) := by
  refine fn_ok T.F_Lrow sc_Lrow (fun _ => rfl) fun X x hX hr hpre => ?_
  obtain ⟨vLcount, vLtold_here, vLmade_here, vLrow_here⟩ := x
  obtain ⟨cdv, A, outer, s, H, E, rfl⟩ := hX
  replace hpre : 0 ≤ vLcount ∧ vLcount ≤ 10 ∧ (∀ d ∈ vLmade_here, DepC 10 d) ∧ RowOk 12 vLrow_here := hpre
  have hz1 : sizeLine = 16777216 := rfl
  have hz2 : scanBound = 4096 := rfl
  have hrow := hpre.2.2.2
  have hlens := hrow.lens
  have hmade := hpre.2.2.1
  show SX _ _ [pu tI vLcount, pu (tLs K (tLd K)) vLtold_here, pu (tLs K (tLd K)) vLmade_here, pu (tT K (tF K)) vLrow_here] _
  refine SX.imp (P := RetP (fun z : (Option Dep) => pu (tO (tLd K)) z) (m_Lrow vLcount vLtold_here vLmade_here vLrow_here)) ?_ fun r h => .inl h
  unfold m_Lrow
  refine f_ifr (P := (RetP (fun z : (Option Dep) => pu (tO (tLd K)) z))) (t_cmp op_eq (nomark _) o_eqS (x_co (co_gS (by /-2-/ decreasing_trivial)) (x_ix ix_tup (o_ixT sqT (by /-1-/ decreasing_trivial)) (x_var (i := 3) rfl) x_int)) x_str) (fun h1 => ?_) (fun h2 => ?_)
  · try simp only [decide_eq_true_eq, decide_eq_false_iff_not, Bool.and_eq_true, Bool.or_eq_true, Bool.not_eq_true', Bool.not_eq_false', Bool.and_eq_false_iff, Bool.or_eq_false_iff] at h1
    refine f_ifr (P := (fun v r => RetP (fun z : (Option Dep) => pu (tO (tLd K)) z) v r ∧ ¬ isNx r)) (t_w (w_and (t_chain (g := fun i j => decide (i ≤ j)) (g' := fun i j => decide (i < j)) op_le op_lt x_int (x_co (co_gI (by /-4-/ decreasing_trivial)) (x_ix ix_tup (o_ixT sqT (by /-3-/ decreasing_trivial)) (x_var (i := 3) rfl) x_int)) (x_callB call_len T.n_len (by decide +kernel) (n_lenA saLs) (ea_cons (x_var (i := 1) rfl) ea_nil))) (fun h3 => (w_one (t_cmp op_ne (nomark _) o_neS (x_ldW (x_ix ix_list (o_ixL sqLs (by /-7-/ (try simp only [decide_eq_true_eq, decide_eq_false_iff_not, Bool.and_eq_true, Bool.or_eq_true, Bool.not_eq_true', Bool.not_eq_false'] at h3); decreasing_trivial)) (x_var (i := 1) rfl) (x_co (co_gI (by /-6-/ (try simp only [decide_eq_true_eq, decide_eq_false_iff_not, Bool.and_eq_true, Bool.or_eq_true, Bool.not_eq_true', Bool.not_eq_false'] at h3); decreasing_trivial)) (x_ix ix_tup (o_ixT sqT (by /-5-/ (try simp only [decide_eq_true_eq, decide_eq_false_iff_not, Bool.and_eq_true, Bool.or_eq_true, Bool.not_eq_true', Bool.not_eq_false'] at h3); decreasing_trivial)) (x_var (i := 3) rfl) x_int))) x_int) x_str) (.inl rfl))))) (fun h5 => ?_) (fun h6 => ?_)
    · try simp only [decide_eq_true_eq, decide_eq_false_iff_not, Bool.and_eq_true, Bool.or_eq_true, Bool.not_eq_true', Bool.not_eq_false', Bool.and_eq_false_iff, Bool.or_eq_false_iff] at h5
      exact sx_ret (x_some nn_Ld (x_ix ix_list (o_ixL sqLs (by /-10-/ decreasing_trivial)) (x_var (i := 1) rfl) (x_co (co_gI (by /-9-/ decreasing_trivial)) (x_ix ix_tup (o_ixT sqT (by /-8-/ decreasing_trivial)) (x_var (i := 3) rfl) x_int)))) ⟨⟨⟨_, rfl⟩, fun h => h⟩, fun h => h⟩
    try simp only [decide_eq_true_eq, decide_eq_false_iff_not, Bool.and_eq_true, Bool.or_eq_true, Bool.not_eq_true', Bool.not_eq_false', Bool.and_eq_false_iff, Bool.or_eq_false_iff] at h6
    exact sx_ret x_none ⟨⟨_, rfl⟩, fun h => h⟩
  try simp only [decide_eq_true_eq, decide_eq_false_iff_not, Bool.and_eq_true, Bool.or_eq_true, Bool.not_eq_true', Bool.not_eq_false', Bool.and_eq_false_iff, Bool.or_eq_false_iff] at h2
  refine f_ifr (P := (RetP (fun z : (Option Dep) => pu (tO (tLd K)) z))) (t_cmp op_eq (nomark _) o_eqS (x_co (co_gS (by /-12-/ decreasing_trivial)) (x_ix ix_tup (o_ixT sqT (by /-11-/ decreasing_trivial)) (x_var (i := 3) rfl) x_int)) x_str) (fun h7 => ?_) (fun h8 => ?_)
  · try simp only [decide_eq_true_eq, decide_eq_false_iff_not, Bool.and_eq_true, Bool.or_eq_true, Bool.not_eq_true', Bool.not_eq_false', Bool.and_eq_false_iff, Bool.or_eq_false_iff] at h7
    refine f_ifr (P := (fun v r => RetP (fun z : (Option Dep) => pu (tO (tLd K)) z) v r ∧ ¬ isNx r)) (t_w (w_and (t_val (x_callS (Ss := [pu (tT K tI) (ix vLrow_here (1 : Int)).gT, pu tI vLcount]) (S' := pu tB (m_Lis_set (ix vLrow_here (1 : Int)).gT vLcount)) (ok_Lis_set T) (hr.mono (by decide)) T.g_Lis_set T.F_Lis_set.kp T.b_Lis_set ((ix vLrow_here (1 : Int)).gT, vLcount) (by /-15-/ decreasing_trivial) (eas_cons (x_co (co_gT (by /-14-/ decreasing_trivial)) (x_ix ix_tup (o_ixT sqT (by /-13-/ decreasing_trivial)) (x_var (i := 3) rfl) x_int)) (eas_cons (x_var (i := 0) rfl) eas_nil)) rfl rfl)) (fun h9 => (w_and (t_val (x_callS (Ss := [pu (tT K tI) (ix vLrow_here (2 : Int)).gT, pu tI vLcount]) (S' := pu tB (m_Lis_set (ix vLrow_here (2 : Int)).gT vLcount)) (ok_Lis_set T) (hr.mono (by decide)) T.g_Lis_set T.F_Lis_set.kp T.b_Lis_set ((ix vLrow_here (2 : Int)).gT, vLcount) (by /-18-/ (try simp only [decide_eq_true_eq, decide_eq_false_iff_not, Bool.and_eq_true, Bool.or_eq_true, Bool.not_eq_true', Bool.not_eq_false'] at h9); decreasing_trivial) (eas_cons (x_co (co_gT (by /-17-/ (try simp only [decide_eq_true_eq, decide_eq_false_iff_not, Bool.and_eq_true, Bool.or_eq_true, Bool.not_eq_true', Bool.not_eq_false'] at h9); decreasing_trivial)) (x_ix ix_tup (o_ixT sqT (by /-16-/ (try simp only [decide_eq_true_eq, decide_eq_false_iff_not, Bool.and_eq_true, Bool.or_eq_true, Bool.not_eq_true', Bool.not_eq_false'] at h9); decreasing_trivial)) (x_var (i := 3) rfl) x_int)) (eas_cons (x_var (i := 0) rfl) eas_nil)) rfl rfl)) (fun h10 => (w_one (t_val (x_callS (Ss := [pu (tT K tI) (ix vLrow_here (2 : Int)).gT, pu (tT K tI) (ix vLrow_here (1 : Int)).gT]) (S' := pu tB (m_Lis_within (ix vLrow_here (2 : Int)).gT (ix vLrow_here (1 : Int)).gT)) (ok_Lis_within T) (hr.mono (by decide)) T.g_Lis_within T.F_Lis_within.kp T.b_Lis_within ((ix vLrow_here (2 : Int)).gT, (ix vLrow_here (1 : Int)).gT) trivial (eas_cons (x_co (co_gT (by /-20-/ (try simp only [decide_eq_true_eq, decide_eq_false_iff_not, Bool.and_eq_true, Bool.or_eq_true, Bool.not_eq_true', Bool.not_eq_false'] at h9 h10); decreasing_trivial)) (x_ix ix_tup (o_ixT sqT (by /-19-/ (try simp only [decide_eq_true_eq, decide_eq_false_iff_not, Bool.and_eq_true, Bool.or_eq_true, Bool.not_eq_true', Bool.not_eq_false'] at h9 h10); decreasing_trivial)) (x_var (i := 3) rfl) x_int)) (eas_cons (x_co (co_gT (by /-22-/ (try simp only [decide_eq_true_eq, decide_eq_false_iff_not, Bool.and_eq_true, Bool.or_eq_true, Bool.not_eq_true', Bool.not_eq_false'] at h9 h10); decreasing_trivial)) (x_ix ix_tup (o_ixT sqT (by /-21-/ (try simp only [decide_eq_true_eq, decide_eq_false_iff_not, Bool.and_eq_true, Bool.or_eq_true, Bool.not_eq_true', Bool.not_eq_false'] at h9 h10); decreasing_trivial)) (x_var (i := 3) rfl) x_int)) eas_nil)) rfl rfl)) (.inl rfl))))))) (fun h12 => ?_) (fun h13 => ?_)
    · try simp only [decide_eq_true_eq, decide_eq_false_iff_not, Bool.and_eq_true, Bool.or_eq_true, Bool.not_eq_true', Bool.not_eq_false', Bool.and_eq_false_iff, Bool.or_eq_false_iff] at h12
      exact sx_ret (x_some nn_Ld (x_co co_mkF (x_tup (n_p3 (K := K) (R1 := tS) (R2' := (tT K tI)) (R3' := (tT K tI))) (ea_cons x_str (ea_cons (x_co (co_gT (by /-24-/ decreasing_trivial)) (x_ix ix_tup (o_ixT sqT (by /-23-/ decreasing_trivial)) (x_var (i := 3) rfl) x_int)) (ea_cons (x_co (co_gT (by /-26-/ decreasing_trivial)) (x_ix ix_tup (o_ixT sqT (by /-25-/ decreasing_trivial)) (x_var (i := 3) rfl) x_int)) ea_nil)))))) ⟨⟨⟨_, rfl⟩, fun h => h⟩, fun h => h⟩
    try simp only [decide_eq_true_eq, decide_eq_false_iff_not, Bool.and_eq_true, Bool.or_eq_true, Bool.not_eq_true', Bool.not_eq_false', Bool.and_eq_false_iff, Bool.or_eq_false_iff] at h13
    exact sx_ret x_none ⟨⟨_, rfl⟩, fun h => h⟩
  try simp only [decide_eq_true_eq, decide_eq_false_iff_not, Bool.and_eq_true, Bool.or_eq_true, Bool.not_eq_true', Bool.not_eq_false', Bool.and_eq_false_iff, Bool.or_eq_false_iff] at h8
  refine f_ifr (P := (RetP (fun z : (Option Dep) => pu (tO (tLd K)) z))) (t_not (t_chain (g := fun i j => decide (i ≤ j)) (g' := fun i j => decide (i < j)) op_le op_lt x_int (x_co (co_gI (by /-28-/ decreasing_trivial)) (x_ix ix_tup (o_ixT sqT (by /-27-/ decreasing_trivial)) (x_var (i := 3) rfl) x_int)) (x_callB call_len T.n_len (by decide +kernel) (n_lenA saLs) (ea_cons (x_var (i := 2) rfl) ea_nil)))) (fun h14 => ?_) (fun h15 => ?_)
  · try simp only [decide_eq_true_eq, decide_eq_false_iff_not, Bool.and_eq_true, Bool.or_eq_true, Bool.not_eq_true', Bool.not_eq_false', Bool.and_eq_false_iff, Bool.or_eq_false_iff] at h14
    exact sx_ret x_none ⟨⟨_, rfl⟩, fun h => h⟩
  try simp only [decide_eq_true_eq, decide_eq_false_iff_not, Bool.and_eq_true, Bool.or_eq_true, Bool.not_eq_true', Bool.not_eq_false', Bool.and_eq_false_iff, Bool.or_eq_false_iff] at h15
  refine f_ifr (P := (RetP (fun z : (Option Dep) => pu (tO (tLd K)) z))) (t_w (w_or (t_cmp op_eq (nomark _) o_eqS (x_co (co_gS (by /-30-/ decreasing_trivial)) (x_ix ix_tup (o_ixT sqT (by /-29-/ decreasing_trivial)) (x_var (i := 3) rfl) x_int)) x_str) (fun h16 => (w_or (t_cmp op_eq (nomark _) o_eqS (x_co (co_gS (by /-32-/ (try simp only [decide_eq_true_eq, decide_eq_false_iff_not, Bool.and_eq_true, Bool.or_eq_true, Bool.not_eq_true', Bool.not_eq_false'] at h16); decreasing_trivial)) (x_ix ix_tup (o_ixT sqT (by /-31-/ (try simp only [decide_eq_true_eq, decide_eq_false_iff_not, Bool.and_eq_true, Bool.or_eq_true, Bool.not_eq_true', Bool.not_eq_false'] at h16); decreasing_trivial)) (x_var (i := 3) rfl) x_int)) x_str) (fun h17 => (w_one (t_cmp op_eq (nomark _) o_eqS (x_co (co_gS (by /-34-/ (try simp only [decide_eq_true_eq, decide_eq_false_iff_not, Bool.and_eq_true, Bool.or_eq_true, Bool.not_eq_true', Bool.not_eq_false'] at h16 h17); decreasing_trivial)) (x_ix ix_tup (o_ixT sqT (by /-33-/ (try simp only [decide_eq_true_eq, decide_eq_false_iff_not, Bool.and_eq_true, Bool.or_eq_true, Bool.not_eq_true', Bool.not_eq_false'] at h16 h17); decreasing_trivial)) (x_var (i := 3) rfl) x_int)) x_str) (.inr rfl))))))) (fun h19 => ?_) (fun h20 => ?_)
  · try simp only [decide_eq_true_eq, decide_eq_false_iff_not, Bool.and_eq_true, Bool.or_eq_true, Bool.not_eq_true', Bool.not_eq_false', Bool.and_eq_false_iff, Bool.or_eq_false_iff] at h19
    refine f_ifr (P := (fun v r => RetP (fun z : (Option Dep) => pu (tO (tLd K)) z) v r ∧ ¬ isNx r)) (t_not (t_chain (g := fun i j => decide (i ≤ j)) (g' := fun i j => decide (i < j)) op_le op_lt x_int (x_co (co_gI (by /-36-/ decreasing_trivial)) (x_ix ix_tup (o_ixT sqT (by /-35-/ decreasing_trivial)) (x_var (i := 3) rfl) x_int)) (x_callB call_len T.n_len (by decide +kernel) (n_lenA saLs) (ea_cons (x_var (i := 2) rfl) ea_nil)))) (fun h21 => ?_) (fun h22 => ?_)
    · try simp only [decide_eq_true_eq, decide_eq_false_iff_not, Bool.and_eq_true, Bool.or_eq_true, Bool.not_eq_true', Bool.not_eq_false', Bool.and_eq_false_iff, Bool.or_eq_false_iff] at h21
      exact sx_ret x_none ⟨⟨⟨_, rfl⟩, fun h => h⟩, fun h => h⟩
    try simp only [decide_eq_true_eq, decide_eq_false_iff_not, Bool.and_eq_true, Bool.or_eq_true, Bool.not_eq_true', Bool.not_eq_false', Bool.and_eq_false_iff, Bool.or_eq_false_iff] at h22
    exact sx_ret (x_callS (Ss := [pu (tLd K) (ix vLmade_here (ix vLrow_here (1 : Int)).gI), pu (tLd K) (ix vLmade_here (ix vLrow_here (2 : Int)).gI), pu tS (ix vLrow_here (0 : Int)).gS]) (S' := pu (tO (tLd K)) (m_Lof_two (ix vLmade_here (ix vLrow_here (1 : Int)).gI) (ix vLmade_here (ix vLrow_here (2 : Int)).gI) (ix vLrow_here (0 : Int)).gS)) (ok_Lof_two T) (hr.mono (by decide)) T.g_Lof_two T.F_Lof_two.kp T.b_Lof_two ((ix vLmade_here (ix vLrow_here (1 : Int)).gI), (ix vLmade_here (ix vLrow_here (2 : Int)).gI), (ix vLrow_here (0 : Int)).gS) (by exact ⟨hmade _ (ix_mem ⟨by omega, by omega⟩), hmade _ (ix_mem ⟨by omega, by omega⟩)⟩) (eas_cons (x_ix ix_list (o_ixL sqLs (by /-39-/ decreasing_trivial)) (x_var (i := 2) rfl) (x_co (co_gI (by /-38-/ decreasing_trivial)) (x_ix ix_tup (o_ixT sqT (by /-37-/ decreasing_trivial)) (x_var (i := 3) rfl) x_int))) (eas_cons (x_ix ix_list (o_ixL sqLs (by /-42-/ decreasing_trivial)) (x_var (i := 2) rfl) (x_co (co_gI (by /-41-/ decreasing_trivial)) (x_ix ix_tup (o_ixT sqT (by /-40-/ decreasing_trivial)) (x_var (i := 3) rfl) x_int))) (eas_cons (x_co (co_gS (by /-44-/ decreasing_trivial)) (x_ix ix_tup (o_ixT sqT (by /-43-/ decreasing_trivial)) (x_var (i := 3) rfl) x_int)) eas_nil))) rfl rfl) ⟨⟨_, rfl⟩, fun h => h⟩
  try simp only [decide_eq_true_eq, decide_eq_false_iff_not, Bool.and_eq_true, Bool.or_eq_true, Bool.not_eq_true', Bool.not_eq_false', Bool.and_eq_false_iff, Bool.or_eq_false_iff] at h20
  exact sx_ret (x_callS (Ss := [pu tI vLcount, pu (tLd K) (ix vLmade_here (ix vLrow_here (1 : Int)).gI), pu (tT K (tF K)) vLrow_here]) (S' := pu (tO (tLd K)) (m_Lof_one vLcount (ix vLmade_here (ix vLrow_here (1 : Int)).gI) vLrow_here)) (ok_Lof_one T) (hr.mono (by decide)) T.g_Lof_one T.F_Lof_one.kp T.b_Lof_one (vLcount, (ix vLmade_here (ix vLrow_here (1 : Int)).gI), vLrow_here) (by exact ⟨hpre.1, hpre.2.1, hmade _ (ix_mem ⟨by omega, by omega⟩), hrow, (by first | exact hrow.rest (by assumption) (by assumption) (by assumption) | exact hrow.rest' (by assumption) (by assumption) (by assumption))⟩) (eas_cons (x_var (i := 0) rfl) (eas_cons (x_ix ix_list (o_ixL sqLs (by /-48-/ decreasing_trivial)) (x_var (i := 2) rfl) (x_co (co_gI (by /-47-/ decreasing_trivial)) (x_ix ix_tup (o_ixT sqT (by /-46-/ decreasing_trivial)) (x_var (i := 3) rfl) x_int))) (eas_cons (x_var (i := 3) rfl) eas_nil))) rfl rfl) ⟨_, rfl⟩
theorem ok_Lnext (T : Tx K mg base) : FnOk P w K mg base CX0 5 T.a_Lnext T.d_Lnext ["_law_numbers_here", "_law_place", "_law_count", "_law_told_here", "_law_made_here"] (spP (A := (List Int) × Int × Int × (List Dep) × (List Dep)) (fun x => (0 ≤ x.2.1 ∧ x.2.1 + 1 < x.1.length ∧ 0 ≤ x.2.2.1 ∧ x.2.2.1 ≤ 10 ∧ x.2.2.2.2.length ≤ 20 ∧ x.2.2.2.1.length ≤ 20 ∧ (∀ d ∈ x.2.2.2.2, DepC 10 d))) (fun x => [pu (tLs K tI) x.1, pu tI x.2.1, pu tI x.2.2.1, pu (tLs K (tLd K)) x.2.2.2.1, pu (tLs K (tLd K)) x.2.2.2.2]) (fun x => pu (tT K (tF K)) (m_Lnext x.1 x.2.1 x.2.2.1 x.2.2.2.1 x.2.2.2.2))) := by
  refine fn_ok T.F_Lnext sc_Lnext (fun _ => rfl) fun X x hX hr hpre => ?_
  obtain ⟨vLnumbers_here, vLplace, vLcount, vLtold_here, vLmade_here⟩ := x
  obtain ⟨cdv, A, outer, s, H, E, rfl⟩ := hX
  replace hpre : 0 ≤ vLplace ∧ vLplace + 1 < vLnumbers_here.length ∧ 0 ≤ vLcount ∧ vLcount ≤ 10 ∧ vLmade_here.length ≤ 20 ∧ vLtold_here.length ≤ 20 ∧ (∀ d ∈ vLmade_here, DepC 10 d) := hpre
  have hz1 : sizeLine = 16777216 := rfl
  have hz2 : scanBound = 4096 := rfl
  have hc10 := hpre.2.2.2.1
  have hmd := hpre.2.2.2.2.2.2
  have hwl : (Lnext_Lwords1 vLnumbers_here vLplace vLcount vLtold_here vLmade_here).length = 9 := rfl
  have hem := emod_in (a := ix vLnumbers_here vLplace) (b := 9) (by decide)
  have hri := right_ok (ns := vLnumbers_here) (pl := vLplace) (told := vLtold_here) (made := vLmade_here) hc10
  show SX _ _ [pu (tLs K tI) vLnumbers_here, pu tI vLplace, pu tI vLcount, pu (tLs K (tLd K)) vLtold_here, pu (tLs K (tLd K)) vLmade_here, un, un, un, un] _
  refine SX.imp (P := RetP (fun z : (List FV) => pu (tT K (tF K)) z) (m_Lnext vLnumbers_here vLplace vLcount vLtold_here vLmade_here)) ?_ fun r h => .inl h
  unfold m_Lnext
  refine sx_seq (Γ1 := [pu (tLs K tI) vLnumbers_here, pu tI vLplace, pu tI vLcount, pu (tLs K (tLd K)) vLtold_here, pu (tLs K (tLd K)) vLmade_here, pu (tLs K tS) (Lnext_Lwords1 vLnumbers_here vLplace vLcount vLtold_here vLmade_here), un, un, un]) (s1_setStrs (i := 5) (xs := ([("told" : PySem.Str), ("within" : PySem.Str), ("with" : PySem.Str), ("through" : PySem.Str), ("also" : PySem.Str), ("other" : PySem.Str), ("wide" : PySem.Str), ("beyond" : PySem.Str), ("meets" : PySem.Str)] : List PySem.Str)) (zs := (Lnext_Lwords1 vLnumbers_here vLplace vLcount vLtold_here vLmade_here)) sc_Lnext.nd rfl (by first | exact Or.inl rfl | exact Or.inr rfl) rfl (show 9 ≤ sizeLine by decide) rfl (show 5 < 9 by decide) rfl) ?_
  refine sx_seq (Γ1 := [pu (tLs K tI) vLnumbers_here, pu tI vLplace, pu tI vLcount, pu (tLs K (tLd K)) vLtold_here, pu (tLs K (tLd K)) vLmade_here, pu (tLs K tS) (Lnext_Lwords1 vLnumbers_here vLplace vLcount vLtold_here vLmade_here), pu (tLs K (tT K (tF K))) (Lnext_Ltried_here1 vLnumbers_here vLplace vLcount vLtold_here vLmade_here), un, un]) (s1_setE (i := 6) sc_Lnext.nd rfl (by first | exact Or.inl rfl | exact Or.inr rfl) (x_val (x_callS (Ss := [pu (tLs K tI) vLnumbers_here, pu tI vLplace, pu tI vLcount, pu (tLs K (tLd K)) vLmade_here, pu (tLs K (tLd K)) vLtold_here, pu tS (ix (Lnext_Lwords1 vLnumbers_here vLplace vLcount vLtold_here vLmade_here) ((ix vLnumbers_here vLplace) % (9 : Int)))]) (S' := pu (tLs K (tT K (tF K))) (m_Ltried vLnumbers_here vLplace vLcount vLmade_here vLtold_here (ix (Lnext_Lwords1 vLnumbers_here vLplace vLcount vLtold_here vLmade_here) ((ix vLnumbers_here vLplace) % (9 : Int))))) (ok_Ltried T) (hr.mono (by decide)) T.g_Ltried T.F_Ltried.kp T.b_Ltried (vLnumbers_here, vLplace, vLcount, vLmade_here, vLtold_here, (ix (Lnext_Lwords1 vLnumbers_here vLplace vLcount vLtold_here vLmade_here) ((ix vLnumbers_here vLplace) % (9 : Int)))) (by /-4-/ decreasing_trivial) (eas_cons (x_var (i := 0) rfl) (eas_cons (x_var (i := 1) rfl) (eas_cons (x_var (i := 2) rfl) (eas_cons (x_var (i := 4) rfl) (eas_cons (x_var (i := 3) rfl) (eas_cons (x_ix ix_list (o_ixL sqLs (by /-3-/ decreasing_trivial)) (x_var (i := 5) rfl) (x_mod (x_ix ix_list (o_ixL sqLs (by /-1-/ decreasing_trivial)) (x_var (i := 0) rfl) (x_var (i := 1) rfl)) x_int (by /-2-/ decreasing_trivial))) eas_nil)))))) rfl rfl) (z := (Lnext_Ltried_here1 vLnumbers_here vLplace vLcount vLtold_here vLmade_here)) rfl) (show 6 < 9 by decide) rfl) ?_
  refine sx_seq (s1_setLcV (i := 7) (v := (Lnext_Lright1 vLnumbers_here vLplace vLcount vLtold_here vLmade_here)) rfl sc_Lnext.nd rfl rfl (sw_true rfl rfl rfl (by decide +kernel)) (show 7 < 9 by decide) (w_list sqLs (x_var (i := 6) rfl)) (blkOk_by (own := [("_law_row_here", 8)]) (N := N_Lnext) (sc := defScope s_Lnext) (by decide +kernel)) (fun _ _ _ _ _ => (pg_name (i := 8) sc_Lnext.nd rfl (by first | exact Or.inl rfl | exact Or.inr rfl))) (tg_name (show 8 < 9 by decide)) (fun (x1 : (List FV)) => (m_Lrow vLcount vLtold_here vLmade_here x1).isSome) (fun (x1 : (List FV)) => x1) (fun _ _ _ _ _ ix1 x1 hxx1 => (is_one (t_cmp op_notN (nomark _) o_notN (x_callS (Ss := [pu tI vLcount, pu (tLs K (tLd K)) vLtold_here, pu (tLs K (tLd K)) vLmade_here, pu (tT K (tF K)) x1]) (S' := pu (tO (tLd K)) (m_Lrow vLcount vLtold_here vLmade_here x1)) (ok_Lrow T) (by exact hr.mono (by decide)) T.g_Lrow T.F_Lrow.kp T.b_Lrow (vLcount, vLtold_here, vLmade_here, x1) (by exact ⟨hpre.2.2.1, hc10, hmd, (tried_ok hc10 (nine_at _) _ (w_at hxx1).2).mono (by decide)⟩) (eas_cons (x_var (i := 2) rfl) (eas_cons (x_var (i := 3) rfl) (eas_cons (x_var (i := 4) rfl) (eas_cons (x_var (i := 8) rfl) eas_nil)))) rfl rfl) x_non))) (fun _ _ _ _ _ ix1 x1 hxx1 hpx1 => (x_var (i := 8) rfl)) lc_fid) ?_
  show SX _ _ [pu (tLs K tI) vLnumbers_here, pu tI vLplace, pu tI vLcount, pu (tLs K (tLd K)) vLtold_here, pu (tLs K (tLd K)) vLmade_here, pu (tLs K tS) (Lnext_Lwords1 vLnumbers_here vLplace vLcount vLtold_here vLmade_here), pu (tLs K (tT K (tF K))) (Lnext_Ltried_here1 vLnumbers_here vLplace vLcount vLtold_here vLmade_here), ol (tT K (tF K)) (Lnext_Lright1 vLnumbers_here vLplace vLcount vLtold_here vLmade_here), un] _
  refine SX.wk (Γ' := [pu (tLs K tI) vLnumbers_here, pu tI vLplace, pu tI vLcount, pu (tLs K (tLd K)) vLtold_here, pu (tLs K (tLd K)) vLmade_here, pu (tLs K tS) (Lnext_Lwords1 vLnumbers_here vLplace vLcount vLtold_here vLmade_here), pu (tLs K (tT K (tF K))) (Lnext_Ltried_here1 vLnumbers_here vLplace vLcount vLtold_here vLmade_here), pu (tLs K (tT K (tF K))) (Lnext_Lright1 vLnumbers_here vLplace vLcount vLtold_here vLmade_here), un]) (Wk.frz K (i := 7) rfl) ?_
  refine f_ifJ (fun (s : (List (List FV))) => [pu (tLs K tI) vLnumbers_here, pu tI vLplace, pu tI vLcount, pu (tLs K (tLd K)) vLtold_here, pu (tLs K (tLd K)) vLmade_here, pu (tLs K tS) (Lnext_Lwords1 vLnumbers_here vLplace vLcount vLtold_here vLmade_here), pu (tLs K (tT K (tF K))) (Lnext_Ltried_here1 vLnumbers_here vLplace vLcount vLtold_here vLmade_here), pu (tLs K (tT K (tF K))) s, un]) (Lnext_j_Lright1 vLnumbers_here vLplace vLcount vLtold_here vLmade_here) (A := (Lnext_Lright2 vLnumbers_here vLplace vLcount vLtold_here vLmade_here)) (B := (Lnext_Lright1 vLnumbers_here vLplace vLcount vLtold_here vLmade_here)) (t_cmp (op_eqD hr.units) (nomark _) (o_eqD dI) (x_callB call_len T.n_len (by decide +kernel) (n_lenA saLs) (ea_cons (x_var (i := 7) rfl) ea_nil)) x_int) rfl (fun h2 => ?_) (fun h3 => ?_) ?_
  · try simp only [decide_eq_true_eq, decide_eq_false_iff_not, Bool.and_eq_true, Bool.or_eq_true, Bool.not_eq_true', Bool.not_eq_false', Bool.and_eq_false_iff, Bool.or_eq_false_iff] at h2
    refine sx_seq (Γ1 := [pu (tLs K tI) vLnumbers_here, pu tI vLplace, pu tI vLcount, pu (tLs K (tLd K)) vLtold_here, pu (tLs K (tLd K)) vLmade_here, pu (tLs K tS) (Lnext_Lwords1 vLnumbers_here vLplace vLcount vLtold_here vLmade_here), pu (tLs K (tT K (tF K))) (Lnext_Ltried_here1 vLnumbers_here vLplace vLcount vLtold_here vLmade_here), pu (tLs K (tT K (tF K))) (Lnext_Lright2 vLnumbers_here vLplace vLcount vLtold_here vLmade_here), un]) (s1_setE (i := 7) sc_Lnext.nd rfl (by first | exact Or.inl rfl | exact Or.inr rfl) (x_val (x_callS (Ss := [pu (tLs K tI) vLnumbers_here, pu tI vLplace, pu tI vLcount, pu (tLs K (tLd K)) vLmade_here, pu (tLs K (tLd K)) vLtold_here, pu tS ("within" : PySem.Str)]) (S' := pu (tLs K (tT K (tF K))) (m_Ltried vLnumbers_here vLplace vLcount vLmade_here vLtold_here ("within" : PySem.Str))) (ok_Ltried T) (hr.mono (by decide)) T.g_Ltried T.F_Ltried.kp T.b_Ltried (vLnumbers_here, vLplace, vLcount, vLmade_here, vLtold_here, ("within" : PySem.Str)) (by /-6-/ decreasing_trivial) (eas_cons (x_var (i := 0) rfl) (eas_cons (x_var (i := 1) rfl) (eas_cons (x_var (i := 2) rfl) (eas_cons (x_var (i := 4) rfl) (eas_cons (x_var (i := 3) rfl) (eas_cons x_str eas_nil)))))) rfl rfl) (z := (Lnext_Lright2 vLnumbers_here vLplace vLcount vLtold_here vLmade_here)) rfl) (show 7 < 9 by decide) rfl) ?_
    exact f_nx ⟨_, rfl, Wk.uns []⟩
  · try simp only [decide_eq_true_eq, decide_eq_false_iff_not, Bool.and_eq_true, Bool.or_eq_true, Bool.not_eq_true', Bool.not_eq_false', Bool.and_eq_false_iff, Bool.or_eq_false_iff] at h3
    exact f_nx ⟨_, rfl, Wk.uns []⟩
  exact sx_ret (x_ix ix_list (o_ixL sqLs (by exact at_mod hri.2)) (x_var (i := 7) rfl) (x_mod (x_div (x_ix ix_list (o_ixL sqLs (by /-7-/ decreasing_trivial)) (x_var (i := 0) rfl) (x_var (i := 1) rfl)) x_int (by /-8-/ decreasing_trivial)) (x_callB call_len T.n_len (by decide +kernel) (n_lenA saLs) (ea_cons (x_var (i := 7) rfl) ea_nil)) (by /-9-/ decreasing_trivial))) ⟨_, rfl⟩
theorem ok_Lderivation (T : Tx K mg base) : FnOk P w K mg base CX0 6 T.a_Lderivation T.d_Lderivation ["_law_numbers_here", "_law_place", "_law_count", "_law_told_here", "_law_size"] (spP (A := (List Int) × Int × Int × (List Dep) × Int) (fun x => (0 ≤ x.2.1 ∧ x.2.1 + 2 * x.2.2.2.2 ≤ x.1.length ∧ 0 ≤ x.2.2.1 ∧ x.2.2.1 ≤ 10 ∧ x.2.2.2.1.length ≤ 4 ∧ 0 ≤ x.2.2.2.2 ∧ x.2.2.2.2 ≤ 5 ∧ ∀ d ∈ x.2.2.2.1, DepC 10 d)) (fun x => [pu (tLs K tI) x.1, pu tI x.2.1, pu tI x.2.2.1, pu (tLs K (tLd K)) x.2.2.2.1, pu tI x.2.2.2.2]) (fun x => pu (tLs K (tT K (tF K))) (m_Lderivation x.1 x.2.1 x.2.2.1 x.2.2.2.1 x.2.2.2.2))) := by
  refine fn_ok T.F_Lderivation sc_Lderivation (fun _ => rfl) fun X x hX hr hpre => ?_
  obtain ⟨vLnumbers_here, vLplace, vLcount, vLtold_here, vLsize⟩ := x
  obtain ⟨cdv, A, outer, s, H, E, rfl⟩ := hX
  replace hpre : 0 ≤ vLplace ∧ vLplace + 2 * vLsize ≤ vLnumbers_here.length ∧ 0 ≤ vLcount ∧ vLcount ≤ 10 ∧ vLtold_here.length ≤ 4 ∧ 0 ≤ vLsize ∧ vLsize ≤ 5 ∧ ∀ d ∈ vLtold_here, DepC 10 d := hpre
  have hz1 : sizeLine = 16777216 := rfl
  have hz2 : scanBound = 4096 := rfl
  have h0_ := hpre.2.2.1
  have h10_ := hpre.2.2.2.1
  have ht4_ := hpre.2.2.2.2.1
  have hz0_ := hpre.2.2.2.2.2.1
  have hz5_ := hpre.2.2.2.2.2.2.1
  have htd_ := hpre.2.2.2.2.2.2.2
  show SX _ _ [pu (tLs K tI) vLnumbers_here, pu tI vLplace, pu tI vLcount, pu (tLs K (tLd K)) vLtold_here, pu tI vLsize, un, un, un, un] _
  refine SX.imp (P := RetP (fun z : (List (List FV)) => pu (tLs K (tT K (tF K))) z) (m_Lderivation vLnumbers_here vLplace vLcount vLtold_here vLsize)) ?_ fun r h => .inl h
  unfold m_Lderivation
  refine sx_seq (s1_setLcV (i := 5) (v := (Lderivation_Lrows1 vLnumbers_here vLplace vLcount vLtold_here vLsize)) rfl sc_Lderivation.nd rfl rfl (sw_true rfl rfl rfl (by decide +kernel)) (show 5 < 9 by decide) (w_range1 T.n_range (x_callB call_len T.n_len (by decide +kernel) (n_lenA saLs) (ea_cons (x_var (i := 3) rfl) ea_nil)) (by /-1-/ decreasing_trivial) (by /-2-/ decreasing_trivial)) (blkOk_by (own := [("_law_k", 6)]) (N := N_Lderivation) (sc := defScope s_Lderivation) (by decide +kernel)) (fun _ _ _ _ _ => (pg_name (i := 6) sc_Lderivation.nd rfl (by first | exact Or.inl rfl | exact Or.inr rfl))) (tg_name (show 6 < 9 by decide)) (fun (x1 : Int) => (!(decide ((ix vLtold_here x1).word = ("jd" : PySem.Str))))) (fun (x1 : Int) => ([(FV.s ("told" : PySem.Str)), (FV.i x1)] : List FV)) (fun _ _ _ _ _ ix1 x1 hxx1 => (is_one (t_cmp op_ne (nomark _) o_neS (x_ldW (x_ix ix_list (o_ixL sqLs (by /-3-/ have hrhxx1 := rng_at hxx1; decreasing_trivial)) (x_var (i := 3) rfl) (x_var (i := 6) rfl)) x_int) x_str))) (fun _ _ _ _ _ ix1 x1 hxx1 hpx1 => (x_tup (Ss := [pu (tF K) (FV.s ("told" : PySem.Str)), pu (tF K) (FV.i x1)]) (n_tup (K := K) (R := (tF K)) (xs := [(FV.s ("told" : PySem.Str)), (FV.i x1)]) (show 2 ≤ sizeLine by decide)) (ea_cons (x_co co_fs x_str) (ea_cons (x_co co_fi (x_var (i := 6) rfl)) ea_nil)))) rfl) ?_
  show SX _ _ [pu (tLs K tI) vLnumbers_here, pu tI vLplace, pu tI vLcount, pu (tLs K (tLd K)) vLtold_here, pu tI vLsize, ol (tT K (tF K)) (Lderivation_Lrows1 vLnumbers_here vLplace vLcount vLtold_here vLsize), un, un, un] _
  refine sx_seq (s1_setLcB (Γ := [pu (tLs K tI) vLnumbers_here, pu tI vLplace, pu tI vLcount, pu (tLs K (tLd K)) vLtold_here, pu tI vLsize, ol (tT K (tF K)) (Lderivation_Lrows1 vLnumbers_here vLplace vLcount vLtold_here vLsize), un, un, un]) (Γf := [pu (tLs K tI) vLnumbers_here, pu tI vLplace, pu tI vLcount, pu (tLs K (tLd K)) vLtold_here, pu tI vLsize, pu (tLs K (tT K (tF K))) (Lderivation_Lrows1 vLnumbers_here vLplace vLcount vLtold_here vLsize), un, un, un]) (i := 7) (v := (Lderivation_Lmade_here1 vLnumbers_here vLplace vLcount vLtold_here vLsize)) (Fy.pu (Fy.pu (Fy.pu (Fy.pu (Fy.pu (Fy.ol (Fy.un (Fy.un (Fy.un Fy.nil))))))))) nl_Ld rfl sc_Lderivation.nd rfl rfl (sw_true rfl rfl rfl (by decide +kernel)) (show 7 < 9 by decide) (w_list sqLs (x_var (i := 5) rfl)) (blkOk_by (own := [("_law_row_here", 8)]) (N := N_Lderivation) (sc := defScope s_Lderivation) (by decide +kernel)) (fun _ _ _ _ _ => (pg_name (i := 8) sc_Lderivation.nd rfl (by first | exact Or.inl rfl | exact Or.inr rfl))) (tg_name (show 8 < 9 by decide)) (fun (x2 : (List FV)) => true) (fun (x2 : (List FV)) => (ix vLtold_here (ix x2 (1 : Int)).gI)) (fun _ _ _ _ _ ix2 x2 hxx2 => is_nil) (fun _ _ _ _ _ ix2 x2 hxx2 hpx2 => (x_ix ix_list (o_ixL sqLs (by obtain ⟨k_, e_, k0_, k1_, kj_⟩ := base_in (w_at hxx2).2; rw [e_]; rw [ix1]; exact ⟨by show -(vLtold_here.length : Int) ≤ k_; omega, k1_⟩)) (x_var (i := 3) rfl) (x_co (co_gI (by obtain ⟨k_, e_, k0_, k1_, kj_⟩ := base_in (w_at hxx2).2; rw [e_]; rw [ix1]; rfl)) (x_ix ix_tup (o_ixT sqT (by obtain ⟨k_, e_, k0_, k1_, kj_⟩ := base_in (w_at hxx2).2; rw [e_]; simp [InIx])) (x_var (i := 8) rfl) x_int)))) lc_all) ?_
  show SX _ _ [pu (tLs K tI) vLnumbers_here, pu tI vLplace, pu tI vLcount, pu (tLs K (tLd K)) vLtold_here, pu tI vLsize, ol (tT K (tF K)) (Lderivation_Lrows1 vLnumbers_here vLplace vLcount vLtold_here vLsize), un, ol (tLd K) (Lderivation_Lmade_here1 vLnumbers_here vLplace vLcount vLtold_here vLsize), un] _
  refine f_for PassesOwn.never rfl (w_range1 T.n_range (x_var (i := 4) rfl) (by /-7-/ decreasing_trivial) (by /-8-/ decreasing_trivial)) (pg_name (i := 6) sc_Lderivation.nd rfl (by first | exact Or.inl rfl | exact Or.inr rfl)) (tg_name (show 6 < 9 by decide)) (fun (s : (List (List FV)) × (List Dep)) => [pu (tLs K tI) vLnumbers_here, pu tI vLplace, pu tI vLcount, pu (tLs K (tLd K)) vLtold_here, pu tI vLsize, ol (tT K (tF K)) s.1, un, ol (tLd K) s.2, un]) (Lderivation_st1 vLnumbers_here vLplace vLcount vLtold_here vLsize) ((Lderivation_Lrows1 vLnumbers_here vLplace vLcount vLtold_here vLsize), (Lderivation_Lmade_here1 vLnumbers_here vLplace vLcount vLtold_here vLsize)) (Lderivation_loop1 vLnumbers_here vLplace vLcount vLtold_here vLsize) rfl (fun _ => rfl) (Wk.uns []) ?_ ?_
  · rintro ix3 x3 ⟨vLrows4, vLmade_here5⟩ hxx3 hsx3 hzx3
    have hrhxx3 := rng_at hxx3
    have hdr_ := drv_at h0_ h10_ htd_ hsx3
    have hdm_ := hdr_.made h10_ htd_
    have hdl_ := hdr_.len.2
    have hml_ := hdm_.2
    have hi_ := (w_at hxx3).1
    rw [rangeI_len] at hi_
    dsimp only at hdl_ hml_
    have hl_Lrows := foldl_len (fun s : (List (List FV)) × (List Dep) => s.1) 1 (Lderivation_st1 vLnumbers_here vLplace vLcount vLtold_here vLsize) (by intro s x; (try unfold Lderivation_st1); (repeat' split) <;> (try simp only [Lderivation_st1, Lderivation_Lrow_here1, Lderivation_Lmade_here2, Lderivation_Lrows2, List.length_append, List.length_cons, List.length_nil]) <;> (try omega)) ((rangeI 0 vLsize).take ix3) ((Lderivation_Lrows1 vLnumbers_here vLplace vLcount vLtold_here vLsize), (Lderivation_Lmade_here1 vLnumbers_here vLplace vLcount vLtold_here vLsize))
    rw [hsx3] at hl_Lrows
    have hi_Lrows := (w_at hxx3).1
    simp only [List.length_take, List.length_nil, rangeI_len] at hl_Lrows hi_Lrows
    have hl_Lmade_here := foldl_len (fun s : (List (List FV)) × (List Dep) => s.2) 1 (Lderivation_st1 vLnumbers_here vLplace vLcount vLtold_here vLsize) (by intro s x; (try unfold Lderivation_st1); (repeat' split) <;> (try simp only [Lderivation_st1, Lderivation_Lrow_here1, Lderivation_Lmade_here2, Lderivation_Lrows2, List.length_append, List.length_cons, List.length_nil]) <;> (try omega)) ((rangeI 0 vLsize).take ix3) ((Lderivation_Lrows1 vLnumbers_here vLplace vLcount vLtold_here vLsize), (Lderivation_Lmade_here1 vLnumbers_here vLplace vLcount vLtold_here vLsize))
    rw [hsx3] at hl_Lmade_here
    have hi_Lmade_here := (w_at hxx3).1
    simp only [List.length_take, List.length_nil, rangeI_len] at hl_Lmade_here hi_Lmade_here
    refine sx_seq (Γ1 := [pu (tLs K tI) vLnumbers_here, pu tI vLplace, pu tI vLcount, pu (tLs K (tLd K)) vLtold_here, pu tI vLsize, ol (tT K (tF K)) vLrows4, pu tI x3, ol (tLd K) vLmade_here5, pu (tT K (tF K)) (Lderivation_Lrow_here1 vLnumbers_here vLplace vLcount vLtold_here vLsize vLrows4 vLmade_here5 x3)]) (s1_setE (i := 8) sc_Lderivation.nd rfl (by first | exact Or.inl rfl | exact Or.inr rfl) (x_val (x_borN (Fy.pu (Fy.pu (Fy.pu (Fy.pu (Fy.pu (Fy.ol (Fy.pu (Fy.ol (Fy.un Fy.nil))))))))) (nl_T nl_F) (x_callS (Ss := [pu (tLs K tI) vLnumbers_here, pu tI (vLplace + ((2 : Int) * x3)), pu tI vLcount, pu (tLs K (tLd K)) vLtold_here, pu (tLs K (tLd K)) vLmade_here5]) (S' := pu (tT K (tF K)) (m_Lnext vLnumbers_here (vLplace + ((2 : Int) * x3)) vLcount vLtold_here vLmade_here5)) (ok_Lnext T) (hr.mono (by decide)) T.g_Lnext T.F_Lnext.kp T.b_Lnext (vLnumbers_here, (vLplace + ((2 : Int) * x3)), vLcount, vLtold_here, vLmade_here5) (by refine ⟨?_, ?_, ?_, ?_, ?_, ?_, fun d hd => (hdm_.1 d hd).1⟩ <;> dsimp only <;> omega) (eas_cons (x_var (i := 0) rfl) (eas_cons (x_add (x_var (i := 1) rfl) (x_mul x_int (x_var (i := 6) rfl) (by /-9-/ decreasing_trivial))) (eas_cons (x_var (i := 2) rfl) (eas_cons (x_var (i := 3) rfl) (eas_cons (x_var (i := 7) rfl) eas_nil))))) rfl rfl)) (z := (Lderivation_Lrow_here1 vLnumbers_here vLplace vLcount vLtold_here vLsize vLrows4 vLmade_here5 x3)) rfl) (show 8 < 9 by decide) rfl) ?_
    refine sx_seq (Γ1 := [pu (tLs K tI) vLnumbers_here, pu tI vLplace, pu tI vLcount, pu (tLs K (tLd K)) vLtold_here, pu tI vLsize, ol (tT K (tF K)) vLrows4, pu tI x3, ol (tLd K) (Lderivation_Lmade_here2 vLnumbers_here vLplace vLcount vLtold_here vLsize vLrows4 vLmade_here5 x3), pu (tT K (tF K)) (Lderivation_Lrow_here1 vLnumbers_here vLplace vLcount vLtold_here vLsize vLrows4 vLmade_here5 x3)]) (s1_app (i := 7) rfl (x_borN (Fy.pu (Fy.pu (Fy.pu (Fy.pu (Fy.pu (Fy.ol (Fy.pu (Fy.ol (Fy.pu Fy.nil))))))))) nl_Ld (x_unO (d := default) (x_callS (Ss := [pu tI vLcount, pu (tLs K (tLd K)) vLtold_here, pu (tLs K (tLd K)) vLmade_here5, pu (tT K (tF K)) (Lderivation_Lrow_here1 vLnumbers_here vLplace vLcount vLtold_here vLsize vLrows4 vLmade_here5 x3)]) (S' := pu (tO (tLd K)) (m_Lrow vLcount vLtold_here vLmade_here5 (Lderivation_Lrow_here1 vLnumbers_here vLplace vLcount vLtold_here vLsize vLrows4 vLmade_here5 x3))) (ok_Lrow T) (hr.mono (by decide)) T.g_Lrow T.F_Lrow.kp T.b_Lrow (vLcount, vLtold_here, vLmade_here5, (Lderivation_Lrow_here1 vLnumbers_here vLplace vLcount vLtold_here vLsize vLrows4 vLmade_here5 x3)) (by exact ⟨h0_, h10_, fun d hd => (hdm_.1 d hd).1, (next_ok h10_).mono (by decide)⟩) (eas_cons (x_var (i := 2) rfl) (eas_cons (x_var (i := 3) rfl) (eas_cons (x_var (i := 7) rfl) (eas_cons (x_var (i := 8) rfl) eas_nil)))) rfl rfl) (by exact next_right h0_ h10_))) rfl (by omega)) ?_
    refine sx_seq (Γ1 := [pu (tLs K tI) vLnumbers_here, pu tI vLplace, pu tI vLcount, pu (tLs K (tLd K)) vLtold_here, pu tI vLsize, ol (tT K (tF K)) (Lderivation_Lrows2 vLnumbers_here vLplace vLcount vLtold_here vLsize vLrows4 vLmade_here5 x3), pu tI x3, ol (tLd K) (Lderivation_Lmade_here2 vLnumbers_here vLplace vLcount vLtold_here vLsize vLrows4 vLmade_here5 x3), pu (tT K (tF K)) (Lderivation_Lrow_here1 vLnumbers_here vLplace vLcount vLtold_here vLsize vLrows4 vLmade_here5 x3)]) (s1_app (i := 5) rfl (x_var (i := 8) rfl) rfl (by omega)) ?_
    exact f_nx ⟨_, .inl rfl, Wk.uns [6, 8]⟩
  exact sx_ret (x_frz (x_mov (i := 5) rfl ol_some)) ⟨_, rfl⟩
theorem ok_Lmade (T : Tx K mg base) : FnOk P w K mg base CX0 5 T.a_Lmade T.d_Lmade ["_law_count", "_law_told_here", "_law_rows"] (spP (A := Int × (List Dep) × (List (List FV))) (fun x => (0 ≤ x.1 ∧ x.1 ≤ 10 ∧ (∀ d ∈ x.2.1, DepC 10 d) ∧ (∀ r ∈ x.2.2, RowOk 12 r) ∧ x.2.2.length ≤ 100)) (fun x => [pu tI x.1, pu (tLs K (tLd K)) x.2.1, pu (tLs K (tT K (tF K))) x.2.2]) (fun x => pu (tO (tLs K (tLd K))) (m_Lmade x.1 x.2.1 x.2.2))) := by
  refine fn_ok T.F_Lmade sc_Lmade (fun _ => rfl) fun X x hX hr hpre => ?_
  obtain ⟨vLcount, vLtold_here, vLrows⟩ := x
  obtain ⟨cdv, A, outer, s, H, E, rfl⟩ := hX
  replace hpre : 0 ≤ vLcount ∧ vLcount ≤ 10 ∧ (∀ d ∈ vLtold_here, DepC 10 d) ∧ (∀ r ∈ vLrows, RowOk 12 r) ∧ vLrows.length ≤ 100 := hpre
  have hz1 : sizeLine = 16777216 := rfl
  have hz2 : scanBound = 4096 := rfl
  show SX _ _ [pu tI vLcount, pu (tLs K (tLd K)) vLtold_here, pu (tLs K (tT K (tF K))) vLrows, un, un, un] _
  refine SX.imp (P := RetP (fun z : (Option (List Dep)) => pu (tO (tLs K (tLd K))) z) (m_Lmade vLcount vLtold_here vLrows)) ?_ fun r h => .inl h
  unfold m_Lmade
  refine sx_seq (Γ1 := [pu tI vLcount, pu (tLs K (tLd K)) vLtold_here, pu (tLs K (tT K (tF K))) vLrows, ol (tLd K) (Lmade_Lmade_here1 vLcount vLtold_here vLrows), un, un]) (s1_setE (i := 3) sc_Lmade.nd rfl (by first | exact Or.inl rfl | exact Or.inr rfl) (x_valo (x_lst (Ss := []) (n_lst (R := (tLd K)) (xs := []) (show 0 ≤ sizeLine by decide)) ea_nil) (zs := (Lmade_Lmade_here1 vLcount vLtold_here vLrows)) rfl) (show 3 < 6 by decide) rfl) ?_
  refine f_forE (P := (RetP (fun z : (Option (List Dep)) => pu (tO (tLs K (tLd K))) z))) (Pq := (RetP (fun z : (Option (List Dep)) => pu (tO (tLs K (tLd K))) z))) (fun (s5 : (List Dep)) => (some s5)) (fun q => q) PassesOwn.never rfl (w_list sqLs (x_var (i := 2) rfl)) (pg_name (i := 4) sc_Lmade.nd rfl (by first | exact Or.inl rfl | exact Or.inr rfl)) (tg_name (show 4 < 6 by decide)) (fun (s : (List Dep)) => [pu tI vLcount, pu (tLs K (tLd K)) vLtold_here, pu (tLs K (tT K (tF K))) vLrows, ol (tLd K) s, un, un]) (Lmade_st1 vLcount vLtold_here vLrows) (Lmade_Lmade_here1 vLcount vLtold_here vLrows) (fun _ => rfl) (Wk.uns []) ?_ (fun s5 hrs5 => ?_) (fun _ _ h => h) rfl
  · intro ix1 x1 vLmade_here2 hxx1 hsx1 hzx1
    have hm_ := Lmade_at hpre.2.1 hpre.2.2.1 hsx1
    have hd1 : ∀ d ∈ vLmade_here2, DepC 10 d := fun d hd => (hm_.1 d hd).1
    have hlen_ := hm_.2
    have hi_ := (w_at hxx1).1
    have hrow := hpre.2.2.2.1 _ (w_at hxx1).2
    refine sx_seq (Γ1 := [pu tI vLcount, pu (tLs K (tLd K)) vLtold_here, pu (tLs K (tT K (tF K))) vLrows, ol (tLd K) vLmade_here2, pu (tT K (tF K)) x1, pu (tO (tLd K)) (Lmade_Lfound1 vLcount vLtold_here vLrows vLmade_here2 x1)]) (s1_setE (i := 5) sc_Lmade.nd rfl (by first | exact Or.inl rfl | exact Or.inr rfl) (x_val (x_borN (Fy.pu (Fy.pu (Fy.pu (Fy.ol (Fy.pu (Fy.un Fy.nil)))))) (nl_O nl_Ld) (x_callS (Ss := [pu tI vLcount, pu (tLs K (tLd K)) vLtold_here, pu (tLs K (tLd K)) vLmade_here2, pu (tT K (tF K)) x1]) (S' := pu (tO (tLd K)) (m_Lrow vLcount vLtold_here vLmade_here2 x1)) (ok_Lrow T) (hr.mono (by decide)) T.g_Lrow T.F_Lrow.kp T.b_Lrow (vLcount, vLtold_here, vLmade_here2, x1) (by /-1-/ decreasing_trivial) (eas_cons (x_var (i := 0) rfl) (eas_cons (x_var (i := 1) rfl) (eas_cons (x_var (i := 3) rfl) (eas_cons (x_var (i := 4) rfl) eas_nil)))) rfl rfl)) (z := (Lmade_Lfound1 vLcount vLtold_here vLrows vLmade_here2 x1)) rfl) (show 5 < 6 by decide) rfl) ?_
    refine f_ifr (P := (Turn1 (fun (s : (List Dep)) => [pu tI vLcount, pu (tLs K (tLd K)) vLtold_here, pu (tLs K (tT K (tF K))) vLrows, ol (tLd K) s, un, un]) (RetP (fun z : (Option (List Dep)) => pu (tO (tLs K (tLd K))) z)))) (t_cmp op_isN (nomark _) o_isN (x_var (i := 5) rfl) x_non) (fun h3 => ?_) (fun h4 => ?_)
    · try simp only [decide_eq_true_eq, decide_eq_false_iff_not, Bool.and_eq_true, Bool.or_eq_true, Bool.not_eq_true', Bool.not_eq_false', Bool.and_eq_false_iff, Bool.or_eq_false_iff] at h3
      exact sx_ret x_none ⟨⟨⟨_, rfl⟩, _, _, rfl⟩, fun h => h⟩
    try simp only [decide_eq_true_eq, decide_eq_false_iff_not, Bool.and_eq_true, Bool.or_eq_true, Bool.not_eq_true', Bool.not_eq_false', Bool.and_eq_false_iff, Bool.or_eq_false_iff] at h4
    refine sx_seq (Γ1 := [pu tI vLcount, pu (tLs K (tLd K)) vLtold_here, pu (tLs K (tT K (tF K))) vLrows, ol (tLd K) (Lmade_Lmade_here2 vLcount vLtold_here vLrows vLmade_here2 x1), pu (tT K (tF K)) x1, pu (tO (tLd K)) (Lmade_Lfound1 vLcount vLtold_here vLrows vLmade_here2 x1)]) (s1_app (i := 3) rfl (x_unO (d := default) (x_var (i := 5) rfl) (by /-2-/ decreasing_trivial)) rfl (by /-3-/ decreasing_trivial)) ?_
    exact f_nx ⟨_, .inl rfl, Wk.uns [4, 5]⟩
  exact sx_ret (x_some nn_L (x_frz (x_mov (i := 3) rfl ol_some))) ⟨_, rfl⟩
theorem ok_Ltoggled (T : Tx K mg base) : FnOk P w K mg base CX0 2 T.a_Ltoggled T.d_Ltoggled ["_law_columns", "_law_column"] (spP (A := (List Int) × Int) (fun x => (x.1.length ≤ 20)) (fun x => [pu (tT K tI) x.1, pu tI x.2]) (fun x => pu (tT K tI) (m_Ltoggled x.1 x.2))) := by
  refine fn_ok T.F_Ltoggled sc_Ltoggled (fun _ => rfl) fun X x hX hr hpre => ?_
  obtain ⟨vLcolumns, vLcolumn⟩ := x
  obtain ⟨cdv, A, outer, s, H, E, rfl⟩ := hX
  replace hpre : vLcolumns.length ≤ 20 := hpre
  have hz1 : sizeLine = 16777216 := rfl
  have hz2 : scanBound = 4096 := rfl
  show SX _ _ [pu (tT K tI) vLcolumns, pu tI vLcolumn] _
  refine SX.imp (P := RetP (fun z : (List Int) => pu (tT K tI) z) (m_Ltoggled vLcolumns vLcolumn)) ?_ fun r h => .inl h
  unfold m_Ltoggled
  refine f_ifr (P := (RetP (fun z : (List Int) => pu (tT K tI) z))) (t_cmp op_in_seq (by rfl) (o_in saT) (x_var (i := 1) rfl) (x_var (i := 0) rfl)) (fun h1 => ?_) (fun h2 => ?_)
  · try simp only [decide_eq_true_eq, decide_eq_false_iff_not, Bool.and_eq_true, Bool.or_eq_true, Bool.not_eq_true', Bool.not_eq_false', Bool.and_eq_false_iff, Bool.or_eq_false_iff] at h1
    exact sx_ret (x_callS (Ss := [pu (tT K tI) vLcolumns, pu (tT K tI) ([vLcolumn] : List Int)]) (S' := pu (tT K tI) (m_Lless vLcolumns ([vLcolumn] : List Int))) (ok_Lless T) (hr.mono (by decide)) T.g_Lless T.F_Lless.kp T.b_Lless (vLcolumns, ([vLcolumn] : List Int)) trivial (eas_cons (x_var (i := 0) rfl) (eas_cons (x_tup (Ss := [pu tI vLcolumn]) (n_tup (K := K) (R := tI) (xs := [vLcolumn]) (show 1 ≤ sizeLine by decide)) (ea_cons (x_var (i := 1) rfl) ea_nil)) eas_nil)) rfl rfl) ⟨⟨_, rfl⟩, fun h => h⟩
  try simp only [decide_eq_true_eq, decide_eq_false_iff_not, Bool.and_eq_true, Bool.or_eq_true, Bool.not_eq_true', Bool.not_eq_false', Bool.and_eq_false_iff, Bool.or_eq_false_iff] at h2
  exact sx_ret (x_callS (Ss := [pu (tT K tI) vLcolumns, pu (tT K tI) ([vLcolumn] : List Int)]) (S' := pu (tT K tI) (m_Lunited vLcolumns ([vLcolumn] : List Int))) (ok_Lunited T) (hr.mono (by decide)) T.g_Lunited T.F_Lunited.kp T.b_Lunited (vLcolumns, ([vLcolumn] : List Int)) (by /-1-/ decreasing_trivial) (eas_cons (x_var (i := 0) rfl) (eas_cons (x_tup (Ss := [pu tI vLcolumn]) (n_tup (K := K) (R := tI) (xs := [vLcolumn]) (show 1 ≤ sizeLine by decide)) (ea_cons (x_var (i := 1) rfl) ea_nil)) eas_nil)) rfl rfl) ⟨_, rfl⟩
theorem ok_Lother (T : Tx K mg base) : FnOk P w K mg base CX0 3 T.a_Lother T.d_Lother ["_law_number", "_law_one", "_law_count"] (spP (A := Int × Dep × Int) (fun x => (1 ≤ x.2.2 ∧ DepC 10 x.2.1)) (fun x => [pu tI x.1, pu (tLd K) x.2.1, pu tI x.2.2]) (fun x => pu (tLd K) (m_Lother x.1 x.2.1 x.2.2))) := by
  refine fn_ok T.F_Lother sc_Lother (fun _ => rfl) fun X x hX hr hpre => ?_
  obtain ⟨vLnumber, vLone, vLcount⟩ := x
  obtain ⟨cdv, A, outer, s, H, E, rfl⟩ := hX
  replace hpre : 1 ≤ vLcount ∧ DepC 10 vLone := hpre
  have hz1 : sizeLine = 16777216 := rfl
  have hz2 : scanBound = 4096 := rfl
  have hd := hpre.2
  have hl := hd.len
  have hcz := hpre.1
  show SX _ _ [pu tI vLnumber, pu (tLd K) vLone, pu tI vLcount] _
  refine SX.imp (P := RetP (fun z : Dep => pu (tLd K) z) (m_Lother vLnumber vLone vLcount)) ?_ fun r h => .inl h
  unfold m_Lother
  refine f_ifr (P := (RetP (fun z : Dep => pu (tLd K) z))) (t_cmp op_eq (nomark _) o_eqS (x_ldW (x_var (i := 1) rfl) x_int) x_str) (fun h1 => ?_) (fun h2 => ?_)
  · try simp only [decide_eq_true_eq, decide_eq_false_iff_not, Bool.and_eq_true, Bool.or_eq_true, Bool.not_eq_true', Bool.not_eq_false', Bool.and_eq_false_iff, Bool.or_eq_false_iff] at h1
    exact sx_ret (x_co co_mkM (x_tup (n_p3 (K := K) (R1 := tS) (R2' := (tT K tI)) (R3' := (tT K tI))) (ea_cons x_str (ea_cons (x_ix ix_tup (o_ixT sqT (by have q_ := hd.ps (word_jd.mp (by assumption)); simp only [InIx]; omega)) (x_ldP (by /-1-/ decreasing_trivial) (x_var (i := 1) rfl) x_int) x_int) (ea_cons (x_ix ix_tup (o_ixT sqT (by have q_ := hd.ps (word_jd.mp (by assumption)); simp only [InIx]; omega)) (x_ldP (by /-3-/ decreasing_trivial) (x_var (i := 1) rfl) x_int) x_int) ea_nil))))) ⟨⟨_, rfl⟩, fun h => h⟩
  try simp only [decide_eq_true_eq, decide_eq_false_iff_not, Bool.and_eq_true, Bool.or_eq_true, Bool.not_eq_true', Bool.not_eq_false', Bool.and_eq_false_iff, Bool.or_eq_false_iff] at h2
  refine f_ifr (P := (RetP (fun z : Dep => pu (tLd K) z))) (t_cmp (op_eqD hr.units) (nomark _) (o_eqD dI) (x_mod (x_var (i := 0) rfl) x_int (by /-5-/ decreasing_trivial)) x_int) (fun h3 => ?_) (fun h4 => ?_)
  · try simp only [decide_eq_true_eq, decide_eq_false_iff_not, Bool.and_eq_true, Bool.or_eq_true, Bool.not_eq_true', Bool.not_eq_false', Bool.and_eq_false_iff, Bool.or_eq_false_iff] at h3
    exact sx_ret (x_co (co_mkW (by exact kind2 (decide (vLone.word = ("fd" : PySem.Str))))) (x_tup (n_p3 (K := K) (R1 := tS) (R2' := (tT K tI)) (R3' := (tT K tI))) (ea_cons (x_ix ix_list (o_ixL sqLs (by /-6-/ decreasing_trivial)) (x_frz (x_lst (Ss := [pu tS ("fd" : PySem.Str), pu tS ("mvd" : PySem.Str)]) (n_lst (R := tS) (xs := [("fd" : PySem.Str), ("mvd" : PySem.Str)]) (show 2 ≤ sizeLine by decide)) (ea_cons x_str (ea_cons x_str ea_nil)))) (x_callT call_int1 T.n_int (by decide +kernel) n_intB (ea_cons (x_cmp op_eq (nomark _) o_eqS (x_ldW (x_var (i := 1) rfl) x_int) x_str) ea_nil))) (ea_cons (x_ldL (by /-7-/ decreasing_trivial) (x_var (i := 1) rfl) x_int) (ea_cons (x_ldR (by /-8-/ decreasing_trivial) (x_var (i := 1) rfl) x_int) ea_nil))))) ⟨⟨_, rfl⟩, fun h => h⟩
  try simp only [decide_eq_true_eq, decide_eq_false_iff_not, Bool.and_eq_true, Bool.or_eq_true, Bool.not_eq_true', Bool.not_eq_false', Bool.and_eq_false_iff, Bool.or_eq_false_iff] at h4
  refine f_ifr (P := (RetP (fun z : Dep => pu (tLd K) z))) (t_cmp (op_eqD hr.units) (nomark _) (o_eqD dI) (x_mod (x_var (i := 0) rfl) x_int (by /-10-/ decreasing_trivial)) x_int) (fun h5 => ?_) (fun h6 => ?_)
  · try simp only [decide_eq_true_eq, decide_eq_false_iff_not, Bool.and_eq_true, Bool.or_eq_true, Bool.not_eq_true', Bool.not_eq_false', Bool.and_eq_false_iff, Bool.or_eq_false_iff] at h5
    exact sx_ret (x_co (co_mkW (by exact word_nj (nj_wj (by assumption)))) (x_tup (n_p3 (K := K) (R1 := tS) (R2' := (tT K tI)) (R3' := (tT K tI))) (ea_cons (x_ldW (x_var (i := 1) rfl) x_int) (ea_cons (x_callS (Ss := [pu (tT K tI) vLone.sd.l, pu tI ((vLnumber / (3 : Int)) % vLcount)]) (S' := pu (tT K tI) (m_Ltoggled vLone.sd.l ((vLnumber / (3 : Int)) % vLcount))) (ok_Ltoggled T) (hr.mono (by decide)) T.g_Ltoggled T.F_Ltoggled.kp T.b_Ltoggled (vLone.sd.l, ((vLnumber / (3 : Int)) % vLcount)) (by /-14-/ decreasing_trivial) (eas_cons (x_ldL (by /-11-/ decreasing_trivial) (x_var (i := 1) rfl) x_int) (eas_cons (x_mod (x_div (x_var (i := 0) rfl) x_int (by /-12-/ decreasing_trivial)) (x_var (i := 2) rfl) (by /-13-/ decreasing_trivial)) eas_nil)) rfl rfl) (ea_cons (x_ldR (by /-15-/ decreasing_trivial) (x_var (i := 1) rfl) x_int) ea_nil))))) ⟨⟨_, rfl⟩, fun h => h⟩
  try simp only [decide_eq_true_eq, decide_eq_false_iff_not, Bool.and_eq_true, Bool.or_eq_true, Bool.not_eq_true', Bool.not_eq_false', Bool.and_eq_false_iff, Bool.or_eq_false_iff] at h6
  exact sx_ret (x_co (co_mkW (by exact word_nj (nj_wj (by assumption)))) (x_tup (n_p3 (K := K) (R1 := tS) (R2' := (tT K tI)) (R3' := (tT K tI))) (ea_cons (x_ldW (x_var (i := 1) rfl) x_int) (ea_cons (x_ldL (by /-17-/ decreasing_trivial) (x_var (i := 1) rfl) x_int) (ea_cons (x_callS (Ss := [pu (tT K tI) vLone.sd.r, pu tI ((vLnumber / (3 : Int)) % vLcount)]) (S' := pu (tT K tI) (m_Ltoggled vLone.sd.r ((vLnumber / (3 : Int)) % vLcount))) (ok_Ltoggled T) (hr.mono (by decide)) T.g_Ltoggled T.F_Ltoggled.kp T.b_Ltoggled (vLone.sd.r, ((vLnumber / (3 : Int)) % vLcount)) (by /-21-/ decreasing_trivial) (eas_cons (x_ldR (by /-18-/ decreasing_trivial) (x_var (i := 1) rfl) x_int) (eas_cons (x_mod (x_div (x_var (i := 0) rfl) x_int (by /-19-/ decreasing_trivial)) (x_var (i := 2) rfl) (by /-20-/ decreasing_trivial)) eas_nil)) rfl rfl) ea_nil))))) ⟨_, rfl⟩
theorem ok_Lother_word (T : Tx K mg base) : FnOk P w K mg base CX0 1 T.a_Lother_word T.d_Lother_word ["_law_number", "_law_row_here"] (spP (A := Int × (List FV)) (fun x => (RowOk 12 x.2)) (fun x => [pu tI x.1, pu (tT K (tF K)) x.2]) (fun x => pu (tT K (tF K)) (m_Lother_word x.1 x.2))) := by
  refine fn_ok T.F_Lother_word sc_Lother_word (fun _ => rfl) fun X x hX hr hpre => ?_
  obtain ⟨vLnumber, vLrow_here⟩ := x
  obtain ⟨cdv, A, outer, s, H, E, rfl⟩ := hX
  replace hpre : RowOk 12 vLrow_here := hpre
  have hz1 : sizeLine = 16777216 := rfl
  have hz2 : scanBound = 4096 := rfl
  have hlen := hpre.len
  show SX _ _ [pu tI vLnumber, pu (tT K (tF K)) vLrow_here, un] _
  refine SX.imp (P := RetP (fun z : (List FV) => pu (tT K (tF K)) z) (m_Lother_word vLnumber vLrow_here)) ?_ fun r h => .inl h
  unfold m_Lother_word
  refine f_forE (P := (RetP (fun z : (List FV) => pu (tT K (tF K)) z))) (Pq := (RetP (fun z : (List FV) => pu (tT K (tF K)) z))) (fun (s4 : Unit) => vLrow_here) (fun q => q) PassesOwn.never rfl (w_list sqLs (x_frz (x_lst (Ss := [pu (tLs K tS) ([("told" : PySem.Str), ("also" : PySem.Str), ("other" : PySem.Str)] : List PySem.Str), pu (tLs K tS) ([("through" : PySem.Str), ("beyond" : PySem.Str), ("meets" : PySem.Str)] : List PySem.Str)]) (n_lst (R := (tLs K tS)) (xs := [([("told" : PySem.Str), ("also" : PySem.Str), ("other" : PySem.Str)] : List PySem.Str), ([("through" : PySem.Str), ("beyond" : PySem.Str), ("meets" : PySem.Str)] : List PySem.Str)]) (show 2 ≤ sizeLine by decide)) (ea_cons (x_frz (x_lst (Ss := [pu tS ("told" : PySem.Str), pu tS ("also" : PySem.Str), pu tS ("other" : PySem.Str)]) (n_lst (R := tS) (xs := [("told" : PySem.Str), ("also" : PySem.Str), ("other" : PySem.Str)]) (show 3 ≤ sizeLine by decide)) (ea_cons x_str (ea_cons x_str (ea_cons x_str ea_nil))))) (ea_cons (x_frz (x_lst (Ss := [pu tS ("through" : PySem.Str), pu tS ("beyond" : PySem.Str), pu tS ("meets" : PySem.Str)]) (n_lst (R := tS) (xs := [("through" : PySem.Str), ("beyond" : PySem.Str), ("meets" : PySem.Str)]) (show 3 ≤ sizeLine by decide)) (ea_cons x_str (ea_cons x_str (ea_cons x_str ea_nil))))) ea_nil))))) (pg_name (i := 2) sc_Lother_word.nd rfl (by first | exact Or.inl rfl | exact Or.inr rfl)) (tg_name (show 2 < 3 by decide)) (fun (s : Unit) => [pu tI vLnumber, pu (tT K (tF K)) vLrow_here, un]) (Lother_word_st1 vLnumber vLrow_here) () (fun _ => rfl) (Wk.uns []) ?_ (fun s4 hrs4 => ?_) (fun _ _ h => h) rfl
  · rintro ix1 x1 ⟨⟩ hxx1 hsx1 hzx1
    refine f_ifr (P := (Turn1 (fun (s : Unit) => [pu tI vLnumber, pu (tT K (tF K)) vLrow_here, un]) (RetP (fun z : (List FV) => pu (tT K (tF K)) z)))) (t_cmp (op_inD hr.units) (by rfl) (o_inLp pS) (x_co (co_gS (by /-2-/ decreasing_trivial)) (x_ix ix_tup (o_ixT sqT (by /-1-/ decreasing_trivial)) (x_var (i := 1) rfl) x_int)) (x_var (i := 2) rfl)) (fun h2 => ?_) (fun h3 => ?_)
    · try simp only [decide_eq_true_eq, decide_eq_false_iff_not, Bool.and_eq_true, Bool.or_eq_true, Bool.not_eq_true', Bool.not_eq_false', Bool.and_eq_false_iff, Bool.or_eq_false_iff] at h2
      exact sx_ret (x_catT (x_tup (Ss := [pu (tF K) (FV.s (ix x1 (vLnumber % (3 : Int))))]) (n_tup (K := K) (R := (tF K)) (xs := [(FV.s (ix x1 (vLnumber % (3 : Int))))]) (show 1 ≤ sizeLine by decide)) (ea_cons (x_co co_fs (x_ix ix_list (o_ixL sqLs (by have hm_ := (w_at hxx1).2; simp only [List.mem_cons, List.not_mem_nil, or_false] at hm_; have hl_ : x1.length = 3 := (by rcases hm_ with h | h <;> rw [h] <;> rfl); have he_ := emod_in (a := vLnumber) (b := 3) (by decide); exact ⟨by omega, by omega⟩)) (x_var (i := 2) rfl) (x_mod (x_var (i := 0) rfl) x_int (by /-3-/ decreasing_trivial)))) ea_nil)) (x_dropT (x_var (i := 1) rfl) x_int (by /-5-/ decreasing_trivial)) (by simp only [List.length_append, List.length_cons, List.length_nil, List.length_drop]; omega)) ⟨⟨⟨_, rfl⟩, _, _, rfl⟩, fun h => h⟩
    try simp only [decide_eq_true_eq, decide_eq_false_iff_not, Bool.and_eq_true, Bool.or_eq_true, Bool.not_eq_true', Bool.not_eq_false', Bool.and_eq_false_iff, Bool.or_eq_false_iff] at h3
    exact f_nx ⟨_, .inl rfl, Wk.uns [2]⟩
  exact sx_ret (x_var (i := 1) rfl) ⟨_, rfl⟩
theorem ok_Lbent_set (T : Tx K mg base) : FnOk P w K mg base CX0 3 T.a_Lbent_set T.d_Lbent_set ["_law_number", "_law_columns", "_law_count"] (spP (A := Int × (List Int) × Int) (fun x => (1 ≤ x.2.2 ∧ x.2.1.length ≤ 20)) (fun x => [pu tI x.1, pu (tT K tI) x.2.1, pu tI x.2.2]) (fun x => pu (tT K tI) (m_Lbent_set x.1 x.2.1 x.2.2))) := by
  refine fn_ok T.F_Lbent_set sc_Lbent_set (fun _ => rfl) fun X x hX hr hpre => ?_
  obtain ⟨vLnumber, vLcolumns, vLcount⟩ := x
  obtain ⟨cdv, A, outer, s, H, E, rfl⟩ := hX
  replace hpre : 1 ≤ vLcount ∧ vLcolumns.length ≤ 20 := hpre
  have hz1 : sizeLine = 16777216 := rfl
  have hz2 : scanBound = 4096 := rfl
  have hbl : (Lbent_set_Lbent1 vLnumber vLcolumns vLcount).length = 6 := rfl
  have hem := emod_in (a := vLnumber) (b := 9) (by decide)
  show SX _ _ [pu tI vLnumber, pu (tT K tI) vLcolumns, pu tI vLcount, un] _
  refine SX.imp (P := RetP (fun z : (List Int) => pu (tT K tI) z) (m_Lbent_set vLnumber vLcolumns vLcount)) ?_ fun r h => .inl h
  unfold m_Lbent_set
  refine sx_seq (Γ1 := [pu tI vLnumber, pu (tT K tI) vLcolumns, pu tI vLcount, pu (tLs K (tT K tI)) (Lbent_set_Lbent1 vLnumber vLcolumns vLcount)]) (s1_setE (i := 3) sc_Lbent_set.nd rfl (by first | exact Or.inl rfl | exact Or.inr rfl) (x_val (x_frz (x_lst (Ss := [pu (tT K tI) (vLcolumns ++ ([vLcount] : List Int)), pu (tT K tI) (vLcolumns.reverse), pu (tT K tI) (vLcolumns ++ (vLcolumns.take (1 : Int).toNat)), pu (tT K tI) (([(-(1 : Int))] : List Int) ++ vLcolumns), pu (tT K tI) (vLcolumns ++ ([((10 : Int) ^ (30 : Int).toNat)] : List Int)), pu (tT K tI) ([] : List Int)]) (n_lst (R := (tT K tI)) (xs := [(vLcolumns ++ ([vLcount] : List Int)), (vLcolumns.reverse), (vLcolumns ++ (vLcolumns.take (1 : Int).toNat)), (([(-(1 : Int))] : List Int) ++ vLcolumns), (vLcolumns ++ ([((10 : Int) ^ (30 : Int).toNat)] : List Int)), ([] : List Int)]) (show 6 ≤ sizeLine by decide)) (ea_cons (x_catT (x_var (i := 1) rfl) (x_tup (Ss := [pu tI vLcount]) (n_tup (K := K) (R := tI) (xs := [vLcount]) (show 1 ≤ sizeLine by decide)) (ea_cons (x_var (i := 2) rfl) ea_nil)) (by /-1-/ decreasing_trivial)) (ea_cons (x_revT (x_var (i := 1) rfl)) (ea_cons (x_catT (x_var (i := 1) rfl) (x_takeT (x_var (i := 1) rfl) x_int (by /-2-/ decreasing_trivial)) (by /-3-/ decreasing_trivial)) (ea_cons (x_catT (x_tup (Ss := [pu tI (-(1 : Int))]) (n_tup (K := K) (R := tI) (xs := [(-(1 : Int))]) (show 1 ≤ sizeLine by decide)) (ea_cons (x_neg x_int) ea_nil)) (x_var (i := 1) rfl) (by /-4-/ decreasing_trivial)) (ea_cons (x_catT (x_var (i := 1) rfl) (x_tup (Ss := [pu tI ((10 : Int) ^ (30 : Int).toNat)]) (n_tup (K := K) (R := tI) (xs := [((10 : Int) ^ (30 : Int).toNat)]) (show 1 ≤ sizeLine by decide)) (ea_cons (x_pow x_int x_int (by /-5-/ decreasing_trivial)) ea_nil)) (by /-6-/ decreasing_trivial)) (ea_cons (x_tup (Ss := []) (n_tup (K := K) (R := tI) (xs := []) (show 0 ≤ sizeLine by decide)) ea_nil) ea_nil)))))))) (z := (Lbent_set_Lbent1 vLnumber vLcolumns vLcount)) rfl) (show 3 < 4 by decide) rfl) ?_
  refine f_ifr (P := (RetP (fun z : (List Int) => pu (tT K tI) z))) (t_cmp op_lt (nomark _) (o_IB (g := fun i j => decide (i < j))) (x_mod (x_var (i := 0) rfl) x_int (by /-7-/ decreasing_trivial)) x_int) (fun h1 => ?_) (fun h2 => ?_)
  · try simp only [decide_eq_true_eq, decide_eq_false_iff_not, Bool.and_eq_true, Bool.or_eq_true, Bool.not_eq_true', Bool.not_eq_false', Bool.and_eq_false_iff, Bool.or_eq_false_iff] at h1
    exact sx_ret (x_ix ix_list (o_ixL sqLs (by /-9-/ decreasing_trivial)) (x_var (i := 3) rfl) (x_mod (x_var (i := 0) rfl) x_int (by /-8-/ decreasing_trivial))) ⟨⟨_, rfl⟩, fun h => h⟩
  try simp only [decide_eq_true_eq, decide_eq_false_iff_not, Bool.and_eq_true, Bool.or_eq_true, Bool.not_eq_true', Bool.not_eq_false', Bool.and_eq_false_iff, Bool.or_eq_false_iff] at h2
  exact sx_ret (x_callS (Ss := [pu (tT K tI) vLcolumns, pu tI ((vLnumber / (9 : Int)) % vLcount)]) (S' := pu (tT K tI) (m_Ltoggled vLcolumns ((vLnumber / (9 : Int)) % vLcount))) (ok_Ltoggled T) (hr.mono (by decide)) T.g_Ltoggled T.F_Ltoggled.kp T.b_Ltoggled (vLcolumns, ((vLnumber / (9 : Int)) % vLcount)) (by /-12-/ decreasing_trivial) (eas_cons (x_var (i := 1) rfl) (eas_cons (x_mod (x_div (x_var (i := 0) rfl) x_int (by /-10-/ decreasing_trivial)) (x_var (i := 2) rfl) (by /-11-/ decreasing_trivial)) eas_nil)) rfl rfl) ⟨_, rfl⟩
theorem ok_Lbent_row (T : Tx K mg base) : FnOk P w K mg base CX0 4 T.a_Lbent_row T.d_Lbent_row ["_law_number", "_law_row_here", "_law_count", "_law_size"] (spP (A := Int × (List FV) × Int × Int) (fun x => (1 ≤ x.2.2.1 ∧ 0 ≤ x.2.2.2 ∧ RowOk 12 x.2.1)) (fun x => [pu tI x.1, pu (tT K (tF K)) x.2.1, pu tI x.2.2.1, pu tI x.2.2.2]) (fun x => pu (tT K (tF K)) (m_Lbent_row x.1 x.2.1 x.2.2.1 x.2.2.2))) := by
  refine fn_ok T.F_Lbent_row sc_Lbent_row (fun _ => rfl) fun X x hX hr hpre => ?_
  obtain ⟨vLnumber, vLrow_here, vLcount, vLsize⟩ := x
  obtain ⟨cdv, A, outer, s, H, E, rfl⟩ := hX
  replace hpre : 1 ≤ vLcount ∧ 0 ≤ vLsize ∧ RowOk 12 vLrow_here := hpre
  have hz1 : sizeLine = 16777216 := rfl
  have hz2 : scanBound = 4096 := rfl
  have hrow := hpre.2.2
  have hlen := hrow.len
  have hpl := bent_place (k := vLnumber) (c := vLcount) (z := vLsize) hrow
  have hem := emod_in (a := Lbent_row_Lnumber1 vLnumber vLrow_here vLcount vLsize) (b := 7) (by decide)
  show SX _ _ [pu tI vLnumber, pu (tT K (tF K)) vLrow_here, pu tI vLcount, pu tI vLsize, un, un, un] _
  refine SX.imp (P := RetP (fun z : (List FV) => pu (tT K (tF K)) z) (m_Lbent_row vLnumber vLrow_here vLcount vLsize)) ?_ fun r h => .inl h
  unfold m_Lbent_row
  refine sx_seq (Γ1 := [pu tI vLnumber, pu (tT K (tF K)) vLrow_here, pu tI vLcount, pu tI vLsize, pu tI (Lbent_row_Lplace1 vLnumber vLrow_here vLcount vLsize), un, un]) (s1_setE (i := 4) sc_Lbent_row.nd rfl (by first | exact Or.inl rfl | exact Or.inr rfl) (x_val (x_add x_int (x_mod (x_var (i := 0) rfl) (x_subt (x_callB call_len T.n_len (by decide +kernel) (n_lenA saT) (ea_cons (x_var (i := 1) rfl) ea_nil)) x_int) (by /-1-/ decreasing_trivial))) (z := (Lbent_row_Lplace1 vLnumber vLrow_here vLcount vLsize)) rfl) (show 4 < 7 by decide) rfl) ?_
  refine sx_seq (Γ1 := [pu tI vLnumber, pu (tT K (tF K)) vLrow_here, pu tI vLcount, pu tI vLsize, pu tI (Lbent_row_Lplace1 vLnumber vLrow_here vLcount vLsize), pu (tF K) (Lbent_row_Lpart1 vLnumber vLrow_here vLcount vLsize), un]) (s1_setE (i := 5) sc_Lbent_row.nd rfl (by first | exact Or.inl rfl | exact Or.inr rfl) (x_val (x_ix ix_tup (o_ixT sqT (by /-2-/ decreasing_trivial)) (x_var (i := 1) rfl) (x_var (i := 4) rfl)) (z := (Lbent_row_Lpart1 vLnumber vLrow_here vLcount vLsize)) rfl) (show 5 < 7 by decide) rfl) ?_
  refine sx_seq (Γ1 := [pu tI (Lbent_row_Lnumber1 vLnumber vLrow_here vLcount vLsize), pu (tT K (tF K)) vLrow_here, pu tI vLcount, pu tI vLsize, pu tI (Lbent_row_Lplace1 vLnumber vLrow_here vLcount vLsize), pu (tF K) (Lbent_row_Lpart1 vLnumber vLrow_here vLcount vLsize), un]) (s1_setE (i := 0) sc_Lbent_row.nd rfl (by first | exact Or.inl rfl | exact Or.inr rfl) (x_val (x_div (x_var (i := 0) rfl) x_int (by /-3-/ decreasing_trivial)) (z := (Lbent_row_Lnumber1 vLnumber vLrow_here vLcount vLsize)) rfl) (show 0 < 7 by decide) rfl) ?_
  refine f_ifJ (fun (s : FV) => [pu tI (Lbent_row_Lnumber1 vLnumber vLrow_here vLcount vLsize), pu (tT K (tF K)) vLrow_here, pu tI vLcount, pu tI vLsize, pu tI (Lbent_row_Lplace1 vLnumber vLrow_here vLcount vLsize), pu (tF K) (Lbent_row_Lpart1 vLnumber vLrow_here vLcount vLsize), pu (tF K) s]) (Lbent_row_j_Lbent1 vLnumber vLrow_here vLcount vLsize) (A := (Lbent_row_Lbent1 vLnumber vLrow_here vLcount vLsize)) (B := (Lbent_row_Lbent2 vLnumber vLrow_here vLcount vLsize)) (t_val (x_callB call_isi T.n_isinstance (by decide +kernel) (n_isG (f := FV.isTup) isT_FVt (.ty "tuple")) (ea_cons (x_var (i := 5) rfl) (ea_cons (x_ty (n := "tuple") T.n_tuple (by decide +kernel)) ea_nil)))) rfl (fun h1 => ?_) (fun h2 => ?_) ?_
  · try simp only [decide_eq_true_eq, decide_eq_false_iff_not, Bool.and_eq_true, Bool.or_eq_true, Bool.not_eq_true', Bool.not_eq_false', Bool.and_eq_false_iff, Bool.or_eq_false_iff] at h1
    refine sx_seq (Γ1 := [pu tI (Lbent_row_Lnumber1 vLnumber vLrow_here vLcount vLsize), pu (tT K (tF K)) vLrow_here, pu tI vLcount, pu tI vLsize, pu tI (Lbent_row_Lplace1 vLnumber vLrow_here vLcount vLsize), pu (tF K) (Lbent_row_Lpart1 vLnumber vLrow_here vLcount vLsize), pu (tF K) (Lbent_row_Lbent1 vLnumber vLrow_here vLcount vLsize)]) (s1_setE (i := 6) sc_Lbent_row.nd rfl (by first | exact Or.inl rfl | exact Or.inr rfl) (x_val (x_co co_ft (x_callS (Ss := [pu tI (Lbent_row_Lnumber1 vLnumber vLrow_here vLcount vLsize), pu (tT K tI) (Lbent_row_Lpart1 vLnumber vLrow_here vLcount vLsize).gT, pu tI vLcount]) (S' := pu (tT K tI) (m_Lbent_set (Lbent_row_Lnumber1 vLnumber vLrow_here vLcount vLsize) (Lbent_row_Lpart1 vLnumber vLrow_here vLcount vLsize).gT vLcount)) (ok_Lbent_set T) (hr.mono (by decide)) T.g_Lbent_set T.F_Lbent_set.kp T.b_Lbent_set ((Lbent_row_Lnumber1 vLnumber vLrow_here vLcount vLsize), (Lbent_row_Lpart1 vLnumber vLrow_here vLcount vLsize).gT, vLcount) (by exact ⟨hpre.1, Nat.le_trans (hrow.part_len (ix_mem (xs := vLrow_here) (i := Lbent_row_Lplace1 vLnumber vLrow_here vLcount vLsize) ⟨by omega, by omega⟩)) (by decide)⟩) (eas_cons (x_var (i := 0) rfl) (eas_cons (x_co (co_gT (by exact part_isT (by assumption) hrow (ix_mem ⟨by omega, by omega⟩))) (x_var (i := 5) rfl)) (eas_cons (x_var (i := 2) rfl) eas_nil))) rfl rfl)) (z := (Lbent_row_Lbent1 vLnumber vLrow_here vLcount vLsize)) rfl) (show 6 < 7 by decide) rfl) ?_
    exact f_nx ⟨_, rfl, Wk.uns []⟩
  · try simp only [decide_eq_true_eq, decide_eq_false_iff_not, Bool.and_eq_true, Bool.or_eq_true, Bool.not_eq_true', Bool.not_eq_false', Bool.and_eq_false_iff, Bool.or_eq_false_iff] at h2
    refine sx_seq (Γ1 := [pu tI (Lbent_row_Lnumber1 vLnumber vLrow_here vLcount vLsize), pu (tT K (tF K)) vLrow_here, pu tI vLcount, pu tI vLsize, pu tI (Lbent_row_Lplace1 vLnumber vLrow_here vLcount vLsize), pu (tF K) (Lbent_row_Lpart1 vLnumber vLrow_here vLcount vLsize), pu (tF K) (Lbent_row_Lbent2 vLnumber vLrow_here vLcount vLsize)]) (s1_setE (i := 6) sc_Lbent_row.nd rfl (by first | exact Or.inl rfl | exact Or.inr rfl) (x_val (x_co co_fi (x_ix ix_list (o_ixL sqLs (by /-13-/ decreasing_trivial)) (x_frz (x_lst (Ss := [pu tI ((Lbent_row_Lpart1 vLnumber vLrow_here vLcount vLsize).gI + (1 : Int)), pu tI ((Lbent_row_Lpart1 vLnumber vLrow_here vLcount vLsize).gI - (1 : Int)), pu tI ((Lbent_row_Lpart1 vLnumber vLrow_here vLcount vLsize).gI - vLsize), pu tI vLsize, pu tI ((10 : Int) ^ (30 : Int).toNat), pu tI (-(1 : Int)), pu tI (((Lbent_row_Lnumber1 vLnumber vLrow_here vLcount vLsize) / (7 : Int)) % (vLsize + (1 : Int)))]) (n_lst (R := tI) (xs := [((Lbent_row_Lpart1 vLnumber vLrow_here vLcount vLsize).gI + (1 : Int)), ((Lbent_row_Lpart1 vLnumber vLrow_here vLcount vLsize).gI - (1 : Int)), ((Lbent_row_Lpart1 vLnumber vLrow_here vLcount vLsize).gI - vLsize), vLsize, ((10 : Int) ^ (30 : Int).toNat), (-(1 : Int)), (((Lbent_row_Lnumber1 vLnumber vLrow_here vLcount vLsize) / (7 : Int)) % (vLsize + (1 : Int)))]) (show 7 ≤ sizeLine by decide)) (ea_cons (x_add (x_co (co_gI (by exact part_isI (by first | assumption | (intro z_; simp_all)) hrow rfl)) (x_var (i := 5) rfl)) x_int) (ea_cons (x_subt (x_co (co_gI (by exact part_isI (by first | assumption | (intro z_; simp_all)) hrow rfl)) (x_var (i := 5) rfl)) x_int) (ea_cons (x_subt (x_co (co_gI (by exact part_isI (by first | assumption | (intro z_; simp_all)) hrow rfl)) (x_var (i := 5) rfl)) (x_var (i := 3) rfl)) (ea_cons (x_var (i := 3) rfl) (ea_cons (x_pow x_int x_int (by /-9-/ decreasing_trivial)) (ea_cons (x_neg x_int) (ea_cons (x_mod (x_div (x_var (i := 0) rfl) x_int (by /-10-/ decreasing_trivial)) (x_add (x_var (i := 3) rfl) x_int) (by /-11-/ decreasing_trivial)) ea_nil))))))))) (x_mod (x_var (i := 0) rfl) x_int (by /-12-/ decreasing_trivial)))) (z := (Lbent_row_Lbent2 vLnumber vLrow_here vLcount vLsize)) rfl) (show 6 < 7 by decide) rfl) ?_
    exact f_nx ⟨_, rfl, Wk.uns []⟩
  exact sx_ret (x_catT (x_catT (x_takeT (x_var (i := 1) rfl) (x_var (i := 4) rfl) (by /-14-/ decreasing_trivial)) (x_tup (Ss := [pu (tF K) (Lbent_row_j_Lbent1 vLnumber vLrow_here vLcount vLsize)]) (n_tup (K := K) (R := (tF K)) (xs := [(Lbent_row_j_Lbent1 vLnumber vLrow_here vLcount vLsize)]) (show 1 ≤ sizeLine by decide)) (ea_cons (x_var (i := 6) rfl) ea_nil)) (by /-15-/ decreasing_trivial)) (x_dropT (x_var (i := 1) rfl) (x_add (x_var (i := 4) rfl) x_int) (by /-16-/ decreasing_trivial)) (by /-17-/ decreasing_trivial)) ⟨_, rfl⟩
theorem ok_Lchanged (T : Tx K mg base) : FnOk P w K mg base CX0 5 T.a_Lchanged T.d_Lchanged ["_law_number", "_law_more", "_law_rows", "_law_count", "_law_told_here"] (spP (A := Int × Int × (List (List FV)) × Int × (List Dep)) (fun x => (1 ≤ x.2.2.2.1 ∧ x.2.2.1.length ≤ 50 ∧ x.2.2.2.2.length ≤ 20 ∧ ∀ r ∈ x.2.2.1, RowOk 12 r)) (fun x => [pu tI x.1, pu tI x.2.1, pu (tLs K (tT K (tF K))) x.2.2.1, pu tI x.2.2.2.1, pu (tLs K (tLd K)) x.2.2.2.2]) (fun x => pu (tLs K (tT K (tF K))) (m_Lchanged x.1 x.2.1 x.2.2.1 x.2.2.2.1 x.2.2.2.2))) := by
  refine fn_ok T.F_Lchanged sc_Lchanged (fun _ => rfl) fun X x hX hr hpre => ?_
  obtain ⟨vLnumber, vLmore, vLrows, vLcount, vLtold_here⟩ := x
  obtain ⟨cdv, A, outer, s, H, E, rfl⟩ := hX
  replace hpre : 1 ≤ vLcount ∧ vLrows.length ≤ 50 ∧ vLtold_here.length ≤ 20 ∧ ∀ r ∈ vLrows, RowOk 12 r := hpre
  have hz1 : sizeLine = 16777216 := rfl
  have hz2 : scanBound = 4096 := rfl
  have hch : 0 < vLrows.length → 0 ≤ Lchanged_Lplace1 vLnumber vLmore vLrows vLcount vLtold_here ∧ Lchanged_Lplace1 vLnumber vLmore vLrows vLcount vLtold_here < (vLrows.length : Int) := fun h => emod_in (by omega)
  have hz_ := hpre.2.1
  have ht_ := hpre.2.2.1
  have hc_ := hpre.1
  show SX _ _ [pu tI vLnumber, pu tI vLmore, pu (tLs K (tT K (tF K))) vLrows, pu tI vLcount, pu (tLs K (tLd K)) vLtold_here, un, un, un, un] _
  refine SX.imp (P := RetP (fun z : (List (List FV)) => pu (tLs K (tT K (tF K))) z) (m_Lchanged vLnumber vLmore vLrows vLcount vLtold_here)) ?_ fun r h => .inl h
  unfold m_Lchanged
  refine f_ifr (P := (RetP (fun z : (List (List FV)) => pu (tLs K (tT K (tF K))) z))) (t_cmp (op_eqD hr.units) (nomark _) (o_eqD dI) (x_callB call_len T.n_len (by decide +kernel) (n_lenA saLs) (ea_cons (x_var (i := 2) rfl) ea_nil)) x_int) (fun h1 => ?_) (fun h2 => ?_)
  · try simp only [decide_eq_true_eq, decide_eq_false_iff_not, Bool.and_eq_true, Bool.or_eq_true, Bool.not_eq_true', Bool.not_eq_false', Bool.and_eq_false_iff, Bool.or_eq_false_iff] at h1
    exact sx_ret (x_var (i := 2) rfl) ⟨⟨_, rfl⟩, fun h => h⟩
  try simp only [decide_eq_true_eq, decide_eq_false_iff_not, Bool.and_eq_true, Bool.or_eq_true, Bool.not_eq_true', Bool.not_eq_false', Bool.and_eq_false_iff, Bool.or_eq_false_iff] at h2
  refine sx_seq (Γ1 := [pu tI vLnumber, pu tI vLmore, pu (tLs K (tT K (tF K))) vLrows, pu tI vLcount, pu (tLs K (tLd K)) vLtold_here, pu tI (Lchanged_Lplace1 vLnumber vLmore vLrows vLcount vLtold_here), un, un, un]) (s1_setE (i := 5) sc_Lchanged.nd rfl (by first | exact Or.inl rfl | exact Or.inr rfl) (x_val (x_mod (x_var (i := 0) rfl) (x_callB call_len T.n_len (by decide +kernel) (n_lenA saLs) (ea_cons (x_var (i := 2) rfl) ea_nil)) (by /-1-/ decreasing_trivial)) (z := (Lchanged_Lplace1 vLnumber vLmore vLrows vLcount vLtold_here)) rfl) (show 5 < 9 by decide) rfl) ?_
  refine sx_seq (Γ1 := [pu tI vLnumber, pu tI vLmore, pu (tLs K (tT K (tF K))) vLrows, pu tI vLcount, pu (tLs K (tLd K)) vLtold_here, pu tI (Lchanged_Lplace1 vLnumber vLmore vLrows vLcount vLtold_here), pu (tT K (tF K)) (Lchanged_Lrow_here1 vLnumber vLmore vLrows vLcount vLtold_here), un, un]) (s1_setE (i := 6) sc_Lchanged.nd rfl (by first | exact Or.inl rfl | exact Or.inr rfl) (x_val (x_ix ix_list (o_ixL sqLs (by obtain ⟨q0_, q1_⟩ := hch (by omega); (try dsimp only); (try simp only [InIx, List.length_append, List.length_cons, List.length_nil, List.length_take, List.length_drop]); omega)) (x_var (i := 2) rfl) (x_var (i := 5) rfl)) (z := (Lchanged_Lrow_here1 vLnumber vLmore vLrows vLcount vLtold_here)) rfl) (show 6 < 9 by decide) rfl) ?_
  refine sx_seq (Γ1 := [pu tI vLnumber, pu tI vLmore, pu (tLs K (tT K (tF K))) vLrows, pu tI vLcount, pu (tLs K (tLd K)) vLtold_here, pu tI (Lchanged_Lplace1 vLnumber vLmore vLrows vLcount vLtold_here), pu (tT K (tF K)) (Lchanged_Lrow_here1 vLnumber vLmore vLrows vLcount vLtold_here), pu tI (Lchanged_Lchoice1 vLnumber vLmore vLrows vLcount vLtold_here), un]) (s1_setE (i := 7) sc_Lchanged.nd rfl (by first | exact Or.inl rfl | exact Or.inr rfl) (x_val (x_mod (x_div (x_var (i := 0) rfl) x_int (by /-3-/ decreasing_trivial)) x_int (by /-4-/ decreasing_trivial)) (z := (Lchanged_Lchoice1 vLnumber vLmore vLrows vLcount vLtold_here)) rfl) (show 7 < 9 by decide) rfl) ?_
  refine f_ifr (P := (RetP (fun z : (List (List FV)) => pu (tLs K (tT K (tF K))) z))) (t_cmp (op_eqD hr.units) (nomark _) (o_eqD dI) (x_var (i := 7) rfl) x_int) (fun h3 => ?_) (fun h4 => ?_)
  · try simp only [decide_eq_true_eq, decide_eq_false_iff_not, Bool.and_eq_true, Bool.or_eq_true, Bool.not_eq_true', Bool.not_eq_false', Bool.and_eq_false_iff, Bool.or_eq_false_iff] at h3
    exact sx_ret (x_frz (x_catLO (x_frz (x_take sqLs (x_var (i := 2) rfl) (x_var (i := 5) rfl) (by obtain ⟨q0_, q1_⟩ := hch (by omega); (try dsimp only); (try simp only [InIx, List.length_append, List.length_cons, List.length_nil, List.length_take, List.length_drop]); omega))) (x_frz (x_drop sqLs (x_var (i := 2) rfl) (x_add (x_var (i := 5) rfl) x_int) (by obtain ⟨q0_, q1_⟩ := hch (by omega); (try dsimp only); (try simp only [InIx, List.length_append, List.length_cons, List.length_nil, List.length_take, List.length_drop]); omega))) (by /-7-/ decreasing_trivial))) ⟨⟨_, rfl⟩, fun h => h⟩
  try simp only [decide_eq_true_eq, decide_eq_false_iff_not, Bool.and_eq_true, Bool.or_eq_true, Bool.not_eq_true', Bool.not_eq_false', Bool.and_eq_false_iff, Bool.or_eq_false_iff] at h4
  refine f_ifr (P := (RetP (fun z : (List (List FV)) => pu (tLs K (tT K (tF K))) z))) (t_cmp (op_eqD hr.units) (nomark _) (o_eqD dI) (x_var (i := 7) rfl) x_int) (fun h5 => ?_) (fun h6 => ?_)
  · try simp only [decide_eq_true_eq, decide_eq_false_iff_not, Bool.and_eq_true, Bool.or_eq_true, Bool.not_eq_true', Bool.not_eq_false', Bool.and_eq_false_iff, Bool.or_eq_false_iff] at h5
    exact sx_ret (x_frz (x_catLO (x_frz (x_catLO (x_frz (x_take sqLs (x_var (i := 2) rfl) (x_var (i := 5) rfl) (by obtain ⟨q0_, q1_⟩ := hch (by omega); (try dsimp only); (try simp only [InIx, List.length_append, List.length_cons, List.length_nil, List.length_take, List.length_drop]); omega))) (x_frz (x_lst (Ss := [pu (tT K (tF K)) (Lchanged_Lrow_here1 vLnumber vLmore vLrows vLcount vLtold_here)]) (n_lst (R := (tT K (tF K))) (xs := [(Lchanged_Lrow_here1 vLnumber vLmore vLrows vLcount vLtold_here)]) (show 1 ≤ sizeLine by decide)) (ea_cons (x_var (i := 6) rfl) ea_nil))) (by /-9-/ decreasing_trivial))) (x_frz (x_drop sqLs (x_var (i := 2) rfl) (x_var (i := 5) rfl) (by obtain ⟨q0_, q1_⟩ := hch (by omega); (try dsimp only); (try simp only [InIx, List.length_append, List.length_cons, List.length_nil, List.length_take, List.length_drop]); omega))) (by /-11-/ decreasing_trivial))) ⟨⟨_, rfl⟩, fun h => h⟩
  try simp only [decide_eq_true_eq, decide_eq_false_iff_not, Bool.and_eq_true, Bool.or_eq_true, Bool.not_eq_true', Bool.not_eq_false', Bool.and_eq_false_iff, Bool.or_eq_false_iff] at h6
  refine f_ifr (P := (RetP (fun z : (List (List FV)) => pu (tLs K (tT K (tF K))) z))) (t_cmp (op_eqD hr.units) (nomark _) (o_eqD dI) (x_var (i := 7) rfl) x_int) (fun h7 => ?_) (fun h8 => ?_)
  · try simp only [decide_eq_true_eq, decide_eq_false_iff_not, Bool.and_eq_true, Bool.or_eq_true, Bool.not_eq_true', Bool.not_eq_false', Bool.and_eq_false_iff, Bool.or_eq_false_iff] at h7
    exact sx_ret (x_frz (x_catLO (x_frz (x_catLO (x_frz (x_catLO (x_frz (x_take sqLs (x_var (i := 2) rfl) (x_var (i := 5) rfl) (by obtain ⟨q0_, q1_⟩ := hch (by omega); (try dsimp only); (try simp only [InIx, List.length_append, List.length_cons, List.length_nil, List.length_take, List.length_drop]); omega))) (x_frz (x_slL sqLs (x_var (i := 2) rfl) (x_add (x_var (i := 5) rfl) x_int) (x_add (x_var (i := 5) rfl) x_int) (by obtain ⟨q0_, q1_⟩ := hch (by omega); (try dsimp only); (try simp only [InIx, List.length_append, List.length_cons, List.length_nil, List.length_take, List.length_drop]); omega))) (by /-14-/ decreasing_trivial))) (x_frz (x_lst (Ss := [pu (tT K (tF K)) (Lchanged_Lrow_here1 vLnumber vLmore vLrows vLcount vLtold_here)]) (n_lst (R := (tT K (tF K))) (xs := [(Lchanged_Lrow_here1 vLnumber vLmore vLrows vLcount vLtold_here)]) (show 1 ≤ sizeLine by decide)) (ea_cons (x_var (i := 6) rfl) ea_nil))) (by /-15-/ decreasing_trivial))) (x_frz (x_drop sqLs (x_var (i := 2) rfl) (x_add (x_var (i := 5) rfl) x_int) (by obtain ⟨q0_, q1_⟩ := hch (by omega); (try dsimp only); (try simp only [InIx, List.length_append, List.length_cons, List.length_nil, List.length_take, List.length_drop]); omega))) (by /-17-/ decreasing_trivial))) ⟨⟨_, rfl⟩, fun h => h⟩
  try simp only [decide_eq_true_eq, decide_eq_false_iff_not, Bool.and_eq_true, Bool.or_eq_true, Bool.not_eq_true', Bool.not_eq_false', Bool.and_eq_false_iff, Bool.or_eq_false_iff] at h8
  refine sx_seq (Γ1 := [pu tI vLnumber, pu tI vLmore, pu (tLs K (tT K (tF K))) vLrows, pu tI vLcount, pu (tLs K (tLd K)) vLtold_here, pu tI (Lchanged_Lplace1 vLnumber vLmore vLrows vLcount vLtold_here), pu (tT K (tF K)) (Lchanged_Lrow_here1 vLnumber vLmore vLrows vLcount vLtold_here), pu tI (Lchanged_Lchoice1 vLnumber vLmore vLrows vLcount vLtold_here), pu tI (Lchanged_Lsize1 vLnumber vLmore vLrows vLcount vLtold_here)]) (s1_setE (i := 8) sc_Lchanged.nd rfl (by first | exact Or.inl rfl | exact Or.inr rfl) (x_val (x_var (i := 5) rfl) (z := (Lchanged_Lsize1 vLnumber vLmore vLrows vLcount vLtold_here)) rfl) (show 8 < 9 by decide) rfl) ?_
  refine f_ifJ (fun (s : Int) => [pu tI vLnumber, pu tI vLmore, pu (tLs K (tT K (tF K))) vLrows, pu tI vLcount, pu (tLs K (tLd K)) vLtold_here, pu tI (Lchanged_Lplace1 vLnumber vLmore vLrows vLcount vLtold_here), pu (tT K (tF K)) (Lchanged_Lrow_here1 vLnumber vLmore vLrows vLcount vLtold_here), pu tI (Lchanged_Lchoice1 vLnumber vLmore vLrows vLcount vLtold_here), pu tI s]) (Lchanged_j_Lsize1 vLnumber vLmore vLrows vLcount vLtold_here) (A := (Lchanged_Lsize2 vLnumber vLmore vLrows vLcount vLtold_here)) (B := (Lchanged_Lsize1 vLnumber vLmore vLrows vLcount vLtold_here)) (t_cmp op_eq (nomark _) o_eqS (x_co (co_gS (by have hw_ := changed_row (a := vLnumber) (b := vLmore) (c := vLcount) (td := vLtold_here) hpre.2.2.2 (by omega); have hl_ := hw_.len; exact hw_.s0)) (x_ix ix_tup (o_ixT sqT (by have hw_ := changed_row (a := vLnumber) (b := vLmore) (c := vLcount) (td := vLtold_here) hpre.2.2.2 (by omega); have hl_ := hw_.len; simp only [InIx]; omega)) (x_var (i := 6) rfl) x_int)) x_str) rfl (fun h9 => ?_) (fun h10 => ?_) ?_
  · try simp only [decide_eq_true_eq, decide_eq_false_iff_not, Bool.and_eq_true, Bool.or_eq_true, Bool.not_eq_true', Bool.not_eq_false', Bool.and_eq_false_iff, Bool.or_eq_false_iff] at h9
    refine sx_seq (Γ1 := [pu tI vLnumber, pu tI vLmore, pu (tLs K (tT K (tF K))) vLrows, pu tI vLcount, pu (tLs K (tLd K)) vLtold_here, pu tI (Lchanged_Lplace1 vLnumber vLmore vLrows vLcount vLtold_here), pu (tT K (tF K)) (Lchanged_Lrow_here1 vLnumber vLmore vLrows vLcount vLtold_here), pu tI (Lchanged_Lchoice1 vLnumber vLmore vLrows vLcount vLtold_here), pu tI (Lchanged_Lsize2 vLnumber vLmore vLrows vLcount vLtold_here)]) (s1_setE (i := 8) sc_Lchanged.nd rfl (by first | exact Or.inl rfl | exact Or.inr rfl) (x_val (x_callB call_len T.n_len (by decide +kernel) (n_lenA saLs) (ea_cons (x_var (i := 4) rfl) ea_nil)) (z := (Lchanged_Lsize2 vLnumber vLmore vLrows vLcount vLtold_here)) rfl) (show 8 < 9 by decide) rfl) ?_
    exact f_nx ⟨_, rfl, Wk.uns []⟩
  · try simp only [decide_eq_true_eq, decide_eq_false_iff_not, Bool.and_eq_true, Bool.or_eq_true, Bool.not_eq_true', Bool.not_eq_false', Bool.and_eq_false_iff, Bool.or_eq_false_iff] at h10
    exact f_nx ⟨_, rfl, Wk.uns []⟩
  refine f_ifJ (fun (s : (List FV)) => [pu tI vLnumber, pu tI vLmore, pu (tLs K (tT K (tF K))) vLrows, pu tI vLcount, pu (tLs K (tLd K)) vLtold_here, pu tI (Lchanged_Lplace1 vLnumber vLmore vLrows vLcount vLtold_here), pu (tT K (tF K)) s, pu tI (Lchanged_Lchoice1 vLnumber vLmore vLrows vLcount vLtold_here), pu tI (Lchanged_j_Lsize1 vLnumber vLmore vLrows vLcount vLtold_here)]) (Lchanged_j_Lrow_here1 vLnumber vLmore vLrows vLcount vLtold_here) (A := (Lchanged_Lrow_here2 vLnumber vLmore vLrows vLcount vLtold_here)) (B := (Lchanged_Lrow_here3 vLnumber vLmore vLrows vLcount vLtold_here)) (t_cmp (op_eqD hr.units) (nomark _) (o_eqD dI) (x_var (i := 7) rfl) x_int) rfl (fun h11 => ?_) (fun h12 => ?_) ?_
  · try simp only [decide_eq_true_eq, decide_eq_false_iff_not, Bool.and_eq_true, Bool.or_eq_true, Bool.not_eq_true', Bool.not_eq_false', Bool.and_eq_false_iff, Bool.or_eq_false_iff] at h11
    refine sx_seq (Γ1 := [pu tI vLnumber, pu tI vLmore, pu (tLs K (tT K (tF K))) vLrows, pu tI vLcount, pu (tLs K (tLd K)) vLtold_here, pu tI (Lchanged_Lplace1 vLnumber vLmore vLrows vLcount vLtold_here), pu (tT K (tF K)) (Lchanged_Lrow_here2 vLnumber vLmore vLrows vLcount vLtold_here), pu tI (Lchanged_Lchoice1 vLnumber vLmore vLrows vLcount vLtold_here), pu tI (Lchanged_j_Lsize1 vLnumber vLmore vLrows vLcount vLtold_here)]) (s1_setE (i := 6) sc_Lchanged.nd rfl (by first | exact Or.inl rfl | exact Or.inr rfl) (x_val (x_callS (Ss := [pu tI vLmore, pu (tT K (tF K)) (Lchanged_Lrow_here1 vLnumber vLmore vLrows vLcount vLtold_here)]) (S' := pu (tT K (tF K)) (m_Lother_word vLmore (Lchanged_Lrow_here1 vLnumber vLmore vLrows vLcount vLtold_here))) (ok_Lother_word T) (hr.mono (by decide)) T.g_Lother_word T.F_Lother_word.kp T.b_Lother_word (vLmore, (Lchanged_Lrow_here1 vLnumber vLmore vLrows vLcount vLtold_here)) (by have hw_ := changed_row (a := vLnumber) (b := vLmore) (c := vLcount) (td := vLtold_here) hpre.2.2.2 (by omega); have hl_ := hw_.len; exact hw_) (eas_cons (x_var (i := 1) rfl) (eas_cons (x_var (i := 6) rfl) eas_nil)) rfl rfl) (z := (Lchanged_Lrow_here2 vLnumber vLmore vLrows vLcount vLtold_here)) rfl) (show 6 < 9 by decide) rfl) ?_
    exact f_nx ⟨_, rfl, Wk.uns []⟩
  · try simp only [decide_eq_true_eq, decide_eq_false_iff_not, Bool.and_eq_true, Bool.or_eq_true, Bool.not_eq_true', Bool.not_eq_false', Bool.and_eq_false_iff, Bool.or_eq_false_iff] at h12
    refine sx_seq (Γ1 := [pu tI vLnumber, pu tI vLmore, pu (tLs K (tT K (tF K))) vLrows, pu tI vLcount, pu (tLs K (tLd K)) vLtold_here, pu tI (Lchanged_Lplace1 vLnumber vLmore vLrows vLcount vLtold_here), pu (tT K (tF K)) (Lchanged_Lrow_here3 vLnumber vLmore vLrows vLcount vLtold_here), pu tI (Lchanged_Lchoice1 vLnumber vLmore vLrows vLcount vLtold_here), pu tI (Lchanged_j_Lsize1 vLnumber vLmore vLrows vLcount vLtold_here)]) (s1_setE (i := 6) sc_Lchanged.nd rfl (by first | exact Or.inl rfl | exact Or.inr rfl) (x_val (x_callS (Ss := [pu tI vLmore, pu (tT K (tF K)) (Lchanged_Lrow_here1 vLnumber vLmore vLrows vLcount vLtold_here), pu tI vLcount, pu tI (Lchanged_j_Lsize1 vLnumber vLmore vLrows vLcount vLtold_here)]) (S' := pu (tT K (tF K)) (m_Lbent_row vLmore (Lchanged_Lrow_here1 vLnumber vLmore vLrows vLcount vLtold_here) vLcount (Lchanged_j_Lsize1 vLnumber vLmore vLrows vLcount vLtold_here))) (ok_Lbent_row T) (hr.mono (by decide)) T.g_Lbent_row T.F_Lbent_row.kp T.b_Lbent_row (vLmore, (Lchanged_Lrow_here1 vLnumber vLmore vLrows vLcount vLtold_here), vLcount, (Lchanged_j_Lsize1 vLnumber vLmore vLrows vLcount vLtold_here)) (by have hw_ := changed_row (a := vLnumber) (b := vLmore) (c := vLcount) (td := vLtold_here) hpre.2.2.2 (by omega); have hl_ := hw_.len; obtain ⟨q0_, q1_⟩ := hch (by omega); exact ⟨hpre.1, (by dsimp only; unfold Lchanged_j_Lsize1 Lchanged_Lsize2 Lchanged_Lsize1; split <;> omega), hw_⟩) (eas_cons (x_var (i := 1) rfl) (eas_cons (x_var (i := 6) rfl) (eas_cons (x_var (i := 3) rfl) (eas_cons (x_var (i := 8) rfl) eas_nil)))) rfl rfl) (z := (Lchanged_Lrow_here3 vLnumber vLmore vLrows vLcount vLtold_here)) rfl) (show 6 < 9 by decide) rfl) ?_
    exact f_nx ⟨_, rfl, Wk.uns []⟩
  exact sx_ret (x_frz (x_catLO (x_frz (x_catLO (x_frz (x_take sqLs (x_var (i := 2) rfl) (x_var (i := 5) rfl) (by obtain ⟨q0_, q1_⟩ := hch (by omega); (try dsimp only); (try simp only [InIx, List.length_append, List.length_cons, List.length_nil, List.length_take, List.length_drop]); omega))) (x_frz (x_lst (Ss := [pu (tT K (tF K)) (Lchanged_j_Lrow_here1 vLnumber vLmore vLrows vLcount vLtold_here)]) (n_lst (R := (tT K (tF K))) (xs := [(Lchanged_j_Lrow_here1 vLnumber vLmore vLrows vLcount vLtold_here)]) (show 1 ≤ sizeLine by decide)) (ea_cons (x_var (i := 6) rfl) ea_nil))) (by /-23-/ decreasing_trivial))) (x_frz (x_drop sqLs (x_var (i := 2) rfl) (x_add (x_var (i := 5) rfl) x_int) (by obtain ⟨q0_, q1_⟩ := hch (by omega); (try dsimp only); (try simp only [InIx, List.length_append, List.length_cons, List.length_nil, List.length_take, List.length_drop]); omega))) (by /-25-/ decreasing_trivial))) ⟨_, rfl⟩
theorem ok_as_set (T : Tx K mg base) : FnOk P w K mg base CX0 1 T.a_as_set T.d_as_set ["columns"] (spP (A := (List Int)) (fun x => (x.length < 64)) (fun x => [pu (tQ K tI) x]) (fun x => pu (tT K tI) (m_as_set x))) := by
  refine fn_ok T.F_as_set sc_as_set (fun _ => rfl) fun X vcolumns hX hr hpre => ?_
  obtain ⟨cdv, A, outer, s, H, E, rfl⟩ := hX
  replace hpre : vcolumns.length < 64 := hpre
  have hz1 : sizeLine = 16777216 := rfl
  have hz2 : scanBound = 4096 := rfl
  show SX _ _ [pu (tQ K tI) vcolumns] _
  refine SX.imp (P := RetP (fun z : (List Int) => pu (tT K tI) z) (m_as_set vcolumns)) ?_ fun r h => .inl h
  unfold m_as_set
  exact sx_ret (x_callT call_tuple_of T.n_tuple (by decide +kernel) (n_tupleL sqLs) (ea_cons (x_frz (x_callB (cr_sortedSet rfl) T.n_sorted (by decide +kernel) (n_sortSet (by /-2-/ (try dsimp only); (try simp only [InIx, CDiv, CMul, CPow, List.length_append, List.length_cons, List.length_nil, List.length_singleton, List.length_map, List.length_reverse, List.length_take, List.length_drop]) <;> first | assumption | omega | decide)) (ea_cons (x_callT (cr_setQ rfl) T.n_set (by decide +kernel) (n_setQ saQ (by /-1-/ (try dsimp only); (try simp only [InIx, CDiv, CMul, CPow, List.length_append, List.length_cons, List.length_nil, List.length_singleton, List.length_map, List.length_reverse, List.length_take, List.length_drop]) <;> first | assumption | omega | decide)) (ea_cons (x_var (i := 0) rfl) ea_nil)) ea_nil))) ea_nil)) ⟨_, rfl⟩
theorem ok_Sides_init (T : Tx K mg base) (C : Addr) (cl : Cls K C) (na_left : NoAttr K C "left") (na_right : NoAttr K C "right") : FnOk P w K mg base CX0 2 T.a_Sides_init T.d_Sides_init ["self", "left", "right"] (spM (A := (List Int) × (List Int)) (fun x => (x.1.length < 64 ∧ x.2.length < 64)) (fun _ => oi C []) (fun x => [pu (tQ K tI) x.1, pu (tQ K tI) x.2]) (fun x => oi C [("left", fld (tT K tI) (m_as_set x.1)), ("right", fld (tT K tI) (m_as_set x.2))]) (fun _ => pu tN ())) := by
  refine fn_okM T.F_Sides_init sc_Sides_init (fun _ => rfl) (fun _ => gho_oi) (fun _ => gho_oi) fun X x a hX hr hpre => ?_
  obtain ⟨vleft, vright⟩ := x
  obtain ⟨cdv, A, outer, s, H, E, rfl⟩ := hX
  replace hpre : vleft.length < 64 ∧ vright.length < 64 := hpre
  have hz1 : sizeLine = 16777216 := rfl
  have hz2 : scanBound = 4096 := rfl
  show SX _ _ [oi C [] a, pu (tQ K tI) vleft, pu (tQ K tI) vright] _
  refine sx_seq (Γ1 := [oi C [("left", fld (tT K tI) (m_as_set vleft))] a, pu (tQ K tI) vleft, pu (tQ K tI) vright]) (s1_fld (i := 0) (fs := []) (Γ1 := [oi C [] a, pu (tQ K tI) vleft, pu (tQ K tI) vright]) (gs := []) (a := a) (R := (tT K tI)) (y := (m_as_set vleft)) (x_callS (Ss := [pu (tQ K tI) vleft]) (S' := pu (tT K tI) (m_as_set vleft)) (ok_as_set T) (hr.mono (by decide)) T.g_as_set T.F_as_set.kp T.b_as_set vleft (by exact hpre.1) (eas_cons (x_var (i := 1) rfl) eas_nil) rfl rfl) rfl cl na_left (show 0 < 1000 by decide)) ?_
  refine sx_seq (Γ1 := [oi C [("left", fld (tT K tI) (m_as_set vleft)), ("right", fld (tT K tI) (m_as_set vright))] a, pu (tQ K tI) vleft, pu (tQ K tI) vright]) (s1_fld (i := 0) (fs := []) (Γ1 := [oi C [("left", fld (tT K tI) (m_as_set vleft))] a, pu (tQ K tI) vleft, pu (tQ K tI) vright]) (gs := [("left", fld (tT K tI) (m_as_set vleft))]) (a := a) (R := (tT K tI)) (y := (m_as_set vright)) (x_callS (Ss := [pu (tQ K tI) vright]) (S' := pu (tT K tI) (m_as_set vright)) (ok_as_set T) (hr.mono (by decide)) T.g_as_set T.F_as_set.kp T.b_as_set vright (by exact hpre.2) (eas_cons (x_var (i := 2) rfl) eas_nil) rfl rfl) rfl cl na_right (show 1 < 1000 by decide)) ?_
  exact f_nx (.inr ⟨_, rfl, fun _ => ⟨rfl, _, rfl, rfl⟩⟩)
theorem ok_Jd_init (T : Tx K mg base) (C : Addr) (cl : Cls K C) (na_parts : NoAttr K C "parts") : FnOk P w K mg base CX0 2 T.a_Jd_init T.d_Jd_init ["self", "parts"] (spM (A := (List (List Int))) (fun x => (∀ p ∈ x, p.length < 64)) (fun _ => oi C []) (fun x => [pu (tQ K (tQ K tI)) x]) (fun x => oi C [("parts", fld (tT K (tT K tI)) (x.map (fun (x1 : (List Int)) => (m_as_set x1))))]) (fun _ => pu tN ())) := by
  refine fn_okM T.F_Jd_init sc_Jd_init (fun _ => rfl) (fun _ => gho_oi) (fun _ => gho_oi) fun X vparts a hX hr hpre => ?_
  obtain ⟨cdv, A, outer, s, H, E, rfl⟩ := hX
  replace hpre : ∀ p ∈ vparts, p.length < 64 := hpre
  have hz1 : sizeLine = 16777216 := rfl
  have hz2 : scanBound = 4096 := rfl
  show SX _ _ [oi C [] a, pu (tQ K (tQ K tI)) vparts, un] _
  refine sx_seq (Γ1 := [oi C [("parts", fld (tT K (tT K tI)) (vparts.map (fun (x1 : (List Int)) => (m_as_set x1))))] a, pu (tQ K (tQ K tI)) vparts, un]) (s1_fld (i := 0) (fs := []) (Γ1 := [oi C [] a, pu (tQ K (tQ K tI)) vparts, un]) (gs := []) (a := a) (R := (tT K (tT K tI))) (y := (vparts.map (fun (x1 : (List Int)) => (m_as_set x1)))) (x_callT call_tuple_of T.n_tuple (by decide +kernel) (n_tupleL sqLs) (ea_cons (x_frz (x_valoE (x_lc rfl sc_Jd_init.nd (w_seq saQ (x_var (i := 1) rfl)) (blkOk_by (own := [("part", 2)]) (N := N_Jd_init) (sc := defScope s_Jd_init) (by decide +kernel)) (fun _ _ _ _ _ => (pg_name (i := 2) sc_Jd_init.nd rfl (by first | exact Or.inl rfl | exact Or.inr rfl))) (tg_name (show 2 < 3 by decide)) (fun (x1 : (List Int)) => true) (fun (x1 : (List Int)) => (m_as_set x1)) (fun _ _ _ _ _ ix1 x1 hxx1 => is_nil) (fun _ _ _ _ _ ix1 x1 hxx1 hpx1 => (x_callS (Ss := [pu (tQ K tI) x1]) (S' := pu (tT K tI) (m_as_set x1)) (ok_as_set T) (by exact hr.mono (by decide)) T.g_as_set T.F_as_set.kp T.b_as_set x1 (by exact hpre _ (w_at hxx1).2) (eas_cons (x_var (i := 2) rfl) eas_nil) rfl rfl))) lc_all rfl)) ea_nil)) rfl cl na_parts (show 0 < 1000 by decide)) ?_
  exact f_nx (.inr ⟨_, rfl, fun _ => ⟨rfl, _, rfl, rfl⟩⟩)
theorem ok_Lobject (T : Tx K mg base) : FnOk P w K mg base CX0 4 T.a_Lobject T.d_Lobject ["_law_dependency_here"] (spP (A := Dep) (fun x => (DepC 10 x)) (fun x => [pu (tLd K) x]) (fun x => pu (tDep K T.c_Fd T.c_Mvd T.c_Jd (tT K (tT K tI))) (m_Lobject x))) := by
  refine fn_ok T.F_Lobject sc_Lobject (fun _ => rfl) fun X vLdependency_here hX hr hpre => ?_
  obtain ⟨cdv, A, outer, s, H, E, rfl⟩ := hX
  replace hpre : DepC 10 vLdependency_here := hpre
  have hz1 : sizeLine = 16777216 := rfl
  have hz2 : scanBound = 4096 := rfl
  have hl := hpre.len
  show SX _ _ [pu (tLd K) vLdependency_here, un] _
  refine SX.imp (P := RetP (fun z : Dep => pu (tDep K T.c_Fd T.c_Mvd T.c_Jd (tT K (tT K tI))) z) (m_Lobject vLdependency_here)) ?_ fun r h => .inl h
  unfold m_Lobject
  refine f_ifr (P := (RetP (fun z : Dep => pu (tDep K T.c_Fd T.c_Mvd T.c_Jd (tT K (tT K tI))) z))) (t_cmp op_eq (nomark _) o_eqS (x_ldW (x_var (i := 0) rfl) x_int) x_str) (fun h1 => ?_) (fun h2 => ?_)
  · try simp only [decide_eq_true_eq, decide_eq_false_iff_not, Bool.and_eq_true, Bool.or_eq_true, Bool.not_eq_true', Bool.not_eq_false', Bool.and_eq_false_iff, Bool.or_eq_false_iff] at h1
    exact sx_ret (x_co co_dfd (x_makeI (fl := flSd K) (a := (mkSd vLdependency_here.sd.l vLdependency_here.sd.r)) (Ss := [pu (tQ K tI) vLdependency_here.sd.l, pu (tQ K tI) vLdependency_here.sd.r]) T.M_Fd (ok_Sides_init T T.c_Fd T.cl_Fd T.na_Fd_left T.na_Fd_right) (hr.mono (by decide)) T.gc_Fd T.b_Sides_init (vLdependency_here.sd.l, vLdependency_here.sd.r) (by /-3-/ decreasing_trivial) (ea_cons (x_q saLs (x_frz (x_callT call_list_of T.n_list (by decide +kernel) (n_listOf saT) (ea_cons (x_ldL (by /-1-/ decreasing_trivial) (x_var (i := 0) rfl) x_int) ea_nil)))) (ea_cons (x_q saLs (x_frz (x_callT call_list_of T.n_list (by decide +kernel) (n_listOf saT) (ea_cons (x_ldR (by /-2-/ decreasing_trivial) (x_var (i := 0) rfl) x_int) ea_nil)))) ea_nil)) rfl rfl rfl rfl)) ⟨⟨_, rfl⟩, fun h => h⟩
  try simp only [decide_eq_true_eq, decide_eq_false_iff_not, Bool.and_eq_true, Bool.or_eq_true, Bool.not_eq_true', Bool.not_eq_false', Bool.and_eq_false_iff, Bool.or_eq_false_iff] at h2
  refine f_ifr (P := (RetP (fun z : Dep => pu (tDep K T.c_Fd T.c_Mvd T.c_Jd (tT K (tT K tI))) z))) (t_cmp op_eq (nomark _) o_eqS (x_ldW (x_var (i := 0) rfl) x_int) x_str) (fun h3 => ?_) (fun h4 => ?_)
  · try simp only [decide_eq_true_eq, decide_eq_false_iff_not, Bool.and_eq_true, Bool.or_eq_true, Bool.not_eq_true', Bool.not_eq_false', Bool.and_eq_false_iff, Bool.or_eq_false_iff] at h3
    exact sx_ret (x_co co_dmvd (x_makeI (fl := flSd K) (a := (mkSd vLdependency_here.sd.l vLdependency_here.sd.r)) (Ss := [pu (tQ K tI) vLdependency_here.sd.l, pu (tQ K tI) vLdependency_here.sd.r]) T.M_Mvd (ok_Sides_init T T.c_Mvd T.cl_Mvd T.na_Mvd_left T.na_Mvd_right) (hr.mono (by decide)) T.gc_Mvd T.b_Sides_init (vLdependency_here.sd.l, vLdependency_here.sd.r) (by /-6-/ decreasing_trivial) (ea_cons (x_q saLs (x_frz (x_callT call_list_of T.n_list (by decide +kernel) (n_listOf saT) (ea_cons (x_ldL (by /-4-/ decreasing_trivial) (x_var (i := 0) rfl) x_int) ea_nil)))) (ea_cons (x_q saLs (x_frz (x_callT call_list_of T.n_list (by decide +kernel) (n_listOf saT) (ea_cons (x_ldR (by /-5-/ decreasing_trivial) (x_var (i := 0) rfl) x_int) ea_nil)))) ea_nil)) rfl rfl rfl rfl)) ⟨⟨_, rfl⟩, fun h => h⟩
  try simp only [decide_eq_true_eq, decide_eq_false_iff_not, Bool.and_eq_true, Bool.or_eq_true, Bool.not_eq_true', Bool.not_eq_false', Bool.and_eq_false_iff, Bool.or_eq_false_iff] at h4
  exact sx_ret (x_co co_djd (x_makeI (fl := (flJd (tT K (tT K tI)))) (a := (mkJd vLdependency_here.ps)) (Ss := [pu (tQ K (tQ K tI)) vLdependency_here.ps]) T.M_Jd (ok_Jd_init T T.c_Jd T.cl_Jd T.na_Jd_parts) (hr.mono (by decide)) T.gc_Jd T.b_Jd_init vLdependency_here.ps (by exact fun p hp => Nat.lt_of_le_of_lt (hpre.plen p hp) (by decide)) (ea_cons (x_sb (sb_Q saLs (sb_Q saLs sb_refl)) (x_frz (x_valoE (x_lc rfl sc_Lobject.nd (w_tup sqT (x_ldP (by exact jd_of (by assumption) (by assumption)) (x_var (i := 0) rfl) x_int)) (blkOk_by (own := [("_law_part", 1)]) (N := N_Lobject) (sc := defScope s_Lobject) (by decide +kernel)) (fun _ _ _ _ _ => (pg_name (i := 1) sc_Lobject.nd rfl (by first | exact Or.inl rfl | exact Or.inr rfl))) (tg_name (show 1 < 2 by decide)) (fun (x5 : (List Int)) => true) (fun (x5 : (List Int)) => x5) (fun _ _ _ _ _ ix5 x5 hxx5 => is_nil) (fun _ _ _ _ _ ix5 x5 hxx5 hpx5 => (x_frz (x_callT call_list_of T.n_list (by decide +kernel) (n_listOf saT) (ea_cons (x_var (i := 1) rfl) ea_nil))))) lc_aid rfl))) ea_nil) rfl rfl rfl rfl)) ⟨_, rfl⟩
theorem ok_by_told (T : Tx K mg base) : FnOk P w K mg base CX0 1 T.a_by_told T.d_by_told ["dependencies", "index"] (spP (A := (List Dep) × Int) (fun x => True) (fun x => [pu (tLs K (tDep K T.c_Fd T.c_Mvd T.c_Jd (tT K (tT K tI)))) x.1, pu tI x.2]) (fun x => pu (tO (tDep K T.c_Fd T.c_Mvd T.c_Jd (tT K (tT K tI)))) (m_by_told x.1 x.2))) := by
  refine fn_ok T.F_by_told sc_by_told (fun _ => rfl) fun X x hX hr hpre => ?_
  obtain ⟨vdependencies, vindex⟩ := x
  obtain ⟨cdv, A, outer, s, H, E, rfl⟩ := hX
  have hz1 : sizeLine = 16777216 := rfl
  have hz2 : scanBound = 4096 := rfl
  show SX _ _ [pu (tLs K (tDep K T.c_Fd T.c_Mvd T.c_Jd (tT K (tT K tI)))) vdependencies, pu tI vindex] _
  refine SX.imp (P := RetP (fun z : (Option Dep) => pu (tO (tDep K T.c_Fd T.c_Mvd T.c_Jd (tT K (tT K tI)))) z) (m_by_told vdependencies vindex)) ?_ fun r h => .inl h
  unfold m_by_told
  refine f_ifr (P := (RetP (fun z : (Option Dep) => pu (tO (tDep K T.c_Fd T.c_Mvd T.c_Jd (tT K (tT K tI)))) z))) (t_w (w_and (t_chain (g := fun i j => decide (i ≤ j)) (g' := fun i j => decide (i < j)) op_le op_lt x_int (x_var (i := 1) rfl) (x_callB call_len T.n_len (by decide +kernel) (n_lenA saLs) (ea_cons (x_var (i := 0) rfl) ea_nil))) (fun h1 => (w_one (t_not (t_val (x_callB call_isi T.n_isinstance (by decide +kernel) (n_isG (f := Dep.isJd) (isT_dep (f := Dep.isJd) (typ_ins T.cl_Fd T.ci_Fd) (typ_ins T.cl_Mvd T.ci_Mvd) (typ_ins T.cl_Jd T.ci_Jd) (fun _ => T.ki_Fd_Jd) (fun _ => T.ki_Mvd_Jd) (fun _ => T.ki_Jd_Jd)) (.own _)) (ea_cons (x_ix ix_list (o_ixL sqLs (by /-1-/ (try simp only [decide_eq_true_eq, decide_eq_false_iff_not, Bool.and_eq_true, Bool.or_eq_true, Bool.not_eq_true', Bool.not_eq_false'] at h1); decreasing_trivial)) (x_var (i := 0) rfl) (x_var (i := 1) rfl)) (ea_cons (x_cls T.gc_Jd) ea_nil))))) (.inl rfl))))) (fun h3 => ?_) (fun h4 => ?_)
  · try simp only [decide_eq_true_eq, decide_eq_false_iff_not, Bool.and_eq_true, Bool.or_eq_true, Bool.not_eq_true', Bool.not_eq_false', Bool.and_eq_false_iff, Bool.or_eq_false_iff] at h3
    exact sx_ret (x_some nn_Dep (x_ix ix_list (o_ixL sqLs (by /-2-/ decreasing_trivial)) (x_var (i := 0) rfl) (x_var (i := 1) rfl))) ⟨⟨_, rfl⟩, fun h => h⟩
  try simp only [decide_eq_true_eq, decide_eq_false_iff_not, Bool.and_eq_true, Bool.or_eq_true, Bool.not_eq_true', Bool.not_eq_false', Bool.and_eq_false_iff, Bool.or_eq_false_iff] at h4
  exact sx_ret x_none ⟨_, rfl⟩
theorem ok_is_within (T : Tx K mg base) : FnOk P w K mg base CX0 1 T.a_is_within T.d_is_within ["a", "b"] (spP (A := (List Int) × (List Int)) (fun x => True) (fun x => [pu (tQ K tI) x.1, pu (tQ K tI) x.2]) (fun x => pu tB (m_is_within x.1 x.2))) := by
  refine fn_ok T.F_is_within sc_is_within (fun _ => rfl) fun X x hX hr hpre => ?_
  obtain ⟨va, vb⟩ := x
  obtain ⟨cdv, A, outer, s, H, E, rfl⟩ := hX
  have hz1 : sizeLine = 16777216 := rfl
  have hz2 : scanBound = 4096 := rfl
  show SX _ _ [pu (tQ K tI) va, pu (tQ K tI) vb, un] _
  refine SX.imp (P := RetP (fun z : Bool => pu tB z) (m_is_within va vb)) ?_ fun r h => .inl h
  unfold m_is_within
  exact sx_ret (x_val (x_callB (cr_all rfl) T.n_all (by decide +kernel) (n_all sqLs) (ea_cons (x_frz (x_valoE (x_lc rfl sc_is_within.nd (w_seq saQ (x_var (i := 0) rfl)) (blkOk_by (own := [("column", 2)]) (N := N_is_within) (sc := defScope s_is_within) (by decide +kernel)) (fun _ _ _ _ _ => (pg_name (i := 2) sc_is_within.nd rfl (by first | exact Or.inl rfl | exact Or.inr rfl))) (tg_name (show 2 < 3 by decide)) (fun (x1 : Int) => true) (fun (x1 : Int) => (decide (x1 ∈ vb))) (fun _ _ _ _ _ ix1 x1 hxx1 => is_nil) (fun _ _ _ _ _ ix1 x1 hxx1 hpx1 => (x_cmp op_in_seq (by rfl) (o_in saQ) (x_var (i := 2) rfl) (x_var (i := 1) rfl)))) lc_all rfl)) ea_nil)) all_id) ⟨_, rfl⟩
theorem ok_whole (T : Tx K mg base) : FnOk P w K mg base CX0 1 T.a_whole T.d_whole ["count"] (spP (A := Int) (fun x => (0 ≤ x ∧ x ≤ 1000)) (fun x => [pu tI x]) (fun x => pu (tT K tI) (m_whole x))) := by
  refine fn_ok T.F_whole sc_whole (fun _ => rfl) fun X vcount hX hr hpre => ?_
  obtain ⟨cdv, A, outer, s, H, E, rfl⟩ := hX
  replace hpre : 0 ≤ vcount ∧ vcount ≤ 1000 := hpre
  have hz1 : sizeLine = 16777216 := rfl
  have hz2 : scanBound = 4096 := rfl
  show SX _ _ [pu tI vcount] _
  refine SX.imp (P := RetP (fun z : (List Int) => pu (tT K tI) z) (m_whole vcount)) ?_ fun r h => .inl h
  unfold m_whole
  exact sx_ret (x_tupRange rfl T.n_tuple T.n_range (x_var (i := 0) rfl) (by /-1-/ decreasing_trivial)) ⟨_, rfl⟩
theorem ok_is_set (T : Tx K mg base) : FnOk P w K mg base CX0 2 T.a_is_set T.d_is_set ["columns", "count"] (spP (A := (List Int) × Int) (fun x => (x.1.length < 64 ∧ 0 ≤ x.2 ∧ x.2 ≤ 10)) (fun x => [pu (tT K tI) x.1, pu tI x.2]) (fun x => pu tB (m_is_set x.1 x.2))) := by
  refine fn_ok T.F_is_set sc_is_set (fun _ => rfl) fun X x hX hr hpre => ?_
  obtain ⟨vcolumns, vcount⟩ := x
  obtain ⟨cdv, A, outer, s, H, E, rfl⟩ := hX
  replace hpre : vcolumns.length < 64 ∧ 0 ≤ vcount ∧ vcount ≤ 10 := hpre
  have hz1 : sizeLine = 16777216 := rfl
  have hz2 : scanBound = 4096 := rfl
  show SX _ _ [pu (tT K tI) vcolumns, pu tI vcount] _
  refine SX.imp (P := RetP (fun z : Bool => pu tB z) (m_is_set vcolumns vcount)) ?_ fun r h => .inl h
  unfold m_is_set
  exact sx_ret (x_and (x_cmp (op_eqD hr.units) (nomark _) (o_eqD (dT dI)) (x_var (i := 0) rfl) (x_callS (Ss := [pu (tQ K tI) vcolumns]) (S' := pu (tT K tI) (m_as_set vcolumns)) (ok_as_set T) (hr.mono (by decide)) T.g_as_set T.F_as_set.kp T.b_as_set vcolumns (by /-1-/ decreasing_trivial) (eas_cons (x_q saT (x_var (i := 0) rfl)) eas_nil) rfl rfl)) (fun h1 => (x_one (x_callS (Ss := [pu (tQ K tI) vcolumns, pu (tQ K tI) (m_whole vcount)]) (S' := pu tB (m_is_within vcolumns (m_whole vcount))) (ok_is_within T) (hr.mono (by decide)) T.g_is_within T.F_is_within.kp T.b_is_within (vcolumns, (m_whole vcount)) trivial (eas_cons (x_q saT (x_var (i := 0) rfl)) (eas_cons (x_q saT (x_callS (Ss := [pu tI vcount]) (S' := pu (tT K tI) (m_whole vcount)) (ok_whole T) (hr.mono (by decide)) T.g_whole T.F_whole.kp T.b_whole vcount (by /-2-/ (try simp only [decide_eq_true_eq, decide_eq_false_iff_not, Bool.and_eq_true, Bool.or_eq_true, Bool.not_eq_true', Bool.not_eq_false'] at h1); decreasing_trivial) (eas_cons (x_var (i := 1) rfl) eas_nil) rfl rfl)) eas_nil)) rfl rfl)))) ⟨_, rfl⟩
theorem ok_by_within (T : Tx K mg base) : FnOk P w K mg base CX0 4 T.a_by_within T.d_by_within ["count", "left", "right"] (spP (A := Int × (List Int) × (List Int)) (fun x => (x.2.1.length < 64 ∧ x.2.2.length < 64 ∧ 0 ≤ x.1 ∧ x.1 ≤ 10)) (fun x => [pu tI x.1, pu (tT K tI) x.2.1, pu (tT K tI) x.2.2]) (fun x => pu (tO (tDep K T.c_Fd T.c_Mvd T.c_Jd (tT K (tT K tI)))) (m_by_within x.1 x.2.1 x.2.2))) := by
  refine fn_ok T.F_by_within sc_by_within (fun _ => rfl) fun X x hX hr hpre => ?_
  obtain ⟨vcount, vleft, vright⟩ := x
  obtain ⟨cdv, A, outer, s, H, E, rfl⟩ := hX
  replace hpre : vleft.length < 64 ∧ vright.length < 64 ∧ 0 ≤ vcount ∧ vcount ≤ 10 := hpre
  have hz1 : sizeLine = 16777216 := rfl
  have hz2 : scanBound = 4096 := rfl
  show SX _ _ [pu tI vcount, pu (tT K tI) vleft, pu (tT K tI) vright] _
  refine SX.imp (P := RetP (fun z : (Option Dep) => pu (tO (tDep K T.c_Fd T.c_Mvd T.c_Jd (tT K (tT K tI)))) z) (m_by_within vcount vleft vright)) ?_ fun r h => .inl h
  unfold m_by_within
  refine f_ifr (P := (RetP (fun z : (Option Dep) => pu (tO (tDep K T.c_Fd T.c_Mvd T.c_Jd (tT K (tT K tI)))) z))) (t_w (w_and (t_val (x_callS (Ss := [pu (tT K tI) vleft, pu tI vcount]) (S' := pu tB (m_is_set vleft vcount)) (ok_is_set T) (hr.mono (by decide)) T.g_is_set T.F_is_set.kp T.b_is_set (vleft, vcount) (by /-1-/ decreasing_trivial) (eas_cons (x_var (i := 1) rfl) (eas_cons (x_var (i := 0) rfl) eas_nil)) rfl rfl)) (fun h1 => (w_and (t_val (x_callS (Ss := [pu (tT K tI) vright, pu tI vcount]) (S' := pu tB (m_is_set vright vcount)) (ok_is_set T) (hr.mono (by decide)) T.g_is_set T.F_is_set.kp T.b_is_set (vright, vcount) (by /-2-/ (try simp only [decide_eq_true_eq, decide_eq_false_iff_not, Bool.and_eq_true, Bool.or_eq_true, Bool.not_eq_true', Bool.not_eq_false'] at h1); decreasing_trivial) (eas_cons (x_var (i := 2) rfl) (eas_cons (x_var (i := 0) rfl) eas_nil)) rfl rfl)) (fun h2 => (w_one (t_val (x_callS (Ss := [pu (tQ K tI) vright, pu (tQ K tI) vleft]) (S' := pu tB (m_is_within vright vleft)) (ok_is_within T) (hr.mono (by decide)) T.g_is_within T.F_is_within.kp T.b_is_within (vright, vleft) trivial (eas_cons (x_q saT (x_var (i := 2) rfl)) (eas_cons (x_q saT (x_var (i := 1) rfl)) eas_nil)) rfl rfl)) (.inl rfl))))))) (fun h4 => ?_) (fun h5 => ?_)
  · try simp only [decide_eq_true_eq, decide_eq_false_iff_not, Bool.and_eq_true, Bool.or_eq_true, Bool.not_eq_true', Bool.not_eq_false', Bool.and_eq_false_iff, Bool.or_eq_false_iff] at h4
    exact sx_ret (x_some nn_Dep (x_co co_dfd (x_makeI (fl := flSd K) (a := (mkSd vleft vright)) (Ss := [pu (tQ K tI) vleft, pu (tQ K tI) vright]) T.M_Fd (ok_Sides_init T T.c_Fd T.cl_Fd T.na_Fd_left T.na_Fd_right) (hr.mono (by decide)) T.gc_Fd T.b_Sides_init (vleft, vright) (by /-3-/ decreasing_trivial) (ea_cons (x_q saT (x_var (i := 1) rfl)) (ea_cons (x_q saT (x_var (i := 2) rfl)) ea_nil)) rfl rfl rfl rfl))) ⟨⟨_, rfl⟩, fun h => h⟩
  try simp only [decide_eq_true_eq, decide_eq_false_iff_not, Bool.and_eq_true, Bool.or_eq_true, Bool.not_eq_true', Bool.not_eq_false', Bool.and_eq_false_iff, Bool.or_eq_false_iff] at h5
  exact sx_ret x_none ⟨_, rfl⟩
theorem ok_earlier (T : Tx K mg base) : FnOk P w K mg base CX0 1 T.a_earlier T.d_earlier ["made", "index"] (spP (A := (List Dep) × Int) (fun x => True) (fun x => [pu (tLs K (tDep K T.c_Fd T.c_Mvd T.c_Jd (tT K (tT K tI)))) x.1, pu tI x.2]) (fun x => pu (tO (tDep K T.c_Fd T.c_Mvd T.c_Jd (tT K (tT K tI)))) (m_earlier x.1 x.2))) := by
  refine fn_ok T.F_earlier sc_earlier (fun _ => rfl) fun X x hX hr hpre => ?_
  obtain ⟨vmade, vindex⟩ := x
  obtain ⟨cdv, A, outer, s, H, E, rfl⟩ := hX
  have hz1 : sizeLine = 16777216 := rfl
  have hz2 : scanBound = 4096 := rfl
  show SX _ _ [pu (tLs K (tDep K T.c_Fd T.c_Mvd T.c_Jd (tT K (tT K tI)))) vmade, pu tI vindex] _
  refine SX.imp (P := RetP (fun z : (Option Dep) => pu (tO (tDep K T.c_Fd T.c_Mvd T.c_Jd (tT K (tT K tI)))) z) (m_earlier vmade vindex)) ?_ fun r h => .inl h
  unfold m_earlier
  refine f_ifr (P := (RetP (fun z : (Option Dep) => pu (tO (tDep K T.c_Fd T.c_Mvd T.c_Jd (tT K (tT K tI)))) z))) (t_chain (g := fun i j => decide (i ≤ j)) (g' := fun i j => decide (i < j)) op_le op_lt x_int (x_var (i := 1) rfl) (x_callB call_len T.n_len (by decide +kernel) (n_lenA saLs) (ea_cons (x_var (i := 0) rfl) ea_nil))) (fun h1 => ?_) (fun h2 => ?_)
  · try simp only [decide_eq_true_eq, decide_eq_false_iff_not, Bool.and_eq_true, Bool.or_eq_true, Bool.not_eq_true', Bool.not_eq_false', Bool.and_eq_false_iff, Bool.or_eq_false_iff] at h1
    exact sx_ret (x_some nn_Dep (x_ix ix_list (o_ixL sqLs (by /-1-/ decreasing_trivial)) (x_var (i := 0) rfl) (x_var (i := 1) rfl))) ⟨⟨_, rfl⟩, fun h => h⟩
  try simp only [decide_eq_true_eq, decide_eq_false_iff_not, Bool.and_eq_true, Bool.or_eq_true, Bool.not_eq_true', Bool.not_eq_false', Bool.and_eq_false_iff, Bool.or_eq_false_iff] at h2
  exact sx_ret x_none ⟨_, rfl⟩
theorem ok_by_through (T : Tx K mg base) : FnOk P w K mg base CX0 4 T.a_by_through T.d_by_through ["first", "second"] (spP (A := (Option Dep) × (Option Dep)) (fun x => (DepCO 10 x.1 ∧ DepCO 10 x.2)) (fun x => [pu (tO (tDep K T.c_Fd T.c_Mvd T.c_Jd (tT K (tT K tI)))) x.1, pu (tO (tDep K T.c_Fd T.c_Mvd T.c_Jd (tT K (tT K tI)))) x.2]) (fun x => pu (tO (tDep K T.c_Fd T.c_Mvd T.c_Jd (tT K (tT K tI)))) (m_by_through x.1 x.2))) := by
  refine fn_ok T.F_by_through sc_by_through (fun _ => rfl) fun X x hX hr hpre => ?_
  obtain ⟨vfirst, vsecond⟩ := x
  obtain ⟨cdv, A, outer, s, H, E, rfl⟩ := hX
  replace hpre : DepCO 10 vfirst ∧ DepCO 10 vsecond := hpre
  have hz1 : sizeLine = 16777216 := rfl
  have hz2 : scanBound = 4096 := rfl
  have hl1 := hpre.1.len
  have hl2 := hpre.2.len
  show SX _ _ [pu (tO (tDep K T.c_Fd T.c_Mvd T.c_Jd (tT K (tT K tI)))) vfirst, pu (tO (tDep K T.c_Fd T.c_Mvd T.c_Jd (tT K (tT K tI)))) vsecond] _
  refine SX.imp (P := RetP (fun z : (Option Dep) => pu (tO (tDep K T.c_Fd T.c_Mvd T.c_Jd (tT K (tT K tI)))) z) (m_by_through vfirst vsecond)) ?_ fun r h => .inl h
  unfold m_by_through
  refine f_ifr (P := (RetP (fun z : (Option Dep) => pu (tO (tDep K T.c_Fd T.c_Mvd T.c_Jd (tT K (tT K tI)))) z))) (t_w (w_and (t_val (x_callB call_isi T.n_isinstance (by decide +kernel) (n_isG (f := (optB Dep.isFd)) (isT_O (isT_dep (f := Dep.isFd) (typ_ins T.cl_Fd T.ci_Fd) (typ_ins T.cl_Mvd T.ci_Mvd) (typ_ins T.cl_Jd T.ci_Jd) (fun _ => T.ki_Fd_Fd) (fun _ => T.ki_Mvd_Fd) (fun _ => T.ki_Jd_Fd)) T.kb_NoneType_Fd) (.own _)) (ea_cons (x_var (i := 0) rfl) (ea_cons (x_cls T.gc_Fd) ea_nil)))) (fun h1 => (w_and (t_val (x_callB call_isi T.n_isinstance (by decide +kernel) (n_isG (f := (optB Dep.isFd)) (isT_O (isT_dep (f := Dep.isFd) (typ_ins T.cl_Fd T.ci_Fd) (typ_ins T.cl_Mvd T.ci_Mvd) (typ_ins T.cl_Jd T.ci_Jd) (fun _ => T.ki_Fd_Fd) (fun _ => T.ki_Mvd_Fd) (fun _ => T.ki_Jd_Fd)) T.kb_NoneType_Fd) (.own _)) (ea_cons (x_var (i := 1) rfl) (ea_cons (x_cls T.gc_Fd) ea_nil)))) (fun h2 => (w_one (t_cmp (op_eqD hr.units) (nomark _) (o_eqD (dT dI)) (x_depFld (x_unO (d := default) (x_var (i := 0) rfl) (by /-1-/ (try simp only [decide_eq_true_eq, decide_eq_false_iff_not, Bool.and_eq_true, Bool.or_eq_true, Bool.not_eq_true', Bool.not_eq_false'] at h1 h2); decreasing_trivial)) (by /-2-/ (try simp only [decide_eq_true_eq, decide_eq_false_iff_not, Bool.and_eq_true, Bool.or_eq_true, Bool.not_eq_true', Bool.not_eq_false'] at h1 h2); decreasing_trivial) rfl T.cl_Fd T.na_Fd_right T.cl_Mvd T.na_Mvd_right) (x_depFld (x_unO (d := default) (x_var (i := 1) rfl) (by /-3-/ (try simp only [decide_eq_true_eq, decide_eq_false_iff_not, Bool.and_eq_true, Bool.or_eq_true, Bool.not_eq_true', Bool.not_eq_false'] at h1 h2); decreasing_trivial)) (by /-4-/ (try simp only [decide_eq_true_eq, decide_eq_false_iff_not, Bool.and_eq_true, Bool.or_eq_true, Bool.not_eq_true', Bool.not_eq_false'] at h1 h2); decreasing_trivial) rfl T.cl_Fd T.na_Fd_left T.cl_Mvd T.na_Mvd_left)) (.inl rfl))))))) (fun h4 => ?_) (fun h5 => ?_)
  · try simp only [decide_eq_true_eq, decide_eq_false_iff_not, Bool.and_eq_true, Bool.or_eq_true, Bool.not_eq_true', Bool.not_eq_false', Bool.and_eq_false_iff, Bool.or_eq_false_iff] at h4
    exact sx_ret (x_some nn_Dep (x_co co_dfd (x_makeI (fl := flSd K) (a := (mkSd (vfirst.getD default).sd.l (vsecond.getD default).sd.r)) (Ss := [pu (tQ K tI) (vfirst.getD default).sd.l, pu (tQ K tI) (vsecond.getD default).sd.r]) T.M_Fd (ok_Sides_init T T.c_Fd T.cl_Fd T.na_Fd_left T.na_Fd_right) (hr.mono (by decide)) T.gc_Fd T.b_Sides_init ((vfirst.getD default).sd.l, (vsecond.getD default).sd.r) (by /-9-/ decreasing_trivial) (ea_cons (x_q saT (x_depFld (x_unO (d := default) (x_var (i := 0) rfl) (by /-5-/ decreasing_trivial)) (by /-6-/ decreasing_trivial) rfl T.cl_Fd T.na_Fd_left T.cl_Mvd T.na_Mvd_left)) (ea_cons (x_q saT (x_depFld (x_unO (d := default) (x_var (i := 1) rfl) (by /-7-/ decreasing_trivial)) (by /-8-/ decreasing_trivial) rfl T.cl_Fd T.na_Fd_right T.cl_Mvd T.na_Mvd_right)) ea_nil)) rfl rfl rfl rfl))) ⟨⟨_, rfl⟩, fun h => h⟩
  try simp only [decide_eq_true_eq, decide_eq_false_iff_not, Bool.and_eq_true, Bool.or_eq_true, Bool.not_eq_true', Bool.not_eq_false', Bool.and_eq_false_iff, Bool.or_eq_false_iff] at h5
  exact sx_ret x_none ⟨_, rfl⟩
theorem ok_less (T : Tx K mg base) : FnOk P w K mg base CX0 1 T.a_less T.d_less ["a", "b"] (spP (A := (List Int) × (List Int)) (fun x => True) (fun x => [pu (tT K tI) x.1, pu (tT K tI) x.2]) (fun x => pu (tT K tI) (m_less x.1 x.2))) := by
  refine fn_ok T.F_less sc_less (fun _ => rfl) fun X x hX hr hpre => ?_
  obtain ⟨va, vb⟩ := x
  obtain ⟨cdv, A, outer, s, H, E, rfl⟩ := hX
  have hz1 : sizeLine = 16777216 := rfl
  have hz2 : scanBound = 4096 := rfl
  show SX _ _ [pu (tT K tI) va, pu (tT K tI) vb, un] _
  refine SX.imp (P := RetP (fun z : (List Int) => pu (tT K tI) z) (m_less va vb)) ?_ fun r h => .inl h
  unfold m_less
  exact sx_ret (x_callT call_tuple_of T.n_tuple (by decide +kernel) (n_tupleL sqLs) (ea_cons (x_frz (x_valoE (x_lc rfl sc_less.nd (w_tup sqT (x_var (i := 0) rfl)) (blkOk_by (own := [("column", 2)]) (N := N_less) (sc := defScope s_less) (by decide +kernel)) (fun _ _ _ _ _ => (pg_name (i := 2) sc_less.nd rfl (by first | exact Or.inl rfl | exact Or.inr rfl))) (tg_name (show 2 < 3 by decide)) (fun (x1 : Int) => (!(decide (x1 ∈ vb)))) (fun (x1 : Int) => x1) (fun _ _ _ _ _ ix1 x1 hxx1 => (is_one (t_cmp op_notIn_seq (by rfl) (o_notin saT) (x_var (i := 2) rfl) (x_var (i := 1) rfl)))) (fun _ _ _ _ _ ix1 x1 hxx1 hpx1 => (x_var (i := 2) rfl))) lc_fid rfl)) ea_nil)) ⟨_, rfl⟩
theorem ok_by_beyond (T : Tx K mg base) : FnOk P w K mg base CX0 4 T.a_by_beyond T.d_by_beyond ["first", "second"] (spP (A := (Option Dep) × (Option Dep)) (fun x => (DepCO 10 x.1 ∧ DepCO 10 x.2)) (fun x => [pu (tO (tDep K T.c_Fd T.c_Mvd T.c_Jd (tT K (tT K tI)))) x.1, pu (tO (tDep K T.c_Fd T.c_Mvd T.c_Jd (tT K (tT K tI)))) x.2]) (fun x => pu (tO (tDep K T.c_Fd T.c_Mvd T.c_Jd (tT K (tT K tI)))) (m_by_beyond x.1 x.2))) := by
  refine fn_ok T.F_by_beyond sc_by_beyond (fun _ => rfl) fun X x hX hr hpre => ?_
  obtain ⟨vfirst, vsecond⟩ := x
  obtain ⟨cdv, A, outer, s, H, E, rfl⟩ := hX
  replace hpre : DepCO 10 vfirst ∧ DepCO 10 vsecond := hpre
  have hz1 : sizeLine = 16777216 := rfl
  have hz2 : scanBound = 4096 := rfl
  have hl1 := hpre.1.len
  have hl2 := hpre.2.len
  have hs := less_len (vsecond.getD default).sd.r (vfirst.getD default).sd.r
  show SX _ _ [pu (tO (tDep K T.c_Fd T.c_Mvd T.c_Jd (tT K (tT K tI)))) vfirst, pu (tO (tDep K T.c_Fd T.c_Mvd T.c_Jd (tT K (tT K tI)))) vsecond] _
  refine SX.imp (P := RetP (fun z : (Option Dep) => pu (tO (tDep K T.c_Fd T.c_Mvd T.c_Jd (tT K (tT K tI)))) z) (m_by_beyond vfirst vsecond)) ?_ fun r h => .inl h
  unfold m_by_beyond
  refine f_ifr (P := (RetP (fun z : (Option Dep) => pu (tO (tDep K T.c_Fd T.c_Mvd T.c_Jd (tT K (tT K tI)))) z))) (t_w (w_and (t_val (x_callB call_isi T.n_isinstance (by decide +kernel) (n_isG (f := (optB Dep.isMvd)) (isT_O (isT_dep (f := Dep.isMvd) (typ_ins T.cl_Fd T.ci_Fd) (typ_ins T.cl_Mvd T.ci_Mvd) (typ_ins T.cl_Jd T.ci_Jd) (fun _ => T.ki_Fd_Mvd) (fun _ => T.ki_Mvd_Mvd) (fun _ => T.ki_Jd_Mvd)) T.kb_NoneType_Mvd) (.own _)) (ea_cons (x_var (i := 0) rfl) (ea_cons (x_cls T.gc_Mvd) ea_nil)))) (fun h1 => (w_and (t_val (x_callB call_isi T.n_isinstance (by decide +kernel) (n_isG (f := (optB Dep.isMvd)) (isT_O (isT_dep (f := Dep.isMvd) (typ_ins T.cl_Fd T.ci_Fd) (typ_ins T.cl_Mvd T.ci_Mvd) (typ_ins T.cl_Jd T.ci_Jd) (fun _ => T.ki_Fd_Mvd) (fun _ => T.ki_Mvd_Mvd) (fun _ => T.ki_Jd_Mvd)) T.kb_NoneType_Mvd) (.own _)) (ea_cons (x_var (i := 1) rfl) (ea_cons (x_cls T.gc_Mvd) ea_nil)))) (fun h2 => (w_one (t_cmp (op_eqD hr.units) (nomark _) (o_eqD (dT dI)) (x_depFld (x_unO (d := default) (x_var (i := 0) rfl) (by /-1-/ (try simp only [decide_eq_true_eq, decide_eq_false_iff_not, Bool.and_eq_true, Bool.or_eq_true, Bool.not_eq_true', Bool.not_eq_false'] at h1 h2); decreasing_trivial)) (by /-2-/ (try simp only [decide_eq_true_eq, decide_eq_false_iff_not, Bool.and_eq_true, Bool.or_eq_true, Bool.not_eq_true', Bool.not_eq_false'] at h1 h2); decreasing_trivial) rfl T.cl_Fd T.na_Fd_right T.cl_Mvd T.na_Mvd_right) (x_depFld (x_unO (d := default) (x_var (i := 1) rfl) (by /-3-/ (try simp only [decide_eq_true_eq, decide_eq_false_iff_not, Bool.and_eq_true, Bool.or_eq_true, Bool.not_eq_true', Bool.not_eq_false'] at h1 h2); decreasing_trivial)) (by /-4-/ (try simp only [decide_eq_true_eq, decide_eq_false_iff_not, Bool.and_eq_true, Bool.or_eq_true, Bool.not_eq_true', Bool.not_eq_false'] at h1 h2); decreasing_trivial) rfl T.cl_Fd T.na_Fd_left T.cl_Mvd T.na_Mvd_left)) (.inl rfl))))))) (fun h4 => ?_) (fun h5 => ?_)
  · try simp only [decide_eq_true_eq, decide_eq_false_iff_not, Bool.and_eq_true, Bool.or_eq_true, Bool.not_eq_true', Bool.not_eq_false', Bool.and_eq_false_iff, Bool.or_eq_false_iff] at h4
    exact sx_ret (x_some nn_Dep (x_co co_dmvd (x_makeI (fl := flSd K) (a := (mkSd (vfirst.getD default).sd.l (m_less (vsecond.getD default).sd.r (vfirst.getD default).sd.r))) (Ss := [pu (tQ K tI) (vfirst.getD default).sd.l, pu (tQ K tI) (m_less (vsecond.getD default).sd.r (vfirst.getD default).sd.r)]) T.M_Mvd (ok_Sides_init T T.c_Mvd T.cl_Mvd T.na_Mvd_left T.na_Mvd_right) (hr.mono (by decide)) T.gc_Mvd T.b_Sides_init ((vfirst.getD default).sd.l, (m_less (vsecond.getD default).sd.r (vfirst.getD default).sd.r)) (by /-11-/ decreasing_trivial) (ea_cons (x_q saT (x_depFld (x_unO (d := default) (x_var (i := 0) rfl) (by /-5-/ decreasing_trivial)) (by /-6-/ decreasing_trivial) rfl T.cl_Fd T.na_Fd_left T.cl_Mvd T.na_Mvd_left)) (ea_cons (x_q saT (x_callS (Ss := [pu (tT K tI) (vsecond.getD default).sd.r, pu (tT K tI) (vfirst.getD default).sd.r]) (S' := pu (tT K tI) (m_less (vsecond.getD default).sd.r (vfirst.getD default).sd.r)) (ok_less T) (hr.mono (by decide)) T.g_less T.F_less.kp T.b_less ((vsecond.getD default).sd.r, (vfirst.getD default).sd.r) trivial (eas_cons (x_depFld (x_unO (d := default) (x_var (i := 1) rfl) (by /-7-/ decreasing_trivial)) (by /-8-/ decreasing_trivial) rfl T.cl_Fd T.na_Fd_right T.cl_Mvd T.na_Mvd_right) (eas_cons (x_depFld (x_unO (d := default) (x_var (i := 0) rfl) (by /-9-/ decreasing_trivial)) (by /-10-/ decreasing_trivial) rfl T.cl_Fd T.na_Fd_right T.cl_Mvd T.na_Mvd_right) eas_nil)) rfl rfl)) ea_nil)) rfl rfl rfl rfl))) ⟨⟨_, rfl⟩, fun h => h⟩
  try simp only [decide_eq_true_eq, decide_eq_false_iff_not, Bool.and_eq_true, Bool.or_eq_true, Bool.not_eq_true', Bool.not_eq_false', Bool.and_eq_false_iff, Bool.or_eq_false_iff] at h5
  exact sx_ret x_none ⟨_, rfl⟩
theorem ok_met (T : Tx K mg base) : FnOk P w K mg base CX0 1 T.a_met T.d_met ["a", "b"] (spP (A := (List Int) × (List Int)) (fun x => True) (fun x => [pu (tT K tI) x.1, pu (tT K tI) x.2]) (fun x => pu (tT K tI) (m_met x.1 x.2))) := by
  refine fn_ok T.F_met sc_met (fun _ => rfl) fun X x hX hr hpre => ?_
  obtain ⟨va, vb⟩ := x
  obtain ⟨cdv, A, outer, s, H, E, rfl⟩ := hX
  have hz1 : sizeLine = 16777216 := rfl
  have hz2 : scanBound = 4096 := rfl
  show SX _ _ [pu (tT K tI) va, pu (tT K tI) vb, un] _
  refine SX.imp (P := RetP (fun z : (List Int) => pu (tT K tI) z) (m_met va vb)) ?_ fun r h => .inl h
  unfold m_met
  exact sx_ret (x_callT call_tuple_of T.n_tuple (by decide +kernel) (n_tupleL sqLs) (ea_cons (x_frz (x_valoE (x_lc rfl sc_met.nd (w_tup sqT (x_var (i := 0) rfl)) (blkOk_by (own := [("column", 2)]) (N := N_met) (sc := defScope s_met) (by decide +kernel)) (fun _ _ _ _ _ => (pg_name (i := 2) sc_met.nd rfl (by first | exact Or.inl rfl | exact Or.inr rfl))) (tg_name (show 2 < 3 by decide)) (fun (x1 : Int) => (decide (x1 ∈ vb))) (fun (x1 : Int) => x1) (fun _ _ _ _ _ ix1 x1 hxx1 => (is_one (t_cmp op_in_seq (by rfl) (o_in saT) (x_var (i := 2) rfl) (x_var (i := 1) rfl)))) (fun _ _ _ _ _ ix1 x1 hxx1 hpx1 => (x_var (i := 2) rfl))) lc_fid rfl)) ea_nil)) ⟨_, rfl⟩
theorem ok_by_meets (T : Tx K mg base) : FnOk P w K mg base CX0 4 T.a_by_meets T.d_by_meets ["first", "second"] (spP (A := (Option Dep) × (Option Dep)) (fun x => (DepCO 10 x.1 ∧ DepCO 10 x.2)) (fun x => [pu (tO (tDep K T.c_Fd T.c_Mvd T.c_Jd (tT K (tT K tI)))) x.1, pu (tO (tDep K T.c_Fd T.c_Mvd T.c_Jd (tT K (tT K tI)))) x.2]) (fun x => pu (tO (tDep K T.c_Fd T.c_Mvd T.c_Jd (tT K (tT K tI)))) (m_by_meets x.1 x.2))) := by
  refine fn_ok T.F_by_meets sc_by_meets (fun _ => rfl) fun X x hX hr hpre => ?_
  obtain ⟨vfirst, vsecond⟩ := x
  obtain ⟨cdv, A, outer, s, H, E, rfl⟩ := hX
  replace hpre : DepCO 10 vfirst ∧ DepCO 10 vsecond := hpre
  have hz1 : sizeLine = 16777216 := rfl
  have hz2 : scanBound = 4096 := rfl
  have hl1 := hpre.1.len
  have hl2 := hpre.2.len
  show SX _ _ [pu (tO (tDep K T.c_Fd T.c_Mvd T.c_Jd (tT K (tT K tI)))) vfirst, pu (tO (tDep K T.c_Fd T.c_Mvd T.c_Jd (tT K (tT K tI)))) vsecond] _
  refine SX.imp (P := RetP (fun z : (Option Dep) => pu (tO (tDep K T.c_Fd T.c_Mvd T.c_Jd (tT K (tT K tI)))) z) (m_by_meets vfirst vsecond)) ?_ fun r h => .inl h
  unfold m_by_meets
  refine f_ifr (P := (RetP (fun z : (Option Dep) => pu (tO (tDep K T.c_Fd T.c_Mvd T.c_Jd (tT K (tT K tI)))) z))) (t_w (w_or (t_not (t_val (x_callB call_isi T.n_isinstance (by decide +kernel) (n_isG (f := (optB Dep.isMvd)) (isT_O (isT_dep (f := Dep.isMvd) (typ_ins T.cl_Fd T.ci_Fd) (typ_ins T.cl_Mvd T.ci_Mvd) (typ_ins T.cl_Jd T.ci_Jd) (fun _ => T.ki_Fd_Mvd) (fun _ => T.ki_Mvd_Mvd) (fun _ => T.ki_Jd_Mvd)) T.kb_NoneType_Mvd) (.own _)) (ea_cons (x_var (i := 0) rfl) (ea_cons (x_cls T.gc_Mvd) ea_nil))))) (fun h1 => (w_one (t_not (t_val (x_callB call_isi T.n_isinstance (by decide +kernel) (n_isG (f := (optB Dep.isFd)) (isT_O (isT_dep (f := Dep.isFd) (typ_ins T.cl_Fd T.ci_Fd) (typ_ins T.cl_Mvd T.ci_Mvd) (typ_ins T.cl_Jd T.ci_Jd) (fun _ => T.ki_Fd_Fd) (fun _ => T.ki_Mvd_Fd) (fun _ => T.ki_Jd_Fd)) T.kb_NoneType_Fd) (.own _)) (ea_cons (x_var (i := 1) rfl) (ea_cons (x_cls T.gc_Fd) ea_nil))))) (.inr rfl))))) (fun h3 => ?_) (fun h4 => ?_)
  · try simp only [decide_eq_true_eq, decide_eq_false_iff_not, Bool.and_eq_true, Bool.or_eq_true, Bool.not_eq_true', Bool.not_eq_false', Bool.and_eq_false_iff, Bool.or_eq_false_iff] at h3
    exact sx_ret x_none ⟨⟨_, rfl⟩, fun h => h⟩
  try simp only [decide_eq_true_eq, decide_eq_false_iff_not, Bool.and_eq_true, Bool.or_eq_true, Bool.not_eq_true', Bool.not_eq_false', Bool.and_eq_false_iff, Bool.or_eq_false_iff] at h4
  refine f_ifr (P := (RetP (fun z : (Option Dep) => pu (tO (tDep K T.c_Fd T.c_Mvd T.c_Jd (tT K (tT K tI)))) z))) (t_w (w_and (t_val (x_callS (Ss := [pu (tQ K tI) (vsecond.getD default).sd.r, pu (tQ K tI) (vfirst.getD default).sd.r]) (S' := pu tB (m_is_within (vsecond.getD default).sd.r (vfirst.getD default).sd.r)) (ok_is_within T) (hr.mono (by decide)) T.g_is_within T.F_is_within.kp T.b_is_within ((vsecond.getD default).sd.r, (vfirst.getD default).sd.r) trivial (eas_cons (x_q saT (x_depFld (x_unO (d := default) (x_var (i := 1) rfl) (by /-1-/ decreasing_trivial)) (by /-2-/ decreasing_trivial) rfl T.cl_Fd T.na_Fd_right T.cl_Mvd T.na_Mvd_right)) (eas_cons (x_q saT (x_depFld (x_unO (d := default) (x_var (i := 0) rfl) (by /-3-/ decreasing_trivial)) (by /-4-/ decreasing_trivial) rfl T.cl_Fd T.na_Fd_right T.cl_Mvd T.na_Mvd_right)) eas_nil)) rfl rfl)) (fun h5 => (w_one (t_cmp (op_eqD hr.units) (nomark _) (o_eqD dI) (x_callB call_len T.n_len (by decide +kernel) (n_lenA saT) (ea_cons (x_callS (Ss := [pu (tT K tI) (vsecond.getD default).sd.l, pu (tT K tI) (vfirst.getD default).sd.r]) (S' := pu (tT K tI) (m_met (vsecond.getD default).sd.l (vfirst.getD default).sd.r)) (ok_met T) (hr.mono (by decide)) T.g_met T.F_met.kp T.b_met ((vsecond.getD default).sd.l, (vfirst.getD default).sd.r) trivial (eas_cons (x_depFld (x_unO (d := default) (x_var (i := 1) rfl) (by /-5-/ (try simp only [decide_eq_true_eq, decide_eq_false_iff_not, Bool.and_eq_true, Bool.or_eq_true, Bool.not_eq_true', Bool.not_eq_false'] at h5); decreasing_trivial)) (by /-6-/ (try simp only [decide_eq_true_eq, decide_eq_false_iff_not, Bool.and_eq_true, Bool.or_eq_true, Bool.not_eq_true', Bool.not_eq_false'] at h5); decreasing_trivial) rfl T.cl_Fd T.na_Fd_left T.cl_Mvd T.na_Mvd_left) (eas_cons (x_depFld (x_unO (d := default) (x_var (i := 0) rfl) (by /-7-/ (try simp only [decide_eq_true_eq, decide_eq_false_iff_not, Bool.and_eq_true, Bool.or_eq_true, Bool.not_eq_true', Bool.not_eq_false'] at h5); decreasing_trivial)) (by /-8-/ (try simp only [decide_eq_true_eq, decide_eq_false_iff_not, Bool.and_eq_true, Bool.or_eq_true, Bool.not_eq_true', Bool.not_eq_false'] at h5); decreasing_trivial) rfl T.cl_Fd T.na_Fd_right T.cl_Mvd T.na_Mvd_right) eas_nil)) rfl rfl) ea_nil)) x_int) (.inl rfl))))) (fun h7 => ?_) (fun h8 => ?_)
  · try simp only [decide_eq_true_eq, decide_eq_false_iff_not, Bool.and_eq_true, Bool.or_eq_true, Bool.not_eq_true', Bool.not_eq_false', Bool.and_eq_false_iff, Bool.or_eq_false_iff] at h7
    exact sx_ret (x_some nn_Dep (x_co co_dfd (x_makeI (fl := flSd K) (a := (mkSd (vfirst.getD default).sd.l (vsecond.getD default).sd.r)) (Ss := [pu (tQ K tI) (vfirst.getD default).sd.l, pu (tQ K tI) (vsecond.getD default).sd.r]) T.M_Fd (ok_Sides_init T T.c_Fd T.cl_Fd T.na_Fd_left T.na_Fd_right) (hr.mono (by decide)) T.gc_Fd T.b_Sides_init ((vfirst.getD default).sd.l, (vsecond.getD default).sd.r) (by /-13-/ decreasing_trivial) (ea_cons (x_q saT (x_depFld (x_unO (d := default) (x_var (i := 0) rfl) (by /-9-/ decreasing_trivial)) (by /-10-/ decreasing_trivial) rfl T.cl_Fd T.na_Fd_left T.cl_Mvd T.na_Mvd_left)) (ea_cons (x_q saT (x_depFld (x_unO (d := default) (x_var (i := 1) rfl) (by /-11-/ decreasing_trivial)) (by /-12-/ decreasing_trivial) rfl T.cl_Fd T.na_Fd_right T.cl_Mvd T.na_Mvd_right)) ea_nil)) rfl rfl rfl rfl))) ⟨⟨_, rfl⟩, fun h => h⟩
  try simp only [decide_eq_true_eq, decide_eq_false_iff_not, Bool.and_eq_true, Bool.or_eq_true, Bool.not_eq_true', Bool.not_eq_false', Bool.and_eq_false_iff, Bool.or_eq_false_iff] at h8
  exact sx_ret x_none ⟨_, rfl⟩
theorem ok_of_two (T : Tx K mg base) : FnOk P w K mg base CX0 5 T.a_of_two T.d_of_two ["first", "second", "word"] (spP (A := (Option Dep) × (Option Dep) × PySem.Str) (fun x => (DepCO 10 x.1 ∧ DepCO 10 x.2.1)) (fun x => [pu (tO (tDep K T.c_Fd T.c_Mvd T.c_Jd (tT K (tT K tI)))) x.1, pu (tO (tDep K T.c_Fd T.c_Mvd T.c_Jd (tT K (tT K tI)))) x.2.1, pu tS x.2.2]) (fun x => pu (tO (tDep K T.c_Fd T.c_Mvd T.c_Jd (tT K (tT K tI)))) (m_of_two x.1 x.2.1 x.2.2))) := by
  refine fn_ok T.F_of_two sc_of_two (fun _ => rfl) fun X x hX hr hpre => ?_
  obtain ⟨vfirst, vsecond, vword⟩ := x
  obtain ⟨cdv, A, outer, s, H, E, rfl⟩ := hX
  replace hpre : DepCO 10 vfirst ∧ DepCO 10 vsecond := hpre
  have hz1 : sizeLine = 16777216 := rfl
  have hz2 : scanBound = 4096 := rfl
  have hd1 := hpre.1
  have hd2 := hpre.2
  show SX _ _ [pu (tO (tDep K T.c_Fd T.c_Mvd T.c_Jd (tT K (tT K tI)))) vfirst, pu (tO (tDep K T.c_Fd T.c_Mvd T.c_Jd (tT K (tT K tI)))) vsecond, pu tS vword] _
  refine SX.imp (P := RetP (fun z : (Option Dep) => pu (tO (tDep K T.c_Fd T.c_Mvd T.c_Jd (tT K (tT K tI)))) z) (m_of_two vfirst vsecond vword)) ?_ fun r h => .inl h
  unfold m_of_two
  refine f_ifr (P := (RetP (fun z : (Option Dep) => pu (tO (tDep K T.c_Fd T.c_Mvd T.c_Jd (tT K (tT K tI)))) z))) (t_cmp op_eq (nomark _) o_eqS (x_var (i := 2) rfl) x_str) (fun h1 => ?_) (fun h2 => ?_)
  · try simp only [decide_eq_true_eq, decide_eq_false_iff_not, Bool.and_eq_true, Bool.or_eq_true, Bool.not_eq_true', Bool.not_eq_false', Bool.and_eq_false_iff, Bool.or_eq_false_iff] at h1
    exact sx_ret (x_callS (Ss := [pu (tO (tDep K T.c_Fd T.c_Mvd T.c_Jd (tT K (tT K tI)))) vfirst, pu (tO (tDep K T.c_Fd T.c_Mvd T.c_Jd (tT K (tT K tI)))) vsecond]) (S' := pu (tO (tDep K T.c_Fd T.c_Mvd T.c_Jd (tT K (tT K tI)))) (m_by_through vfirst vsecond)) (ok_by_through T) (hr.mono (by decide)) T.g_by_through T.F_by_through.kp T.b_by_through (vfirst, vsecond) (by /-1-/ decreasing_trivial) (eas_cons (x_var (i := 0) rfl) (eas_cons (x_var (i := 1) rfl) eas_nil)) rfl rfl) ⟨⟨_, rfl⟩, fun h => h⟩
  try simp only [decide_eq_true_eq, decide_eq_false_iff_not, Bool.and_eq_true, Bool.or_eq_true, Bool.not_eq_true', Bool.not_eq_false', Bool.and_eq_false_iff, Bool.or_eq_false_iff] at h2
  refine f_ifr (P := (RetP (fun z : (Option Dep) => pu (tO (tDep K T.c_Fd T.c_Mvd T.c_Jd (tT K (tT K tI)))) z))) (t_cmp op_eq (nomark _) o_eqS (x_var (i := 2) rfl) x_str) (fun h3 => ?_) (fun h4 => ?_)
  · try simp only [decide_eq_true_eq, decide_eq_false_iff_not, Bool.and_eq_true, Bool.or_eq_true, Bool.not_eq_true', Bool.not_eq_false', Bool.and_eq_false_iff, Bool.or_eq_false_iff] at h3
    exact sx_ret (x_callS (Ss := [pu (tO (tDep K T.c_Fd T.c_Mvd T.c_Jd (tT K (tT K tI)))) vfirst, pu (tO (tDep K T.c_Fd T.c_Mvd T.c_Jd (tT K (tT K tI)))) vsecond]) (S' := pu (tO (tDep K T.c_Fd T.c_Mvd T.c_Jd (tT K (tT K tI)))) (m_by_beyond vfirst vsecond)) (ok_by_beyond T) (hr.mono (by decide)) T.g_by_beyond T.F_by_beyond.kp T.b_by_beyond (vfirst, vsecond) (by /-2-/ decreasing_trivial) (eas_cons (x_var (i := 0) rfl) (eas_cons (x_var (i := 1) rfl) eas_nil)) rfl rfl) ⟨⟨_, rfl⟩, fun h => h⟩
  try simp only [decide_eq_true_eq, decide_eq_false_iff_not, Bool.and_eq_true, Bool.or_eq_true, Bool.not_eq_true', Bool.not_eq_false', Bool.and_eq_false_iff, Bool.or_eq_false_iff] at h4
  exact sx_ret (x_callS (Ss := [pu (tO (tDep K T.c_Fd T.c_Mvd T.c_Jd (tT K (tT K tI)))) vfirst, pu (tO (tDep K T.c_Fd T.c_Mvd T.c_Jd (tT K (tT K tI)))) vsecond]) (S' := pu (tO (tDep K T.c_Fd T.c_Mvd T.c_Jd (tT K (tT K tI)))) (m_by_meets vfirst vsecond)) (ok_by_meets T) (hr.mono (by decide)) T.g_by_meets T.F_by_meets.kp T.b_by_meets (vfirst, vsecond) (by /-3-/ decreasing_trivial) (eas_cons (x_var (i := 0) rfl) (eas_cons (x_var (i := 1) rfl) eas_nil)) rfl rfl) ⟨_, rfl⟩
theorem ok_united (T : Tx K mg base) : FnOk P w K mg base CX0 2 T.a_united T.d_united ["a", "b"] (spP (A := (List Int) × (List Int)) (fun x => (x.1.length + x.2.length < 64)) (fun x => [pu (tQ K tI) x.1, pu (tQ K tI) x.2]) (fun x => pu (tT K tI) (m_united x.1 x.2))) := by
  refine fn_ok T.F_united sc_united (fun _ => rfl) fun X x hX hr hpre => ?_
  obtain ⟨va, vb⟩ := x
  obtain ⟨cdv, A, outer, s, H, E, rfl⟩ := hX
  replace hpre : va.length + vb.length < 64 := hpre
  have hz1 : sizeLine = 16777216 := rfl
  have hz2 : scanBound = 4096 := rfl
  show SX _ _ [pu (tQ K tI) va, pu (tQ K tI) vb] _
  refine SX.imp (P := RetP (fun z : (List Int) => pu (tT K tI) z) (m_united va vb)) ?_ fun r h => .inl h
  unfold m_united
  exact sx_ret (x_callS (Ss := [pu (tQ K tI) (va ++ vb)]) (S' := pu (tT K tI) (m_as_set (va ++ vb))) (ok_as_set T) (hr.mono (by decide)) T.g_as_set T.F_as_set.kp T.b_as_set (va ++ vb) (by /-2-/ (try dsimp only); (try simp only [InIx, CDiv, CMul, CPow, List.length_append, List.length_cons, List.length_nil, List.length_singleton, List.length_map, List.length_reverse, List.length_take, List.length_drop]) <;> first | assumption | omega | decide) (eas_cons (x_q saLs (x_frz (x_catLO (x_frz (x_callT call_list_of T.n_list (by decide +kernel) (n_listOf saQ) (ea_cons (x_var (i := 0) rfl) ea_nil))) (x_frz (x_callT call_list_of T.n_list (by decide +kernel) (n_listOf saQ) (ea_cons (x_var (i := 1) rfl) ea_nil))) (by /-1-/ (try dsimp only); (try simp only [InIx, CDiv, CMul, CPow, List.length_append, List.length_cons, List.length_nil, List.length_singleton, List.length_map, List.length_reverse, List.length_take, List.length_drop]) <;> first | assumption | omega | decide)))) eas_nil) rfl rfl) ⟨_, rfl⟩
theorem ok_by_with (T : Tx K mg base) : FnOk P w K mg base CX0 4 T.a_by_with T.d_by_with ["count", "first", "columns"] (spP (A := Int × (Option Dep) × (List Int)) (fun x => (x.2.2.length ≤ 12 ∧ 0 ≤ x.1 ∧ x.1 ≤ 10 ∧ DepCO 10 x.2.1)) (fun x => [pu tI x.1, pu (tO (tDep K T.c_Fd T.c_Mvd T.c_Jd (tT K (tT K tI)))) x.2.1, pu (tT K tI) x.2.2]) (fun x => pu (tO (tDep K T.c_Fd T.c_Mvd T.c_Jd (tT K (tT K tI)))) (m_by_with x.1 x.2.1 x.2.2))) := by
  refine fn_ok T.F_by_with sc_by_with (fun _ => rfl) fun X x hX hr hpre => ?_
  obtain ⟨vcount, vfirst, vcolumns⟩ := x
  obtain ⟨cdv, A, outer, s, H, E, rfl⟩ := hX
  replace hpre : vcolumns.length ≤ 12 ∧ 0 ≤ vcount ∧ vcount ≤ 10 ∧ DepCO 10 vfirst := hpre
  have hz1 : sizeLine = 16777216 := rfl
  have hz2 : scanBound = 4096 := rfl
  have hl := hpre.2.2.2.len
  have hu1 := m_united_len (vfirst.getD default).sd.l vcolumns
  have hu2 := m_united_len (vfirst.getD default).sd.r vcolumns
  show SX _ _ [pu tI vcount, pu (tO (tDep K T.c_Fd T.c_Mvd T.c_Jd (tT K (tT K tI)))) vfirst, pu (tT K tI) vcolumns] _
  refine SX.imp (P := RetP (fun z : (Option Dep) => pu (tO (tDep K T.c_Fd T.c_Mvd T.c_Jd (tT K (tT K tI)))) z) (m_by_with vcount vfirst vcolumns)) ?_ fun r h => .inl h
  unfold m_by_with
  refine f_ifr (P := (RetP (fun z : (Option Dep) => pu (tO (tDep K T.c_Fd T.c_Mvd T.c_Jd (tT K (tT K tI)))) z))) (t_w (w_and (t_val (x_callB call_isi T.n_isinstance (by decide +kernel) (n_isG (f := (optB Dep.isFd)) (isT_O (isT_dep (f := Dep.isFd) (typ_ins T.cl_Fd T.ci_Fd) (typ_ins T.cl_Mvd T.ci_Mvd) (typ_ins T.cl_Jd T.ci_Jd) (fun _ => T.ki_Fd_Fd) (fun _ => T.ki_Mvd_Fd) (fun _ => T.ki_Jd_Fd)) T.kb_NoneType_Fd) (.own _)) (ea_cons (x_var (i := 1) rfl) (ea_cons (x_cls T.gc_Fd) ea_nil)))) (fun h1 => (w_one (t_val (x_callS (Ss := [pu (tT K tI) vcolumns, pu tI vcount]) (S' := pu tB (m_is_set vcolumns vcount)) (ok_is_set T) (hr.mono (by decide)) T.g_is_set T.F_is_set.kp T.b_is_set (vcolumns, vcount) (by /-1-/ (try simp only [decide_eq_true_eq, decide_eq_false_iff_not, Bool.and_eq_true, Bool.or_eq_true, Bool.not_eq_true', Bool.not_eq_false'] at h1); decreasing_trivial) (eas_cons (x_var (i := 2) rfl) (eas_cons (x_var (i := 0) rfl) eas_nil)) rfl rfl)) (.inl rfl))))) (fun h3 => ?_) (fun h4 => ?_)
  · try simp only [decide_eq_true_eq, decide_eq_false_iff_not, Bool.and_eq_true, Bool.or_eq_true, Bool.not_eq_true', Bool.not_eq_false', Bool.and_eq_false_iff, Bool.or_eq_false_iff] at h3
    exact sx_ret (x_some nn_Dep (x_co co_dfd (x_makeI (fl := flSd K) (a := (mkSd (m_united (vfirst.getD default).sd.l vcolumns) (m_united (vfirst.getD default).sd.r vcolumns))) (Ss := [pu (tQ K tI) (m_united (vfirst.getD default).sd.l vcolumns), pu (tQ K tI) (m_united (vfirst.getD default).sd.r vcolumns)]) T.M_Fd (ok_Sides_init T T.c_Fd T.cl_Fd T.na_Fd_left T.na_Fd_right) (hr.mono (by decide)) T.gc_Fd T.b_Sides_init ((m_united (vfirst.getD default).sd.l vcolumns), (m_united (vfirst.getD default).sd.r vcolumns)) (by /-8-/ decreasing_trivial) (ea_cons (x_q saT (x_callS (Ss := [pu (tQ K tI) (vfirst.getD default).sd.l, pu (tQ K tI) vcolumns]) (S' := pu (tT K tI) (m_united (vfirst.getD default).sd.l vcolumns)) (ok_united T) (hr.mono (by decide)) T.g_united T.F_united.kp T.b_united ((vfirst.getD default).sd.l, vcolumns) (by /-4-/ decreasing_trivial) (eas_cons (x_q saT (x_depFld (x_unO (d := default) (x_var (i := 1) rfl) (by /-2-/ decreasing_trivial)) (by /-3-/ decreasing_trivial) rfl T.cl_Fd T.na_Fd_left T.cl_Mvd T.na_Mvd_left)) (eas_cons (x_q saT (x_var (i := 2) rfl)) eas_nil)) rfl rfl)) (ea_cons (x_q saT (x_callS (Ss := [pu (tQ K tI) (vfirst.getD default).sd.r, pu (tQ K tI) vcolumns]) (S' := pu (tT K tI) (m_united (vfirst.getD default).sd.r vcolumns)) (ok_united T) (hr.mono (by decide)) T.g_united T.F_united.kp T.b_united ((vfirst.getD default).sd.r, vcolumns) (by /-7-/ decreasing_trivial) (eas_cons (x_q saT (x_depFld (x_unO (d := default) (x_var (i := 1) rfl) (by /-5-/ decreasing_trivial)) (by /-6-/ decreasing_trivial) rfl T.cl_Fd T.na_Fd_right T.cl_Mvd T.na_Mvd_right)) (eas_cons (x_q saT (x_var (i := 2) rfl)) eas_nil)) rfl rfl)) ea_nil)) rfl rfl rfl rfl))) ⟨⟨_, rfl⟩, fun h => h⟩
  try simp only [decide_eq_true_eq, decide_eq_false_iff_not, Bool.and_eq_true, Bool.or_eq_true, Bool.not_eq_true', Bool.not_eq_false', Bool.and_eq_false_iff, Bool.or_eq_false_iff] at h4
  exact sx_ret x_none ⟨_, rfl⟩
theorem ok_by_also (T : Tx K mg base) : FnOk P w K mg base CX0 4 T.a_by_also T.d_by_also ["first"] (spP (A := (Option Dep)) (fun x => (DepCO 10 x)) (fun x => [pu (tO (tDep K T.c_Fd T.c_Mvd T.c_Jd (tT K (tT K tI)))) x]) (fun x => pu (tO (tDep K T.c_Fd T.c_Mvd T.c_Jd (tT K (tT K tI)))) (m_by_also x))) := by
  refine fn_ok T.F_by_also sc_by_also (fun _ => rfl) fun X vfirst hX hr hpre => ?_
  obtain ⟨cdv, A, outer, s, H, E, rfl⟩ := hX
  replace hpre : DepCO 10 vfirst := hpre
  have hz1 : sizeLine = 16777216 := rfl
  have hz2 : scanBound = 4096 := rfl
  have hl := hpre.len
  show SX _ _ [pu (tO (tDep K T.c_Fd T.c_Mvd T.c_Jd (tT K (tT K tI)))) vfirst] _
  refine SX.imp (P := RetP (fun z : (Option Dep) => pu (tO (tDep K T.c_Fd T.c_Mvd T.c_Jd (tT K (tT K tI)))) z) (m_by_also vfirst)) ?_ fun r h => .inl h
  unfold m_by_also
  refine f_ifr (P := (RetP (fun z : (Option Dep) => pu (tO (tDep K T.c_Fd T.c_Mvd T.c_Jd (tT K (tT K tI)))) z))) (t_val (x_callB call_isi T.n_isinstance (by decide +kernel) (n_isG (f := (optB Dep.isFd)) (isT_O (isT_dep (f := Dep.isFd) (typ_ins T.cl_Fd T.ci_Fd) (typ_ins T.cl_Mvd T.ci_Mvd) (typ_ins T.cl_Jd T.ci_Jd) (fun _ => T.ki_Fd_Fd) (fun _ => T.ki_Mvd_Fd) (fun _ => T.ki_Jd_Fd)) T.kb_NoneType_Fd) (.own _)) (ea_cons (x_var (i := 0) rfl) (ea_cons (x_cls T.gc_Fd) ea_nil)))) (fun h1 => ?_) (fun h2 => ?_)
  · try simp only [decide_eq_true_eq, decide_eq_false_iff_not, Bool.and_eq_true, Bool.or_eq_true, Bool.not_eq_true', Bool.not_eq_false', Bool.and_eq_false_iff, Bool.or_eq_false_iff] at h1
    exact sx_ret (x_some nn_Dep (x_co co_dmvd (x_makeI (fl := flSd K) (a := (mkSd (vfirst.getD default).sd.l (vfirst.getD default).sd.r)) (Ss := [pu (tQ K tI) (vfirst.getD default).sd.l, pu (tQ K tI) (vfirst.getD default).sd.r]) T.M_Mvd (ok_Sides_init T T.c_Mvd T.cl_Mvd T.na_Mvd_left T.na_Mvd_right) (hr.mono (by decide)) T.gc_Mvd T.b_Sides_init ((vfirst.getD default).sd.l, (vfirst.getD default).sd.r) (by /-5-/ decreasing_trivial) (ea_cons (x_q saT (x_depFld (x_unO (d := default) (x_var (i := 0) rfl) (by /-1-/ decreasing_trivial)) (by /-2-/ decreasing_trivial) rfl T.cl_Fd T.na_Fd_left T.cl_Mvd T.na_Mvd_left)) (ea_cons (x_q saT (x_depFld (x_unO (d := default) (x_var (i := 0) rfl) (by /-3-/ decreasing_trivial)) (by /-4-/ decreasing_trivial) rfl T.cl_Fd T.na_Fd_right T.cl_Mvd T.na_Mvd_right)) ea_nil)) rfl rfl rfl rfl))) ⟨⟨_, rfl⟩, fun h => h⟩
  try simp only [decide_eq_true_eq, decide_eq_false_iff_not, Bool.and_eq_true, Bool.or_eq_true, Bool.not_eq_true', Bool.not_eq_false', Bool.and_eq_false_iff, Bool.or_eq_false_iff] at h2
  exact sx_ret x_none ⟨_, rfl⟩
theorem ok_by_other (T : Tx K mg base) : FnOk P w K mg base CX0 4 T.a_by_other T.d_by_other ["count", "first"] (spP (A := Int × (Option Dep)) (fun x => (0 ≤ x.1 ∧ x.1 ≤ 10 ∧ DepCO 10 x.2)) (fun x => [pu tI x.1, pu (tO (tDep K T.c_Fd T.c_Mvd T.c_Jd (tT K (tT K tI)))) x.2]) (fun x => pu (tO (tDep K T.c_Fd T.c_Mvd T.c_Jd (tT K (tT K tI)))) (m_by_other x.1 x.2))) := by
  refine fn_ok T.F_by_other sc_by_other (fun _ => rfl) fun X x hX hr hpre => ?_
  obtain ⟨vcount, vfirst⟩ := x
  obtain ⟨cdv, A, outer, s, H, E, rfl⟩ := hX
  replace hpre : 0 ≤ vcount ∧ vcount ≤ 10 ∧ DepCO 10 vfirst := hpre
  have hz1 : sizeLine = 16777216 := rfl
  have hz2 : scanBound = 4096 := rfl
  have hl := hpre.2.2.len
  have hu1 := m_united_len (vfirst.getD default).sd.l (vfirst.getD default).sd.r
  have hw := whole_len hpre.2.1
  have hs := less_len (m_whole vcount) (m_united (vfirst.getD default).sd.l (vfirst.getD default).sd.r)
  show SX _ _ [pu tI vcount, pu (tO (tDep K T.c_Fd T.c_Mvd T.c_Jd (tT K (tT K tI)))) vfirst] _
  refine SX.imp (P := RetP (fun z : (Option Dep) => pu (tO (tDep K T.c_Fd T.c_Mvd T.c_Jd (tT K (tT K tI)))) z) (m_by_other vcount vfirst)) ?_ fun r h => .inl h
  unfold m_by_other
  refine f_ifr (P := (RetP (fun z : (Option Dep) => pu (tO (tDep K T.c_Fd T.c_Mvd T.c_Jd (tT K (tT K tI)))) z))) (t_val (x_callB call_isi T.n_isinstance (by decide +kernel) (n_isG (f := (optB Dep.isMvd)) (isT_O (isT_dep (f := Dep.isMvd) (typ_ins T.cl_Fd T.ci_Fd) (typ_ins T.cl_Mvd T.ci_Mvd) (typ_ins T.cl_Jd T.ci_Jd) (fun _ => T.ki_Fd_Mvd) (fun _ => T.ki_Mvd_Mvd) (fun _ => T.ki_Jd_Mvd)) T.kb_NoneType_Mvd) (.own _)) (ea_cons (x_var (i := 1) rfl) (ea_cons (x_cls T.gc_Mvd) ea_nil)))) (fun h1 => ?_) (fun h2 => ?_)
  · try simp only [decide_eq_true_eq, decide_eq_false_iff_not, Bool.and_eq_true, Bool.or_eq_true, Bool.not_eq_true', Bool.not_eq_false', Bool.and_eq_false_iff, Bool.or_eq_false_iff] at h1
    exact sx_ret (x_some nn_Dep (x_co co_dmvd (x_makeI (fl := flSd K) (a := (mkSd (vfirst.getD default).sd.l (m_less (m_whole vcount) (m_united (vfirst.getD default).sd.l (vfirst.getD default).sd.r)))) (Ss := [pu (tQ K tI) (vfirst.getD default).sd.l, pu (tQ K tI) (m_less (m_whole vcount) (m_united (vfirst.getD default).sd.l (vfirst.getD default).sd.r))]) T.M_Mvd (ok_Sides_init T T.c_Mvd T.cl_Mvd T.na_Mvd_left T.na_Mvd_right) (hr.mono (by decide)) T.gc_Mvd T.b_Sides_init ((vfirst.getD default).sd.l, (m_less (m_whole vcount) (m_united (vfirst.getD default).sd.l (vfirst.getD default).sd.r))) (by /-9-/ decreasing_trivial) (ea_cons (x_q saT (x_depFld (x_unO (d := default) (x_var (i := 1) rfl) (by /-1-/ decreasing_trivial)) (by /-2-/ decreasing_trivial) rfl T.cl_Fd T.na_Fd_left T.cl_Mvd T.na_Mvd_left)) (ea_cons (x_q saT (x_callS (Ss := [pu (tT K tI) (m_whole vcount), pu (tT K tI) (m_united (vfirst.getD default).sd.l (vfirst.getD default).sd.r)]) (S' := pu (tT K tI) (m_less (m_whole vcount) (m_united (vfirst.getD default).sd.l (vfirst.getD default).sd.r))) (ok_less T) (hr.mono (by decide)) T.g_less T.F_less.kp T.b_less ((m_whole vcount), (m_united (vfirst.getD default).sd.l (vfirst.getD default).sd.r)) trivial (eas_cons (x_callS (Ss := [pu tI vcount]) (S' := pu (tT K tI) (m_whole vcount)) (ok_whole T) (hr.mono (by decide)) T.g_whole T.F_whole.kp T.b_whole vcount (by /-3-/ decreasing_trivial) (eas_cons (x_var (i := 0) rfl) eas_nil) rfl rfl) (eas_cons (x_callS (Ss := [pu (tQ K tI) (vfirst.getD default).sd.l, pu (tQ K tI) (vfirst.getD default).sd.r]) (S' := pu (tT K tI) (m_united (vfirst.getD default).sd.l (vfirst.getD default).sd.r)) (ok_united T) (hr.mono (by decide)) T.g_united T.F_united.kp T.b_united ((vfirst.getD default).sd.l, (vfirst.getD default).sd.r) (by /-8-/ decreasing_trivial) (eas_cons (x_q saT (x_depFld (x_unO (d := default) (x_var (i := 1) rfl) (by /-4-/ decreasing_trivial)) (by /-5-/ decreasing_trivial) rfl T.cl_Fd T.na_Fd_left T.cl_Mvd T.na_Mvd_left)) (eas_cons (x_q saT (x_depFld (x_unO (d := default) (x_var (i := 1) rfl) (by /-6-/ decreasing_trivial)) (by /-7-/ decreasing_trivial) rfl T.cl_Fd T.na_Fd_right T.cl_Mvd T.na_Mvd_right)) eas_nil)) rfl rfl) eas_nil)) rfl rfl)) ea_nil)) rfl rfl rfl rfl))) ⟨⟨_, rfl⟩, fun h => h⟩
  try simp only [decide_eq_true_eq, decide_eq_false_iff_not, Bool.and_eq_true, Bool.or_eq_true, Bool.not_eq_true', Bool.not_eq_false', Bool.and_eq_false_iff, Bool.or_eq_false_iff] at h2
  exact sx_ret x_none ⟨_, rfl⟩
theorem ok_by_wide (T : Tx K mg base) : FnOk P w K mg base CX0 4 T.a_by_wide T.d_by_wide ["count", "first", "columns", "some"] (spP (A := Int × (Option Dep) × (List Int) × (List Int)) (fun x => (x.2.2.1.length ≤ 12 ∧ x.2.2.2.length ≤ 12 ∧ 0 ≤ x.1 ∧ x.1 ≤ 10 ∧ DepCO 10 x.2.1)) (fun x => [pu tI x.1, pu (tO (tDep K T.c_Fd T.c_Mvd T.c_Jd (tT K (tT K tI)))) x.2.1, pu (tT K tI) x.2.2.1, pu (tT K tI) x.2.2.2]) (fun x => pu (tO (tDep K T.c_Fd T.c_Mvd T.c_Jd (tT K (tT K tI)))) (m_by_wide x.1 x.2.1 x.2.2.1 x.2.2.2))) := by
  refine fn_ok T.F_by_wide sc_by_wide (fun _ => rfl) fun X x hX hr hpre => ?_
  obtain ⟨vcount, vfirst, vcolumns, vsome⟩ := x
  obtain ⟨cdv, A, outer, s, H, E, rfl⟩ := hX
  replace hpre : vcolumns.length ≤ 12 ∧ vsome.length ≤ 12 ∧ 0 ≤ vcount ∧ vcount ≤ 10 ∧ DepCO 10 vfirst := hpre
  have hz1 : sizeLine = 16777216 := rfl
  have hz2 : scanBound = 4096 := rfl
  have hl := hpre.2.2.2.2.len
  have hu1 := m_united_len (vfirst.getD default).sd.l vcolumns
  have hu2 := m_united_len (vfirst.getD default).sd.r vsome
  show SX _ _ [pu tI vcount, pu (tO (tDep K T.c_Fd T.c_Mvd T.c_Jd (tT K (tT K tI)))) vfirst, pu (tT K tI) vcolumns, pu (tT K tI) vsome] _
  refine SX.imp (P := RetP (fun z : (Option Dep) => pu (tO (tDep K T.c_Fd T.c_Mvd T.c_Jd (tT K (tT K tI)))) z) (m_by_wide vcount vfirst vcolumns vsome)) ?_ fun r h => .inl h
  unfold m_by_wide
  refine f_ifr (P := (RetP (fun z : (Option Dep) => pu (tO (tDep K T.c_Fd T.c_Mvd T.c_Jd (tT K (tT K tI)))) z))) (t_w (w_or (t_not (t_val (x_callS (Ss := [pu (tT K tI) vcolumns, pu tI vcount]) (S' := pu tB (m_is_set vcolumns vcount)) (ok_is_set T) (hr.mono (by decide)) T.g_is_set T.F_is_set.kp T.b_is_set (vcolumns, vcount) (by /-1-/ decreasing_trivial) (eas_cons (x_var (i := 2) rfl) (eas_cons (x_var (i := 0) rfl) eas_nil)) rfl rfl))) (fun h1 => (w_one (t_not (t_val (x_callS (Ss := [pu (tT K tI) vsome, pu tI vcount]) (S' := pu tB (m_is_set vsome vcount)) (ok_is_set T) (hr.mono (by decide)) T.g_is_set T.F_is_set.kp T.b_is_set (vsome, vcount) (by /-2-/ (try simp only [decide_eq_true_eq, decide_eq_false_iff_not, Bool.and_eq_true, Bool.or_eq_true, Bool.not_eq_true', Bool.not_eq_false'] at h1); decreasing_trivial) (eas_cons (x_var (i := 3) rfl) (eas_cons (x_var (i := 0) rfl) eas_nil)) rfl rfl))) (.inr rfl))))) (fun h3 => ?_) (fun h4 => ?_)
  · try simp only [decide_eq_true_eq, decide_eq_false_iff_not, Bool.and_eq_true, Bool.or_eq_true, Bool.not_eq_true', Bool.not_eq_false', Bool.and_eq_false_iff, Bool.or_eq_false_iff] at h3
    exact sx_ret x_none ⟨⟨_, rfl⟩, fun h => h⟩
  try simp only [decide_eq_true_eq, decide_eq_false_iff_not, Bool.and_eq_true, Bool.or_eq_true, Bool.not_eq_true', Bool.not_eq_false', Bool.and_eq_false_iff, Bool.or_eq_false_iff] at h4
  refine f_ifr (P := (RetP (fun z : (Option Dep) => pu (tO (tDep K T.c_Fd T.c_Mvd T.c_Jd (tT K (tT K tI)))) z))) (t_w (w_and (t_val (x_callB call_isi T.n_isinstance (by decide +kernel) (n_isG (f := (optB Dep.isMvd)) (isT_O (isT_dep (f := Dep.isMvd) (typ_ins T.cl_Fd T.ci_Fd) (typ_ins T.cl_Mvd T.ci_Mvd) (typ_ins T.cl_Jd T.ci_Jd) (fun _ => T.ki_Fd_Mvd) (fun _ => T.ki_Mvd_Mvd) (fun _ => T.ki_Jd_Mvd)) T.kb_NoneType_Mvd) (.own _)) (ea_cons (x_var (i := 1) rfl) (ea_cons (x_cls T.gc_Mvd) ea_nil)))) (fun h5 => (w_one (t_val (x_callS (Ss := [pu (tQ K tI) vsome, pu (tQ K tI) vcolumns]) (S' := pu tB (m_is_within vsome vcolumns)) (ok_is_within T) (hr.mono (by decide)) T.g_is_within T.F_is_within.kp T.b_is_within (vsome, vcolumns) trivial (eas_cons (x_q saT (x_var (i := 3) rfl)) (eas_cons (x_q saT (x_var (i := 2) rfl)) eas_nil)) rfl rfl)) (.inl rfl))))) (fun h7 => ?_) (fun h8 => ?_)
  · try simp only [decide_eq_true_eq, decide_eq_false_iff_not, Bool.and_eq_true, Bool.or_eq_true, Bool.not_eq_true', Bool.not_eq_false', Bool.and_eq_false_iff, Bool.or_eq_false_iff] at h7
    exact sx_ret (x_some nn_Dep (x_co co_dmvd (x_makeI (fl := flSd K) (a := (mkSd (m_united (vfirst.getD default).sd.l vcolumns) (m_united (vfirst.getD default).sd.r vsome))) (Ss := [pu (tQ K tI) (m_united (vfirst.getD default).sd.l vcolumns), pu (tQ K tI) (m_united (vfirst.getD default).sd.r vsome)]) T.M_Mvd (ok_Sides_init T T.c_Mvd T.cl_Mvd T.na_Mvd_left T.na_Mvd_right) (hr.mono (by decide)) T.gc_Mvd T.b_Sides_init ((m_united (vfirst.getD default).sd.l vcolumns), (m_united (vfirst.getD default).sd.r vsome)) (by /-9-/ decreasing_trivial) (ea_cons (x_q saT (x_callS (Ss := [pu (tQ K tI) (vfirst.getD default).sd.l, pu (tQ K tI) vcolumns]) (S' := pu (tT K tI) (m_united (vfirst.getD default).sd.l vcolumns)) (ok_united T) (hr.mono (by decide)) T.g_united T.F_united.kp T.b_united ((vfirst.getD default).sd.l, vcolumns) (by /-5-/ decreasing_trivial) (eas_cons (x_q saT (x_depFld (x_unO (d := default) (x_var (i := 1) rfl) (by /-3-/ decreasing_trivial)) (by /-4-/ decreasing_trivial) rfl T.cl_Fd T.na_Fd_left T.cl_Mvd T.na_Mvd_left)) (eas_cons (x_q saT (x_var (i := 2) rfl)) eas_nil)) rfl rfl)) (ea_cons (x_q saT (x_callS (Ss := [pu (tQ K tI) (vfirst.getD default).sd.r, pu (tQ K tI) vsome]) (S' := pu (tT K tI) (m_united (vfirst.getD default).sd.r vsome)) (ok_united T) (hr.mono (by decide)) T.g_united T.F_united.kp T.b_united ((vfirst.getD default).sd.r, vsome) (by /-8-/ decreasing_trivial) (eas_cons (x_q saT (x_depFld (x_unO (d := default) (x_var (i := 1) rfl) (by /-6-/ decreasing_trivial)) (by /-7-/ decreasing_trivial) rfl T.cl_Fd T.na_Fd_right T.cl_Mvd T.na_Mvd_right)) (eas_cons (x_q saT (x_var (i := 3) rfl)) eas_nil)) rfl rfl)) ea_nil)) rfl rfl rfl rfl))) ⟨⟨_, rfl⟩, fun h => h⟩
  try simp only [decide_eq_true_eq, decide_eq_false_iff_not, Bool.and_eq_true, Bool.or_eq_true, Bool.not_eq_true', Bool.not_eq_false', Bool.and_eq_false_iff, Bool.or_eq_false_iff] at h8
  exact sx_ret x_none ⟨_, rfl⟩
theorem ok_of_one (T : Tx K mg base) : FnOk P w K mg base CX0 5 T.a_of_one T.d_of_one ["count", "first", "row"] (spP (A := Int × (Option Dep) × (List FV)) (fun x => (0 ≤ x.1 ∧ x.1 ≤ 10 ∧ DepCO 10 x.2.1 ∧ RowOk 12 x.2.2 ∧ RowOne x.2.2)) (fun x => [pu tI x.1, pu (tO (tDep K T.c_Fd T.c_Mvd T.c_Jd (tT K (tT K tI)))) x.2.1, pu (tT K (tF K)) x.2.2]) (fun x => pu (tO (tDep K T.c_Fd T.c_Mvd T.c_Jd (tT K (tT K tI)))) (m_of_one x.1 x.2.1 x.2.2))) := by
  refine fn_ok T.F_of_one sc_of_one (fun _ => rfl) fun X x hX hr hpre => ?_
  obtain ⟨vcount, vfirst, vrow⟩ := x
  obtain ⟨cdv, A, outer, s, H, E, rfl⟩ := hX
  replace hpre : 0 ≤ vcount ∧ vcount ≤ 10 ∧ DepCO 10 vfirst ∧ RowOk 12 vrow ∧ RowOne vrow := hpre
  have hz1 : sizeLine = 16777216 := rfl
  have hz2 : scanBound = 4096 := rfl
  have hd := hpre.2.2.1
  have hrow := hpre.2.2.2.1
  have hone := hpre.2.2.2.2
  have hlens := hrow.lens
  show SX _ _ [pu tI vcount, pu (tO (tDep K T.c_Fd T.c_Mvd T.c_Jd (tT K (tT K tI)))) vfirst, pu (tT K (tF K)) vrow] _
  refine SX.imp (P := RetP (fun z : (Option Dep) => pu (tO (tDep K T.c_Fd T.c_Mvd T.c_Jd (tT K (tT K tI)))) z) (m_of_one vcount vfirst vrow)) ?_ fun r h => .inl h
  unfold m_of_one
  refine f_ifr (P := (RetP (fun z : (Option Dep) => pu (tO (tDep K T.c_Fd T.c_Mvd T.c_Jd (tT K (tT K tI)))) z))) (t_cmp op_eq (nomark _) o_eqS (x_co (co_gS (by /-2-/ decreasing_trivial)) (x_ix ix_tup (o_ixT sqT (by /-1-/ decreasing_trivial)) (x_var (i := 2) rfl) x_int)) x_str) (fun h1 => ?_) (fun h2 => ?_)
  · try simp only [decide_eq_true_eq, decide_eq_false_iff_not, Bool.and_eq_true, Bool.or_eq_true, Bool.not_eq_true', Bool.not_eq_false', Bool.and_eq_false_iff, Bool.or_eq_false_iff] at h1
    exact sx_ret (x_callS (Ss := [pu tI vcount, pu (tO (tDep K T.c_Fd T.c_Mvd T.c_Jd (tT K (tT K tI)))) vfirst, pu (tT K tI) (ix vrow (2 : Int)).gT]) (S' := pu (tO (tDep K T.c_Fd T.c_Mvd T.c_Jd (tT K (tT K tI)))) (m_by_with vcount vfirst (ix vrow (2 : Int)).gT)) (ok_by_with T) (hr.mono (by decide)) T.g_by_with T.F_by_with.kp T.b_by_with (vcount, vfirst, (ix vrow (2 : Int)).gT) (by exact ⟨hlens.2.1, hpre.1, hpre.2.1, hd⟩) (eas_cons (x_var (i := 0) rfl) (eas_cons (x_var (i := 1) rfl) (eas_cons (x_co (co_gT (by /-4-/ decreasing_trivial)) (x_ix ix_tup (o_ixT sqT (by /-3-/ decreasing_trivial)) (x_var (i := 2) rfl) x_int)) eas_nil))) rfl rfl) ⟨⟨_, rfl⟩, fun h => h⟩
  try simp only [decide_eq_true_eq, decide_eq_false_iff_not, Bool.and_eq_true, Bool.or_eq_true, Bool.not_eq_true', Bool.not_eq_false', Bool.and_eq_false_iff, Bool.or_eq_false_iff] at h2
  refine f_ifr (P := (RetP (fun z : (Option Dep) => pu (tO (tDep K T.c_Fd T.c_Mvd T.c_Jd (tT K (tT K tI)))) z))) (t_cmp op_eq (nomark _) o_eqS (x_co (co_gS (by /-7-/ decreasing_trivial)) (x_ix ix_tup (o_ixT sqT (by /-6-/ decreasing_trivial)) (x_var (i := 2) rfl) x_int)) x_str) (fun h3 => ?_) (fun h4 => ?_)
  · try simp only [decide_eq_true_eq, decide_eq_false_iff_not, Bool.and_eq_true, Bool.or_eq_true, Bool.not_eq_true', Bool.not_eq_false', Bool.and_eq_false_iff, Bool.or_eq_false_iff] at h3
    exact sx_ret (x_callS (Ss := [pu (tO (tDep K T.c_Fd T.c_Mvd T.c_Jd (tT K (tT K tI)))) vfirst]) (S' := pu (tO (tDep K T.c_Fd T.c_Mvd T.c_Jd (tT K (tT K tI)))) (m_by_also vfirst)) (ok_by_also T) (hr.mono (by decide)) T.g_by_also T.F_by_also.kp T.b_by_also vfirst (by /-8-/ decreasing_trivial) (eas_cons (x_var (i := 1) rfl) eas_nil) rfl rfl) ⟨⟨_, rfl⟩, fun h => h⟩
  try simp only [decide_eq_true_eq, decide_eq_false_iff_not, Bool.and_eq_true, Bool.or_eq_true, Bool.not_eq_true', Bool.not_eq_false', Bool.and_eq_false_iff, Bool.or_eq_false_iff] at h4
  refine f_ifr (P := (RetP (fun z : (Option Dep) => pu (tO (tDep K T.c_Fd T.c_Mvd T.c_Jd (tT K (tT K tI)))) z))) (t_cmp op_eq (nomark _) o_eqS (x_co (co_gS (by /-10-/ decreasing_trivial)) (x_ix ix_tup (o_ixT sqT (by /-9-/ decreasing_trivial)) (x_var (i := 2) rfl) x_int)) x_str) (fun h5 => ?_) (fun h6 => ?_)
  · try simp only [decide_eq_true_eq, decide_eq_false_iff_not, Bool.and_eq_true, Bool.or_eq_true, Bool.not_eq_true', Bool.not_eq_false', Bool.and_eq_false_iff, Bool.or_eq_false_iff] at h5
    exact sx_ret (x_callS (Ss := [pu tI vcount, pu (tO (tDep K T.c_Fd T.c_Mvd T.c_Jd (tT K (tT K tI)))) vfirst]) (S' := pu (tO (tDep K T.c_Fd T.c_Mvd T.c_Jd (tT K (tT K tI)))) (m_by_other vcount vfirst)) (ok_by_other T) (hr.mono (by decide)) T.g_by_other T.F_by_other.kp T.b_by_other (vcount, vfirst) (by /-11-/ decreasing_trivial) (eas_cons (x_var (i := 0) rfl) (eas_cons (x_var (i := 1) rfl) eas_nil)) rfl rfl) ⟨⟨_, rfl⟩, fun h => h⟩
  try simp only [decide_eq_true_eq, decide_eq_false_iff_not, Bool.and_eq_true, Bool.or_eq_true, Bool.not_eq_true', Bool.not_eq_false', Bool.and_eq_false_iff, Bool.or_eq_false_iff] at h6
  exact sx_ret (x_callS (Ss := [pu tI vcount, pu (tO (tDep K T.c_Fd T.c_Mvd T.c_Jd (tT K (tT K tI)))) vfirst, pu (tT K tI) (ix vrow (2 : Int)).gT, pu (tT K tI) (ix vrow (3 : Int)).gT]) (S' := pu (tO (tDep K T.c_Fd T.c_Mvd T.c_Jd (tT K (tT K tI)))) (m_by_wide vcount vfirst (ix vrow (2 : Int)).gT (ix vrow (3 : Int)).gT)) (ok_by_wide T) (hr.mono (by decide)) T.g_by_wide T.F_by_wide.kp T.b_by_wide (vcount, vfirst, (ix vrow (2 : Int)).gT, (ix vrow (3 : Int)).gT) (by exact ⟨hlens.2.1, hlens.2.2, hpre.1, hpre.2.1, hd⟩) (eas_cons (x_var (i := 0) rfl) (eas_cons (x_var (i := 1) rfl) (eas_cons (x_co (co_gT (by have hw_ := hone.wide (by assumption) (by assumption) (by assumption); first | exact (hrow.set2 (.inr hw_)).1 | exact (hrow.set2 (.inr hw_)).2 | exact (hrow.set3 hw_).1 | exact (hrow.set3 hw_).2)) (x_ix ix_tup (o_ixT sqT (by have hw_ := hone.wide (by assumption) (by assumption) (by assumption); first | exact (hrow.set2 (.inr hw_)).1 | exact (hrow.set2 (.inr hw_)).2 | exact (hrow.set3 hw_).1 | exact (hrow.set3 hw_).2)) (x_var (i := 2) rfl) x_int)) (eas_cons (x_co (co_gT (by have hw_ := hone.wide (by assumption) (by assumption) (by assumption); first | exact (hrow.set2 (.inr hw_)).1 | exact (hrow.set2 (.inr hw_)).2 | exact (hrow.set3 hw_).1 | exact (hrow.set3 hw_).2)) (x_ix ix_tup (o_ixT sqT (by have hw_ := hone.wide (by assumption) (by assumption) (by assumption); first | exact (hrow.set2 (.inr hw_)).1 | exact (hrow.set2 (.inr hw_)).2 | exact (hrow.set3 hw_).1 | exact (hrow.set3 hw_).2)) (x_var (i := 2) rfl) x_int)) eas_nil)))) rfl rfl) ⟨_, rfl⟩
theorem ok_row_tells (T : Tx K mg base) : FnOk P w K mg base CX0 6 T.a_row_tells T.d_row_tells ["count", "dependencies", "made", "row"] (spP (A := Int × (List Dep) × (List Dep) × (List FV)) (fun x => (0 ≤ x.1 ∧ x.1 ≤ 10 ∧ (∀ d ∈ x.2.2.1, DepC 10 d) ∧ RowOk 12 x.2.2.2)) (fun x => [pu tI x.1, pu (tLs K (tDep K T.c_Fd T.c_Mvd T.c_Jd (tT K (tT K tI)))) x.2.1, pu (tLs K (tDep K T.c_Fd T.c_Mvd T.c_Jd (tT K (tT K tI)))) x.2.2.1, pu (tT K (tF K)) x.2.2.2]) (fun x => pu (tO (tDep K T.c_Fd T.c_Mvd T.c_Jd (tT K (tT K tI)))) (m_row_tells x.1 x.2.1 x.2.2.1 x.2.2.2))) := by
  refine fn_ok T.F_row_tells sc_row_tells (fun _ => rfl) fun X x hX hr hpre => ?_
  obtain ⟨vcount, vdependencies, vmade, vrow⟩ := x
  obtain ⟨cdv, A, outer, s, H, E, rfl⟩ := hX
  replace hpre : 0 ≤ vcount ∧ vcount ≤ 10 ∧ (∀ d ∈ vmade, DepC 10 d) ∧ RowOk 12 vrow := hpre
  have hz1 : sizeLine = 16777216 := rfl
  have hz2 : scanBound = 4096 := rfl
  have hrow := hpre.2.2.2
  have hlens := hrow.lens
  have he := earlier_ok hpre.2.2.1
  have hf : DepCO 10 (row_tells_first1 vcount vdependencies vmade vrow) := he _
  show SX _ _ [pu tI vcount, pu (tLs K (tDep K T.c_Fd T.c_Mvd T.c_Jd (tT K (tT K tI)))) vdependencies, pu (tLs K (tDep K T.c_Fd T.c_Mvd T.c_Jd (tT K (tT K tI)))) vmade, pu (tT K (tF K)) vrow, un] _
  refine SX.imp (P := RetP (fun z : (Option Dep) => pu (tO (tDep K T.c_Fd T.c_Mvd T.c_Jd (tT K (tT K tI)))) z) (m_row_tells vcount vdependencies vmade vrow)) ?_ fun r h => .inl h
  unfold m_row_tells
  refine f_ifr (P := (RetP (fun z : (Option Dep) => pu (tO (tDep K T.c_Fd T.c_Mvd T.c_Jd (tT K (tT K tI)))) z))) (t_cmp op_eq (nomark _) o_eqS (x_co (co_gS (by /-2-/ decreasing_trivial)) (x_ix ix_tup (o_ixT sqT (by /-1-/ decreasing_trivial)) (x_var (i := 3) rfl) x_int)) x_str) (fun h1 => ?_) (fun h2 => ?_)
  · try simp only [decide_eq_true_eq, decide_eq_false_iff_not, Bool.and_eq_true, Bool.or_eq_true, Bool.not_eq_true', Bool.not_eq_false', Bool.and_eq_false_iff, Bool.or_eq_false_iff] at h1
    exact sx_ret (x_callS (Ss := [pu (tLs K (tDep K T.c_Fd T.c_Mvd T.c_Jd (tT K (tT K tI)))) vdependencies, pu tI (ix vrow (1 : Int)).gI]) (S' := pu (tO (tDep K T.c_Fd T.c_Mvd T.c_Jd (tT K (tT K tI)))) (m_by_told vdependencies (ix vrow (1 : Int)).gI)) (ok_by_told T) (hr.mono (by decide)) T.g_by_told T.F_by_told.kp T.b_by_told (vdependencies, (ix vrow (1 : Int)).gI) trivial (eas_cons (x_var (i := 1) rfl) (eas_cons (x_co (co_gI (by /-4-/ decreasing_trivial)) (x_ix ix_tup (o_ixT sqT (by /-3-/ decreasing_trivial)) (x_var (i := 3) rfl) x_int)) eas_nil)) rfl rfl) ⟨⟨_, rfl⟩, fun h => h⟩
  try simp only [decide_eq_true_eq, decide_eq_false_iff_not, Bool.and_eq_true, Bool.or_eq_true, Bool.not_eq_true', Bool.not_eq_false', Bool.and_eq_false_iff, Bool.or_eq_false_iff] at h2
  refine f_ifr (P := (RetP (fun z : (Option Dep) => pu (tO (tDep K T.c_Fd T.c_Mvd T.c_Jd (tT K (tT K tI)))) z))) (t_cmp op_eq (nomark _) o_eqS (x_co (co_gS (by /-6-/ decreasing_trivial)) (x_ix ix_tup (o_ixT sqT (by /-5-/ decreasing_trivial)) (x_var (i := 3) rfl) x_int)) x_str) (fun h3 => ?_) (fun h4 => ?_)
  · try simp only [decide_eq_true_eq, decide_eq_false_iff_not, Bool.and_eq_true, Bool.or_eq_true, Bool.not_eq_true', Bool.not_eq_false', Bool.and_eq_false_iff, Bool.or_eq_false_iff] at h3
    exact sx_ret (x_callS (Ss := [pu tI vcount, pu (tT K tI) (ix vrow (1 : Int)).gT, pu (tT K tI) (ix vrow (2 : Int)).gT]) (S' := pu (tO (tDep K T.c_Fd T.c_Mvd T.c_Jd (tT K (tT K tI)))) (m_by_within vcount (ix vrow (1 : Int)).gT (ix vrow (2 : Int)).gT)) (ok_by_within T) (hr.mono (by decide)) T.g_by_within T.F_by_within.kp T.b_by_within (vcount, (ix vrow (1 : Int)).gT, (ix vrow (2 : Int)).gT) (by /-11-/ decreasing_trivial) (eas_cons (x_var (i := 0) rfl) (eas_cons (x_co (co_gT (by /-8-/ decreasing_trivial)) (x_ix ix_tup (o_ixT sqT (by /-7-/ decreasing_trivial)) (x_var (i := 3) rfl) x_int)) (eas_cons (x_co (co_gT (by /-10-/ decreasing_trivial)) (x_ix ix_tup (o_ixT sqT (by /-9-/ decreasing_trivial)) (x_var (i := 3) rfl) x_int)) eas_nil))) rfl rfl) ⟨⟨_, rfl⟩, fun h => h⟩
  try simp only [decide_eq_true_eq, decide_eq_false_iff_not, Bool.and_eq_true, Bool.or_eq_true, Bool.not_eq_true', Bool.not_eq_false', Bool.and_eq_false_iff, Bool.or_eq_false_iff] at h4
  refine sx_seq (Γ1 := [pu tI vcount, pu (tLs K (tDep K T.c_Fd T.c_Mvd T.c_Jd (tT K (tT K tI)))) vdependencies, pu (tLs K (tDep K T.c_Fd T.c_Mvd T.c_Jd (tT K (tT K tI)))) vmade, pu (tT K (tF K)) vrow, pu (tO (tDep K T.c_Fd T.c_Mvd T.c_Jd (tT K (tT K tI)))) (row_tells_first1 vcount vdependencies vmade vrow)]) (s1_setE (i := 4) sc_row_tells.nd rfl (by first | exact Or.inl rfl | exact Or.inr rfl) (x_val (x_callS (Ss := [pu (tLs K (tDep K T.c_Fd T.c_Mvd T.c_Jd (tT K (tT K tI)))) vmade, pu tI (ix vrow (1 : Int)).gI]) (S' := pu (tO (tDep K T.c_Fd T.c_Mvd T.c_Jd (tT K (tT K tI)))) (m_earlier vmade (ix vrow (1 : Int)).gI)) (ok_earlier T) (hr.mono (by decide)) T.g_earlier T.F_earlier.kp T.b_earlier (vmade, (ix vrow (1 : Int)).gI) trivial (eas_cons (x_var (i := 2) rfl) (eas_cons (x_co (co_gI (by /-13-/ decreasing_trivial)) (x_ix ix_tup (o_ixT sqT (by /-12-/ decreasing_trivial)) (x_var (i := 3) rfl) x_int)) eas_nil)) rfl rfl) (z := (row_tells_first1 vcount vdependencies vmade vrow)) rfl) (show 4 < 5 by decide) rfl) ?_
  refine f_ifr (P := (RetP (fun z : (Option Dep) => pu (tO (tDep K T.c_Fd T.c_Mvd T.c_Jd (tT K (tT K tI)))) z))) (t_w (w_or (t_cmp op_eq (nomark _) o_eqS (x_co (co_gS (by /-15-/ decreasing_trivial)) (x_ix ix_tup (o_ixT sqT (by /-14-/ decreasing_trivial)) (x_var (i := 3) rfl) x_int)) x_str) (fun h5 => (w_or (t_cmp op_eq (nomark _) o_eqS (x_co (co_gS (by /-17-/ (try simp only [decide_eq_true_eq, decide_eq_false_iff_not, Bool.and_eq_true, Bool.or_eq_true, Bool.not_eq_true', Bool.not_eq_false'] at h5); decreasing_trivial)) (x_ix ix_tup (o_ixT sqT (by /-16-/ (try simp only [decide_eq_true_eq, decide_eq_false_iff_not, Bool.and_eq_true, Bool.or_eq_true, Bool.not_eq_true', Bool.not_eq_false'] at h5); decreasing_trivial)) (x_var (i := 3) rfl) x_int)) x_str) (fun h6 => (w_one (t_cmp op_eq (nomark _) o_eqS (x_co (co_gS (by /-19-/ (try simp only [decide_eq_true_eq, decide_eq_false_iff_not, Bool.and_eq_true, Bool.or_eq_true, Bool.not_eq_true', Bool.not_eq_false'] at h5 h6); decreasing_trivial)) (x_ix ix_tup (o_ixT sqT (by /-18-/ (try simp only [decide_eq_true_eq, decide_eq_false_iff_not, Bool.and_eq_true, Bool.or_eq_true, Bool.not_eq_true', Bool.not_eq_false'] at h5 h6); decreasing_trivial)) (x_var (i := 3) rfl) x_int)) x_str) (.inr rfl))))))) (fun h8 => ?_) (fun h9 => ?_)
  · try simp only [decide_eq_true_eq, decide_eq_false_iff_not, Bool.and_eq_true, Bool.or_eq_true, Bool.not_eq_true', Bool.not_eq_false', Bool.and_eq_false_iff, Bool.or_eq_false_iff] at h8
    exact sx_ret (x_callS (Ss := [pu (tO (tDep K T.c_Fd T.c_Mvd T.c_Jd (tT K (tT K tI)))) (row_tells_first1 vcount vdependencies vmade vrow), pu (tO (tDep K T.c_Fd T.c_Mvd T.c_Jd (tT K (tT K tI)))) (m_earlier vmade (ix vrow (2 : Int)).gI), pu tS (ix vrow (0 : Int)).gS]) (S' := pu (tO (tDep K T.c_Fd T.c_Mvd T.c_Jd (tT K (tT K tI)))) (m_of_two (row_tells_first1 vcount vdependencies vmade vrow) (m_earlier vmade (ix vrow (2 : Int)).gI) (ix vrow (0 : Int)).gS)) (ok_of_two T) (hr.mono (by decide)) T.g_of_two T.F_of_two.kp T.b_of_two ((row_tells_first1 vcount vdependencies vmade vrow), (m_earlier vmade (ix vrow (2 : Int)).gI), (ix vrow (0 : Int)).gS) (by exact ⟨hf, he _⟩) (eas_cons (x_var (i := 4) rfl) (eas_cons (x_callS (Ss := [pu (tLs K (tDep K T.c_Fd T.c_Mvd T.c_Jd (tT K (tT K tI)))) vmade, pu tI (ix vrow (2 : Int)).gI]) (S' := pu (tO (tDep K T.c_Fd T.c_Mvd T.c_Jd (tT K (tT K tI)))) (m_earlier vmade (ix vrow (2 : Int)).gI)) (ok_earlier T) (hr.mono (by decide)) T.g_earlier T.F_earlier.kp T.b_earlier (vmade, (ix vrow (2 : Int)).gI) trivial (eas_cons (x_var (i := 2) rfl) (eas_cons (x_co (co_gI (by /-21-/ decreasing_trivial)) (x_ix ix_tup (o_ixT sqT (by /-20-/ decreasing_trivial)) (x_var (i := 3) rfl) x_int)) eas_nil)) rfl rfl) (eas_cons (x_co (co_gS (by /-23-/ decreasing_trivial)) (x_ix ix_tup (o_ixT sqT (by /-22-/ decreasing_trivial)) (x_var (i := 3) rfl) x_int)) eas_nil))) rfl rfl) ⟨⟨_, rfl⟩, fun h => h⟩
  try simp only [decide_eq_true_eq, decide_eq_false_iff_not, Bool.and_eq_true, Bool.or_eq_true, Bool.not_eq_true', Bool.not_eq_false', Bool.and_eq_false_iff, Bool.or_eq_false_iff] at h9
  exact sx_ret (x_callS (Ss := [pu tI vcount, pu (tO (tDep K T.c_Fd T.c_Mvd T.c_Jd (tT K (tT K tI)))) (row_tells_first1 vcount vdependencies vmade vrow), pu (tT K (tF K)) vrow]) (S' := pu (tO (tDep K T.c_Fd T.c_Mvd T.c_Jd (tT K (tT K tI)))) (m_of_one vcount (row_tells_first1 vcount vdependencies vmade vrow) vrow)) (ok_of_one T) (hr.mono (by decide)) T.g_of_one T.F_of_one.kp T.b_of_one (vcount, (row_tells_first1 vcount vdependencies vmade vrow), vrow) (by exact ⟨hpre.1, hpre.2.1, hf, hrow, (by first | exact hrow.rest (by assumption) (by assumption) (by assumption) | exact hrow.rest' (by assumption) (by assumption) (by assumption))⟩) (eas_cons (x_var (i := 0) rfl) (eas_cons (x_var (i := 4) rfl) (eas_cons (x_var (i := 3) rfl) eas_nil))) rfl rfl) ⟨_, rfl⟩
theorem ok_Sides_key (T : Tx K mg base) (C : Addr) (cl : Cls K C) (na_left : NoAttr K C "left") (na_right : NoAttr K C "right") : FnOk P w K mg base CX0 1 T.a_Sides_key T.d_Sides_key ["self"] (spP (A := Sd) (fun x => True) (fun x => [pu (tObj C (flSd K)) x]) (fun x => pu (tP2 K (tT K tI) (tT K tI)) (m_Sides_key x))) := by
  refine fn_ok T.F_Sides_key sc_Sides_key (fun _ => rfl) fun X vself hX hr hpre => ?_
  obtain ⟨cdv, A, outer, s, H, E, rfl⟩ := hX
  have hz1 : sizeLine = 16777216 := rfl
  have hz2 : scanBound = 4096 := rfl
  show SX _ _ [pu (tObj C (flSd K)) vself] _
  refine SX.imp (P := RetP (fun z : ((List Int) × (List Int)) => pu (tP2 K (tT K tI) (tT K tI)) z) (m_Sides_key vself)) ?_ fun r h => .inl h
  unfold m_Sides_key
  exact sx_ret (x_tup (n_p2 (K := K) (R1 := (tT K tI)) (R2' := (tT K tI))) (ea_cons (x_fld (x_var (i := 0) rfl) rfl cl na_left) (ea_cons (x_fld (x_var (i := 0) rfl) rfl cl na_right) ea_nil))) ⟨_, rfl⟩
theorem ok_Fd_eq (T : Tx K mg base) : FnOk P w K mg base CX0 3 T.a_Fd_eq T.d_Fd_eq ["self", "other"] (spP (A := Sd × Dep) (fun x => True) (fun x => [pu (tObj T.c_Fd (flSd K)) x.1, pu (tDep K T.c_Fd T.c_Mvd T.c_Jd (tT K (tT K tI))) x.2]) (fun x => pu tB (m_Fd_eq x.1 x.2))) := by
  refine fn_ok T.F_Fd_eq sc_Fd_eq (fun _ => rfl) fun X x hX hr hpre => ?_
  obtain ⟨vself, vother⟩ := x
  obtain ⟨cdv, A, outer, s, H, E, rfl⟩ := hX
  have hz1 : sizeLine = 16777216 := rfl
  have hz2 : scanBound = 4096 := rfl
  show SX _ _ [pu (tObj T.c_Fd (flSd K)) vself, pu (tDep K T.c_Fd T.c_Mvd T.c_Jd (tT K (tT K tI))) vother] _
  refine SX.imp (P := RetP (fun z : Bool => pu tB z) (m_Fd_eq vself vother)) ?_ fun r h => .inl h
  unfold m_Fd_eq
  exact sx_ret (x_and (x_callB call_isi T.n_isinstance (by decide +kernel) (n_isG (f := Dep.isFd) (isT_dep (f := Dep.isFd) (typ_ins T.cl_Fd T.ci_Fd) (typ_ins T.cl_Mvd T.ci_Mvd) (typ_ins T.cl_Jd T.ci_Jd) (fun _ => T.ki_Fd_Fd) (fun _ => T.ki_Mvd_Fd) (fun _ => T.ki_Jd_Fd)) (.own _)) (ea_cons (x_var (i := 1) rfl) (ea_cons (x_cls T.gc_Fd) ea_nil))) (fun h1 => (x_one (x_cmp (op_eqD hr.units) (nomark _) (o_eqD (dP2 (dT dI) (dT dI))) (x_prop (S' := pu (tP2 K (tT K tI) (tT K tI)) (m_Sides_key vself)) (x_var (i := 0) rfl) T.cl_Fd T.pr_Fd_key (ok_Sides_key T T.c_Fd T.cl_Fd T.na_Fd_left T.na_Fd_right) T.b_Sides_key (hr.mono (by decide)) vself trivial rfl rfl) (x_prop (S' := pu (tP2 K (tT K tI) (tT K tI)) (m_Sides_key vother.sd)) (x_co (co_gfd (by /-1-/ (try simp only [decide_eq_true_eq, decide_eq_false_iff_not, Bool.and_eq_true, Bool.or_eq_true, Bool.not_eq_true', Bool.not_eq_false'] at h1); decreasing_trivial)) (x_var (i := 1) rfl)) T.cl_Fd T.pr_Fd_key (ok_Sides_key T T.c_Fd T.cl_Fd T.na_Fd_left T.na_Fd_right) T.b_Sides_key (hr.mono (by decide)) vother.sd trivial rfl rfl))))) ⟨_, rfl⟩
theorem ok_Mvd_eq (T : Tx K mg base) : FnOk P w K mg base CX0 3 T.a_Mvd_eq T.d_Mvd_eq ["self", "other"] (spP (A := Sd × Dep) (fun x => True) (fun x => [pu (tObj T.c_Mvd (flSd K)) x.1, pu (tDep K T.c_Fd T.c_Mvd T.c_Jd (tT K (tT K tI))) x.2]) (fun x => pu tB (m_Mvd_eq x.1 x.2))) := by
  refine fn_ok T.F_Mvd_eq sc_Mvd_eq (fun _ => rfl) fun X x hX hr hpre => ?_
  obtain ⟨vself, vother⟩ := x
  obtain ⟨cdv, A, outer, s, H, E, rfl⟩ := hX
  have hz1 : sizeLine = 16777216 := rfl
  have hz2 : scanBound = 4096 := rfl
  show SX _ _ [pu (tObj T.c_Mvd (flSd K)) vself, pu (tDep K T.c_Fd T.c_Mvd T.c_Jd (tT K (tT K tI))) vother] _
  refine SX.imp (P := RetP (fun z : Bool => pu tB z) (m_Mvd_eq vself vother)) ?_ fun r h => .inl h
  unfold m_Mvd_eq
  exact sx_ret (x_and (x_callB call_isi T.n_isinstance (by decide +kernel) (n_isG (f := Dep.isMvd) (isT_dep (f := Dep.isMvd) (typ_ins T.cl_Fd T.ci_Fd) (typ_ins T.cl_Mvd T.ci_Mvd) (typ_ins T.cl_Jd T.ci_Jd) (fun _ => T.ki_Fd_Mvd) (fun _ => T.ki_Mvd_Mvd) (fun _ => T.ki_Jd_Mvd)) (.own _)) (ea_cons (x_var (i := 1) rfl) (ea_cons (x_cls T.gc_Mvd) ea_nil))) (fun h1 => (x_one (x_cmp (op_eqD hr.units) (nomark _) (o_eqD (dP2 (dT dI) (dT dI))) (x_prop (S' := pu (tP2 K (tT K tI) (tT K tI)) (m_Sides_key vself)) (x_var (i := 0) rfl) T.cl_Mvd T.pr_Mvd_key (ok_Sides_key T T.c_Mvd T.cl_Mvd T.na_Mvd_left T.na_Mvd_right) T.b_Sides_key (hr.mono (by decide)) vself trivial rfl rfl) (x_prop (S' := pu (tP2 K (tT K tI) (tT K tI)) (m_Sides_key vother.sd)) (x_co (co_gmvd (by /-1-/ (try simp only [decide_eq_true_eq, decide_eq_false_iff_not, Bool.and_eq_true, Bool.or_eq_true, Bool.not_eq_true', Bool.not_eq_false'] at h1); decreasing_trivial)) (x_var (i := 1) rfl)) T.cl_Mvd T.pr_Mvd_key (ok_Sides_key T T.c_Mvd T.cl_Mvd T.na_Mvd_left T.na_Mvd_right) T.b_Sides_key (hr.mono (by decide)) vother.sd trivial rfl rfl))))) ⟨_, rfl⟩
theorem ok_Jd_eq (T : Tx K mg base) : FnOk P w K mg base CX0 1 T.a_Jd_eq T.d_Jd_eq ["self", "other"] (spP (A := (List (List Int)) × Dep) (fun x => True) (fun x => [pu (tObj T.c_Jd (flJd (tT K (tT K tI)))) x.1, pu (tDep K T.c_Fd T.c_Mvd T.c_Jd (tT K (tT K tI))) x.2]) (fun x => pu tB (m_Jd_eq x.1 x.2))) := by
  refine fn_ok T.F_Jd_eq sc_Jd_eq (fun _ => rfl) fun X x hX hr hpre => ?_
  obtain ⟨vself, vother⟩ := x
  obtain ⟨cdv, A, outer, s, H, E, rfl⟩ := hX
  have hz1 : sizeLine = 16777216 := rfl
  have hz2 : scanBound = 4096 := rfl
  show SX _ _ [pu (tObj T.c_Jd (flJd (tT K (tT K tI)))) vself, pu (tDep K T.c_Fd T.c_Mvd T.c_Jd (tT K (tT K tI))) vother] _
  refine SX.imp (P := RetP (fun z : Bool => pu tB z) (m_Jd_eq vself vother)) ?_ fun r h => .inl h
  unfold m_Jd_eq
  exact sx_ret (x_and (x_callB call_isi T.n_isinstance (by decide +kernel) (n_isG (f := Dep.isJd) (isT_dep (f := Dep.isJd) (typ_ins T.cl_Fd T.ci_Fd) (typ_ins T.cl_Mvd T.ci_Mvd) (typ_ins T.cl_Jd T.ci_Jd) (fun _ => T.ki_Fd_Jd) (fun _ => T.ki_Mvd_Jd) (fun _ => T.ki_Jd_Jd)) (.own _)) (ea_cons (x_var (i := 1) rfl) (ea_cons (x_cls T.gc_Jd) ea_nil))) (fun h1 => (x_one (x_cmp (op_eqD hr.units) (nomark _) (o_eqD (dT (dT dI))) (x_fld (x_var (i := 0) rfl) rfl T.cl_Jd T.na_Jd_parts) (x_fld (x_co (co_gjd (by /-1-/ (try simp only [decide_eq_true_eq, decide_eq_false_iff_not, Bool.and_eq_true, Bool.or_eq_true, Bool.not_eq_true', Bool.not_eq_false'] at h1); decreasing_trivial)) (x_var (i := 1) rfl)) rfl T.cl_Jd T.na_Jd_parts))))) ⟨_, rfl⟩
theorem ok_derives (T : Tx K mg base) : FnOk P w K mg base CX0 7 T.a_derives T.d_derives ["count", "dependencies", "target", "rows"] (spP (A := Int × (List Dep) × Dep × (List (List FV))) (fun x => (0 ≤ x.1 ∧ x.1 ≤ 10 ∧ (∀ d ∈ x.2.1, DepC 10 d) ∧ (∀ r ∈ x.2.2.2, RowOk 12 r) ∧ x.2.2.2.length ≤ 100)) (fun x => [pu tI x.1, pu (tLs K (tDep K T.c_Fd T.c_Mvd T.c_Jd (tT K (tT K tI)))) x.2.1, pu (tDep K T.c_Fd T.c_Mvd T.c_Jd (tT K (tT K tI))) x.2.2.1, pu (tT K (tT K (tF K))) x.2.2.2]) (fun x => pu tB (m_derives x.1 x.2.1 x.2.2.1 x.2.2.2))) := by
  refine fn_ok T.F_derives sc_derives (fun _ => rfl) fun X x hX hr hpre => ?_
  obtain ⟨vcount, vdependencies, vtarget, vrows⟩ := x
  obtain ⟨cdv, A, outer, s, H, E, rfl⟩ := hX
  replace hpre : 0 ≤ vcount ∧ vcount ≤ 10 ∧ (∀ d ∈ vdependencies, DepC 10 d) ∧ (∀ r ∈ vrows, RowOk 12 r) ∧ vrows.length ≤ 100 := hpre
  have hz1 : sizeLine = 16777216 := rfl
  have hz2 : scanBound = 4096 := rfl
  show SX _ _ [pu tI vcount, pu (tLs K (tDep K T.c_Fd T.c_Mvd T.c_Jd (tT K (tT K tI)))) vdependencies, pu (tDep K T.c_Fd T.c_Mvd T.c_Jd (tT K (tT K tI))) vtarget, pu (tT K (tT K (tF K))) vrows, un, un, un] _
  refine SX.imp (P := RetP (fun z : Bool => pu tB z) (m_derives vcount vdependencies vtarget vrows)) ?_ fun r h => .inl h
  unfold m_derives
  refine sx_seq (Γ1 := [pu tI vcount, pu (tLs K (tDep K T.c_Fd T.c_Mvd T.c_Jd (tT K (tT K tI)))) vdependencies, pu (tDep K T.c_Fd T.c_Mvd T.c_Jd (tT K (tT K tI))) vtarget, pu (tT K (tT K (tF K))) vrows, ol (tDep K T.c_Fd T.c_Mvd T.c_Jd (tT K (tT K tI))) (derives_made1 vcount vdependencies vtarget vrows), un, un]) (s1_setE (i := 4) sc_derives.nd rfl (by first | exact Or.inl rfl | exact Or.inr rfl) (x_valo (x_lst (Ss := []) (n_lst (R := (tDep K T.c_Fd T.c_Mvd T.c_Jd (tT K (tT K tI)))) (xs := []) (show 0 ≤ sizeLine by decide)) ea_nil) (zs := (derives_made1 vcount vdependencies vtarget vrows)) rfl) (show 4 < 7 by decide) rfl) ?_
  refine f_forE (P := (RetP (fun z : Bool => pu tB z))) (Pq := (RetP (fun z : Bool => pu tB z))) (fun (s5 : (List Dep)) => ((decide ((0 : Int) < (s5.length : Int))) && ((depB m_Fd_eq m_Mvd_eq m_Jd_eq) (ix s5 (-(1 : Int))) vtarget))) (fun q => q) PassesOwn.never rfl (w_tup sqT (x_var (i := 3) rfl)) (pg_name (i := 5) sc_derives.nd rfl (by first | exact Or.inl rfl | exact Or.inr rfl)) (tg_name (show 5 < 7 by decide)) (fun (s : (List Dep)) => [pu tI vcount, pu (tLs K (tDep K T.c_Fd T.c_Mvd T.c_Jd (tT K (tT K tI)))) vdependencies, pu (tDep K T.c_Fd T.c_Mvd T.c_Jd (tT K (tT K tI))) vtarget, pu (tT K (tT K (tF K))) vrows, ol (tDep K T.c_Fd T.c_Mvd T.c_Jd (tT K (tT K tI))) s, un, un]) (derives_st1 vcount vdependencies vtarget vrows) (derives_made1 vcount vdependencies vtarget vrows) (fun _ => rfl) (Wk.uns []) ?_ (fun s5 hrs5 => ?_) (fun _ _ h => h) rfl
  · intro ix1 x1 vmade2 hxx1 hsx1 hzx1
    have hd_ := derives_at hpre.2.1 hpre.2.2.1 hpre.2.2.2.1 hsx1
    have hd1 : ∀ d ∈ vmade2, DepC 10 d := fun d hd => (hd_ d hd).1
    have hlen_ := derives_len hsx1
    have hi_ := (w_at hxx1).1
    have hrow := hpre.2.2.2.1 _ (w_at hxx1).2
    refine sx_seq (Γ1 := [pu tI vcount, pu (tLs K (tDep K T.c_Fd T.c_Mvd T.c_Jd (tT K (tT K tI)))) vdependencies, pu (tDep K T.c_Fd T.c_Mvd T.c_Jd (tT K (tT K tI))) vtarget, pu (tT K (tT K (tF K))) vrows, ol (tDep K T.c_Fd T.c_Mvd T.c_Jd (tT K (tT K tI))) vmade2, pu (tT K (tF K)) x1, pu (tO (tDep K T.c_Fd T.c_Mvd T.c_Jd (tT K (tT K tI)))) (derives_found1 vcount vdependencies vtarget vrows vmade2 x1)]) (s1_setE (i := 6) sc_derives.nd rfl (by first | exact Or.inl rfl | exact Or.inr rfl) (x_val (x_borN (Fy.pu (Fy.pu (Fy.pu (Fy.pu (Fy.ol (Fy.pu (Fy.un Fy.nil))))))) (nl_O (nl_Dep (nl_T (nl_T nl_I)))) (x_callS (Ss := [pu tI vcount, pu (tLs K (tDep K T.c_Fd T.c_Mvd T.c_Jd (tT K (tT K tI)))) vdependencies, pu (tLs K (tDep K T.c_Fd T.c_Mvd T.c_Jd (tT K (tT K tI)))) vmade2, pu (tT K (tF K)) x1]) (S' := pu (tO (tDep K T.c_Fd T.c_Mvd T.c_Jd (tT K (tT K tI)))) (m_row_tells vcount vdependencies vmade2 x1)) (ok_row_tells T) (hr.mono (by decide)) T.g_row_tells T.F_row_tells.kp T.b_row_tells (vcount, vdependencies, vmade2, x1) (by /-1-/ decreasing_trivial) (eas_cons (x_var (i := 0) rfl) (eas_cons (x_var (i := 1) rfl) (eas_cons (x_var (i := 4) rfl) (eas_cons (x_var (i := 5) rfl) eas_nil)))) rfl rfl)) (z := (derives_found1 vcount vdependencies vtarget vrows vmade2 x1)) rfl) (show 6 < 7 by decide) rfl) ?_
    refine f_ifr (P := (Turn1 (fun (s : (List Dep)) => [pu tI vcount, pu (tLs K (tDep K T.c_Fd T.c_Mvd T.c_Jd (tT K (tT K tI)))) vdependencies, pu (tDep K T.c_Fd T.c_Mvd T.c_Jd (tT K (tT K tI))) vtarget, pu (tT K (tT K (tF K))) vrows, ol (tDep K T.c_Fd T.c_Mvd T.c_Jd (tT K (tT K tI))) s, un, un]) (RetP (fun z : Bool => pu tB z)))) (t_cmp op_isN (nomark _) o_isN (x_var (i := 6) rfl) x_non) (fun h3 => ?_) (fun h4 => ?_)
    · try simp only [decide_eq_true_eq, decide_eq_false_iff_not, Bool.and_eq_true, Bool.or_eq_true, Bool.not_eq_true', Bool.not_eq_false', Bool.and_eq_false_iff, Bool.or_eq_false_iff] at h3
      exact sx_ret x_bl ⟨⟨⟨_, rfl⟩, _, _, rfl⟩, fun h => h⟩
    try simp only [decide_eq_true_eq, decide_eq_false_iff_not, Bool.and_eq_true, Bool.or_eq_true, Bool.not_eq_true', Bool.not_eq_false', Bool.and_eq_false_iff, Bool.or_eq_false_iff] at h4
    refine sx_seq (Γ1 := [pu tI vcount, pu (tLs K (tDep K T.c_Fd T.c_Mvd T.c_Jd (tT K (tT K tI)))) vdependencies, pu (tDep K T.c_Fd T.c_Mvd T.c_Jd (tT K (tT K tI))) vtarget, pu (tT K (tT K (tF K))) vrows, ol (tDep K T.c_Fd T.c_Mvd T.c_Jd (tT K (tT K tI))) (derives_made2 vcount vdependencies vtarget vrows vmade2 x1), pu (tT K (tF K)) x1, pu (tO (tDep K T.c_Fd T.c_Mvd T.c_Jd (tT K (tT K tI)))) (derives_found1 vcount vdependencies vtarget vrows vmade2 x1)]) (s1_app (i := 4) rfl (x_unO (d := default) (x_var (i := 6) rfl) (by /-2-/ decreasing_trivial)) rfl (by /-3-/ decreasing_trivial)) ?_
    exact f_nx ⟨_, .inl rfl, Wk.uns [5, 6]⟩
  refine SX.wk (Γ' := [pu tI vcount, pu (tLs K (tDep K T.c_Fd T.c_Mvd T.c_Jd (tT K (tT K tI)))) vdependencies, pu (tDep K T.c_Fd T.c_Mvd T.c_Jd (tT K (tT K tI))) vtarget, pu (tT K (tT K (tF K))) vrows, pu (tLs K (tDep K T.c_Fd T.c_Mvd T.c_Jd (tT K (tT K tI)))) s5, un, un]) (Wk.frz K (i := 4) rfl) ?_
  exact sx_ret (x_and (x_cmp op_gt (nomark _) (o_IB (g := fun i j => decide (j < i))) (x_callB call_len T.n_len (by decide +kernel) (n_lenA saLs) (ea_cons (x_var (i := 4) rfl) ea_nil)) x_int) (fun h6 => (x_one (x_eqG (rcg_dep ((rcg_of ⟨ok_Fd_eq T, T.se_Fd, T.ie_Fd, T.b_Fd_eq⟩ insOf_obj (lk_dep nf_refl (nf_sub T.nf_Mvd_Fd) (nf_sub T.nf_Jd_Fd))).mono (k := 3) (by decide)) ((rcg_of ⟨ok_Mvd_eq T, T.se_Mvd, T.ie_Mvd, T.b_Mvd_eq⟩ insOf_obj (lk_dep (nf_sub T.nf_Fd_Mvd) nf_refl (nf_sub T.nf_Jd_Mvd))).mono (k := 3) (by decide)) ((rcg_of ⟨ok_Jd_eq T, T.se_Jd, T.ie_Jd, T.b_Jd_eq⟩ insOf_obj (lk_dep (nf_sub T.nf_Fd_Jd) (nf_sub T.nf_Mvd_Jd) nf_refl)).mono (k := 3) (by decide))) (hr.mono (by decide)) (x_ix ix_list (o_ixL sqLs (by /-4-/ (try simp only [decide_eq_true_eq, decide_eq_false_iff_not, Bool.and_eq_true, Bool.or_eq_true, Bool.not_eq_true', Bool.not_eq_false'] at h6); decreasing_trivial)) (x_var (i := 4) rfl) (x_neg x_int)) (x_var (i := 2) rfl))))) ⟨_, rfl⟩
theorem ok_takes (T : Tx K mg base) : FnOk P w K mg base CX0 8 T.a_takes T.d_takes ["count", "dependencies", "target", "verdict", "paper"] (spP (A := Int × (List Dep) × Dep × Bool × (PySem.Str × (List (List FV)))) (fun x => (x.2.2.2.2.1 = ("derived" : PySem.Str) ∧ 0 ≤ x.1 ∧ x.1 ≤ 10 ∧ (∀ d ∈ x.2.1, DepC 10 d) ∧ (∀ r ∈ x.2.2.2.2.2, RowOk 12 r) ∧ x.2.2.2.2.2.length ≤ 100)) (fun x => [pu tI x.1, pu (tLs K (tDep K T.c_Fd T.c_Mvd T.c_Jd (tT K (tT K tI)))) x.2.1, pu (tDep K T.c_Fd T.c_Mvd T.c_Jd (tT K (tT K tI))) x.2.2.1, pu tB x.2.2.2.1, pu (tP2 K tS (tT K (tT K (tF K)))) x.2.2.2.2]) (fun x => pu tB (m_takes x.1 x.2.1 x.2.2.1 x.2.2.2.1 x.2.2.2.2))) := by
  refine fn_ok T.F_takes sc_takes (fun _ => rfl) fun X x hX hr hpre => ?_
  obtain ⟨vcount, vdependencies, vtarget, vverdict, vpaper⟩ := x
  obtain ⟨cdv, A, outer, s, H, E, rfl⟩ := hX
  replace hpre : vpaper.1 = ("derived" : PySem.Str) ∧ 0 ≤ vcount ∧ vcount ≤ 10 ∧ (∀ d ∈ vdependencies, DepC 10 d) ∧ (∀ r ∈ vpaper.2, RowOk 12 r) ∧ vpaper.2.length ≤ 100 := hpre
  have hz1 : sizeLine = 16777216 := rfl
  have hz2 : scanBound = 4096 := rfl
  have hp1 := hpre.1
  show SX _ _ [pu tI vcount, pu (tLs K (tDep K T.c_Fd T.c_Mvd T.c_Jd (tT K (tT K tI)))) vdependencies, pu (tDep K T.c_Fd T.c_Mvd T.c_Jd (tT K (tT K tI))) vtarget, pu tB vverdict, pu (tP2 K tS (tT K (tT K (tF K)))) vpaper] _
  refine SX.imp (P := RetP (fun z : Bool => pu tB z) (m_takes vcount vdependencies vtarget vverdict vpaper)) ?_ fun r h => .inl h
  unfold m_takes
  refine f_ifr (P := (RetP (fun z : Bool => pu tB z))) (t_w (w_and (t_val (x_var (i := 3) rfl)) (fun h1 => (w_one (t_cmp op_eq (nomark _) o_eqS (x_ix ix_tup (o_ixP2_0 (x := vpaper)) (x_var (i := 4) rfl) x_int) x_str) (.inl rfl))))) (fun h3 => ?_) (fun h4 => ?_)
  · try simp only [decide_eq_true_eq, decide_eq_false_iff_not, Bool.and_eq_true, Bool.or_eq_true, Bool.not_eq_true', Bool.not_eq_false', Bool.and_eq_false_iff, Bool.or_eq_false_iff] at h3
    exact sx_ret (x_callS (Ss := [pu tI vcount, pu (tLs K (tDep K T.c_Fd T.c_Mvd T.c_Jd (tT K (tT K tI)))) vdependencies, pu (tDep K T.c_Fd T.c_Mvd T.c_Jd (tT K (tT K tI))) vtarget, pu (tT K (tT K (tF K))) vpaper.2]) (S' := pu tB (m_derives vcount vdependencies vtarget vpaper.2)) (ok_derives T) (hr.mono (by decide)) T.g_derives T.F_derives.kp T.b_derives (vcount, vdependencies, vtarget, vpaper.2) (by exact hpre.2) (eas_cons (x_var (i := 0) rfl) (eas_cons (x_var (i := 1) rfl) (eas_cons (x_var (i := 2) rfl) (eas_cons (x_ix ix_tup (o_ixP2_1 (x := vpaper)) (x_var (i := 4) rfl) x_int) eas_nil)))) rfl rfl) ⟨⟨_, rfl⟩, fun h => h⟩
  try simp only [decide_eq_true_eq, decide_eq_false_iff_not, Bool.and_eq_true, Bool.or_eq_true, Bool.not_eq_true', Bool.not_eq_false', Bool.and_eq_false_iff, Bool.or_eq_false_iff] at h4
  refine f_ifr (P := (RetP (fun z : Bool => pu tB z))) (t_w (w_and (t_val (x_var (i := 3) rfl)) (fun h5 => (w_one (t_cmp op_eq (nomark _) o_eqS (x_ix ix_tup (o_ixP2_0 (x := vpaper)) (x_var (i := 4) rfl) x_int) x_str) (.inl rfl))))) (fun h7 => ?_) (fun h8 => ?_)
  · try simp only [decide_eq_true_eq, decide_eq_false_iff_not, Bool.and_eq_true, Bool.or_eq_true, Bool.not_eq_true', Bool.not_eq_false', Bool.and_eq_false_iff, Bool.or_eq_false_iff] at h7
    exact sx_ret (show EX _ _ _ (pu tB false) [pu tI vcount, pu (tLs K (tDep K T.c_Fd T.c_Mvd T.c_Jd (tT K (tT K tI)))) vdependencies, pu (tDep K T.c_Fd T.c_Mvd T.c_Jd (tT K (tT K tI))) vtarget, pu tB vverdict, pu (tP2 K tS (tT K (tT K (tF K)))) vpaper] from False.elim (by exact absurd (hpre.1.symm.trans (show vpaper.1 = ("chased" : PySem.Str) from And.right (show vverdict = true ∧ vpaper.1 = ("chased" : PySem.Str) from by assumption))) (by decide))) ⟨⟨_, rfl⟩, fun h => h⟩
  try simp only [decide_eq_true_eq, decide_eq_false_iff_not, Bool.and_eq_true, Bool.or_eq_true, Bool.not_eq_true', Bool.not_eq_false', Bool.and_eq_false_iff, Bool.or_eq_false_iff] at h8
  refine f_ifr (P := (RetP (fun z : Bool => pu tB z))) (t_w (w_and (t_not (t_val (x_var (i := 3) rfl))) (fun h9 => (w_one (t_cmp op_eq (nomark _) o_eqS (x_ix ix_tup (o_ixP2_0 (x := vpaper)) (x_var (i := 4) rfl) x_int) x_str) (.inl rfl))))) (fun h11 => ?_) (fun h12 => ?_)
  · try simp only [decide_eq_true_eq, decide_eq_false_iff_not, Bool.and_eq_true, Bool.or_eq_true, Bool.not_eq_true', Bool.not_eq_false', Bool.and_eq_false_iff, Bool.or_eq_false_iff] at h11
    exact sx_ret (show EX _ _ _ (pu tB false) [pu tI vcount, pu (tLs K (tDep K T.c_Fd T.c_Mvd T.c_Jd (tT K (tT K tI)))) vdependencies, pu (tDep K T.c_Fd T.c_Mvd T.c_Jd (tT K (tT K tI))) vtarget, pu tB vverdict, pu (tP2 K tS (tT K (tT K (tF K)))) vpaper] from False.elim (by exact absurd (hpre.1.symm.trans (And.right (show vverdict = false ∧ vpaper.1 = ("table" : PySem.Str) from by assumption))) (by decide))) ⟨⟨_, rfl⟩, fun h => h⟩
  try simp only [decide_eq_true_eq, decide_eq_false_iff_not, Bool.and_eq_true, Bool.or_eq_true, Bool.not_eq_true', Bool.not_eq_false', Bool.and_eq_false_iff, Bool.or_eq_false_iff] at h12
  exact sx_ret x_bl ⟨_, rfl⟩
theorem ok_Lderives (T : Tx K mg base) : FnOk P w K mg base CX0 6 T.a_Lderives T.d_Lderives ["_law_count", "_law_told_here", "_law_target", "_law_rows"] (spP (A := Int × (List Dep) × Dep × (List (List FV))) (fun x => (0 ≤ x.1 ∧ x.1 ≤ 10 ∧ (∀ d ∈ x.2.1, DepC 10 d) ∧ (∀ r ∈ x.2.2.2, RowOk 12 r) ∧ x.2.2.2.length ≤ 100)) (fun x => [pu tI x.1, pu (tLs K (tLd K)) x.2.1, pu (tLd K) x.2.2.1, pu (tLs K (tT K (tF K))) x.2.2.2]) (fun x => pu tB (m_Lderives x.1 x.2.1 x.2.2.1 x.2.2.2))) := by
  refine fn_ok T.F_Lderives sc_Lderives (fun _ => rfl) fun X x hX hr hpre => ?_
  obtain ⟨vLcount, vLtold_here, vLtarget, vLrows⟩ := x
  obtain ⟨cdv, A, outer, s, H, E, rfl⟩ := hX
  replace hpre : 0 ≤ vLcount ∧ vLcount ≤ 10 ∧ (∀ d ∈ vLtold_here, DepC 10 d) ∧ (∀ r ∈ vLrows, RowOk 12 r) ∧ vLrows.length ≤ 100 := hpre
  have hz1 : sizeLine = 16777216 := rfl
  have hz2 : scanBound = 4096 := rfl
  show SX _ _ [pu tI vLcount, pu (tLs K (tLd K)) vLtold_here, pu (tLd K) vLtarget, pu (tLs K (tT K (tF K))) vLrows, un] _
  refine SX.imp (P := RetP (fun z : Bool => pu tB z) (m_Lderives vLcount vLtold_here vLtarget vLrows)) ?_ fun r h => .inl h
  unfold m_Lderives
  refine sx_seq (Γ1 := [pu tI vLcount, pu (tLs K (tLd K)) vLtold_here, pu (tLd K) vLtarget, pu (tLs K (tT K (tF K))) vLrows, pu (tO (tLs K (tLd K))) (Lderives_Lmade_here1 vLcount vLtold_here vLtarget vLrows)]) (s1_setE (i := 4) sc_Lderives.nd rfl (by first | exact Or.inl rfl | exact Or.inr rfl) (x_val (x_callS (Ss := [pu tI vLcount, pu (tLs K (tLd K)) vLtold_here, pu (tLs K (tT K (tF K))) vLrows]) (S' := pu (tO (tLs K (tLd K))) (m_Lmade vLcount vLtold_here vLrows)) (ok_Lmade T) (hr.mono (by decide)) T.g_Lmade T.F_Lmade.kp T.b_Lmade (vLcount, vLtold_here, vLrows) (by /-1-/ decreasing_trivial) (eas_cons (x_var (i := 0) rfl) (eas_cons (x_var (i := 1) rfl) (eas_cons (x_var (i := 3) rfl) eas_nil))) rfl rfl) (z := (Lderives_Lmade_here1 vLcount vLtold_here vLtarget vLrows)) rfl) (show 4 < 5 by decide) rfl) ?_
  exact sx_ret (x_and (x_cmp op_notN (nomark _) o_notN (x_var (i := 4) rfl) x_non) (fun h1 => (x_and (x_cmp op_gt (nomark _) (o_IB (g := fun i j => decide (j < i))) (x_callB call_len T.n_len (by decide +kernel) (n_lenA saLs) (ea_cons (x_unO (d := []) (x_var (i := 4) rfl) (by /-2-/ (try simp only [decide_eq_true_eq, decide_eq_false_iff_not, Bool.and_eq_true, Bool.or_eq_true, Bool.not_eq_true', Bool.not_eq_false'] at h1); decreasing_trivial)) ea_nil)) x_int) (fun h2 => (x_one (x_cmp (op_eqP hr.units) (nomark _) (o_eqP pLd) (x_ix ix_list (o_ixL sqLs (by /-5-/ (try simp only [decide_eq_true_eq, decide_eq_false_iff_not, Bool.and_eq_true, Bool.or_eq_true, Bool.not_eq_true', Bool.not_eq_false'] at h1 h2); decreasing_trivial)) (x_unO (d := []) (x_var (i := 4) rfl) (by /-3-/ (try simp only [decide_eq_true_eq, decide_eq_false_iff_not, Bool.and_eq_true, Bool.or_eq_true, Bool.not_eq_true', Bool.not_eq_false'] at h1 h2); decreasing_trivial)) (x_subt (x_callB call_len T.n_len (by decide +kernel) (n_lenA saLs) (ea_cons (x_unO (d := []) (x_var (i := 4) rfl) (by /-4-/ (try simp only [decide_eq_true_eq, decide_eq_false_iff_not, Bool.and_eq_true, Bool.or_eq_true, Bool.not_eq_true', Bool.not_eq_false'] at h1 h2); decreasing_trivial)) ea_nil)) x_int)) (x_var (i := 2) rfl))))))) ⟨_, rfl⟩
theorem ok_law (T : Tx K mg base) : FnOk P w K mg base CX0 9 T.a_law T.d_law ["_law_script"] (spP (A := (List Int)) (fun x => (x.length ≤ 63)) (fun x => [pu (tL K tI) x]) (fun x => pu tB (m_law x))) := by
  refine fn_ok T.F_law sc_law (fun _ => rfl) fun X vLscript hX hr hpre => ?_
  obtain ⟨cdv, A, outer, s, H, E, rfl⟩ := hX
  replace hpre : vLscript.length ≤ 63 := hpre
  have hz1 : sizeLine = 16777216 := rfl
  have hz2 : scanBound = 4096 := rfl
  have hn := law_n vLscript
  have hc := law_c vLscript
  have hct := hc.1
  have hcu := hc.2
  have hcm := emod_in (a := ix (law_Lnumbers_here1 vLscript) 0) (b := 10) (by decide)
  have h4_ := emod_in (a := ix (law_Lnumbers_here1 vLscript) 0 / 10) (b := 4) (by decide)
  have h5_ := emod_in (a := ix (law_Lnumbers_here1 vLscript) 7) (b := 5) (by decide)
  have htd0 := law_td vLscript
  have hr1 := law_rowsS vLscript _ htd0
  have htg := law_tgt vLscript _ htd0
  have hr2 := law_rows2 vLscript _ htd0
  have htl := htd0.1
  have htd := htd0.2
  have hr1l := hr1.2.1
  have hr1a := hr1.2.2.1
  have hr1b := hr1.2.2.2.1
  have hr1c := hr1.2.2.2.2
  have hr2a := hr2.1
  have hr2b := hr2.2.1
  have hr2c := hr2.2.2.1
  have hr2d := hr2.2.2.2
  have htg1 := htg.1
  have htg2 := htg.2
  show SX _ _ [pu (tL K tI) vLscript, un, un, un, un, un, un, un, un] _
  refine SX.imp (P := RetP (fun z : Bool => pu tB z) (m_law vLscript)) ?_ fun r h => .inl h
  unfold m_law
  refine sx_seq (Γ1 := [pu (tL K tI) vLscript, pu (tLs K tI) (law_Lnumbers_here1 vLscript), un, un, un, un, un, un, un]) (s1_setE (i := 1) sc_law.nd rfl (by first | exact Or.inl rfl | exact Or.inr rfl) (x_val (x_callS (Ss := [pu (tL K tI) vLscript, pu tI (23 : Int)]) (S' := pu (tLs K tI) (m_Lnumbers vLscript (23 : Int))) (ok_Lnumbers T) (hr.mono (by decide)) T.g_Lnumbers T.F_Lnumbers.kp T.b_Lnumbers (vLscript, (23 : Int)) (by /-1-/ (try dsimp only); (try simp only [InIx, CDiv, CMul, CPow, List.length_append, List.length_cons, List.length_nil, List.length_singleton, List.length_map, List.length_reverse, List.length_take, List.length_drop]) <;> first | assumption | omega | decide) (eas_cons (x_var (i := 0) rfl) (eas_cons x_int eas_nil)) rfl rfl) (z := (law_Lnumbers_here1 vLscript)) rfl) (show 1 < 9 by decide) rfl) ?_
  refine sx_seq (Γ1 := [pu (tL K tI) vLscript, pu (tLs K tI) (law_Lnumbers_here1 vLscript), pu tI (law_Lcount1 vLscript), un, un, un, un, un, un]) (s1_setE (i := 2) sc_law.nd rfl (by first | exact Or.inl rfl | exact Or.inr rfl) (x_val (x_ixLits (xs := ([(1 : Int), (2 : Int), (3 : Int), (4 : Int), (5 : Int), (6 : Int), (3 : Int), (4 : Int), (5 : Int), (10 : Int)] : List Int)) rfl (show 10 ≤ sizeLine by decide) (by /-4-/ (try dsimp only); (try simp only [InIx, CDiv, CMul, CPow, List.length_append, List.length_cons, List.length_nil, List.length_singleton, List.length_map, List.length_reverse, List.length_take, List.length_drop]) <;> first | assumption | omega | decide) (x_mod (x_ix ix_list (o_ixL sqLs (by /-2-/ (try dsimp only); (try simp only [InIx, CDiv, CMul, CPow, List.length_append, List.length_cons, List.length_nil, List.length_singleton, List.length_map, List.length_reverse, List.length_take, List.length_drop]) <;> first | assumption | omega | decide)) (x_var (i := 1) rfl) x_int) x_int (by /-3-/ (try dsimp only); (try simp only [InIx, CDiv, CMul, CPow, List.length_append, List.length_cons, List.length_nil, List.length_singleton, List.length_map, List.length_reverse, List.length_take, List.length_drop]) <;> first | assumption | omega | decide))) (z := (law_Lcount1 vLscript)) rfl) (show 2 < 9 by decide) rfl) ?_
  refine sx_seq (Γ1 := [pu (tL K tI) vLscript, pu (tLs K tI) (law_Lnumbers_here1 vLscript), pu tI (law_Lcount1 vLscript), pu (tLs K (tLd K)) (law_Ltold_here1 vLscript), un, un, un, un, un]) (s1_setE (i := 3) sc_law.nd rfl (by first | exact Or.inl rfl | exact Or.inr rfl) (x_val (x_callS (Ss := [pu (tLs K tI) (law_Lnumbers_here1 vLscript), pu tI (1 : Int), pu tI (law_Lcount1 vLscript), pu tI (((ix (law_Lnumbers_here1 vLscript) (0 : Int)) / (10 : Int)) % (4 : Int))]) (S' := pu (tLs K (tLd K)) (m_Ltold (law_Lnumbers_here1 vLscript) (1 : Int) (law_Lcount1 vLscript) (((ix (law_Lnumbers_here1 vLscript) (0 : Int)) / (10 : Int)) % (4 : Int)))) (ok_Ltold T) (hr.mono (by decide)) T.g_Ltold T.F_Ltold.kp T.b_Ltold ((law_Lnumbers_here1 vLscript), (1 : Int), (law_Lcount1 vLscript), (((ix (law_Lnumbers_here1 vLscript) (0 : Int)) / (10 : Int)) % (4 : Int))) (by (try dsimp only); omega) (eas_cons (x_var (i := 1) rfl) (eas_cons x_int (eas_cons (x_var (i := 2) rfl) (eas_cons (x_mod (x_div (x_ix ix_list (o_ixL sqLs (by /-5-/ (try dsimp only); (try simp only [InIx, CDiv, CMul, CPow, List.length_append, List.length_cons, List.length_nil, List.length_singleton, List.length_map, List.length_reverse, List.length_take, List.length_drop]) <;> first | assumption | omega | decide)) (x_var (i := 1) rfl) x_int) x_int (by /-6-/ (try dsimp only); (try simp only [InIx, CDiv, CMul, CPow, List.length_append, List.length_cons, List.length_nil, List.length_singleton, List.length_map, List.length_reverse, List.length_take, List.length_drop]) <;> first | assumption | omega | decide)) x_int (by /-7-/ (try dsimp only); (try simp only [InIx, CDiv, CMul, CPow, List.length_append, List.length_cons, List.length_nil, List.length_singleton, List.length_map, List.length_reverse, List.length_take, List.length_drop]) <;> first | assumption | omega | decide)) eas_nil)))) rfl rfl) (z := (law_Ltold_here1 vLscript)) rfl) (show 3 < 9 by decide) rfl) ?_
  generalize law_Ltold_here1 vLscript = td at *
  refine sx_seq (Γ1 := [pu (tL K tI) vLscript, pu (tLs K tI) (law_Lnumbers_here1 vLscript), pu tI (law_Lcount1 vLscript), pu (tLs K (tLd K)) td, pu (tLs K (tT K (tF K))) (law_Lrows1 vLscript td), un, un, un, un]) (s1_setE (i := 4) sc_law.nd rfl (by first | exact Or.inl rfl | exact Or.inr rfl) (x_val (x_callS (Ss := [pu (tLs K tI) (law_Lnumbers_here1 vLscript), pu tI (8 : Int), pu tI (law_Lcount1 vLscript), pu (tLs K (tLd K)) td, pu tI (((ix (law_Lnumbers_here1 vLscript) (7 : Int)) % (5 : Int)) + (1 : Int))]) (S' := pu (tLs K (tT K (tF K))) (m_Lderivation (law_Lnumbers_here1 vLscript) (8 : Int) (law_Lcount1 vLscript) td (((ix (law_Lnumbers_here1 vLscript) (7 : Int)) % (5 : Int)) + (1 : Int)))) (ok_Lderivation T) (hr.mono (by decide)) T.g_Lderivation T.F_Lderivation.kp T.b_Lderivation ((law_Lnumbers_here1 vLscript), (8 : Int), (law_Lcount1 vLscript), td, (((ix (law_Lnumbers_here1 vLscript) (7 : Int)) % (5 : Int)) + (1 : Int))) (by refine ⟨?_, ?_, ?_, ?_, ?_, ?_, ?_, htd⟩ <;> (try dsimp only) <;> omega) (eas_cons (x_var (i := 1) rfl) (eas_cons x_int (eas_cons (x_var (i := 2) rfl) (eas_cons (x_var (i := 3) rfl) (eas_cons (x_add (x_mod (x_ix ix_list (o_ixL sqLs (by /-9-/ (try dsimp only); (try simp only [InIx, CDiv, CMul, CPow, List.length_append, List.length_cons, List.length_nil, List.length_singleton, List.length_map, List.length_reverse, List.length_take, List.length_drop]) <;> first | assumption | omega | decide)) (x_var (i := 1) rfl) x_int) x_int (by /-10-/ (try dsimp only); (try simp only [InIx, CDiv, CMul, CPow, List.length_append, List.length_cons, List.length_nil, List.length_singleton, List.length_map, List.length_reverse, List.length_take, List.length_drop]) <;> first | assumption | omega | decide)) x_int) eas_nil))))) rfl rfl) (z := (law_Lrows1 vLscript td)) rfl) (show 4 < 9 by decide) rfl) ?_
  refine sx_seq (Γ1 := [pu (tL K tI) vLscript, pu (tLs K tI) (law_Lnumbers_here1 vLscript), pu tI (law_Lcount1 vLscript), pu (tLs K (tLd K)) td, pu (tLs K (tT K (tF K))) (law_Lrows1 vLscript td), pu (tLd K) (law_Ltarget1 vLscript td), un, un, un]) (s1_setE (i := 5) sc_law.nd rfl (by first | exact Or.inl rfl | exact Or.inr rfl) (x_val (x_ix ix_list (o_ixL sqLs (by /-14-/ (try dsimp only); (try simp only [InIx, CDiv, CMul, CPow, List.length_append, List.length_cons, List.length_nil, List.length_singleton, List.length_map, List.length_reverse, List.length_take, List.length_drop]) <;> first | assumption | omega | decide)) (x_unO (d := []) (x_callS (Ss := [pu tI (law_Lcount1 vLscript), pu (tLs K (tLd K)) td, pu (tLs K (tT K (tF K))) (law_Lrows1 vLscript td)]) (S' := pu (tO (tLs K (tLd K))) (m_Lmade (law_Lcount1 vLscript) td (law_Lrows1 vLscript td))) (ok_Lmade T) (hr.mono (by decide)) T.g_Lmade T.F_Lmade.kp T.b_Lmade ((law_Lcount1 vLscript), td, (law_Lrows1 vLscript td)) (by exact ⟨by (try dsimp only); omega, hcu, htd, fun r hr => (hr1c r hr).mono (by decide), by (try dsimp only); omega⟩) (eas_cons (x_var (i := 2) rfl) (eas_cons (x_var (i := 3) rfl) (eas_cons (x_var (i := 4) rfl) eas_nil))) rfl rfl) (by exact hr1.1)) (x_subt (x_callB call_len T.n_len (by decide +kernel) (n_lenA saLs) (ea_cons (x_var (i := 4) rfl) ea_nil)) x_int)) (z := (law_Ltarget1 vLscript td)) rfl) (show 5 < 9 by decide) rfl) ?_
  refine f_ifJ (fun (s : Dep) => [pu (tL K tI) vLscript, pu (tLs K tI) (law_Lnumbers_here1 vLscript), pu tI (law_Lcount1 vLscript), pu (tLs K (tLd K)) td, pu (tLs K (tT K (tF K))) (law_Lrows1 vLscript td), pu (tLd K) s, un, un, un]) (law_j_Ltarget1 vLscript td) (A := (law_Ltarget2 vLscript td)) (B := (law_Ltarget1 vLscript td)) (t_cmp (op_eqD hr.units) (nomark _) (o_eqD dI) (x_mod (x_ix ix_list (o_ixL sqLs (by /-15-/ (try dsimp only); (try simp only [InIx, CDiv, CMul, CPow, List.length_append, List.length_cons, List.length_nil, List.length_singleton, List.length_map, List.length_reverse, List.length_take, List.length_drop]) <;> first | assumption | omega | decide)) (x_var (i := 1) rfl) x_int) x_int (by /-16-/ (try dsimp only); (try simp only [InIx, CDiv, CMul, CPow, List.length_append, List.length_cons, List.length_nil, List.length_singleton, List.length_map, List.length_reverse, List.length_take, List.length_drop]) <;> first | assumption | omega | decide)) x_int) rfl (fun h1 => ?_) (fun h2 => ?_) ?_
  · try simp only [decide_eq_true_eq, decide_eq_false_iff_not, Bool.and_eq_true, Bool.or_eq_true, Bool.not_eq_true', Bool.not_eq_false', Bool.and_eq_false_iff, Bool.or_eq_false_iff] at h1
    refine sx_seq (Γ1 := [pu (tL K tI) vLscript, pu (tLs K tI) (law_Lnumbers_here1 vLscript), pu tI (law_Lcount1 vLscript), pu (tLs K (tLd K)) td, pu (tLs K (tT K (tF K))) (law_Lrows1 vLscript td), pu (tLd K) (law_Ltarget2 vLscript td), un, un, un]) (s1_setE (i := 5) sc_law.nd rfl (by first | exact Or.inl rfl | exact Or.inr rfl) (x_val (x_callS (Ss := [pu tI ((ix (law_Lnumbers_here1 vLscript) (22 : Int)) / (6 : Int)), pu (tLd K) (law_Ltarget1 vLscript td), pu tI (law_Lcount1 vLscript)]) (S' := pu (tLd K) (m_Lother ((ix (law_Lnumbers_here1 vLscript) (22 : Int)) / (6 : Int)) (law_Ltarget1 vLscript td) (law_Lcount1 vLscript))) (ok_Lother T) (hr.mono (by decide)) T.g_Lother T.F_Lother.kp T.b_Lother (((ix (law_Lnumbers_here1 vLscript) (22 : Int)) / (6 : Int)), (law_Ltarget1 vLscript td), (law_Lcount1 vLscript)) (by exact ⟨hct, htg1⟩) (eas_cons (x_div (x_ix ix_list (o_ixL sqLs (by /-17-/ (try dsimp only); (try simp only [InIx, CDiv, CMul, CPow, List.length_append, List.length_cons, List.length_nil, List.length_singleton, List.length_map, List.length_reverse, List.length_take, List.length_drop]) <;> first | assumption | omega | decide)) (x_var (i := 1) rfl) x_int) x_int (by /-18-/ (try dsimp only); (try simp only [InIx, CDiv, CMul, CPow, List.length_append, List.length_cons, List.length_nil, List.length_singleton, List.length_map, List.length_reverse, List.length_take, List.length_drop]) <;> first | assumption | omega | decide)) (eas_cons (x_var (i := 5) rfl) (eas_cons (x_var (i := 2) rfl) eas_nil))) rfl rfl) (z := (law_Ltarget2 vLscript td)) rfl) (show 5 < 9 by decide) rfl) ?_
    exact f_nx ⟨_, rfl, Wk.uns []⟩
  · try simp only [decide_eq_true_eq, decide_eq_false_iff_not, Bool.and_eq_true, Bool.or_eq_true, Bool.not_eq_true', Bool.not_eq_false', Bool.and_eq_false_iff, Bool.or_eq_false_iff] at h2
    exact f_nx ⟨_, rfl, Wk.uns []⟩
  refine sx_seq (Γ1 := [pu (tL K tI) vLscript, pu (tLs K tI) (law_Lnumbers_here1 vLscript), pu tI (law_Lcount1 vLscript), pu (tLs K (tLd K)) td, pu (tLs K (tT K (tF K))) (law_Lrows2 vLscript td), pu (tLd K) (law_j_Ltarget1 vLscript td), un, un, un]) (s1_setE (i := 4) sc_law.nd rfl (by first | exact Or.inl rfl | exact Or.inr rfl) (x_val (x_callS (Ss := [pu tI (ix (law_Lnumbers_here1 vLscript) (18 : Int)), pu tI (ix (law_Lnumbers_here1 vLscript) (19 : Int)), pu (tLs K (tT K (tF K))) (law_Lrows1 vLscript td), pu tI (law_Lcount1 vLscript), pu (tLs K (tLd K)) td]) (S' := pu (tLs K (tT K (tF K))) (m_Lchanged (ix (law_Lnumbers_here1 vLscript) (18 : Int)) (ix (law_Lnumbers_here1 vLscript) (19 : Int)) (law_Lrows1 vLscript td) (law_Lcount1 vLscript) td)) (ok_Lchanged T) (hr.mono (by decide)) T.g_Lchanged T.F_Lchanged.kp T.b_Lchanged ((ix (law_Lnumbers_here1 vLscript) (18 : Int)), (ix (law_Lnumbers_here1 vLscript) (19 : Int)), (law_Lrows1 vLscript td), (law_Lcount1 vLscript), td) (by exact ⟨hct, by (try dsimp only); omega, by (try dsimp only); omega, fun r hr => (hr1c r hr).mono (by decide)⟩) (eas_cons (x_ix ix_list (o_ixL sqLs (by /-20-/ (try dsimp only); (try simp only [InIx, CDiv, CMul, CPow, List.length_append, List.length_cons, List.length_nil, List.length_singleton, List.length_map, List.length_reverse, List.length_take, List.length_drop]) <;> first | assumption | omega | decide)) (x_var (i := 1) rfl) x_int) (eas_cons (x_ix ix_list (o_ixL sqLs (by /-21-/ (try dsimp only); (try simp only [InIx, CDiv, CMul, CPow, List.length_append, List.length_cons, List.length_nil, List.length_singleton, List.length_map, List.length_reverse, List.length_take, List.length_drop]) <;> first | assumption | omega | decide)) (x_var (i := 1) rfl) x_int) (eas_cons (x_var (i := 4) rfl) (eas_cons (x_var (i := 2) rfl) (eas_cons (x_var (i := 3) rfl) eas_nil))))) rfl rfl) (z := (law_Lrows2 vLscript td)) rfl) (show 4 < 9 by decide) rfl) ?_
  refine f_ifJ (fun (s : (List (List FV))) => [pu (tL K tI) vLscript, pu (tLs K tI) (law_Lnumbers_here1 vLscript), pu tI (law_Lcount1 vLscript), pu (tLs K (tLd K)) td, pu (tLs K (tT K (tF K))) s, pu (tLd K) (law_j_Ltarget1 vLscript td), un, un, un]) (law_j_Lrows1 vLscript td) (A := (law_Lrows3 vLscript td)) (B := (law_Lrows2 vLscript td)) (t_cmp (op_eqD hr.units) (nomark _) (o_eqD dI) (x_mod (x_div (x_ix ix_list (o_ixL sqLs (by /-23-/ (try dsimp only); (try simp only [InIx, CDiv, CMul, CPow, List.length_append, List.length_cons, List.length_nil, List.length_singleton, List.length_map, List.length_reverse, List.length_take, List.length_drop]) <;> first | assumption | omega | decide)) (x_var (i := 1) rfl) x_int) x_int (by /-24-/ (try dsimp only); (try simp only [InIx, CDiv, CMul, CPow, List.length_append, List.length_cons, List.length_nil, List.length_singleton, List.length_map, List.length_reverse, List.length_take, List.length_drop]) <;> first | assumption | omega | decide)) x_int (by /-25-/ (try dsimp only); (try simp only [InIx, CDiv, CMul, CPow, List.length_append, List.length_cons, List.length_nil, List.length_singleton, List.length_map, List.length_reverse, List.length_take, List.length_drop]) <;> first | assumption | omega | decide)) x_int) rfl (fun h3 => ?_) (fun h4 => ?_) ?_
  · try simp only [decide_eq_true_eq, decide_eq_false_iff_not, Bool.and_eq_true, Bool.or_eq_true, Bool.not_eq_true', Bool.not_eq_false', Bool.and_eq_false_iff, Bool.or_eq_false_iff] at h3
    refine sx_seq (Γ1 := [pu (tL K tI) vLscript, pu (tLs K tI) (law_Lnumbers_here1 vLscript), pu tI (law_Lcount1 vLscript), pu (tLs K (tLd K)) td, pu (tLs K (tT K (tF K))) (law_Lrows3 vLscript td), pu (tLd K) (law_j_Ltarget1 vLscript td), un, un, un]) (s1_setE (i := 4) sc_law.nd rfl (by first | exact Or.inl rfl | exact Or.inr rfl) (x_val (x_callS (Ss := [pu tI (ix (law_Lnumbers_here1 vLscript) (20 : Int)), pu tI (ix (law_Lnumbers_here1 vLscript) (21 : Int)), pu (tLs K (tT K (tF K))) (law_Lrows2 vLscript td), pu tI (law_Lcount1 vLscript), pu (tLs K (tLd K)) td]) (S' := pu (tLs K (tT K (tF K))) (m_Lchanged (ix (law_Lnumbers_here1 vLscript) (20 : Int)) (ix (law_Lnumbers_here1 vLscript) (21 : Int)) (law_Lrows2 vLscript td) (law_Lcount1 vLscript) td)) (ok_Lchanged T) (hr.mono (by decide)) T.g_Lchanged T.F_Lchanged.kp T.b_Lchanged ((ix (law_Lnumbers_here1 vLscript) (20 : Int)), (ix (law_Lnumbers_here1 vLscript) (21 : Int)), (law_Lrows2 vLscript td), (law_Lcount1 vLscript), td) (by exact ⟨hct, by (try dsimp only); omega, by (try dsimp only); omega, fun r hr => (hr2a r hr).mono (by decide)⟩) (eas_cons (x_ix ix_list (o_ixL sqLs (by /-26-/ (try dsimp only); (try simp only [InIx, CDiv, CMul, CPow, List.length_append, List.length_cons, List.length_nil, List.length_singleton, List.length_map, List.length_reverse, List.length_take, List.length_drop]) <;> first | assumption | omega | decide)) (x_var (i := 1) rfl) x_int) (eas_cons (x_ix ix_list (o_ixL sqLs (by /-27-/ (try dsimp only); (try simp only [InIx, CDiv, CMul, CPow, List.length_append, List.length_cons, List.length_nil, List.length_singleton, List.length_map, List.length_reverse, List.length_take, List.length_drop]) <;> first | assumption | omega | decide)) (x_var (i := 1) rfl) x_int) (eas_cons (x_var (i := 4) rfl) (eas_cons (x_var (i := 2) rfl) (eas_cons (x_var (i := 3) rfl) eas_nil))))) rfl rfl) (z := (law_Lrows3 vLscript td)) rfl) (show 4 < 9 by decide) rfl) ?_
    exact f_nx ⟨_, rfl, Wk.uns []⟩
  · try simp only [decide_eq_true_eq, decide_eq_false_iff_not, Bool.and_eq_true, Bool.or_eq_true, Bool.not_eq_true', Bool.not_eq_false', Bool.and_eq_false_iff, Bool.or_eq_false_iff] at h4
    exact f_nx ⟨_, rfl, Wk.uns []⟩
  refine sx_seq (s1_setLcV (i := 6) (v := (law_Lobjects1 vLscript td)) rfl sc_law.nd rfl rfl (sw_true rfl rfl rfl (by decide +kernel)) (show 6 < 9 by decide) (w_list sqLs (x_var (i := 3) rfl)) (blkOk_by (own := [("_law_one", 7)]) (N := N_law) (sc := defScope s_law) (by decide +kernel)) (fun _ _ _ _ _ => (pg_name (i := 7) sc_law.nd rfl (by first | exact Or.inl rfl | exact Or.inr rfl))) (tg_name (show 7 < 9 by decide)) (fun (x5 : Dep) => true) (fun (x5 : Dep) => (m_Lobject x5)) (fun _ _ _ _ _ ix5 x5 hxx5 => is_nil) (fun _ _ _ _ _ ix5 x5 hxx5 hpx5 => (x_callS (Ss := [pu (tLd K) x5]) (S' := pu (tDep K T.c_Fd T.c_Mvd T.c_Jd (tT K (tT K tI))) (m_Lobject x5)) (ok_Lobject T) (by exact hr.mono (by decide)) T.g_Lobject T.F_Lobject.kp T.b_Lobject x5 (by exact htd _ (w_at hxx5).2) (eas_cons (x_var (i := 7) rfl) eas_nil) rfl rfl)) lc_all) ?_
  show SX _ _ [pu (tL K tI) vLscript, pu (tLs K tI) (law_Lnumbers_here1 vLscript), pu tI (law_Lcount1 vLscript), pu (tLs K (tLd K)) td, pu (tLs K (tT K (tF K))) (law_j_Lrows1 vLscript td), pu (tLd K) (law_j_Ltarget1 vLscript td), ol (tDep K T.c_Fd T.c_Mvd T.c_Jd (tT K (tT K tI))) (law_Lobjects1 vLscript td), un, un] _
  refine SX.wk (Γ' := [pu (tL K tI) vLscript, pu (tLs K tI) (law_Lnumbers_here1 vLscript), pu tI (law_Lcount1 vLscript), pu (tLs K (tLd K)) td, pu (tLs K (tT K (tF K))) (law_j_Lrows1 vLscript td), pu (tLd K) (law_j_Ltarget1 vLscript td), pu (tLs K (tDep K T.c_Fd T.c_Mvd T.c_Jd (tT K (tT K tI)))) (law_Lobjects1 vLscript td), un, un]) (Wk.frz K (i := 6) rfl) ?_
  refine sx_seq (Γ1 := [pu (tL K tI) vLscript, pu (tLs K tI) (law_Lnumbers_here1 vLscript), pu tI (law_Lcount1 vLscript), pu (tLs K (tLd K)) td, pu (tLs K (tT K (tF K))) (law_j_Lrows1 vLscript td), pu (tLd K) (law_j_Ltarget1 vLscript td), pu (tLs K (tDep K T.c_Fd T.c_Mvd T.c_Jd (tT K (tT K tI)))) (law_Lobjects1 vLscript td), un, pu tB (law_Lactual1 vLscript td)]) (s1_setE (i := 8) sc_law.nd rfl (by first | exact Or.inl rfl | exact Or.inr rfl) (x_val (x_callS (Ss := [pu tI (law_Lcount1 vLscript), pu (tLs K (tDep K T.c_Fd T.c_Mvd T.c_Jd (tT K (tT K tI)))) (law_Lobjects1 vLscript td), pu (tDep K T.c_Fd T.c_Mvd T.c_Jd (tT K (tT K tI))) (m_Lobject (law_j_Ltarget1 vLscript td)), pu tB true, pu (tP2 K tS (tT K (tT K (tF K)))) (("derived" : PySem.Str), (law_j_Lrows1 vLscript td))]) (S' := pu tB (m_takes (law_Lcount1 vLscript) (law_Lobjects1 vLscript td) (m_Lobject (law_j_Ltarget1 vLscript td)) true (("derived" : PySem.Str), (law_j_Lrows1 vLscript td)))) (ok_takes T) (hr.mono (by decide)) T.g_takes T.F_takes.kp T.b_takes ((law_Lcount1 vLscript), (law_Lobjects1 vLscript td), (m_Lobject (law_j_Ltarget1 vLscript td)), true, (("derived" : PySem.Str), (law_j_Lrows1 vLscript td))) (by exact ⟨rfl, by (try dsimp only); omega, hcu, (by rw [show law_Lobjects1 vLscript td = td from objects_self htd]; exact htd), hr2c, by (try dsimp only); omega⟩) (eas_cons (x_var (i := 2) rfl) (eas_cons (x_var (i := 6) rfl) (eas_cons (x_callS (Ss := [pu (tLd K) (law_j_Ltarget1 vLscript td)]) (S' := pu (tDep K T.c_Fd T.c_Mvd T.c_Jd (tT K (tT K tI))) (m_Lobject (law_j_Ltarget1 vLscript td))) (ok_Lobject T) (hr.mono (by decide)) T.g_Lobject T.F_Lobject.kp T.b_Lobject (law_j_Ltarget1 vLscript td) (by exact htg2) (eas_cons (x_var (i := 5) rfl) eas_nil) rfl rfl) (eas_cons x_bl (eas_cons (x_tup (n_p2 (K := K) (R1 := tS) (R2' := (tT K (tT K (tF K))))) (ea_cons x_str (ea_cons (x_callT call_tuple_of T.n_tuple (by decide +kernel) (n_tupleL sqLs) (ea_cons (x_var (i := 4) rfl) ea_nil)) ea_nil))) eas_nil))))) rfl rfl) (z := (law_Lactual1 vLscript td)) rfl) (show 8 < 9 by decide) rfl) ?_
  exact sx_ret (x_and (x_callB call_isi T.n_isinstance (by decide +kernel) (n_isi (b := true) typ_tB (.ty "bool") (kit_ty (by decide +kernel))) (ea_cons (x_var (i := 8) rfl) (ea_cons (x_ty (n := "bool") T.n_bool (by decide +kernel)) ea_nil))) (fun h6 => (x_one (x_cmp (op_eqD hr.units) (nomark _) (o_eqD dB) (x_var (i := 8) rfl) (x_callS (Ss := [pu tI (law_Lcount1 vLscript), pu (tLs K (tLd K)) td, pu (tLd K) (law_j_Ltarget1 vLscript td), pu (tLs K (tT K (tF K))) (law_j_Lrows1 vLscript td)]) (S' := pu tB (m_Lderives (law_Lcount1 vLscript) td (law_j_Ltarget1 vLscript td) (law_j_Lrows1 vLscript td))) (ok_Lderives T) (hr.mono (by decide)) T.g_Lderives T.F_Lderives.kp T.b_Lderives ((law_Lcount1 vLscript), td, (law_j_Ltarget1 vLscript td), (law_j_Lrows1 vLscript td)) (by exact ⟨by (try dsimp only); omega, hcu, htd, hr2c, by (try dsimp only); omega⟩) (eas_cons (x_var (i := 2) rfl) (eas_cons (x_var (i := 3) rfl) (eas_cons (x_var (i := 5) rfl) (eas_cons (x_var (i := 4) rfl) eas_nil)))) rfl rfl))))) ⟨_, rfl⟩
end
theorem ix_neg {ms : List Dep} (h : 1 ≤ ms.length) : ix ms (-1) = ix ms ((ms.length : Int) - 1) := by
  obtain ⟨d, hd⟩ : ∃ d, ms = ms.dropLast ++ [d] := ⟨ms.getLast (by intro e; rw [e] at h; simp at h), (List.dropLast_concat_getLast _).symm⟩
  have e : ix ms (-1) = d := by rw [hd]; exact ix_last'
  rw [e, ix_nat (xs := ms) (i := (ms.length : Int) - 1) (by omega) (by omega)]
  have hl : ((ms.length : Int) - 1).toNat = ms.length - 1 := by omega
  simp only [hl]
  have : ms[ms.length - 1]? = some d := by
    rw [hd]
    simp
  exact ((List.getElem?_eq_some_iff.mp this).2).symm
theorem law_true (v : List Int) (_ : v.length ≤ 63) : m_law v = true := by
  have ht := law_td v
  have hc := law_c v
  unfold m_law
  generalize law_Ltold_here1 v = td at *
  have htg := (law_tgt v td ht).2
  have hr := (law_rows2 v td ht).2.2.1
  rw [Bool.true_and, decide_eq_true_eq]
  unfold law_Lactual1 m_Lderives
  rw [show law_Lobjects1 v td = td from objects_self ht.2, object_self htg, takes_true, derives_is hc.2 ht.2 hr, show Lderives_Lmade_here1 (law_Lcount1 v) td (law_j_Ltarget1 v td) (law_j_Lrows1 v td) = m_Lmade (law_Lcount1 v) td (law_j_Lrows1 v td) from rfl, made_is]
  cases mrun (law_Lcount1 v) td [] (law_j_Lrows1 v td) with
  | none => rfl
  | some ms =>
    simp only [Option.isSome_some, Option.getD_some, Bool.true_and]
    by_cases h : 1 ≤ ms.length
    · rw [ix_neg h]
    · rw [decide_eq_false (show ¬ (0 : Int) < (ms.length : Int) by omega), Bool.false_and, Bool.false_and]
def spL [Tb] (K : PySem.W.Frag) : Sp := spP (A := List Int) (fun x => (x.length ≤ 63)) (fun x => [pu (tL K tI) x]) (fun x => pu tB (m_law x))
theorem all_mk {l : PySem.W.OpenLaw} {q : Program} {w : World} {K : PySem.W.Frag} {h : Heap} {mg : Str → Option Value} {fa : Addr} (X : K.In h) (G : h.Ns mainGlobals mg) (hfa : mg "law" = some (.ref fa))
    {f_Lnumbers : Addr} {oc1 kV1 dc1 pm1 cd1 ct1 : Value} {od1 an1 : Option Addr} {sl1 : Array (Option Value)}
    {f_Lsparse : Addr} {oc2 kV2 dc2 pm2 cd2 ct2 : Value} {od2 an2 : Option Addr} {sl2 : Array (Option Value)}
    {f_Lless : Addr} {oc3 kV3 dc3 pm3 cd3 ct3 : Value} {od3 an3 : Option Addr} {sl3 : Array (Option Value)}
    {f_Lunited : Addr} {oc4 kV4 dc4 pm4 cd4 ct4 : Value} {od4 an4 : Option Addr} {sl4 : Array (Option Value)}
    {f_Ldependency : Addr} {oc5 kV5 dc5 pm5 cd5 ct5 : Value} {od5 an5 : Option Addr} {sl5 : Array (Option Value)}
    {f_Ltold : Addr} {oc6 kV6 dc6 pm6 cd6 ct6 : Value} {od6 an6 : Option Addr} {sl6 : Array (Option Value)}
    {f_Lmet : Addr} {oc7 kV7 dc7 pm7 cd7 ct7 : Value} {od7 an7 : Option Addr} {sl7 : Array (Option Value)}
    {f_Lset : Addr} {oc8 kV8 dc8 pm8 cd8 ct8 : Value} {od8 an8 : Option Addr} {sl8 : Array (Option Value)}
    {f_Ltried : Addr} {oc9 kV9 dc9 pm9 cd9 ct9 : Value} {od9 an9 : Option Addr} {sl9 : Array (Option Value)}
    {f_Lis_set : Addr} {oc10 kV10 dc10 pm10 cd10 ct10 : Value} {od10 an10 : Option Addr} {sl10 : Array (Option Value)}
    {f_Lis_within : Addr} {oc11 kV11 dc11 pm11 cd11 ct11 : Value} {od11 an11 : Option Addr} {sl11 : Array (Option Value)}
    {f_Lof_two : Addr} {oc12 kV12 dc12 pm12 cd12 ct12 : Value} {od12 an12 : Option Addr} {sl12 : Array (Option Value)}
    {f_Lof_one : Addr} {oc13 kV13 dc13 pm13 cd13 ct13 : Value} {od13 an13 : Option Addr} {sl13 : Array (Option Value)}
    {f_Lrow : Addr} {oc14 kV14 dc14 pm14 cd14 ct14 : Value} {od14 an14 : Option Addr} {sl14 : Array (Option Value)}
    {f_Lnext : Addr} {oc15 kV15 dc15 pm15 cd15 ct15 : Value} {od15 an15 : Option Addr} {sl15 : Array (Option Value)}
    {f_Lderivation : Addr} {oc16 kV16 dc16 pm16 cd16 ct16 : Value} {od16 an16 : Option Addr} {sl16 : Array (Option Value)}
    {f_Lmade : Addr} {oc17 kV17 dc17 pm17 cd17 ct17 : Value} {od17 an17 : Option Addr} {sl17 : Array (Option Value)}
    {f_Ltoggled : Addr} {oc18 kV18 dc18 pm18 cd18 ct18 : Value} {od18 an18 : Option Addr} {sl18 : Array (Option Value)}
    {f_Lother : Addr} {oc19 kV19 dc19 pm19 cd19 ct19 : Value} {od19 an19 : Option Addr} {sl19 : Array (Option Value)}
    {f_Lother_word : Addr} {oc20 kV20 dc20 pm20 cd20 ct20 : Value} {od20 an20 : Option Addr} {sl20 : Array (Option Value)}
    {f_Lbent_set : Addr} {oc21 kV21 dc21 pm21 cd21 ct21 : Value} {od21 an21 : Option Addr} {sl21 : Array (Option Value)}
    {f_Lbent_row : Addr} {oc22 kV22 dc22 pm22 cd22 ct22 : Value} {od22 an22 : Option Addr} {sl22 : Array (Option Value)}
    {f_Lchanged : Addr} {oc23 kV23 dc23 pm23 cd23 ct23 : Value} {od23 an23 : Option Addr} {sl23 : Array (Option Value)}
    {f_as_set : Addr} {oc24 kV24 dc24 pm24 cd24 ct24 : Value} {od24 an24 : Option Addr} {sl24 : Array (Option Value)}
    {f_Sides_init : Addr} {oc25 kV25 dc25 pm25 cd25 ct25 : Value} {od25 an25 : Option Addr} {sl25 : Array (Option Value)}
    {f_Jd_init : Addr} {oc26 kV26 dc26 pm26 cd26 ct26 : Value} {od26 an26 : Option Addr} {sl26 : Array (Option Value)}
    {f_Lobject : Addr} {oc27 kV27 dc27 pm27 cd27 ct27 : Value} {od27 an27 : Option Addr} {sl27 : Array (Option Value)}
    {f_by_told : Addr} {oc28 kV28 dc28 pm28 cd28 ct28 : Value} {od28 an28 : Option Addr} {sl28 : Array (Option Value)}
    {f_is_within : Addr} {oc29 kV29 dc29 pm29 cd29 ct29 : Value} {od29 an29 : Option Addr} {sl29 : Array (Option Value)}
    {f_whole : Addr} {oc30 kV30 dc30 pm30 cd30 ct30 : Value} {od30 an30 : Option Addr} {sl30 : Array (Option Value)}
    {f_is_set : Addr} {oc31 kV31 dc31 pm31 cd31 ct31 : Value} {od31 an31 : Option Addr} {sl31 : Array (Option Value)}
    {f_by_within : Addr} {oc32 kV32 dc32 pm32 cd32 ct32 : Value} {od32 an32 : Option Addr} {sl32 : Array (Option Value)}
    {f_earlier : Addr} {oc33 kV33 dc33 pm33 cd33 ct33 : Value} {od33 an33 : Option Addr} {sl33 : Array (Option Value)}
    {f_by_through : Addr} {oc34 kV34 dc34 pm34 cd34 ct34 : Value} {od34 an34 : Option Addr} {sl34 : Array (Option Value)}
    {f_less : Addr} {oc35 kV35 dc35 pm35 cd35 ct35 : Value} {od35 an35 : Option Addr} {sl35 : Array (Option Value)}
    {f_by_beyond : Addr} {oc36 kV36 dc36 pm36 cd36 ct36 : Value} {od36 an36 : Option Addr} {sl36 : Array (Option Value)}
    {f_met : Addr} {oc37 kV37 dc37 pm37 cd37 ct37 : Value} {od37 an37 : Option Addr} {sl37 : Array (Option Value)}
    {f_by_meets : Addr} {oc38 kV38 dc38 pm38 cd38 ct38 : Value} {od38 an38 : Option Addr} {sl38 : Array (Option Value)}
    {f_of_two : Addr} {oc39 kV39 dc39 pm39 cd39 ct39 : Value} {od39 an39 : Option Addr} {sl39 : Array (Option Value)}
    {f_united : Addr} {oc40 kV40 dc40 pm40 cd40 ct40 : Value} {od40 an40 : Option Addr} {sl40 : Array (Option Value)}
    {f_by_with : Addr} {oc41 kV41 dc41 pm41 cd41 ct41 : Value} {od41 an41 : Option Addr} {sl41 : Array (Option Value)}
    {f_by_also : Addr} {oc42 kV42 dc42 pm42 cd42 ct42 : Value} {od42 an42 : Option Addr} {sl42 : Array (Option Value)}
    {f_by_other : Addr} {oc43 kV43 dc43 pm43 cd43 ct43 : Value} {od43 an43 : Option Addr} {sl43 : Array (Option Value)}
    {f_by_wide : Addr} {oc44 kV44 dc44 pm44 cd44 ct44 : Value} {od44 an44 : Option Addr} {sl44 : Array (Option Value)}
    {f_of_one : Addr} {oc45 kV45 dc45 pm45 cd45 ct45 : Value} {od45 an45 : Option Addr} {sl45 : Array (Option Value)}
    {f_row_tells : Addr} {oc46 kV46 dc46 pm46 cd46 ct46 : Value} {od46 an46 : Option Addr} {sl46 : Array (Option Value)}
    {f_Sides_key : Addr} {oc47 kV47 dc47 pm47 cd47 ct47 : Value} {od47 an47 : Option Addr} {sl47 : Array (Option Value)}
    {f_Fd_eq : Addr} {oc48 kV48 dc48 pm48 cd48 ct48 : Value} {od48 an48 : Option Addr} {sl48 : Array (Option Value)}
    {f_Mvd_eq : Addr} {oc49 kV49 dc49 pm49 cd49 ct49 : Value} {od49 an49 : Option Addr} {sl49 : Array (Option Value)}
    {f_Jd_eq : Addr} {oc50 kV50 dc50 pm50 cd50 ct50 : Value} {od50 an50 : Option Addr} {sl50 : Array (Option Value)}
    {f_derives : Addr} {oc51 kV51 dc51 pm51 cd51 ct51 : Value} {od51 an51 : Option Addr} {sl51 : Array (Option Value)}
    {f_takes : Addr} {oc52 kV52 dc52 pm52 cd52 ct52 : Value} {od52 an52 : Option Addr} {sl52 : Array (Option Value)}
    {f_Lderives : Addr} {oc53 kV53 dc53 pm53 cd53 ct53 : Value} {od53 an53 : Option Addr} {sl53 : Array (Option Value)}
    {f_law : Addr} {oc54 kV54 dc54 pm54 cd54 ct54 : Value} {od54 an54 : Option Addr} {sl54 : Array (Option Value)}
    {C_Fd : Addr}
    {C_Mvd : Addr}
    {C_Jd : Addr}
    {p_Fd_key : Addr} {rs_Fd_key : List Value}
    {p_Mvd_key : Addr} {rs_Mvd_key : List Value}
    (g1 : PySem.W.nsIn K mainGlobals "_law_numbers" = some (some (.ref f_Lnumbers)))
    (g2 : PySem.W.nsIn K mainGlobals "_law_sparse" = some (some (.ref f_Lsparse)))
    (g3 : PySem.W.nsIn K mainGlobals "_law_less" = some (some (.ref f_Lless)))
    (g4 : PySem.W.nsIn K mainGlobals "_law_united" = some (some (.ref f_Lunited)))
    (g5 : PySem.W.nsIn K mainGlobals "_law_dependency" = some (some (.ref f_Ldependency)))
    (g6 : PySem.W.nsIn K mainGlobals "_law_told" = some (some (.ref f_Ltold)))
    (g7 : PySem.W.nsIn K mainGlobals "_law_met" = some (some (.ref f_Lmet)))
    (g8 : PySem.W.nsIn K mainGlobals "_law_set" = some (some (.ref f_Lset)))
    (g9 : PySem.W.nsIn K mainGlobals "_law_tried" = some (some (.ref f_Ltried)))
    (g10 : PySem.W.nsIn K mainGlobals "_law_is_set" = some (some (.ref f_Lis_set)))
    (g11 : PySem.W.nsIn K mainGlobals "_law_is_within" = some (some (.ref f_Lis_within)))
    (g12 : PySem.W.nsIn K mainGlobals "_law_of_two" = some (some (.ref f_Lof_two)))
    (g13 : PySem.W.nsIn K mainGlobals "_law_of_one" = some (some (.ref f_Lof_one)))
    (g14 : PySem.W.nsIn K mainGlobals "_law_row" = some (some (.ref f_Lrow)))
    (g15 : PySem.W.nsIn K mainGlobals "_law_next" = some (some (.ref f_Lnext)))
    (g16 : PySem.W.nsIn K mainGlobals "_law_derivation" = some (some (.ref f_Lderivation)))
    (g17 : PySem.W.nsIn K mainGlobals "_law_made" = some (some (.ref f_Lmade)))
    (g18 : PySem.W.nsIn K mainGlobals "_law_toggled" = some (some (.ref f_Ltoggled)))
    (g19 : PySem.W.nsIn K mainGlobals "_law_other" = some (some (.ref f_Lother)))
    (g20 : PySem.W.nsIn K mainGlobals "_law_other_word" = some (some (.ref f_Lother_word)))
    (g21 : PySem.W.nsIn K mainGlobals "_law_bent_set" = some (some (.ref f_Lbent_set)))
    (g22 : PySem.W.nsIn K mainGlobals "_law_bent_row" = some (some (.ref f_Lbent_row)))
    (g23 : PySem.W.nsIn K mainGlobals "_law_changed" = some (some (.ref f_Lchanged)))
    (g24 : PySem.W.nsIn K mainGlobals "as_set" = some (some (.ref f_as_set)))
    (g27 : PySem.W.nsIn K mainGlobals "_law_object" = some (some (.ref f_Lobject)))
    (g28 : PySem.W.nsIn K mainGlobals "by_told" = some (some (.ref f_by_told)))
    (g29 : PySem.W.nsIn K mainGlobals "is_within" = some (some (.ref f_is_within)))
    (g30 : PySem.W.nsIn K mainGlobals "whole" = some (some (.ref f_whole)))
    (g31 : PySem.W.nsIn K mainGlobals "is_set" = some (some (.ref f_is_set)))
    (g32 : PySem.W.nsIn K mainGlobals "by_within" = some (some (.ref f_by_within)))
    (g33 : PySem.W.nsIn K mainGlobals "earlier" = some (some (.ref f_earlier)))
    (g34 : PySem.W.nsIn K mainGlobals "by_through" = some (some (.ref f_by_through)))
    (g35 : PySem.W.nsIn K mainGlobals "less" = some (some (.ref f_less)))
    (g36 : PySem.W.nsIn K mainGlobals "by_beyond" = some (some (.ref f_by_beyond)))
    (g37 : PySem.W.nsIn K mainGlobals "met" = some (some (.ref f_met)))
    (g38 : PySem.W.nsIn K mainGlobals "by_meets" = some (some (.ref f_by_meets)))
    (g39 : PySem.W.nsIn K mainGlobals "of_two" = some (some (.ref f_of_two)))
    (g40 : PySem.W.nsIn K mainGlobals "united" = some (some (.ref f_united)))
    (g41 : PySem.W.nsIn K mainGlobals "by_with" = some (some (.ref f_by_with)))
    (g42 : PySem.W.nsIn K mainGlobals "by_also" = some (some (.ref f_by_also)))
    (g43 : PySem.W.nsIn K mainGlobals "by_other" = some (some (.ref f_by_other)))
    (g44 : PySem.W.nsIn K mainGlobals "by_wide" = some (some (.ref f_by_wide)))
    (g45 : PySem.W.nsIn K mainGlobals "of_one" = some (some (.ref f_of_one)))
    (g46 : PySem.W.nsIn K mainGlobals "row_tells" = some (some (.ref f_row_tells)))
    (g51 : PySem.W.nsIn K mainGlobals "derives" = some (some (.ref f_derives)))
    (g52 : PySem.W.nsIn K mainGlobals "takes" = some (some (.ref f_takes)))
    (g53 : PySem.W.nsIn K mainGlobals "_law_derives" = some (some (.ref f_Lderives)))
    (g54 : PySem.W.nsIn K mainGlobals "law" = some (some (.ref f_law)))
    (g_Fd : PySem.W.nsIn K mainGlobals "Fd" = some (some (.ref C_Fd)))
    (g_Mvd : PySem.W.nsIn K mainGlobals "Mvd" = some (some (.ref C_Mvd)))
    (g_Jd : PySem.W.nsIn K mainGlobals "Jd" = some (some (.ref C_Jd)))
    (in_Fd : PySem.W.findIn K (.ref C_Fd) "__init__" = some (some (.ref f_Sides_init)))
    (in_Mvd : PySem.W.findIn K (.ref C_Mvd) "__init__" = some (some (.ref f_Sides_init)))
    (in_Jd : PySem.W.findIn K (.ref C_Jd) "__init__" = some (some (.ref f_Jd_init)))
    (in_p1_Fd_key : PySem.W.findIn K (.ref C_Fd) "key" = some (some (.ref p_Fd_key)))
    (in_p2_Fd_key : PySem.W.recIn K p_Fd_key "property" = some (.ref f_Sides_key :: rs_Fd_key))
    (in_p1_Mvd_key : PySem.W.findIn K (.ref C_Mvd) "key" = some (some (.ref p_Mvd_key)))
    (in_p2_Mvd_key : PySem.W.recIn K p_Mvd_key "property" = some (.ref f_Sides_key :: rs_Mvd_key))
    (in_eq_Fd : PySem.W.findIn K (.ref C_Fd) "__eq__" = some (some (.ref f_Fd_eq)))
    (in_eq_Mvd : PySem.W.findIn K (.ref C_Mvd) "__eq__" = some (some (.ref f_Mvd_eq)))
    (in_eq_Jd : PySem.W.findIn K (.ref C_Jd) "__eq__" = some (some (.ref f_Jd_eq)))
    (l1 : K.lookup f_Lnumbers = some ⟨oc1, od1, .func (PySem.W.fnOf "_law_numbers" "_law_numbers" (defArgs s_Lnumbers) (defBody s_Lnumbers) (defScope s_Lnumbers) .none kV1 dc1 pm1 an1 cd1 ct1), sl1⟩)
    (c1 : PySem.W.codeIn K cd1 "_law_numbers" = true)
    (k1 : PySem.W.keepIn K (.ref f_Lnumbers) = true)
    (l2 : K.lookup f_Lsparse = some ⟨oc2, od2, .func (PySem.W.fnOf "_law_sparse" "_law_sparse" (defArgs s_Lsparse) (defBody s_Lsparse) (defScope s_Lsparse) .none kV2 dc2 pm2 an2 cd2 ct2), sl2⟩)
    (c2 : PySem.W.codeIn K cd2 "_law_sparse" = true)
    (k2 : PySem.W.keepIn K (.ref f_Lsparse) = true)
    (l3 : K.lookup f_Lless = some ⟨oc3, od3, .func (PySem.W.fnOf "_law_less" "_law_less" (defArgs s_Lless) (defBody s_Lless) (defScope s_Lless) .none kV3 dc3 pm3 an3 cd3 ct3), sl3⟩)
    (c3 : PySem.W.codeIn K cd3 "_law_less" = true)
    (k3 : PySem.W.keepIn K (.ref f_Lless) = true)
    (l4 : K.lookup f_Lunited = some ⟨oc4, od4, .func (PySem.W.fnOf "_law_united" "_law_united" (defArgs s_Lunited) (defBody s_Lunited) (defScope s_Lunited) .none kV4 dc4 pm4 an4 cd4 ct4), sl4⟩)
    (c4 : PySem.W.codeIn K cd4 "_law_united" = true)
    (k4 : PySem.W.keepIn K (.ref f_Lunited) = true)
    (l5 : K.lookup f_Ldependency = some ⟨oc5, od5, .func (PySem.W.fnOf "_law_dependency" "_law_dependency" (defArgs s_Ldependency) (defBody s_Ldependency) (defScope s_Ldependency) .none kV5 dc5 pm5 an5 cd5 ct5), sl5⟩)
    (c5 : PySem.W.codeIn K cd5 "_law_dependency" = true)
    (k5 : PySem.W.keepIn K (.ref f_Ldependency) = true)
    (l6 : K.lookup f_Ltold = some ⟨oc6, od6, .func (PySem.W.fnOf "_law_told" "_law_told" (defArgs s_Ltold) (defBody s_Ltold) (defScope s_Ltold) .none kV6 dc6 pm6 an6 cd6 ct6), sl6⟩)
    (c6 : PySem.W.codeIn K cd6 "_law_told" = true)
    (k6 : PySem.W.keepIn K (.ref f_Ltold) = true)
    (l7 : K.lookup f_Lmet = some ⟨oc7, od7, .func (PySem.W.fnOf "_law_met" "_law_met" (defArgs s_Lmet) (defBody s_Lmet) (defScope s_Lmet) .none kV7 dc7 pm7 an7 cd7 ct7), sl7⟩)
    (c7 : PySem.W.codeIn K cd7 "_law_met" = true)
    (k7 : PySem.W.keepIn K (.ref f_Lmet) = true)
    (l8 : K.lookup f_Lset = some ⟨oc8, od8, .func (PySem.W.fnOf "_law_set" "_law_set" (defArgs s_Lset) (defBody s_Lset) (defScope s_Lset) .none kV8 dc8 pm8 an8 cd8 ct8), sl8⟩)
    (c8 : PySem.W.codeIn K cd8 "_law_set" = true)
    (k8 : PySem.W.keepIn K (.ref f_Lset) = true)
    (l9 : K.lookup f_Ltried = some ⟨oc9, od9, .func (PySem.W.fnOf "_law_tried" "_law_tried" (defArgs s_Ltried) (defBody s_Ltried) (defScope s_Ltried) .none kV9 dc9 pm9 an9 cd9 ct9), sl9⟩)
    (c9 : PySem.W.codeIn K cd9 "_law_tried" = true)
    (k9 : PySem.W.keepIn K (.ref f_Ltried) = true)
    (l10 : K.lookup f_Lis_set = some ⟨oc10, od10, .func (PySem.W.fnOf "_law_is_set" "_law_is_set" (defArgs s_Lis_set) (defBody s_Lis_set) (defScope s_Lis_set) .none kV10 dc10 pm10 an10 cd10 ct10), sl10⟩)
    (c10 : PySem.W.codeIn K cd10 "_law_is_set" = true)
    (k10 : PySem.W.keepIn K (.ref f_Lis_set) = true)
    (l11 : K.lookup f_Lis_within = some ⟨oc11, od11, .func (PySem.W.fnOf "_law_is_within" "_law_is_within" (defArgs s_Lis_within) (defBody s_Lis_within) (defScope s_Lis_within) .none kV11 dc11 pm11 an11 cd11 ct11), sl11⟩)
    (c11 : PySem.W.codeIn K cd11 "_law_is_within" = true)
    (k11 : PySem.W.keepIn K (.ref f_Lis_within) = true)
    (l12 : K.lookup f_Lof_two = some ⟨oc12, od12, .func (PySem.W.fnOf "_law_of_two" "_law_of_two" (defArgs s_Lof_two) (defBody s_Lof_two) (defScope s_Lof_two) .none kV12 dc12 pm12 an12 cd12 ct12), sl12⟩)
    (c12 : PySem.W.codeIn K cd12 "_law_of_two" = true)
    (k12 : PySem.W.keepIn K (.ref f_Lof_two) = true)
    (l13 : K.lookup f_Lof_one = some ⟨oc13, od13, .func (PySem.W.fnOf "_law_of_one" "_law_of_one" (defArgs s_Lof_one) (defBody s_Lof_one) (defScope s_Lof_one) .none kV13 dc13 pm13 an13 cd13 ct13), sl13⟩)
    (c13 : PySem.W.codeIn K cd13 "_law_of_one" = true)
    (k13 : PySem.W.keepIn K (.ref f_Lof_one) = true)
    (l14 : K.lookup f_Lrow = some ⟨oc14, od14, .func (PySem.W.fnOf "_law_row" "_law_row" (defArgs s_Lrow) (defBody s_Lrow) (defScope s_Lrow) .none kV14 dc14 pm14 an14 cd14 ct14), sl14⟩)
    (c14 : PySem.W.codeIn K cd14 "_law_row" = true)
    (k14 : PySem.W.keepIn K (.ref f_Lrow) = true)
    (l15 : K.lookup f_Lnext = some ⟨oc15, od15, .func (PySem.W.fnOf "_law_next" "_law_next" (defArgs s_Lnext) (defBody s_Lnext) (defScope s_Lnext) .none kV15 dc15 pm15 an15 cd15 ct15), sl15⟩)
    (c15 : PySem.W.codeIn K cd15 "_law_next" = true)
    (k15 : PySem.W.keepIn K (.ref f_Lnext) = true)
    (l16 : K.lookup f_Lderivation = some ⟨oc16, od16, .func (PySem.W.fnOf "_law_derivation" "_law_derivation" (defArgs s_Lderivation) (defBody s_Lderivation) (defScope s_Lderivation) .none kV16 dc16 pm16 an16 cd16 ct16), sl16⟩)
    (c16 : PySem.W.codeIn K cd16 "_law_derivation" = true)
    (k16 : PySem.W.keepIn K (.ref f_Lderivation) = true)
    (l17 : K.lookup f_Lmade = some ⟨oc17, od17, .func (PySem.W.fnOf "_law_made" "_law_made" (defArgs s_Lmade) (defBody s_Lmade) (defScope s_Lmade) .none kV17 dc17 pm17 an17 cd17 ct17), sl17⟩)
    (c17 : PySem.W.codeIn K cd17 "_law_made" = true)
    (k17 : PySem.W.keepIn K (.ref f_Lmade) = true)
    (l18 : K.lookup f_Ltoggled = some ⟨oc18, od18, .func (PySem.W.fnOf "_law_toggled" "_law_toggled" (defArgs s_Ltoggled) (defBody s_Ltoggled) (defScope s_Ltoggled) .none kV18 dc18 pm18 an18 cd18 ct18), sl18⟩)
    (c18 : PySem.W.codeIn K cd18 "_law_toggled" = true)
    (k18 : PySem.W.keepIn K (.ref f_Ltoggled) = true)
    (l19 : K.lookup f_Lother = some ⟨oc19, od19, .func (PySem.W.fnOf "_law_other" "_law_other" (defArgs s_Lother) (defBody s_Lother) (defScope s_Lother) .none kV19 dc19 pm19 an19 cd19 ct19), sl19⟩)
    (c19 : PySem.W.codeIn K cd19 "_law_other" = true)
    (k19 : PySem.W.keepIn K (.ref f_Lother) = true)
    (l20 : K.lookup f_Lother_word = some ⟨oc20, od20, .func (PySem.W.fnOf "_law_other_word" "_law_other_word" (defArgs s_Lother_word) (defBody s_Lother_word) (defScope s_Lother_word) .none kV20 dc20 pm20 an20 cd20 ct20), sl20⟩)
    (c20 : PySem.W.codeIn K cd20 "_law_other_word" = true)
    (k20 : PySem.W.keepIn K (.ref f_Lother_word) = true)
    (l21 : K.lookup f_Lbent_set = some ⟨oc21, od21, .func (PySem.W.fnOf "_law_bent_set" "_law_bent_set" (defArgs s_Lbent_set) (defBody s_Lbent_set) (defScope s_Lbent_set) .none kV21 dc21 pm21 an21 cd21 ct21), sl21⟩)
    (c21 : PySem.W.codeIn K cd21 "_law_bent_set" = true)
    (k21 : PySem.W.keepIn K (.ref f_Lbent_set) = true)
    (l22 : K.lookup f_Lbent_row = some ⟨oc22, od22, .func (PySem.W.fnOf "_law_bent_row" "_law_bent_row" (defArgs s_Lbent_row) (defBody s_Lbent_row) (defScope s_Lbent_row) .none kV22 dc22 pm22 an22 cd22 ct22), sl22⟩)
    (c22 : PySem.W.codeIn K cd22 "_law_bent_row" = true)
    (k22 : PySem.W.keepIn K (.ref f_Lbent_row) = true)
    (l23 : K.lookup f_Lchanged = some ⟨oc23, od23, .func (PySem.W.fnOf "_law_changed" "_law_changed" (defArgs s_Lchanged) (defBody s_Lchanged) (defScope s_Lchanged) .none kV23 dc23 pm23 an23 cd23 ct23), sl23⟩)
    (c23 : PySem.W.codeIn K cd23 "_law_changed" = true)
    (k23 : PySem.W.keepIn K (.ref f_Lchanged) = true)
    (l24 : K.lookup f_as_set = some ⟨oc24, od24, .func (PySem.W.fnOf "as_set" "as_set" (defArgs s_as_set) (defBody s_as_set) (defScope s_as_set) .none kV24 dc24 pm24 an24 cd24 ct24), sl24⟩)
    (c24 : PySem.W.codeIn K cd24 "as_set" = true)
    (k24 : PySem.W.keepIn K (.ref f_as_set) = true)
    (l25 : K.lookup f_Sides_init = some ⟨oc25, od25, .func (PySem.W.fnOf "__init__" "Sides.__init__" (defArgs s_Sides_init) (defBody s_Sides_init) (defScope s_Sides_init) .none kV25 dc25 pm25 an25 cd25 ct25), sl25⟩)
    (c25 : PySem.W.codeIn K cd25 "Sides.__init__" = true)
    (k25 : PySem.W.keepIn K (.ref f_Sides_init) = true)
    (l26 : K.lookup f_Jd_init = some ⟨oc26, od26, .func (PySem.W.fnOf "__init__" "Jd.__init__" (defArgs s_Jd_init) (defBody s_Jd_init) (defScope s_Jd_init) .none kV26 dc26 pm26 an26 cd26 ct26), sl26⟩)
    (c26 : PySem.W.codeIn K cd26 "Jd.__init__" = true)
    (k26 : PySem.W.keepIn K (.ref f_Jd_init) = true)
    (l27 : K.lookup f_Lobject = some ⟨oc27, od27, .func (PySem.W.fnOf "_law_object" "_law_object" (defArgs s_Lobject) (defBody s_Lobject) (defScope s_Lobject) .none kV27 dc27 pm27 an27 cd27 ct27), sl27⟩)
    (c27 : PySem.W.codeIn K cd27 "_law_object" = true)
    (k27 : PySem.W.keepIn K (.ref f_Lobject) = true)
    (l28 : K.lookup f_by_told = some ⟨oc28, od28, .func (PySem.W.fnOf "by_told" "by_told" (defArgs s_by_told) (defBody s_by_told) (defScope s_by_told) .none kV28 dc28 pm28 an28 cd28 ct28), sl28⟩)
    (c28 : PySem.W.codeIn K cd28 "by_told" = true)
    (k28 : PySem.W.keepIn K (.ref f_by_told) = true)
    (l29 : K.lookup f_is_within = some ⟨oc29, od29, .func (PySem.W.fnOf "is_within" "is_within" (defArgs s_is_within) (defBody s_is_within) (defScope s_is_within) .none kV29 dc29 pm29 an29 cd29 ct29), sl29⟩)
    (c29 : PySem.W.codeIn K cd29 "is_within" = true)
    (k29 : PySem.W.keepIn K (.ref f_is_within) = true)
    (l30 : K.lookup f_whole = some ⟨oc30, od30, .func (PySem.W.fnOf "whole" "whole" (defArgs s_whole) (defBody s_whole) (defScope s_whole) .none kV30 dc30 pm30 an30 cd30 ct30), sl30⟩)
    (c30 : PySem.W.codeIn K cd30 "whole" = true)
    (k30 : PySem.W.keepIn K (.ref f_whole) = true)
    (l31 : K.lookup f_is_set = some ⟨oc31, od31, .func (PySem.W.fnOf "is_set" "is_set" (defArgs s_is_set) (defBody s_is_set) (defScope s_is_set) .none kV31 dc31 pm31 an31 cd31 ct31), sl31⟩)
    (c31 : PySem.W.codeIn K cd31 "is_set" = true)
    (k31 : PySem.W.keepIn K (.ref f_is_set) = true)
    (l32 : K.lookup f_by_within = some ⟨oc32, od32, .func (PySem.W.fnOf "by_within" "by_within" (defArgs s_by_within) (defBody s_by_within) (defScope s_by_within) .none kV32 dc32 pm32 an32 cd32 ct32), sl32⟩)
    (c32 : PySem.W.codeIn K cd32 "by_within" = true)
    (k32 : PySem.W.keepIn K (.ref f_by_within) = true)
    (l33 : K.lookup f_earlier = some ⟨oc33, od33, .func (PySem.W.fnOf "earlier" "earlier" (defArgs s_earlier) (defBody s_earlier) (defScope s_earlier) .none kV33 dc33 pm33 an33 cd33 ct33), sl33⟩)
    (c33 : PySem.W.codeIn K cd33 "earlier" = true)
    (k33 : PySem.W.keepIn K (.ref f_earlier) = true)
    (l34 : K.lookup f_by_through = some ⟨oc34, od34, .func (PySem.W.fnOf "by_through" "by_through" (defArgs s_by_through) (defBody s_by_through) (defScope s_by_through) .none kV34 dc34 pm34 an34 cd34 ct34), sl34⟩)
    (c34 : PySem.W.codeIn K cd34 "by_through" = true)
    (k34 : PySem.W.keepIn K (.ref f_by_through) = true)
    (l35 : K.lookup f_less = some ⟨oc35, od35, .func (PySem.W.fnOf "less" "less" (defArgs s_less) (defBody s_less) (defScope s_less) .none kV35 dc35 pm35 an35 cd35 ct35), sl35⟩)
    (c35 : PySem.W.codeIn K cd35 "less" = true)
    (k35 : PySem.W.keepIn K (.ref f_less) = true)
    (l36 : K.lookup f_by_beyond = some ⟨oc36, od36, .func (PySem.W.fnOf "by_beyond" "by_beyond" (defArgs s_by_beyond) (defBody s_by_beyond) (defScope s_by_beyond) .none kV36 dc36 pm36 an36 cd36 ct36), sl36⟩)
    (c36 : PySem.W.codeIn K cd36 "by_beyond" = true)
    (k36 : PySem.W.keepIn K (.ref f_by_beyond) = true)
    (l37 : K.lookup f_met = some ⟨oc37, od37, .func (PySem.W.fnOf "met" "met" (defArgs s_met) (defBody s_met) (defScope s_met) .none kV37 dc37 pm37 an37 cd37 ct37), sl37⟩)
    (c37 : PySem.W.codeIn K cd37 "met" = true)
    (k37 : PySem.W.keepIn K (.ref f_met) = true)
    (l38 : K.lookup f_by_meets = some ⟨oc38, od38, .func (PySem.W.fnOf "by_meets" "by_meets" (defArgs s_by_meets) (defBody s_by_meets) (defScope s_by_meets) .none kV38 dc38 pm38 an38 cd38 ct38), sl38⟩)
    (c38 : PySem.W.codeIn K cd38 "by_meets" = true)
    (k38 : PySem.W.keepIn K (.ref f_by_meets) = true)
    (l39 : K.lookup f_of_two = some ⟨oc39, od39, .func (PySem.W.fnOf "of_two" "of_two" (defArgs s_of_two) (defBody s_of_two) (defScope s_of_two) .none kV39 dc39 pm39 an39 cd39 ct39), sl39⟩)
    (c39 : PySem.W.codeIn K cd39 "of_two" = true)
    (k39 : PySem.W.keepIn K (.ref f_of_two) = true)
    (l40 : K.lookup f_united = some ⟨oc40, od40, .func (PySem.W.fnOf "united" "united" (defArgs s_united) (defBody s_united) (defScope s_united) .none kV40 dc40 pm40 an40 cd40 ct40), sl40⟩)
    (c40 : PySem.W.codeIn K cd40 "united" = true)
    (k40 : PySem.W.keepIn K (.ref f_united) = true)
    (l41 : K.lookup f_by_with = some ⟨oc41, od41, .func (PySem.W.fnOf "by_with" "by_with" (defArgs s_by_with) (defBody s_by_with) (defScope s_by_with) .none kV41 dc41 pm41 an41 cd41 ct41), sl41⟩)
    (c41 : PySem.W.codeIn K cd41 "by_with" = true)
    (k41 : PySem.W.keepIn K (.ref f_by_with) = true)
    (l42 : K.lookup f_by_also = some ⟨oc42, od42, .func (PySem.W.fnOf "by_also" "by_also" (defArgs s_by_also) (defBody s_by_also) (defScope s_by_also) .none kV42 dc42 pm42 an42 cd42 ct42), sl42⟩)
    (c42 : PySem.W.codeIn K cd42 "by_also" = true)
    (k42 : PySem.W.keepIn K (.ref f_by_also) = true)
    (l43 : K.lookup f_by_other = some ⟨oc43, od43, .func (PySem.W.fnOf "by_other" "by_other" (defArgs s_by_other) (defBody s_by_other) (defScope s_by_other) .none kV43 dc43 pm43 an43 cd43 ct43), sl43⟩)
    (c43 : PySem.W.codeIn K cd43 "by_other" = true)
    (k43 : PySem.W.keepIn K (.ref f_by_other) = true)
    (l44 : K.lookup f_by_wide = some ⟨oc44, od44, .func (PySem.W.fnOf "by_wide" "by_wide" (defArgs s_by_wide) (defBody s_by_wide) (defScope s_by_wide) .none kV44 dc44 pm44 an44 cd44 ct44), sl44⟩)
    (c44 : PySem.W.codeIn K cd44 "by_wide" = true)
    (k44 : PySem.W.keepIn K (.ref f_by_wide) = true)
    (l45 : K.lookup f_of_one = some ⟨oc45, od45, .func (PySem.W.fnOf "of_one" "of_one" (defArgs s_of_one) (defBody s_of_one) (defScope s_of_one) .none kV45 dc45 pm45 an45 cd45 ct45), sl45⟩)
    (c45 : PySem.W.codeIn K cd45 "of_one" = true)
    (k45 : PySem.W.keepIn K (.ref f_of_one) = true)
    (l46 : K.lookup f_row_tells = some ⟨oc46, od46, .func (PySem.W.fnOf "row_tells" "row_tells" (defArgs s_row_tells) (defBody s_row_tells) (defScope s_row_tells) .none kV46 dc46 pm46 an46 cd46 ct46), sl46⟩)
    (c46 : PySem.W.codeIn K cd46 "row_tells" = true)
    (k46 : PySem.W.keepIn K (.ref f_row_tells) = true)
    (l47 : K.lookup f_Sides_key = some ⟨oc47, od47, .func (PySem.W.fnOf "key" "Sides.key" (defArgs s_Sides_key) (defBody s_Sides_key) (defScope s_Sides_key) .none kV47 dc47 pm47 an47 cd47 ct47), sl47⟩)
    (c47 : PySem.W.codeIn K cd47 "Sides.key" = true)
    (k47 : PySem.W.keepIn K (.ref f_Sides_key) = true)
    (l48 : K.lookup f_Fd_eq = some ⟨oc48, od48, .func (PySem.W.fnOf "__eq__" "Fd.__eq__" (defArgs s_Fd_eq) (defBody s_Fd_eq) (defScope s_Fd_eq) .none kV48 dc48 pm48 an48 cd48 ct48), sl48⟩)
    (c48 : PySem.W.codeIn K cd48 "Fd.__eq__" = true)
    (k48 : PySem.W.keepIn K (.ref f_Fd_eq) = true)
    (l49 : K.lookup f_Mvd_eq = some ⟨oc49, od49, .func (PySem.W.fnOf "__eq__" "Mvd.__eq__" (defArgs s_Mvd_eq) (defBody s_Mvd_eq) (defScope s_Mvd_eq) .none kV49 dc49 pm49 an49 cd49 ct49), sl49⟩)
    (c49 : PySem.W.codeIn K cd49 "Mvd.__eq__" = true)
    (k49 : PySem.W.keepIn K (.ref f_Mvd_eq) = true)
    (l50 : K.lookup f_Jd_eq = some ⟨oc50, od50, .func (PySem.W.fnOf "__eq__" "Jd.__eq__" (defArgs s_Jd_eq) (defBody s_Jd_eq) (defScope s_Jd_eq) .none kV50 dc50 pm50 an50 cd50 ct50), sl50⟩)
    (c50 : PySem.W.codeIn K cd50 "Jd.__eq__" = true)
    (k50 : PySem.W.keepIn K (.ref f_Jd_eq) = true)
    (l51 : K.lookup f_derives = some ⟨oc51, od51, .func (PySem.W.fnOf "derives" "derives" (defArgs s_derives) (defBody s_derives) (defScope s_derives) .none kV51 dc51 pm51 an51 cd51 ct51), sl51⟩)
    (c51 : PySem.W.codeIn K cd51 "derives" = true)
    (k51 : PySem.W.keepIn K (.ref f_derives) = true)
    (l52 : K.lookup f_takes = some ⟨oc52, od52, .func (PySem.W.fnOf "takes" "takes" (defArgs s_takes) (defBody s_takes) (defScope s_takes) .none kV52 dc52 pm52 an52 cd52 ct52), sl52⟩)
    (c52 : PySem.W.codeIn K cd52 "takes" = true)
    (k52 : PySem.W.keepIn K (.ref f_takes) = true)
    (l53 : K.lookup f_Lderives = some ⟨oc53, od53, .func (PySem.W.fnOf "_law_derives" "_law_derives" (defArgs s_Lderives) (defBody s_Lderives) (defScope s_Lderives) .none kV53 dc53 pm53 an53 cd53 ct53), sl53⟩)
    (c53 : PySem.W.codeIn K cd53 "_law_derives" = true)
    (k53 : PySem.W.keepIn K (.ref f_Lderives) = true)
    (l54 : K.lookup f_law = some ⟨oc54, od54, .func (PySem.W.fnOf "law" "law" (defArgs s_law) (defBody s_law) (defScope s_law) .none kV54 dc54 pm54 an54 cd54 ct54), sl54⟩)
    (c54 : PySem.W.codeIn K cd54 "law" = true)
    (k54 : PySem.W.keepIn K (.ref f_law) = true)
    (pg_Fd : PySem.W.plainGet K C_Fd Str.empty = true)
    (hd_Fd : PySem.W.hasDictIn K C_Fd = true)
    (po_Fd : PySem.W.plainOver K C_Fd = true)
    (sa_Fd : PySem.W.findIn K (.ref C_Fd) "__setattr__" = some (some (.builtin "object.__setattr__")))
    (pg_Mvd : PySem.W.plainGet K C_Mvd Str.empty = true)
    (hd_Mvd : PySem.W.hasDictIn K C_Mvd = true)
    (po_Mvd : PySem.W.plainOver K C_Mvd = true)
    (sa_Mvd : PySem.W.findIn K (.ref C_Mvd) "__setattr__" = some (some (.builtin "object.__setattr__")))
    (pg_Jd : PySem.W.plainGet K C_Jd Str.empty = true)
    (hd_Jd : PySem.W.hasDictIn K C_Jd = true)
    (po_Jd : PySem.W.plainOver K C_Jd = true)
    (sa_Jd : PySem.W.findIn K (.ref C_Jd) "__setattr__" = some (some (.builtin "object.__setattr__")))
    (mk_Fd : PySem.W.makesIn K C_Fd = true)
    (if_Fd : PySem.W.isFn K (.ref f_Sides_init) = true)
    (kc_Fd : PySem.W.keepIn K (.ref C_Fd) = true)
    (mk_Mvd : PySem.W.makesIn K C_Mvd = true)
    (if_Mvd : PySem.W.isFn K (.ref f_Sides_init) = true)
    (kc_Mvd : PySem.W.keepIn K (.ref C_Mvd) = true)
    (mk_Jd : PySem.W.makesIn K C_Jd = true)
    (if_Jd : PySem.W.isFn K (.ref f_Jd_init) = true)
    (kc_Jd : PySem.W.keepIn K (.ref C_Jd) = true)
    (p3_Fd_key : PySem.W.specialIn K (.ref p_Fd_key) "__get__" = some (some (.builtin "property.__get__")))
    (p4_Fd_key : PySem.W.takesIn K (.ref p_Fd_key) = some true)
    (p3_Mvd_key : PySem.W.specialIn K (.ref p_Mvd_key) "__get__" = some (some (.builtin "property.__get__")))
    (p4_Mvd_key : PySem.W.takesIn K (.ref p_Mvd_key) = some true)
    (ie_Fd : PySem.W.isFn K (.ref f_Fd_eq) = true)
    (ie_Mvd : PySem.W.isFn K (.ref f_Mvd_eq) = true)
    (ie_Jd : PySem.W.isFn K (.ref f_Jd_eq) = true)
    (na_Fd_left : PySem.W.findIn K (.ref C_Fd) "left" = some none)
    (na_Fd_right : PySem.W.findIn K (.ref C_Fd) "right" = some none)
    (na_Mvd_left : PySem.W.findIn K (.ref C_Mvd) "left" = some none)
    (na_Mvd_right : PySem.W.findIn K (.ref C_Mvd) "right" = some none)
    (na_Jd_parts : PySem.W.findIn K (.ref C_Jd) "parts" = some none)
    (ha_Fd : PySem.W.findIn K (.ref C_Fd) "__class__" = some (some (.builtin "object.__class__")))
    (hm_Fd : PySem.W.mroIn K C_Fd (.type "object") = some true)
    (hn_ : PySem.W.specialIn K (.builtin "object.__class__") "__get__" = some (some (.builtin "getset_descriptor.__get__")))
    (htk_ : PySem.W.takesIn K (.builtin "object.__class__") = some true)
    (ha_Mvd : PySem.W.findIn K (.ref C_Mvd) "__class__" = some (some (.builtin "object.__class__")))
    (hm_Mvd : PySem.W.mroIn K C_Mvd (.type "object") = some true)
    (ha_Jd : PySem.W.findIn K (.ref C_Jd) "__class__" = some (some (.builtin "object.__class__")))
    (hm_Jd : PySem.W.mroIn K C_Jd (.type "object") = some true)
    (ki_Fd_Jd : PySem.W.kitOne K (.ref C_Fd) (.ref C_Jd) = some false)
    (ki_Mvd_Jd : PySem.W.kitOne K (.ref C_Mvd) (.ref C_Jd) = some false)
    (ki_Mvd_Fd : PySem.W.kitOne K (.ref C_Mvd) (.ref C_Fd) = some false)
    (ki_Jd_Fd : PySem.W.kitOne K (.ref C_Jd) (.ref C_Fd) = some false)
    (ki_Fd_Mvd : PySem.W.kitOne K (.ref C_Fd) (.ref C_Mvd) = some false)
    (ki_Jd_Mvd : PySem.W.kitOne K (.ref C_Jd) (.ref C_Mvd) = some false)
    (nf_Mvd_Fd : PySem.W.subIn K (.ref C_Mvd) (.ref C_Fd) = some false)
    (nf_Jd_Fd : PySem.W.subIn K (.ref C_Jd) (.ref C_Fd) = some false)
    (nf_Fd_Mvd : PySem.W.subIn K (.ref C_Fd) (.ref C_Mvd) = some false)
    (nf_Jd_Mvd : PySem.W.subIn K (.ref C_Jd) (.ref C_Mvd) = some false)
    (nf_Fd_Jd : PySem.W.subIn K (.ref C_Fd) (.ref C_Jd) = some false)
    (nf_Mvd_Jd : PySem.W.subIn K (.ref C_Mvd) (.ref C_Jd) = some false)
    (kb_NoneType_Fd : PySem.W.kitOne K (.type "NoneType") (.ref C_Fd) = some false)
    (kb_NoneType_Mvd : PySem.W.kitOne K (.type "NoneType") (.ref C_Mvd) = some false)
    (z_all : PySem.W.nsIn K mainGlobals "all" = some none)
    (z_bool : PySem.W.nsIn K mainGlobals "bool" = some none)
    (z_int : PySem.W.nsIn K mainGlobals "int" = some none)
    (z_isinstance : PySem.W.nsIn K mainGlobals "isinstance" = some none)
    (z_len : PySem.W.nsIn K mainGlobals "len" = some none)
    (z_list : PySem.W.nsIn K mainGlobals "list" = some none)
    (z_range : PySem.W.nsIn K mainGlobals "range" = some none)
    (z_set : PySem.W.nsIn K mainGlobals "set" = some none)
    (z_sorted : PySem.W.nsIn K mainGlobals "sorted" = some none)
    (z_tuple : PySem.W.nsIn K mainGlobals "tuple" = some none)
    (tabs : TabsOf q K mg h)
    : LamX.LawAtS l w K CX0 9 63 "_law_script" mg fa h := by
  have e := hfa.symm.trans (PySem.W.mg_of X G g54)
  cases e
  letI : Tb := ⟨[]⟩
  refine ⟨PySem.W.fnOf "law" "law" (defArgs s_law) (defBody s_law) (defScope s_law) .none kV54 dc54 pm54 an54 cd54 ct54, [], spL K, (by simp), (by simp), (by simp), fun s v => .of_eq rfl, fun H a ns hl _ hH hS => sp_law hl hS (fun _ h => nomatch h) (law_true ns hl), fun base _ _ TB => ok_law (P := l.prog) (w := w) (base := base) (mg := mg) {
    a_Lnumbers := f_Lnumbers,
    d_Lnumbers := _,
    F_Lnumbers := fun_mk (st := s_Lnumbers) l1 c1 k1,
    b_Lnumbers := (fun_mk (st := s_Lnumbers) l1 c1 k1).binds (ps := ["_law_script", "_law_count"]) (fun _ _ _ _ _ _ us hl => match us, hl with | [_, _], _ => rfl),
    g_Lnumbers := PySem.W.mg_of X G g1,
    a_Lsparse := f_Lsparse,
    d_Lsparse := _,
    F_Lsparse := fun_mk (st := s_Lsparse) l2 c2 k2,
    b_Lsparse := (fun_mk (st := s_Lsparse) l2 c2 k2).binds (ps := ["_law_number", "_law_count"]) (fun _ _ _ _ _ _ us hl => match us, hl with | [_, _], _ => rfl),
    g_Lsparse := PySem.W.mg_of X G g2,
    a_Lless := f_Lless,
    d_Lless := _,
    F_Lless := fun_mk (st := s_Lless) l3 c3 k3,
    b_Lless := (fun_mk (st := s_Lless) l3 c3 k3).binds (ps := ["_law_a", "_law_b"]) (fun _ _ _ _ _ _ us hl => match us, hl with | [_, _], _ => rfl),
    g_Lless := PySem.W.mg_of X G g3,
    a_Lunited := f_Lunited,
    d_Lunited := _,
    F_Lunited := fun_mk (st := s_Lunited) l4 c4 k4,
    b_Lunited := (fun_mk (st := s_Lunited) l4 c4 k4).binds (ps := ["_law_a", "_law_b"]) (fun _ _ _ _ _ _ us hl => match us, hl with | [_, _], _ => rfl),
    g_Lunited := PySem.W.mg_of X G g4,
    a_Ldependency := f_Ldependency,
    d_Ldependency := _,
    F_Ldependency := fun_mk (st := s_Ldependency) l5 c5 k5,
    b_Ldependency := (fun_mk (st := s_Ldependency) l5 c5 k5).binds (ps := ["_law_numbers_here", "_law_place", "_law_count"]) (fun _ _ _ _ _ _ us hl => match us, hl with | [_, _, _], _ => rfl),
    g_Ldependency := PySem.W.mg_of X G g5,
    a_Ltold := f_Ltold,
    d_Ltold := _,
    F_Ltold := fun_mk (st := s_Ltold) l6 c6 k6,
    b_Ltold := (fun_mk (st := s_Ltold) l6 c6 k6).binds (ps := ["_law_numbers_here", "_law_place", "_law_count", "_law_many"]) (fun _ _ _ _ _ _ us hl => match us, hl with | [_, _, _, _], _ => rfl),
    g_Ltold := PySem.W.mg_of X G g6,
    a_Lmet := f_Lmet,
    d_Lmet := _,
    F_Lmet := fun_mk (st := s_Lmet) l7 c7 k7,
    b_Lmet := (fun_mk (st := s_Lmet) l7 c7 k7).binds (ps := ["_law_a", "_law_b"]) (fun _ _ _ _ _ _ us hl => match us, hl with | [_, _], _ => rfl),
    g_Lmet := PySem.W.mg_of X G g7,
    a_Lset := f_Lset,
    d_Lset := _,
    F_Lset := fun_mk (st := s_Lset) l8 c8 k8,
    b_Lset := (fun_mk (st := s_Lset) l8 c8 k8).binds (ps := ["_law_number", "_law_count"]) (fun _ _ _ _ _ _ us hl => match us, hl with | [_, _], _ => rfl),
    g_Lset := PySem.W.mg_of X G g8,
    a_Ltried := f_Ltried,
    d_Ltried := _,
    F_Ltried := fun_mk (st := s_Ltried) l9 c9 k9,
    b_Ltried := (fun_mk (st := s_Ltried) l9 c9 k9).binds (ps := ["_law_numbers_here", "_law_place", "_law_count", "_law_made_here", "_law_told_here", "_law_word"]) (fun _ _ _ _ _ _ us hl => match us, hl with | [_, _, _, _, _, _], _ => rfl),
    g_Ltried := PySem.W.mg_of X G g9,
    a_Lis_set := f_Lis_set,
    d_Lis_set := _,
    F_Lis_set := fun_mk (st := s_Lis_set) l10 c10 k10,
    b_Lis_set := (fun_mk (st := s_Lis_set) l10 c10 k10).binds (ps := ["_law_columns", "_law_count"]) (fun _ _ _ _ _ _ us hl => match us, hl with | [_, _], _ => rfl),
    g_Lis_set := PySem.W.mg_of X G g10,
    a_Lis_within := f_Lis_within,
    d_Lis_within := _,
    F_Lis_within := fun_mk (st := s_Lis_within) l11 c11 k11,
    b_Lis_within := (fun_mk (st := s_Lis_within) l11 c11 k11).binds (ps := ["_law_a", "_law_b"]) (fun _ _ _ _ _ _ us hl => match us, hl with | [_, _], _ => rfl),
    g_Lis_within := PySem.W.mg_of X G g11,
    a_Lof_two := f_Lof_two,
    d_Lof_two := _,
    F_Lof_two := fun_mk (st := s_Lof_two) l12 c12 k12,
    b_Lof_two := (fun_mk (st := s_Lof_two) l12 c12 k12).binds (ps := ["_law_one", "_law_two", "_law_word"]) (fun _ _ _ _ _ _ us hl => match us, hl with | [_, _, _], _ => rfl),
    g_Lof_two := PySem.W.mg_of X G g12,
    a_Lof_one := f_Lof_one,
    d_Lof_one := _,
    F_Lof_one := fun_mk (st := s_Lof_one) l13 c13 k13,
    b_Lof_one := (fun_mk (st := s_Lof_one) l13 c13 k13).binds (ps := ["_law_count", "_law_one", "_law_row_here"]) (fun _ _ _ _ _ _ us hl => match us, hl with | [_, _, _], _ => rfl),
    g_Lof_one := PySem.W.mg_of X G g13,
    a_Lrow := f_Lrow,
    d_Lrow := _,
    F_Lrow := fun_mk (st := s_Lrow) l14 c14 k14,
    b_Lrow := (fun_mk (st := s_Lrow) l14 c14 k14).binds (ps := ["_law_count", "_law_told_here", "_law_made_here", "_law_row_here"]) (fun _ _ _ _ _ _ us hl => match us, hl with | [_, _, _, _], _ => rfl),
    g_Lrow := PySem.W.mg_of X G g14,
    a_Lnext := f_Lnext,
    d_Lnext := _,
    F_Lnext := fun_mk (st := s_Lnext) l15 c15 k15,
    b_Lnext := (fun_mk (st := s_Lnext) l15 c15 k15).binds (ps := ["_law_numbers_here", "_law_place", "_law_count", "_law_told_here", "_law_made_here"]) (fun _ _ _ _ _ _ us hl => match us, hl with | [_, _, _, _, _], _ => rfl),
    g_Lnext := PySem.W.mg_of X G g15,
    a_Lderivation := f_Lderivation,
    d_Lderivation := _,
    F_Lderivation := fun_mk (st := s_Lderivation) l16 c16 k16,
    b_Lderivation := (fun_mk (st := s_Lderivation) l16 c16 k16).binds (ps := ["_law_numbers_here", "_law_place", "_law_count", "_law_told_here", "_law_size"]) (fun _ _ _ _ _ _ us hl => match us, hl with | [_, _, _, _, _], _ => rfl),
    g_Lderivation := PySem.W.mg_of X G g16,
    a_Lmade := f_Lmade,
    d_Lmade := _,
    F_Lmade := fun_mk (st := s_Lmade) l17 c17 k17,
    b_Lmade := (fun_mk (st := s_Lmade) l17 c17 k17).binds (ps := ["_law_count", "_law_told_here", "_law_rows"]) (fun _ _ _ _ _ _ us hl => match us, hl with | [_, _, _], _ => rfl),
    g_Lmade := PySem.W.mg_of X G g17,
    a_Ltoggled := f_Ltoggled,
    d_Ltoggled := _,
    F_Ltoggled := fun_mk (st := s_Ltoggled) l18 c18 k18,
    b_Ltoggled := (fun_mk (st := s_Ltoggled) l18 c18 k18).binds (ps := ["_law_columns", "_law_column"]) (fun _ _ _ _ _ _ us hl => match us, hl with | [_, _], _ => rfl),
    g_Ltoggled := PySem.W.mg_of X G g18,
    a_Lother := f_Lother,
    d_Lother := _,
    F_Lother := fun_mk (st := s_Lother) l19 c19 k19,
    b_Lother := (fun_mk (st := s_Lother) l19 c19 k19).binds (ps := ["_law_number", "_law_one", "_law_count"]) (fun _ _ _ _ _ _ us hl => match us, hl with | [_, _, _], _ => rfl),
    g_Lother := PySem.W.mg_of X G g19,
    a_Lother_word := f_Lother_word,
    d_Lother_word := _,
    F_Lother_word := fun_mk (st := s_Lother_word) l20 c20 k20,
    b_Lother_word := (fun_mk (st := s_Lother_word) l20 c20 k20).binds (ps := ["_law_number", "_law_row_here"]) (fun _ _ _ _ _ _ us hl => match us, hl with | [_, _], _ => rfl),
    g_Lother_word := PySem.W.mg_of X G g20,
    a_Lbent_set := f_Lbent_set,
    d_Lbent_set := _,
    F_Lbent_set := fun_mk (st := s_Lbent_set) l21 c21 k21,
    b_Lbent_set := (fun_mk (st := s_Lbent_set) l21 c21 k21).binds (ps := ["_law_number", "_law_columns", "_law_count"]) (fun _ _ _ _ _ _ us hl => match us, hl with | [_, _, _], _ => rfl),
    g_Lbent_set := PySem.W.mg_of X G g21,
    a_Lbent_row := f_Lbent_row,
    d_Lbent_row := _,
    F_Lbent_row := fun_mk (st := s_Lbent_row) l22 c22 k22,
    b_Lbent_row := (fun_mk (st := s_Lbent_row) l22 c22 k22).binds (ps := ["_law_number", "_law_row_here", "_law_count", "_law_size"]) (fun _ _ _ _ _ _ us hl => match us, hl with | [_, _, _, _], _ => rfl),
    g_Lbent_row := PySem.W.mg_of X G g22,
    a_Lchanged := f_Lchanged,
    d_Lchanged := _,
    F_Lchanged := fun_mk (st := s_Lchanged) l23 c23 k23,
    b_Lchanged := (fun_mk (st := s_Lchanged) l23 c23 k23).binds (ps := ["_law_number", "_law_more", "_law_rows", "_law_count", "_law_told_here"]) (fun _ _ _ _ _ _ us hl => match us, hl with | [_, _, _, _, _], _ => rfl),
    g_Lchanged := PySem.W.mg_of X G g23,
    a_as_set := f_as_set,
    d_as_set := _,
    F_as_set := fun_mk (st := s_as_set) l24 c24 k24,
    b_as_set := (fun_mk (st := s_as_set) l24 c24 k24).binds (ps := ["columns"]) (fun _ _ _ _ _ _ us hl => match us, hl with | [_], _ => rfl),
    g_as_set := PySem.W.mg_of X G g24,
    a_Sides_init := f_Sides_init,
    d_Sides_init := _,
    F_Sides_init := fun_mk (st := s_Sides_init) l25 c25 k25,
    b_Sides_init := (fun_mk (st := s_Sides_init) l25 c25 k25).binds (ps := ["self", "left", "right"]) (fun _ _ _ _ _ _ us hl => match us, hl with | [_, _, _], _ => rfl),
    a_Jd_init := f_Jd_init,
    d_Jd_init := _,
    F_Jd_init := fun_mk (st := s_Jd_init) l26 c26 k26,
    b_Jd_init := (fun_mk (st := s_Jd_init) l26 c26 k26).binds (ps := ["self", "parts"]) (fun _ _ _ _ _ _ us hl => match us, hl with | [_, _], _ => rfl),
    a_Lobject := f_Lobject,
    d_Lobject := _,
    F_Lobject := fun_mk (st := s_Lobject) l27 c27 k27,
    b_Lobject := (fun_mk (st := s_Lobject) l27 c27 k27).binds (ps := ["_law_dependency_here"]) (fun _ _ _ _ _ _ us hl => match us, hl with | [_], _ => rfl),
    g_Lobject := PySem.W.mg_of X G g27,
    a_by_told := f_by_told,
    d_by_told := _,
    F_by_told := fun_mk (st := s_by_told) l28 c28 k28,
    b_by_told := (fun_mk (st := s_by_told) l28 c28 k28).binds (ps := ["dependencies", "index"]) (fun _ _ _ _ _ _ us hl => match us, hl with | [_, _], _ => rfl),
    g_by_told := PySem.W.mg_of X G g28,
    a_is_within := f_is_within,
    d_is_within := _,
    F_is_within := fun_mk (st := s_is_within) l29 c29 k29,
    b_is_within := (fun_mk (st := s_is_within) l29 c29 k29).binds (ps := ["a", "b"]) (fun _ _ _ _ _ _ us hl => match us, hl with | [_, _], _ => rfl),
    g_is_within := PySem.W.mg_of X G g29,
    a_whole := f_whole,
    d_whole := _,
    F_whole := fun_mk (st := s_whole) l30 c30 k30,
    b_whole := (fun_mk (st := s_whole) l30 c30 k30).binds (ps := ["count"]) (fun _ _ _ _ _ _ us hl => match us, hl with | [_], _ => rfl),
    g_whole := PySem.W.mg_of X G g30,
    a_is_set := f_is_set,
    d_is_set := _,
    F_is_set := fun_mk (st := s_is_set) l31 c31 k31,
    b_is_set := (fun_mk (st := s_is_set) l31 c31 k31).binds (ps := ["columns", "count"]) (fun _ _ _ _ _ _ us hl => match us, hl with | [_, _], _ => rfl),
    g_is_set := PySem.W.mg_of X G g31,
    a_by_within := f_by_within,
    d_by_within := _,
    F_by_within := fun_mk (st := s_by_within) l32 c32 k32,
    b_by_within := (fun_mk (st := s_by_within) l32 c32 k32).binds (ps := ["count", "left", "right"]) (fun _ _ _ _ _ _ us hl => match us, hl with | [_, _, _], _ => rfl),
    g_by_within := PySem.W.mg_of X G g32,
    a_earlier := f_earlier,
    d_earlier := _,
    F_earlier := fun_mk (st := s_earlier) l33 c33 k33,
    b_earlier := (fun_mk (st := s_earlier) l33 c33 k33).binds (ps := ["made", "index"]) (fun _ _ _ _ _ _ us hl => match us, hl with | [_, _], _ => rfl),
    g_earlier := PySem.W.mg_of X G g33,
    a_by_through := f_by_through,
    d_by_through := _,
    F_by_through := fun_mk (st := s_by_through) l34 c34 k34,
    b_by_through := (fun_mk (st := s_by_through) l34 c34 k34).binds (ps := ["first", "second"]) (fun _ _ _ _ _ _ us hl => match us, hl with | [_, _], _ => rfl),
    g_by_through := PySem.W.mg_of X G g34,
    a_less := f_less,
    d_less := _,
    F_less := fun_mk (st := s_less) l35 c35 k35,
    b_less := (fun_mk (st := s_less) l35 c35 k35).binds (ps := ["a", "b"]) (fun _ _ _ _ _ _ us hl => match us, hl with | [_, _], _ => rfl),
    g_less := PySem.W.mg_of X G g35,
    a_by_beyond := f_by_beyond,
    d_by_beyond := _,
    F_by_beyond := fun_mk (st := s_by_beyond) l36 c36 k36,
    b_by_beyond := (fun_mk (st := s_by_beyond) l36 c36 k36).binds (ps := ["first", "second"]) (fun _ _ _ _ _ _ us hl => match us, hl with | [_, _], _ => rfl),
    g_by_beyond := PySem.W.mg_of X G g36,
    a_met := f_met,
    d_met := _,
    F_met := fun_mk (st := s_met) l37 c37 k37,
    b_met := (fun_mk (st := s_met) l37 c37 k37).binds (ps := ["a", "b"]) (fun _ _ _ _ _ _ us hl => match us, hl with | [_, _], _ => rfl),
    g_met := PySem.W.mg_of X G g37,
    a_by_meets := f_by_meets,
    d_by_meets := _,
    F_by_meets := fun_mk (st := s_by_meets) l38 c38 k38,
    b_by_meets := (fun_mk (st := s_by_meets) l38 c38 k38).binds (ps := ["first", "second"]) (fun _ _ _ _ _ _ us hl => match us, hl with | [_, _], _ => rfl),
    g_by_meets := PySem.W.mg_of X G g38,
    a_of_two := f_of_two,
    d_of_two := _,
    F_of_two := fun_mk (st := s_of_two) l39 c39 k39,
    b_of_two := (fun_mk (st := s_of_two) l39 c39 k39).binds (ps := ["first", "second", "word"]) (fun _ _ _ _ _ _ us hl => match us, hl with | [_, _, _], _ => rfl),
    g_of_two := PySem.W.mg_of X G g39,
    a_united := f_united,
    d_united := _,
    F_united := fun_mk (st := s_united) l40 c40 k40,
    b_united := (fun_mk (st := s_united) l40 c40 k40).binds (ps := ["a", "b"]) (fun _ _ _ _ _ _ us hl => match us, hl with | [_, _], _ => rfl),
    g_united := PySem.W.mg_of X G g40,
    a_by_with := f_by_with,
    d_by_with := _,
    F_by_with := fun_mk (st := s_by_with) l41 c41 k41,
    b_by_with := (fun_mk (st := s_by_with) l41 c41 k41).binds (ps := ["count", "first", "columns"]) (fun _ _ _ _ _ _ us hl => match us, hl with | [_, _, _], _ => rfl),
    g_by_with := PySem.W.mg_of X G g41,
    a_by_also := f_by_also,
    d_by_also := _,
    F_by_also := fun_mk (st := s_by_also) l42 c42 k42,
    b_by_also := (fun_mk (st := s_by_also) l42 c42 k42).binds (ps := ["first"]) (fun _ _ _ _ _ _ us hl => match us, hl with | [_], _ => rfl),
    g_by_also := PySem.W.mg_of X G g42,
    a_by_other := f_by_other,
    d_by_other := _,
    F_by_other := fun_mk (st := s_by_other) l43 c43 k43,
    b_by_other := (fun_mk (st := s_by_other) l43 c43 k43).binds (ps := ["count", "first"]) (fun _ _ _ _ _ _ us hl => match us, hl with | [_, _], _ => rfl),
    g_by_other := PySem.W.mg_of X G g43,
    a_by_wide := f_by_wide,
    d_by_wide := _,
    F_by_wide := fun_mk (st := s_by_wide) l44 c44 k44,
    b_by_wide := (fun_mk (st := s_by_wide) l44 c44 k44).binds (ps := ["count", "first", "columns", "some"]) (fun _ _ _ _ _ _ us hl => match us, hl with | [_, _, _, _], _ => rfl),
    g_by_wide := PySem.W.mg_of X G g44,
    a_of_one := f_of_one,
    d_of_one := _,
    F_of_one := fun_mk (st := s_of_one) l45 c45 k45,
    b_of_one := (fun_mk (st := s_of_one) l45 c45 k45).binds (ps := ["count", "first", "row"]) (fun _ _ _ _ _ _ us hl => match us, hl with | [_, _, _], _ => rfl),
    g_of_one := PySem.W.mg_of X G g45,
    a_row_tells := f_row_tells,
    d_row_tells := _,
    F_row_tells := fun_mk (st := s_row_tells) l46 c46 k46,
    b_row_tells := (fun_mk (st := s_row_tells) l46 c46 k46).binds (ps := ["count", "dependencies", "made", "row"]) (fun _ _ _ _ _ _ us hl => match us, hl with | [_, _, _, _], _ => rfl),
    g_row_tells := PySem.W.mg_of X G g46,
    a_Sides_key := f_Sides_key,
    d_Sides_key := _,
    F_Sides_key := fun_mk (st := s_Sides_key) l47 c47 k47,
    b_Sides_key := (fun_mk (st := s_Sides_key) l47 c47 k47).binds (ps := ["self"]) (fun _ _ _ _ _ _ us hl => match us, hl with | [_], _ => rfl),
    a_Fd_eq := f_Fd_eq,
    d_Fd_eq := _,
    F_Fd_eq := fun_mk (st := s_Fd_eq) l48 c48 k48,
    b_Fd_eq := (fun_mk (st := s_Fd_eq) l48 c48 k48).binds (ps := ["self", "other"]) (fun _ _ _ _ _ _ us hl => match us, hl with | [_, _], _ => rfl),
    a_Mvd_eq := f_Mvd_eq,
    d_Mvd_eq := _,
    F_Mvd_eq := fun_mk (st := s_Mvd_eq) l49 c49 k49,
    b_Mvd_eq := (fun_mk (st := s_Mvd_eq) l49 c49 k49).binds (ps := ["self", "other"]) (fun _ _ _ _ _ _ us hl => match us, hl with | [_, _], _ => rfl),
    a_Jd_eq := f_Jd_eq,
    d_Jd_eq := _,
    F_Jd_eq := fun_mk (st := s_Jd_eq) l50 c50 k50,
    b_Jd_eq := (fun_mk (st := s_Jd_eq) l50 c50 k50).binds (ps := ["self", "other"]) (fun _ _ _ _ _ _ us hl => match us, hl with | [_, _], _ => rfl),
    a_derives := f_derives,
    d_derives := _,
    F_derives := fun_mk (st := s_derives) l51 c51 k51,
    b_derives := (fun_mk (st := s_derives) l51 c51 k51).binds (ps := ["count", "dependencies", "target", "rows"]) (fun _ _ _ _ _ _ us hl => match us, hl with | [_, _, _, _], _ => rfl),
    g_derives := PySem.W.mg_of X G g51,
    a_takes := f_takes,
    d_takes := _,
    F_takes := fun_mk (st := s_takes) l52 c52 k52,
    b_takes := (fun_mk (st := s_takes) l52 c52 k52).binds (ps := ["count", "dependencies", "target", "verdict", "paper"]) (fun _ _ _ _ _ _ us hl => match us, hl with | [_, _, _, _, _], _ => rfl),
    g_takes := PySem.W.mg_of X G g52,
    a_Lderives := f_Lderives,
    d_Lderives := _,
    F_Lderives := fun_mk (st := s_Lderives) l53 c53 k53,
    b_Lderives := (fun_mk (st := s_Lderives) l53 c53 k53).binds (ps := ["_law_count", "_law_told_here", "_law_target", "_law_rows"]) (fun _ _ _ _ _ _ us hl => match us, hl with | [_, _, _, _], _ => rfl),
    g_Lderives := PySem.W.mg_of X G g53,
    a_law := fa,
    d_law := PySem.W.fnOf "law" "law" (defArgs s_law) (defBody s_law) (defScope s_law) .none kV54 dc54 pm54 an54 cd54 ct54,
    F_law := fun_mk (st := s_law) l54 c54 k54,
    b_law := (fun_mk (st := s_law) l54 c54 k54).binds (ps := ["_law_script"]) (fun _ _ _ _ _ _ us hl => match us, hl with | [_], _ => rfl),
    g_law := PySem.W.mg_of X G g54,
    c_Fd := C_Fd,
    cl_Fd := ⟨pg_Fd, hd_Fd, po_Fd, sa_Fd⟩,
    gc_Fd := PySem.W.mg_of X G g_Fd,
    c_Mvd := C_Mvd,
    cl_Mvd := ⟨pg_Mvd, hd_Mvd, po_Mvd, sa_Mvd⟩,
    gc_Mvd := PySem.W.mg_of X G g_Mvd,
    c_Jd := C_Jd,
    cl_Jd := ⟨pg_Jd, hd_Jd, po_Jd, sa_Jd⟩,
    gc_Jd := PySem.W.mg_of X G g_Jd,
    M_Fd := ⟨mk_Fd, in_Fd, if_Fd, kc_Fd⟩,
    M_Mvd := ⟨mk_Mvd, in_Mvd, if_Mvd, kc_Mvd⟩,
    M_Jd := ⟨mk_Jd, in_Jd, if_Jd, kc_Jd⟩,
    pp_Fd_key := p_Fd_key,
    pr_Fd_key := ⟨in_p1_Fd_key, p3_Fd_key, p4_Fd_key, ⟨_, in_p2_Fd_key⟩⟩,
    pp_Mvd_key := p_Mvd_key,
    pr_Mvd_key := ⟨in_p1_Mvd_key, p3_Mvd_key, p4_Mvd_key, ⟨_, in_p2_Mvd_key⟩⟩,
    se_Fd := in_eq_Fd,
    ie_Fd := ie_Fd,
    se_Mvd := in_eq_Mvd,
    ie_Mvd := ie_Mvd,
    se_Jd := in_eq_Jd,
    ie_Jd := ie_Jd,
    na_Fd_left := na_Fd_left,
    na_Fd_right := na_Fd_right,
    na_Mvd_left := na_Mvd_left,
    na_Mvd_right := na_Mvd_right,
    na_Jd_parts := na_Jd_parts,
    ci_Fd := ⟨ha_Fd, hn_, htk_, hm_Fd⟩,
    ci_Mvd := ⟨ha_Mvd, hn_, htk_, hm_Mvd⟩,
    ci_Jd := ⟨ha_Jd, hn_, htk_, hm_Jd⟩,
    ki_Fd_Jd := ki_Fd_Jd,
    ki_Mvd_Jd := ki_Mvd_Jd,
    ki_Jd_Jd := if_pos (beq_self_eq_true _),
    ki_Fd_Fd := if_pos (beq_self_eq_true _),
    ki_Mvd_Fd := ki_Mvd_Fd,
    ki_Jd_Fd := ki_Jd_Fd,
    ki_Fd_Mvd := ki_Fd_Mvd,
    ki_Mvd_Mvd := if_pos (beq_self_eq_true _),
    ki_Jd_Mvd := ki_Jd_Mvd,
    nf_Mvd_Fd := nf_Mvd_Fd,
    nf_Jd_Fd := nf_Jd_Fd,
    nf_Fd_Mvd := nf_Fd_Mvd,
    nf_Jd_Mvd := nf_Jd_Mvd,
    nf_Fd_Jd := nf_Fd_Jd,
    nf_Mvd_Jd := nf_Mvd_Jd,
    kb_NoneType_Fd := kb_NoneType_Fd,
    kb_NoneType_Mvd := kb_NoneType_Mvd,
    n_all := PySem.W.mg_none_of X G z_all,
    n_bool := PySem.W.mg_none_of X G z_bool,
    n_int := PySem.W.mg_none_of X G z_int,
    n_isinstance := PySem.W.mg_none_of X G z_isinstance,
    n_len := PySem.W.mg_none_of X G z_len,
    n_list := PySem.W.mg_none_of X G z_list,
    n_range := PySem.W.mg_none_of X G z_range,
    n_set := PySem.W.mg_none_of X G z_set,
    n_sorted := PySem.W.mg_none_of X G z_sorted,
    n_tuple := PySem.W.mg_none_of X G z_tuple }⟩
theorem walk {l : PySem.W.OpenLaw} {q : Program} {loose : List Str} {XP : (Str → Option Value) → Heap → Prop} {YP : World → Heap → Prop} {d : DefRec} {K : Params → PySem.W.Frag} (hn : l.most = some 63) (hdf : d.params.defaults = [])
    (hY : ∀ (w : World) (h : Heap), YP w h → (K w.params).In h)
    (F : ∀ (w : World) (mg : Str → Option Value) (fa : Addr) (h : Heap), (K w.params).In h → h.Ns mainGlobals mg → mg d.name = some (.ref fa) → TabsOf q (K w.params) mg h → LamX.LawAtS l w (K w.params) CX0 9 63 "_law_script" mg fa h) :
    PySem.W.WalkO q loose XP YP l.row.toRowW d [] (fun f vs => PySem.call f vs) :=
  walkTabs hn (by decide) hdf ⟨rfl, by decide, by decide⟩ hY F
end Pf
open Pf Fw PySem PySem.W PyProof.Rows in
set_option maxRecDepth 100000 in
set_option maxHeartbeats 0 in
theorem PySem.Challenge.cw_followsortable_k53_derivations_changed_holds : PySem.Challenge.rw_followsortable_k53_derivations_changed.Holds := by
  w_on; o_law; k_head; (case hw => w_witness2)
  k_fill
  refine walk (l := PySem.Challenge.rw_followsortable_k53_derivations_changed) rfl rfl (fun w h Y => PySem.W.kIn_of Y) ?F
  case F =>
    intro w mg fa h KX G hmg tabs
    refine' all_mk KX G hmg ?g1 ?g2 ?g3 ?g4 ?g5 ?g6 ?g7 ?g8 ?g9 ?g10 ?g11 ?g12 ?g13 ?g14 ?g15 ?g16 ?g17 ?g18 ?g19 ?g20 ?g21 ?g22 ?g23 ?g24 ?g27 ?g28 ?g29 ?g30 ?g31 ?g32 ?g33 ?g34 ?g35 ?g36 ?g37 ?g38 ?g39 ?g40 ?g41 ?g42 ?g43 ?g44 ?g45 ?g46 ?g51 ?g52 ?g53 ?g54 ?g_Fd ?g_Mvd ?g_Jd ?in_Fd ?in_Mvd ?in_Jd ?in_p1_Fd_key ?in_p2_Fd_key ?in_p1_Mvd_key ?in_p2_Mvd_key ?in_eq_Fd ?in_eq_Mvd ?in_eq_Jd ?l1 ?c1 ?k1 ?l2 ?c2 ?k2 ?l3 ?c3 ?k3 ?l4 ?c4 ?k4 ?l5 ?c5 ?k5 ?l6 ?c6 ?k6 ?l7 ?c7 ?k7 ?l8 ?c8 ?k8 ?l9 ?c9 ?k9 ?l10 ?c10 ?k10 ?l11 ?c11 ?k11 ?l12 ?c12 ?k12 ?l13 ?c13 ?k13 ?l14 ?c14 ?k14 ?l15 ?c15 ?k15 ?l16 ?c16 ?k16 ?l17 ?c17 ?k17 ?l18 ?c18 ?k18 ?l19 ?c19 ?k19 ?l20 ?c20 ?k20 ?l21 ?c21 ?k21 ?l22 ?c22 ?k22 ?l23 ?c23 ?k23 ?l24 ?c24 ?k24 ?l25 ?c25 ?k25 ?l26 ?c26 ?k26 ?l27 ?c27 ?k27 ?l28 ?c28 ?k28 ?l29 ?c29 ?k29 ?l30 ?c30 ?k30 ?l31 ?c31 ?k31 ?l32 ?c32 ?k32 ?l33 ?c33 ?k33 ?l34 ?c34 ?k34 ?l35 ?c35 ?k35 ?l36 ?c36 ?k36 ?l37 ?c37 ?k37 ?l38 ?c38 ?k38 ?l39 ?c39 ?k39 ?l40 ?c40 ?k40 ?l41 ?c41 ?k41 ?l42 ?c42 ?k42 ?l43 ?c43 ?k43 ?l44 ?c44 ?k44 ?l45 ?c45 ?k45 ?l46 ?c46 ?k46 ?l47 ?c47 ?k47 ?l48 ?c48 ?k48 ?l49 ?c49 ?k49 ?l50 ?c50 ?k50 ?l51 ?c51 ?k51 ?l52 ?c52 ?k52 ?l53 ?c53 ?k53 ?l54 ?c54 ?k54 ?pg_Fd ?hd_Fd ?po_Fd ?sa_Fd ?pg_Mvd ?hd_Mvd ?po_Mvd ?sa_Mvd ?pg_Jd ?hd_Jd ?po_Jd ?sa_Jd ?mk_Fd ?if_Fd ?kc_Fd ?mk_Mvd ?if_Mvd ?kc_Mvd ?mk_Jd ?if_Jd ?kc_Jd ?p3_Fd_key ?p4_Fd_key ?p3_Mvd_key ?p4_Mvd_key ?ie_Fd ?ie_Mvd ?ie_Jd ?na_Fd_left ?na_Fd_right ?na_Mvd_left ?na_Mvd_right ?na_Jd_parts ?ha_Fd ?hm_Fd ?hn_ ?htk_ ?ha_Mvd ?hm_Mvd ?ha_Jd ?hm_Jd ?ki_Fd_Jd ?ki_Mvd_Jd ?ki_Mvd_Fd ?ki_Jd_Fd ?ki_Fd_Mvd ?ki_Jd_Mvd ?nf_Mvd_Fd ?nf_Jd_Fd ?nf_Fd_Mvd ?nf_Jd_Mvd ?nf_Fd_Jd ?nf_Mvd_Jd ?kb_NoneType_Fd ?kb_NoneType_Mvd ?z_all ?z_bool ?z_int ?z_isinstance ?z_len ?z_list ?z_range ?z_set ?z_sorted ?z_tuple  tabs
    (case g1 => k_is)
    (case g2 => k_is)
    (case g3 => k_is)
    (case g4 => k_is)
    (case g5 => k_is)
    (case g6 => k_is)
    (case g7 => k_is)
    (case g8 => k_is)
    (case g9 => k_is)
    (case g10 => k_is)
    (case g11 => k_is)
    (case g12 => k_is)
    (case g13 => k_is)
    (case g14 => k_is)
    (case g15 => k_is)
    (case g16 => k_is)
    (case g17 => k_is)
    (case g18 => k_is)
    (case g19 => k_is)
    (case g20 => k_is)
    (case g21 => k_is)
    (case g22 => k_is)
    (case g23 => k_is)
    (case g24 => k_is)
    (case g27 => k_is)
    (case g28 => k_is)
    (case g29 => k_is)
    (case g30 => k_is)
    (case g31 => k_is)
    (case g32 => k_is)
    (case g33 => k_is)
    (case g34 => k_is)
    (case g35 => k_is)
    (case g36 => k_is)
    (case g37 => k_is)
    (case g38 => k_is)
    (case g39 => k_is)
    (case g40 => k_is)
    (case g41 => k_is)
    (case g42 => k_is)
    (case g43 => k_is)
    (case g44 => k_is)
    (case g45 => k_is)
    (case g46 => k_is)
    (case g51 => k_is)
    (case g52 => k_is)
    (case g53 => k_is)
    (case g54 => k_is)
    (case g_Fd => k_is)
    (case g_Mvd => k_is)
    (case g_Jd => k_is)
    (case in_Fd => k_is)
    (case in_Mvd => k_is)
    (case in_Jd => k_is)
    (case in_p1_Fd_key => k_is)
    (case in_p2_Fd_key => k_is)
    (case in_p1_Mvd_key => k_is)
    (case in_p2_Mvd_key => k_is)
    (case in_eq_Fd => k_is)
    (case in_eq_Mvd => k_is)
    (case in_eq_Jd => k_is)
    (case l1 => k_is)
    (case c1 => k_is)
    (case k1 => k_is)
    (case l2 => k_is)
    (case c2 => k_is)
    (case k2 => k_is)
    (case l3 => k_is)
    (case c3 => k_is)
    (case k3 => k_is)
    (case l4 => k_is)
    (case c4 => k_is)
    (case k4 => k_is)
    (case l5 => k_is)
    (case c5 => k_is)
    (case k5 => k_is)
    (case l6 => k_is)
    (case c6 => k_is)
    (case k6 => k_is)
    (case l7 => k_is)
    (case c7 => k_is)
    (case k7 => k_is)
    (case l8 => k_is)
    (case c8 => k_is)
    (case k8 => k_is)
    (case l9 => k_is)
    (case c9 => k_is)
    (case k9 => k_is)
    (case l10 => k_is)
    (case c10 => k_is)
    (case k10 => k_is)
    (case l11 => k_is)
    (case c11 => k_is)
    (case k11 => k_is)
    (case l12 => k_is)
    (case c12 => k_is)
    (case k12 => k_is)
    (case l13 => k_is)
    (case c13 => k_is)
    (case k13 => k_is)
    (case l14 => k_is)
    (case c14 => k_is)
    (case k14 => k_is)
    (case l15 => k_is)
    (case c15 => k_is)
    (case k15 => k_is)
    (case l16 => k_is)
    (case c16 => k_is)
    (case k16 => k_is)
    (case l17 => k_is)
    (case c17 => k_is)
    (case k17 => k_is)
    (case l18 => k_is)
    (case c18 => k_is)
    (case k18 => k_is)
    (case l19 => k_is)
    (case c19 => k_is)
    (case k19 => k_is)
    (case l20 => k_is)
    (case c20 => k_is)
    (case k20 => k_is)
    (case l21 => k_is)
    (case c21 => k_is)
    (case k21 => k_is)
    (case l22 => k_is)
    (case c22 => k_is)
    (case k22 => k_is)
    (case l23 => k_is)
    (case c23 => k_is)
    (case k23 => k_is)
    (case l24 => k_is)
    (case c24 => k_is)
    (case k24 => k_is)
    (case l25 => k_is)
    (case c25 => k_is)
    (case k25 => k_is)
    (case l26 => k_is)
    (case c26 => k_is)
    (case k26 => k_is)
    (case l27 => k_is)
    (case c27 => k_is)
    (case k27 => k_is)
    (case l28 => k_is)
    (case c28 => k_is)
    (case k28 => k_is)
    (case l29 => k_is)
    (case c29 => k_is)
    (case k29 => k_is)
    (case l30 => k_is)
    (case c30 => k_is)
    (case k30 => k_is)
    (case l31 => k_is)
    (case c31 => k_is)
    (case k31 => k_is)
    (case l32 => k_is)
    (case c32 => k_is)
    (case k32 => k_is)
    (case l33 => k_is)
    (case c33 => k_is)
    (case k33 => k_is)
    (case l34 => k_is)
    (case c34 => k_is)
    (case k34 => k_is)
    (case l35 => k_is)
    (case c35 => k_is)
    (case k35 => k_is)
    (case l36 => k_is)
    (case c36 => k_is)
    (case k36 => k_is)
    (case l37 => k_is)
    (case c37 => k_is)
    (case k37 => k_is)
    (case l38 => k_is)
    (case c38 => k_is)
    (case k38 => k_is)
    (case l39 => k_is)
    (case c39 => k_is)
    (case k39 => k_is)
    (case l40 => k_is)
    (case c40 => k_is)
    (case k40 => k_is)
    (case l41 => k_is)
    (case c41 => k_is)
    (case k41 => k_is)
    (case l42 => k_is)
    (case c42 => k_is)
    (case k42 => k_is)
    (case l43 => k_is)
    (case c43 => k_is)
    (case k43 => k_is)
    (case l44 => k_is)
    (case c44 => k_is)
    (case k44 => k_is)
    (case l45 => k_is)
    (case c45 => k_is)
    (case k45 => k_is)
    (case l46 => k_is)
    (case c46 => k_is)
    (case k46 => k_is)
    (case l47 => k_is)
    (case c47 => k_is)
    (case k47 => k_is)
    (case l48 => k_is)
    (case c48 => k_is)
    (case k48 => k_is)
    (case l49 => k_is)
    (case c49 => k_is)
    (case k49 => k_is)
    (case l50 => k_is)
    (case c50 => k_is)
    (case k50 => k_is)
    (case l51 => k_is)
    (case c51 => k_is)
    (case k51 => k_is)
    (case l52 => k_is)
    (case c52 => k_is)
    (case k52 => k_is)
    (case l53 => k_is)
    (case c53 => k_is)
    (case k53 => k_is)
    (case l54 => k_is)
    (case c54 => k_is)
    (case k54 => k_is)
    (case pg_Fd => k_is)
    (case hd_Fd => k_is)
    (case po_Fd => k_is)
    (case sa_Fd => k_is)
    (case pg_Mvd => k_is)
    (case hd_Mvd => k_is)
    (case po_Mvd => k_is)
    (case sa_Mvd => k_is)
    (case pg_Jd => k_is)
    (case hd_Jd => k_is)
    (case po_Jd => k_is)
    (case sa_Jd => k_is)
    (case mk_Fd => k_is)
    (case if_Fd => k_is)
    (case kc_Fd => k_is)
    (case mk_Mvd => k_is)
    (case if_Mvd => k_is)
    (case kc_Mvd => k_is)
    (case mk_Jd => k_is)
    (case if_Jd => k_is)
    (case kc_Jd => k_is)
    (case p3_Fd_key => k_is)
    (case p4_Fd_key => k_is)
    (case p3_Mvd_key => k_is)
    (case p4_Mvd_key => k_is)
    (case ie_Fd => k_is)
    (case ie_Mvd => k_is)
    (case ie_Jd => k_is)
    (case na_Fd_left => k_is)
    (case na_Fd_right => k_is)
    (case na_Mvd_left => k_is)
    (case na_Mvd_right => k_is)
    (case na_Jd_parts => k_is)
    (case ha_Fd => k_is)
    (case hm_Fd => k_is)
    (case hn_ => k_is)
    (case htk_ => k_is)
    (case ha_Mvd => k_is)
    (case hm_Mvd => k_is)
    (case ha_Jd => k_is)
    (case hm_Jd => k_is)
    (case ki_Fd_Jd => kit_is)
    (case ki_Mvd_Jd => kit_is)
    (case ki_Mvd_Fd => kit_is)
    (case ki_Jd_Fd => kit_is)
    (case ki_Fd_Mvd => kit_is)
    (case ki_Jd_Mvd => kit_is)
    (case nf_Mvd_Fd => k_is)
    (case nf_Jd_Fd => k_is)
    (case nf_Fd_Mvd => k_is)
    (case nf_Jd_Mvd => k_is)
    (case nf_Fd_Jd => k_is)
    (case nf_Mvd_Jd => k_is)
    (case kb_NoneType_Fd => kit_is)
    (case kb_NoneType_Mvd => kit_is)
    (case z_all => k_is)
    (case z_bool => k_is)
    (case z_int => k_is)
    (case z_isinstance => k_is)
    (case z_len => k_is)
    (case z_list => k_is)
    (case z_range => k_is)
    (case z_set => k_is)
    (case z_sorted => k_is)
    (case z_tuple => k_is)
