import PyProof.Rows.All
import Wide.All
import OpenK.AllK
import Wide.FinOn
import HandS.ForMost
import HandS.ForExc
import HandS.Deep
import HandS.IsInst
import HandS.TupAny
import HandS.DictComp
import KE.SortData
import HandS.Set
import HandS.SetFor
import HandS.SetKeys
import HandS.Defaults
import HandS.HeadHook2
import KE.KStateDown
import HandS.Head0
import HandS.Head1
import HandS.Head2
import HandS.HeadEnd
import HandS.HeadHook1
import KE.IntTextText
import HandS.Text
import PySem.Challenge.RW_strayless_k00_words_and_names
set_option Elab.async false
set_option linter.all false
set_option autoImplicit false
set_option maxRecDepth 100000
set_option maxHeartbeats 0
/-! V1: the value layer: Python's values as plain data D, frozen or owned; judgements SR, SM, SS over HandS. -/
namespace VL
open PySem PySem.Spec L2

/-! ### data, outcomes -/
inductive D where
  | non | bl (b : Bool) | int (i : Int) | str (x : Str) | tup (xs : List D) | lst (xs : List D) | dic (xs : List D) | dit (xs : List D)
inductive Out (α : Type) where
  | ok (a : α) | exc (c : Str) (fs : List D) | bad
@[inline] def Out.bind {α β : Type} (x : Out α) (f : α → Out β) : Out β :=
  match x with
  | .ok a => f a
  | .exc c fs => .exc c fs
  | .bad => .bad
instance : Monad Out where
  pure := Out.ok
  bind := Out.bind
@[reducible] def bnd {α β : Type} (x : Out α) (f : α → Out β) : Out β := Out.bind x f
theorem ok_bind {α β : Type} (a : α) (f : α → Out β) : Out.bind (.ok a) f = f a := rfl
theorem exc_bind {α β : Type} (c : Str) (fs : List D) (f : α → Out β) : Out.bind (.exc c fs) f = .exc c fs := rfl
theorem bad_bind {α β : Type} (f : α → Out β) : Out.bind .bad f = .bad := rfl

/-! ### what is read stays to be read -/
def Le (F H : Hp) : Prop := ∀ a u, Rd F a u → Rd H a u
theorem Le.refl (F : Hp) : Le F F := fun _ _ h => h
theorem Le.trans {F G H : Hp} (a : Le F G) (b : Le G H) : Le F H := fun c u h => b c u (a c u h)
theorem Le.same {F H : Hp} (s : Same F H) : Le F H := fun a u h => by
  rcases h with h | ⟨o, h⟩
  · exact .inl (s _ _ h)
  · exact .inr ⟨o, s _ _ h⟩
theorem Le.seqL {K : PySem.W.Frag} {F H : Hp} {a : Addr} {xs : List V} (l : Le F H) (h : SqL K F a xs) : SqL K H a xs := by
  rcases h with h | h
  · exact .inl (l _ _ h)
  · exact .inr h
theorem Le.seqT {K : PySem.W.Frag} {F H : Hp} {a : Addr} {xs : List V} (l : Le F H) (h : SqT K F a xs) : SqT K H a xs := by
  rcases h with h | h
  · exact .inl (l _ _ h)
  · exact .inr h
theorem Le.some {F H : Hp} {a : Addr} (l : Le F H) (h : F a ≠ none) : H a ≠ none := fun e => by
  cases q : F a with
  | none => exact h q
  | some u =>
    rcases l a u (.inl q) with z | ⟨o, z⟩ <;> rw [e] at z <;> cases z
theorem Le.none {F H : Hp} {a : Addr} (l : Le F H) (h : H a = Option.none) : F a = Option.none := by
  cases q : F a with
  | none => rfl
  | some u => exact absurd h (l.some (by rw [q]; exact Option.some_ne_none _))
theorem Le.upd2 {F H : Hp} {p : Addr} {o : HO} (l : Le F H) : Le (upd F p o) (upd H p o) := fun a u h => by
  by_cases e : a = p
  · subst e
    rcases h with h | ⟨b, h⟩
    · rw [upd_same] at h
      exact .inl (by rw [upd_same]; exact h)
    · rw [upd_same] at h
      exact .inr ⟨b, by rw [upd_same]; exact h⟩
  · have h' : Rd F a u := by
      rcases h with h | ⟨b, h⟩
      · rw [upd_ne e] at h
        exact .inl h
      · rw [upd_ne e] at h
        exact .inr ⟨b, h⟩
    rcases l a u h' with h | ⟨b, h⟩
    · exact .inl (by rw [upd_ne e]; exact h)
    · exact .inr ⟨b, by rw [upd_ne e]; exact h⟩
theorem Le.updR {F H : Hp} {p : Addr} {o : HO} (l : Le F H) (n : F p = Option.none) : Le F (upd H p o) := fun a u h => by
  have e : a ≠ p := fun e => by
    subst e
    rcases h with h | ⟨b, h⟩ <;> rw [n] at h <;> cases h
  rcases l a u h with h | ⟨b, h⟩
  · exact .inl (by rw [upd_ne e]; exact h)
  · exact .inr ⟨b, by rw [upd_ne e]; exact h⟩
theorem Le.updL {F : Hp} {p : Addr} {o : HO} (n : F p = Option.none) : Le F (upd F p o) := (Le.refl F).updR n

/-- what is read of contents -/
def nofrz : HO → Prop
  | .frz _ _ => False
  | _ => True
def LeC (F H : Hp) : Prop := ∀ a u, nofrz u → Rd F a u → Rd H a u
theorem Le.c {F H : Hp} (l : Le F H) : LeC F H := fun a u _ h => l a u h
theorem LeC.seqT {K : PySem.W.Frag} {F H : Hp} {a : Addr} {xs : List V} (l : LeC F H) (h : SqT K F a xs) : SqT K H a xs := by
  rcases h with h | h
  · exact .inl (l _ _ True.intro h)
  · exact .inr h

theorem LeC.seqL {K : PySem.W.Frag} {F H : Hp} {a : Addr} {xs : List V} (l : LeC F H) (h : SqL K F a xs) : SqL K H a xs := by
  rcases h with h | h
  · exact .inl (l _ _ True.intro h)
  · exact .inr h

/-! ### values that stand for data -/
def keyD : Key → D
  | .inl i => .int i
  | .inr x => .str x
def tkeyD (ks : List Key) : D := .tup (ks.map keyD)
mutual
def Rep (K : PySem.W.Frag) (F : Hp) : D → V → Prop
  | .non, v => v = .non
  | .bl b, v => v = .bl b
  | .int i, v => v = .int i
  | .str x, v => v = .str x
  | .tup xs, v => ∃ a vs, v = .ref a ∧ SqT K F a vs ∧ Reps K F xs vs
  | .lst xs, v => ∃ a vs, v = .ref a ∧ SqL K F a vs ∧ Reps K F xs vs
  | .dic xs, v => ∃ a kvs, v = .ref a ∧ Rd F a (.dK kvs) ∧ RepK K F xs kvs
  | .dit xs, v => ∃ a kvs, v = .ref a ∧ Rd F a (.dT kvs) ∧ RepT K F xs kvs
def Reps (K : PySem.W.Frag) (F : Hp) : List D → List V → Prop
  | [], vs => vs = []
  | x :: xs, vs => ∃ v r, vs = v :: r ∧ Rep K F x v ∧ Reps K F xs r
def RepK (K : PySem.W.Frag) (F : Hp) : List D → List (Key × V) → Prop
  | [], kvs => kvs = []
  | .tup [k, d] :: xs, kvs => ∃ q v r, kvs = (q, v) :: r ∧ k = keyD q ∧ Rep K F d v ∧ RepK K F xs r
  | _, _ => False
def RepT (K : PySem.W.Frag) (F : Hp) : List D → List (List Key × V) → Prop
  | [], kvs => kvs = []
  | .tup [k, d] :: xs, kvs => ∃ q v r, kvs = (q, v) :: r ∧ k = tkeyD q ∧ Rep K F d v ∧ RepT K F xs r
  | _, _ => False
end
section
variable {K : PySem.W.Frag} {F F' : Hp}
mutual
theorem Rep.monoC (l : LeC F F') : ∀ (d : D) (v : V), Rep K F d v → Rep K F' d v
  | .non, v, h => by unfold Rep at h ⊢; exact h
  | .bl b, v, h => by unfold Rep at h ⊢; exact h
  | .int i, v, h => by unfold Rep at h ⊢; exact h
  | .str x, v, h => by unfold Rep at h ⊢; exact h
  | .tup xs, v, h => by
    unfold Rep at h ⊢
    obtain ⟨a, vs, e, q, r⟩ := h
    exact ⟨a, vs, e, l.seqT q, Reps.monoC l xs vs r⟩
  | .lst xs, v, h => by
    unfold Rep at h ⊢
    obtain ⟨a, vs, e, q, r⟩ := h
    exact ⟨a, vs, e, l.seqL q, Reps.monoC l xs vs r⟩
  | .dic xs, v, h => by
    unfold Rep at h ⊢
    obtain ⟨a, kvs, e, q, r⟩ := h
    exact ⟨a, kvs, e, l _ _ True.intro q, RepK.monoC l xs kvs r⟩
  | .dit xs, v, h => by
    unfold Rep at h ⊢
    obtain ⟨a, kvs, e, q, r⟩ := h
    exact ⟨a, kvs, e, l _ _ True.intro q, RepT.monoC l xs kvs r⟩
theorem Reps.monoC (l : LeC F F') : ∀ (ds : List D) (vs : List V), Reps K F ds vs → Reps K F' ds vs
  | [], vs, h => by unfold Reps at h ⊢; exact h
  | x :: xs, vs, h => by
    unfold Reps at h ⊢
    obtain ⟨v, r, e, h1, h2⟩ := h
    exact ⟨v, r, e, Rep.monoC l x v h1, Reps.monoC l xs r h2⟩
theorem RepK.monoC (l : LeC F F') : ∀ (ds : List D) (vs : List (Key × V)), RepK K F ds vs → RepK K F' ds vs
  | [], vs, h => by unfold RepK at h ⊢; exact h
  | .tup [k, d] :: xs, vs, h => by
    unfold RepK at h ⊢
    obtain ⟨q, v, r, e, e2, h1, h2⟩ := h
    exact ⟨q, v, r, e, e2, Rep.monoC l d v h1, RepK.monoC l xs r h2⟩
  | .non :: _, _, h => by unfold RepK at h; exact h.elim
  | .bl _ :: _, _, h => by unfold RepK at h; exact h.elim
  | .int _ :: _, _, h => by unfold RepK at h; exact h.elim
  | .str _ :: _, _, h => by unfold RepK at h; exact h.elim
  | .lst _ :: _, _, h => by unfold RepK at h; exact h.elim
  | .dic _ :: _, _, h => by unfold RepK at h; exact h.elim
  | .dit _ :: _, _, h => by unfold RepK at h; exact h.elim
  | .tup [] :: _, _, h => by unfold RepK at h; exact h.elim
  | .tup [_] :: _, _, h => by unfold RepK at h; exact h.elim
  | .tup (_ :: _ :: _ :: _) :: _, _, h => by unfold RepK at h; exact h.elim
theorem RepT.monoC (l : LeC F F') : ∀ (ds : List D) (vs : List (List Key × V)), RepT K F ds vs → RepT K F' ds vs
  | [], vs, h => by unfold RepT at h ⊢; exact h
  | .tup [k, d] :: xs, vs, h => by
    unfold RepT at h ⊢
    obtain ⟨q, v, r, e, e2, h1, h2⟩ := h
    exact ⟨q, v, r, e, e2, Rep.monoC l d v h1, RepT.monoC l xs r h2⟩
  | .non :: _, _, h => by unfold RepT at h; exact h.elim
  | .bl _ :: _, _, h => by unfold RepT at h; exact h.elim
  | .int _ :: _, _, h => by unfold RepT at h; exact h.elim
  | .str _ :: _, _, h => by unfold RepT at h; exact h.elim
  | .lst _ :: _, _, h => by unfold RepT at h; exact h.elim
  | .dic _ :: _, _, h => by unfold RepT at h; exact h.elim
  | .dit _ :: _, _, h => by unfold RepT at h; exact h.elim
  | .tup [] :: _, _, h => by unfold RepT at h; exact h.elim
  | .tup [_] :: _, _, h => by unfold RepT at h; exact h.elim
  | .tup (_ :: _ :: _ :: _) :: _, _, h => by unfold RepT at h; exact h.elim
end
end
theorem Rep.mono {K : PySem.W.Frag} {F F' : Hp} (l : Le F F') (d : D) (v : V) (h : Rep K F d v) : Rep K F' d v := Rep.monoC l.c d v h
theorem Reps.mono {K : PySem.W.Frag} {F F' : Hp} (l : Le F F') (d : List D) (v : List V) (h : Reps K F d v) : Reps K F' d v := Reps.monoC l.c d v h
theorem RepK.mono {K : PySem.W.Frag} {F F' : Hp} (l : Le F F') (d : List D) (v : List (Key × V)) (h : RepK K F d v) : RepK K F' d v := RepK.monoC l.c d v h
theorem RepT.mono {K : PySem.W.Frag} {F F' : Hp} (l : Le F F') (d : List D) (v : List (List Key × V)) (h : RepT K F d v) : RepT K F' d v := RepT.monoC l.c d v h

/-! ### cells, environments -/
inductive Cell where
  | emp | val (d : D) | own (d : D)
abbrev Env' := List Cell
/-- the content of an owned object -/
def Co (K : PySem.W.Frag) (F : Hp) : D → HO → Prop
  | .lst xs, o => ∃ vs, o = .lst vs ∧ Reps K F xs vs
  | .dic xs, o => ∃ kvs, o = .dK kvs ∧ RepK K F xs kvs
  | .dit xs, o => ∃ kvs, o = .dT kvs ∧ RepT K F xs kvs
  | _, _ => False
theorem Co.mono {K : PySem.W.Frag} {F F' : Hp} (l : Le F F') : ∀ {d : D} {o : HO}, Co K F d o → Co K F' d o
  | .lst xs, o, ⟨vs, e, r⟩ => ⟨vs, e, Reps.mono l _ _ r⟩
  | .dic xs, o, ⟨vs, e, r⟩ => ⟨vs, e, RepK.mono l _ _ r⟩
  | .dit xs, o, ⟨vs, e, r⟩ => ⟨vs, e, RepT.mono l _ _ r⟩
/-- an owned object read as it stands -/
theorem Co.rep {K : PySem.W.Frag} {F G : Hp} {p : Addr} (l : Le F G) : ∀ {d : D} {o : HO}, Co K F d o → G p = some o → Rep K G d (.ref p)
  | .lst xs, o, ⟨vs, e, r⟩, h => by
    unfold Rep
    subst e
    exact ⟨p, vs, rfl, .inl (.inl h), Reps.mono l _ _ r⟩
  | .dic xs, o, ⟨vs, e, r⟩, h => by
    unfold Rep
    subst e
    exact ⟨p, vs, rfl, .inl h, RepK.mono l _ _ r⟩
  | .dit xs, o, ⟨vs, e, r⟩, h => by
    unfold Rep
    subst e
    exact ⟨p, vs, rfl, .inl h, RepT.mono l _ _ r⟩
def Owned (σ : St) (ρ : Env') (b : Addr) : Prop := ∃ (i : Nat) (d : D), ρ[i]? = some (Cell.own d) ∧ σ[i]? = some (some (V.ref b))
structure St2 (K : PySem.W.Frag) (F H : Hp) (σ : St) (ρ : Env') : Prop where
  le : Le F H
  len : σ.length = ρ.length
  val : ∀ (i : Nat) (d : D), ρ[i]? = some (Cell.val d) → ∃ v, σ[i]? = some (some v) ∧ Rep K F d v
  own : ∀ (i : Nat) (d : D), ρ[i]? = some (Cell.own d) → ∃ p o, σ[i]? = some (some (V.ref p)) ∧ H p = some o ∧ F p = none ∧ Co K F d o
  sep : ∀ (i j : Nat) (p : Addr) (d e : D), i ≠ j → ρ[i]? = some (Cell.own d) → ρ[j]? = some (Cell.own e) → σ[i]? = some (some (V.ref p)) → σ[j]? ≠ some (some (V.ref p))
/-- a step: what is frozen stays, what others own stays -/
structure Stp (σ : St) (ρ : Env') (F H : Hp) (σ' : St) (ρ' : Env') (F' H' : Hp) : Prop where
  le : Le F F'
  kp : ∀ b o, H b = some o → ¬ Owned σ ρ b → H' b = some o
  fr : ∀ b, F' b ≠ none → F b ≠ none ∨ H b = none ∨ Owned σ ρ b
  ow : ∀ b, Owned σ' ρ' b → Owned σ ρ b ∨ H b = none
  al : ∀ b, H b ≠ none → H' b ≠ none
theorem Stp.refl (σ : St) (ρ : Env') (F H : Hp) : Stp σ ρ F H σ ρ F H := ⟨Le.refl _, fun _ _ h _ => h, fun _ h => .inl h, fun _ h => .inl h, fun _ h => h⟩
theorem Stp.trans {σ σ1 σ2 : St} {ρ ρ1 ρ2 : Env'} {F F1 F2 H H1 H2 : Hp} (a : Stp σ ρ F H σ1 ρ1 F1 H1) (b : Stp σ1 ρ1 F1 H1 σ2 ρ2 F2 H2) : Stp σ ρ F H σ2 ρ2 F2 H2 where
  le := a.le.trans b.le
  kp := fun c o h n => b.kp c o (a.kp c o h n) fun w => by
    rcases a.ow c w with w | w
    · exact n w
    · rw [w] at h
      cases h
  fr := fun c h => by
    rcases b.fr c h with h | h | h
    · exact a.fr c h
    · refine .inr (.inl ?_)
      cases q : H c with
      | none => rfl
      | some u => exact absurd h (a.al c (by rw [q]; exact Option.some_ne_none _))
    · rcases a.ow c h with h | h
      · exact .inr (.inr h)
      · exact .inr (.inl h)
  ow := fun c h => by
    rcases b.ow c h with h | h
    · exact a.ow c h
    · refine .inr ?_
      cases q : H c with
      | none => rfl
      | some u => exact absurd h (a.al c (by rw [q]; exact Option.some_ne_none _))
  al := fun c h => b.al c (a.al c h)
/-- only new objects -/
structure New (F H F' H' : Hp) : Prop where
  le : Le F F'
  le' : Le F' H'
  kp : Same H H'
  fr : ∀ b, F' b ≠ none → F b ≠ none ∨ H b = none
theorem New.refl {F H : Hp} (l : Le F H) : New F H F H := ⟨Le.refl _, l, Same.refl _, fun _ h => .inl h⟩
theorem New.trans {F H F1 H1 F2 H2 : Hp} (a : New F H F1 H1) (b : New F1 H1 F2 H2) : New F H F2 H2 where
  le := a.le.trans b.le
  le' := b.le'
  kp := a.kp.trans b.kp
  fr := fun c h => by
    rcases b.fr c h with h | h
    · exact a.fr c h
    · refine .inr ?_
      cases q : H c with
      | none => rfl
      | some u =>
        rw [a.kp c u q] at h
        cases h
theorem New.upd {F H : Hp} {p : Addr} {o : HO} (l : Le F H) (h : H p = none) : New F H (upd F p o) (upd H p o) where
  le := Le.updL (l.none h)
  le' := l.upd2
  kp := fun b u e => by
    rw [upd_ne (ne_of_none e h)]
    exact e
  fr := fun b e => by
    by_cases q : b = p
    · subst q
      exact .inr h
    · rw [upd_ne q] at e
      exact .inl e
theorem New.stp {F H F' H' : Hp} (n : New F H F' H') (σ : St) (ρ : Env') : Stp σ ρ F H σ ρ F' H' where
  le := n.le
  kp := fun b o h _ => n.kp b o h
  fr := fun b h => by
    rcases n.fr b h with h | h
    · exact .inl h
    · exact .inr (.inl h)
  ow := fun b h => .inl h
  al := fun b h e => by
    cases q : H b with
    | none => exact h q
    | some u =>
      rw [n.kp b u q] at e
      cases e
section
variable {K : PySem.W.Frag} {F F' H H' : Hp} {σ : St} {ρ : Env'}
theorem St2.owned_none (s : St2 K F H σ ρ) {b : Addr} (h : Owned σ ρ b) : F b = none := by
  obtain ⟨i, d, h1, h2⟩ := h
  obtain ⟨p, o, e, _, n, _⟩ := s.own i d h1
  rw [e] at h2
  cases h2
  exact n
theorem St2.owned_some (s : St2 K F H σ ρ) {b : Addr} (h : Owned σ ρ b) : ∃ o, H b = some o := by
  obtain ⟨i, d, h1, h2⟩ := h
  obtain ⟨p, o, e, q, n, _⟩ := s.own i d h1
  rw [e] at h2
  cases h2
  exact ⟨o, q⟩
/-- behind new objects -/
theorem St2.new (s : St2 K F H σ ρ) (n : New F H F' H') : St2 K F' H' σ ρ where
  le := n.le'
  len := s.len
  val := fun i d h => by
    obtain ⟨v, e, r⟩ := s.val i d h
    exact ⟨v, e, Rep.mono n.le _ _ r⟩
  own := fun i d h => by
    obtain ⟨p, o, e, q, z, c⟩ := s.own i d h
    refine ⟨p, o, e, n.kp _ _ q, ?_, Co.mono n.le c⟩
    cases w : F' p with
    | none => rfl
    | some u =>
      rcases n.fr p (by rw [w]; exact Option.some_ne_none _) with w | w
      · exact absurd z w
      · rw [q] at w
        cases w
  sep := s.sep
end

/-! ### the snapshot: owned objects read as they stand -/
open Classical in
noncomputable def snap (F H : Hp) (σ : St) (ρ : Env') : Hp := fun b => if Owned σ ρ b then H b else F b
open Classical in
noncomputable def cut (F : Hp) (σ : St) (ρ : Env') : Hp := fun b => if Owned σ ρ b then none else F b
section
variable {K : PySem.W.Frag} {F F' G H H' : Hp} {σ : St} {ρ : Env'}
theorem snap_own {b : Addr} (h : Owned σ ρ b) : snap F H σ ρ b = H b := by unfold snap; rw [if_pos h]
theorem snap_not {b : Addr} (h : ¬ Owned σ ρ b) : snap F H σ ρ b = F b := by unfold snap; rw [if_neg h]
theorem cut_own {b : Addr} (h : Owned σ ρ b) : cut F σ ρ b = none := by unfold cut; rw [if_pos h]
theorem cut_not {b : Addr} (h : ¬ Owned σ ρ b) : cut F σ ρ b = F b := by unfold cut; rw [if_neg h]
theorem Rd.congr {b : Addr} {u : HO} (e : G b = H b) (h : Rd G b u) : Rd H b u := by
  rcases h with h | ⟨o, h⟩
  · exact .inl (e ▸ h)
  · exact .inr ⟨o, e ▸ h⟩
theorem St2.snap_le (s : St2 K F H σ ρ) : Le (snap F H σ ρ) H := fun b u h => by
  by_cases w : Owned σ ρ b
  · exact Rd.congr (snap_own w) h
  · exact s.le b u (Rd.congr (snap_not w) h)
theorem St2.le_snap (s : St2 K F H σ ρ) : Le F (snap F H σ ρ) := fun b u h => by
  by_cases w : Owned σ ρ b
  · rcases h with h | ⟨o, h⟩ <;> rw [s.owned_none w] at h <;> cases h
  · exact Rd.congr (snap_not w).symm h
/-- new objects over the snapshot -/
theorem St2.snew (s : St2 K F H σ ρ) (n : New (snap F H σ ρ) H F' H') : New F H (cut F' σ ρ) H' ∧ Le F' (snap (cut F' σ ρ) H' σ ρ) := by
  refine ⟨⟨fun b u h => ?_, fun b u h => ?_, n.kp, fun b h => ?_⟩, fun b u h => ?_⟩
  · by_cases w : Owned σ ρ b
    · rcases h with h | ⟨o, h⟩ <;> rw [s.owned_none w] at h <;> cases h
    · exact Rd.congr (cut_not w).symm (n.le b u (s.le_snap b u h))
  · by_cases w : Owned σ ρ b
    · rcases h with h | ⟨o, h⟩ <;> rw [cut_own w] at h <;> cases h
    · exact n.le' b u (Rd.congr (cut_not w) h)
  · by_cases w : Owned σ ρ b
    · exact absurd (cut_own w) h
    · rw [cut_not w] at h
      rcases n.fr b h with h | h
      · rw [snap_not w] at h
        exact .inl h
      · exact .inr h
  · by_cases w : Owned σ ρ b
    · exact Rd.congr (snap_own w).symm (n.le' b u h)
    · exact Rd.congr ((snap_not w).trans (cut_not w)).symm h
theorem snap_new (s : St2 K F H σ ρ) (n : New F H F' H') : Le (snap F H σ ρ) (snap F' H' σ ρ) := fun b u h => by
  by_cases w : Owned σ ρ b
  · refine Rd.congr (snap_own w).symm ?_
    exact Le.same n.kp b u (Rd.congr (snap_own w) h)
  · exact Rd.congr (snap_not w).symm (n.le b u (Rd.congr (snap_not w) h))
end
end VL

/-! V2: the judgements. -/
namespace VL
open PySem PySem.Spec L2

def Out.on {α : Type} (x : Out α) (P : α → Prop) (E : Str → List D → Prop) : Prop :=
  match x with
  | .ok a => P a
  | .exc c fs => E c fs
  | .bad => False
theorem on_bind {α β : Type} {x : Out α} {f : α → Out β} {P : β → Prop} {E : Str → List D → Prop} (h : (x.bind f).on P E) : x.on (fun a => (f a).on P E) E := by
  cases x with
  | ok a => exact h
  | exc c fs => exact h
  | bad => exact h
theorem on_imp {α : Type} {x : Out α} {P P' : α → Prop} {E E' : Str → List D → Prop} (h : x.on P E) (hp : ∀ a, x = .ok a → P a → P' a) (he : ∀ c fs, x = .exc c fs → E c fs → E' c fs) : x.on P' E' := by
  cases x with
  | ok a => exact hp a rfl h
  | exc c fs => exact he c fs rfl h
  | bad => exact h

abbrev MG := Str → Option Value
abbrev Fr' := PySem.W.Frag
abbrev W0 : WX := fun _ _ _ _ => False
def ExcR (mg : MG) (c : Str) (fs : List D) (cls : Value) (xd : Option Addr) : Prop := fs = [] ∧ xd = none ∧ ∃ C, cls = .ref C ∧ mg c = some (.ref C)
def emps (ρ : Env') : Env' := List.replicate ρ.length Cell.emp
theorem emps_len (ρ : Env') : (emps ρ).length = ρ.length := List.length_replicate
theorem emps_at {ρ : Env'} {i : Nat} {c : Cell} (h : (emps ρ)[i]? = some c) : c = .emp := by
  unfold emps at h
  rw [List.getElem?_replicate] at h
  split at h
  · exact (Option.some.inj h).symm
  · cases h
theorem emps_owned {ρ : Env'} {σ : L2.St} {b : Addr} : ¬ Owned σ (emps ρ) b := fun ⟨i, d, h, _⟩ => nomatch emps_at h
theorem St2.emps {K : Fr'} {F H : Hp} {σ : L2.St} {ρ : Env'} (l : Le F H) (n : σ.length = ρ.length) : St2 K F H σ (emps ρ) where
  le := l
  len := by rw [emps_len]; exact n
  val := fun i d h => nomatch emps_at h
  own := fun i d h => nomatch emps_at h
  sep := fun i j p d e _ h => nomatch emps_at h

/-- the ground of reading -/
noncomputable def bs (b : Bool) (F H : Hp) (σ : L2.St) (ρ : Env') : Hp := if b = true then snap F H σ ρ else F
section
variable {K : Fr'} {F F' H H' : Hp} {σ : L2.St} {ρ : Env'} {b : Bool}
theorem St2.bs_le (s : St2 K F H σ ρ) : Le (bs b F H σ ρ) H := by
  cases b with
  | true => exact s.snap_le
  | false => exact s.le
theorem St2.le_bs (s : St2 K F H σ ρ) : Le F (bs b F H σ ρ) := by
  cases b with
  | true => exact s.le_snap
  | false => exact Le.refl _
theorem bs_new (s : St2 K F H σ ρ) (n : New F H F' H') : Le (bs b F H σ ρ) (bs b F' H' σ ρ) := by
  cases b with
  | true => exact snap_new s n
  | false => exact n.le
theorem St2.bnew (s : St2 K F H σ ρ) (n : New (bs b F H σ ρ) H F' H') : ∃ F'', New F H F'' H' ∧ Le F' (bs b F'' H' σ ρ) := by
  cases b with
  | true => exact ⟨_, s.snew n⟩
  | false => exact ⟨F', n, Le.refl _⟩
end
/-! ### readings -/
section
variable (K : Fr') (mg : MG) (W : WX)
/-- what is wanted at an exception -/
def ExM (σ : L2.St) (ρ : Env') (F H : Hp) (c : Str) (fs : List D) : Prop := ∀ cls xd σ' F' H', Le F' H' → σ'.length = σ.length → Stp σ ρ F H σ' (emps ρ) F' H' → ExcR mg c fs cls xd → W cls xd σ' H'
/-- b: owned objects may be read, too, as they stand -/
def tR (b : Bool) (f : Env' → Out D) : TE := fun σ H Q => ∃ F ρ, St2 K F H σ ρ ∧ (f ρ).on (fun d => ∀ v F' H', New F H F' H' → Rep K (bs b F' H' σ ρ) d v → Q v H') (ExM mg W σ ρ F H)
def tRs (b : Bool) (f : Env' → Out (List D)) : TA := fun σ H Q => ∃ F ρ, St2 K F H σ ρ ∧ (f ρ).on (fun d => ∀ v F' H', New F H F' H' → Reps K (bs b F' H' σ ρ) d v → Q v H') (ExM mg W σ ρ F H)
/-- a new object that nobody else knows -/
def tO (b : Bool) (f : Env' → Out D) : TE := fun σ H Q => ∃ F ρ, St2 K F H σ ρ ∧ (f ρ).on (fun d => ∀ p o F' H', New F H F' H' → H' p = none → Co K (bs b F' H' σ ρ) d o → Q (.ref p) (upd H' p o)) (ExM mg W σ ρ F H)
def tRT (f : Env' → Out Bool) : TT := fun σ H Q => ∃ F ρ, St2 K F H σ ρ ∧ (f ρ).on (fun b => ∀ F' H', New F H F' H' → Q b H') (ExM mg W σ ρ F H)
def tM (f : Env' → Out (D × Env')) : TE := fun σ H Q => ∃ F ρ, St2 K F H σ ρ ∧ (f ρ).on (fun p => ∀ v F' H', St2 K F' H' σ p.2 → Rep K F' p.1 v → Stp σ ρ F H σ p.2 F' H' → Q v H') (ExM mg W σ ρ F H)
def tMs (f : Env' → Out (List D × Env')) : TA := fun σ H Q => ∃ F ρ, St2 K F H σ ρ ∧ (f ρ).on (fun p => ∀ v F' H', St2 K F' H' σ p.2 → Reps K F' p.1 v → Stp σ ρ F H σ p.2 F' H' → Q v H') (ExM mg W σ ρ F H)
def tMT (f : Env' → Out (Bool × Env')) : TT := fun σ H Q => ∃ F ρ, St2 K F H σ ρ ∧ (f ρ).on (fun p => ∀ F' H', St2 K F' H' σ p.2 → Stp σ ρ F H σ p.2 F' H' → Q p.1 H') (ExM mg W σ ρ F H)
end
/-- how a block ends -/
inductive Fl where
  | nx | brk | cnt | ret (d : D) | new (d : D)
def EndsF (K : Fr') (D0 : Ends) (σ : L2.St) (F H : Hp) : Fl → Prop
  | .nx => D0.nx σ H
  | .brk => D0.bk σ H
  | .cnt => D0.ct σ H
  | .ret d => ∀ v, Rep K F d v → D0.rt v H
  | .new d => ∀ p o, H p = none → Co K F d o → D0.rt (.ref p) (upd H p o)
/-- the places that are never stored to (parameters that are handed back) stay -/
def Fix (prot : List Nat) (σ σ' : L2.St) : Prop := σ'.length = σ.length ∧ ∀ i, i ∈ prot → σ'[i]? = σ[i]?
theorem Fix.refl (prot : List Nat) (σ : L2.St) : Fix prot σ σ := ⟨rfl, fun _ _ => rfl⟩
theorem Fix.trans {prot : List Nat} {σ σ1 σ2 : L2.St} (a : Fix prot σ σ1) (b : Fix prot σ1 σ2) : Fix prot σ σ2 := ⟨b.1.trans a.1, fun i h => (b.2 i h).trans (a.2 i h)⟩
def tS (K : Fr') (mg : MG) (W : WX) (prot : List Nat) (f : Env' → Out (Fl × Env')) : TS := fun D0 σ H => ∃ F ρ, St2 K F H σ ρ ∧
  (f ρ).on (fun p => ∀ σ' F' H', St2 K F' H' σ' p.2 → Stp σ ρ F H σ' p.2 F' H' → Fix prot σ σ' → EndsF K D0 σ' F' H' p.1) (ExM mg W σ ρ F H)

structure SR (b : Bool) (X : Cx) (W : WX) (e : Expr) (f : Env' → Out D) : Prop where
  pe : PE X e (tR X.K X.mg W b f)
structure SRs (b : Bool) (X : Cx) (W : WX) (es : List Expr) (f : Env' → Out (List D)) : Prop where
  pe : PA X es (tRs X.K X.mg W b f)
structure SO (b : Bool) (X : Cx) (W : WX) (e : Expr) (f : Env' → Out D) : Prop where
  pe : PE X e (tO X.K X.mg W b f)
structure SRT (X : Cx) (W : WX) (e : Expr) (f : Env' → Out Bool) : Prop where
  pe : PT X e (tRT X.K X.mg W f)
structure SM (X : Cx) (W : WX) (e : Expr) (f : Env' → Out (D × Env')) : Prop where
  pe : PE X e (tM X.K X.mg W f)
structure SMs (X : Cx) (W : WX) (es : List Expr) (f : Env' → Out (List D × Env')) : Prop where
  pe : PA X es (tMs X.K X.mg W f)
structure SMT (X : Cx) (W : WX) (e : Expr) (f : Env' → Out (Bool × Env')) : Prop where
  pe : PT X e (tMT X.K X.mg W f)
structure SS (X : Cx) (W : WX) (prot : List Nat) (st : List Stmt) (f : Env' → Out (Fl × Env')) : Prop where
  ps : PSs X st (tS X.K X.mg W prot f)
structure S1 (X : Cx) (W : WX) (prot : List Nat) (st : Stmt) (f : Env' → Out (Fl × Env')) : Prop where
  ps : PS X st (tS X.K X.mg W prot f)

section
variable {X : Cx} {e : Expr} {es : List Expr} {t t' : TE} {ta ta' : TA} {tt tt' : TT} {ts ts' : TS} {st : Stmt} {sts : List Stmt}
theorem PE.imp (h : PE X e t) (k : ∀ σ H Q, t' σ H Q → t σ H Q) : PE X e t' := ⟨fun pins s σ H Q I q => h.run pins s σ H Q I (k _ _ _ q)⟩
theorem PA.imp (h : PA X es ta) (k : ∀ σ H Q, ta' σ H Q → ta σ H Q) : PA X es ta' := ⟨fun pos pins s σ H Q I q => h.run pos pins s σ H Q I (k _ _ _ q)⟩
theorem PT.imp (h : PT X e tt) (k : ∀ σ H Q, tt' σ H Q → tt σ H Q) : PT X e tt' := ⟨fun pins s σ H Q I q => h.run pins s σ H Q I (k _ _ _ q)⟩
theorem PW.imp (h : PW X e tt) (k : ∀ σ H Q, tt' σ H Q → tt σ H Q) : PW X e tt' := ⟨fun wh pins s σ H Q I q => h.run wh pins s σ H Q I (k _ _ _ q)⟩
theorem PS.imp (h : PS X st ts) (k : ∀ D0 σ H, ts' D0 σ H → ts D0 σ H) : PS X st ts' := ⟨fun pins s σ H D0 I q => h.run pins s σ H D0 I (k _ _ _ q)⟩
theorem PSs.imp (h : PSs X sts ts) (k : ∀ D0 σ H, ts' D0 σ H → ts D0 σ H) : PSs X sts ts' := ⟨fun pins s σ H D0 I q => h.run pins s σ H D0 I (k _ _ _ q)⟩
end

/-! ### exceptions further on -/
section
variable {K : Fr'} {mg : MG} {W : WX} {σ σ1 : L2.St} {ρ ρ1 : Env'} {F F1 H H1 : Hp} {c : Str} {fs : List D}
theorem ExM.on (x : ExM mg W σ ρ F H c fs) (s : Stp σ ρ F H σ1 ρ1 F1 H1) (n : σ1.length = σ.length) (m : ρ1.length = ρ.length) : ExM mg W σ1 ρ1 F1 H1 c fs := fun cls xd σ' F' H' l hl sp r =>
  x cls xd σ' F' H' l (hl.trans n) (s.trans (by
    have e : emps ρ = emps ρ1 := by unfold emps; rw [m]
    rw [e]
    exact sp)) r
theorem ExM.new (x : ExM mg W σ ρ F H c fs) (n : New F H F1 H1) : ExM mg W σ ρ F1 H1 c fs := x.on (n.stp σ ρ) rfl rfl
end
/-- what others keep behind a pure step: from Stp with no owned cell -/
theorem Stp.emp {σ : L2.St} {ρ : Env'} {F H F' H' : Hp} (n : New F H F' H') {σ' : L2.St} : Stp σ ρ F H σ' (emps ρ) F' H' where
  le := n.le
  kp := fun b o h _ => n.kp b o h
  fr := fun b h => by
    rcases n.fr b h with h | h
    · exact .inl h
    · exact .inr (.inl h)
  ow := fun b h => absurd h emps_owned
  al := fun b h e => by
    cases q : H b with
    | none => exact h q
    | some u =>
      rw [n.kp b u q] at e
      cases e

/-! ### pure operations -/
def Pure1 (K : Fr') (r : V → Hp → VK → Prop) (g : D → Out D) : Prop := ∀ F H x dx d Q, Le F H → Rep K F dx x → g dx = .ok d → (∀ v F' H', New F H F' H' → Rep K F' d v → Q v H') → r x H Q
def Pure2 (K : Fr') (r : V → V → Hp → VK → Prop) (g : D → D → Out D) : Prop := ∀ F H x y dx dy d Q, Le F H → Rep K F dx x → Rep K F dy y → g dx dy = .ok d → (∀ v F' H', New F H F' H' → Rep K F' d v → Q v H') → r x y H Q
def PureN (K : Fr') (r : List V → Hp → VK → Prop) (g : List D → Out D) : Prop := ∀ F H xs ds d Q, Le F H → Reps K F ds xs → g ds = .ok d → (∀ v F' H', New F H F' H' → Rep K F' d v → Q v H') → r xs H Q
/-- never an exception of its own -/
def noX {α : Type} (x : Out α) : Out α := match x with
  | .exc _ _ => .bad
  | y => y
@[simp] theorem noX_ok {α : Type} (a : α) : noX (.ok a) = .ok a := rfl
theorem noX_on {α : Type} {x : Out α} {P : α → Prop} {E : Str → List D → Prop} (h : (noX x).on P E) : ∃ a, x = .ok a ∧ P a := by
  cases x with
  | ok a => exact ⟨a, rfl, h⟩
  | exc c fs => exact h.elim
  | bad => exact h.elim

/-- operations whose value is a new object -/
def PureO1 (K : Fr') (r : V → Hp → VK → Prop) (g : D → Out D) : Prop := ∀ F H x dx d Q, Le F H → Rep K F dx x → g dx = .ok d → (∀ p o, H p = none → Co K F d o → Q (.ref p) (upd H p o)) → r x H Q
def PureO2 (K : Fr') (r : V → V → Hp → VK → Prop) (g : D → D → Out D) : Prop := ∀ F H x y dx dy d Q, Le F H → Rep K F dx x → Rep K F dy y → g dx dy = .ok d → (∀ p o, H p = none → Co K F d o → Q (.ref p) (upd H p o)) → r x y H Q
def PureON (K : Fr') (r : List V → Hp → VK → Prop) (g : List D → Out D) : Prop := ∀ F H xs ds d Q, Le F H → Reps K F ds xs → g ds = .ok d → (∀ p o, H p = none → Co K F d o → Q (.ref p) (upd H p o)) → r xs H Q
theorem Co.laid {K : Fr'} {F H : Hp} {p : Addr} {o : HO} {d : D} (l : Le F H) (h : H p = none) (c : Co K F d o) : New F H (upd F p o) (upd H p o) ∧ Rep K (upd F p o) d (.ref p) :=
  ⟨New.upd l h, Co.rep (Le.updL (l.none h)) c upd_same⟩

section
variable {b : Bool} {X : Cx} {W : WX} {x y : Expr} {f g : Env' → Out D} {ta tb : TE}
theorem SR.imp {e : Expr} {t : TE} (h : PE X e t) (k : ∀ σ H Q, tR X.K X.mg W b f σ H Q → t σ H Q) : SR b X W e f := ⟨PE.imp h k⟩
theorem SO.imp {e : Expr} {t : TE} (h : PE X e t) (k : ∀ σ H Q, tO X.K X.mg W b f σ H Q → t σ H Q) : SO b X W e f := ⟨PE.imp h k⟩
theorem SM.imp {e : Expr} {t : TE} {f : Env' → Out (D × Env')} (h : PE X e t) (k : ∀ σ H Q, tM X.K X.mg W f σ H Q → t σ H Q) : SM X W e f := ⟨PE.imp h k⟩
/-- a new object, frozen at once -/
theorem SO.sr {e : Expr} (h : SO b X W e f) : SR b X W e f := SR.imp h.pe fun σ H Q ⟨F, ρ, s, q⟩ => ⟨F, ρ, s, on_imp q (fun d _ q p o F' H' n hp c => by
    have s' := s.new n
    have ⟨n2, r⟩ := Co.laid s'.bs_le hp c
    obtain ⟨F'', n3, l⟩ := s'.bnew n2
    exact q _ _ _ (n.trans n3) (Rep.mono l _ _ r)) fun _ _ _ q => q⟩

/-- one operand -/
def r1 (f : Env' → Out D) (h : D → Out D) : Env' → Out D := fun ρ => (f ρ).bind fun x => noX (h x)
theorem tR1 {r : V → Hp → VK → Prop} {h : D → Out D} (P : Pure1 X.K r h) : ∀ σ H Q, tR X.K X.mg W b (r1 f h) σ H Q → tR X.K X.mg W b f σ H fun x H1 => r x H1 Q := by
  rintro σ H Q ⟨F, ρ, s, q⟩
  refine ⟨F, ρ, s, on_imp (on_bind q) (fun x ex q => ?_) (fun _ _ _ q => q)⟩
  obtain ⟨d, ed, q⟩ := noX_on q
  intro v1 F1 H1 n1 rx
  have s1 := s.new n1
  refine P _ _ _ _ _ _ s1.bs_le rx ed fun v F' H' n rv => ?_
  obtain ⟨F'', n2, l⟩ := s1.bnew n
  exact q v _ H' (n1.trans n2) (Rep.mono l _ _ rv)
theorem tO1 {r : V → Hp → VK → Prop} {h : D → Out D} (P : PureO1 X.K r h) : ∀ σ H Q, tO X.K X.mg W b (r1 f h) σ H Q → tR X.K X.mg W b f σ H fun x H1 => r x H1 Q := by
  rintro σ H Q ⟨F, ρ, s, q⟩
  refine ⟨F, ρ, s, on_imp (on_bind q) (fun x ex q => ?_) (fun _ _ _ q => q)⟩
  obtain ⟨d, ed, q⟩ := noX_on q
  intro v1 F1 H1 n1 rx
  have s1 := s.new n1
  exact P _ _ _ _ _ _ s1.bs_le rx ed fun p o hp c => q p o F1 H1 n1 hp c
/-- two operands -/
def r2 (f g : Env' → Out D) (h : D → D → Out D) : Env' → Out D := fun ρ => (f ρ).bind fun x => (g ρ).bind fun y => noX (h x y)
theorem tR2 {r : V → V → Hp → VK → Prop} {h : D → D → Out D} (P : Pure2 X.K r h) : ∀ σ H Q, tR X.K X.mg W b (r2 f g h) σ H Q → tOp r (tR X.K X.mg W b f) (tR X.K X.mg W b g) σ H Q := by
  rintro σ H Q ⟨F, ρ, s, q⟩
  refine ⟨F, ρ, s, on_imp (on_bind q) (fun x ex q => ?_) (fun _ _ _ q => q)⟩
  intro v1 F1 H1 n1 rx
  have s1 := s.new n1
  refine ⟨F1, ρ, s1, on_imp (on_bind q) (fun y ey q => ?_) (fun _ _ _ q => q.new n1)⟩
  intro v2 F2 H2 n2 ry
  have s2 := s1.new n2
  obtain ⟨d, ed, q⟩ := noX_on q
  refine P _ _ _ _ _ _ _ _ s2.bs_le (Rep.mono (bs_new s1 n2) _ _ rx) ry ed fun v F' H' n rv => ?_
  obtain ⟨F'', n3, l⟩ := s2.bnew n
  exact q v _ H' ((n1.trans n2).trans n3) (Rep.mono l _ _ rv)
theorem tO2 {r : V → V → Hp → VK → Prop} {h : D → D → Out D} (P : PureO2 X.K r h) : ∀ σ H Q, tO X.K X.mg W b (r2 f g h) σ H Q → tOp r (tR X.K X.mg W b f) (tR X.K X.mg W b g) σ H Q := by
  rintro σ H Q ⟨F, ρ, s, q⟩
  refine ⟨F, ρ, s, on_imp (on_bind q) (fun x ex q => ?_) (fun _ _ _ q => q)⟩
  intro v1 F1 H1 n1 rx
  have s1 := s.new n1
  refine ⟨F1, ρ, s1, on_imp (on_bind q) (fun y ey q => ?_) (fun _ _ _ q => q.new n1)⟩
  intro v2 F2 H2 n2 ry
  have s2 := s1.new n2
  obtain ⟨d, ed, q⟩ := noX_on q
  exact P _ _ _ _ _ _ _ _ s2.bs_le (Rep.mono (bs_new s1 n2) _ _ rx) ry ed fun p o hp c => q p o F2 H2 (n1.trans n2) hp c
/-- many -/
def rN (f : Env' → Out (List D)) (h : List D → Out D) : Env' → Out D := fun ρ => (f ρ).bind fun x => noX (h x)
theorem tRN {fs : Env' → Out (List D)} {r : List V → Hp → VK → Prop} {h : List D → Out D} (P : PureN X.K r h) : ∀ σ H Q, tR X.K X.mg W b (rN fs h) σ H Q → tRs X.K X.mg W b fs σ H fun xs H1 => r xs H1 Q := by
  rintro σ H Q ⟨F, ρ, s, q⟩
  refine ⟨F, ρ, s, on_imp (on_bind q) (fun x ex q => ?_) (fun _ _ _ q => q)⟩
  obtain ⟨d, ed, q⟩ := noX_on q
  intro v1 F1 H1 n1 rx
  have s1 := s.new n1
  refine P _ _ _ _ _ _ s1.bs_le rx ed fun v F' H' n rv => ?_
  obtain ⟨F'', n2, l⟩ := s1.bnew n
  exact q v _ H' (n1.trans n2) (Rep.mono l _ _ rv)
theorem tON {fs : Env' → Out (List D)} {r : List V → Hp → VK → Prop} {h : List D → Out D} (P : PureON X.K r h) : ∀ σ H Q, tO X.K X.mg W b (rN fs h) σ H Q → tRs X.K X.mg W b fs σ H fun xs H1 => r xs H1 Q := by
  rintro σ H Q ⟨F, ρ, s, q⟩
  refine ⟨F, ρ, s, on_imp (on_bind q) (fun x ex q => ?_) (fun _ _ _ q => q)⟩
  obtain ⟨d, ed, q⟩ := noX_on q
  intro v1 F1 H1 n1 rx
  have s1 := s.new n1
  exact P _ _ _ _ _ _ s1.bs_le rx ed fun p o hp c => q p o F1 H1 n1 hp c
/-- argument lists -/
def rNil : Env' → Out (List D) := fun _ => .ok []
def rCons (f : Env' → Out D) (g : Env' → Out (List D)) : Env' → Out (List D) := fun ρ => (f ρ).bind fun x => (g ρ).bind fun xs => .ok (x :: xs)
theorem SRs.nil : SRs b X W [] rNil := ⟨PA.imp pa_nil fun σ H Q ⟨F, ρ, s, q⟩ => q [] F H (New.refl s.le) (by unfold Reps; rfl)⟩
theorem SRs.cons {e : Expr} {es : List Expr} {fs : Env' → Out (List D)} (ha : SR b X W e f) (hr : SRs b X W es fs) (hs : starEach (e :: es) X.env = (false, eval e X.env) :: starEach es X.env := by rfl) : SRs b X W (e :: es) (rCons f fs) :=
  ⟨PA.imp (pa_cons ha.pe hr.pe hs) fun σ H Q ⟨F, ρ, s, q⟩ => ⟨F, ρ, s, on_imp (on_bind q) (fun x ex q v1 F1 H1 n1 rx => by
    have s1 := s.new n1
    exact ⟨F1, ρ, s1, on_imp (on_bind q) (fun y ey q v2 F2 H2 n2 ry => q (v1 :: v2) F2 H2 (n1.trans n2) (by
      unfold Reps
      exact ⟨v1, v2, rfl, Rep.mono (bs_new s1 n2) _ _ rx, ry⟩)) (fun _ _ _ q => q.new n1)⟩) (fun _ _ _ q => q)⟩⟩
end
end VL

/-! V3: expressions. -/
namespace VL
open PySem PySem.Spec L2

/-! ### reading off D -/
theorem rep_int {K : Fr'} {F : Hp} {i : Int} {v : V} (h : Rep K F (.int i) v) : v = .int i := by unfold Rep at h; exact h
theorem rep_str {K : Fr'} {F : Hp} {i : Str} {v : V} (h : Rep K F (.str i) v) : v = .str i := by unfold Rep at h; exact h
theorem rep_bl {K : Fr'} {F : Hp} {i : Bool} {v : V} (h : Rep K F (.bl i) v) : v = .bl i := by unfold Rep at h; exact h
theorem rep_non {K : Fr'} {F : Hp} {v : V} (h : Rep K F .non v) : v = .non := by unfold Rep at h; exact h
theorem rep_tup {K : Fr'} {F : Hp} {xs : List D} {v : V} (h : Rep K F (.tup xs) v) : ∃ a vs, v = .ref a ∧ SqT K F a vs ∧ Reps K F xs vs := by unfold Rep at h; exact h
theorem rep_lst {K : Fr'} {F : Hp} {xs : List D} {v : V} (h : Rep K F (.lst xs) v) : ∃ a vs, v = .ref a ∧ SqL K F a vs ∧ Reps K F xs vs := by unfold Rep at h; exact h
theorem mk_int {K : Fr'} {F : Hp} {i : Int} : Rep K F (.int i) (.int i) := by unfold Rep; rfl
theorem mk_str {K : Fr'} {F : Hp} {i : Str} : Rep K F (.str i) (.str i) := by unfold Rep; rfl
theorem mk_bl {K : Fr'} {F : Hp} {i : Bool} : Rep K F (.bl i) (.bl i) := by unfold Rep; rfl
theorem mk_non {K : Fr'} {F : Hp} : Rep K F .non .non := by unfold Rep; rfl
theorem mk_tup {K : Fr'} {F : Hp} {xs : List D} {a : Addr} {vs : List V} (h : SqT K F a vs) (r : Reps K F xs vs) : Rep K F (.tup xs) (.ref a) := by unfold Rep; exact ⟨a, vs, rfl, h, r⟩
theorem mk_lst {K : Fr'} {F : Hp} {xs : List D} {a : Addr} {vs : List V} (h : SqL K F a vs) (r : Reps K F xs vs) : Rep K F (.lst xs) (.ref a) := by unfold Rep; exact ⟨a, vs, rfl, h, r⟩
theorem reps_nil {K : Fr'} {F : Hp} {vs : List V} (h : Reps K F [] vs) : vs = [] := by unfold Reps at h; exact h
theorem reps_cons {K : Fr'} {F : Hp} {x : D} {xs : List D} {vs : List V} (h : Reps K F (x :: xs) vs) : ∃ v r, vs = v :: r ∧ Rep K F x v ∧ Reps K F xs r := by unfold Reps at h; exact h
theorem mk_nil {K : Fr'} {F : Hp} : Reps K F [] [] := by unfold Reps; rfl
theorem mk_cons {K : Fr'} {F : Hp} {x : D} {xs : List D} {v : V} {vs : List V} (h : Rep K F x v) (r : Reps K F xs vs) : Reps K F (x :: xs) (v :: vs) := by unfold Reps; exact ⟨v, vs, rfl, h, r⟩
theorem reps_len {K : Fr'} {F : Hp} : ∀ {xs : List D} {vs : List V}, Reps K F xs vs → vs.length = xs.length
  | [], vs, h => by rw [reps_nil h]; rfl
  | x :: xs, vs, h => by
    obtain ⟨v, r, rfl, _, h2⟩ := reps_cons h
    show r.length + 1 = xs.length + 1
    rw [reps_len h2]
theorem reps_app {K : Fr'} {F : Hp} : ∀ {xs ys : List D} {vs ws : List V}, Reps K F xs vs → Reps K F ys ws → Reps K F (xs ++ ys) (vs ++ ws)
  | [], ys, vs, ws, h, h2 => by rw [reps_nil h]; exact h2
  | x :: xs, ys, vs, ws, h, h2 => by
    obtain ⟨v, r, rfl, h1, h3⟩ := reps_cons h
    exact mk_cons h1 (reps_app h3 h2)
theorem reps_get {K : Fr'} {F : Hp} : ∀ {xs : List D} {vs : List V} {i : Nat} {x : D}, Reps K F xs vs → xs[i]? = some x → ∃ v, vs[i]? = some v ∧ Rep K F x v
  | [], vs, i, x, h, e => by simp at e
  | y :: xs, vs, 0, x, h, e => by
    obtain ⟨v, r, rfl, h1, h3⟩ := reps_cons h
    have e' : y = x := Option.some.inj e
    subst e'
    exact ⟨v, rfl, h1⟩
  | y :: xs, vs, i + 1, x, h, e => by
    obtain ⟨v, r, rfl, h1, h3⟩ := reps_cons h
    exact reps_get (i := i) h3 (by simpa using e)
theorem reps_get' {K : Fr'} {F : Hp} : ∀ {xs : List D} {vs : List V} {i : Nat} {v : V}, Reps K F xs vs → vs[i]? = some v → ∃ x, xs[i]? = some x ∧ Rep K F x v
  | [], vs, i, v, h, e => by rw [reps_nil h] at e; simp at e
  | y :: xs, vs, 0, v, h, e => by
    obtain ⟨w, r, rfl, h1, h3⟩ := reps_cons h
    have e' : w = v := Option.some.inj e
    subst e'
    exact ⟨y, rfl, h1⟩
  | y :: xs, vs, i + 1, v, h, e => by
    obtain ⟨w, r, rfl, h1, h3⟩ := reps_cons h
    exact reps_get' (i := i) h3 (by simpa using e)
theorem reps_take {K : Fr'} {F : Hp} : ∀ {xs : List D} {vs : List V} (n : Nat), Reps K F xs vs → Reps K F (xs.take n) (vs.take n)
  | xs, vs, 0, h => by simp; exact mk_nil
  | [], vs, n + 1, h => by rw [reps_nil h]; simp; exact mk_nil
  | x :: xs, vs, n + 1, h => by
    obtain ⟨v, r, rfl, h1, h3⟩ := reps_cons h
    exact mk_cons h1 (reps_take n h3)
theorem reps_drop {K : Fr'} {F : Hp} : ∀ {xs : List D} {vs : List V} (n : Nat), Reps K F xs vs → Reps K F (xs.drop n) (vs.drop n)
  | xs, vs, 0, h => by simp; exact h
  | [], vs, n + 1, h => by rw [reps_nil h]; simp; exact mk_nil
  | x :: xs, vs, n + 1, h => by
    obtain ⟨v, r, rfl, h1, h3⟩ := reps_cons h
    exact reps_drop n h3
theorem reps_set {K : Fr'} {F : Hp} {y : D} {w : V} (hy : Rep K F y w) : ∀ {xs : List D} {vs : List V} (n : Nat), Reps K F xs vs → Reps K F (xs.set n y) (vs.set n w)
  | [], vs, n, h => by rw [reps_nil h]; simp; exact mk_nil
  | x :: xs, vs, 0, h => by
    obtain ⟨v, r, rfl, h1, h3⟩ := reps_cons h
    exact mk_cons hy h3
  | x :: xs, vs, n + 1, h => by
    obtain ⟨v, r, rfl, h1, h3⟩ := reps_cons h
    exact mk_cons h1 (reps_set hy n h3)

/-! ### data of the model's own kind -/
mutual
def toP : D → PyData
  | .non => .none
  | .bl b => .bool b
  | .int i => .int i
  | .str x => .str x
  | .tup xs => .tuple (toPs xs)
  | .lst xs => .list (toPs xs)
  | .dic _ => .dict []
  | .dit _ => .dict []
def toPs : List D → List PyData
  | [] => []
  | x :: xs => toP x :: toPs xs
end
mutual
theorem rep_dp {K : Fr'} {F H : Hp} (l : Le F H) : ∀ (d : D) (v : V), (toP d).canLay0 = true → Rep K F d v → Dp K H v (toP d)
  | .non, v, _, h => by rw [rep_non h]; exact .non
  | .bl b, v, _, h => by rw [rep_bl h]; exact .bl b
  | .int i, v, _, h => by rw [rep_int h]; exact .int i
  | .str x, v, _, h => by rw [rep_str h]; exact .str x
  | .tup xs, v, c, h => by
    obtain ⟨a, vs, rfl, hq, hr⟩ := rep_tup h
    exact .tup (l.seqT hq) (reps_dp l xs vs c hr)
  | .lst xs, v, c, h => by
    obtain ⟨a, vs, rfl, hq, hr⟩ := rep_lst h
    exact .lst (l.seqL hq) (reps_dp l xs vs c hr)
  | .dic xs, v, c, h => by
    unfold toP PyData.canLay0 at c
    exact absurd c Bool.false_ne_true
  | .dit xs, v, c, h => by
    unfold toP PyData.canLay0 at c
    exact absurd c Bool.false_ne_true
theorem reps_dp {K : Fr'} {F H : Hp} (l : Le F H) : ∀ (ds : List D) (vs : List V), PyData.canLayAll0 (toPs ds) = true → Reps K F ds vs → DpAll K H vs (toPs ds)
  | [], vs, _, h => by rw [reps_nil h]; exact .nil
  | x :: xs, vs, c, h => by
    obtain ⟨v, r, rfl, h1, h3⟩ := reps_cons h
    unfold toPs PyData.canLayAll0 at c
    rw [Bool.and_eq_true] at c
    exact .cons (rep_dp l x v c.1 h1) (reps_dp l xs r c.2 h3)
end

/-! ### operators by data -/
def gEq (a b : D) : Out D := if SeqAt.shaped (toP a) = true ∧ SeqAt.shaped (toP b) = true then .ok (.bl (PyData.eqv (toP a) (toP b))) else .bad
def gNe (a b : D) : Out D := if SeqAt.shaped (toP a) = true ∧ SeqAt.shaped (toP b) = true then .ok (.bl (!PyData.eqv (toP a) (toP b))) else .bad
theorem pure_eq {K : Fr'} : Pure2 K (rEqD K) gEq := by
  intro F H x y dx dy d Q l rx ry e k
  unfold gEq at e
  by_cases c : SeqAt.shaped (toP dx) = true ∧ SeqAt.shaped (toP dy) = true
  · rw [if_pos c] at e
    cases e
    exact ⟨_, _, rep_dp l _ _ (SeqAt.canLay_of_shaped c.1) rx, rep_dp l _ _ (SeqAt.canLay_of_shaped c.2) ry, c.1, c.2, k _ _ _ (New.refl l) mk_bl⟩
  · rw [if_neg c] at e
    cases e
theorem pure_ne {K : Fr'} : Pure2 K (rNeD K) gNe := by
  intro F H x y dx dy d Q l rx ry e k
  unfold gNe at e
  by_cases c : SeqAt.shaped (toP dx) = true ∧ SeqAt.shaped (toP dy) = true
  · rw [if_pos c] at e
    cases e
    exact ⟨_, _, rep_dp l _ _ (SeqAt.canLay_of_shaped c.1) rx, rep_dp l _ _ (SeqAt.canLay_of_shaped c.2) ry, c.1, c.2, k _ _ _ (New.refl l) mk_bl⟩
  · rw [if_neg c] at e
    cases e
/-- operators on ints -/
def gI2 (C : Int → Int → Bool) (g : Int → Int → D) : D → D → Out D
  | .int i, .int j => if C i j = true then .ok (g i j) else .bad
  | _, _ => .bad
theorem gI2_ok {C : Int → Int → Bool} {g : Int → Int → D} {a b d : D} (h : gI2 C g a b = .ok d) : ∃ i j, a = .int i ∧ b = .int j ∧ C i j = true ∧ d = g i j := by
  unfold gI2 at h
  split at h
  · split at h
    · cases h
      exact ⟨_, _, rfl, rfl, by assumption, rfl⟩
    · cases h
  · cases h
theorem pure_I2 {K : Fr'} {C : Int → Int → Bool} {P : Int → Int → Prop} {g : Int → Int → V} {gd : Int → Int → D} (hP : ∀ i j, C i j = true → P i j) (hg : ∀ F i j, Rep K F (gd i j) (g i j)) : Pure2 K (rI P g) (gI2 C gd) := by
  intro F H x y dx dy d Q l rx ry e k
  obtain ⟨i, j, rfl, rfl, c, rfl⟩ := gI2_ok e
  rw [rep_int rx, rep_int ry]
  exact ⟨i, j, rfl, rfl, hP i j c, k _ _ _ (New.refl l) (hg _ i j)⟩
theorem pure_I20 {K : Fr'} {g : Int → Int → V} {gd : Int → Int → D} (hg : ∀ F i j, Rep K F (gd i j) (g i j)) : Pure2 K (rI0 g) (gI2 (fun _ _ => true) gd) := by
  intro F H x y dx dy d Q l rx ry e k
  obtain ⟨i, j, rfl, rfl, c, rfl⟩ := gI2_ok e
  rw [rep_int rx, rep_int ry]
  exact ⟨i, j, rfl, rfl, k _ _ _ (New.refl l) (hg _ i j)⟩
abbrev gSub : D → D → Out D := gI2 (fun _ _ => true) fun i j => .int (i - j)
abbrev gLt : D → D → Out D := gI2 (fun _ _ => true) fun i j => .bl (decide (i < j))
abbrev gLe : D → D → Out D := gI2 (fun _ _ => true) fun i j => .bl (decide (i ≤ j))
abbrev gGt : D → D → Out D := gI2 (fun _ _ => true) fun i j => .bl (decide (j < i))
abbrev gGe : D → D → Out D := gI2 (fun _ _ => true) fun i j => .bl (decide (j ≤ i))
abbrev gMod : D → D → Out D := gI2 (fun _ j => decide (j ≠ 0)) fun i j => .int (i.fmod j)
abbrev gFdiv : D → D → Out D := gI2 (fun _ j => decide (j ≠ 0) && decide (j.natAbs < 1073741824)) fun i j => .int (i.fdiv j)
abbrev gPow : D → D → Out D := gI2 (fun i j => decide (0 ≤ j) && (decide (j ≤ 1000000) && decide (i.natAbs < 2 ^ 64))) fun i j => .int (i ^ j.toNat)
theorem p_sub {K : Fr'} : Pure2 K (rI0 fun i j => .int (i - j)) gSub := pure_I20 fun _ _ _ => mk_int
theorem p_lt {K : Fr'} : Pure2 K (rI0 fun i j => .bl (decide (i < j))) gLt := pure_I20 fun _ _ _ => mk_bl
theorem p_le {K : Fr'} : Pure2 K (rI0 fun i j => .bl (decide (i ≤ j))) gLe := pure_I20 fun _ _ _ => mk_bl
theorem p_gt {K : Fr'} : Pure2 K (rI0 fun i j => .bl (decide (j < i))) gGt := pure_I20 fun _ _ _ => mk_bl
theorem p_ge {K : Fr'} : Pure2 K (rI0 fun i j => .bl (decide (j ≤ i))) gGe := pure_I20 fun _ _ _ => mk_bl
theorem p_mod {K : Fr'} : Pure2 K (rI (fun _ j => j ≠ 0) fun i j => .int (i.fmod j)) gMod := pure_I2 (fun i j h => of_decide_eq_true h) fun _ _ _ => mk_int
theorem p_fdiv {K : Fr'} : Pure2 K (rI CDivN fun i j => .int (i.fdiv j)) gFdiv := pure_I2 (fun i j h => by
  rw [Bool.and_eq_true] at h
  exact ⟨of_decide_eq_true h.1, of_decide_eq_true h.2⟩) fun _ _ _ => mk_int
theorem p_pow {K : Fr'} : Pure2 K (rI CPow fun i j => .int (i ^ j.toNat)) gPow := pure_I2 (fun i j h => by
  rw [Bool.and_eq_true, Bool.and_eq_true] at h
  exact ⟨of_decide_eq_true h.1, of_decide_eq_true h.2.1, of_decide_eq_true h.2.2⟩) fun _ _ _ => mk_int
/-- * of ints -/
def cMul (i j : Int) : Bool := (decide (-(2 ^ 64) < i) && decide (i < 2 ^ 64)) || (decide (-(2 ^ 64) < j) && decide (j < 2 ^ 64))
abbrev gMulI : D → D → Out D := gI2 cMul fun i j => .int (i * j)
theorem p_mulI {K : Fr'} : Pure2 K (rI CMul fun i j => .int (i * j)) gMulI := pure_I2 (fun i j h => by
  unfold cMul at h
  rw [Bool.or_eq_true, Bool.and_eq_true, Bool.and_eq_true] at h
  rcases h with h | h
  · exact .inl ⟨of_decide_eq_true h.1, of_decide_eq_true h.2⟩
  · exact .inr ⟨of_decide_eq_true h.1, of_decide_eq_true h.2⟩) fun _ _ _ => mk_int
/-- + of ints, texts -/
def gAdd : D → D → Out D
  | .int i, .int j => .ok (.int (i + j))
  | .str x, .str y => if x.length + y.length ≤ sizeLine then .ok (.str (x ++ y)) else .bad
  | _, _ => .bad
def rAddS : V → V → Hp → VK → Prop := fun x y H Q => (rI0 fun i j => .int (i + j)) x y H Q ∨ (∃ i j, x = .str i ∧ y = .str j ∧ i.length + j.length ≤ sizeLine ∧ Q (.str (i ++ j)) H)
theorem op_addS {X : Cx} : OpR X (binaryOp .Add) rAddS := OpR.or op_add op_add_str
theorem p_add {K : Fr'} : Pure2 K rAddS gAdd := by
  intro F H x y dx dy d Q l rx ry e k
  cases dx <;> cases dy <;> first | (unfold gAdd at e; cases e; done) | skip
  · rename_i i j
    cases e
    rw [rep_int rx, rep_int ry]
    exact .inl ⟨i, j, rfl, rfl, k _ _ _ (New.refl l) mk_int⟩
  · rename_i i j
    unfold gAdd at e
    dsimp only at e
    by_cases c : i.length + j.length ≤ sizeLine
    · rw [if_pos c] at e
      cases e
      rw [rep_str rx, rep_str ry]
      exact .inr ⟨i, j, rfl, rfl, c, k _ _ _ (New.refl l) mk_str⟩
    · rw [if_neg c] at e
      cases e
end VL

/-! V4: further operators; names, displays, tests. -/
namespace VL
open PySem PySem.Spec L2

/-! ### lists joined -/
def rCatR (K : Fr') : R2 := fun x y H Q => ∃ l m vs ws, x = .ref l ∧ y = .ref m ∧ SqL K H l vs ∧ SqL K H m ws ∧ vs.length + ws.length ≤ sizeLine ∧ ∀ p, H p = none → Q (.ref p) (upd H p (.lst (vs ++ ws)))
theorem op_catR {X : Cx} : OpR X (binaryOp .Add) (rCatR X.K) := by
  intro pins s σ H x y v u Q I rx ry h
  obtain ⟨l, m, vs, ws, rfl, rfl, h1, h2, hz, q⟩ := h
  cases rx
  cases ry
  obtain ⟨it1, r1, p1, z1⟩ := I.list h1
  obtain ⟨it2, r2, p2, z2⟩ := I.list h2
  have l1 := r1.length
  have l2 := r2.length
  obtain ⟨⟨c1, d1, a1, s1⟩, ho1, hc1, n1, hd1⟩ := p1.isList
  obtain ⟨⟨c2, d2, a2, s2⟩, ho2, hc2, n2, hd2⟩ := p2.isList
  simp only at hc1 hd1 hc2 hd2
  subst hc1 hd1 hc2 hd2
  refine concat_meets ⟨_, ho1, rfl⟩ ⟨_, ho2, rfl⟩ noFill_list_add seq_list_add PySem.F.slot_list_add PySem.F.entry_list_add (PySem.F.args_list_add_2 _ _) (PyProof.Rows.list_addW l m it1.toArray it2.toArray n1 n2 d1 d2 s1 s2 (by rw [List.size_toArray, List.size_toArray]; omega)) ⟨ho1, ho2, ?_⟩
  rw [show it1.toArray ++ it2.toArray = (it1 ++ it2).toArray by simp]
  exact ⟨.ref _, _, I.lnew (t' := s.toks) (Vals.append r1 r2) (by rw [List.length_append]; exact hz), rfl, q _ I.fresh⟩
def gCatL : D → D → Out D
  | .lst xs, .lst ys => if xs.length + ys.length ≤ sizeLine then .ok (.lst (xs ++ ys)) else .bad
  | _, _ => .bad
theorem p_catL {K : Fr'} : PureO2 K (rCatR K) gCatL := by
  intro F H x y dx dy d Q l rx ry e k
  cases dx <;> cases dy <;> first | (unfold gCatL at e; cases e; done) | skip
  rename_i xs ys
  unfold gCatL at e
  dsimp only at e
  by_cases c : xs.length + ys.length ≤ sizeLine
  · rw [if_pos c] at e
    cases e
    obtain ⟨a, vs, rfl, h1, q1⟩ := rep_lst rx
    obtain ⟨a2, ws, rfl, h2, q2⟩ := rep_lst ry
    exact ⟨a, a2, vs, ws, rfl, rfl, l.seqL h1, l.seqL h2, by rw [reps_len q1, reps_len q2]; exact c, fun p hp => k p _ hp ⟨_, rfl, reps_app q1 q2⟩⟩
  · rw [if_neg c] at e
    cases e
/-- list * int -/
def gRep : D → D → Out D
  | .lst xs, .int k => if -(2 ^ 63) ≤ k ∧ k < 2 ^ 63 ∧ xs.length * k.toNat ≤ sizeLine then .ok (.lst (List.replicate k.toNat xs).flatten) else .bad
  | _, _ => .bad
theorem reps_rep {K : Fr'} {F : Hp} {xs : List D} {vs : List V} (h : Reps K F xs vs) : ∀ k : Nat, Reps K F (List.replicate k xs).flatten (List.replicate k vs).flatten
  | 0 => mk_nil
  | k + 1 => by
    rw [List.replicate_succ, List.replicate_succ, List.flatten_cons, List.flatten_cons]
    exact reps_app h (reps_rep h k)
/-- the operand must not be locked -/
def UnL (H : Hp) : Prop := ∀ a o vs, H a ≠ some (.frz o (.lst vs))

/-! ### subscripts -/
def gIx : D → D → Out D
  | .lst xs, .int i => match atI xs i with
    | some d => .ok d
    | none => .bad
  | .tup xs, .int i => match atI xs i with
    | some d => .ok d
    | none => .bad
  | .str x, .int i => if x.length ≤ sizeLine then (match atI x.cps.toList i with
    | some c => .ok (.str ⟨#[c]⟩)
    | none => .bad) else .bad
  | _, _ => .bad
theorem reps_atI {K : Fr'} {F : Hp} {xs : List D} {vs : List V} {i : Int} {d : D} (r : Reps K F xs vs) (h : atI xs i = some d) : ∃ v, atI vs i = some v ∧ Rep K F d v := by
  unfold atI at h ⊢
  rw [reps_len r]
  cases q : ixN xs.length i with
  | none => rw [q] at h; cases h
  | some j =>
    rw [q] at h
    exact reps_get r h
def rIxAll (K : Fr') : R2 := fun x y H Q => rIxL K x y H Q ∨ (rIxT K x y H Q ∨ rIxS x y H Q)
theorem ix_all {X : Cx} : IxR X (rIxAll X.K) := IxR.or ix_list (IxR.or ix_tup ix_str)
theorem p_ix {K : Fr'} : Pure2 K (rIxAll K) gIx := by
  intro F H x y dx dy d Q l rx ry e k
  cases dx <;> cases dy <;> first | (unfold gIx at e; cases e; done) | skip
  · rename_i x i
    unfold gIx at e
    dsimp only at e
    split at e
    · rename_i c
      split at e
      · rename_i w hw
        cases e
        rw [rep_str rx, rep_int ry]
        exact .inr (.inr ⟨_, _, _, rfl, rfl, c, hw, k _ _ _ (New.refl l) mk_str⟩)
      · cases e
    · cases e
  · rename_i xs i
    unfold gIx at e
    dsimp only at e
    split at e
    · rename_i w hw
      cases e
      obtain ⟨a, vs, rfl, h1, q1⟩ := rep_tup rx
      obtain ⟨v, hv, rv⟩ := reps_atI q1 hw
      rw [rep_int ry]
      exact .inr (.inl ⟨_, _, _, _, rfl, rfl, l.seqT h1, hv, k _ _ _ (New.refl l) rv⟩)
    · cases e
  · rename_i xs i
    unfold gIx at e
    dsimp only at e
    split at e
    · rename_i w hw
      cases e
      obtain ⟨a, vs, rfl, h1, q1⟩ := rep_lst rx
      obtain ⟨v, hv, rv⟩ := reps_atI q1 hw
      rw [rep_int ry]
      exact .inl ⟨_, _, _, _, rfl, rfl, l.seqL h1, hv, k _ _ _ (New.refl l) rv⟩
    · cases e

/-! ### in -/
def flatD : D → Bool
  | .non => true
  | .bl _ => true
  | .int _ => true
  | .str _ => true
  | _ => false
theorem rep_flat {K : Fr'} {F : Hp} {d : D} {v : V} (h : Rep K F d v) (c : flatD d = true) : flatV v = true ∧ ∀ e w, flatD e = true → Rep K F e w → eqV v w = PyData.eqv (toP d) (toP e) := by
  cases d <;> first | (exact absurd c Bool.false_ne_true) | skip
  all_goals
    unfold Rep at h
    subst h
    refine ⟨rfl, fun e w ce he => ?_⟩
    cases e <;> first | (exact absurd ce Bool.false_ne_true) | skip
    all_goals
      unfold Rep at he
      subst he
      simp only [eqV, toP, PyData.eqv]
      all_goals first | rfl | (rw [Bool.beq_eq_decide_eq]; done) | skip
def gInS (neg : Bool) (x : D) (xs : List D) : Out D := if flatD x = true ∧ xs.all flatD = true then .ok (.bl (if neg then !(xs.any fun y => PyData.eqv (toP y) (toP x)) else xs.any fun y => PyData.eqv (toP y) (toP x))) else .bad
theorem in_flat {K : Fr'} {F : Hp} {x : D} {v : V} (hx : Rep K F x v) (cx : flatD x = true) : ∀ {xs : List D} {vs : List V}, Reps K F xs vs → xs.all flatD = true → vs.all flatV = true ∧ inV v vs = xs.any fun y => PyData.eqv (toP y) (toP x)
  | [], vs, h, _ => by rw [reps_nil h]; exact ⟨rfl, rfl⟩
  | y :: xs, vs, h, c => by
    obtain ⟨w, r, rfl, h1, h3⟩ := reps_cons h
    rw [List.all_cons, Bool.and_eq_true] at c
    obtain ⟨i1, i2⟩ := in_flat hx cx h3 c.2
    obtain ⟨f1, f2⟩ := rep_flat h1 c.1
    refine ⟨by rw [List.all_cons, f1, i1]; rfl, ?_⟩
    unfold inV at i2 ⊢
    rw [List.any_cons, List.any_cons, i2, f2 x v cx hx]
theorem p_inS {K : Fr'} {neg : Bool} : Pure2 K (rIn K neg) (fun x y => match y with
    | .lst xs => gInS neg x xs
    | .tup xs => gInS neg x xs
    | _ => .bad) := by
  intro F H x y dx dy d Q l rx ry e k
  cases dy <;> first | (dsimp only at e; cases e; done) | skip
  all_goals
    rename_i xs
    dsimp only at e
    unfold gInS at e
    split at e
    · rename_i c
      cases e
      first
      | obtain ⟨a, vs, rfl, h1, q1⟩ := rep_tup ry
        obtain ⟨i1, i2⟩ := in_flat rx c.1 q1 c.2
        refine ⟨a, vs, rfl, .inr (l.seqT h1), (rep_flat rx c.1).1, i1, ?_⟩
        rw [i2]
        exact k _ _ _ (New.refl l) mk_bl
      | obtain ⟨a, vs, rfl, h1, q1⟩ := rep_lst ry
        obtain ⟨i1, i2⟩ := in_flat rx c.1 q1 c.2
        refine ⟨a, vs, rfl, .inl (l.seqL h1), (rep_flat rx c.1).1, i1, ?_⟩
        rw [i2]
        exact k _ _ _ (New.refl l) mk_bl
    · cases e
/-- one sign in a text -/
def gInC (neg : Bool) : D → D → Out D
  | .str x, .str y => match x.cps.toList with
    | [c] => .ok (.bl (if neg then !decide (c ∈ y.cps.toList) else decide (c ∈ y.cps.toList)))
    | _ => .bad
  | _, _ => .bad
theorem str_one {x : Str} {c : Nat} (h : x.cps.toList = [c]) : x = ⟨#[c]⟩ := by
  cases x with
  | mk a =>
    have : a = #[c] := by
      apply Array.toList_inj.mp
      exact h
    rw [this]
def rInC (neg : Bool) : R2 := fun x y H Q => ∃ (c : Nat) (z : Str), x = .str ⟨#[c]⟩ ∧ y = .str z ∧ Q (.bl (if neg then !decide (c ∈ z.cps.toList) else decide (c ∈ z.cps.toList))) H
theorem p_inC {K : Fr'} {neg : Bool} : Pure2 K (rInC neg) (gInC neg) := by
  intro F H x y dx dy d Q l rx ry e k
  cases dx <;> cases dy <;> first | (unfold gInC at e; cases e; done) | skip
  rename_i x z
  unfold gInC at e
  dsimp only at e
  split at e
  · rename_i c hc
    cases e
    rw [rep_str rx, rep_str ry, str_one hc]
    exact ⟨c, z, rfl, rfl, k _ _ _ (New.refl l) mk_bl⟩
  · cases e
/-- both -/
def rInA (K : Fr') (neg : Bool) : R2 := fun x y H Q => rIn K neg x y H Q ∨ rInC neg x y H Q
theorem op_inA {X : Cx} : OpR X (compareOp .In) (rInA X.K false) := OpR.or op_in_seq (fun pins s σ H x y v u Q I rx ry h => op_in_sign pins s σ H x y v u Q I rx ry h)
theorem op_notInA {X : Cx} : OpR X (compareOp .NotIn) (rInA X.K true) := OpR.or op_notIn_seq (fun pins s σ H x y v u Q I rx ry h => op_notIn_sign pins s σ H x y v u Q I rx ry h)
def gIn (neg : Bool) (x y : D) : Out D := match y with
  | .lst xs => gInS neg x xs
  | .tup xs => gInS neg x xs
  | .str z => gInC neg x (.str z)
  | _ => .bad
theorem p_in {K : Fr'} {neg : Bool} : Pure2 K (rInA K neg) (gIn neg) := by
  intro F H x y dx dy d Q l rx ry e k
  cases dy <;> first | (dsimp only [gIn] at e; cases e; done) | skip
  · exact .inr (p_inC F H x y _ _ d Q l rx ry e k)
  · exact .inl (p_inS F H x y _ _ d Q l rx ry e k)
  · exact .inl (p_inS F H x y _ _ d Q l rx ry e k)

/-! ### is None -/
def isN : D → Bool
  | .non => true
  | _ => false
def gIsN (x y : D) : Out D := match y with
  | .non => .ok (.bl (isN x))
  | _ => .bad
def gNotN (x y : D) : Out D := match y with
  | .non => .ok (.bl (!isN x))
  | _ => .bad
theorem rep_isN {K : Fr'} {F : Hp} {d : D} {v : V} (h : Rep K F d v) : decide (v = .non) = isN d := by
  cases d <;> (unfold Rep at h) <;> first | (subst h; rfl) | (obtain ⟨a, vs, rfl, _⟩ := h; rfl) | (obtain ⟨a, rfl, _⟩ := h; rfl)
theorem p_isN {K : Fr'} : Pure2 K (fun x y H Q => y = .non ∧ Q (.bl (decide (x = .non))) H) gIsN := by
  intro F H x y dx dy d Q l rx ry e k
  cases dy <;> first | (dsimp only [gIsN] at e; cases e; done) | skip
  cases e
  refine ⟨rep_non ry, ?_⟩
  rw [rep_isN rx]
  exact k _ _ _ (New.refl l) mk_bl
theorem p_notN {K : Fr'} : Pure2 K (fun x y H Q => y = .non ∧ Q (.bl (!decide (x = .non))) H) gNotN := by
  intro F H x y dx dy d Q l rx ry e k
  cases dy <;> first | (dsimp only [gNotN] at e; cases e; done) | skip
  cases e
  refine ⟨rep_non ry, ?_⟩
  rw [rep_isN rx]
  exact k _ _ _ (New.refl l) mk_bl

/-! ### names, constants, displays -/
section
variable {b : Bool} {X : Cx} {W : WX}
def rv (b : Bool) (i : Nat) : Env' → Out D := fun ρ => match ρ[i]? with
  | some (.val d) => .ok d
  | some (.own d) => if b = true then .ok d else .bad
  | _ => .bad
theorem SR.var (i : Nat) {x : Str} {pos : Pos} (hN : X.N[i]? = some x := by rfl) (hv : Vis X.env.scope x := by first | exact Or.inl rfl | exact Or.inr (Or.inl rfl) | exact Or.inr (Or.inr rfl)) (hd : (x == ("__debug__" : Str)) = false := by decide)
    (hcd : (x == ("__classdict__" : Str)) = false := by decide) : SR b X W (.Name x pos) (rv b i) := by
  refine SR.imp (pe_var hN hv hd hcd) ?_
  rintro σ H Q ⟨F, ρ, s, q⟩
  unfold rv at q
  split at q
  · rename_i d hd
    obtain ⟨v, e, r⟩ := s.val i d hd
    exact ⟨v, e, q v F H (New.refl s.le) (Rep.mono s.le_bs _ _ r)⟩
  · rename_i d hd
    split at q
    · rename_i hb
      obtain ⟨p, o, e, ho, hn, c⟩ := s.own i d hd
      refine ⟨_, e, q _ F H (New.refl s.le) (Co.rep s.le_bs c ?_)⟩
      unfold bs
      rw [if_pos hb, snap_own ⟨i, d, hd, e⟩]
      exact ho
    · exact q.elim
  · exact q.elim
def rC (d : D) : Env' → Out D := fun _ => .ok d
theorem SR.const {e : Expr} {v : V} {d : D} (h : PE X e (tC v)) (r : ∀ F, Rep X.K F d v) : SR b X W e (rC d) := by
  refine SR.imp h ?_
  rintro σ H Q ⟨F, ρ, s, q⟩
  exact q v F H (New.refl s.le) (r _)
theorem SR.int {i : Int} {j : Nat} {pos : Pos} : SR b X W (.Constant (.int i) j pos) (rC (.int i)) := SR.const pe_int fun _ => mk_int
theorem SR.str {x : Str} {j : Nat} {pos : Pos} : SR b X W (.Constant (.str x) j pos) (rC (.str x)) := SR.const pe_str fun _ => mk_str
theorem SR.bl {x : Bool} {j : Nat} {pos : Pos} : SR b X W (.Constant (.bool x) j pos) (rC (.bl x)) := SR.const pe_bl fun _ => mk_bl
theorem SR.non {j : Nat} {pos : Pos} : SR b X W (.Constant .none j pos) (rC .non) := SR.const pe_non fun _ => mk_non
variable {x y : Expr} {f g : Env' → Out D} {pos : Pos}
theorem SR.bin {op : Operator} {r : R2} {h : D → D → Out D} (ho : OpR X (binaryOp op) r) (P : Pure2 X.K r h) (ha : SR b X W x f) (hb : SR b X W y g) : SR b X W (.BinOp x op y pos) (r2 f g h) :=
  SR.imp (pe_op ho ha.pe hb.pe) (tR2 P)
theorem SO.bin {op : Operator} {r : R2} {h : D → D → Out D} (ho : OpR X (binaryOp op) r) (P : PureO2 X.K r h) (ha : SR b X W x f) (hb : SR b X W y g) : SO b X W (.BinOp x op y pos) (r2 f g h) :=
  SO.imp (pe_op ho ha.pe hb.pe) (tO2 P)
theorem SR.cmp {op : CmpOp} {r : R2} {h : D → D → Out D} (ho : OpR X (compareOp op) r) (P : Pure2 X.K r h) (ha : SR b X W x f) (hb : SR b X W y g) (hm : behindInMarks op y = false := by first | exact nomark _ | rfl) : SR b X W (.Compare x [op] [y] pos) (r2 f g h) :=
  SR.imp (pe_cmpR ho ha.pe hb.pe hm) (tR2 P)
theorem SR.ix (ha : SR b X W x f) (hb : SR b X W y g) (hs : PlainIx y := by exact fun _ _ => rfl) : SR b X W (.Subscript x y pos) (r2 f g gIx) :=
  SR.imp (pe_ix ix_all ha.pe hb.pe hs) (tR2 p_ix)
/-- minus -/
def gNeg : D → Out D
  | .int i => .ok (.int (-i))
  | _ => .bad
theorem SR.neg (ha : SR b X W x f) : SR b X W (.UnaryOp .USub x pos) (r1 f gNeg) := SR.imp (pe_un un_neg ha.pe) (tR1 (by
  intro F H x dx d Q l rx e k
  cases dx <;> first | (unfold gNeg at e; cases e; done) | skip
  cases e
  rw [rep_int rx]
  exact ⟨_, rfl, k _ _ _ (New.refl l) mk_int⟩))
/-- tuples, lists -/
def gTup (xs : List D) : Out D := if xs.length ≤ sizeLine then .ok (.tup xs) else .bad
def gLst (xs : List D) : Out D := if xs.length ≤ sizeLine then .ok (.lst xs) else .bad
variable {es : List Expr} {fs : Env' → Out (List D)}
theorem SR.tup {k : Nat} (h : SRs b X W es fs) : SR b X W (.Tuple es k pos) (rN fs gTup) := SR.imp (pe_tup h.pe) (tRN (r := fun xs H Q => xs.length ≤ sizeLine ∧ ∀ p, H p = none → Q (.ref p) (upd H p (.tup xs))) (by
  intro F H xs ds d Q l rx e k
  unfold gTup at e
  split at e
  · cases e
    refine ⟨by rw [reps_len rx]; assumption, fun p hp => k _ _ _ (New.upd (o := .tup xs) l hp) (mk_tup (.inl (.inl upd_same)) (Reps.mono (Le.updL (l.none hp)) _ _ rx))⟩
  · cases e))
theorem SO.lst (h : SRs b X W es fs) : SO b X W (.List es pos) (rN fs gLst) := SO.imp (pe_lst h.pe) (tON (r := fun xs H Q => xs.length ≤ sizeLine ∧ ∀ p, H p = none → Q (.ref p) (upd H p (.lst xs))) (by
  intro F H xs ds d Q l rx e k
  unfold gLst at e
  split at e
  · cases e
    exact ⟨by rw [reps_len rx]; assumption, fun p hp => k p _ hp ⟨_, rfl, rx⟩⟩
  · cases e))
/-- built-ins by their names -/
theorem SR.callB {id : String} {r : List V → Hp → VK → Prop} {h : List D → Out D} {e : Expr} {x : Str} {p : Pos} (hc : CallR X (.builtin id) r) (P : PureN X.K r h) (hg : Gl X x) (hm : X.mg x = none) (hv : bootBuiltins x = some (.builtin id)) (ha : SRs b X W (e :: es) fs) (hn : x ≠ "__name__" := by decide) (hdb : (x == ("__debug__" : Str)) = false := by decide)
    (he : starEach (e :: es) X.env = (false, eval e X.env) :: starEach es X.env := by rfl) (hpl : (backTo pos (starEach es X.env)).any (·.1) = false := by rfl) : SR b X W (.Call (.Name x p) (e :: es) [] pos) (rN fs h) :=
  SR.imp (pe_callB hc hg hm hv ha.pe hn hdb he hpl) (tRN P)
theorem SO.callB {id : String} {r : List V → Hp → VK → Prop} {h : List D → Out D} {e : Expr} {x : Str} {p : Pos} (hc : CallR X (.builtin id) r) (P : PureON X.K r h) (hg : Gl X x) (hm : X.mg x = none) (hv : bootBuiltins x = some (.builtin id)) (ha : SRs b X W (e :: es) fs) (hn : x ≠ "__name__" := by decide) (hdb : (x == ("__debug__" : Str)) = false := by decide)
    (he : starEach (e :: es) X.env = (false, eval e X.env) :: starEach es X.env := by rfl) (hpl : (backTo pos (starEach es X.env)).any (·.1) = false := by rfl) : SO b X W (.Call (.Name x p) (e :: es) [] pos) (rN fs h) :=
  SO.imp (pe_callB hc hg hm hv ha.pe hn hdb he hpl) (tON P)
theorem SR.callTy {T : String} {r : List V → Hp → VK → Prop} {h : List D → Out D} {e : Expr} {x : Str} {p : Pos} (hc : CallR X (.type T) r) (P : PureN X.K r h) (hg : Gl X x) (hm : X.mg x = none) (hv : bootBuiltins x = some (.type T)) (ha : SRs b X W (e :: es) fs) (hn : x ≠ "__name__" := by decide) (hdb : (x == ("__debug__" : Str)) = false := by decide)
    (he : starEach (e :: es) X.env = (false, eval e X.env) :: starEach es X.env := by rfl) (hpl : (backTo pos (starEach es X.env)).any (·.1) = false := by rfl) : SR b X W (.Call (.Name x p) (e :: es) [] pos) (rN fs h) :=
  SR.imp (pe_callTy hc hg hm hv ha.pe hn hdb he hpl) (tRN P)
theorem SO.callTy {T : String} {r : List V → Hp → VK → Prop} {h : List D → Out D} {e : Expr} {x : Str} {p : Pos} (hc : CallR X (.type T) r) (P : PureON X.K r h) (hg : Gl X x) (hm : X.mg x = none) (hv : bootBuiltins x = some (.type T)) (ha : SRs b X W (e :: es) fs) (hn : x ≠ "__name__" := by decide) (hdb : (x == ("__debug__" : Str)) = false := by decide)
    (he : starEach (e :: es) X.env = (false, eval e X.env) :: starEach es X.env := by rfl) (hpl : (backTo pos (starEach es X.env)).any (·.1) = false := by rfl) : SO b X W (.Call (.Name x p) (e :: es) [] pos) (rN fs h) :=
  SO.imp (pe_callTy hc hg hm hv ha.pe hn hdb he hpl) (tON P)
end
end VL

/-! V5: built-ins, slices, tests. -/
namespace VL
open PySem PySem.Spec L2

/-! ### len, all, any, int, str, list, tuple, isinstance -/
def gLen : List D → Out D
  | [.lst xs] => .ok (.int xs.length)
  | [.tup xs] => .ok (.int xs.length)
  | [.str x] => if x.length ≤ sizeLine then .ok (.int x.length) else .bad
  | _ => .bad
theorem reps1 {K : Fr'} {F : Hp} {x : D} {vs : List V} (h : Reps K F [x] vs) : ∃ v, vs = [v] ∧ Rep K F x v := by
  obtain ⟨v, r, rfl, h1, h2⟩ := reps_cons h
  rw [reps_nil h2]
  exact ⟨v, rfl, h1⟩
theorem reps2 {K : Fr'} {F : Hp} {x y : D} {vs : List V} (h : Reps K F [x, y] vs) : ∃ v w, vs = [v, w] ∧ Rep K F x v ∧ Rep K F y w := by
  obtain ⟨v, r, rfl, h1, h2⟩ := reps_cons h
  obtain ⟨w, rfl, h3⟩ := reps1 h2
  exact ⟨v, w, rfl, h1, h3⟩
theorem p_len {K : Fr'} : PureN K (fun xs H Q => ∃ x n, xs = [x] ∧ LenV K x H n ∧ Q (.int n) H) gLen := by
  intro F H xs ds d Q l rx e k
  unfold gLen at e
  split at e
  · cases e
    obtain ⟨v, rfl, r⟩ := reps1 rx
    obtain ⟨a, vs, rfl, h1, q1⟩ := rep_lst r
    refine ⟨_, _, rfl, .inl ⟨vs, l.seqL h1, rfl⟩, ?_⟩
    rw [reps_len q1]
    exact k _ _ _ (New.refl l) mk_int
  · cases e
    obtain ⟨v, rfl, r⟩ := reps1 rx
    obtain ⟨a, vs, rfl, h1, q1⟩ := rep_tup r
    refine ⟨_, _, rfl, .inr ⟨vs, l.seqT h1, rfl⟩, ?_⟩
    rw [reps_len q1]
    exact k _ _ _ (New.refl l) mk_int
  · split at e
    · rename_i c
      cases e
      obtain ⟨v, rfl, r⟩ := reps1 rx
      rw [rep_str r]
      exact ⟨_, _, rfl, ⟨c, rfl⟩, k _ _ _ (New.refl l) mk_int⟩
    · cases e
  · cases e
def bools : List D → Option (List Bool)
  | [] => some []
  | .bl b :: xs => (bools xs).map (b :: ·)
  | _ :: _ => none
theorem reps_bools {K : Fr'} {F : Hp} : ∀ {xs : List D} {vs : List V} {bs : List Bool}, bools xs = some bs → Reps K F xs vs → vs = bs.map V.bl
  | [], vs, bs, e, h => by
    rw [reps_nil h]
    cases e
    rfl
  | x :: xs, vs, bs, e, h => by
    obtain ⟨v, r, rfl, h1, h3⟩ := reps_cons h
    cases x <;> first | (exact absurd e (by unfold bools; intro z; cases z)) | skip
    unfold bools at e
    cases q : bools xs with
    | none => rw [q] at e; cases e
    | some cs =>
      rw [q] at e
      cases e
      rw [rep_bl h1, reps_bools q h3]
      rfl
def gAll : List D → Out D
  | [.lst xs] => match bools xs with
    | some bs => .ok (.bl (bs.all id))
    | none => .bad
  | _ => .bad
def gAny : List D → Out D
  | [.lst xs] => match bools xs with
    | some bs => .ok (.bl (bs.any id))
    | none => .bad
  | _ => .bad
theorem p_all {K : Fr'} : PureN K (rAll K) gAll := by
  intro F H xs ds d Q l rx e k
  unfold gAll at e
  split at e
  · split at e
    · rename_i bs hb
      cases e
      obtain ⟨v, rfl, r⟩ := reps1 rx
      obtain ⟨a, vs, rfl, h1, q1⟩ := rep_lst r
      refine ⟨a, bs, rfl, ?_, k _ _ _ (New.refl l) mk_bl⟩
      rw [← reps_bools hb q1]
      exact l.seqL h1
    · cases e
  · cases e
theorem p_any {K : Fr'} : PureN K (rAny K) gAny := by
  intro F H xs ds d Q l rx e k
  unfold gAny at e
  split at e
  · split at e
    · rename_i bs hb
      cases e
      obtain ⟨v, rfl, r⟩ := reps1 rx
      obtain ⟨a, vs, rfl, h1, q1⟩ := rep_lst r
      refine ⟨a, bs, rfl, ?_, k _ _ _ (New.refl l) mk_bl⟩
      rw [← reps_bools hb q1]
      exact l.seqL h1
    · cases e
  · cases e
/-- int(..) of an int, a bool, a text -/
def gInt : List D → Out D
  | [.int i] => .ok (.int i)
  | [.bl c] => .ok (.int (if c then 1 else 0))
  | [.str x] => match PySem.intText? x with
    | some n => if x.length ≤ 640 then .ok (.int n) else .bad
    | none => .bad
  | _ => .bad
def rInt : List V → Hp → VK → Prop := fun xs H Q => ((∃ i, xs = [.int i] ∧ Q (.int i) H) ∨ ∃ k, xs = [.bl k] ∧ Q (.int (if k then 1 else 0)) H) ∨ ∃ a n, xs = [.str a] ∧ PySem.intText? a = some n ∧ a.length ≤ 640 ∧ Q (.int n) H
theorem cr_int {X : Cx} : CallR X (.type "int") rInt := by
  intro pins s σ H xs us Q I r h
  rcases h with h | h
  · exact call_int1 pins s σ H xs us Q I r h
  · exact call_int_str pins s σ H xs us Q I r h
theorem p_int {K : Fr'} : PureN K rInt gInt := by
  intro F H xs ds d Q l rx e k
  unfold gInt at e
  split at e
  · cases e
    obtain ⟨v, rfl, r⟩ := reps1 rx
    rw [rep_int r]
    exact .inl (.inl ⟨_, rfl, k _ _ _ (New.refl l) mk_int⟩)
  · cases e
    obtain ⟨v, rfl, r⟩ := reps1 rx
    rw [rep_bl r]
    exact .inl (.inr ⟨_, rfl, k _ _ _ (New.refl l) mk_int⟩)
  · split at e
    · rename_i n hn
      split at e
      · rename_i c
        cases e
        obtain ⟨v, rfl, r⟩ := reps1 rx
        rw [rep_str r]
        exact .inr ⟨_, _, rfl, hn, c, k _ _ _ (New.refl l) mk_int⟩
      · cases e
    · cases e
  · cases e
def gStr : List D → Out D
  | [.int i] => if i.natAbs.log2 < 1920 then .ok (.str (toString i)) else .bad
  | _ => .bad
theorem p_str {K : Fr'} : PureN K (fun xs H Q => ∃ i, xs = [.int i] ∧ i.natAbs.log2 < 1920 ∧ Q (.str (toString i)) H) gStr := by
  intro F H xs ds d Q l rx e k
  unfold gStr at e
  split at e
  · split at e
    · rename_i c
      cases e
      obtain ⟨v, rfl, r⟩ := reps1 rx
      rw [rep_int r]
      exact ⟨_, rfl, c, k _ _ _ (New.refl l) mk_str⟩
    · cases e
  · cases e
/-- list(..) of a list, a tuple; tuple(..) -/
def gList : List D → Out D
  | [.lst xs] => .ok (.lst xs)
  | [.tup xs] => .ok (.lst xs)
  | _ => .bad
theorem p_list {K : Fr'} : PureON K (fun xs H Q => ∃ p ys, xs = [.ref p] ∧ (SqL K H p ys ∨ SqT K H p ys) ∧ ∀ l, H l = none → Q (.ref l) (upd H l (.lst ys))) gList := by
  intro F H xs ds d Q l rx e k
  unfold gList at e
  split at e
  · cases e
    obtain ⟨v, rfl, r⟩ := reps1 rx
    obtain ⟨a, vs, rfl, h1, q1⟩ := rep_lst r
    exact ⟨a, vs, rfl, .inl (l.seqL h1), fun p hp => k p _ hp ⟨vs, rfl, q1⟩⟩
  · cases e
    obtain ⟨v, rfl, r⟩ := reps1 rx
    obtain ⟨a, vs, rfl, h1, q1⟩ := rep_tup r
    exact ⟨a, vs, rfl, .inr (l.seqT h1), fun p hp => k p _ hp ⟨vs, rfl, q1⟩⟩
  · cases e
def gTuple : List D → Out D
  | [.lst xs] => .ok (.tup xs)
  | [.tup xs] => .ok (.tup xs)
  | _ => .bad
theorem p_tuple {K : Fr'} : PureN K (fun xs H Q => ∃ p ys, xs = [.ref p] ∧ ((SqL K H p ys ∧ ∀ l, H l = none → Q (.ref l) (upd H l (.tup ys))) ∨ (SqT K H p ys ∧ Q (.ref p) H))) gTuple := by
  intro F H xs ds d Q l rx e k
  unfold gTuple at e
  split at e
  · cases e
    obtain ⟨v, rfl, r⟩ := reps1 rx
    obtain ⟨a, vs, rfl, h1, q1⟩ := rep_lst r
    exact ⟨a, vs, rfl, .inl ⟨l.seqL h1, fun p hp => k _ _ _ (New.upd (o := .tup vs) l hp) (mk_tup (.inl (.inl upd_same)) (Reps.mono (Le.updL (l.none hp)) _ _ q1))⟩⟩
  · cases e
    obtain ⟨v, rfl, r⟩ := reps1 rx
    obtain ⟨a, vs, rfl, h1, q1⟩ := rep_tup r
    exact ⟨a, vs, rfl, .inr ⟨l.seqT h1, k _ _ _ (New.refl l) (mk_tup h1 q1)⟩⟩
  · cases e
def tyN : D → String
  | .non => "NoneType"
  | .bl _ => "bool"
  | .int _ => "int"
  | .str _ => "str"
  | .tup _ => "tuple"
  | .lst _ => "list"
  | .dic _ => "dict"
  | .dit _ => "dict"
def isDic : D → Bool
  | .dic _ => true
  | .dit _ => true
  | _ => false
def gIsi (T : String) (d : D) : Out D := if isDic d = true then .bad else match kitB (tyN d) T with
  | some c => .ok (.bl c)
  | none => .bad
theorem rep_ty {K : Fr'} {F H : Hp} (l : Le F H) {d : D} {v : V} (h : Rep K F d v) (nd : isDic d = false) : TyX K H v (.type (tyN d)) := by
  cases d with
  | non => rw [rep_non h]; exact .base .non
  | bl c => rw [rep_bl h]; exact .base (.bl c)
  | int i => rw [rep_int h]; exact .base (.int i)
  | str x => rw [rep_str h]; exact .base (.str x)
  | tup xs =>
    obtain ⟨a, vs, rfl, h1, q1⟩ := rep_tup h
    rcases l.seqT h1 with (h1 | ⟨o, h1⟩) | ⟨o, its, n, h1, h2, h3⟩
    · exact .base (.tup h1)
    · exact .fTuple h1
    · exact .kTuple h1 h2
  | lst xs =>
    obtain ⟨a, vs, rfl, h1, q1⟩ := rep_lst h
    rcases l.seqL h1 with (h1 | ⟨o, h1⟩) | ⟨o, its, n, h1, h2, h3, h4⟩
    · exact .base (.lst h1)
    · exact .base (.frz h1)
    · exact .kList h1 h2
  | dic xs => exact absurd (show true = false from nd) (by decide)
  | dit xs => exact absurd (show true = false from nd) (by decide)
section
variable {b : Bool} {X : Cx} {W : WX} {x y : Expr} {f g : Env' → Out D} {pos : Pos}
theorem SR.isi {T : Str} {p q : Pos} (Tn : String) (hg : Gl X "isinstance") (hm : X.mg "isinstance" = none) (hgT : Gl X T) (hmT : X.mg T = none) (hv : bootBuiltins T = some (.type Tn)) (ha : SR b X W x f)
    (hn : T ≠ "__name__" := by decide) (hdb : (T == ("__debug__" : Str)) = false := by decide)
    (h1 : starEach [x, .Name T q] X.env = (false, eval x X.env) :: starEach [.Name T q] X.env := by rfl) (h2 : (backTo pos (starEach [.Name T q] X.env)).any (·.1) = false := by rfl)
    (h3 : starEach [.Name T q] X.env = (false, eval (.Name T q) X.env) :: starEach [] X.env := by rfl) :
    SR b X W (.Call (.Name "isinstance" p) [x, .Name T q] [] pos) (r1 f (gIsi Tn)) :=
  SR.imp (pe_callB call_isi hg hm (by decide +kernel) (pa_cons ha.pe (pa_cons (pe_bltn (v := .ty Tn) hgT hmT hv rfl hn hdb) pa_nil h3) h1) (by decide) (by decide) h1 h2) fun σ H Q h =>
    tR1 (r := fun z H1 Q => rIsi X.K [z, .ty Tn] H1 Q) (by
      intro F H x dx d Q l rx e k
      unfold gIsi at e
      split at e
      · cases e
      · rename_i nd
        split at e
        · rename_i c hc
          cases e
          exact ⟨_, _, _, _, c, rfl, .ty Tn, rep_ty l rx (by simpa using nd), kit_ty hc, k _ _ _ (New.refl l) mk_bl⟩
        · cases e) σ H Q h

/-! ### slices -/
def oI (f : Option (Env' → Out D)) : Env' → Out (Option Int) := fun ρ => match f with
  | none => .ok none
  | some g => (g ρ).bind fun d => match d with
    | .int i => .ok (some i)
    | _ => .bad
structure SRo (b : Bool) (X : Cx) (W : WX) (e : Option Expr) (f : Env' → Out (Option Int)) : Prop where
  po : ∃ t, PO X e t ∧ ∀ σ H (Q : Option Int → Hp → Prop), (∃ F ρ, St2 X.K F H σ ρ ∧ (f ρ).on (fun d => ∀ F' H', New F H F' H' → Q d H') (ExM X.mg W σ ρ F H)) → t σ H Q
theorem SRo.none : SRo b X W none (oI none) := ⟨_, po_none, fun σ H Q ⟨F, ρ, s, q⟩ => q F H (New.refl s.le)⟩
theorem SRo.some (h : SR b X W x f) : SRo b X W (some x) (oI (some f)) := ⟨_, po_some h.pe, fun σ H Q ⟨F, ρ, s, q⟩ => ⟨F, ρ, s, on_imp (on_bind q) (fun d ed q v F' H' n r => by
  cases d <;> first | (exact q.elim) | skip
  exact ⟨_, rep_int r, q F' H' n⟩) fun _ _ _ q => q⟩⟩
def rSl (f : Env' → Out D) (lo hi : Env' → Out (Option Int)) (h : D → Option Int → Option Int → Out D) : Env' → Out D := fun ρ => (f ρ).bind fun x => (lo ρ).bind fun i => (hi ρ).bind fun j => noX (h x i j)
def cutD (xs : List D) (lo hi : Option Int) : List D := (xs.drop (HT.sIx xs.length 0 lo)).take (HT.sIx xs.length xs.length hi - HT.sIx xs.length 0 lo)
theorem reps_cut {K : Fr'} {F : Hp} {xs : List D} {vs : List V} (h : Reps K F xs vs) (lo hi : Option Int) : Reps K F (cutD xs lo hi) (cutV vs lo hi) := by
  unfold cutD cutV
  rw [reps_len h]
  exact reps_take _ (reps_drop _ h)
def gSl : D → Option Int → Option Int → Out D
  | .str z, lo, hi => if z.length ≤ sizeLine then .ok (.str (cutS z lo hi)) else .bad
  | .tup xs, lo, hi => if HT.sIx xs.length 0 lo = 0 ∧ HT.sIx xs.length xs.length hi = xs.length then .ok (.tup xs) else .ok (.tup (cutD xs lo hi))
  | _, _, _ => .bad
def gSlL : D → Option Int → Option Int → Out D
  | .lst xs, lo, hi => .ok (.lst (cutD xs lo hi))
  | _, _, _ => .bad
def rSlST (K : Fr') : V → Option Int → Option Int → Hp → VK → Prop := fun x lo hi H Q => rSlS x lo hi H Q ∨ rSlA K x lo hi H Q
theorem sl_ST : SlR X (rSlST X.K) := SlR.or sl_str sl_tupA
theorem p_sl {K : Fr'} {F H : Hp} {v : V} {dx d : D} {lo hi : Option Int} {Q : VK} (l : Le F H) (rx : Rep K F dx v) (e : gSl dx lo hi = .ok d) (k : ∀ v F' H', New F H F' H' → Rep K F' d v → Q v H') : rSlST K v lo hi H Q := by
  cases dx <;> first | (dsimp only [gSl] at e; cases e; done) | skip
  · rename_i z
    dsimp only [gSl] at e
    split at e
    · rename_i c
      cases e
      rw [rep_str rx]
      exact .inl ⟨z, rfl, c, k _ _ _ (New.refl l) mk_str⟩
    · cases e
  · rename_i xs
    dsimp only [gSl] at e
    obtain ⟨a, vs, rfl, h1, q1⟩ := rep_tup rx
    refine .inr ⟨a, vs, rfl, l.seqT h1, fun w => ?_, fun w p hp => ?_⟩
    · rw [reps_len q1] at w
      rw [if_pos w] at e
      cases e
      exact k _ _ _ (New.refl l) (mk_tup h1 q1)
    · rw [reps_len q1] at w
      rw [if_neg w] at e
      cases e
      exact k _ _ _ (New.upd (o := .tup (cutV vs lo hi)) l hp) (mk_tup (.inl (.inl upd_same)) (Reps.mono (Le.updL (l.none hp)) _ _ (reps_cut q1 lo hi)))
variable {lo hi : Option Expr} {fl fh : Env' → Out (Option Int)} {p2 : Pos}
theorem SR.sl (ha : SR b X W x f) (hl : SRo b X W lo fl) (hh : SRo b X W hi fh) : SR b X W (.Subscript x (.Slice lo hi none p2) pos) (rSl f fl fh gSl) := by
  obtain ⟨tl, pl, kl⟩ := hl.po
  obtain ⟨th, ph, kh⟩ := hh.po
  refine SR.imp (pe_slice sl_ST ha.pe pl ph) ?_
  rintro σ H Q ⟨F, ρ, s, q⟩
  refine ⟨F, ρ, s, on_imp (on_bind q) (fun x ex q v1 F1 H1 n1 rx => kl _ _ _ ⟨F1, ρ, s.new n1, on_imp (on_bind q) (fun i ei q F2 H2 n2 => kh _ _ _ ⟨F2, ρ, (s.new n1).new n2, on_imp (on_bind q) (fun j ej q F3 H3 n3 => ?_) fun _ _ _ q => (q.new n1).new n2⟩) fun _ _ _ q => q.new n1⟩) fun _ _ _ q => q⟩
  obtain ⟨d, ed, q⟩ := noX_on q
  have s1 := s.new n1
  have s2 := s1.new n2
  have s3 := s2.new n3
  refine p_sl s3.bs_le (Rep.mono (bs_new s2 n3) _ _ (Rep.mono (bs_new s1 n2) _ _ rx)) ed fun v F' H' n rv => ?_
  obtain ⟨F'', n4, l⟩ := s3.bnew n
  exact q v _ H' (((n1.trans n2).trans n3).trans n4) (Rep.mono l _ _ rv)
theorem SO.sl (ha : SR b X W x f) (hl : SRo b X W lo fl) (hh : SRo b X W hi fh) : SO b X W (.Subscript x (.Slice lo hi none p2) pos) (rSl f fl fh gSlL) := by
  obtain ⟨tl, pl, kl⟩ := hl.po
  obtain ⟨th, ph, kh⟩ := hh.po
  refine SO.imp (pe_slice sl_list ha.pe pl ph) ?_
  rintro σ H Q ⟨F, ρ, s, q⟩
  refine ⟨F, ρ, s, on_imp (on_bind q) (fun x ex q v1 F1 H1 n1 rx => kl _ _ _ ⟨F1, ρ, s.new n1, on_imp (on_bind q) (fun i ei q F2 H2 n2 => kh _ _ _ ⟨F2, ρ, (s.new n1).new n2, on_imp (on_bind q) (fun j ej q F3 H3 n3 => ?_) fun _ _ _ q => (q.new n1).new n2⟩) fun _ _ _ q => q.new n1⟩) fun _ _ _ q => q⟩
  obtain ⟨d, ed, q⟩ := noX_on q
  have s1 := s.new n1
  have s2 := s1.new n2
  have s3 := s2.new n3
  have rx' := Rep.mono (bs_new (b := b) s2 n3) _ _ (Rep.mono (bs_new s1 n2) _ _ rx)
  cases x <;> first | (dsimp only [gSlL] at ed; cases ed; done) | skip
  rename_i xs
  cases ed
  obtain ⟨a, vs, rfl, h1, q1⟩ := rep_lst rx'
  exact ⟨a, vs, rfl, s3.bs_le.seqL h1, fun p hp => q p _ _ _ ((n1.trans n2).trans n3) hp ⟨_, rfl, reps_cut q1 _ _⟩⟩
end
end VL

/-! V6: tests, bool operators, calls. -/
namespace VL
open PySem PySem.Spec L2

section
variable {K : Fr'} {mg : MG} {W : WX} {b : Bool} {σ : L2.St} {ρ : Env'} {F F1 H H1 : Hp}
theorem on_new {α : Type} {x : Out α} {P P' : α → Prop} (n : New F H F1 H1) (q : x.on P (ExM mg W σ ρ F H)) (k : ∀ a, x = .ok a → P a → P' a) : x.on P' (ExM mg W σ ρ F1 H1) :=
  on_imp q k fun _ _ _ q => q.new n
end

/-! ### tests -/
def asB : D → Out Bool
  | .bl c => .ok c
  | _ => .bad
def bT (f : Env' → Out D) : Env' → Out Bool := fun ρ => (f ρ).bind asB
section
variable {b : Bool} {X : Cx} {W : WX} {x y z : Expr} {f g h : Env' → Out D} {pos : Pos}
theorem SRT.of {e : Expr} {t : TE} (p : PT X e (tB t)) (k : ∀ σ H Q, tR X.K X.mg W b f σ H Q → t σ H Q) : SRT X W e (bT f) := ⟨PT.imp p fun σ H Q ⟨F, ρ, s, q⟩ => k _ _ _ ⟨F, ρ, s, on_imp (on_bind q) (fun d ed q v F' H' n r => by
  cases d <;> first | (exact q.elim) | skip
  exact ⟨_, rep_bl r, q F' H' n⟩) fun _ _ _ q => q⟩⟩
theorem SRT.val {e : Expr} (p : SR b X W e f) (he : ∀ whole, isTrue e X.env whole = (do let v ← whole; standAt e.pos; holding [v] (truthy v)) := by intro _; rfl) : SRT X W e (bT f) := SRT.of (pt_val p.pe he) fun _ _ _ q => q
theorem SRT.cmp {op : CmpOp} {r : R2} {h : D → D → Out D} (ho : OpR X (compareOp op) r) (P : Pure2 X.K r h) (ha : SR b X W x f) (hb : SR b X W y g) (hm : behindInMarks op y = false := by first | exact nomark _ | rfl) : SRT X W (.Compare x [op] [y] pos) (bT (r2 f g h)) :=
  SRT.of (t := tOp r (tR X.K X.mg W b f) (tR X.K X.mg W b g)) (pt_cmpR ho ha.pe hb.pe hm) (tR2 P)
/-- a < b < c -/
def rCh (f g h : Env' → Out D) (o o' : D → D → Out D) : Env' → Out D := fun ρ => (f ρ).bind fun x => (g ρ).bind fun y => (noX (o x y)).bind fun c => match c with
  | .bl true => (h ρ).bind fun z => noX (o' y z)
  | .bl false => .ok (.bl false)
  | _ => .bad
theorem tRch {r r' : R2} {o o' : D → D → Out D} (P : Pure2 X.K r o) (P' : Pure2 X.K r' o') : ∀ σ H Q, tR X.K X.mg W b (rCh f g h o o') σ H Q → tChain r r' (tR X.K X.mg W b f) (tR X.K X.mg W b g) (tR X.K X.mg W b h) σ H Q := by
  rintro σ H Q ⟨F, ρ, s, q⟩
  refine ⟨F, ρ, s, on_imp (on_bind q) (fun x ex q => ?_) (fun _ _ _ q => q)⟩
  intro v1 F1 H1 n1 rx
  have s1 := s.new n1
  refine ⟨F1, ρ, s1, on_new n1 (on_bind q) fun y ey q => ?_⟩
  intro v2 F2 H2 n2 ry
  have s2 := s1.new n2
  obtain ⟨d, ed, q⟩ := noX_on (on_bind q)
  refine P _ _ _ _ _ _ _ _ s2.bs_le (Rep.mono (bs_new s1 n2) _ _ rx) ry ed fun v F' H' n rv => ?_
  obtain ⟨F3, n3, l⟩ := s2.bnew n
  have s3 := s2.new n3
  cases d <;> first | (exact q.elim) | skip
  rename_i c
  refine ⟨c, rep_bl rv, ?_⟩
  cases c with
  | false =>
    rw [if_neg Bool.false_ne_true]
    exact q _ F3 H' ((n1.trans n2).trans n3) mk_bl
  | true =>
    rw [if_pos rfl]
    refine ⟨F3, ρ, s3, on_new ((n1.trans n2).trans n3) (on_bind q) fun z ez q => ?_⟩
    intro v4 F4 H4 n4 rz
    have s4 := s3.new n4
    obtain ⟨d, ed, q⟩ := noX_on q
    refine P' _ _ _ _ _ _ _ _ s4.bs_le (Rep.mono (bs_new s3 n4) _ _ (Rep.mono (bs_new s2 n3) _ _ ry)) rz ed fun v F' H' n rv => ?_
    obtain ⟨F5, n5, l⟩ := s4.bnew n
    exact q v F5 H' ((((n1.trans n2).trans n3).trans n4).trans n5) (Rep.mono l _ _ rv)
theorem SR.chain {op op' : CmpOp} {r r' : R2} {o o' : D → D → Out D} (ho : OpR X (compareOp op) r) (P : Pure2 X.K r o) (ho' : OpR X (compareOp op') r') (P' : Pure2 X.K r' o') (ha : SR b X W x f) (hb : SR b X W y g) (hc : SR b X W z h)
    (hm : lastMarks [op, op'] [y, z] = false := by with_unfolding_all rfl) : SR b X W (.Compare x [op, op'] [y, z] pos) (rCh f g h o o') := SR.imp (pe_chain ho ho' ha.pe hb.pe hc.pe hm) (tRch P P')
theorem SRT.chain {op op' : CmpOp} {r r' : R2} {o o' : D → D → Out D} (ho : OpR X (compareOp op) r) (P : Pure2 X.K r o) (ho' : OpR X (compareOp op') r') (P' : Pure2 X.K r' o') (ha : SR b X W x f) (hb : SR b X W y g) (hc : SR b X W z h)
    (hm : lastMarks [op, op'] [y, z] = false := by with_unfolding_all rfl) : SRT X W (.Compare x [op, op'] [y, z] pos) (bT (rCh f g h o o')) :=
  SRT.of (t := tChain r r' (tR X.K X.mg W b f) (tR X.K X.mg W b g) (tR X.K X.mg W b h)) (pt_chain ho ho' ha.pe hb.pe hc.pe hm) (tRch P P')

/-! ### and, or, not -/
def bAnd (f g : Env' → Out Bool) : Env' → Out Bool := fun ρ => (f ρ).bind fun c => if c = true then g ρ else .ok false
def bOr (f g : Env' → Out Bool) : Env' → Out Bool := fun ρ => (f ρ).bind fun c => if c = true then .ok true else g ρ
def bNot (f : Env' → Out Bool) : Env' → Out Bool := fun ρ => (f ρ).bind fun c => .ok (!c)
structure SRW (X : Cx) (W : WX) (e : Expr) (f : Env' → Out Bool) : Prop where
  pw : PW X e (tRT X.K X.mg W f)
theorem SRW.t {e : Expr} {f : Env' → Out Bool} (h : SRW X W e f) : SRT X W e f := ⟨h.pw.pt⟩
variable {tf tg : Env' → Out Bool} {rest : List Expr}
theorem SRW.and1 (ha : SRT X W x tf) : SRW X W (.BoolOp .And [x] pos) tf := ⟨pw_and1 ha.pe⟩
theorem SRW.or1 (ha : SRT X W x tf) : SRW X W (.BoolOp .Or [x] pos) tf := ⟨pw_or1 ha.pe⟩
theorem SRW.and (ha : SRT X W x tf) (hb : SRW X W (.BoolOp .And (y :: rest) pos) tg) : SRW X W (.BoolOp .And (x :: y :: rest) pos) (bAnd tf tg) := ⟨PW.imp (pw_and ha.pe hb.pw) fun σ H Q ⟨F, ρ, s, q⟩ => ⟨F, ρ, s, on_imp (on_bind q) (fun c ec q F1 H1 n1 => by
  cases c with
  | false => rw [if_neg Bool.false_ne_true]; exact q F1 H1 n1
  | true =>
    rw [if_pos rfl]
    exact ⟨F1, ρ, s.new n1, on_new n1 q fun c ec q F2 H2 n2 => q F2 H2 (n1.trans n2)⟩) fun _ _ _ q => q⟩⟩
theorem SRW.or (ha : SRT X W x tf) (hb : SRW X W (.BoolOp .Or (y :: rest) pos) tg) : SRW X W (.BoolOp .Or (x :: y :: rest) pos) (bOr tf tg) := ⟨PW.imp (pw_or ha.pe hb.pw) fun σ H Q ⟨F, ρ, s, q⟩ => ⟨F, ρ, s, on_imp (on_bind q) (fun c ec q F1 H1 n1 => by
  cases c with
  | true => rw [if_pos rfl]; exact q F1 H1 n1
  | false =>
    rw [if_neg Bool.false_ne_true]
    exact ⟨F1, ρ, s.new n1, on_new n1 q fun c ec q F2 H2 n2 => q F2 H2 (n1.trans n2)⟩) fun _ _ _ q => q⟩⟩
theorem SRT.not (ha : SRT X W x tf) : SRT X W (.UnaryOp .Not x pos) (bNot tf) := ⟨PT.imp (pt_not ha.pe) fun σ H Q ⟨F, ρ, s, q⟩ => ⟨F, ρ, s, on_imp (on_bind q) (fun c ec q F1 H1 n1 => q F1 H1 n1) fun _ _ _ q => q⟩⟩
/-- as values -/
def rAnd (f g : Env' → Out D) : Env' → Out D := fun ρ => (f ρ).bind fun c => match c with
  | .bl true => g ρ
  | .bl false => .ok (.bl false)
  | _ => .bad
def rOr (f g : Env' → Out D) : Env' → Out D := fun ρ => (f ρ).bind fun c => match c with
  | .bl true => .ok (.bl true)
  | .bl false => g ρ
  | _ => .bad
def rNot : D → Out D
  | .bl c => .ok (.bl (!c))
  | _ => .bad
theorem SR.one {op : BoolOp} (ha : SR b X W x f) : SR b X W (.BoolOp op [x] pos) f := ⟨pe_one ha.pe⟩
theorem SR.and (ha : SR b X W x f) (hb : SR b X W (.BoolOp .And (y :: rest) pos) g) : SR b X W (.BoolOp .And (x :: y :: rest) pos) (rAnd f g) := SR.imp (pe_and ha.pe hb.pe) fun σ H Q ⟨F, ρ, s, q⟩ => ⟨F, ρ, s, on_imp (on_bind q) (fun d ed q v F1 H1 n1 r => by
  cases d <;> first | (exact q.elim) | skip
  rename_i c
  refine ⟨c, rep_bl r, ?_⟩
  cases c with
  | false => rw [if_neg Bool.false_ne_true]; exact q _ F1 H1 n1 mk_bl
  | true =>
    rw [if_pos rfl]
    exact ⟨F1, ρ, s.new n1, on_new n1 q fun c ec q v F2 H2 n2 => q v F2 H2 (n1.trans n2)⟩) fun _ _ _ q => q⟩
theorem SR.or (ha : SR b X W x f) (hb : SR b X W (.BoolOp .Or (y :: rest) pos) g) : SR b X W (.BoolOp .Or (x :: y :: rest) pos) (rOr f g) := SR.imp (pe_or ha.pe hb.pe) fun σ H Q ⟨F, ρ, s, q⟩ => ⟨F, ρ, s, on_imp (on_bind q) (fun d ed q v F1 H1 n1 r => by
  cases d <;> first | (exact q.elim) | skip
  rename_i c
  refine ⟨c, rep_bl r, ?_⟩
  cases c with
  | true => rw [if_pos rfl]; exact q _ F1 H1 n1 mk_bl
  | false =>
    rw [if_neg Bool.false_ne_true]
    exact ⟨F1, ρ, s.new n1, on_new n1 q fun c ec q v F2 H2 n2 => q v F2 H2 (n1.trans n2)⟩) fun _ _ _ q => q⟩
theorem SR.not (ha : SR b X W x f) : SR b X W (.UnaryOp .Not x pos) (r1 f rNot) := SR.imp (pe_not ha.pe) (tR1 (r := fun v H1 Q => ∃ c, v = .bl c ∧ Q (.bl (!c)) H1) (by
  intro F H x dx d Q l rx e k
  cases dx <;> first | (unfold rNot at e; cases e; done) | skip
  cases e
  exact ⟨_, rep_bl rx, k _ _ _ (New.refl l) mk_bl⟩))
/-- a if t else b -/
def rIf {α : Type} (t : Env' → Out Bool) (f g : Env' → Out α) : Env' → Out α := fun ρ => (t ρ).bind fun c => if c = true then f ρ else g ρ
theorem SR.ifE (hc : SRT X W z tf) (ha : SR b X W x f) (hb : SR b X W y g) : SR b X W (.IfExp z x y pos) (rIf tf f g) := SR.imp (pe_ifExp hc.pe ha.pe hb.pe) fun σ H Q ⟨F, ρ, s, q⟩ => ⟨F, ρ, s, on_imp (on_bind q) (fun c ec q F1 H1 n1 => by
  cases c with
  | true =>
    rw [if_pos rfl]
    exact ⟨F1, ρ, s.new n1, on_new n1 q fun c ec q v F2 H2 n2 => q v F2 H2 (n1.trans n2)⟩
  | false =>
    rw [if_neg Bool.false_ne_true]
    exact ⟨F1, ρ, s.new n1, on_new n1 q fun c ec q v F2 H2 n2 => q v F2 H2 (n1.trans n2)⟩) fun _ _ _ q => q⟩
theorem SO.ifE (hc : SRT X W z tf) (ha : SO b X W x f) (hb : SO b X W y g) : SO b X W (.IfExp z x y pos) (rIf tf f g) := SO.imp (pe_ifExp hc.pe ha.pe hb.pe) fun σ H Q ⟨F, ρ, s, q⟩ => ⟨F, ρ, s, on_imp (on_bind q) (fun c ec q F1 H1 n1 => by
  cases c with
  | true =>
    rw [if_pos rfl]
    exact ⟨F1, ρ, s.new n1, on_new n1 q fun c ec q p o F2 H2 n2 => q p o F2 H2 (n1.trans n2)⟩
  | false =>
    rw [if_neg Bool.false_ne_true]
    exact ⟨F1, ρ, s.new n1, on_new n1 q fun c ec q p o F2 H2 n2 => q p o F2 H2 (n1.trans n2)⟩) fun _ _ _ q => q⟩
end

/-! ### calls of the program's own defs: nothing is handed back -/
def spF (K : Fr') (mg : MG) (mf : List D → Out D) : Sp := fun vs H Q E => ∃ F ds, Le F H ∧ Reps K F ds vs ∧
  (mf ds).on (fun d => ∀ v F' H', New F H F' H' → Rep K F' d v → Q v H') (fun c fs => ∀ cls xd F' H', New F H F' H' → ExcR mg c fs cls xd → E cls xd H')
def TK (X : Cx) (W : WX) : Prop := ∀ σ, PassesAt (L2.CX X.prog X.w) X σ (WE W σ)
theorem TK.of {X : Cx} {W : WX} (t : Takes X W) : TK X W := fun σ => passAt t σ
theorem TK.zero {X : Cx} : TK X W0 := TK.of takes0
def rF (fs : Env' → Out (List D)) (mf : List D → Out D) : Env' → Out D := fun ρ => (fs ρ).bind mf
section
variable {b : Bool} {X : Cx} {W : WX} {k : Nat} {f : Addr} {fd : FuncData} {ps : List Str} {mf : List D → Out D} {fs : Env' → Out (List D)} {x : Str} {p pos : Pos} {e : Expr} {es : List Expr}
theorem tRF : ∀ σ H Q, tR X.K X.mg W b (rF fs mf) σ H Q → tCallS (spF X.K X.mg mf) (WE W) (tRs X.K X.mg W b fs) σ H Q := by
  rintro σ H Q ⟨F, ρ, s, q⟩
  refine ⟨F, ρ, s, on_imp (on_bind q) (fun ds ed q vs F1 H1 n1 rx => ?_) fun _ _ _ q => q⟩
  have s1 := s.new n1
  refine ⟨_, ds, s1.bs_le, rx, on_imp q (fun d ed q v F' H' n r => ?_) (fun c cs ec q cls xd F' H' n r => ?_)⟩
  · obtain ⟨F2, n2, l⟩ := s1.bnew n
    exact q v F2 H' (n1.trans n2) (Rep.mono l _ _ r)
  · obtain ⟨F2, n2, l⟩ := s1.bnew n
    exact q cls xd σ F2 H' n2.le' rfl (Stp.emp (n1.trans n2)) r
theorem SR.call (G : FnOk X.prog X.w X.K X.mg X.base (L2.CX X.prog X.w) k f fd ps (spF X.K X.mg mf)) (hr : Room k X.A) (hg : Gl X x) (hm : X.mg x = some (.ref f)) (hk : PySem.W.keepIn X.K (.ref f) = true) (hb : Binds X.K fd ps []) (tk : TK X W)
    (ha : SRs b X W (e :: es) fs) (hdb : (x == ("__debug__" : Str)) = false := by decide) (hs : starEach (e :: es) X.env = (false, eval e X.env) :: starEach es X.env := by rfl) (hpl : (backTo pos (starEach es X.env)).any (·.1) = false := by rfl) : SR b X W (.Call (.Name x p) (e :: es) [] pos) (rF fs mf) :=
  SR.imp (pe_callS G hr hg hm hk hb tk ha.pe hdb hs hpl) tRF
end
end VL

/-! V7: expressions that change owned objects; statements. -/
namespace VL
open PySem PySem.Spec L2

/-! data without lists and dicts within -/
mutual
def immut : D → Bool
  | .lst _ => false
  | .dic _ => false
  | .dit _ => false
  | .tup xs => immuts xs
  | _ => true
def immuts : List D → Bool
  | [] => true
  | x :: xs => immut x && immuts xs
end
section
variable {K : Fr'} {F G : Hp} (nt : ∀ a xs, SqT K G a xs → SqT K F a xs)
include nt
mutual
theorem rep_immut : ∀ (d : D) (v : V), immut d = true → Rep K G d v → Rep K F d v
  | .non, v, _, h => by rw [rep_non h]; exact mk_non
  | .bl c, v, _, h => by rw [rep_bl h]; exact mk_bl
  | .int i, v, _, h => by rw [rep_int h]; exact mk_int
  | .str x, v, _, h => by rw [rep_str h]; exact mk_str
  | .tup xs, v, c, h => by
    obtain ⟨a, vs, rfl, h1, q1⟩ := rep_tup h
    exact mk_tup (nt _ _ h1) (reps_immut xs vs c q1)
  | .lst xs, v, c, h => absurd c Bool.false_ne_true
  | .dic xs, v, c, h => absurd c Bool.false_ne_true
  | .dit xs, v, c, h => absurd c Bool.false_ne_true
theorem reps_immut : ∀ (ds : List D) (vs : List V), immuts ds = true → Reps K G ds vs → Reps K F ds vs
  | [], vs, _, h => by rw [reps_nil h]; exact mk_nil
  | x :: xs, vs, c, h => by
    obtain ⟨v, r, rfl, h1, h3⟩ := reps_cons h
    unfold immuts at c
    rw [Bool.and_eq_true] at c
    exact mk_cons (rep_immut x v c.1 h1) (reps_immut xs r c.2 h3)
end
end
/-- an owned object is no tuple -/
theorem co_notup {K : Fr'} {F : Hp} {d : D} {o : HO} (c : Co K F d o) : (∀ xs, o ≠ .tup xs) ∧ ∀ u xs, o ≠ .frz u (.tup xs) := by
  cases d <;> first | (exact c.elim) | skip
  · obtain ⟨vs, rfl, _⟩ := c
    exact ⟨fun _ z => (nomatch z), fun _ _ z => (nomatch z)⟩
  · obtain ⟨vs, rfl, _⟩ := c
    exact ⟨fun _ z => (nomatch z), fun _ _ z => (nomatch z)⟩
  · obtain ⟨vs, rfl, _⟩ := c
    exact ⟨fun _ z => (nomatch z), fun _ _ z => (nomatch z)⟩
theorem bs_tup {K : Fr'} {F H : Hp} {σ : L2.St} {ρ : Env'} {b : Bool} (s : St2 K F H σ ρ) : ∀ a xs, SqT K (bs b F H σ ρ) a xs → SqT K F a xs := fun a xs h => by
  cases b with
  | false => exact h
  | true =>
    rcases h with h | h
    · by_cases w : Owned σ ρ a
      · obtain ⟨i, d, h1, h2⟩ := id w
        obtain ⟨p, o, e, ho, hn, c⟩ := s.own i d h1
        rw [e] at h2
        cases h2
        have h' : Rd H a (.tup xs) := Rd.congr (snap_own w) h
        rcases h' with h' | ⟨u, h'⟩
        · rw [ho] at h'
          cases h'
          exact absurd rfl ((co_notup c).1 _)
        · rw [ho] at h'
          cases h'
          exact absurd rfl ((co_notup c).2 _ _)
      · exact .inl (Rd.congr (snap_not w) h)
    · exact .inr h
/-- the items of a content are of no list -/
def topIm : D → Bool
  | .lst xs => immuts xs
  | .dic xs => immuts xs
  | .dit xs => immuts xs
  | d => immut d
def mOf (b : Bool) (f : Env' → Out D) : Env' → Out (D × Env') := fun ρ => (f ρ).bind fun d => if b = false ∨ immut d = true then .ok (d, ρ) else .bad
def mOfO (b : Bool) (f : Env' → Out D) : Env' → Out (D × Env') := fun ρ => (f ρ).bind fun d => if b = false ∨ topIm d = true then .ok (d, ρ) else .bad
theorem repK_immut {K : Fr'} {F G : Hp} (nt : ∀ a xs, SqT K G a xs → SqT K F a xs) : ∀ (ds : List D) (vs : List (Key × V)), immuts ds = true → RepK K G ds vs → RepK K F ds vs
  | [], vs, _, h => by unfold RepK at h ⊢; exact h
  | .tup [k, d] :: xs, vs, c, h => by
    unfold RepK at h ⊢
    obtain ⟨q, v, r, e, e2, h1, h2⟩ := h
    have c : ((immut k && (immut d && true)) && immuts xs) = true := c
    rw [Bool.and_eq_true, Bool.and_eq_true, Bool.and_eq_true] at c
    exact ⟨q, v, r, e, e2, rep_immut nt d v c.1.2.1 h1, repK_immut nt xs r c.2 h2⟩
  | .non :: _, _, _, h => by unfold RepK at h; exact h.elim
  | .bl _ :: _, _, _, h => by unfold RepK at h; exact h.elim
  | .int _ :: _, _, _, h => by unfold RepK at h; exact h.elim
  | .str _ :: _, _, _, h => by unfold RepK at h; exact h.elim
  | .lst _ :: _, _, _, h => by unfold RepK at h; exact h.elim
  | .dic _ :: _, _, _, h => by unfold RepK at h; exact h.elim
  | .dit _ :: _, _, _, h => by unfold RepK at h; exact h.elim
  | .tup [] :: _, _, _, h => by unfold RepK at h; exact h.elim
  | .tup [_] :: _, _, _, h => by unfold RepK at h; exact h.elim
  | .tup (_ :: _ :: _ :: _) :: _, _, _, h => by unfold RepK at h; exact h.elim
theorem repT_immut {K : Fr'} {F G : Hp} (nt : ∀ a xs, SqT K G a xs → SqT K F a xs) : ∀ (ds : List D) (vs : List (List Key × V)), immuts ds = true → RepT K G ds vs → RepT K F ds vs
  | [], vs, _, h => by unfold RepT at h ⊢; exact h
  | .tup [k, d] :: xs, vs, c, h => by
    unfold RepT at h ⊢
    obtain ⟨q, v, r, e, e2, h1, h2⟩ := h
    have c : ((immut k && (immut d && true)) && immuts xs) = true := c
    rw [Bool.and_eq_true, Bool.and_eq_true, Bool.and_eq_true] at c
    exact ⟨q, v, r, e, e2, rep_immut nt d v c.1.2.1 h1, repT_immut nt xs r c.2 h2⟩
  | .non :: _, _, _, h => by unfold RepT at h; exact h.elim
  | .bl _ :: _, _, _, h => by unfold RepT at h; exact h.elim
  | .int _ :: _, _, _, h => by unfold RepT at h; exact h.elim
  | .str _ :: _, _, _, h => by unfold RepT at h; exact h.elim
  | .lst _ :: _, _, _, h => by unfold RepT at h; exact h.elim
  | .dic _ :: _, _, _, h => by unfold RepT at h; exact h.elim
  | .dit _ :: _, _, _, h => by unfold RepT at h; exact h.elim
  | .tup [] :: _, _, _, h => by unfold RepT at h; exact h.elim
  | .tup [_] :: _, _, _, h => by unfold RepT at h; exact h.elim
  | .tup (_ :: _ :: _ :: _) :: _, _, _, h => by unfold RepT at h; exact h.elim
theorem co_immut {K : Fr'} {F G : Hp} (nt : ∀ a xs, SqT K G a xs → SqT K F a xs) {d : D} {o : HO} (c : Co K G d o) (im : topIm d = true) : Co K F d o := by
  cases d <;> first | (exact c.elim) | skip
  · obtain ⟨vs, rfl, r⟩ := c
    exact ⟨vs, rfl, reps_immut nt _ _ im r⟩
  · obtain ⟨vs, rfl, r⟩ := c
    exact ⟨vs, rfl, repK_immut nt _ _ im r⟩
  · obtain ⟨vs, rfl, r⟩ := c
    exact ⟨vs, rfl, repT_immut nt _ _ im r⟩
section
variable {b : Bool} {X : Cx} {W : WX} {x y z e : Expr} {f g : Env' → Out D} {pos : Pos}
theorem SR.m (h : SR b X W e f) : SM X W e (mOf b f) := SM.imp h.pe fun σ H Q ⟨F, ρ, s, q⟩ => ⟨F, ρ, s, on_imp (on_bind q) (fun d ed q v F' H' n r => by
  split at q
  · rename_i c
    have s' := s.new n
    refine q v F' H' s' ?_ (n.stp σ ρ)
    rcases c with c | c
    · subst c
      exact r
    · exact rep_immut (bs_tup s') d v c r
  · exact q.elim) fun _ _ _ q => q⟩
theorem SO.m (h : SO b X W e f) : SM X W e (mOfO b f) := SM.imp h.pe fun σ H Q ⟨F, ρ, s, q⟩ => ⟨F, ρ, s, on_imp (on_bind q) (fun d ed q p o F' H' n hp c => by
  split at q
  · rename_i w
    have s' := s.new n
    have c' : Co X.K F' d o := by
      rcases w with w | w
      · subst w
        exact c
      · exact co_immut (bs_tup s') c w
    have ⟨n2, r⟩ := Co.laid s'.le hp c'
    exact q _ _ _ (s'.new n2) r ((n.trans n2).stp σ ρ)
  · exact q.elim) fun _ _ _ q => q⟩

/-! ### operators over changing parts -/
theorem on_stp {mg : MG} {α : Type} {x : Out α} {P P' : α → Prop} {σ σ1 : L2.St} {ρ ρ1 : Env'} {F F1 H H1 : Hp} (n : Stp σ ρ F H σ1 ρ1 F1 H1) (l : σ1.length = σ.length) (m : ρ1.length = ρ.length) (q : x.on P (ExM mg W σ ρ F H)) (k : ∀ a, x = .ok a → P a → P' a) : x.on P' (ExM mg W σ1 ρ1 F1 H1) :=
  on_imp q k fun _ _ _ q => q.on n l m
theorem St2.rlen {K : Fr'} {F F1 H H1 : Hp} {σ : L2.St} {ρ ρ1 : Env'} (s : St2 K F H σ ρ) (s1 : St2 K F1 H1 σ ρ1) : ρ1.length = ρ.length := by rw [← s.len, s1.len]
def m2 (f g : Env' → Out (D × Env')) (h : D → D → Out D) : Env' → Out (D × Env') := fun ρ => (f ρ).bind fun x => (g x.2).bind fun y => (noX (h x.1 y.1)).bind fun d => .ok (d, y.2)
def m1 (f : Env' → Out (D × Env')) (h : D → Out D) : Env' → Out (D × Env') := fun ρ => (f ρ).bind fun x => (noX (h x.1)).bind fun d => .ok (d, x.2)
variable {mf mg' : Env' → Out (D × Env')}
theorem tM1 {r : V → Hp → VK → Prop} {h : D → Out D} (P : Pure1 X.K r h) : ∀ σ H Q, tM X.K X.mg W (m1 mf h) σ H Q → tM X.K X.mg W mf σ H fun x H1 => r x H1 Q := by
  rintro σ H Q ⟨F, ρ, s, q⟩
  refine ⟨F, ρ, s, on_imp (on_bind q) (fun x ex q v1 F1 H1 s1 rx p1 => ?_) (fun _ _ _ q => q)⟩
  obtain ⟨d, ed, q⟩ := noX_on (on_bind q)
  refine P _ _ _ _ _ _ s1.le rx ed fun v F' H' n rv => ?_
  exact q v F' H' (s1.new n) rv (p1.trans (n.stp σ _))
theorem tM2 {r : V → V → Hp → VK → Prop} {h : D → D → Out D} (P : Pure2 X.K r h) : ∀ σ H Q, tM X.K X.mg W (m2 mf mg' h) σ H Q → tOp r (tM X.K X.mg W mf) (tM X.K X.mg W mg') σ H Q := by
  rintro σ H Q ⟨F, ρ, s, q⟩
  refine ⟨F, ρ, s, on_imp (on_bind q) (fun x ex q v1 F1 H1 s1 rx p1 => ?_) (fun _ _ _ q => q)⟩
  refine ⟨F1, x.2, s1, on_stp p1 rfl (s.rlen s1) (on_bind q) fun y ey q v2 F2 H2 s2 ry p2 => ?_⟩
  obtain ⟨d, ed, q⟩ := noX_on (on_bind q)
  refine P _ _ _ _ _ _ _ _ s2.le (Rep.mono p2.le _ _ rx) ry ed fun v F' H' n rv => ?_
  exact q v F' H' (s2.new n) rv ((p1.trans p2).trans (n.stp σ _))
theorem SM.bin {op : Operator} {r : R2} {h : D → D → Out D} (ho : OpR X (binaryOp op) r) (P : Pure2 X.K r h) (ha : SM X W x mf) (hb : SM X W y mg') : SM X W (.BinOp x op y pos) (m2 mf mg' h) := SM.imp (pe_op ho ha.pe hb.pe) (tM2 P)
theorem SM.cmp {op : CmpOp} {r : R2} {h : D → D → Out D} (ho : OpR X (compareOp op) r) (P : Pure2 X.K r h) (ha : SM X W x mf) (hb : SM X W y mg') (hm : behindInMarks op y = false := by first | exact nomark _ | rfl) : SM X W (.Compare x [op] [y] pos) (m2 mf mg' h) := SM.imp (pe_cmpR ho ha.pe hb.pe hm) (tM2 P)
theorem SM.ix (ha : SM X W x mf) (hb : SM X W y mg') (hs : PlainIx y := by exact fun _ _ => rfl) : SM X W (.Subscript x y pos) (m2 mf mg' gIx) := SM.imp (pe_ix ix_all ha.pe hb.pe hs) (tM2 p_ix)
/-- argument lists -/
def mNil : Env' → Out (List D × Env') := fun ρ => .ok ([], ρ)
def mCons (f : Env' → Out (D × Env')) (g : Env' → Out (List D × Env')) : Env' → Out (List D × Env') := fun ρ => (f ρ).bind fun x => (g x.2).bind fun xs => .ok (x.1 :: xs.1, xs.2)
variable {es : List Expr} {ms : Env' → Out (List D × Env')}
theorem SMs.nil : SMs X W [] mNil := ⟨PA.imp pa_nil fun σ H Q ⟨F, ρ, s, q⟩ => q [] F H s mk_nil (Stp.refl _ _ _ _)⟩
theorem SMs.cons (ha : SM X W e mf) (hr : SMs X W es ms) (hs : starEach (e :: es) X.env = (false, eval e X.env) :: starEach es X.env := by rfl) : SMs X W (e :: es) (mCons mf ms) :=
  ⟨PA.imp (pa_cons ha.pe hr.pe hs) fun σ H Q ⟨F, ρ, s, q⟩ => ⟨F, ρ, s, on_imp (on_bind q) (fun x ex q v1 F1 H1 s1 rx p1 => ⟨F1, x.2, s1, on_stp p1 rfl (s.rlen s1) (on_bind q) fun y ey q v2 F2 H2 s2 ry p2 =>
    q (v1 :: v2) F2 H2 s2 (mk_cons (Rep.mono p2.le _ _ rx) ry) (p1.trans p2)⟩) (fun _ _ _ q => q)⟩⟩
def mN (f : Env' → Out (List D × Env')) (h : List D → Out D) : Env' → Out (D × Env') := fun ρ => (f ρ).bind fun x => (noX (h x.1)).bind fun d => .ok (d, x.2)
theorem tMN {r : List V → Hp → VK → Prop} {h : List D → Out D} (P : PureN X.K r h) : ∀ σ H Q, tM X.K X.mg W (mN ms h) σ H Q → tMs X.K X.mg W ms σ H fun xs H1 => r xs H1 Q := by
  rintro σ H Q ⟨F, ρ, s, q⟩
  refine ⟨F, ρ, s, on_imp (on_bind q) (fun x ex q v1 F1 H1 s1 rx p1 => ?_) (fun _ _ _ q => q)⟩
  obtain ⟨d, ed, q⟩ := noX_on (on_bind q)
  refine P _ _ _ _ _ _ s1.le rx ed fun v F' H' n rv => ?_
  exact q v F' H' (s1.new n) rv (p1.trans (n.stp σ _))
theorem tMNO {r : List V → Hp → VK → Prop} {h : List D → Out D} (P : PureON X.K r h) : ∀ σ H Q, tM X.K X.mg W (mN ms h) σ H Q → tMs X.K X.mg W ms σ H fun xs H1 => r xs H1 Q :=
  tMN fun F H xs ds d Q l rx ed k => P F H xs ds d Q l rx ed fun p o hp c => k _ _ _ (Co.laid l hp c).1 (Co.laid l hp c).2
theorem SM.tup {k : Nat} (h : SMs X W es ms) : SM X W (.Tuple es k pos) (mN ms gTup) := SM.imp (pe_tup h.pe) (tMN (r := fun xs H Q => xs.length ≤ sizeLine ∧ ∀ p, H p = none → Q (.ref p) (upd H p (.tup xs))) (by
  intro F H xs ds d Q l rx e k
  unfold gTup at e
  split at e
  · cases e
    refine ⟨by rw [reps_len rx]; assumption, fun p hp => k _ _ _ (New.upd (o := .tup xs) l hp) (mk_tup (.inl (.inl upd_same)) (Reps.mono (Le.updL (l.none hp)) _ _ rx))⟩
  · cases e))
theorem SM.lst (h : SMs X W es ms) : SM X W (.List es pos) (mN ms gLst) := SM.imp (pe_lst h.pe) (tMNO (r := fun xs H Q => xs.length ≤ sizeLine ∧ ∀ p, H p = none → Q (.ref p) (upd H p (.lst xs))) (by
  intro F H xs ds d Q l rx e k
  unfold gLst at e
  split at e
  · cases e
    exact ⟨by rw [reps_len rx]; assumption, fun p hp => k p _ hp ⟨_, rfl, rx⟩⟩
  · cases e))
theorem SM.callTy {T : String} {r : List V → Hp → VK → Prop} {h : List D → Out D} {n : Str} {p : Pos} (hc : CallR X (.type T) r) (P : PureN X.K r h) (hg : Gl X n) (hm : X.mg n = none) (hv : bootBuiltins n = some (.type T)) (ha : SMs X W (e :: es) ms) (hn : n ≠ "__name__" := by decide) (hdb : (n == ("__debug__" : Str)) = false := by decide)
    (he : starEach (e :: es) X.env = (false, eval e X.env) :: starEach es X.env := by rfl) (hpl : (backTo pos (starEach es X.env)).any (·.1) = false := by rfl) : SM X W (.Call (.Name n p) (e :: es) [] pos) (mN ms h) := SM.imp (pe_callTy hc hg hm hv ha.pe hn hdb he hpl) (tMN P)
/-- a list that is owned, at a place: the item is nobody's but the list's, and stays -/
def mIxO (i : Nat) (g : Env' → Out D) : Env' → Out (D × Env') := fun ρ => match ρ[i]? with
  | some (.own (.lst xs)) => (g ρ).bind fun y => match y with
    | .int j => match atI xs j with
      | some d => .ok (d, ρ)
      | none => .bad
    | _ => .bad
  | _ => .bad
theorem SM.ixO (i : Nat) {n : Str} {p : Pos} (hb : SR false X W y g) (hN : X.N[i]? = some n := by rfl) (hv : Vis X.env.scope n := by first | exact Or.inl rfl | exact Or.inr (Or.inl rfl) | exact Or.inr (Or.inr rfl)) (hd : (n == ("__debug__" : Str)) = false := by decide)
    (hcd : (n == ("__classdict__" : Str)) = false := by decide) (hs : PlainIx y := by exact fun _ _ => rfl) : SM X W (.Subscript (.Name n p) y pos) (mIxO i g) := by
  refine SM.imp (pe_ix ix_list (pe_var hN hv hd hcd) hb.pe hs) ?_
  rintro σ H Q ⟨F, ρ, s, q⟩
  unfold mIxO at q
  split at q
  · rename_i xs hx
    obtain ⟨p, o, e, ho, hn, vs, rfl, rv⟩ := s.own i _ hx
    refine ⟨_, e, F, ρ, s, on_imp (on_bind q) (fun y ey q v F1 H1 n1 ry => ?_) fun _ _ _ q => q⟩
    cases y <;> first | (exact q.elim) | skip
    rename_i j
    dsimp only at q
    split at q
    · rename_i d hd
      obtain ⟨w, hw, rw'⟩ := reps_atI rv hd
      exact ⟨p, vs, j, w, rfl, rep_int ry, .inl (.inl (n1.kp _ _ ho)), hw, q w F1 H1 (s.new n1) (Rep.mono n1.le _ _ rw') (n1.stp σ ρ)⟩
    · exact q.elim
  · exact q.elim
/-- tests -/
def bMT (f : Env' → Out (D × Env')) : Env' → Out (Bool × Env') := fun ρ => (f ρ).bind fun x => (asB x.1).bind fun c => .ok (c, x.2)
def mT (f : Env' → Out Bool) : Env' → Out (Bool × Env') := fun ρ => (f ρ).bind fun c => .ok (c, ρ)
theorem SRT.m {f : Env' → Out Bool} (h : SRT X W e f) : SMT X W e (mT f) := ⟨PT.imp h.pe fun σ H Q ⟨F, ρ, s, q⟩ => ⟨F, ρ, s, on_imp (on_bind q) (fun c ec q F' H' n => q F' H' (s.new n) (n.stp σ ρ)) fun _ _ _ q => q⟩⟩
theorem SMT.cmp {op : CmpOp} {r : R2} {h : D → D → Out D} (ho : OpR X (compareOp op) r) (P : Pure2 X.K r h) (ha : SM X W x mf) (hb : SM X W y mg') (hm : behindInMarks op y = false := by first | exact nomark _ | rfl) : SMT X W (.Compare x [op] [y] pos) (bMT (m2 mf mg' h)) :=
  ⟨PT.imp (pt_cmpR ho ha.pe hb.pe hm) fun σ H Q ⟨F, ρ, s, q⟩ => tM2 P σ H _ ⟨F, ρ, s, on_imp (on_bind q) (fun x ex q v F' H' s' r p => by
    obtain ⟨d, ρ'⟩ := x
    cases d <;> first | (exact q.elim) | skip
    exact ⟨_, rep_bl r, q F' H' s' p⟩) fun _ _ _ q => q⟩⟩
end
end VL

/-! V8: statements. -/
namespace VL
open PySem PySem.Spec L2

section
variable {K : Fr'} {F H : Hp} {σ : L2.St} {ρ : Env'}
theorem at_set {α : Type} {l : List α} {i j : Nat} {a c : α} (h : (l.set i a)[j]? = some c) : (j = i ∧ i < l.length ∧ c = a) ∨ (j ≠ i ∧ l[j]? = some c) := by
  rw [List.getElem?_set] at h
  by_cases e : i = j
  · rw [if_pos e] at h
    split at h
    · rename_i hl
      exact .inl ⟨e.symm, hl, (Option.some.inj h).symm⟩
    · cases h
  · rw [if_neg e] at h
    exact .inr ⟨fun z => e z.symm, h⟩
theorem set_ne {α : Type} {l : List α} {i j : Nat} {a : α} (h : j ≠ i) : (l.set i a)[j]? = l[j]? := by rw [List.getElem?_set, if_neg fun z => h z.symm]
theorem set_eq {α : Type} {l : List α} {i : Nat} {a : α} (h : i < l.length) : (l.set i a)[i]? = some a := by rw [List.getElem?_set, if_pos rfl, if_pos h]
theorem Fix.set {prot : List Nat} {i : Nat} {v : Option V} (h : i ∉ prot) : Fix prot σ (σ.set i v) := ⟨by rw [List.length_set], fun j hj => set_ne fun e => h (e ▸ hj)⟩
/-- a name gets a value -/
theorem St2.setV (s : St2 K F H σ ρ) {d : D} {v : V} (r : Rep K F d v) (i : Nat) : St2 K F H (σ.set i (some v)) (ρ.set i (.val d)) where
  le := s.le
  len := by rw [List.length_set, List.length_set]; exact s.len
  val := fun j e h => by
    rcases at_set h with ⟨rfl, hl, he⟩ | ⟨hj, h⟩
    · cases he
      exact ⟨v, set_eq (by rw [s.len]; exact hl), r⟩
    · rw [set_ne hj]
      exact s.val j e h
  own := fun j e h => by
    rcases at_set h with ⟨rfl, hl, he⟩ | ⟨hj, h⟩
    · cases he
    · rw [set_ne hj]
      exact s.own j e h
  sep := fun j k p d' e hjk h1 h2 h3 => by
    rcases at_set h1 with ⟨rfl, hl, he⟩ | ⟨hj, h1⟩
    · cases he
    rcases at_set h2 with ⟨rfl, hl, he⟩ | ⟨hk, h2⟩
    · cases he
    rw [set_ne hk]
    rw [set_ne hj] at h3
    exact s.sep j k p d' e hjk h1 h2 h3
theorem owned_set {i : Nat} {d : D} {v : Option V} {b : Addr} (h : Owned (σ.set i v) (ρ.set i (.val d)) b) : Owned σ ρ b := by
  obtain ⟨j, e, h1, h2⟩ := h
  rcases at_set h1 with ⟨rfl, hl, he⟩ | ⟨hj, h1⟩
  · cases he
  · rw [set_ne hj] at h2
    exact ⟨j, e, h1, h2⟩
theorem Stp.setV {d : D} {v : V} (i : Nat) : Stp σ ρ F H (σ.set i (some v)) (ρ.set i (.val d)) F H :=
  ⟨Le.refl _, fun _ _ h _ => h, fun _ h => .inl h, fun _ h => .inl (owned_set h), fun _ h => h⟩
/-- a name gets a new object of its own -/
theorem St2.setO (s : St2 K F H σ ρ) {d : D} {p : Addr} {o : HO} (hp : H p = none) (c : Co K F d o) (i : Nat) : St2 K F (upd H p o) (σ.set i (some (.ref p))) (ρ.set i (.own d)) where
  le := s.le.updR (s.le.none hp)
  len := by rw [List.length_set, List.length_set]; exact s.len
  val := fun j e h => by
    rcases at_set h with ⟨rfl, hl, he⟩ | ⟨hj, h⟩
    · cases he
    · rw [set_ne hj]
      exact s.val j e h
  own := fun j e h => by
    rcases at_set h with ⟨rfl, hl, he⟩ | ⟨hj, h⟩
    · cases he
      exact ⟨p, o, set_eq (by rw [s.len]; exact hl), upd_same, s.le.none hp, c⟩
    · obtain ⟨q, u, h1, h2, h3, h4⟩ := s.own j e h
      rw [set_ne hj]
      exact ⟨q, u, h1, by rw [upd_ne (ne_of_none h2 hp)]; exact h2, h3, h4⟩
  sep := fun j k q d' e hjk h1 h2 h3 h4 => by
    rcases at_set h1 with ⟨ej, hl, he⟩ | ⟨hj, w1⟩
    · rcases at_set h2 with ⟨ek, hl2, he2⟩ | ⟨hk, w2⟩
      · exact hjk (ej.trans ek.symm)
      · rw [ej, set_eq (by rw [s.len]; exact hl)] at h3
        rw [set_ne hk] at h4
        cases h3
        obtain ⟨q, u, g1, g2, _⟩ := s.own k e w2
        rw [h4] at g1
        cases g1
        rw [hp] at g2
        cases g2
    · rw [set_ne hj] at h3
      rcases at_set h2 with ⟨ek, hl2, he2⟩ | ⟨hk, w2⟩
      · rw [ek, set_eq (by rw [s.len]; exact hl2)] at h4
        cases h4
        obtain ⟨q, u, g1, g2, _⟩ := s.own j d' w1
        rw [h3] at g1
        cases g1
        rw [hp] at g2
        cases g2
      · rw [set_ne hk] at h4
        exact s.sep j k q d' e hjk w1 w2 h3 h4
theorem Stp.setO (s : St2 K F H σ ρ) {d : D} {p : Addr} {o : HO} (hp : H p = none) (i : Nat) : Stp σ ρ F H (σ.set i (some (.ref p))) (ρ.set i (.own d)) F (upd H p o) where
  le := Le.refl _
  kp := fun b u h _ => by rw [upd_ne (ne_of_none h hp)]; exact h
  fr := fun _ h => .inl h
  ow := fun b ⟨j, e, h1, h2⟩ => by
    rcases at_set h1 with ⟨rfl, hl, he⟩ | ⟨hj, h1⟩
    · rw [set_eq (by rw [s.len]; exact hl)] at h2
      cases h2
      exact .inr hp
    · rw [set_ne hj] at h2
      exact .inl ⟨j, e, h1, h2⟩
  al := fun b h e => by
    by_cases q : b = p
    · subst q
      exact h hp
    · rw [upd_ne q] at e
      exact h e
/-- an owned object changes -/
theorem St2.updO (s : St2 K F H σ ρ) {i : Nat} {d d' : D} {p : Addr} {o' : HO} (hi : ρ[i]? = some (Cell.own d)) (hp : σ[i]? = some (some (V.ref p))) (c : Co K F d' o') : St2 K F (upd H p o') σ (ρ.set i (.own d')) where
  le := s.le.updR (s.owned_none ⟨i, d, hi, hp⟩)
  len := by rw [List.length_set]; exact s.len
  val := fun j e h => by
    rcases at_set h with ⟨rfl, hl, he⟩ | ⟨hj, h⟩
    · cases he
    · exact s.val j e h
  own := fun j e h => by
    rcases at_set h with ⟨rfl, hl, he⟩ | ⟨hj, h⟩
    · cases he
      exact ⟨p, o', hp, upd_same, s.owned_none ⟨_, d, hi, hp⟩, c⟩
    · obtain ⟨q, u, h1, h2, h3, h4⟩ := s.own j e h
      refine ⟨q, u, h1, ?_, h3, h4⟩
      rw [upd_ne fun z => s.sep i j p d e (Ne.symm hj) hi h hp (by rw [h1, z])]
      exact h2
  sep := fun j k q d1 e hjk h1 h2 h3 => by
    rcases at_set h1 with ⟨ej, hl, he⟩ | ⟨hj, w1⟩
    · rcases at_set h2 with ⟨ek, hl2, he2⟩ | ⟨hk, w2⟩
      · exact absurd (ej.trans ek.symm) hjk
      · exact s.sep j k q d e hjk (ej ▸ hi) w2 h3
    · rcases at_set h2 with ⟨ek, hl2, he2⟩ | ⟨hk, w2⟩
      · exact s.sep j k q d1 d hjk w1 (ek ▸ hi) h3
      · exact s.sep j k q d1 e hjk w1 w2 h3
theorem Stp.updO (s : St2 K F H σ ρ) {i : Nat} {d d' : D} {p : Addr} {o' : HO} (hi : ρ[i]? = some (Cell.own d)) (hp : σ[i]? = some (some (V.ref p))) : Stp σ ρ F H σ (ρ.set i (.own d')) F (upd H p o') where
  le := Le.refl _
  kp := fun b u h n => by
    rw [upd_ne fun (z : b = p) => n ⟨i, d, hi, by rw [z]; exact hp⟩]
    exact h
  fr := fun _ h => .inl h
  ow := fun b ⟨j, e, h1, h2⟩ => by
    rcases at_set h1 with ⟨rfl, hl, he⟩ | ⟨hj, h1⟩
    · exact .inl ⟨_, d, hi, h2⟩
    · exact .inl ⟨j, e, h1, h2⟩
  al := fun b h e => by
    by_cases q : b = p
    · subst q
      rw [upd_same] at e
      cases e
    · rw [upd_ne q] at e
      exact h e
/-- an owned object is frozen -/
theorem St2.frz (s : St2 K F H σ ρ) {i : Nat} {d : D} {p : Addr} {o : HO} (hi : ρ[i]? = some (Cell.own d)) (hp : σ[i]? = some (some (V.ref p))) (ho : H p = some o) (c : Co K F d o) : St2 K (upd F p o) H σ (ρ.set i (.val d)) where
  le := fun a u h => by
    by_cases e : a = p
    · subst e
      exact Rd.congr (upd_same.trans ho.symm) h
    · exact s.le a u (Rd.congr (upd_ne e) h)
  len := by rw [List.length_set]; exact s.len
  val := fun j e h => by
    rcases at_set h with ⟨rfl, hl, he⟩ | ⟨hj, h⟩
    · cases he
      exact ⟨_, hp, Co.rep (Le.updL (s.owned_none ⟨_, d, hi, hp⟩)) c upd_same⟩
    · obtain ⟨v, e1, r⟩ := s.val j e h
      exact ⟨v, e1, Rep.mono (Le.updL (s.owned_none ⟨_, d, hi, hp⟩)) _ _ r⟩
  own := fun j e h => by
    rcases at_set h with ⟨rfl, hl, he⟩ | ⟨hj, h⟩
    · cases he
    · obtain ⟨q, u, h1, h2, h3, h4⟩ := s.own j e h
      refine ⟨q, u, h1, h2, ?_, Co.mono (Le.updL (s.owned_none ⟨_, d, hi, hp⟩)) h4⟩
      rw [upd_ne fun z => s.sep i j p d e (Ne.symm hj) hi h hp (by rw [h1, z])]
      exact h3
  sep := fun j k q d1 e hjk h1 h2 h3 => by
    rcases at_set h1 with ⟨rfl, hl, he⟩ | ⟨hj, h1⟩
    · cases he
    rcases at_set h2 with ⟨rfl, hl2, he2⟩ | ⟨hk, h2⟩
    · cases he2
    exact s.sep j k q d1 e hjk h1 h2 h3
theorem Stp.frz (s : St2 K F H σ ρ) {i : Nat} {d : D} {p : Addr} {o : HO} (hi : ρ[i]? = some (Cell.own d)) (hp : σ[i]? = some (some (V.ref p))) : Stp σ ρ F H σ (ρ.set i (.val d)) (upd F p o) H where
  le := Le.updL (s.owned_none ⟨_, d, hi, hp⟩)
  kp := fun _ _ h _ => h
  fr := fun b h => by
    by_cases e : b = p
    · subst e
      exact .inr (.inr ⟨i, d, hi, hp⟩)
    · rw [upd_ne e] at h
      exact .inl h
  ow := fun b ⟨j, e, h1, h2⟩ => by
    rcases at_set h1 with ⟨rfl, hl, he⟩ | ⟨hj, h1⟩
    · cases he
    · exact .inl ⟨j, e, h1, h2⟩
  al := fun _ h => h
end

/-! ### blocks -/
section
variable {X : Cx} {W : WX} {prot : List Nat} {st : Stmt} {sts : List Stmt} {f g : Env' → Out (Fl × Env')} {pos : Pos}
def sNil : Env' → Out (Fl × Env') := fun ρ => .ok (.nx, ρ)
def sSeq (f g : Env' → Out (Fl × Env')) : Env' → Out (Fl × Env') := fun ρ => (f ρ).bind fun p => match p.1 with
  | .nx => g p.2
  | .brk => .ok (.brk, p.2)
  | .cnt => .ok (.cnt, p.2)
  | .ret d => .ok (.ret d, p.2)
  | .new d => .ok (.new d, p.2)
theorem SS.nil : SS X W prot [] sNil := ⟨PSs.imp pss_nil fun D0 σ H ⟨F, ρ, s, q⟩ => q σ F H s (Stp.refl _ _ _ _) (Fix.refl _ _)⟩
theorem SS.cons (h : S1 X W prot st f) (h2 : SS X W prot sts g) : SS X W prot (st :: sts) (sSeq f g) := by
  refine ⟨PSs.imp (pss_cons h.ps h2.ps) ?_⟩
  rintro D0 σ H ⟨F, ρ, s, q⟩
  refine ⟨F, ρ, s, on_imp (on_bind q) (fun p ep q σ1 F1 H1 s1 p1 fx => ?_) fun _ _ _ q => q⟩
  obtain ⟨fl, ρ1⟩ := p
  have lr : ρ1.length = ρ.length := by rw [← s.len, ← s1.len, fx.1]
  cases fl with
  | nx => exact ⟨F1, ρ1, s1, on_stp p1 fx.1 lr q fun p ep q σ2 F2 H2 s2 p2 fx2 => q σ2 F2 H2 s2 (p1.trans p2) (fx.trans fx2)⟩
  | brk => exact q σ1 F1 H1 s1 p1 fx
  | cnt => exact q σ1 F1 H1 s1 p1 fx
  | ret d => exact q σ1 F1 H1 s1 p1 fx
  | new d => exact q σ1 F1 H1 s1 p1 fx
end
end VL

/-! V9: simple statements. -/
namespace VL
open PySem PySem.Spec L2

/-! ### targets: only names' places change -/
def Only (sl : List Nat) (σ σ' : L2.St) : Prop := σ'.length = σ.length ∧ ∀ i, i ∉ sl → σ'[i]? = σ[i]?
theorem Only.refl (sl : List Nat) (σ : L2.St) : Only sl σ σ := ⟨rfl, fun _ _ => rfl⟩
theorem Only.trans {sl sm : List Nat} {σ σ1 σ2 : L2.St} (a : Only sl σ σ1) (b : Only sm σ1 σ2) : Only (sl ++ sm) σ σ2 := ⟨b.1.trans a.1, fun i h => (b.2 i fun z => h (List.mem_append_right _ z)).trans (a.2 i fun z => h (List.mem_append_left _ z))⟩
theorem Only.fix {sl prot : List Nat} {σ σ' : L2.St} (o : Only sl σ σ') (h : ∀ i, i ∈ prot → i ∉ sl) : Fix prot σ σ' := ⟨o.1, fun i hi => o.2 i (h i hi)⟩
def gM (K : Fr') (sl : List Nat) (g : D → Env' → Out Env') : TG := fun v σ H Q => ∃ F ρ d, St2 K F H σ ρ ∧ Rep K F d v ∧
  (g d ρ).on (fun ρ' => ∀ σ', St2 K F H σ' ρ' → Only sl σ σ' → (∀ b, Owned σ' ρ' b → Owned σ ρ b) → Q σ' H) (fun _ _ => False)
def gMs (K : Fr') (sl : List Nat) (g : List D → Env' → Out Env') : TGs := fun vs σ H Q => ∃ F ρ ds, St2 K F H σ ρ ∧ Reps K F ds vs ∧
  (g ds ρ).on (fun ρ' => ∀ σ', St2 K F H σ' ρ' → Only sl σ σ' → (∀ b, Owned σ' ρ' b → Owned σ ρ b) → Q σ' H) (fun _ _ => False)
structure SG (X : Cx) (sl : List Nat) (tg : Expr) (g : D → Env' → Out Env') : Prop where
  pg : PG X tg (gM X.K sl g)
structure SGs (X : Cx) (sl : List Nat) (tg : List Expr) (g : List D → Env' → Out Env') : Prop where
  pg : PGs X tg (gMs X.K sl g)
section
variable {X : Cx} {W : WX} {prot sl sm : List Nat} {pos : Pos} {e : Expr} {es : List Expr}
theorem PG.imp {tg : Expr} {t t' : TG} (h : PG X tg t) (k : ∀ v σ H Q, t' v σ H Q → t v σ H Q) : PG X tg t' := ⟨fun pins s σ H v u Q I r q => h.run pins s σ H v u Q I r (k _ _ _ _ q)⟩
theorem PGs.imp {tg : List Expr} {t t' : TGs} (h : PGs X tg t) (k : ∀ v σ H Q, t' v σ H Q → t v σ H Q) : PGs X tg t' := ⟨fun pins s σ H v u Q I r q => h.run pins s σ H v u Q I r (k _ _ _ _ q)⟩
def tgN (i : Nat) : D → Env' → Out Env' := fun d ρ => .ok (ρ.set i (.val d))
theorem Only.set {σ : L2.St} {i : Nat} {v : Option V} : Only [i] σ (σ.set i v) := ⟨by rw [List.length_set], fun j hj => set_ne fun z => hj (by rw [z]; exact List.mem_cons_self)⟩
theorem SG.name (i : Nat) {x : Str} (hN : X.N.Nodup) (hi : X.N[i]? = some x := by rfl) (hx : Loc X.env.scope x := by first | exact Or.inl rfl | exact Or.inr rfl) (hf : X.fn x = true ∨ X.env.scope.names.lookup x = some .local := by first | exact .inl rfl | exact .inr rfl) : SG X [i] (.Name x pos) (tgN i) :=
  ⟨PG.imp (pg_name hN hi hx hf) fun v σ H Q ⟨F, ρ, d, s, r, q⟩ => q _ (s.setV r i) Only.set fun b h => owned_set h⟩
def tgNil : List D → Env' → Out Env' := fun ds ρ => match ds with
  | [] => .ok ρ
  | _ => .bad
def tgCons (g : D → Env' → Out Env') (h : List D → Env' → Out Env') : List D → Env' → Out Env' := fun ds ρ => match ds with
  | d :: r => (g d ρ).bind fun ρ' => h r ρ'
  | _ => .bad
def tgTup (n : Nat) (h : List D → Env' → Out Env') : D → Env' → Out Env' := fun d ρ => match d with
  | .tup xs => if xs.length = n then h xs ρ else .bad
  | _ => .bad
theorem SGs.nil : SGs X [] [] tgNil := ⟨PGs.imp pgs_nil fun vs σ H Q ⟨F, ρ, ds, s, r, q⟩ => by
  cases ds with
  | cons d r => exact q.elim
  | nil => exact ⟨reps_nil r, q σ s (Only.refl _ _) fun _ h => h⟩⟩
theorem on_noX {α : Type} {x : Out α} {P P' : α → Prop} (h : x.on P (fun _ _ => False)) (k : ∀ a, x = .ok a → P a → P' a) : x.on P' (fun _ _ => False) := on_imp h k fun _ _ _ z => z
theorem SGs.cons {g : D → Env' → Out Env'} {h : List D → Env' → Out Env'} (h1 : SG X sl e g) (h2 : SGs X sm es h)
    (hs : (assignEach (e :: es) X.env).map (·.2) = assign e X.env :: (assignEach es X.env).map (·.2) := by rfl) : SGs X (sl ++ sm) (e :: es) (tgCons g h) := ⟨PGs.imp (pgs_cons h1.pg h2.pg hs) fun vs σ H Q ⟨F, ρ, ds, s, r, q⟩ => by
  cases ds with
  | nil => exact q.elim
  | cons d ds =>
    obtain ⟨v, w, rfl, r1, r2⟩ := reps_cons r
    exact ⟨v, w, rfl, F, ρ, d, s, r1, on_noX (on_bind q) fun ρ1 e1 q σ1 s1 f1 w1 => ⟨F, ρ1, ds, s1, r2, on_noX q fun ρ2 e2 q σ2 s2 f2 w2 => q σ2 s2 (f1.trans f2) fun b h => w1 b (w2 b h)⟩⟩⟩
theorem SG.tup {k n : Nat} {h : List D → Env' → Out Env'} (hc : X.calm = true) (h2 : SGs X sl es h)
    (hn : (assignEach es X.env).length = n := by rfl) (hst : (assignEach es X.env).findIdx? (·.1) = none := by rfl) : SG X sl (.Tuple es k pos) (tgTup n h) := ⟨PG.imp (pg_tup hc h2.pg hn hst) fun v σ H Q ⟨F, ρ, d, s, r, q⟩ => by
  cases d <;> first | (exact q.elim) | skip
  rename_i xs
  obtain ⟨a, vs, rfl, h1, q1⟩ := rep_tup r
  unfold tgTup at q
  dsimp only at q
  by_cases w : xs.length = n
  · rw [if_pos w] at q
    exact ⟨a, vs, rfl, s.le.seqT h1, by rw [reps_len q1]; exact w, F, ρ, xs, s, q1, q⟩
  · rw [if_neg w] at q
    exact q.elim⟩

/-! ### x = e -/
def sAsg (mf : Env' → Out (D × Env')) (g : D → Env' → Out Env') : Env' → Out (Fl × Env') := fun ρ => (mf ρ).bind fun x => (noX (g x.1 x.2)).bind fun ρ' => .ok (.nx, ρ')
variable {mf : Env' → Out (D × Env')} {f : Env' → Out D}
theorem tAsgM {g : D → Env' → Out Env'} (dj : ∀ i, i ∈ prot → i ∉ sl) : ∀ D0 σ H, tS X.K X.mg W prot (sAsg mf g) D0 σ H → tAsg (tM X.K X.mg W mf) (gM X.K sl g) D0 σ H := by
  rintro D0 σ H ⟨F, ρ, s, q⟩
  refine ⟨F, ρ, s, on_imp (on_bind q) (fun x ex q v F1 H1 s1 r1 p1 => ?_) fun _ _ _ q => q⟩
  obtain ⟨ρ', eρ, q⟩ := noX_on (on_bind q)
  refine ⟨F1, x.2, x.1, s1, r1, ?_⟩
  rw [eρ]
  exact fun σ2 s2 fx ow => q σ2 F1 H1 s2 (p1.trans ⟨Le.refl _, fun _ _ h _ => h, fun _ h => .inl h, fun b h => .inl (ow b h), fun _ h => h⟩) (fx.fix dj)
theorem S1.asg {tg : Expr} {g : D → Env' → Out Env'} (he : SM X W e mf) (hg : SG X sl tg g) (dj : ∀ i, i ∈ prot → i ∉ sl := by decide) (hs : swapsWithSole [tg] e pos.line X.env = pure false := by rfl) (hw : swappedStores [tg] e X.env = pure none := by rfl)
    (h1 : (assignEach [tg] X.env).map (·.2) = [assign tg X.env] := by rfl) : S1 X W prot (.Assign [tg] e pos) (sAsg mf g) := ⟨PS.imp (ps_asg he.pe hg.pg hs hw h1) (tAsgM dj)⟩
theorem S1.set (i : Nat) {x : Str} {pos' : Pos} (hN : X.N.Nodup) (he : SM X W e mf) (hp : i ∉ prot := by decide) (hi : X.N[i]? = some x := by rfl) (hx : Loc X.env.scope x := by first | exact Or.inl rfl | exact Or.inr rfl) (hs : swapsWith e (some (.Name x pos')) pos.line X.env = pure false := by rfl)
    (hf : X.fn x = true ∨ X.env.scope.names.lookup x = some .local := by first | exact .inl rfl | exact .inr rfl) : S1 X W prot (.Assign [.Name x pos'] e pos) (sAsg mf (tgN i)) := ⟨PS.imp (ps_set hN hi hx he.pe hs hf) fun D0 σ H ⟨F, ρ, s, q⟩ =>
  ⟨F, ρ, s, on_imp (on_bind q) (fun x ex q v F1 H1 s1 r1 p1 => q _ F1 H1 (s1.setV r1 i) (p1.trans (Stp.setV i)) (Fix.set hp)) fun _ _ _ q => q⟩⟩
/-- .. a new object of its own -/
def sOwn (b : Bool) (f : Env' → Out D) (i : Nat) : Env' → Out (Fl × Env') := fun ρ => (f ρ).bind fun d => if b = false ∨ topIm d = true then .ok (.nx, ρ.set i (.own d)) else .bad
theorem own_ok {K : Fr'} {b : Bool} {F F1 H H1 : Hp} {σ : L2.St} {ρ : Env'} {d : D} {p : Addr} {o : HO} (s : St2 K F H σ ρ) (n : New F H F1 H1) (hp : H1 p = none) (c : Co K (bs b F1 H1 σ ρ) d o) (w : b = false ∨ topIm d = true) (i : Nat) :
    St2 K F1 (upd H1 p o) (σ.set i (some (.ref p))) (ρ.set i (.own d)) ∧ Stp σ ρ F H (σ.set i (some (.ref p))) (ρ.set i (.own d)) F1 (upd H1 p o) := by
  have s1 := s.new n
  have c' : Co K F1 d o := by
    rcases w with w | w
    · subst w
      exact c
    · exact co_immut (bs_tup s1) c w
  exact ⟨s1.setO hp c' i, (n.stp σ ρ).trans (Stp.setO s1 hp i)⟩
theorem S1.own (i : Nat) {b : Bool} {x : Str} {pos' : Pos} (hN : X.N.Nodup) (he : SO b X W e f) (hp : i ∉ prot := by decide) (hi : X.N[i]? = some x := by rfl) (hx : Loc X.env.scope x := by first | exact Or.inl rfl | exact Or.inr rfl) (hs : swapsWith e (some (.Name x pos')) pos.line X.env = pure false := by rfl)
    (hf : X.fn x = true ∨ X.env.scope.names.lookup x = some .local := by first | exact .inl rfl | exact .inr rfl) : S1 X W prot (.Assign [.Name x pos'] e pos) (sOwn b f i) := ⟨PS.imp (ps_set hN hi hx he.pe hs hf) fun D0 σ H ⟨F, ρ, s, q⟩ =>
  ⟨F, ρ, s, on_imp (on_bind q) (fun d ed q p o F1 H1 n hp' c => by
    split at q
    · rename_i w
      have ⟨s2, p2⟩ := own_ok s n hp' c w i
      exact q _ F1 _ s2 p2 (Fix.set hp)
    · exact q.elim) fun _ _ _ q => q⟩⟩

/-! ### return -/
def sRet (mf : Env' → Out (D × Env')) : Env' → Out (Fl × Env') := fun ρ => (mf ρ).bind fun x => .ok (.ret x.1, x.2)
theorem S1.ret (he : SM X W e mf) : S1 X W prot (.Return (some e) pos) (sRet mf) := ⟨PS.imp (ps_ret he.pe) fun D0 σ H ⟨F, ρ, s, q⟩ => ⟨F, ρ, s, on_imp (on_bind q) (fun x ex q v F1 H1 s1 r1 p1 => by
  obtain ⟨d, ρ1⟩ := x
  exact q σ F1 H1 s1 p1 (Fix.refl _ _) v r1) fun _ _ _ q => q⟩⟩
def sRetN : Env' → Out (Fl × Env') := fun ρ => .ok (.ret .non, ρ)
theorem S1.retN : S1 X W prot (.Return none pos) sRetN := ⟨PS.imp ps_retN fun D0 σ H ⟨F, ρ, s, q⟩ => q σ F H s (Stp.refl _ _ _ _) (Fix.refl _ _) .non mk_non⟩
/-- an owned object is handed out -/
def frzE (i : Nat) (ρ : Env') : Env' := match ρ[i]? with
  | some (.own d) => ρ.set i (.val d)
  | _ => ρ
theorem frz_ok {K : Fr'} {F H : Hp} {σ : L2.St} {ρ : Env'} (s : St2 K F H σ ρ) (i : Nat) : ∃ F', St2 K F' H σ (frzE i ρ) ∧ Stp σ ρ F H σ (frzE i ρ) F' H := by
  unfold frzE
  split
  · rename_i d hd
    obtain ⟨p, o, e, ho, hn, c⟩ := s.own i d hd
    exact ⟨_, s.frz hd e ho c, Stp.frz s hd e⟩
  · exact ⟨F, s, Stp.refl _ _ _ _⟩
/-- ahead of a block: place i is frozen -/
theorem SS.frz {st : List Stmt} {f : Env' → Out (Fl × Env')} (i : Nat) (h : SS X W prot st f) : SS X W prot st (fun ρ => f (frzE i ρ)) := ⟨PSs.imp h.ps fun D0 σ H ⟨F, ρ, s, q⟩ => by
  obtain ⟨F1, s1, p1⟩ := frz_ok s i
  refine ⟨F1, _, s1, on_imp q (fun x ex q σ2 F2 H2 s2 p2 fx => q σ2 F2 H2 s2 (p1.trans p2) fx) fun _ _ _ q => q.on p1 rfl (by rw [← s.len, s1.len])⟩⟩

/-! ### if -/
def sIf (c : Env' → Out (Bool × Env')) (f g : Env' → Out (Fl × Env')) : Env' → Out (Fl × Env') := fun ρ => (c ρ).bind fun t => if t.1 = true then f t.2 else g t.2
theorem S1.ifS {c : Expr} {x y : List Stmt} {tc : Env' → Out (Bool × Env')} {f g : Env' → Out (Fl × Env')} (hc : SMT X W c tc) (ha : SS X W prot x f) (hb : SS X W prot y g) : S1 X W prot (.If c x y pos) (sIf tc f g) := ⟨PS.imp (ps_if hc.pe ha.ps hb.ps) fun D0 σ H ⟨F, ρ, s, q⟩ => ⟨F, ρ, s, on_imp (on_bind q) (fun t et q F1 H1 s1 p1 => by
  have lr : t.2.length = ρ.length := by rw [← s.len, ← s1.len]
  by_cases w : t.1 = true
  · rw [if_pos w] at q
    dsimp only
    rw [if_pos w]
    exact ⟨F1, t.2, s1, on_stp p1 rfl lr q fun p ep q σ2 F2 H2 s2 p2 fx => q σ2 F2 H2 s2 (p1.trans p2) fx⟩
  · rw [if_neg w] at q
    dsimp only
    rw [if_neg w]
    exact ⟨F1, t.2, s1, on_stp p1 rfl lr q fun p ep q σ2 F2 H2 s2 p2 fx => q σ2 F2 H2 s2 (p1.trans p2) fx⟩) fun _ _ _ q => q⟩⟩
/-! ### small ones -/
def sDrop (mf : Env' → Out (D × Env')) : Env' → Out (Fl × Env') := fun ρ => (mf ρ).bind fun x => .ok (.nx, x.2)
theorem S1.expr (he : SM X W e mf) (hs : swapsWith e none pos.line X.env = pure false := by rfl) : S1 X W prot (.Expr e pos) (sDrop mf) := ⟨PS.imp (ps_expr he.pe hs) fun D0 σ H ⟨F, ρ, s, q⟩ => ⟨F, ρ, s, on_imp (on_bind q) (fun x ex q v F1 H1 s1 r1 p1 => q σ F1 H1 s1 p1 (Fix.refl _ _)) fun _ _ _ q => q⟩⟩
theorem S1.pass : S1 X W prot (.Pass pos) sNil := ⟨PS.imp ps_pass fun D0 σ H ⟨F, ρ, s, q⟩ => q σ F H s (Stp.refl _ _ _ _) (Fix.refl _ _)⟩
def sBrk : Env' → Out (Fl × Env') := fun ρ => .ok (.brk, ρ)
def sCnt : Env' → Out (Fl × Env') := fun ρ => .ok (.cnt, ρ)
theorem S1.brk : S1 X W prot (.Break pos) sBrk := ⟨PS.imp ps_break fun D0 σ H ⟨F, ρ, s, q⟩ => q σ F H s (Stp.refl _ _ _ _) (Fix.refl _ _)⟩
theorem S1.cnt : S1 X W prot (.Continue pos) sCnt := ⟨PS.imp ps_continue fun D0 σ H ⟨F, ρ, s, q⟩ => q σ F H s (Stp.refl _ _ _ _) (Fix.refl _ _)⟩
def sBad : Env' → Out (Fl × Env') := fun _ => .bad
theorem S1.never {st : Stmt} : S1 X W prot st sBad := ⟨PS.imp ps_never fun D0 σ H ⟨F, ρ, s, q⟩ => q⟩
/-- x += e, ints -/
def sAug (i : Nat) (mf : Env' → Out (D × Env')) (o : Int → Int → Int) : Env' → Out (Fl × Env') := fun ρ => match ρ[i]? with
  | some (.val (.int a)) => (mf ρ).bind fun x => match x.1 with
    | .int c => .ok (.nx, x.2.set i (.val (.int (o a c))))
    | _ => .bad
  | _ => .bad
theorem S1.aug (i : Nat) {x : Str} {op : Operator} {o : Int → Int → Int} {pos' : Pos} (hN : X.N.Nodup) (he : SM X W e mf) (ho : PIp X op (ipI o)) (hp : i ∉ prot := by decide) (hi : X.N[i]? = some x := by rfl) (hx : Loc X.env.scope x := by first | exact Or.inl rfl | exact Or.inr rfl)
    (hf : X.fn x = true ∨ X.env.scope.names.lookup x = some .local := by first | exact .inl rfl | exact .inr rfl) : S1 X W prot (.AugAssign (.Name x pos') op e pos) (sAug i mf o) := ⟨PS.imp (ps_aug hN hi hx he.pe ho hf) fun D0 σ H ⟨F, ρ, s, q⟩ => by
  unfold sAug at q
  split at q
  · rename_i a ha
    obtain ⟨v, ev, r⟩ := s.val i _ ha
    refine ⟨v, ev, F, ρ, s, on_imp (on_bind q) (fun x ex q w F1 H1 s1 r1 p1 => ?_) fun _ _ _ q => q⟩
    obtain ⟨d, ρ1⟩ := x
    cases d <;> first | (exact q.elim) | skip
    exact ⟨_, _, rep_int r, rep_int r1, q _ F1 H1 (s1.setV mk_int i) (p1.trans (Stp.setV i)) (Fix.set hp)⟩
  · exact q.elim⟩

/-! ### owned lists -/
/-- x.append(e) -/
def sApp (i : Nat) (mf : Env' → Out (D × Env')) : Env' → Out (Fl × Env') := fun ρ => match ρ[i]? with
  | some (.own (.lst _)) => (mf ρ).bind fun x => match x.2[i]? with
    | some (.own (.lst xs)) => if xs.length < sizeLine then .ok (.nx, x.2.set i (.own (.lst (xs ++ [x.1])))) else .bad
    | _ => .bad
  | _ => .bad
theorem own_lst {K : Fr'} {F H : Hp} {σ : L2.St} {ρ : Env'} (s : St2 K F H σ ρ) {i : Nat} {xs : List D} (h : ρ[i]? = some (Cell.own (.lst xs))) : ∃ p vs, σ[i]? = some (some (V.ref p)) ∧ H p = some (.lst vs) ∧ Reps K F xs vs := by
  obtain ⟨p, o, e, ho, hn, vs, rfl, r⟩ := s.own i _ h
  exact ⟨p, vs, e, ho, r⟩
theorem S1.app (i : Nat) {x : Str} {p0 apos cpos : Pos} (he : SM X W e mf) (hN : X.N[i]? = some x := by rfl) (hv : Vis X.env.scope x := by first | exact Or.inl rfl | exact Or.inr (Or.inl rfl) | exact Or.inr (Or.inr rfl)) (hd : (x == ("__debug__" : Str)) = false := by decide)
    (hcd : (x == ("__classdict__" : Str)) = false := by decide)
    (hbase : attributeBase (.Name x p0) "append" X.env (eval (.Name x p0) X.env) = eval (.Name x p0) X.env := by rfl)
    (hfew : ((backTo cpos (starEach [e] X.env)).all (fun x => !x.1) && (backToKw cpos (keywordEach [] X.env)).all (fun x => x.1.isSome)
      && decide ([e].length + ([] : List Keyword).length + (if ([] : List Keyword).isEmpty then 0 else 1) < 30)) = true := by rfl)
    (hline : (apos.endLine == cpos.line) = true := by rfl) (hs : starEach [e] X.env = (false, eval e X.env) :: starEach [] X.env := by rfl) (hplain : (backTo cpos (starEach [] X.env)).any (·.1) = false := by rfl)
    (hsw : swapsWith (.Call (.Attribute (.Name x p0) "append" apos) [e] [] cpos) none pos.line X.env = pure false := by rfl) :
    S1 X W prot (.Expr (.Call (.Attribute (.Name x p0) "append" apos) [e] [] cpos) pos) (sApp i mf) := by
  refine ⟨PS.imp (ps_expr (pe_bm PySem.F.plainAttrs_list PySem.F.slot_list_append PySem.F.type_list_append mt_append (pe_var hN hv hd hcd) (pa_cons he.pe pa_nil hs) hbase hfew hline hs hplain) hsw) ?_⟩
  rintro D0 σ H ⟨F, ρ, s, q⟩
  unfold sApp at q
  split at q
  · rename_i xs0 hx
    obtain ⟨p, vs0, e1, ho, r0⟩ := own_lst s hx
    refine ⟨_, e1, .inl ⟨rfl, vs0, .inl (.inl ho)⟩, F, ρ, s, on_imp (on_bind q) (fun y ey q w F1 H1 s1 r1 p1 => ?_) fun _ _ _ q => q⟩
    split at q
    · rename_i xs hx1
      obtain ⟨p', vs, e2, ho1, r2⟩ := own_lst s1 hx1
      rw [e1] at e2
      cases e2
      split at q
      · rename_i hl
        have c2 : Co X.K F1 (.lst (xs ++ [y.1])) (.lst (vs ++ [w])) := ⟨_, rfl, reps_app r2 (mk_cons r1 mk_nil)⟩
        exact ⟨p, vs, w, rfl, rfl, ho1, by rw [reps_len r2]; exact hl, q σ F1 _ (s1.updO hx1 e1 c2) (p1.trans (Stp.updO s1 hx1 e1)) (Fix.refl _ _)⟩
      · exact q.elim
    · exact q.elim
  · exact q.elim
/-- x[k] = e -/
def sPut (i : Nat) (mf : Env' → Out (D × Env')) (g : Env' → Out D) : Env' → Out (Fl × Env') := fun ρ => (mf ρ).bind fun x => match x.2[i]? with
  | some (.own (.lst xs)) => (g x.2).bind fun k => match k with
    | .int j => match ixN xs.length j with
      | some n => .ok (.nx, x.2.set i (.own (.lst (xs.set n x.1))))
      | none => .bad
    | _ => .bad
  | _ => .bad
theorem S1.put (i : Nat) {x : Str} {k : Expr} {g : Env' → Out D} {p0 tpos : Pos} (he : SM X W e mf) (hk : SR false X W k g) (hN : X.N[i]? = some x := by rfl) (hv : Vis X.env.scope x := by first | exact Or.inl rfl | exact Or.inr (Or.inl rfl) | exact Or.inr (Or.inr rfl)) (hd : (x == ("__debug__" : Str)) = false := by decide)
    (hcd : (x == ("__classdict__" : Str)) = false := by decide)
    (ha : ∀ v, assign (.Subscript (.Name x p0) k tpos) X.env v = (do
      let ov ← holding [v] (eval (.Name x p0) X.env)
      let iv ← holding [v, ov] (eval k X.env)
      standAt tpos
      holding [v, ov, iv] (setItem ov iv v)
      release [v, ov, iv] []) := by intro _; rfl)
    (hs : swapsWithSole [.Subscript (.Name x p0) k tpos] e pos.line X.env = pure false := by rfl) (hw : swappedStores [.Subscript (.Name x p0) k tpos] e X.env = pure none := by rfl)
    (h1 : (assignEach [.Subscript (.Name x p0) k tpos] X.env).map (·.2) = [assign (.Subscript (.Name x p0) k tpos) X.env] := by rfl) :
    S1 X W prot (.Assign [.Subscript (.Name x p0) k tpos] e pos) (sPut i mf g) := by
  refine ⟨PS.imp (ps_asg he.pe (pg_sub (pe_var hN hv hd hcd) hk.pe set_list ha) hs hw h1) ?_⟩
  rintro D0 σ H ⟨F, ρ, s, q⟩
  refine ⟨F, ρ, s, on_imp (on_bind q) (fun y ey q w F1 H1 s1 r1 p1 => ?_) fun _ _ _ q => q⟩
  split at q
  · rename_i xs hx
    obtain ⟨p, vs, e2, ho, r2⟩ := own_lst s1 hx
    have lr : y.2.length = ρ.length := by rw [← s.len, ← s1.len]
    refine ⟨_, e2, F1, y.2, s1, on_stp p1 rfl lr (on_bind q) fun k' ek q v F2 H2 n2 rk => ?_⟩
    cases k' <;> first | (exact q.elim) | skip
    rename_i j
    dsimp only at q
    split at q
    · rename_i n hn
      have s2 := s1.new n2
      have r2' := Reps.mono n2.le _ _ r2
      have c2 : Co X.K F2 (.lst (xs.set n y.1)) (.lst (vs.set n w)) := ⟨_, rfl, reps_set (Rep.mono n2.le _ _ r1) n r2'⟩
      exact ⟨p, vs, j, n, rfl, rep_int rk, n2.kp _ _ ho, by rw [reps_len r2]; exact hn, q σ F2 _ (s2.updO hx e2 c2) ((p1.trans (n2.stp σ y.2)).trans (Stp.updO s2 hx e2)) (Fix.refl _ _)⟩
    · exact q.elim
  · exact q.elim
end
end VL

/-! V10: what loops walk; for; while. -/
namespace VL
open PySem PySem.Spec L2

/-- frozen things stand just as they stood -/
def Kept (F0 H0 H : Hp) : Prop := ∀ b o, F0 b ≠ none → H0 b = some o → H b = some o
structure ItOk (K : Fr') (F0 H0 : Hp) (J : It) (xs : List D) : Prop where
  go : ∀ F H i, Le F0 F → Le F H → Kept F0 H0 H → i < xs.length → J.go i H
  stop : ∀ F H i, Le F0 F → Le F H → Kept F0 H0 H → xs.length ≤ i → J.stop i H
  yld : ∀ F H i d v H', Le F0 F → Le F H → Kept F0 H0 H → xs[i]? = some d → J.yld i H v H' → ∃ F', New F H F' H' ∧ Rep K F' d v
theorem it_list {K : Fr'} {F H0 : Hp} {a : Addr} {vs : List V} {xs : List D} (h : SqL K F a vs) (r : Reps K F xs vs) : ItOk K F H0 (Itl K a) xs where
  go := fun G H i l l2 _ hi => by
    have hv : i < vs.length := by rw [reps_len r]; exact hi
    exact ⟨vs, vs[i], l2.seqL (l.seqL h), List.getElem?_eq_getElem hv⟩
  stop := fun G H i l l2 _ hi => ⟨vs, l2.seqL (l.seqL h), by rw [reps_len r]; exact hi⟩
  yld := fun G H i d v H' l l2 _ hd y => by
    obtain ⟨rfl, y⟩ := y
    obtain ⟨w, hw, rw'⟩ := reps_get r hd
    have e := (y vs (l2.seqL (l.seqL h))).symm.trans hw
    cases e
    exact ⟨G, New.refl l2, Rep.mono l _ _ rw'⟩
theorem it_tup {K : Fr'} {F H0 : Hp} {a : Addr} {vs : List V} {xs : List D} (h : SqT K F a vs) (r : Reps K F xs vs) : ItOk K F H0 (Itt K a) xs where
  go := fun G H i l l2 _ hi => by
    have hv : i < vs.length := by rw [reps_len r]; exact hi
    exact ⟨vs, vs[i], l2.seqT (l.seqT h), List.getElem?_eq_getElem hv⟩
  stop := fun G H i l l2 _ hi => ⟨vs, l2.seqT (l.seqT h), by rw [reps_len r]; exact hi⟩
  yld := fun G H i d v H' l l2 _ hd y => by
    obtain ⟨rfl, y⟩ := y
    obtain ⟨w, hw, rw'⟩ := reps_get r hd
    have e := (y vs (l2.seqT (l.seqT h))).symm.trans hw
    cases e
    exact ⟨G, New.refl l2, Rep.mono l _ _ rw'⟩
def signsD (x : Str) : List D := x.cps.toList.map fun c => .str ⟨#[c]⟩
theorem it_str {K : Fr'} {F H0 : Hp} {x : Str} : ItOk K F H0 (Its x) (signsD x) where
  go := fun G H i l l2 _ hi => by
    show i < x.cps.size
    unfold signsD at hi
    rw [List.length_map, Array.length_toList] at hi
    exact hi
  stop := fun G H i l l2 _ hi => by
    show x.cps.size ≤ i
    unfold signsD at hi
    rw [List.length_map, Array.length_toList] at hi
    exact hi
  yld := fun G H i d v H' l l2 _ hd y => by
    obtain ⟨rfl, c, hc, rfl⟩ := y
    unfold signsD at hd
    rw [List.getElem?_map, Array.getElem?_toList, hc] at hd
    cases hd
    exact ⟨G, New.refl l2, mk_str⟩
def rngD (lo : Int) (n : Nat) : List D := (List.range n).map fun (i : Nat) => .int (lo + i)
theorem it_rng {K : Fr'} {F H0 : Hp} {lo : Int} {n : Nat} : ItOk K F H0 (Itr lo n) (rngD lo n) where
  go := fun G H i l l2 _ hi => by
    unfold rngD at hi
    rw [List.length_map, List.length_range] at hi
    exact hi
  stop := fun G H i l l2 _ hi => by
    unfold rngD at hi
    rw [List.length_map, List.length_range] at hi
    exact hi
  yld := fun G H i d v H' l l2 _ hd y => by
    obtain ⟨rfl, rfl⟩ := y
    unfold rngD at hd
    rw [List.getElem?_map] at hd
    cases q : (List.range n)[i]? with
    | none => rw [q] at hd; cases hd
    | some j =>
      rw [q] at hd
      have hj : j = i := by
        obtain ⟨h1, h2⟩ := List.getElem?_eq_some_iff.mp q
        rw [List.getElem_range] at h2
        exact h2.symm
      subst hj
      cases hd
      exact ⟨G, New.refl l2, mk_int⟩

/-! ### iterables -/
def iR (K : Fr') (mg : MG) (W : WX) (b : Bool) (f : Env' → Out (List D)) : TI := fun σ H R => ∃ F ρ, St2 K F H σ ρ ∧ (f ρ).on (fun xs => ∀ J F' H', New F H F' H' → ItOk K (bs b F' H' σ ρ) H' J xs → R J H') (ExM mg W σ ρ F H)
def iM (K : Fr') (mg : MG) (W : WX) (f : Env' → Out (List D × Env')) : TI := fun σ H R => ∃ F ρ, St2 K F H σ ρ ∧ (f ρ).on (fun p => ∀ J F' H', St2 K F' H' σ p.2 → Stp σ ρ F H σ p.2 F' H' → ItOk K F' H' J p.1 → R J H') (ExM mg W σ ρ F H)
structure SI (b : Bool) (X : Cx) (W : WX) (tg it : Expr) (f : Env' → Out (List D)) : Prop where
  pi : PI X tg it (iR X.K X.mg W b f)
structure SIM (X : Cx) (W : WX) (tg it : Expr) (f : Env' → Out (List D × Env')) : Prop where
  pi : PI X tg it (iM X.K X.mg W f)
section
variable {b : Bool} {X : Cx} {W : WX} {tg it : Expr} {f : Env' → Out D} {mf : Env' → Out (D × Env')} {pos p : Pos}
theorem PI.imp {wi wi' : TI} (h : PI X tg it wi) (k : ∀ σ H R, wi' σ H R → wi σ H R) : PI X tg it wi' := ⟨fun pins s σ H R I q => h.run pins s σ H R I (k _ _ _ q)⟩
theorem PI.or {wi wi' : TI} (h : PI X tg it wi) (h' : PI X tg it wi') : PI X tg it (fun σ H R => wi σ H R ∨ wi' σ H R) := ⟨fun pins s σ H R I q => q.elim (h.run pins s σ H R I) (h'.run pins s σ H R I)⟩
def seqD : D → Out (List D)
  | .lst xs => .ok xs
  | .tup xs => .ok xs
  | .str x => .ok (signsD x)
  | _ => .bad
def iSeq (f : Env' → Out D) : Env' → Out (List D) := fun ρ => (f ρ).bind seqD
theorem SI.seq (h : SR b X W it f) : SI b X W tg it (iSeq f) := ⟨PI.imp (PI.or (pi_list h.pe) (PI.or (pi_tup h.pe) (pi_str h.pe))) fun σ H R ⟨F, ρ, s, q⟩ => by
  cases e : f ρ with
  | bad => unfold iSeq at q; rw [e] at q; exact q.elim
  | exc c fs =>
    unfold iSeq at q
    rw [e] at q
    refine .inl ⟨F, ρ, s, ?_⟩
    rw [e]
    exact q
  | ok d =>
    unfold iSeq at q
    rw [e] at q
    cases d <;> first | (exact q.elim) | skip
    · refine .inr (.inr ⟨F, ρ, s, ?_⟩)
      rw [e]
      exact fun v F' H' n r => ⟨_, rep_str r, q _ F' H' n it_str⟩
    · refine .inr (.inl ⟨F, ρ, s, ?_⟩)
      rw [e]
      intro v F' H' n r
      obtain ⟨a, vs, rfl, h1, r1⟩ := rep_tup r
      exact ⟨a, rfl, ⟨vs, (s.new n).bs_le.seqT h1⟩, q _ F' H' n (it_tup h1 r1)⟩
    · refine .inl ⟨F, ρ, s, ?_⟩
      rw [e]
      intro v F' H' n r
      obtain ⟨a, vs, rfl, h1, r1⟩ := rep_lst r
      exact ⟨a, rfl, ⟨vs, (s.new n).bs_le.seqL h1⟩, q _ F' H' n (it_list h1 r1)⟩⟩
def iMseq (f : Env' → Out (D × Env')) : Env' → Out (List D × Env') := fun ρ => (f ρ).bind fun x => (seqD x.1).bind fun xs => .ok (xs, x.2)
theorem SIM.seq (h : SM X W it mf) : SIM X W tg it (iMseq mf) := ⟨PI.imp (PI.or (pi_list h.pe) (PI.or (pi_tup h.pe) (pi_str h.pe))) fun σ H R ⟨F, ρ, s, q⟩ => by
  cases e : mf ρ with
  | bad => unfold iMseq at q; rw [e] at q; exact q.elim
  | exc c fs =>
    unfold iMseq at q
    rw [e] at q
    refine .inl ⟨F, ρ, s, ?_⟩
    rw [e]
    exact q
  | ok x =>
    unfold iMseq at q
    rw [e] at q
    obtain ⟨d, ρ1⟩ := x
    cases d <;> first | (exact q.elim) | skip
    · refine .inr (.inr ⟨F, ρ, s, ?_⟩)
      rw [e]
      exact fun v F' H' s' r p => ⟨_, rep_str r, q _ F' H' s' p it_str⟩
    · refine .inr (.inl ⟨F, ρ, s, ?_⟩)
      rw [e]
      intro v F' H' s' r p
      obtain ⟨a, vs, rfl, h1, r1⟩ := rep_tup r
      exact ⟨a, rfl, ⟨vs, s'.le.seqT h1⟩, q _ F' H' s' p (it_tup h1 r1)⟩
    · refine .inl ⟨F, ρ, s, ?_⟩
      rw [e]
      intro v F' H' s' r p
      obtain ⟨a, vs, rfl, h1, r1⟩ := rep_lst r
      exact ⟨a, rfl, ⟨vs, s'.le.seqL h1⟩, q _ F' H' s' p (it_list h1 r1)⟩⟩
/-- a frozen iterable, in a changing place -/
def iOf (f : Env' → Out (List D)) : Env' → Out (List D × Env') := fun ρ => (f ρ).bind fun xs => .ok (xs, ρ)
theorem SI.m {f : Env' → Out (List D)} (h : SI false X W tg it f) : SIM X W tg it (iOf f) := ⟨PI.imp h.pi fun σ H R ⟨F, ρ, s, q⟩ => ⟨F, ρ, s, on_imp (on_bind q) (fun xs ex q J F' H' n i => q J F' H' (s.new n) (n.stp σ ρ) i) fun _ _ _ q => q⟩⟩
/-- range(n), range(a, b) -/
def okR (j : Int) : Bool := decide (-(2 ^ 62) ≤ j) && decide (j < 2 ^ 62)
def gR1 : List D → Out (List D)
  | [.int j] => if okR j = true then .ok (rngD 0 j.toNat) else .bad
  | _ => .bad
def gR2 : List D → Out (List D)
  | [.int i, .int j] => if okR i = true ∧ okR j = true then .ok (rngD i (j - i).toNat) else .bad
  | _ => .bad
theorem okR_of {j : Int} (h : okR j = true) : -(2 ^ 62) ≤ j ∧ j < 2 ^ 62 := by
  unfold okR at h
  rw [Bool.and_eq_true] at h
  exact ⟨of_decide_eq_true h.1, of_decide_eq_true h.2⟩
def iRng (fs : Env' → Out (List D)) (g : List D → Out (List D)) : Env' → Out (List D) := fun ρ => (fs ρ).bind g
theorem SI.rng1 {a : Expr} {fs : Env' → Out (List D)} (hg : Gl X "range") (hm : X.mg "range" = none) (ha : SRs b X W [a] fs) (hs : starEach [a] X.env = [(false, eval a X.env)] := by rfl) : SI b X W tg (.Call (.Name "range" p) [a] [] pos) (iRng fs gR1) :=
  ⟨PI.imp (pi_range1 hg hm ha.pe hs) fun σ H R ⟨F, ρ, s, q⟩ => ⟨F, ρ, s, on_imp (on_bind q) (fun ds ed q vs F' H' n r => by
    unfold gR1 at q
    split at q
    · split at q
      · rename_i c
        obtain ⟨v, rfl, r1⟩ := reps1 r
        rw [rep_int r1]
        exact ⟨_, rfl, (okR_of c).1, (okR_of c).2, q _ F' H' n it_rng⟩
      · exact q.elim
    · exact q.elim) fun _ _ _ q => q⟩⟩
theorem SI.rng2 {a c : Expr} {fs : Env' → Out (List D)} (hg : Gl X "range") (hm : X.mg "range" = none) (ha : SRs b X W [a, c] fs) (hs : starEach [a, c] X.env = [(false, eval a X.env), (false, eval c X.env)] := by rfl) (hs2 : starEach [c] X.env = [(false, eval c X.env)] := by rfl) : SI b X W tg (.Call (.Name "range" p) [a, c] [] pos) (iRng fs gR2) :=
  ⟨PI.imp (pi_range2 hg hm ha.pe hs hs2) fun σ H R ⟨F, ρ, s, q⟩ => ⟨F, ρ, s, on_imp (on_bind q) (fun ds ed q vs F' H' n r => by
    unfold gR2 at q
    split at q
    · split at q
      · rename_i c
        obtain ⟨v, w, rfl, r1, r2⟩ := reps2 r
        rw [rep_int r1, rep_int r2]
        have c1 := okR_of c.1
        have c2 := okR_of c.2
        exact ⟨_, _, rfl, ⟨c1.1, c1.2, c2.1, c2.2⟩, q _ F' H' n it_rng⟩
      · exact q.elim
    · exact q.elim) fun _ _ _ q => q⟩⟩
/-- range in a changing place: its argument draws -/
def iMrng (ms : Env' → Out (List D × Env')) (g : List D → Out (List D)) : Env' → Out (List D × Env') := fun ρ => (ms ρ).bind fun x => (noX (g x.1)).bind fun xs => .ok (xs, x.2)
theorem SIM.rng1 {a : Expr} {ms : Env' → Out (List D × Env')} (hg : Gl X "range") (hm : X.mg "range" = none) (ha : SMs X W [a] ms) (hs : starEach [a] X.env = [(false, eval a X.env)] := by rfl) : SIM X W tg (.Call (.Name "range" p) [a] [] pos) (iMrng ms gR1) :=
  ⟨PI.imp (pi_range1 hg hm ha.pe hs) fun σ H R ⟨F, ρ, s, q⟩ => ⟨F, ρ, s, on_imp (on_bind q) (fun x ex q vs F' H' s' r p => by
    obtain ⟨ds, ρ1⟩ := x
    dsimp only at r
    obtain ⟨xs, exs, q⟩ := noX_on (on_bind q)
    dsimp only at exs
    unfold gR1 at exs
    split at exs
    · split at exs
      · rename_i c
        cases exs
        obtain ⟨v, rfl, r1⟩ := reps1 r
        rw [rep_int r1]
        exact ⟨_, rfl, (okR_of c).1, (okR_of c).2, q _ F' H' s' p it_rng⟩
      · cases exs
    · cases exs) fun _ _ _ q => q⟩⟩
end

/-! ### for -/
def forL (g : D → Env' → Out Env') (f : Env' → Out (Fl × Env')) : List D → Env' → Out (Fl × Env')
  | [], ρ => .ok (.nx, ρ)
  | x :: xs, ρ => (noX (g x ρ)).bind fun ρ1 => (f ρ1).bind fun p => match p.1 with
    | .nx => forL g f xs p.2
    | .cnt => forL g f xs p.2
    | .brk => .ok (.nx, p.2)
    | .ret d => .ok (.ret d, p.2)
    | .new d => .ok (.new d, p.2)
def sFor (it : Env' → Out (List D × Env')) (g : D → Env' → Out Env') (f : Env' → Out (Fl × Env')) : Env' → Out (Fl × Env') := fun ρ => (it ρ).bind fun x => forL g f x.1 x.2
section
variable {X : Cx} {W : WX} {prot sl : List Nat} {tg it : Expr} {body : List Stmt} {fi : Env' → Out (List D × Env')} {g : D → Env' → Out Env'} {f : Env' → Out (Fl × Env')} {pos : Pos}
theorem Stp.kept {σ σ1 : L2.St} {ρ ρ1 : Env'} {K : Fr'} {F0 F F1 H0 H H1 : Hp} (s : St2 K F H σ ρ) (l : Le F0 F) (k : Kept F0 H0 H) (p : Stp σ ρ F H σ1 ρ1 F1 H1) : Kept F0 H0 H1 := fun b o hb h0 => p.kp b o (k b o hb h0) fun w => by
  have := l.some hb
  exact this (s.owned_none w)
theorem drop_cons {α : Type} {xs : List α} {i : Nat} (h : i < xs.length) : xs.drop i = xs[i] :: xs.drop (i + 1) := List.drop_eq_getElem_cons h
theorem S1.forS (hp : PassesOwn (model X.prog X.w) X.A X.env X.xe) (hc : X.calm = true) (hi : SIM X W tg it fi) (hg : SG X sl tg g) (hb : SS X W prot body f) (dj : ∀ i, i ∈ prot → i ∉ sl := by decide)
    (hs : ∀ x, foldedSetIterable it X.env x = pure x := by intro _; rfl) : S1 X W prot (.For tg it body [] pos) (sFor fi g f) := by
  refine ⟨PS.imp (ps_for hp hc hi.pi hg.pg hb.ps hs) ?_⟩
  rintro D0 σ H ⟨F, ρ, s, q⟩
  refine ⟨F, ρ, s, on_imp (on_bind q) (fun x ex q J F0 H0 s0 p0 it => ?_) fun _ _ _ q => q⟩
  obtain ⟨xs, ρ0⟩ := x
  have lr : ρ0.length = ρ.length := by rw [← s.len, ← s0.len]
  -- the wanted end
  let PP : Fl × Env' → Prop := fun p => ∀ σ' F' H', St2 X.K F' H' σ' p.2 → Stp σ ρ F H σ' p.2 F' H' → Fix prot σ σ' → EndsF X.K D0 σ' F' H' p.1
  refine ⟨fun i m σ1 H1 => m = xs.length - i ∧ i ≤ xs.length ∧ ∃ F1 ρ1, St2 X.K F1 H1 σ1 ρ1 ∧ Stp σ ρ F H σ1 ρ1 F1 H1 ∧ Fix prot σ σ1 ∧ Le F0 F1 ∧ Kept F0 H0 H1 ∧ (forL g f (xs.drop i) ρ1).on PP (ExM X.mg W σ1 ρ1 F1 H1),
    ⟨xs.length, by omega, Nat.zero_le _, F0, ρ0, s0, p0, Fix.refl _ _, Le.refl _, fun _ _ _ h => h, on_stp p0 rfl lr q fun _ _ q => q⟩, ?_⟩
  rintro i m σ1 H1 ⟨rfl, hi, F1, ρ1, s1, p1, fx1, l1, k1, q1⟩
  by_cases hlt : i < xs.length
  · rw [drop_cons hlt] at q1
    refine .inr ⟨it.go F1 H1 i l1 s1.le k1 hlt, fun σ2 H2 => i + 1 ≤ xs.length ∧ ∃ F2 ρ2, St2 X.K F2 H2 σ2 ρ2 ∧ Stp σ ρ F H σ2 ρ2 F2 H2 ∧ Fix prot σ σ2 ∧ Le F0 F2 ∧ Kept F0 H0 H2 ∧ (forL g f (xs.drop (i + 1)) ρ2).on PP (ExM X.mg W σ2 ρ2 F2 H2),
      fun σ2 H2 h2 => ⟨xs.length - (i + 1), by omega, rfl, h2⟩, fun v H2 hy => ?_⟩
    obtain ⟨F2, n2, r2⟩ := it.yld F1 H1 i xs[i] v H2 l1 s1.le k1 (List.getElem?_eq_getElem hlt) hy
    have s2 := s1.new n2
    obtain ⟨ρ3, e3, q3⟩ := noX_on (on_bind q1)
    refine ⟨F2, ρ1, _, s2, r2, ?_⟩
    rw [e3]
    intro σ3 s3 o3 w3
    have p3 : Stp σ1 ρ1 F1 H1 σ3 ρ3 F2 H2 := (n2.stp σ1 ρ1).trans ⟨Le.refl _, fun _ _ h _ => h, fun _ h => .inl h, fun b h => .inl (w3 b h), fun _ h => h⟩
    have fx3 : Fix prot σ σ3 := fx1.trans (o3.fix dj)
    have lr3 : ρ3.length = ρ1.length := by rw [← s1.len, ← s3.len, o3.1]
    have k3 : Kept F0 H0 H2 := Stp.kept s1 l1 k1 (n2.stp σ1 ρ1)
    refine ⟨F2, ρ3, s3, on_stp p3 o3.1 lr3 (on_bind q3) fun p ep q σ4 F4 H4 s4 p4 fx4 => ?_⟩
    obtain ⟨fl, ρ4⟩ := p
    have lr4 : ρ4.length = ρ1.length := by rw [← s1.len, ← s4.len, fx4.1, o3.1]
    have p04 := (p1.trans p3).trans p4
    have k4 : Kept F0 H0 H4 := Stp.kept s3 (l1.trans n2.le) k3 p4
    have l4 : Le F0 F4 := (l1.trans n2.le).trans p4.le
    cases fl with
    | nx => exact ⟨hlt, F4, ρ4, s4, p04, fx3.trans fx4, l4, k4, on_stp (p3.trans p4) (fx4.1.trans o3.1) lr4 q fun _ _ q => q⟩
    | cnt => exact ⟨hlt, F4, ρ4, s4, p04, fx3.trans fx4, l4, k4, on_stp (p3.trans p4) (fx4.1.trans o3.1) lr4 q fun _ _ q => q⟩
    | brk => exact q σ4 F4 H4 s4 p04 (fx3.trans fx4)
    | ret d => exact q σ4 F4 H4 s4 p04 (fx3.trans fx4)
    | new d => exact q σ4 F4 H4 s4 p04 (fx3.trans fx4)
  · have e : i = xs.length := by omega
    subst e
    rw [List.drop_length] at q1
    exact .inl ⟨it.stop F1 H1 _ l1 s1.le k1 (Nat.le_refl _), q1 σ1 F1 H1 s1 p1 fx1⟩

/-! ### while -/
def whileL (c : Env' → Out (Bool × Env')) (f : Env' → Out (Fl × Env')) : Nat → Env' → Out (Fl × Env')
  | 0, _ => .bad
  | n + 1, ρ => (c ρ).bind fun t => if t.1 = true then (f t.2).bind fun p => match p.1 with
      | .nx => whileL c f n p.2
      | .cnt => whileL c f n p.2
      | .brk => .ok (.nx, p.2)
      | .ret d => .ok (.ret d, p.2)
      | .new d => .ok (.new d, p.2)
    else .ok (.nx, t.2)
theorem S1.whileS {c : Expr} {tc : Env' → Out (Bool × Env')} (n : Nat) (hp : PassesOwn (model X.prog X.w) X.A X.env X.xe) (hc : SMT X W c tc) (hb : SS X W prot body f) : S1 X W prot (.While c body [] pos) (whileL tc f n) := by
  refine ⟨PS.imp (ps_while hp hc.pe hb.ps) ?_⟩
  rintro D0 σ H ⟨F, ρ, s, q⟩
  let PP : Fl × Env' → Prop := fun p => ∀ σ' F' H', St2 X.K F' H' σ' p.2 → Stp σ ρ F H σ' p.2 F' H' → Fix prot σ σ' → EndsF X.K D0 σ' F' H' p.1
  refine ⟨fun m σ1 H1 => ∃ F1 ρ1, St2 X.K F1 H1 σ1 ρ1 ∧ Stp σ ρ F H σ1 ρ1 F1 H1 ∧ Fix prot σ σ1 ∧ (whileL tc f m ρ1).on PP (ExM X.mg W σ1 ρ1 F1 H1),
    ⟨n, F, ρ, s, Stp.refl _ _ _ _, Fix.refl _ _, q⟩, ?_⟩
  rintro m σ1 H1 ⟨F1, ρ1, s1, p1, fx1, q1⟩
  cases m with
  | zero => exact q1.elim
  | succ m =>
    refine ⟨F1, ρ1, s1, on_imp (on_bind q1) (fun t et q F2 H2 s2 p2 => ?_) fun _ _ _ q => q⟩
    have lr2 : t.2.length = ρ1.length := by rw [← s1.len, ← s2.len]
    by_cases w : t.1 = true
    · rw [if_pos w] at q
      dsimp only
      rw [if_pos w]
      refine ⟨fun σ2 H2 => ∃ F1 ρ1, St2 X.K F1 H2 σ2 ρ1 ∧ Stp σ ρ F H σ2 ρ1 F1 H2 ∧ Fix prot σ σ2 ∧ (whileL tc f m ρ1).on PP (ExM X.mg W σ2 ρ1 F1 H2), fun σ2 H2 h2 => ⟨m, Nat.lt_succ_self m, h2⟩, F2, t.2, s2, on_stp p2 rfl lr2 (on_bind q) fun p ep q σ4 F4 H4 s4 p4 fx4 => ?_⟩
      obtain ⟨fl, ρ4⟩ := p
      have lr4 : ρ4.length = ρ1.length := by rw [← s1.len, ← s4.len, fx4.1]
      have p04 := (p1.trans p2).trans p4
      cases fl with
      | nx => exact ⟨F4, ρ4, s4, p04, fx1.trans fx4, on_stp (p2.trans p4) fx4.1 lr4 q fun _ _ q => q⟩
      | cnt => exact ⟨F4, ρ4, s4, p04, fx1.trans fx4, on_stp (p2.trans p4) fx4.1 lr4 q fun _ _ q => q⟩
      | brk => exact q σ4 F4 H4 s4 p04 (fx1.trans fx4)
      | ret d => exact q σ4 F4 H4 s4 p04 (fx1.trans fx4)
      | new d => exact q σ4 F4 H4 s4 p04 (fx1.trans fx4)
    · rw [if_neg w] at q
      dsimp only
      rw [if_neg w]
      exact q σ1 F2 H2 s2 (p1.trans p2) fx1
end
end VL

/-! V11: comprehensions. -/
namespace VL
open PySem PySem.Spec L2

/-! ### what is owned may be read: all of it is taken as frozen for the while -/
def frzC : Cell → Cell
  | .own d => .val d
  | c => c
def frzA (ρ : Env') : Env' := ρ.map frzC
theorem St2.all {K : Fr'} {F H : Hp} {σ : L2.St} {ρ : Env'} (s : St2 K F H σ ρ) : St2 K (snap F H σ ρ) H σ (frzA ρ) where
  le := s.snap_le
  len := by unfold frzA; rw [List.length_map]; exact s.len
  val := fun i d h => by
    unfold frzA at h
    rw [List.getElem?_map] at h
    cases q : ρ[i]? with
    | none => rw [q] at h; cases h
    | some c =>
      rw [q] at h
      cases c with
      | emp => cases h
      | val e =>
        cases h
        obtain ⟨v, e1, r⟩ := s.val i _ q
        exact ⟨v, e1, Rep.mono s.le_snap _ _ r⟩
      | own e =>
        cases h
        obtain ⟨p, o, e1, ho, hn, c⟩ := s.own i _ q
        exact ⟨_, e1, Co.rep s.le_snap c (by rw [snap_own ⟨i, _, q, e1⟩]; exact ho)⟩
  own := fun i d h => by
    unfold frzA at h
    rw [List.getElem?_map] at h
    cases q : ρ[i]? with
    | none => rw [q] at h; cases h
    | some c => rw [q] at h; cases c <;> cases h
  sep := fun i j p d e _ h => by
    unfold frzA at h
    rw [List.getElem?_map] at h
    cases q : ρ[i]? with
    | none => rw [q] at h; cases h
    | some c => rw [q] at h; cases c <;> cases h
theorem emps_frz (ρ : Env') : emps (frzA ρ) = emps ρ := by unfold emps frzA; rw [List.length_map]
theorem ExM.all {K : Fr'} {mg : MG} {W : WX} {F H : Hp} {σ : L2.St} {ρ : Env'} {c : Str} {fs : List D} (s : St2 K F H σ ρ) (x : ExM mg W σ ρ F H c fs) : ExM mg W σ (frzA ρ) (snap F H σ ρ) H c fs := fun cls xd σ' F' H' l hl sp r => by
  refine x cls xd σ' F' H' l hl ⟨s.le_snap.trans sp.le, fun b o h n => sp.kp b o h fun ⟨i, d, h1, h2⟩ => ?_, fun b h => ?_, fun b h => absurd h emps_owned, sp.al⟩ r
  · obtain ⟨p, o', e, ho, hn, c⟩ := s.all.own i d h1
    unfold frzA at h1
    rw [List.getElem?_map] at h1
    cases q : ρ[i]? with
    | none => rw [q] at h1; cases h1
    | some c => rw [q] at h1; cases c <;> cases h1
  · rcases sp.fr b h with h | h | ⟨i, d, h1, h2⟩
    · by_cases w : Owned σ ρ b
      · exact .inr (.inr w)
      · rw [snap_not w] at h
        exact .inl h
    · exact .inr (.inl h)
    · unfold frzA at h1
      rw [List.getElem?_map] at h1
      cases q : ρ[i]? with
      | none => rw [q] at h1; cases h1
      | some c => rw [q] at h1; cases c <;> cases h1
section
variable {X : Cx} {W : WX} {e : Expr}
def brw {α : Type} (f : Env' → Out α) : Env' → Out α := fun ρ => f (frzA ρ)
theorem SR.borrow {f : Env' → Out D} (h : SR false X W e f) : SR true X W e (brw f) := SR.imp h.pe fun σ H Q ⟨F, ρ, s, q⟩ => ⟨_, _, s.all, on_imp q (fun d ed q v F' H' n r => by
  have n2 := s.snew n
  exact q v _ H' n2.1 (Rep.mono n2.2 _ _ r)) fun _ _ _ q => ExM.all s q⟩
theorem SO.borrow {f : Env' → Out D} (h : SO false X W e f) : SO true X W e (brw f) := SO.imp h.pe fun σ H Q ⟨F, ρ, s, q⟩ => ⟨_, _, s.all, on_imp q (fun d ed q p o F' H' n hp c => by
  have n2 := s.snew n
  exact q p o _ H' n2.1 hp (Co.mono n2.2 c)) fun _ _ _ q => ExM.all s q⟩
theorem SRT.borrow {f : Env' → Out Bool} (h : SRT X W e f) : SRT X W e (brw f) := ⟨PT.imp h.pe fun σ H Q ⟨F, ρ, s, q⟩ => ⟨_, _, s.all, on_imp q (fun d ed q F' H' n => q _ H' (s.snew n).1) fun _ _ _ q => ExM.all s q⟩⟩
end

/-! ### a comprehension's own places -/
def wipeE (ρ : Env') : List Nat → Env'
  | [] => ρ
  | v :: vs => (wipeE ρ vs).set v .emp
theorem wipeE_len (ρ : Env') : ∀ vs : List Nat, (wipeE ρ vs).length = ρ.length
  | [] => rfl
  | v :: vs => by unfold wipeE; rw [List.length_set, wipeE_len ρ vs]
theorem wipe_out {σ : L2.St} {j : Nat} : ∀ {vs : List Nat}, j ∉ vs → (wipe σ vs)[j]? = σ[j]?
  | [], _ => rfl
  | v :: vs, h => by
    unfold wipe
    rw [set_ne fun z => h (by rw [z]; exact List.mem_cons_self)]
    exact wipe_out fun z => h (List.mem_cons_of_mem _ z)
theorem wipeE_out {ρ : Env'} {j : Nat} : ∀ {vs : List Nat}, j ∉ vs → (wipeE ρ vs)[j]? = ρ[j]?
  | [], _ => rfl
  | v :: vs, h => by
    unfold wipeE
    rw [set_ne fun z => h (by rw [z]; exact List.mem_cons_self)]
    exact wipeE_out fun z => h (List.mem_cons_of_mem _ z)
theorem wipe_in {σ : L2.St} {j : Nat} : ∀ {vs : List Nat}, j ∈ vs → j < σ.length → (wipe σ vs)[j]? = some none
  | [], h, _ => nomatch h
  | v :: vs, h, hl => by
    unfold wipe
    by_cases e : j = v
    · subst e
      exact set_eq (by rw [wipe_length]; exact hl)
    · rw [set_ne e]
      exact wipe_in ((List.mem_cons.mp h).resolve_left e) hl
theorem wipeE_in {ρ : Env'} {j : Nat} {c : Cell} : ∀ {vs : List Nat}, j ∈ vs → (wipeE ρ vs)[j]? = some c → c = .emp
  | [], h, _ => nomatch h
  | v :: vs, h, hc => by
    unfold wipeE at hc
    rcases at_set hc with ⟨_, _, e⟩ | ⟨hj, hc⟩
    · exact e
    · exact wipeE_in ((List.mem_cons.mp h).resolve_left hj) hc
theorem wipe_eq {σ σ2 : L2.St} {sl vs : List Nat} (o : Only sl (wipe σ vs) σ2) (h : ∀ i, i ∈ sl → i ∈ vs) : wipe σ2 vs = wipe σ vs := by
  apply List.ext_getElem?
  intro j
  have hl : σ2.length = σ.length := by rw [o.1, wipe_length]
  by_cases hj : j ∈ vs
  · by_cases hb : j < σ.length
    · rw [wipe_in hj (by rw [hl]; exact hb), wipe_in hj hb]
    · rw [List.getElem?_eq_none (by rw [wipe_length, hl]; omega), List.getElem?_eq_none (by rw [wipe_length]; omega)]
  · rw [wipe_out hj, o.2 j fun z => hj (h j z)]
section
variable {K : Fr'} {F F' H H' : Hp} {σ σ2 : L2.St} {ρ ρ2 : Env'} {vs : List Nat}
theorem wipeE_at {j : Nat} {c : Cell} (h : (wipeE ρ vs)[j]? = some c) (hc : c ≠ .emp) : j ∉ vs ∧ ρ[j]? = some c := by
  by_cases hj : j ∈ vs
  · exact absurd (wipeE_in hj h) hc
  · exact ⟨hj, by rw [← wipeE_out hj]; exact h⟩
theorem St2.wipe (s : St2 K F H σ ρ) (vs : List Nat) : St2 K F H (wipe σ vs) (wipeE ρ vs) where
  le := s.le
  len := by rw [wipe_length, wipeE_len]; exact s.len
  val := fun i d h => by
    obtain ⟨hi, h⟩ := wipeE_at h (fun z => nomatch z)
    rw [wipe_out hi]
    exact s.val i d h
  own := fun i d h => by
    obtain ⟨hi, h⟩ := wipeE_at h (fun z => nomatch z)
    rw [wipe_out hi]
    exact s.own i d h
  sep := fun i j p d e hij h1 h2 h3 => by
    obtain ⟨hi, h1⟩ := wipeE_at h1 (fun z => nomatch z)
    obtain ⟨hj, h2⟩ := wipeE_at h2 (fun z => nomatch z)
    rw [wipe_out hi] at h3
    rw [wipe_out hj]
    exact s.sep i j p d e hij h1 h2 h3
theorem owned_wipe {b : Addr} (h : Owned (wipe σ vs) (wipeE ρ vs) b) : Owned σ ρ b := by
  obtain ⟨i, d, h1, h2⟩ := h
  obtain ⟨hi, h1⟩ := wipeE_at h1 (fun z => nomatch z)
  rw [wipe_out hi] at h2
  exact ⟨i, d, h1, h2⟩
/-- an object outside all of this changes -/
theorem St2.side (s : St2 K F H σ ρ) {D : Addr} {o : HO} (h : F D = none) (h2 : ¬ Owned σ ρ D) : St2 K F (upd H D o) σ ρ where
  le := s.le.updR h
  len := s.len
  val := s.val
  own := fun i d hi => by
    obtain ⟨p, u, e, ho, hn, c⟩ := s.own i d hi
    refine ⟨p, u, e, ?_, hn, c⟩
    rw [upd_ne fun (z : p = D) => h2 ⟨i, d, hi, by rw [← z]; exact e⟩]
    exact ho
  sep := s.sep
end
def del (H : Hp) (D : Addr) : Hp := fun b => if b = D then none else H b
theorem del_same {H : Hp} {D : Addr} : del H D D = none := by unfold del; rw [if_pos rfl]
theorem del_ne {H : Hp} {D b : Addr} (h : b ≠ D) : del H D b = H b := by unfold del; rw [if_neg h]
theorem del_upd {H : Hp} {D : Addr} {o : HO} (h : H D = some o) : upd (del H D) D o = H := by
  funext b
  by_cases e : b = D
  · subst e
    rw [upd_same, h]
  · rw [upd_ne e, del_ne e]

/-! ### [e for x in xs if t] -/
def cmpL (vs : List Nat) (g : D → Env' → Out Env') (t : Env' → Out Bool) (f : Env' → Out D) (ρ : Env') : List D → Out (List D)
  | [] => .ok []
  | x :: xs => (noX (g x (wipeE ρ vs))).bind fun ρ1 => (noX (t ρ1)).bind fun c => if c = true then (noX (f ρ1)).bind fun d => (cmpL vs g t f ρ xs).bind fun ds => .ok (d :: ds) else cmpL vs g t f ρ xs
def rLc (it : Env' → Out (List D)) (vs : List Nat) (g : D → Env' → Out Env') (t : Env' → Out Bool) (f : Env' → Out D) : Env' → Out D := fun ρ => (it ρ).bind fun xs => if xs.length ≤ sizeLine then (noX (cmpL vs g t f ρ xs)).bind fun ds => .ok (.lst ds) else .bad
structure STs (X : Cx) (W : WX) (ifs : List Expr) (t : Env' → Out Bool) : Prop where
  pt : PTs X ifs (tRT X.K X.mg W t)
def tYs : Env' → Out Bool := fun _ => .ok true
section
variable {X : Cx} {W : WX}
theorem PTs.imp {ifs : List Expr} {t t' : TT} (h : PTs X ifs t) (k : ∀ σ H Q, t' σ H Q → t σ H Q) : PTs X ifs t' := ⟨fun pins s σ H Q I q => h.run pins s σ H Q I (k _ _ _ q)⟩
theorem STs.nil : STs X W [] tYs := ⟨PTs.imp pts_nil fun σ H Q ⟨F, ρ, s, q⟩ => q F H (New.refl s.le)⟩
theorem STs.one {c : Expr} {t : Env' → Out Bool} (h : SRT X W c t) : STs X W [c] t := ⟨pts_one h.pe⟩
end
theorem noX_ok_inv {α : Type} {x : Out α} {a : α} (h : noX x = .ok a) : x = .ok a := by
  cases x with
  | ok b => exact h
  | exc c fs => cases h
  | bad => cases h
theorem bind_ok {α β : Type} {x : Out α} {f : α → Out β} {b : β} (h : x.bind f = .ok b) : ∃ a, x = .ok a ∧ f a = .ok b := by
  cases x with
  | ok a => exact ⟨a, rfl, h⟩
  | exc c fs => cases h
  | bad => cases h
theorem on_ok {α : Type} {x : Out α} {a : α} {P : α → Prop} {E : Str → List D → Prop} (e : x = .ok a) (h : P a) : x.on P E := by rw [e]; exact h
section
variable {K : Fr'} {mg : MG} {W : WX} {it : Env' → Out (List D)} {vs sl : List Nat} {g : D → Env' → Out Env'} {t : Env' → Out Bool} {f : Env' → Out D}
theorem lc_body (hsl : ∀ i, i ∈ sl → i ∈ vs) {F0 H0 : Hp} {σ : L2.St} {ρ : Env'} {Q : VK} {xs ds : List D} {J : It} (s0 : St2 K F0 H0 σ ρ) (it : ItOk K F0 H0 J xs) (hl : xs.length ≤ sizeLine) (eds : cmpL vs g t f ρ xs = .ok ds)
    (q : ∀ p o F' H', New F0 H0 F' H' → H' p = none → Co K F' (.lst ds) o → Q (.ref p) (upd H' p o)) :
    ∀ D, H0 D = none → ∃ W : Nat → Nat → Hp → Prop, (∃ m, W 0 m (upd H0 D (.lst []))) ∧ ∀ i m H, W i m H →
  (J.stop i H ∧ Q (.ref D) H) ∨ (J.go i H ∧ ∃ Nx : Hp → Prop, (∀ H', Nx H' → ∃ m', m' < m ∧ W (i + 1) m' H') ∧ ∀ x H', J.yld i H x H' → gM K sl g x (wipe σ vs) H' fun σ2 H2 => wipe σ2 vs = wipe σ vs ∧ tRT K mg W0 t σ2 H2 fun b H3 =>
    if b = true then tR K mg W0 false f σ2 H3 fun y H4 => ∃ acc, H4 D = some (.lst acc) ∧ acc.length < sizeLine ∧ Nx (upd H4 D (.lst (acc ++ [y]))) else Nx H3) := by
    intro D hD
    have nD : ¬ Owned σ ρ D := fun w => by
      obtain ⟨o, ho⟩ := s0.owned_some w
      rw [hD] at ho
      cases ho
    refine ⟨fun i m H1 => m = xs.length - i ∧ i ≤ xs.length ∧ ∃ F1 acc accV rest, St2 K F1 H1 σ ρ ∧ New F0 H0 F1 H1 ∧ F1 D = none ∧ H1 D = some (.lst accV) ∧ Reps K F1 acc accV ∧ acc.length ≤ i ∧ cmpL vs g t f ρ (xs.drop i) = .ok rest ∧ ds = acc ++ rest,
      ⟨xs.length, by omega, Nat.zero_le _, F0, [], [], ds, s0.side (s0.le.none hD) nD, ⟨Le.refl _, s0.le.updR (s0.le.none hD), fun b o h => by
        rw [upd_ne (ne_of_none h hD)]
        exact h, fun b h => .inl h⟩, s0.le.none hD, upd_same, mk_nil, Nat.le_refl _, eds, rfl⟩, ?_⟩
    rintro i m H1 ⟨rfl, hi, F1, acc, accV, rest, s1, n1, fD, hD1, r1, hacc, e1, rfl⟩
    have k1 : Kept F0 H0 H1 := fun b o _ h => n1.kp b o h
    by_cases hlt : i < xs.length
    · rw [drop_cons hlt] at e1
      obtain ⟨ρ2, eρ, e1⟩ := bind_ok e1
      obtain ⟨c, ec, e1⟩ := bind_ok e1
      refine .inr ⟨it.go F1 H1 i n1.le s1.le k1 hlt, fun H2 => i + 1 ≤ xs.length ∧ ∃ F1 acc2 accV rest2, St2 K F1 H2 σ ρ ∧ New F0 H0 F1 H2 ∧ F1 D = none ∧ H2 D = some (.lst accV) ∧ Reps K F1 acc2 accV ∧ acc2.length ≤ i + 1 ∧ cmpL vs g t f ρ (xs.drop (i + 1)) = .ok rest2 ∧ acc ++ rest = acc2 ++ rest2,
        fun H2 h2 => ⟨xs.length - (i + 1), by omega, rfl, h2⟩, fun v H2 hy => ?_⟩
      obtain ⟨F2, n2, r2⟩ := it.yld F1 H1 i xs[i] v H2 n1.le s1.le k1 (List.getElem?_eq_getElem hlt) hy
      have s2 := (s1.new n2)
      refine ⟨F2, wipeE ρ vs, _, s2.wipe vs, r2, on_ok (noX_ok_inv eρ) fun σ3 s3 o3 w3 => ⟨wipe_eq o3 hsl, F2, ρ2, s3, on_ok (noX_ok_inv ec) fun F4 H4 n4 => ?_⟩⟩
      have n14 := n2.trans n4
      have f4D : F4 D = none := by
        cases z : F4 D with
        | none => rfl
        | some u =>
          rcases n14.fr D (by rw [z]; exact Option.some_ne_none _) with w | w
          · exact absurd fD w
          · rw [hD1] at w
            cases w
      cases c with
      | true =>
        rw [if_pos rfl] at e1
        refine iteT ?_
        obtain ⟨d, ed, e1⟩ := bind_ok e1
        obtain ⟨rest2, er, e1⟩ := bind_ok e1
        cases e1
        refine ⟨F4, ρ2, s3.new n4, on_ok (noX_ok_inv ed) fun v5 F5 H5 n5 r5 => ?_⟩
        have n15 := n14.trans n5
        have f5D : F5 D = none := by
          cases z : F5 D with
          | none => rfl
          | some u =>
            rcases n15.fr D (by rw [z]; exact Option.some_ne_none _) with w | w
            · exact absurd fD w
            · rw [hD1] at w
              cases w
        have s5 : St2 K F5 H5 σ ρ := s1.new n15
        have n05 := n1.trans n15
        refine ⟨accV, n15.kp _ _ hD1, by rw [reps_len r1]; omega, hlt, F5, acc ++ [d], _, rest2, s5.side f5D nD, ⟨n05.le, s5.le.updR f5D, fun b o h => by
          rw [upd_ne (ne_of_none h hD)]
          exact n05.kp b o h, n05.fr⟩, f5D, upd_same, reps_app (Reps.mono n15.le _ _ r1) (mk_cons r5 mk_nil), ?_, er, ?_⟩
        · rw [List.length_append]
          exact Nat.succ_le_succ hacc
        · rw [List.append_assoc]
          rfl
      | false =>
        rw [if_neg Bool.false_ne_true] at e1
        refine iteF ?_
        exact ⟨hlt, F4, acc, accV, rest, s1.new n14, n1.trans n14, f4D, n14.kp _ _ hD1, Reps.mono n14.le _ _ r1, by omega, e1, rfl⟩
    · have e : i = xs.length := by omega
      subst e
      rw [List.drop_length] at e1
      cases e1
      refine .inl ⟨it.stop F1 H1 _ n1.le s1.le k1 (Nat.le_refl _), ?_⟩
      have n2 : New F0 H0 F1 (del H1 D) := by
        refine ⟨n1.le, fun a u h => ?_, fun b o h => ?_, n1.fr⟩
        · have ha : a ≠ D := fun z => by
            subst z
            rcases h with h | ⟨o, h⟩ <;> rw [fD] at h <;> cases h
          exact Rd.congr (del_ne ha).symm (s1.le a u h)
        · rw [del_ne (ne_of_none h hD)]
          exact n1.kp b o h
      have := q D (.lst accV) F1 (del H1 D) n2 del_same ⟨accV, rfl, by rw [List.append_nil]; exact r1⟩
      rw [del_upd hD1] at this
      exact this
theorem lc_read (hsl : ∀ i, i ∈ sl → i ∈ vs) : ∀ σ H Q, tO K mg W false (rLc it vs g t f) σ H Q → tLc (iR K mg W false it) (gM K sl g) (tRT K mg W0 t) (tR K mg W0 false f) vs σ H Q := by
  rintro σ H Q ⟨F, ρ, s, q⟩
  refine ⟨F, ρ, s, on_imp (on_bind q) (fun xs exs q J F0 H0 n0 it => ?_) fun _ _ _ q => q⟩
  by_cases hl : xs.length ≤ sizeLine
  · rw [if_pos hl] at q
    obtain ⟨ds, eds, q⟩ := noX_on (on_bind q)
    exact lc_body hsl (s.new n0) it hl eds fun p o F' H' n hp c => q p o F' H' (n0.trans n) hp c
  · rw [if_neg hl] at q
    exact q.elim
end
section
variable {X : Cx} {W : WX} {elt tg iter : Expr} {ifs : List Expr} {scope : Scope} {own : List (Str × Nat)} {pos : Pos} {sl : List Nat} {it : Env' → Out (List D)} {g : D → Env' → Out Env'} {t : Env' → Out Bool} {f : Env' → Out D}
theorem SO.lc (hc : X.calm = true) (hN : X.N.Nodup) (hi : SI false X W tg iter it) (ok : BlkOk X.N X.env.scope scope own)
    (hg : ∀ (s : Shared) (H : Hp) (C : Addr) (cl : List (Str × Addr)) (fp : List Addr), SG (X.blk s H scope (compEnvC scope cl C X.env) fp) sl tg g)
    (ht : ∀ (s : Shared) (H : Hp) (C : Addr) (cl : List (Str × Addr)) (fp : List Addr), STs (X.blk s H scope (compEnvC scope cl C X.env) fp) W0 ifs t)
    (he : ∀ (s : Shared) (H : Hp) (C : Addr) (cl : List (Str × Addr)) (fp : List Addr), SR false (X.blk s H scope (compEnvC scope cl C X.env) fp) W0 elt f) (hsl : ∀ i, i ∈ sl → i ∈ own.map (·.2) := by decide) (hs : ∀ x, foldedSetIterable iter X.env x = pure x := by intro _; rfl) :
    SO false X W (.ListComp elt [⟨tg, iter, ifs, 0⟩] scope pos) (rLc it (own.map (·.2)) g t f) :=
  SO.imp (pe_lc hc hN hi.pi ok (fun s H C cl fp => (hg s H C cl fp).pg) (fun s H C cl fp => (ht s H C cl fp).pt) (fun s H C cl fp => (he s H C cl fp).pe) hs) (lc_read hsl)
/-- y = [..], y a plain local name: a new object of its own, or frozen -/
theorem S1.lcO (i : Nat) {y : Str} {py spos : Pos} {prot : List Nat} (b : Bool) (hc : X.calm = true) (hN : X.N.Nodup) (hi : SI false X W tg iter it) (ok : BlkOk X.N X.env.scope scope own)
    (hg : ∀ (s : Shared) (H : Hp) (C : Addr) (cl : List (Str × Addr)) (fp : List Addr), SG (X.blk s H scope (compEnvC scope cl C X.env) fp) sl tg g)
    (ht : ∀ (s : Shared) (H : Hp) (C : Addr) (cl : List (Str × Addr)) (fp : List Addr), STs (X.blk s H scope (compEnvC scope cl C X.env) fp) W0 ifs t)
    (he : ∀ (s : Shared) (H : Hp) (C : Addr) (cl : List (Str × Addr)) (fp : List Addr), SR false (X.blk s H scope (compEnvC scope cl C X.env) fp) W0 elt f) (hyl : X.env.scope.names.lookup y = some .local)
    (hsw : swapsWith (.ListComp elt [⟨tg, iter, ifs, 0⟩] scope pos) (some (.Name y py)) spos.line X.env = pure true) (hp : i ∉ prot := by decide) (hy : X.N[i]? = some y := by rfl) (hsl : ∀ i, i ∈ sl → i ∈ own.map (·.2) := by decide) (hs : ∀ x, foldedSetIterable iter X.env x = pure x := by intro _; rfl) :
    S1 X W prot (.Assign [.Name y py] (.ListComp elt [⟨tg, iter, ifs, 0⟩] scope pos) spos) (sOwn b (if b = true then brw (rLc it (own.map (·.2)) g t f) else rLc it (own.map (·.2)) g t f) i) := by
  refine ⟨PS.imp (ps_setLc (g := gM X.K sl g) (tt := tRT X.K X.mg W0 t) (te := tR X.K X.mg W0 false f) hc hN hy hyl hsw hi.pi ok (fun s H C cl fp => (hg s H C cl fp).pg) (fun s H C cl fp => (ht s H C cl fp).pt) (fun s H C cl fp => (he s H C cl fp).pe) hs) ?_⟩
  rintro D0 σ H ⟨F, ρ, s, q⟩
  refine lc_read hsl σ H _ ?_
  cases b with
  | false =>
    rw [if_neg Bool.false_ne_true] at q
    refine ⟨F, ρ, s, on_imp (on_bind q) (fun d ed q p o F1 H1 n hp' c => ?_) fun _ _ _ q => q⟩
    split at q
    · rename_i w
      have ⟨s2, p2⟩ := own_ok s n hp' (b := false) c w i
      exact q _ F1 _ s2 p2 (Fix.set hp)
    · exact q.elim
  | true =>
    rw [if_pos rfl] at q
    refine ⟨_, _, s.all, on_imp (on_bind q) (fun d ed q p o F1 H1 n hp' c => ?_) fun _ _ _ q => ExM.all s q⟩
    split at q
    · rename_i w
      have n2 := s.snew n
      have ⟨s2, p2⟩ := own_ok s n2.1 hp' (b := true) (Co.mono n2.2 c) w i
      exact q _ _ _ s2 p2 (Fix.set hp)
    · exact q.elim
end
end VL

/-! V12: defs and their calls. -/
namespace VL
open PySem PySem.Spec L2

abbrev WE' (E : XK) : WX := fun cls d _ H => E cls d H
/-- the body's environment at the entry -/
def begE (n : Nat) (ρ0 : Env') : Env' := ρ0 ++ List.replicate (n - ρ0.length) Cell.emp
section
variable {K : Fr'} {F H : Hp} {vs : List V} {ρ0 : Env'}
theorem start_at {N : List Str} {vs : List V} {i : Nat} (h : i < vs.length) : (L2.start N vs)[i]? = (vs.map some)[i]? := by
  unfold L2.start
  rw [List.getElem?_append_left (by rw [List.length_map]; exact h)]
theorem begE_at {n : Nat} {i : Nat} {c : Cell} (h : (begE n ρ0)[i]? = some c) (hc : c ≠ .emp) : i < ρ0.length ∧ ρ0[i]? = some c := by
  unfold begE at h
  by_cases hi : i < ρ0.length
  · rw [List.getElem?_append_left hi] at h
    exact ⟨hi, h⟩
  · rw [List.getElem?_append_right (by omega), List.getElem?_replicate] at h
    split at h
    · exact absurd (Option.some.inj h).symm hc
    · cases h
theorem St2.start (s : St2 K F H (vs.map some) ρ0) {N : List Str} (hl : vs.length ≤ N.length) : St2 K F H (L2.start N vs) (begE N.length ρ0) := by
  have lv : vs.length = ρ0.length := by
    have := s.len
    rw [List.length_map] at this
    exact this
  refine ⟨s.le, ?_, fun i d h => ?_, fun i d h => ?_, fun i j p d e hij h1 h2 h3 => ?_⟩
  · unfold L2.start begE
    rw [List.length_append, List.length_append, List.length_map, List.length_replicate, List.length_replicate, lv]
  · obtain ⟨hi, h⟩ := begE_at h (fun z => nomatch z)
    rw [start_at (by omega)]
    exact s.val i d h
  · obtain ⟨hi, h⟩ := begE_at h (fun z => nomatch z)
    rw [start_at (by omega)]
    exact s.own i d h
  · obtain ⟨hi, h1⟩ := begE_at h1 (fun z => nomatch z)
    obtain ⟨hj, h2⟩ := begE_at h2 (fun z => nomatch z)
    rw [start_at (by omega)] at h3
    rw [start_at (by omega)]
    exact s.sep i j p d e hij h1 h2 h3
theorem owned_start {N : List Str} {b : Addr} (lv : vs.length = ρ0.length) (h : Owned (L2.start N vs) (begE N.length ρ0) b) : Owned (vs.map some) ρ0 b := by
  obtain ⟨i, d, h1, h2⟩ := h
  obtain ⟨hi, h1⟩ := begE_at h1 (fun z => nomatch z)
  rw [start_at (by omega)] at h2
  exact ⟨i, d, h1, h2⟩
theorem vals_st2 {ds : List D} (l : Le F H) (r : Reps K F ds vs) : St2 K F H (vs.map some) (ds.map Cell.val) where
  le := l
  len := by rw [List.length_map, List.length_map, reps_len r]
  val := fun i d h => by
    rw [List.getElem?_map] at h
    cases q : ds[i]? with
    | none => rw [q] at h; cases h
    | some e =>
      rw [q] at h
      cases h
      obtain ⟨v, hv, rv⟩ := reps_get r q
      exact ⟨v, by rw [List.getElem?_map, hv]; rfl, rv⟩
  own := fun i d h => by
    rw [List.getElem?_map] at h
    cases q : ds[i]? with
    | none => rw [q] at h; cases h
    | some e => rw [q] at h; cases h
  sep := fun i j p d e _ h => by
    rw [List.getElem?_map] at h
    cases q : ds[i]? with
    | none => rw [q] at h; cases h
    | some e => rw [q] at h; cases h
theorem vals_noown {ds : List D} {σ : L2.St} {b : Addr} : ¬ Owned σ (ds.map Cell.val) b := fun ⟨i, d, h, _⟩ => by
  rw [List.getElem?_map] at h
  cases q : ds[i]? with
  | none => rw [q] at h; cases h
  | some e => rw [q] at h; cases h
end
/-- the value of a call: nothing is handed back -/
def fnF (n : Nat) (body : Env' → Out (Fl × Env')) (ds : List D) : Out D := (body (begE n (ds.map Cell.val))).bind fun p => match p.1 with
  | .ret d => .ok d
  | .new d => .ok d
  | .nx => .ok .non
  | _ => .bad
section
variable {P : Program} {w : World} {K : Fr'} {mg : MG} {base : Heap} {x qual : Str} {st : Stmt} {f : Addr} {fd : FuncData} {N ps : List Str} {k : Nat} {body : Env' → Out (Fl × Env')}
theorem scope_le {N ps : List Str} {sc : Scope} (S : FnScope N ps sc) : ps.length ≤ N.length := by
  have h := S.pre
  have := congrArg List.length h
  rw [List.length_take] at this
  omega
theorem fn_okF (F : Fun K x qual st f fd) (S : FnScope N ps (defScope st))
    (hb : ∀ (cdv : Value) (A : Around) (outer : List Env) (s : Shared) (H : Hp) (E : XK), Room k (A.deeper (PyProof.Rows.envOfC qual (defScope st) s.heap.objs.size f cdv)) →
      SS (cxOf (L2.CX P w) P w K mg base N qual (defScope st) f cdv A outer s H E) (WE' E) [] (defBody st) body) :
    FnOk P w K mg base (L2.CX P w) (k + 1) f fd ps (fun vs H Q E => vs.length = ps.length ∧ spF K mg (fnF N.length body) vs H Q E) := by
  refine F.okX S (fun vs H Q E h => h.1) fun cdv A outer s H vs Q E hr h => ⟨_, (hb cdv A outer s H E hr).ps, ?_⟩
  obtain ⟨hl, F, ds, le, r, q⟩ := h
  have s0 := vals_st2 le r
  have lv : vs.length = (ds.map Cell.val).length := by rw [List.length_map, reps_len r]
  have s1 := s0.start (N := N) (by rw [hl]; exact scope_le S)
  have noow : ∀ b, ¬ Owned (L2.start N vs) (begE N.length (ds.map Cell.val)) b := fun b z => vals_noown (owned_start lv z)
  have nw : ∀ {σ' : L2.St} {ρ' : Env'} {F' H' : Hp}, Le F' H' → Stp (L2.start N vs) (begE N.length (ds.map Cell.val)) F H σ' ρ' F' H' → New F H F' H' := fun {σ' ρ' F' H'} l p => ⟨p.le, l, fun b o h => p.kp b o h (noow b), fun b h => by
    rcases p.fr b h with h | h | h
    · exact .inl h
    · exact .inr h
    · exact absurd h (noow b)⟩
  refine ⟨F, _, s1, on_imp (on_bind q) (fun p ep q σ' F' H' s' pp fx => ?_) (fun c fs ec q cls xd σ' F' H' l hl' pp r' => q cls xd F' H' (nw l pp) r')⟩
  obtain ⟨fl, ρ'⟩ := p
  have n := nw s'.le pp
  cases fl with
  | nx => exact q .non F' H' n mk_non
  | brk => exact q.elim
  | cnt => exact q.elim
  | ret d => exact fun v rv => q v F' H' n rv
  | new d =>
    intro p o hp c
    obtain ⟨n2, r⟩ := Co.laid s'.le hp c
    exact q _ _ _ (n.trans n2) r
theorem fnok_imp {sp sp' : Sp} {CX : CXT} (G : FnOk P w K mg base CX k f fd ps sp) (h : ∀ vs H Q E, sp' vs H Q E → sp vs H Q E) : FnOk P w K mg base CX k f fd ps sp' := G.imp h
end
/-- as SR.call asks it: the arguments' number is checked by the function -/
def arity (n : Nat) (mf : List D → Out D) : List D → Out D := fun ds => if ds.length = n then mf ds else .bad
section
variable {P : Program} {w : World} {K : Fr'} {mg : MG} {base : Heap} {f : Addr} {fd : FuncData} {ps : List Str} {k : Nat} {mf : List D → Out D}
theorem fn_ar (G : FnOk P w K mg base (L2.CX P w) k f fd ps (fun vs H Q E => vs.length = ps.length ∧ spF K mg mf vs H Q E)) : FnOk P w K mg base (L2.CX P w) k f fd ps (spF K mg (arity ps.length mf)) := G.imp fun vs H Q E ⟨F, ds, l, r, q⟩ => by
  unfold arity at q
  by_cases e : ds.length = ps.length
  · rw [if_pos e] at q
    exact ⟨by rw [reps_len r]; exact e, F, ds, l, r, q⟩
  · rw [if_neg e] at q
    exact q.elim
end

/-! ### the first parameter is an object of the caller's own, that is handed back changed -/
structure TStp (p : Addr) (F H F' H' : Hp) : Prop where
  le : Le F F'
  le' : Le F' H'
  kp : ∀ b o, b ≠ p → H b = some o → H' b = some o
  fr : ∀ b, F' b ≠ none → F b ≠ none ∨ H b = none
def spT (K : Fr') (mg : MG) (mf : D → List D → Out (D × D)) : Sp := fun vs H Q E => ∃ F p o d ws ds, vs = .ref p :: ws ∧ Le F H ∧ H p = some o ∧ F p = none ∧ Co K F d o ∧ Reps K F ds ws ∧
  (mf d ds).on (fun r => ∀ v F' H' o', TStp p F H F' H' → H' p = some o' → F' p = none → Co K F' r.2 o' → Rep K F' r.1 v → Q v H') (fun c fs => ∀ cls xd F' H', (∀ b o, b ≠ p → H b = some o → H' b = some o) → Le F F' → Le F' H' → (∀ b, F' b ≠ none → F b ≠ none ∨ H b = none ∨ b = p) → (∀ b, H b ≠ none → H' b ≠ none) → ExcR mg c fs cls xd → E cls xd H')
def ownOf (r : D) : Option Cell → Out (D × D)
  | some (.own d) => .ok (r, d)
  | _ => .bad
theorem ownOf_on {r : D} {c : Option Cell} {P : D × D → Prop} {E : Str → List D → Prop} (h : (ownOf r c).on P E) : ∃ d, c = some (Cell.own d) ∧ P (r, d) := by
  unfold ownOf at h
  split at h
  · exact ⟨_, rfl, h⟩
  · exact h.elim
def fnT (n m : Nat) (body : Env' → Out (Fl × Env')) (d : D) (ds : List D) : Out (D × D) := if ds.length + 1 = m then (body (begE n (Cell.own d :: ds.map Cell.val))).bind fun p => match p.1 with
  | .ret r => ownOf r p.2[0]?
  | .nx => ownOf .non p.2[0]?
  | _ => .bad else .bad
section
variable {P : Program} {w : World} {K : Fr'} {mg : MG} {base : Heap} {x qual : Str} {st : Stmt} {f : Addr} {fd : FuncData} {N ps : List Str} {k : Nat} {body : Env' → Out (Fl × Env')}
theorem own_st2 {F H : Hp} {p : Addr} {o : HO} {d : D} {ws : List V} {ds : List D} (l : Le F H) (ho : H p = some o) (hn : F p = none) (c : Co K F d o) (r : Reps K F ds ws) : St2 K F H ((V.ref p :: ws).map some) (Cell.own d :: ds.map Cell.val) := by
  have s := vals_st2 l r
  refine ⟨l, ?_, fun i e h => ?_, fun i e h => ?_, fun i j q d1 e hij h1 h2 h3 => ?_⟩
  · have := s.len
    show (ws.map some).length + 1 = (ds.map Cell.val).length + 1
    rw [this]
  · cases i with
    | zero => cases h
    | succ i => exact s.val i e h
  · cases i with
    | zero =>
      cases h
      exact ⟨p, o, rfl, ho, hn, c⟩
    | succ i =>
      obtain ⟨q, u, h1, h2, _⟩ := s.own i e h
      exact absurd ⟨i, e, h, h1⟩ (vals_noown (b := q))
  · cases i with
    | zero =>
      cases j with
      | zero => exact absurd rfl hij
      | succ j =>
        obtain ⟨q', u, h4, _⟩ := s.own j e h2
        exact absurd ⟨j, e, h2, h4⟩ (vals_noown (b := q'))
    | succ i =>
      obtain ⟨q', u, h4, _⟩ := s.own i d1 h1
      exact absurd ⟨i, d1, h1, h4⟩ (vals_noown (b := q'))
theorem own_only {p b : Addr} {d : D} {ws : List V} {ds : List D} (h : Owned ((V.ref p :: ws).map some) (Cell.own d :: ds.map Cell.val) b) : b = p := by
  obtain ⟨i, e, h1, h2⟩ := h
  cases i with
  | zero => cases h2; rfl
  | succ i => exact absurd ⟨i, e, h1, h2⟩ (vals_noown (b := b) (σ := ws.map some))
theorem fn_okT (F : Fun K x qual st f fd) (S : FnScope N ps (defScope st))
    (hb : ∀ (cdv : Value) (A : Around) (outer : List Env) (s : Shared) (H : Hp) (E : XK), Room k (A.deeper (PyProof.Rows.envOfC qual (defScope st) s.heap.objs.size f cdv)) →
      SS (cxOf (L2.CX P w) P w K mg base N qual (defScope st) f cdv A outer s H E) (WE' E) [0] (defBody st) body) :
    FnOk P w K mg base (L2.CX P w) (k + 1) f fd ps (spT K mg (fnT N.length ps.length body)) := by
  refine F.okX S (fun vs H Q E h => ?_) fun cdv A outer s H vs Q E hr h => ⟨_, (hb cdv A outer s H E hr).ps, ?_⟩
  · obtain ⟨F, p, o, d, ws, ds, rfl, l, ho, hn, c, r, q⟩ := h
    unfold fnT at q
    by_cases e : ds.length + 1 = ps.length
    · show ws.length + 1 = ps.length
      rw [reps_len r]
      exact e
    · rw [if_neg e] at q
      exact q.elim
  · obtain ⟨F, p, o, d, ws, ds, rfl, l, ho, hn, c, r, q⟩ := h
    unfold fnT at q
    by_cases e : ds.length + 1 = ps.length
    · rw [if_pos e] at q
      have s0 := own_st2 l ho hn c r
      have lv : (V.ref p :: ws).length = (Cell.own d :: ds.map Cell.val).length := by
        show ws.length + 1 = (ds.map Cell.val).length + 1
        rw [List.length_map, reps_len r]
      have s1 := s0.start (N := N) (by
        have := scope_le S
        show ws.length + 1 ≤ N.length
        rw [reps_len r]
        omega)
      have oo : ∀ b, Owned (L2.start N (V.ref p :: ws)) (begE N.length (Cell.own d :: ds.map Cell.val)) b → b = p := fun b z => own_only (owned_start lv z)
      refine ⟨F, _, s1, on_imp (on_bind q) (fun pr ep q σ' F' H' s' pp fx => ?_) (fun cc fs ec q cls xd σ' F' H' l2 hl' pp r' => q cls xd F' H' (fun b u hb h => pp.kp b u h fun z => hb (oo b z)) pp.le l2 (fun b h => ?_) pp.al r')⟩
      · obtain ⟨fl, ρ'⟩ := pr
        have hσ : σ'[0]? = some (some (V.ref p)) := by
          rw [fx.2 0 List.mem_cons_self]
          exact start_at (N := N) (vs := V.ref p :: ws) (Nat.succ_pos _)
        have fin : ∀ {d' : D}, ρ'[0]? = some (Cell.own d') → ∃ o', TStp p F H F' H' ∧ H' p = some o' ∧ F' p = none ∧ Co K F' d' o' := fun {d'} h0 => by
          obtain ⟨p', o', e1, ho', hn', c'⟩ := s'.own 0 d' h0
          rw [hσ] at e1
          cases e1
          refine ⟨o', ⟨pp.le, s'.le, fun b u hb h => pp.kp b u h fun z => hb (oo b z), fun b h => ?_⟩, ho', hn', c'⟩
          rcases pp.fr b h with w | w | w
          · exact .inl w
          · exact .inr w
          · rw [oo b w] at h
            exact absurd hn' h
        cases fl with
        | nx =>
          obtain ⟨d', h0, q⟩ := ownOf_on q
          obtain ⟨o', t, h1, h2, h3⟩ := fin h0
          exact q .non F' H' o' t h1 h2 h3 mk_non
        | brk => exact q.elim
        | cnt => exact q.elim
        | ret r0 =>
          obtain ⟨d', h0, q⟩ := ownOf_on q
          obtain ⟨o', t, h1, h2, h3⟩ := fin h0
          exact fun v rv => q v F' H' o' t h1 h2 h3 rv
        | new d => exact q.elim
      · rcases pp.fr b h with h | h | h
        · exact .inl h
        · exact .inr (.inl h)
        · exact .inr (.inr (oo b h))
    · rw [if_neg e] at q
      exact q.elim
end
/-- f(x, ..), x a name that owns its object -/
def mCT (i : Nat) (ms : Env' → Out (List D × Env')) (mf : D → List D → Out (D × D)) : Env' → Out (D × Env') := fun ρ => match ρ[i]? with
  | some (.own _) => (ms ρ).bind fun a => (match a.2[i]? with
    | some (.own d) => (mf d a.1).bind fun r => .ok (r.1, a.2.set i (.own r.2))
    | _ => .bad)
  | _ => .bad
section
variable {X : Cx} {W : WX} {k : Nat} {f : Addr} {fd : FuncData} {ps : List Str} {mf : D → List D → Out (D × D)} {ms : Env' → Out (List D × Env')} {fn x : Str} {p px pos : Pos} {es : List Expr}
theorem SM.callT (i : Nat) (G : FnOk X.prog X.w X.K X.mg X.base (L2.CX X.prog X.w) k f fd ps (spT X.K X.mg mf)) (hr : Room k X.A) (hg : Gl X fn) (hm : X.mg fn = some (.ref f)) (hk : PySem.W.keepIn X.K (.ref f) = true) (hb : Binds X.K fd ps []) (tk : TK X W)
    (ha : SMs X W es ms) (hN : X.N[i]? = some x := by rfl) (hv : Vis X.env.scope x := by first | exact Or.inl rfl | exact Or.inr (Or.inl rfl) | exact Or.inr (Or.inr rfl)) (hd : (x == ("__debug__" : Str)) = false := by decide)
    (hcd : (x == ("__classdict__" : Str)) = false := by decide) (hdb : (fn == ("__debug__" : Str)) = false := by decide)
    (hs : starEach (.Name x px :: es) X.env = (false, eval (.Name x px) X.env) :: starEach es X.env := by rfl) (hpl : (backTo pos (starEach es X.env)).any (·.1) = false := by rfl) :
    SM X W (.Call (.Name fn p) (.Name x px :: es) [] pos) (mCT i ms mf) := by
  refine SM.imp (pe_callS G hr hg hm hk hb tk (pa_cons (pe_var hN hv hd hcd) ha.pe hs) hdb hs hpl) ?_
  rintro σ H Q ⟨F, ρ, s, q⟩
  unfold mCT at q
  split at q
  · rename_i d0 h0
    obtain ⟨p, o0, e0, _⟩ := s.own i d0 h0
    refine ⟨_, e0, F, ρ, s, on_imp (on_bind q) (fun a ea q ws F1 H1 s1 r1 p1 => ?_) fun _ _ _ q => q⟩
    split at q
    · rename_i d hx
      obtain ⟨p', o, e1, ho, hn, c⟩ := s1.own i d hx
      rw [e0] at e1
      cases e1
      have lr : a.2.length = ρ.length := by rw [← s.len, ← s1.len]
      refine ⟨F1, p, o, d, ws, a.1, rfl, s1.le, ho, hn, c, r1, on_imp (on_bind q) (fun r er q v F2 H2 o' t h1 h2 h3 rv => ?_) (fun cc fs ec q cls xd F2 H2 hk' hl1 hl2 hfr hal r' => ?_)⟩
      · refine q v F2 H2 ⟨t.le', by rw [List.length_set]; exact s1.len, fun j e hj => ?_, fun j e hj => ?_, fun j l pj d1 e hjl hj hl' h4 => ?_⟩ rv (p1.trans ⟨t.le, fun b u h n => t.kp b u (fun z => n ⟨i, d, hx, by rw [z]; exact e0⟩) h, fun b h => ?_, fun b ⟨j, e, hj, hσ⟩ => ?_, fun b h z => ?_⟩)
        · rcases at_set hj with ⟨_, _, he⟩ | ⟨hne, hj⟩
          · cases he
          · obtain ⟨u, e2, r2⟩ := s1.val j e hj
            exact ⟨u, e2, Rep.mono t.le _ _ r2⟩
        · rcases at_set hj with ⟨ej, _, he⟩ | ⟨hne, hj⟩
          · cases he
            exact ⟨p, o', by rw [ej]; exact e0, h1, h2, h3⟩
          · obtain ⟨pj, u, e2, ho2, hn2, c2⟩ := s1.own j e hj
            have hpj : pj ≠ p := fun z => s1.sep i j p d e (Ne.symm hne) hx hj e0 (by rw [e2, z])
            refine ⟨pj, u, e2, t.kp _ _ hpj ho2, ?_, Co.mono t.le c2⟩
            cases w : F2 pj with
            | none => rfl
            | some u2 =>
              rcases t.fr pj (by rw [w]; exact Option.some_ne_none _) with w | w
              · exact absurd hn2 w
              · rw [ho2] at w
                cases w
        · rcases at_set hj with ⟨ej, _, he⟩ | ⟨hne, hj⟩
          · rcases at_set hl' with ⟨el, _, he2⟩ | ⟨hne2, hl'⟩
            · exact absurd (ej.trans el.symm) hjl
            · exact s1.sep j l pj d e hjl (ej ▸ hx) hl' h4
          · rcases at_set hl' with ⟨el, _, he2⟩ | ⟨hne2, hl'⟩
            · exact s1.sep j l pj d1 d hjl hj (el ▸ hx) h4
            · exact s1.sep j l pj d1 e hjl hj hl' h4
        · rcases t.fr b h with h | h
          · exact .inl h
          · exact .inr (.inl h)
        · rcases at_set hj with ⟨ej, _, he⟩ | ⟨hne, hj⟩
          · exact .inl ⟨i, d, hx, by rw [← ej]; exact hσ⟩
          · exact .inl ⟨j, e, hj, hσ⟩
        · by_cases e : b = p
          · rw [e, h1] at z
            cases z
          · cases w : H1 b with
            | none => exact h w
            | some u =>
              rw [t.kp b u e w] at z
              cases z
      · refine q cls xd σ F2 H2 hl2 rfl (p1.trans ?_) r'
        have ee : emps ρ = emps a.2 := by unfold emps; rw [lr]
        rw [ee]
        refine ⟨hl1, fun b u h n => hk' b u (fun z => n ⟨i, d, hx, by rw [z]; exact e0⟩) h, fun b h => ?_, fun b h => absurd h emps_owned, hal⟩
        rcases hfr b h with h | h | h
        · exact .inl h
        · exact .inr (.inl h)
        · exact .inr (.inr ⟨i, d, hx, by rw [h]; exact e0⟩)
    · exact q.elim
  · exact q.elim
end
end VL

/-! V13: comprehensions whose elements change owned objects. -/
namespace VL
open PySem PySem.Spec L2

def unw (ρ ρ2 : Env') : List Nat → Env'
  | [] => ρ2
  | v :: vs => (unw ρ ρ2 vs).set v (ρ.getD v .emp)
theorem unw_len (ρ ρ2 : Env') : ∀ vs : List Nat, (unw ρ ρ2 vs).length = ρ2.length
  | [] => rfl
  | v :: vs => by unfold unw; rw [List.length_set, unw_len ρ ρ2 vs]
theorem unw_out {ρ ρ2 : Env'} {j : Nat} : ∀ {vs : List Nat}, j ∉ vs → (unw ρ ρ2 vs)[j]? = ρ2[j]?
  | [], _ => rfl
  | v :: vs, h => by
    unfold unw
    rw [set_ne fun z => h (by rw [z]; exact List.mem_cons_self)]
    exact unw_out fun z => h (List.mem_cons_of_mem _ z)
theorem unw_in {ρ ρ2 : Env'} (hl : ρ2.length = ρ.length) {j : Nat} : ∀ {vs : List Nat}, j ∈ vs → (unw ρ ρ2 vs)[j]? = ρ[j]?
  | [], h => nomatch h
  | v :: vs, h => by
    unfold unw
    by_cases e : j = v
    · subst e
      by_cases hb : j < ρ.length
      · rw [set_eq (by rw [unw_len, hl]; exact hb), List.getD_eq_getElem?_getD, List.getElem?_eq_getElem hb]
        rfl
      · rw [List.getElem?_eq_none (by rw [List.length_set, unw_len, hl]; omega), List.getElem?_eq_none (by omega)]
    · rw [set_ne e]
      exact unw_in hl ((List.mem_cons.mp h).resolve_left e)
section
variable {K : Fr'} {F F' H H' : Hp} {σ σ2 : L2.St} {ρ ρ2 : Env'} {vs sl : List Nat}
theorem unw_ok (s : St2 K F H σ ρ) (s2 : St2 K F' H' σ2 ρ2) (p : Stp (wipe σ vs) (wipeE ρ vs) F H σ2 ρ2 F' H') (o : Only sl (wipe σ vs) σ2) (hsl : ∀ i, i ∈ sl → i ∈ vs) :
    St2 K F' H' σ (unw ρ ρ2 vs) ∧ Stp σ ρ F H σ (unw ρ ρ2 vs) F' H' := by
  have hl : ρ2.length = ρ.length := by rw [← s2.len, o.1, wipe_length, s.len]
  have same : ∀ j, j ∉ vs → σ[j]? = σ2[j]? := fun j hj => by rw [o.2 j fun z => hj (hsl j z), wipe_out hj]
  have nin : ∀ (i : Nat) (d : D) (q : Addr), i ∈ vs → ρ[i]? = some (Cell.own d) → σ[i]? = some (some (V.ref q)) → ¬ Owned (wipe σ vs) (wipeE ρ vs) q := fun i d q hi h1 h2 ⟨k, e, h3, h4⟩ => by
    obtain ⟨hk, h3⟩ := wipeE_at h3 (fun z => nomatch z)
    rw [wipe_out hk] at h4
    exact s.sep i k q d e (fun z => hk (z ▸ hi)) h1 h3 h2 h4
  have at2 : ∀ {j : Nat} {c : Cell}, (unw ρ ρ2 vs)[j]? = some c → (j ∈ vs ∧ ρ[j]? = some c) ∨ (j ∉ vs ∧ ρ2[j]? = some c) := fun {j c} h => by
    by_cases hj : j ∈ vs
    · rw [unw_in hl hj] at h
      exact .inl ⟨hj, h⟩
    · rw [unw_out hj] at h
      exact .inr ⟨hj, h⟩
  have kept : ∀ {i : Nat} {d : D} {q : Addr} {u : HO}, i ∈ vs → ρ[i]? = some (Cell.own d) → σ[i]? = some (some (V.ref q)) → H q = some u → F q = none → H' q = some u ∧ F' q = none := fun {i d q u} hi h1 h2 h3 h4 => by
    refine ⟨p.kp _ _ h3 (nin i d q hi h1 h2), ?_⟩
    cases w : F' q with
    | none => rfl
    | some u2 =>
      rcases p.fr q (by rw [w]; exact Option.some_ne_none _) with w | w | w
      · exact absurd h4 w
      · rw [h3] at w
        cases w
      · exact absurd w (nin i d q hi h1 h2)
  refine ⟨⟨s2.le, ?_, fun j d h => ?_, fun j d h => ?_, fun i j q d e hij h1 h2 h3 h4 => ?_⟩, ⟨p.le, fun b u h n => p.kp b u h fun w => n (owned_wipe w), fun b h => ?_, fun b ⟨j, d, h1, h2⟩ => ?_, p.al⟩⟩
  · rw [unw_len, hl]
    exact s.len
  · rcases at2 h with ⟨hj, h⟩ | ⟨hj, h⟩
    · obtain ⟨v, e, r⟩ := s.val j d h
      exact ⟨v, e, Rep.mono p.le _ _ r⟩
    · rw [same j hj]
      exact s2.val j d h
  · rcases at2 h with ⟨hj, h⟩ | ⟨hj, h⟩
    · obtain ⟨q, u, e, h3, h4, c⟩ := s.own j d h
      obtain ⟨h5, h6⟩ := kept hj h e h3 h4
      exact ⟨q, u, e, h5, h6, Co.mono p.le c⟩
    · rw [same j hj]
      exact s2.own j d h
  · have cross : ∀ {i j : Nat} {d e : D}, i ∈ vs → ρ[i]? = some (Cell.own d) → σ[i]? = some (some (V.ref q)) → j ∉ vs → ρ2[j]? = some (Cell.own e) → σ[j]? = some (some (V.ref q)) → False := fun {i j d e} hi h1 h3 hj h2 h4 => by
      rw [same j hj] at h4
      obtain ⟨q', u, e', g3, g4, c⟩ := s.own i d h1
      rw [h3] at e'
      cases e'
      rcases p.ow q ⟨j, e, h2, h4⟩ with w | w
      · exact nin i d q hi h1 h3 w
      · rw [g3] at w
        cases w
    rcases at2 h1 with ⟨hi, h1⟩ | ⟨hi, h1⟩
    · rcases at2 h2 with ⟨hj, h2⟩ | ⟨hj, h2⟩
      · exact s.sep i j q d e hij h1 h2 h3 h4
      · exact cross hi h1 h3 hj h2 h4
    · rcases at2 h2 with ⟨hj, h2⟩ | ⟨hj, h2⟩
      · exact cross hj h2 h4 hi h1 h3
      · rw [same i hi] at h3
        rw [same j hj] at h4
        exact s2.sep i j q d e hij h1 h2 h3 h4
  · rcases p.fr b h with h | h | h
    · exact .inl h
    · exact .inr (.inl h)
    · exact .inr (.inr (owned_wipe h))
  · rcases at2 h1 with ⟨hj, h1⟩ | ⟨hj, h1⟩
    · exact .inl ⟨j, d, h1, h2⟩
    · rw [same j hj] at h2
      rcases p.ow b ⟨j, d, h1, h2⟩ with w | w
      · exact .inl (owned_wipe w)
      · exact .inr w
end
def cmpM (vs : List Nat) (g : D → Env' → Out Env') (t : Env' → Out Bool) (f : Env' → Out (D × Env')) : List D → Env' → Out (List D × Env')
  | [], ρ => .ok ([], ρ)
  | x :: xs, ρ => (noX (g x (wipeE ρ vs))).bind fun ρ1 => (noX (t ρ1)).bind fun c => if c = true then (noX (f ρ1)).bind fun d => (cmpM vs g t f xs (unw ρ d.2 vs)).bind fun ds => .ok (d.1 :: ds.1, ds.2) else cmpM vs g t f xs ρ
def mLc (it : Env' → Out (List D × Env')) (vs : List Nat) (g : D → Env' → Out Env') (t : Env' → Out Bool) (f : Env' → Out (D × Env')) : Env' → Out (D × Env') := fun ρ => (it ρ).bind fun x => if x.1.length ≤ sizeLine then (noX (cmpM vs g t f x.1 x.2)).bind fun p => .ok (.lst p.1, p.2) else .bad
section
variable {K : Fr'} {mg : MG} {W : WX} {it : Env' → Out (List D × Env')} {vs sl : List Nat} {g : D → Env' → Out Env'} {t : Env' → Out Bool} {f : Env' → Out (D × Env')}
theorem mc_read (hsl : ∀ i, i ∈ sl → i ∈ vs) : ∀ σ H Q, tM K mg W (mLc it vs g t f) σ H Q → tLc (iM K mg W it) (gM K sl g) (tRT K mg W0 t) (tM K mg W0 f) vs σ H Q := by
  rintro σ H Q ⟨F, ρ, s, q⟩
  refine ⟨F, ρ, s, on_imp (on_bind q) (fun x exs q J F0 H0 s0 p0 it => ?_) fun _ _ _ q => q⟩
  obtain ⟨xs, ρ0⟩ := x
  dsimp only at s0 p0 it q
  by_cases hl : xs.length ≤ sizeLine
  · rw [if_pos hl] at q
    obtain ⟨ds, eds, q⟩ := noX_on (on_bind q)
    obtain ⟨ds, ρf⟩ := ds
    intro D hD
    have nD : ¬ Owned σ ρ0 D := fun w => by
      obtain ⟨o, ho⟩ := s0.owned_some w
      rw [hD] at ho
      cases ho
    have hHD : H D = none := by
      cases z : H D with
      | none => rfl
      | some u => exact absurd hD (p0.al D (by rw [z]; exact Option.some_ne_none _))
    have p00 : Stp σ ρ0 F0 H0 σ ρ0 F0 (upd H0 D (.lst [])) := ⟨Le.refl _, fun b u h _ => by rw [upd_ne (ne_of_none h hD)]; exact h, fun _ h => .inl h, fun _ h => .inl h, fun b h z => by
      by_cases e : b = D
      · rw [e, upd_same] at z
        cases z
      · rw [upd_ne e] at z
        exact h z⟩
    refine ⟨fun i m H1 => m = xs.length - i ∧ i ≤ xs.length ∧ ∃ F1 ρ1 acc accV rest, St2 K F1 H1 σ ρ1 ∧ Stp σ ρ0 F0 H0 σ ρ1 F1 H1 ∧ Kept F0 H0 H1 ∧ F1 D = none ∧ H1 D = some (.lst accV) ∧ ¬ Owned σ ρ1 D ∧ Reps K F1 acc accV ∧ acc.length ≤ i ∧ cmpM vs g t f (xs.drop i) ρ1 = .ok (rest, ρf) ∧ ds = acc ++ rest,
      ⟨xs.length, by omega, Nat.zero_le _, F0, ρ0, [], [], ds, s0.side (s0.le.none hD) nD, p00, fun b o _ h => by
        rw [upd_ne (ne_of_none h hD)]
        exact h, s0.le.none hD, upd_same, nD, mk_nil, Nat.le_refl _, eds, rfl⟩, ?_⟩
    rintro i m H1 ⟨rfl, hi, F1, ρ1, acc, accV, rest, s1, p1, k1, fD, hD1, nD1, r1, hacc, e1, rfl⟩
    by_cases hlt : i < xs.length
    · rw [drop_cons hlt] at e1
      obtain ⟨ρ2, eρ, e1⟩ := bind_ok e1
      obtain ⟨c, ec, e1⟩ := bind_ok e1
      refine .inr ⟨it.go F1 H1 i p1.le s1.le k1 hlt, fun H2 => i + 1 ≤ xs.length ∧ ∃ F1 ρ1 acc2 accV rest2, St2 K F1 H2 σ ρ1 ∧ Stp σ ρ0 F0 H0 σ ρ1 F1 H2 ∧ Kept F0 H0 H2 ∧ F1 D = none ∧ H2 D = some (.lst accV) ∧ ¬ Owned σ ρ1 D ∧ Reps K F1 acc2 accV ∧ acc2.length ≤ i + 1 ∧ cmpM vs g t f (xs.drop (i + 1)) ρ1 = .ok (rest2, ρf) ∧ acc ++ rest = acc2 ++ rest2,
        fun H2 h2 => ⟨xs.length - (i + 1), by omega, rfl, h2⟩, fun v H2 hy => ?_⟩
      obtain ⟨F2, n2, r2⟩ := it.yld F1 H1 i xs[i] v H2 p1.le s1.le k1 (List.getElem?_eq_getElem hlt) hy
      have s2 := (s1.new n2)
      refine ⟨F2, wipeE ρ1 vs, _, s2.wipe vs, r2, on_ok (noX_ok_inv eρ) fun σ3 s3 o3 w3 => ⟨wipe_eq o3 hsl, F2, ρ2, s3, on_ok (noX_ok_inv ec) fun F4 H4 n4 => ?_⟩⟩
      have n14 := n2.trans n4
      have gone : ∀ {F' H' : Hp}, New F1 H1 F' H' → F' D = none := fun {F' H'} n => by
        cases z : F' D with
        | none => rfl
        | some u =>
          rcases n.fr D (by rw [z]; exact Option.some_ne_none _) with w | w
          · exact absurd fD w
          · rw [hD1] at w
            cases w
      cases c with
      | true =>
        rw [if_pos rfl] at e1
        refine iteT ?_
        obtain ⟨d, ed, e1⟩ := bind_ok e1
        obtain ⟨rest2, er, e1⟩ := bind_ok e1
        cases e1
        refine ⟨F4, ρ2, s3.new n4, on_ok (noX_ok_inv ed) fun v5 F5 H5 s5 r5 p5 => ?_⟩
        have s4 := s2.new n4
        have p45 : Stp (wipe σ vs) (wipeE ρ1 vs) F4 H4 σ3 d.2 F5 H5 := by
          have pa : Stp (wipe σ vs) (wipeE ρ1 vs) F4 H4 σ3 ρ2 F4 H4 := ⟨Le.refl _, fun _ _ h _ => h, fun _ h => .inl h, fun b h => .inl (w3 b h), fun _ h => h⟩
          exact pa.trans p5
        obtain ⟨su, pu⟩ := unw_ok s4 s5 p45 o3 hsl
        have p15 := (n14.stp σ ρ1).trans pu
        have hD5 : H5 D = some (.lst accV) := p15.kp _ _ hD1 nD1
        have nD5 : ¬ Owned σ (unw ρ1 d.2 vs) D := fun w => by
          rcases p15.ow D w with w | w
          · exact nD1 w
          · rw [hD1] at w
            cases w
        have f5D : F5 D = none := by
          cases z : F5 D with
          | none => rfl
          | some u =>
            rcases p15.fr D (by rw [z]; exact Option.some_ne_none _) with w | w | w
            · exact absurd fD w
            · rw [hD1] at w
              cases w
            · exact absurd w nD1
        have p05 := p1.trans p15
        have k5 : Kept F0 H0 H5 := Stp.kept s1 p1.le k1 p15
        refine ⟨accV, hD5, by rw [reps_len r1]; omega, hlt, F5, unw ρ1 d.2 vs, acc ++ [d.1], _, rest2.1, su.side f5D nD5, ⟨p05.le, fun b u h n => ?_, p05.fr, p05.ow, fun b h z => ?_⟩, fun b o hb h => ?_, f5D, upd_same, nD5, reps_app (Reps.mono p15.le _ _ r1) (mk_cons r5 mk_nil), ?_, er, ?_⟩
        · rw [upd_ne (ne_of_none h hD)]
          exact p05.kp b u h n
        · by_cases e : b = D
          · rw [e, upd_same] at z
            cases z
          · rw [upd_ne e] at z
            exact p05.al b h z
        · rw [upd_ne (ne_of_none h hD)]
          exact k5 b o hb h
        · rw [List.length_append]
          exact Nat.succ_le_succ hacc
        · rw [List.append_assoc]
          rfl
      | false =>
        rw [if_neg Bool.false_ne_true] at e1
        refine iteF ?_
        exact ⟨hlt, F4, ρ1, acc, accV, rest, s1.new n14, p1.trans (n14.stp σ ρ1), Stp.kept s1 p1.le k1 (n14.stp σ ρ1), gone n14, n14.kp _ _ hD1, nD1, Reps.mono n14.le _ _ r1, by omega, e1, rfl⟩
    · have e : i = xs.length := by omega
      subst e
      rw [List.drop_length] at e1
      cases e1
      refine .inl ⟨it.stop F1 H1 _ p1.le s1.le k1 (Nat.le_refl _), ?_⟩
      rw [List.append_nil] at q
      have p01 := p0.trans p1
      have l2 : Le (upd F1 D (.lst accV)) H1 := fun a u h => by
        by_cases e : a = D
        · subst e
          exact Rd.congr (upd_same.trans hD1.symm) h
        · exact s1.le a u (Rd.congr (upd_ne e) h)
      have lF : Le F1 (upd F1 D (.lst accV)) := Le.updL fD
      refine q (.ref D) (upd F1 D (.lst accV)) H1 ⟨l2, s1.len, fun j d h => ?_, fun j d h => ?_, s1.sep⟩ (mk_lst (.inl (.inl upd_same)) (Reps.mono lF _ _ r1)) ⟨p01.le.trans lF, p01.kp, fun b h => ?_, p01.ow, p01.al⟩
      · obtain ⟨v, e, r⟩ := s1.val j d h
        exact ⟨v, e, Rep.mono lF _ _ r⟩
      · obtain ⟨q', u, e, h3, h4, c⟩ := s1.own j d h
        refine ⟨q', u, e, h3, ?_, Co.mono lF c⟩
        rw [upd_ne fun (z : q' = D) => nD1 ⟨j, d, h, by rw [← z]; exact e⟩]
        exact h4
      · by_cases e : b = D
        · exact .inr (.inl (by rw [e]; exact hHD))
        · rw [upd_ne e] at h
          exact p01.fr b h
  · rw [if_neg hl] at q
    exact q.elim
end
section
variable {X : Cx} {W : WX} {elt tg iter : Expr} {ifs : List Expr} {scope : Scope} {own : List (Str × Nat)} {pos : Pos} {sl : List Nat} {it : Env' → Out (List D × Env')} {g : D → Env' → Out Env'} {t : Env' → Out Bool} {f : Env' → Out (D × Env')}
theorem SM.lc (hc : X.calm = true) (hN : X.N.Nodup) (hi : SIM X W tg iter it) (ok : BlkOk X.N X.env.scope scope own)
    (hg : ∀ (s : Shared) (H : Hp) (C : Addr) (cl : List (Str × Addr)) (fp : List Addr), SG (X.blk s H scope (compEnvC scope cl C X.env) fp) sl tg g)
    (ht : ∀ (s : Shared) (H : Hp) (C : Addr) (cl : List (Str × Addr)) (fp : List Addr), STs (X.blk s H scope (compEnvC scope cl C X.env) fp) W0 ifs t)
    (he : ∀ (s : Shared) (H : Hp) (C : Addr) (cl : List (Str × Addr)) (fp : List Addr), SM (X.blk s H scope (compEnvC scope cl C X.env) fp) W0 elt f) (hsl : ∀ i, i ∈ sl → i ∈ own.map (·.2) := by decide) (hs : ∀ x, foldedSetIterable iter X.env x = pure x := by intro _; rfl) :
    SM X W (.ListComp elt [⟨tg, iter, ifs, 0⟩] scope pos) (mLc it (own.map (·.2)) g t f) :=
  SM.imp (pe_lc hc hN hi.pi ok (fun s H C cl fp => (hg s H C cl fp).pg) (fun s H C cl fp => (ht s H C cl fp).pt) (fun s H C cl fp => (he s H C cl fp).pe) hs) (mc_read hsl)
theorem S1.lcM (i : Nat) {y : Str} {py spos : Pos} {prot : List Nat} (hc : X.calm = true) (hN : X.N.Nodup) (hi : SIM X W tg iter it) (ok : BlkOk X.N X.env.scope scope own)
    (hg : ∀ (s : Shared) (H : Hp) (C : Addr) (cl : List (Str × Addr)) (fp : List Addr), SG (X.blk s H scope (compEnvC scope cl C X.env) fp) sl tg g)
    (ht : ∀ (s : Shared) (H : Hp) (C : Addr) (cl : List (Str × Addr)) (fp : List Addr), STs (X.blk s H scope (compEnvC scope cl C X.env) fp) W0 ifs t)
    (he : ∀ (s : Shared) (H : Hp) (C : Addr) (cl : List (Str × Addr)) (fp : List Addr), SM (X.blk s H scope (compEnvC scope cl C X.env) fp) W0 elt f) (hyl : X.env.scope.names.lookup y = some .local)
    (hsw : swapsWith (.ListComp elt [⟨tg, iter, ifs, 0⟩] scope pos) (some (.Name y py)) spos.line X.env = pure true) (hp : i ∉ prot := by decide) (hy : X.N[i]? = some y := by rfl) (hsl : ∀ i, i ∈ sl → i ∈ own.map (·.2) := by decide) (hs : ∀ x, foldedSetIterable iter X.env x = pure x := by intro _; rfl) :
    S1 X W prot (.Assign [.Name y py] (.ListComp elt [⟨tg, iter, ifs, 0⟩] scope pos) spos) (sAsg (mLc it (own.map (·.2)) g t f) (tgN i)) := by
  refine ⟨PS.imp (ps_setLc (g := gM X.K sl g) (tt := tRT X.K X.mg W0 t) (te := tM X.K X.mg W0 f) hc hN hy hyl hsw hi.pi ok (fun s H C cl fp => (hg s H C cl fp).pg) (fun s H C cl fp => (ht s H C cl fp).pt) (fun s H C cl fp => (he s H C cl fp).pe) hs) ?_⟩
  rintro D0 σ H ⟨F, ρ, s, q⟩
  exact mc_read hsl σ H _ ⟨F, ρ, s, on_imp (on_bind q) (fun x ex q v F1 H1 s1 r1 p1 => q _ F1 H1 (s1.setV r1 i) (p1.trans (Stp.setV i)) (Fix.set hp)) fun _ _ _ q => q⟩
end
end VL

/-! V14: texts joined and split, lists repeated, sorted, dict comprehensions. -/
namespace VL
open PySem PySem.Spec L2

/-! ### texts -/
def strsD : List D → Option (List Str)
  | [] => some []
  | .str x :: xs => (strsD xs).map (x :: ·)
  | _ :: _ => none
theorem reps_strs {K : Fr'} {F : Hp} : ∀ {xs : List D} {vs : List V} {ys : List Str}, strsD xs = some ys → Reps K F xs vs → vs = ys.map V.str
  | [], vs, ys, e, h => by
    rw [reps_nil h]
    cases e
    rfl
  | x :: xs, vs, ys, e, h => by
    obtain ⟨v, r, rfl, h1, h3⟩ := reps_cons h
    cases x <;> first | (exact absurd e (by unfold strsD; intro z; cases z)) | skip
    unfold strsD at e
    cases q : strsD xs with
    | none => rw [q] at e; cases e
    | some cs =>
      rw [q] at e
      cases e
      rw [rep_str h1, reps_strs q h3]
      rfl
theorem mk_strs {K : Fr'} {F : Hp} : ∀ (ys : List Str), Reps K F (ys.map D.str) (ys.map V.str)
  | [] => mk_nil
  | y :: ys => mk_cons mk_str (mk_strs ys)
def gJoin : D → D → Out D
  | .str a, .lst xs => match strsD xs with
    | some ys => if (ys.map (·.length)).sum + ys.length * a.length ≤ 16777216 then .ok (.str (Txt.join a ys)) else .bad
    | none => .bad
  | .str a, .tup xs => match strsD xs with
    | some ys => if (ys.map (·.length)).sum + ys.length * a.length ≤ 16777216 then .ok (.str (Txt.join a ys)) else .bad
    | none => .bad
  | _, _ => .bad
def rJoin (K : Fr') : V → List V → Hp → VK → Prop := fun x xs H Q => ∃ a p, ∃ ys : List Str, x = .str a ∧ xs = [.ref p] ∧ (SqL K H p (ys.map V.str) ∨ SqT K H p (ys.map V.str)) ∧ (ys.map (·.length)).sum + ys.length * a.length ≤ 16777216 ∧ Q (.str (Txt.join a ys)) H
theorem p_join {K : Fr'} : Pure2 K (fun x y H Q => (∃ a, x = .str a) ∧ rJoin K x [y] H Q) gJoin := by
  intro F H x y dx dy d Q l rx ry e k
  cases dx <;> cases dy <;> first | (unfold gJoin at e; cases e; done) | skip
  all_goals
    unfold gJoin at e
    dsimp only at e
    split at e
    · rename_i ys hy
      split at e
      · rename_i c
        cases e
        rw [rep_str rx]
        first
        | obtain ⟨p, vs, rfl, h1, r1⟩ := rep_tup ry
          refine ⟨⟨_, rfl⟩, _, p, ys, rfl, rfl, .inr ?_, c, k _ _ _ (New.refl l) mk_str⟩
          rw [← reps_strs hy r1]
          exact l.seqT h1
        | obtain ⟨p, vs, rfl, h1, r1⟩ := rep_lst ry
          refine ⟨⟨_, rfl⟩, _, p, ys, rfl, rfl, .inl ?_, c, k _ _ _ (New.refl l) mk_str⟩
          rw [← reps_strs hy r1]
          exact l.seqL h1
      · cases e
    · cases e
section
variable {b : Bool} {X : Cx} {W : WX} {o e : Expr} {f g : Env' → Out D} {mf mg' : Env' → Out (D × Env')} {pos apos : Pos}
/-- the receiver's kind is asked ahead of the argument: a text that is written -/
theorem SM.join {a : Str} {j : Nat} {pc : Pos} (he : SM X W e mg') (hs : starEach [e] X.env = [(false, eval e X.env)] := by rfl) (hbase : attributeBase (.Constant (.str a) j pc) "join" X.env (eval (.Constant (.str a) j pc) X.env) = eval (.Constant (.str a) j pc) X.env := by rfl) (hline : (apos.endLine == pos.line) = true := by rfl) :
    SM X W (.Call (.Attribute (.Constant (.str a) j pc) "join" apos) [e] [] pos) (m1 mg' (gJoin (.str a))) := by
  refine SM.imp (pe_join pe_str he.pe hs hbase hline) ?_
  intro σ H Q h
  exact ⟨⟨a, rfl⟩, tM1 (r := fun y H Q => rJoin X.K (.str a) [y] H Q) (fun F H y dy d Q l ry ed k => (p_join F H (.str a) y (.str a) dy d Q l mk_str ry ed k).2) σ H Q h⟩
theorem SR.join {a : Str} {j : Nat} {pc : Pos} (he : SR b X W e g) (hs : starEach [e] X.env = [(false, eval e X.env)] := by rfl) (hbase : attributeBase (.Constant (.str a) j pc) "join" X.env (eval (.Constant (.str a) j pc) X.env) = eval (.Constant (.str a) j pc) X.env := by rfl) (hline : (apos.endLine == pos.line) = true := by rfl) :
    SR b X W (.Call (.Attribute (.Constant (.str a) j pc) "join" apos) [e] [] pos) (r1 g (gJoin (.str a))) := by
  refine SR.imp (pe_join pe_str he.pe hs hbase hline) ?_
  intro σ H Q h
  exact ⟨⟨a, rfl⟩, tR1 (r := fun y H Q => rJoin X.K (.str a) [y] H Q) (fun F H y dy d Q l ry ed k => (p_join F H (.str a) y (.str a) dy d Q l mk_str ry ed k).2) σ H Q h⟩
/-- a text's method with one argument -/
def rTx (f g : Env' → Out D) (h : Str → D → Out D) : Env' → Out D := fun ρ => (f ρ).bind fun x => match x with
  | .str a => (g ρ).bind fun y => noX (h a y)
  | _ => .bad
def PureTx (K : Fr') (r : V → List V → Hp → VK → Prop) (h : Str → D → Out D) : Prop := ∀ F H a y dy d Q, Le F H → Rep K F dy y → h a dy = .ok d → (∀ v F' H', New F H F' H' → Rep K F' d v → Q v H') → r (.str a) [y] H Q
def PureTxO (K : Fr') (r : V → List V → Hp → VK → Prop) (h : Str → D → Out D) : Prop := ∀ F H a y dy d Q, Le F H → Rep K F dy y → h a dy = .ok d → (∀ p o, H p = none → Co K F d o → Q (.ref p) (upd H p o)) → r (.str a) [y] H Q
theorem tRTx {r : V → List V → Hp → VK → Prop} {h : Str → D → Out D} (P : PureTx X.K r h) : ∀ σ H Q, tR X.K X.mg W b (rTx f g h) σ H Q → L2.tM1 r (tR X.K X.mg W b f) (tR X.K X.mg W b g) σ H Q := by
  rintro σ H Q ⟨F, ρ, s, q⟩
  refine ⟨F, ρ, s, on_imp (on_bind q) (fun x ex q v1 F1 H1 n1 rx => ?_) (fun _ _ _ q => q)⟩
  have s1 := s.new n1
  cases x <;> first | (exact q.elim) | skip
  rename_i a
  rw [rep_str rx]
  refine ⟨⟨a, rfl⟩, F1, ρ, s1, on_new n1 (on_bind q) fun y ey q v2 F2 H2 n2 ry => ?_⟩
  have s2 := s1.new n2
  obtain ⟨d, ed, q⟩ := noX_on q
  refine P _ _ _ _ _ _ _ s2.bs_le ry ed fun v F' H' n rv => ?_
  obtain ⟨F'', n3, l⟩ := s2.bnew n
  exact q v _ H' ((n1.trans n2).trans n3) (Rep.mono l _ _ rv)
theorem tOTx {r : V → List V → Hp → VK → Prop} {h : Str → D → Out D} (P : PureTxO X.K r h) : ∀ σ H Q, tO X.K X.mg W b (rTx f g h) σ H Q → L2.tM1 r (tR X.K X.mg W b f) (tR X.K X.mg W b g) σ H Q := by
  rintro σ H Q ⟨F, ρ, s, q⟩
  refine ⟨F, ρ, s, on_imp (on_bind q) (fun x ex q v1 F1 H1 n1 rx => ?_) (fun _ _ _ q => q)⟩
  have s1 := s.new n1
  cases x <;> first | (exact q.elim) | skip
  rename_i a
  rw [rep_str rx]
  refine ⟨⟨a, rfl⟩, F1, ρ, s1, on_new n1 (on_bind q) fun y ey q v2 F2 H2 n2 ry => ?_⟩
  have s2 := s1.new n2
  obtain ⟨d, ed, q⟩ := noX_on q
  exact P _ _ _ _ _ _ _ s2.bs_le ry ed fun p o hp c => q p o F2 H2 (n1.trans n2) hp c
/-- s.split(t) -/
def gSplit : Str → D → Out D
  | a, .str c => if (c.length == 0) = false ∧ a.length + 2 ≤ sizeLine then .ok (.lst ((Txt.split a c).map D.str)) else .bad
  | _, _ => .bad
theorem SO.split (ho : SR b X W o f) (he : SR b X W e g) (hs : starEach [e] X.env = [(false, eval e X.env)] := by rfl) (hbase : attributeBase o "split" X.env (eval o X.env) = eval o X.env := by rfl) (hline : (apos.endLine == pos.line) = true := by rfl) :
    SO b X W (.Call (.Attribute o "split" apos) [e] [] pos) (rTx f g gSplit) := SO.imp (pe_split ho.pe he.pe hs hbase hline) (tOTx (by
  intro F H a y dy d Q l ry ed k
  cases dy <;> first | (unfold gSplit at ed; cases ed; done) | skip
  unfold gSplit at ed
  dsimp only at ed
  split at ed
  · rename_i c
    cases ed
    rw [rep_str ry]
    exact ⟨_, _, rfl, rfl, c.1, c.2, fun p hp => k p _ hp ⟨_, rfl, mk_strs _⟩⟩
  · cases ed))
/-- [..] * n -/
def gRepL (xs : List D) : D → Out D
  | .int k => if xs.length ≤ sizeLine ∧ -(2 ^ 63) ≤ k ∧ k < 2 ^ 63 ∧ xs.length * k.toNat ≤ sizeLine then .ok (.lst (List.replicate k.toNat xs).flatten) else .bad
  | _ => .bad
def rRepL (fs : Env' → Out (List D)) (g : Env' → Out D) : Env' → Out D := fun ρ => (fs ρ).bind fun xs => if xs.length ≤ sizeLine then (g ρ).bind fun y => noX (gRepL xs y) else .bad
theorem SO.repL {es : List Expr} {fs : Env' → Out (List D)} {p : Pos} (h : SRs b X W es fs) (hb : SR b X W e g) : SO b X W (.BinOp (.List es p) .Mult e pos) (rRepL fs g) := by
  refine SO.imp (pe_op op_rep (pe_lst h.pe) hb.pe) ?_
  rintro σ H Q ⟨F, ρ, s, q⟩
  refine ⟨F, ρ, s, on_imp (on_bind q) (fun xs exs q vs F1 H1 n1 r1 => ?_) fun _ _ _ q => q⟩
  have s1 := s.new n1
  by_cases hz : xs.length ≤ sizeLine
  · rw [if_pos hz] at q
    refine ⟨by rw [reps_len r1]; exact hz, fun p hp => ?_⟩
    have hpF := s1.le.none hp
    have nD : ¬ Owned σ ρ p := fun w => by
      obtain ⟨o, ho⟩ := s1.owned_some w
      rw [hp] at ho
      cases ho
    have s1' : St2 X.K F1 (upd H1 p (.lst vs)) σ ρ := s1.side hpF nD
    have n1' : New F H F1 (upd H1 p (.lst vs)) := ⟨n1.le, s1'.le, fun c o h => by
      rw [upd_ne (ne_of_none (n1.kp _ _ h) hp)]
      exact n1.kp _ _ h, n1.fr⟩
    refine ⟨F1, ρ, s1', on_new n1' (on_bind q) fun y ey q v2 F2 H2 n2 ry => ?_⟩
    have s2 := s1'.new n2
    obtain ⟨d, ed, q⟩ := noX_on q
    cases y <;> first | (unfold gRepL at ed; cases ed; done) | skip
    rename_i k
    unfold gRepL at ed
    dsimp only at ed
    split at ed
    · rename_i c
      cases ed
      have hp2 : H2 p = some (.lst vs) := n2.kp _ _ upd_same
      have l12 : Le (bs b F1 H1 σ ρ) (bs b F2 H2 σ ρ) := by
        have n12 : New F1 H1 F2 H2 := ⟨n2.le, n2.le', fun c o h => n2.kp _ _ (by rw [upd_ne (ne_of_none h hp)]; exact h), fun c h => by
          rcases n2.fr c h with h | h
          · exact .inl h
          · by_cases e : c = p
            · rw [e, upd_same] at h
              cases h
            · rw [upd_ne e] at h
              exact .inr h⟩
        exact bs_new s1 n12
      refine ⟨p, k, vs, rfl, rep_int ry, hp2, c.2.1, c.2.2.1, by rw [reps_len r1]; exact c.2.2.2, fun p2 hp3 => q p2 _ F2 H2 (n1'.trans n2) hp3 ⟨_, rfl, reps_rep (Reps.mono l12 _ _ r1) k.toNat⟩⟩
    · cases ed
  · rw [if_neg hz] at q
    exact q.elim
end

/-! ### sorted -/
def ltLe (a c : D) : Bool := PySem.W.dataLe false toP a c
theorem dps_reads {X : Cx} {pins : List (Addr × Obj)} {σ : L2.St} {H : Hp} {s : Shared} (I : Inv X pins σ H s) : ∀ {vs : List V} {us : List Value} {ds : List D}, Vals vs us → DpAll X.K H vs (toPs ds) → PySem.W.EachIs (fun v (z : V × D) => ∃ as, Reads s.heap v (toP z.2) as) us (vs.zip ds) ∧ PySem.W.EachIs (fun v (z : V × D) => RelV z.1 v) us (vs.zip ds)
  | [], us, ds, rv, h => by
    cases rv
    cases ds with
    | nil => exact ⟨.nil, .nil⟩
    | cons d ds => cases h
  | v :: vs, us, ds, rv, h => by
    cases rv with
    | cons r1 r2 =>
      cases ds with
      | nil => cases h
      | cons d ds =>
        cases h with
        | cons h1 h2 =>
          obtain ⟨a, c⟩ := dps_reads I r2 h2
          exact ⟨.cons (Dp.reads I _ _ _ h1 r1) a, .cons r1 c⟩
theorem zip_enc : ∀ {vs : List V} {ds : List D}, vs.length = ds.length → (vs.zip ds).map (fun z => toP z.2) = toPs ds
  | [], [], _ => rfl
  | v :: vs, d :: ds, h => by
    rw [List.zip_cons_cons, List.map_cons, zip_enc (Nat.succ.inj h)]
    rfl
  | [], d :: ds, h => by cases h
  | v :: vs, [], h => by cases h
theorem dpAll_len {K : Fr'} {H : Hp} : ∀ {vs : List V} {ds : List D}, DpAll K H vs (toPs ds) → vs.length = ds.length
  | [], [], _ => rfl
  | v :: vs, d :: ds, h => by
    cases h with
    | cons h1 h2 => exact congrArg Nat.succ (dpAll_len h2)
  | [], d :: ds, h => by cases h
  | v :: vs, [], h => by cases h
theorem each_vals : ∀ {us : List Value} {zs : List (V × D)}, PySem.W.EachIs (fun v (z : V × D) => RelV z.1 v) us zs → Vals (zs.map (·.1)) us
  | _, _, .nil => .nil
  | _, _, .cons h t => .cons h (each_vals t)
def rSortD (K : Fr') : List V → Hp → VK → Prop := fun xs H Q => ∃ a ws ds, xs = [.ref a] ∧ SqL K H a ws ∧ DpAll K H ws (toPs ds) ∧ PySem.W.AllAlike (toPs ds) ∧ PySem.W.Sortable (toPs ds) ∧ (∀ d ∈ ds, (toP d).depth ≤ 64) ∧
  ∀ p, H p = none → Q (.ref p) (upd H p (.lst (((ws.zip ds).mergeSort (PySem.W.dataLe false fun z => toP z.2)).map (·.1))))
theorem cr_sortD {X : Cx} (hu : X.A.units + 200 < cLine) : CallR X (.builtin "sorted") (rSortD X.K) := by
  intro pins s σ H xs us Q I r h
  obtain ⟨a, ws, ds, rfl, hq, hd, ha, hk, hdep, q⟩ := h
  rw [Vals.ref1 r]
  obtain ⟨its, rv, pl, hz⟩ := I.list hq
  obtain ⟨e1, e2⟩ := dps_reads I rv hd
  have hlen := dpAll_len hd
  have ez := zip_enc hlen
  refine PySem.W.sorted_data (R := fun v (z : V × D) => RelV z.1 v) (enc := fun z : V × D => toP z.2) (bs := ws.zip ds) (by simpa using pl.isList) e2 e1 (by rw [ez]; exact ha) (by rw [ez]; exact hk) (by rw [List.length_zip]; omega) (fun z hz => ?_) fun out ho eo => ?_
  · have := hdep z.2 (List.of_mem_zip hz).2
    omega
  · have hv := each_vals eo
    obtain ⟨c, hc⟩ := PyProof.Rows.sortedAll_at s.heap its out.toArray
    have hn : H (s.heap.objs.size + 1) = none := I.hok.fresh (Nat.le_succ _)
    refine ⟨.ref (s.heap.objs.size + 1), _, I.laid (t' := s.toks) (fun b o e => PyProof.Rows.sortedAll_old e) (Nat.le_succ _) ?_, rfl, q _ hn⟩
    refine ⟨?_, out, c, hv, by simpa using hc⟩
    rw [List.length_map, List.length_mergeSort, List.length_zip]
    omega
def isTN : D → Bool
  | .tup (_ :: _) => true
  | _ => false
def notNT : D → Bool
  | .non => false
  | .tup _ => false
  | _ => true
def alikeD (xs : List D) : Bool := xs.all fun x => xs.all fun y => PySem.W.alike (toP x) (toP y)
def sortOk (xs : List D) : Bool := alikeD xs && ((xs.all isTN || xs.all notNT) && SeqAt.shaped (toP (.lst xs)))
def gSorted : List D → Out D
  | [.lst xs] => if sortOk xs = true then .ok (.lst (xs.mergeSort ltLe)) else .bad
  | _ => .bad
theorem mem_toPs {p : PyData} : ∀ {xs : List D}, p ∈ toPs xs → ∃ d ∈ xs, p = toP d
  | [], h => nomatch h
  | x :: xs, h => by
    rcases List.mem_cons.mp h with h | h
    · exact ⟨x, List.mem_cons_self, h⟩
    · obtain ⟨d, h1, h2⟩ := mem_toPs h
      exact ⟨d, List.mem_cons_of_mem _ h1, h2⟩
theorem depth_mem : ∀ {xs : List D} {d : D}, d ∈ xs → (toP d).depth ≤ PyData.depthAll (toPs xs)
  | x :: xs, d, h => by
    unfold toPs PyData.depthAll
    rcases List.mem_cons.mp h with h | h
    · rw [h]
      exact Nat.le_max_left _ _
    · exact Nat.le_trans (depth_mem h) (Nat.le_max_right _ _)
theorem zip_rep {K : Fr'} {F : Hp} : ∀ {xs : List D} {vs : List V}, Reps K F xs vs → ∀ z ∈ vs.zip xs, Rep K F z.2 z.1
  | [], vs, h, z, hz => by simp at hz
  | x :: xs, vs, h, z, hz => by
    obtain ⟨v, r, rfl, h1, h3⟩ := reps_cons h
    rw [List.zip_cons_cons] at hz
    rcases List.mem_cons.mp hz with e | hz
    · rw [e]
      exact h1
    · exact zip_rep h3 z hz
theorem reps_of_pairs {K : Fr'} {F : Hp} : ∀ {zs : List (V × D)}, (∀ z ∈ zs, Rep K F z.2 z.1) → Reps K F (zs.map (·.2)) (zs.map (·.1))
  | [], _ => mk_nil
  | z :: zs, h => mk_cons (h z List.mem_cons_self) (reps_of_pairs fun y hy => h y (List.mem_cons_of_mem _ hy))
theorem p_sorted {K : Fr'} : PureON K (rSortD K) gSorted := by
  intro F H xs ds d Q l rx e k
  unfold gSorted at e
  split at e
  · rename_i ys
    split at e
    · rename_i c
      cases e
      obtain ⟨v, rfl, r⟩ := reps1 rx
      obtain ⟨a, vs, rfl, h1, r1⟩ := rep_lst r
      unfold sortOk at c
      rw [Bool.and_eq_true, Bool.and_eq_true, Bool.or_eq_true] at c
      obtain ⟨c1, c2, c3⟩ := c
      have lay : PyData.canLayAll0 (toPs ys) = true := SeqAt.canLay_of_shaped c3
      have dep : PyData.depth (toP (.lst ys)) ≤ 64 := SeqAt.depth_of_shaped c3
      refine ⟨a, vs, ys, rfl, l.seqL h1, reps_dp l _ _ lay r1, ?_, ?_, ?_, fun p hp => k p _ hp ⟨_, rfl, ?_⟩⟩
      · intro x hx y hy
        obtain ⟨d1, m1, rfl⟩ := mem_toPs hx
        obtain ⟨d2, m2, rfl⟩ := mem_toPs hy
        unfold alikeD at c1
        exact List.all_eq_true.mp (List.all_eq_true.mp c1 d1 m1) d2 m2
      · rcases c2 with c2 | c2
        · refine .inl fun x hx => ?_
          obtain ⟨d1, m1, rfl⟩ := mem_toPs hx
          have h := List.all_eq_true.mp c2 d1 m1
          unfold isTN at h
          split at h
          · exact ⟨_, _, rfl⟩
          · cases h
        · refine .inr fun x hx => ?_
          obtain ⟨d1, m1, rfl⟩ := mem_toPs hx
          have h := List.all_eq_true.mp c2 d1 m1
          cases d1 <;> first | (cases h; done) | exact ⟨fun z => (nomatch z), fun _ z => (nomatch z)⟩
      · intro d1 m1
        have h2 := depth_mem m1
        have h3 : PyData.depth (toP (.lst ys)) = PyData.depthAll (toPs ys) + 1 := by
          show PyData.depth (.list (toPs ys)) = _
          simp only [PyData.depth]
        omega
      · have h := reps_of_pairs (K := K) (F := F) (zs := (vs.zip ys).mergeSort (PySem.W.dataLe false fun z : V × D => toP z.2)) fun z hz => zip_rep r1 z ((List.mergeSort_perm _ _).mem_iff.mp hz)
        have e2 : ((vs.zip ys).mergeSort (PySem.W.dataLe false fun z : V × D => toP z.2)).map (·.2) = ys.mergeSort ltLe := by
          rw [List.map_mergeSort (s := ltLe)]
          · rw [List.map_snd_zip (by rw [reps_len r1]; exact Nat.le_refl _)]
          · intro x _ y _
            rfl
        rw [e2] at h
        exact h
    · cases e
  · cases e
end VL

/-! V15: dicts: looked up, walked, made by a comprehension. -/
namespace VL
open PySem PySem.Spec L2

/-! ### pairs by keys -/
def keyQ : D → Option Key
  | .int i => some (.inl i)
  | .str x => some (.inr x)
  | _ => none
theorem keyQ_some {d : D} {q : Key} (h : keyQ d = some q) : d = keyD q := by
  cases d <;> first | (cases h; done) | skip
  all_goals
    cases h
    rfl
theorem keyQ_keyD (q : Key) : keyQ (keyD q) = some q := by cases q <;> rfl
theorem keyD_inj {p q : Key} (h : keyD p = keyD q) : p = q := Option.some.inj ((keyQ_keyD p).symm.trans ((congrArg keyQ h).trans (keyQ_keyD q)))
def keyEq (a c : D) : Bool := match keyQ a, keyQ c with
  | some p, some q => decide (p = q)
  | _, _ => false
theorem keyEq_of {p q : Key} : keyEq (keyD p) (keyD q) = decide (p = q) := by
  unfold keyEq
  rw [keyQ_keyD, keyQ_keyD]
def lookD : List D → D → Option D
  | .tup [k, d] :: xs, j => if keyEq k j = true then some d else lookD xs j
  | _, _ => none
def keysD : List D → List D
  | .tup [k, _] :: xs => k :: keysD xs
  | _ => []
def valsD : List D → List D
  | .tup [_, d] :: xs => d :: valsD xs
  | _ => []
def putD : List D → D → D → List D
  | .tup [k, d] :: xs, j, e => if keyEq k j = true then .tup [k, e] :: xs else .tup [k, d] :: putD xs j e
  | _, j, e => [.tup [j, e]]
theorem repK_cons {K : Fr'} {F : Hp} {x : D} {xs : List D} {kvs : List (Key × V)} (h : RepK K F (x :: xs) kvs) : ∃ d q v r, x = .tup [keyD q, d] ∧ kvs = (q, v) :: r ∧ Rep K F d v ∧ RepK K F xs r := by
  match x, h with
  | .tup [k, d], h =>
    unfold RepK at h
    obtain ⟨q, v, r, e, e2, h1, h2⟩ := h
    exact ⟨d, q, v, r, by rw [e2], e, h1, h2⟩
  | .non, h => unfold RepK at h; exact h.elim
  | .bl _, h => unfold RepK at h; exact h.elim
  | .int _, h => unfold RepK at h; exact h.elim
  | .str _, h => unfold RepK at h; exact h.elim
  | .lst _, h => unfold RepK at h; exact h.elim
  | .dic _, h => unfold RepK at h; exact h.elim
  | .dit _, h => unfold RepK at h; exact h.elim
  | .tup [], h => unfold RepK at h; exact h.elim
  | .tup [_], h => unfold RepK at h; exact h.elim
  | .tup (_ :: _ :: _ :: _), h => unfold RepK at h; exact h.elim
theorem repK_nil {K : Fr'} {F : Hp} {kvs : List (Key × V)} (h : RepK K F [] kvs) : kvs = [] := by unfold RepK at h; exact h
theorem mkK_nil {K : Fr'} {F : Hp} : RepK K F [] [] := by unfold RepK; rfl
theorem mkK_cons {K : Fr'} {F : Hp} {d : D} {q : Key} {v : V} {xs : List D} {r : List (Key × V)} (h1 : Rep K F d v) (h2 : RepK K F xs r) : RepK K F (.tup [keyD q, d] :: xs) ((q, v) :: r) := by
  unfold RepK
  exact ⟨q, v, r, rfl, rfl, h1, h2⟩
theorem repK_len {K : Fr'} {F : Hp} : ∀ {xs : List D} {kvs : List (Key × V)}, RepK K F xs kvs → kvs.length = xs.length
  | [], kvs, h => by rw [repK_nil h]; rfl
  | x :: xs, kvs, h => by
    obtain ⟨d, q, v, r, rfl, rfl, h1, h2⟩ := repK_cons h
    exact congrArg Nat.succ (repK_len h2)
theorem lookD_ok {K : Fr'} {F : Hp} {j : Key} : ∀ {xs : List D} {kvs : List (Key × V)}, RepK K F xs kvs → (∀ d, lookD xs (keyD j) = some d → ∃ v, valV kvs j = some v ∧ Rep K F d v) ∧ (lookD xs (keyD j) = none → valV kvs j = none)
  | [], kvs, h => by
    rw [repK_nil h]
    exact ⟨fun d e => (nomatch e), fun _ => rfl⟩
  | x :: xs, kvs, h => by
    obtain ⟨d, q, v, r, rfl, rfl, h1, h2⟩ := repK_cons h
    have ih := lookD_ok (j := j) h2
    unfold lookD
    rw [keyEq_of]
    by_cases e : q = j
    · rw [if_pos (decide_eq_true e), valV_pos e]
      exact ⟨fun d' e' => ⟨v, rfl, by cases e'; exact h1⟩, fun z => by cases z⟩
    · rw [if_neg (by simpa using e), valV_neg e]
      exact ih
theorem putK_map {kvs : List (Key × V)} {j : Key} {v : V} (h : ∀ p ∈ kvs, p.1 ≠ j) : kvs.map (fun kv => if kv.1 = j then (kv.1, v) else kv) = kvs := by
  induction kvs with
  | nil => rfl
  | cons p r ih =>
    rw [List.map_cons, if_neg (h p List.mem_cons_self), ih fun q hq => h q (List.mem_cons_of_mem _ hq)]
theorem putK_cons_ne {p : Key × V} {r : List (Key × V)} {j : Key} {v : V} (e : ¬ p.1 = j) : putK (p :: r) j v = p :: putK r j v := by
  unfold putK
  rw [List.any_cons, show decide (p.1 = j) = false from decide_eq_false e, Bool.false_or]
  split
  · rw [List.map_cons, if_neg e]
  · rfl
theorem putK_cons_eq {p : Key × V} {r : List (Key × V)} {j : Key} {v : V} (e : p.1 = j) (nd : ∀ q ∈ r, q.1 ≠ j) : putK (p :: r) j v = (p.1, v) :: r := by
  unfold putK
  rw [List.any_cons, show decide (p.1 = j) = true from decide_eq_true e, Bool.true_or, if_pos rfl, List.map_cons, if_pos e, putK_map nd]
/-- keys are different -/
def ndK (xs : List D) : Bool := match xs with
  | .tup [k, _] :: r => (lookD r k).isNone && ndK r
  | _ => true
theorem lookD_none {K : Fr'} {F : Hp} {j : Key} {xs : List D} {kvs : List (Key × V)} (h : RepK K F xs kvs) (e : lookD xs (keyD j) = none) : ∀ p ∈ kvs, p.1 ≠ j := fun p hp z => by
  have h1 := (lookD_ok (j := j) h).2 e
  unfold valV at h1
  rw [Option.map_eq_none_iff] at h1
  have h2 := List.find?_eq_none.mp h1 p hp
  exact h2 (decide_eq_true z)
theorem putD_ok {K : Fr'} {F : Hp} {j : Key} {e : D} {v : V} (he : Rep K F e v) : ∀ {xs : List D} {kvs : List (Key × V)}, ndK xs = true → RepK K F xs kvs → RepK K F (putD xs (keyD j) e) (putK kvs j v)
  | [], kvs, _, h => by
    rw [repK_nil h]
    exact mkK_cons he mkK_nil
  | x :: xs, kvs, nd, h => by
    obtain ⟨d, q, w, r, rfl, rfl, h1, h2⟩ := repK_cons h
    unfold ndK at nd
    rw [Bool.and_eq_true, Option.isNone_iff_eq_none] at nd
    unfold putD
    rw [keyEq_of]
    by_cases c : q = j
    · rw [if_pos (decide_eq_true c), putK_cons_eq (p := (q, w)) c (by rw [← c]; exact lookD_none h2 nd.1)]
      exact mkK_cons he h2
    · rw [if_neg (by simpa using c), putK_cons_ne (p := (q, w)) c]
      exact mkK_cons h1 (putD_ok he nd.2 h2)
theorem putD_len : ∀ (xs : List D) (j e : D), (putD xs j e).length ≤ xs.length + 1
  | [], _, _ => Nat.le_refl _
  | .tup [k, d] :: xs, j, e => by
    unfold putD
    split
    · exact Nat.le_succ _
    · exact Nat.succ_le_succ (putD_len xs j e)
  | .non :: _, _, _ => by unfold putD; exact Nat.succ_le_succ (Nat.zero_le _)
  | .bl _ :: _, _, _ => by unfold putD; exact Nat.succ_le_succ (Nat.zero_le _)
  | .int _ :: _, _, _ => by unfold putD; exact Nat.succ_le_succ (Nat.zero_le _)
  | .str _ :: _, _, _ => by unfold putD; exact Nat.succ_le_succ (Nat.zero_le _)
  | .lst _ :: _, _, _ => by unfold putD; exact Nat.succ_le_succ (Nat.zero_le _)
  | .dic _ :: _, _, _ => by unfold putD; exact Nat.succ_le_succ (Nat.zero_le _)
  | .dit _ :: _, _, _ => by unfold putD; exact Nat.succ_le_succ (Nat.zero_le _)
  | .tup [] :: _, _, _ => by unfold putD; exact Nat.succ_le_succ (Nat.zero_le _)
  | .tup [_] :: _, _, _ => by unfold putD; exact Nat.succ_le_succ (Nat.zero_le _)
  | .tup (_ :: _ :: _ :: _) :: _, _, _ => by unfold putD; exact Nat.succ_le_succ (Nat.zero_le _)

/-! ### {k: v for x in xs} -/
def cmpD (vs : List Nat) (g : D → Env' → Out Env') (t : Env' → Out Bool) (fk fv : Env' → Out D) (ρ : Env') : List D → List D → Out (List D)
  | [], acc => .ok acc
  | x :: xs, acc => (noX (g x (wipeE ρ vs))).bind fun ρ1 => (noX (t ρ1)).bind fun c => if c = true then (noX (fk ρ1)).bind fun k => (noX (fv ρ1)).bind fun d => if (keyQ k).isSome = true ∧ ndK acc = true then cmpD vs g t fk fv ρ xs (putD acc k d) else .bad else cmpD vs g t fk fv ρ xs acc
def rDc (it : Env' → Out (List D)) (vs : List Nat) (g : D → Env' → Out Env') (t : Env' → Out Bool) (fk fv : Env' → Out D) : Env' → Out D := fun ρ => (it ρ).bind fun xs => if xs.length ≤ sizeLine then (noX (cmpD vs g t fk fv ρ xs [])).bind fun ds => .ok (.dic ds) else .bad
section
variable {K : Fr'} {mg : MG} {W : WX} {it : Env' → Out (List D)} {vs sl : List Nat} {g : D → Env' → Out Env'} {t : Env' → Out Bool} {fk fv : Env' → Out D}
theorem dc_read (hsl : ∀ i, i ∈ sl → i ∈ vs) : ∀ σ H Q, tO K mg W false (rDc it vs g t fk fv) σ H Q → tDc (iR K mg W false it) (gM K sl g) (tRT K mg W0 t) (tR K mg W0 false fk) (tR K mg W0 false fv) vs σ H Q := by
  rintro σ H Q ⟨F, ρ, s, q⟩
  refine ⟨F, ρ, s, on_imp (on_bind q) (fun xs exs q J F0 H0 n0 it => ?_) fun _ _ _ q => q⟩
  have s0 := s.new n0
  by_cases hl : xs.length ≤ sizeLine
  · rw [if_pos hl] at q
    obtain ⟨ds, eds, q⟩ := noX_on (on_bind q)
    intro D hD
    have nD : ¬ Owned σ ρ D := fun w => by
      obtain ⟨o, ho⟩ := s0.owned_some w
      rw [hD] at ho
      cases ho
    refine ⟨fun i m H1 => m = xs.length - i ∧ i ≤ xs.length ∧ ∃ F1 acc accV, St2 K F1 H1 σ ρ ∧ New F0 H0 F1 H1 ∧ F1 D = none ∧ H1 D = some (.dK accV) ∧ RepK K F1 acc accV ∧ acc.length ≤ i ∧ cmpD vs g t fk fv ρ (xs.drop i) acc = .ok ds,
      ⟨xs.length, by omega, Nat.zero_le _, F0, [], [], s0.side (s0.le.none hD) nD, ⟨Le.refl _, s0.le.updR (s0.le.none hD), fun b o h => by
        rw [upd_ne (ne_of_none h hD)]
        exact h, fun b h => .inl h⟩, s0.le.none hD, upd_same, mkK_nil, Nat.le_refl _, eds⟩, ?_⟩
    rintro i m H1 ⟨rfl, hi, F1, acc, accV, s1, n1, fD, hD1, r1, hacc, e1⟩
    have k1 : Kept (bs false F0 H0 σ ρ) H0 H1 := fun b o _ h => n1.kp b o h
    by_cases hlt : i < xs.length
    · rw [drop_cons hlt] at e1
      obtain ⟨ρ2, eρ, e1⟩ := bind_ok e1
      obtain ⟨c, ec, e1⟩ := bind_ok e1
      refine .inr ⟨it.go F1 H1 i n1.le s1.le k1 hlt, fun H2 => i + 1 ≤ xs.length ∧ ∃ F1 acc2 accV, St2 K F1 H2 σ ρ ∧ New F0 H0 F1 H2 ∧ F1 D = none ∧ H2 D = some (.dK accV) ∧ RepK K F1 acc2 accV ∧ acc2.length ≤ i + 1 ∧ cmpD vs g t fk fv ρ (xs.drop (i + 1)) acc2 = .ok ds,
        fun H2 h2 => ⟨xs.length - (i + 1), by omega, rfl, h2⟩, fun v H2 hy => ?_⟩
      obtain ⟨F2, n2, r2⟩ := it.yld F1 H1 i xs[i] v H2 n1.le s1.le k1 (List.getElem?_eq_getElem hlt) hy
      have s2 := (s1.new n2)
      refine ⟨F2, wipeE ρ vs, _, s2.wipe vs, r2, on_ok (noX_ok_inv eρ) fun σ3 s3 o3 w3 => ⟨wipe_eq o3 hsl, F2, ρ2, s3, on_ok (noX_ok_inv ec) fun F4 H4 n4 => ?_⟩⟩
      have n14 := n2.trans n4
      have gone : ∀ {F' H' : Hp}, New F1 H1 F' H' → F' D = none := fun {F' H'} n => by
        cases z : F' D with
        | none => rfl
        | some u =>
          rcases n.fr D (by rw [z]; exact Option.some_ne_none _) with w | w
          · exact absurd fD w
          · rw [hD1] at w
            cases w
      cases c with
      | true =>
        rw [if_pos rfl] at e1
        refine iteT ?_
        obtain ⟨kd, ek, e1⟩ := bind_ok e1
        obtain ⟨d, ed, e1⟩ := bind_ok e1
        split at e1
        · rename_i ck
          obtain ⟨kq, hkq⟩ := Option.isSome_iff_exists.mp ck.1
          have hkd := keyQ_some hkq
          subst hkd
          refine ⟨F4, ρ2, s3.new n4, on_ok (noX_ok_inv ek) fun y5 F5 H5 n5 r5 => ⟨F5, ρ2, (s3.new n4).new n5, on_ok (noX_ok_inv ed) fun z6 F6 H6 n6 r6 => ?_⟩⟩
          have n16 := (n14.trans n5).trans n6
          have f6D := gone n16
          have s6 : St2 K F6 H6 σ ρ := s1.new n16
          have n06 := n1.trans n16
          refine ⟨accV, kq, ?_, n16.kp _ _ hD1, by rw [repK_len r1]; omega, hlt, F6, _, _, s6.side f6D nD, ⟨n06.le, s6.le.updR f6D, fun b o h => by
            rw [upd_ne (ne_of_none h hD)]
            exact n06.kp b o h, n06.fr⟩, f6D, upd_same, putD_ok r6 ck.2 (RepK.mono n16.le _ _ r1), ?_, e1⟩
          · cases kq with
            | inl i => exact rep_int r5
            | inr x => exact rep_str r5
          · exact Nat.le_trans (putD_len _ _ _) (Nat.succ_le_succ hacc)
        · cases e1
      | false =>
        rw [if_neg Bool.false_ne_true] at e1
        refine iteF ?_
        exact ⟨hlt, F4, acc, accV, s1.new n14, n1.trans n14, gone n14, n14.kp _ _ hD1, RepK.mono n14.le _ _ r1, by omega, e1⟩
    · have e : i = xs.length := by omega
      subst e
      rw [List.drop_length] at e1
      cases e1
      refine .inl ⟨it.stop F1 H1 _ n1.le s1.le k1 (Nat.le_refl _), ?_⟩
      have n2 : New F H F1 (del H1 D) := by
        have n3 := n0.trans n1
        refine ⟨n3.le, fun a u h => ?_, fun b o h => ?_, n3.fr⟩
        · have ha : a ≠ D := fun z => by
            subst z
            rcases h with h | ⟨o, h⟩ <;> rw [fD] at h <;> cases h
          exact Rd.congr (del_ne ha).symm (s1.le a u h)
        · rw [del_ne (ne_of_none (n0.kp b o h) hD)]
          exact n3.kp b o h
      have := q D (.dK accV) F1 (del H1 D) n2 del_same ⟨accV, rfl, r1⟩
      rw [del_upd hD1] at this
      exact this
  · rw [if_neg hl] at q
    exact q.elim
end
section
variable {X : Cx} {W : WX} {kx vx tg iter : Expr} {ifs : List Expr} {scope : Scope} {own : List (Str × Nat)} {pos : Pos} {sl : List Nat} {it : Env' → Out (List D)} {g : D → Env' → Out Env'} {t : Env' → Out Bool} {fk fv : Env' → Out D}
theorem SO.dc (hc : X.calm = true) (hN : X.N.Nodup) (hi : SI false X W tg iter it) (ok : BlkOk X.N X.env.scope scope own)
    (hg : ∀ (s : Shared) (H : Hp) (C : Addr) (cl : List (Str × Addr)) (fp : List Addr), SG (X.blk s H scope (compEnvC scope cl C X.env) fp) sl tg g)
    (ht : ∀ (s : Shared) (H : Hp) (C : Addr) (cl : List (Str × Addr)) (fp : List Addr), STs (X.blk s H scope (compEnvC scope cl C X.env) fp) W0 ifs t)
    (hk : ∀ (s : Shared) (H : Hp) (C : Addr) (cl : List (Str × Addr)) (fp : List Addr), SR false (X.blk s H scope (compEnvC scope cl C X.env) fp) W0 kx fk)
    (he : ∀ (s : Shared) (H : Hp) (C : Addr) (cl : List (Str × Addr)) (fp : List Addr), SR false (X.blk s H scope (compEnvC scope cl C X.env) fp) W0 vx fv) (hsl : ∀ i, i ∈ sl → i ∈ own.map (·.2) := by decide) (hs : ∀ x, foldedSetIterable iter X.env x = pure x := by intro _; rfl) :
    SO false X W (.DictComp kx vx [⟨tg, iter, ifs, 0⟩] scope pos) (rDc it (own.map (·.2)) g t fk fv) :=
  SO.imp (pe_dc hc hN hi.pi ok (fun s H C cl fp => (hg s H C cl fp).pg) (fun s H C cl fp => (ht s H C cl fp).pt) (fun s H C cl fp => (hk s H C cl fp).pe) (fun s H C cl fp => (he s H C cl fp).pe) hs) (dc_read hsl)
/-- y = {..} on one line, y a plain local name -/
theorem S1.dcO (i : Nat) {y : Str} {py spos : Pos} {prot : List Nat} (hc : X.calm = true) (hN : X.N.Nodup) (hi : SI false X W tg iter it) (ok : BlkOk X.N X.env.scope scope own)
    (hg : ∀ (s : Shared) (H : Hp) (C : Addr) (cl : List (Str × Addr)) (fp : List Addr), SG (X.blk s H scope (compEnvC scope cl C X.env) fp) sl tg g)
    (ht : ∀ (s : Shared) (H : Hp) (C : Addr) (cl : List (Str × Addr)) (fp : List Addr), STs (X.blk s H scope (compEnvC scope cl C X.env) fp) W0 ifs t)
    (hk : ∀ (s : Shared) (H : Hp) (C : Addr) (cl : List (Str × Addr)) (fp : List Addr), SR false (X.blk s H scope (compEnvC scope cl C X.env) fp) W0 kx fk)
    (he : ∀ (s : Shared) (H : Hp) (C : Addr) (cl : List (Str × Addr)) (fp : List Addr), SR false (X.blk s H scope (compEnvC scope cl C X.env) fp) W0 vx fv) (hyl : X.env.scope.names.lookup y = some .local)
    (hsw : swapsWith (.DictComp kx vx [⟨tg, iter, ifs, 0⟩] scope pos) (some (.Name y py)) spos.line X.env = pure true) (hp : i ∉ prot := by decide) (hy : X.N[i]? = some y := by rfl) (hsl : ∀ i, i ∈ sl → i ∈ own.map (·.2) := by decide) (hs : ∀ x, foldedSetIterable iter X.env x = pure x := by intro _; rfl) :
    S1 X W prot (.Assign [.Name y py] (.DictComp kx vx [⟨tg, iter, ifs, 0⟩] scope pos) spos) (sOwn false (rDc it (own.map (·.2)) g t fk fv) i) := by
  refine ⟨⟨fun pins s0 σ H D0 I h => ?_⟩⟩
  obtain ⟨F, ρ, s, q⟩ := h
  rw [PySem.exec_Assign_Name_used _ _ _ _ hsw]
  refine wpAny_bind (wpAny_standAt (wpAny_bind ?_))
  have h : tDc (iR X.K X.mg W false it) (gM X.K sl g) (tRT X.K X.mg W0 t) (tR X.K X.mg W0 false fk) (tR X.K X.mg W0 false fv) (own.map (·.2)) σ H (fun x H1 => gName i x σ H1 D0.nx) :=
    dc_read hsl σ H _ ⟨F, ρ, s, on_imp (on_bind q) (fun d ed q p o F1 H1 n hp' c => by
      split at q
      · rename_i w
        have ⟨s2, p2⟩ := own_ok s n hp' (b := false) c w i
        exact q _ F1 _ s2 p2 (Fix.set hp)
      · exact q.elim) fun _ _ _ q => q⟩
  show wpAny _ X.A (do let _ ← comprehension (.DictComp kx vx [⟨tg, iter, ifs, 0⟩] scope pos) scope X.env (firstIterPos [⟨tg, iter, ifs, 0⟩] pos) newDict false (eval iter X.env) (some (assign (.Name y py) X.env))) _ _ s0
  refine wpAny_bind (thn (dc_core (Qf := fun _ s' => SP X pins D0 .next s') hc hN I hi.pi ok (fun s H C cl fp => (hg s H C cl fp).pg) (fun s H C cl fp => (ht s H C cl fp).pt) (fun s H C cl fp => (hk s H C cl fp).pe) (fun s H C cl fp => (he s H C cl fp).pe) hs h fun L C s' m H' I' q hn f => ?_) fun _ s' hq => wpAny_pure (wpAny_pure hq))
  show wpAny _ _ (assign (.Name y py) X.env (.ref L)) _ _ _
  refine wpAny_assign_Name (store_ok2 (v := V.ref L) I' hN hy (.inl hyl) rfl (fun s2 I2 ⟨a, sb, ha⟩ => ?_) (.inr hyl))
  obtain ⟨g0, g1, g2, g3, g4, g5⟩ := f
  have hCa : C ≠ a := ha.elim (fun z => by rw [z]; exact g1) fun z e => g4 y a z e.symm
  exact ⟨m, hn.sameBut sb hCa, fun h3 sb3 => ⟨_, H', I2.turned (t' := s2.toks) (fun b o hb e => (sb3.2 b hb).trans e) g0 g1 g3 g4 g5, q⟩⟩
theorem sw_trueD {kx vx : Expr} {gs : List Comprehension} {scope : Scope} {pos py : Pos} {y : Str} {l : Nat} {env : Env} (hk : env.scope.kind = .function) (hy : env.scope.names.lookup y = some .local) (hl : (py.line == pos.line) = true)
    (ha : (scope.names.any fun (n, k) => n == y && (k == .local || k == .cell)) = false) : swapsWith (.DictComp kx vx gs scope pos) (some (.Name y py)) l env = pure true := by
  have h1 : env.kindOf y = some .local := hy
  have h2 : env.blockKind = .function := by unfold Env.blockKind; rw [hk]; rfl
  unfold swapsWith
  simp only [h2, h1, ha, Expr.pos, hl]
  rfl
end
end VL

/-! V16: the keys of a dict walked in a comprehension; dicts looked up. -/
namespace VL
open PySem PySem.Spec L2

theorem Co.monoC {K : Fr'} {F F' : Hp} (l : LeC F F') : ∀ {d : D} {o : HO}, Co K F d o → Co K F' d o
  | .lst xs, o, ⟨vs, e, r⟩ => ⟨vs, e, Reps.monoC l _ _ r⟩
  | .dic xs, o, ⟨vs, e, r⟩ => ⟨vs, e, RepK.monoC l _ _ r⟩
  | .dit xs, o, ⟨vs, e, r⟩ => ⟨vs, e, RepT.monoC l _ _ r⟩
section
variable {X : Cx} {e : Expr} {t t' : TE}
theorem PE.or (h : PE X e t) (h' : PE X e t') : PE X e (fun σ H Q => t σ H Q ∨ t' σ H Q) := ⟨fun pins s σ H Q I q => q.elim (h.run pins s σ H Q I) (h'.run pins s σ H Q I)⟩
end
/-- a frozen dict, unlocked or locked -/
theorem it_keys {K : Fr'} {F H0 : Hp} {a : Addr} {o : Obj} {kvs : List (Key × V)} {xs : List D} (hF : F a ≠ none) (h : H0 a = some (.frz o (.dK kvs))) (r : RepK K F xs kvs) : ItOk K F H0 (Itk a o kvs) (keysD xs) := by
  have len : (keysD xs).length = kvs.length := by
    have : ∀ (xs : List D) (kvs : List (Key × V)), RepK K F xs kvs → (keysD xs).length = kvs.length := fun xs => by
      induction xs with
      | nil =>
        intro kvs h
        rw [repK_nil h]
        rfl
      | cons x xs ih =>
        intro kvs h
        obtain ⟨d, q, v, r, rfl, rfl, h1, h2⟩ := repK_cons h
        exact congrArg Nat.succ (ih r h2)
    exact this _ _ r
  have get : ∀ (xs : List D) (kvs : List (Key × V)) (i : Nat) (d : D), RepK K F xs kvs → (keysD xs)[i]? = some d → ∃ q v, kvs[i]? = some (q, v) ∧ d = keyD q := fun xs => by
    induction xs with
    | nil =>
      intro kvs i d h e
      simp [keysD] at e
    | cons x xs ih =>
      intro kvs i d h e
      obtain ⟨d', q, v, r, rfl, rfl, h1, h2⟩ := repK_cons h
      cases i with
      | zero =>
        cases e
        exact ⟨q, v, rfl, rfl⟩
      | succ i => exact ih r i d h2 e
  exact
  { go := fun G H i l l2 k hi => ⟨k a _ hF h, by rw [← len]; exact hi⟩
    stop := fun G H i l l2 k hi => ⟨k a _ hF h, by rw [← len]; exact hi⟩
    yld := fun G H i d v H' l l2 k hd y => by
      obtain ⟨rfl, q, w, hq, rfl⟩ := y
      obtain ⟨q', w', h1, rfl⟩ := get _ _ _ _ r hd
      rw [hq] at h1
      cases h1
      refine ⟨G, New.refl l2, ?_⟩
      cases q with
      | inl i => exact mk_int
      | inr x => exact mk_str }
def iKs (f : Env' → Out D) : Env' → Out (List D) := fun ρ => (f ρ).bind fun d => match d with
  | .dic xs => .ok (keysD xs)
  | _ => .bad
section
variable {K : Fr'} {mg : MG} {W : WX} {vs sl : List Nat} {g : D → Env' → Out Env'} {t : Env' → Out Bool} {f : Env' → Out D}
/-- the reading of a comprehension over the keys of the dict at place i -/
theorem lcK_read (i : Nat) (hsl : ∀ i, i ∈ sl → i ∈ vs) : ∀ σ H Q, tO K mg W false (rLc (iKs (rv false i)) vs g t f) σ H Q →
    (tLockE (tLc (iKeys (tVar i)) (gM K sl g) (tRT K mg W0 t) (tR K mg W0 false f) vs) σ H Q ∨ tLc (iKeys (tVar i)) (gM K sl g) (tRT K mg W0 t) (tR K mg W0 false f) vs σ H Q) := by
  rintro σ H Q ⟨F, ρ, s, q⟩
  unfold rLc iKs at q
  cases e : rv false i ρ with
  | bad => rw [e] at q; exact q.elim
  | exc c fs =>
    unfold rv at e
    split at e <;> first | (cases e; done) | (split at e <;> cases e)
  | ok d =>
    rw [e] at q
    cases d <;> first | (exact q.elim) | skip
    rename_i xs
    have hi : ρ[i]? = some (Cell.val (.dic xs)) := by
      unfold rv at e
      split at e
      · rename_i d hd
        cases e
        exact hd
      · rename_i d hd
        rw [if_neg Bool.false_ne_true] at e
        cases e
      · cases e
    have q : (if (keysD xs).length ≤ sizeLine then (noX (cmpL vs g t f ρ (keysD xs))).bind fun ds => .ok (.lst ds) else .bad : Out D).on (fun d => ∀ p o F' H', New F H F' H' → H' p = none → Co K (bs false F' H' σ ρ) d o → Q (.ref p) (upd H' p o)) (ExM mg W σ ρ F H) := q
    by_cases hl : (keysD xs).length ≤ sizeLine
    · rw [if_pos hl] at q
      obtain ⟨ds, eds, q⟩ := noX_on (on_bind q)
      obtain ⟨v, ev, r⟩ := s.val i _ hi
      unfold Rep at r
      obtain ⟨a, kvs, rfl, hF, rk⟩ := r
      · have hF0 : F a ≠ none := fun z => by rcases hF with h | ⟨o, h⟩ <;> rw [z] at h <;> cases h
        have na : ¬ Owned σ ρ a := fun z => hF0 (s.owned_none z)
        rcases s.le a _ hF with hH | ⟨o, hH⟩
        · -- locked for the while
          refine .inl ⟨a, .dK kvs, hH, True.intro, fun od => ?_⟩
          have hFa : F a = some (.dK kvs) := by
            rcases hF with h | ⟨o, h⟩
            · exact h
            · rcases s.le a _ (.inl h) with w | ⟨o2, w⟩ <;> rw [hH] at w <;> cases w
          have lL : ∀ {G G' : Hp}, Le G G' → (∀ w, Rd G a w → w = .dK kvs) → Le G (upd G' a (.frz od (.dK kvs))) := fun {G G'} l hw b w h => by
            by_cases z : b = a
            · subst z
              rw [hw w h]
              exact .inr ⟨od, upd_same⟩
            · exact Rd.congr (upd_ne z).symm (l b w h)
          have hw : ∀ w, Rd F a w → w = .dK kvs := fun w h => by
            rcases h with h | ⟨o, h⟩
            · rw [hFa] at h
              exact (Option.some.inj h).symm
            · rw [hFa] at h
              cases h
          have sL : St2 K F (upd H a (.frz od (.dK kvs))) σ ρ := ⟨lL s.le hw, s.len, s.val, fun j d hj => by
            obtain ⟨p, u, e1, ho, hn, c⟩ := s.own j d hj
            refine ⟨p, u, e1, ?_, hn, c⟩
            rw [upd_ne fun (z : p = a) => na ⟨j, d, hj, by rw [← z]; exact e1⟩]
            exact ho, s.sep⟩
          refine ⟨_, ev, a, od, rfl, .inl ⟨kvs, upd_same, lc_body (mg := mg) (Q := fun v H' => H' a = some (.frz od (.dK kvs)) ∧ Q v (upd H' a (.dK kvs))) hsl sL (it_keys hF0 upd_same rk) hl eds fun p o F' H' n hp c => ?_⟩⟩
          have hH'a : H' a = some (.frz od (.dK kvs)) := n.kp _ _ upd_same
          have pa : p ≠ a := fun z => by rw [z, hH'a] at hp; cases hp
          have hF'w : ∀ w, Rd F' a w → w = .dK kvs ∨ w = .frz od (.dK kvs) := fun w h => by
            rcases n.le' a w h with h | ⟨o2, h⟩
            · rw [hH'a] at h
              exact .inr (Option.some.inj h).symm
            · rw [hH'a] at h
              cases h
              exact .inl rfl
          have hF'a : Rd F' a (.dK kvs) := n.le a _ (.inl hFa)
          refine ⟨by rw [upd_ne (Ne.symm pa)]; exact hH'a, ?_⟩
          have eu : upd (upd H' p o) a (.dK kvs) = upd (upd H' a (.dK kvs)) p o := by
            funext b
            by_cases z : b = a
            · subst z
              rw [upd_same, upd_ne (Ne.symm pa), upd_same]
            · rw [upd_ne z]
              by_cases y : b = p
              · subst y
                rw [upd_same, upd_same]
              · rw [upd_ne y, upd_ne y, upd_ne z]
          rw [eu]
          refine q p o (upd F' a (.dK kvs)) (upd H' a (.dK kvs)) ⟨fun b w h => ?_, fun b w h => ?_, fun b u h => ?_, fun b h => ?_⟩ (by rw [upd_ne pa]; exact hp) (Co.monoC (fun b w nz h => ?_) c)
          · by_cases z : b = a
            · subst z
              rw [hw w h]
              exact .inl upd_same
            · exact Rd.congr (upd_ne z).symm (n.le b w h)
          · by_cases z : b = a
            · subst z
              exact Rd.congr (upd_same.trans upd_same.symm) h
            · exact Rd.congr (upd_ne z).symm (n.le' b w (Rd.congr (upd_ne z) h))
          · by_cases z : b = a
            · subst z
              rw [upd_same, ← h, hH]
            · rw [upd_ne z]
              exact n.kp b u (by rw [upd_ne z]; exact h)
          · by_cases z : b = a
            · subst z
              exact .inl hF0
            · rw [upd_ne z] at h
              rcases n.fr b h with h | h
              · exact .inl h
              · rw [upd_ne z] at h
                exact .inr h
          · by_cases z : b = a
            · subst z
              rcases hF'w w h with h | h
              · rw [h]
                exact .inl upd_same
              · rw [h] at nz
                exact nz.elim
            · exact Rd.congr (upd_ne z).symm h
        · -- it is locked already
          exact .inr ⟨_, ev, a, o, rfl, .inl ⟨kvs, hH, lc_body (mg := mg) (Q := Q) hsl s (it_keys hF0 hH rk) hl eds fun p o F' H' n hp c => q p o F' H' n hp c⟩⟩
    · rw [if_neg hl] at q
      exact q.elim
end
end VL

/-! V17: sets of ints and texts that are only sorted or counted. -/
namespace VL
open PySem PySem.Spec L2 PyProof.Rows

def keyF : Value → Key
  | .int k _ => .inl k
  | .str x _ => .inr x
  | _ => .inl 0
theorem keyF_is {P : Program} {w : World} {k : Key} {v : Value} (h : (mixKind P w).is k v = true) : keyF v = k := by
  rcases keyIs_shape h with ⟨i, t, rfl, rfl⟩ | ⟨x, t, rfl, rfl⟩ <;> rfl
theorem keyF_sc {P : Program} {w : World} {k : Key} {v : Value} (h : (mixKind P w).is k v = true) : v.scannable = true := by
  rcases keyIs_shape h with ⟨i, t, rfl, rfl⟩ | ⟨x, t, rfl, rfl⟩ <;> rfl
def kfE (e : Int × Value) : Key := keyF e.2
/-- a set of keys, its table fit to be walked -/
structure SetMr (P : Program) (w : World) (h : Heap) (a : Addr) (ks : List Key) : Prop where
  ex : ∃ (o : Obj) (es : Array (Int × Value)) (ep : Nat) (t : SetTable), h.get? a = some o ∧ o.ExactSet ∧ o.data = .set es ep t ∧ ElemsOf (mixKind P w) es.toList ∧ (es.toList.map kfE).Perm ks ∧ ks.Nodup ∧
    es.size < scanBound ∧ t.fits es.size = true ∧ L2.Ris t.place.toList ∧ (w.params.followText "set-order" = true ∨ t.led = true)
section
variable {P : Program} {w : World} {h h' : Heap} {a : Addr} {ks : List Key} {A : Around} {E : Value → Shared → Prop} {s : Shared}
theorem SetMr.at (R : SetMr P w h a ks) (k : ∀ o, h.get? a = some o → h'.get? a = some o) : SetMr P w h' a ks := by
  obtain ⟨o, es, ep, t, ho, r⟩ := R.ex
  exact ⟨o, es, ep, t, k o ho, r⟩
theorem el_is {e : Int × Value} {k j : Key} (hk : (mixKind P w).is k e.2 = true) : (mixKind P w).is j e.2 = true ↔ kfE e = j := by
  constructor
  · intro q
    exact keyF_is q
  · intro q
    have z : kfE e = k := keyF_is hk
    rw [← q, z]
    exact hk
theorem el_mem {l : List (Int × Value)} (g : ElemsOf (mixKind P w) l) (k : Key) : k ∈ l.map kfE ↔ ∃ e ∈ l, (mixKind P w).is k e.2 = true := by
  rw [List.mem_map]
  constructor
  · rintro ⟨e, he, q⟩
    obtain ⟨⟨j, hj, _⟩, _⟩ := g e he
    exact ⟨e, he, (el_is hj).2 q⟩
  · rintro ⟨e, he, q⟩
    exact ⟨e, he, keyF_is q⟩
theorem addTailM {g : Bool → Sem Unit} (hg : ∀ (b : Bool) (s₁ : Shared) (Q' : Unit → Shared → Prop), Q' () s₁ → wpAny (model P w) A (g b) Q' E s₁) {o : Obj} {es : Array (Int × Value)} {ep : Nat} {t : SetTable} (ho : s.heap.get? a = some o) (hex : o.ExactSet) (hd : o.data = .set es ep t)
    {es1 : Array (Int × Value)} {t2 : SetTable} (g1 : ElemsOf (mixKind P w) es1.toList) (pm1 : (es1.toList.map kfE).Perm ks) (nd1 : ks.Nodup) (hb1 : es1.size < scanBound) (hf2 : t2.fits es1.size = true) (hr : L2.Ris t2.place.toList) (hl : w.params.followText "set-order" = true ∨ t2.led = true) {wasDummy : Bool} {R : Option Bool → Shared → Prop}
    (hR : ∀ h', Heap.SameBut a s.heap h' → SetMr P w h' a ks → R (some true) { s with heap := h' }) :
    wpAny (model P w) A (do storeSet a es1 t2; if (!wasDummy && t2.tooFull) = true then do { g (relayAll t2 es1 (SetTable.grown es1.size)).2.2; storeSet a (relayAll t2 es1 (SetTable.grown es1.size)).1 (relayAll t2 es1 (SetTable.grown es1.size)).2.1; pure (some true) } else pure (some true)) R E s := by
  refine wpAny_bind (wpAny_storeSet_of ho hd ?_ (fits_of_scanBound hb1))
  have q1 := L2.store_at (es' := es1) (t' := t2) ho hd
  have b1 := Heap.SameBut.update s.heap a (Obj.putSet es1 t2)
  split
  · have pm := relayAll_perm t2 es1 (SetTable.grown es1.size)
    have f3 := relayAll_fits t2 es1 (SetTable.grown es1.size)
    have r3 := L2.relayAll_ris t2 es1 (SetTable.grown es1.size)
    have l3 := L2.relayAll_led t2 es1 (SetTable.grown es1.size)
    generalize relayAll t2 es1 (SetTable.grown es1.size) = Z at pm f3 r3 l3 ⊢
    obtain ⟨es2, t3, gave⟩ := Z
    dsimp only at pm f3 r3 l3 ⊢
    have sz : es2.size = es1.size := by rw [← Array.length_toList, pm.length_eq, Array.length_toList]
    have b2 : es2.size < scanBound := by rw [sz]; exact hb1
    refine wpAny_bind (hg _ _ _ ?_); refine wpAny_bind (wpAny_storeSet_of q1 rfl ?_ (fits_of_scanBound b2))
    have q2 := L2.store_at (es' := es2) (t' := t3) q1 rfl
    refine wpAny_pure (hR _ (b1.trans (Heap.SameBut.update _ a _)) ⟨_, es2, _, t3, q2, hex, rfl, fun e he => g1 e (pm.mem_iff.mp he), (pm.map kfE).trans pm1, nd1, b2, f3, r3, hl.imp id fun z => by rw [l3]; exact z⟩)
  · exact wpAny_pure (hR _ b1 ⟨_, es1, _, t2, q1, hex, rfl, g1, pm1, nd1, hb1, hf2, hr, hl⟩)
def hasK (ks : List Key) (k : Key) : Bool := ks.any fun j => decide (j = k)
theorem hasK_iff {ks : List Key} {k : Key} : hasK ks k = true ↔ k ∈ ks := by
  unfold hasK
  rw [List.any_eq_true]
  constructor
  · rintro ⟨j, hj, e⟩
    rw [← of_decide_eq_true e]
    exact hj
  · exact fun h => ⟨k, h, decide_eq_true rfl⟩
def addK (ks : List Key) (k : Key) : List Key := if hasK ks k = true then ks else k :: ks
theorem addHashedM {k : Key} {v : Value} {Q : Bool → Shared → Prop} (hk : (mixKind P w).is k v = true) (R : SetMr P w s.heap a ks) (room : ks.length + 1 < scanBound) (hQ : ∀ (b : Bool) h', Heap.SameBut a s.heap h' → SetMr P w h' a (addK ks k) → Q b { s with heap := h' }) :
    wpAny (model P w) A (setAddHashed a v ((mixKind P w).hash k)) Q E s := by
  obtain ⟨o, es, ep, t, ho, hex, hd, g, pm0, nd, hb, hf, hr, hl⟩ := R.ex
  have hsc : v.scannable = true := keyF_sc hk
  unfold setAddHashed setAddHashedIn
  refine wpAny_holding (wpAny_bind (wpAny_setState_of ho hd hf ?_)); dsimp only
  rw [byScan_of hsc hb g]; simp only [↓reduceIte]; unfold setAddByScan
  refine wpAny_bind ?_; refine wpAny_bind (wpAny_rule ?_); refine wpAny_bind (wpAny_setScan_of hk ho hd hf g ?_)
  cases hfi : List.findIdx? (fun e => (mixKind P w).is k e.2) es.toList with
  | some j =>
    dsimp only
    obtain ⟨hj, pj, _⟩ := List.findIdx?_eq_some_iff_getElem.mp hfi
    have hin : k ∈ ks := pm0.mem_iff.mp ((el_mem g k).2 ⟨es.toList[j], List.getElem_mem hj, pj⟩)
    refine wpAny_pure (wpAny_pure (hQ _ s.heap (Heap.SameBut.refl a s.heap) ?_))
    unfold addK; rw [if_pos (hasK_iff.mpr hin)]
    exact R
  | none =>
    dsimp only
    have hnk : k ∉ es.toList.map kfE := fun z => by
      obtain ⟨e, he, q⟩ := (el_mem g k).1 z
      have c := List.findIdx?_eq_none_iff.mp hfi e he
      rw [q] at c; cases c
    have hni : k ∉ ks := fun z => hnk (pm0.mem_iff.mpr z)
    have eK : addK ks k = k :: ks := by unfold addK; rw [if_neg fun z => hni (hasK_iff.mp z)]
    rw [eK] at hQ
    have hgw : ∀ (b : Bool) {s₁ : Shared} {Q' : Unit → Shared → Prop}, Q' () s₁ → wpAny (model P w) A (match b with | true => rule "set.scan.the-table-gave-way" | false => pure ()) Q' E s₁ := fun b s₁ Q' q => by
      cases b
      · exact wpAny_pure q
      · exact wpAny_rule q
    have pm := layNew_perm t es ((mixKind P w).hash k) v
    have f1 := layNew_fits t es ((mixKind P w).hash k) v
    have r1 := L2.layNew_ris t es ((mixKind P w).hash k) v hr
    have l1 := L2.layNew_led t es ((mixKind P w).hash k) v
    generalize layNew t es ((mixKind P w).hash k) v = Z at pm f1 r1 l1 ⊢
    obtain ⟨es1, t1, wasDummy, gave⟩ := Z
    dsimp only at pm f1 r1 l1 ⊢
    rw [Array.toList_push] at pm
    have pc : es1.toList.Perm (((mixKind P w).hash k, v) :: es.toList) := pm.trans (List.perm_append_singleton _ _)
    have ev : kfE ((mixKind P w).hash k, v) = k := keyF_is hk
    have pk : (es1.toList.map kfE).Perm (k :: ks) := by
      have z := pc.map kfE
      rw [List.map_cons, ev] at z
      exact z.trans (pm0.cons k)
    have g1 : ElemsOf (mixKind P w) es1.toList := fun e he => by
      rcases List.mem_cons.mp (pc.mem_iff.mp he) with z | z
      · rw [z]
        exact ⟨⟨k, hk, rfl⟩, hsc⟩
      · exact g e z
    have nd1 : (k :: ks).Nodup := List.nodup_cons.mpr ⟨hni, nd⟩
    have sz : es1.size = ks.length + 1 := by
      have z := pk.length_eq
      rw [List.length_map, Array.length_toList, List.length_cons] at z
      exact z
    have hb1 : es1.size < scanBound := by rw [sz]; exact room
    have led : w.params.followText "set-order" = true ∨ t1.led = true := hl.imp id fun z => by rw [l1]; exact z
    refine wpAny_bind (hgw _ ?_)
    split
    · refine wpAny_bind ?_; rw [hashByValue_scannable 8 hsc]
      refine wpAny_pure (addTailM (fun b s₁ Q' q => ?_) ho hex hd g1 pk nd1 hb1 ?_ ?_ ?_ fun h' sb r => ?_)
      · cases b
        · exact wpAny_pure q
        · exact wpAny_rule q
      · first
        | exact f1
        | (split <;> first | exact f1 | exact SetTable.fits_plain_off f1)
      · first
        | exact r1
        | (split <;> exact r1)
      · first
        | exact led
        | (split <;> exact led)
      · dsimp only; exact wpAny_pure (hQ _ h' sb r)
    · refine wpAny_bind (wpAny_pure ?_); simp only [↓reduceIte]
      refine addTailM (fun b s₁ Q' q => ?_) ho hex hd g1 pk nd1 hb1 f1 r1 led fun h' sb r => ?_
      · cases b
        · exact wpAny_pure q
        · exact wpAny_rule q
      · dsimp only; exact wpAny_pure (hQ _ h' sb r)
def addKs (acc : List Key) : List Key → List Key
  | [] => acc
  | k :: r => addKs (addK acc k) r
theorem addK_len (acc : List Key) (k : Key) : (addK acc k).length ≤ acc.length + 1 := by
  unfold addK
  split
  · omega
  · exact Nat.le_refl _
theorem updLoopM {I : Addr} {fp wr : List Addr} {G : Array GenState → Array GenState → Prop} {n : Nat} {Pv : Nat → Value → Prop} {St : Nat → Shared → Prop} {R : Result → Shared → Prop} (W : WalksS P w A.in1 I fp wr G n Pv St) (S : Addr) (hSf : S ∉ fp) (qs : List Key) (hn : n = qs.length)
    (hval : ∀ i v, Pv i v → ∃ k, qs[i]? = some k ∧ (mixKind P w).is k v = true) :
    ∀ (m i : Nat) (acc : List Key) (s : Shared), n - i = m → i ≤ n → St i s → SetMr P w s.heap S acc → acc.length + m + 1 < scanBound →
      (∀ s', Moved (S :: wr) G s s' → SetMr P w s'.heap S (addKs acc (qs.drop i)) → R (.ok (.ret .none)) s') → codeAny (model P w) A (.builtin "set.update.loop" ⟨[.ref S, .ref I], []⟩) R s := by
  have nw : S ∉ wr := fun h => hSf (W.sub _ h)
  have sub : ∀ b ∈ wr, b ∈ S :: wr := fun b hb => List.mem_cons_of_mem _ hb
  intro m
  induction m with
  | zero =>
    intro i acc s hm hi hst hS hb hR
    have hin : i = n := by omega
    subst hin
    refine codeAny_builtin F.entry_set_update_loop ?_; rw [Around.under_plainId F.plain_set_update_loop _]
    show wpAny _ A.in1 (pyNext (.ref I) >>= _) _ _ s; refine wpAny_bind (W.done s _ _ hst fun s' hm' => ?_)
    show wpAny _ A.in1 (ret Value.none) _ _ s'
    have e : qs.drop i = [] := List.drop_eq_nil_of_le (by omega)
    rw [e] at hR
    exact wpAny_pure (hR s' (hm'.mono sub) (hS.at fun o e => hm'.heap S o nw e))
  | succ m ih =>
    intro i acc s hm hi hst hS hb hR
    have hlt : i < n := by omega
    refine codeAny_builtin F.entry_set_update_loop ?_; rw [Around.under_plainId F.plain_set_update_loop _]
    show wpAny _ A.in1 (pyNext (.ref I) >>= _) _ _ s; refine wpAny_bind (W.item i s _ _ hlt hst fun v s' hP hst' hm' => ?_)
    obtain ⟨k, hq, hk⟩ := hval i v hP
    have hS1 : SetMr P w s'.heap S acc := hS.at fun o e => hm'.heap S o nw e
    show wpAny _ A.in1 (holding [v] (setAdd S v) >>= _) _ _ s'; refine wpAny_bind (wpAny_holding ?_)
    unfold setAdd; refine wpAny_holding ?_; refine wpAny_bind ((mixKind P w).pyHash (k := k) hk ?_)
    refine addHashedM (s := { s' with toks := s'.toks + 1 }) hk hS1 (by omega) fun _ h' hsb hS2 => ?_
    have ed : qs.drop i = k :: qs.drop (i + 1) := by
      obtain ⟨h1, h2⟩ := List.getElem?_eq_some_iff.mp hq
      rw [List.drop_eq_getElem_cons h1, h2]
    have hl := addK_len acc k
    refine wpAny_pure ⟨plainId_quiet F.plain_set_update_loop _, ih (i + 1) (addK acc k) _ (by omega) hlt (W.frame _ s' _ _ hst' (Nat.le_succ _) fun b hb o e => (hsb.2 b fun z : b = S => hSf (by rw [← z]; exact hb)).trans e) hS2 (by omega) fun s'' hm2 hS3 => ?_⟩
    refine hR s'' (Moved.trans W.gtrans ((hm'.mono sub).then_heap (Nat.le_succ _) fun b o hb e => (hsb.2 b fun z : b = S => hb (by rw [z]; exact List.mem_cons_self)).trans e) hm2) ?_
    rw [ed]
    exact hS3
end
end VL

/-! V18: set(xs) of keys, sorted(set(xs)), len(set(xs)). -/
namespace VL
open PySem PySem.Spec L2 PyProof.Rows

abbrev setO (w : World) : Obj := { cls := .type "set", dict := none, data := .set #[] 0 (.fresh 0 0 (!w.params.followText "set-order")) }
theorem SetMr.new {P : Program} {w : World} {h : Heap} {a : Addr} (ho : h.get? a = some (setO w)) : SetMr P w h a [] :=
  ⟨_, #[], 0, _, ho, ⟨rfl, rfl, rfl⟩, rfl, fun e he => absurd he (by simp), List.Perm.refl _, List.nodup_nil, by decide, rfl, List.Pairwise.nil, by
    cases q : w.params.followText "set-order" with
    | true => exact .inl rfl
    | false => exact .inr rfl⟩
section
variable {P : Program} {w : World} {A : Around} {E : Value → Shared → Prop} {s : Shared}
set_option maxHeartbeats 8000000 in
theorem call_setM {l : Addr} {items : Array Value} (qs : List Key) {Q : Value → Shared → Prop} (hh : A.handled = none) (hl : s.heap.IsList l items) (hit : ∀ (i : Nat) (v : Value), items[i]? = some v → ∃ k, qs[i]? = some k ∧ (mixKind P w).is k v = true) (hz : items.size = qs.length) (hb : qs.length + 1 < scanBound)
    (h : ∀ (h' : Heap) (tk : Nat), SetMr P w h' s.heap.objs.size (addKs [] qs) → (∀ b o, s.heap.get? b = some o → h'.get? b = some o) → Q (.ref s.heap.objs.size) { s with heap := h', toks := tk }) : wpAny (model P w) A (call (.type "set") [.ref l]) Q E s := by
  obtain ⟨c, tl, hmro⟩ := F.called_set.mro
  have made := F.called_set.made; have hsub := F.called_set.sub
  refine wpAny_call (codeAny_of_tree ?_); show wpAny _ _ (callAny (.type "set") _) _ _ _
  refine wpAny_pure ⟨Code.quiet_builtin _ (by decide +kernel), codeAny_builtin F.entry_type_call ?_⟩; rw [Around.under_plain (weight_type_call_type "set" [.ref l] []) rfl]
  have h1 := F.called_set.notType; have h2 := F.called_set.canCreate; have hct := F.typeCall_set_1 (.ref l)
  repeat (any_goals (first | assumption | wp_step))
  refine codeAny_mono (L2.code_set_led1 (.ref l) (E := E) (Q₁ := fun obj s₁ => obj = .ref s.heap.objs.size ∧ s₁ = { s with heap := s.heap.push (setO w) }) ⟨rfl, rfl⟩) fun r s₁ hr => ?_
  cases r with
  | error e => exact hr
  | ok fl =>
    cases fl with
    | ret obj =>
      obtain ⟨rfl, rfl⟩ := hr
      have gS : (s.heap.push (setO w)).get? s.heap.objs.size = some (setO w) := Heap.get?_push_size _ rfl
      have tS : Shared.TypeIs { s with heap := s.heap.push (setO w) } (.ref s.heap.objs.size) "set" := ⟨_, gS, rfl⟩
      have hli := F.called_set.init.lookup; have hbi := F.called_set.init.bind (.ref s.heap.objs.size)
      repeat (any_goals (first | assumption | wp_step))
      refine codeAny_mono (codeAny_call_builtin (R := wants (fun r s₂ => r = .none ∧ ∃ h' tk, s₂ = { s with heap := h', toks := tk } ∧ SetMr P w h' s.heap.objs.size (addKs [] qs) ∧ (∀ b o, s.heap.get? b = some o → h'.get? b = some o)) E) F.called_set.init.plain F.entry_set_init (check_set_init_1 tS ?_)) fun r₂ s₂ hr₂ => ?_
      · obtain ⟨ol, hol, hcl, nl, hdl⟩ := hl
        obtain ⟨ocls, odict, odata, oslots⟩ := ol
        simp only at hcl hdl; subst hcl; subst hdl
        have hol' : (s.heap.push (setO w)).get? l = some { cls := .type "list", dict := odict, data := .seq items nl, slots := oslots } := Heap.get?_push_of_some _ hol
        have hsls := F.sub_list_set; have hslf := F.sub_list_frozenset
        have hne : (Value.type "list" == Value.type "dict") = false := by decide
        have hl1 : (s.heap.push (setO w)).IsList l items := ⟨_, hol', rfl, nl, rfl⟩
        unfold Builtin.«set.__init__» noKeywords Builtin.Frozenset.updateFrom; generalize hPI : pyIter = PI; wp_walk; subst hPI
        refine wpAny_pyIter_list hl1 ?_; refine wpAny_bind (wpAny_runValue ?_)
        have hlS : l < s.heap.objs.size := Heap.lt_size hol
        have hh3 : A.in1.in1.in1.handled = none := by simp [hh]
        have z1 : (s.heap.push (setO w)).objs.size = s.heap.objs.size + 1 := Heap.size_push ..
        have neI : l ≠ (s.heap.push (setO w)).objs.size := by rw [z1]; exact Nat.ne_of_lt (Nat.lt_succ_of_lt hlS)
        have nSf : s.heap.objs.size ∉ [(s.heap.push (setO w)).objs.size, l] := by
          rw [z1]; simp only [List.mem_cons, List.not_mem_nil, or_false, not_or]; exact ⟨Nat.ne_of_lt (Nat.lt_succ_self _), Nat.ne_of_gt hlS⟩
        refine updLoopM ((Walks.list hh3 _ l neI items).toS) s.heap.objs.size nSf qs hz hit (items.size - 0) 0 [] _ rfl (Nat.zero_le _) ⟨⟨_, Heap.get?_push_size _ rfl, rfl, rfl⟩, (hl1.push _)⟩ (SetMr.new (Heap.get?_push_of_some _ gS)) (by rw [hz]; simpa using hb) fun s' hm hS' => ?_
        obtain ⟨h', g2, d', tk', os'⟩ := s'
        have eg : g2 = s.gens := hm.gens; have ed : d' = s.drawn := hm.drawn; have eo : os' = s.os := hm.os
        subst eg; subst ed; subst eo; show wpAny _ _ _ _ _ _
        refine wpAny_pure ?_; show wpAny _ _ (ret Value.none) _ _ _
        refine wpAny_pure ⟨rfl, h', tk', rfl, hS', fun b o e => ?_⟩
        have hb0 : b < s.heap.objs.size := Heap.lt_size e
        refine hm.heap b o (fun z => ?_) (Heap.get?_push_of_some _ (Heap.get?_push_of_some _ e))
        simp only [List.mem_cons, List.not_mem_nil, or_false] at z
        rcases z with z | z
        · exact absurd hb0 (by rw [z]; exact Nat.lt_irrefl _)
        · exact absurd hb0 (by rw [z, z1]; exact Nat.not_lt_of_le (Nat.le_succ _))
      · cases r₂ with
        | error e => exact hr₂
        | ok fl₂ =>
          cases fl₂ with
          | ret r =>
            obtain ⟨rfl, h', tk, rfl, hS', hk'⟩ := hr₂
            repeat (any_goals (first | assumption | wp_step))
            exact h _ _ hS' hk'
          | _ => exact hr₂.elim
    | _ => exact hr.elim

/-! ### its members sorted -/
theorem sort_canon {α : Type} (le : α → α → Bool) (tr : ∀ a b c, le a b = true → le b c = true → le a c = true) (to : ∀ a b, (le a b || le b a) = true) (an : ∀ a b, le a b = true → le b a = true → a = b) {l m : List α} (p : l.Perm m) : l.mergeSort le = m.mergeSort le :=
  List.Perm.eq_of_pairwise (fun a b _ _ => an a b) (List.pairwise_mergeSort tr to l) (List.pairwise_mergeSort tr to m) (((List.mergeSort_perm l le).trans p).trans (List.mergeSort_perm m le).symm)
theorem sorted_vs {β : Type} {R : Value → β → Prop} {enc : β → PyData} {bs : List β} {vs : List Value} {a : Addr} {ks : List Key} {Q : Value → Shared → Prop} (R0 : SetMr P w s.heap a ks) (hh : A.handled = none) (hu : A.units + 200 < cLine)
    (hv : ∀ us : List Value, us.length = ks.length → (us.map keyF).Perm ks → (∀ u ∈ us, ∃ k, (mixKind P w).is k u = true) → ∃ bs : List β, PySem.W.EachIs R us bs ∧ (∀ h : Heap, PySem.W.EachIs (fun v b => ∃ as, Reads h v (enc b) as ∧ as = []) us bs) ∧ PySem.W.AllAlike (bs.map enc) ∧ PySem.W.Sortable (bs.map enc) ∧ (∀ b ∈ bs, (enc b).depth ≤ 64) ∧
      ∀ s' p (out : List Value) (c : Nat), out.length = bs.length → PySem.W.EachIs R out (bs.mergeSort (PySem.W.dataLe false enc)) → (∀ b o, s.heap.get? b = some o → s'.heap.get? b = some o) → s'.gens = s.gens → s'.os = s.os → s.heap.objs.size ≤ p → s'.heap.get? p = some (seqObj "list" out.toArray c) → Q (.ref p) s') :
    wpAny (model P w) A (call (.builtin "sorted") [.ref a]) Q E s := by
  obtain ⟨o, es, ep, t, ho, hex, hd, g, pm0, nd, hb, hf, hr, hl⟩ := R0.ex
  refine Calls.call_function_entry kind_sorted plain_sorted entry_sorted (args_sorted1 _) ?_
  unfold Builtin.«sorted»; refine wpAny_bind (m := checkCount "sorted" 1 1 _) (wpAny_pure ?_)
  refine wpAny_bind (L2.collect_set (A := A.in1) hh ⟨o, ho, hex.1, hd⟩ hf hb hr hl fun s1 vs k1 hz g1 o1 pm => ?_)
  have pk : (vs.map keyF).Perm ks := by
    have z := pm.map keyF
    rw [List.map_map] at z
    exact z.trans pm0
  have hvl : vs.length = ks.length := by
    have z := pk.length_eq
    rw [List.length_map] at z
    exact z
  have hes : es.size = ks.length := by
    have z := pm0.length_eq
    rw [List.length_map, Array.length_toList] at z
    exact z
  obtain ⟨bs, e1, e2, al, so, dp, q⟩ := hv vs hvl pk fun u hu => by
    obtain ⟨e, he, z⟩ := List.mem_map.mp (pm.mem_iff.mp hu)
    obtain ⟨⟨k, hk, _⟩, _⟩ := g e he
    exact ⟨k, by rw [← z]; exact hk⟩
  have hlen : vs.length ≤ sizeLine := by rw [hvl, ← hes]; exact fits_of_scanBound hb
  refine wpAny_bind (wpAny_newList ?_ hlen)
  have hoL : (s1.heap.push (seqObj "list" vs.toArray 0)).get? s1.heap.objs.size = some (seqObj "list" vs.toArray 0) := Heap.get?_push_size _ rfl
  refine wpAny_bind (wpAny_holding (PySem.W.list_sort_data (R := R) (bs := bs) (enc := enc) hoL e1 ((e2 _).mono fun v b ⟨as, r, z⟩ => ⟨as, r, by rw [z]; exact List.not_mem_nil⟩) al so (by rw [← e1.length]; exact hlen) (fun b hb => ?_) fun out hol eo => ?_))
  · have z := dp b hb
    show A.units + 1 + 1 + (enc b).depth < cLine
    omega
  · obtain ⟨c, hc⟩ := sortedHeap_at (vs := vs) (out := out.toArray) hoL
    refine wpAny_pure ⟨_, rfl, q { s1 with heap := sortedHeap (s1.heap.push (seqObj "list" vs.toArray 0)) s1.heap.objs.size vs out.toArray } s1.heap.objs.size out c hol eo (fun b u e => ?_) g1 o1 hz hc⟩
    have z := k1 b u e
    have hlt := Heap.lt_size z
    show (sortedHeap (s1.heap.push (seqObj "list" vs.toArray 0)) s1.heap.objs.size vs out.toArray).get? b = some u; rw [sortedHeap_old (Nat.ne_of_lt hlt) (by rw [size_push']; exact Nat.lt_succ_of_lt hlt)]
    exact Heap.get?_push_of_some _ z
end
end VL

/-! V19: sorted(set(e)), of ints or of texts. -/
namespace VL
open PySem PySem.Spec L2 PyProof.Rows

def addL {α : Type} [DecidableEq α] (acc : List α) : List α → List α
  | [] => acc
  | k :: r => addL (if acc.any (fun j => decide (j = k)) = true then acc else k :: acc) r
theorem addKs_map {α : Type} [DecidableEq α] (f : α → Key) (inj : ∀ a b, f a = f b → a = b) : ∀ (l acc : List α), addKs (acc.map f) (l.map f) = (addL acc l).map f
  | [], acc => rfl
  | k :: r, acc => by
    show addKs (addK (acc.map f) (f k)) (r.map f) = (addL (if acc.any (fun j => decide (j = k)) = true then acc else k :: acc) r).map f
    have e : hasK (acc.map f) (f k) = acc.any (fun j => decide (j = k)) := by
      unfold hasK
      rw [List.any_map]
      congr 1
      funext j
      show decide (f j = f k) = decide (j = k)
      exact decide_eq_decide.mpr ⟨inj j k, fun z => by rw [z]⟩
    unfold addK
    rw [e]
    by_cases c : acc.any (fun j => decide (j = k)) = true
    · rw [if_pos c, if_pos c]
      exact addKs_map f inj r acc
    · rw [if_neg c, if_neg c]
      exact addKs_map f inj r (k :: acc)
theorem addL_len {α : Type} [DecidableEq α] : ∀ (l acc : List α), (addL acc l).length ≤ acc.length + l.length
  | [], acc => Nat.le_refl _
  | k :: r, acc => by
    unfold addL
    refine Nat.le_trans (addL_len r _) ?_
    split <;> simp <;> omega
def intsD : List D → Option (List Int)
  | [] => some []
  | .int i :: r => (intsD r).map (i :: ·)
  | _ => none
def txsD : List D → Option (List Str)
  | [] => some []
  | .str i :: r => (txsD r).map (i :: ·)
  | _ => none
def leS (x y : Str) : Bool := decide (x.cps.toList ≤ y.cps.toList)
def sortI (ns : List Int) : List Int := (addL [] ns).mergeSort fun a b => decide (a ≤ b)
def sortS (ns : List Str) : List Str := (addL [] ns).mergeSort leS
theorem leS_an {a b : Str} (h : leS a b = true) (k : leS b a = true) : a = b := by
  have e : a.cps.toList = b.cps.toList := List.le_antisymm (of_decide_eq_true h) (of_decide_eq_true k)
  cases a with
  | mk x =>
    cases b with
    | mk y =>
      have : x = y := Array.toList_inj.mp e
      rw [this]
theorem leS_tr {a b c : Str} (h : leS a b = true) (k : leS b c = true) : leS a c = true := decide_eq_true (List.le_trans (of_decide_eq_true h) (of_decide_eq_true k))
theorem leS_to (a b : Str) : (leS a b || leS b a) = true := by
  rw [Bool.or_eq_true]
  exact (List.le_total a.cps.toList b.cps.toList).imp decide_eq_true decide_eq_true
theorem intsD_some : ∀ {xs : List D} {ns : List Int}, intsD xs = some ns → xs = ns.map D.int
  | [], ns, h => by cases h; rfl
  | x :: r, ns, h => by
    cases x <;> first | (unfold intsD at h; cases h; done) | skip
    unfold intsD at h
    obtain ⟨m, h1, h2⟩ := Option.map_eq_some_iff.mp h
    rw [← h2, intsD_some h1]
    rfl
theorem txsD_some : ∀ {xs : List D} {ns : List Str}, txsD xs = some ns → xs = ns.map D.str
  | [], ns, h => by cases h; rfl
  | x :: r, ns, h => by
    cases x <;> first | (unfold txsD at h; cases h; done) | skip
    unfold txsD at h
    obtain ⟨m, h1, h2⟩ := Option.map_eq_some_iff.mp h
    rw [← h2, txsD_some h1]
    rfl
def gSoSet : D → Out D
  | .lst xs => match intsD xs with
    | some ns => if ns.length ≤ 4000 then .ok (.lst ((sortI ns).map .int)) else .bad
    | none => match txsD xs with
      | some ns => if ns.length ≤ 4000 then .ok (.lst ((sortS ns).map .str)) else .bad
      | none => .bad
  | _ => .bad
theorem reps_ints {K : Fr'} {F : Hp} : ∀ {ns : List Int} {vs : List V}, Reps K F (ns.map D.int) vs → vs = ns.map V.int
  | [], vs, h => reps_nil h
  | n :: ns, vs, h => by
    obtain ⟨v, r, rfl, h1, h2⟩ := reps_cons h
    rw [rep_int h1, reps_ints h2]
    rfl
theorem reps_txs {K : Fr'} {F : Hp} : ∀ {ns : List Str} {vs : List V}, Reps K F (ns.map D.str) vs → vs = ns.map V.str
  | [], vs, h => reps_nil h
  | n :: ns, vs, h => by
    obtain ⟨v, r, rfl, h1, h2⟩ := reps_cons h
    rw [rep_str h1, reps_txs h2]
    rfl
theorem mk_ints {K : Fr'} {F : Hp} : ∀ (ns : List Int), Reps K F (ns.map D.int) (ns.map V.int)
  | [] => mk_nil
  | n :: ns => mk_cons mk_int (mk_ints ns)
theorem mk_txs {K : Fr'} {F : Hp} : ∀ (ns : List Str), Reps K F (ns.map D.str) (ns.map V.str)
  | [] => mk_nil
  | n :: ns => mk_cons mk_str (mk_txs ns)
theorem vals_keys {P : Program} {w : World} : ∀ {ks : List Key} {us : List Value}, Vals (ks.map kV) us → ∀ (i : Nat) (v : Value), us[i]? = some v → ∃ k, ks[i]? = some k ∧ (mixKind P w).is k v = true
  | [], _, .nil, i, v, h => by simp at h
  | k :: ks, _, .cons r t, 0, v, h => by
    cases h
    exact ⟨k, rfl, kV_is r⟩
  | k :: ks, _, .cons r t, i + 1, v, h => vals_keys t i v h
theorem mix_shape {P : Program} {w : World} {k : Key} {v : Value} (h : (mixKind P w).is k v = true) : (∃ (i : Int) (t : Tok), k = Sum.inl i ∧ v = .int i t) ∨ ∃ (x : Str) (t : Tok), k = Sum.inr x ∧ v = .str x t := by
  rcases keyIs_shape h with ⟨i, t, h1, h2⟩ | ⟨i, t, h1, h2⟩
  · exact .inl ⟨i, t, by first | exact h1 | exact h2, by first | exact h2 | exact h1⟩
  · exact .inr ⟨i, t, by first | exact h1 | exact h2, by first | exact h2 | exact h1⟩
/-- values and what they read as -/
theorem eachI {P : Program} {w : World} : ∀ (us : List Value), (∀ u ∈ us, ∃ k : Int, keyF u = Sum.inl k ∧ ∃ q, (mixKind P w).is q u = true) →
    ∃ bs : List Int, us.map keyF = bs.map Sum.inl ∧ PySem.W.EachIs (fun v (n : Int) => RelV (V.int n) v) us bs ∧ ∀ h : Heap, PySem.W.EachIs (fun v (b : Int) => ∃ as, Reads h v (.int b) as ∧ as = []) us bs
  | [], _ => ⟨[], rfl, .nil, fun h => .nil⟩
  | u :: us, hh => by
    obtain ⟨bs, e, e1, e2⟩ := eachI us fun v hv => hh v (List.mem_cons_of_mem _ hv)
    obtain ⟨k, h1, q, h2⟩ := hh u List.mem_cons_self
    have h3 := keyF_is h2
    rw [h1] at h3
    subst h3
    rcases mix_shape h2 with ⟨i, t, z, rfl⟩ | ⟨x, t, z, rfl⟩
    · cases z
      exact ⟨k :: bs, by rw [List.map_cons, e]; rfl, .cons ⟨t, rfl⟩ e1, fun h => .cons ⟨[], .int _ _, rfl⟩ (e2 h)⟩
    · cases z
theorem eachS {P : Program} {w : World} : ∀ (us : List Value), (∀ u ∈ us, ∃ k : Str, keyF u = Sum.inr k ∧ ∃ q, (mixKind P w).is q u = true) →
    ∃ bs : List Str, us.map keyF = bs.map Sum.inr ∧ PySem.W.EachIs (fun v (n : Str) => RelV (V.str n) v) us bs ∧ ∀ h : Heap, PySem.W.EachIs (fun v (b : Str) => ∃ as, Reads h v (.str b) as ∧ as = []) us bs
  | [], _ => ⟨[], rfl, .nil, fun h => .nil⟩
  | u :: us, hh => by
    obtain ⟨bs, e, e1, e2⟩ := eachS us fun v hv => hh v (List.mem_cons_of_mem _ hv)
    obtain ⟨k, h1, q, h2⟩ := hh u List.mem_cons_self
    have h3 := keyF_is h2
    rw [h1] at h3
    subst h3
    rcases mix_shape h2 with ⟨i, t, z, rfl⟩ | ⟨x, t, z, rfl⟩
    · cases z
    · cases z
      exact ⟨k :: bs, by rw [List.map_cons, e]; rfl, .cons ⟨t, rfl⟩ e1, fun h => .cons ⟨[], .str _ _, rfl⟩ (e2 h)⟩
theorem perm_of_map {α β : Type} [DecidableEq α] {f : α → β} (inj : ∀ a b, f a = f b → a = b) {l m : List α} (p : (l.map f).Perm (m.map f)) : l.Perm m := by
  classical
  refine List.perm_iff_count.mpr fun a => ?_
  have c : ∀ l : List α, (l.map f).count (f a) = l.count a := fun l => by
    induction l with
    | nil => rfl
    | cons x r ih =>
      rw [List.map_cons, List.count_cons, List.count_cons, ih]
      congr 1
      by_cases e : x = a
      · subst e
        simp
      · have e2 : f x ≠ f a := fun z => e (inj _ _ z)
        simp [e, e2]
  rw [← c l, ← c m]
  exact p.count_eq _
theorem each_relI : ∀ {us : List Value} {ns : List Int}, PySem.W.EachIs (fun v (n : Int) => RelV (V.int n) v) us ns → Vals (ns.map V.int) us
  | _, _, .nil => .nil
  | _, _, .cons h t => .cons h (each_relI t)
theorem each_relS : ∀ {us : List Value} {ns : List Str}, PySem.W.EachIs (fun v (n : Str) => RelV (V.str n) v) us ns → Vals (ns.map V.str) us
  | _, _, .nil => .nil
  | _, _, .cons h t => .cons h (each_relS t)
def rSoSet (K : Fr') : V → Hp → VK → Prop := fun x H Q => ∃ a ws, x = .ref a ∧ SqL K H a ws ∧ ((∃ ns : List Int, ws = ns.map V.int ∧ ns.length ≤ 4000 ∧ ∀ p, H p = none → Q (.ref p) (upd H p (.lst ((sortI ns).map V.int)))) ∨
  ∃ ns : List Str, ws = ns.map V.str ∧ ns.length ≤ 4000 ∧ ∀ p, H p = none → Q (.ref p) (upd H p (.lst ((sortS ns).map V.str))))
theorem Inv.listAt {X : Cx} {pins : List (Addr × Obj)} {σ : L2.St} {H : Hp} {s s' : Shared} {p c : Nat} {out : List Value} {ws : List V} (I : Inv X pins σ H s) (k : ∀ b o, s.heap.get? b = some o → s'.heap.get? b = some o) (g : s'.gens = s.gens) (o : s'.os = s.os) (hp : s.heap.objs.size ≤ p) (hl : ws.length ≤ sizeLine) (hv : Vals ws out) (hg : s'.heap.get? p = some (seqObj "list" out.toArray c)) :
    Inv X pins σ (upd H p (.lst ws)) s' ∧ H p = none := by
  have hn : H p = none := I.hok.fresh hp
  have J : Inv X pins σ (upd H p (.lst ws)) { s with heap := s'.heap, gens := s'.gens, drawn := s'.drawn, toks := s'.toks } := I.call (ch := []) (Un.laid k hp hn) (I.hok.laid k hp ⟨hl, out, c, hv, by simpa using hg⟩) (by rw [g]; exact I.bare) (fun _ z => nomatch z)
  have e : s' = { s with heap := s'.heap, gens := s'.gens, drawn := s'.drawn, toks := s'.toks } := by
    cases s'
    cases s
    cases o
    rfl
  rw [e]
  exact ⟨J, hn⟩
section
variable {X : Cx} {W : WX} {b : Bool} {a : Expr} {f : Env' → Out D} {p p2 q pos : Pos}
theorem sort_setM (hu : X.A.units + 200 < cLine) (hc : X.calm = true) {pins : List (Addr × Obj)} {σ : L2.St} {H : Hp} {s : Shared} {E : Value → Shared → Prop} {x : V} {u : Value} {Q : VK} (I : Inv X pins σ H s) (r : RelV x u) (h : rSoSet X.K x H Q)
    {R : Value → Shared → Prop} (hR : ∀ v s1, wpAny (model X.prog X.w) X.A (call (.builtin "sorted") [v]) (fun v s' => ∃ y H', Inv X pins σ H' s' ∧ RelV y v ∧ Q y H') E s1 → R v s1) : wpAny (model X.prog X.w) X.A (call (.type "set") [u]) R E s := by
  obtain ⟨l, ws, rfl, hq, h⟩ := h
  cases r
  obtain ⟨its, rv, pl, hz⟩ := I.list hq
  rcases h with ⟨ns, rfl, hn, q⟩ | ⟨ns, rfl, hn, q⟩
  · have hks : ns.map V.int = (ns.map Sum.inl).map kV := by rw [List.map_map]; rfl
    have hl : its.toArray.size = (ns.map (Sum.inl : Int → Key)).length := by rw [List.size_toArray, ← rv.length, List.length_map, List.length_map]
    rw [hks] at rv
    refine call_setM (ns.map Sum.inl) (I.ok.hd hc) pl.isList (fun i v hv => vals_keys rv i v (by simpa using hv)) hl (by rw [List.length_map]; unfold scanBound; omega) fun h' tk hS hk => hR _ _ ?_
    have eK : addKs [] (ns.map Sum.inl) = (addL [] ns).map Sum.inl := addKs_map Sum.inl (fun a b z => Sum.inl.inj z) ns []
    rw [eK] at hS
    have I2 : Inv X pins σ H { s with heap := h', toks := tk } := I.kept hk
    refine sorted_vs (s := { s with heap := h', toks := tk }) (R := fun v (n : Int) => RelV (V.int n) v) (enc := fun n : Int => .int n) (bs := []) (vs := []) hS (I.ok.hd hc) hu fun us h1 h2 h3 => ?_
    obtain ⟨bs, e0, e1, e2⟩ := eachI (P := X.prog) (w := X.w) us fun u hu => by
      have m := h2.mem_iff.mp (List.mem_map_of_mem (f := keyF) hu)
      obtain ⟨k, _, z⟩ := List.mem_map.mp m
      exact ⟨k, z.symm, h3 u hu⟩
    rw [e0] at h2
    have pm : bs.Perm (addL [] ns) := perm_of_map (fun a b z => Sum.inl.inj z) h2
    have es : bs.mergeSort (PySem.W.dataLe false fun n : Int => .int n) = sortI ns := by
      rw [PySem.W.dataLe_int]
      exact sort_canon (fun a b : Int => decide (a ≤ b)) (fun a b c h k => decide_eq_true (Int.le_trans (of_decide_eq_true h) (of_decide_eq_true k))) (fun a b => by rw [Bool.or_eq_true, decide_eq_true_eq, decide_eq_true_eq]; exact Int.le_total a b) (fun a b h k => Int.le_antisymm (of_decide_eq_true h) (of_decide_eq_true k)) pm
    refine ⟨bs, e1, e2, fun d hd d' hd' => ?_, .inr fun d hd => ?_, fun b hb => by show (PyData.int b).depth ≤ 64; simp [PyData.depth], fun s' p out c hol eo k g o hp hg => ?_⟩
    · obtain ⟨x, _, rfl⟩ := List.mem_map.mp hd
      obtain ⟨y, _, rfl⟩ := List.mem_map.mp hd'
      rfl
    · obtain ⟨x, _, rfl⟩ := List.mem_map.mp hd
      exact ⟨fun z => PyData.noConfusion z, fun _ z => PyData.noConfusion z⟩
    · rw [es] at eo
      have hlen : ((sortI ns).map V.int).length ≤ sizeLine := by
        unfold sortI
        rw [List.length_map, List.length_mergeSort]
        have z := addL_len ns []
        rw [sizeLine_eq]
        simp only [List.length_nil] at z
        omega
      obtain ⟨J, hn⟩ := Inv.listAt I2 k g o hp hlen (each_relI eo) hg
      exact ⟨.ref p, _, J, rfl, q p hn⟩
  · have hks : ns.map V.str = (ns.map Sum.inr).map kV := by rw [List.map_map]; rfl
    have hl : its.toArray.size = (ns.map (Sum.inr : Str → Key)).length := by rw [List.size_toArray, ← rv.length, List.length_map, List.length_map]
    rw [hks] at rv
    refine call_setM (ns.map Sum.inr) (I.ok.hd hc) pl.isList (fun i v hv => vals_keys rv i v (by simpa using hv)) hl (by rw [List.length_map]; unfold scanBound; omega) fun h' tk hS hk => hR _ _ ?_
    have eK : addKs [] (ns.map Sum.inr) = (addL [] ns).map Sum.inr := addKs_map Sum.inr (fun a b z => Sum.inr.inj z) ns []
    rw [eK] at hS
    have I2 : Inv X pins σ H { s with heap := h', toks := tk } := I.kept hk
    refine sorted_vs (s := { s with heap := h', toks := tk }) (R := fun v (n : Str) => RelV (V.str n) v) (enc := fun n : Str => .str n) (bs := []) (vs := []) hS (I.ok.hd hc) hu fun us h1 h2 h3 => ?_
    obtain ⟨bs, e0, e1, e2⟩ := eachS (P := X.prog) (w := X.w) us fun u hu => by
      have m := h2.mem_iff.mp (List.mem_map_of_mem (f := keyF) hu)
      obtain ⟨k, _, z⟩ := List.mem_map.mp m
      exact ⟨k, z.symm, h3 u hu⟩
    rw [e0] at h2
    have pm : bs.Perm (addL [] ns) := perm_of_map (fun a b z => Sum.inr.inj z) h2
    have es : bs.mergeSort (PySem.W.dataLe false fun n : Str => .str n) = sortS ns := by
      rw [PySem.W.dataLe_str]
      exact sort_canon leS (fun a b c => leS_tr) leS_to (fun a b => leS_an) pm
    refine ⟨bs, e1, e2, fun d hd d' hd' => ?_, .inr fun d hd => ?_, fun b hb => by show (PyData.str b).depth ≤ 64; simp [PyData.depth], fun s' p out c hol eo k g o hp hg => ?_⟩
    · obtain ⟨x, _, rfl⟩ := List.mem_map.mp hd
      obtain ⟨y, _, rfl⟩ := List.mem_map.mp hd'
      rfl
    · obtain ⟨x, _, rfl⟩ := List.mem_map.mp hd
      exact ⟨fun z => PyData.noConfusion z, fun _ z => PyData.noConfusion z⟩
    · rw [es] at eo
      have hlen : ((sortS ns).map V.str).length ≤ sizeLine := by
        unfold sortS
        rw [List.length_map, List.length_mergeSort]
        have z := addL_len ns []
        rw [sizeLine_eq]
        simp only [List.length_nil] at z
        omega
      obtain ⟨J, hn⟩ := Inv.listAt I2 k g o hp hlen (each_relS eo) hg
      exact ⟨.ref p, _, J, rfl, q p hn⟩
/-- sorted(set(e)) -/
theorem SO.sortSet (hu : X.A.units + 200 < cLine) (hc : X.calm = true) (hg : Gl X "sorted") (hm : X.mg "sorted" = none) (hg2 : Gl X "set") (hm2 : X.mg "set" = none) (ha : SR b X W a f) (na : starEach [a] X.env = (false, eval a X.env) :: starEach [] X.env := by rfl) :
    SO b X W (.Call (.Name "sorted" p) [.Call (.Name "set" p2) [a] [] q] [] pos) (r1 f gSoSet) := by
  refine ⟨⟨fun pins s σ H Q I h => ?_⟩⟩
  have h2 := tO1 (r := rSoSet X.K) (h := gSoSet) (by
    intro F H x dx d Q l rx e k
    unfold gSoSet at e
    split at e
    · rename_i xs
      obtain ⟨a, vs, rfl, h1, r1⟩ := rep_lst rx
      split at e
      · rename_i ns hi
        split at e
        · rename_i hn
          cases e
          have ex := intsD_some hi
          subst ex
          have ev := reps_ints r1
          subst ev
          exact ⟨a, _, rfl, l.seqL h1, .inl ⟨ns, rfl, hn, fun p hp => k p _ hp ⟨_, rfl, mk_ints _⟩⟩⟩
        · cases e
      · split at e
        · rename_i ns hi
          split at e
          · rename_i hn
            cases e
            have ex := txsD_some hi
            subst ex
            have ev := reps_txs r1
            subst ev
            exact ⟨a, _, rfl, l.seqL h1, .inr ⟨ns, rfl, hn, fun p hp => k p _ hp ⟨_, rfl, mk_txs _⟩⟩⟩
          · cases e
        · cases e
    · cases e) σ H Q h
  refine Call_ (ld_blt I hg hm boot_sorted ?_); refine callWith_builtin1 (args_cons ?_ rfl) rfl rfl
  refine Call_ (ld_blt I hg2 hm2 boot_set ?_); refine callWith_type1 (args_cons (thn (ha.pe.run pins s σ H _ I h2) fun v s1 ⟨x, H1, I1, r1, q1⟩ => args_nil ?_) na) na rfl
  exact sort_setM hu hc (E := X.xe) I1 r1 q1 fun v s1 z => args_nil z
end
end VL

/-! V20: defs by facts; globals; keys of dicts. -/
namespace VL
open PySem PySem.Spec L2

/-- the def x, by name: nothing handed back -/
structure OkF (P : Program) (w : World) (K : Fr') (mg : MG) (base : Heap) (k : Nat) (x : Str) (ps : List Str) (mf : List D → Out D) : Prop where
  g : mg x = some (.ref (He.ga K x))
  kp : PySem.W.keepIn K (.ref (He.ga K x)) = true
  fn : ∃ fd, FnOk P w K mg base (L2.CX P w) k (He.ga K x) fd ps (spF K mg mf) ∧ Binds K fd ps []
/-- .. the first parameter is handed back -/
structure OkT (P : Program) (w : World) (K : Fr') (mg : MG) (base : Heap) (k : Nat) (x : Str) (ps : List Str) (mf : D → List D → Out (D × D)) : Prop where
  g : mg x = some (.ref (He.ga K x))
  kp : PySem.W.keepIn K (.ref (He.ga K x)) = true
  fn : ∃ fd, FnOk P w K mg base (L2.CX P w) k (He.ga K x) fd ps (spT K mg mf) ∧ Binds K fd ps []
section
variable {P : Program} {w : World} {K : Fr'} {mg : MG} {base : Heap} {x qual : Str} {params : Arguments} {body : List Stmt} {sc : Scope} {N ps : List Str} {k : Nat} {f : Addr} {fd : FuncData} {bd : Env' → Out (Fl × Env')}
theorem fnD_F (F : FunD K x qual params body sc [] [] f fd) (S : FnScope N ps sc)
    (hb : ∀ (cdv : Value) (A : Around) (outer : List Env) (s : Shared) (H : Hp) (E : XK), Room k (A.deeper (PyProof.Rows.envOfC qual sc s.heap.objs.size f cdv)) →
      SS (cxOf (L2.CX P w) P w K mg base N qual sc f cdv A outer s H E) (WE' E) [] body bd) :
    FnOk P w K mg base (L2.CX P w) (k + 1) f fd ps (spF K mg (arity ps.length (fnF N.length bd))) := by
  refine fn_ar (F.ok S (fun vs H Q E h => h.1) fun cdv A outer s H vs Q E hr h => ⟨_, (hb cdv A outer s H E hr).ps, ?_⟩)
  obtain ⟨hl, F, ds, le, r, q⟩ := h
  have s0 := vals_st2 le r
  have lv : vs.length = (ds.map Cell.val).length := by rw [List.length_map, reps_len r]
  have s1 := s0.start (N := N) (by rw [hl]; exact scope_le S)
  have noow : ∀ b, ¬ Owned (L2.start N vs) (begE N.length (ds.map Cell.val)) b := fun b z => vals_noown (owned_start lv z)
  have nw : ∀ {σ' : L2.St} {ρ' : Env'} {F' H' : Hp}, Le F' H' → Stp (L2.start N vs) (begE N.length (ds.map Cell.val)) F H σ' ρ' F' H' → New F H F' H' := fun {σ' ρ' F' H'} l p => ⟨p.le, l, fun b o h => p.kp b o h (noow b), fun b h => by
    rcases p.fr b h with h | h | h
    · exact .inl h
    · exact .inr h
    · exact absurd h (noow b)⟩
  refine ⟨F, _, s1, on_imp (on_bind q) (fun p ep q σ' F' H' s' pp fx => ?_) (fun c fs ec q cls xd σ' F' H' l hl' pp r' => q cls xd F' H' (nw l pp) r')⟩
  obtain ⟨fl, ρ'⟩ := p
  have n := nw s'.le pp
  cases fl with
  | nx => exact q .non F' H' n mk_non
  | brk => exact q.elim
  | cnt => exact q.elim
  | ret d => exact fun v rv => q v F' H' n rv
  | new d =>
    intro p o hp c
    obtain ⟨n2, r⟩ := Co.laid s'.le hp c
    exact q _ _ _ (n.trans n2) r
theorem fnD_T (F : FunD K x qual params body sc [] [] f fd) (S : FnScope N ps sc)
    (hb : ∀ (cdv : Value) (A : Around) (outer : List Env) (s : Shared) (H : Hp) (E : XK), Room k (A.deeper (PyProof.Rows.envOfC qual sc s.heap.objs.size f cdv)) →
      SS (cxOf (L2.CX P w) P w K mg base N qual sc f cdv A outer s H E) (WE' E) [0] body bd) :
    FnOk P w K mg base (L2.CX P w) (k + 1) f fd ps (spT K mg (fnT N.length ps.length bd)) := by
  refine F.ok S (fun vs H Q E h => ?_) fun cdv A outer s H vs Q E hr h => ⟨_, (hb cdv A outer s H E hr).ps, ?_⟩
  · obtain ⟨F, p, o, d, ws, ds, rfl, l, ho, hn, c, r, q⟩ := h
    unfold fnT at q
    by_cases e : ds.length + 1 = ps.length
    · show ws.length + 1 = ps.length
      rw [reps_len r]
      exact e
    · rw [if_neg e] at q
      exact q.elim
  · obtain ⟨F, p, o, d, ws, ds, rfl, l, ho, hn, c, r, q⟩ := h
    unfold fnT at q
    by_cases e : ds.length + 1 = ps.length
    · rw [if_pos e] at q
      have s0 := own_st2 l ho hn c r
      have lv : (V.ref p :: ws).length = (Cell.own d :: ds.map Cell.val).length := by
        show ws.length + 1 = (ds.map Cell.val).length + 1
        rw [List.length_map, reps_len r]
      have s1 := s0.start (N := N) (by
        have := scope_le S
        show ws.length + 1 ≤ N.length
        rw [reps_len r]
        omega)
      have oo : ∀ b, Owned (L2.start N (V.ref p :: ws)) (begE N.length (Cell.own d :: ds.map Cell.val)) b → b = p := fun b z => own_only (owned_start lv z)
      refine ⟨F, _, s1, on_imp (on_bind q) (fun pr ep q σ' F' H' s' pp fx => ?_) (fun cc fs ec q cls xd σ' F' H' l2 hl' pp r' => q cls xd F' H' (fun b u hb h => pp.kp b u h fun z => hb (oo b z)) pp.le l2 (fun b h => ?_) pp.al r')⟩
      · obtain ⟨fl, ρ'⟩ := pr
        have hσ : σ'[0]? = some (some (V.ref p)) := by
          rw [fx.2 0 List.mem_cons_self]
          exact start_at (N := N) (vs := V.ref p :: ws) (Nat.succ_pos _)
        have fin : ∀ {d' : D}, ρ'[0]? = some (Cell.own d') → ∃ o', TStp p F H F' H' ∧ H' p = some o' ∧ F' p = none ∧ Co K F' d' o' := fun {d'} h0 => by
          obtain ⟨p', o', e1, ho', hn', c'⟩ := s'.own 0 d' h0
          rw [hσ] at e1
          cases e1
          refine ⟨o', ⟨pp.le, s'.le, fun b u hb h => pp.kp b u h fun z => hb (oo b z), fun b h => ?_⟩, ho', hn', c'⟩
          rcases pp.fr b h with w | w | w
          · exact .inl w
          · exact .inr w
          · rw [oo b w] at h
            exact absurd hn' h
        cases fl with
        | nx =>
          obtain ⟨d', h0, q⟩ := ownOf_on q
          obtain ⟨o', t, h1, h2, h3⟩ := fin h0
          exact q .non F' H' o' t h1 h2 h3 mk_non
        | brk => exact q.elim
        | cnt => exact q.elim
        | ret r0 =>
          obtain ⟨d', h0, q⟩ := ownOf_on q
          obtain ⟨o', t, h1, h2, h3⟩ := fin h0
          exact fun v rv => q v F' H' o' t h1 h2 h3 rv
        | new d => exact q.elim
      · rcases pp.fr b h with h | h | h
        · exact .inl h
        · exact .inr (.inl h)
        · exact .inr (.inr (oo b h))
    · rw [if_neg e] at q
      exact q.elim
end
/-! ### defs that make a new object -/
def spN (K : Fr') (mg : MG) (mf : List D → Out D) : Sp := fun vs H Q E => ∃ F ds, Le F H ∧ Reps K F ds vs ∧
  (mf ds).on (fun d => ∀ p o F' H', New F H F' H' → H' p = none → Co K F' d o → Q (.ref p) (upd H' p o)) (fun c fs => ∀ cls xd F' H', New F H F' H' → ExcR mg c fs cls xd → E cls xd H')
def fnN (n m : Nat) (body : Env' → Out (Fl × Env')) (ds : List D) : Out D := if ds.length = m then (body (begE n (ds.map Cell.val))).bind fun p => match p.1 with
  | .new d => .ok d
  | _ => .bad else .bad
structure OkN (P : Program) (w : World) (K : Fr') (mg : MG) (base : Heap) (k : Nat) (x : Str) (ps : List Str) (mf : List D → Out D) : Prop where
  g : mg x = some (.ref (He.ga K x))
  kp : PySem.W.keepIn K (.ref (He.ga K x)) = true
  fn : ∃ fd, FnOk P w K mg base (L2.CX P w) k (He.ga K x) fd ps (spN K mg mf) ∧ Binds K fd ps []
section
variable {P : Program} {w : World} {K : Fr'} {mg : MG} {base : Heap} {x qual : Str} {params : Arguments} {body : List Stmt} {sc : Scope} {N ps : List Str} {k : Nat} {f : Addr} {fd : FuncData} {bd : Env' → Out (Fl × Env')}
theorem fnD_N (F : FunD K x qual params body sc [] [] f fd) (S : FnScope N ps sc)
    (hb : ∀ (cdv : Value) (A : Around) (outer : List Env) (s : Shared) (H : Hp) (E : XK), Room k (A.deeper (PyProof.Rows.envOfC qual sc s.heap.objs.size f cdv)) →
      SS (cxOf (L2.CX P w) P w K mg base N qual sc f cdv A outer s H E) (WE' E) [] body bd) :
    FnOk P w K mg base (L2.CX P w) (k + 1) f fd ps (spN K mg (fnN N.length ps.length bd)) := by
  refine F.ok S (fun vs H Q E h => ?_) fun cdv A outer s H vs Q E hr h => ⟨_, (hb cdv A outer s H E hr).ps, ?_⟩
  · obtain ⟨F, ds, l, r, q⟩ := h
    unfold fnN at q
    by_cases e : ds.length = ps.length
    · rw [reps_len r]
      exact e
    · rw [if_neg e] at q
      exact q.elim
  · obtain ⟨F, ds, le, r, q⟩ := h
    unfold fnN at q
    by_cases e : ds.length = ps.length
    · rw [if_pos e] at q
      have s0 := vals_st2 le r
      have lv : vs.length = (ds.map Cell.val).length := by rw [List.length_map, reps_len r]
      have s1 := s0.start (N := N) (by rw [reps_len r, e]; exact scope_le S)
      have noow : ∀ b, ¬ Owned (L2.start N vs) (begE N.length (ds.map Cell.val)) b := fun b z => vals_noown (owned_start lv z)
      have nw : ∀ {σ' : L2.St} {ρ' : Env'} {F' H' : Hp}, Le F' H' → Stp (L2.start N vs) (begE N.length (ds.map Cell.val)) F H σ' ρ' F' H' → New F H F' H' := fun {σ' ρ' F' H'} l p => ⟨p.le, l, fun b o h => p.kp b o h (noow b), fun b h => by
        rcases p.fr b h with h | h | h
        · exact .inl h
        · exact .inr h
        · exact absurd h (noow b)⟩
      refine ⟨F, _, s1, on_imp (on_bind q) (fun p ep q σ' F' H' s' pp fx => ?_) (fun c fs ec q cls xd σ' F' H' l hl' pp r' => q cls xd F' H' (nw l pp) r')⟩
      obtain ⟨fl, ρ'⟩ := p
      have n := nw s'.le pp
      cases fl with
      | nx => exact q.elim
      | brk => exact q.elim
      | cnt => exact q.elim
      | ret d => exact q.elim
      | new d => exact fun p o hp c => q p o F' H' n hp c
    · rw [if_neg e] at q
      exact q.elim
end
section
variable {X : Cx} {W : WX} {prot : List Nat} {e : Expr} {f : Env' → Out D} {pos : Pos}
/-- return of a new object -/
def sNew (f : Env' → Out D) : Env' → Out (Fl × Env') := fun ρ => (f ρ).bind fun d => .ok (.new d, ρ)
theorem S1.retN' (he : SO false X W e f) : S1 X W prot (.Return (some e) pos) (sNew f) := ⟨PS.imp (ps_ret he.pe) fun D0 σ H ⟨F, ρ, s, q⟩ => ⟨F, ρ, s, on_imp (on_bind q) (fun d ed q p o F1 H1 n hp c => q σ F1 H1 (s.new n) (n.stp σ ρ) (Fix.refl _ _) p o hp c) fun _ _ _ q => q⟩⟩
end
def mCF (ms : Env' → Out (List D × Env')) (mf : List D → Out D) : Env' → Out (D × Env') := fun ρ => (ms ρ).bind fun a => (mf a.1).bind fun d => .ok (d, a.2)
section
variable {b : Bool} {X : Cx} {W : WX} {k j : Nat} {ps : List Str} {mf : List D → Out D} {fs : Env' → Out (List D)} {x : Str} {p pos : Pos} {e : Expr} {es : List Expr}
theorem SR.callD (G : OkF X.prog X.w X.K X.mg X.base k x ps mf) (hr : Room j X.A) (tk : TK X W) (ha : SRs b X W (e :: es) fs) (hk : k ≤ j := by decide) (hg : Gl X x := by rfl) (hdb : (x == ("__debug__" : Str)) = false := by decide)
    (hs : starEach (e :: es) X.env = (false, eval e X.env) :: starEach es X.env := by rfl) (hpl : (backTo pos (starEach es X.env)).any (·.1) = false := by rfl) : SR b X W (.Call (.Name x p) (e :: es) [] pos) (rF fs mf) := by
  obtain ⟨fd, F, B⟩ := G.fn
  exact SR.call F (hr.mono hk) hg G.g G.kp B tk ha hdb hs hpl
theorem SO.callN (G : OkN X.prog X.w X.K X.mg X.base k x ps mf) (hr : Room j X.A) (tk : TK X W) (ha : SRs b X W (e :: es) fs) (hk : k ≤ j := by decide) (hg : Gl X x := by rfl) (hdb : (x == ("__debug__" : Str)) = false := by decide)
    (hs : starEach (e :: es) X.env = (false, eval e X.env) :: starEach es X.env := by rfl) (hpl : (backTo pos (starEach es X.env)).any (·.1) = false := by rfl) : SO b X W (.Call (.Name x p) (e :: es) [] pos) (rF fs mf) := by
  obtain ⟨fd, F, B⟩ := G.fn
  refine SO.imp (pe_callS F (hr.mono hk) hg G.g G.kp B tk ha.pe hdb hs hpl) ?_
  rintro σ H Q ⟨F, ρ, s, q⟩
  refine ⟨F, ρ, s, on_imp (on_bind q) (fun ds ed q vs F1 H1 n1 rx => ?_) fun _ _ _ q => q⟩
  have s1 := s.new n1
  refine ⟨_, ds, s1.bs_le, rx, on_imp q (fun d ed q p o F' H' n hp c => ?_) (fun c cs ec q cls xd F' H' n r => ?_)⟩
  · obtain ⟨F2, n2, l⟩ := s1.bnew n
    exact q p o F2 H' (n1.trans n2) hp (Co.mono l c)
  · obtain ⟨F2, n2, l⟩ := s1.bnew n
    exact q cls xd σ F2 H' n2.le' rfl (Stp.emp (n1.trans n2)) r
theorem SM.callF {ms : Env' → Out (List D × Env')} (G : OkF X.prog X.w X.K X.mg X.base k x ps mf) (hr : Room j X.A) (tk : TK X W) (ha : SMs X W (e :: es) ms) (hk : k ≤ j := by decide) (hg : Gl X x := by rfl) (hdb : (x == ("__debug__" : Str)) = false := by decide)
    (hs : starEach (e :: es) X.env = (false, eval e X.env) :: starEach es X.env := by rfl) (hpl : (backTo pos (starEach es X.env)).any (·.1) = false := by rfl) : SM X W (.Call (.Name x p) (e :: es) [] pos) (mCF ms mf) := by
  obtain ⟨fd, F, B⟩ := G.fn
  refine SM.imp (pe_callS F (hr.mono hk) hg G.g G.kp B tk ha.pe hdb hs hpl) ?_
  rintro σ H Q ⟨F, ρ, s, q⟩
  refine ⟨F, ρ, s, on_imp (on_bind q) (fun a ea q vs F1 H1 s1 rx p1 => ?_) fun _ _ _ q => q⟩
  have lr : a.2.length = ρ.length := by rw [← s.len, ← s1.len]
  have em : emps ρ = emps a.2 := by unfold emps; rw [lr]
  refine ⟨_, a.1, s1.le, rx, on_imp (on_bind q) (fun d ed q v F' H' n rv => q v F' H' (s1.new n) rv (p1.trans (n.stp σ a.2))) (fun c cs ec q cls xd F' H' n r => ?_)⟩
  refine q cls xd σ F' H' n.le' rfl (p1.trans ?_) r
  rw [em]
  exact Stp.emp n
theorem SM.callD {mt : D → List D → Out (D × D)} {ms : Env' → Out (List D × Env')} {y : Str} {px : Pos} (i : Nat) (G : OkT X.prog X.w X.K X.mg X.base k x ps mt) (hr : Room j X.A) (tk : TK X W) (ha : SMs X W es ms) (hk : k ≤ j := by decide) (hg : Gl X x := by rfl) (hN : X.N[i]? = some y := by rfl) (hv : Vis X.env.scope y := by first | exact Or.inl rfl | exact Or.inr (Or.inl rfl) | exact Or.inr (Or.inr rfl)) (hd : (y == ("__debug__" : Str)) = false := by decide)
    (hcd : (y == ("__classdict__" : Str)) = false := by decide) (hdb : (x == ("__debug__" : Str)) = false := by decide) (hs : starEach (.Name y px :: es) X.env = (false, eval (.Name y px) X.env) :: starEach es X.env := by rfl) (hpl : (backTo pos (starEach es X.env)).any (·.1) = false := by rfl) :
    SM X W (.Call (.Name x p) (.Name y px :: es) [] pos) (mCT i ms mt) := by
  obtain ⟨fd, F, B⟩ := G.fn
  exact SM.callT i F (hr.mono hk) hg G.g G.kp B tk ha hN hv hd hcd hdb hs hpl
/-- a module's name -/
theorem SR.glo {v : V} {u : Value} {d : D} (hm : X.mg x = some u) (r : RelV v u) (rp : ∀ F, Rep X.K F d v) (hg : Gl X x := by rfl) (hd : (x == ("__debug__" : Str)) = false := by decide) : SR b X W (.Name x pos) (rC d) := SR.const (pe_glob hg hm r hd) rp
theorem SR.gInt {i : Int} (hm : ∃ t, X.mg x = some (.int i t)) (hg : Gl X x := by rfl) (hd : (x == ("__debug__" : Str)) = false := by decide) : SR b X W (.Name x pos) (rC (.int i)) := by
  obtain ⟨t, hm⟩ := hm
  exact SR.glo (v := .int i) hm ⟨t, rfl⟩ (fun _ => mk_int) hg hd
theorem SR.gStr {i : Str} (hm : ∃ t, X.mg x = some (.str i t)) (hg : Gl X x := by rfl) (hd : (x == ("__debug__" : Str)) = false := by decide) : SR b X W (.Name x pos) (rC (.str i)) := by
  obtain ⟨t, hm⟩ := hm
  exact SR.glo (v := .str i) hm ⟨t, rfl⟩ (fun _ => mk_str) hg hd
/-- plain items -/
def dvD : He.Dv → D
  | .non => .non
  | .bl c => .bl c
  | .int i => .int i
  | .str y => .str y
  | _ => .dit []
def dvOk : He.Dv → Bool
  | .non => true
  | .bl _ => true
  | .int _ => true
  | .str _ => true
  | _ => false
theorem dv_reps {K : Fr'} {F : Hp} : ∀ {vs : List He.Dv}, vs.all dvOk = true → Reps K F (vs.map dvD) (vs.map (He.Dv.v K))
  | [], _ => mk_nil
  | v :: vs, h => by
    rw [List.all_cons, Bool.and_eq_true] at h
    refine mk_cons ?_ (dv_reps h.2)
    have h1 := h.1
    cases v <;> first | (cases h1; done) | skip
    · exact mk_non
    · exact mk_bl
    · exact mk_int
    · exact mk_str
theorem SR.gTup {vs : List He.Dv} (hm : X.mg x = some (.ref (He.ga X.K x))) (ht : He.tupB X.K x vs = true) (ok : vs.all dvOk = true := by decide) (hg : Gl X x := by rfl) (hd : (x == ("__debug__" : Str)) = false := by decide) : SR b X W (.Name x pos) (rC (.tup (vs.map dvD))) :=
  SR.glo hm (v := .ref (He.ga X.K x)) rfl (fun F => mk_tup (He.tupB_ok ht F) (dv_reps ok)) hg hd
end
end VL

/-! V21: + of whatever; comprehensions over the keys of a dict; lists of texts. -/
namespace VL
open PySem PySem.Spec L2

def gAddU : D → D → Out D
  | .int i, .int j => .ok (.int (i + j))
  | .str x, .str y => if x.length + y.length ≤ sizeLine then .ok (.str (x ++ y)) else .bad
  | .lst xs, .lst ys => if xs.length + ys.length ≤ sizeLine then .ok (.lst (xs ++ ys)) else .bad
  | .tup xs, .tup ys => if xs.length + ys.length ≤ sizeLine then .ok (.tup (xs ++ ys)) else .bad
  | _, _ => .bad
def rAddU (K : Fr') : R2 := fun x y H Q => rAddS x y H Q ∨ (rCatR K x y H Q ∨ rCatA K x y H Q)
theorem op_addU {X : Cx} : OpR X (binaryOp .Add) (rAddU X.K) := OpR.or op_addS (OpR.or op_catR op_catA)
theorem p_addU {K : Fr'} : Pure2 K (rAddU K) gAddU := by
  intro F H x y dx dy d Q l rx ry e k
  cases dx <;> cases dy <;> first | (unfold gAddU at e; cases e; done) | skip
  · exact .inl (p_add F H x y _ _ d Q l rx ry e k)
  · exact .inl (p_add F H x y _ _ d Q l rx ry e k)
  · rename_i xs ys
    unfold gAddU at e
    dsimp only at e
    by_cases c : xs.length + ys.length ≤ sizeLine
    · rw [if_pos c] at e
      cases e
      obtain ⟨a, vs, rfl, h1, q1⟩ := rep_tup rx
      obtain ⟨a2, ws, rfl, h2, q2⟩ := rep_tup ry
      refine .inr (.inr ⟨a, a2, vs, ws, rfl, rfl, l.seqT h1, l.seqT h2, by rw [reps_len q1, reps_len q2]; exact c, fun z => ?_, fun z z2 => ?_, fun z z2 p hp => ?_⟩)
      · subst z
        have e0 : xs = [] := by
          have h := reps_len q1
          exact List.eq_nil_of_length_eq_zero h.symm
        subst e0
        exact k _ _ _ (New.refl l) (mk_tup h2 q2)
      · subst z2
        have e0 : ys = [] := by
          have h := reps_len q2
          exact List.eq_nil_of_length_eq_zero h.symm
        subst e0
        refine k _ _ _ (New.refl l) ?_
        rw [List.append_nil]
        exact mk_tup h1 q1
      · exact k _ _ _ (New.upd (o := .tup (vs ++ ws)) l hp) (mk_tup (.inl (.inl upd_same)) (Reps.mono (Le.updL (l.none hp)) _ _ (reps_app q1 q2)))
    · rw [if_neg c] at e
      cases e
  · rename_i xs ys
    have e2 : gCatL (.lst xs) (.lst ys) = .ok d := e
    exact .inr (.inl (p_catL F H x y _ _ d Q l rx ry e2 fun p o hp c => by
      obtain ⟨n, r⟩ := Co.laid l hp c
      exact k _ _ _ n r))
section
variable {b : Bool} {X : Cx} {W : WX} {x y : Expr} {f g : Env' → Out D} {pos : Pos}
theorem SR.addU (ha : SR b X W x f) (hb : SR b X W y g) : SR b X W (.BinOp x .Add y pos) (r2 f g gAddU) := SR.bin op_addU p_addU ha hb
theorem SM.addU {mf mg' : Env' → Out (D × Env')} (ha : SM X W x mf) (hb : SM X W y mg') : SM X W (.BinOp x .Add y pos) (m2 mf mg' gAddU) := SM.bin op_addU p_addU ha hb
end
section
variable {X : Cx} {W : WX} {elt tg : Expr} {ifs : List Expr} {scope : Scope} {own : List (Str × Nat)} {pos p : Pos} {sl : List Nat} {g : D → Env' → Out Env'} {t : Env' → Out Bool} {f : Env' → Out D} {z : Str}
/-- [.. for k in d], d a frozen dict in place i -/
theorem SO.lcK (i : Nat) (hc : X.calm = true) (hN : X.N.Nodup) (ok : BlkOk X.N X.env.scope scope own)
    (hg : ∀ (s : Shared) (H : Hp) (C : Addr) (cl : List (Str × Addr)) (fp : List Addr), SG (X.blk s H scope (compEnvC scope cl C X.env) fp) sl tg g)
    (ht : ∀ (s : Shared) (H : Hp) (C : Addr) (cl : List (Str × Addr)) (fp : List Addr), STs (X.blk s H scope (compEnvC scope cl C X.env) fp) W0 ifs t)
    (he : ∀ (s : Shared) (H : Hp) (C : Addr) (cl : List (Str × Addr)) (fp : List Addr), SR false (X.blk s H scope (compEnvC scope cl C X.env) fp) W0 elt f) (hNi : X.N[i]? = some z := by rfl) (hv : Vis X.env.scope z := by first | exact Or.inl rfl | exact Or.inr (Or.inl rfl) | exact Or.inr (Or.inr rfl)) (hd : (z == ("__debug__" : Str)) = false := by decide)
    (hcd : (z == ("__classdict__" : Str)) = false := by decide) (hsl : ∀ i, i ∈ sl → i ∈ own.map (·.2) := by decide) (hs : ∀ x, foldedSetIterable (.Name z p) X.env x = pure x := by intro _; rfl) :
    SO false X W (.ListComp elt [⟨tg, .Name z p, ifs, 0⟩] scope pos) (rLc (iKs (rv false i)) (own.map (·.2)) g t f) := by
  have h := pe_lc (elt := elt) (pos := pos) (g := gM X.K sl g) (tt := tRT X.K X.mg W0 t) (te := tR X.K X.mg W0 false f) hc hN (pi_keys (pe_var (pos := p) hNi hv hd hcd)) ok (fun s H C cl fp => (hg s H C cl fp).pg) (fun s H C cl fp => (ht s H C cl fp).pt) (fun s H C cl fp => (he s H C cl fp).pe) hs
  exact SO.imp (PE.or (pe_lock h) h) (lcK_read i hsl)
end
end VL

/-! V22: mirrors run by equations. -/
namespace VL
open PySem PySem.Spec L2

section
variable {α β : Type} (ρ : Env') (f g h : Env' → Out D) (o : D → D → Out D)
theorem ev_ok (a : α) (k : α → Out β) : (Out.ok a).bind k = k a := rfl
theorem ev_exc (c : Str) (fs : List D) (k : α → Out β) : (Out.exc c fs).bind k = .exc c fs := rfl
theorem ev_bad (k : α → Out β) : (Out.bad : Out α).bind k = .bad := rfl
theorem ev_nok (a : α) : noX (Out.ok a) = .ok a := rfl
theorem ev_nbad : noX (Out.bad : Out α) = .bad := rfl
theorem ev_nexc (c : Str) (fs : List D) : noX (Out.exc c fs : Out α) = .bad := rfl
theorem ev_rC (d : D) : rC d ρ = .ok d := rfl
theorem ev_r1 (u : D → Out D) : r1 f u ρ = (f ρ).bind fun x => noX (u x) := rfl
theorem ev_r2 : r2 f g o ρ = (f ρ).bind fun x => (g ρ).bind fun y => noX (o x y) := rfl
theorem ev_rN (fs : Env' → Out (List D)) (u : List D → Out D) : rN fs u ρ = (fs ρ).bind fun x => noX (u x) := rfl
theorem ev_rF (fs : Env' → Out (List D)) (u : List D → Out D) : rF fs u ρ = (fs ρ).bind u := rfl
theorem ev_rNil : rNil ρ = .ok [] := rfl
theorem ev_rCons (fs : Env' → Out (List D)) : rCons f fs ρ = (f ρ).bind fun x => (fs ρ).bind fun xs => .ok (x :: xs) := rfl
theorem ev_rIf (t : Env' → Out Bool) (u v : Env' → Out α) : rIf t u v ρ = (t ρ).bind fun c => if c = true then u ρ else v ρ := rfl
theorem ev_rAnd : rAnd f g ρ = (f ρ).bind fun c => match c with
  | .bl true => g ρ
  | .bl false => .ok (.bl false)
  | _ => .bad := rfl
theorem ev_rOr : rOr f g ρ = (f ρ).bind fun c => match c with
  | .bl true => .ok (.bl true)
  | .bl false => g ρ
  | _ => .bad := rfl
theorem ev_rNot (c : Bool) : rNot (.bl c) = .ok (.bl !c) := rfl
theorem ev_rCh (o' : D → D → Out D) : rCh f g h o o' ρ = (f ρ).bind fun x => (g ρ).bind fun y => (noX (o x y)).bind fun c => match c with
  | .bl true => (h ρ).bind fun z => noX (o' y z)
  | .bl false => .ok (.bl false)
  | _ => .bad := rfl
theorem ev_bT : bT f ρ = (f ρ).bind asB := rfl
theorem ev_asB (c : Bool) : asB (.bl c) = .ok c := rfl
theorem ev_bAnd (u v : Env' → Out Bool) : bAnd u v ρ = (u ρ).bind fun c => if c = true then v ρ else .ok false := rfl
theorem ev_bOr (u v : Env' → Out Bool) : bOr u v ρ = (u ρ).bind fun c => if c = true then .ok true else v ρ := rfl
theorem ev_bNot (u : Env' → Out Bool) : bNot u ρ = (u ρ).bind fun c => .ok (!c) := rfl
theorem ev_mOf (b : Bool) : mOf b f ρ = (f ρ).bind fun d => if b = false ∨ immut d = true then .ok (d, ρ) else .bad := rfl
theorem ev_mT (u : Env' → Out Bool) : mT u ρ = (u ρ).bind fun c => .ok (c, ρ) := rfl
theorem ev_brw (u : Env' → Out α) : brw u ρ = u (frzA ρ) := rfl
theorem ev_sSeq (u v : Env' → Out (Fl × Env')) : sSeq u v ρ = (u ρ).bind fun p => match p.1 with
  | .nx => v p.2
  | .brk => .ok (.brk, p.2)
  | .cnt => .ok (.cnt, p.2)
  | .ret d => .ok (.ret d, p.2)
  | .new d => .ok (.new d, p.2) := rfl
theorem ev_sNil : sNil ρ = .ok (.nx, ρ) := rfl
theorem ev_sAsg (m : Env' → Out (D × Env')) (t : D → Env' → Out Env') : sAsg m t ρ = (m ρ).bind fun x => (noX (t x.1 x.2)).bind fun r => .ok (.nx, r) := rfl
theorem ev_tgN (i : Nat) (d : D) : tgN i d ρ = .ok (ρ.set i (.val d)) := rfl
theorem ev_sIf (c : Env' → Out (Bool × Env')) (u v : Env' → Out (Fl × Env')) : sIf c u v ρ = (c ρ).bind fun t => if t.1 = true then u t.2 else v t.2 := rfl
theorem ev_sRet (m : Env' → Out (D × Env')) : sRet m ρ = (m ρ).bind fun x => .ok (.ret x.1, x.2) := rfl
theorem ev_sNew : sNew f ρ = (f ρ).bind fun d => .ok (.new d, ρ) := rfl
theorem ev_sFor (it : Env' → Out (List D × Env')) (t : D → Env' → Out Env') (u : Env' → Out (Fl × Env')) : sFor it t u ρ = (it ρ).bind fun x => forL t u x.1 x.2 := rfl
theorem ev_iOf (u : Env' → Out (List D)) : iOf u ρ = (u ρ).bind fun xs => .ok (xs, ρ) := rfl
theorem ev_iSeq : iSeq f ρ = (f ρ).bind seqD := rfl
theorem ev_sPut (i : Nat) (m : Env' → Out (D × Env')) : sPut i m f ρ = (m ρ).bind fun x => match x.2[i]? with
  | some (.own (.lst xs)) => (f x.2).bind fun k => match k with
    | .int j => match ixN xs.length j with
      | some n => .ok (.nx, x.2.set i (.own (.lst (xs.set n x.1))))
      | none => .bad
    | _ => .bad
  | _ => .bad := rfl
theorem ev_mCT (i : Nat) (ms : Env' → Out (List D × Env')) (mf : D → List D → Out (D × D)) : mCT i ms mf ρ = match ρ[i]? with
  | some (.own _) => (ms ρ).bind fun a => (match a.2[i]? with
    | some (.own d) => (mf d a.1).bind fun r => .ok (r.1, a.2.set i (.own r.2))
    | _ => .bad)
  | _ => .bad := rfl
theorem ev_mNil : mNil ρ = .ok ([], ρ) := rfl
theorem ev_mCons (m : Env' → Out (D × Env')) (ms : Env' → Out (List D × Env')) : mCons m ms ρ = (m ρ).bind fun x => (ms x.2).bind fun xs => .ok (x.1 :: xs.1, xs.2) := rfl
theorem ev_mN (ms : Env' → Out (List D × Env')) (u : List D → Out D) : mN ms u ρ = (ms ρ).bind fun x => (noX (u x.1)).bind fun d => .ok (d, x.2) := rfl
theorem ev_m1 (m : Env' → Out (D × Env')) (u : D → Out D) : m1 m u ρ = (m ρ).bind fun x => (noX (u x.1)).bind fun d => .ok (d, x.2) := rfl
theorem ev_m2 (m n : Env' → Out (D × Env')) : m2 m n o ρ = (m ρ).bind fun x => (n x.2).bind fun y => (noX (o x.1 y.1)).bind fun d => .ok (d, y.2) := rfl
theorem ev_mCF (ms : Env' → Out (List D × Env')) (u : List D → Out D) : mCF ms u ρ = (ms ρ).bind fun a => (u a.1).bind fun d => .ok (d, a.2) := rfl
theorem ev_bMT (m : Env' → Out (D × Env')) : bMT m ρ = (m ρ).bind fun x => (asB x.1).bind fun c => .ok (c, x.2) := rfl
theorem ev_sOwn (b : Bool) (i : Nat) : sOwn b f i ρ = (f ρ).bind fun d => if b = false ∨ topIm d = true then .ok (.nx, ρ.set i (.own d)) else .bad := rfl
theorem ev_mIxO (i : Nat) : mIxO i f ρ = match ρ[i]? with
  | some (.own (.lst xs)) => (f ρ).bind fun y => match y with
    | .int j => match atI xs j with
      | some d => .ok (d, ρ)
      | none => .bad
    | _ => .bad
  | _ => .bad := rfl
end
theorem ev_rv (b : Bool) (i : Nat) (ρ : Env') : rv b i ρ = match ρ[i]? with
  | some (.val d) => .ok d
  | some (.own d) => if b = true then .ok d else .bad
  | _ => .bad := rfl
theorem ev_gSub (i j : Int) : gSub (.int i) (.int j) = .ok (.int (i - j)) := rfl
theorem ev_gLt (i j : Int) : gLt (.int i) (.int j) = .ok (.bl (decide (i < j))) := rfl
theorem ev_gLe (i j : Int) : gLe (.int i) (.int j) = .ok (.bl (decide (i ≤ j))) := rfl
theorem ev_gGt (i j : Int) : gGt (.int i) (.int j) = .ok (.bl (decide (j < i))) := rfl
theorem ev_gGe (i j : Int) : gGe (.int i) (.int j) = .ok (.bl (decide (j ≤ i))) := rfl
theorem ev_addI (i j : Int) : gAddU (.int i) (.int j) = .ok (.int (i + j)) := rfl
theorem ev_mod {i j : Int} (h : j ≠ 0) : gMod (.int i) (.int j) = .ok (.int (i.fmod j)) := by
  show (if decide (j ≠ 0) = true then _ else _) = _
  rw [if_pos (decide_eq_true h)]
theorem ev_fdiv {i j : Int} (h : j ≠ 0) (h2 : j.natAbs < 1073741824) : gFdiv (.int i) (.int j) = .ok (.int (i.fdiv j)) := by
  show (if (decide (j ≠ 0) && decide (j.natAbs < 1073741824)) = true then _ else _) = _
  rw [if_pos (by rw [Bool.and_eq_true]; exact ⟨decide_eq_true h, decide_eq_true h2⟩)]
theorem ev_mulR {i j : Int} (h1 : -(2 ^ 64) < j) (h2 : j < 2 ^ 64) : gMulI (.int i) (.int j) = .ok (.int (i * j)) := by
  show (if cMul i j = true then _ else _) = _
  rw [if_pos]
  unfold cMul
  rw [Bool.or_eq_true, Bool.and_eq_true, Bool.and_eq_true]
  exact .inr ⟨decide_eq_true h1, decide_eq_true h2⟩
theorem ev_mulL {i j : Int} (h1 : -(2 ^ 64) < i) (h2 : i < 2 ^ 64) : gMulI (.int i) (.int j) = .ok (.int (i * j)) := by
  show (if cMul i j = true then _ else _) = _
  rw [if_pos]
  unfold cMul
  rw [Bool.or_eq_true, Bool.and_eq_true, Bool.and_eq_true]
  exact .inl ⟨decide_eq_true h1, decide_eq_true h2⟩
theorem ev_int (i : Int) : gInt [.int i] = .ok (.int i) := rfl
theorem ev_intB (c : Bool) : gInt [.bl c] = .ok (.int (if c then 1 else 0)) := rfl
theorem ev_neg (i : Int) : gNeg (.int i) = .ok (.int (-i)) := rfl
theorem ev_lenL (xs : List D) : gLen [.lst xs] = .ok (.int xs.length) := rfl
theorem atI_nat' {α : Type} {xs : List α} {i : Int} (h : 0 ≤ i) : atI xs i = xs[i.toNat]? := by
  unfold atI ixN
  rw [if_pos h]
  by_cases c : i < xs.length
  · rw [if_pos c]
    rfl
  · rw [if_neg c]
    show none = _
    rw [List.getElem?_eq_none (by omega)]
theorem ixN_nat {n : Nat} {i : Int} (h : 0 ≤ i) (h2 : i < n) : ixN n i = some i.toNat := by
  unfold ixN
  rw [if_pos h, if_pos h2]
end VL

/-! V23: what the top has written: functions, names, tuples. -/
namespace VL
open PySem PySem.Spec L2

abbrev TbD : Type := List (Str × List He.Dv)
def obsX (fa : List He.Fa) (fn : List He.DefD) (tb : TbD) (K : Fr') : He.AlD := (((fa.all fun f => f.ok K) && fn.all fun d => d.ok K) && tb.all fun q => He.tupB K q.1 q.2, fn.map fun d => He.fnW K d.at_)
def SaysX (fa : List He.Fa) (fn : List He.DefD) (tb : TbD) (K : Fr') : Prop := obsX fa fn tb K = He.valD fn
def obsXG (n : Nat) (fa : List He.Fa) (fn : List He.DefD) (tb : TbD) (g : Addr → Option Obj) : He.AlD := obsX fa fn tb (He.frG g (He.asD g n))
def hookX (n : Nat) (fa : List He.Fa) (fn : List He.DefD) (tb : TbD) : PySem.W.Hook where
  α := He.AlD
  obs := fun s => obsXG n fa fn tb s.heap.get?
  val := fun _ => He.valD fn
  says := fun _ h => ∃ K : Fr', K.In h ∧ SaysX fa fn tb K
  of := fun _ _ e => ⟨_, He.frG_in, e⟩
  keeps := fun _ _ _ ⟨K, hK, c⟩ k => ⟨K, PySem.W.Frag.In.keeps hK k, c⟩
theorem obsXG_eq {n : Nat} {fa : List He.Fa} {fn : List He.DefD} {tb : TbD} {g : Addr → Option Obj} {s : Shared} (h : ∀ a, g a = s.heap.get? a) : obsXG n fa fn tb g = (hookX n fa fn tb).obs s := by
  have e : g = s.heap.get? := funext h
  rw [e]
  rfl
section
variable {fa : List He.Fa} {fn : List He.DefD} {tb : TbD} {K : Fr'}
theorem SaysX.one (c : SaysX fa fn tb K) : (((fa.all fun f => f.ok K) && fn.all fun d => d.ok K) && tb.all fun q => He.tupB K q.1 q.2) = true := congrArg (fun z : He.AlD => z.1) c
theorem SaysX.fact (c : SaysX fa fn tb K) (i : Nat) {f : He.Fa} (h : fa[i]? = some f := by rfl) : f.ok K = true :=
  List.all_eq_true.mp (He.ba (He.ba c.one).1).1 f (List.mem_of_getElem? h)
theorem SaysX.tup (c : SaysX fa fn tb K) (i : Nat) {q : Str × List He.Dv} (h : tb[i]? = some q := by rfl) : He.tupB K q.1 q.2 = true :=
  List.all_eq_true.mp (He.ba c.one).2 q (List.mem_of_getElem? h)
theorem SaysX.def_ (c : SaysX fa fn tb K) (i : Nat) {d : He.DefD} (h : fn[i]? = some d := by rfl) : ∃ fd, FunD K d.name d.qual d.params d.body d.scope (d.dvs K) (d.kws K) (He.fAd K d.at_) fd := by
  have e : fn.map (fun d => He.fnW K d.at_) = fn.map He.DefD.val := congrArg (fun z : He.AlD => z.2) c
  have e2 : (fn.map fun d => He.fnW K d.at_)[i]? = (fn.map He.DefD.val)[i]? := by rw [e]
  rw [List.getElem?_map, List.getElem?_map, h] at e2
  exact He.DefD.funD (Option.some.inj e2) (List.all_eq_true.mp (He.ba (He.ba c.one).1).2 d (List.mem_of_getElem? h))
end
/-- the law, from what its mirror says -/
theorem law_sp {P : Program} {w : World} {K : Fr'} {mg : MG} {base : Heap} {k : Nat} {x : Str} {ps : List Str} {mf : List D → Out D} {f : Addr} (G : OkF P w K mg base k x ps mf) (hf : mg x = some (.ref f)) (hps : ps = (["script"] : List Str)) :
    ∃ fd, FnOk P w K mg base (L2.CX P w) k f fd ["script"] (spF K mg mf) := by
  obtain ⟨fd, F, B⟩ := G.fn
  have e := hf.symm.trans G.g
  cases e
  subst hps
  exact ⟨fd, F⟩
theorem sp_law {K : Fr'} {mg : MG} {mf : List D → Out D} (h : ∀ ns : List Int, mf [.lst (ns.map D.int)] = .ok (.bl true)) {H : Hp} {a : Addr} {ns : List Int} (hS : SqL K H a (ns.map V.int)) :
    spF K mg mf [.ref a] H (fun v _ => v = .bl true) (fun _ _ _ => False) := by
  refine ⟨H, [.lst (ns.map D.int)], Le.refl _, mk_cons (mk_lst hS (mk_ints ns)) mk_nil, ?_⟩
  rw [h ns]
  exact fun v F' H' n r => rep_bl r
theorem law_walk {l : PySem.W.OpenLaw} {n k j : Nat} {q : Program} {loose : List Str} {XP : (Str → Option Value) → Heap → Prop} {d : DefRec} {x : Str} {fa : List He.Fa} {fn : List He.DefD} {tb : TbD} {mf : List D → Out D} (hn : l.most = some n) (hn2 : n ≤ sizeLine) (hdf : d.params.defaults = []) (hr : Room k callerA)
    (hlaw : ∀ ns : List Int, mf [.lst (ns.map D.int)] = .ok (.bl true)) (F : ∀ (w : World) (K : Fr') (mg : MG) (f : Addr) (h : Heap), K.In h → h.Ns mainGlobals mg → mg d.name = some (.ref f) → SaysX fa fn tb K →
      ∃ fd : FuncData, (∀ (s : Shared) (u : Value), BindsTo s fd ⟨[u], []⟩ [(x, u)]) ∧ ∀ base : Heap, K.In base → base.Ns mainGlobals mg → FnOk l.prog w K mg base (L2.CX l.prog w) k f fd [x] (spF K mg mf)) :
    PySem.W.WalkO q loose XP (hookX j fa fn tb).says l.row.toRowW d [] (fun f vs => PySem.call f vs) := by
  refine Att.attach_call hn hdf fun w s₀ s₁ mg mb f o pm cd doc a vs ns G Y ho hd hcd hmg hobj hints hlen hg => ?_
  obtain ⟨K, KX, c⟩ := Y; obtain ⟨fd, hb, hF⟩ := F w K mg f _ KX G.T.g hmg c
  exact law_call KX G.T.g G.T.b G.T.builtins G.T.nolimit hg hobj hints (Nat.le_trans hlen hn2) hr hF hb (fun H hO hS => sp_law hlaw hS) fun H e s' h => by
    obtain ⟨_, _, _, _, _, _, _, _, _, _, _, _, z⟩ := h
    exact z
end VL

namespace K00
open PySem PySem.Spec L2 VL
def topS (i : Nat) : Stmt := PySem.Challenge.pw_strayless_k00_words_and_names.main.body.getD i (.Pass ⟨0, 0, 0, 0⟩)
def t_RESERVED : List He.Dv := [.str "nil", .str "new", .str "free", .str "if", .str "else", .str "while", .str "call", .str "both", .str "with", .str "and", .str "pre", .str "post", .str "proc", .str "end", .str "ls", .str "at", .str "found", .str "inv"]
/-- what the top has written -/
structure Tk (K : Fr') (mg : MG) : Prop where
  g_is_name : mg "is_name" = some (.ref (He.ga K "is_name"))
  f_is_name : ∃ fd, FunD K "is_name" "is_name" (defArgs (topS 6)) (defBody (topS 6)) (defScope (topS 6)) [] [] (He.ga K "is_name") fd
  g_is_hidden : mg "is_hidden" = some (.ref (He.ga K "is_hidden"))
  f_is_hidden : ∃ fd, FunD K "is_hidden" "is_hidden" (defArgs (topS 7)) (defBody (topS 7)) (defScope (topS 7)) [] [] (He.ga K "is_hidden") fd
  g_is_term : mg "is_term" = some (.ref (He.ga K "is_term"))
  f_is_term : ∃ fd, FunD K "is_term" "is_term" (defArgs (topS 8)) (defBody (topS 8)) (defScope (topS 8)) [] [] (He.ga K "is_term") fd
  g_order_of : mg "order_of" = some (.ref (He.ga K "order_of"))
  f_order_of : ∃ fd, FunD K "order_of" "order_of" (defArgs (topS 9)) (defBody (topS 9)) (defScope (topS 9)) [] [] (He.ga K "order_of") fd
  g_in_order : mg "in_order" = some (.ref (He.ga K "in_order"))
  f_in_order : ∃ fd, FunD K "in_order" "in_order" (defArgs (topS 10)) (defBody (topS 10)) (defScope (topS 10)) [] [] (He.ga K "in_order") fd
  g_is_number : mg "is_number" = some (.ref (He.ga K "is_number"))
  f_is_number : ∃ fd, FunD K "is_number" "is_number" (defArgs (topS 14)) (defBody (topS 14)) (defScope (topS 14)) [] [] (He.ga K "is_number") fd
  g__law_is : mg "_law_is" = some (.ref (He.ga K "_law_is"))
  f__law_is : ∃ fd, FunD K "_law_is" "_law_is" (defArgs (topS 16)) (defBody (topS 16)) (defScope (topS 16)) [] [] (He.ga K "_law_is") fd
  g__law_draw : mg "_law_draw" = some (.ref (He.ga K "_law_draw"))
  f__law_draw : ∃ fd, FunD K "_law_draw" "_law_draw" (defArgs (topS 17)) (defBody (topS 17)) (defScope (topS 17)) [] [] (He.ga K "_law_draw") fd
  g__law_tape : mg "_law_tape" = some (.ref (He.ga K "_law_tape"))
  f__law_tape : ∃ fd, FunD K "_law_tape" "_law_tape" (defArgs (topS 18)) (defBody (topS 18)) (defScope (topS 18)) [] [] (He.ga K "_law_tape") fd
  g__law_word : mg "_law_word" = some (.ref (He.ga K "_law_word"))
  f__law_word : ∃ fd, FunD K "_law_word" "_law_word" (defArgs (topS 19)) (defBody (topS 19)) (defScope (topS 19)) [] [] (He.ga K "_law_word") fd
  g__law_due : mg "_law_due" = some (.ref (He.ga K "_law_due"))
  f__law_due : ∃ fd, FunD K "_law_due" "_law_due" (defArgs (topS 20)) (defBody (topS 20)) (defScope (topS 20)) [] [] (He.ga K "_law_due") fd
  g_law : mg "law" = some (.ref (He.ga K "law"))
  f_law : ∃ fd, FunD K "law" "law" (defArgs (topS 21)) (defBody (topS 21)) (defScope (topS 21)) [] [] (He.ga K "law") fd
  n_all : mg "all" = none
  n_bool : mg "bool" = none
  n_int : mg "int" = none
  n_isinstance : mg "isinstance" = none
  n_len : mg "len" = none
  n_list : mg "list" = none
  n_range : mg "range" = none
  n_set : mg "set" = none
  n_sorted : mg "sorted" = none
  n_str : mg "str" = none
  n_tuple : mg "tuple" = none
  c_DIGITS_MOST : ∃ t, mg "DIGITS_MOST" = some (.int 12 t)
  c_DIGITS_forms : ∃ t, mg "DIGITS_forms" = some (.str "0123456789" t)
  c_DIGITS_words : ∃ t, mg "DIGITS_words" = some (.str "0123456789" t)
  c_NAME_MOST : ∃ t, mg "NAME_MOST" = some (.int 12 t)
  c_NIL : ∃ t, mg "NIL" = some (.str "nil" t)
  c_RESERVED : mg "RESERVED" = some (.ref (He.ga K "RESERVED"))
  t_RESERVED : He.tupB K "RESERVED" t_RESERVED = true
  c_SMALL : ∃ t, mg "SMALL" = some (.str "abcdefghijklmnopqrstuvwxyz" t)
theorem hu2 {k : Nat} {A : Around} (hr : Room k A) : A.units + 200 < cLine := by have := hr.un; omega
/-! ### is_name -/
abbrev s_is_name : Stmt := topS 6
theorem sc_is_name : FnScope ["word", "sign"] ["word"] (defScope s_is_name) := ⟨rfl, rfl, rfl, by decide +kernel, rfl, by decide +kernel, by decide +kernel⟩
def b_is_name : Env' → Out (Fl × Env') := (sSeq (sIf (mT (bOr (bNot (bT (rCh (rC (.int 1)) (rN (rCons (rv false 0) rNil) gLen) (rC (.int 12)) gLe gLe))) (bOr (bT (r2 (rv false 0) (rC (.tup (t_RESERVED.map dvD))) (gIn false))) (bT (r2 (r2 (rv false 0) (rC (.int 0)) gIx) (rC (.str "abcdefghijklmnopqrstuvwxyz")) (gIn true)))))) (sSeq (sRet (mOf false (rC (.bl false))))
  sNil) sNil)
  (sSeq (sRet (mOf false (rN (rCons (rLc (iSeq (rv false 0)) [1] (tgN 1) tYs (r2 (rv false 1) (r2 (rC (.str "abcdefghijklmnopqrstuvwxyz")) (rC (.str "0123456789")) gAddU) (gIn false))) rNil) gAll)))
  sNil))
def m_is_name : List D → Out D := arity 1 (fnF 2 b_is_name)
theorem ok_is_name {P : Program} {w : World} {K : Fr'} {mg : MG} {base : Heap} (T : Tk K mg) : OkF P w K mg base 1 "is_name" ["word"] m_is_name := by
  obtain ⟨fd, F⟩ := T.f_is_name
  refine ⟨T.g_is_name, F.kp, fd, fnD_F F sc_is_name fun cdv A outer s H E hr => ?_, F.bindsN fun _ _ _ _ _ _ us hl => match us, hl with | [_], _ => rfl⟩
  have nd : List.Nodup (["word", "sign"] : List Str) := sc_is_name.nd
  have tk : TK (cxOf (L2.CX P w) P w K mg base ["word", "sign"] "is_name" (defScope s_is_name) (He.ga K "is_name") cdv A outer s H E) (WE' E) := TK.of (takes_of rfl rfl rfl rfl)
  have po : PassesOwn (model P w) (cxOf (L2.CX P w) P w K mg base ["word", "sign"] "is_name" (defScope s_is_name) (He.ga K "is_name") cdv A outer s H E).A (cxOf (L2.CX P w) P w K mg base ["word", "sign"] "is_name" (defScope s_is_name) (He.ga K "is_name") cdv A outer s H E).env (cxOf (L2.CX P w) P w K mg base ["word", "sign"] "is_name" (defScope s_is_name) (He.ga K "is_name") cdv A outer s H E).xe := passes_of rfl
  exact (SS.cons (S1.ifS (SRT.m (SRW.t (SRW.or (SRT.not (SRT.chain op_le p_le op_le p_le SR.int (SR.callB (call_len) p_len (by rfl) T.n_len (by decide +kernel) (SRs.cons (SR.var 0) SRs.nil)) (SR.gInt T.c_NAME_MOST))) (SRW.or (SRT.cmp op_inA p_in (SR.var 0) (SR.gTup T.c_RESERVED T.t_RESERVED)) (SRW.or1 (SRT.cmp op_notInA p_in (SR.ix (SR.var 0) SR.int) (SR.gStr T.c_SMALL))))))) (SS.cons (S1.ret (SR.m SR.bl))
      SS.nil) SS.nil)
      (SS.cons (S1.ret (SR.m (SR.callB (cr_all (by rfl)) p_all (by rfl) T.n_all (by decide +kernel) (SRs.cons (SO.sr (SO.lc (by rfl) nd (SI.seq (SR.var 0)) (blkOk_by (own := [("sign", 1)]) (by kernel_rfl)) (fun _ _ _ _ _ => (SG.name 1 nd)) (fun _ _ _ _ _ => STs.nil) (fun _ _ _ _ _ => (SR.cmp op_inA p_in (SR.var 1) (SR.bin op_addU p_addU (SR.gStr T.c_SMALL) (SR.gStr T.c_DIGITS_forms)))))) SRs.nil))))
      SS.nil))
/-! ### is_hidden -/
abbrev s_is_hidden : Stmt := topS 7
theorem sc_is_hidden : FnScope ["word", "rest", "sign"] ["word"] (defScope s_is_hidden) := ⟨rfl, rfl, rfl, by decide +kernel, rfl, by decide +kernel, by decide +kernel⟩
def b_is_hidden : Env' → Out (Fl × Env') := (sSeq (sAsg (mOf false (rSl (rv false 0) (oI (some (rC (.int 1)))) (oI none) gSl)) (tgN 1))
  (sSeq (sIf (mT (bOr (bT (r2 (rSl (rv false 0) (oI none) (oI (some (rC (.int 1)))) gSl) (rC (.str "H")) gNe)) (bOr (bNot (bT (rCh (rC (.int 1)) (rN (rCons (rv false 1) rNil) gLen) (rC (.int 12)) gLe gLt))) (bNot (bT (rN (rCons (rLc (iSeq (rv false 1)) [2] (tgN 2) tYs (r2 (rv false 2) (rC (.str "0123456789")) (gIn false))) rNil) gAll)))))) (sSeq (sRet (mOf false (rC (.bl false))))
  sNil) sNil)
  (sSeq (sRet (mOf false (rOr (r2 (rv false 1) (rC (.str "0")) gEq) (r2 (r2 (rv false 1) (rC (.int 0)) gIx) (rC (.str "0")) gNe))))
  sNil)))
def m_is_hidden : List D → Out D := arity 1 (fnF 3 b_is_hidden)
theorem ok_is_hidden {P : Program} {w : World} {K : Fr'} {mg : MG} {base : Heap} (T : Tk K mg) : OkF P w K mg base 1 "is_hidden" ["word"] m_is_hidden := by
  obtain ⟨fd, F⟩ := T.f_is_hidden
  refine ⟨T.g_is_hidden, F.kp, fd, fnD_F F sc_is_hidden fun cdv A outer s H E hr => ?_, F.bindsN fun _ _ _ _ _ _ us hl => match us, hl with | [_], _ => rfl⟩
  have nd : List.Nodup (["word", "rest", "sign"] : List Str) := sc_is_hidden.nd
  have tk : TK (cxOf (L2.CX P w) P w K mg base ["word", "rest", "sign"] "is_hidden" (defScope s_is_hidden) (He.ga K "is_hidden") cdv A outer s H E) (WE' E) := TK.of (takes_of rfl rfl rfl rfl)
  have po : PassesOwn (model P w) (cxOf (L2.CX P w) P w K mg base ["word", "rest", "sign"] "is_hidden" (defScope s_is_hidden) (He.ga K "is_hidden") cdv A outer s H E).A (cxOf (L2.CX P w) P w K mg base ["word", "rest", "sign"] "is_hidden" (defScope s_is_hidden) (He.ga K "is_hidden") cdv A outer s H E).env (cxOf (L2.CX P w) P w K mg base ["word", "rest", "sign"] "is_hidden" (defScope s_is_hidden) (He.ga K "is_hidden") cdv A outer s H E).xe := passes_of rfl
  exact (SS.cons (S1.set 1 nd (SR.m (SR.sl (SR.var 0) (SRo.some SR.int) SRo.none)))
      (SS.cons (S1.ifS (SRT.m (SRW.t (SRW.or (SRT.cmp (op_neD hr.units) pure_ne (SR.sl (SR.var 0) SRo.none (SRo.some SR.int)) SR.str) (SRW.or (SRT.not (SRT.chain op_le p_le op_lt p_lt SR.int (SR.callB (call_len) p_len (by rfl) T.n_len (by decide +kernel) (SRs.cons (SR.var 1) SRs.nil)) (SR.gInt T.c_NAME_MOST))) (SRW.or1 (SRT.not (SRT.val (SR.callB (cr_all (by rfl)) p_all (by rfl) T.n_all (by decide +kernel) (SRs.cons (SO.sr (SO.lc (by rfl) nd (SI.seq (SR.var 1)) (blkOk_by (own := [("sign", 2)]) (by kernel_rfl)) (fun _ _ _ _ _ => (SG.name 2 nd)) (fun _ _ _ _ _ => STs.nil) (fun _ _ _ _ _ => (SR.cmp op_inA p_in (SR.var 2) (SR.gStr T.c_DIGITS_forms))))) SRs.nil))))))))) (SS.cons (S1.ret (SR.m SR.bl))
      SS.nil) SS.nil)
      (SS.cons (S1.ret (SR.m (SR.or (SR.cmp (op_eqD hr.units) pure_eq (SR.var 1) SR.str) (SR.one (SR.cmp (op_neD hr.units) pure_ne (SR.ix (SR.var 1) SR.int) SR.str)))))
      SS.nil)))
/-! ### is_term -/
abbrev s_is_term : Stmt := topS 8
theorem sc_is_term : FnScope ["word"] ["word"] (defScope s_is_term) := ⟨rfl, rfl, rfl, by decide +kernel, rfl, by decide +kernel, by decide +kernel⟩
def b_is_term : Env' → Out (Fl × Env') := (sSeq (sRet (mOf false (rOr (r2 (rv false 0) (rC (.str "nil")) gEq) (rOr (rF (rCons (rv false 0) rNil) m_is_name) (rF (rCons (rv false 0) rNil) m_is_hidden)))))
  sNil)
def m_is_term : List D → Out D := arity 1 (fnF 1 b_is_term)
theorem ok_is_term {P : Program} {w : World} {K : Fr'} {mg : MG} {base : Heap} (T : Tk K mg) : OkF P w K mg base 2 "is_term" ["word"] m_is_term := by
  have G_is_hidden := ok_is_hidden (P := P) (w := w) (base := base) T
  have G_is_name := ok_is_name (P := P) (w := w) (base := base) T
  obtain ⟨fd, F⟩ := T.f_is_term
  refine ⟨T.g_is_term, F.kp, fd, fnD_F F sc_is_term fun cdv A outer s H E hr => ?_, F.bindsN fun _ _ _ _ _ _ us hl => match us, hl with | [_], _ => rfl⟩
  have nd : List.Nodup (["word"] : List Str) := sc_is_term.nd
  have tk : TK (cxOf (L2.CX P w) P w K mg base ["word"] "is_term" (defScope s_is_term) (He.ga K "is_term") cdv A outer s H E) (WE' E) := TK.of (takes_of rfl rfl rfl rfl)
  have po : PassesOwn (model P w) (cxOf (L2.CX P w) P w K mg base ["word"] "is_term" (defScope s_is_term) (He.ga K "is_term") cdv A outer s H E).A (cxOf (L2.CX P w) P w K mg base ["word"] "is_term" (defScope s_is_term) (He.ga K "is_term") cdv A outer s H E).env (cxOf (L2.CX P w) P w K mg base ["word"] "is_term" (defScope s_is_term) (He.ga K "is_term") cdv A outer s H E).xe := passes_of rfl
  exact (SS.cons (S1.ret (SR.m (SR.or (SR.cmp (op_eqD hr.units) pure_eq (SR.var 0) (SR.gStr T.c_NIL)) (SR.or (SR.callD G_is_name hr tk (SRs.cons (SR.var 0) SRs.nil)) (SR.one (SR.callD G_is_hidden hr tk (SRs.cons (SR.var 0) SRs.nil)))))))
      SS.nil)
/-! ### order_of -/
abbrev s_order_of : Stmt := topS 9
theorem sc_order_of : FnScope ["term"] ["term"] (defScope s_order_of) := ⟨rfl, rfl, rfl, by decide +kernel, rfl, by decide +kernel, by decide +kernel⟩
def b_order_of : Env' → Out (Fl × Env') := (sSeq (sIf (mT (bT (r2 (rv false 0) (rC (.str "nil")) gEq))) (sSeq (sRet (mOf false (rN (rCons (rC (.int 0)) (rCons (rC (.str "")) (rCons (rC (.int 0)) rNil))) gTup)))
  sNil) sNil)
  (sSeq (sIf (mT (bT (rF (rCons (rv false 0) rNil) m_is_hidden))) (sSeq (sRet (mOf false (rN (rCons (rC (.int 2)) (rCons (rC (.str "")) (rCons (rN (rCons (rSl (rv false 0) (oI (some (rC (.int 1)))) (oI none) gSl) rNil) gInt) rNil))) gTup)))
  sNil) sNil)
  (sSeq (sRet (mOf false (rN (rCons (rC (.int 1)) (rCons (rv false 0) (rCons (rC (.int 0)) rNil))) gTup)))
  sNil)))
def m_order_of : List D → Out D := arity 1 (fnF 1 b_order_of)
theorem ok_order_of {P : Program} {w : World} {K : Fr'} {mg : MG} {base : Heap} (T : Tk K mg) : OkF P w K mg base 2 "order_of" ["term"] m_order_of := by
  have G_is_hidden := ok_is_hidden (P := P) (w := w) (base := base) T
  obtain ⟨fd, F⟩ := T.f_order_of
  refine ⟨T.g_order_of, F.kp, fd, fnD_F F sc_order_of fun cdv A outer s H E hr => ?_, F.bindsN fun _ _ _ _ _ _ us hl => match us, hl with | [_], _ => rfl⟩
  have nd : List.Nodup (["term"] : List Str) := sc_order_of.nd
  have tk : TK (cxOf (L2.CX P w) P w K mg base ["term"] "order_of" (defScope s_order_of) (He.ga K "order_of") cdv A outer s H E) (WE' E) := TK.of (takes_of rfl rfl rfl rfl)
  have po : PassesOwn (model P w) (cxOf (L2.CX P w) P w K mg base ["term"] "order_of" (defScope s_order_of) (He.ga K "order_of") cdv A outer s H E).A (cxOf (L2.CX P w) P w K mg base ["term"] "order_of" (defScope s_order_of) (He.ga K "order_of") cdv A outer s H E).env (cxOf (L2.CX P w) P w K mg base ["term"] "order_of" (defScope s_order_of) (He.ga K "order_of") cdv A outer s H E).xe := passes_of rfl
  exact (SS.cons (S1.ifS (SRT.m (SRT.cmp (op_eqD hr.units) pure_eq (SR.var 0) (SR.gStr T.c_NIL))) (SS.cons (S1.ret (SR.m (SR.tup (SRs.cons SR.int (SRs.cons SR.str (SRs.cons SR.int SRs.nil))))))
      SS.nil) SS.nil)
      (SS.cons (S1.ifS (SRT.m (SRT.val (SR.callD G_is_hidden hr tk (SRs.cons (SR.var 0) SRs.nil)))) (SS.cons (S1.ret (SR.m (SR.tup (SRs.cons SR.int (SRs.cons SR.str (SRs.cons (SR.callTy (cr_int) p_int (by rfl) T.n_int (by decide +kernel) (SRs.cons (SR.sl (SR.var 0) (SRo.some SR.int) SRo.none) SRs.nil)) SRs.nil))))))
      SS.nil) SS.nil)
      (SS.cons (S1.ret (SR.m (SR.tup (SRs.cons SR.int (SRs.cons (SR.var 0) (SRs.cons SR.int SRs.nil))))))
      SS.nil)))
/-! ### in_order -/
abbrev s_in_order : Stmt := topS 10
theorem sc_in_order : FnScope ["terms", "once", "term", "order"] ["terms"] (defScope s_in_order) := ⟨rfl, rfl, rfl, by decide +kernel, rfl, by decide +kernel, by decide +kernel⟩
def b_in_order : Env' → Out (Fl × Env') := (sSeq (sOwn false (rDc (iSeq (rv false 0)) [2] (tgN 2) tYs (rv false 2) (rC (.bl true))) 1)
  (fun ρ => (sSeq (sRet (mOf false (rLc (iSeq (rN (rCons (rLc (iKs (rv false 1)) [2] (tgN 2) tYs (rN (rCons (rF (rCons (rv false 2) rNil) m_order_of) (rCons (rv false 2) rNil)) gTup)) rNil) gSorted)) [3, 2] (tgTup 2 (tgCons (tgN 3) (tgCons (tgN 2) tgNil))) tYs (rv false 2))))
  sNil) (frzE 1 ρ)))
def m_in_order : List D → Out D := arity 1 (fnF 4 b_in_order)
theorem ok_in_order {P : Program} {w : World} {K : Fr'} {mg : MG} {base : Heap} (T : Tk K mg) : OkF P w K mg base 3 "in_order" ["terms"] m_in_order := by
  have G_order_of := ok_order_of (P := P) (w := w) (base := base) T
  obtain ⟨fd, F⟩ := T.f_in_order
  refine ⟨T.g_in_order, F.kp, fd, fnD_F F sc_in_order fun cdv A outer s H E hr => ?_, F.bindsN fun _ _ _ _ _ _ us hl => match us, hl with | [_], _ => rfl⟩
  have nd : List.Nodup (["terms", "once", "term", "order"] : List Str) := sc_in_order.nd
  have tk : TK (cxOf (L2.CX P w) P w K mg base ["terms", "once", "term", "order"] "in_order" (defScope s_in_order) (He.ga K "in_order") cdv A outer s H E) (WE' E) := TK.of (takes_of rfl rfl rfl rfl)
  have po : PassesOwn (model P w) (cxOf (L2.CX P w) P w K mg base ["terms", "once", "term", "order"] "in_order" (defScope s_in_order) (He.ga K "in_order") cdv A outer s H E).A (cxOf (L2.CX P w) P w K mg base ["terms", "once", "term", "order"] "in_order" (defScope s_in_order) (He.ga K "in_order") cdv A outer s H E).env (cxOf (L2.CX P w) P w K mg base ["terms", "once", "term", "order"] "in_order" (defScope s_in_order) (He.ga K "in_order") cdv A outer s H E).xe := passes_of rfl
  exact (SS.cons (S1.dcO 1 (by rfl) nd (SI.seq (SR.var 0)) (blkOk_by (own := [("term", 2)]) (by kernel_rfl)) (fun _ _ _ _ _ => (SG.name 2 nd)) (fun _ _ _ _ _ => STs.nil) (fun _ _ _ _ _ => (SR.var 2)) (fun _ _ _ _ _ => SR.bl) rfl (sw_trueD rfl rfl (by rfl) (by decide +kernel)))
      (SS.frz 1 (SS.cons (S1.ret (SR.m (SO.sr (SO.lc (by rfl) nd (SI.seq (SO.sr (SO.callB (cr_sortD (hu2 hr)) p_sorted (by rfl) T.n_sorted (by decide +kernel) (SRs.cons (SO.sr (SO.lcK 1 (by rfl) nd (blkOk_by (own := [("term", 2)]) (by kernel_rfl)) (fun _ _ _ _ _ => (SG.name 2 nd)) (fun _ _ _ _ _ => STs.nil) (fun _ _ _ _ _ => (SR.tup (SRs.cons (SR.callD G_order_of hr TK.zero (SRs.cons (SR.var 2) SRs.nil)) (SRs.cons (SR.var 2) SRs.nil)))))) SRs.nil)))) (blkOk_by (own := [("order", 3), ("term", 2)]) (by kernel_rfl)) (fun _ _ _ _ _ => (SG.tup (by rfl) (SGs.cons (SG.name 3 nd) (SGs.cons (SG.name 2 nd) SGs.nil)))) (fun _ _ _ _ _ => STs.nil) (fun _ _ _ _ _ => (SR.var 2))))))
      SS.nil)))
/-! ### is_number -/
abbrev s_is_number : Stmt := topS 14
theorem sc_is_number : FnScope ["word", "sign"] ["word"] (defScope s_is_number) := ⟨rfl, rfl, rfl, by decide +kernel, rfl, by decide +kernel, by decide +kernel⟩
def b_is_number : Env' → Out (Fl × Env') := (sSeq (sIf (mT (bOr (bNot (bT (rCh (rC (.int 1)) (rN (rCons (rv false 0) rNil) gLen) (rC (.int 12)) gLe gLe))) (bNot (bT (rN (rCons (rLc (iSeq (rv false 0)) [1] (tgN 1) tYs (r2 (rv false 1) (rC (.str "0123456789")) (gIn false))) rNil) gAll))))) (sSeq (sRet (mOf false (rC (.bl false))))
  sNil) sNil)
  (sSeq (sRet (mOf false (rOr (r2 (rv false 0) (rC (.str "0")) gEq) (r2 (r2 (rv false 0) (rC (.int 0)) gIx) (rC (.str "0")) gNe))))
  sNil))
def m_is_number : List D → Out D := arity 1 (fnF 2 b_is_number)
theorem ok_is_number {P : Program} {w : World} {K : Fr'} {mg : MG} {base : Heap} (T : Tk K mg) : OkF P w K mg base 1 "is_number" ["word"] m_is_number := by
  obtain ⟨fd, F⟩ := T.f_is_number
  refine ⟨T.g_is_number, F.kp, fd, fnD_F F sc_is_number fun cdv A outer s H E hr => ?_, F.bindsN fun _ _ _ _ _ _ us hl => match us, hl with | [_], _ => rfl⟩
  have nd : List.Nodup (["word", "sign"] : List Str) := sc_is_number.nd
  have tk : TK (cxOf (L2.CX P w) P w K mg base ["word", "sign"] "is_number" (defScope s_is_number) (He.ga K "is_number") cdv A outer s H E) (WE' E) := TK.of (takes_of rfl rfl rfl rfl)
  have po : PassesOwn (model P w) (cxOf (L2.CX P w) P w K mg base ["word", "sign"] "is_number" (defScope s_is_number) (He.ga K "is_number") cdv A outer s H E).A (cxOf (L2.CX P w) P w K mg base ["word", "sign"] "is_number" (defScope s_is_number) (He.ga K "is_number") cdv A outer s H E).env (cxOf (L2.CX P w) P w K mg base ["word", "sign"] "is_number" (defScope s_is_number) (He.ga K "is_number") cdv A outer s H E).xe := passes_of rfl
  exact (SS.cons (S1.ifS (SRT.m (SRW.t (SRW.or (SRT.not (SRT.chain op_le p_le op_le p_le SR.int (SR.callB (call_len) p_len (by rfl) T.n_len (by decide +kernel) (SRs.cons (SR.var 0) SRs.nil)) (SR.gInt T.c_DIGITS_MOST))) (SRW.or1 (SRT.not (SRT.val (SR.callB (cr_all (by rfl)) p_all (by rfl) T.n_all (by decide +kernel) (SRs.cons (SO.sr (SO.lc (by rfl) nd (SI.seq (SR.var 0)) (blkOk_by (own := [("sign", 1)]) (by kernel_rfl)) (fun _ _ _ _ _ => (SG.name 1 nd)) (fun _ _ _ _ _ => STs.nil) (fun _ _ _ _ _ => (SR.cmp op_inA p_in (SR.var 1) (SR.gStr T.c_DIGITS_words))))) SRs.nil)))))))) (SS.cons (S1.ret (SR.m SR.bl))
      SS.nil) SS.nil)
      (SS.cons (S1.ret (SR.m (SR.or (SR.cmp (op_eqD hr.units) pure_eq (SR.var 0) SR.str) (SR.one (SR.cmp (op_neD hr.units) pure_ne (SR.ix (SR.var 0) SR.int) SR.str)))))
      SS.nil))
/-! ### _law_is -/
abbrev s__law_is : Stmt := topS 16
theorem sc__law_is : FnScope ["told", "due"] ["told", "due"] (defScope s__law_is) := ⟨rfl, rfl, rfl, by decide +kernel, rfl, by decide +kernel, by decide +kernel⟩
def b__law_is : Env' → Out (Fl × Env') := (sSeq (sIf (mT (bT (r2 (rv false 1) (rC .non) gIsN))) (sSeq (sRet (mOf false (r2 (rv false 0) (rC .non) gIsN)))
  sNil) sNil)
  (sSeq (sIf (mT (bT (r1 (rv false 1) (gIsi "bool")))) (sSeq (sRet (mOf false (rAnd (r1 (rv false 0) (gIsi "bool")) (r2 (rv false 0) (rv false 1) gEq))))
  sNil) sNil)
  (sSeq (sIf (mT (bT (r1 (rv false 1) (gIsi "int")))) (sSeq (sRet (mOf false (rAnd (r1 (rv false 0) (gIsi "int")) (r2 (rv false 0) (rv false 1) gEq))))
  sNil) sNil)
  (sSeq (sIf (mT (bT (r1 (rv false 1) (gIsi "str")))) (sSeq (sRet (mOf false (rAnd (r1 (rv false 0) (gIsi "str")) (r2 (rv false 0) (rv false 1) gEq))))
  sNil) sNil)
  (sSeq (sIf (mT (bT (r1 (rv false 1) (gIsi "tuple")))) (sSeq (sRet (mOf false (rAnd (r1 (rv false 0) (gIsi "tuple")) (r2 (rv false 0) (rv false 1) gEq))))
  sNil) sNil)
  (sSeq (sRet (mOf false (rAnd (r1 (rv false 0) (gIsi "list")) (r2 (rv false 0) (rv false 1) gEq))))
  sNil))))))
def m__law_is : List D → Out D := arity 2 (fnF 2 b__law_is)
theorem ok__law_is {P : Program} {w : World} {K : Fr'} {mg : MG} {base : Heap} (T : Tk K mg) : OkF P w K mg base 1 "_law_is" ["told", "due"] m__law_is := by
  obtain ⟨fd, F⟩ := T.f__law_is
  refine ⟨T.g__law_is, F.kp, fd, fnD_F F sc__law_is fun cdv A outer s H E hr => ?_, F.bindsN fun _ _ _ _ _ _ us hl => match us, hl with | [_, _], _ => rfl⟩
  have nd : List.Nodup (["told", "due"] : List Str) := sc__law_is.nd
  have tk : TK (cxOf (L2.CX P w) P w K mg base ["told", "due"] "_law_is" (defScope s__law_is) (He.ga K "_law_is") cdv A outer s H E) (WE' E) := TK.of (takes_of rfl rfl rfl rfl)
  have po : PassesOwn (model P w) (cxOf (L2.CX P w) P w K mg base ["told", "due"] "_law_is" (defScope s__law_is) (He.ga K "_law_is") cdv A outer s H E).A (cxOf (L2.CX P w) P w K mg base ["told", "due"] "_law_is" (defScope s__law_is) (He.ga K "_law_is") cdv A outer s H E).env (cxOf (L2.CX P w) P w K mg base ["told", "due"] "_law_is" (defScope s__law_is) (He.ga K "_law_is") cdv A outer s H E).xe := passes_of rfl
  exact (SS.cons (S1.ifS (SRT.m (SRT.cmp op_isN p_isN (SR.var 1) SR.non)) (SS.cons (S1.ret (SR.m (SR.cmp op_isN p_isN (SR.var 0) SR.non)))
      SS.nil) SS.nil)
      (SS.cons (S1.ifS (SRT.m (SRT.val (SR.isi "bool" (by rfl) T.n_isinstance (by rfl) T.n_bool (by decide +kernel) (SR.var 1)))) (SS.cons (S1.ret (SR.m (SR.and (SR.isi "bool" (by rfl) T.n_isinstance (by rfl) T.n_bool (by decide +kernel) (SR.var 0)) (SR.one (SR.cmp (op_eqD hr.units) pure_eq (SR.var 0) (SR.var 1))))))
      SS.nil) SS.nil)
      (SS.cons (S1.ifS (SRT.m (SRT.val (SR.isi "int" (by rfl) T.n_isinstance (by rfl) T.n_int (by decide +kernel) (SR.var 1)))) (SS.cons (S1.ret (SR.m (SR.and (SR.isi "int" (by rfl) T.n_isinstance (by rfl) T.n_int (by decide +kernel) (SR.var 0)) (SR.one (SR.cmp (op_eqD hr.units) pure_eq (SR.var 0) (SR.var 1))))))
      SS.nil) SS.nil)
      (SS.cons (S1.ifS (SRT.m (SRT.val (SR.isi "str" (by rfl) T.n_isinstance (by rfl) T.n_str (by decide +kernel) (SR.var 1)))) (SS.cons (S1.ret (SR.m (SR.and (SR.isi "str" (by rfl) T.n_isinstance (by rfl) T.n_str (by decide +kernel) (SR.var 0)) (SR.one (SR.cmp (op_eqD hr.units) pure_eq (SR.var 0) (SR.var 1))))))
      SS.nil) SS.nil)
      (SS.cons (S1.ifS (SRT.m (SRT.val (SR.isi "tuple" (by rfl) T.n_isinstance (by rfl) T.n_tuple (by decide +kernel) (SR.var 1)))) (SS.cons (S1.ret (SR.m (SR.and (SR.isi "tuple" (by rfl) T.n_isinstance (by rfl) T.n_tuple (by decide +kernel) (SR.var 0)) (SR.one (SR.cmp (op_eqD hr.units) pure_eq (SR.var 0) (SR.var 1))))))
      SS.nil) SS.nil)
      (SS.cons (S1.ret (SR.m (SR.and (SR.isi "list" (by rfl) T.n_isinstance (by rfl) T.n_list (by decide +kernel) (SR.var 0)) (SR.one (SR.cmp (op_eqD hr.units) pure_eq (SR.var 0) (SR.var 1))))))
      SS.nil))))))
/-! ### _law_draw -/
abbrev s__law_draw : Stmt := topS 17
theorem sc__law_draw : FnScope ["tape", "many", "cells", "k", "cell", "digit"] ["tape", "many"] (defScope s__law_draw) := ⟨rfl, rfl, rfl, by decide +kernel, rfl, by decide +kernel, by decide +kernel⟩
def b__law_draw : Env' → Out (Fl × Env') := (sSeq (sIf (mT (brw (bT (r2 (r2 (rv false 0) (rC (.int 2)) gIx) (rv false 1) gLt)))) (sSeq (sAsg (mIxO 0 (rC (.int 0))) (tgN 2))
  (sSeq (sAsg (mIxO 0 (rC (.int 1))) (tgN 3))
  (sSeq (sAsg (mOf true (brw (rIf (bT (r2 (rv false 3) (rN (rCons (rv false 2) rNil) gLen) gLt)) (r2 (rv false 2) (rv false 3) gIx) (r2 (rv false 0) (rC (.int 3)) gIx)))) (tgN 4))
  (sSeq (sIf (mT (bT (r2 (rv false 4) (rC (.int 0)) gLt))) (sSeq (sAsg (mOf false (r2 (r2 (r1 (rC (.int 2)) gNeg) (rv false 4) gMulI) (rC (.int 1)) gSub)) (tgN 4))
  sNil) sNil)
  (sSeq (sIf (mT (bOr (bT (r2 (rv false 4) (r2 (rC (.int 10)) (rC (.int 9)) gPow) gLt)) (bT (r2 (rv false 3) (rN (rCons (rv false 2) rNil) gLen) gGe)))) (sSeq (sAsg (mOf false (r2 (rN (rCons (r2 (r2 (r2 (rv false 4) (rC (.int 48271)) gMulI) (r2 (rv false 3) (rC (.int 69621)) gMulI) gAddU) (rC (.int 12345)) gAddU) rNil) gInt) (rC (.int 2147483647)) gMod)) (tgN 4))
  (sSeq (sAsg (mOf false (r2 (rN (rCons (r2 (r2 (r2 (rv false 4) (rv false 4) gMulI) (r2 (rv false 3) (rC (.int 39373)) gMulI) gAddU) (rC (.int 6789)) gAddU) rNil) gInt) (rC (.int 2147483629)) gMod)) (tgN 4))
  sNil)) sNil)
  (sSeq (sPut 0 (mOf false (r2 (rv false 3) (rC (.int 1)) gAddU)) (rC (.int 1)))
  (sSeq (sPut 0 (mOf false (rv false 4)) (rC (.int 2)))
  sNil))))))) sNil)
  (sSeq (sAsg (mOf true (brw (r2 (rN (rCons (r2 (rv false 0) (rC (.int 2)) gIx) rNil) gInt) (rv false 1) gMod))) (tgN 5))
  (sSeq (sPut 0 (mOf true (brw (r2 (r2 (rv false 0) (rC (.int 2)) gIx) (rv false 1) gFdiv))) (rC (.int 2)))
  (sSeq (sRet (mOf false (rv false 5)))
  sNil))))
def m__law_draw : D → List D → Out (D × D) := fnT 6 2 b__law_draw
theorem ok__law_draw {P : Program} {w : World} {K : Fr'} {mg : MG} {base : Heap} (T : Tk K mg) : OkT P w K mg base 1 "_law_draw" ["tape", "many"] m__law_draw := by
  obtain ⟨fd, F⟩ := T.f__law_draw
  refine ⟨T.g__law_draw, F.kp, fd, fnD_T F sc__law_draw fun cdv A outer s H E hr => ?_, F.bindsN fun _ _ _ _ _ _ us hl => match us, hl with | [_, _], _ => rfl⟩
  have nd : List.Nodup (["tape", "many", "cells", "k", "cell", "digit"] : List Str) := sc__law_draw.nd
  have tk : TK (cxOf (L2.CX P w) P w K mg base ["tape", "many", "cells", "k", "cell", "digit"] "_law_draw" (defScope s__law_draw) (He.ga K "_law_draw") cdv A outer s H E) (WE' E) := TK.of (takes_of rfl rfl rfl rfl)
  have po : PassesOwn (model P w) (cxOf (L2.CX P w) P w K mg base ["tape", "many", "cells", "k", "cell", "digit"] "_law_draw" (defScope s__law_draw) (He.ga K "_law_draw") cdv A outer s H E).A (cxOf (L2.CX P w) P w K mg base ["tape", "many", "cells", "k", "cell", "digit"] "_law_draw" (defScope s__law_draw) (He.ga K "_law_draw") cdv A outer s H E).env (cxOf (L2.CX P w) P w K mg base ["tape", "many", "cells", "k", "cell", "digit"] "_law_draw" (defScope s__law_draw) (He.ga K "_law_draw") cdv A outer s H E).xe := passes_of rfl
  exact (SS.cons (S1.ifS (SRT.m (SRT.borrow (SRT.cmp op_lt p_lt (SR.ix (SR.var 0) SR.int) (SR.var 1)))) (SS.cons (S1.set 2 nd (SM.ixO 0 SR.int))
      (SS.cons (S1.set 3 nd (SM.ixO 0 SR.int))
      (SS.cons (S1.set 4 nd (SR.m (SR.borrow (SR.ifE (SRT.cmp op_lt p_lt (SR.var 3) (SR.callB (call_len) p_len (by rfl) T.n_len (by decide +kernel) (SRs.cons (SR.var 2) SRs.nil))) (SR.ix (SR.var 2) (SR.var 3)) (SR.ix (SR.var 0) SR.int)))))
      (SS.cons (S1.ifS (SRT.m (SRT.cmp op_lt p_lt (SR.var 4) SR.int)) (SS.cons (S1.set 4 nd (SR.m (SR.bin op_sub p_sub (SR.bin op_mul p_mulI (SR.neg SR.int) (SR.var 4)) SR.int)))
      SS.nil) SS.nil)
      (SS.cons (S1.ifS (SRT.m (SRW.t (SRW.or (SRT.cmp op_lt p_lt (SR.var 4) (SR.bin op_pow p_pow SR.int SR.int)) (SRW.or1 (SRT.cmp op_ge p_ge (SR.var 3) (SR.callB (call_len) p_len (by rfl) T.n_len (by decide +kernel) (SRs.cons (SR.var 2) SRs.nil))))))) (SS.cons (S1.set 4 nd (SR.m (SR.bin op_modN p_mod (SR.callTy (cr_int) p_int (by rfl) T.n_int (by decide +kernel) (SRs.cons (SR.bin op_addU p_addU (SR.bin op_addU p_addU (SR.bin op_mul p_mulI (SR.var 4) SR.int) (SR.bin op_mul p_mulI (SR.var 3) SR.int)) SR.int) SRs.nil)) SR.int)))
      (SS.cons (S1.set 4 nd (SR.m (SR.bin op_modN p_mod (SR.callTy (cr_int) p_int (by rfl) T.n_int (by decide +kernel) (SRs.cons (SR.bin op_addU p_addU (SR.bin op_addU p_addU (SR.bin op_mul p_mulI (SR.var 4) (SR.var 4)) (SR.bin op_mul p_mulI (SR.var 3) SR.int)) SR.int) SRs.nil)) SR.int)))
      SS.nil)) SS.nil)
      (SS.cons (S1.put 0 (SR.m (SR.bin op_addU p_addU (SR.var 3) SR.int)) SR.int)
      (SS.cons (S1.put 0 (SR.m (SR.var 4)) SR.int)
      SS.nil))))))) SS.nil)
      (SS.cons (S1.set 5 nd (SR.m (SR.borrow (SR.bin op_modN p_mod (SR.callTy (cr_int) p_int (by rfl) T.n_int (by decide +kernel) (SRs.cons (SR.ix (SR.var 0) SR.int) SRs.nil)) (SR.var 1)))))
      (SS.cons (S1.put 0 (SR.m (SR.borrow (SR.bin op_fdivN p_fdiv (SR.ix (SR.var 0) SR.int) (SR.var 1)))) SR.int)
      (SS.cons (S1.ret (SR.m (SR.var 5)))
      SS.nil))))
/-! ### _law_tape -/
abbrev s__law_tape : Stmt := topS 18
theorem sc__law_tape : FnScope ["script", "mix", "cell"] ["script"] (defScope s__law_tape) := ⟨rfl, rfl, rfl, by decide +kernel, rfl, by decide +kernel, by decide +kernel⟩
def b__law_tape : Env' → Out (Fl × Env') := (sSeq (sAsg (mOf false (rN (rCons (rv false 0) rNil) gLen)) (tgN 1))
  (sSeq (sFor (iOf (iSeq (rv false 0))) (tgN 2) (sSeq (sAsg (mOf false (r2 (rN (rCons (r2 (r2 (r2 (rv false 1) (rC (.int 48271)) gMulI) (r2 (rv false 2) (rC (.int 16807)) gMulI) gAddU) (rC (.int 7)) gAddU) rNil) gInt) (rC (.int 1000000007)) gMod)) (tgN 1))
  sNil))
  (sSeq (sNew (rN (rCons (rN (rCons (rv false 0) rNil) gList) (rCons (rC (.int 0)) (rCons (rC (.int 0)) (rCons (rv false 1) rNil)))) gLst))
  sNil)))
def m__law_tape : List D → Out D := fnN 3 1 b__law_tape
theorem ok__law_tape {P : Program} {w : World} {K : Fr'} {mg : MG} {base : Heap} (T : Tk K mg) : OkN P w K mg base 1 "_law_tape" ["script"] m__law_tape := by
  obtain ⟨fd, F⟩ := T.f__law_tape
  refine ⟨T.g__law_tape, F.kp, fd, fnD_N F sc__law_tape fun cdv A outer s H E hr => ?_, F.bindsN fun _ _ _ _ _ _ us hl => match us, hl with | [_], _ => rfl⟩
  have nd : List.Nodup (["script", "mix", "cell"] : List Str) := sc__law_tape.nd
  have tk : TK (cxOf (L2.CX P w) P w K mg base ["script", "mix", "cell"] "_law_tape" (defScope s__law_tape) (He.ga K "_law_tape") cdv A outer s H E) (WE' E) := TK.of (takes_of rfl rfl rfl rfl)
  have po : PassesOwn (model P w) (cxOf (L2.CX P w) P w K mg base ["script", "mix", "cell"] "_law_tape" (defScope s__law_tape) (He.ga K "_law_tape") cdv A outer s H E).A (cxOf (L2.CX P w) P w K mg base ["script", "mix", "cell"] "_law_tape" (defScope s__law_tape) (He.ga K "_law_tape") cdv A outer s H E).env (cxOf (L2.CX P w) P w K mg base ["script", "mix", "cell"] "_law_tape" (defScope s__law_tape) (He.ga K "_law_tape") cdv A outer s H E).xe := passes_of rfl
  exact (SS.cons (S1.set 1 nd (SR.m (SR.callB (call_len) p_len (by rfl) T.n_len (by decide +kernel) (SRs.cons (SR.var 0) SRs.nil))))
      (SS.cons (S1.forS po (by rfl) (SI.m (SI.seq (SR.var 0))) (SG.name 2 nd) (SS.cons (S1.set 1 nd (SR.m (SR.bin op_modN p_mod (SR.callTy (cr_int) p_int (by rfl) T.n_int (by decide +kernel) (SRs.cons (SR.bin op_addU p_addU (SR.bin op_addU p_addU (SR.bin op_mul p_mulI (SR.var 1) SR.int) (SR.bin op_mul p_mulI (SR.var 2) SR.int)) SR.int) SRs.nil)) SR.int)))
      SS.nil))
      (SS.cons (S1.retN' (SO.lst (SRs.cons (SO.sr (SO.callTy (call_list_of) p_list (by rfl) T.n_list (by decide +kernel) (SRs.cons (SR.var 0) SRs.nil))) (SRs.cons SR.int (SRs.cons SR.int (SRs.cons (SR.var 1) SRs.nil))))))
      SS.nil)))
/-! ### _law_word -/
abbrev s__law_word : Stmt := topS 19
theorem sc__law_word : FnScope ["tape", "way", "k"] ["tape"] (defScope s__law_word) := ⟨rfl, rfl, rfl, by decide +kernel, rfl, by decide +kernel, by decide +kernel⟩
def b__law_word : Env' → Out (Fl × Env') := (sSeq (sAsg (mCT 0 (mCons (mOf false (rC (.int 4))) mNil) m__law_draw) (tgN 1))
  (sSeq (sIf (mT (bT (r2 (rv false 1) (rC (.int 0)) gEq))) (sSeq (sRet (m2 (mOf false (rN (rCons (rC (.str "nil")) (rCons (rC (.str "new")) (rCons (rC (.str "free")) (rCons (rC (.str "if")) (rCons (rC (.str "else")) (rCons (rC (.str "while")) (rCons (rC (.str "call")) (rCons (rC (.str "both")) (rCons (rC (.str "with")) (rCons (rC (.str "and")) (rCons (rC (.str "pre")) (rCons (rC (.str "post")) (rCons (rC (.str "proc")) (rCons (rC (.str "end")) (rCons (rC (.str "ls")) (rCons (rC (.str "at")) (rCons (rC (.str "found")) (rCons (rC (.str "inv")) (rCons (rC (.str "out")) (rCons (rC (.str "H")) (rCons (rC (.str "H0")) (rCons (rC (.str "H01")) (rCons (rC (.str "H10")) (rCons (rC (.str "h1")) (rCons (rC (.str "x")) (rCons (rC (.str "0")) (rCons (rC (.str "00")) (rCons (rC (.str "-1")) (rCons (rC (.str "")) rNil))))))))))))))))))))))))))))) gLst)) (mCT 0 (mCons (mOf false (rC (.int 29))) mNil) m__law_draw) gIx))
  sNil) sNil)
  (sSeq (sRet (m1 (mLc (iMrng (mCons (mCT 0 (mCons (mOf false (rC (.int 15))) mNil) m__law_draw) mNil) gR1) [2] (tgN 2) tYs (m2 (mOf false (rC (.str "Hxyab019"))) (mCT 0 (mCons (mOf false (rC (.int 8))) mNil) m__law_draw) gIx)) (gJoin (.str ""))))
  sNil)))
def m__law_word : D → List D → Out (D × D) := fnT 3 1 b__law_word
theorem ok__law_word {P : Program} {w : World} {K : Fr'} {mg : MG} {base : Heap} (T : Tk K mg) : OkT P w K mg base 2 "_law_word" ["tape"] m__law_word := by
  have G__law_draw := ok__law_draw (P := P) (w := w) (base := base) T
  obtain ⟨fd, F⟩ := T.f__law_word
  refine ⟨T.g__law_word, F.kp, fd, fnD_T F sc__law_word fun cdv A outer s H E hr => ?_, F.bindsN fun _ _ _ _ _ _ us hl => match us, hl with | [_], _ => rfl⟩
  have nd : List.Nodup (["tape", "way", "k"] : List Str) := sc__law_word.nd
  have tk : TK (cxOf (L2.CX P w) P w K mg base ["tape", "way", "k"] "_law_word" (defScope s__law_word) (He.ga K "_law_word") cdv A outer s H E) (WE' E) := TK.of (takes_of rfl rfl rfl rfl)
  have po : PassesOwn (model P w) (cxOf (L2.CX P w) P w K mg base ["tape", "way", "k"] "_law_word" (defScope s__law_word) (He.ga K "_law_word") cdv A outer s H E).A (cxOf (L2.CX P w) P w K mg base ["tape", "way", "k"] "_law_word" (defScope s__law_word) (He.ga K "_law_word") cdv A outer s H E).env (cxOf (L2.CX P w) P w K mg base ["tape", "way", "k"] "_law_word" (defScope s__law_word) (He.ga K "_law_word") cdv A outer s H E).xe := passes_of rfl
  exact (SS.cons (S1.set 1 nd (SM.callD 0 G__law_draw hr tk (SMs.cons (SR.m SR.int) SMs.nil)))
      (SS.cons (S1.ifS (SRT.m (SRT.cmp (op_eqD hr.units) pure_eq (SR.var 1) SR.int)) (SS.cons (S1.ret (SM.ix (SR.m (SO.sr (SO.lst (SRs.cons SR.str (SRs.cons SR.str (SRs.cons SR.str (SRs.cons SR.str (SRs.cons SR.str (SRs.cons SR.str (SRs.cons SR.str (SRs.cons SR.str (SRs.cons SR.str (SRs.cons SR.str (SRs.cons SR.str (SRs.cons SR.str (SRs.cons SR.str (SRs.cons SR.str (SRs.cons SR.str (SRs.cons SR.str (SRs.cons SR.str (SRs.cons SR.str (SRs.cons SR.str (SRs.cons SR.str (SRs.cons SR.str (SRs.cons SR.str (SRs.cons SR.str (SRs.cons SR.str (SRs.cons SR.str (SRs.cons SR.str (SRs.cons SR.str (SRs.cons SR.str (SRs.cons SR.str SRs.nil)))))))))))))))))))))))))))))))) (SM.callD 0 G__law_draw hr tk (SMs.cons (SR.m SR.int) SMs.nil))))
      SS.nil) SS.nil)
      (SS.cons (S1.ret (SM.join (SM.lc (by rfl) nd (SIM.rng1 (by rfl) T.n_range (SMs.cons (SM.callD 0 G__law_draw hr tk (SMs.cons (SR.m SR.int) SMs.nil)) SMs.nil)) (blkOk_by (own := [("k", 2)]) (by kernel_rfl)) (fun _ _ _ _ _ => (SG.name 2 nd)) (fun _ _ _ _ _ => STs.nil) (fun _ _ _ _ _ => (SM.ix (SR.m SR.str) (SM.callD 0 G__law_draw hr TK.zero (SMs.cons (SR.m SR.int) SMs.nil)))))))
      SS.nil)))
/-! ### _law_due -/
abbrev s__law_due : Stmt := topS 20
theorem sc__law_due : FnScope ["word", "reserved", "small", "digits", "name", "sign", "rest", "hidden", "number"] ["word"] (defScope s__law_due) := ⟨rfl, rfl, rfl, by decide +kernel, rfl, by decide +kernel, by decide +kernel⟩
def b__law_due : Env' → Out (Fl × Env') := (sSeq (sAsg (mOf false (rTx (rC (.str "nil new free if else while call both with and pre post proc end ls at found inv")) (rC (.str " ")) gSplit)) (tgN 1))
  (sSeq (sAsg (mOf false (rN (rCons (rC (.str "abcdefghijklmnopqrstuvwxyz")) (rCons (rC (.str "0123456789")) rNil)) gTup)) (tgTup 2 (tgCons (tgN 2) (tgCons (tgN 3) tgNil))))
  (sSeq (sAsg (mOf false (rAnd (rCh (rC (.int 0)) (rN (rCons (rv false 0) rNil) gLen) (rC (.int 13)) gLt gLt) (rAnd (r2 (rv false 0) (rv false 1) (gIn true)) (rAnd (r2 (r2 (rv false 0) (rC (.int 0)) gIx) (rv false 2) (gIn false)) (r2 (rC (.bl false)) (rLc (iSeq (rv false 0)) [5] (tgN 5) tYs (r2 (rv false 5) (r2 (rv false 2) (rv false 3) gAddU) (gIn false))) (gIn true)))))) (tgN 4))
  (sSeq (sAsg (mOf false (rSl (rv false 0) (oI (some (rC (.int 1)))) (oI none) gSl)) (tgN 6))
  (sSeq (sAsg (mOf false (rAnd (r2 (rSl (rv false 0) (oI none) (oI (some (rC (.int 1)))) gSl) (rC (.str "H")) gEq) (rAnd (rCh (rC (.int 0)) (rN (rCons (rv false 6) rNil) gLen) (rC (.int 12)) gLt gLt) (rAnd (r2 (rC (.bl false)) (rLc (iSeq (rv false 6)) [5] (tgN 5) tYs (r2 (rv false 5) (rv false 3) (gIn false))) (gIn true)) (rOr (r2 (rv false 6) (rC (.str "0")) gEq) (r2 (r2 (rv false 6) (rC (.int 0)) gIx) (rC (.str "0")) gNe)))))) (tgN 7))
  (sSeq (sAsg (mOf false (rAnd (rCh (rC (.int 0)) (rN (rCons (rv false 0) rNil) gLen) (rC (.int 13)) gLt gLt) (rAnd (r2 (rC (.bl false)) (rLc (iSeq (rv false 0)) [5] (tgN 5) tYs (r2 (rv false 5) (rv false 3) (gIn false))) (gIn true)) (rOr (r2 (rv false 0) (rC (.str "0")) gEq) (r2 (r2 (rv false 0) (rC (.int 0)) gIx) (rC (.str "0")) gNe))))) (tgN 8))
  (sSeq (sRet (mOf false (rN (rCons (rv false 4) (rCons (rv false 7) (rCons (rOr (r2 (rv false 0) (rC (.str "nil")) gEq) (rOr (rv false 4) (rv false 7))) (rCons (rv false 8) rNil)))) gLst)))
  sNil)))))))
def m__law_due : List D → Out D := arity 1 (fnF 9 b__law_due)
theorem ok__law_due {P : Program} {w : World} {K : Fr'} {mg : MG} {base : Heap} (T : Tk K mg) : OkF P w K mg base 1 "_law_due" ["word"] m__law_due := by
  obtain ⟨fd, F⟩ := T.f__law_due
  refine ⟨T.g__law_due, F.kp, fd, fnD_F F sc__law_due fun cdv A outer s H E hr => ?_, F.bindsN fun _ _ _ _ _ _ us hl => match us, hl with | [_], _ => rfl⟩
  have nd : List.Nodup (["word", "reserved", "small", "digits", "name", "sign", "rest", "hidden", "number"] : List Str) := sc__law_due.nd
  have tk : TK (cxOf (L2.CX P w) P w K mg base ["word", "reserved", "small", "digits", "name", "sign", "rest", "hidden", "number"] "_law_due" (defScope s__law_due) (He.ga K "_law_due") cdv A outer s H E) (WE' E) := TK.of (takes_of rfl rfl rfl rfl)
  have po : PassesOwn (model P w) (cxOf (L2.CX P w) P w K mg base ["word", "reserved", "small", "digits", "name", "sign", "rest", "hidden", "number"] "_law_due" (defScope s__law_due) (He.ga K "_law_due") cdv A outer s H E).A (cxOf (L2.CX P w) P w K mg base ["word", "reserved", "small", "digits", "name", "sign", "rest", "hidden", "number"] "_law_due" (defScope s__law_due) (He.ga K "_law_due") cdv A outer s H E).env (cxOf (L2.CX P w) P w K mg base ["word", "reserved", "small", "digits", "name", "sign", "rest", "hidden", "number"] "_law_due" (defScope s__law_due) (He.ga K "_law_due") cdv A outer s H E).xe := passes_of rfl
  exact (SS.cons (S1.set 1 nd (SR.m (SO.sr (SO.split SR.str SR.str))))
      (SS.cons (S1.asg (SR.m (SR.tup (SRs.cons SR.str (SRs.cons SR.str SRs.nil)))) (SG.tup (by rfl) (SGs.cons (SG.name 2 nd) (SGs.cons (SG.name 3 nd) SGs.nil))))
      (SS.cons (S1.set 4 nd (SR.m (SR.and (SR.chain op_lt p_lt op_lt p_lt SR.int (SR.callB (call_len) p_len (by rfl) T.n_len (by decide +kernel) (SRs.cons (SR.var 0) SRs.nil)) SR.int) (SR.and (SR.cmp op_notInA p_in (SR.var 0) (SR.var 1)) (SR.and (SR.cmp op_inA p_in (SR.ix (SR.var 0) SR.int) (SR.var 2)) (SR.one (SR.cmp op_notInA p_in SR.bl (SO.sr (SO.lc (by rfl) nd (SI.seq (SR.var 0)) (blkOk_by (own := [("sign", 5)]) (by kernel_rfl)) (fun _ _ _ _ _ => (SG.name 5 nd)) (fun _ _ _ _ _ => STs.nil) (fun _ _ _ _ _ => (SR.cmp op_inA p_in (SR.var 5) (SR.bin op_addU p_addU (SR.var 2) (SR.var 3)))))))))))))
      (SS.cons (S1.set 6 nd (SR.m (SR.sl (SR.var 0) (SRo.some SR.int) SRo.none)))
      (SS.cons (S1.set 7 nd (SR.m (SR.and (SR.cmp (op_eqD hr.units) pure_eq (SR.sl (SR.var 0) SRo.none (SRo.some SR.int)) SR.str) (SR.and (SR.chain op_lt p_lt op_lt p_lt SR.int (SR.callB (call_len) p_len (by rfl) T.n_len (by decide +kernel) (SRs.cons (SR.var 6) SRs.nil)) SR.int) (SR.and (SR.cmp op_notInA p_in SR.bl (SO.sr (SO.lc (by rfl) nd (SI.seq (SR.var 6)) (blkOk_by (own := [("sign", 5)]) (by kernel_rfl)) (fun _ _ _ _ _ => (SG.name 5 nd)) (fun _ _ _ _ _ => STs.nil) (fun _ _ _ _ _ => (SR.cmp op_inA p_in (SR.var 5) (SR.var 3)))))) (SR.one (SR.or (SR.cmp (op_eqD hr.units) pure_eq (SR.var 6) SR.str) (SR.one (SR.cmp (op_neD hr.units) pure_ne (SR.ix (SR.var 6) SR.int) SR.str)))))))))
      (SS.cons (S1.set 8 nd (SR.m (SR.and (SR.chain op_lt p_lt op_lt p_lt SR.int (SR.callB (call_len) p_len (by rfl) T.n_len (by decide +kernel) (SRs.cons (SR.var 0) SRs.nil)) SR.int) (SR.and (SR.cmp op_notInA p_in SR.bl (SO.sr (SO.lc (by rfl) nd (SI.seq (SR.var 0)) (blkOk_by (own := [("sign", 5)]) (by kernel_rfl)) (fun _ _ _ _ _ => (SG.name 5 nd)) (fun _ _ _ _ _ => STs.nil) (fun _ _ _ _ _ => (SR.cmp op_inA p_in (SR.var 5) (SR.var 3)))))) (SR.one (SR.or (SR.cmp (op_eqD hr.units) pure_eq (SR.var 0) SR.str) (SR.one (SR.cmp (op_neD hr.units) pure_ne (SR.ix (SR.var 0) SR.int) SR.str))))))))
      (SS.cons (S1.ret (SR.m (SO.sr (SO.lst (SRs.cons (SR.var 4) (SRs.cons (SR.var 7) (SRs.cons (SR.or (SR.cmp (op_eqD hr.units) pure_eq (SR.var 0) SR.str) (SR.or (SR.var 4) (SR.one (SR.var 7)))) (SRs.cons (SR.var 8) SRs.nil))))))))
      SS.nil)))))))
/-! ### law -/
abbrev s_law : Stmt := topS 21
theorem sc_law : FnScope ["script", "tape", "words", "k", "word", "due", "terms", "plain", "numbers", "n"] ["script"] (defScope s_law) := ⟨rfl, rfl, rfl, by decide +kernel, rfl, by decide +kernel, by decide +kernel⟩
def b_law : Env' → Out (Fl × Env') := (sSeq (sOwn false (rF (rCons (rv false 0) rNil) m__law_tape) 1)
  (sSeq (sAsg (mLc (iMrng (mCons (m2 (mOf false (rC (.int 1))) (mCT 1 (mCons (mOf false (rC (.int 6))) mNil) m__law_draw) gAddU) mNil) gR1) [3] (tgN 3) tYs (mCT 1 mNil m__law_word)) (tgN 2))
  (fun ρ => (sSeq (sFor (iOf (iSeq (rv false 2))) (tgN 4) (sSeq (sAsg (mOf false (rF (rCons (rv false 4) rNil) m__law_due)) (tgN 5))
  (sSeq (sIf (mT (bNot (bT (rF (rCons (rN (rCons (rF (rCons (rv false 4) rNil) m_is_name) (rCons (rF (rCons (rv false 4) rNil) m_is_hidden) (rCons (rF (rCons (rv false 4) rNil) m_is_term) (rCons (rF (rCons (rv false 4) rNil) m_is_number) rNil)))) gLst) (rCons (rv false 5) rNil)) m__law_is)))) (sSeq (sRet (mOf false (rC (.bl false))))
  sNil) sNil)
  sNil)))
  (sSeq (sOwn false (if false = true then brw (rLc (iSeq (rv false 2)) [4] (tgN 4) (bT (r2 (rF (rCons (rv false 4) rNil) m__law_due) (rC (.int 2)) gIx)) (rv false 4)) else (rLc (iSeq (rv false 2)) [4] (tgN 4) (bT (r2 (rF (rCons (rv false 4) rNil) m__law_due) (rC (.int 2)) gIx)) (rv false 4))) 6)
  (fun ρ => (sSeq (sAsg (mOf false (r1 (rLc (iSeq (rv false 6)) [4] (tgN 4) (bT (r2 (rF (rCons (rv false 4) rNil) m__law_due) (rC (.int 0)) gIx)) (rv false 4)) gSoSet)) (tgN 7))
  (sSeq (sAsg (mOf false (r1 (rLc (iSeq (rv false 6)) [4] (tgN 4) (bT (r2 (rF (rCons (rv false 4) rNil) m__law_due) (rC (.int 1)) gIx)) (rN (rCons (rSl (rv false 4) (oI (some (rC (.int 1)))) (oI none) gSl) rNil) gInt)) gSoSet)) (tgN 8))
  (sSeq (sRet (mOf false (rF (rCons (rF (rCons (r2 (rv false 6) (rv false 6) gAddU) rNil) m_in_order) (rCons (r2 (r2 (rRepL (rCons (rC (.str "nil")) rNil) (rN (rCons (r2 (rC (.str "nil")) (rv false 6) (gIn false)) rNil) gInt)) (rv false 7) gAddU) (rLc (iSeq (rv false 8)) [9] (tgN 9) tYs (r2 (rC (.str "H")) (rN (rCons (rv false 9) rNil) gStr) gAddU)) gAddU) rNil)) m__law_is)))
  sNil))) (frzE 6 ρ)))) (frzE 1 ρ))))
def m_law : List D → Out D := arity 1 (fnF 10 b_law)
theorem fn_law {P : Program} {w : World} {K : Fr'} {mg : MG} {base : Heap} {fd : FuncData} (T : Tk K mg) (F : FunD K "law" "law" (defArgs s_law) (defBody s_law) (defScope s_law) [] [] (He.ga K "law") fd) : FnOk P w K mg base (L2.CX P w) 4 (He.ga K "law") fd ["script"] (spF K mg m_law) := by
  have G__law_draw := ok__law_draw (P := P) (w := w) (base := base) T
  have G__law_due := ok__law_due (P := P) (w := w) (base := base) T
  have G__law_is := ok__law_is (P := P) (w := w) (base := base) T
  have G__law_tape := ok__law_tape (P := P) (w := w) (base := base) T
  have G__law_word := ok__law_word (P := P) (w := w) (base := base) T
  have G_in_order := ok_in_order (P := P) (w := w) (base := base) T
  have G_is_hidden := ok_is_hidden (P := P) (w := w) (base := base) T
  have G_is_name := ok_is_name (P := P) (w := w) (base := base) T
  have G_is_number := ok_is_number (P := P) (w := w) (base := base) T
  have G_is_term := ok_is_term (P := P) (w := w) (base := base) T
  refine fnD_F F sc_law fun cdv A outer s H E hr => ?_
  have nd : List.Nodup (["script", "tape", "words", "k", "word", "due", "terms", "plain", "numbers", "n"] : List Str) := sc_law.nd
  have tk : TK (cxOf (L2.CX P w) P w K mg base ["script", "tape", "words", "k", "word", "due", "terms", "plain", "numbers", "n"] "law" (defScope s_law) (He.ga K "law") cdv A outer s H E) (WE' E) := TK.of (takes_of rfl rfl rfl rfl)
  have po : PassesOwn (model P w) (cxOf (L2.CX P w) P w K mg base ["script", "tape", "words", "k", "word", "due", "terms", "plain", "numbers", "n"] "law" (defScope s_law) (He.ga K "law") cdv A outer s H E).A (cxOf (L2.CX P w) P w K mg base ["script", "tape", "words", "k", "word", "due", "terms", "plain", "numbers", "n"] "law" (defScope s_law) (He.ga K "law") cdv A outer s H E).env (cxOf (L2.CX P w) P w K mg base ["script", "tape", "words", "k", "word", "due", "terms", "plain", "numbers", "n"] "law" (defScope s_law) (He.ga K "law") cdv A outer s H E).xe := passes_of rfl
  exact (SS.cons (S1.own 1 nd (SO.callN G__law_tape hr tk (SRs.cons (SR.var 0) SRs.nil)))
      (SS.cons (S1.lcM 2 (by rfl) nd (SIM.rng1 (by rfl) T.n_range (SMs.cons (SM.bin op_addU p_addU (SR.m SR.int) (SM.callD 1 G__law_draw hr tk (SMs.cons (SR.m SR.int) SMs.nil))) SMs.nil)) (blkOk_by (own := [("k", 3)]) (by kernel_rfl)) (fun _ _ _ _ _ => (SG.name 3 nd)) (fun _ _ _ _ _ => STs.nil) (fun _ _ _ _ _ => (SM.callD 1 G__law_word hr TK.zero SMs.nil)) (by rfl) (sw_true rfl rfl (by rfl) (by decide +kernel)))
      (SS.frz 1 (SS.cons (S1.forS po (by rfl) (SI.m (SI.seq (SR.var 2))) (SG.name 4 nd) (SS.cons (S1.set 5 nd (SR.m (SR.callD G__law_due hr tk (SRs.cons (SR.var 4) SRs.nil))))
      (SS.cons (S1.ifS (SRT.m (SRT.not (SRT.val (SR.callD G__law_is hr tk (SRs.cons (SO.sr (SO.lst (SRs.cons (SR.callD G_is_name hr tk (SRs.cons (SR.var 4) SRs.nil)) (SRs.cons (SR.callD G_is_hidden hr tk (SRs.cons (SR.var 4) SRs.nil)) (SRs.cons (SR.callD G_is_term hr tk (SRs.cons (SR.var 4) SRs.nil)) (SRs.cons (SR.callD G_is_number hr tk (SRs.cons (SR.var 4) SRs.nil)) SRs.nil)))))) (SRs.cons (SR.var 5) SRs.nil)))))) (SS.cons (S1.ret (SR.m SR.bl))
      SS.nil) SS.nil)
      SS.nil)))
      (SS.cons (S1.lcO 6 false (by rfl) nd (SI.seq (SR.var 2)) (blkOk_by (own := [("word", 4)]) (by kernel_rfl)) (fun _ _ _ _ _ => (SG.name 4 nd)) (fun _ _ _ _ _ => STs.one (SRT.val (SR.ix (SR.callD G__law_due hr TK.zero (SRs.cons (SR.var 4) SRs.nil)) SR.int))) (fun _ _ _ _ _ => (SR.var 4)) (by rfl) (sw_true rfl rfl (by rfl) (by decide +kernel)))
      (SS.frz 6 (SS.cons (S1.set 7 nd (SR.m (SO.sr (SO.sortSet (hu2 hr) rfl (by rfl) T.n_sorted (by rfl) T.n_set (SO.sr (SO.lc (by rfl) nd (SI.seq (SR.var 6)) (blkOk_by (own := [("word", 4)]) (by kernel_rfl)) (fun _ _ _ _ _ => (SG.name 4 nd)) (fun _ _ _ _ _ => STs.one (SRT.val (SR.ix (SR.callD G__law_due hr TK.zero (SRs.cons (SR.var 4) SRs.nil)) SR.int))) (fun _ _ _ _ _ => (SR.var 4))))))))
      (SS.cons (S1.set 8 nd (SR.m (SO.sr (SO.sortSet (hu2 hr) rfl (by rfl) T.n_sorted (by rfl) T.n_set (SO.sr (SO.lc (by rfl) nd (SI.seq (SR.var 6)) (blkOk_by (own := [("word", 4)]) (by kernel_rfl)) (fun _ _ _ _ _ => (SG.name 4 nd)) (fun _ _ _ _ _ => STs.one (SRT.val (SR.ix (SR.callD G__law_due hr TK.zero (SRs.cons (SR.var 4) SRs.nil)) SR.int))) (fun _ _ _ _ _ => (SR.callTy (cr_int) p_int (by rfl) T.n_int (by decide +kernel) (SRs.cons (SR.sl (SR.var 4) (SRo.some SR.int) SRo.none) SRs.nil)))))))))
      (SS.cons (S1.ret (SR.m (SR.callD G__law_is hr tk (SRs.cons (SR.callD G_in_order hr tk (SRs.cons (SR.bin op_addU p_addU (SR.var 6) (SR.var 6)) SRs.nil)) (SRs.cons (SR.bin op_addU p_addU (SR.bin op_addU p_addU (SO.sr (SO.repL (SRs.cons SR.str SRs.nil) (SR.callTy (cr_int) p_int (by rfl) T.n_int (by decide +kernel) (SRs.cons (SR.cmp op_inA p_in SR.str (SR.var 6)) SRs.nil)))) (SR.var 7)) (SO.sr (SO.lc (by rfl) nd (SI.seq (SR.var 8)) (blkOk_by (own := [("n", 9)]) (by kernel_rfl)) (fun _ _ _ _ _ => (SG.name 9 nd)) (fun _ _ _ _ _ => STs.nil) (fun _ _ _ _ _ => (SR.bin op_addU p_addU SR.str (SR.callTy (call_str_int) p_str (by rfl) T.n_str (by decide +kernel) (SRs.cons (SR.var 9) SRs.nil))))))) SRs.nil)))))
      SS.nil)))))))))
end K00

namespace K00
open PySem PySem.Spec L2 VL
def tp (cells : List Int) (k cell mix : Int) : D := .lst [.lst (cells.map .int), .int k, .int cell, .int mix]
theorem ix4_0 (a b c d : D) : gIx (.lst [a, b, c, d]) (.int 0) = .ok a := rfl
theorem ix4_1 (a b c d : D) : gIx (.lst [a, b, c, d]) (.int 1) = .ok b := rfl
theorem ix4_2 (a b c d : D) : gIx (.lst [a, b, c, d]) (.int 2) = .ok c := rfl
theorem ix4_3 (a b c d : D) : gIx (.lst [a, b, c, d]) (.int 3) = .ok d := rfl
theorem at4_0 (a b c d : D) : atI [a, b, c, d] 0 = some a := rfl
theorem at4_1 (a b c d : D) : atI [a, b, c, d] 1 = some b := rfl
theorem xn4_1 : ixN 4 1 = some 1 := rfl
theorem xn4_2 : ixN 4 2 = some 2 := rfl
theorem pow9 : gPow (.int 10) (.int 9) = .ok (.int 1000000000) := by
  show (if (decide ((0 : Int) ≤ 9) && (decide ((9 : Int) ≤ 1000000) && decide (Int.natAbs 10 < 2 ^ 64))) = true then Out.ok (D.int (10 ^ Int.toNat 9)) else .bad) = _
  rw [if_pos (by decide +kernel)]
  rfl
theorem im_int (i : Int) : immut (.int i) = true := rfl
theorem mul_c (i : Int) : gMulI (.int i) (.int 48271) = .ok (.int (i * 48271)) := ev_mulR (by decide) (by decide)
theorem mul_k (i : Int) : gMulI (.int i) (.int 69621) = .ok (.int (i * 69621)) := ev_mulR (by decide) (by decide)
theorem mul_k2 (i : Int) : gMulI (.int i) (.int 39373) = .ok (.int (i * 39373)) := ev_mulR (by decide) (by decide)
theorem mul_2 (i : Int) : gMulI (.int (-2)) (.int i) = .ok (.int (-2 * i)) := ev_mulL (by decide) (by decide)
theorem mod_a (i : Int) : gMod (.int i) (.int 2147483647) = .ok (.int (i.fmod 2147483647)) := ev_mod (by decide)
theorem mod_b (i : Int) : gMod (.int i) (.int 2147483629) = .ok (.int (i.fmod 2147483629)) := ev_mod (by decide)
theorem fm (i : Int) {n : Int} (h : 0 < n) : 0 ≤ i.fmod n ∧ i.fmod n < n := ⟨Int.fmod_nonneg_of_pos i h, Int.fmod_lt_of_pos i h⟩
theorem mul_s (i : Int) : gMulI (.int (i.fmod 2147483647)) (.int (i.fmod 2147483647)) = .ok (.int (i.fmod 2147483647 * i.fmod 2147483647)) := by
  have h := fm i (n := 2147483647) (by decide)
  exact ev_mulR (by omega) (by omega)
local macro_rules | `(tactic| trivial) => `(tactic| simp only [ev_ok, ev_exc, ev_bad, ev_nok, ev_nbad, ev_rC, ev_r1, ev_r2, ev_rN, ev_rNil, ev_rCons, ev_rIf, ev_bT, ev_asB, ev_bOr, ev_mOf, ev_mT, ev_brw, ev_sSeq, ev_sNil, ev_sAsg, ev_tgN, ev_sIf, ev_sRet, ev_sPut, ev_mIxO, ev_rv, ev_gSub, ev_gLt, ev_gGe, ev_addI, ev_int, ev_neg, ev_lenL, begE, frzA, frzC, ix4_0, ix4_1, ix4_2, ix4_3, at4_0, at4_1, xn4_1, xn4_2, pow9, im_int, mul_c, mul_k, mul_k2, mul_2, mod_a, mod_b, mul_s,
  List.map_cons, List.map_nil, List.length_cons, List.length_nil, List.length_map, List.replicate, List.cons_append, List.nil_append, List.getElem?_cons_zero, List.getElem?_cons_succ, List.set_cons_zero, List.set_cons_succ, List.set_nil, if_true, if_false, reduceIte, Nat.reduceAdd, Nat.reduceSub, decide_eq_true_eq, decide_true, decide_false, Bool.false_eq_true, or_true, true_or, *])
theorem draw_ok (cells : List Int) (k cell mix many : Int) (hk : 0 ≤ k) (hc : 0 ≤ cell) (hm : 0 ≤ mix) (h0 : 0 < many) (h1 : many < 1073741824) :
    ∃ k' cell' n, m__law_draw (tp cells k cell mix) [.int many] = .ok (.int n, tp cells k' cell' mix) ∧ 0 ≤ n ∧ n < many ∧ 0 ≤ k' ∧ 0 ≤ cell' := by
  have hm0 : many ≠ 0 := by omega
  have m1 : ∀ i : Int, gMod (.int i) (.int many) = .ok (.int (i.fmod many)) := fun i => ev_mod hm0
  have m2 : ∀ i : Int, gFdiv (.int i) (.int many) = .ok (.int (i.fdiv many)) := fun i => ev_fdiv hm0 (by omega)
  have fd : ∀ i : Int, 0 ≤ i → 0 ≤ i.fdiv many := fun i h => Int.fdiv_nonneg h (by omega)
  unfold m__law_draw fnT b__law_draw tp
  by_cases c0 : cell < many
  · have fin : ∀ (v : Int) (k' : Int), 0 ≤ v → 0 ≤ k' → ∃ k'' cell' n, ownOf (D.int (v.fmod many)) (some (Cell.own (D.lst [D.lst (List.map D.int cells), D.int k', D.int (v.fdiv many), D.int mix]))) = Out.ok (D.int n, D.lst [D.lst (List.map D.int cells), D.int k'', D.int cell', D.int mix]) ∧ 0 ≤ n ∧ n < many ∧ 0 ≤ k'' ∧ 0 ≤ cell' :=
      fun v k' hv hk' => ⟨_, _, _, rfl, (fm v h0).1, (fm v h0).2, hk', fd v hv⟩
    by_cases c1 : k < (cells.length : Int)
    · have c1' : ¬ (cells.length : Int) ≤ k := by omega
      have hg : gIx (.lst (cells.map .int)) (.int k) = .ok (.int (cells[k.toNat]'(by omega))) := by
        unfold gIx
        dsimp only
        rw [atI_nat' hk, List.getElem?_map, List.getElem?_eq_getElem (by omega)]
        rfl
      generalize cells[k.toNat]'(by omega) = v at hg
      by_cases c2 : v < 0
      · by_cases c3 : -2 * v - 1 < 1000000000
        · trivial
          exact fin _ _ (fm _ (by decide)).1 (by omega)
        · trivial
          exact fin _ _ (by omega) (by omega)
      · by_cases c3 : v < 1000000000
        · trivial
          exact fin _ _ (fm _ (by decide)).1 (by omega)
        · trivial
          exact fin _ _ (by omega) (by omega)
    · have c1' : (cells.length : Int) ≤ k := by omega
      have c2 : ¬ mix < 0 := by omega
      by_cases c3 : mix < 1000000000
      · trivial
        exact fin _ _ (fm _ (by decide)).1 (by omega)
      · trivial
        exact fin _ _ (fm _ (by decide)).1 (by omega)
  · trivial
    exact ⟨_, _, _, rfl, (fm _ h0).1, (fm _ h0).2, hk, fd _ hc⟩
end K00

namespace K00
open PySem PySem.Spec L2 VL
theorem sizeL : sizeLine = 8388608 ∨ 100000 ≤ sizeLine := by right; decide
theorem len_str {w : Str} (h : w.length ≤ 1000) : gLen [.str w] = .ok (.int w.length) := by
  show (if w.length ≤ sizeLine then _ else _) = _
  rw [if_pos (Nat.le_trans h (by decide))]
def cs (w : Str) : List Nat := w.cps.toList
theorem cs_len (w : Str) : (cs w).length = w.length := by
  unfold cs
  rw [Array.length_toList]
  rfl
def okS (X : Str) (w : Str) : List D := (cs w).map fun c => .bl (decide (c ∈ X.cps.toList))
theorem inC (c : Nat) (X : Str) : gIn false (.str ⟨#[c]⟩) (.str X) = .ok (.bl (decide (c ∈ X.cps.toList))) := rfl
theorem ninC (c : Nat) (X : Str) : gIn true (.str ⟨#[c]⟩) (.str X) = .ok (.bl (!decide (c ∈ X.cps.toList))) := rfl
/-- a comprehension whose element is a function of the item -/
theorem cmp_map {vs : List Nat} {g : D → Env' → Out Env'} {f : Env' → Out D} {ρ : Env'} {G : D → D} : ∀ {xs : List D}, (∀ x ∈ xs, ∃ ρ1, g x (wipeE ρ vs) = .ok ρ1 ∧ f ρ1 = .ok (G x)) → cmpL vs g tYs f ρ xs = .ok (xs.map G)
  | [], _ => rfl
  | x :: xs, h => by
    obtain ⟨ρ1, h1, h2⟩ := h x List.mem_cons_self
    show ((noX (g x (wipeE ρ vs))).bind fun ρ1 => (noX (tYs ρ1)).bind fun c => if c = true then (noX (f ρ1)).bind fun d => (cmpL vs g tYs f ρ xs).bind fun ds => .ok (d :: ds) else cmpL vs g tYs f ρ xs) = _
    rw [h1]
    show (noX (f ρ1)).bind _ = _
    rw [h2]
    show (cmpL vs g tYs f ρ xs).bind _ = _
    rw [cmp_map fun y hy => h y (List.mem_cons_of_mem _ hy)]
    rfl
theorem lc_map {it : Env' → Out (List D)} {vs : List Nat} {g : D → Env' → Out Env'} {f : Env' → Out D} {ρ : Env'} {G : D → D} {xs : List D} (hi : it ρ = .ok xs) (hl : xs.length ≤ 1000) (h : ∀ x ∈ xs, ∃ ρ1, g x (wipeE ρ vs) = .ok ρ1 ∧ f ρ1 = .ok (G x)) : rLc it vs g tYs f ρ = .ok (.lst (xs.map G)) := by
  unfold rLc
  rw [hi]
  show (if xs.length ≤ sizeLine then (noX (cmpL vs g tYs f ρ xs)).bind fun ds => Out.ok (D.lst ds) else Out.bad) = _
  rw [if_pos (Nat.le_trans hl (by decide)), cmp_map h]
  rfl
def allS (X w : Str) : Bool := (cs w).all fun c => decide (c ∈ X.cps.toList)
theorem signs_len (w : Str) : (signsD w).length = w.length := by
  unfold signsD
  rw [List.length_map]
  exact cs_len w
/-- [sign in X for sign in w] -/
theorem lc_signs {w X : Str} (hl : w.length ≤ 1000) {it : Env' → Out (List D)} {vs : List Nat} {g : D → Env' → Out Env'} {f : Env' → Out D} {ρ : Env'} (hi : it ρ = .ok (signsD w)) (h : ∀ c : Nat, ∃ ρ1, g (.str ⟨#[c]⟩) (wipeE ρ vs) = .ok ρ1 ∧ f ρ1 = .ok (.bl (decide (c ∈ X.cps.toList)))) :
    rLc it vs g tYs f ρ = .ok (.lst (okS X w)) := by
  have e : okS X w = (signsD w).map fun d => match d with
    | .str z => .bl (decide (z.cps.toList.headD 0 ∈ X.cps.toList))
    | d => d := by
    unfold okS signsD cs
    rw [List.map_map]
    rfl
  rw [e]
  refine lc_map hi (by rw [signs_len]; exact hl) fun x hx => ?_
  unfold signsD at hx
  obtain ⟨c, _, rfl⟩ := List.mem_map.mp hx
  exact h c
theorem bools_map (l : List Nat) (p : Nat → Bool) : bools (l.map fun c => .bl (p c)) = some (l.map p) := by
  induction l with
  | nil => rfl
  | cons c r ih =>
    show (bools (r.map fun c => D.bl (p c))).map (p c :: ·) = _
    rw [ih]
    rfl
theorem all_ok (X w : Str) : gAll [.lst (okS X w)] = .ok (.bl (allS X w)) := by
  unfold gAll okS
  dsimp only
  rw [bools_map]
  unfold allS
  show Out.ok (D.bl ((List.map (fun c => decide (c ∈ X.cps.toList)) (cs w)).all id)) = _
  rw [List.all_map]
  rfl
theorem nofalse (X w : Str) : gIn true (.bl false) (.lst (okS X w)) = .ok (.bl (allS X w)) := by
  show gInS true (.bl false) (okS X w) = _
  unfold gInS
  have hf : flatD (.bl false) = true ∧ (okS X w).all flatD = true := by
    refine ⟨rfl, ?_⟩
    unfold okS
    rw [List.all_map]
    exact List.all_eq_true.mpr fun c _ => rfl
  rw [if_pos hf]
  have e : (!((okS X w).any fun y => PyData.eqv (toP y) (toP (.bl false)))) = allS X w := by
    unfold okS allS
    rw [List.any_map, List.not_any_eq_all_not]
    congr 1
    funext c
    show (!((decide (c ∈ X.cps.toList)) == false)) = decide (c ∈ X.cps.toList)
    cases decide (c ∈ X.cps.toList) <;> rfl
  show Out.ok (D.bl (!((okS X w).any fun y => PyData.eqv (toP y) (toP (.bl false))))) = _
  rw [e]
def isRes (w : Str) : Bool := (t_RESERVED.map dvD).any fun y => PyData.eqv (toP y) (toP (.str w))
theorem res_in (w : Str) : gIn false (.str w) (.tup (t_RESERVED.map dvD)) = .ok (.bl (isRes w)) := rfl
theorem resL : (Txt.split "nil new free if else while call both with and pre post proc end ls at found inv" " ").map D.str = t_RESERVED.map dvD := by
  have e : Txt.split "nil new free if else while call both with and pre post proc end ls at found inv" " " = (["nil", "new", "free", "if", "else", "while", "call", "both", "with", "and", "pre", "post", "proc", "end", "ls", "at", "found", "inv"] : List Str) := by decide +kernel
  rw [e]
  rfl
theorem res_split : gSplit "nil new free if else while call both with and pre post proc end ls at found inv" (.str " ") = .ok (.lst (t_RESERVED.map dvD)) := by
  show (if ((" " : Str).length == 0) = false ∧ ("nil new free if else while call both with and pre post proc end ls at found inv" : Str).length + 2 ≤ sizeLine then Out.ok (D.lst ((Txt.split "nil new free if else while call both with and pre post proc end ls at found inv" " ").map D.str)) else Out.bad) = _
  rw [if_pos ⟨by decide +kernel, by decide +kernel⟩, resL]
theorem res_nin (w : Str) : gIn true (.str w) (.lst (t_RESERVED.map dvD)) = .ok (.bl !isRes w) := rfl
def SM : Str := "abcdefghijklmnopqrstuvwxyz"
def DG : Str := "0123456789"
def SD : Str := "abcdefghijklmnopqrstuvwxyz0123456789"
theorem add_sd : gAddU (.str "abcdefghijklmnopqrstuvwxyz") (.str "0123456789") = .ok (.str SD) := by
  show (if ("abcdefghijklmnopqrstuvwxyz" : Str).length + ("0123456789" : Str).length ≤ sizeLine then Out.ok (D.str (("abcdefghijklmnopqrstuvwxyz" : Str) ++ "0123456789")) else Out.bad) = _
  rw [if_pos (by decide +kernel)]
  have e : ("abcdefghijklmnopqrstuvwxyz" : Str) ++ "0123456789" = SD := by decide +kernel
  rw [e]
/-- the first sign -/
def hd (w : Str) : Nat := (cs w).headD 0
theorem ix0 {w : Str} (h : w.length ≤ 1000) (h1 : 1 ≤ w.length) : gIx (.str w) (.int 0) = .ok (.str ⟨#[hd w]⟩) := by
  unfold gIx
  dsimp only
  rw [if_pos (Nat.le_trans h (by decide)), atI_nat' (Int.le_refl 0)]
  have hc : 1 ≤ (cs w).length := by rw [cs_len]; exact h1
  have e : w.cps.toList[(0 : Int).toNat]? = some (hd w) := by
    show (cs w)[0]? = _
    unfold hd
    cases q : cs w with
    | nil => rw [q] at hc; cases hc
    | cons c r => rfl
  rw [e]
structure Wd (w : Str) : Prop where
  len : w.length ≤ 30
  ok : PyData.strOk w = true
theorem eq_str {x y : Str} (hx : PyData.strOk x = true) (hy : PyData.strOk y = true) : gEq (.str x) (.str y) = .ok (.bl (x == y)) := by
  unfold gEq
  have h : ∀ z : Str, PyData.strOk z = true → SeqAt.shaped (toP (.str z)) = true := fun z hz => by
    unfold SeqAt.shaped
    rw [Bool.and_eq_true]
    exact ⟨hz, by show decide ((PyData.str z).depth ≤ 64) = true; simp [PyData.depth]⟩
  rw [if_pos ⟨h x hx, h y hy⟩]
  rfl
theorem ne_str {x y : Str} (hx : PyData.strOk x = true) (hy : PyData.strOk y = true) : gNe (.str x) (.str y) = .ok (.bl (!(x == y))) := by
  unfold gNe
  have h : ∀ z : Str, PyData.strOk z = true → SeqAt.shaped (toP (.str z)) = true := fun z hz => by
    unfold SeqAt.shaped
    rw [Bool.and_eq_true]
    exact ⟨hz, by show decide ((PyData.str z).depth ≤ 64) = true; simp [PyData.depth]⟩
  rw [if_pos ⟨h x hx, h y hy⟩]
  rfl
theorem ok_cs {x : Str} : PyData.strOk x = true ↔ ∀ c ∈ cs x, c < 0x110000 := by
  unfold PyData.strOk cs
  rw [Array.all_eq_true_iff_forall_mem]
  constructor
  · exact fun h c hc => of_decide_eq_true (h c (Array.mem_toList_iff.mp hc))
  · exact fun h c hc => decide_eq_true (h c (Array.mem_toList_iff.mpr hc))
def rest (w : Str) : Str := ⟨((cs w).drop 1).toArray⟩
def fst1 (w : Str) : Str := ⟨((cs w).take 1).toArray⟩
theorem cs_rest (w : Str) : cs (rest w) = (cs w).drop 1 := by unfold rest cs; simp
theorem cs_fst1 (w : Str) : cs (fst1 w) = (cs w).take 1 := by unfold fst1 cs; simp
theorem rest_wd {w : Str} (h : Wd w) : Wd (rest w) := by
  refine ⟨?_, ok_cs.mpr fun c hc => ?_⟩
  · rw [← cs_len, cs_rest, List.length_drop, cs_len]
    have := h.len
    omega
  · rw [cs_rest] at hc
    exact ok_cs.mp h.ok c (List.mem_of_mem_drop hc)
theorem fst1_wd {w : Str} (h : Wd w) : Wd (fst1 w) := by
  refine ⟨?_, ok_cs.mpr fun c hc => ?_⟩
  · rw [← cs_len, cs_fst1, List.length_take, cs_len]
    have := h.len
    omega
  · rw [cs_fst1] at hc
    exact ok_cs.mp h.ok c (List.mem_of_mem_take hc)
theorem sl_rest {w : Str} (h : w.length ≤ 30) : gSl (.str w) (some 1) none = .ok (.str (rest w)) := by
  show (if w.length ≤ sizeLine then Out.ok (D.str (cutS w (some 1) none)) else Out.bad) = _
  rw [if_pos (Nat.le_trans h (by decide))]
  congr 2
  unfold cutS rest
  have e1 : HT.sIx w.length 0 (some 1) = min 1 w.length := HT.sIx_nat w.length 0 1
  rw [e1, HT.sIx_none]
  congr 1
  rw [List.take_of_length_le]
  · by_cases h1 : 1 ≤ w.length
    · rw [Nat.min_eq_left h1]
      rfl
    · have h0 : (cs w).length = 0 := by rw [cs_len]; omega
      have e0 : cs w = [] := List.eq_nil_of_length_eq_zero h0
      show List.toArray ((cs w).drop _) = _
      rw [e0]
      simp
  · have := cs_len w
    show ((cs w).drop _).length ≤ _
    rw [List.length_drop]
    omega
theorem sl_fst {w : Str} (h : w.length ≤ 30) : gSl (.str w) none (some 1) = .ok (.str (fst1 w)) := by
  show (if w.length ≤ sizeLine then Out.ok (D.str (cutS w none (some 1))) else Out.bad) = _
  rw [if_pos (Nat.le_trans h (by decide))]
  congr 2
  unfold cutS fst1
  have e2 : ((cs w).drop 0).take (min 1 w.length - 0) = (cs w).take 1 := by
    rw [List.drop_zero, Nat.sub_zero, ← cs_len w]
    by_cases h1 : 1 ≤ (cs w).length
    · rw [Nat.min_eq_left h1]
    · rw [Nat.min_eq_right (by omega), List.take_of_length_le (Nat.le_refl _), List.take_of_length_le (by omega)]
  have e1 : HT.sIx w.length w.length (some 1) = min 1 w.length := HT.sIx_nat w.length w.length 1
  rw [e1, HT.sIx_none]
  show (⟨List.toArray (((cs w).drop 0).take (min 1 w.length - 0))⟩ : Str) = _
  rw [e2]
end K00

namespace K00
open PySem PySem.Spec L2 VL
def nameB (w : Str) : Bool := decide (1 ≤ w.length) && (decide (w.length ≤ 12) && (!isRes w && (decide (hd w ∈ SM.cps.toList) && allS SD w)))
def hidB (w : Str) : Bool := (fst1 w == "H") && (decide (1 ≤ (rest w).length) && (decide ((rest w).length < 12) && (allS DG (rest w) && ((rest w == "0") || !((⟨#[hd (rest w)]⟩ : Str) == "0")))))
def numB (w : Str) : Bool := decide (1 ≤ w.length) && (decide (w.length ≤ 12) && (allS DG w && ((w == "0") || !((⟨#[hd w]⟩ : Str) == "0"))))
def termB (w : Str) : Bool := (w == "nil") || (nameB w || hidB w)
theorem seq_str (w : Str) : seqD (.str w) = .ok (signsD w) := rfl
theorem ni (a b : Nat) : decide ((a : Int) ≤ (b : Int)) = decide (a ≤ b) := by simp
theorem il1 (n : Nat) : decide ((1 : Int) ≤ (n : Int)) = decide (1 ≤ n) := decide_eq_decide.mpr (by omega)
theorem il12 (n : Nat) : decide ((n : Int) ≤ 12) = decide (n ≤ 12) := decide_eq_decide.mpr (by omega)
theorem lt12 (n : Nat) : decide ((n : Int) < 12) = decide (n < 12) := decide_eq_decide.mpr (by omega)
theorem lt13 (n : Nat) : decide ((n : Int) < 13) = decide (n ≤ 12) := decide_eq_decide.mpr (by omega)
theorem gt0 (n : Nat) : decide ((0 : Int) < (n : Int)) = decide (1 ≤ n) := decide_eq_decide.mpr (by omega)
theorem strK : PyData.strOk "0" = true ∧ PyData.strOk "H" = true ∧ PyData.strOk "nil" = true := ⟨by decide +kernel, by decide +kernel, by decide +kernel⟩
theorem one_ok {w : Str} (h : Wd w) : PyData.strOk ⟨#[hd w]⟩ = true := by
  refine ok_cs.mpr fun c hc => ?_
  have e : c = hd w := List.mem_singleton.mp hc
  rw [e]
  unfold hd
  cases q : cs w with
  | nil => decide
  | cons x r => exact ok_cs.mp h.ok x (by rw [q]; exact List.mem_cons_self)
local macro_rules | `(tactic| trivial) => `(tactic| simp only [ev_ok, ev_exc, ev_bad, ev_nok, ev_nbad, ev_rC, ev_r1, ev_r2, ev_rN, ev_rF, ev_rNil, ev_rCons, ev_rIf, ev_rAnd, ev_rOr, ev_rNot, ev_rCh, ev_bT, ev_asB, ev_bAnd, ev_bOr, ev_bNot, ev_mOf, ev_mT, ev_sSeq, ev_sNil, ev_sAsg, ev_tgN, ev_sIf, ev_sRet, ev_rv, ev_gLt, ev_gLe, ev_gGe, ev_iSeq, seq_str, begE, il1, il12, lt12, lt13, gt0, add_sd, all_ok, nofalse, res_in, res_nin, inC, ninC,
  List.map_cons, List.map_nil, List.length_cons, List.length_nil, List.length_map, List.replicate, List.cons_append, List.nil_append, List.getElem?_cons_zero, List.getElem?_cons_succ, List.set_cons_zero, List.set_cons_succ, List.set_nil, if_true, if_false, reduceIte, Nat.reduceAdd, Nat.reduceSub, decide_eq_true_eq, decide_true, decide_false, Bool.false_eq_true, or_true, true_or, Bool.not_true, Bool.not_false, Bool.true_and, Bool.false_and, Bool.and_true, Bool.and_false, Bool.or_true, Bool.true_or, Bool.false_or, Bool.or_false, wipeE, *])
theorem is_name_ok {w : Str} (h : Wd w) : m_is_name [.str w] = .ok (.bl (nameB w)) := by
  have h1 : w.length ≤ 1000 := Nat.le_trans h.len (by decide)
  have hl := len_str h1
  show fnF 2 b_is_name [.str w] = _
  unfold fnF b_is_name nameB
  by_cases c1 : 1 ≤ w.length
  · have hx := ix0 h1 c1
    by_cases c2 : w.length ≤ 12
    · cases c3 : isRes w with
      | true => trivial
      | false =>
        cases c4 : decide (hd w ∈ SM.cps.toList) with
        | false =>
          have c4' : decide (hd w ∈ ("abcdefghijklmnopqrstuvwxyz" : Str).cps.toList) = false := c4
          trivial
        | true =>
          have c4' : decide (hd w ∈ ("abcdefghijklmnopqrstuvwxyz" : Str).cps.toList) = true := c4
          have hs : ∀ ρ : Env', rv false 0 ρ = .ok (.str w) → ρ = [Cell.val (.str w), Cell.emp] → rLc (iSeq (rv false 0)) [1] (tgN 1) tYs (r2 (rv false 1) (r2 (rC (.str "abcdefghijklmnopqrstuvwxyz")) (rC (.str "0123456789")) gAddU) (gIn false)) ρ = .ok (.lst (okS SD w)) := fun ρ e e2 => by
            refine lc_signs h1 (by unfold iSeq; rw [e]; rfl) fun c => ?_
            subst e2
            refine ⟨_, rfl, ?_⟩
            trivial
          have hs' := hs [Cell.val (.str w), Cell.emp] rfl rfl
          trivial
    · trivial
  · trivial
theorem signs_ok {w X : Str} (h : Wd w) {it : Env' → Out (List D)} {vs : List Nat} {g : D → Env' → Out Env'} {f : Env' → Out D} {ρ : Env'} (hi : it ρ = .ok (signsD w)) (k : ∀ c : Nat, ∃ ρ1, g (.str ⟨#[c]⟩) (wipeE ρ vs) = .ok ρ1 ∧ f ρ1 = .ok (.bl (decide (c ∈ X.cps.toList)))) : rLc it vs g tYs f ρ = .ok (.lst (okS X w)) :=
  lc_signs (Nat.le_trans h.len (by decide)) hi k
theorem fst_H (w : Str) (h : Wd w) : gNe (.str (fst1 w)) (.str "H") = .ok (.bl (!(fst1 w == "H"))) := ne_str (fst1_wd h).ok strK.2.1
theorem fst_H' (w : Str) (h : Wd w) : gEq (.str (fst1 w)) (.str "H") = .ok (.bl (fst1 w == "H")) := eq_str (fst1_wd h).ok strK.2.1
theorem is_hidden_ok {w : Str} (h : Wd w) : m_is_hidden [.str w] = .ok (.bl (hidB w)) := by
  have hr := rest_wd h
  have h1 : (rest w).length ≤ 1000 := Nat.le_trans hr.len (by decide)
  have hl := len_str h1
  have s1 := sl_rest h.len
  have s2 := sl_fst h.len
  have n1 := fst_H w h
  have e0 := eq_str hr.ok strK.1
  show fnF 3 b_is_hidden [.str w] = _
  unfold fnF b_is_hidden hidB rSl oI
  cases c1 : (fst1 w == "H") with
  | false => trivial
  | true =>
    by_cases c2 : 1 ≤ (rest w).length
    · have hx := ix0 h1 c2
      have nx := ne_str (one_ok hr) strK.1
      by_cases c3 : (rest w).length < 12
      · have hs := fun a b => signs_ok (X := DG) hr (it := iSeq (rv false 1)) (vs := [2]) (g := tgN 2) (f := r2 (rv false 2) (rC (.str "0123456789")) (gIn false)) (ρ := [Cell.val (.str w), Cell.val (.str (rest w)), Cell.emp]) a b
        have hs' := hs rfl fun c => ⟨_, rfl, rfl⟩
        cases c4 : allS DG (rest w) with
        | false => trivial
        | true =>
          cases c5 : (rest w == "0") <;> trivial
      · trivial
    · trivial
theorem is_number_ok {w : Str} (h : Wd w) : m_is_number [.str w] = .ok (.bl (numB w)) := by
  have h1 : w.length ≤ 1000 := Nat.le_trans h.len (by decide)
  have hl := len_str h1
  have e0 := eq_str h.ok strK.1
  show fnF 2 b_is_number [.str w] = _
  unfold fnF b_is_number numB
  by_cases c2 : 1 ≤ w.length
  · have hx := ix0 h1 c2
    have nx := ne_str (one_ok h) strK.1
    by_cases c3 : w.length ≤ 12
    · have hs := fun a b => signs_ok (X := DG) h (it := iSeq (rv false 0)) (vs := [1]) (g := tgN 1) (f := r2 (rv false 1) (rC (.str "0123456789")) (gIn false)) (ρ := [Cell.val (.str w), Cell.emp]) a b
      have hs' := hs rfl fun c => ⟨_, rfl, rfl⟩
      cases c4 : allS DG w with
      | false => trivial
      | true =>
        cases c5 : (w == "0") <;> trivial
    · trivial
  · trivial
theorem is_term_ok {w : Str} (h : Wd w) : m_is_term [.str w] = .ok (.bl (termB w)) := by
  have e0 := eq_str h.ok strK.2.2
  have e1 := is_name_ok h
  have e2 := is_hidden_ok h
  show fnF 1 b_is_term [.str w] = _
  unfold fnF b_is_term termB
  cases c1 : (w == "nil") with
  | true => trivial
  | false =>
    cases c2 : nameB w <;> trivial
end K00

namespace K00
open PySem PySem.Spec L2 VL
local macro_rules | `(tactic| trivial) => `(tactic| simp only [ev_ok, ev_exc, ev_bad, ev_nok, ev_nbad, ev_rC, ev_r1, ev_r2, ev_rN, ev_rF, ev_rNil, ev_rCons, ev_rIf, ev_rAnd, ev_rOr, ev_rNot, ev_rCh, ev_bT, ev_asB, ev_bAnd, ev_bOr, ev_bNot, ev_mOf, ev_mT, ev_sSeq, ev_sNil, ev_sAsg, ev_tgN, ev_sIf, ev_sRet, ev_rv, ev_gLt, ev_gLe, ev_gGe, ev_iSeq, seq_str, begE, il1, il12, lt12, lt13, gt0, add_sd, all_ok, nofalse, res_in, res_nin, inC, ninC, res_split, tgTup, tgCons, tgNil,
  List.map_cons, List.map_nil, List.length_cons, List.length_nil, List.length_map, List.replicate, List.cons_append, List.nil_append, List.getElem?_cons_zero, List.getElem?_cons_succ, List.set_cons_zero, List.set_cons_succ, List.set_nil, if_true, if_false, reduceIte, Nat.reduceAdd, Nat.reduceSub, decide_eq_true_eq, decide_true, decide_false, Bool.false_eq_true, or_true, true_or, Bool.not_true, Bool.not_false, Bool.true_and, Bool.false_and, Bool.and_true, Bool.and_false, Bool.or_true, Bool.true_or, Bool.false_or, Bool.or_false, wipeE, *])
theorem tup2 (a b : D) : gTup [a, b] = .ok (.tup [a, b]) := rfl
theorem lst4 (a b c d : D) : gLst [a, b, c, d] = .ok (.lst [a, b, c, d]) := rfl
/-- the three values as the law works them out -/
theorem d_name {w : Str} (h : Wd w) (a b c d e f g : Cell) (x4 : a = Cell.val (.lst (t_RESERVED.map dvD))) (hb : b = Cell.val (.str "abcdefghijklmnopqrstuvwxyz")) (hc : c = Cell.val (.str "0123456789")) :
    (rAnd (rCh (rC (.int 0)) (rN (rCons (rv false 0) rNil) gLen) (rC (.int 13)) gLt gLt) (rAnd (r2 (rv false 0) (rv false 1) (gIn true)) (rAnd (r2 (r2 (rv false 0) (rC (.int 0)) gIx) (rv false 2) (gIn false)) (r2 (rC (.bl false)) (rLc (iSeq (rv false 0)) [5] (tgN 5) tYs (r2 (rv false 5) (r2 (rv false 2) (rv false 3) gAddU) (gIn false))) (gIn true)))))
      [Cell.val (.str w), a, b, c, d, e, f, g, Cell.emp] = .ok (.bl (nameB w)) := by
  subst x4 hb hc
  have h1 : w.length ≤ 1000 := Nat.le_trans h.len (by decide)
  have hl := len_str h1
  unfold nameB
  by_cases c1 : 1 ≤ w.length
  · have hx := ix0 h1 c1
    by_cases c2 : w.length ≤ 12
    · cases c3 : isRes w with
      | true => trivial
      | false =>
        cases c4 : decide (hd w ∈ SM.cps.toList) with
        | false =>
          have c4' : decide (hd w ∈ ("abcdefghijklmnopqrstuvwxyz" : Str).cps.toList) = false := c4
          trivial
        | true =>
          have c4' : decide (hd w ∈ ("abcdefghijklmnopqrstuvwxyz" : Str).cps.toList) = true := c4
          have hs := fun k => signs_ok (X := SD) h (it := iSeq (rv false 0)) (vs := [5]) (g := tgN 5) (f := r2 (rv false 5) (r2 (rv false 2) (rv false 3) gAddU) (gIn false)) (ρ := [Cell.val (.str w), Cell.val (.lst (t_RESERVED.map dvD)), Cell.val (.str "abcdefghijklmnopqrstuvwxyz"), Cell.val (.str "0123456789"), d, e, f, g, Cell.emp]) rfl k
          have hs' := hs fun c => ⟨_, rfl, by trivial⟩
          trivial
    · trivial
  · trivial
theorem d_hid {w : Str} (h : Wd w) (a b c d e g : Cell) (hc : c = Cell.val (.str "0123456789")) :
    (rAnd (r2 (rSl (rv false 0) (oI none) (oI (some (rC (.int 1)))) gSl) (rC (.str "H")) gEq) (rAnd (rCh (rC (.int 0)) (rN (rCons (rv false 6) rNil) gLen) (rC (.int 12)) gLt gLt) (rAnd (r2 (rC (.bl false)) (rLc (iSeq (rv false 6)) [5] (tgN 5) tYs (r2 (rv false 5) (rv false 3) (gIn false))) (gIn true)) (rOr (r2 (rv false 6) (rC (.str "0")) gEq) (r2 (r2 (rv false 6) (rC (.int 0)) gIx) (rC (.str "0")) gNe)))))
      [Cell.val (.str w), a, b, c, d, e, Cell.val (.str (rest w)), g, Cell.emp] = .ok (.bl (hidB w)) := by
  subst hc
  have hr := rest_wd h
  have h1 : (rest w).length ≤ 1000 := Nat.le_trans hr.len (by decide)
  have hl := len_str h1
  have s2 := sl_fst h.len
  have n1 := fst_H' w h
  have e0 := eq_str hr.ok strK.1
  unfold hidB rSl oI
  cases c1 : (fst1 w == "H") with
  | false => trivial
  | true =>
    by_cases c2 : 1 ≤ (rest w).length
    · have hx := ix0 h1 c2
      have nx := ne_str (one_ok hr) strK.1
      by_cases c3 : (rest w).length < 12
      · have hs := fun k => signs_ok (X := DG) hr (it := iSeq (rv false 6)) (vs := [5]) (g := tgN 5) (f := r2 (rv false 5) (rv false 3) (gIn false)) (ρ := [Cell.val (.str w), a, b, Cell.val (.str "0123456789"), d, e, Cell.val (.str (rest w)), g, Cell.emp]) rfl k
        have hs' := hs fun c => ⟨_, rfl, rfl⟩
        cases c4 : allS DG (rest w) with
        | false => trivial
        | true =>
          cases c5 : (rest w == "0") <;> trivial
      · trivial
    · trivial
theorem d_num {w : Str} (h : Wd w) (a b c d e f g : Cell) (hc : c = Cell.val (.str "0123456789")) :
    (rAnd (rCh (rC (.int 0)) (rN (rCons (rv false 0) rNil) gLen) (rC (.int 13)) gLt gLt) (rAnd (r2 (rC (.bl false)) (rLc (iSeq (rv false 0)) [5] (tgN 5) tYs (r2 (rv false 5) (rv false 3) (gIn false))) (gIn true)) (rOr (r2 (rv false 0) (rC (.str "0")) gEq) (r2 (r2 (rv false 0) (rC (.int 0)) gIx) (rC (.str "0")) gNe))))
      [Cell.val (.str w), a, b, c, d, e, f, g, Cell.emp] = .ok (.bl (numB w)) := by
  subst hc
  have h1 : w.length ≤ 1000 := Nat.le_trans h.len (by decide)
  have hl := len_str h1
  have e0 := eq_str h.ok strK.1
  unfold numB
  by_cases c2 : 1 ≤ w.length
  · have hx := ix0 h1 c2
    have nx := ne_str (one_ok h) strK.1
    by_cases c3 : w.length ≤ 12
    · have hs := fun k => signs_ok (X := DG) h (it := iSeq (rv false 0)) (vs := [5]) (g := tgN 5) (f := r2 (rv false 5) (rv false 3) (gIn false)) (ρ := [Cell.val (.str w), a, b, Cell.val (.str "0123456789"), d, e, f, g, Cell.emp]) rfl k
      have hs' := hs fun c => ⟨_, rfl, rfl⟩
      cases c4 : allS DG w with
      | false => trivial
      | true =>
        cases c5 : (w == "0") <;> trivial
    · trivial
  · trivial
def dueL (w : Str) : List D := [.bl (nameB w), .bl (hidB w), .bl (termB w), .bl (numB w)]
theorem due_ok {w : Str} (h : Wd w) : m__law_due [.str w] = .ok (.lst (dueL w)) := by
  have e0 := eq_str h.ok strK.2.2
  have s1 := sl_rest h.len
  have n1 := fun d e f g => d_name h _ _ _ d e f g rfl rfl rfl
  have n2 := fun a b d e g => d_hid h a b _ d e g rfl
  have n3 := fun a b d e f g => d_num h a b _ d e f g rfl
  have rs : ∀ r : List Cell, rSl (rv false 0) (oI (some (rC (.int 1)))) (oI none) gSl (Cell.val (.str w) :: r) = .ok (.str (rest w)) := fun r => by
    show noX (gSl (.str w) (some 1) none) = _
    rw [s1]
    rfl
  show fnF 9 b__law_due [.str w] = _
  unfold fnF b__law_due dueL
  cases c0 : (w == "nil") with
  | true =>
    have c1 : termB w = true := by unfold termB; rw [c0]; rfl
    simp only [ev_sSeq, ev_sAsg, ev_mOf, rTx, ev_rC, ev_ok, ev_nok, res_split, begE, ev_rN, ev_rCons, ev_rNil, tup2, tgTup, tgCons, tgNil, ev_tgN, true_or, reduceIte, List.map_cons, List.map_nil, List.length_cons, List.length_nil, List.replicate, List.cons_append, List.nil_append, List.set_cons_zero, List.set_cons_succ, Nat.reduceAdd, Nat.reduceSub, n1, n2, n3, rs, ev_rv, List.getElem?_cons_zero, List.getElem?_cons_succ, ev_sRet, ev_rOr, ev_r2, lst4, e0, c0, c1]
  | false =>
    cases c2 : nameB w with
    | true =>
      have c1 : termB w = true := by unfold termB; rw [c0, c2]; rfl
      simp only [ev_sSeq, ev_sAsg, ev_mOf, rTx, ev_rC, ev_ok, ev_nok, res_split, begE, ev_rN, ev_rCons, ev_rNil, tup2, tgTup, tgCons, tgNil, ev_tgN, true_or, reduceIte, List.map_cons, List.map_nil, List.length_cons, List.length_nil, List.replicate, List.cons_append, List.nil_append, List.set_cons_zero, List.set_cons_succ, Nat.reduceAdd, Nat.reduceSub, n1, n2, n3, rs, ev_rv, List.getElem?_cons_zero, List.getElem?_cons_succ, ev_sRet, ev_rOr, ev_r2, lst4, e0, c0, c1, c2]
    | false =>
      have c1 : termB w = hidB w := by unfold termB; rw [c0, c2]; rfl
      simp only [ev_sSeq, ev_sAsg, ev_mOf, rTx, ev_rC, ev_ok, ev_nok, res_split, begE, ev_rN, ev_rCons, ev_rNil, tup2, tgTup, tgCons, tgNil, ev_tgN, true_or, reduceIte, List.map_cons, List.map_nil, List.length_cons, List.length_nil, List.replicate, List.cons_append, List.nil_append, List.set_cons_zero, List.set_cons_succ, Nat.reduceAdd, Nat.reduceSub, n1, n2, n3, rs, ev_rv, List.getElem?_cons_zero, List.getElem?_cons_succ, ev_sRet, ev_rOr, ev_r2, lst4, e0, c0, c1, c2]
end K00

namespace K00
open PySem PySem.Spec L2 VL
theorem dg_cs : DG.cps.toList = [48, 49, 50, 51, 52, 53, 54, 55, 56, 57] := by decide +kernel
theorem all_dig {w : Str} (h : allS DG w = true) : NumText.AllDigits (cs w) := fun c hc => by
  have z := of_decide_eq_true (List.all_eq_true.mp h c hc)
  rw [dg_cs] at z
  simp only [List.mem_cons, List.not_mem_nil, or_false] at z
  omega
def numOf (w : Str) : Nat := NumText.digitsVal (cs (rest w))
theorem str_ext {x y : Str} (h : cs x = cs y) : x = y := by
  cases x with
  | mk a =>
    cases y with
    | mk b =>
      have : a = b := Array.toList_inj.mp h
      rw [this]
theorem beq_str {x y : Str} : (x == y) = true ↔ x = y := beq_iff_eq
structure Hid (w : Str) : Prop where
  cons : cs w = 72 :: cs (rest w)
  dig : NumText.AllDigits (cs (rest w))
  ne : cs (rest w) ≠ []
  len : (cs (rest w)).length < 12
  can : cs (rest w) = [48] ∨ ∃ c r, cs (rest w) = c :: r ∧ 49 ≤ c
theorem cs_H : cs "H" = [72] := by decide +kernel
theorem cs_0 : cs "0" = [48] := by decide +kernel
theorem hid_of {w : Str} (h : hidB w = true) : Hid w := by
  unfold hidB at h
  simp only [Bool.and_eq_true, decide_eq_true_eq, Bool.or_eq_true] at h
  obtain ⟨h1, h2, h3, h4, h5⟩ := h
  have e1 : cs (fst1 w) = [72] := by rw [beq_str.mp h1, cs_H]
  rw [cs_fst1] at e1
  have hdg := all_dig h4
  have hne : cs (rest w) ≠ [] := fun z => by
    rw [← cs_len, z] at h2
    cases h2
  refine ⟨?_, hdg, hne, by rw [cs_len]; exact h3, ?_⟩
  · rw [cs_rest]
    cases q : cs w with
    | nil => rw [q] at e1; cases e1
    | cons c r =>
      rw [q] at e1
      have : c = 72 := (List.cons.inj e1).1
      rw [this]
      rfl
  · rcases h5 with h5 | h5
    · left
      rw [beq_str.mp h5, cs_0]
    · cases q : cs (rest w) with
      | nil => exact absurd q hne
      | cons c r =>
        right
        refine ⟨c, r, rfl, ?_⟩
        have hc := hdg c (by rw [q]; exact List.mem_cons_self)
        have hn : c ≠ 48 := fun z => by
          have e : (⟨#[hd (rest w)]⟩ : Str) = "0" := by
            refine str_ext ?_
            rw [cs_0]
            show [hd (rest w)] = [48]
            unfold hd
            rw [q, z]
            rfl
          have h6 : ((⟨#[hd (rest w)]⟩ : Str) == "0") = true := beq_str.mpr e
          rw [h6] at h5
          cases h5
        omega
theorem val_lt : ∀ (l : List Nat) (a : Nat), NumText.AllDigits l → l.foldl (fun acc c => acc * 10 + (c - 48)) a < (a + 1) * 10 ^ l.length
  | [], a, _ => by simp
  | c :: r, a, h => by
    have hc := h.head
    have ih := val_lt r (a * 10 + (c - 48)) h.tail
    rw [List.foldl_cons, List.length_cons, Nat.pow_succ]
    refine Nat.lt_of_lt_of_le ih ?_
    have h1 : a * 10 + (c - 48) + 1 ≤ (a + 1) * 10 := by omega
    calc (a * 10 + (c - 48) + 1) * 10 ^ r.length ≤ ((a + 1) * 10) * 10 ^ r.length := Nat.mul_le_mul_right _ h1
      _ = (a + 1) * (10 ^ r.length * 10) := by rw [Nat.mul_assoc, Nat.mul_comm 10]
theorem num_lt {w : Str} (h : Hid w) : numOf w < 10 ^ 11 := by
  have z := val_lt (cs (rest w)) 0 h.dig
  have z2 : numOf w < 1 * 10 ^ (cs (rest w)).length := z
  have z3 : 10 ^ (cs (rest w)).length ≤ 10 ^ 11 := Nat.pow_le_pow_right (by decide) (by have := h.len; omega)
  omega
theorem log_lt {w : Str} (h : Hid w) : ((numOf w : Nat) : Int).natAbs.log2 < 1920 := by
  have z := num_lt h
  rw [Int.natAbs_natCast]
  by_cases h0 : numOf w = 0
  · rw [h0]
    decide +kernel
  · exact (Nat.log2_lt h0).mpr (Nat.lt_of_lt_of_le z (by decide +kernel))
theorem int_rest {w : Str} (h : Hid w) : gInt [.str (rest w)] = .ok (.int (numOf w : Nat)) := by
  have hl : (rest w).length < 12 := by rw [← cs_len]; exact h.len
  have e : PySem.intText? (rest w) = some ((numOf w : Nat) : Int) := PySem.intText_digits h.dig h.ne (by omega)
  show (match PySem.intText? (rest w) with
    | some n => if (rest w).length ≤ 640 then Out.ok (D.int n) else Out.bad
    | none => Out.bad) = _
  rw [e]
  show (if (rest w).length ≤ 640 then Out.ok (D.int (numOf w : Nat)) else Out.bad) = _
  rw [if_pos (by omega)]
theorem back {w : Str} (h : Hid w) : (Str.ofString (toString ((numOf w : Nat) : Int)) : Str) = rest w := by
  refine str_ext ?_
  have e : cs (Str.ofString (toString ((numOf w : Nat) : Int))) = (Nat.toDigits 10 (numOf w)).map Char.toNat := PySem.W.KIN.signs_num (numOf w)
  rw [e]
  have e2 : Nat.toDigits 10 (numOf w) = (cs (rest w)).map Char.ofNat := by
    cases q : cs (rest w) with
    | nil => exact absurd q h.ne
    | cons c r =>
      have := NumText.toDigits_digitsVal r.length (c :: r) rfl (by rw [← q]; exact h.dig) (by
        rcases h.can with z | z
        · left
          rw [q] at z
          have := (List.cons.inj z).2
          rw [this]
          rfl
        · right
          rw [q] at z
          exact z)
      unfold numOf
      rw [q]
      exact this
  rw [e2, List.map_map]
  have : ∀ l : List Nat, NumText.AllDigits l → l.map (Char.toNat ∘ Char.ofNat) = l := fun l hl => by
    induction l with
    | nil => rfl
    | cons c r ih =>
      rw [List.map_cons, ih hl.tail]
      have hc := hl.head
      have : (Char.toNat ∘ Char.ofNat) c = c := by
        have : ∀ c : Nat, c < 58 → (Char.toNat ∘ Char.ofNat) c = c := by decide
        exact this c (by omega)
      rw [this]
  exact this _ h.dig
theorem gstr_ok {w : Str} (h : Hid w) : gStr [.int (numOf w : Nat)] = .ok (.str (rest w)) := by
  show (if ((numOf w : Nat) : Int).natAbs.log2 < 1920 then Out.ok (D.str (toString ((numOf w : Nat) : Int))) else Out.bad) = _
  rw [if_pos (log_lt h)]
  show Out.ok (D.str (Str.ofString (toString ((numOf w : Nat) : Int)))) = _
  rw [back h]
theorem cs_app (x y : Str) : cs (x ++ y) = cs x ++ cs y := by
  show (x.cps ++ y.cps).toList = x.cps.toList ++ y.cps.toList
  rw [Array.toList_append]
theorem add_H {w : Str} (h : Hid w) : gAddU (.str "H") (.str (rest w)) = .ok (.str w) := by
  have hl : (rest w).length < 12 := by rw [← cs_len]; exact h.len
  show (if ("H" : Str).length + (rest w).length ≤ sizeLine then Out.ok (D.str (("H" : Str) ++ rest w)) else Out.bad) = _
  have h1 : ("H" : Str).length = 1 := by decide +kernel
  have h2 : 1000 ≤ sizeLine := by decide
  rw [if_pos (by omega)]
  have e : ("H" : Str) ++ rest w = w := by
    refine str_ext ?_
    rw [cs_app, h.cons, cs_H]
    rfl
  rw [e]
/-- what a term is put in order by -/
def ordD (w : Str) : D := if (w == "nil") = true then .tup [.int 0, .str "", .int 0] else if hidB w = true then .tup [.int 2, .str "", .int (numOf w : Nat)] else .tup [.int 1, .str w, .int 0]
theorem tup3 (a b c : D) : gTup [a, b, c] = .ok (.tup [a, b, c]) := rfl
theorem order_ok {w : Str} (h : Wd w) : m_order_of [.str w] = .ok (ordD w) := by
  have e0 := eq_str h.ok strK.2.2
  have e1 := is_hidden_ok h
  have s1 := sl_rest h.len
  have rs : ∀ r : List Cell, rSl (rv false 0) (oI (some (rC (.int 1)))) (oI none) gSl (Cell.val (.str w) :: r) = .ok (.str (rest w)) := fun r => by
    show noX (gSl (.str w) (some 1) none) = _
    rw [s1]
    rfl
  show fnF 1 b_order_of [.str w] = _
  unfold fnF b_order_of ordD
  cases c0 : (w == "nil") with
  | true => simp only [ev_ok, ev_nok, ev_rC, ev_r2, ev_rN, ev_rF, ev_rNil, ev_rCons, ev_bT, ev_asB, ev_mOf, ev_mT, ev_sSeq, ev_sIf, ev_sRet, ev_rv, begE, e0, c0, tup3, List.map_cons, List.map_nil, List.length_cons, List.length_nil, List.replicate, List.cons_append, List.nil_append, List.getElem?_cons_zero, Nat.reduceAdd, Nat.reduceSub, reduceIte, true_or]
  | false =>
    cases c1 : hidB w with
    | true =>
      have i1 := int_rest (hid_of c1)
      simp only [ev_ok, ev_nok, ev_rC, ev_r2, ev_rN, ev_rF, ev_rNil, ev_rCons, ev_bT, ev_asB, ev_mOf, ev_mT, ev_sSeq, ev_sIf, ev_sRet, ev_sNil, ev_rv, begE, e0, e1, c0, c1, i1, rs, tup3, List.map_cons, List.map_nil, List.length_cons, List.length_nil, List.replicate, List.cons_append, List.nil_append, List.getElem?_cons_zero, Nat.reduceAdd, Nat.reduceSub, reduceIte, true_or, Bool.false_eq_true]
    | false =>
      simp only [ev_ok, ev_nok, ev_rC, ev_r2, ev_rN, ev_rF, ev_rNil, ev_rCons, ev_bT, ev_asB, ev_mOf, ev_mT, ev_sSeq, ev_sIf, ev_sRet, ev_sNil, ev_rv, begE, e0, e1, c0, c1, tup3, List.map_cons, List.map_nil, List.length_cons, List.length_nil, List.replicate, List.cons_append, List.nil_append, List.getElem?_cons_zero, Nat.reduceAdd, Nat.reduceSub, reduceIte, true_or, Bool.false_eq_true]
end K00

namespace K00
open PySem PySem.Spec L2 VL
/-! ### strict total orders -/
structure STO {α : Type} (lt : α → α → Prop) : Prop where
  irr : ∀ a, ¬ lt a a
  tr : ∀ a b c, lt a b → lt b c → lt a c
  tri : ∀ a b, lt a b ∨ a = b ∨ lt b a
theorem STO.lex {α β : Type} {l1 : α → α → Prop} {l2 : β → β → Prop} (h1 : STO l1) (h2 : STO l2) : STO fun p q : α × β => l1 p.1 q.1 ∨ (p.1 = q.1 ∧ l2 p.2 q.2) where
  irr := fun a h => h.elim (h1.irr _) fun h => h2.irr _ h.2
  tr := fun a b c h k => by
    rcases h with h | ⟨e, h⟩
    · rcases k with k | ⟨f, k⟩
      · exact .inl (h1.tr _ _ _ h k)
      · exact .inl (f ▸ h)
    · rcases k with k | ⟨f, k⟩
      · exact .inl (e ▸ k)
      · exact .inr ⟨e.trans f, h2.tr _ _ _ h k⟩
  tri := fun a b => by
    rcases h1.tri a.1 b.1 with h | h | h
    · exact .inl (.inl h)
    · rcases h2.tri a.2 b.2 with k | k | k
      · exact .inl (.inr ⟨h, k⟩)
      · exact .inr (.inl (Prod.ext h k))
      · exact .inr (.inr (.inr ⟨h.symm, k⟩))
    · exact .inr (.inr (.inl h))
theorem sto_int : STO fun a b : Int => a < b := ⟨fun a h => by omega, fun a b c h k => by omega, fun a b => by omega⟩
theorem sto_list : STO fun a b : List Nat => a < b := ⟨fun a h => List.lt_irrefl a h, fun a b c h k => List.lt_trans h k, fun a b => by
  by_cases h : a < b
  · exact .inl h
  · by_cases k : b < a
    · exact .inr (.inr k)
    · exact .inr (.inl (List.le_antisymm (List.not_lt.mp k) (List.not_lt.mp h)))⟩
abbrev Q4 : Type := Int × (List Nat × (Int × List Nat))
def lt4 (p q : Q4) : Prop := p.1 < q.1 ∨ (p.1 = q.1 ∧ (p.2.1 < q.2.1 ∨ (p.2.1 = q.2.1 ∧ (p.2.2.1 < q.2.2.1 ∨ (p.2.2.1 = q.2.2.1 ∧ p.2.2.2 < q.2.2.2)))))
instance (p q : Q4) : Decidable (lt4 p q) := by unfold lt4; infer_instance
theorem sto4 : STO lt4 := STO.lex sto_int (STO.lex sto_list (STO.lex sto_int sto_list))
theorem STO.asym {α : Type} {lt : α → α → Prop} (h : STO lt) {a b : α} (k : lt a b) : ¬ lt b a := fun z => h.irr a (h.tr _ _ _ k z)
theorem STO.le_tr {α : Type} {lt : α → α → Prop} (h : STO lt) {a b c : α} (k : ¬ lt b a) (l : ¬ lt c b) : ¬ lt c a := fun z => by
  rcases h.tri a b with m | m | m
  · rcases h.tri b c with n | n | n
    · exact h.asym (h.tr _ _ _ m n) z
    · exact h.asym m (n ▸ z)
    · exact l n
  · exact l (m ▸ z)
  · exact k m
/-- a sorted list of the same members is what sorting gives -/
theorem sort_is {α β : Type} {lt : β → β → Prop} (h : STO lt) {key : α → β} (inj : ∀ a b, key a = key b → a = b) {le : α → α → Bool} (hle : ∀ a b, le a b = true ↔ ¬ lt (key b) (key a)) {l m : List α} (p : l.Perm m) (hs : m.Pairwise fun a b => ¬ lt (key b) (key a)) : l.mergeSort le = m := by
  refine List.Perm.eq_of_pairwise (le := fun a b => le a b = true) (fun a b _ _ h1 h2 => ?_) (List.pairwise_mergeSort (fun a b c h1 h2 => ?_) (fun a b => ?_) l) (hs.imp fun z => (hle _ _).mpr z) ((List.mergeSort_perm l le).trans p)
  · have k1 := (hle a b).mp h1
    have k2 := (hle b a).mp h2
    rcases h.tri (key a) (key b) with m | m | m
    · exact absurd m k2
    · exact inj a b m
    · exact absurd m k1
  · exact (hle a c).mpr (h.le_tr ((hle a b).mp h1) ((hle b c).mp h2))
  · rw [Bool.or_eq_true, hle, hle]
    by_cases z : lt (key b) (key a)
    · exact .inr (h.asym z)
    · exact .inl z
/-! ### the key of a term -/
def key4 (w : Str) : Q4 := if (w == "nil") = true then (0, [], 0, cs w) else if hidB w = true then (2, [], (numOf w : Nat), cs w) else (1, cs w, 0, cs w)
theorem key_last (w : Str) : (key4 w).2.2.2 = cs w := by
  unfold key4
  split
  · rfl
  · split <;> rfl
theorem key_inj (a b : Str) (h : key4 a = key4 b) : a = b := str_ext (by rw [← key_last a, ← key_last b, h])
def pr (w : Str) : D := .tup [ordD w, .str w]
def ordOf (a : Int) (x : Str) (b : Int) : D := .tup [.int a, .str x, .int b]
theorem lt_ord (a a' b b' : Int) (x x' t t' : Str) : PySem.W.dataLt (toP (.tup [ordOf a x b, .str t])) (toP (.tup [ordOf a' x' b', .str t'])) = decide (lt4 (a, cs x, b, cs t) (a', cs x', b', cs t')) := by
  have e1 : toP (.tup [ordOf a x b, .str t]) = .tuple [.tuple [.int a, .str x, .int b], .str t] := rfl
  have e2 : toP (.tup [ordOf a' x' b', .str t']) = .tuple [.tuple [.int a', .str x', .int b'], .str t'] := rfl
  have al : ∀ c d : Int, PySem.W.alike (.int c) (.int d) = true := fun c d => rfl
  have as : ∀ c d : Str, PySem.W.alike (.str c) (.str d) = true := fun c d => rfl
  have at3 : PySem.W.alike (.tuple [.int a, .str x, .int b]) (.tuple [.int a', .str x', .int b']) = true := rfl
  have nn : PyProof.Rows.lexLt PyProof.Rows.itemOrd (PySem.W.keyToksAll []) (PySem.W.keyToksAll []) = false := by decide
  rw [e1, e2, PySem.W.dataLt_pair at3 (as t t'), PySem.W.dataLt_tuple, PySem.W.dataLt_cons (al a a'), PySem.W.dataLt_cons (as x x'), PySem.W.dataLt_cons (al b b'), PySem.W.dataLt_int, PySem.W.dataLt_int, PySem.W.dataLt_str, PySem.W.dataLt_str]
  have ei : ∀ c d : Int, PyData.eqv (.int c) (.int d) = decide (c = d) := fun c d => by
    show (c == d) = decide (c = d)
    exact Bool.beq_eq_decide_eq c d
  have es : ∀ c d : Str, PyData.eqv (.str c) (.str d) = decide (cs c = cs d) := fun c d => by
    show (c == d) = _
    rw [Bool.eq_iff_iff, beq_str, decide_eq_true_eq]
    exact ⟨fun z => by rw [z], str_ext⟩
  have e3 : PyData.eqv (.tuple [.int a, .str x, .int b]) (.tuple [.int a', .str x', .int b']) = (decide (a = a') && (decide (cs x = cs x') && (decide (b = b') && true))) := by
    rw [← ei, ← es, ← ei]
    rfl
  rw [e3, ei, es, ei, es, nn]
  have c : ∀ y : Str, y.cps.toList = cs y := fun _ => rfl
  simp only [c]
  show _ = decide (a < a' ∨ (a = a' ∧ (cs x < cs x' ∨ (cs x = cs x' ∧ (b < b' ∨ (b = b' ∧ cs t < cs t'))))))
  generalize cs x = X, cs x' = X', cs t = T, cs t' = T'
  by_cases h1 : a = a'
  · subst h1
    by_cases h2 : X = X'
    · subst h2
      by_cases h3 : b = b'
      · subst h3
        by_cases h4 : T = T'
        · subst h4
          simp [List.lt_irrefl]
        · simp [h4, List.lt_irrefl]
      · simp [h3, List.lt_irrefl]
    · simp [h2]
  · simp [h1]
theorem pr_ord (w : Str) : ∃ a x b, pr w = .tup [ordOf a x b, .str w] ∧ key4 w = (a, cs x, b, cs w) := by
  unfold pr ordD key4
  have e : cs "" = [] := by decide +kernel
  split
  · exact ⟨0, "", 0, rfl, by rw [e]⟩
  · split
    · exact ⟨2, "", _, rfl, by rw [e]⟩
    · exact ⟨1, w, 0, rfl, rfl⟩
theorem le_pr (u v : Str) : ltLe (pr u) (pr v) = true ↔ ¬ lt4 (key4 v) (key4 u) := by
  obtain ⟨a, x, b, e1, k1⟩ := pr_ord u
  obtain ⟨a', x', b', e2, k2⟩ := pr_ord v
  have e : ltLe (pr u) (pr v) = !PySem.W.dataLt (toP (pr v)) (toP (pr u)) := rfl
  rw [e, e1, e2, lt_ord, k1, k2]
  simp
theorem sort_pr {ws m : List Str} (p : ws.Perm m) (hs : m.Pairwise fun a b => ¬ lt4 (key4 b) (key4 a)) : (ws.map pr).mergeSort ltLe = m.map pr := by
  have e := sort_is sto4 (key := key4) key_inj (le := fun u v => ltLe (pr u) (pr v)) le_pr p hs
  rw [← e, List.map_mergeSort (s := ltLe)]
  intro x _ y _
  rfl
end K00

namespace K00
open PySem PySem.Spec L2 VL
def ent (w : Str) : D := .tup [.str w, .bl true]
def addR (ws : List Str) (u : Str) : List Str := if u ∈ ws then ws else ws ++ [u]
theorem put_ent : ∀ (ws : List Str) (u : Str), putD (ws.map ent) (.str u) (.bl true) = (addR ws u).map ent
  | [], u => rfl
  | w :: ws, u => by
    show (if keyEq (.str w) (.str u) = true then D.tup [.str w, .bl true] :: ws.map ent else D.tup [.str w, .bl true] :: putD (ws.map ent) (.str u) (.bl true)) = _
    have e : keyEq (.str w) (.str u) = decide (w = u) := by
      show decide ((Sum.inr w : Key) = Sum.inr u) = _
      exact decide_eq_decide.mpr ⟨fun z => Sum.inr.inj z, fun z => by rw [z]⟩
    rw [e]
    by_cases h : w = u
    · subst h
      have : addR (w :: ws) w = w :: ws := by unfold addR; rw [if_pos List.mem_cons_self]
      rw [this, if_pos (decide_eq_true rfl)]
      rfl
    · rw [if_neg (by simpa using h), put_ent ws u]
      unfold addR
      by_cases k : u ∈ ws
      · rw [if_pos k, if_pos (List.mem_cons_of_mem _ k)]
        rfl
      · rw [if_neg k, if_neg (by simpa [k] using fun z : u = w => h z.symm)]
        rfl
theorem look_ent : ∀ (ws : List Str) (u : Str), u ∉ ws → lookD (ws.map ent) (.str u) = none
  | [], u, _ => rfl
  | w :: ws, u, h => by
    show (if keyEq (.str w) (.str u) = true then some (D.bl true) else lookD (ws.map ent) (.str u)) = none
    have e : keyEq (.str w) (.str u) = false := by
      show decide ((Sum.inr w : Key) = Sum.inr u) = false
      exact decide_eq_false fun z => h (by rw [Sum.inr.inj z]; exact List.mem_cons_self)
    rw [e, if_neg Bool.false_ne_true]
    exact look_ent ws u fun z => h (List.mem_cons_of_mem _ z)
theorem nd_ent : ∀ (ws : List Str), ws.Nodup → ndK (ws.map ent) = true
  | [], _ => rfl
  | w :: ws, h => by
    obtain ⟨h1, h2⟩ := List.nodup_cons.mp h
    show ((lookD (ws.map ent) (.str w)).isNone && ndK (ws.map ent)) = true
    rw [look_ent ws w h1, nd_ent ws h2]
    rfl
theorem addR_nd {ws : List Str} (h : ws.Nodup) (u : Str) : (addR ws u).Nodup := by
  unfold addR
  split
  · exact h
  · rename_i k
    exact List.nodup_append.mpr ⟨h, by simp, fun a ha b hb => by
      have : b = u := List.mem_singleton.mp hb
      subst this
      exact fun z => k (z ▸ ha)⟩
def addRs (acc : List Str) : List Str → List Str
  | [] => acc
  | u :: r => addRs (addR acc u) r
theorem addRs_nd : ∀ (us : List Str) {acc : List Str}, acc.Nodup → (addRs acc us).Nodup
  | [], _, h => h
  | u :: r, acc, h => addRs_nd r (addR_nd h u)
theorem addR_mem {acc : List Str} {u x : Str} : x ∈ addR acc u ↔ x ∈ acc ∨ x = u := by
  unfold addR
  split
  · rename_i k
    exact ⟨.inl, fun z => z.elim id fun e => e ▸ k⟩
  · rw [List.mem_append, List.mem_singleton]
theorem addRs_mem : ∀ (us : List Str) {acc : List Str} {x : Str}, x ∈ addRs acc us ↔ x ∈ acc ∨ x ∈ us
  | [], acc, x => by simp [addRs]
  | u :: r, acc, x => by
    show x ∈ addRs (addR acc u) r ↔ _
    rw [addRs_mem r, addR_mem, List.mem_cons, or_assoc]
theorem addRs_len : ∀ (us : List Str) {acc : List Str}, (addRs acc us).length ≤ acc.length + us.length
  | [], acc => Nat.le_refl _
  | u :: r, acc => by
    have z := addRs_len r (acc := addR acc u)
    have z2 : (addR acc u).length ≤ acc.length + 1 := by
      unfold addR
      split
      · omega
      · rw [List.length_append]
        exact Nat.le_refl _
    show (addRs (addR acc u) r).length ≤ acc.length + (r.length + 1)
    omega
theorem cmpD_once (a b c d : Cell) : ∀ (us : List Str) (acc : List Str), acc.Nodup → cmpD [2] (tgN 2) tYs (rv false 2) (rC (.bl true)) [a, b, c, d] (us.map D.str) (acc.map ent) = .ok ((addRs acc us).map ent)
  | [], acc, _ => rfl
  | u :: r, acc, h => by
    show (if (keyQ (.str u)).isSome = true ∧ ndK (acc.map ent) = true then cmpD [2] (tgN 2) tYs (rv false 2) (rC (.bl true)) [a, b, c, d] (r.map D.str) (putD (acc.map ent) (.str u) (.bl true)) else .bad) = _
    rw [if_pos ⟨rfl, nd_ent acc h⟩, put_ent, cmpD_once a b c d r _ (addR_nd h u)]
    rfl
theorem keys_ent (ws : List Str) : keysD (ws.map ent) = ws.map D.str := by
  induction ws with
  | nil => rfl
  | cons w ws ih =>
    show D.str w :: keysD (ws.map ent) = _
    rw [ih]
    rfl
theorem lc_strs {vs : List Nat} {g : D → Env' → Out Env'} {f : Env' → Out D} {ρ : Env'} {it : Env' → Out (List D)} {G : Str → D} {ws : List Str} (hi : it ρ = .ok (ws.map D.str)) (hl : ws.length ≤ 1000) (h : ∀ u ∈ ws, ∃ ρ1, g (.str u) (wipeE ρ vs) = .ok ρ1 ∧ f ρ1 = .ok (G u)) : rLc it vs g tYs f ρ = .ok (.lst (ws.map G)) := by
  have z := lc_map (G := fun d => match d with
    | .str u => G u
    | d => d) hi (by rw [List.length_map]; exact hl) (f := f) (g := g) (vs := vs) fun x hx => by
      obtain ⟨u, hu, rfl⟩ := List.mem_map.mp hx
      exact h u hu
  rw [z, List.map_map]
  rfl
theorem alike_pr (u v : Str) : PySem.W.alike (toP (pr u)) (toP (pr v)) = true := by
  obtain ⟨a, x, b, e1, _⟩ := pr_ord u
  obtain ⟨a', x', b', e2, _⟩ := pr_ord v
  rw [e1, e2]
  rfl
theorem ok_pr {w : Str} (h : Wd w) : PyData.canLay0 (toP (pr w)) = true := by
  have e : PyData.canLay0 (toP (pr w)) = (PyData.canLay0 (toP (ordD w)) && (PyData.strOk w && true)) := rfl
  rw [e, h.ok]
  unfold ordD
  split
  · decide +kernel
  · split
    · have e2 : ∀ n : Int, (PyData.canLay0 (toP (.tup [.int 2, .str "", .int n])) && (true && true)) = (true && (PyData.strOk "" && (true && true)) && (true && true)) := fun n => rfl
      rw [e2]
      decide +kernel
    · have e2 : (PyData.canLay0 (toP (.tup [.int 1, .str w, .int 0])) && (true && true)) = ((true && (PyData.strOk w && (true && true))) && (true && true)) := rfl
      rw [e2, h.ok]
      rfl
theorem depth_pr (w : Str) : (toP (pr w)).depth ≤ 5 := by
  obtain ⟨a, x, b, e1, _⟩ := pr_ord w
  rw [e1]
  show PyData.depth (.tuple [.tuple [.int a, .str x, .int b], .str w]) ≤ 5
  simp [PyData.depth, PyData.depthAll]
theorem toPs_map (l : List Str) (f : Str → D) : toPs (l.map f) = l.map fun w => toP (f w) := by
  induction l with
  | nil => rfl
  | cons x r ih =>
    show toP (f x) :: toPs (r.map f) = _
    rw [ih]
    rfl
theorem sort_ok {ws : List Str} (h : ∀ w ∈ ws, Wd w) : sortOk (ws.map pr) = true := by
  unfold sortOk
  rw [Bool.and_eq_true, Bool.and_eq_true, Bool.or_eq_true]
  refine ⟨?_, .inl ?_, ?_⟩
  · unfold alikeD
    rw [List.all_eq_true]
    intro x hx
    rw [List.all_eq_true]
    intro y hy
    obtain ⟨u, _, rfl⟩ := List.mem_map.mp hx
    obtain ⟨v, _, rfl⟩ := List.mem_map.mp hy
    exact alike_pr u v
  · rw [List.all_eq_true]
    intro x hx
    obtain ⟨u, _, rfl⟩ := List.mem_map.mp hx
    rfl
  · unfold SeqAt.shaped
    rw [Bool.and_eq_true]
    have e : toP (.lst (ws.map pr)) = .list (toPs (ws.map pr)) := rfl
    rw [e, toPs_map]
    constructor
    · show PyData.canLayAll0 (ws.map fun w => toP (pr w)) = true
      clear e
      induction ws with
      | nil => rfl
      | cons w r ih =>
        show (PyData.canLay0 (toP (pr w)) && PyData.canLayAll0 (r.map fun w => toP (pr w))) = true
        rw [ok_pr (h w List.mem_cons_self), ih fun u hu => h u (List.mem_cons_of_mem _ hu)]
        rfl
    · apply decide_eq_true
      have : ∀ l : List Str, PyData.depthAll (l.map fun w => toP (pr w)) ≤ 5 := fun l => by
        induction l with
        | nil => simp [PyData.depthAll]
        | cons w r ih =>
          show PyData.depthAll (toP (pr w) :: r.map fun w => toP (pr w)) ≤ 5
          unfold PyData.depthAll
          exact Nat.max_le.mpr ⟨depth_pr w, ih⟩
      have z := this ws
      show PyData.depth (.list (ws.map fun w => toP (pr w))) ≤ 64
      simp only [PyData.depth]
      omega
/-- terms in order -/
theorem in_order_ok {us m : List Str} (h : ∀ u ∈ us, Wd u) (hl : us.length ≤ 500) (p : (addRs [] us).Perm m) (hs : m.Pairwise fun a b => ¬ lt4 (key4 b) (key4 a)) : m_in_order [.lst (us.map D.str)] = .ok (.lst (m.map D.str)) := by
  have hw : ∀ w ∈ addRs [] us, Wd w := fun w hw => h w ((addRs_mem us).mp hw |>.resolve_left (by simp))
  have hlen : (addRs [] us).length ≤ 500 := Nat.le_trans (addRs_len us) (by simpa using hl)
  have hm : m.length ≤ 500 := by rw [← p.length_eq]; exact hlen
  have d1 : ∀ b c d : Cell, rDc (iSeq (rv false 0)) [2] (tgN 2) tYs (rv false 2) (rC (.bl true)) [Cell.val (.lst (us.map D.str)), b, c, d] = .ok (.dic ((addRs [] us).map ent)) := fun b c d => by
    show (if (us.map D.str).length ≤ sizeLine then (noX (cmpD [2] (tgN 2) tYs (rv false 2) (rC (.bl true)) [Cell.val (.lst (us.map D.str)), b, c, d] (us.map D.str) ([].map ent))).bind fun ds => Out.ok (D.dic ds) else Out.bad) = _
    have h2 : 1000 ≤ sizeLine := by decide
    rw [if_pos (by rw [List.length_map]; omega), cmpD_once _ b c d us [] List.nodup_nil]
    rfl
  have d2 : ∀ a c d : Cell, rLc (iKs (rv false 1)) [2] (tgN 2) tYs (rN (rCons (rF (rCons (rv false 2) rNil) m_order_of) (rCons (rv false 2) rNil)) gTup) [a, Cell.val (.dic ((addRs [] us).map ent)), c, d] = .ok (.lst ((addRs [] us).map pr)) := fun a c d => by
    refine lc_strs (ws := addRs [] us) (G := pr) (by show Out.ok (keysD ((addRs [] us).map ent)) = _; rw [keys_ent]) (by omega) fun u hu => ⟨_, rfl, ?_⟩
    show ((m_order_of [.str u]).bind fun x => Out.ok [x, D.str u]).bind (fun x => noX (gTup x)) = _
    rw [order_ok (hw u hu)]
    rfl
  have d3 : gSorted [.lst ((addRs [] us).map pr)] = .ok (.lst (m.map pr)) := by
    show (if sortOk ((addRs [] us).map pr) = true then Out.ok (D.lst (((addRs [] us).map pr).mergeSort ltLe)) else Out.bad) = _
    rw [if_pos (sort_ok hw), sort_pr p hs]
  have d4 : ∀ ρ : Env', iSeq (rN (rCons (rLc (iKs (rv false 1)) [2] (tgN 2) tYs (rN (rCons (rF (rCons (rv false 2) rNil) m_order_of) (rCons (rv false 2) rNil)) gTup)) rNil) gSorted) ρ = .ok (m.map pr) → ρ.length = 4 → rLc (iSeq (rN (rCons (rLc (iKs (rv false 1)) [2] (tgN 2) tYs (rN (rCons (rF (rCons (rv false 2) rNil) m_order_of) (rCons (rv false 2) rNil)) gTup)) rNil) gSorted)) [3, 2] (tgTup 2 (tgCons (tgN 3) (tgCons (tgN 2) tgNil))) tYs (rv false 2) ρ = .ok (.lst (m.map D.str)) := fun ρ hi hρ => by
    have z := lc_map (G := fun d => match d with
      | .tup [_, d] => d
      | d => d) (vs := [3, 2]) (g := tgTup 2 (tgCons (tgN 3) (tgCons (tgN 2) tgNil))) (f := rv false 2) hi (by rw [List.length_map]; omega) fun x hx => by
        obtain ⟨u, hu, rfl⟩ := List.mem_map.mp hx
        match ρ, hρ with
        | [a, b, c, d], _ => exact ⟨_, rfl, rfl⟩
    rw [z, List.map_map]
    rfl
  show fnF 4 b_in_order [.lst (us.map D.str)] = _
  unfold fnF b_in_order
  simp only [ev_ok, ev_nok, ev_sSeq, ev_sOwn, d1, begE, true_or, reduceIte, List.map_cons, List.map_nil, List.length_cons, List.length_nil, List.replicate, List.cons_append, List.nil_append, List.set_cons_zero, List.set_cons_succ, Nat.reduceAdd, Nat.reduceSub, frzE, List.getElem?_cons_zero, List.getElem?_cons_succ, ev_sRet, ev_mOf]
  rw [d4 _ ?_ rfl]
  · rfl
  · unfold iSeq
    show (((rLc (iKs (rv false 1)) [2] (tgN 2) tYs (rN (rCons (rF (rCons (rv false 2) rNil) m_order_of) (rCons (rv false 2) rNil)) gTup) _).bind fun x => Out.ok [x]).bind fun x => noX (gSorted x)).bind seqD = _
    rw [d2]
    show ((noX (gSorted [.lst ((addRs [] us).map pr)])).bind seqD) = _
    rw [d3]
    rfl
end K00

namespace K00
open PySem PySem.Spec L2 VL
def Tp (d : D) : Prop := ∃ cells k cell mix, d = tp cells k cell mix ∧ 0 ≤ k ∧ 0 ≤ cell ∧ 0 ≤ mix
theorem draw {d : D} (h : Tp d) (many : Int) (h0 : 0 < many) (h1 : many < 1073741824) : ∃ n d', m__law_draw d [.int many] = .ok (.int n, d') ∧ 0 ≤ n ∧ n < many ∧ Tp d' := by
  obtain ⟨cells, k, cell, mix, rfl, a, b, c⟩ := h
  obtain ⟨k', cell', n, e, h1, h2, h3, h4⟩ := draw_ok cells k cell mix many a b c h0 h1
  exact ⟨n, _, e, h1, h2, cells, k', cell', mix, rfl, h3, h4, c⟩
theorem eq_int (i j : Int) : gEq (.int i) (.int j) = .ok (.bl (i == j)) := by
  unfold gEq
  rw [if_pos ⟨by show (true && decide ((PyData.int i).depth ≤ 64)) = true; simp [PyData.depth], by show (true && decide ((PyData.int j).depth ≤ 64)) = true; simp [PyData.depth]⟩]
  rfl
/-- a draw out of slot i -/
theorem mct_draw {i : Nat} {ρ : Env'} {d : D} (hi : ρ[i]? = some (Cell.own d)) (h : Tp d) (many : Int) (h0 : 0 < many) (h1 : many < 1073741824) : ∃ n d', mCT i (mCons (mOf false (rC (.int many))) mNil) m__law_draw ρ = .ok (.int n, ρ.set i (.own d')) ∧ 0 ≤ n ∧ n < many ∧ Tp d' := by
  obtain ⟨n, d', e, a, b, c⟩ := draw h many h0 h1
  refine ⟨n, d', ?_, a, b, c⟩
  rw [ev_mCT, hi]
  show (match ρ[i]? with
    | some (.own d) => (m__law_draw d [.int many]).bind fun r => Out.ok (r.1, ρ.set i (.own r.2))
    | _ => .bad) = _
  rw [hi]
  show (m__law_draw d [.int many]).bind _ = _
  rw [e]
  rfl
def words29 : List Str := ["nil", "new", "free", "if", "else", "while", "call", "both", "with", "and", "pre", "post", "proc", "end", "ls", "at", "found", "inv", "out", "H", "H0", "H01", "H10", "h1", "x", "0", "00", "-1", ""]
theorem words29_wd : ∀ w ∈ words29, Wd w := by
  have h : (words29.all fun w => decide (w.length ≤ 30) && PyData.strOk w) = true := by decide +kernel
  intro w hw
  have z := List.all_eq_true.mp h w hw
  rw [Bool.and_eq_true] at z
  exact ⟨of_decide_eq_true z.1, z.2⟩
def AB : List Nat := [72, 120, 121, 97, 98, 48, 49, 57]
theorem ab_cs : cs "Hxyab019" = AB := by decide +kernel
theorem ix_ab {n : Int} (h0 : 0 ≤ n) (h8 : n < 8) : ∃ c, c ∈ AB ∧ gIx (.str "Hxyab019") (.int n) = .ok (.str ⟨#[c]⟩) := by
  have hl : ("Hxyab019" : Str).length ≤ sizeLine := by decide
  have hn : n.toNat < AB.length := by show n.toNat < 8; omega
  refine ⟨AB[n.toNat], List.getElem_mem hn, ?_⟩
  unfold gIx
  dsimp only
  rw [if_pos hl, atI_nat' h0]
  have e : ("Hxyab019" : Str).cps.toList[n.toNat]? = some AB[n.toNat] := by
    show (cs "Hxyab019")[n.toNat]? = _
    rw [ab_cs, List.getElem?_eq_getElem hn]
  rw [e]
theorem mlc_signs (a b : Cell) : ∀ (xs : List D) (d : D), Tp d → ∃ (cl : List Nat) (d' : D), cl.length = xs.length ∧ (∀ c ∈ cl, c ∈ AB) ∧ Tp d' ∧
    cmpM [2] (tgN 2) tYs (m2 (mOf false (rC (.str "Hxyab019"))) (mCT 0 (mCons (mOf false (rC (.int 8))) mNil) m__law_draw) gIx) xs [Cell.own d, a, b] = .ok (cl.map fun c => .str ⟨#[c]⟩, [Cell.own d', a, b])
  | [], d, h => ⟨[], d, rfl, (fun c hc => absurd hc List.not_mem_nil), h, rfl⟩
  | x :: xs, d, h => by
    obtain ⟨n, d1, e1, h1, h2, h3⟩ := mct_draw (i := 0) (ρ := [Cell.own d, a, Cell.val x]) rfl h 8 (by decide) (by decide)
    obtain ⟨c, hc, e2⟩ := ix_ab h1 h2
    obtain ⟨cl, d', k1, k2, k3, k4⟩ := mlc_signs a b xs d1 h3
    refine ⟨c :: cl, d', by rw [List.length_cons, List.length_cons, k1], fun z hz => ?_, k3, ?_⟩
    · rcases List.mem_cons.mp hz with z1 | z1
      · rw [z1]
        exact hc
      · exact k2 z z1
    · show (noX (m2 (mOf false (rC (.str "Hxyab019"))) (mCT 0 (mCons (mOf false (rC (.int 8))) mNil) m__law_draw) gIx [Cell.own d, a, Cell.val x])).bind _ = _
      rw [ev_m2, ev_mOf, ev_rC, ev_ok, if_pos (.inl rfl), ev_ok]
      dsimp only
      rw [e1, ev_ok]
      dsimp only
      rw [e2, ev_nok, ev_ok, ev_nok, ev_ok]
      show (cmpM [2] (tgN 2) tYs (m2 (mOf false (rC (.str "Hxyab019"))) (mCT 0 (mCons (mOf false (rC (.int 8))) mNil) m__law_draw) gIx) xs [Cell.own d1, a, b]).bind _ = _
      rw [k4]
      rfl
theorem strs_signs (cl : List Nat) : strsD (cl.map fun c => .str ⟨#[c]⟩) = some (cl.map fun c => ⟨#[c]⟩) := by
  induction cl with
  | nil => rfl
  | cons c r ih =>
    show (strsD (r.map fun c => D.str ⟨#[c]⟩)).map (⟨#[c]⟩ :: ·) = _
    rw [ih]
    rfl
theorem join_signs (cl : List Nat) (hl : cl.length ≤ 30) : ∃ w, gJoin (.str "") (.lst (cl.map fun c => .str ⟨#[c]⟩)) = .ok (.str w) ∧ cs w = cl := by
  refine ⟨Txt.join "" (cl.map fun c => ⟨#[c]⟩), ?_, ?_⟩
  · unfold gJoin
    dsimp only
    rw [strs_signs]
    dsimp only
    rw [if_pos]
    have h1 : ∀ l : List Nat, ((l.map fun c => (⟨#[c]⟩ : Str)).map (·.length)).sum = l.length := fun l => by
      induction l with
      | nil => rfl
      | cons c r ih =>
        rw [List.map_cons, List.map_cons, List.sum_cons, ih, List.length_cons]
        show 1 + _ = _
        omega
    have h0 : ("" : Str).length = 0 := by decide +kernel
    rw [h1, h0]
    omega
  · show (Txt.join "" (cl.map fun c => ⟨#[c]⟩)).cps.toList = cl
    rw [TL.join_eq]
    have e0 : ("" : Str).cps.toList = [] := by decide +kernel
    have h := TL.tl_join "" (cl.map fun c => (⟨#[c]⟩ : Str))
    have j : ∀ l : List Nat, TL.joinL [] ((l.map fun c => (⟨#[c]⟩ : Str)).map fun y => y.cps.toList) = l := fun l => by
      induction l with
      | nil => rfl
      | cons c r ih =>
        cases r with
        | nil => rfl
        | cons c2 r2 =>
          show [c] ++ ([] ++ TL.joinL [] _) = _
          exact congrArg (c :: ·) ih
    refine Eq.trans h ?_
    refine Eq.trans ?_ (j cl)
    show TL.joinL ("" : Str).cps.toList _ = _
    rw [e0]
theorem ab_ok : ∀ c ∈ AB, c < 0x110000 := by decide
def L29 : List D := words29.map D.str
theorem ix29 {n : Int} (h0 : 0 ≤ n) (h1 : n < 29) : ∃ w, Wd w ∧ gIx (.lst L29) (.int n) = .ok (.str w) := by
  have hn : n.toNat < words29.length := by show n.toNat < 29; omega
  refine ⟨words29[n.toNat], words29_wd _ (List.getElem_mem hn), ?_⟩
  unfold gIx L29
  dsimp only
  rw [atI_nat' h0, List.getElem?_map, List.getElem?_eq_getElem hn]
  rfl
theorem word_ok {d : D} (h : Tp d) : ∃ w d', m__law_word d [] = .ok (.str w, d') ∧ Wd w ∧ Tp d' := by
  obtain ⟨n, d1, e1, h1, h2, h3⟩ := mct_draw (i := 0) (ρ := [Cell.own d, Cell.emp, Cell.emp]) rfl h 4 (by decide) (by decide)
  show ∃ w d', fnT 3 1 b__law_word d [] = .ok (.str w, d') ∧ Wd w ∧ Tp d'
  unfold fnT b__law_word
  simp only [List.length_nil, Nat.zero_add, reduceIte, begE, List.map_nil, List.length_cons, List.replicate, List.cons_append, List.nil_append, Nat.reduceAdd, Nat.reduceSub, ev_sSeq, ev_sAsg, e1, ev_ok, ev_tgN, ev_nok, List.set_cons_zero, List.set_cons_succ, ev_sIf, ev_mT, ev_bT, ev_r2, ev_rv, List.getElem?_cons_succ, List.getElem?_cons_zero, ev_rC, eq_int, ev_asB]
  cases c : (n == 0) with
  | true =>
    obtain ⟨n2, d2, e2, k1, k2, k3⟩ := mct_draw (i := 0) (ρ := [Cell.own d1, Cell.val (.int n), Cell.emp]) rfl h3 29 (by decide) (by decide)
    obtain ⟨w, hw, e3⟩ := ix29 k1 k2
    refine ⟨w, d2, ?_, hw, k3⟩
    have l29 : ∀ ρ : Env', (rN (rCons (rC (.str "nil")) (rCons (rC (.str "new")) (rCons (rC (.str "free")) (rCons (rC (.str "if")) (rCons (rC (.str "else")) (rCons (rC (.str "while")) (rCons (rC (.str "call")) (rCons (rC (.str "both")) (rCons (rC (.str "with")) (rCons (rC (.str "and")) (rCons (rC (.str "pre")) (rCons (rC (.str "post")) (rCons (rC (.str "proc")) (rCons (rC (.str "end")) (rCons (rC (.str "ls")) (rCons (rC (.str "at")) (rCons (rC (.str "found")) (rCons (rC (.str "inv")) (rCons (rC (.str "out")) (rCons (rC (.str "H")) (rCons (rC (.str "H0")) (rCons (rC (.str "H01")) (rCons (rC (.str "H10")) (rCons (rC (.str "h1")) (rCons (rC (.str "x")) (rCons (rC (.str "0")) (rCons (rC (.str "00")) (rCons (rC (.str "-1")) (rCons (rC (.str "")) rNil))))))))))))))))))))))))))))) gLst) ρ = .ok (.lst L29) := fun ρ => rfl
    simp only [reduceIte, ev_sRet, ev_m2, ev_mOf, l29, ev_ok, true_or, e2, e3, ev_nok, List.set_cons_zero]
    rfl
  | false =>
    obtain ⟨n2, d2, e2, k1, k2, k3⟩ := mct_draw (i := 0) (ρ := [Cell.own d1, Cell.val (.int n), Cell.emp]) rfl h3 15 (by decide) (by decide)
    obtain ⟨cl, d3, j1, j2, j3, j4⟩ := mlc_signs (Cell.val (.int n)) Cell.emp (rngD 0 n2.toNat) d2 k3
    have hlen : (rngD 0 n2.toNat).length = n2.toNat := by unfold rngD; rw [List.length_map, List.length_range]
    have hcl : cl.length ≤ 14 := by rw [j1, hlen]; omega
    obtain ⟨w, e3, e4⟩ := join_signs cl (by omega)
    refine ⟨w, d3, ?_, ⟨by rw [← cs_len, e4]; omega, ok_cs.mpr fun z hz => ab_ok z (j2 z (by rw [← e4]; exact hz))⟩, j3⟩
    have hr : gR1 [.int n2] = .ok (rngD 0 n2.toNat) := by
      show (if okR n2 = true then Out.ok (rngD 0 n2.toNat) else Out.bad) = _
      rw [if_pos]
      unfold okR
      rw [Bool.and_eq_true]
      exact ⟨decide_eq_true (by omega), decide_eq_true (by omega)⟩
    have sz : (rngD 0 n2.toNat).length ≤ sizeLine := by
      have h2 : 1000 ≤ sizeLine := by decide
      omega
    have ml : mLc (iMrng (mCons (mCT 0 (mCons (mOf false (rC (.int 15))) mNil) m__law_draw) mNil) gR1) [2] (tgN 2) tYs (m2 (mOf false (rC (.str "Hxyab019"))) (mCT 0 (mCons (mOf false (rC (.int 8))) mNil) m__law_draw) gIx) [Cell.own d1, Cell.val (.int n), Cell.emp] = .ok (.lst (cl.map fun c => .str ⟨#[c]⟩), [Cell.own d3, Cell.val (.int n), Cell.emp]) := by
      unfold mLc iMrng
      rw [ev_mCons, e2]
      simp only [ev_ok, ev_mNil, hr, ev_nok]
      rw [if_pos sz]
      show (noX (cmpM [2] (tgN 2) tYs _ (rngD 0 n2.toNat) [Cell.own d2, Cell.val (.int n), Cell.emp])).bind _ = _
      rw [j4]
      rfl
    simp only [Bool.false_eq_true, reduceIte, ev_sNil, ev_ok, ev_sRet, ev_m1, ml, e3, ev_nok]
    rfl
end K00

namespace K00
open PySem PySem.Spec L2 VL
theorem addL_mem {α : Type} [DecidableEq α] : ∀ (l acc : List α) (x : α), x ∈ addL acc l ↔ x ∈ acc ∨ x ∈ l
  | [], acc, x => by simp [addL]
  | k :: r, acc, x => by
    unfold addL
    rw [addL_mem r, List.mem_cons]
    by_cases c : acc.any (fun j => decide (j = k)) = true
    · rw [if_pos c]
      obtain ⟨j, hj, e⟩ := List.any_eq_true.mp c
      have e := of_decide_eq_true e
      subst e
      exact ⟨fun z => z.elim .inl fun z => .inr (.inr z), fun z => z.elim .inl fun z => z.elim (fun z => .inl (z ▸ hj)) .inr⟩
    · rw [if_neg c, List.mem_cons]
      exact ⟨fun z => z.elim (fun z => z.elim (fun z => .inr (.inl z)) .inl) fun z => .inr (.inr z), fun z => z.elim (fun z => .inl (.inr z)) fun z => z.elim (fun z => .inl (.inl z)) .inr⟩
theorem addL_nd {α : Type} [DecidableEq α] : ∀ (l acc : List α), acc.Nodup → (addL acc l).Nodup
  | [], acc, h => h
  | k :: r, acc, h => by
    unfold addL
    refine addL_nd r _ ?_
    by_cases c : acc.any (fun j => decide (j = k)) = true
    · rw [if_pos c]
      exact h
    · rw [if_neg c]
      refine List.nodup_cons.mpr ⟨fun z => c (List.any_eq_true.mpr ⟨k, z, decide_eq_true rfl⟩), h⟩
theorem sortS_mem {l : List Str} {x : Str} : x ∈ sortS l ↔ x ∈ l := by
  unfold sortS
  rw [(List.mergeSort_perm _ _).mem_iff, addL_mem]
  simp
theorem sortS_nd (l : List Str) : (sortS l).Nodup := (List.mergeSort_perm _ _).nodup_iff.mpr (addL_nd l [] List.nodup_nil)
theorem sortS_le (l : List Str) : (sortS l).Pairwise fun a b => leS a b = true := List.pairwise_mergeSort (le := leS) (fun a b c => leS_tr) leS_to (addL [] l)
theorem sortI_mem {l : List Int} {x : Int} : x ∈ sortI l ↔ x ∈ l := by
  unfold sortI
  rw [(List.mergeSort_perm _ _).mem_iff, addL_mem]
  simp
theorem sortI_nd (l : List Int) : (sortI l).Nodup := (List.mergeSort_perm _ _).nodup_iff.mpr (addL_nd l [] List.nodup_nil)
theorem sortI_le (l : List Int) : (sortI l).Pairwise fun a b => a ≤ b := by
  have h := List.pairwise_mergeSort (le := fun a b : Int => decide (a ≤ b)) (fun a b c h k => decide_eq_true (Int.le_trans (of_decide_eq_true h) (of_decide_eq_true k))) (fun a b => by rw [Bool.or_eq_true, decide_eq_true_eq, decide_eq_true_eq]; exact Int.le_total a b) (addL [] l)
  exact h.imp fun z => of_decide_eq_true z
/-- what stands for a number -/
def hOf (n : Int) : Str := ("H" : Str) ++ Str.ofString (toString n)
theorem hOf_num {w : Str} (h : hidB w = true) : hOf (numOf w : Nat) = w := by
  have q := hid_of h
  unfold hOf
  rw [back q]
  refine str_ext ?_
  rw [cs_app, q.cons, cs_H]
  rfl
theorem name_facts {w : Str} (h : nameB w = true) : (w == "nil") = false ∧ hidB w = false := by
  unfold nameB at h
  simp only [Bool.and_eq_true, decide_eq_true_eq] at h
  obtain ⟨h1, h2, h3, h4, h5⟩ := h
  constructor
  · cases q : (w == "nil") with
    | false => rfl
    | true =>
      have e := beq_str.mp q
      subst e
      have : isRes "nil" = true := by decide +kernel
      rw [this] at h3
      cases h3
  · cases q : hidB w with
    | false => rfl
    | true =>
      have e : hd w = 72 := by unfold hd; rw [(hid_of q).cons]; rfl
      rw [e] at h4
      exact absurd h4 (by decide +kernel)
theorem hid_facts {w : Str} (h : hidB w = true) : (w == "nil") = false ∧ nameB w = false := by
  constructor
  · cases q : (w == "nil") with
    | false => rfl
    | true =>
      have e := beq_str.mp q
      subst e
      have : hidB "nil" = false := by decide +kernel
      rw [this] at h
      cases h
  · cases q : nameB w with
    | false => rfl
    | true =>
      have z := (name_facts q).2
      rw [h] at z
      cases z
theorem key_name {w : Str} (h : nameB w = true) : key4 w = (1, cs w, 0, cs w) := by
  unfold key4
  obtain ⟨h1, h2⟩ := name_facts h
  rw [h1, h2]
  rfl
theorem key_hid {w : Str} (h : hidB w = true) : key4 w = (2, [], ((numOf w : Nat) : Int), cs w) := by
  unfold key4
  rw [(hid_facts h).1, h]
  rfl
theorem key_nil : key4 "nil" = (0, [], 0, cs "nil") := by
  unfold key4
  rw [if_pos (by decide +kernel)]
section
variable (ts : List Str)
def plain : List Str := sortS (ts.filter nameB)
def nums : List Int := sortI ((ts.filter hidB).map fun w => ((numOf w : Nat) : Int))
def nils : List Str := if ("nil" : Str) ∈ ts then ["nil"] else []
def due : List Str := nils ts ++ plain ts ++ (nums ts).map hOf
end
theorem nums_mem {ts : List Str} {n : Int} (h : n ∈ nums ts) : ∃ w, w ∈ ts ∧ hidB w = true ∧ n = (numOf w : Nat) := by
  unfold nums at h
  rw [sortI_mem] at h
  obtain ⟨w, hw, e⟩ := List.mem_map.mp h
  rw [List.mem_filter] at hw
  exact ⟨w, hw.1, hw.2, e.symm⟩
theorem hs_mem {ts : List Str} {x : Str} : x ∈ (nums ts).map hOf ↔ x ∈ ts ∧ hidB x = true := by
  rw [List.mem_map]
  constructor
  · rintro ⟨n, hn, rfl⟩
    obtain ⟨w, h1, h2, rfl⟩ := nums_mem hn
    rw [hOf_num h2]
    exact ⟨h1, h2⟩
  · rintro ⟨h1, h2⟩
    refine ⟨(numOf x : Nat), ?_, hOf_num h2⟩
    unfold nums
    rw [sortI_mem]
    exact List.mem_map.mpr ⟨x, List.mem_filter.mpr ⟨h1, h2⟩, rfl⟩
theorem plain_mem {ts : List Str} {x : Str} : x ∈ plain ts ↔ x ∈ ts ∧ nameB x = true := by
  unfold plain
  rw [sortS_mem, List.mem_filter]
theorem nils_mem {ts : List Str} {x : Str} : x ∈ nils ts ↔ x ∈ ts ∧ x = "nil" := by
  unfold nils
  split
  · rename_i h
    rw [List.mem_singleton]
    exact ⟨fun e => ⟨e ▸ h, e⟩, fun e => e.2⟩
  · rename_i h
    exact ⟨fun z => absurd z List.not_mem_nil, fun z => absurd (z.2 ▸ z.1) h⟩
theorem num_back {n : Int} {ts : List Str} (h : n ∈ nums ts) : n = (numOf (hOf n) : Nat) ∧ hidB (hOf n) = true := by
  obtain ⟨w, h1, h2, rfl⟩ := nums_mem h
  rw [hOf_num h2]
  exact ⟨rfl, h2⟩
theorem due_mem {ts : List Str} (ht : ∀ t ∈ ts, termB t = true) {x : Str} : x ∈ due ts ↔ x ∈ ts := by
  unfold due
  rw [List.mem_append, List.mem_append, nils_mem, plain_mem, hs_mem]
  constructor
  · rintro ((h | h) | h)
    · exact h.1
    · exact h.1
    · exact h.1
  · intro h
    have z := ht x h
    unfold termB at z
    rw [Bool.or_eq_true, Bool.or_eq_true] at z
    rcases z with z | z | z
    · exact .inl (.inl ⟨h, beq_str.mp z⟩)
    · exact .inl (.inr ⟨h, z⟩)
    · exact .inr ⟨h, z⟩
theorem due_nd (ts : List Str) : (due ts).Nodup := by
  unfold due
  refine List.nodup_append.mpr ⟨List.nodup_append.mpr ⟨?_, sortS_nd _, fun a ha b hb z => ?_⟩, ?_, fun a ha b hb z => ?_⟩
  · unfold nils
    split <;> simp
  · subst z
    have h1 := (nils_mem.mp ha).2
    have h2 := (name_facts (plain_mem.mp hb).2).1
    rw [h1] at h2
    exact absurd h2 (by decide +kernel)
  · have inj : ∀ a ∈ nums ts, ∀ b ∈ nums ts, hOf a = hOf b → a = b := fun a ha b hb e => by
      rw [(num_back ha).1, (num_back hb).1, e]
    have nd := sortI_nd ((ts.filter hidB).map fun w => ((numOf w : Nat) : Int))
    unfold nums at inj ⊢
    refine List.pairwise_map.mpr (List.pairwise_iff_forall_sublist.mpr fun {a b} hs e => ?_)
    have h := List.pairwise_iff_forall_sublist.mp nd hs
    exact h (inj a (hs.subset (by simp)) b (hs.subset (by simp)) e)
  · subst z
    have h1 := (hs_mem.mp hb).2
    rcases List.mem_append.mp ha with ha | ha
    · have h2 := (nils_mem.mp ha).2
      have h3 := (hid_facts h1).1
      rw [h2] at h3
      exact absurd h3 (by decide +kernel)
    · have h2 := (plain_mem.mp ha).2
      have h3 := (hid_facts h1).2
      rw [h2] at h3
      cases h3
theorem due_sorted (ts : List Str) : (due ts).Pairwise fun a b => ¬ lt4 (key4 b) (key4 a) := by
  unfold due
  refine List.pairwise_append.mpr ⟨List.pairwise_append.mpr ⟨?_, ?_, fun a ha b hb => ?_⟩, ?_, fun a ha b hb => ?_⟩
  · unfold nils
    split <;> simp
  · refine List.pairwise_iff_forall_sublist.mpr fun {a b} hs => ?_
    have h := List.pairwise_iff_forall_sublist.mp (sortS_le _) hs
    have ha := (plain_mem.mp (hs.subset (by simp : a ∈ [a, b]))).2
    have hb := (plain_mem.mp (hs.subset (by simp : b ∈ [a, b]))).2
    rw [key_name ha, key_name hb]
    have le : cs a ≤ cs b := of_decide_eq_true h
    intro z
    rcases z with z | ⟨_, z⟩
    · have z : (1 : Int) < 1 := z
      omega
    · rcases z with z | ⟨_, z⟩
      · exact absurd z (List.not_lt.mpr le)
      · rcases z with z | ⟨_, z⟩
        · have z : (0 : Int) < 0 := z
          omega
        · exact absurd z (List.not_lt.mpr le)
  · have h1 := (nils_mem.mp ha).2
    rw [h1, key_nil, key_name (plain_mem.mp hb).2]
    intro z
    rcases z with z | ⟨z, _⟩
    · have z : (1 : Int) < 0 := z
      omega
    · have z : (1 : Int) = 0 := z
      omega
  · refine List.pairwise_map.mpr (List.pairwise_iff_forall_sublist.mpr fun {a b} hs => ?_)
    have h := List.pairwise_iff_forall_sublist.mp (sortI_le _) hs
    have ha := num_back (hs.subset (by simp : a ∈ [a, b]))
    have hb := num_back (hs.subset (by simp : b ∈ [a, b]))
    have hn := List.pairwise_iff_forall_sublist.mp (sortI_nd _) hs
    rw [key_hid ha.2, key_hid hb.2, ← ha.1, ← hb.1]
    intro z
    rcases z with z | ⟨_, z⟩
    · have z : (2 : Int) < 2 := z
      omega
    · rcases z with z | ⟨_, z⟩
      · exact absurd z (List.lt_irrefl _)
      · rcases z with z | ⟨e, z⟩
        · have z : b < a := z
          omega
        · exact hn e.symm
  · have hb2 := (hs_mem.mp hb).2
    rw [key_hid hb2]
    rcases List.mem_append.mp ha with ha | ha
    · rw [(nils_mem.mp ha).2, key_nil]
      intro z
      rcases z with z | ⟨z, _⟩
      · have z : (2 : Int) < 0 := z
        omega
      · have z : (2 : Int) = 0 := z
        omega
    · rw [key_name (plain_mem.mp ha).2]
      intro z
      rcases z with z | ⟨z, _⟩
      · have z : (2 : Int) < 1 := z
        omega
      · have z : (2 : Int) = 1 := z
        omega
theorem perm_due {ts : List Str} (ht : ∀ t ∈ ts, termB t = true) : (addRs [] (ts ++ ts)).Perm (due ts) :=
  (List.perm_ext_iff_of_nodup (addRs_nd _ List.nodup_nil) (due_nd ts)).mpr fun x => by
    rw [addRs_mem, due_mem ht, List.mem_append]
    simp
end K00

namespace K00
open PySem PySem.Spec L2 VL
/-! ### the tape -/
theorem tape_loop (a : Cell) : ∀ (ns : List Int) (mix : Int) (c : Cell), 0 ≤ mix → ∃ mix' c', 0 ≤ mix' ∧ forL (tgN 2) (sSeq (sAsg (mOf false (r2 (rN (rCons (r2 (r2 (r2 (rv false 1) (rC (.int 48271)) gMulI) (r2 (rv false 2) (rC (.int 16807)) gMulI) gAddU) (rC (.int 7)) gAddU) rNil) gInt) (rC (.int 1000000007)) gMod)) (tgN 1)) sNil) (ns.map D.int) [a, Cell.val (.int mix), c] = .ok (.nx, [a, Cell.val (.int mix'), c'])
  | [], mix, c, h => ⟨mix, c, h, rfl⟩
  | n :: ns, mix, c, h => by
    have m1 : gMulI (.int mix) (.int 48271) = .ok (.int (mix * 48271)) := ev_mulR (by decide) (by decide)
    have m2 : gMulI (.int n) (.int 16807) = .ok (.int (n * 16807)) := ev_mulR (by decide) (by decide)
    have m3 : ∀ i : Int, gMod (.int i) (.int 1000000007) = .ok (.int (i.fmod 1000000007)) := fun i => ev_mod (by decide)
    obtain ⟨mix', c', h1, h2⟩ := tape_loop a ns ((mix * 48271 + n * 16807 + 7).fmod 1000000007) (Cell.val (.int n)) (fm _ (by decide)).1
    refine ⟨mix', c', h1, ?_⟩
    rw [← h2]
    show ((noX (tgN 2 (D.int n) [a, Cell.val (.int mix), c])).bind fun ρ1 => (sSeq (sAsg (mOf false (r2 (rN (rCons (r2 (r2 (r2 (rv false 1) (rC (.int 48271)) gMulI) (r2 (rv false 2) (rC (.int 16807)) gMulI) gAddU) (rC (.int 7)) gAddU) rNil) gInt) (rC (.int 1000000007)) gMod)) (tgN 1)) sNil ρ1).bind _) = _
    simp only [ev_tgN, ev_nok, ev_ok, List.set_cons_zero, List.set_cons_succ, ev_sSeq, ev_sAsg, ev_mOf, ev_r2, ev_rN, ev_rCons, ev_rNil, ev_rv, ev_rC, List.getElem?_cons_zero, List.getElem?_cons_succ, m1, m2, m3, ev_addI, ev_int, true_or, reduceIte, ev_sNil]
theorem tape_ok (ns : List Int) : ∃ d, m__law_tape [.lst (ns.map D.int)] = .ok d ∧ Tp d := by
  obtain ⟨mix', c', h1, h2⟩ := tape_loop (Cell.val (.lst (ns.map D.int))) ns ((ns.map D.int).length : Nat) Cell.emp (by omega)
  refine ⟨tp ns 0 0 mix', ?_, ns, 0, 0, mix', rfl, Int.le_refl _, Int.le_refl _, h1⟩
  have gl : gList [.lst (ns.map D.int)] = .ok (.lst (ns.map D.int)) := rfl
  have l4 : ∀ a b c d : D, gLst [a, b, c, d] = .ok (.lst [a, b, c, d]) := fun a b c d => rfl
  show fnN 3 1 b__law_tape [.lst (ns.map D.int)] = _
  unfold fnN b__law_tape
  simp only [List.length_cons, List.length_nil, Nat.zero_add, reduceIte, begE, List.map_cons, List.map_nil, List.replicate, List.cons_append, List.nil_append, Nat.reduceAdd, Nat.reduceSub, ev_sSeq, ev_sAsg, ev_mOf, ev_rN, ev_rCons, ev_rNil, ev_rv, List.getElem?_cons_zero, ev_ok, ev_lenL, ev_nok, true_or, ev_tgN, List.set_cons_succ, List.set_cons_zero, ev_sFor, ev_iOf, ev_iSeq, seqD, h2, ev_sNew, gl, ev_rC, l4, List.getElem?_cons_succ]
  rfl
/-! ### the words -/
theorem mlc_words (s : Cell) (r : List Cell) (x2 : Cell) : ∀ (xs : List D) (d : D) (x3 : Cell), Tp d → ∃ (ws : List Str) (d' : D), ws.length = xs.length ∧ (∀ w ∈ ws, Wd w) ∧ Tp d' ∧
    cmpM [3] (tgN 3) tYs (mCT 1 mNil m__law_word) xs (s :: Cell.own d :: x2 :: x3 :: r) = .ok (ws.map D.str, s :: Cell.own d' :: x2 :: x3 :: r)
  | [], d, x3, h => ⟨[], d, rfl, (fun c hc => absurd hc List.not_mem_nil), h, rfl⟩
  | x :: xs, d, x3, h => by
    obtain ⟨w, d1, e1, h1, h2⟩ := word_ok h
    obtain ⟨ws, d', k1, k2, k3, k4⟩ := mlc_words s r x2 xs d1 x3 h2
    refine ⟨w :: ws, d', by rw [List.length_cons, List.length_cons, k1], fun z hz => ?_, k3, ?_⟩
    · rcases List.mem_cons.mp hz with z1 | z1
      · rw [z1]
        exact h1
      · exact k2 z z1
    · show (noX ((m__law_word d []).bind fun r' => Out.ok (r'.1, (s :: Cell.own d :: x2 :: Cell.val x :: r).set 1 (.own r'.2)))).bind _ = _
      rw [e1, ev_ok, ev_nok, ev_ok]
      show (cmpM [3] (tgN 3) tYs (mCT 1 mNil m__law_word) xs (s :: Cell.own d1 :: x2 :: x3 :: r)).bind _ = _
      rw [k4]
      rfl
/-! ### one list against another -/
theorem shaped_bl (l : List Bool) : SeqAt.shaped (toP (.lst (l.map D.bl))) = true := by
  have e : toP (.lst (l.map D.bl)) = .list (l.map PyData.bool) := by
    show PyData.list (toPs (l.map D.bl)) = _
    congr 1
    induction l with
    | nil => rfl
    | cons b r ih => exact congrArg (PyData.bool b :: ·) ih
  rw [e]
  unfold SeqAt.shaped
  rw [Bool.and_eq_true]
  constructor
  · show PyData.canLayAll0 (l.map PyData.bool) = true
    clear e
    induction l with
    | nil => rfl
    | cons b r ih => exact ih
  · apply decide_eq_true
    have : ∀ l : List Bool, PyData.depthAll (l.map PyData.bool) ≤ 1 := fun l => by
      induction l with
      | nil => simp [PyData.depthAll]
      | cons b r ih =>
        show PyData.depthAll (PyData.bool b :: r.map PyData.bool) ≤ 1
        unfold PyData.depthAll
        exact Nat.max_le.mpr ⟨by simp [PyData.depth], ih⟩
    have z := this l
    simp only [PyData.depth]
    omega
theorem shaped_st (l : List Str) (h : ∀ w ∈ l, PyData.strOk w = true) : SeqAt.shaped (toP (.lst (l.map D.str))) = true := by
  have e : toP (.lst (l.map D.str)) = .list (l.map PyData.str) := by
    show PyData.list (toPs (l.map D.str)) = _
    congr 1
    clear h
    induction l with
    | nil => rfl
    | cons b r ih => exact congrArg (PyData.str b :: ·) ih
  rw [e]
  unfold SeqAt.shaped
  rw [Bool.and_eq_true]
  constructor
  · show PyData.canLayAll0 (l.map PyData.str) = true
    clear e
    induction l with
    | nil => rfl
    | cons b r ih =>
      show (PyData.strOk b && PyData.canLayAll0 (r.map PyData.str)) = true
      rw [h b List.mem_cons_self, ih fun w hw => h w (List.mem_cons_of_mem _ hw)]
      rfl
  · apply decide_eq_true
    have : ∀ l : List Str, PyData.depthAll (l.map PyData.str) ≤ 1 := fun l => by
      induction l with
      | nil => simp [PyData.depthAll]
      | cons b r ih =>
        show PyData.depthAll (PyData.str b :: r.map PyData.str) ≤ 1
        unfold PyData.depthAll
        exact Nat.max_le.mpr ⟨by simp [PyData.depth], ih⟩
    have z := this l
    simp only [PyData.depth]
    omega
theorem eqv_bl (l : List Bool) : PyData.eqv (toP (.lst (l.map D.bl))) (toP (.lst (l.map D.bl))) = true := by
  show PyData.eqvAll (toPs (l.map D.bl)) (toPs (l.map D.bl)) = true
  induction l with
  | nil => rfl
  | cons b r ih =>
    show ((b == b) && PyData.eqvAll (toPs (r.map D.bl)) (toPs (r.map D.bl))) = true
    rw [ih, beq_self_eq_true]
    rfl
theorem eqv_st (l : List Str) : PyData.eqv (toP (.lst (l.map D.str))) (toP (.lst (l.map D.str))) = true := by
  show PyData.eqvAll (toPs (l.map D.str)) (toPs (l.map D.str)) = true
  induction l with
  | nil => rfl
  | cons b r ih =>
    show ((b == b) && PyData.eqvAll (toPs (r.map D.str)) (toPs (r.map D.str))) = true
    rw [ih, beq_self_eq_true]
    rfl
theorem law_is {xs : List D} (h : SeqAt.shaped (toP (.lst xs)) = true) (e : PyData.eqv (toP (.lst xs)) (toP (.lst xs)) = true) : m__law_is [.lst xs, .lst xs] = .ok (.bl true) := by
  have g1 : gEq (.lst xs) (.lst xs) = .ok (.bl true) := by
    unfold gEq
    rw [if_pos ⟨h, h⟩, e]
  have i1 : gIsN (.lst xs) .non = .ok (.bl false) := rfl
  have i2 : gIsi "bool" (.lst xs) = .ok (.bl false) := rfl
  have i3 : gIsi "int" (.lst xs) = .ok (.bl false) := rfl
  have i4 : gIsi "str" (.lst xs) = .ok (.bl false) := rfl
  have i5 : gIsi "tuple" (.lst xs) = .ok (.bl false) := rfl
  have i6 : gIsi "list" (.lst xs) = .ok (.bl true) := rfl
  show fnF 2 b__law_is [.lst xs, .lst xs] = _
  unfold fnF b__law_is
  simp only [begE, List.map_cons, List.map_nil, List.length_cons, List.length_nil, List.replicate, List.cons_append, List.nil_append, Nat.reduceAdd, Nat.reduceSub, ev_sSeq, ev_sIf, ev_mT, ev_bT, ev_r1, ev_r2, ev_rv, ev_rC, List.getElem?_cons_zero, List.getElem?_cons_succ, ev_ok, i1, i2, i3, i4, i5, i6, ev_nok, ev_asB, Bool.false_eq_true, reduceIte, ev_sNil, ev_sRet, ev_mOf, ev_rAnd, g1, true_or]
end K00

namespace K00
open PySem PySem.Spec L2 VL
theorem cmp_filt {vs : List Nat} {g : D → Env' → Out Env'} {t : Env' → Out Bool} {f : Env' → Out D} {ρ : Env'} {G : Str → D} {p : Str → Bool} : ∀ {ws : List Str}, (∀ u ∈ ws, ∃ ρ1, g (.str u) (wipeE ρ vs) = .ok ρ1 ∧ t ρ1 = .ok (p u) ∧ (p u = true → f ρ1 = .ok (G u))) → cmpL vs g t f ρ (ws.map D.str) = .ok ((ws.filter p).map G)
  | [], _ => rfl
  | u :: ws, h => by
    obtain ⟨ρ1, h1, h2, h3⟩ := h u List.mem_cons_self
    show ((noX (g (.str u) (wipeE ρ vs))).bind fun ρ1 => (noX (t ρ1)).bind fun c => if c = true then (noX (f ρ1)).bind fun d => (cmpL vs g t f ρ (ws.map D.str)).bind fun ds => .ok (d :: ds) else cmpL vs g t f ρ (ws.map D.str)) = _
    rw [h1, ev_nok, ev_ok, h2, ev_nok, ev_ok, cmp_filt fun y hy => h y (List.mem_cons_of_mem _ hy)]
    cases c : p u with
    | true =>
      rw [if_pos rfl, h3 c, ev_nok, ev_ok, ev_ok, List.filter_cons, if_pos c]
      rfl
    | false =>
      rw [if_neg Bool.false_ne_true, List.filter_cons, if_neg (by rw [c]; exact Bool.false_ne_true)]
theorem lc_filt {it : Env' → Out (List D)} {vs : List Nat} {g : D → Env' → Out Env'} {t : Env' → Out Bool} {f : Env' → Out D} {ρ : Env'} {G : Str → D} {p : Str → Bool} {ws : List Str} (hi : it ρ = .ok (ws.map D.str)) (hl : ws.length ≤ 1000) (h : ∀ u ∈ ws, ∃ ρ1, g (.str u) (wipeE ρ vs) = .ok ρ1 ∧ t ρ1 = .ok (p u) ∧ (p u = true → f ρ1 = .ok (G u))) : rLc it vs g t f ρ = .ok (.lst ((ws.filter p).map G)) := by
  unfold rLc
  rw [hi]
  show (if (ws.map D.str).length ≤ sizeLine then (noX (cmpL vs g t f ρ (ws.map D.str))).bind fun ds => Out.ok (D.lst ds) else Out.bad) = _
  have h2 : 1000 ≤ sizeLine := by decide
  rw [if_pos (by rw [List.length_map]; omega), cmp_filt h]
  rfl
theorem due_at {w : Str} (h : Wd w) : gIx (.lst (dueL w)) (.int 0) = .ok (.bl (nameB w)) ∧ gIx (.lst (dueL w)) (.int 1) = .ok (.bl (hidB w)) ∧ gIx (.lst (dueL w)) (.int 2) = .ok (.bl (termB w)) := ⟨rfl, rfl, rfl⟩
theorem due_bl (w : Str) : dueL w = [nameB w, hidB w, termB w, numB w].map D.bl := rfl
theorem txs_map (l : List Str) : intsD (l.map D.str) = if l = [] then some [] else none := by
  cases l with
  | nil => rfl
  | cons x r => rfl
theorem soset_str (l : List Str) (h : l.length ≤ 4000) : gSoSet (.lst (l.map D.str)) = .ok (.lst ((sortS l).map D.str)) := by
  unfold gSoSet
  dsimp only
  rw [txs_map]
  have t : txsD (l.map D.str) = some l := by
    induction l with
    | nil => rfl
    | cons x r ih =>
      show (txsD (r.map D.str)).map (x :: ·) = _
      rw [ih (by rw [List.length_cons] at h; omega)]
      rfl
  by_cases c : l = []
  · subst c
    rw [if_pos rfl]
    dsimp only
    rw [if_pos (show ([] : List Int).length ≤ 4000 from Nat.zero_le _)]
    have e1 : sortI [] = [] := by unfold sortI addL; exact List.mergeSort_nil
    have e2 : sortS [] = [] := by unfold sortS addL; exact List.mergeSort_nil
    rw [e1, e2]
    rfl
  · rw [if_neg c]
    dsimp only
    rw [t]
    dsimp only
    rw [if_pos h]
theorem soset_int (l : List Int) (h : l.length ≤ 4000) : gSoSet (.lst (l.map D.int)) = .ok (.lst ((sortI l).map D.int)) := by
  unfold gSoSet
  dsimp only
  have t : intsD (l.map D.int) = some l := by
    clear h
    induction l with
    | nil => rfl
    | cons x r ih =>
      show (intsD (r.map D.int)).map (x :: ·) = _
      rw [ih]
      rfl
  rw [t]
  dsimp only
  rw [if_pos h]
theorem nil_in (ts : List Str) : gIn false (.str "nil") (.lst (ts.map D.str)) = .ok (.bl (decide (("nil" : Str) ∈ ts))) := by
  show gInS false (.str "nil") (ts.map D.str) = _
  unfold gInS
  have hf : flatD (.str "nil") = true ∧ (ts.map D.str).all flatD = true := by
    refine ⟨rfl, ?_⟩
    rw [List.all_map]
    exact List.all_eq_true.mpr fun c _ => rfl
  rw [if_pos hf]
  have e : ((ts.map D.str).any fun y => PyData.eqv (toP y) (toP (.str "nil"))) = decide (("nil" : Str) ∈ ts) := by
    rw [List.any_map, Bool.eq_iff_iff, List.any_eq_true, decide_eq_true_eq]
    constructor
    · rintro ⟨x, hx, e⟩
      have z : x = "nil" := beq_str.mp e
      exact z ▸ hx
    · exact fun h => ⟨_, h, beq_str.mpr rfl⟩
  show Out.ok (D.bl ((ts.map D.str).any fun y => PyData.eqv (toP y) (toP (.str "nil")))) = _
  rw [e]
/-- each word is told as due -/
theorem words_loop (s w : Cell) (a b c d e f g : Cell) (body : Env' → Out (Fl × Env')) (hb : ∀ (u : Str) (x5 : Cell), Wd u → body [s, a, w, b, Cell.val (.str u), x5, c, d, e, f] = .ok (.nx, [s, a, w, b, Cell.val (.str u), Cell.val (.lst (dueL u)), c, d, e, f])) :
    ∀ (ws : List Str) (x4 x5 : Cell), (∀ u ∈ ws, Wd u) → ∃ y4 y5, forL (tgN 4) body (ws.map D.str) [s, a, w, b, x4, x5, c, d, e, f] = .ok (.nx, [s, a, w, b, y4, y5, c, d, e, f])
  | [], x4, x5, _ => ⟨x4, x5, rfl⟩
  | u :: ws, x4, x5, h => by
    obtain ⟨y4, y5, k⟩ := words_loop s w a b c d e f g body hb ws (Cell.val (.str u)) (Cell.val (.lst (dueL u))) fun v hv => h v (List.mem_cons_of_mem _ hv)
    refine ⟨y4, y5, ?_⟩
    show ((noX (tgN 4 (D.str u) [s, a, w, b, x4, x5, c, d, e, f])).bind fun ρ1 => (body ρ1).bind _) = _
    rw [ev_tgN, ev_nok, ev_ok]
    simp only [List.set_cons_zero, List.set_cons_succ]
    rw [hb u x5 (h u List.mem_cons_self), ev_ok]
    exact k
theorem nums_str {ts : List Str} : ∀ n ∈ nums ts, gStr [.int n] = .ok (.str (Str.ofString (toString n))) ∧ gAddU (.str "H") (.str (Str.ofString (toString n))) = .ok (.str (hOf n)) := fun n hn => by
  obtain ⟨w, h1, h2, rfl⟩ := nums_mem hn
  have q := hid_of h2
  have e1 := gstr_ok q
  have e2 := add_H q
  rw [hOf_num h2, back q]
  exact ⟨e1, e2⟩
theorem lc_ints {vs : List Nat} {g : D → Env' → Out Env'} {f : Env' → Out D} {ρ : Env'} {it : Env' → Out (List D)} {G : Int → D} {ws : List Int} (hi : it ρ = .ok (ws.map D.int)) (hl : ws.length ≤ 1000) (h : ∀ u ∈ ws, ∃ ρ1, g (.int u) (wipeE ρ vs) = .ok ρ1 ∧ f ρ1 = .ok (G u)) : rLc it vs g tYs f ρ = .ok (.lst (ws.map G)) := by
  have z := lc_map (G := fun d => match d with
    | .int u => G u
    | d => d) hi (by rw [List.length_map]; exact hl) (f := f) (g := g) (vs := vs) fun x hx => by
      obtain ⟨u, hu, rfl⟩ := List.mem_map.mp hx
      exact h u hu
  rw [z, List.map_map]
  rfl
theorem law_ok (ns : List Int) : m_law [.lst (ns.map D.int)] = .ok (.bl true) := by
  obtain ⟨t0, et, ht⟩ := tape_ok ns
  show fnF 10 b_law [.lst (ns.map D.int)] = _
  unfold fnF b_law
  generalize hS : Cell.val (.lst (ns.map D.int)) = S
  -- how many words
  obtain ⟨n, t1, e1, h1, h2, h3⟩ := mct_draw (i := 1) (ρ := [S, Cell.own t0, Cell.emp, Cell.emp, Cell.emp, Cell.emp, Cell.emp, Cell.emp, Cell.emp, Cell.emp]) rfl ht 6 (by decide) (by decide)
  obtain ⟨ws, t2, k1, k2, k3, k4⟩ := mlc_words S [Cell.emp, Cell.emp, Cell.emp, Cell.emp, Cell.emp, Cell.emp] Cell.emp (rngD 0 (1 + n).toNat) t1 Cell.emp h3
  have hlen : (rngD 0 (1 + n).toNat).length = (1 + n).toNat := by unfold rngD; rw [List.length_map, List.length_range]
  have wl : ws.length ≤ 6 := by rw [k1, hlen]; omega
  have szl : 1000 ≤ sizeLine := by decide
  have hr : gR1 [.int (1 + n)] = .ok (rngD 0 (1 + n).toNat) := by
    show (if okR (1 + n) = true then Out.ok (rngD 0 (1 + n).toNat) else Out.bad) = _
    rw [if_pos]
    unfold okR
    rw [Bool.and_eq_true]
    exact ⟨decide_eq_true (by omega), decide_eq_true (by omega)⟩
  have ml : mLc (iMrng (mCons (m2 (mOf false (rC (.int 1))) (mCT 1 (mCons (mOf false (rC (.int 6))) mNil) m__law_draw) gAddU) mNil) gR1) [3] (tgN 3) tYs (mCT 1 mNil m__law_word) [S, Cell.own t0, Cell.emp, Cell.emp, Cell.emp, Cell.emp, Cell.emp, Cell.emp, Cell.emp, Cell.emp] = .ok (.lst (ws.map D.str), [S, Cell.own t2, Cell.emp, Cell.emp, Cell.emp, Cell.emp, Cell.emp, Cell.emp, Cell.emp, Cell.emp]) := by
    unfold mLc iMrng
    rw [ev_mCons, ev_m2, ev_mOf, ev_rC, ev_ok, if_pos (.inl rfl), ev_ok]
    dsimp only
    rw [e1]
    simp only [ev_ok, ev_mNil, ev_addI, ev_nok, hr, List.set_cons_zero, List.set_cons_succ]
    rw [if_pos (by omega)]
    show (noX (cmpM [3] (tgN 3) tYs (mCT 1 mNil m__law_word) (rngD 0 (1 + n).toNat) (S :: Cell.own t1 :: Cell.emp :: Cell.emp :: [Cell.emp, Cell.emp, Cell.emp, Cell.emp, Cell.emp, Cell.emp]))).bind _ = _
    rw [k4]
    rfl
  -- the loop
  have loop := words_loop S (Cell.val (.lst (ws.map D.str))) (Cell.val t2) Cell.emp Cell.emp Cell.emp Cell.emp Cell.emp Cell.emp
    (sSeq (sAsg (mOf false (rF (rCons (rv false 4) rNil) m__law_due)) (tgN 5)) (sSeq (sIf (mT (bNot (bT (rF (rCons (rN (rCons (rF (rCons (rv false 4) rNil) m_is_name) (rCons (rF (rCons (rv false 4) rNil) m_is_hidden) (rCons (rF (rCons (rv false 4) rNil) m_is_term) (rCons (rF (rCons (rv false 4) rNil) m_is_number) rNil)))) gLst) (rCons (rv false 5) rNil)) m__law_is)))) (sSeq (sRet (mOf false (rC (.bl false)))) sNil) sNil) sNil))
    (fun u x5 hu => by
      have a1 := due_ok hu
      have a2 := is_name_ok hu
      have a3 := is_hidden_ok hu
      have a4 := is_term_ok hu
      have a5 := is_number_ok hu
      have a6 : m__law_is [.lst (dueL u), .lst (dueL u)] = .ok (.bl true) := by
        rw [due_bl]
        exact law_is (shaped_bl _) (eqv_bl _)
      have a7 : gLst [.bl (nameB u), .bl (hidB u), .bl (termB u), .bl (numB u)] = .ok (.lst (dueL u)) := rfl
      simp only [ev_sSeq, ev_sAsg, ev_mOf, ev_rF, ev_rCons, ev_rNil, ev_rv, List.getElem?_cons_zero, List.getElem?_cons_succ, ev_ok, a1, true_or, reduceIte, ev_tgN, ev_nok, List.set_cons_zero, List.set_cons_succ, ev_sIf, ev_mT, ev_bNot, ev_bT, ev_rN, a2, a3, a4, a5, a7, a6, ev_asB, Bool.not_true, Bool.false_eq_true, ev_sNil]) ws Cell.emp Cell.emp k2
  obtain ⟨y4, y5, loop⟩ := loop
  -- the terms
  let ts := ws.filter termB
  have tw : ∀ t ∈ ts, Wd t := fun t h => k2 t (List.mem_filter.mp h).1
  have tt : ∀ t ∈ ts, termB t = true := fun t h => (List.mem_filter.mp h).2
  have tl : ts.length ≤ 6 := Nat.le_trans (List.length_filter_le _ _) wl
  have hd : ∀ t ∈ due ts, Wd t := fun t h => tw t ((due_mem tt).mp h)
  have t1' : ∀ (a b c e f g h i j : Cell), rLc (iSeq (rv false 2)) [4] (tgN 4) (bT (r2 (rF (rCons (rv false 4) rNil) m__law_due) (rC (.int 2)) gIx)) (rv false 4) [a, b, Cell.val (.lst (ws.map D.str)), c, e, f, g, h, i, j] = .ok (.lst (ts.map D.str)) := fun a b c e f g h i j => by
    refine lc_filt (ws := ws) (p := termB) (G := D.str) rfl (by omega) fun u hu => ⟨_, rfl, ?_, fun _ => rfl⟩
    have a1 := due_ok (k2 u hu)
    simp only [ev_bT, ev_r2, ev_rF, ev_rCons, ev_rNil, ev_rv, ev_rC, wipeE, List.set_cons_zero, List.set_cons_succ, List.getElem?_cons_zero, List.getElem?_cons_succ, ev_ok, a1, (due_at (k2 u hu)).2.2, ev_nok, ev_asB]
  have t2' : ∀ (a b c e f g h i j : Cell), rLc (iSeq (rv false 6)) [4] (tgN 4) (bT (r2 (rF (rCons (rv false 4) rNil) m__law_due) (rC (.int 0)) gIx)) (rv false 4) [a, b, c, e, f, g, Cell.val (.lst (ts.map D.str)), h, i, j] = .ok (.lst ((ts.filter nameB).map D.str)) := fun a b c e f g h i j => by
    refine lc_filt (ws := ts) (p := nameB) (G := D.str) rfl (by omega) fun u hu => ⟨_, rfl, ?_, fun _ => rfl⟩
    have a1 := due_ok (tw u hu)
    simp only [ev_bT, ev_r2, ev_rF, ev_rCons, ev_rNil, ev_rv, ev_rC, wipeE, List.set_cons_zero, List.set_cons_succ, List.getElem?_cons_zero, List.getElem?_cons_succ, ev_ok, a1, (due_at (tw u hu)).1, ev_nok, ev_asB]
  have t3' : ∀ (a b c e f g h i j : Cell), rLc (iSeq (rv false 6)) [4] (tgN 4) (bT (r2 (rF (rCons (rv false 4) rNil) m__law_due) (rC (.int 1)) gIx)) (rN (rCons (rSl (rv false 4) (oI (some (rC (.int 1)))) (oI none) gSl) rNil) gInt) [a, b, c, e, f, g, Cell.val (.lst (ts.map D.str)), h, i, j] = .ok (.lst (((ts.filter hidB).map fun w => ((numOf w : Nat) : Int)).map D.int)) := fun a b c e f g h i j => by
    rw [List.map_map]
    refine lc_filt (ws := ts) (p := hidB) (G := D.int ∘ fun w => ((numOf w : Nat) : Int)) rfl (by omega) fun u hu => ⟨_, rfl, ?_, fun hh => ?_⟩
    · have a1 := due_ok (tw u hu)
      simp only [ev_bT, ev_r2, ev_rF, ev_rCons, ev_rNil, ev_rv, ev_rC, wipeE, List.set_cons_zero, List.set_cons_succ, List.getElem?_cons_zero, List.getElem?_cons_succ, ev_ok, a1, (due_at (tw u hu)).2.1, ev_nok, ev_asB]
    · have s1 := sl_rest (tw u hu).len
      have i1 := int_rest (hid_of hh)
      show ((noX (gSl (.str u) (some 1) none)).bind fun x => Out.ok [x]).bind (fun x => noX (gInt x)) = _
      rw [s1, ev_nok, ev_ok, ev_ok, i1, ev_nok]
      rfl
  have fl1 : (ts.filter nameB).length ≤ 6 := Nat.le_trans (List.length_filter_le _ _) tl
  have fl2 : ((ts.filter hidB).map fun w => ((numOf w : Nat) : Int)).length ≤ 6 := by rw [List.length_map]; exact Nat.le_trans (List.length_filter_le _ _) tl
  have g1 := soset_str (ts.filter nameB) (by omega)
  have g2 := soset_int ((ts.filter hidB).map fun w => ((numOf w : Nat) : Int)) (by omega)
  have nl : (nums ts).length ≤ 1000 := by
    unfold nums sortI
    rw [List.length_mergeSort]
    have z := addL_len ((ts.filter hidB).map fun w => ((numOf w : Nat) : Int)) []
    simp only [List.length_nil] at z
    omega
  have pl : (plain ts).length ≤ 1000 := by
    unfold plain sortS
    rw [List.length_mergeSort]
    have z := addL_len (ts.filter nameB) []
    simp only [List.length_nil] at z
    omega
  have t4' : ∀ (a b c e f g h i j : Cell), rLc (iSeq (rv false 8)) [9] (tgN 9) tYs (r2 (rC (.str "H")) (rN (rCons (rv false 9) rNil) gStr) gAddU) [a, b, c, e, f, g, h, i, Cell.val (.lst ((nums ts).map D.int)), j] = .ok (.lst (((nums ts).map hOf).map D.str)) := fun a b c e f g h i j => by
    rw [List.map_map]
    refine lc_ints (ws := nums ts) (G := D.str ∘ hOf) rfl nl fun u hu => ⟨_, rfl, ?_⟩
    obtain ⟨e1, e2⟩ := nums_str u hu
    show ((noX (gStr [.int u])).bind fun y => noX (gAddU (.str "H") y)) = _
    rw [e1, ev_nok, ev_ok, e2, ev_nok]
    rfl
  have catL : ∀ xs ys : List Str, xs.length + ys.length ≤ 4000 → gAddU (.lst (xs.map D.str)) (.lst (ys.map D.str)) = .ok (.lst ((xs ++ ys).map D.str)) := fun xs ys h => by
    show (if (xs.map D.str).length + (ys.map D.str).length ≤ sizeLine then Out.ok (D.lst (xs.map D.str ++ ys.map D.str)) else Out.bad) = _
    have h4 : 4000 ≤ sizeLine := by decide
    rw [if_pos (by rw [List.length_map, List.length_map]; omega), List.map_append]
  have io := in_order_ok (us := ts ++ ts) (m := due ts) (fun u hu => tw u ((List.mem_append.mp hu).elim id id)) (by rw [List.length_append]; omega) (perm_due tt) (due_sorted ts)
  have rp : ∀ (a b c e f g h i j : Cell), rRepL (rCons (rC (.str "nil")) rNil) (rN (rCons (r2 (rC (.str "nil")) (rv false 6) (gIn false)) rNil) gInt) [a, b, c, e, f, g, Cell.val (.lst (ts.map D.str)), h, i, j] = .ok (.lst ((nils ts).map D.str)) := fun a b c e f g h i j => by
    unfold rRepL nils
    show (if [D.str "nil"].length ≤ sizeLine then (((noX (gIn false (.str "nil") (.lst (ts.map D.str)))).bind fun x => Out.ok [x]).bind fun x => noX (gInt x)).bind fun y => noX (gRepL [D.str "nil"] y) else Out.bad) = _
    rw [if_pos (by decide), nil_in, ev_nok, ev_ok, ev_ok]
    by_cases c : ("nil" : Str) ∈ ts
    · rw [decide_eq_true c, if_pos c]
      show noX (if [D.str "nil"].length ≤ sizeLine ∧ -(2 ^ 63) ≤ (1 : Int) ∧ (1 : Int) < 2 ^ 63 ∧ [D.str "nil"].length * (1 : Int).toNat ≤ sizeLine then Out.ok (D.lst (List.replicate (1 : Int).toNat [D.str "nil"]).flatten) else Out.bad) = _
      rw [if_pos (by decide)]
      rfl
    · rw [decide_eq_false c, if_neg c]
      show noX (if [D.str "nil"].length ≤ sizeLine ∧ -(2 ^ 63) ≤ (0 : Int) ∧ (0 : Int) < 2 ^ 63 ∧ [D.str "nil"].length * (0 : Int).toNat ≤ sizeLine then Out.ok (D.lst (List.replicate (0 : Int).toNat [D.str "nil"]).flatten) else Out.bad) = _
      rw [if_pos (by decide)]
      rfl
  have nll : (nils ts).length ≤ 1 := by unfold nils; split <;> simp
  have c1 := catL ts ts (by omega)
  have c2 := catL (nils ts) (plain ts) (by omega)
  have c3 := catL (nils ts ++ plain ts) ((nums ts).map hOf) (by rw [List.length_append, List.length_map]; omega)
  have fin : m__law_is [.lst ((due ts).map D.str), .lst ((due ts).map D.str)] = .ok (.bl true) := law_is (shaped_st _ fun w hw => (hd w hw).ok) (eqv_st _)
  have g1' : gSoSet (.lst ((ts.filter nameB).map D.str)) = .ok (.lst ((plain ts).map D.str)) := g1
  have g2' : gSoSet (.lst (((ts.filter hidB).map fun w => ((numOf w : Nat) : Int)).map D.int)) = .ok (.lst ((nums ts).map D.int)) := g2
  have c3' : gAddU (.lst ((nils ts ++ plain ts).map D.str)) (.lst (((nums ts).map hOf).map D.str)) = .ok (.lst ((due ts).map D.str)) := c3
  simp only [begE, List.map_cons, List.map_nil, hS, List.length_cons, List.length_nil, List.replicate, List.cons_append, List.nil_append, Nat.reduceAdd, Nat.reduceSub, ev_sSeq, ev_sOwn, ev_rF, ev_rCons, ev_rNil]
  have rS : ∀ r : List Cell, rv false 0 (S :: r) = .ok (.lst (ns.map D.int)) := fun r => by rw [← hS]; rfl
  simp only [rS, ev_ok, et, true_or, reduceIte, List.set_cons_zero, List.set_cons_succ, ev_sAsg, ml, ev_tgN, ev_nok, frzE, List.getElem?_cons_zero, List.getElem?_cons_succ, ev_sFor, ev_iOf, ev_iSeq, ev_rv, seqD, loop, Bool.false_eq_true, t1', ev_mOf, ev_r1, t2', g1', t3', g2', ev_sRet, ev_rF, ev_rCons, ev_rNil, ev_r2, c1, io, rp, c2, t4', c3', fin]
end K00

namespace K00
open PySem PySem.Spec L2 VL
def d_is_name : He.DefD := ⟨("is_name", none), "is_name", "is_name", defArgs (topS 6), defBody (topS 6), defScope (topS 6), [], []⟩
def d_is_hidden : He.DefD := ⟨("is_hidden", none), "is_hidden", "is_hidden", defArgs (topS 7), defBody (topS 7), defScope (topS 7), [], []⟩
def d_is_term : He.DefD := ⟨("is_term", none), "is_term", "is_term", defArgs (topS 8), defBody (topS 8), defScope (topS 8), [], []⟩
def d_order_of : He.DefD := ⟨("order_of", none), "order_of", "order_of", defArgs (topS 9), defBody (topS 9), defScope (topS 9), [], []⟩
def d_in_order : He.DefD := ⟨("in_order", none), "in_order", "in_order", defArgs (topS 10), defBody (topS 10), defScope (topS 10), [], []⟩
def d_is_number : He.DefD := ⟨("is_number", none), "is_number", "is_number", defArgs (topS 14), defBody (topS 14), defScope (topS 14), [], []⟩
def d__law_is : He.DefD := ⟨("_law_is", none), "_law_is", "_law_is", defArgs (topS 16), defBody (topS 16), defScope (topS 16), [], []⟩
def d__law_draw : He.DefD := ⟨("_law_draw", none), "_law_draw", "_law_draw", defArgs (topS 17), defBody (topS 17), defScope (topS 17), [], []⟩
def d__law_tape : He.DefD := ⟨("_law_tape", none), "_law_tape", "_law_tape", defArgs (topS 18), defBody (topS 18), defScope (topS 18), [], []⟩
def d__law_word : He.DefD := ⟨("_law_word", none), "_law_word", "_law_word", defArgs (topS 19), defBody (topS 19), defScope (topS 19), [], []⟩
def d__law_due : He.DefD := ⟨("_law_due", none), "_law_due", "_law_due", defArgs (topS 20), defBody (topS 20), defScope (topS 20), [], []⟩
def d_law : He.DefD := ⟨("law", none), "law", "law", defArgs (topS 21), defBody (topS 21), defScope (topS 21), [], []⟩
def fa0 : List He.Fa := [.glo "is_name", .glo "is_hidden", .glo "is_term", .glo "order_of", .glo "in_order", .glo "is_number", .glo "_law_is", .glo "_law_draw", .glo "_law_tape", .glo "_law_word", .glo "_law_due", .glo "law", .free "all", .free "bool", .free "int", .free "isinstance", .free "len", .free "list", .free "range", .free "set", .free "sorted", .free "str", .free "tuple", .int "DIGITS_MOST" 12, .str "DIGITS_forms" "0123456789", .str "DIGITS_words" "0123456789", .int "NAME_MOST" 12, .str "NIL" "nil", .glo "RESERVED", .str "SMALL" "abcdefghijklmnopqrstuvwxyz"]
def fa : List He.Fa := fa0
def fn0 : List He.DefD := [d_is_name, d_is_hidden, d_is_term, d_order_of, d_in_order, d_is_number, d__law_is, d__law_draw, d__law_tape, d__law_word, d__law_due, d_law]
def fn : List He.DefD := fn0
def tb : TbD := [("RESERVED", t_RESERVED)]
def loose0 : List Str := ["RESERVED", "SMALL", "DIGITS_forms", "NAME_MOST", "NIL", "is_name", "is_hidden", "is_term", "order_of", "in_order", "DIGITS_words", "DIGITS_MOST", "is_number", "_law_is", "_law_draw", "_law_tape", "_law_word", "_law_due"]
def loose : List Str := loose0
abbrev R : PySem.W.OpenRow := PySem.W.OpenLaw.row PySem.Challenge.rw_strayless_k00_words_and_names
abbrev hk : PySem.W.Hook := hookX 4 fa fn tb
def ob (s : PySem.W.SharedT) : He.AlD := obsXG 4 fa fn tb (HandSHeadRun.getT s)
theorem ob_eq (s : PySem.W.SharedT) : ob s = hk.obs s.abs := obsXG_eq (HandSHeadRun.getT_eq s)
theorem run (w : World) : HandSHeadRun.RunEq R (PySem.W.view R.prog [21]) hk ob 3000 loose w := by
  intro os; kernel_rfl
theorem tk_ok {K : Fr'} {h : Heap} {mg : MG} (X : K.In h) (G : h.Ns mainGlobals mg) (c : SaysX fa fn tb K) : Tk K mg where
  g_is_name := He.glo_ok X G (c.fact 0 (f := .glo "is_name") rfl)
  f_is_name := c.def_ 0 (d := d_is_name) rfl
  g_is_hidden := He.glo_ok X G (c.fact 1 (f := .glo "is_hidden") rfl)
  f_is_hidden := c.def_ 1 (d := d_is_hidden) rfl
  g_is_term := He.glo_ok X G (c.fact 2 (f := .glo "is_term") rfl)
  f_is_term := c.def_ 2 (d := d_is_term) rfl
  g_order_of := He.glo_ok X G (c.fact 3 (f := .glo "order_of") rfl)
  f_order_of := c.def_ 3 (d := d_order_of) rfl
  g_in_order := He.glo_ok X G (c.fact 4 (f := .glo "in_order") rfl)
  f_in_order := c.def_ 4 (d := d_in_order) rfl
  g_is_number := He.glo_ok X G (c.fact 5 (f := .glo "is_number") rfl)
  f_is_number := c.def_ 5 (d := d_is_number) rfl
  g__law_is := He.glo_ok X G (c.fact 6 (f := .glo "_law_is") rfl)
  f__law_is := c.def_ 6 (d := d__law_is) rfl
  g__law_draw := He.glo_ok X G (c.fact 7 (f := .glo "_law_draw") rfl)
  f__law_draw := c.def_ 7 (d := d__law_draw) rfl
  g__law_tape := He.glo_ok X G (c.fact 8 (f := .glo "_law_tape") rfl)
  f__law_tape := c.def_ 8 (d := d__law_tape) rfl
  g__law_word := He.glo_ok X G (c.fact 9 (f := .glo "_law_word") rfl)
  f__law_word := c.def_ 9 (d := d__law_word) rfl
  g__law_due := He.glo_ok X G (c.fact 10 (f := .glo "_law_due") rfl)
  f__law_due := c.def_ 10 (d := d__law_due) rfl
  g_law := He.glo_ok X G (c.fact 11 (f := .glo "law") rfl)
  f_law := c.def_ 11 (d := d_law) rfl
  n_all := He.free_ok X G (c.fact 12 (f := .free "all") rfl)
  n_bool := He.free_ok X G (c.fact 13 (f := .free "bool") rfl)
  n_int := He.free_ok X G (c.fact 14 (f := .free "int") rfl)
  n_isinstance := He.free_ok X G (c.fact 15 (f := .free "isinstance") rfl)
  n_len := He.free_ok X G (c.fact 16 (f := .free "len") rfl)
  n_list := He.free_ok X G (c.fact 17 (f := .free "list") rfl)
  n_range := He.free_ok X G (c.fact 18 (f := .free "range") rfl)
  n_set := He.free_ok X G (c.fact 19 (f := .free "set") rfl)
  n_sorted := He.free_ok X G (c.fact 20 (f := .free "sorted") rfl)
  n_str := He.free_ok X G (c.fact 21 (f := .free "str") rfl)
  n_tuple := He.free_ok X G (c.fact 22 (f := .free "tuple") rfl)
  c_DIGITS_MOST := He.int_ok X G (c.fact 23 (f := .int "DIGITS_MOST" 12) rfl)
  c_DIGITS_forms := He.str_ok X G (c.fact 24 (f := .str "DIGITS_forms" "0123456789") rfl)
  c_DIGITS_words := He.str_ok X G (c.fact 25 (f := .str "DIGITS_words" "0123456789") rfl)
  c_NAME_MOST := He.int_ok X G (c.fact 26 (f := .int "NAME_MOST" 12) rfl)
  c_NIL := He.str_ok X G (c.fact 27 (f := .str "NIL" "nil") rfl)
  c_RESERVED := He.glo_ok X G (c.fact 28 (f := .glo "RESERVED") rfl)
  t_RESERVED := c.tup 0 (q := ("RESERVED", t_RESERVED)) rfl
  c_SMALL := He.str_ok X G (c.fact 29 (f := .str "SMALL" "abcdefghijklmnopqrstuvwxyz") rfl)
theorem facts {P : Program} {w : World} {K : Fr'} {h : Heap} {mg : MG} {f : Addr} (X : K.In h) (G : h.Ns mainGlobals mg) (hfa : mg ("law" : Str) = some (.ref f)) (c : SaysX fa fn tb K) :
    ∃ fd : FuncData, (∀ (s : Shared) (v : Value), BindsTo s fd ⟨[v], []⟩ [("script", v)]) ∧ ∀ base : Heap, K.In base → base.Ns mainGlobals mg → FnOk P w K mg base (L2.CX P w) 4 f fd ["script"] (spF K mg m_law) := by
  obtain ⟨fd, F⟩ := c.def_ 11 (d := d_law) rfl
  have T := tk_ok X G c
  have e := hfa.symm.trans T.g_law
  cases e
  have b := FunD.bindsA (ps := ["script"]) F fun _ _ _ _ _ _ us hl => match us, hl with | [_], _ => rfl
  exact ⟨fd, fun s v => b s [v] rfl, fun base _ _ => fn_law T F⟩
end K00
open PySem PySem.W PySem.Calls PyProof.Rows
theorem PySem.Challenge.cw_strayless_k00_words_and_names_holds : PySem.Challenge.rw_strayless_k00_words_and_names.Holds := by
  w_on; o_law
  refine HandSHeadRun.head_any (r := K00.R) (q := view K00.R.prog [21]) (H := K00.hk) (ob := K00.ob) (M := 3000) (loose := K00.loose) (d := HandSHeadRun.topDef K00.R.prog 21) (kwd := []) K00.ob_eq
    (by kernel_rfl) (fun s => by kernel_rfl) K00.run (by kernel_rfl) (by kernel_rfl) (by kernel_rfl) (by rfl) (by first | assumption | decide +kernel) (by decide +kernel) ⟨rfl, rfl, rfl, rfl, rfl, by decide +kernel⟩ ?hw ?hc
  case hw => w_witness2
  case hc =>
    refine VL.law_walk (l := PySem.Challenge.rw_strayless_k00_words_and_names) (n := 63) (k := 4) (x := "script") (mf := K00.m_law) rfl (by decide) (by kernel_rfl) ⟨rfl, by decide, by decide⟩ K00.law_ok ?F
    intro w K mg fa h KX G hmg0 c
    have hmg : mg ("law" : PySem.Str) = some (.ref fa) := by
      have e : (HandSHeadRun.topDef K00.R.prog 21).name = ("law" : PySem.Str) := by kernel_rfl
      rw [← e]; exact hmg0
    exact K00.facts (P := PySem.Challenge.rw_strayless_k00_words_and_names.prog) (w := w) KX G hmg c

