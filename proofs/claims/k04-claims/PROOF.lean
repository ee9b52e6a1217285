import PyProof.Rows.All
import Wide.All
import OpenK.AllK
import Wide.FinOn
import HandS.ForMost
import HandS.ForExc
import HandS.Deep
import HandS.IsInst
import HandS.TupAny
import HandS.DictComp
import KE.SortData
import HandS.Set
import HandS.SetFor
import HandS.SetKeys
import HandS.Defaults
import HandS.HeadHook2
import KE.KStateDown
import HandS.Head0
import HandS.Head1
import HandS.Head2
import HandS.HeadEnd
import HandS.HeadHook1
import HandS.More
import HandS.Conv
import HandS.TryOnly
import HandS.RaiseMore
import HandS.Small
import HandS.DictTup
import PyProof.Transfer
import HandS.ReCall
import KE.KDictList
import HandS.TupLe
import KE.GoesMore
import HandS.Comp
import HandS.TryMany
import HandS.TupMul
import PySem.Challenge.RW_strayless_k04_claims
set_option Elab.async false
set_option linter.all false
set_option autoImplicit false
set_option maxRecDepth 100000
set_option maxHeartbeats 0
/-! V1: the value layer: Python's values as plain data D, frozen or owned; judgements SR, SM, SS over HandS. -/
namespace VL
open PySem PySem.Spec L2

/-! ### data, outcomes -/
inductive D where
  | non | bl (b : Bool) | int (i : Int) | str (x : Str) | tup (xs : List D) | lst (xs : List D) | dic (xs : List D) | dit (xs : List D)
inductive Out (α : Type) where
  | ok (a : α) | exc (c : Str) (fs : List D) | bad
@[inline] def Out.bind {α β : Type} (x : Out α) (f : α → Out β) : Out β :=
  match x with
  | .ok a => f a
  | .exc c fs => .exc c fs
  | .bad => .bad
instance : Monad Out where
  pure := Out.ok
  bind := Out.bind
@[reducible] def bnd {α β : Type} (x : Out α) (f : α → Out β) : Out β := Out.bind x f
theorem ok_bind {α β : Type} (a : α) (f : α → Out β) : Out.bind (.ok a) f = f a := rfl
theorem exc_bind {α β : Type} (c : Str) (fs : List D) (f : α → Out β) : Out.bind (.exc c fs) f = .exc c fs := rfl
theorem bad_bind {α β : Type} (f : α → Out β) : Out.bind .bad f = .bad := rfl

/-! ### what is read stays to be read -/
def Le (F H : Hp) : Prop := ∀ a u, Rd F a u → Rd H a u
theorem Le.refl (F : Hp) : Le F F := fun _ _ h => h
theorem Le.trans {F G H : Hp} (a : Le F G) (b : Le G H) : Le F H := fun c u h => b c u (a c u h)
theorem Le.same {F H : Hp} (s : Same F H) : Le F H := fun a u h => by
  rcases h with h | ⟨o, h⟩
  · exact .inl (s _ _ h)
  · exact .inr ⟨o, s _ _ h⟩
theorem Le.seqL {K : PySem.W.Frag} {F H : Hp} {a : Addr} {xs : List V} (l : Le F H) (h : SqL K F a xs) : SqL K H a xs := by
  rcases h with h | h
  · exact .inl (l _ _ h)
  · exact .inr h
theorem Le.seqT {K : PySem.W.Frag} {F H : Hp} {a : Addr} {xs : List V} (l : Le F H) (h : SqT K F a xs) : SqT K H a xs := by
  rcases h with h | h
  · exact .inl (l _ _ h)
  · exact .inr h
theorem Le.some {F H : Hp} {a : Addr} (l : Le F H) (h : F a ≠ none) : H a ≠ none := fun e => by
  cases q : F a with
  | none => exact h q
  | some u =>
    rcases l a u (.inl q) with z | ⟨o, z⟩ <;> rw [e] at z <;> cases z
theorem Le.none {F H : Hp} {a : Addr} (l : Le F H) (h : H a = Option.none) : F a = Option.none := by
  cases q : F a with
  | none => rfl
  | some u => exact absurd h (l.some (by rw [q]; exact Option.some_ne_none _))
theorem Le.upd2 {F H : Hp} {p : Addr} {o : HO} (l : Le F H) : Le (upd F p o) (upd H p o) := fun a u h => by
  by_cases e : a = p
  · subst e
    rcases h with h | ⟨b, h⟩
    · rw [upd_same] at h
      exact .inl (by rw [upd_same]; exact h)
    · rw [upd_same] at h
      exact .inr ⟨b, by rw [upd_same]; exact h⟩
  · have h' : Rd F a u := by
      rcases h with h | ⟨b, h⟩
      · rw [upd_ne e] at h
        exact .inl h
      · rw [upd_ne e] at h
        exact .inr ⟨b, h⟩
    rcases l a u h' with h | ⟨b, h⟩
    · exact .inl (by rw [upd_ne e]; exact h)
    · exact .inr ⟨b, by rw [upd_ne e]; exact h⟩
theorem Le.updR {F H : Hp} {p : Addr} {o : HO} (l : Le F H) (n : F p = Option.none) : Le F (upd H p o) := fun a u h => by
  have e : a ≠ p := fun e => by
    subst e
    rcases h with h | ⟨b, h⟩ <;> rw [n] at h <;> cases h
  rcases l a u h with h | ⟨b, h⟩
  · exact .inl (by rw [upd_ne e]; exact h)
  · exact .inr ⟨b, by rw [upd_ne e]; exact h⟩
theorem Le.updL {F : Hp} {p : Addr} {o : HO} (n : F p = Option.none) : Le F (upd F p o) := (Le.refl F).updR n

/-- what is read of contents -/
def nofrz : HO → Prop
  | .frz _ _ => False
  | _ => True
def LeC (F H : Hp) : Prop := ∀ a u, nofrz u → Rd F a u → Rd H a u
theorem Le.c {F H : Hp} (l : Le F H) : LeC F H := fun a u _ h => l a u h
theorem LeC.seqT {K : PySem.W.Frag} {F H : Hp} {a : Addr} {xs : List V} (l : LeC F H) (h : SqT K F a xs) : SqT K H a xs := by
  rcases h with h | h
  · exact .inl (l _ _ True.intro h)
  · exact .inr h

theorem LeC.seqL {K : PySem.W.Frag} {F H : Hp} {a : Addr} {xs : List V} (l : LeC F H) (h : SqL K F a xs) : SqL K H a xs := by
  rcases h with h | h
  · exact .inl (l _ _ True.intro h)
  · exact .inr h

/-! ### values that stand for data -/
def keyD : Key → D
  | .inl i => .int i
  | .inr x => .str x
def tkeyD (ks : List Key) : D := .tup (ks.map keyD)
mutual
def Rep (K : PySem.W.Frag) (F : Hp) : D → V → Prop
  | .non, v => v = .non
  | .bl b, v => v = .bl b
  | .int i, v => v = .int i
  | .str x, v => v = .str x
  | .tup xs, v => ∃ a vs, v = .ref a ∧ SqT K F a vs ∧ Reps K F xs vs
  | .lst xs, v => ∃ a vs, v = .ref a ∧ SqL K F a vs ∧ Reps K F xs vs
  | .dic xs, v => ∃ a kvs, v = .ref a ∧ Rd F a (.dK kvs) ∧ RepK K F xs kvs
  | .dit xs, v => ∃ a kvs, v = .ref a ∧ Rd F a (.dT kvs) ∧ RepT K F xs kvs
def Reps (K : PySem.W.Frag) (F : Hp) : List D → List V → Prop
  | [], vs => vs = []
  | x :: xs, vs => ∃ v r, vs = v :: r ∧ Rep K F x v ∧ Reps K F xs r
def RepK (K : PySem.W.Frag) (F : Hp) : List D → List (Key × V) → Prop
  | [], kvs => kvs = []
  | .tup [k, d] :: xs, kvs => ∃ q v r, kvs = (q, v) :: r ∧ k = keyD q ∧ Rep K F d v ∧ RepK K F xs r
  | _, _ => False
def RepT (K : PySem.W.Frag) (F : Hp) : List D → List (List Key × V) → Prop
  | [], kvs => kvs = []
  | .tup [k, d] :: xs, kvs => ∃ q v r, kvs = (q, v) :: r ∧ k = tkeyD q ∧ Rep K F d v ∧ RepT K F xs r
  | _, _ => False
end
section
variable {K : PySem.W.Frag} {F F' : Hp}
mutual
theorem Rep.monoC (l : LeC F F') : ∀ (d : D) (v : V), Rep K F d v → Rep K F' d v
  | .non, v, h => by unfold Rep at h ⊢; exact h
  | .bl b, v, h => by unfold Rep at h ⊢; exact h
  | .int i, v, h => by unfold Rep at h ⊢; exact h
  | .str x, v, h => by unfold Rep at h ⊢; exact h
  | .tup xs, v, h => by
    unfold Rep at h ⊢
    obtain ⟨a, vs, e, q, r⟩ := h
    exact ⟨a, vs, e, l.seqT q, Reps.monoC l xs vs r⟩
  | .lst xs, v, h => by
    unfold Rep at h ⊢
    obtain ⟨a, vs, e, q, r⟩ := h
    exact ⟨a, vs, e, l.seqL q, Reps.monoC l xs vs r⟩
  | .dic xs, v, h => by
    unfold Rep at h ⊢
    obtain ⟨a, kvs, e, q, r⟩ := h
    exact ⟨a, kvs, e, l _ _ True.intro q, RepK.monoC l xs kvs r⟩
  | .dit xs, v, h => by
    unfold Rep at h ⊢
    obtain ⟨a, kvs, e, q, r⟩ := h
    exact ⟨a, kvs, e, l _ _ True.intro q, RepT.monoC l xs kvs r⟩
theorem Reps.monoC (l : LeC F F') : ∀ (ds : List D) (vs : List V), Reps K F ds vs → Reps K F' ds vs
  | [], vs, h => by unfold Reps at h ⊢; exact h
  | x :: xs, vs, h => by
    unfold Reps at h ⊢
    obtain ⟨v, r, e, h1, h2⟩ := h
    exact ⟨v, r, e, Rep.monoC l x v h1, Reps.monoC l xs r h2⟩
theorem RepK.monoC (l : LeC F F') : ∀ (ds : List D) (vs : List (Key × V)), RepK K F ds vs → RepK K F' ds vs
  | [], vs, h => by unfold RepK at h ⊢; exact h
  | .tup [k, d] :: xs, vs, h => by
    unfold RepK at h ⊢
    obtain ⟨q, v, r, e, e2, h1, h2⟩ := h
    exact ⟨q, v, r, e, e2, Rep.monoC l d v h1, RepK.monoC l xs r h2⟩
  | .non :: _, _, h => by unfold RepK at h; exact h.elim
  | .bl _ :: _, _, h => by unfold RepK at h; exact h.elim
  | .int _ :: _, _, h => by unfold RepK at h; exact h.elim
  | .str _ :: _, _, h => by unfold RepK at h; exact h.elim
  | .lst _ :: _, _, h => by unfold RepK at h; exact h.elim
  | .dic _ :: _, _, h => by unfold RepK at h; exact h.elim
  | .dit _ :: _, _, h => by unfold RepK at h; exact h.elim
  | .tup [] :: _, _, h => by unfold RepK at h; exact h.elim
  | .tup [_] :: _, _, h => by unfold RepK at h; exact h.elim
  | .tup (_ :: _ :: _ :: _) :: _, _, h => by unfold RepK at h; exact h.elim
theorem RepT.monoC (l : LeC F F') : ∀ (ds : List D) (vs : List (List Key × V)), RepT K F ds vs → RepT K F' ds vs
  | [], vs, h => by unfold RepT at h ⊢; exact h
  | .tup [k, d] :: xs, vs, h => by
    unfold RepT at h ⊢
    obtain ⟨q, v, r, e, e2, h1, h2⟩ := h
    exact ⟨q, v, r, e, e2, Rep.monoC l d v h1, RepT.monoC l xs r h2⟩
  | .non :: _, _, h => by unfold RepT at h; exact h.elim
  | .bl _ :: _, _, h => by unfold RepT at h; exact h.elim
  | .int _ :: _, _, h => by unfold RepT at h; exact h.elim
  | .str _ :: _, _, h => by unfold RepT at h; exact h.elim
  | .lst _ :: _, _, h => by unfold RepT at h; exact h.elim
  | .dic _ :: _, _, h => by unfold RepT at h; exact h.elim
  | .dit _ :: _, _, h => by unfold RepT at h; exact h.elim
  | .tup [] :: _, _, h => by unfold RepT at h; exact h.elim
  | .tup [_] :: _, _, h => by unfold RepT at h; exact h.elim
  | .tup (_ :: _ :: _ :: _) :: _, _, h => by unfold RepT at h; exact h.elim
end
end
theorem Rep.mono {K : PySem.W.Frag} {F F' : Hp} (l : Le F F') (d : D) (v : V) (h : Rep K F d v) : Rep K F' d v := Rep.monoC l.c d v h
theorem Reps.mono {K : PySem.W.Frag} {F F' : Hp} (l : Le F F') (d : List D) (v : List V) (h : Reps K F d v) : Reps K F' d v := Reps.monoC l.c d v h
theorem RepK.mono {K : PySem.W.Frag} {F F' : Hp} (l : Le F F') (d : List D) (v : List (Key × V)) (h : RepK K F d v) : RepK K F' d v := RepK.monoC l.c d v h
theorem RepT.mono {K : PySem.W.Frag} {F F' : Hp} (l : Le F F') (d : List D) (v : List (List Key × V)) (h : RepT K F d v) : RepT K F' d v := RepT.monoC l.c d v h

/-! ### cells, environments -/
inductive Cell where
  | emp | val (d : D) | own (d : D)
abbrev Env' := List Cell
/-- the content of an owned object -/
def Co (K : PySem.W.Frag) (F : Hp) : D → HO → Prop
  | .lst xs, o => ∃ vs, o = .lst vs ∧ Reps K F xs vs
  | .dic xs, o => ∃ kvs, o = .dK kvs ∧ RepK K F xs kvs
  | .dit xs, o => ∃ kvs, o = .dT kvs ∧ RepT K F xs kvs
  | _, _ => False
theorem Co.mono {K : PySem.W.Frag} {F F' : Hp} (l : Le F F') : ∀ {d : D} {o : HO}, Co K F d o → Co K F' d o
  | .lst xs, o, ⟨vs, e, r⟩ => ⟨vs, e, Reps.mono l _ _ r⟩
  | .dic xs, o, ⟨vs, e, r⟩ => ⟨vs, e, RepK.mono l _ _ r⟩
  | .dit xs, o, ⟨vs, e, r⟩ => ⟨vs, e, RepT.mono l _ _ r⟩
/-- an owned object read as it stands -/
theorem Co.rep {K : PySem.W.Frag} {F G : Hp} {p : Addr} (l : Le F G) : ∀ {d : D} {o : HO}, Co K F d o → G p = some o → Rep K G d (.ref p)
  | .lst xs, o, ⟨vs, e, r⟩, h => by
    unfold Rep
    subst e
    exact ⟨p, vs, rfl, .inl (.inl h), Reps.mono l _ _ r⟩
  | .dic xs, o, ⟨vs, e, r⟩, h => by
    unfold Rep
    subst e
    exact ⟨p, vs, rfl, .inl h, RepK.mono l _ _ r⟩
  | .dit xs, o, ⟨vs, e, r⟩, h => by
    unfold Rep
    subst e
    exact ⟨p, vs, rfl, .inl h, RepT.mono l _ _ r⟩
def Owned (σ : St) (ρ : Env') (b : Addr) : Prop := ∃ (i : Nat) (d : D), ρ[i]? = some (Cell.own d) ∧ σ[i]? = some (some (V.ref b))
structure St2 (K : PySem.W.Frag) (F H : Hp) (σ : St) (ρ : Env') : Prop where
  le : Le F H
  len : σ.length = ρ.length
  val : ∀ (i : Nat) (d : D), ρ[i]? = some (Cell.val d) → ∃ v, σ[i]? = some (some v) ∧ Rep K F d v
  own : ∀ (i : Nat) (d : D), ρ[i]? = some (Cell.own d) → ∃ p o, σ[i]? = some (some (V.ref p)) ∧ H p = some o ∧ F p = none ∧ Co K F d o
  sep : ∀ (i j : Nat) (p : Addr) (d e : D), i ≠ j → ρ[i]? = some (Cell.own d) → ρ[j]? = some (Cell.own e) → σ[i]? = some (some (V.ref p)) → σ[j]? ≠ some (some (V.ref p))
/-- a step: what is frozen stays, what others own stays -/
structure Stp (σ : St) (ρ : Env') (F H : Hp) (σ' : St) (ρ' : Env') (F' H' : Hp) : Prop where
  le : Le F F'
  kp : ∀ b o, H b = some o → ¬ Owned σ ρ b → H' b = some o
  fr : ∀ b, F' b ≠ none → F b ≠ none ∨ H b = none ∨ Owned σ ρ b
  ow : ∀ b, Owned σ' ρ' b → Owned σ ρ b ∨ H b = none
  al : ∀ b, H b ≠ none → H' b ≠ none
theorem Stp.refl (σ : St) (ρ : Env') (F H : Hp) : Stp σ ρ F H σ ρ F H := ⟨Le.refl _, fun _ _ h _ => h, fun _ h => .inl h, fun _ h => .inl h, fun _ h => h⟩
theorem Stp.trans {σ σ1 σ2 : St} {ρ ρ1 ρ2 : Env'} {F F1 F2 H H1 H2 : Hp} (a : Stp σ ρ F H σ1 ρ1 F1 H1) (b : Stp σ1 ρ1 F1 H1 σ2 ρ2 F2 H2) : Stp σ ρ F H σ2 ρ2 F2 H2 where
  le := a.le.trans b.le
  kp := fun c o h n => b.kp c o (a.kp c o h n) fun w => by
    rcases a.ow c w with w | w
    · exact n w
    · rw [w] at h
      cases h
  fr := fun c h => by
    rcases b.fr c h with h | h | h
    · exact a.fr c h
    · refine .inr (.inl ?_)
      cases q : H c with
      | none => rfl
      | some u => exact absurd h (a.al c (by rw [q]; exact Option.some_ne_none _))
    · rcases a.ow c h with h | h
      · exact .inr (.inr h)
      · exact .inr (.inl h)
  ow := fun c h => by
    rcases b.ow c h with h | h
    · exact a.ow c h
    · refine .inr ?_
      cases q : H c with
      | none => rfl
      | some u => exact absurd h (a.al c (by rw [q]; exact Option.some_ne_none _))
  al := fun c h => b.al c (a.al c h)
/-- only new objects -/
structure New (F H F' H' : Hp) : Prop where
  le : Le F F'
  le' : Le F' H'
  kp : Same H H'
  fr : ∀ b, F' b ≠ none → F b ≠ none ∨ H b = none
theorem New.refl {F H : Hp} (l : Le F H) : New F H F H := ⟨Le.refl _, l, Same.refl _, fun _ h => .inl h⟩
theorem New.trans {F H F1 H1 F2 H2 : Hp} (a : New F H F1 H1) (b : New F1 H1 F2 H2) : New F H F2 H2 where
  le := a.le.trans b.le
  le' := b.le'
  kp := a.kp.trans b.kp
  fr := fun c h => by
    rcases b.fr c h with h | h
    · exact a.fr c h
    · refine .inr ?_
      cases q : H c with
      | none => rfl
      | some u =>
        rw [a.kp c u q] at h
        cases h
theorem New.upd {F H : Hp} {p : Addr} {o : HO} (l : Le F H) (h : H p = none) : New F H (upd F p o) (upd H p o) where
  le := Le.updL (l.none h)
  le' := l.upd2
  kp := fun b u e => by
    rw [upd_ne (ne_of_none e h)]
    exact e
  fr := fun b e => by
    by_cases q : b = p
    · subst q
      exact .inr h
    · rw [upd_ne q] at e
      exact .inl e
theorem New.stp {F H F' H' : Hp} (n : New F H F' H') (σ : St) (ρ : Env') : Stp σ ρ F H σ ρ F' H' where
  le := n.le
  kp := fun b o h _ => n.kp b o h
  fr := fun b h => by
    rcases n.fr b h with h | h
    · exact .inl h
    · exact .inr (.inl h)
  ow := fun b h => .inl h
  al := fun b h e => by
    cases q : H b with
    | none => exact h q
    | some u =>
      rw [n.kp b u q] at e
      cases e
section
variable {K : PySem.W.Frag} {F F' H H' : Hp} {σ : St} {ρ : Env'}
theorem St2.owned_none (s : St2 K F H σ ρ) {b : Addr} (h : Owned σ ρ b) : F b = none := by
  obtain ⟨i, d, h1, h2⟩ := h
  obtain ⟨p, o, e, _, n, _⟩ := s.own i d h1
  rw [e] at h2
  cases h2
  exact n
theorem St2.owned_some (s : St2 K F H σ ρ) {b : Addr} (h : Owned σ ρ b) : ∃ o, H b = some o := by
  obtain ⟨i, d, h1, h2⟩ := h
  obtain ⟨p, o, e, q, n, _⟩ := s.own i d h1
  rw [e] at h2
  cases h2
  exact ⟨o, q⟩
/-- behind new objects -/
theorem St2.new (s : St2 K F H σ ρ) (n : New F H F' H') : St2 K F' H' σ ρ where
  le := n.le'
  len := s.len
  val := fun i d h => by
    obtain ⟨v, e, r⟩ := s.val i d h
    exact ⟨v, e, Rep.mono n.le _ _ r⟩
  own := fun i d h => by
    obtain ⟨p, o, e, q, z, c⟩ := s.own i d h
    refine ⟨p, o, e, n.kp _ _ q, ?_, Co.mono n.le c⟩
    cases w : F' p with
    | none => rfl
    | some u =>
      rcases n.fr p (by rw [w]; exact Option.some_ne_none _) with w | w
      · exact absurd z w
      · rw [q] at w
        cases w
  sep := s.sep
end

/-! ### the snapshot: owned objects read as they stand -/
open Classical in
noncomputable def snap (F H : Hp) (σ : St) (ρ : Env') : Hp := fun b => if Owned σ ρ b then H b else F b
open Classical in
noncomputable def cut (F : Hp) (σ : St) (ρ : Env') : Hp := fun b => if Owned σ ρ b then none else F b
section
variable {K : PySem.W.Frag} {F F' G H H' : Hp} {σ : St} {ρ : Env'}
theorem snap_own {b : Addr} (h : Owned σ ρ b) : snap F H σ ρ b = H b := by unfold snap; rw [if_pos h]
theorem snap_not {b : Addr} (h : ¬ Owned σ ρ b) : snap F H σ ρ b = F b := by unfold snap; rw [if_neg h]
theorem cut_own {b : Addr} (h : Owned σ ρ b) : cut F σ ρ b = none := by unfold cut; rw [if_pos h]
theorem cut_not {b : Addr} (h : ¬ Owned σ ρ b) : cut F σ ρ b = F b := by unfold cut; rw [if_neg h]
theorem Rd.congr {b : Addr} {u : HO} (e : G b = H b) (h : Rd G b u) : Rd H b u := by
  rcases h with h | ⟨o, h⟩
  · exact .inl (e ▸ h)
  · exact .inr ⟨o, e ▸ h⟩
theorem St2.snap_le (s : St2 K F H σ ρ) : Le (snap F H σ ρ) H := fun b u h => by
  by_cases w : Owned σ ρ b
  · exact Rd.congr (snap_own w) h
  · exact s.le b u (Rd.congr (snap_not w) h)
theorem St2.le_snap (s : St2 K F H σ ρ) : Le F (snap F H σ ρ) := fun b u h => by
  by_cases w : Owned σ ρ b
  · rcases h with h | ⟨o, h⟩ <;> rw [s.owned_none w] at h <;> cases h
  · exact Rd.congr (snap_not w).symm h
/-- new objects over the snapshot -/
theorem St2.snew (s : St2 K F H σ ρ) (n : New (snap F H σ ρ) H F' H') : New F H (cut F' σ ρ) H' ∧ Le F' (snap (cut F' σ ρ) H' σ ρ) := by
  refine ⟨⟨fun b u h => ?_, fun b u h => ?_, n.kp, fun b h => ?_⟩, fun b u h => ?_⟩
  · by_cases w : Owned σ ρ b
    · rcases h with h | ⟨o, h⟩ <;> rw [s.owned_none w] at h <;> cases h
    · exact Rd.congr (cut_not w).symm (n.le b u (s.le_snap b u h))
  · by_cases w : Owned σ ρ b
    · rcases h with h | ⟨o, h⟩ <;> rw [cut_own w] at h <;> cases h
    · exact n.le' b u (Rd.congr (cut_not w) h)
  · by_cases w : Owned σ ρ b
    · exact absurd (cut_own w) h
    · rw [cut_not w] at h
      rcases n.fr b h with h | h
      · rw [snap_not w] at h
        exact .inl h
      · exact .inr h
  · by_cases w : Owned σ ρ b
    · exact Rd.congr (snap_own w).symm (n.le' b u h)
    · exact Rd.congr ((snap_not w).trans (cut_not w)).symm h
theorem snap_new (s : St2 K F H σ ρ) (n : New F H F' H') : Le (snap F H σ ρ) (snap F' H' σ ρ) := fun b u h => by
  by_cases w : Owned σ ρ b
  · refine Rd.congr (snap_own w).symm ?_
    exact Le.same n.kp b u (Rd.congr (snap_own w) h)
  · exact Rd.congr (snap_not w).symm (n.le b u (Rd.congr (snap_not w) h))
end
end VL

/-! V2: the judgements. -/
namespace VL
open PySem PySem.Spec L2

def Out.on {α : Type} (x : Out α) (P : α → Prop) (E : Str → List D → Prop) : Prop :=
  match x with
  | .ok a => P a
  | .exc c fs => E c fs
  | .bad => False
theorem on_bind {α β : Type} {x : Out α} {f : α → Out β} {P : β → Prop} {E : Str → List D → Prop} (h : (x.bind f).on P E) : x.on (fun a => (f a).on P E) E := by
  cases x with
  | ok a => exact h
  | exc c fs => exact h
  | bad => exact h
theorem on_imp {α : Type} {x : Out α} {P P' : α → Prop} {E E' : Str → List D → Prop} (h : x.on P E) (hp : ∀ a, x = .ok a → P a → P' a) (he : ∀ c fs, x = .exc c fs → E c fs → E' c fs) : x.on P' E' := by
  cases x with
  | ok a => exact hp a rfl h
  | exc c fs => exact he c fs rfl h
  | bad => exact h

abbrev MG := Str → Option Value
abbrev Fr' := PySem.W.Frag
abbrev W0 : WX := fun _ _ _ _ => False
def ExcR (mg : MG) (c : Str) (fs : List D) (cls : Value) (xd : Option Addr) : Prop := fs = [] ∧ xd = none ∧ ∃ C, cls = .ref C ∧ mg c = some (.ref C)
def emps (ρ : Env') : Env' := List.replicate ρ.length Cell.emp
theorem emps_len (ρ : Env') : (emps ρ).length = ρ.length := List.length_replicate
theorem emps_at {ρ : Env'} {i : Nat} {c : Cell} (h : (emps ρ)[i]? = some c) : c = .emp := by
  unfold emps at h
  rw [List.getElem?_replicate] at h
  split at h
  · exact (Option.some.inj h).symm
  · cases h
theorem emps_owned {ρ : Env'} {σ : L2.St} {b : Addr} : ¬ Owned σ (emps ρ) b := fun ⟨i, d, h, _⟩ => nomatch emps_at h
theorem St2.emps {K : Fr'} {F H : Hp} {σ : L2.St} {ρ : Env'} (l : Le F H) (n : σ.length = ρ.length) : St2 K F H σ (emps ρ) where
  le := l
  len := by rw [emps_len]; exact n
  val := fun i d h => nomatch emps_at h
  own := fun i d h => nomatch emps_at h
  sep := fun i j p d e _ h => nomatch emps_at h

/-- the ground of reading -/
noncomputable def bs (b : Bool) (F H : Hp) (σ : L2.St) (ρ : Env') : Hp := if b = true then snap F H σ ρ else F
section
variable {K : Fr'} {F F' H H' : Hp} {σ : L2.St} {ρ : Env'} {b : Bool}
theorem St2.bs_le (s : St2 K F H σ ρ) : Le (bs b F H σ ρ) H := by
  cases b with
  | true => exact s.snap_le
  | false => exact s.le
theorem St2.le_bs (s : St2 K F H σ ρ) : Le F (bs b F H σ ρ) := by
  cases b with
  | true => exact s.le_snap
  | false => exact Le.refl _
theorem bs_new (s : St2 K F H σ ρ) (n : New F H F' H') : Le (bs b F H σ ρ) (bs b F' H' σ ρ) := by
  cases b with
  | true => exact snap_new s n
  | false => exact n.le
theorem St2.bnew (s : St2 K F H σ ρ) (n : New (bs b F H σ ρ) H F' H') : ∃ F'', New F H F'' H' ∧ Le F' (bs b F'' H' σ ρ) := by
  cases b with
  | true => exact ⟨_, s.snew n⟩
  | false => exact ⟨F', n, Le.refl _⟩
end
/-! ### readings -/
section
variable (K : Fr') (mg : MG) (W : WX)
/-- what is wanted at an exception -/
def ExM (σ : L2.St) (ρ : Env') (F H : Hp) (c : Str) (fs : List D) : Prop := ∀ cls xd σ' F' H', Le F' H' → σ'.length = σ.length → Stp σ ρ F H σ' (emps ρ) F' H' → ExcR mg c fs cls xd → W cls xd σ' H'
/-- b: owned objects may be read, too, as they stand -/
def tR (b : Bool) (f : Env' → Out D) : TE := fun σ H Q => ∃ F ρ, St2 K F H σ ρ ∧ (f ρ).on (fun d => ∀ v F' H', New F H F' H' → Rep K (bs b F' H' σ ρ) d v → Q v H') (ExM mg W σ ρ F H)
def tRs (b : Bool) (f : Env' → Out (List D)) : TA := fun σ H Q => ∃ F ρ, St2 K F H σ ρ ∧ (f ρ).on (fun d => ∀ v F' H', New F H F' H' → Reps K (bs b F' H' σ ρ) d v → Q v H') (ExM mg W σ ρ F H)
/-- a new object that nobody else knows -/
def tO (b : Bool) (f : Env' → Out D) : TE := fun σ H Q => ∃ F ρ, St2 K F H σ ρ ∧ (f ρ).on (fun d => ∀ p o F' H', New F H F' H' → H' p = none → Co K (bs b F' H' σ ρ) d o → Q (.ref p) (upd H' p o)) (ExM mg W σ ρ F H)
def tRT (f : Env' → Out Bool) : TT := fun σ H Q => ∃ F ρ, St2 K F H σ ρ ∧ (f ρ).on (fun b => ∀ F' H', New F H F' H' → Q b H') (ExM mg W σ ρ F H)
def tM (f : Env' → Out (D × Env')) : TE := fun σ H Q => ∃ F ρ, St2 K F H σ ρ ∧ (f ρ).on (fun p => ∀ v F' H', St2 K F' H' σ p.2 → Rep K F' p.1 v → Stp σ ρ F H σ p.2 F' H' → Q v H') (ExM mg W σ ρ F H)
def tMs (f : Env' → Out (List D × Env')) : TA := fun σ H Q => ∃ F ρ, St2 K F H σ ρ ∧ (f ρ).on (fun p => ∀ v F' H', St2 K F' H' σ p.2 → Reps K F' p.1 v → Stp σ ρ F H σ p.2 F' H' → Q v H') (ExM mg W σ ρ F H)
def tMT (f : Env' → Out (Bool × Env')) : TT := fun σ H Q => ∃ F ρ, St2 K F H σ ρ ∧ (f ρ).on (fun p => ∀ F' H', St2 K F' H' σ p.2 → Stp σ ρ F H σ p.2 F' H' → Q p.1 H') (ExM mg W σ ρ F H)
end
/-- how a block ends -/
inductive Fl where
  | nx | brk | cnt | ret (d : D) | new (d : D)
def EndsF (K : Fr') (D0 : Ends) (σ : L2.St) (F H : Hp) : Fl → Prop
  | .nx => D0.nx σ H
  | .brk => D0.bk σ H
  | .cnt => D0.ct σ H
  | .ret d => ∀ v, Rep K F d v → D0.rt v H
  | .new d => ∀ p o, H p = none → Co K F d o → D0.rt (.ref p) (upd H p o)
/-- the places that are never stored to (parameters that are handed back) stay -/
def Fix (prot : List Nat) (σ σ' : L2.St) : Prop := σ'.length = σ.length ∧ ∀ i, i ∈ prot → σ'[i]? = σ[i]?
theorem Fix.refl (prot : List Nat) (σ : L2.St) : Fix prot σ σ := ⟨rfl, fun _ _ => rfl⟩
theorem Fix.trans {prot : List Nat} {σ σ1 σ2 : L2.St} (a : Fix prot σ σ1) (b : Fix prot σ1 σ2) : Fix prot σ σ2 := ⟨b.1.trans a.1, fun i h => (b.2 i h).trans (a.2 i h)⟩
def tS (K : Fr') (mg : MG) (W : WX) (prot : List Nat) (f : Env' → Out (Fl × Env')) : TS := fun D0 σ H => ∃ F ρ, St2 K F H σ ρ ∧
  (f ρ).on (fun p => ∀ σ' F' H', St2 K F' H' σ' p.2 → Stp σ ρ F H σ' p.2 F' H' → Fix prot σ σ' → EndsF K D0 σ' F' H' p.1) (ExM mg W σ ρ F H)

structure SR (b : Bool) (X : Cx) (W : WX) (e : Expr) (f : Env' → Out D) : Prop where
  pe : PE X e (tR X.K X.mg W b f)
structure SRs (b : Bool) (X : Cx) (W : WX) (es : List Expr) (f : Env' → Out (List D)) : Prop where
  pe : PA X es (tRs X.K X.mg W b f)
structure SO (b : Bool) (X : Cx) (W : WX) (e : Expr) (f : Env' → Out D) : Prop where
  pe : PE X e (tO X.K X.mg W b f)
structure SRT (X : Cx) (W : WX) (e : Expr) (f : Env' → Out Bool) : Prop where
  pe : PT X e (tRT X.K X.mg W f)
structure SM (X : Cx) (W : WX) (e : Expr) (f : Env' → Out (D × Env')) : Prop where
  pe : PE X e (tM X.K X.mg W f)
structure SMs (X : Cx) (W : WX) (es : List Expr) (f : Env' → Out (List D × Env')) : Prop where
  pe : PA X es (tMs X.K X.mg W f)
structure SMT (X : Cx) (W : WX) (e : Expr) (f : Env' → Out (Bool × Env')) : Prop where
  pe : PT X e (tMT X.K X.mg W f)
structure SS (X : Cx) (W : WX) (prot : List Nat) (st : List Stmt) (f : Env' → Out (Fl × Env')) : Prop where
  ps : PSs X st (tS X.K X.mg W prot f)
structure S1 (X : Cx) (W : WX) (prot : List Nat) (st : Stmt) (f : Env' → Out (Fl × Env')) : Prop where
  ps : PS X st (tS X.K X.mg W prot f)

section
variable {X : Cx} {e : Expr} {es : List Expr} {t t' : TE} {ta ta' : TA} {tt tt' : TT} {ts ts' : TS} {st : Stmt} {sts : List Stmt}
theorem PE.imp (h : PE X e t) (k : ∀ σ H Q, t' σ H Q → t σ H Q) : PE X e t' := ⟨fun pins s σ H Q I q => h.run pins s σ H Q I (k _ _ _ q)⟩
theorem PA.imp (h : PA X es ta) (k : ∀ σ H Q, ta' σ H Q → ta σ H Q) : PA X es ta' := ⟨fun pos pins s σ H Q I q => h.run pos pins s σ H Q I (k _ _ _ q)⟩
theorem PT.imp (h : PT X e tt) (k : ∀ σ H Q, tt' σ H Q → tt σ H Q) : PT X e tt' := ⟨fun pins s σ H Q I q => h.run pins s σ H Q I (k _ _ _ q)⟩
theorem PW.imp (h : PW X e tt) (k : ∀ σ H Q, tt' σ H Q → tt σ H Q) : PW X e tt' := ⟨fun wh pins s σ H Q I q => h.run wh pins s σ H Q I (k _ _ _ q)⟩
theorem PS.imp (h : PS X st ts) (k : ∀ D0 σ H, ts' D0 σ H → ts D0 σ H) : PS X st ts' := ⟨fun pins s σ H D0 I q => h.run pins s σ H D0 I (k _ _ _ q)⟩
theorem PSs.imp (h : PSs X sts ts) (k : ∀ D0 σ H, ts' D0 σ H → ts D0 σ H) : PSs X sts ts' := ⟨fun pins s σ H D0 I q => h.run pins s σ H D0 I (k _ _ _ q)⟩
end

/-! ### exceptions further on -/
section
variable {K : Fr'} {mg : MG} {W : WX} {σ σ1 : L2.St} {ρ ρ1 : Env'} {F F1 H H1 : Hp} {c : Str} {fs : List D}
theorem ExM.on (x : ExM mg W σ ρ F H c fs) (s : Stp σ ρ F H σ1 ρ1 F1 H1) (n : σ1.length = σ.length) (m : ρ1.length = ρ.length) : ExM mg W σ1 ρ1 F1 H1 c fs := fun cls xd σ' F' H' l hl sp r =>
  x cls xd σ' F' H' l (hl.trans n) (s.trans (by
    have e : emps ρ = emps ρ1 := by unfold emps; rw [m]
    rw [e]
    exact sp)) r
theorem ExM.new (x : ExM mg W σ ρ F H c fs) (n : New F H F1 H1) : ExM mg W σ ρ F1 H1 c fs := x.on (n.stp σ ρ) rfl rfl
end
/-- what others keep behind a pure step: from Stp with no owned cell -/
theorem Stp.emp {σ : L2.St} {ρ : Env'} {F H F' H' : Hp} (n : New F H F' H') {σ' : L2.St} : Stp σ ρ F H σ' (emps ρ) F' H' where
  le := n.le
  kp := fun b o h _ => n.kp b o h
  fr := fun b h => by
    rcases n.fr b h with h | h
    · exact .inl h
    · exact .inr (.inl h)
  ow := fun b h => absurd h emps_owned
  al := fun b h e => by
    cases q : H b with
    | none => exact h q
    | some u =>
      rw [n.kp b u q] at e
      cases e

/-! ### pure operations -/
def Pure1 (K : Fr') (r : V → Hp → VK → Prop) (g : D → Out D) : Prop := ∀ F H x dx d Q, Le F H → Rep K F dx x → g dx = .ok d → (∀ v F' H', New F H F' H' → Rep K F' d v → Q v H') → r x H Q
def Pure2 (K : Fr') (r : V → V → Hp → VK → Prop) (g : D → D → Out D) : Prop := ∀ F H x y dx dy d Q, Le F H → Rep K F dx x → Rep K F dy y → g dx dy = .ok d → (∀ v F' H', New F H F' H' → Rep K F' d v → Q v H') → r x y H Q
def PureN (K : Fr') (r : List V → Hp → VK → Prop) (g : List D → Out D) : Prop := ∀ F H xs ds d Q, Le F H → Reps K F ds xs → g ds = .ok d → (∀ v F' H', New F H F' H' → Rep K F' d v → Q v H') → r xs H Q
/-- never an exception of its own -/
def noX {α : Type} (x : Out α) : Out α := match x with
  | .exc _ _ => .bad
  | y => y
@[simp] theorem noX_ok {α : Type} (a : α) : noX (.ok a) = .ok a := rfl
theorem noX_on {α : Type} {x : Out α} {P : α → Prop} {E : Str → List D → Prop} (h : (noX x).on P E) : ∃ a, x = .ok a ∧ P a := by
  cases x with
  | ok a => exact ⟨a, rfl, h⟩
  | exc c fs => exact h.elim
  | bad => exact h.elim

/-- operations whose value is a new object -/
def PureO1 (K : Fr') (r : V → Hp → VK → Prop) (g : D → Out D) : Prop := ∀ F H x dx d Q, Le F H → Rep K F dx x → g dx = .ok d → (∀ p o, H p = none → Co K F d o → Q (.ref p) (upd H p o)) → r x H Q
def PureO2 (K : Fr') (r : V → V → Hp → VK → Prop) (g : D → D → Out D) : Prop := ∀ F H x y dx dy d Q, Le F H → Rep K F dx x → Rep K F dy y → g dx dy = .ok d → (∀ p o, H p = none → Co K F d o → Q (.ref p) (upd H p o)) → r x y H Q
def PureON (K : Fr') (r : List V → Hp → VK → Prop) (g : List D → Out D) : Prop := ∀ F H xs ds d Q, Le F H → Reps K F ds xs → g ds = .ok d → (∀ p o, H p = none → Co K F d o → Q (.ref p) (upd H p o)) → r xs H Q
theorem Co.laid {K : Fr'} {F H : Hp} {p : Addr} {o : HO} {d : D} (l : Le F H) (h : H p = none) (c : Co K F d o) : New F H (upd F p o) (upd H p o) ∧ Rep K (upd F p o) d (.ref p) :=
  ⟨New.upd l h, Co.rep (Le.updL (l.none h)) c upd_same⟩

section
variable {b : Bool} {X : Cx} {W : WX} {x y : Expr} {f g : Env' → Out D} {ta tb : TE}
theorem SR.imp {e : Expr} {t : TE} (h : PE X e t) (k : ∀ σ H Q, tR X.K X.mg W b f σ H Q → t σ H Q) : SR b X W e f := ⟨PE.imp h k⟩
theorem SO.imp {e : Expr} {t : TE} (h : PE X e t) (k : ∀ σ H Q, tO X.K X.mg W b f σ H Q → t σ H Q) : SO b X W e f := ⟨PE.imp h k⟩
theorem SM.imp {e : Expr} {t : TE} {f : Env' → Out (D × Env')} (h : PE X e t) (k : ∀ σ H Q, tM X.K X.mg W f σ H Q → t σ H Q) : SM X W e f := ⟨PE.imp h k⟩
/-- a new object, frozen at once -/
theorem SO.sr {e : Expr} (h : SO b X W e f) : SR b X W e f := SR.imp h.pe fun σ H Q ⟨F, ρ, s, q⟩ => ⟨F, ρ, s, on_imp q (fun d _ q p o F' H' n hp c => by
    have s' := s.new n
    have ⟨n2, r⟩ := Co.laid s'.bs_le hp c
    obtain ⟨F'', n3, l⟩ := s'.bnew n2
    exact q _ _ _ (n.trans n3) (Rep.mono l _ _ r)) fun _ _ _ q => q⟩

/-- one operand -/
def r1 (f : Env' → Out D) (h : D → Out D) : Env' → Out D := fun ρ => (f ρ).bind fun x => noX (h x)
theorem tR1 {r : V → Hp → VK → Prop} {h : D → Out D} (P : Pure1 X.K r h) : ∀ σ H Q, tR X.K X.mg W b (r1 f h) σ H Q → tR X.K X.mg W b f σ H fun x H1 => r x H1 Q := by
  rintro σ H Q ⟨F, ρ, s, q⟩
  refine ⟨F, ρ, s, on_imp (on_bind q) (fun x ex q => ?_) (fun _ _ _ q => q)⟩
  obtain ⟨d, ed, q⟩ := noX_on q
  intro v1 F1 H1 n1 rx
  have s1 := s.new n1
  refine P _ _ _ _ _ _ s1.bs_le rx ed fun v F' H' n rv => ?_
  obtain ⟨F'', n2, l⟩ := s1.bnew n
  exact q v _ H' (n1.trans n2) (Rep.mono l _ _ rv)
theorem tO1 {r : V → Hp → VK → Prop} {h : D → Out D} (P : PureO1 X.K r h) : ∀ σ H Q, tO X.K X.mg W b (r1 f h) σ H Q → tR X.K X.mg W b f σ H fun x H1 => r x H1 Q := by
  rintro σ H Q ⟨F, ρ, s, q⟩
  refine ⟨F, ρ, s, on_imp (on_bind q) (fun x ex q => ?_) (fun _ _ _ q => q)⟩
  obtain ⟨d, ed, q⟩ := noX_on q
  intro v1 F1 H1 n1 rx
  have s1 := s.new n1
  exact P _ _ _ _ _ _ s1.bs_le rx ed fun p o hp c => q p o F1 H1 n1 hp c
/-- two operands -/
def r2 (f g : Env' → Out D) (h : D → D → Out D) : Env' → Out D := fun ρ => (f ρ).bind fun x => (g ρ).bind fun y => noX (h x y)
theorem tR2 {r : V → V → Hp → VK → Prop} {h : D → D → Out D} (P : Pure2 X.K r h) : ∀ σ H Q, tR X.K X.mg W b (r2 f g h) σ H Q → tOp r (tR X.K X.mg W b f) (tR X.K X.mg W b g) σ H Q := by
  rintro σ H Q ⟨F, ρ, s, q⟩
  refine ⟨F, ρ, s, on_imp (on_bind q) (fun x ex q => ?_) (fun _ _ _ q => q)⟩
  intro v1 F1 H1 n1 rx
  have s1 := s.new n1
  refine ⟨F1, ρ, s1, on_imp (on_bind q) (fun y ey q => ?_) (fun _ _ _ q => q.new n1)⟩
  intro v2 F2 H2 n2 ry
  have s2 := s1.new n2
  obtain ⟨d, ed, q⟩ := noX_on q
  refine P _ _ _ _ _ _ _ _ s2.bs_le (Rep.mono (bs_new s1 n2) _ _ rx) ry ed fun v F' H' n rv => ?_
  obtain ⟨F'', n3, l⟩ := s2.bnew n
  exact q v _ H' ((n1.trans n2).trans n3) (Rep.mono l _ _ rv)
theorem tO2 {r : V → V → Hp → VK → Prop} {h : D → D → Out D} (P : PureO2 X.K r h) : ∀ σ H Q, tO X.K X.mg W b (r2 f g h) σ H Q → tOp r (tR X.K X.mg W b f) (tR X.K X.mg W b g) σ H Q := by
  rintro σ H Q ⟨F, ρ, s, q⟩
  refine ⟨F, ρ, s, on_imp (on_bind q) (fun x ex q => ?_) (fun _ _ _ q => q)⟩
  intro v1 F1 H1 n1 rx
  have s1 := s.new n1
  refine ⟨F1, ρ, s1, on_imp (on_bind q) (fun y ey q => ?_) (fun _ _ _ q => q.new n1)⟩
  intro v2 F2 H2 n2 ry
  have s2 := s1.new n2
  obtain ⟨d, ed, q⟩ := noX_on q
  exact P _ _ _ _ _ _ _ _ s2.bs_le (Rep.mono (bs_new s1 n2) _ _ rx) ry ed fun p o hp c => q p o F2 H2 (n1.trans n2) hp c
/-- many -/
def rN (f : Env' → Out (List D)) (h : List D → Out D) : Env' → Out D := fun ρ => (f ρ).bind fun x => noX (h x)
theorem tRN {fs : Env' → Out (List D)} {r : List V → Hp → VK → Prop} {h : List D → Out D} (P : PureN X.K r h) : ∀ σ H Q, tR X.K X.mg W b (rN fs h) σ H Q → tRs X.K X.mg W b fs σ H fun xs H1 => r xs H1 Q := by
  rintro σ H Q ⟨F, ρ, s, q⟩
  refine ⟨F, ρ, s, on_imp (on_bind q) (fun x ex q => ?_) (fun _ _ _ q => q)⟩
  obtain ⟨d, ed, q⟩ := noX_on q
  intro v1 F1 H1 n1 rx
  have s1 := s.new n1
  refine P _ _ _ _ _ _ s1.bs_le rx ed fun v F' H' n rv => ?_
  obtain ⟨F'', n2, l⟩ := s1.bnew n
  exact q v _ H' (n1.trans n2) (Rep.mono l _ _ rv)
theorem tON {fs : Env' → Out (List D)} {r : List V → Hp → VK → Prop} {h : List D → Out D} (P : PureON X.K r h) : ∀ σ H Q, tO X.K X.mg W b (rN fs h) σ H Q → tRs X.K X.mg W b fs σ H fun xs H1 => r xs H1 Q := by
  rintro σ H Q ⟨F, ρ, s, q⟩
  refine ⟨F, ρ, s, on_imp (on_bind q) (fun x ex q => ?_) (fun _ _ _ q => q)⟩
  obtain ⟨d, ed, q⟩ := noX_on q
  intro v1 F1 H1 n1 rx
  have s1 := s.new n1
  exact P _ _ _ _ _ _ s1.bs_le rx ed fun p o hp c => q p o F1 H1 n1 hp c
/-- argument lists -/
def rNil : Env' → Out (List D) := fun _ => .ok []
def rCons (f : Env' → Out D) (g : Env' → Out (List D)) : Env' → Out (List D) := fun ρ => (f ρ).bind fun x => (g ρ).bind fun xs => .ok (x :: xs)
theorem SRs.nil : SRs b X W [] rNil := ⟨PA.imp pa_nil fun σ H Q ⟨F, ρ, s, q⟩ => q [] F H (New.refl s.le) (by unfold Reps; rfl)⟩
theorem SRs.cons {e : Expr} {es : List Expr} {fs : Env' → Out (List D)} (ha : SR b X W e f) (hr : SRs b X W es fs) (hs : starEach (e :: es) X.env = (false, eval e X.env) :: starEach es X.env := by rfl) : SRs b X W (e :: es) (rCons f fs) :=
  ⟨PA.imp (pa_cons ha.pe hr.pe hs) fun σ H Q ⟨F, ρ, s, q⟩ => ⟨F, ρ, s, on_imp (on_bind q) (fun x ex q v1 F1 H1 n1 rx => by
    have s1 := s.new n1
    exact ⟨F1, ρ, s1, on_imp (on_bind q) (fun y ey q v2 F2 H2 n2 ry => q (v1 :: v2) F2 H2 (n1.trans n2) (by
      unfold Reps
      exact ⟨v1, v2, rfl, Rep.mono (bs_new s1 n2) _ _ rx, ry⟩)) (fun _ _ _ q => q.new n1)⟩) (fun _ _ _ q => q)⟩⟩
end
end VL

/-! V3: expressions. -/
namespace VL
open PySem PySem.Spec L2

/-! ### reading off D -/
theorem rep_int {K : Fr'} {F : Hp} {i : Int} {v : V} (h : Rep K F (.int i) v) : v = .int i := by unfold Rep at h; exact h
theorem rep_str {K : Fr'} {F : Hp} {i : Str} {v : V} (h : Rep K F (.str i) v) : v = .str i := by unfold Rep at h; exact h
theorem rep_bl {K : Fr'} {F : Hp} {i : Bool} {v : V} (h : Rep K F (.bl i) v) : v = .bl i := by unfold Rep at h; exact h
theorem rep_non {K : Fr'} {F : Hp} {v : V} (h : Rep K F .non v) : v = .non := by unfold Rep at h; exact h
theorem rep_tup {K : Fr'} {F : Hp} {xs : List D} {v : V} (h : Rep K F (.tup xs) v) : ∃ a vs, v = .ref a ∧ SqT K F a vs ∧ Reps K F xs vs := by unfold Rep at h; exact h
theorem rep_lst {K : Fr'} {F : Hp} {xs : List D} {v : V} (h : Rep K F (.lst xs) v) : ∃ a vs, v = .ref a ∧ SqL K F a vs ∧ Reps K F xs vs := by unfold Rep at h; exact h
theorem mk_int {K : Fr'} {F : Hp} {i : Int} : Rep K F (.int i) (.int i) := by unfold Rep; rfl
theorem mk_str {K : Fr'} {F : Hp} {i : Str} : Rep K F (.str i) (.str i) := by unfold Rep; rfl
theorem mk_bl {K : Fr'} {F : Hp} {i : Bool} : Rep K F (.bl i) (.bl i) := by unfold Rep; rfl
theorem mk_non {K : Fr'} {F : Hp} : Rep K F .non .non := by unfold Rep; rfl
theorem mk_tup {K : Fr'} {F : Hp} {xs : List D} {a : Addr} {vs : List V} (h : SqT K F a vs) (r : Reps K F xs vs) : Rep K F (.tup xs) (.ref a) := by unfold Rep; exact ⟨a, vs, rfl, h, r⟩
theorem mk_lst {K : Fr'} {F : Hp} {xs : List D} {a : Addr} {vs : List V} (h : SqL K F a vs) (r : Reps K F xs vs) : Rep K F (.lst xs) (.ref a) := by unfold Rep; exact ⟨a, vs, rfl, h, r⟩
theorem reps_nil {K : Fr'} {F : Hp} {vs : List V} (h : Reps K F [] vs) : vs = [] := by unfold Reps at h; exact h
theorem reps_cons {K : Fr'} {F : Hp} {x : D} {xs : List D} {vs : List V} (h : Reps K F (x :: xs) vs) : ∃ v r, vs = v :: r ∧ Rep K F x v ∧ Reps K F xs r := by unfold Reps at h; exact h
theorem mk_nil {K : Fr'} {F : Hp} : Reps K F [] [] := by unfold Reps; rfl
theorem mk_cons {K : Fr'} {F : Hp} {x : D} {xs : List D} {v : V} {vs : List V} (h : Rep K F x v) (r : Reps K F xs vs) : Reps K F (x :: xs) (v :: vs) := by unfold Reps; exact ⟨v, vs, rfl, h, r⟩
theorem reps_len {K : Fr'} {F : Hp} : ∀ {xs : List D} {vs : List V}, Reps K F xs vs → vs.length = xs.length
  | [], vs, h => by rw [reps_nil h]; rfl
  | x :: xs, vs, h => by
    obtain ⟨v, r, rfl, _, h2⟩ := reps_cons h
    show r.length + 1 = xs.length + 1
    rw [reps_len h2]
theorem reps_app {K : Fr'} {F : Hp} : ∀ {xs ys : List D} {vs ws : List V}, Reps K F xs vs → Reps K F ys ws → Reps K F (xs ++ ys) (vs ++ ws)
  | [], ys, vs, ws, h, h2 => by rw [reps_nil h]; exact h2
  | x :: xs, ys, vs, ws, h, h2 => by
    obtain ⟨v, r, rfl, h1, h3⟩ := reps_cons h
    exact mk_cons h1 (reps_app h3 h2)
theorem reps_get {K : Fr'} {F : Hp} : ∀ {xs : List D} {vs : List V} {i : Nat} {x : D}, Reps K F xs vs → xs[i]? = some x → ∃ v, vs[i]? = some v ∧ Rep K F x v
  | [], vs, i, x, h, e => by simp at e
  | y :: xs, vs, 0, x, h, e => by
    obtain ⟨v, r, rfl, h1, h3⟩ := reps_cons h
    have e' : y = x := Option.some.inj e
    subst e'
    exact ⟨v, rfl, h1⟩
  | y :: xs, vs, i + 1, x, h, e => by
    obtain ⟨v, r, rfl, h1, h3⟩ := reps_cons h
    exact reps_get (i := i) h3 (by simpa using e)
theorem reps_get' {K : Fr'} {F : Hp} : ∀ {xs : List D} {vs : List V} {i : Nat} {v : V}, Reps K F xs vs → vs[i]? = some v → ∃ x, xs[i]? = some x ∧ Rep K F x v
  | [], vs, i, v, h, e => by rw [reps_nil h] at e; simp at e
  | y :: xs, vs, 0, v, h, e => by
    obtain ⟨w, r, rfl, h1, h3⟩ := reps_cons h
    have e' : w = v := Option.some.inj e
    subst e'
    exact ⟨y, rfl, h1⟩
  | y :: xs, vs, i + 1, v, h, e => by
    obtain ⟨w, r, rfl, h1, h3⟩ := reps_cons h
    exact reps_get' (i := i) h3 (by simpa using e)
theorem reps_take {K : Fr'} {F : Hp} : ∀ {xs : List D} {vs : List V} (n : Nat), Reps K F xs vs → Reps K F (xs.take n) (vs.take n)
  | xs, vs, 0, h => by simp; exact mk_nil
  | [], vs, n + 1, h => by rw [reps_nil h]; simp; exact mk_nil
  | x :: xs, vs, n + 1, h => by
    obtain ⟨v, r, rfl, h1, h3⟩ := reps_cons h
    exact mk_cons h1 (reps_take n h3)
theorem reps_drop {K : Fr'} {F : Hp} : ∀ {xs : List D} {vs : List V} (n : Nat), Reps K F xs vs → Reps K F (xs.drop n) (vs.drop n)
  | xs, vs, 0, h => by simp; exact h
  | [], vs, n + 1, h => by rw [reps_nil h]; simp; exact mk_nil
  | x :: xs, vs, n + 1, h => by
    obtain ⟨v, r, rfl, h1, h3⟩ := reps_cons h
    exact reps_drop n h3
theorem reps_set {K : Fr'} {F : Hp} {y : D} {w : V} (hy : Rep K F y w) : ∀ {xs : List D} {vs : List V} (n : Nat), Reps K F xs vs → Reps K F (xs.set n y) (vs.set n w)
  | [], vs, n, h => by rw [reps_nil h]; simp; exact mk_nil
  | x :: xs, vs, 0, h => by
    obtain ⟨v, r, rfl, h1, h3⟩ := reps_cons h
    exact mk_cons hy h3
  | x :: xs, vs, n + 1, h => by
    obtain ⟨v, r, rfl, h1, h3⟩ := reps_cons h
    exact mk_cons h1 (reps_set hy n h3)

/-! ### data of the model's own kind -/
mutual
def toP : D → PyData
  | .non => .none
  | .bl b => .bool b
  | .int i => .int i
  | .str x => .str x
  | .tup xs => .tuple (toPs xs)
  | .lst xs => .list (toPs xs)
  | .dic _ => .dict []
  | .dit _ => .dict []
def toPs : List D → List PyData
  | [] => []
  | x :: xs => toP x :: toPs xs
end
mutual
theorem rep_dp {K : Fr'} {F H : Hp} (l : Le F H) : ∀ (d : D) (v : V), (toP d).canLay0 = true → Rep K F d v → Dp K H v (toP d)
  | .non, v, _, h => by rw [rep_non h]; exact .non
  | .bl b, v, _, h => by rw [rep_bl h]; exact .bl b
  | .int i, v, _, h => by rw [rep_int h]; exact .int i
  | .str x, v, _, h => by rw [rep_str h]; exact .str x
  | .tup xs, v, c, h => by
    obtain ⟨a, vs, rfl, hq, hr⟩ := rep_tup h
    exact .tup (l.seqT hq) (reps_dp l xs vs c hr)
  | .lst xs, v, c, h => by
    obtain ⟨a, vs, rfl, hq, hr⟩ := rep_lst h
    exact .lst (l.seqL hq) (reps_dp l xs vs c hr)
  | .dic xs, v, c, h => by
    unfold toP PyData.canLay0 at c
    exact absurd c Bool.false_ne_true
  | .dit xs, v, c, h => by
    unfold toP PyData.canLay0 at c
    exact absurd c Bool.false_ne_true
theorem reps_dp {K : Fr'} {F H : Hp} (l : Le F H) : ∀ (ds : List D) (vs : List V), PyData.canLayAll0 (toPs ds) = true → Reps K F ds vs → DpAll K H vs (toPs ds)
  | [], vs, _, h => by rw [reps_nil h]; exact .nil
  | x :: xs, vs, c, h => by
    obtain ⟨v, r, rfl, h1, h3⟩ := reps_cons h
    unfold toPs PyData.canLayAll0 at c
    rw [Bool.and_eq_true] at c
    exact .cons (rep_dp l x v c.1 h1) (reps_dp l xs r c.2 h3)
end

/-! ### operators by data -/
def gEq (a b : D) : Out D := if SeqAt.shaped (toP a) = true ∧ SeqAt.shaped (toP b) = true then .ok (.bl (PyData.eqv (toP a) (toP b))) else .bad
def gNe (a b : D) : Out D := if SeqAt.shaped (toP a) = true ∧ SeqAt.shaped (toP b) = true then .ok (.bl (!PyData.eqv (toP a) (toP b))) else .bad
theorem pure_eq {K : Fr'} : Pure2 K (rEqD K) gEq := by
  intro F H x y dx dy d Q l rx ry e k
  unfold gEq at e
  by_cases c : SeqAt.shaped (toP dx) = true ∧ SeqAt.shaped (toP dy) = true
  · rw [if_pos c] at e
    cases e
    exact ⟨_, _, rep_dp l _ _ (SeqAt.canLay_of_shaped c.1) rx, rep_dp l _ _ (SeqAt.canLay_of_shaped c.2) ry, c.1, c.2, k _ _ _ (New.refl l) mk_bl⟩
  · rw [if_neg c] at e
    cases e
theorem pure_ne {K : Fr'} : Pure2 K (rNeD K) gNe := by
  intro F H x y dx dy d Q l rx ry e k
  unfold gNe at e
  by_cases c : SeqAt.shaped (toP dx) = true ∧ SeqAt.shaped (toP dy) = true
  · rw [if_pos c] at e
    cases e
    exact ⟨_, _, rep_dp l _ _ (SeqAt.canLay_of_shaped c.1) rx, rep_dp l _ _ (SeqAt.canLay_of_shaped c.2) ry, c.1, c.2, k _ _ _ (New.refl l) mk_bl⟩
  · rw [if_neg c] at e
    cases e
/-- operators on ints -/
def gI2 (C : Int → Int → Bool) (g : Int → Int → D) : D → D → Out D
  | .int i, .int j => if C i j = true then .ok (g i j) else .bad
  | _, _ => .bad
theorem gI2_ok {C : Int → Int → Bool} {g : Int → Int → D} {a b d : D} (h : gI2 C g a b = .ok d) : ∃ i j, a = .int i ∧ b = .int j ∧ C i j = true ∧ d = g i j := by
  unfold gI2 at h
  split at h
  · split at h
    · cases h
      exact ⟨_, _, rfl, rfl, by assumption, rfl⟩
    · cases h
  · cases h
theorem pure_I2 {K : Fr'} {C : Int → Int → Bool} {P : Int → Int → Prop} {g : Int → Int → V} {gd : Int → Int → D} (hP : ∀ i j, C i j = true → P i j) (hg : ∀ F i j, Rep K F (gd i j) (g i j)) : Pure2 K (rI P g) (gI2 C gd) := by
  intro F H x y dx dy d Q l rx ry e k
  obtain ⟨i, j, rfl, rfl, c, rfl⟩ := gI2_ok e
  rw [rep_int rx, rep_int ry]
  exact ⟨i, j, rfl, rfl, hP i j c, k _ _ _ (New.refl l) (hg _ i j)⟩
theorem pure_I20 {K : Fr'} {g : Int → Int → V} {gd : Int → Int → D} (hg : ∀ F i j, Rep K F (gd i j) (g i j)) : Pure2 K (rI0 g) (gI2 (fun _ _ => true) gd) := by
  intro F H x y dx dy d Q l rx ry e k
  obtain ⟨i, j, rfl, rfl, c, rfl⟩ := gI2_ok e
  rw [rep_int rx, rep_int ry]
  exact ⟨i, j, rfl, rfl, k _ _ _ (New.refl l) (hg _ i j)⟩
abbrev gSub : D → D → Out D := gI2 (fun _ _ => true) fun i j => .int (i - j)
abbrev gLt : D → D → Out D := gI2 (fun _ _ => true) fun i j => .bl (decide (i < j))
abbrev gLe : D → D → Out D := gI2 (fun _ _ => true) fun i j => .bl (decide (i ≤ j))
abbrev gGt : D → D → Out D := gI2 (fun _ _ => true) fun i j => .bl (decide (j < i))
abbrev gGe : D → D → Out D := gI2 (fun _ _ => true) fun i j => .bl (decide (j ≤ i))
abbrev gMod : D → D → Out D := gI2 (fun _ j => decide (j ≠ 0)) fun i j => .int (i.fmod j)
abbrev gFdiv : D → D → Out D := gI2 (fun _ j => decide (j ≠ 0) && decide (j.natAbs < 1073741824)) fun i j => .int (i.fdiv j)
abbrev gPow : D → D → Out D := gI2 (fun i j => decide (0 ≤ j) && (decide (j ≤ 1000000) && decide (i.natAbs < 2 ^ 64))) fun i j => .int (i ^ j.toNat)
theorem p_sub {K : Fr'} : Pure2 K (rI0 fun i j => .int (i - j)) gSub := pure_I20 fun _ _ _ => mk_int
theorem p_lt {K : Fr'} : Pure2 K (rI0 fun i j => .bl (decide (i < j))) gLt := pure_I20 fun _ _ _ => mk_bl
theorem p_le {K : Fr'} : Pure2 K (rI0 fun i j => .bl (decide (i ≤ j))) gLe := pure_I20 fun _ _ _ => mk_bl
theorem p_gt {K : Fr'} : Pure2 K (rI0 fun i j => .bl (decide (j < i))) gGt := pure_I20 fun _ _ _ => mk_bl
theorem p_ge {K : Fr'} : Pure2 K (rI0 fun i j => .bl (decide (j ≤ i))) gGe := pure_I20 fun _ _ _ => mk_bl
theorem p_mod {K : Fr'} : Pure2 K (rI (fun _ j => j ≠ 0) fun i j => .int (i.fmod j)) gMod := pure_I2 (fun i j h => of_decide_eq_true h) fun _ _ _ => mk_int
theorem p_fdiv {K : Fr'} : Pure2 K (rI CDivN fun i j => .int (i.fdiv j)) gFdiv := pure_I2 (fun i j h => by
  rw [Bool.and_eq_true] at h
  exact ⟨of_decide_eq_true h.1, of_decide_eq_true h.2⟩) fun _ _ _ => mk_int
theorem p_pow {K : Fr'} : Pure2 K (rI CPow fun i j => .int (i ^ j.toNat)) gPow := pure_I2 (fun i j h => by
  rw [Bool.and_eq_true, Bool.and_eq_true] at h
  exact ⟨of_decide_eq_true h.1, of_decide_eq_true h.2.1, of_decide_eq_true h.2.2⟩) fun _ _ _ => mk_int
/-- * of ints -/
def cMul (i j : Int) : Bool := (decide (-(2 ^ 64) < i) && decide (i < 2 ^ 64)) || (decide (-(2 ^ 64) < j) && decide (j < 2 ^ 64))
abbrev gMulI : D → D → Out D := gI2 cMul fun i j => .int (i * j)
theorem p_mulI {K : Fr'} : Pure2 K (rI CMul fun i j => .int (i * j)) gMulI := pure_I2 (fun i j h => by
  unfold cMul at h
  rw [Bool.or_eq_true, Bool.and_eq_true, Bool.and_eq_true] at h
  rcases h with h | h
  · exact .inl ⟨of_decide_eq_true h.1, of_decide_eq_true h.2⟩
  · exact .inr ⟨of_decide_eq_true h.1, of_decide_eq_true h.2⟩) fun _ _ _ => mk_int
/-- + of ints, texts -/
def gAdd : D → D → Out D
  | .int i, .int j => .ok (.int (i + j))
  | .str x, .str y => if x.length + y.length ≤ sizeLine then .ok (.str (x ++ y)) else .bad
  | _, _ => .bad
def rAddS : V → V → Hp → VK → Prop := fun x y H Q => (rI0 fun i j => .int (i + j)) x y H Q ∨ (∃ i j, x = .str i ∧ y = .str j ∧ i.length + j.length ≤ sizeLine ∧ Q (.str (i ++ j)) H)
theorem op_addS {X : Cx} : OpR X (binaryOp .Add) rAddS := OpR.or op_add op_add_str
theorem p_add {K : Fr'} : Pure2 K rAddS gAdd := by
  intro F H x y dx dy d Q l rx ry e k
  cases dx <;> cases dy <;> first | (unfold gAdd at e; cases e; done) | skip
  · rename_i i j
    cases e
    rw [rep_int rx, rep_int ry]
    exact .inl ⟨i, j, rfl, rfl, k _ _ _ (New.refl l) mk_int⟩
  · rename_i i j
    unfold gAdd at e
    dsimp only at e
    by_cases c : i.length + j.length ≤ sizeLine
    · rw [if_pos c] at e
      cases e
      rw [rep_str rx, rep_str ry]
      exact .inr ⟨i, j, rfl, rfl, c, k _ _ _ (New.refl l) mk_str⟩
    · rw [if_neg c] at e
      cases e
end VL

/-! V4: further operators; names, displays, tests. -/
namespace VL
open PySem PySem.Spec L2

/-! ### lists joined -/
def rCatR (K : Fr') : R2 := fun x y H Q => ∃ l m vs ws, x = .ref l ∧ y = .ref m ∧ SqL K H l vs ∧ SqL K H m ws ∧ vs.length + ws.length ≤ sizeLine ∧ ∀ p, H p = none → Q (.ref p) (upd H p (.lst (vs ++ ws)))
theorem op_catR {X : Cx} : OpR X (binaryOp .Add) (rCatR X.K) := by
  intro pins s σ H x y v u Q I rx ry h
  obtain ⟨l, m, vs, ws, rfl, rfl, h1, h2, hz, q⟩ := h
  cases rx
  cases ry
  obtain ⟨it1, r1, p1, z1⟩ := I.list h1
  obtain ⟨it2, r2, p2, z2⟩ := I.list h2
  have l1 := r1.length
  have l2 := r2.length
  obtain ⟨⟨c1, d1, a1, s1⟩, ho1, hc1, n1, hd1⟩ := p1.isList
  obtain ⟨⟨c2, d2, a2, s2⟩, ho2, hc2, n2, hd2⟩ := p2.isList
  simp only at hc1 hd1 hc2 hd2
  subst hc1 hd1 hc2 hd2
  refine concat_meets ⟨_, ho1, rfl⟩ ⟨_, ho2, rfl⟩ noFill_list_add seq_list_add PySem.F.slot_list_add PySem.F.entry_list_add (PySem.F.args_list_add_2 _ _) (PyProof.Rows.list_addW l m it1.toArray it2.toArray n1 n2 d1 d2 s1 s2 (by rw [List.size_toArray, List.size_toArray]; omega)) ⟨ho1, ho2, ?_⟩
  rw [show it1.toArray ++ it2.toArray = (it1 ++ it2).toArray by simp]
  exact ⟨.ref _, _, I.lnew (t' := s.toks) (Vals.append r1 r2) (by rw [List.length_append]; exact hz), rfl, q _ I.fresh⟩
def gCatL : D → D → Out D
  | .lst xs, .lst ys => if xs.length + ys.length ≤ sizeLine then .ok (.lst (xs ++ ys)) else .bad
  | _, _ => .bad
theorem p_catL {K : Fr'} : PureO2 K (rCatR K) gCatL := by
  intro F H x y dx dy d Q l rx ry e k
  cases dx <;> cases dy <;> first | (unfold gCatL at e; cases e; done) | skip
  rename_i xs ys
  unfold gCatL at e
  dsimp only at e
  by_cases c : xs.length + ys.length ≤ sizeLine
  · rw [if_pos c] at e
    cases e
    obtain ⟨a, vs, rfl, h1, q1⟩ := rep_lst rx
    obtain ⟨a2, ws, rfl, h2, q2⟩ := rep_lst ry
    exact ⟨a, a2, vs, ws, rfl, rfl, l.seqL h1, l.seqL h2, by rw [reps_len q1, reps_len q2]; exact c, fun p hp => k p _ hp ⟨_, rfl, reps_app q1 q2⟩⟩
  · rw [if_neg c] at e
    cases e
/-- list * int -/
def gRep : D → D → Out D
  | .lst xs, .int k => if -(2 ^ 63) ≤ k ∧ k < 2 ^ 63 ∧ xs.length * k.toNat ≤ sizeLine then .ok (.lst (List.replicate k.toNat xs).flatten) else .bad
  | _, _ => .bad
theorem reps_rep {K : Fr'} {F : Hp} {xs : List D} {vs : List V} (h : Reps K F xs vs) : ∀ k : Nat, Reps K F (List.replicate k xs).flatten (List.replicate k vs).flatten
  | 0 => mk_nil
  | k + 1 => by
    rw [List.replicate_succ, List.replicate_succ, List.flatten_cons, List.flatten_cons]
    exact reps_app h (reps_rep h k)
/-- the operand must not be locked -/
def UnL (H : Hp) : Prop := ∀ a o vs, H a ≠ some (.frz o (.lst vs))

/-! ### subscripts -/
def gIx : D → D → Out D
  | .lst xs, .int i => match atI xs i with
    | some d => .ok d
    | none => .bad
  | .tup xs, .int i => match atI xs i with
    | some d => .ok d
    | none => .bad
  | .str x, .int i => if x.length ≤ sizeLine then (match atI x.cps.toList i with
    | some c => .ok (.str ⟨#[c]⟩)
    | none => .bad) else .bad
  | _, _ => .bad
theorem reps_atI {K : Fr'} {F : Hp} {xs : List D} {vs : List V} {i : Int} {d : D} (r : Reps K F xs vs) (h : atI xs i = some d) : ∃ v, atI vs i = some v ∧ Rep K F d v := by
  unfold atI at h ⊢
  rw [reps_len r]
  cases q : ixN xs.length i with
  | none => rw [q] at h; cases h
  | some j =>
    rw [q] at h
    exact reps_get r h
def rIxAll (K : Fr') : R2 := fun x y H Q => rIxL K x y H Q ∨ (rIxT K x y H Q ∨ rIxS x y H Q)
theorem ix_all {X : Cx} : IxR X (rIxAll X.K) := IxR.or ix_list (IxR.or ix_tup ix_str)
theorem p_ix {K : Fr'} : Pure2 K (rIxAll K) gIx := by
  intro F H x y dx dy d Q l rx ry e k
  cases dx <;> cases dy <;> first | (unfold gIx at e; cases e; done) | skip
  · rename_i x i
    unfold gIx at e
    dsimp only at e
    split at e
    · rename_i c
      split at e
      · rename_i w hw
        cases e
        rw [rep_str rx, rep_int ry]
        exact .inr (.inr ⟨_, _, _, rfl, rfl, c, hw, k _ _ _ (New.refl l) mk_str⟩)
      · cases e
    · cases e
  · rename_i xs i
    unfold gIx at e
    dsimp only at e
    split at e
    · rename_i w hw
      cases e
      obtain ⟨a, vs, rfl, h1, q1⟩ := rep_tup rx
      obtain ⟨v, hv, rv⟩ := reps_atI q1 hw
      rw [rep_int ry]
      exact .inr (.inl ⟨_, _, _, _, rfl, rfl, l.seqT h1, hv, k _ _ _ (New.refl l) rv⟩)
    · cases e
  · rename_i xs i
    unfold gIx at e
    dsimp only at e
    split at e
    · rename_i w hw
      cases e
      obtain ⟨a, vs, rfl, h1, q1⟩ := rep_lst rx
      obtain ⟨v, hv, rv⟩ := reps_atI q1 hw
      rw [rep_int ry]
      exact .inl ⟨_, _, _, _, rfl, rfl, l.seqL h1, hv, k _ _ _ (New.refl l) rv⟩
    · cases e

/-! ### in -/
def flatD : D → Bool
  | .non => true
  | .bl _ => true
  | .int _ => true
  | .str _ => true
  | _ => false
theorem rep_flat {K : Fr'} {F : Hp} {d : D} {v : V} (h : Rep K F d v) (c : flatD d = true) : flatV v = true ∧ ∀ e w, flatD e = true → Rep K F e w → eqV v w = PyData.eqv (toP d) (toP e) := by
  cases d <;> first | (exact absurd c Bool.false_ne_true) | skip
  all_goals
    unfold Rep at h
    subst h
    refine ⟨rfl, fun e w ce he => ?_⟩
    cases e <;> first | (exact absurd ce Bool.false_ne_true) | skip
    all_goals
      unfold Rep at he
      subst he
      simp only [eqV, toP, PyData.eqv]
      all_goals first | rfl | (rw [Bool.beq_eq_decide_eq]; done) | skip
def gInS (neg : Bool) (x : D) (xs : List D) : Out D := if flatD x = true ∧ xs.all flatD = true then .ok (.bl (if neg then !(xs.any fun y => PyData.eqv (toP y) (toP x)) else xs.any fun y => PyData.eqv (toP y) (toP x))) else .bad
theorem in_flat {K : Fr'} {F : Hp} {x : D} {v : V} (hx : Rep K F x v) (cx : flatD x = true) : ∀ {xs : List D} {vs : List V}, Reps K F xs vs → xs.all flatD = true → vs.all flatV = true ∧ inV v vs = xs.any fun y => PyData.eqv (toP y) (toP x)
  | [], vs, h, _ => by rw [reps_nil h]; exact ⟨rfl, rfl⟩
  | y :: xs, vs, h, c => by
    obtain ⟨w, r, rfl, h1, h3⟩ := reps_cons h
    rw [List.all_cons, Bool.and_eq_true] at c
    obtain ⟨i1, i2⟩ := in_flat hx cx h3 c.2
    obtain ⟨f1, f2⟩ := rep_flat h1 c.1
    refine ⟨by rw [List.all_cons, f1, i1]; rfl, ?_⟩
    unfold inV at i2 ⊢
    rw [List.any_cons, List.any_cons, i2, f2 x v cx hx]
theorem p_inS {K : Fr'} {neg : Bool} : Pure2 K (rIn K neg) (fun x y => match y with
    | .lst xs => gInS neg x xs
    | .tup xs => gInS neg x xs
    | _ => .bad) := by
  intro F H x y dx dy d Q l rx ry e k
  cases dy <;> first | (dsimp only at e; cases e; done) | skip
  all_goals
    rename_i xs
    dsimp only at e
    unfold gInS at e
    split at e
    · rename_i c
      cases e
      first
      | obtain ⟨a, vs, rfl, h1, q1⟩ := rep_tup ry
        obtain ⟨i1, i2⟩ := in_flat rx c.1 q1 c.2
        refine ⟨a, vs, rfl, .inr (l.seqT h1), (rep_flat rx c.1).1, i1, ?_⟩
        rw [i2]
        exact k _ _ _ (New.refl l) mk_bl
      | obtain ⟨a, vs, rfl, h1, q1⟩ := rep_lst ry
        obtain ⟨i1, i2⟩ := in_flat rx c.1 q1 c.2
        refine ⟨a, vs, rfl, .inl (l.seqL h1), (rep_flat rx c.1).1, i1, ?_⟩
        rw [i2]
        exact k _ _ _ (New.refl l) mk_bl
    · cases e
/-- one sign in a text -/
def gInC (neg : Bool) : D → D → Out D
  | .str x, .str y => match x.cps.toList with
    | [c] => .ok (.bl (if neg then !decide (c ∈ y.cps.toList) else decide (c ∈ y.cps.toList)))
    | _ => .bad
  | _, _ => .bad
theorem str_one {x : Str} {c : Nat} (h : x.cps.toList = [c]) : x = ⟨#[c]⟩ := by
  cases x with
  | mk a =>
    have : a = #[c] := by
      apply Array.toList_inj.mp
      exact h
    rw [this]
def rInC (neg : Bool) : R2 := fun x y H Q => ∃ (c : Nat) (z : Str), x = .str ⟨#[c]⟩ ∧ y = .str z ∧ Q (.bl (if neg then !decide (c ∈ z.cps.toList) else decide (c ∈ z.cps.toList))) H
theorem p_inC {K : Fr'} {neg : Bool} : Pure2 K (rInC neg) (gInC neg) := by
  intro F H x y dx dy d Q l rx ry e k
  cases dx <;> cases dy <;> first | (unfold gInC at e; cases e; done) | skip
  rename_i x z
  unfold gInC at e
  dsimp only at e
  split at e
  · rename_i c hc
    cases e
    rw [rep_str rx, rep_str ry, str_one hc]
    exact ⟨c, z, rfl, rfl, k _ _ _ (New.refl l) mk_bl⟩
  · cases e
/-- both -/
def rInA (K : Fr') (neg : Bool) : R2 := fun x y H Q => rIn K neg x y H Q ∨ rInC neg x y H Q
theorem op_inA {X : Cx} : OpR X (compareOp .In) (rInA X.K false) := OpR.or op_in_seq (fun pins s σ H x y v u Q I rx ry h => op_in_sign pins s σ H x y v u Q I rx ry h)
theorem op_notInA {X : Cx} : OpR X (compareOp .NotIn) (rInA X.K true) := OpR.or op_notIn_seq (fun pins s σ H x y v u Q I rx ry h => op_notIn_sign pins s σ H x y v u Q I rx ry h)
def gIn (neg : Bool) (x y : D) : Out D := match y with
  | .lst xs => gInS neg x xs
  | .tup xs => gInS neg x xs
  | .str z => gInC neg x (.str z)
  | _ => .bad
theorem p_in {K : Fr'} {neg : Bool} : Pure2 K (rInA K neg) (gIn neg) := by
  intro F H x y dx dy d Q l rx ry e k
  cases dy <;> first | (dsimp only [gIn] at e; cases e; done) | skip
  · exact .inr (p_inC F H x y _ _ d Q l rx ry e k)
  · exact .inl (p_inS F H x y _ _ d Q l rx ry e k)
  · exact .inl (p_inS F H x y _ _ d Q l rx ry e k)

/-! ### is None -/
def isN : D → Bool
  | .non => true
  | _ => false
def gIsN (x y : D) : Out D := match y with
  | .non => .ok (.bl (isN x))
  | _ => .bad
def gNotN (x y : D) : Out D := match y with
  | .non => .ok (.bl (!isN x))
  | _ => .bad
theorem rep_isN {K : Fr'} {F : Hp} {d : D} {v : V} (h : Rep K F d v) : decide (v = .non) = isN d := by
  cases d <;> (unfold Rep at h) <;> first | (subst h; rfl) | (obtain ⟨a, vs, rfl, _⟩ := h; rfl) | (obtain ⟨a, rfl, _⟩ := h; rfl)
theorem p_isN {K : Fr'} : Pure2 K (fun x y H Q => y = .non ∧ Q (.bl (decide (x = .non))) H) gIsN := by
  intro F H x y dx dy d Q l rx ry e k
  cases dy <;> first | (dsimp only [gIsN] at e; cases e; done) | skip
  cases e
  refine ⟨rep_non ry, ?_⟩
  rw [rep_isN rx]
  exact k _ _ _ (New.refl l) mk_bl
theorem p_notN {K : Fr'} : Pure2 K (fun x y H Q => y = .non ∧ Q (.bl (!decide (x = .non))) H) gNotN := by
  intro F H x y dx dy d Q l rx ry e k
  cases dy <;> first | (dsimp only [gNotN] at e; cases e; done) | skip
  cases e
  refine ⟨rep_non ry, ?_⟩
  rw [rep_isN rx]
  exact k _ _ _ (New.refl l) mk_bl

/-! ### names, constants, displays -/
section
variable {b : Bool} {X : Cx} {W : WX}
def rv (b : Bool) (i : Nat) : Env' → Out D := fun ρ => match ρ[i]? with
  | some (.val d) => .ok d
  | some (.own d) => if b = true then .ok d else .bad
  | _ => .bad
theorem SR.var (i : Nat) {x : Str} {pos : Pos} (hN : X.N[i]? = some x := by rfl) (hv : Vis X.env.scope x := by first | exact Or.inl rfl | exact Or.inr (Or.inl rfl) | exact Or.inr (Or.inr rfl)) (hd : (x == ("__debug__" : Str)) = false := by decide)
    (hcd : (x == ("__classdict__" : Str)) = false := by decide) : SR b X W (.Name x pos) (rv b i) := by
  refine SR.imp (pe_var hN hv hd hcd) ?_
  rintro σ H Q ⟨F, ρ, s, q⟩
  unfold rv at q
  split at q
  · rename_i d hd
    obtain ⟨v, e, r⟩ := s.val i d hd
    exact ⟨v, e, q v F H (New.refl s.le) (Rep.mono s.le_bs _ _ r)⟩
  · rename_i d hd
    split at q
    · rename_i hb
      obtain ⟨p, o, e, ho, hn, c⟩ := s.own i d hd
      refine ⟨_, e, q _ F H (New.refl s.le) (Co.rep s.le_bs c ?_)⟩
      unfold bs
      rw [if_pos hb, snap_own ⟨i, d, hd, e⟩]
      exact ho
    · exact q.elim
  · exact q.elim
def rC (d : D) : Env' → Out D := fun _ => .ok d
theorem SR.const {e : Expr} {v : V} {d : D} (h : PE X e (tC v)) (r : ∀ F, Rep X.K F d v) : SR b X W e (rC d) := by
  refine SR.imp h ?_
  rintro σ H Q ⟨F, ρ, s, q⟩
  exact q v F H (New.refl s.le) (r _)
theorem SR.int {i : Int} {j : Nat} {pos : Pos} : SR b X W (.Constant (.int i) j pos) (rC (.int i)) := SR.const pe_int fun _ => mk_int
theorem SR.str {x : Str} {j : Nat} {pos : Pos} : SR b X W (.Constant (.str x) j pos) (rC (.str x)) := SR.const pe_str fun _ => mk_str
theorem SR.bl {x : Bool} {j : Nat} {pos : Pos} : SR b X W (.Constant (.bool x) j pos) (rC (.bl x)) := SR.const pe_bl fun _ => mk_bl
theorem SR.non {j : Nat} {pos : Pos} : SR b X W (.Constant .none j pos) (rC .non) := SR.const pe_non fun _ => mk_non
variable {x y : Expr} {f g : Env' → Out D} {pos : Pos}
theorem SR.bin {op : Operator} {r : R2} {h : D → D → Out D} (ho : OpR X (binaryOp op) r) (P : Pure2 X.K r h) (ha : SR b X W x f) (hb : SR b X W y g) : SR b X W (.BinOp x op y pos) (r2 f g h) :=
  SR.imp (pe_op ho ha.pe hb.pe) (tR2 P)
theorem SO.bin {op : Operator} {r : R2} {h : D → D → Out D} (ho : OpR X (binaryOp op) r) (P : PureO2 X.K r h) (ha : SR b X W x f) (hb : SR b X W y g) : SO b X W (.BinOp x op y pos) (r2 f g h) :=
  SO.imp (pe_op ho ha.pe hb.pe) (tO2 P)
theorem SR.cmp {op : CmpOp} {r : R2} {h : D → D → Out D} (ho : OpR X (compareOp op) r) (P : Pure2 X.K r h) (ha : SR b X W x f) (hb : SR b X W y g) (hm : behindInMarks op y = false := by first | exact nomark _ | rfl) : SR b X W (.Compare x [op] [y] pos) (r2 f g h) :=
  SR.imp (pe_cmpR ho ha.pe hb.pe hm) (tR2 P)
theorem SR.ix (ha : SR b X W x f) (hb : SR b X W y g) (hs : PlainIx y := by exact fun _ _ => rfl) : SR b X W (.Subscript x y pos) (r2 f g gIx) :=
  SR.imp (pe_ix ix_all ha.pe hb.pe hs) (tR2 p_ix)
/-- minus -/
def gNeg : D → Out D
  | .int i => .ok (.int (-i))
  | _ => .bad
theorem SR.neg (ha : SR b X W x f) : SR b X W (.UnaryOp .USub x pos) (r1 f gNeg) := SR.imp (pe_un un_neg ha.pe) (tR1 (by
  intro F H x dx d Q l rx e k
  cases dx <;> first | (unfold gNeg at e; cases e; done) | skip
  cases e
  rw [rep_int rx]
  exact ⟨_, rfl, k _ _ _ (New.refl l) mk_int⟩))
/-- tuples, lists -/
def gTup (xs : List D) : Out D := if xs.length ≤ sizeLine then .ok (.tup xs) else .bad
def gLst (xs : List D) : Out D := if xs.length ≤ sizeLine then .ok (.lst xs) else .bad
variable {es : List Expr} {fs : Env' → Out (List D)}
theorem SR.tup {k : Nat} (h : SRs b X W es fs) : SR b X W (.Tuple es k pos) (rN fs gTup) := SR.imp (pe_tup h.pe) (tRN (r := fun xs H Q => xs.length ≤ sizeLine ∧ ∀ p, H p = none → Q (.ref p) (upd H p (.tup xs))) (by
  intro F H xs ds d Q l rx e k
  unfold gTup at e
  split at e
  · cases e
    refine ⟨by rw [reps_len rx]; assumption, fun p hp => k _ _ _ (New.upd (o := .tup xs) l hp) (mk_tup (.inl (.inl upd_same)) (Reps.mono (Le.updL (l.none hp)) _ _ rx))⟩
  · cases e))
theorem SO.lst (h : SRs b X W es fs) : SO b X W (.List es pos) (rN fs gLst) := SO.imp (pe_lst h.pe) (tON (r := fun xs H Q => xs.length ≤ sizeLine ∧ ∀ p, H p = none → Q (.ref p) (upd H p (.lst xs))) (by
  intro F H xs ds d Q l rx e k
  unfold gLst at e
  split at e
  · cases e
    exact ⟨by rw [reps_len rx]; assumption, fun p hp => k p _ hp ⟨_, rfl, rx⟩⟩
  · cases e))
/-- built-ins by their names -/
theorem SR.callB {id : String} {r : List V → Hp → VK → Prop} {h : List D → Out D} {e : Expr} {x : Str} {p : Pos} (hc : CallR X (.builtin id) r) (P : PureN X.K r h) (hg : Gl X x) (hm : X.mg x = none) (hv : bootBuiltins x = some (.builtin id)) (ha : SRs b X W (e :: es) fs) (hn : x ≠ "__name__" := by decide) (hdb : (x == ("__debug__" : Str)) = false := by decide)
    (he : starEach (e :: es) X.env = (false, eval e X.env) :: starEach es X.env := by rfl) (hpl : (backTo pos (starEach es X.env)).any (·.1) = false := by rfl) : SR b X W (.Call (.Name x p) (e :: es) [] pos) (rN fs h) :=
  SR.imp (pe_callB hc hg hm hv ha.pe hn hdb he hpl) (tRN P)
theorem SO.callB {id : String} {r : List V → Hp → VK → Prop} {h : List D → Out D} {e : Expr} {x : Str} {p : Pos} (hc : CallR X (.builtin id) r) (P : PureON X.K r h) (hg : Gl X x) (hm : X.mg x = none) (hv : bootBuiltins x = some (.builtin id)) (ha : SRs b X W (e :: es) fs) (hn : x ≠ "__name__" := by decide) (hdb : (x == ("__debug__" : Str)) = false := by decide)
    (he : starEach (e :: es) X.env = (false, eval e X.env) :: starEach es X.env := by rfl) (hpl : (backTo pos (starEach es X.env)).any (·.1) = false := by rfl) : SO b X W (.Call (.Name x p) (e :: es) [] pos) (rN fs h) :=
  SO.imp (pe_callB hc hg hm hv ha.pe hn hdb he hpl) (tON P)
theorem SR.callTy {T : String} {r : List V → Hp → VK → Prop} {h : List D → Out D} {e : Expr} {x : Str} {p : Pos} (hc : CallR X (.type T) r) (P : PureN X.K r h) (hg : Gl X x) (hm : X.mg x = none) (hv : bootBuiltins x = some (.type T)) (ha : SRs b X W (e :: es) fs) (hn : x ≠ "__name__" := by decide) (hdb : (x == ("__debug__" : Str)) = false := by decide)
    (he : starEach (e :: es) X.env = (false, eval e X.env) :: starEach es X.env := by rfl) (hpl : (backTo pos (starEach es X.env)).any (·.1) = false := by rfl) : SR b X W (.Call (.Name x p) (e :: es) [] pos) (rN fs h) :=
  SR.imp (pe_callTy hc hg hm hv ha.pe hn hdb he hpl) (tRN P)
theorem SO.callTy {T : String} {r : List V → Hp → VK → Prop} {h : List D → Out D} {e : Expr} {x : Str} {p : Pos} (hc : CallR X (.type T) r) (P : PureON X.K r h) (hg : Gl X x) (hm : X.mg x = none) (hv : bootBuiltins x = some (.type T)) (ha : SRs b X W (e :: es) fs) (hn : x ≠ "__name__" := by decide) (hdb : (x == ("__debug__" : Str)) = false := by decide)
    (he : starEach (e :: es) X.env = (false, eval e X.env) :: starEach es X.env := by rfl) (hpl : (backTo pos (starEach es X.env)).any (·.1) = false := by rfl) : SO b X W (.Call (.Name x p) (e :: es) [] pos) (rN fs h) :=
  SO.imp (pe_callTy hc hg hm hv ha.pe hn hdb he hpl) (tON P)
end
end VL

/-! V5: built-ins, slices, tests. -/
namespace VL
open PySem PySem.Spec L2

/-! ### len, all, any, int, str, list, tuple, isinstance -/
def gLen : List D → Out D
  | [.lst xs] => .ok (.int xs.length)
  | [.tup xs] => .ok (.int xs.length)
  | [.str x] => if x.length ≤ sizeLine then .ok (.int x.length) else .bad
  | _ => .bad
theorem reps1 {K : Fr'} {F : Hp} {x : D} {vs : List V} (h : Reps K F [x] vs) : ∃ v, vs = [v] ∧ Rep K F x v := by
  obtain ⟨v, r, rfl, h1, h2⟩ := reps_cons h
  rw [reps_nil h2]
  exact ⟨v, rfl, h1⟩
theorem reps2 {K : Fr'} {F : Hp} {x y : D} {vs : List V} (h : Reps K F [x, y] vs) : ∃ v w, vs = [v, w] ∧ Rep K F x v ∧ Rep K F y w := by
  obtain ⟨v, r, rfl, h1, h2⟩ := reps_cons h
  obtain ⟨w, rfl, h3⟩ := reps1 h2
  exact ⟨v, w, rfl, h1, h3⟩
theorem p_len {K : Fr'} : PureN K (fun xs H Q => ∃ x n, xs = [x] ∧ LenV K x H n ∧ Q (.int n) H) gLen := by
  intro F H xs ds d Q l rx e k
  unfold gLen at e
  split at e
  · cases e
    obtain ⟨v, rfl, r⟩ := reps1 rx
    obtain ⟨a, vs, rfl, h1, q1⟩ := rep_lst r
    refine ⟨_, _, rfl, .inl ⟨vs, l.seqL h1, rfl⟩, ?_⟩
    rw [reps_len q1]
    exact k _ _ _ (New.refl l) mk_int
  · cases e
    obtain ⟨v, rfl, r⟩ := reps1 rx
    obtain ⟨a, vs, rfl, h1, q1⟩ := rep_tup r
    refine ⟨_, _, rfl, .inr ⟨vs, l.seqT h1, rfl⟩, ?_⟩
    rw [reps_len q1]
    exact k _ _ _ (New.refl l) mk_int
  · split at e
    · rename_i c
      cases e
      obtain ⟨v, rfl, r⟩ := reps1 rx
      rw [rep_str r]
      exact ⟨_, _, rfl, ⟨c, rfl⟩, k _ _ _ (New.refl l) mk_int⟩
    · cases e
  · cases e
def bools : List D → Option (List Bool)
  | [] => some []
  | .bl b :: xs => (bools xs).map (b :: ·)
  | _ :: _ => none
theorem reps_bools {K : Fr'} {F : Hp} : ∀ {xs : List D} {vs : List V} {bs : List Bool}, bools xs = some bs → Reps K F xs vs → vs = bs.map V.bl
  | [], vs, bs, e, h => by
    rw [reps_nil h]
    cases e
    rfl
  | x :: xs, vs, bs, e, h => by
    obtain ⟨v, r, rfl, h1, h3⟩ := reps_cons h
    cases x <;> first | (exact absurd e (by unfold bools; intro z; cases z)) | skip
    unfold bools at e
    cases q : bools xs with
    | none => rw [q] at e; cases e
    | some cs =>
      rw [q] at e
      cases e
      rw [rep_bl h1, reps_bools q h3]
      rfl
def gAll : List D → Out D
  | [.lst xs] => match bools xs with
    | some bs => .ok (.bl (bs.all id))
    | none => .bad
  | _ => .bad
def gAny : List D → Out D
  | [.lst xs] => match bools xs with
    | some bs => .ok (.bl (bs.any id))
    | none => .bad
  | _ => .bad
theorem p_all {K : Fr'} : PureN K (rAll K) gAll := by
  intro F H xs ds d Q l rx e k
  unfold gAll at e
  split at e
  · split at e
    · rename_i bs hb
      cases e
      obtain ⟨v, rfl, r⟩ := reps1 rx
      obtain ⟨a, vs, rfl, h1, q1⟩ := rep_lst r
      refine ⟨a, bs, rfl, ?_, k _ _ _ (New.refl l) mk_bl⟩
      rw [← reps_bools hb q1]
      exact l.seqL h1
    · cases e
  · cases e
theorem p_any {K : Fr'} : PureN K (rAny K) gAny := by
  intro F H xs ds d Q l rx e k
  unfold gAny at e
  split at e
  · split at e
    · rename_i bs hb
      cases e
      obtain ⟨v, rfl, r⟩ := reps1 rx
      obtain ⟨a, vs, rfl, h1, q1⟩ := rep_lst r
      refine ⟨a, bs, rfl, ?_, k _ _ _ (New.refl l) mk_bl⟩
      rw [← reps_bools hb q1]
      exact l.seqL h1
    · cases e
  · cases e
/-- int(..) of an int, a bool, a text -/
def gInt : List D → Out D
  | [.int i] => .ok (.int i)
  | [.bl c] => .ok (.int (if c then 1 else 0))
  | [.str x] => match PySem.intText? x with
    | some n => if x.length ≤ 640 then .ok (.int n) else .bad
    | none => .bad
  | _ => .bad
def rInt : List V → Hp → VK → Prop := fun xs H Q => ((∃ i, xs = [.int i] ∧ Q (.int i) H) ∨ ∃ k, xs = [.bl k] ∧ Q (.int (if k then 1 else 0)) H) ∨ ∃ a n, xs = [.str a] ∧ PySem.intText? a = some n ∧ a.length ≤ 640 ∧ Q (.int n) H
theorem cr_int {X : Cx} : CallR X (.type "int") rInt := by
  intro pins s σ H xs us Q I r h
  rcases h with h | h
  · exact call_int1 pins s σ H xs us Q I r h
  · exact call_int_str pins s σ H xs us Q I r h
theorem p_int {K : Fr'} : PureN K rInt gInt := by
  intro F H xs ds d Q l rx e k
  unfold gInt at e
  split at e
  · cases e
    obtain ⟨v, rfl, r⟩ := reps1 rx
    rw [rep_int r]
    exact .inl (.inl ⟨_, rfl, k _ _ _ (New.refl l) mk_int⟩)
  · cases e
    obtain ⟨v, rfl, r⟩ := reps1 rx
    rw [rep_bl r]
    exact .inl (.inr ⟨_, rfl, k _ _ _ (New.refl l) mk_int⟩)
  · split at e
    · rename_i n hn
      split at e
      · rename_i c
        cases e
        obtain ⟨v, rfl, r⟩ := reps1 rx
        rw [rep_str r]
        exact .inr ⟨_, _, rfl, hn, c, k _ _ _ (New.refl l) mk_int⟩
      · cases e
    · cases e
  · cases e
def gStr : List D → Out D
  | [.int i] => if i.natAbs.log2 < 1920 then .ok (.str (toString i)) else .bad
  | _ => .bad
theorem p_str {K : Fr'} : PureN K (fun xs H Q => ∃ i, xs = [.int i] ∧ i.natAbs.log2 < 1920 ∧ Q (.str (toString i)) H) gStr := by
  intro F H xs ds d Q l rx e k
  unfold gStr at e
  split at e
  · split at e
    · rename_i c
      cases e
      obtain ⟨v, rfl, r⟩ := reps1 rx
      rw [rep_int r]
      exact ⟨_, rfl, c, k _ _ _ (New.refl l) mk_str⟩
    · cases e
  · cases e
/-- list(..) of a list, a tuple; tuple(..) -/
def gList : List D → Out D
  | [.lst xs] => .ok (.lst xs)
  | [.tup xs] => .ok (.lst xs)
  | _ => .bad
theorem p_list {K : Fr'} : PureON K (fun xs H Q => ∃ p ys, xs = [.ref p] ∧ (SqL K H p ys ∨ SqT K H p ys) ∧ ∀ l, H l = none → Q (.ref l) (upd H l (.lst ys))) gList := by
  intro F H xs ds d Q l rx e k
  unfold gList at e
  split at e
  · cases e
    obtain ⟨v, rfl, r⟩ := reps1 rx
    obtain ⟨a, vs, rfl, h1, q1⟩ := rep_lst r
    exact ⟨a, vs, rfl, .inl (l.seqL h1), fun p hp => k p _ hp ⟨vs, rfl, q1⟩⟩
  · cases e
    obtain ⟨v, rfl, r⟩ := reps1 rx
    obtain ⟨a, vs, rfl, h1, q1⟩ := rep_tup r
    exact ⟨a, vs, rfl, .inr (l.seqT h1), fun p hp => k p _ hp ⟨vs, rfl, q1⟩⟩
  · cases e
def gTuple : List D → Out D
  | [.lst xs] => .ok (.tup xs)
  | [.tup xs] => .ok (.tup xs)
  | _ => .bad
theorem p_tuple {K : Fr'} : PureN K (fun xs H Q => ∃ p ys, xs = [.ref p] ∧ ((SqL K H p ys ∧ ∀ l, H l = none → Q (.ref l) (upd H l (.tup ys))) ∨ (SqT K H p ys ∧ Q (.ref p) H))) gTuple := by
  intro F H xs ds d Q l rx e k
  unfold gTuple at e
  split at e
  · cases e
    obtain ⟨v, rfl, r⟩ := reps1 rx
    obtain ⟨a, vs, rfl, h1, q1⟩ := rep_lst r
    exact ⟨a, vs, rfl, .inl ⟨l.seqL h1, fun p hp => k _ _ _ (New.upd (o := .tup vs) l hp) (mk_tup (.inl (.inl upd_same)) (Reps.mono (Le.updL (l.none hp)) _ _ q1))⟩⟩
  · cases e
    obtain ⟨v, rfl, r⟩ := reps1 rx
    obtain ⟨a, vs, rfl, h1, q1⟩ := rep_tup r
    exact ⟨a, vs, rfl, .inr ⟨l.seqT h1, k _ _ _ (New.refl l) (mk_tup h1 q1)⟩⟩
  · cases e
def tyN : D → String
  | .non => "NoneType"
  | .bl _ => "bool"
  | .int _ => "int"
  | .str _ => "str"
  | .tup _ => "tuple"
  | .lst _ => "list"
  | .dic _ => "dict"
  | .dit _ => "dict"
def isDic : D → Bool
  | .dic _ => true
  | .dit _ => true
  | _ => false
def gIsi (T : String) (d : D) : Out D := if isDic d = true then .bad else match kitB (tyN d) T with
  | some c => .ok (.bl c)
  | none => .bad
theorem rep_ty {K : Fr'} {F H : Hp} (l : Le F H) {d : D} {v : V} (h : Rep K F d v) (nd : isDic d = false) : TyX K H v (.type (tyN d)) := by
  cases d with
  | non => rw [rep_non h]; exact .base .non
  | bl c => rw [rep_bl h]; exact .base (.bl c)
  | int i => rw [rep_int h]; exact .base (.int i)
  | str x => rw [rep_str h]; exact .base (.str x)
  | tup xs =>
    obtain ⟨a, vs, rfl, h1, q1⟩ := rep_tup h
    rcases l.seqT h1 with (h1 | ⟨o, h1⟩) | ⟨o, its, n, h1, h2, h3⟩
    · exact .base (.tup h1)
    · exact .fTuple h1
    · exact .kTuple h1 h2
  | lst xs =>
    obtain ⟨a, vs, rfl, h1, q1⟩ := rep_lst h
    rcases l.seqL h1 with (h1 | ⟨o, h1⟩) | ⟨o, its, n, h1, h2, h3, h4⟩
    · exact .base (.lst h1)
    · exact .base (.frz h1)
    · exact .kList h1 h2
  | dic xs => exact absurd (show true = false from nd) (by decide)
  | dit xs => exact absurd (show true = false from nd) (by decide)
section
variable {b : Bool} {X : Cx} {W : WX} {x y : Expr} {f g : Env' → Out D} {pos : Pos}
theorem SR.isi {T : Str} {p q : Pos} (Tn : String) (hg : Gl X "isinstance") (hm : X.mg "isinstance" = none) (hgT : Gl X T) (hmT : X.mg T = none) (hv : bootBuiltins T = some (.type Tn)) (ha : SR b X W x f)
    (hn : T ≠ "__name__" := by decide) (hdb : (T == ("__debug__" : Str)) = false := by decide)
    (h1 : starEach [x, .Name T q] X.env = (false, eval x X.env) :: starEach [.Name T q] X.env := by rfl) (h2 : (backTo pos (starEach [.Name T q] X.env)).any (·.1) = false := by rfl)
    (h3 : starEach [.Name T q] X.env = (false, eval (.Name T q) X.env) :: starEach [] X.env := by rfl) :
    SR b X W (.Call (.Name "isinstance" p) [x, .Name T q] [] pos) (r1 f (gIsi Tn)) :=
  SR.imp (pe_callB call_isi hg hm (by decide +kernel) (pa_cons ha.pe (pa_cons (pe_bltn (v := .ty Tn) hgT hmT hv rfl hn hdb) pa_nil h3) h1) (by decide) (by decide) h1 h2) fun σ H Q h =>
    tR1 (r := fun z H1 Q => rIsi X.K [z, .ty Tn] H1 Q) (by
      intro F H x dx d Q l rx e k
      unfold gIsi at e
      split at e
      · cases e
      · rename_i nd
        split at e
        · rename_i c hc
          cases e
          exact ⟨_, _, _, _, c, rfl, .ty Tn, rep_ty l rx (by simpa using nd), kit_ty hc, k _ _ _ (New.refl l) mk_bl⟩
        · cases e) σ H Q h

/-! ### slices -/
def oI (f : Option (Env' → Out D)) : Env' → Out (Option Int) := fun ρ => match f with
  | none => .ok none
  | some g => (g ρ).bind fun d => match d with
    | .int i => .ok (some i)
    | _ => .bad
structure SRo (b : Bool) (X : Cx) (W : WX) (e : Option Expr) (f : Env' → Out (Option Int)) : Prop where
  po : ∃ t, PO X e t ∧ ∀ σ H (Q : Option Int → Hp → Prop), (∃ F ρ, St2 X.K F H σ ρ ∧ (f ρ).on (fun d => ∀ F' H', New F H F' H' → Q d H') (ExM X.mg W σ ρ F H)) → t σ H Q
theorem SRo.none : SRo b X W none (oI none) := ⟨_, po_none, fun σ H Q ⟨F, ρ, s, q⟩ => q F H (New.refl s.le)⟩
theorem SRo.some (h : SR b X W x f) : SRo b X W (some x) (oI (some f)) := ⟨_, po_some h.pe, fun σ H Q ⟨F, ρ, s, q⟩ => ⟨F, ρ, s, on_imp (on_bind q) (fun d ed q v F' H' n r => by
  cases d <;> first | (exact q.elim) | skip
  exact ⟨_, rep_int r, q F' H' n⟩) fun _ _ _ q => q⟩⟩
def rSl (f : Env' → Out D) (lo hi : Env' → Out (Option Int)) (h : D → Option Int → Option Int → Out D) : Env' → Out D := fun ρ => (f ρ).bind fun x => (lo ρ).bind fun i => (hi ρ).bind fun j => noX (h x i j)
def cutD (xs : List D) (lo hi : Option Int) : List D := (xs.drop (HT.sIx xs.length 0 lo)).take (HT.sIx xs.length xs.length hi - HT.sIx xs.length 0 lo)
theorem reps_cut {K : Fr'} {F : Hp} {xs : List D} {vs : List V} (h : Reps K F xs vs) (lo hi : Option Int) : Reps K F (cutD xs lo hi) (cutV vs lo hi) := by
  unfold cutD cutV
  rw [reps_len h]
  exact reps_take _ (reps_drop _ h)
def gSl : D → Option Int → Option Int → Out D
  | .str z, lo, hi => if z.length ≤ sizeLine then .ok (.str (cutS z lo hi)) else .bad
  | .tup xs, lo, hi => if HT.sIx xs.length 0 lo = 0 ∧ HT.sIx xs.length xs.length hi = xs.length then .ok (.tup xs) else .ok (.tup (cutD xs lo hi))
  | _, _, _ => .bad
def gSlL : D → Option Int → Option Int → Out D
  | .lst xs, lo, hi => .ok (.lst (cutD xs lo hi))
  | _, _, _ => .bad
def rSlST (K : Fr') : V → Option Int → Option Int → Hp → VK → Prop := fun x lo hi H Q => rSlS x lo hi H Q ∨ rSlA K x lo hi H Q
theorem sl_ST : SlR X (rSlST X.K) := SlR.or sl_str sl_tupA
theorem p_sl {K : Fr'} {F H : Hp} {v : V} {dx d : D} {lo hi : Option Int} {Q : VK} (l : Le F H) (rx : Rep K F dx v) (e : gSl dx lo hi = .ok d) (k : ∀ v F' H', New F H F' H' → Rep K F' d v → Q v H') : rSlST K v lo hi H Q := by
  cases dx <;> first | (dsimp only [gSl] at e; cases e; done) | skip
  · rename_i z
    dsimp only [gSl] at e
    split at e
    · rename_i c
      cases e
      rw [rep_str rx]
      exact .inl ⟨z, rfl, c, k _ _ _ (New.refl l) mk_str⟩
    · cases e
  · rename_i xs
    dsimp only [gSl] at e
    obtain ⟨a, vs, rfl, h1, q1⟩ := rep_tup rx
    refine .inr ⟨a, vs, rfl, l.seqT h1, fun w => ?_, fun w p hp => ?_⟩
    · rw [reps_len q1] at w
      rw [if_pos w] at e
      cases e
      exact k _ _ _ (New.refl l) (mk_tup h1 q1)
    · rw [reps_len q1] at w
      rw [if_neg w] at e
      cases e
      exact k _ _ _ (New.upd (o := .tup (cutV vs lo hi)) l hp) (mk_tup (.inl (.inl upd_same)) (Reps.mono (Le.updL (l.none hp)) _ _ (reps_cut q1 lo hi)))
variable {lo hi : Option Expr} {fl fh : Env' → Out (Option Int)} {p2 : Pos}
theorem SR.sl (ha : SR b X W x f) (hl : SRo b X W lo fl) (hh : SRo b X W hi fh) : SR b X W (.Subscript x (.Slice lo hi none p2) pos) (rSl f fl fh gSl) := by
  obtain ⟨tl, pl, kl⟩ := hl.po
  obtain ⟨th, ph, kh⟩ := hh.po
  refine SR.imp (pe_slice sl_ST ha.pe pl ph) ?_
  rintro σ H Q ⟨F, ρ, s, q⟩
  refine ⟨F, ρ, s, on_imp (on_bind q) (fun x ex q v1 F1 H1 n1 rx => kl _ _ _ ⟨F1, ρ, s.new n1, on_imp (on_bind q) (fun i ei q F2 H2 n2 => kh _ _ _ ⟨F2, ρ, (s.new n1).new n2, on_imp (on_bind q) (fun j ej q F3 H3 n3 => ?_) fun _ _ _ q => (q.new n1).new n2⟩) fun _ _ _ q => q.new n1⟩) fun _ _ _ q => q⟩
  obtain ⟨d, ed, q⟩ := noX_on q
  have s1 := s.new n1
  have s2 := s1.new n2
  have s3 := s2.new n3
  refine p_sl s3.bs_le (Rep.mono (bs_new s2 n3) _ _ (Rep.mono (bs_new s1 n2) _ _ rx)) ed fun v F' H' n rv => ?_
  obtain ⟨F'', n4, l⟩ := s3.bnew n
  exact q v _ H' (((n1.trans n2).trans n3).trans n4) (Rep.mono l _ _ rv)
theorem SO.sl (ha : SR b X W x f) (hl : SRo b X W lo fl) (hh : SRo b X W hi fh) : SO b X W (.Subscript x (.Slice lo hi none p2) pos) (rSl f fl fh gSlL) := by
  obtain ⟨tl, pl, kl⟩ := hl.po
  obtain ⟨th, ph, kh⟩ := hh.po
  refine SO.imp (pe_slice sl_list ha.pe pl ph) ?_
  rintro σ H Q ⟨F, ρ, s, q⟩
  refine ⟨F, ρ, s, on_imp (on_bind q) (fun x ex q v1 F1 H1 n1 rx => kl _ _ _ ⟨F1, ρ, s.new n1, on_imp (on_bind q) (fun i ei q F2 H2 n2 => kh _ _ _ ⟨F2, ρ, (s.new n1).new n2, on_imp (on_bind q) (fun j ej q F3 H3 n3 => ?_) fun _ _ _ q => (q.new n1).new n2⟩) fun _ _ _ q => q.new n1⟩) fun _ _ _ q => q⟩
  obtain ⟨d, ed, q⟩ := noX_on q
  have s1 := s.new n1
  have s2 := s1.new n2
  have s3 := s2.new n3
  have rx' := Rep.mono (bs_new (b := b) s2 n3) _ _ (Rep.mono (bs_new s1 n2) _ _ rx)
  cases x <;> first | (dsimp only [gSlL] at ed; cases ed; done) | skip
  rename_i xs
  cases ed
  obtain ⟨a, vs, rfl, h1, q1⟩ := rep_lst rx'
  exact ⟨a, vs, rfl, s3.bs_le.seqL h1, fun p hp => q p _ _ _ ((n1.trans n2).trans n3) hp ⟨_, rfl, reps_cut q1 _ _⟩⟩
end
end VL

/-! V6: tests, bool operators, calls. -/
namespace VL
open PySem PySem.Spec L2

section
variable {K : Fr'} {mg : MG} {W : WX} {b : Bool} {σ : L2.St} {ρ : Env'} {F F1 H H1 : Hp}
theorem on_new {α : Type} {x : Out α} {P P' : α → Prop} (n : New F H F1 H1) (q : x.on P (ExM mg W σ ρ F H)) (k : ∀ a, x = .ok a → P a → P' a) : x.on P' (ExM mg W σ ρ F1 H1) :=
  on_imp q k fun _ _ _ q => q.new n
end

/-! ### tests -/
def asB : D → Out Bool
  | .bl c => .ok c
  | _ => .bad
def bT (f : Env' → Out D) : Env' → Out Bool := fun ρ => (f ρ).bind asB
section
variable {b : Bool} {X : Cx} {W : WX} {x y z : Expr} {f g h : Env' → Out D} {pos : Pos}
theorem SRT.of {e : Expr} {t : TE} (p : PT X e (tB t)) (k : ∀ σ H Q, tR X.K X.mg W b f σ H Q → t σ H Q) : SRT X W e (bT f) := ⟨PT.imp p fun σ H Q ⟨F, ρ, s, q⟩ => k _ _ _ ⟨F, ρ, s, on_imp (on_bind q) (fun d ed q v F' H' n r => by
  cases d <;> first | (exact q.elim) | skip
  exact ⟨_, rep_bl r, q F' H' n⟩) fun _ _ _ q => q⟩⟩
theorem SRT.val {e : Expr} (p : SR b X W e f) (he : ∀ whole, isTrue e X.env whole = (do let v ← whole; standAt e.pos; holding [v] (truthy v)) := by intro _; rfl) : SRT X W e (bT f) := SRT.of (pt_val p.pe he) fun _ _ _ q => q
theorem SRT.cmp {op : CmpOp} {r : R2} {h : D → D → Out D} (ho : OpR X (compareOp op) r) (P : Pure2 X.K r h) (ha : SR b X W x f) (hb : SR b X W y g) (hm : behindInMarks op y = false := by first | exact nomark _ | rfl) : SRT X W (.Compare x [op] [y] pos) (bT (r2 f g h)) :=
  SRT.of (t := tOp r (tR X.K X.mg W b f) (tR X.K X.mg W b g)) (pt_cmpR ho ha.pe hb.pe hm) (tR2 P)
/-- a < b < c -/
def rCh (f g h : Env' → Out D) (o o' : D → D → Out D) : Env' → Out D := fun ρ => (f ρ).bind fun x => (g ρ).bind fun y => (noX (o x y)).bind fun c => match c with
  | .bl true => (h ρ).bind fun z => noX (o' y z)
  | .bl false => .ok (.bl false)
  | _ => .bad
theorem tRch {r r' : R2} {o o' : D → D → Out D} (P : Pure2 X.K r o) (P' : Pure2 X.K r' o') : ∀ σ H Q, tR X.K X.mg W b (rCh f g h o o') σ H Q → tChain r r' (tR X.K X.mg W b f) (tR X.K X.mg W b g) (tR X.K X.mg W b h) σ H Q := by
  rintro σ H Q ⟨F, ρ, s, q⟩
  refine ⟨F, ρ, s, on_imp (on_bind q) (fun x ex q => ?_) (fun _ _ _ q => q)⟩
  intro v1 F1 H1 n1 rx
  have s1 := s.new n1
  refine ⟨F1, ρ, s1, on_new n1 (on_bind q) fun y ey q => ?_⟩
  intro v2 F2 H2 n2 ry
  have s2 := s1.new n2
  obtain ⟨d, ed, q⟩ := noX_on (on_bind q)
  refine P _ _ _ _ _ _ _ _ s2.bs_le (Rep.mono (bs_new s1 n2) _ _ rx) ry ed fun v F' H' n rv => ?_
  obtain ⟨F3, n3, l⟩ := s2.bnew n
  have s3 := s2.new n3
  cases d <;> first | (exact q.elim) | skip
  rename_i c
  refine ⟨c, rep_bl rv, ?_⟩
  cases c with
  | false =>
    rw [if_neg Bool.false_ne_true]
    exact q _ F3 H' ((n1.trans n2).trans n3) mk_bl
  | true =>
    rw [if_pos rfl]
    refine ⟨F3, ρ, s3, on_new ((n1.trans n2).trans n3) (on_bind q) fun z ez q => ?_⟩
    intro v4 F4 H4 n4 rz
    have s4 := s3.new n4
    obtain ⟨d, ed, q⟩ := noX_on q
    refine P' _ _ _ _ _ _ _ _ s4.bs_le (Rep.mono (bs_new s3 n4) _ _ (Rep.mono (bs_new s2 n3) _ _ ry)) rz ed fun v F' H' n rv => ?_
    obtain ⟨F5, n5, l⟩ := s4.bnew n
    exact q v F5 H' ((((n1.trans n2).trans n3).trans n4).trans n5) (Rep.mono l _ _ rv)
theorem SR.chain {op op' : CmpOp} {r r' : R2} {o o' : D → D → Out D} (ho : OpR X (compareOp op) r) (P : Pure2 X.K r o) (ho' : OpR X (compareOp op') r') (P' : Pure2 X.K r' o') (ha : SR b X W x f) (hb : SR b X W y g) (hc : SR b X W z h)
    (hm : lastMarks [op, op'] [y, z] = false := by with_unfolding_all rfl) : SR b X W (.Compare x [op, op'] [y, z] pos) (rCh f g h o o') := SR.imp (pe_chain ho ho' ha.pe hb.pe hc.pe hm) (tRch P P')
theorem SRT.chain {op op' : CmpOp} {r r' : R2} {o o' : D → D → Out D} (ho : OpR X (compareOp op) r) (P : Pure2 X.K r o) (ho' : OpR X (compareOp op') r') (P' : Pure2 X.K r' o') (ha : SR b X W x f) (hb : SR b X W y g) (hc : SR b X W z h)
    (hm : lastMarks [op, op'] [y, z] = false := by with_unfolding_all rfl) : SRT X W (.Compare x [op, op'] [y, z] pos) (bT (rCh f g h o o')) :=
  SRT.of (t := tChain r r' (tR X.K X.mg W b f) (tR X.K X.mg W b g) (tR X.K X.mg W b h)) (pt_chain ho ho' ha.pe hb.pe hc.pe hm) (tRch P P')

/-! ### and, or, not -/
def bAnd (f g : Env' → Out Bool) : Env' → Out Bool := fun ρ => (f ρ).bind fun c => if c = true then g ρ else .ok false
def bOr (f g : Env' → Out Bool) : Env' → Out Bool := fun ρ => (f ρ).bind fun c => if c = true then .ok true else g ρ
def bNot (f : Env' → Out Bool) : Env' → Out Bool := fun ρ => (f ρ).bind fun c => .ok (!c)
structure SRW (X : Cx) (W : WX) (e : Expr) (f : Env' → Out Bool) : Prop where
  pw : PW X e (tRT X.K X.mg W f)
theorem SRW.t {e : Expr} {f : Env' → Out Bool} (h : SRW X W e f) : SRT X W e f := ⟨h.pw.pt⟩
variable {tf tg : Env' → Out Bool} {rest : List Expr}
theorem SRW.and1 (ha : SRT X W x tf) : SRW X W (.BoolOp .And [x] pos) tf := ⟨pw_and1 ha.pe⟩
theorem SRW.or1 (ha : SRT X W x tf) : SRW X W (.BoolOp .Or [x] pos) tf := ⟨pw_or1 ha.pe⟩
theorem SRW.and (ha : SRT X W x tf) (hb : SRW X W (.BoolOp .And (y :: rest) pos) tg) : SRW X W (.BoolOp .And (x :: y :: rest) pos) (bAnd tf tg) := ⟨PW.imp (pw_and ha.pe hb.pw) fun σ H Q ⟨F, ρ, s, q⟩ => ⟨F, ρ, s, on_imp (on_bind q) (fun c ec q F1 H1 n1 => by
  cases c with
  | false => rw [if_neg Bool.false_ne_true]; exact q F1 H1 n1
  | true =>
    rw [if_pos rfl]
    exact ⟨F1, ρ, s.new n1, on_new n1 q fun c ec q F2 H2 n2 => q F2 H2 (n1.trans n2)⟩) fun _ _ _ q => q⟩⟩
theorem SRW.or (ha : SRT X W x tf) (hb : SRW X W (.BoolOp .Or (y :: rest) pos) tg) : SRW X W (.BoolOp .Or (x :: y :: rest) pos) (bOr tf tg) := ⟨PW.imp (pw_or ha.pe hb.pw) fun σ H Q ⟨F, ρ, s, q⟩ => ⟨F, ρ, s, on_imp (on_bind q) (fun c ec q F1 H1 n1 => by
  cases c with
  | true => rw [if_pos rfl]; exact q F1 H1 n1
  | false =>
    rw [if_neg Bool.false_ne_true]
    exact ⟨F1, ρ, s.new n1, on_new n1 q fun c ec q F2 H2 n2 => q F2 H2 (n1.trans n2)⟩) fun _ _ _ q => q⟩⟩
theorem SRT.not (ha : SRT X W x tf) : SRT X W (.UnaryOp .Not x pos) (bNot tf) := ⟨PT.imp (pt_not ha.pe) fun σ H Q ⟨F, ρ, s, q⟩ => ⟨F, ρ, s, on_imp (on_bind q) (fun c ec q F1 H1 n1 => q F1 H1 n1) fun _ _ _ q => q⟩⟩
/-- as values -/
def rAnd (f g : Env' → Out D) : Env' → Out D := fun ρ => (f ρ).bind fun c => match c with
  | .bl true => g ρ
  | .bl false => .ok (.bl false)
  | _ => .bad
def rOr (f g : Env' → Out D) : Env' → Out D := fun ρ => (f ρ).bind fun c => match c with
  | .bl true => .ok (.bl true)
  | .bl false => g ρ
  | _ => .bad
def rNot : D → Out D
  | .bl c => .ok (.bl (!c))
  | _ => .bad
theorem SR.one {op : BoolOp} (ha : SR b X W x f) : SR b X W (.BoolOp op [x] pos) f := ⟨pe_one ha.pe⟩
theorem SR.and (ha : SR b X W x f) (hb : SR b X W (.BoolOp .And (y :: rest) pos) g) : SR b X W (.BoolOp .And (x :: y :: rest) pos) (rAnd f g) := SR.imp (pe_and ha.pe hb.pe) fun σ H Q ⟨F, ρ, s, q⟩ => ⟨F, ρ, s, on_imp (on_bind q) (fun d ed q v F1 H1 n1 r => by
  cases d <;> first | (exact q.elim) | skip
  rename_i c
  refine ⟨c, rep_bl r, ?_⟩
  cases c with
  | false => rw [if_neg Bool.false_ne_true]; exact q _ F1 H1 n1 mk_bl
  | true =>
    rw [if_pos rfl]
    exact ⟨F1, ρ, s.new n1, on_new n1 q fun c ec q v F2 H2 n2 => q v F2 H2 (n1.trans n2)⟩) fun _ _ _ q => q⟩
theorem SR.or (ha : SR b X W x f) (hb : SR b X W (.BoolOp .Or (y :: rest) pos) g) : SR b X W (.BoolOp .Or (x :: y :: rest) pos) (rOr f g) := SR.imp (pe_or ha.pe hb.pe) fun σ H Q ⟨F, ρ, s, q⟩ => ⟨F, ρ, s, on_imp (on_bind q) (fun d ed q v F1 H1 n1 r => by
  cases d <;> first | (exact q.elim) | skip
  rename_i c
  refine ⟨c, rep_bl r, ?_⟩
  cases c with
  | true => rw [if_pos rfl]; exact q _ F1 H1 n1 mk_bl
  | false =>
    rw [if_neg Bool.false_ne_true]
    exact ⟨F1, ρ, s.new n1, on_new n1 q fun c ec q v F2 H2 n2 => q v F2 H2 (n1.trans n2)⟩) fun _ _ _ q => q⟩
theorem SR.not (ha : SR b X W x f) : SR b X W (.UnaryOp .Not x pos) (r1 f rNot) := SR.imp (pe_not ha.pe) (tR1 (r := fun v H1 Q => ∃ c, v = .bl c ∧ Q (.bl (!c)) H1) (by
  intro F H x dx d Q l rx e k
  cases dx <;> first | (unfold rNot at e; cases e; done) | skip
  cases e
  exact ⟨_, rep_bl rx, k _ _ _ (New.refl l) mk_bl⟩))
/-- a if t else b -/
def rIf {α : Type} (t : Env' → Out Bool) (f g : Env' → Out α) : Env' → Out α := fun ρ => (t ρ).bind fun c => if c = true then f ρ else g ρ
theorem SR.ifE (hc : SRT X W z tf) (ha : SR b X W x f) (hb : SR b X W y g) : SR b X W (.IfExp z x y pos) (rIf tf f g) := SR.imp (pe_ifExp hc.pe ha.pe hb.pe) fun σ H Q ⟨F, ρ, s, q⟩ => ⟨F, ρ, s, on_imp (on_bind q) (fun c ec q F1 H1 n1 => by
  cases c with
  | true =>
    rw [if_pos rfl]
    exact ⟨F1, ρ, s.new n1, on_new n1 q fun c ec q v F2 H2 n2 => q v F2 H2 (n1.trans n2)⟩
  | false =>
    rw [if_neg Bool.false_ne_true]
    exact ⟨F1, ρ, s.new n1, on_new n1 q fun c ec q v F2 H2 n2 => q v F2 H2 (n1.trans n2)⟩) fun _ _ _ q => q⟩
theorem SO.ifE (hc : SRT X W z tf) (ha : SO b X W x f) (hb : SO b X W y g) : SO b X W (.IfExp z x y pos) (rIf tf f g) := SO.imp (pe_ifExp hc.pe ha.pe hb.pe) fun σ H Q ⟨F, ρ, s, q⟩ => ⟨F, ρ, s, on_imp (on_bind q) (fun c ec q F1 H1 n1 => by
  cases c with
  | true =>
    rw [if_pos rfl]
    exact ⟨F1, ρ, s.new n1, on_new n1 q fun c ec q p o F2 H2 n2 => q p o F2 H2 (n1.trans n2)⟩
  | false =>
    rw [if_neg Bool.false_ne_true]
    exact ⟨F1, ρ, s.new n1, on_new n1 q fun c ec q p o F2 H2 n2 => q p o F2 H2 (n1.trans n2)⟩) fun _ _ _ q => q⟩
end

/-! ### calls of the program's own defs: nothing is handed back -/
def spF (K : Fr') (mg : MG) (mf : List D → Out D) : Sp := fun vs H Q E => ∃ F ds, Le F H ∧ Reps K F ds vs ∧
  (mf ds).on (fun d => ∀ v F' H', New F H F' H' → Rep K F' d v → Q v H') (fun c fs => ∀ cls xd F' H', New F H F' H' → ExcR mg c fs cls xd → E cls xd H')
def TK (X : Cx) (W : WX) : Prop := ∀ σ, PassesAt (L2.CX X.prog X.w) X σ (WE W σ)
theorem TK.of {X : Cx} {W : WX} (t : Takes X W) : TK X W := fun σ => passAt t σ
theorem TK.zero {X : Cx} : TK X W0 := TK.of takes0
def rF (fs : Env' → Out (List D)) (mf : List D → Out D) : Env' → Out D := fun ρ => (fs ρ).bind mf
section
variable {b : Bool} {X : Cx} {W : WX} {k : Nat} {f : Addr} {fd : FuncData} {ps : List Str} {mf : List D → Out D} {fs : Env' → Out (List D)} {x : Str} {p pos : Pos} {e : Expr} {es : List Expr}
theorem tRF : ∀ σ H Q, tR X.K X.mg W b (rF fs mf) σ H Q → tCallS (spF X.K X.mg mf) (WE W) (tRs X.K X.mg W b fs) σ H Q := by
  rintro σ H Q ⟨F, ρ, s, q⟩
  refine ⟨F, ρ, s, on_imp (on_bind q) (fun ds ed q vs F1 H1 n1 rx => ?_) fun _ _ _ q => q⟩
  have s1 := s.new n1
  refine ⟨_, ds, s1.bs_le, rx, on_imp q (fun d ed q v F' H' n r => ?_) (fun c cs ec q cls xd F' H' n r => ?_)⟩
  · obtain ⟨F2, n2, l⟩ := s1.bnew n
    exact q v F2 H' (n1.trans n2) (Rep.mono l _ _ r)
  · obtain ⟨F2, n2, l⟩ := s1.bnew n
    exact q cls xd σ F2 H' n2.le' rfl (Stp.emp (n1.trans n2)) r
theorem SR.call (G : FnOk X.prog X.w X.K X.mg X.base (L2.CX X.prog X.w) k f fd ps (spF X.K X.mg mf)) (hr : Room k X.A) (hg : Gl X x) (hm : X.mg x = some (.ref f)) (hk : PySem.W.keepIn X.K (.ref f) = true) (hb : Binds X.K fd ps []) (tk : TK X W)
    (ha : SRs b X W (e :: es) fs) (hdb : (x == ("__debug__" : Str)) = false := by decide) (hs : starEach (e :: es) X.env = (false, eval e X.env) :: starEach es X.env := by rfl) (hpl : (backTo pos (starEach es X.env)).any (·.1) = false := by rfl) : SR b X W (.Call (.Name x p) (e :: es) [] pos) (rF fs mf) :=
  SR.imp (pe_callS G hr hg hm hk hb tk ha.pe hdb hs hpl) tRF
end
end VL

/-! V7: expressions that change owned objects; statements. -/
namespace VL
open PySem PySem.Spec L2

/-! data without lists and dicts within -/
mutual
def immut : D → Bool
  | .lst _ => false
  | .dic _ => false
  | .dit _ => false
  | .tup xs => immuts xs
  | _ => true
def immuts : List D → Bool
  | [] => true
  | x :: xs => immut x && immuts xs
end
section
variable {K : Fr'} {F G : Hp} (nt : ∀ a xs, SqT K G a xs → SqT K F a xs)
include nt
mutual
theorem rep_immut : ∀ (d : D) (v : V), immut d = true → Rep K G d v → Rep K F d v
  | .non, v, _, h => by rw [rep_non h]; exact mk_non
  | .bl c, v, _, h => by rw [rep_bl h]; exact mk_bl
  | .int i, v, _, h => by rw [rep_int h]; exact mk_int
  | .str x, v, _, h => by rw [rep_str h]; exact mk_str
  | .tup xs, v, c, h => by
    obtain ⟨a, vs, rfl, h1, q1⟩ := rep_tup h
    exact mk_tup (nt _ _ h1) (reps_immut xs vs c q1)
  | .lst xs, v, c, h => absurd c Bool.false_ne_true
  | .dic xs, v, c, h => absurd c Bool.false_ne_true
  | .dit xs, v, c, h => absurd c Bool.false_ne_true
theorem reps_immut : ∀ (ds : List D) (vs : List V), immuts ds = true → Reps K G ds vs → Reps K F ds vs
  | [], vs, _, h => by rw [reps_nil h]; exact mk_nil
  | x :: xs, vs, c, h => by
    obtain ⟨v, r, rfl, h1, h3⟩ := reps_cons h
    unfold immuts at c
    rw [Bool.and_eq_true] at c
    exact mk_cons (rep_immut x v c.1 h1) (reps_immut xs r c.2 h3)
end
end
/-- an owned object is no tuple -/
theorem co_notup {K : Fr'} {F : Hp} {d : D} {o : HO} (c : Co K F d o) : (∀ xs, o ≠ .tup xs) ∧ ∀ u xs, o ≠ .frz u (.tup xs) := by
  cases d <;> first | (exact c.elim) | skip
  · obtain ⟨vs, rfl, _⟩ := c
    exact ⟨fun _ z => (nomatch z), fun _ _ z => (nomatch z)⟩
  · obtain ⟨vs, rfl, _⟩ := c
    exact ⟨fun _ z => (nomatch z), fun _ _ z => (nomatch z)⟩
  · obtain ⟨vs, rfl, _⟩ := c
    exact ⟨fun _ z => (nomatch z), fun _ _ z => (nomatch z)⟩
theorem bs_tup {K : Fr'} {F H : Hp} {σ : L2.St} {ρ : Env'} {b : Bool} (s : St2 K F H σ ρ) : ∀ a xs, SqT K (bs b F H σ ρ) a xs → SqT K F a xs := fun a xs h => by
  cases b with
  | false => exact h
  | true =>
    rcases h with h | h
    · by_cases w : Owned σ ρ a
      · obtain ⟨i, d, h1, h2⟩ := id w
        obtain ⟨p, o, e, ho, hn, c⟩ := s.own i d h1
        rw [e] at h2
        cases h2
        have h' : Rd H a (.tup xs) := Rd.congr (snap_own w) h
        rcases h' with h' | ⟨u, h'⟩
        · rw [ho] at h'
          cases h'
          exact absurd rfl ((co_notup c).1 _)
        · rw [ho] at h'
          cases h'
          exact absurd rfl ((co_notup c).2 _ _)
      · exact .inl (Rd.congr (snap_not w) h)
    · exact .inr h
/-- the items of a content are of no list -/
def topIm : D → Bool
  | .lst xs => immuts xs
  | .dic xs => immuts xs
  | .dit xs => immuts xs
  | d => immut d
def mOf (b : Bool) (f : Env' → Out D) : Env' → Out (D × Env') := fun ρ => (f ρ).bind fun d => if b = false ∨ immut d = true then .ok (d, ρ) else .bad
def mOfO (b : Bool) (f : Env' → Out D) : Env' → Out (D × Env') := fun ρ => (f ρ).bind fun d => if b = false ∨ topIm d = true then .ok (d, ρ) else .bad
theorem repK_immut {K : Fr'} {F G : Hp} (nt : ∀ a xs, SqT K G a xs → SqT K F a xs) : ∀ (ds : List D) (vs : List (Key × V)), immuts ds = true → RepK K G ds vs → RepK K F ds vs
  | [], vs, _, h => by unfold RepK at h ⊢; exact h
  | .tup [k, d] :: xs, vs, c, h => by
    unfold RepK at h ⊢
    obtain ⟨q, v, r, e, e2, h1, h2⟩ := h
    have c : ((immut k && (immut d && true)) && immuts xs) = true := c
    rw [Bool.and_eq_true, Bool.and_eq_true, Bool.and_eq_true] at c
    exact ⟨q, v, r, e, e2, rep_immut nt d v c.1.2.1 h1, repK_immut nt xs r c.2 h2⟩
  | .non :: _, _, _, h => by unfold RepK at h; exact h.elim
  | .bl _ :: _, _, _, h => by unfold RepK at h; exact h.elim
  | .int _ :: _, _, _, h => by unfold RepK at h; exact h.elim
  | .str _ :: _, _, _, h => by unfold RepK at h; exact h.elim
  | .lst _ :: _, _, _, h => by unfold RepK at h; exact h.elim
  | .dic _ :: _, _, _, h => by unfold RepK at h; exact h.elim
  | .dit _ :: _, _, _, h => by unfold RepK at h; exact h.elim
  | .tup [] :: _, _, _, h => by unfold RepK at h; exact h.elim
  | .tup [_] :: _, _, _, h => by unfold RepK at h; exact h.elim
  | .tup (_ :: _ :: _ :: _) :: _, _, _, h => by unfold RepK at h; exact h.elim
theorem repT_immut {K : Fr'} {F G : Hp} (nt : ∀ a xs, SqT K G a xs → SqT K F a xs) : ∀ (ds : List D) (vs : List (List Key × V)), immuts ds = true → RepT K G ds vs → RepT K F ds vs
  | [], vs, _, h => by unfold RepT at h ⊢; exact h
  | .tup [k, d] :: xs, vs, c, h => by
    unfold RepT at h ⊢
    obtain ⟨q, v, r, e, e2, h1, h2⟩ := h
    have c : ((immut k && (immut d && true)) && immuts xs) = true := c
    rw [Bool.and_eq_true, Bool.and_eq_true, Bool.and_eq_true] at c
    exact ⟨q, v, r, e, e2, rep_immut nt d v c.1.2.1 h1, repT_immut nt xs r c.2 h2⟩
  | .non :: _, _, _, h => by unfold RepT at h; exact h.elim
  | .bl _ :: _, _, _, h => by unfold RepT at h; exact h.elim
  | .int _ :: _, _, _, h => by unfold RepT at h; exact h.elim
  | .str _ :: _, _, _, h => by unfold RepT at h; exact h.elim
  | .lst _ :: _, _, _, h => by unfold RepT at h; exact h.elim
  | .dic _ :: _, _, _, h => by unfold RepT at h; exact h.elim
  | .dit _ :: _, _, _, h => by unfold RepT at h; exact h.elim
  | .tup [] :: _, _, _, h => by unfold RepT at h; exact h.elim
  | .tup [_] :: _, _, _, h => by unfold RepT at h; exact h.elim
  | .tup (_ :: _ :: _ :: _) :: _, _, _, h => by unfold RepT at h; exact h.elim
theorem co_immut {K : Fr'} {F G : Hp} (nt : ∀ a xs, SqT K G a xs → SqT K F a xs) {d : D} {o : HO} (c : Co K G d o) (im : topIm d = true) : Co K F d o := by
  cases d <;> first | (exact c.elim) | skip
  · obtain ⟨vs, rfl, r⟩ := c
    exact ⟨vs, rfl, reps_immut nt _ _ im r⟩
  · obtain ⟨vs, rfl, r⟩ := c
    exact ⟨vs, rfl, repK_immut nt _ _ im r⟩
  · obtain ⟨vs, rfl, r⟩ := c
    exact ⟨vs, rfl, repT_immut nt _ _ im r⟩
section
variable {b : Bool} {X : Cx} {W : WX} {x y z e : Expr} {f g : Env' → Out D} {pos : Pos}
theorem SR.m (h : SR b X W e f) : SM X W e (mOf b f) := SM.imp h.pe fun σ H Q ⟨F, ρ, s, q⟩ => ⟨F, ρ, s, on_imp (on_bind q) (fun d ed q v F' H' n r => by
  split at q
  · rename_i c
    have s' := s.new n
    refine q v F' H' s' ?_ (n.stp σ ρ)
    rcases c with c | c
    · subst c
      exact r
    · exact rep_immut (bs_tup s') d v c r
  · exact q.elim) fun _ _ _ q => q⟩
theorem SO.m (h : SO b X W e f) : SM X W e (mOfO b f) := SM.imp h.pe fun σ H Q ⟨F, ρ, s, q⟩ => ⟨F, ρ, s, on_imp (on_bind q) (fun d ed q p o F' H' n hp c => by
  split at q
  · rename_i w
    have s' := s.new n
    have c' : Co X.K F' d o := by
      rcases w with w | w
      · subst w
        exact c
      · exact co_immut (bs_tup s') c w
    have ⟨n2, r⟩ := Co.laid s'.le hp c'
    exact q _ _ _ (s'.new n2) r ((n.trans n2).stp σ ρ)
  · exact q.elim) fun _ _ _ q => q⟩

/-! ### operators over changing parts -/
theorem on_stp {mg : MG} {α : Type} {x : Out α} {P P' : α → Prop} {σ σ1 : L2.St} {ρ ρ1 : Env'} {F F1 H H1 : Hp} (n : Stp σ ρ F H σ1 ρ1 F1 H1) (l : σ1.length = σ.length) (m : ρ1.length = ρ.length) (q : x.on P (ExM mg W σ ρ F H)) (k : ∀ a, x = .ok a → P a → P' a) : x.on P' (ExM mg W σ1 ρ1 F1 H1) :=
  on_imp q k fun _ _ _ q => q.on n l m
theorem St2.rlen {K : Fr'} {F F1 H H1 : Hp} {σ : L2.St} {ρ ρ1 : Env'} (s : St2 K F H σ ρ) (s1 : St2 K F1 H1 σ ρ1) : ρ1.length = ρ.length := by rw [← s.len, s1.len]
def m2 (f g : Env' → Out (D × Env')) (h : D → D → Out D) : Env' → Out (D × Env') := fun ρ => (f ρ).bind fun x => (g x.2).bind fun y => (noX (h x.1 y.1)).bind fun d => .ok (d, y.2)
def m1 (f : Env' → Out (D × Env')) (h : D → Out D) : Env' → Out (D × Env') := fun ρ => (f ρ).bind fun x => (noX (h x.1)).bind fun d => .ok (d, x.2)
variable {mf mg' : Env' → Out (D × Env')}
theorem tM1 {r : V → Hp → VK → Prop} {h : D → Out D} (P : Pure1 X.K r h) : ∀ σ H Q, tM X.K X.mg W (m1 mf h) σ H Q → tM X.K X.mg W mf σ H fun x H1 => r x H1 Q := by
  rintro σ H Q ⟨F, ρ, s, q⟩
  refine ⟨F, ρ, s, on_imp (on_bind q) (fun x ex q v1 F1 H1 s1 rx p1 => ?_) (fun _ _ _ q => q)⟩
  obtain ⟨d, ed, q⟩ := noX_on (on_bind q)
  refine P _ _ _ _ _ _ s1.le rx ed fun v F' H' n rv => ?_
  exact q v F' H' (s1.new n) rv (p1.trans (n.stp σ _))
theorem tM2 {r : V → V → Hp → VK → Prop} {h : D → D → Out D} (P : Pure2 X.K r h) : ∀ σ H Q, tM X.K X.mg W (m2 mf mg' h) σ H Q → tOp r (tM X.K X.mg W mf) (tM X.K X.mg W mg') σ H Q := by
  rintro σ H Q ⟨F, ρ, s, q⟩
  refine ⟨F, ρ, s, on_imp (on_bind q) (fun x ex q v1 F1 H1 s1 rx p1 => ?_) (fun _ _ _ q => q)⟩
  refine ⟨F1, x.2, s1, on_stp p1 rfl (s.rlen s1) (on_bind q) fun y ey q v2 F2 H2 s2 ry p2 => ?_⟩
  obtain ⟨d, ed, q⟩ := noX_on (on_bind q)
  refine P _ _ _ _ _ _ _ _ s2.le (Rep.mono p2.le _ _ rx) ry ed fun v F' H' n rv => ?_
  exact q v F' H' (s2.new n) rv ((p1.trans p2).trans (n.stp σ _))
theorem SM.bin {op : Operator} {r : R2} {h : D → D → Out D} (ho : OpR X (binaryOp op) r) (P : Pure2 X.K r h) (ha : SM X W x mf) (hb : SM X W y mg') : SM X W (.BinOp x op y pos) (m2 mf mg' h) := SM.imp (pe_op ho ha.pe hb.pe) (tM2 P)
theorem SM.cmp {op : CmpOp} {r : R2} {h : D → D → Out D} (ho : OpR X (compareOp op) r) (P : Pure2 X.K r h) (ha : SM X W x mf) (hb : SM X W y mg') (hm : behindInMarks op y = false := by first | exact nomark _ | rfl) : SM X W (.Compare x [op] [y] pos) (m2 mf mg' h) := SM.imp (pe_cmpR ho ha.pe hb.pe hm) (tM2 P)
theorem SM.ix (ha : SM X W x mf) (hb : SM X W y mg') (hs : PlainIx y := by exact fun _ _ => rfl) : SM X W (.Subscript x y pos) (m2 mf mg' gIx) := SM.imp (pe_ix ix_all ha.pe hb.pe hs) (tM2 p_ix)
/-- argument lists -/
def mNil : Env' → Out (List D × Env') := fun ρ => .ok ([], ρ)
def mCons (f : Env' → Out (D × Env')) (g : Env' → Out (List D × Env')) : Env' → Out (List D × Env') := fun ρ => (f ρ).bind fun x => (g x.2).bind fun xs => .ok (x.1 :: xs.1, xs.2)
variable {es : List Expr} {ms : Env' → Out (List D × Env')}
theorem SMs.nil : SMs X W [] mNil := ⟨PA.imp pa_nil fun σ H Q ⟨F, ρ, s, q⟩ => q [] F H s mk_nil (Stp.refl _ _ _ _)⟩
theorem SMs.cons (ha : SM X W e mf) (hr : SMs X W es ms) (hs : starEach (e :: es) X.env = (false, eval e X.env) :: starEach es X.env := by rfl) : SMs X W (e :: es) (mCons mf ms) :=
  ⟨PA.imp (pa_cons ha.pe hr.pe hs) fun σ H Q ⟨F, ρ, s, q⟩ => ⟨F, ρ, s, on_imp (on_bind q) (fun x ex q v1 F1 H1 s1 rx p1 => ⟨F1, x.2, s1, on_stp p1 rfl (s.rlen s1) (on_bind q) fun y ey q v2 F2 H2 s2 ry p2 =>
    q (v1 :: v2) F2 H2 s2 (mk_cons (Rep.mono p2.le _ _ rx) ry) (p1.trans p2)⟩) (fun _ _ _ q => q)⟩⟩
def mN (f : Env' → Out (List D × Env')) (h : List D → Out D) : Env' → Out (D × Env') := fun ρ => (f ρ).bind fun x => (noX (h x.1)).bind fun d => .ok (d, x.2)
theorem tMN {r : List V → Hp → VK → Prop} {h : List D → Out D} (P : PureN X.K r h) : ∀ σ H Q, tM X.K X.mg W (mN ms h) σ H Q → tMs X.K X.mg W ms σ H fun xs H1 => r xs H1 Q := by
  rintro σ H Q ⟨F, ρ, s, q⟩
  refine ⟨F, ρ, s, on_imp (on_bind q) (fun x ex q v1 F1 H1 s1 rx p1 => ?_) (fun _ _ _ q => q)⟩
  obtain ⟨d, ed, q⟩ := noX_on (on_bind q)
  refine P _ _ _ _ _ _ s1.le rx ed fun v F' H' n rv => ?_
  exact q v F' H' (s1.new n) rv (p1.trans (n.stp σ _))
theorem tMNO {r : List V → Hp → VK → Prop} {h : List D → Out D} (P : PureON X.K r h) : ∀ σ H Q, tM X.K X.mg W (mN ms h) σ H Q → tMs X.K X.mg W ms σ H fun xs H1 => r xs H1 Q :=
  tMN fun F H xs ds d Q l rx ed k => P F H xs ds d Q l rx ed fun p o hp c => k _ _ _ (Co.laid l hp c).1 (Co.laid l hp c).2
theorem SM.tup {k : Nat} (h : SMs X W es ms) : SM X W (.Tuple es k pos) (mN ms gTup) := SM.imp (pe_tup h.pe) (tMN (r := fun xs H Q => xs.length ≤ sizeLine ∧ ∀ p, H p = none → Q (.ref p) (upd H p (.tup xs))) (by
  intro F H xs ds d Q l rx e k
  unfold gTup at e
  split at e
  · cases e
    refine ⟨by rw [reps_len rx]; assumption, fun p hp => k _ _ _ (New.upd (o := .tup xs) l hp) (mk_tup (.inl (.inl upd_same)) (Reps.mono (Le.updL (l.none hp)) _ _ rx))⟩
  · cases e))
theorem SM.lst (h : SMs X W es ms) : SM X W (.List es pos) (mN ms gLst) := SM.imp (pe_lst h.pe) (tMNO (r := fun xs H Q => xs.length ≤ sizeLine ∧ ∀ p, H p = none → Q (.ref p) (upd H p (.lst xs))) (by
  intro F H xs ds d Q l rx e k
  unfold gLst at e
  split at e
  · cases e
    exact ⟨by rw [reps_len rx]; assumption, fun p hp => k p _ hp ⟨_, rfl, rx⟩⟩
  · cases e))
theorem SM.callTy {T : String} {r : List V → Hp → VK → Prop} {h : List D → Out D} {n : Str} {p : Pos} (hc : CallR X (.type T) r) (P : PureN X.K r h) (hg : Gl X n) (hm : X.mg n = none) (hv : bootBuiltins n = some (.type T)) (ha : SMs X W (e :: es) ms) (hn : n ≠ "__name__" := by decide) (hdb : (n == ("__debug__" : Str)) = false := by decide)
    (he : starEach (e :: es) X.env = (false, eval e X.env) :: starEach es X.env := by rfl) (hpl : (backTo pos (starEach es X.env)).any (·.1) = false := by rfl) : SM X W (.Call (.Name n p) (e :: es) [] pos) (mN ms h) := SM.imp (pe_callTy hc hg hm hv ha.pe hn hdb he hpl) (tMN P)
/-- a list that is owned, at a place: the item is nobody's but the list's, and stays -/
def mIxO (i : Nat) (g : Env' → Out D) : Env' → Out (D × Env') := fun ρ => match ρ[i]? with
  | some (.own (.lst xs)) => (g ρ).bind fun y => match y with
    | .int j => match atI xs j with
      | some d => .ok (d, ρ)
      | none => .bad
    | _ => .bad
  | _ => .bad
theorem SM.ixO (i : Nat) {n : Str} {p : Pos} (hb : SR false X W y g) (hN : X.N[i]? = some n := by rfl) (hv : Vis X.env.scope n := by first | exact Or.inl rfl | exact Or.inr (Or.inl rfl) | exact Or.inr (Or.inr rfl)) (hd : (n == ("__debug__" : Str)) = false := by decide)
    (hcd : (n == ("__classdict__" : Str)) = false := by decide) (hs : PlainIx y := by exact fun _ _ => rfl) : SM X W (.Subscript (.Name n p) y pos) (mIxO i g) := by
  refine SM.imp (pe_ix ix_list (pe_var hN hv hd hcd) hb.pe hs) ?_
  rintro σ H Q ⟨F, ρ, s, q⟩
  unfold mIxO at q
  split at q
  · rename_i xs hx
    obtain ⟨p, o, e, ho, hn, vs, rfl, rv⟩ := s.own i _ hx
    refine ⟨_, e, F, ρ, s, on_imp (on_bind q) (fun y ey q v F1 H1 n1 ry => ?_) fun _ _ _ q => q⟩
    cases y <;> first | (exact q.elim) | skip
    rename_i j
    dsimp only at q
    split at q
    · rename_i d hd
      obtain ⟨w, hw, rw'⟩ := reps_atI rv hd
      exact ⟨p, vs, j, w, rfl, rep_int ry, .inl (.inl (n1.kp _ _ ho)), hw, q w F1 H1 (s.new n1) (Rep.mono n1.le _ _ rw') (n1.stp σ ρ)⟩
    · exact q.elim
  · exact q.elim
/-- tests -/
def bMT (f : Env' → Out (D × Env')) : Env' → Out (Bool × Env') := fun ρ => (f ρ).bind fun x => (asB x.1).bind fun c => .ok (c, x.2)
def mT (f : Env' → Out Bool) : Env' → Out (Bool × Env') := fun ρ => (f ρ).bind fun c => .ok (c, ρ)
theorem SRT.m {f : Env' → Out Bool} (h : SRT X W e f) : SMT X W e (mT f) := ⟨PT.imp h.pe fun σ H Q ⟨F, ρ, s, q⟩ => ⟨F, ρ, s, on_imp (on_bind q) (fun c ec q F' H' n => q F' H' (s.new n) (n.stp σ ρ)) fun _ _ _ q => q⟩⟩
theorem SMT.cmp {op : CmpOp} {r : R2} {h : D → D → Out D} (ho : OpR X (compareOp op) r) (P : Pure2 X.K r h) (ha : SM X W x mf) (hb : SM X W y mg') (hm : behindInMarks op y = false := by first | exact nomark _ | rfl) : SMT X W (.Compare x [op] [y] pos) (bMT (m2 mf mg' h)) :=
  ⟨PT.imp (pt_cmpR ho ha.pe hb.pe hm) fun σ H Q ⟨F, ρ, s, q⟩ => tM2 P σ H _ ⟨F, ρ, s, on_imp (on_bind q) (fun x ex q v F' H' s' r p => by
    obtain ⟨d, ρ'⟩ := x
    cases d <;> first | (exact q.elim) | skip
    exact ⟨_, rep_bl r, q F' H' s' p⟩) fun _ _ _ q => q⟩⟩
end
end VL

/-! V8: statements. -/
namespace VL
open PySem PySem.Spec L2

section
variable {K : Fr'} {F H : Hp} {σ : L2.St} {ρ : Env'}
theorem at_set {α : Type} {l : List α} {i j : Nat} {a c : α} (h : (l.set i a)[j]? = some c) : (j = i ∧ i < l.length ∧ c = a) ∨ (j ≠ i ∧ l[j]? = some c) := by
  rw [List.getElem?_set] at h
  by_cases e : i = j
  · rw [if_pos e] at h
    split at h
    · rename_i hl
      exact .inl ⟨e.symm, hl, (Option.some.inj h).symm⟩
    · cases h
  · rw [if_neg e] at h
    exact .inr ⟨fun z => e z.symm, h⟩
theorem set_ne {α : Type} {l : List α} {i j : Nat} {a : α} (h : j ≠ i) : (l.set i a)[j]? = l[j]? := by rw [List.getElem?_set, if_neg fun z => h z.symm]
theorem set_eq {α : Type} {l : List α} {i : Nat} {a : α} (h : i < l.length) : (l.set i a)[i]? = some a := by rw [List.getElem?_set, if_pos rfl, if_pos h]
theorem Fix.set {prot : List Nat} {i : Nat} {v : Option V} (h : i ∉ prot) : Fix prot σ (σ.set i v) := ⟨by rw [List.length_set], fun j hj => set_ne fun e => h (e ▸ hj)⟩
/-- a name gets a value -/
theorem St2.setV (s : St2 K F H σ ρ) {d : D} {v : V} (r : Rep K F d v) (i : Nat) : St2 K F H (σ.set i (some v)) (ρ.set i (.val d)) where
  le := s.le
  len := by rw [List.length_set, List.length_set]; exact s.len
  val := fun j e h => by
    rcases at_set h with ⟨rfl, hl, he⟩ | ⟨hj, h⟩
    · cases he
      exact ⟨v, set_eq (by rw [s.len]; exact hl), r⟩
    · rw [set_ne hj]
      exact s.val j e h
  own := fun j e h => by
    rcases at_set h with ⟨rfl, hl, he⟩ | ⟨hj, h⟩
    · cases he
    · rw [set_ne hj]
      exact s.own j e h
  sep := fun j k p d' e hjk h1 h2 h3 => by
    rcases at_set h1 with ⟨rfl, hl, he⟩ | ⟨hj, h1⟩
    · cases he
    rcases at_set h2 with ⟨rfl, hl, he⟩ | ⟨hk, h2⟩
    · cases he
    rw [set_ne hk]
    rw [set_ne hj] at h3
    exact s.sep j k p d' e hjk h1 h2 h3
theorem owned_set {i : Nat} {d : D} {v : Option V} {b : Addr} (h : Owned (σ.set i v) (ρ.set i (.val d)) b) : Owned σ ρ b := by
  obtain ⟨j, e, h1, h2⟩ := h
  rcases at_set h1 with ⟨rfl, hl, he⟩ | ⟨hj, h1⟩
  · cases he
  · rw [set_ne hj] at h2
    exact ⟨j, e, h1, h2⟩
theorem Stp.setV {d : D} {v : V} (i : Nat) : Stp σ ρ F H (σ.set i (some v)) (ρ.set i (.val d)) F H :=
  ⟨Le.refl _, fun _ _ h _ => h, fun _ h => .inl h, fun _ h => .inl (owned_set h), fun _ h => h⟩
/-- a name gets a new object of its own -/
theorem St2.setO (s : St2 K F H σ ρ) {d : D} {p : Addr} {o : HO} (hp : H p = none) (c : Co K F d o) (i : Nat) : St2 K F (upd H p o) (σ.set i (some (.ref p))) (ρ.set i (.own d)) where
  le := s.le.updR (s.le.none hp)
  len := by rw [List.length_set, List.length_set]; exact s.len
  val := fun j e h => by
    rcases at_set h with ⟨rfl, hl, he⟩ | ⟨hj, h⟩
    · cases he
    · rw [set_ne hj]
      exact s.val j e h
  own := fun j e h => by
    rcases at_set h with ⟨rfl, hl, he⟩ | ⟨hj, h⟩
    · cases he
      exact ⟨p, o, set_eq (by rw [s.len]; exact hl), upd_same, s.le.none hp, c⟩
    · obtain ⟨q, u, h1, h2, h3, h4⟩ := s.own j e h
      rw [set_ne hj]
      exact ⟨q, u, h1, by rw [upd_ne (ne_of_none h2 hp)]; exact h2, h3, h4⟩
  sep := fun j k q d' e hjk h1 h2 h3 h4 => by
    rcases at_set h1 with ⟨ej, hl, he⟩ | ⟨hj, w1⟩
    · rcases at_set h2 with ⟨ek, hl2, he2⟩ | ⟨hk, w2⟩
      · exact hjk (ej.trans ek.symm)
      · rw [ej, set_eq (by rw [s.len]; exact hl)] at h3
        rw [set_ne hk] at h4
        cases h3
        obtain ⟨q, u, g1, g2, _⟩ := s.own k e w2
        rw [h4] at g1
        cases g1
        rw [hp] at g2
        cases g2
    · rw [set_ne hj] at h3
      rcases at_set h2 with ⟨ek, hl2, he2⟩ | ⟨hk, w2⟩
      · rw [ek, set_eq (by rw [s.len]; exact hl2)] at h4
        cases h4
        obtain ⟨q, u, g1, g2, _⟩ := s.own j d' w1
        rw [h3] at g1
        cases g1
        rw [hp] at g2
        cases g2
      · rw [set_ne hk] at h4
        exact s.sep j k q d' e hjk w1 w2 h3 h4
theorem Stp.setO (s : St2 K F H σ ρ) {d : D} {p : Addr} {o : HO} (hp : H p = none) (i : Nat) : Stp σ ρ F H (σ.set i (some (.ref p))) (ρ.set i (.own d)) F (upd H p o) where
  le := Le.refl _
  kp := fun b u h _ => by rw [upd_ne (ne_of_none h hp)]; exact h
  fr := fun _ h => .inl h
  ow := fun b ⟨j, e, h1, h2⟩ => by
    rcases at_set h1 with ⟨rfl, hl, he⟩ | ⟨hj, h1⟩
    · rw [set_eq (by rw [s.len]; exact hl)] at h2
      cases h2
      exact .inr hp
    · rw [set_ne hj] at h2
      exact .inl ⟨j, e, h1, h2⟩
  al := fun b h e => by
    by_cases q : b = p
    · subst q
      exact h hp
    · rw [upd_ne q] at e
      exact h e
/-- an owned object changes -/
theorem St2.updO (s : St2 K F H σ ρ) {i : Nat} {d d' : D} {p : Addr} {o' : HO} (hi : ρ[i]? = some (Cell.own d)) (hp : σ[i]? = some (some (V.ref p))) (c : Co K F d' o') : St2 K F (upd H p o') σ (ρ.set i (.own d')) where
  le := s.le.updR (s.owned_none ⟨i, d, hi, hp⟩)
  len := by rw [List.length_set]; exact s.len
  val := fun j e h => by
    rcases at_set h with ⟨rfl, hl, he⟩ | ⟨hj, h⟩
    · cases he
    · exact s.val j e h
  own := fun j e h => by
    rcases at_set h with ⟨rfl, hl, he⟩ | ⟨hj, h⟩
    · cases he
      exact ⟨p, o', hp, upd_same, s.owned_none ⟨_, d, hi, hp⟩, c⟩
    · obtain ⟨q, u, h1, h2, h3, h4⟩ := s.own j e h
      refine ⟨q, u, h1, ?_, h3, h4⟩
      rw [upd_ne fun z => s.sep i j p d e (Ne.symm hj) hi h hp (by rw [h1, z])]
      exact h2
  sep := fun j k q d1 e hjk h1 h2 h3 => by
    rcases at_set h1 with ⟨ej, hl, he⟩ | ⟨hj, w1⟩
    · rcases at_set h2 with ⟨ek, hl2, he2⟩ | ⟨hk, w2⟩
      · exact absurd (ej.trans ek.symm) hjk
      · exact s.sep j k q d e hjk (ej ▸ hi) w2 h3
    · rcases at_set h2 with ⟨ek, hl2, he2⟩ | ⟨hk, w2⟩
      · exact s.sep j k q d1 d hjk w1 (ek ▸ hi) h3
      · exact s.sep j k q d1 e hjk w1 w2 h3
theorem Stp.updO (s : St2 K F H σ ρ) {i : Nat} {d d' : D} {p : Addr} {o' : HO} (hi : ρ[i]? = some (Cell.own d)) (hp : σ[i]? = some (some (V.ref p))) : Stp σ ρ F H σ (ρ.set i (.own d')) F (upd H p o') where
  le := Le.refl _
  kp := fun b u h n => by
    rw [upd_ne fun (z : b = p) => n ⟨i, d, hi, by rw [z]; exact hp⟩]
    exact h
  fr := fun _ h => .inl h
  ow := fun b ⟨j, e, h1, h2⟩ => by
    rcases at_set h1 with ⟨rfl, hl, he⟩ | ⟨hj, h1⟩
    · exact .inl ⟨_, d, hi, h2⟩
    · exact .inl ⟨j, e, h1, h2⟩
  al := fun b h e => by
    by_cases q : b = p
    · subst q
      rw [upd_same] at e
      cases e
    · rw [upd_ne q] at e
      exact h e
/-- an owned object is frozen -/
theorem St2.frz (s : St2 K F H σ ρ) {i : Nat} {d : D} {p : Addr} {o : HO} (hi : ρ[i]? = some (Cell.own d)) (hp : σ[i]? = some (some (V.ref p))) (ho : H p = some o) (c : Co K F d o) : St2 K (upd F p o) H σ (ρ.set i (.val d)) where
  le := fun a u h => by
    by_cases e : a = p
    · subst e
      exact Rd.congr (upd_same.trans ho.symm) h
    · exact s.le a u (Rd.congr (upd_ne e) h)
  len := by rw [List.length_set]; exact s.len
  val := fun j e h => by
    rcases at_set h with ⟨rfl, hl, he⟩ | ⟨hj, h⟩
    · cases he
      exact ⟨_, hp, Co.rep (Le.updL (s.owned_none ⟨_, d, hi, hp⟩)) c upd_same⟩
    · obtain ⟨v, e1, r⟩ := s.val j e h
      exact ⟨v, e1, Rep.mono (Le.updL (s.owned_none ⟨_, d, hi, hp⟩)) _ _ r⟩
  own := fun j e h => by
    rcases at_set h with ⟨rfl, hl, he⟩ | ⟨hj, h⟩
    · cases he
    · obtain ⟨q, u, h1, h2, h3, h4⟩ := s.own j e h
      refine ⟨q, u, h1, h2, ?_, Co.mono (Le.updL (s.owned_none ⟨_, d, hi, hp⟩)) h4⟩
      rw [upd_ne fun z => s.sep i j p d e (Ne.symm hj) hi h hp (by rw [h1, z])]
      exact h3
  sep := fun j k q d1 e hjk h1 h2 h3 => by
    rcases at_set h1 with ⟨rfl, hl, he⟩ | ⟨hj, h1⟩
    · cases he
    rcases at_set h2 with ⟨rfl, hl2, he2⟩ | ⟨hk, h2⟩
    · cases he2
    exact s.sep j k q d1 e hjk h1 h2 h3
theorem Stp.frz (s : St2 K F H σ ρ) {i : Nat} {d : D} {p : Addr} {o : HO} (hi : ρ[i]? = some (Cell.own d)) (hp : σ[i]? = some (some (V.ref p))) : Stp σ ρ F H σ (ρ.set i (.val d)) (upd F p o) H where
  le := Le.updL (s.owned_none ⟨_, d, hi, hp⟩)
  kp := fun _ _ h _ => h
  fr := fun b h => by
    by_cases e : b = p
    · subst e
      exact .inr (.inr ⟨i, d, hi, hp⟩)
    · rw [upd_ne e] at h
      exact .inl h
  ow := fun b ⟨j, e, h1, h2⟩ => by
    rcases at_set h1 with ⟨rfl, hl, he⟩ | ⟨hj, h1⟩
    · cases he
    · exact .inl ⟨j, e, h1, h2⟩
  al := fun _ h => h
end

/-! ### blocks -/
section
variable {X : Cx} {W : WX} {prot : List Nat} {st : Stmt} {sts : List Stmt} {f g : Env' → Out (Fl × Env')} {pos : Pos}
def sNil : Env' → Out (Fl × Env') := fun ρ => .ok (.nx, ρ)
def sSeq (f g : Env' → Out (Fl × Env')) : Env' → Out (Fl × Env') := fun ρ => (f ρ).bind fun p => match p.1 with
  | .nx => g p.2
  | .brk => .ok (.brk, p.2)
  | .cnt => .ok (.cnt, p.2)
  | .ret d => .ok (.ret d, p.2)
  | .new d => .ok (.new d, p.2)
theorem SS.nil : SS X W prot [] sNil := ⟨PSs.imp pss_nil fun D0 σ H ⟨F, ρ, s, q⟩ => q σ F H s (Stp.refl _ _ _ _) (Fix.refl _ _)⟩
theorem SS.cons (h : S1 X W prot st f) (h2 : SS X W prot sts g) : SS X W prot (st :: sts) (sSeq f g) := by
  refine ⟨PSs.imp (pss_cons h.ps h2.ps) ?_⟩
  rintro D0 σ H ⟨F, ρ, s, q⟩
  refine ⟨F, ρ, s, on_imp (on_bind q) (fun p ep q σ1 F1 H1 s1 p1 fx => ?_) fun _ _ _ q => q⟩
  obtain ⟨fl, ρ1⟩ := p
  have lr : ρ1.length = ρ.length := by rw [← s.len, ← s1.len, fx.1]
  cases fl with
  | nx => exact ⟨F1, ρ1, s1, on_stp p1 fx.1 lr q fun p ep q σ2 F2 H2 s2 p2 fx2 => q σ2 F2 H2 s2 (p1.trans p2) (fx.trans fx2)⟩
  | brk => exact q σ1 F1 H1 s1 p1 fx
  | cnt => exact q σ1 F1 H1 s1 p1 fx
  | ret d => exact q σ1 F1 H1 s1 p1 fx
  | new d => exact q σ1 F1 H1 s1 p1 fx
end
end VL

/-! V9: simple statements. -/
namespace VL
open PySem PySem.Spec L2

/-! ### targets: only names' places change -/
def Only (sl : List Nat) (σ σ' : L2.St) : Prop := σ'.length = σ.length ∧ ∀ i, i ∉ sl → σ'[i]? = σ[i]?
theorem Only.refl (sl : List Nat) (σ : L2.St) : Only sl σ σ := ⟨rfl, fun _ _ => rfl⟩
theorem Only.trans {sl sm : List Nat} {σ σ1 σ2 : L2.St} (a : Only sl σ σ1) (b : Only sm σ1 σ2) : Only (sl ++ sm) σ σ2 := ⟨b.1.trans a.1, fun i h => (b.2 i fun z => h (List.mem_append_right _ z)).trans (a.2 i fun z => h (List.mem_append_left _ z))⟩
theorem Only.fix {sl prot : List Nat} {σ σ' : L2.St} (o : Only sl σ σ') (h : ∀ i, i ∈ prot → i ∉ sl) : Fix prot σ σ' := ⟨o.1, fun i hi => o.2 i (h i hi)⟩
def gM (K : Fr') (sl : List Nat) (g : D → Env' → Out Env') : TG := fun v σ H Q => ∃ F ρ d, St2 K F H σ ρ ∧ Rep K F d v ∧
  (g d ρ).on (fun ρ' => ∀ σ', St2 K F H σ' ρ' → Only sl σ σ' → (∀ b, Owned σ' ρ' b → Owned σ ρ b) → Q σ' H) (fun _ _ => False)
def gMs (K : Fr') (sl : List Nat) (g : List D → Env' → Out Env') : TGs := fun vs σ H Q => ∃ F ρ ds, St2 K F H σ ρ ∧ Reps K F ds vs ∧
  (g ds ρ).on (fun ρ' => ∀ σ', St2 K F H σ' ρ' → Only sl σ σ' → (∀ b, Owned σ' ρ' b → Owned σ ρ b) → Q σ' H) (fun _ _ => False)
structure SG (X : Cx) (sl : List Nat) (tg : Expr) (g : D → Env' → Out Env') : Prop where
  pg : PG X tg (gM X.K sl g)
structure SGs (X : Cx) (sl : List Nat) (tg : List Expr) (g : List D → Env' → Out Env') : Prop where
  pg : PGs X tg (gMs X.K sl g)
section
variable {X : Cx} {W : WX} {prot sl sm : List Nat} {pos : Pos} {e : Expr} {es : List Expr}
theorem PG.imp {tg : Expr} {t t' : TG} (h : PG X tg t) (k : ∀ v σ H Q, t' v σ H Q → t v σ H Q) : PG X tg t' := ⟨fun pins s σ H v u Q I r q => h.run pins s σ H v u Q I r (k _ _ _ _ q)⟩
theorem PGs.imp {tg : List Expr} {t t' : TGs} (h : PGs X tg t) (k : ∀ v σ H Q, t' v σ H Q → t v σ H Q) : PGs X tg t' := ⟨fun pins s σ H v u Q I r q => h.run pins s σ H v u Q I r (k _ _ _ _ q)⟩
def tgN (i : Nat) : D → Env' → Out Env' := fun d ρ => .ok (ρ.set i (.val d))
theorem Only.set {σ : L2.St} {i : Nat} {v : Option V} : Only [i] σ (σ.set i v) := ⟨by rw [List.length_set], fun j hj => set_ne fun z => hj (by rw [z]; exact List.mem_cons_self)⟩
theorem SG.name (i : Nat) {x : Str} (hN : X.N.Nodup) (hi : X.N[i]? = some x := by rfl) (hx : Loc X.env.scope x := by first | exact Or.inl rfl | exact Or.inr rfl) (hf : X.fn x = true ∨ X.env.scope.names.lookup x = some .local := by first | exact .inl rfl | exact .inr rfl) : SG X [i] (.Name x pos) (tgN i) :=
  ⟨PG.imp (pg_name hN hi hx hf) fun v σ H Q ⟨F, ρ, d, s, r, q⟩ => q _ (s.setV r i) Only.set fun b h => owned_set h⟩
def tgNil : List D → Env' → Out Env' := fun ds ρ => match ds with
  | [] => .ok ρ
  | _ => .bad
def tgCons (g : D → Env' → Out Env') (h : List D → Env' → Out Env') : List D → Env' → Out Env' := fun ds ρ => match ds with
  | d :: r => (g d ρ).bind fun ρ' => h r ρ'
  | _ => .bad
def tgTup (n : Nat) (h : List D → Env' → Out Env') : D → Env' → Out Env' := fun d ρ => match d with
  | .tup xs => if xs.length = n then h xs ρ else .bad
  | _ => .bad
theorem SGs.nil : SGs X [] [] tgNil := ⟨PGs.imp pgs_nil fun vs σ H Q ⟨F, ρ, ds, s, r, q⟩ => by
  cases ds with
  | cons d r => exact q.elim
  | nil => exact ⟨reps_nil r, q σ s (Only.refl _ _) fun _ h => h⟩⟩
theorem on_noX {α : Type} {x : Out α} {P P' : α → Prop} (h : x.on P (fun _ _ => False)) (k : ∀ a, x = .ok a → P a → P' a) : x.on P' (fun _ _ => False) := on_imp h k fun _ _ _ z => z
theorem SGs.cons {g : D → Env' → Out Env'} {h : List D → Env' → Out Env'} (h1 : SG X sl e g) (h2 : SGs X sm es h)
    (hs : (assignEach (e :: es) X.env).map (·.2) = assign e X.env :: (assignEach es X.env).map (·.2) := by rfl) : SGs X (sl ++ sm) (e :: es) (tgCons g h) := ⟨PGs.imp (pgs_cons h1.pg h2.pg hs) fun vs σ H Q ⟨F, ρ, ds, s, r, q⟩ => by
  cases ds with
  | nil => exact q.elim
  | cons d ds =>
    obtain ⟨v, w, rfl, r1, r2⟩ := reps_cons r
    exact ⟨v, w, rfl, F, ρ, d, s, r1, on_noX (on_bind q) fun ρ1 e1 q σ1 s1 f1 w1 => ⟨F, ρ1, ds, s1, r2, on_noX q fun ρ2 e2 q σ2 s2 f2 w2 => q σ2 s2 (f1.trans f2) fun b h => w1 b (w2 b h)⟩⟩⟩
theorem SG.tup {k n : Nat} {h : List D → Env' → Out Env'} (hc : X.calm = true) (h2 : SGs X sl es h)
    (hn : (assignEach es X.env).length = n := by rfl) (hst : (assignEach es X.env).findIdx? (·.1) = none := by rfl) : SG X sl (.Tuple es k pos) (tgTup n h) := ⟨PG.imp (pg_tup hc h2.pg hn hst) fun v σ H Q ⟨F, ρ, d, s, r, q⟩ => by
  cases d <;> first | (exact q.elim) | skip
  rename_i xs
  obtain ⟨a, vs, rfl, h1, q1⟩ := rep_tup r
  unfold tgTup at q
  dsimp only at q
  by_cases w : xs.length = n
  · rw [if_pos w] at q
    exact ⟨a, vs, rfl, s.le.seqT h1, by rw [reps_len q1]; exact w, F, ρ, xs, s, q1, q⟩
  · rw [if_neg w] at q
    exact q.elim⟩

/-! ### x = e -/
def sAsg (mf : Env' → Out (D × Env')) (g : D → Env' → Out Env') : Env' → Out (Fl × Env') := fun ρ => (mf ρ).bind fun x => (noX (g x.1 x.2)).bind fun ρ' => .ok (.nx, ρ')
variable {mf : Env' → Out (D × Env')} {f : Env' → Out D}
theorem tAsgM {g : D → Env' → Out Env'} (dj : ∀ i, i ∈ prot → i ∉ sl) : ∀ D0 σ H, tS X.K X.mg W prot (sAsg mf g) D0 σ H → tAsg (tM X.K X.mg W mf) (gM X.K sl g) D0 σ H := by
  rintro D0 σ H ⟨F, ρ, s, q⟩
  refine ⟨F, ρ, s, on_imp (on_bind q) (fun x ex q v F1 H1 s1 r1 p1 => ?_) fun _ _ _ q => q⟩
  obtain ⟨ρ', eρ, q⟩ := noX_on (on_bind q)
  refine ⟨F1, x.2, x.1, s1, r1, ?_⟩
  rw [eρ]
  exact fun σ2 s2 fx ow => q σ2 F1 H1 s2 (p1.trans ⟨Le.refl _, fun _ _ h _ => h, fun _ h => .inl h, fun b h => .inl (ow b h), fun _ h => h⟩) (fx.fix dj)
theorem S1.asg {tg : Expr} {g : D → Env' → Out Env'} (he : SM X W e mf) (hg : SG X sl tg g) (dj : ∀ i, i ∈ prot → i ∉ sl := by decide) (hs : swapsWithSole [tg] e pos.line X.env = pure false := by rfl) (hw : swappedStores [tg] e X.env = pure none := by rfl)
    (h1 : (assignEach [tg] X.env).map (·.2) = [assign tg X.env] := by rfl) : S1 X W prot (.Assign [tg] e pos) (sAsg mf g) := ⟨PS.imp (ps_asg he.pe hg.pg hs hw h1) (tAsgM dj)⟩
theorem S1.set (i : Nat) {x : Str} {pos' : Pos} (hN : X.N.Nodup) (he : SM X W e mf) (hp : i ∉ prot := by decide) (hi : X.N[i]? = some x := by rfl) (hx : Loc X.env.scope x := by first | exact Or.inl rfl | exact Or.inr rfl) (hs : swapsWith e (some (.Name x pos')) pos.line X.env = pure false := by rfl)
    (hf : X.fn x = true ∨ X.env.scope.names.lookup x = some .local := by first | exact .inl rfl | exact .inr rfl) : S1 X W prot (.Assign [.Name x pos'] e pos) (sAsg mf (tgN i)) := ⟨PS.imp (ps_set hN hi hx he.pe hs hf) fun D0 σ H ⟨F, ρ, s, q⟩ =>
  ⟨F, ρ, s, on_imp (on_bind q) (fun x ex q v F1 H1 s1 r1 p1 => q _ F1 H1 (s1.setV r1 i) (p1.trans (Stp.setV i)) (Fix.set hp)) fun _ _ _ q => q⟩⟩
/-- .. a new object of its own -/
def sOwn (b : Bool) (f : Env' → Out D) (i : Nat) : Env' → Out (Fl × Env') := fun ρ => (f ρ).bind fun d => if b = false ∨ topIm d = true then .ok (.nx, ρ.set i (.own d)) else .bad
theorem own_ok {K : Fr'} {b : Bool} {F F1 H H1 : Hp} {σ : L2.St} {ρ : Env'} {d : D} {p : Addr} {o : HO} (s : St2 K F H σ ρ) (n : New F H F1 H1) (hp : H1 p = none) (c : Co K (bs b F1 H1 σ ρ) d o) (w : b = false ∨ topIm d = true) (i : Nat) :
    St2 K F1 (upd H1 p o) (σ.set i (some (.ref p))) (ρ.set i (.own d)) ∧ Stp σ ρ F H (σ.set i (some (.ref p))) (ρ.set i (.own d)) F1 (upd H1 p o) := by
  have s1 := s.new n
  have c' : Co K F1 d o := by
    rcases w with w | w
    · subst w
      exact c
    · exact co_immut (bs_tup s1) c w
  exact ⟨s1.setO hp c' i, (n.stp σ ρ).trans (Stp.setO s1 hp i)⟩
theorem S1.own (i : Nat) {b : Bool} {x : Str} {pos' : Pos} (hN : X.N.Nodup) (he : SO b X W e f) (hp : i ∉ prot := by decide) (hi : X.N[i]? = some x := by rfl) (hx : Loc X.env.scope x := by first | exact Or.inl rfl | exact Or.inr rfl) (hs : swapsWith e (some (.Name x pos')) pos.line X.env = pure false := by rfl)
    (hf : X.fn x = true ∨ X.env.scope.names.lookup x = some .local := by first | exact .inl rfl | exact .inr rfl) : S1 X W prot (.Assign [.Name x pos'] e pos) (sOwn b f i) := ⟨PS.imp (ps_set hN hi hx he.pe hs hf) fun D0 σ H ⟨F, ρ, s, q⟩ =>
  ⟨F, ρ, s, on_imp (on_bind q) (fun d ed q p o F1 H1 n hp' c => by
    split at q
    · rename_i w
      have ⟨s2, p2⟩ := own_ok s n hp' c w i
      exact q _ F1 _ s2 p2 (Fix.set hp)
    · exact q.elim) fun _ _ _ q => q⟩⟩

/-! ### return -/
def sRet (mf : Env' → Out (D × Env')) : Env' → Out (Fl × Env') := fun ρ => (mf ρ).bind fun x => .ok (.ret x.1, x.2)
theorem S1.ret (he : SM X W e mf) : S1 X W prot (.Return (some e) pos) (sRet mf) := ⟨PS.imp (ps_ret he.pe) fun D0 σ H ⟨F, ρ, s, q⟩ => ⟨F, ρ, s, on_imp (on_bind q) (fun x ex q v F1 H1 s1 r1 p1 => by
  obtain ⟨d, ρ1⟩ := x
  exact q σ F1 H1 s1 p1 (Fix.refl _ _) v r1) fun _ _ _ q => q⟩⟩
def sRetN : Env' → Out (Fl × Env') := fun ρ => .ok (.ret .non, ρ)
theorem S1.retN : S1 X W prot (.Return none pos) sRetN := ⟨PS.imp ps_retN fun D0 σ H ⟨F, ρ, s, q⟩ => q σ F H s (Stp.refl _ _ _ _) (Fix.refl _ _) .non mk_non⟩
/-- an owned object is handed out -/
def frzE (i : Nat) (ρ : Env') : Env' := match ρ[i]? with
  | some (.own d) => ρ.set i (.val d)
  | _ => ρ
theorem frz_ok {K : Fr'} {F H : Hp} {σ : L2.St} {ρ : Env'} (s : St2 K F H σ ρ) (i : Nat) : ∃ F', St2 K F' H σ (frzE i ρ) ∧ Stp σ ρ F H σ (frzE i ρ) F' H := by
  unfold frzE
  split
  · rename_i d hd
    obtain ⟨p, o, e, ho, hn, c⟩ := s.own i d hd
    exact ⟨_, s.frz hd e ho c, Stp.frz s hd e⟩
  · exact ⟨F, s, Stp.refl _ _ _ _⟩
/-- ahead of a block: place i is frozen -/
theorem SS.frz {st : List Stmt} {f : Env' → Out (Fl × Env')} (i : Nat) (h : SS X W prot st f) : SS X W prot st (fun ρ => f (frzE i ρ)) := ⟨PSs.imp h.ps fun D0 σ H ⟨F, ρ, s, q⟩ => by
  obtain ⟨F1, s1, p1⟩ := frz_ok s i
  refine ⟨F1, _, s1, on_imp q (fun x ex q σ2 F2 H2 s2 p2 fx => q σ2 F2 H2 s2 (p1.trans p2) fx) fun _ _ _ q => q.on p1 rfl (by rw [← s.len, s1.len])⟩⟩

/-! ### if -/
def sIf (c : Env' → Out (Bool × Env')) (f g : Env' → Out (Fl × Env')) : Env' → Out (Fl × Env') := fun ρ => (c ρ).bind fun t => if t.1 = true then f t.2 else g t.2
theorem S1.ifS {c : Expr} {x y : List Stmt} {tc : Env' → Out (Bool × Env')} {f g : Env' → Out (Fl × Env')} (hc : SMT X W c tc) (ha : SS X W prot x f) (hb : SS X W prot y g) : S1 X W prot (.If c x y pos) (sIf tc f g) := ⟨PS.imp (ps_if hc.pe ha.ps hb.ps) fun D0 σ H ⟨F, ρ, s, q⟩ => ⟨F, ρ, s, on_imp (on_bind q) (fun t et q F1 H1 s1 p1 => by
  have lr : t.2.length = ρ.length := by rw [← s.len, ← s1.len]
  by_cases w : t.1 = true
  · rw [if_pos w] at q
    dsimp only
    rw [if_pos w]
    exact ⟨F1, t.2, s1, on_stp p1 rfl lr q fun p ep q σ2 F2 H2 s2 p2 fx => q σ2 F2 H2 s2 (p1.trans p2) fx⟩
  · rw [if_neg w] at q
    dsimp only
    rw [if_neg w]
    exact ⟨F1, t.2, s1, on_stp p1 rfl lr q fun p ep q σ2 F2 H2 s2 p2 fx => q σ2 F2 H2 s2 (p1.trans p2) fx⟩) fun _ _ _ q => q⟩⟩
/-! ### small ones -/
def sDrop (mf : Env' → Out (D × Env')) : Env' → Out (Fl × Env') := fun ρ => (mf ρ).bind fun x => .ok (.nx, x.2)
theorem S1.expr (he : SM X W e mf) (hs : swapsWith e none pos.line X.env = pure false := by rfl) : S1 X W prot (.Expr e pos) (sDrop mf) := ⟨PS.imp (ps_expr he.pe hs) fun D0 σ H ⟨F, ρ, s, q⟩ => ⟨F, ρ, s, on_imp (on_bind q) (fun x ex q v F1 H1 s1 r1 p1 => q σ F1 H1 s1 p1 (Fix.refl _ _)) fun _ _ _ q => q⟩⟩
theorem S1.pass : S1 X W prot (.Pass pos) sNil := ⟨PS.imp ps_pass fun D0 σ H ⟨F, ρ, s, q⟩ => q σ F H s (Stp.refl _ _ _ _) (Fix.refl _ _)⟩
def sBrk : Env' → Out (Fl × Env') := fun ρ => .ok (.brk, ρ)
def sCnt : Env' → Out (Fl × Env') := fun ρ => .ok (.cnt, ρ)
theorem S1.brk : S1 X W prot (.Break pos) sBrk := ⟨PS.imp ps_break fun D0 σ H ⟨F, ρ, s, q⟩ => q σ F H s (Stp.refl _ _ _ _) (Fix.refl _ _)⟩
theorem S1.cnt : S1 X W prot (.Continue pos) sCnt := ⟨PS.imp ps_continue fun D0 σ H ⟨F, ρ, s, q⟩ => q σ F H s (Stp.refl _ _ _ _) (Fix.refl _ _)⟩
def sBad : Env' → Out (Fl × Env') := fun _ => .bad
theorem S1.never {st : Stmt} : S1 X W prot st sBad := ⟨PS.imp ps_never fun D0 σ H ⟨F, ρ, s, q⟩ => q⟩
/-- x += e, ints -/
def sAug (i : Nat) (mf : Env' → Out (D × Env')) (o : Int → Int → Int) : Env' → Out (Fl × Env') := fun ρ => match ρ[i]? with
  | some (.val (.int a)) => (mf ρ).bind fun x => match x.1 with
    | .int c => .ok (.nx, x.2.set i (.val (.int (o a c))))
    | _ => .bad
  | _ => .bad
theorem S1.aug (i : Nat) {x : Str} {op : Operator} {o : Int → Int → Int} {pos' : Pos} (hN : X.N.Nodup) (he : SM X W e mf) (ho : PIp X op (ipI o)) (hp : i ∉ prot := by decide) (hi : X.N[i]? = some x := by rfl) (hx : Loc X.env.scope x := by first | exact Or.inl rfl | exact Or.inr rfl)
    (hf : X.fn x = true ∨ X.env.scope.names.lookup x = some .local := by first | exact .inl rfl | exact .inr rfl) : S1 X W prot (.AugAssign (.Name x pos') op e pos) (sAug i mf o) := ⟨PS.imp (ps_aug hN hi hx he.pe ho hf) fun D0 σ H ⟨F, ρ, s, q⟩ => by
  unfold sAug at q
  split at q
  · rename_i a ha
    obtain ⟨v, ev, r⟩ := s.val i _ ha
    refine ⟨v, ev, F, ρ, s, on_imp (on_bind q) (fun x ex q w F1 H1 s1 r1 p1 => ?_) fun _ _ _ q => q⟩
    obtain ⟨d, ρ1⟩ := x
    cases d <;> first | (exact q.elim) | skip
    exact ⟨_, _, rep_int r, rep_int r1, q _ F1 H1 (s1.setV mk_int i) (p1.trans (Stp.setV i)) (Fix.set hp)⟩
  · exact q.elim⟩

/-! ### owned lists -/
/-- x.append(e) -/
def sApp (i : Nat) (mf : Env' → Out (D × Env')) : Env' → Out (Fl × Env') := fun ρ => match ρ[i]? with
  | some (.own (.lst _)) => (mf ρ).bind fun x => match x.2[i]? with
    | some (.own (.lst xs)) => if xs.length < sizeLine then .ok (.nx, x.2.set i (.own (.lst (xs ++ [x.1])))) else .bad
    | _ => .bad
  | _ => .bad
theorem own_lst {K : Fr'} {F H : Hp} {σ : L2.St} {ρ : Env'} (s : St2 K F H σ ρ) {i : Nat} {xs : List D} (h : ρ[i]? = some (Cell.own (.lst xs))) : ∃ p vs, σ[i]? = some (some (V.ref p)) ∧ H p = some (.lst vs) ∧ Reps K F xs vs := by
  obtain ⟨p, o, e, ho, hn, vs, rfl, r⟩ := s.own i _ h
  exact ⟨p, vs, e, ho, r⟩
theorem S1.app (i : Nat) {x : Str} {p0 apos cpos : Pos} (he : SM X W e mf) (hN : X.N[i]? = some x := by rfl) (hv : Vis X.env.scope x := by first | exact Or.inl rfl | exact Or.inr (Or.inl rfl) | exact Or.inr (Or.inr rfl)) (hd : (x == ("__debug__" : Str)) = false := by decide)
    (hcd : (x == ("__classdict__" : Str)) = false := by decide)
    (hbase : attributeBase (.Name x p0) "append" X.env (eval (.Name x p0) X.env) = eval (.Name x p0) X.env := by rfl)
    (hfew : ((backTo cpos (starEach [e] X.env)).all (fun x => !x.1) && (backToKw cpos (keywordEach [] X.env)).all (fun x => x.1.isSome)
      && decide ([e].length + ([] : List Keyword).length + (if ([] : List Keyword).isEmpty then 0 else 1) < 30)) = true := by rfl)
    (hline : (apos.endLine == cpos.line) = true := by rfl) (hs : starEach [e] X.env = (false, eval e X.env) :: starEach [] X.env := by rfl) (hplain : (backTo cpos (starEach [] X.env)).any (·.1) = false := by rfl)
    (hsw : swapsWith (.Call (.Attribute (.Name x p0) "append" apos) [e] [] cpos) none pos.line X.env = pure false := by rfl) :
    S1 X W prot (.Expr (.Call (.Attribute (.Name x p0) "append" apos) [e] [] cpos) pos) (sApp i mf) := by
  refine ⟨PS.imp (ps_expr (pe_bm PySem.F.plainAttrs_list PySem.F.slot_list_append PySem.F.type_list_append mt_append (pe_var hN hv hd hcd) (pa_cons he.pe pa_nil hs) hbase hfew hline hs hplain) hsw) ?_⟩
  rintro D0 σ H ⟨F, ρ, s, q⟩
  unfold sApp at q
  split at q
  · rename_i xs0 hx
    obtain ⟨p, vs0, e1, ho, r0⟩ := own_lst s hx
    refine ⟨_, e1, .inl ⟨rfl, vs0, .inl (.inl ho)⟩, F, ρ, s, on_imp (on_bind q) (fun y ey q w F1 H1 s1 r1 p1 => ?_) fun _ _ _ q => q⟩
    split at q
    · rename_i xs hx1
      obtain ⟨p', vs, e2, ho1, r2⟩ := own_lst s1 hx1
      rw [e1] at e2
      cases e2
      split at q
      · rename_i hl
        have c2 : Co X.K F1 (.lst (xs ++ [y.1])) (.lst (vs ++ [w])) := ⟨_, rfl, reps_app r2 (mk_cons r1 mk_nil)⟩
        exact ⟨p, vs, w, rfl, rfl, ho1, by rw [reps_len r2]; exact hl, q σ F1 _ (s1.updO hx1 e1 c2) (p1.trans (Stp.updO s1 hx1 e1)) (Fix.refl _ _)⟩
      · exact q.elim
    · exact q.elim
  · exact q.elim
/-- x[k] = e -/
def sPut (i : Nat) (mf : Env' → Out (D × Env')) (g : Env' → Out D) : Env' → Out (Fl × Env') := fun ρ => (mf ρ).bind fun x => match x.2[i]? with
  | some (.own (.lst xs)) => (g x.2).bind fun k => match k with
    | .int j => match ixN xs.length j with
      | some n => .ok (.nx, x.2.set i (.own (.lst (xs.set n x.1))))
      | none => .bad
    | _ => .bad
  | _ => .bad
theorem S1.put (i : Nat) {x : Str} {k : Expr} {g : Env' → Out D} {p0 tpos : Pos} (he : SM X W e mf) (hk : SR false X W k g) (hN : X.N[i]? = some x := by rfl) (hv : Vis X.env.scope x := by first | exact Or.inl rfl | exact Or.inr (Or.inl rfl) | exact Or.inr (Or.inr rfl)) (hd : (x == ("__debug__" : Str)) = false := by decide)
    (hcd : (x == ("__classdict__" : Str)) = false := by decide)
    (ha : ∀ v, assign (.Subscript (.Name x p0) k tpos) X.env v = (do
      let ov ← holding [v] (eval (.Name x p0) X.env)
      let iv ← holding [v, ov] (eval k X.env)
      standAt tpos
      holding [v, ov, iv] (setItem ov iv v)
      release [v, ov, iv] []) := by intro _; rfl)
    (hs : swapsWithSole [.Subscript (.Name x p0) k tpos] e pos.line X.env = pure false := by rfl) (hw : swappedStores [.Subscript (.Name x p0) k tpos] e X.env = pure none := by rfl)
    (h1 : (assignEach [.Subscript (.Name x p0) k tpos] X.env).map (·.2) = [assign (.Subscript (.Name x p0) k tpos) X.env] := by rfl) :
    S1 X W prot (.Assign [.Subscript (.Name x p0) k tpos] e pos) (sPut i mf g) := by
  refine ⟨PS.imp (ps_asg he.pe (pg_sub (pe_var hN hv hd hcd) hk.pe set_list ha) hs hw h1) ?_⟩
  rintro D0 σ H ⟨F, ρ, s, q⟩
  refine ⟨F, ρ, s, on_imp (on_bind q) (fun y ey q w F1 H1 s1 r1 p1 => ?_) fun _ _ _ q => q⟩
  split at q
  · rename_i xs hx
    obtain ⟨p, vs, e2, ho, r2⟩ := own_lst s1 hx
    have lr : y.2.length = ρ.length := by rw [← s.len, ← s1.len]
    refine ⟨_, e2, F1, y.2, s1, on_stp p1 rfl lr (on_bind q) fun k' ek q v F2 H2 n2 rk => ?_⟩
    cases k' <;> first | (exact q.elim) | skip
    rename_i j
    dsimp only at q
    split at q
    · rename_i n hn
      have s2 := s1.new n2
      have r2' := Reps.mono n2.le _ _ r2
      have c2 : Co X.K F2 (.lst (xs.set n y.1)) (.lst (vs.set n w)) := ⟨_, rfl, reps_set (Rep.mono n2.le _ _ r1) n r2'⟩
      exact ⟨p, vs, j, n, rfl, rep_int rk, n2.kp _ _ ho, by rw [reps_len r2]; exact hn, q σ F2 _ (s2.updO hx e2 c2) ((p1.trans (n2.stp σ y.2)).trans (Stp.updO s2 hx e2)) (Fix.refl _ _)⟩
    · exact q.elim
  · exact q.elim
end
end VL

/-! V10: what loops walk; for; while. -/
namespace VL
open PySem PySem.Spec L2

/-- frozen things stand just as they stood -/
def Kept (F0 H0 H : Hp) : Prop := ∀ b o, F0 b ≠ none → H0 b = some o → H b = some o
structure ItOk (K : Fr') (F0 H0 : Hp) (J : It) (xs : List D) : Prop where
  go : ∀ F H i, Le F0 F → Le F H → Kept F0 H0 H → i < xs.length → J.go i H
  stop : ∀ F H i, Le F0 F → Le F H → Kept F0 H0 H → xs.length ≤ i → J.stop i H
  yld : ∀ F H i d v H', Le F0 F → Le F H → Kept F0 H0 H → xs[i]? = some d → J.yld i H v H' → ∃ F', New F H F' H' ∧ Rep K F' d v
theorem it_list {K : Fr'} {F H0 : Hp} {a : Addr} {vs : List V} {xs : List D} (h : SqL K F a vs) (r : Reps K F xs vs) : ItOk K F H0 (Itl K a) xs where
  go := fun G H i l l2 _ hi => by
    have hv : i < vs.length := by rw [reps_len r]; exact hi
    exact ⟨vs, vs[i], l2.seqL (l.seqL h), List.getElem?_eq_getElem hv⟩
  stop := fun G H i l l2 _ hi => ⟨vs, l2.seqL (l.seqL h), by rw [reps_len r]; exact hi⟩
  yld := fun G H i d v H' l l2 _ hd y => by
    obtain ⟨rfl, y⟩ := y
    obtain ⟨w, hw, rw'⟩ := reps_get r hd
    have e := (y vs (l2.seqL (l.seqL h))).symm.trans hw
    cases e
    exact ⟨G, New.refl l2, Rep.mono l _ _ rw'⟩
theorem it_tup {K : Fr'} {F H0 : Hp} {a : Addr} {vs : List V} {xs : List D} (h : SqT K F a vs) (r : Reps K F xs vs) : ItOk K F H0 (Itt K a) xs where
  go := fun G H i l l2 _ hi => by
    have hv : i < vs.length := by rw [reps_len r]; exact hi
    exact ⟨vs, vs[i], l2.seqT (l.seqT h), List.getElem?_eq_getElem hv⟩
  stop := fun G H i l l2 _ hi => ⟨vs, l2.seqT (l.seqT h), by rw [reps_len r]; exact hi⟩
  yld := fun G H i d v H' l l2 _ hd y => by
    obtain ⟨rfl, y⟩ := y
    obtain ⟨w, hw, rw'⟩ := reps_get r hd
    have e := (y vs (l2.seqT (l.seqT h))).symm.trans hw
    cases e
    exact ⟨G, New.refl l2, Rep.mono l _ _ rw'⟩
def signsD (x : Str) : List D := x.cps.toList.map fun c => .str ⟨#[c]⟩
theorem it_str {K : Fr'} {F H0 : Hp} {x : Str} : ItOk K F H0 (Its x) (signsD x) where
  go := fun G H i l l2 _ hi => by
    show i < x.cps.size
    unfold signsD at hi
    rw [List.length_map, Array.length_toList] at hi
    exact hi
  stop := fun G H i l l2 _ hi => by
    show x.cps.size ≤ i
    unfold signsD at hi
    rw [List.length_map, Array.length_toList] at hi
    exact hi
  yld := fun G H i d v H' l l2 _ hd y => by
    obtain ⟨rfl, c, hc, rfl⟩ := y
    unfold signsD at hd
    rw [List.getElem?_map, Array.getElem?_toList, hc] at hd
    cases hd
    exact ⟨G, New.refl l2, mk_str⟩
def rngD (lo : Int) (n : Nat) : List D := (List.range n).map fun (i : Nat) => .int (lo + i)
theorem it_rng {K : Fr'} {F H0 : Hp} {lo : Int} {n : Nat} : ItOk K F H0 (Itr lo n) (rngD lo n) where
  go := fun G H i l l2 _ hi => by
    unfold rngD at hi
    rw [List.length_map, List.length_range] at hi
    exact hi
  stop := fun G H i l l2 _ hi => by
    unfold rngD at hi
    rw [List.length_map, List.length_range] at hi
    exact hi
  yld := fun G H i d v H' l l2 _ hd y => by
    obtain ⟨rfl, rfl⟩ := y
    unfold rngD at hd
    rw [List.getElem?_map] at hd
    cases q : (List.range n)[i]? with
    | none => rw [q] at hd; cases hd
    | some j =>
      rw [q] at hd
      have hj : j = i := by
        obtain ⟨h1, h2⟩ := List.getElem?_eq_some_iff.mp q
        rw [List.getElem_range] at h2
        exact h2.symm
      subst hj
      cases hd
      exact ⟨G, New.refl l2, mk_int⟩

/-! ### iterables -/
def iR (K : Fr') (mg : MG) (W : WX) (b : Bool) (f : Env' → Out (List D)) : TI := fun σ H R => ∃ F ρ, St2 K F H σ ρ ∧ (f ρ).on (fun xs => ∀ J F' H', New F H F' H' → ItOk K (bs b F' H' σ ρ) H' J xs → R J H') (ExM mg W σ ρ F H)
def iM (K : Fr') (mg : MG) (W : WX) (f : Env' → Out (List D × Env')) : TI := fun σ H R => ∃ F ρ, St2 K F H σ ρ ∧ (f ρ).on (fun p => ∀ J F' H', St2 K F' H' σ p.2 → Stp σ ρ F H σ p.2 F' H' → ItOk K F' H' J p.1 → R J H') (ExM mg W σ ρ F H)
structure SI (b : Bool) (X : Cx) (W : WX) (tg it : Expr) (f : Env' → Out (List D)) : Prop where
  pi : PI X tg it (iR X.K X.mg W b f)
structure SIM (X : Cx) (W : WX) (tg it : Expr) (f : Env' → Out (List D × Env')) : Prop where
  pi : PI X tg it (iM X.K X.mg W f)
section
variable {b : Bool} {X : Cx} {W : WX} {tg it : Expr} {f : Env' → Out D} {mf : Env' → Out (D × Env')} {pos p : Pos}
theorem PI.imp {wi wi' : TI} (h : PI X tg it wi) (k : ∀ σ H R, wi' σ H R → wi σ H R) : PI X tg it wi' := ⟨fun pins s σ H R I q => h.run pins s σ H R I (k _ _ _ q)⟩
theorem PI.or {wi wi' : TI} (h : PI X tg it wi) (h' : PI X tg it wi') : PI X tg it (fun σ H R => wi σ H R ∨ wi' σ H R) := ⟨fun pins s σ H R I q => q.elim (h.run pins s σ H R I) (h'.run pins s σ H R I)⟩
def seqD : D → Out (List D)
  | .lst xs => .ok xs
  | .tup xs => .ok xs
  | .str x => .ok (signsD x)
  | _ => .bad
def iSeq (f : Env' → Out D) : Env' → Out (List D) := fun ρ => (f ρ).bind seqD
theorem SI.seq (h : SR b X W it f) : SI b X W tg it (iSeq f) := ⟨PI.imp (PI.or (pi_list h.pe) (PI.or (pi_tup h.pe) (pi_str h.pe))) fun σ H R ⟨F, ρ, s, q⟩ => by
  cases e : f ρ with
  | bad => unfold iSeq at q; rw [e] at q; exact q.elim
  | exc c fs =>
    unfold iSeq at q
    rw [e] at q
    refine .inl ⟨F, ρ, s, ?_⟩
    rw [e]
    exact q
  | ok d =>
    unfold iSeq at q
    rw [e] at q
    cases d <;> first | (exact q.elim) | skip
    · refine .inr (.inr ⟨F, ρ, s, ?_⟩)
      rw [e]
      exact fun v F' H' n r => ⟨_, rep_str r, q _ F' H' n it_str⟩
    · refine .inr (.inl ⟨F, ρ, s, ?_⟩)
      rw [e]
      intro v F' H' n r
      obtain ⟨a, vs, rfl, h1, r1⟩ := rep_tup r
      exact ⟨a, rfl, ⟨vs, (s.new n).bs_le.seqT h1⟩, q _ F' H' n (it_tup h1 r1)⟩
    · refine .inl ⟨F, ρ, s, ?_⟩
      rw [e]
      intro v F' H' n r
      obtain ⟨a, vs, rfl, h1, r1⟩ := rep_lst r
      exact ⟨a, rfl, ⟨vs, (s.new n).bs_le.seqL h1⟩, q _ F' H' n (it_list h1 r1)⟩⟩
def iMseq (f : Env' → Out (D × Env')) : Env' → Out (List D × Env') := fun ρ => (f ρ).bind fun x => (seqD x.1).bind fun xs => .ok (xs, x.2)
theorem SIM.seq (h : SM X W it mf) : SIM X W tg it (iMseq mf) := ⟨PI.imp (PI.or (pi_list h.pe) (PI.or (pi_tup h.pe) (pi_str h.pe))) fun σ H R ⟨F, ρ, s, q⟩ => by
  cases e : mf ρ with
  | bad => unfold iMseq at q; rw [e] at q; exact q.elim
  | exc c fs =>
    unfold iMseq at q
    rw [e] at q
    refine .inl ⟨F, ρ, s, ?_⟩
    rw [e]
    exact q
  | ok x =>
    unfold iMseq at q
    rw [e] at q
    obtain ⟨d, ρ1⟩ := x
    cases d <;> first | (exact q.elim) | skip
    · refine .inr (.inr ⟨F, ρ, s, ?_⟩)
      rw [e]
      exact fun v F' H' s' r p => ⟨_, rep_str r, q _ F' H' s' p it_str⟩
    · refine .inr (.inl ⟨F, ρ, s, ?_⟩)
      rw [e]
      intro v F' H' s' r p
      obtain ⟨a, vs, rfl, h1, r1⟩ := rep_tup r
      exact ⟨a, rfl, ⟨vs, s'.le.seqT h1⟩, q _ F' H' s' p (it_tup h1 r1)⟩
    · refine .inl ⟨F, ρ, s, ?_⟩
      rw [e]
      intro v F' H' s' r p
      obtain ⟨a, vs, rfl, h1, r1⟩ := rep_lst r
      exact ⟨a, rfl, ⟨vs, s'.le.seqL h1⟩, q _ F' H' s' p (it_list h1 r1)⟩⟩
/-- a frozen iterable, in a changing place -/
def iOf (f : Env' → Out (List D)) : Env' → Out (List D × Env') := fun ρ => (f ρ).bind fun xs => .ok (xs, ρ)
theorem SI.m {f : Env' → Out (List D)} (h : SI false X W tg it f) : SIM X W tg it (iOf f) := ⟨PI.imp h.pi fun σ H R ⟨F, ρ, s, q⟩ => ⟨F, ρ, s, on_imp (on_bind q) (fun xs ex q J F' H' n i => q J F' H' (s.new n) (n.stp σ ρ) i) fun _ _ _ q => q⟩⟩
/-- range(n), range(a, b) -/
def okR (j : Int) : Bool := decide (-(2 ^ 62) ≤ j) && decide (j < 2 ^ 62)
def gR1 : List D → Out (List D)
  | [.int j] => if okR j = true then .ok (rngD 0 j.toNat) else .bad
  | _ => .bad
def gR2 : List D → Out (List D)
  | [.int i, .int j] => if okR i = true ∧ okR j = true then .ok (rngD i (j - i).toNat) else .bad
  | _ => .bad
theorem okR_of {j : Int} (h : okR j = true) : -(2 ^ 62) ≤ j ∧ j < 2 ^ 62 := by
  unfold okR at h
  rw [Bool.and_eq_true] at h
  exact ⟨of_decide_eq_true h.1, of_decide_eq_true h.2⟩
def iRng (fs : Env' → Out (List D)) (g : List D → Out (List D)) : Env' → Out (List D) := fun ρ => (fs ρ).bind g
theorem SI.rng1 {a : Expr} {fs : Env' → Out (List D)} (hg : Gl X "range") (hm : X.mg "range" = none) (ha : SRs b X W [a] fs) (hs : starEach [a] X.env = [(false, eval a X.env)] := by rfl) : SI b X W tg (.Call (.Name "range" p) [a] [] pos) (iRng fs gR1) :=
  ⟨PI.imp (pi_range1 hg hm ha.pe hs) fun σ H R ⟨F, ρ, s, q⟩ => ⟨F, ρ, s, on_imp (on_bind q) (fun ds ed q vs F' H' n r => by
    unfold gR1 at q
    split at q
    · split at q
      · rename_i c
        obtain ⟨v, rfl, r1⟩ := reps1 r
        rw [rep_int r1]
        exact ⟨_, rfl, (okR_of c).1, (okR_of c).2, q _ F' H' n it_rng⟩
      · exact q.elim
    · exact q.elim) fun _ _ _ q => q⟩⟩
theorem SI.rng2 {a c : Expr} {fs : Env' → Out (List D)} (hg : Gl X "range") (hm : X.mg "range" = none) (ha : SRs b X W [a, c] fs) (hs : starEach [a, c] X.env = [(false, eval a X.env), (false, eval c X.env)] := by rfl) (hs2 : starEach [c] X.env = [(false, eval c X.env)] := by rfl) : SI b X W tg (.Call (.Name "range" p) [a, c] [] pos) (iRng fs gR2) :=
  ⟨PI.imp (pi_range2 hg hm ha.pe hs hs2) fun σ H R ⟨F, ρ, s, q⟩ => ⟨F, ρ, s, on_imp (on_bind q) (fun ds ed q vs F' H' n r => by
    unfold gR2 at q
    split at q
    · split at q
      · rename_i c
        obtain ⟨v, w, rfl, r1, r2⟩ := reps2 r
        rw [rep_int r1, rep_int r2]
        have c1 := okR_of c.1
        have c2 := okR_of c.2
        exact ⟨_, _, rfl, ⟨c1.1, c1.2, c2.1, c2.2⟩, q _ F' H' n it_rng⟩
      · exact q.elim
    · exact q.elim) fun _ _ _ q => q⟩⟩
/-- range in a changing place: its argument draws -/
def iMrng (ms : Env' → Out (List D × Env')) (g : List D → Out (List D)) : Env' → Out (List D × Env') := fun ρ => (ms ρ).bind fun x => (noX (g x.1)).bind fun xs => .ok (xs, x.2)
theorem SIM.rng1 {a : Expr} {ms : Env' → Out (List D × Env')} (hg : Gl X "range") (hm : X.mg "range" = none) (ha : SMs X W [a] ms) (hs : starEach [a] X.env = [(false, eval a X.env)] := by rfl) : SIM X W tg (.Call (.Name "range" p) [a] [] pos) (iMrng ms gR1) :=
  ⟨PI.imp (pi_range1 hg hm ha.pe hs) fun σ H R ⟨F, ρ, s, q⟩ => ⟨F, ρ, s, on_imp (on_bind q) (fun x ex q vs F' H' s' r p => by
    obtain ⟨ds, ρ1⟩ := x
    dsimp only at r
    obtain ⟨xs, exs, q⟩ := noX_on (on_bind q)
    dsimp only at exs
    unfold gR1 at exs
    split at exs
    · split at exs
      · rename_i c
        cases exs
        obtain ⟨v, rfl, r1⟩ := reps1 r
        rw [rep_int r1]
        exact ⟨_, rfl, (okR_of c).1, (okR_of c).2, q _ F' H' s' p it_rng⟩
      · cases exs
    · cases exs) fun _ _ _ q => q⟩⟩
end

/-! ### for -/
def forL (g : D → Env' → Out Env') (f : Env' → Out (Fl × Env')) : List D → Env' → Out (Fl × Env')
  | [], ρ => .ok (.nx, ρ)
  | x :: xs, ρ => (noX (g x ρ)).bind fun ρ1 => (f ρ1).bind fun p => match p.1 with
    | .nx => forL g f xs p.2
    | .cnt => forL g f xs p.2
    | .brk => .ok (.nx, p.2)
    | .ret d => .ok (.ret d, p.2)
    | .new d => .ok (.new d, p.2)
def sFor (it : Env' → Out (List D × Env')) (g : D → Env' → Out Env') (f : Env' → Out (Fl × Env')) : Env' → Out (Fl × Env') := fun ρ => (it ρ).bind fun x => forL g f x.1 x.2
section
variable {X : Cx} {W : WX} {prot sl : List Nat} {tg it : Expr} {body : List Stmt} {fi : Env' → Out (List D × Env')} {g : D → Env' → Out Env'} {f : Env' → Out (Fl × Env')} {pos : Pos}
theorem Stp.kept {σ σ1 : L2.St} {ρ ρ1 : Env'} {K : Fr'} {F0 F F1 H0 H H1 : Hp} (s : St2 K F H σ ρ) (l : Le F0 F) (k : Kept F0 H0 H) (p : Stp σ ρ F H σ1 ρ1 F1 H1) : Kept F0 H0 H1 := fun b o hb h0 => p.kp b o (k b o hb h0) fun w => by
  have := l.some hb
  exact this (s.owned_none w)
theorem drop_cons {α : Type} {xs : List α} {i : Nat} (h : i < xs.length) : xs.drop i = xs[i] :: xs.drop (i + 1) := List.drop_eq_getElem_cons h
theorem S1.forS (hp : PassesOwn (model X.prog X.w) X.A X.env X.xe) (hc : X.calm = true) (hi : SIM X W tg it fi) (hg : SG X sl tg g) (hb : SS X W prot body f) (dj : ∀ i, i ∈ prot → i ∉ sl := by decide)
    (hs : ∀ x, foldedSetIterable it X.env x = pure x := by intro _; rfl) : S1 X W prot (.For tg it body [] pos) (sFor fi g f) := by
  refine ⟨PS.imp (ps_for hp hc hi.pi hg.pg hb.ps hs) ?_⟩
  rintro D0 σ H ⟨F, ρ, s, q⟩
  refine ⟨F, ρ, s, on_imp (on_bind q) (fun x ex q J F0 H0 s0 p0 it => ?_) fun _ _ _ q => q⟩
  obtain ⟨xs, ρ0⟩ := x
  have lr : ρ0.length = ρ.length := by rw [← s.len, ← s0.len]
  -- the wanted end
  let PP : Fl × Env' → Prop := fun p => ∀ σ' F' H', St2 X.K F' H' σ' p.2 → Stp σ ρ F H σ' p.2 F' H' → Fix prot σ σ' → EndsF X.K D0 σ' F' H' p.1
  refine ⟨fun i m σ1 H1 => m = xs.length - i ∧ i ≤ xs.length ∧ ∃ F1 ρ1, St2 X.K F1 H1 σ1 ρ1 ∧ Stp σ ρ F H σ1 ρ1 F1 H1 ∧ Fix prot σ σ1 ∧ Le F0 F1 ∧ Kept F0 H0 H1 ∧ (forL g f (xs.drop i) ρ1).on PP (ExM X.mg W σ1 ρ1 F1 H1),
    ⟨xs.length, by omega, Nat.zero_le _, F0, ρ0, s0, p0, Fix.refl _ _, Le.refl _, fun _ _ _ h => h, on_stp p0 rfl lr q fun _ _ q => q⟩, ?_⟩
  rintro i m σ1 H1 ⟨rfl, hi, F1, ρ1, s1, p1, fx1, l1, k1, q1⟩
  by_cases hlt : i < xs.length
  · rw [drop_cons hlt] at q1
    refine .inr ⟨it.go F1 H1 i l1 s1.le k1 hlt, fun σ2 H2 => i + 1 ≤ xs.length ∧ ∃ F2 ρ2, St2 X.K F2 H2 σ2 ρ2 ∧ Stp σ ρ F H σ2 ρ2 F2 H2 ∧ Fix prot σ σ2 ∧ Le F0 F2 ∧ Kept F0 H0 H2 ∧ (forL g f (xs.drop (i + 1)) ρ2).on PP (ExM X.mg W σ2 ρ2 F2 H2),
      fun σ2 H2 h2 => ⟨xs.length - (i + 1), by omega, rfl, h2⟩, fun v H2 hy => ?_⟩
    obtain ⟨F2, n2, r2⟩ := it.yld F1 H1 i xs[i] v H2 l1 s1.le k1 (List.getElem?_eq_getElem hlt) hy
    have s2 := s1.new n2
    obtain ⟨ρ3, e3, q3⟩ := noX_on (on_bind q1)
    refine ⟨F2, ρ1, _, s2, r2, ?_⟩
    rw [e3]
    intro σ3 s3 o3 w3
    have p3 : Stp σ1 ρ1 F1 H1 σ3 ρ3 F2 H2 := (n2.stp σ1 ρ1).trans ⟨Le.refl _, fun _ _ h _ => h, fun _ h => .inl h, fun b h => .inl (w3 b h), fun _ h => h⟩
    have fx3 : Fix prot σ σ3 := fx1.trans (o3.fix dj)
    have lr3 : ρ3.length = ρ1.length := by rw [← s1.len, ← s3.len, o3.1]
    have k3 : Kept F0 H0 H2 := Stp.kept s1 l1 k1 (n2.stp σ1 ρ1)
    refine ⟨F2, ρ3, s3, on_stp p3 o3.1 lr3 (on_bind q3) fun p ep q σ4 F4 H4 s4 p4 fx4 => ?_⟩
    obtain ⟨fl, ρ4⟩ := p
    have lr4 : ρ4.length = ρ1.length := by rw [← s1.len, ← s4.len, fx4.1, o3.1]
    have p04 := (p1.trans p3).trans p4
    have k4 : Kept F0 H0 H4 := Stp.kept s3 (l1.trans n2.le) k3 p4
    have l4 : Le F0 F4 := (l1.trans n2.le).trans p4.le
    cases fl with
    | nx => exact ⟨hlt, F4, ρ4, s4, p04, fx3.trans fx4, l4, k4, on_stp (p3.trans p4) (fx4.1.trans o3.1) lr4 q fun _ _ q => q⟩
    | cnt => exact ⟨hlt, F4, ρ4, s4, p04, fx3.trans fx4, l4, k4, on_stp (p3.trans p4) (fx4.1.trans o3.1) lr4 q fun _ _ q => q⟩
    | brk => exact q σ4 F4 H4 s4 p04 (fx3.trans fx4)
    | ret d => exact q σ4 F4 H4 s4 p04 (fx3.trans fx4)
    | new d => exact q σ4 F4 H4 s4 p04 (fx3.trans fx4)
  · have e : i = xs.length := by omega
    subst e
    rw [List.drop_length] at q1
    exact .inl ⟨it.stop F1 H1 _ l1 s1.le k1 (Nat.le_refl _), q1 σ1 F1 H1 s1 p1 fx1⟩

/-! ### while -/
def whileL (c : Env' → Out (Bool × Env')) (f : Env' → Out (Fl × Env')) : Nat → Env' → Out (Fl × Env')
  | 0, _ => .bad
  | n + 1, ρ => (c ρ).bind fun t => if t.1 = true then (f t.2).bind fun p => match p.1 with
      | .nx => whileL c f n p.2
      | .cnt => whileL c f n p.2
      | .brk => .ok (.nx, p.2)
      | .ret d => .ok (.ret d, p.2)
      | .new d => .ok (.new d, p.2)
    else .ok (.nx, t.2)
theorem S1.whileS {c : Expr} {tc : Env' → Out (Bool × Env')} (n : Nat) (hp : PassesOwn (model X.prog X.w) X.A X.env X.xe) (hc : SMT X W c tc) (hb : SS X W prot body f) : S1 X W prot (.While c body [] pos) (whileL tc f n) := by
  refine ⟨PS.imp (ps_while hp hc.pe hb.ps) ?_⟩
  rintro D0 σ H ⟨F, ρ, s, q⟩
  let PP : Fl × Env' → Prop := fun p => ∀ σ' F' H', St2 X.K F' H' σ' p.2 → Stp σ ρ F H σ' p.2 F' H' → Fix prot σ σ' → EndsF X.K D0 σ' F' H' p.1
  refine ⟨fun m σ1 H1 => ∃ F1 ρ1, St2 X.K F1 H1 σ1 ρ1 ∧ Stp σ ρ F H σ1 ρ1 F1 H1 ∧ Fix prot σ σ1 ∧ (whileL tc f m ρ1).on PP (ExM X.mg W σ1 ρ1 F1 H1),
    ⟨n, F, ρ, s, Stp.refl _ _ _ _, Fix.refl _ _, q⟩, ?_⟩
  rintro m σ1 H1 ⟨F1, ρ1, s1, p1, fx1, q1⟩
  cases m with
  | zero => exact q1.elim
  | succ m =>
    refine ⟨F1, ρ1, s1, on_imp (on_bind q1) (fun t et q F2 H2 s2 p2 => ?_) fun _ _ _ q => q⟩
    have lr2 : t.2.length = ρ1.length := by rw [← s1.len, ← s2.len]
    by_cases w : t.1 = true
    · rw [if_pos w] at q
      dsimp only
      rw [if_pos w]
      refine ⟨fun σ2 H2 => ∃ F1 ρ1, St2 X.K F1 H2 σ2 ρ1 ∧ Stp σ ρ F H σ2 ρ1 F1 H2 ∧ Fix prot σ σ2 ∧ (whileL tc f m ρ1).on PP (ExM X.mg W σ2 ρ1 F1 H2), fun σ2 H2 h2 => ⟨m, Nat.lt_succ_self m, h2⟩, F2, t.2, s2, on_stp p2 rfl lr2 (on_bind q) fun p ep q σ4 F4 H4 s4 p4 fx4 => ?_⟩
      obtain ⟨fl, ρ4⟩ := p
      have lr4 : ρ4.length = ρ1.length := by rw [← s1.len, ← s4.len, fx4.1]
      have p04 := (p1.trans p2).trans p4
      cases fl with
      | nx => exact ⟨F4, ρ4, s4, p04, fx1.trans fx4, on_stp (p2.trans p4) fx4.1 lr4 q fun _ _ q => q⟩
      | cnt => exact ⟨F4, ρ4, s4, p04, fx1.trans fx4, on_stp (p2.trans p4) fx4.1 lr4 q fun _ _ q => q⟩
      | brk => exact q σ4 F4 H4 s4 p04 (fx1.trans fx4)
      | ret d => exact q σ4 F4 H4 s4 p04 (fx1.trans fx4)
      | new d => exact q σ4 F4 H4 s4 p04 (fx1.trans fx4)
    · rw [if_neg w] at q
      dsimp only
      rw [if_neg w]
      exact q σ1 F2 H2 s2 (p1.trans p2) fx1
end
end VL

/-! V11: comprehensions. -/
namespace VL
open PySem PySem.Spec L2

/-! ### what is owned may be read: all of it is taken as frozen for the while -/
def frzC : Cell → Cell
  | .own d => .val d
  | c => c
def frzA (ρ : Env') : Env' := ρ.map frzC
theorem St2.all {K : Fr'} {F H : Hp} {σ : L2.St} {ρ : Env'} (s : St2 K F H σ ρ) : St2 K (snap F H σ ρ) H σ (frzA ρ) where
  le := s.snap_le
  len := by unfold frzA; rw [List.length_map]; exact s.len
  val := fun i d h => by
    unfold frzA at h
    rw [List.getElem?_map] at h
    cases q : ρ[i]? with
    | none => rw [q] at h; cases h
    | some c =>
      rw [q] at h
      cases c with
      | emp => cases h
      | val e =>
        cases h
        obtain ⟨v, e1, r⟩ := s.val i _ q
        exact ⟨v, e1, Rep.mono s.le_snap _ _ r⟩
      | own e =>
        cases h
        obtain ⟨p, o, e1, ho, hn, c⟩ := s.own i _ q
        exact ⟨_, e1, Co.rep s.le_snap c (by rw [snap_own ⟨i, _, q, e1⟩]; exact ho)⟩
  own := fun i d h => by
    unfold frzA at h
    rw [List.getElem?_map] at h
    cases q : ρ[i]? with
    | none => rw [q] at h; cases h
    | some c => rw [q] at h; cases c <;> cases h
  sep := fun i j p d e _ h => by
    unfold frzA at h
    rw [List.getElem?_map] at h
    cases q : ρ[i]? with
    | none => rw [q] at h; cases h
    | some c => rw [q] at h; cases c <;> cases h
theorem emps_frz (ρ : Env') : emps (frzA ρ) = emps ρ := by unfold emps frzA; rw [List.length_map]
theorem ExM.all {K : Fr'} {mg : MG} {W : WX} {F H : Hp} {σ : L2.St} {ρ : Env'} {c : Str} {fs : List D} (s : St2 K F H σ ρ) (x : ExM mg W σ ρ F H c fs) : ExM mg W σ (frzA ρ) (snap F H σ ρ) H c fs := fun cls xd σ' F' H' l hl sp r => by
  refine x cls xd σ' F' H' l hl ⟨s.le_snap.trans sp.le, fun b o h n => sp.kp b o h fun ⟨i, d, h1, h2⟩ => ?_, fun b h => ?_, fun b h => absurd h emps_owned, sp.al⟩ r
  · obtain ⟨p, o', e, ho, hn, c⟩ := s.all.own i d h1
    unfold frzA at h1
    rw [List.getElem?_map] at h1
    cases q : ρ[i]? with
    | none => rw [q] at h1; cases h1
    | some c => rw [q] at h1; cases c <;> cases h1
  · rcases sp.fr b h with h | h | ⟨i, d, h1, h2⟩
    · by_cases w : Owned σ ρ b
      · exact .inr (.inr w)
      · rw [snap_not w] at h
        exact .inl h
    · exact .inr (.inl h)
    · unfold frzA at h1
      rw [List.getElem?_map] at h1
      cases q : ρ[i]? with
      | none => rw [q] at h1; cases h1
      | some c => rw [q] at h1; cases c <;> cases h1
section
variable {X : Cx} {W : WX} {e : Expr}
def brw {α : Type} (f : Env' → Out α) : Env' → Out α := fun ρ => f (frzA ρ)
theorem SR.borrow {f : Env' → Out D} (h : SR false X W e f) : SR true X W e (brw f) := SR.imp h.pe fun σ H Q ⟨F, ρ, s, q⟩ => ⟨_, _, s.all, on_imp q (fun d ed q v F' H' n r => by
  have n2 := s.snew n
  exact q v _ H' n2.1 (Rep.mono n2.2 _ _ r)) fun _ _ _ q => ExM.all s q⟩
theorem SO.borrow {f : Env' → Out D} (h : SO false X W e f) : SO true X W e (brw f) := SO.imp h.pe fun σ H Q ⟨F, ρ, s, q⟩ => ⟨_, _, s.all, on_imp q (fun d ed q p o F' H' n hp c => by
  have n2 := s.snew n
  exact q p o _ H' n2.1 hp (Co.mono n2.2 c)) fun _ _ _ q => ExM.all s q⟩
theorem SRT.borrow {f : Env' → Out Bool} (h : SRT X W e f) : SRT X W e (brw f) := ⟨PT.imp h.pe fun σ H Q ⟨F, ρ, s, q⟩ => ⟨_, _, s.all, on_imp q (fun d ed q F' H' n => q _ H' (s.snew n).1) fun _ _ _ q => ExM.all s q⟩⟩
end

/-! ### a comprehension's own places -/
def wipeE (ρ : Env') : List Nat → Env'
  | [] => ρ
  | v :: vs => (wipeE ρ vs).set v .emp
theorem wipeE_len (ρ : Env') : ∀ vs : List Nat, (wipeE ρ vs).length = ρ.length
  | [] => rfl
  | v :: vs => by unfold wipeE; rw [List.length_set, wipeE_len ρ vs]
theorem wipe_out {σ : L2.St} {j : Nat} : ∀ {vs : List Nat}, j ∉ vs → (wipe σ vs)[j]? = σ[j]?
  | [], _ => rfl
  | v :: vs, h => by
    unfold wipe
    rw [set_ne fun z => h (by rw [z]; exact List.mem_cons_self)]
    exact wipe_out fun z => h (List.mem_cons_of_mem _ z)
theorem wipeE_out {ρ : Env'} {j : Nat} : ∀ {vs : List Nat}, j ∉ vs → (wipeE ρ vs)[j]? = ρ[j]?
  | [], _ => rfl
  | v :: vs, h => by
    unfold wipeE
    rw [set_ne fun z => h (by rw [z]; exact List.mem_cons_self)]
    exact wipeE_out fun z => h (List.mem_cons_of_mem _ z)
theorem wipe_in {σ : L2.St} {j : Nat} : ∀ {vs : List Nat}, j ∈ vs → j < σ.length → (wipe σ vs)[j]? = some none
  | [], h, _ => nomatch h
  | v :: vs, h, hl => by
    unfold wipe
    by_cases e : j = v
    · subst e
      exact set_eq (by rw [wipe_length]; exact hl)
    · rw [set_ne e]
      exact wipe_in ((List.mem_cons.mp h).resolve_left e) hl
theorem wipeE_in {ρ : Env'} {j : Nat} {c : Cell} : ∀ {vs : List Nat}, j ∈ vs → (wipeE ρ vs)[j]? = some c → c = .emp
  | [], h, _ => nomatch h
  | v :: vs, h, hc => by
    unfold wipeE at hc
    rcases at_set hc with ⟨_, _, e⟩ | ⟨hj, hc⟩
    · exact e
    · exact wipeE_in ((List.mem_cons.mp h).resolve_left hj) hc
theorem wipe_eq {σ σ2 : L2.St} {sl vs : List Nat} (o : Only sl (wipe σ vs) σ2) (h : ∀ i, i ∈ sl → i ∈ vs) : wipe σ2 vs = wipe σ vs := by
  apply List.ext_getElem?
  intro j
  have hl : σ2.length = σ.length := by rw [o.1, wipe_length]
  by_cases hj : j ∈ vs
  · by_cases hb : j < σ.length
    · rw [wipe_in hj (by rw [hl]; exact hb), wipe_in hj hb]
    · rw [List.getElem?_eq_none (by rw [wipe_length, hl]; omega), List.getElem?_eq_none (by rw [wipe_length]; omega)]
  · rw [wipe_out hj, o.2 j fun z => hj (h j z)]
section
variable {K : Fr'} {F F' H H' : Hp} {σ σ2 : L2.St} {ρ ρ2 : Env'} {vs : List Nat}
theorem wipeE_at {j : Nat} {c : Cell} (h : (wipeE ρ vs)[j]? = some c) (hc : c ≠ .emp) : j ∉ vs ∧ ρ[j]? = some c := by
  by_cases hj : j ∈ vs
  · exact absurd (wipeE_in hj h) hc
  · exact ⟨hj, by rw [← wipeE_out hj]; exact h⟩
theorem St2.wipe (s : St2 K F H σ ρ) (vs : List Nat) : St2 K F H (wipe σ vs) (wipeE ρ vs) where
  le := s.le
  len := by rw [wipe_length, wipeE_len]; exact s.len
  val := fun i d h => by
    obtain ⟨hi, h⟩ := wipeE_at h (fun z => nomatch z)
    rw [wipe_out hi]
    exact s.val i d h
  own := fun i d h => by
    obtain ⟨hi, h⟩ := wipeE_at h (fun z => nomatch z)
    rw [wipe_out hi]
    exact s.own i d h
  sep := fun i j p d e hij h1 h2 h3 => by
    obtain ⟨hi, h1⟩ := wipeE_at h1 (fun z => nomatch z)
    obtain ⟨hj, h2⟩ := wipeE_at h2 (fun z => nomatch z)
    rw [wipe_out hi] at h3
    rw [wipe_out hj]
    exact s.sep i j p d e hij h1 h2 h3
theorem owned_wipe {b : Addr} (h : Owned (wipe σ vs) (wipeE ρ vs) b) : Owned σ ρ b := by
  obtain ⟨i, d, h1, h2⟩ := h
  obtain ⟨hi, h1⟩ := wipeE_at h1 (fun z => nomatch z)
  rw [wipe_out hi] at h2
  exact ⟨i, d, h1, h2⟩
/-- an object outside all of this changes -/
theorem St2.side (s : St2 K F H σ ρ) {D : Addr} {o : HO} (h : F D = none) (h2 : ¬ Owned σ ρ D) : St2 K F (upd H D o) σ ρ where
  le := s.le.updR h
  len := s.len
  val := s.val
  own := fun i d hi => by
    obtain ⟨p, u, e, ho, hn, c⟩ := s.own i d hi
    refine ⟨p, u, e, ?_, hn, c⟩
    rw [upd_ne fun (z : p = D) => h2 ⟨i, d, hi, by rw [← z]; exact e⟩]
    exact ho
  sep := s.sep
end
def del (H : Hp) (D : Addr) : Hp := fun b => if b = D then none else H b
theorem del_same {H : Hp} {D : Addr} : del H D D = none := by unfold del; rw [if_pos rfl]
theorem del_ne {H : Hp} {D b : Addr} (h : b ≠ D) : del H D b = H b := by unfold del; rw [if_neg h]
theorem del_upd {H : Hp} {D : Addr} {o : HO} (h : H D = some o) : upd (del H D) D o = H := by
  funext b
  by_cases e : b = D
  · subst e
    rw [upd_same, h]
  · rw [upd_ne e, del_ne e]

/-! ### [e for x in xs if t] -/
def cmpL (vs : List Nat) (g : D → Env' → Out Env') (t : Env' → Out Bool) (f : Env' → Out D) (ρ : Env') : List D → Out (List D)
  | [] => .ok []
  | x :: xs => (noX (g x (wipeE ρ vs))).bind fun ρ1 => (noX (t ρ1)).bind fun c => if c = true then (noX (f ρ1)).bind fun d => (cmpL vs g t f ρ xs).bind fun ds => .ok (d :: ds) else cmpL vs g t f ρ xs
def rLc (it : Env' → Out (List D)) (vs : List Nat) (g : D → Env' → Out Env') (t : Env' → Out Bool) (f : Env' → Out D) : Env' → Out D := fun ρ => (it ρ).bind fun xs => if xs.length ≤ sizeLine then (noX (cmpL vs g t f ρ xs)).bind fun ds => .ok (.lst ds) else .bad
structure STs (X : Cx) (W : WX) (ifs : List Expr) (t : Env' → Out Bool) : Prop where
  pt : PTs X ifs (tRT X.K X.mg W t)
def tYs : Env' → Out Bool := fun _ => .ok true
section
variable {X : Cx} {W : WX}
theorem PTs.imp {ifs : List Expr} {t t' : TT} (h : PTs X ifs t) (k : ∀ σ H Q, t' σ H Q → t σ H Q) : PTs X ifs t' := ⟨fun pins s σ H Q I q => h.run pins s σ H Q I (k _ _ _ q)⟩
theorem STs.nil : STs X W [] tYs := ⟨PTs.imp pts_nil fun σ H Q ⟨F, ρ, s, q⟩ => q F H (New.refl s.le)⟩
theorem STs.one {c : Expr} {t : Env' → Out Bool} (h : SRT X W c t) : STs X W [c] t := ⟨pts_one h.pe⟩
end
theorem noX_ok_inv {α : Type} {x : Out α} {a : α} (h : noX x = .ok a) : x = .ok a := by
  cases x with
  | ok b => exact h
  | exc c fs => cases h
  | bad => cases h
theorem bind_ok {α β : Type} {x : Out α} {f : α → Out β} {b : β} (h : x.bind f = .ok b) : ∃ a, x = .ok a ∧ f a = .ok b := by
  cases x with
  | ok a => exact ⟨a, rfl, h⟩
  | exc c fs => cases h
  | bad => cases h
theorem on_ok {α : Type} {x : Out α} {a : α} {P : α → Prop} {E : Str → List D → Prop} (e : x = .ok a) (h : P a) : x.on P E := by rw [e]; exact h
section
variable {K : Fr'} {mg : MG} {W : WX} {it : Env' → Out (List D)} {vs sl : List Nat} {g : D → Env' → Out Env'} {t : Env' → Out Bool} {f : Env' → Out D}
theorem lc_body (hsl : ∀ i, i ∈ sl → i ∈ vs) {F0 H0 : Hp} {σ : L2.St} {ρ : Env'} {Q : VK} {xs ds : List D} {J : It} (s0 : St2 K F0 H0 σ ρ) (it : ItOk K F0 H0 J xs) (hl : xs.length ≤ sizeLine) (eds : cmpL vs g t f ρ xs = .ok ds)
    (q : ∀ p o F' H', New F0 H0 F' H' → H' p = none → Co K F' (.lst ds) o → Q (.ref p) (upd H' p o)) :
    ∀ D, H0 D = none → ∃ W : Nat → Nat → Hp → Prop, (∃ m, W 0 m (upd H0 D (.lst []))) ∧ ∀ i m H, W i m H →
  (J.stop i H ∧ Q (.ref D) H) ∨ (J.go i H ∧ ∃ Nx : Hp → Prop, (∀ H', Nx H' → ∃ m', m' < m ∧ W (i + 1) m' H') ∧ ∀ x H', J.yld i H x H' → gM K sl g x (wipe σ vs) H' fun σ2 H2 => wipe σ2 vs = wipe σ vs ∧ tRT K mg W0 t σ2 H2 fun b H3 =>
    if b = true then tR K mg W0 false f σ2 H3 fun y H4 => ∃ acc, H4 D = some (.lst acc) ∧ acc.length < sizeLine ∧ Nx (upd H4 D (.lst (acc ++ [y]))) else Nx H3) := by
    intro D hD
    have nD : ¬ Owned σ ρ D := fun w => by
      obtain ⟨o, ho⟩ := s0.owned_some w
      rw [hD] at ho
      cases ho
    refine ⟨fun i m H1 => m = xs.length - i ∧ i ≤ xs.length ∧ ∃ F1 acc accV rest, St2 K F1 H1 σ ρ ∧ New F0 H0 F1 H1 ∧ F1 D = none ∧ H1 D = some (.lst accV) ∧ Reps K F1 acc accV ∧ acc.length ≤ i ∧ cmpL vs g t f ρ (xs.drop i) = .ok rest ∧ ds = acc ++ rest,
      ⟨xs.length, by omega, Nat.zero_le _, F0, [], [], ds, s0.side (s0.le.none hD) nD, ⟨Le.refl _, s0.le.updR (s0.le.none hD), fun b o h => by
        rw [upd_ne (ne_of_none h hD)]
        exact h, fun b h => .inl h⟩, s0.le.none hD, upd_same, mk_nil, Nat.le_refl _, eds, rfl⟩, ?_⟩
    rintro i m H1 ⟨rfl, hi, F1, acc, accV, rest, s1, n1, fD, hD1, r1, hacc, e1, rfl⟩
    have k1 : Kept F0 H0 H1 := fun b o _ h => n1.kp b o h
    by_cases hlt : i < xs.length
    · rw [drop_cons hlt] at e1
      obtain ⟨ρ2, eρ, e1⟩ := bind_ok e1
      obtain ⟨c, ec, e1⟩ := bind_ok e1
      refine .inr ⟨it.go F1 H1 i n1.le s1.le k1 hlt, fun H2 => i + 1 ≤ xs.length ∧ ∃ F1 acc2 accV rest2, St2 K F1 H2 σ ρ ∧ New F0 H0 F1 H2 ∧ F1 D = none ∧ H2 D = some (.lst accV) ∧ Reps K F1 acc2 accV ∧ acc2.length ≤ i + 1 ∧ cmpL vs g t f ρ (xs.drop (i + 1)) = .ok rest2 ∧ acc ++ rest = acc2 ++ rest2,
        fun H2 h2 => ⟨xs.length - (i + 1), by omega, rfl, h2⟩, fun v H2 hy => ?_⟩
      obtain ⟨F2, n2, r2⟩ := it.yld F1 H1 i xs[i] v H2 n1.le s1.le k1 (List.getElem?_eq_getElem hlt) hy
      have s2 := (s1.new n2)
      refine ⟨F2, wipeE ρ vs, _, s2.wipe vs, r2, on_ok (noX_ok_inv eρ) fun σ3 s3 o3 w3 => ⟨wipe_eq o3 hsl, F2, ρ2, s3, on_ok (noX_ok_inv ec) fun F4 H4 n4 => ?_⟩⟩
      have n14 := n2.trans n4
      have f4D : F4 D = none := by
        cases z : F4 D with
        | none => rfl
        | some u =>
          rcases n14.fr D (by rw [z]; exact Option.some_ne_none _) with w | w
          · exact absurd fD w
          · rw [hD1] at w
            cases w
      cases c with
      | true =>
        rw [if_pos rfl] at e1
        refine iteT ?_
        obtain ⟨d, ed, e1⟩ := bind_ok e1
        obtain ⟨rest2, er, e1⟩ := bind_ok e1
        cases e1
        refine ⟨F4, ρ2, s3.new n4, on_ok (noX_ok_inv ed) fun v5 F5 H5 n5 r5 => ?_⟩
        have n15 := n14.trans n5
        have f5D : F5 D = none := by
          cases z : F5 D with
          | none => rfl
          | some u =>
            rcases n15.fr D (by rw [z]; exact Option.some_ne_none _) with w | w
            · exact absurd fD w
            · rw [hD1] at w
              cases w
        have s5 : St2 K F5 H5 σ ρ := s1.new n15
        have n05 := n1.trans n15
        refine ⟨accV, n15.kp _ _ hD1, by rw [reps_len r1]; omega, hlt, F5, acc ++ [d], _, rest2, s5.side f5D nD, ⟨n05.le, s5.le.updR f5D, fun b o h => by
          rw [upd_ne (ne_of_none h hD)]
          exact n05.kp b o h, n05.fr⟩, f5D, upd_same, reps_app (Reps.mono n15.le _ _ r1) (mk_cons r5 mk_nil), ?_, er, ?_⟩
        · rw [List.length_append]
          exact Nat.succ_le_succ hacc
        · rw [List.append_assoc]
          rfl
      | false =>
        rw [if_neg Bool.false_ne_true] at e1
        refine iteF ?_
        exact ⟨hlt, F4, acc, accV, rest, s1.new n14, n1.trans n14, f4D, n14.kp _ _ hD1, Reps.mono n14.le _ _ r1, by omega, e1, rfl⟩
    · have e : i = xs.length := by omega
      subst e
      rw [List.drop_length] at e1
      cases e1
      refine .inl ⟨it.stop F1 H1 _ n1.le s1.le k1 (Nat.le_refl _), ?_⟩
      have n2 : New F0 H0 F1 (del H1 D) := by
        refine ⟨n1.le, fun a u h => ?_, fun b o h => ?_, n1.fr⟩
        · have ha : a ≠ D := fun z => by
            subst z
            rcases h with h | ⟨o, h⟩ <;> rw [fD] at h <;> cases h
          exact Rd.congr (del_ne ha).symm (s1.le a u h)
        · rw [del_ne (ne_of_none h hD)]
          exact n1.kp b o h
      have := q D (.lst accV) F1 (del H1 D) n2 del_same ⟨accV, rfl, by rw [List.append_nil]; exact r1⟩
      rw [del_upd hD1] at this
      exact this
theorem lc_read (hsl : ∀ i, i ∈ sl → i ∈ vs) : ∀ σ H Q, tO K mg W false (rLc it vs g t f) σ H Q → tLc (iR K mg W false it) (gM K sl g) (tRT K mg W0 t) (tR K mg W0 false f) vs σ H Q := by
  rintro σ H Q ⟨F, ρ, s, q⟩
  refine ⟨F, ρ, s, on_imp (on_bind q) (fun xs exs q J F0 H0 n0 it => ?_) fun _ _ _ q => q⟩
  by_cases hl : xs.length ≤ sizeLine
  · rw [if_pos hl] at q
    obtain ⟨ds, eds, q⟩ := noX_on (on_bind q)
    exact lc_body hsl (s.new n0) it hl eds fun p o F' H' n hp c => q p o F' H' (n0.trans n) hp c
  · rw [if_neg hl] at q
    exact q.elim
end
section
variable {X : Cx} {W : WX} {elt tg iter : Expr} {ifs : List Expr} {scope : Scope} {own : List (Str × Nat)} {pos : Pos} {sl : List Nat} {it : Env' → Out (List D)} {g : D → Env' → Out Env'} {t : Env' → Out Bool} {f : Env' → Out D}
theorem SO.lc (hc : X.calm = true) (hN : X.N.Nodup) (hi : SI false X W tg iter it) (ok : BlkOk X.N X.env.scope scope own)
    (hg : ∀ (s : Shared) (H : Hp) (C : Addr) (cl : List (Str × Addr)) (fp : List Addr), SG (X.blk s H scope (compEnvC scope cl C X.env) fp) sl tg g)
    (ht : ∀ (s : Shared) (H : Hp) (C : Addr) (cl : List (Str × Addr)) (fp : List Addr), STs (X.blk s H scope (compEnvC scope cl C X.env) fp) W0 ifs t)
    (he : ∀ (s : Shared) (H : Hp) (C : Addr) (cl : List (Str × Addr)) (fp : List Addr), SR false (X.blk s H scope (compEnvC scope cl C X.env) fp) W0 elt f) (hsl : ∀ i, i ∈ sl → i ∈ own.map (·.2) := by decide) (hs : ∀ x, foldedSetIterable iter X.env x = pure x := by intro _; rfl) :
    SO false X W (.ListComp elt [⟨tg, iter, ifs, 0⟩] scope pos) (rLc it (own.map (·.2)) g t f) :=
  SO.imp (pe_lc hc hN hi.pi ok (fun s H C cl fp => (hg s H C cl fp).pg) (fun s H C cl fp => (ht s H C cl fp).pt) (fun s H C cl fp => (he s H C cl fp).pe) hs) (lc_read hsl)
/-- y = [..], y a plain local name: a new object of its own, or frozen -/
theorem S1.lcO (i : Nat) {y : Str} {py spos : Pos} {prot : List Nat} (b : Bool) (hc : X.calm = true) (hN : X.N.Nodup) (hi : SI false X W tg iter it) (ok : BlkOk X.N X.env.scope scope own)
    (hg : ∀ (s : Shared) (H : Hp) (C : Addr) (cl : List (Str × Addr)) (fp : List Addr), SG (X.blk s H scope (compEnvC scope cl C X.env) fp) sl tg g)
    (ht : ∀ (s : Shared) (H : Hp) (C : Addr) (cl : List (Str × Addr)) (fp : List Addr), STs (X.blk s H scope (compEnvC scope cl C X.env) fp) W0 ifs t)
    (he : ∀ (s : Shared) (H : Hp) (C : Addr) (cl : List (Str × Addr)) (fp : List Addr), SR false (X.blk s H scope (compEnvC scope cl C X.env) fp) W0 elt f) (hyl : X.env.scope.names.lookup y = some .local)
    (hsw : swapsWith (.ListComp elt [⟨tg, iter, ifs, 0⟩] scope pos) (some (.Name y py)) spos.line X.env = pure true) (hp : i ∉ prot := by decide) (hy : X.N[i]? = some y := by rfl) (hsl : ∀ i, i ∈ sl → i ∈ own.map (·.2) := by decide) (hs : ∀ x, foldedSetIterable iter X.env x = pure x := by intro _; rfl) :
    S1 X W prot (.Assign [.Name y py] (.ListComp elt [⟨tg, iter, ifs, 0⟩] scope pos) spos) (sOwn b (if b = true then brw (rLc it (own.map (·.2)) g t f) else rLc it (own.map (·.2)) g t f) i) := by
  refine ⟨PS.imp (ps_setLc (g := gM X.K sl g) (tt := tRT X.K X.mg W0 t) (te := tR X.K X.mg W0 false f) hc hN hy hyl hsw hi.pi ok (fun s H C cl fp => (hg s H C cl fp).pg) (fun s H C cl fp => (ht s H C cl fp).pt) (fun s H C cl fp => (he s H C cl fp).pe) hs) ?_⟩
  rintro D0 σ H ⟨F, ρ, s, q⟩
  refine lc_read hsl σ H _ ?_
  cases b with
  | false =>
    rw [if_neg Bool.false_ne_true] at q
    refine ⟨F, ρ, s, on_imp (on_bind q) (fun d ed q p o F1 H1 n hp' c => ?_) fun _ _ _ q => q⟩
    split at q
    · rename_i w
      have ⟨s2, p2⟩ := own_ok s n hp' (b := false) c w i
      exact q _ F1 _ s2 p2 (Fix.set hp)
    · exact q.elim
  | true =>
    rw [if_pos rfl] at q
    refine ⟨_, _, s.all, on_imp (on_bind q) (fun d ed q p o F1 H1 n hp' c => ?_) fun _ _ _ q => ExM.all s q⟩
    split at q
    · rename_i w
      have n2 := s.snew n
      have ⟨s2, p2⟩ := own_ok s n2.1 hp' (b := true) (Co.mono n2.2 c) w i
      exact q _ _ _ s2 p2 (Fix.set hp)
    · exact q.elim
end
end VL

/-! V12: defs and their calls. -/
namespace VL
open PySem PySem.Spec L2

abbrev WE' (E : XK) : WX := fun cls d _ H => E cls d H
/-- the body's environment at the entry -/
def begE (n : Nat) (ρ0 : Env') : Env' := ρ0 ++ List.replicate (n - ρ0.length) Cell.emp
section
variable {K : Fr'} {F H : Hp} {vs : List V} {ρ0 : Env'}
theorem start_at {N : List Str} {vs : List V} {i : Nat} (h : i < vs.length) : (L2.start N vs)[i]? = (vs.map some)[i]? := by
  unfold L2.start
  rw [List.getElem?_append_left (by rw [List.length_map]; exact h)]
theorem begE_at {n : Nat} {i : Nat} {c : Cell} (h : (begE n ρ0)[i]? = some c) (hc : c ≠ .emp) : i < ρ0.length ∧ ρ0[i]? = some c := by
  unfold begE at h
  by_cases hi : i < ρ0.length
  · rw [List.getElem?_append_left hi] at h
    exact ⟨hi, h⟩
  · rw [List.getElem?_append_right (by omega), List.getElem?_replicate] at h
    split at h
    · exact absurd (Option.some.inj h).symm hc
    · cases h
theorem St2.start (s : St2 K F H (vs.map some) ρ0) {N : List Str} (hl : vs.length ≤ N.length) : St2 K F H (L2.start N vs) (begE N.length ρ0) := by
  have lv : vs.length = ρ0.length := by
    have := s.len
    rw [List.length_map] at this
    exact this
  refine ⟨s.le, ?_, fun i d h => ?_, fun i d h => ?_, fun i j p d e hij h1 h2 h3 => ?_⟩
  · unfold L2.start begE
    rw [List.length_append, List.length_append, List.length_map, List.length_replicate, List.length_replicate, lv]
  · obtain ⟨hi, h⟩ := begE_at h (fun z => nomatch z)
    rw [start_at (by omega)]
    exact s.val i d h
  · obtain ⟨hi, h⟩ := begE_at h (fun z => nomatch z)
    rw [start_at (by omega)]
    exact s.own i d h
  · obtain ⟨hi, h1⟩ := begE_at h1 (fun z => nomatch z)
    obtain ⟨hj, h2⟩ := begE_at h2 (fun z => nomatch z)
    rw [start_at (by omega)] at h3
    rw [start_at (by omega)]
    exact s.sep i j p d e hij h1 h2 h3
theorem owned_start {N : List Str} {b : Addr} (lv : vs.length = ρ0.length) (h : Owned (L2.start N vs) (begE N.length ρ0) b) : Owned (vs.map some) ρ0 b := by
  obtain ⟨i, d, h1, h2⟩ := h
  obtain ⟨hi, h1⟩ := begE_at h1 (fun z => nomatch z)
  rw [start_at (by omega)] at h2
  exact ⟨i, d, h1, h2⟩
theorem vals_st2 {ds : List D} (l : Le F H) (r : Reps K F ds vs) : St2 K F H (vs.map some) (ds.map Cell.val) where
  le := l
  len := by rw [List.length_map, List.length_map, reps_len r]
  val := fun i d h => by
    rw [List.getElem?_map] at h
    cases q : ds[i]? with
    | none => rw [q] at h; cases h
    | some e =>
      rw [q] at h
      cases h
      obtain ⟨v, hv, rv⟩ := reps_get r q
      exact ⟨v, by rw [List.getElem?_map, hv]; rfl, rv⟩
  own := fun i d h => by
    rw [List.getElem?_map] at h
    cases q : ds[i]? with
    | none => rw [q] at h; cases h
    | some e => rw [q] at h; cases h
  sep := fun i j p d e _ h => by
    rw [List.getElem?_map] at h
    cases q : ds[i]? with
    | none => rw [q] at h; cases h
    | some e => rw [q] at h; cases h
theorem vals_noown {ds : List D} {σ : L2.St} {b : Addr} : ¬ Owned σ (ds.map Cell.val) b := fun ⟨i, d, h, _⟩ => by
  rw [List.getElem?_map] at h
  cases q : ds[i]? with
  | none => rw [q] at h; cases h
  | some e => rw [q] at h; cases h
end
/-- the value of a call: nothing is handed back -/
def fnF (n : Nat) (body : Env' → Out (Fl × Env')) (ds : List D) : Out D := (body (begE n (ds.map Cell.val))).bind fun p => match p.1 with
  | .ret d => .ok d
  | .new d => .ok d
  | .nx => .ok .non
  | _ => .bad
section
variable {P : Program} {w : World} {K : Fr'} {mg : MG} {base : Heap} {x qual : Str} {st : Stmt} {f : Addr} {fd : FuncData} {N ps : List Str} {k : Nat} {body : Env' → Out (Fl × Env')}
theorem scope_le {N ps : List Str} {sc : Scope} (S : FnScope N ps sc) : ps.length ≤ N.length := by
  have h := S.pre
  have := congrArg List.length h
  rw [List.length_take] at this
  omega
theorem fn_okF (F : Fun K x qual st f fd) (S : FnScope N ps (defScope st))
    (hb : ∀ (cdv : Value) (A : Around) (outer : List Env) (s : Shared) (H : Hp) (E : XK), Room k (A.deeper (PyProof.Rows.envOfC qual (defScope st) s.heap.objs.size f cdv)) →
      SS (cxOf (L2.CX P w) P w K mg base N qual (defScope st) f cdv A outer s H E) (WE' E) [] (defBody st) body) :
    FnOk P w K mg base (L2.CX P w) (k + 1) f fd ps (fun vs H Q E => vs.length = ps.length ∧ spF K mg (fnF N.length body) vs H Q E) := by
  refine F.okX S (fun vs H Q E h => h.1) fun cdv A outer s H vs Q E hr h => ⟨_, (hb cdv A outer s H E hr).ps, ?_⟩
  obtain ⟨hl, F, ds, le, r, q⟩ := h
  have s0 := vals_st2 le r
  have lv : vs.length = (ds.map Cell.val).length := by rw [List.length_map, reps_len r]
  have s1 := s0.start (N := N) (by rw [hl]; exact scope_le S)
  have noow : ∀ b, ¬ Owned (L2.start N vs) (begE N.length (ds.map Cell.val)) b := fun b z => vals_noown (owned_start lv z)
  have nw : ∀ {σ' : L2.St} {ρ' : Env'} {F' H' : Hp}, Le F' H' → Stp (L2.start N vs) (begE N.length (ds.map Cell.val)) F H σ' ρ' F' H' → New F H F' H' := fun {σ' ρ' F' H'} l p => ⟨p.le, l, fun b o h => p.kp b o h (noow b), fun b h => by
    rcases p.fr b h with h | h | h
    · exact .inl h
    · exact .inr h
    · exact absurd h (noow b)⟩
  refine ⟨F, _, s1, on_imp (on_bind q) (fun p ep q σ' F' H' s' pp fx => ?_) (fun c fs ec q cls xd σ' F' H' l hl' pp r' => q cls xd F' H' (nw l pp) r')⟩
  obtain ⟨fl, ρ'⟩ := p
  have n := nw s'.le pp
  cases fl with
  | nx => exact q .non F' H' n mk_non
  | brk => exact q.elim
  | cnt => exact q.elim
  | ret d => exact fun v rv => q v F' H' n rv
  | new d =>
    intro p o hp c
    obtain ⟨n2, r⟩ := Co.laid s'.le hp c
    exact q _ _ _ (n.trans n2) r
theorem fnok_imp {sp sp' : Sp} {CX : CXT} (G : FnOk P w K mg base CX k f fd ps sp) (h : ∀ vs H Q E, sp' vs H Q E → sp vs H Q E) : FnOk P w K mg base CX k f fd ps sp' := G.imp h
end
/-- as SR.call asks it: the arguments' number is checked by the function -/
def arity (n : Nat) (mf : List D → Out D) : List D → Out D := fun ds => if ds.length = n then mf ds else .bad
section
variable {P : Program} {w : World} {K : Fr'} {mg : MG} {base : Heap} {f : Addr} {fd : FuncData} {ps : List Str} {k : Nat} {mf : List D → Out D}
theorem fn_ar (G : FnOk P w K mg base (L2.CX P w) k f fd ps (fun vs H Q E => vs.length = ps.length ∧ spF K mg mf vs H Q E)) : FnOk P w K mg base (L2.CX P w) k f fd ps (spF K mg (arity ps.length mf)) := G.imp fun vs H Q E ⟨F, ds, l, r, q⟩ => by
  unfold arity at q
  by_cases e : ds.length = ps.length
  · rw [if_pos e] at q
    exact ⟨by rw [reps_len r]; exact e, F, ds, l, r, q⟩
  · rw [if_neg e] at q
    exact q.elim
end

/-! ### the first parameter is an object of the caller's own, that is handed back changed -/
structure TStp (p : Addr) (F H F' H' : Hp) : Prop where
  le : Le F F'
  le' : Le F' H'
  kp : ∀ b o, b ≠ p → H b = some o → H' b = some o
  fr : ∀ b, F' b ≠ none → F b ≠ none ∨ H b = none
def spT (K : Fr') (mg : MG) (mf : D → List D → Out (D × D)) : Sp := fun vs H Q E => ∃ F p o d ws ds, vs = .ref p :: ws ∧ Le F H ∧ H p = some o ∧ F p = none ∧ Co K F d o ∧ Reps K F ds ws ∧
  (mf d ds).on (fun r => ∀ v F' H' o', TStp p F H F' H' → H' p = some o' → F' p = none → Co K F' r.2 o' → Rep K F' r.1 v → Q v H') (fun c fs => ∀ cls xd F' H', (∀ b o, b ≠ p → H b = some o → H' b = some o) → Le F F' → Le F' H' → (∀ b, F' b ≠ none → F b ≠ none ∨ H b = none ∨ b = p) → (∀ b, H b ≠ none → H' b ≠ none) → ExcR mg c fs cls xd → E cls xd H')
def ownOf (r : D) : Option Cell → Out (D × D)
  | some (.own d) => .ok (r, d)
  | _ => .bad
theorem ownOf_on {r : D} {c : Option Cell} {P : D × D → Prop} {E : Str → List D → Prop} (h : (ownOf r c).on P E) : ∃ d, c = some (Cell.own d) ∧ P (r, d) := by
  unfold ownOf at h
  split at h
  · exact ⟨_, rfl, h⟩
  · exact h.elim
def fnT (n m : Nat) (body : Env' → Out (Fl × Env')) (d : D) (ds : List D) : Out (D × D) := if ds.length + 1 = m then (body (begE n (Cell.own d :: ds.map Cell.val))).bind fun p => match p.1 with
  | .ret r => ownOf r p.2[0]?
  | .nx => ownOf .non p.2[0]?
  | _ => .bad else .bad
section
variable {P : Program} {w : World} {K : Fr'} {mg : MG} {base : Heap} {x qual : Str} {st : Stmt} {f : Addr} {fd : FuncData} {N ps : List Str} {k : Nat} {body : Env' → Out (Fl × Env')}
theorem own_st2 {F H : Hp} {p : Addr} {o : HO} {d : D} {ws : List V} {ds : List D} (l : Le F H) (ho : H p = some o) (hn : F p = none) (c : Co K F d o) (r : Reps K F ds ws) : St2 K F H ((V.ref p :: ws).map some) (Cell.own d :: ds.map Cell.val) := by
  have s := vals_st2 l r
  refine ⟨l, ?_, fun i e h => ?_, fun i e h => ?_, fun i j q d1 e hij h1 h2 h3 => ?_⟩
  · have := s.len
    show (ws.map some).length + 1 = (ds.map Cell.val).length + 1
    rw [this]
  · cases i with
    | zero => cases h
    | succ i => exact s.val i e h
  · cases i with
    | zero =>
      cases h
      exact ⟨p, o, rfl, ho, hn, c⟩
    | succ i =>
      obtain ⟨q, u, h1, h2, _⟩ := s.own i e h
      exact absurd ⟨i, e, h, h1⟩ (vals_noown (b := q))
  · cases i with
    | zero =>
      cases j with
      | zero => exact absurd rfl hij
      | succ j =>
        obtain ⟨q', u, h4, _⟩ := s.own j e h2
        exact absurd ⟨j, e, h2, h4⟩ (vals_noown (b := q'))
    | succ i =>
      obtain ⟨q', u, h4, _⟩ := s.own i d1 h1
      exact absurd ⟨i, d1, h1, h4⟩ (vals_noown (b := q'))
theorem own_only {p b : Addr} {d : D} {ws : List V} {ds : List D} (h : Owned ((V.ref p :: ws).map some) (Cell.own d :: ds.map Cell.val) b) : b = p := by
  obtain ⟨i, e, h1, h2⟩ := h
  cases i with
  | zero => cases h2; rfl
  | succ i => exact absurd ⟨i, e, h1, h2⟩ (vals_noown (b := b) (σ := ws.map some))
theorem fn_okT (F : Fun K x qual st f fd) (S : FnScope N ps (defScope st))
    (hb : ∀ (cdv : Value) (A : Around) (outer : List Env) (s : Shared) (H : Hp) (E : XK), Room k (A.deeper (PyProof.Rows.envOfC qual (defScope st) s.heap.objs.size f cdv)) →
      SS (cxOf (L2.CX P w) P w K mg base N qual (defScope st) f cdv A outer s H E) (WE' E) [0] (defBody st) body) :
    FnOk P w K mg base (L2.CX P w) (k + 1) f fd ps (spT K mg (fnT N.length ps.length body)) := by
  refine F.okX S (fun vs H Q E h => ?_) fun cdv A outer s H vs Q E hr h => ⟨_, (hb cdv A outer s H E hr).ps, ?_⟩
  · obtain ⟨F, p, o, d, ws, ds, rfl, l, ho, hn, c, r, q⟩ := h
    unfold fnT at q
    by_cases e : ds.length + 1 = ps.length
    · show ws.length + 1 = ps.length
      rw [reps_len r]
      exact e
    · rw [if_neg e] at q
      exact q.elim
  · obtain ⟨F, p, o, d, ws, ds, rfl, l, ho, hn, c, r, q⟩ := h
    unfold fnT at q
    by_cases e : ds.length + 1 = ps.length
    · rw [if_pos e] at q
      have s0 := own_st2 l ho hn c r
      have lv : (V.ref p :: ws).length = (Cell.own d :: ds.map Cell.val).length := by
        show ws.length + 1 = (ds.map Cell.val).length + 1
        rw [List.length_map, reps_len r]
      have s1 := s0.start (N := N) (by
        have := scope_le S
        show ws.length + 1 ≤ N.length
        rw [reps_len r]
        omega)
      have oo : ∀ b, Owned (L2.start N (V.ref p :: ws)) (begE N.length (Cell.own d :: ds.map Cell.val)) b → b = p := fun b z => own_only (owned_start lv z)
      refine ⟨F, _, s1, on_imp (on_bind q) (fun pr ep q σ' F' H' s' pp fx => ?_) (fun cc fs ec q cls xd σ' F' H' l2 hl' pp r' => q cls xd F' H' (fun b u hb h => pp.kp b u h fun z => hb (oo b z)) pp.le l2 (fun b h => ?_) pp.al r')⟩
      · obtain ⟨fl, ρ'⟩ := pr
        have hσ : σ'[0]? = some (some (V.ref p)) := by
          rw [fx.2 0 List.mem_cons_self]
          exact start_at (N := N) (vs := V.ref p :: ws) (Nat.succ_pos _)
        have fin : ∀ {d' : D}, ρ'[0]? = some (Cell.own d') → ∃ o', TStp p F H F' H' ∧ H' p = some o' ∧ F' p = none ∧ Co K F' d' o' := fun {d'} h0 => by
          obtain ⟨p', o', e1, ho', hn', c'⟩ := s'.own 0 d' h0
          rw [hσ] at e1
          cases e1
          refine ⟨o', ⟨pp.le, s'.le, fun b u hb h => pp.kp b u h fun z => hb (oo b z), fun b h => ?_⟩, ho', hn', c'⟩
          rcases pp.fr b h with w | w | w
          · exact .inl w
          · exact .inr w
          · rw [oo b w] at h
            exact absurd hn' h
        cases fl with
        | nx =>
          obtain ⟨d', h0, q⟩ := ownOf_on q
          obtain ⟨o', t, h1, h2, h3⟩ := fin h0
          exact q .non F' H' o' t h1 h2 h3 mk_non
        | brk => exact q.elim
        | cnt => exact q.elim
        | ret r0 =>
          obtain ⟨d', h0, q⟩ := ownOf_on q
          obtain ⟨o', t, h1, h2, h3⟩ := fin h0
          exact fun v rv => q v F' H' o' t h1 h2 h3 rv
        | new d => exact q.elim
      · rcases pp.fr b h with h | h | h
        · exact .inl h
        · exact .inr (.inl h)
        · exact .inr (.inr (oo b h))
    · rw [if_neg e] at q
      exact q.elim
end
/-- f(x, ..), x a name that owns its object -/
def mCT (i : Nat) (ms : Env' → Out (List D × Env')) (mf : D → List D → Out (D × D)) : Env' → Out (D × Env') := fun ρ => match ρ[i]? with
  | some (.own _) => (ms ρ).bind fun a => (match a.2[i]? with
    | some (.own d) => (mf d a.1).bind fun r => .ok (r.1, a.2.set i (.own r.2))
    | _ => .bad)
  | _ => .bad
section
variable {X : Cx} {W : WX} {k : Nat} {f : Addr} {fd : FuncData} {ps : List Str} {mf : D → List D → Out (D × D)} {ms : Env' → Out (List D × Env')} {fn x : Str} {p px pos : Pos} {es : List Expr}
theorem SM.callT (i : Nat) (G : FnOk X.prog X.w X.K X.mg X.base (L2.CX X.prog X.w) k f fd ps (spT X.K X.mg mf)) (hr : Room k X.A) (hg : Gl X fn) (hm : X.mg fn = some (.ref f)) (hk : PySem.W.keepIn X.K (.ref f) = true) (hb : Binds X.K fd ps []) (tk : TK X W)
    (ha : SMs X W es ms) (hN : X.N[i]? = some x := by rfl) (hv : Vis X.env.scope x := by first | exact Or.inl rfl | exact Or.inr (Or.inl rfl) | exact Or.inr (Or.inr rfl)) (hd : (x == ("__debug__" : Str)) = false := by decide)
    (hcd : (x == ("__classdict__" : Str)) = false := by decide) (hdb : (fn == ("__debug__" : Str)) = false := by decide)
    (hs : starEach (.Name x px :: es) X.env = (false, eval (.Name x px) X.env) :: starEach es X.env := by rfl) (hpl : (backTo pos (starEach es X.env)).any (·.1) = false := by rfl) :
    SM X W (.Call (.Name fn p) (.Name x px :: es) [] pos) (mCT i ms mf) := by
  refine SM.imp (pe_callS G hr hg hm hk hb tk (pa_cons (pe_var hN hv hd hcd) ha.pe hs) hdb hs hpl) ?_
  rintro σ H Q ⟨F, ρ, s, q⟩
  unfold mCT at q
  split at q
  · rename_i d0 h0
    obtain ⟨p, o0, e0, _⟩ := s.own i d0 h0
    refine ⟨_, e0, F, ρ, s, on_imp (on_bind q) (fun a ea q ws F1 H1 s1 r1 p1 => ?_) fun _ _ _ q => q⟩
    split at q
    · rename_i d hx
      obtain ⟨p', o, e1, ho, hn, c⟩ := s1.own i d hx
      rw [e0] at e1
      cases e1
      have lr : a.2.length = ρ.length := by rw [← s.len, ← s1.len]
      refine ⟨F1, p, o, d, ws, a.1, rfl, s1.le, ho, hn, c, r1, on_imp (on_bind q) (fun r er q v F2 H2 o' t h1 h2 h3 rv => ?_) (fun cc fs ec q cls xd F2 H2 hk' hl1 hl2 hfr hal r' => ?_)⟩
      · refine q v F2 H2 ⟨t.le', by rw [List.length_set]; exact s1.len, fun j e hj => ?_, fun j e hj => ?_, fun j l pj d1 e hjl hj hl' h4 => ?_⟩ rv (p1.trans ⟨t.le, fun b u h n => t.kp b u (fun z => n ⟨i, d, hx, by rw [z]; exact e0⟩) h, fun b h => ?_, fun b ⟨j, e, hj, hσ⟩ => ?_, fun b h z => ?_⟩)
        · rcases at_set hj with ⟨_, _, he⟩ | ⟨hne, hj⟩
          · cases he
          · obtain ⟨u, e2, r2⟩ := s1.val j e hj
            exact ⟨u, e2, Rep.mono t.le _ _ r2⟩
        · rcases at_set hj with ⟨ej, _, he⟩ | ⟨hne, hj⟩
          · cases he
            exact ⟨p, o', by rw [ej]; exact e0, h1, h2, h3⟩
          · obtain ⟨pj, u, e2, ho2, hn2, c2⟩ := s1.own j e hj
            have hpj : pj ≠ p := fun z => s1.sep i j p d e (Ne.symm hne) hx hj e0 (by rw [e2, z])
            refine ⟨pj, u, e2, t.kp _ _ hpj ho2, ?_, Co.mono t.le c2⟩
            cases w : F2 pj with
            | none => rfl
            | some u2 =>
              rcases t.fr pj (by rw [w]; exact Option.some_ne_none _) with w | w
              · exact absurd hn2 w
              · rw [ho2] at w
                cases w
        · rcases at_set hj with ⟨ej, _, he⟩ | ⟨hne, hj⟩
          · rcases at_set hl' with ⟨el, _, he2⟩ | ⟨hne2, hl'⟩
            · exact absurd (ej.trans el.symm) hjl
            · exact s1.sep j l pj d e hjl (ej ▸ hx) hl' h4
          · rcases at_set hl' with ⟨el, _, he2⟩ | ⟨hne2, hl'⟩
            · exact s1.sep j l pj d1 d hjl hj (el ▸ hx) h4
            · exact s1.sep j l pj d1 e hjl hj hl' h4
        · rcases t.fr b h with h | h
          · exact .inl h
          · exact .inr (.inl h)
        · rcases at_set hj with ⟨ej, _, he⟩ | ⟨hne, hj⟩
          · exact .inl ⟨i, d, hx, by rw [← ej]; exact hσ⟩
          · exact .inl ⟨j, e, hj, hσ⟩
        · by_cases e : b = p
          · rw [e, h1] at z
            cases z
          · cases w : H1 b with
            | none => exact h w
            | some u =>
              rw [t.kp b u e w] at z
              cases z
      · refine q cls xd σ F2 H2 hl2 rfl (p1.trans ?_) r'
        have ee : emps ρ = emps a.2 := by unfold emps; rw [lr]
        rw [ee]
        refine ⟨hl1, fun b u h n => hk' b u (fun z => n ⟨i, d, hx, by rw [z]; exact e0⟩) h, fun b h => ?_, fun b h => absurd h emps_owned, hal⟩
        rcases hfr b h with h | h | h
        · exact .inl h
        · exact .inr (.inl h)
        · exact .inr (.inr ⟨i, d, hx, by rw [h]; exact e0⟩)
    · exact q.elim
  · exact q.elim
end
end VL

/-! V13: comprehensions whose elements change owned objects. -/
namespace VL
open PySem PySem.Spec L2

def unw (ρ ρ2 : Env') : List Nat → Env'
  | [] => ρ2
  | v :: vs => (unw ρ ρ2 vs).set v (ρ.getD v .emp)
theorem unw_len (ρ ρ2 : Env') : ∀ vs : List Nat, (unw ρ ρ2 vs).length = ρ2.length
  | [] => rfl
  | v :: vs => by unfold unw; rw [List.length_set, unw_len ρ ρ2 vs]
theorem unw_out {ρ ρ2 : Env'} {j : Nat} : ∀ {vs : List Nat}, j ∉ vs → (unw ρ ρ2 vs)[j]? = ρ2[j]?
  | [], _ => rfl
  | v :: vs, h => by
    unfold unw
    rw [set_ne fun z => h (by rw [z]; exact List.mem_cons_self)]
    exact unw_out fun z => h (List.mem_cons_of_mem _ z)
theorem unw_in {ρ ρ2 : Env'} (hl : ρ2.length = ρ.length) {j : Nat} : ∀ {vs : List Nat}, j ∈ vs → (unw ρ ρ2 vs)[j]? = ρ[j]?
  | [], h => nomatch h
  | v :: vs, h => by
    unfold unw
    by_cases e : j = v
    · subst e
      by_cases hb : j < ρ.length
      · rw [set_eq (by rw [unw_len, hl]; exact hb), List.getD_eq_getElem?_getD, List.getElem?_eq_getElem hb]
        rfl
      · rw [List.getElem?_eq_none (by rw [List.length_set, unw_len, hl]; omega), List.getElem?_eq_none (by omega)]
    · rw [set_ne e]
      exact unw_in hl ((List.mem_cons.mp h).resolve_left e)
section
variable {K : Fr'} {F F' H H' : Hp} {σ σ2 : L2.St} {ρ ρ2 : Env'} {vs sl : List Nat}
theorem unw_ok (s : St2 K F H σ ρ) (s2 : St2 K F' H' σ2 ρ2) (p : Stp (wipe σ vs) (wipeE ρ vs) F H σ2 ρ2 F' H') (o : Only sl (wipe σ vs) σ2) (hsl : ∀ i, i ∈ sl → i ∈ vs) :
    St2 K F' H' σ (unw ρ ρ2 vs) ∧ Stp σ ρ F H σ (unw ρ ρ2 vs) F' H' := by
  have hl : ρ2.length = ρ.length := by rw [← s2.len, o.1, wipe_length, s.len]
  have same : ∀ j, j ∉ vs → σ[j]? = σ2[j]? := fun j hj => by rw [o.2 j fun z => hj (hsl j z), wipe_out hj]
  have nin : ∀ (i : Nat) (d : D) (q : Addr), i ∈ vs → ρ[i]? = some (Cell.own d) → σ[i]? = some (some (V.ref q)) → ¬ Owned (wipe σ vs) (wipeE ρ vs) q := fun i d q hi h1 h2 ⟨k, e, h3, h4⟩ => by
    obtain ⟨hk, h3⟩ := wipeE_at h3 (fun z => nomatch z)
    rw [wipe_out hk] at h4
    exact s.sep i k q d e (fun z => hk (z ▸ hi)) h1 h3 h2 h4
  have at2 : ∀ {j : Nat} {c : Cell}, (unw ρ ρ2 vs)[j]? = some c → (j ∈ vs ∧ ρ[j]? = some c) ∨ (j ∉ vs ∧ ρ2[j]? = some c) := fun {j c} h => by
    by_cases hj : j ∈ vs
    · rw [unw_in hl hj] at h
      exact .inl ⟨hj, h⟩
    · rw [unw_out hj] at h
      exact .inr ⟨hj, h⟩
  have kept : ∀ {i : Nat} {d : D} {q : Addr} {u : HO}, i ∈ vs → ρ[i]? = some (Cell.own d) → σ[i]? = some (some (V.ref q)) → H q = some u → F q = none → H' q = some u ∧ F' q = none := fun {i d q u} hi h1 h2 h3 h4 => by
    refine ⟨p.kp _ _ h3 (nin i d q hi h1 h2), ?_⟩
    cases w : F' q with
    | none => rfl
    | some u2 =>
      rcases p.fr q (by rw [w]; exact Option.some_ne_none _) with w | w | w
      · exact absurd h4 w
      · rw [h3] at w
        cases w
      · exact absurd w (nin i d q hi h1 h2)
  refine ⟨⟨s2.le, ?_, fun j d h => ?_, fun j d h => ?_, fun i j q d e hij h1 h2 h3 h4 => ?_⟩, ⟨p.le, fun b u h n => p.kp b u h fun w => n (owned_wipe w), fun b h => ?_, fun b ⟨j, d, h1, h2⟩ => ?_, p.al⟩⟩
  · rw [unw_len, hl]
    exact s.len
  · rcases at2 h with ⟨hj, h⟩ | ⟨hj, h⟩
    · obtain ⟨v, e, r⟩ := s.val j d h
      exact ⟨v, e, Rep.mono p.le _ _ r⟩
    · rw [same j hj]
      exact s2.val j d h
  · rcases at2 h with ⟨hj, h⟩ | ⟨hj, h⟩
    · obtain ⟨q, u, e, h3, h4, c⟩ := s.own j d h
      obtain ⟨h5, h6⟩ := kept hj h e h3 h4
      exact ⟨q, u, e, h5, h6, Co.mono p.le c⟩
    · rw [same j hj]
      exact s2.own j d h
  · have cross : ∀ {i j : Nat} {d e : D}, i ∈ vs → ρ[i]? = some (Cell.own d) → σ[i]? = some (some (V.ref q)) → j ∉ vs → ρ2[j]? = some (Cell.own e) → σ[j]? = some (some (V.ref q)) → False := fun {i j d e} hi h1 h3 hj h2 h4 => by
      rw [same j hj] at h4
      obtain ⟨q', u, e', g3, g4, c⟩ := s.own i d h1
      rw [h3] at e'
      cases e'
      rcases p.ow q ⟨j, e, h2, h4⟩ with w | w
      · exact nin i d q hi h1 h3 w
      · rw [g3] at w
        cases w
    rcases at2 h1 with ⟨hi, h1⟩ | ⟨hi, h1⟩
    · rcases at2 h2 with ⟨hj, h2⟩ | ⟨hj, h2⟩
      · exact s.sep i j q d e hij h1 h2 h3 h4
      · exact cross hi h1 h3 hj h2 h4
    · rcases at2 h2 with ⟨hj, h2⟩ | ⟨hj, h2⟩
      · exact cross hj h2 h4 hi h1 h3
      · rw [same i hi] at h3
        rw [same j hj] at h4
        exact s2.sep i j q d e hij h1 h2 h3 h4
  · rcases p.fr b h with h | h | h
    · exact .inl h
    · exact .inr (.inl h)
    · exact .inr (.inr (owned_wipe h))
  · rcases at2 h1 with ⟨hj, h1⟩ | ⟨hj, h1⟩
    · exact .inl ⟨j, d, h1, h2⟩
    · rw [same j hj] at h2
      rcases p.ow b ⟨j, d, h1, h2⟩ with w | w
      · exact .inl (owned_wipe w)
      · exact .inr w
end
def cmpM (vs : List Nat) (g : D → Env' → Out Env') (t : Env' → Out Bool) (f : Env' → Out (D × Env')) : List D → Env' → Out (List D × Env')
  | [], ρ => .ok ([], ρ)
  | x :: xs, ρ => (noX (g x (wipeE ρ vs))).bind fun ρ1 => (noX (t ρ1)).bind fun c => if c = true then (noX (f ρ1)).bind fun d => (cmpM vs g t f xs (unw ρ d.2 vs)).bind fun ds => .ok (d.1 :: ds.1, ds.2) else cmpM vs g t f xs ρ
def mLc (it : Env' → Out (List D × Env')) (vs : List Nat) (g : D → Env' → Out Env') (t : Env' → Out Bool) (f : Env' → Out (D × Env')) : Env' → Out (D × Env') := fun ρ => (it ρ).bind fun x => if x.1.length ≤ sizeLine then (noX (cmpM vs g t f x.1 x.2)).bind fun p => .ok (.lst p.1, p.2) else .bad
section
variable {K : Fr'} {mg : MG} {W : WX} {it : Env' → Out (List D × Env')} {vs sl : List Nat} {g : D → Env' → Out Env'} {t : Env' → Out Bool} {f : Env' → Out (D × Env')}
theorem mc_read (hsl : ∀ i, i ∈ sl → i ∈ vs) : ∀ σ H Q, tM K mg W (mLc it vs g t f) σ H Q → tLc (iM K mg W it) (gM K sl g) (tRT K mg W0 t) (tM K mg W0 f) vs σ H Q := by
  rintro σ H Q ⟨F, ρ, s, q⟩
  refine ⟨F, ρ, s, on_imp (on_bind q) (fun x exs q J F0 H0 s0 p0 it => ?_) fun _ _ _ q => q⟩
  obtain ⟨xs, ρ0⟩ := x
  dsimp only at s0 p0 it q
  by_cases hl : xs.length ≤ sizeLine
  · rw [if_pos hl] at q
    obtain ⟨ds, eds, q⟩ := noX_on (on_bind q)
    obtain ⟨ds, ρf⟩ := ds
    intro D hD
    have nD : ¬ Owned σ ρ0 D := fun w => by
      obtain ⟨o, ho⟩ := s0.owned_some w
      rw [hD] at ho
      cases ho
    have hHD : H D = none := by
      cases z : H D with
      | none => rfl
      | some u => exact absurd hD (p0.al D (by rw [z]; exact Option.some_ne_none _))
    have p00 : Stp σ ρ0 F0 H0 σ ρ0 F0 (upd H0 D (.lst [])) := ⟨Le.refl _, fun b u h _ => by rw [upd_ne (ne_of_none h hD)]; exact h, fun _ h => .inl h, fun _ h => .inl h, fun b h z => by
      by_cases e : b = D
      · rw [e, upd_same] at z
        cases z
      · rw [upd_ne e] at z
        exact h z⟩
    refine ⟨fun i m H1 => m = xs.length - i ∧ i ≤ xs.length ∧ ∃ F1 ρ1 acc accV rest, St2 K F1 H1 σ ρ1 ∧ Stp σ ρ0 F0 H0 σ ρ1 F1 H1 ∧ Kept F0 H0 H1 ∧ F1 D = none ∧ H1 D = some (.lst accV) ∧ ¬ Owned σ ρ1 D ∧ Reps K F1 acc accV ∧ acc.length ≤ i ∧ cmpM vs g t f (xs.drop i) ρ1 = .ok (rest, ρf) ∧ ds = acc ++ rest,
      ⟨xs.length, by omega, Nat.zero_le _, F0, ρ0, [], [], ds, s0.side (s0.le.none hD) nD, p00, fun b o _ h => by
        rw [upd_ne (ne_of_none h hD)]
        exact h, s0.le.none hD, upd_same, nD, mk_nil, Nat.le_refl _, eds, rfl⟩, ?_⟩
    rintro i m H1 ⟨rfl, hi, F1, ρ1, acc, accV, rest, s1, p1, k1, fD, hD1, nD1, r1, hacc, e1, rfl⟩
    by_cases hlt : i < xs.length
    · rw [drop_cons hlt] at e1
      obtain ⟨ρ2, eρ, e1⟩ := bind_ok e1
      obtain ⟨c, ec, e1⟩ := bind_ok e1
      refine .inr ⟨it.go F1 H1 i p1.le s1.le k1 hlt, fun H2 => i + 1 ≤ xs.length ∧ ∃ F1 ρ1 acc2 accV rest2, St2 K F1 H2 σ ρ1 ∧ Stp σ ρ0 F0 H0 σ ρ1 F1 H2 ∧ Kept F0 H0 H2 ∧ F1 D = none ∧ H2 D = some (.lst accV) ∧ ¬ Owned σ ρ1 D ∧ Reps K F1 acc2 accV ∧ acc2.length ≤ i + 1 ∧ cmpM vs g t f (xs.drop (i + 1)) ρ1 = .ok (rest2, ρf) ∧ acc ++ rest = acc2 ++ rest2,
        fun H2 h2 => ⟨xs.length - (i + 1), by omega, rfl, h2⟩, fun v H2 hy => ?_⟩
      obtain ⟨F2, n2, r2⟩ := it.yld F1 H1 i xs[i] v H2 p1.le s1.le k1 (List.getElem?_eq_getElem hlt) hy
      have s2 := (s1.new n2)
      refine ⟨F2, wipeE ρ1 vs, _, s2.wipe vs, r2, on_ok (noX_ok_inv eρ) fun σ3 s3 o3 w3 => ⟨wipe_eq o3 hsl, F2, ρ2, s3, on_ok (noX_ok_inv ec) fun F4 H4 n4 => ?_⟩⟩
      have n14 := n2.trans n4
      have gone : ∀ {F' H' : Hp}, New F1 H1 F' H' → F' D = none := fun {F' H'} n => by
        cases z : F' D with
        | none => rfl
        | some u =>
          rcases n.fr D (by rw [z]; exact Option.some_ne_none _) with w | w
          · exact absurd fD w
          · rw [hD1] at w
            cases w
      cases c with
      | true =>
        rw [if_pos rfl] at e1
        refine iteT ?_
        obtain ⟨d, ed, e1⟩ := bind_ok e1
        obtain ⟨rest2, er, e1⟩ := bind_ok e1
        cases e1
        refine ⟨F4, ρ2, s3.new n4, on_ok (noX_ok_inv ed) fun v5 F5 H5 s5 r5 p5 => ?_⟩
        have s4 := s2.new n4
        have p45 : Stp (wipe σ vs) (wipeE ρ1 vs) F4 H4 σ3 d.2 F5 H5 := by
          have pa : Stp (wipe σ vs) (wipeE ρ1 vs) F4 H4 σ3 ρ2 F4 H4 := ⟨Le.refl _, fun _ _ h _ => h, fun _ h => .inl h, fun b h => .inl (w3 b h), fun _ h => h⟩
          exact pa.trans p5
        obtain ⟨su, pu⟩ := unw_ok s4 s5 p45 o3 hsl
        have p15 := (n14.stp σ ρ1).trans pu
        have hD5 : H5 D = some (.lst accV) := p15.kp _ _ hD1 nD1
        have nD5 : ¬ Owned σ (unw ρ1 d.2 vs) D := fun w => by
          rcases p15.ow D w with w | w
          · exact nD1 w
          · rw [hD1] at w
            cases w
        have f5D : F5 D = none := by
          cases z : F5 D with
          | none => rfl
          | some u =>
            rcases p15.fr D (by rw [z]; exact Option.some_ne_none _) with w | w | w
            · exact absurd fD w
            · rw [hD1] at w
              cases w
            · exact absurd w nD1
        have p05 := p1.trans p15
        have k5 : Kept F0 H0 H5 := Stp.kept s1 p1.le k1 p15
        refine ⟨accV, hD5, by rw [reps_len r1]; omega, hlt, F5, unw ρ1 d.2 vs, acc ++ [d.1], _, rest2.1, su.side f5D nD5, ⟨p05.le, fun b u h n => ?_, p05.fr, p05.ow, fun b h z => ?_⟩, fun b o hb h => ?_, f5D, upd_same, nD5, reps_app (Reps.mono p15.le _ _ r1) (mk_cons r5 mk_nil), ?_, er, ?_⟩
        · rw [upd_ne (ne_of_none h hD)]
          exact p05.kp b u h n
        · by_cases e : b = D
          · rw [e, upd_same] at z
            cases z
          · rw [upd_ne e] at z
            exact p05.al b h z
        · rw [upd_ne (ne_of_none h hD)]
          exact k5 b o hb h
        · rw [List.length_append]
          exact Nat.succ_le_succ hacc
        · rw [List.append_assoc]
          rfl
      | false =>
        rw [if_neg Bool.false_ne_true] at e1
        refine iteF ?_
        exact ⟨hlt, F4, ρ1, acc, accV, rest, s1.new n14, p1.trans (n14.stp σ ρ1), Stp.kept s1 p1.le k1 (n14.stp σ ρ1), gone n14, n14.kp _ _ hD1, nD1, Reps.mono n14.le _ _ r1, by omega, e1, rfl⟩
    · have e : i = xs.length := by omega
      subst e
      rw [List.drop_length] at e1
      cases e1
      refine .inl ⟨it.stop F1 H1 _ p1.le s1.le k1 (Nat.le_refl _), ?_⟩
      rw [List.append_nil] at q
      have p01 := p0.trans p1
      have l2 : Le (upd F1 D (.lst accV)) H1 := fun a u h => by
        by_cases e : a = D
        · subst e
          exact Rd.congr (upd_same.trans hD1.symm) h
        · exact s1.le a u (Rd.congr (upd_ne e) h)
      have lF : Le F1 (upd F1 D (.lst accV)) := Le.updL fD
      refine q (.ref D) (upd F1 D (.lst accV)) H1 ⟨l2, s1.len, fun j d h => ?_, fun j d h => ?_, s1.sep⟩ (mk_lst (.inl (.inl upd_same)) (Reps.mono lF _ _ r1)) ⟨p01.le.trans lF, p01.kp, fun b h => ?_, p01.ow, p01.al⟩
      · obtain ⟨v, e, r⟩ := s1.val j d h
        exact ⟨v, e, Rep.mono lF _ _ r⟩
      · obtain ⟨q', u, e, h3, h4, c⟩ := s1.own j d h
        refine ⟨q', u, e, h3, ?_, Co.mono lF c⟩
        rw [upd_ne fun (z : q' = D) => nD1 ⟨j, d, h, by rw [← z]; exact e⟩]
        exact h4
      · by_cases e : b = D
        · exact .inr (.inl (by rw [e]; exact hHD))
        · rw [upd_ne e] at h
          exact p01.fr b h
  · rw [if_neg hl] at q
    exact q.elim
end
section
variable {X : Cx} {W : WX} {elt tg iter : Expr} {ifs : List Expr} {scope : Scope} {own : List (Str × Nat)} {pos : Pos} {sl : List Nat} {it : Env' → Out (List D × Env')} {g : D → Env' → Out Env'} {t : Env' → Out Bool} {f : Env' → Out (D × Env')}
theorem SM.lc (hc : X.calm = true) (hN : X.N.Nodup) (hi : SIM X W tg iter it) (ok : BlkOk X.N X.env.scope scope own)
    (hg : ∀ (s : Shared) (H : Hp) (C : Addr) (cl : List (Str × Addr)) (fp : List Addr), SG (X.blk s H scope (compEnvC scope cl C X.env) fp) sl tg g)
    (ht : ∀ (s : Shared) (H : Hp) (C : Addr) (cl : List (Str × Addr)) (fp : List Addr), STs (X.blk s H scope (compEnvC scope cl C X.env) fp) W0 ifs t)
    (he : ∀ (s : Shared) (H : Hp) (C : Addr) (cl : List (Str × Addr)) (fp : List Addr), SM (X.blk s H scope (compEnvC scope cl C X.env) fp) W0 elt f) (hsl : ∀ i, i ∈ sl → i ∈ own.map (·.2) := by decide) (hs : ∀ x, foldedSetIterable iter X.env x = pure x := by intro _; rfl) :
    SM X W (.ListComp elt [⟨tg, iter, ifs, 0⟩] scope pos) (mLc it (own.map (·.2)) g t f) :=
  SM.imp (pe_lc hc hN hi.pi ok (fun s H C cl fp => (hg s H C cl fp).pg) (fun s H C cl fp => (ht s H C cl fp).pt) (fun s H C cl fp => (he s H C cl fp).pe) hs) (mc_read hsl)
theorem S1.lcM (i : Nat) {y : Str} {py spos : Pos} {prot : List Nat} (hc : X.calm = true) (hN : X.N.Nodup) (hi : SIM X W tg iter it) (ok : BlkOk X.N X.env.scope scope own)
    (hg : ∀ (s : Shared) (H : Hp) (C : Addr) (cl : List (Str × Addr)) (fp : List Addr), SG (X.blk s H scope (compEnvC scope cl C X.env) fp) sl tg g)
    (ht : ∀ (s : Shared) (H : Hp) (C : Addr) (cl : List (Str × Addr)) (fp : List Addr), STs (X.blk s H scope (compEnvC scope cl C X.env) fp) W0 ifs t)
    (he : ∀ (s : Shared) (H : Hp) (C : Addr) (cl : List (Str × Addr)) (fp : List Addr), SM (X.blk s H scope (compEnvC scope cl C X.env) fp) W0 elt f) (hyl : X.env.scope.names.lookup y = some .local)
    (hsw : swapsWith (.ListComp elt [⟨tg, iter, ifs, 0⟩] scope pos) (some (.Name y py)) spos.line X.env = pure true) (hp : i ∉ prot := by decide) (hy : X.N[i]? = some y := by rfl) (hsl : ∀ i, i ∈ sl → i ∈ own.map (·.2) := by decide) (hs : ∀ x, foldedSetIterable iter X.env x = pure x := by intro _; rfl) :
    S1 X W prot (.Assign [.Name y py] (.ListComp elt [⟨tg, iter, ifs, 0⟩] scope pos) spos) (sAsg (mLc it (own.map (·.2)) g t f) (tgN i)) := by
  refine ⟨PS.imp (ps_setLc (g := gM X.K sl g) (tt := tRT X.K X.mg W0 t) (te := tM X.K X.mg W0 f) hc hN hy hyl hsw hi.pi ok (fun s H C cl fp => (hg s H C cl fp).pg) (fun s H C cl fp => (ht s H C cl fp).pt) (fun s H C cl fp => (he s H C cl fp).pe) hs) ?_⟩
  rintro D0 σ H ⟨F, ρ, s, q⟩
  exact mc_read hsl σ H _ ⟨F, ρ, s, on_imp (on_bind q) (fun x ex q v F1 H1 s1 r1 p1 => q _ F1 H1 (s1.setV r1 i) (p1.trans (Stp.setV i)) (Fix.set hp)) fun _ _ _ q => q⟩
end
end VL

/-! V14: texts joined and split, lists repeated, sorted, dict comprehensions. -/
namespace VL
open PySem PySem.Spec L2

/-! ### texts -/
def strsD : List D → Option (List Str)
  | [] => some []
  | .str x :: xs => (strsD xs).map (x :: ·)
  | _ :: _ => none
theorem reps_strs {K : Fr'} {F : Hp} : ∀ {xs : List D} {vs : List V} {ys : List Str}, strsD xs = some ys → Reps K F xs vs → vs = ys.map V.str
  | [], vs, ys, e, h => by
    rw [reps_nil h]
    cases e
    rfl
  | x :: xs, vs, ys, e, h => by
    obtain ⟨v, r, rfl, h1, h3⟩ := reps_cons h
    cases x <;> first | (exact absurd e (by unfold strsD; intro z; cases z)) | skip
    unfold strsD at e
    cases q : strsD xs with
    | none => rw [q] at e; cases e
    | some cs =>
      rw [q] at e
      cases e
      rw [rep_str h1, reps_strs q h3]
      rfl
theorem mk_strs {K : Fr'} {F : Hp} : ∀ (ys : List Str), Reps K F (ys.map D.str) (ys.map V.str)
  | [] => mk_nil
  | y :: ys => mk_cons mk_str (mk_strs ys)
def gJoin : D → D → Out D
  | .str a, .lst xs => match strsD xs with
    | some ys => if (ys.map (·.length)).sum + ys.length * a.length ≤ 16777216 then .ok (.str (Txt.join a ys)) else .bad
    | none => .bad
  | .str a, .tup xs => match strsD xs with
    | some ys => if (ys.map (·.length)).sum + ys.length * a.length ≤ 16777216 then .ok (.str (Txt.join a ys)) else .bad
    | none => .bad
  | _, _ => .bad
def rJoin (K : Fr') : V → List V → Hp → VK → Prop := fun x xs H Q => ∃ a p, ∃ ys : List Str, x = .str a ∧ xs = [.ref p] ∧ (SqL K H p (ys.map V.str) ∨ SqT K H p (ys.map V.str)) ∧ (ys.map (·.length)).sum + ys.length * a.length ≤ 16777216 ∧ Q (.str (Txt.join a ys)) H
theorem p_join {K : Fr'} : Pure2 K (fun x y H Q => (∃ a, x = .str a) ∧ rJoin K x [y] H Q) gJoin := by
  intro F H x y dx dy d Q l rx ry e k
  cases dx <;> cases dy <;> first | (unfold gJoin at e; cases e; done) | skip
  all_goals
    unfold gJoin at e
    dsimp only at e
    split at e
    · rename_i ys hy
      split at e
      · rename_i c
        cases e
        rw [rep_str rx]
        first
        | obtain ⟨p, vs, rfl, h1, r1⟩ := rep_tup ry
          refine ⟨⟨_, rfl⟩, _, p, ys, rfl, rfl, .inr ?_, c, k _ _ _ (New.refl l) mk_str⟩
          rw [← reps_strs hy r1]
          exact l.seqT h1
        | obtain ⟨p, vs, rfl, h1, r1⟩ := rep_lst ry
          refine ⟨⟨_, rfl⟩, _, p, ys, rfl, rfl, .inl ?_, c, k _ _ _ (New.refl l) mk_str⟩
          rw [← reps_strs hy r1]
          exact l.seqL h1
      · cases e
    · cases e
section
variable {b : Bool} {X : Cx} {W : WX} {o e : Expr} {f g : Env' → Out D} {mf mg' : Env' → Out (D × Env')} {pos apos : Pos}
/-- the receiver's kind is asked ahead of the argument: a text that is written -/
theorem SM.join {a : Str} {j : Nat} {pc : Pos} (he : SM X W e mg') (hs : starEach [e] X.env = [(false, eval e X.env)] := by rfl) (hbase : attributeBase (.Constant (.str a) j pc) "join" X.env (eval (.Constant (.str a) j pc) X.env) = eval (.Constant (.str a) j pc) X.env := by rfl) (hline : (apos.endLine == pos.line) = true := by rfl) :
    SM X W (.Call (.Attribute (.Constant (.str a) j pc) "join" apos) [e] [] pos) (m1 mg' (gJoin (.str a))) := by
  refine SM.imp (pe_join pe_str he.pe hs hbase hline) ?_
  intro σ H Q h
  exact ⟨⟨a, rfl⟩, tM1 (r := fun y H Q => rJoin X.K (.str a) [y] H Q) (fun F H y dy d Q l ry ed k => (p_join F H (.str a) y (.str a) dy d Q l mk_str ry ed k).2) σ H Q h⟩
theorem SR.join {a : Str} {j : Nat} {pc : Pos} (he : SR b X W e g) (hs : starEach [e] X.env = [(false, eval e X.env)] := by rfl) (hbase : attributeBase (.Constant (.str a) j pc) "join" X.env (eval (.Constant (.str a) j pc) X.env) = eval (.Constant (.str a) j pc) X.env := by rfl) (hline : (apos.endLine == pos.line) = true := by rfl) :
    SR b X W (.Call (.Attribute (.Constant (.str a) j pc) "join" apos) [e] [] pos) (r1 g (gJoin (.str a))) := by
  refine SR.imp (pe_join pe_str he.pe hs hbase hline) ?_
  intro σ H Q h
  exact ⟨⟨a, rfl⟩, tR1 (r := fun y H Q => rJoin X.K (.str a) [y] H Q) (fun F H y dy d Q l ry ed k => (p_join F H (.str a) y (.str a) dy d Q l mk_str ry ed k).2) σ H Q h⟩
/-- a text's method with one argument -/
def rTx (f g : Env' → Out D) (h : Str → D → Out D) : Env' → Out D := fun ρ => (f ρ).bind fun x => match x with
  | .str a => (g ρ).bind fun y => noX (h a y)
  | _ => .bad
def PureTx (K : Fr') (r : V → List V → Hp → VK → Prop) (h : Str → D → Out D) : Prop := ∀ F H a y dy d Q, Le F H → Rep K F dy y → h a dy = .ok d → (∀ v F' H', New F H F' H' → Rep K F' d v → Q v H') → r (.str a) [y] H Q
def PureTxO (K : Fr') (r : V → List V → Hp → VK → Prop) (h : Str → D → Out D) : Prop := ∀ F H a y dy d Q, Le F H → Rep K F dy y → h a dy = .ok d → (∀ p o, H p = none → Co K F d o → Q (.ref p) (upd H p o)) → r (.str a) [y] H Q
theorem tRTx {r : V → List V → Hp → VK → Prop} {h : Str → D → Out D} (P : PureTx X.K r h) : ∀ σ H Q, tR X.K X.mg W b (rTx f g h) σ H Q → L2.tM1 r (tR X.K X.mg W b f) (tR X.K X.mg W b g) σ H Q := by
  rintro σ H Q ⟨F, ρ, s, q⟩
  refine ⟨F, ρ, s, on_imp (on_bind q) (fun x ex q v1 F1 H1 n1 rx => ?_) (fun _ _ _ q => q)⟩
  have s1 := s.new n1
  cases x <;> first | (exact q.elim) | skip
  rename_i a
  rw [rep_str rx]
  refine ⟨⟨a, rfl⟩, F1, ρ, s1, on_new n1 (on_bind q) fun y ey q v2 F2 H2 n2 ry => ?_⟩
  have s2 := s1.new n2
  obtain ⟨d, ed, q⟩ := noX_on q
  refine P _ _ _ _ _ _ _ s2.bs_le ry ed fun v F' H' n rv => ?_
  obtain ⟨F'', n3, l⟩ := s2.bnew n
  exact q v _ H' ((n1.trans n2).trans n3) (Rep.mono l _ _ rv)
theorem tOTx {r : V → List V → Hp → VK → Prop} {h : Str → D → Out D} (P : PureTxO X.K r h) : ∀ σ H Q, tO X.K X.mg W b (rTx f g h) σ H Q → L2.tM1 r (tR X.K X.mg W b f) (tR X.K X.mg W b g) σ H Q := by
  rintro σ H Q ⟨F, ρ, s, q⟩
  refine ⟨F, ρ, s, on_imp (on_bind q) (fun x ex q v1 F1 H1 n1 rx => ?_) (fun _ _ _ q => q)⟩
  have s1 := s.new n1
  cases x <;> first | (exact q.elim) | skip
  rename_i a
  rw [rep_str rx]
  refine ⟨⟨a, rfl⟩, F1, ρ, s1, on_new n1 (on_bind q) fun y ey q v2 F2 H2 n2 ry => ?_⟩
  have s2 := s1.new n2
  obtain ⟨d, ed, q⟩ := noX_on q
  exact P _ _ _ _ _ _ _ s2.bs_le ry ed fun p o hp c => q p o F2 H2 (n1.trans n2) hp c
/-- s.split(t) -/
def gSplit : Str → D → Out D
  | a, .str c => if (c.length == 0) = false ∧ a.length + 2 ≤ sizeLine then .ok (.lst ((Txt.split a c).map D.str)) else .bad
  | _, _ => .bad
theorem SO.split (ho : SR b X W o f) (he : SR b X W e g) (hs : starEach [e] X.env = [(false, eval e X.env)] := by rfl) (hbase : attributeBase o "split" X.env (eval o X.env) = eval o X.env := by rfl) (hline : (apos.endLine == pos.line) = true := by rfl) :
    SO b X W (.Call (.Attribute o "split" apos) [e] [] pos) (rTx f g gSplit) := SO.imp (pe_split ho.pe he.pe hs hbase hline) (tOTx (by
  intro F H a y dy d Q l ry ed k
  cases dy <;> first | (unfold gSplit at ed; cases ed; done) | skip
  unfold gSplit at ed
  dsimp only at ed
  split at ed
  · rename_i c
    cases ed
    rw [rep_str ry]
    exact ⟨_, _, rfl, rfl, c.1, c.2, fun p hp => k p _ hp ⟨_, rfl, mk_strs _⟩⟩
  · cases ed))
/-- [..] * n -/
def gRepL (xs : List D) : D → Out D
  | .int k => if xs.length ≤ sizeLine ∧ -(2 ^ 63) ≤ k ∧ k < 2 ^ 63 ∧ xs.length * k.toNat ≤ sizeLine then .ok (.lst (List.replicate k.toNat xs).flatten) else .bad
  | _ => .bad
def rRepL (fs : Env' → Out (List D)) (g : Env' → Out D) : Env' → Out D := fun ρ => (fs ρ).bind fun xs => if xs.length ≤ sizeLine then (g ρ).bind fun y => noX (gRepL xs y) else .bad
theorem SO.repL {es : List Expr} {fs : Env' → Out (List D)} {p : Pos} (h : SRs b X W es fs) (hb : SR b X W e g) : SO b X W (.BinOp (.List es p) .Mult e pos) (rRepL fs g) := by
  refine SO.imp (pe_op op_rep (pe_lst h.pe) hb.pe) ?_
  rintro σ H Q ⟨F, ρ, s, q⟩
  refine ⟨F, ρ, s, on_imp (on_bind q) (fun xs exs q vs F1 H1 n1 r1 => ?_) fun _ _ _ q => q⟩
  have s1 := s.new n1
  by_cases hz : xs.length ≤ sizeLine
  · rw [if_pos hz] at q
    refine ⟨by rw [reps_len r1]; exact hz, fun p hp => ?_⟩
    have hpF := s1.le.none hp
    have nD : ¬ Owned σ ρ p := fun w => by
      obtain ⟨o, ho⟩ := s1.owned_some w
      rw [hp] at ho
      cases ho
    have s1' : St2 X.K F1 (upd H1 p (.lst vs)) σ ρ := s1.side hpF nD
    have n1' : New F H F1 (upd H1 p (.lst vs)) := ⟨n1.le, s1'.le, fun c o h => by
      rw [upd_ne (ne_of_none (n1.kp _ _ h) hp)]
      exact n1.kp _ _ h, n1.fr⟩
    refine ⟨F1, ρ, s1', on_new n1' (on_bind q) fun y ey q v2 F2 H2 n2 ry => ?_⟩
    have s2 := s1'.new n2
    obtain ⟨d, ed, q⟩ := noX_on q
    cases y <;> first | (unfold gRepL at ed; cases ed; done) | skip
    rename_i k
    unfold gRepL at ed
    dsimp only at ed
    split at ed
    · rename_i c
      cases ed
      have hp2 : H2 p = some (.lst vs) := n2.kp _ _ upd_same
      have l12 : Le (bs b F1 H1 σ ρ) (bs b F2 H2 σ ρ) := by
        have n12 : New F1 H1 F2 H2 := ⟨n2.le, n2.le', fun c o h => n2.kp _ _ (by rw [upd_ne (ne_of_none h hp)]; exact h), fun c h => by
          rcases n2.fr c h with h | h
          · exact .inl h
          · by_cases e : c = p
            · rw [e, upd_same] at h
              cases h
            · rw [upd_ne e] at h
              exact .inr h⟩
        exact bs_new s1 n12
      refine ⟨p, k, vs, rfl, rep_int ry, hp2, c.2.1, c.2.2.1, by rw [reps_len r1]; exact c.2.2.2, fun p2 hp3 => q p2 _ F2 H2 (n1'.trans n2) hp3 ⟨_, rfl, reps_rep (Reps.mono l12 _ _ r1) k.toNat⟩⟩
    · cases ed
  · rw [if_neg hz] at q
    exact q.elim
end

/-! ### sorted -/
def ltLe (a c : D) : Bool := PySem.W.dataLe false toP a c
theorem dps_reads {X : Cx} {pins : List (Addr × Obj)} {σ : L2.St} {H : Hp} {s : Shared} (I : Inv X pins σ H s) : ∀ {vs : List V} {us : List Value} {ds : List D}, Vals vs us → DpAll X.K H vs (toPs ds) → PySem.W.EachIs (fun v (z : V × D) => ∃ as, Reads s.heap v (toP z.2) as) us (vs.zip ds) ∧ PySem.W.EachIs (fun v (z : V × D) => RelV z.1 v) us (vs.zip ds)
  | [], us, ds, rv, h => by
    cases rv
    cases ds with
    | nil => exact ⟨.nil, .nil⟩
    | cons d ds => cases h
  | v :: vs, us, ds, rv, h => by
    cases rv with
    | cons r1 r2 =>
      cases ds with
      | nil => cases h
      | cons d ds =>
        cases h with
        | cons h1 h2 =>
          obtain ⟨a, c⟩ := dps_reads I r2 h2
          exact ⟨.cons (Dp.reads I _ _ _ h1 r1) a, .cons r1 c⟩
theorem zip_enc : ∀ {vs : List V} {ds : List D}, vs.length = ds.length → (vs.zip ds).map (fun z => toP z.2) = toPs ds
  | [], [], _ => rfl
  | v :: vs, d :: ds, h => by
    rw [List.zip_cons_cons, List.map_cons, zip_enc (Nat.succ.inj h)]
    rfl
  | [], d :: ds, h => by cases h
  | v :: vs, [], h => by cases h
theorem dpAll_len {K : Fr'} {H : Hp} : ∀ {vs : List V} {ds : List D}, DpAll K H vs (toPs ds) → vs.length = ds.length
  | [], [], _ => rfl
  | v :: vs, d :: ds, h => by
    cases h with
    | cons h1 h2 => exact congrArg Nat.succ (dpAll_len h2)
  | [], d :: ds, h => by cases h
  | v :: vs, [], h => by cases h
theorem each_vals : ∀ {us : List Value} {zs : List (V × D)}, PySem.W.EachIs (fun v (z : V × D) => RelV z.1 v) us zs → Vals (zs.map (·.1)) us
  | _, _, .nil => .nil
  | _, _, .cons h t => .cons h (each_vals t)
def rSortD (K : Fr') : List V → Hp → VK → Prop := fun xs H Q => ∃ a ws ds, xs = [.ref a] ∧ SqL K H a ws ∧ DpAll K H ws (toPs ds) ∧ PySem.W.AllAlike (toPs ds) ∧ PySem.W.Sortable (toPs ds) ∧ (∀ d ∈ ds, (toP d).depth ≤ 64) ∧
  ∀ p, H p = none → Q (.ref p) (upd H p (.lst (((ws.zip ds).mergeSort (PySem.W.dataLe false fun z => toP z.2)).map (·.1))))
theorem cr_sortD {X : Cx} (hu : X.A.units + 200 < cLine) : CallR X (.builtin "sorted") (rSortD X.K) := by
  intro pins s σ H xs us Q I r h
  obtain ⟨a, ws, ds, rfl, hq, hd, ha, hk, hdep, q⟩ := h
  rw [Vals.ref1 r]
  obtain ⟨its, rv, pl, hz⟩ := I.list hq
  obtain ⟨e1, e2⟩ := dps_reads I rv hd
  have hlen := dpAll_len hd
  have ez := zip_enc hlen
  refine PySem.W.sorted_data (R := fun v (z : V × D) => RelV z.1 v) (enc := fun z : V × D => toP z.2) (bs := ws.zip ds) (by simpa using pl.isList) e2 e1 (by rw [ez]; exact ha) (by rw [ez]; exact hk) (by rw [List.length_zip]; omega) (fun z hz => ?_) fun out ho eo => ?_
  · have := hdep z.2 (List.of_mem_zip hz).2
    omega
  · have hv := each_vals eo
    obtain ⟨c, hc⟩ := PyProof.Rows.sortedAll_at s.heap its out.toArray
    have hn : H (s.heap.objs.size + 1) = none := I.hok.fresh (Nat.le_succ _)
    refine ⟨.ref (s.heap.objs.size + 1), _, I.laid (t' := s.toks) (fun b o e => PyProof.Rows.sortedAll_old e) (Nat.le_succ _) ?_, rfl, q _ hn⟩
    refine ⟨?_, out, c, hv, by simpa using hc⟩
    rw [List.length_map, List.length_mergeSort, List.length_zip]
    omega
def isTN : D → Bool
  | .tup (_ :: _) => true
  | _ => false
def notNT : D → Bool
  | .non => false
  | .tup _ => false
  | _ => true
def alikeD (xs : List D) : Bool := xs.all fun x => xs.all fun y => PySem.W.alike (toP x) (toP y)
def sortOk (xs : List D) : Bool := alikeD xs && ((xs.all isTN || xs.all notNT) && SeqAt.shaped (toP (.lst xs)))
def gSorted : List D → Out D
  | [.lst xs] => if sortOk xs = true then .ok (.lst (xs.mergeSort ltLe)) else .bad
  | _ => .bad
theorem mem_toPs {p : PyData} : ∀ {xs : List D}, p ∈ toPs xs → ∃ d ∈ xs, p = toP d
  | [], h => nomatch h
  | x :: xs, h => by
    rcases List.mem_cons.mp h with h | h
    · exact ⟨x, List.mem_cons_self, h⟩
    · obtain ⟨d, h1, h2⟩ := mem_toPs h
      exact ⟨d, List.mem_cons_of_mem _ h1, h2⟩
theorem depth_mem : ∀ {xs : List D} {d : D}, d ∈ xs → (toP d).depth ≤ PyData.depthAll (toPs xs)
  | x :: xs, d, h => by
    unfold toPs PyData.depthAll
    rcases List.mem_cons.mp h with h | h
    · rw [h]
      exact Nat.le_max_left _ _
    · exact Nat.le_trans (depth_mem h) (Nat.le_max_right _ _)
theorem zip_rep {K : Fr'} {F : Hp} : ∀ {xs : List D} {vs : List V}, Reps K F xs vs → ∀ z ∈ vs.zip xs, Rep K F z.2 z.1
  | [], vs, h, z, hz => by simp at hz
  | x :: xs, vs, h, z, hz => by
    obtain ⟨v, r, rfl, h1, h3⟩ := reps_cons h
    rw [List.zip_cons_cons] at hz
    rcases List.mem_cons.mp hz with e | hz
    · rw [e]
      exact h1
    · exact zip_rep h3 z hz
theorem reps_of_pairs {K : Fr'} {F : Hp} : ∀ {zs : List (V × D)}, (∀ z ∈ zs, Rep K F z.2 z.1) → Reps K F (zs.map (·.2)) (zs.map (·.1))
  | [], _ => mk_nil
  | z :: zs, h => mk_cons (h z List.mem_cons_self) (reps_of_pairs fun y hy => h y (List.mem_cons_of_mem _ hy))
theorem p_sorted {K : Fr'} : PureON K (rSortD K) gSorted := by
  intro F H xs ds d Q l rx e k
  unfold gSorted at e
  split at e
  · rename_i ys
    split at e
    · rename_i c
      cases e
      obtain ⟨v, rfl, r⟩ := reps1 rx
      obtain ⟨a, vs, rfl, h1, r1⟩ := rep_lst r
      unfold sortOk at c
      rw [Bool.and_eq_true, Bool.and_eq_true, Bool.or_eq_true] at c
      obtain ⟨c1, c2, c3⟩ := c
      have lay : PyData.canLayAll0 (toPs ys) = true := SeqAt.canLay_of_shaped c3
      have dep : PyData.depth (toP (.lst ys)) ≤ 64 := SeqAt.depth_of_shaped c3
      refine ⟨a, vs, ys, rfl, l.seqL h1, reps_dp l _ _ lay r1, ?_, ?_, ?_, fun p hp => k p _ hp ⟨_, rfl, ?_⟩⟩
      · intro x hx y hy
        obtain ⟨d1, m1, rfl⟩ := mem_toPs hx
        obtain ⟨d2, m2, rfl⟩ := mem_toPs hy
        unfold alikeD at c1
        exact List.all_eq_true.mp (List.all_eq_true.mp c1 d1 m1) d2 m2
      · rcases c2 with c2 | c2
        · refine .inl fun x hx => ?_
          obtain ⟨d1, m1, rfl⟩ := mem_toPs hx
          have h := List.all_eq_true.mp c2 d1 m1
          unfold isTN at h
          split at h
          · exact ⟨_, _, rfl⟩
          · cases h
        · refine .inr fun x hx => ?_
          obtain ⟨d1, m1, rfl⟩ := mem_toPs hx
          have h := List.all_eq_true.mp c2 d1 m1
          cases d1 <;> first | (cases h; done) | exact ⟨fun z => (nomatch z), fun _ z => (nomatch z)⟩
      · intro d1 m1
        have h2 := depth_mem m1
        have h3 : PyData.depth (toP (.lst ys)) = PyData.depthAll (toPs ys) + 1 := by
          show PyData.depth (.list (toPs ys)) = _
          simp only [PyData.depth]
        omega
      · have h := reps_of_pairs (K := K) (F := F) (zs := (vs.zip ys).mergeSort (PySem.W.dataLe false fun z : V × D => toP z.2)) fun z hz => zip_rep r1 z ((List.mergeSort_perm _ _).mem_iff.mp hz)
        have e2 : ((vs.zip ys).mergeSort (PySem.W.dataLe false fun z : V × D => toP z.2)).map (·.2) = ys.mergeSort ltLe := by
          rw [List.map_mergeSort (s := ltLe)]
          · rw [List.map_snd_zip (by rw [reps_len r1]; exact Nat.le_refl _)]
          · intro x _ y _
            rfl
        rw [e2] at h
        exact h
    · cases e
  · cases e
end VL

/-! V15: dicts: looked up, walked, made by a comprehension. -/
namespace VL
open PySem PySem.Spec L2

/-! ### pairs by keys -/
def keyQ : D → Option Key
  | .int i => some (.inl i)
  | .str x => some (.inr x)
  | _ => none
theorem keyQ_some {d : D} {q : Key} (h : keyQ d = some q) : d = keyD q := by
  cases d <;> first | (cases h; done) | skip
  all_goals
    cases h
    rfl
theorem keyQ_keyD (q : Key) : keyQ (keyD q) = some q := by cases q <;> rfl
theorem keyD_inj {p q : Key} (h : keyD p = keyD q) : p = q := Option.some.inj ((keyQ_keyD p).symm.trans ((congrArg keyQ h).trans (keyQ_keyD q)))
def keyEq (a c : D) : Bool := match keyQ a, keyQ c with
  | some p, some q => decide (p = q)
  | _, _ => false
theorem keyEq_of {p q : Key} : keyEq (keyD p) (keyD q) = decide (p = q) := by
  unfold keyEq
  rw [keyQ_keyD, keyQ_keyD]
def lookD : List D → D → Option D
  | .tup [k, d] :: xs, j => if keyEq k j = true then some d else lookD xs j
  | _, _ => none
def keysD : List D → List D
  | .tup [k, _] :: xs => k :: keysD xs
  | _ => []
def valsD : List D → List D
  | .tup [_, d] :: xs => d :: valsD xs
  | _ => []
def putD : List D → D → D → List D
  | .tup [k, d] :: xs, j, e => if keyEq k j = true then .tup [k, e] :: xs else .tup [k, d] :: putD xs j e
  | _, j, e => [.tup [j, e]]
theorem repK_cons {K : Fr'} {F : Hp} {x : D} {xs : List D} {kvs : List (Key × V)} (h : RepK K F (x :: xs) kvs) : ∃ d q v r, x = .tup [keyD q, d] ∧ kvs = (q, v) :: r ∧ Rep K F d v ∧ RepK K F xs r := by
  match x, h with
  | .tup [k, d], h =>
    unfold RepK at h
    obtain ⟨q, v, r, e, e2, h1, h2⟩ := h
    exact ⟨d, q, v, r, by rw [e2], e, h1, h2⟩
  | .non, h => unfold RepK at h; exact h.elim
  | .bl _, h => unfold RepK at h; exact h.elim
  | .int _, h => unfold RepK at h; exact h.elim
  | .str _, h => unfold RepK at h; exact h.elim
  | .lst _, h => unfold RepK at h; exact h.elim
  | .dic _, h => unfold RepK at h; exact h.elim
  | .dit _, h => unfold RepK at h; exact h.elim
  | .tup [], h => unfold RepK at h; exact h.elim
  | .tup [_], h => unfold RepK at h; exact h.elim
  | .tup (_ :: _ :: _ :: _), h => unfold RepK at h; exact h.elim
theorem repK_nil {K : Fr'} {F : Hp} {kvs : List (Key × V)} (h : RepK K F [] kvs) : kvs = [] := by unfold RepK at h; exact h
theorem mkK_nil {K : Fr'} {F : Hp} : RepK K F [] [] := by unfold RepK; rfl
theorem mkK_cons {K : Fr'} {F : Hp} {d : D} {q : Key} {v : V} {xs : List D} {r : List (Key × V)} (h1 : Rep K F d v) (h2 : RepK K F xs r) : RepK K F (.tup [keyD q, d] :: xs) ((q, v) :: r) := by
  unfold RepK
  exact ⟨q, v, r, rfl, rfl, h1, h2⟩
theorem repK_len {K : Fr'} {F : Hp} : ∀ {xs : List D} {kvs : List (Key × V)}, RepK K F xs kvs → kvs.length = xs.length
  | [], kvs, h => by rw [repK_nil h]; rfl
  | x :: xs, kvs, h => by
    obtain ⟨d, q, v, r, rfl, rfl, h1, h2⟩ := repK_cons h
    exact congrArg Nat.succ (repK_len h2)
theorem lookD_ok {K : Fr'} {F : Hp} {j : Key} : ∀ {xs : List D} {kvs : List (Key × V)}, RepK K F xs kvs → (∀ d, lookD xs (keyD j) = some d → ∃ v, valV kvs j = some v ∧ Rep K F d v) ∧ (lookD xs (keyD j) = none → valV kvs j = none)
  | [], kvs, h => by
    rw [repK_nil h]
    exact ⟨fun d e => (nomatch e), fun _ => rfl⟩
  | x :: xs, kvs, h => by
    obtain ⟨d, q, v, r, rfl, rfl, h1, h2⟩ := repK_cons h
    have ih := lookD_ok (j := j) h2
    unfold lookD
    rw [keyEq_of]
    by_cases e : q = j
    · rw [if_pos (decide_eq_true e), valV_pos e]
      exact ⟨fun d' e' => ⟨v, rfl, by cases e'; exact h1⟩, fun z => by cases z⟩
    · rw [if_neg (by simpa using e), valV_neg e]
      exact ih
theorem putK_map {kvs : List (Key × V)} {j : Key} {v : V} (h : ∀ p ∈ kvs, p.1 ≠ j) : kvs.map (fun kv => if kv.1 = j then (kv.1, v) else kv) = kvs := by
  induction kvs with
  | nil => rfl
  | cons p r ih =>
    rw [List.map_cons, if_neg (h p List.mem_cons_self), ih fun q hq => h q (List.mem_cons_of_mem _ hq)]
theorem putK_cons_ne {p : Key × V} {r : List (Key × V)} {j : Key} {v : V} (e : ¬ p.1 = j) : putK (p :: r) j v = p :: putK r j v := by
  unfold putK
  rw [List.any_cons, show decide (p.1 = j) = false from decide_eq_false e, Bool.false_or]
  split
  · rw [List.map_cons, if_neg e]
  · rfl
theorem putK_cons_eq {p : Key × V} {r : List (Key × V)} {j : Key} {v : V} (e : p.1 = j) (nd : ∀ q ∈ r, q.1 ≠ j) : putK (p :: r) j v = (p.1, v) :: r := by
  unfold putK
  rw [List.any_cons, show decide (p.1 = j) = true from decide_eq_true e, Bool.true_or, if_pos rfl, List.map_cons, if_pos e, putK_map nd]
/-- keys are different -/
def ndK (xs : List D) : Bool := match xs with
  | .tup [k, _] :: r => (lookD r k).isNone && ndK r
  | _ => true
theorem lookD_none {K : Fr'} {F : Hp} {j : Key} {xs : List D} {kvs : List (Key × V)} (h : RepK K F xs kvs) (e : lookD xs (keyD j) = none) : ∀ p ∈ kvs, p.1 ≠ j := fun p hp z => by
  have h1 := (lookD_ok (j := j) h).2 e
  unfold valV at h1
  rw [Option.map_eq_none_iff] at h1
  have h2 := List.find?_eq_none.mp h1 p hp
  exact h2 (decide_eq_true z)
theorem putD_ok {K : Fr'} {F : Hp} {j : Key} {e : D} {v : V} (he : Rep K F e v) : ∀ {xs : List D} {kvs : List (Key × V)}, ndK xs = true → RepK K F xs kvs → RepK K F (putD xs (keyD j) e) (putK kvs j v)
  | [], kvs, _, h => by
    rw [repK_nil h]
    exact mkK_cons he mkK_nil
  | x :: xs, kvs, nd, h => by
    obtain ⟨d, q, w, r, rfl, rfl, h1, h2⟩ := repK_cons h
    unfold ndK at nd
    rw [Bool.and_eq_true, Option.isNone_iff_eq_none] at nd
    unfold putD
    rw [keyEq_of]
    by_cases c : q = j
    · rw [if_pos (decide_eq_true c), putK_cons_eq (p := (q, w)) c (by rw [← c]; exact lookD_none h2 nd.1)]
      exact mkK_cons he h2
    · rw [if_neg (by simpa using c), putK_cons_ne (p := (q, w)) c]
      exact mkK_cons h1 (putD_ok he nd.2 h2)
theorem putD_len : ∀ (xs : List D) (j e : D), (putD xs j e).length ≤ xs.length + 1
  | [], _, _ => Nat.le_refl _
  | .tup [k, d] :: xs, j, e => by
    unfold putD
    split
    · exact Nat.le_succ _
    · exact Nat.succ_le_succ (putD_len xs j e)
  | .non :: _, _, _ => by unfold putD; exact Nat.succ_le_succ (Nat.zero_le _)
  | .bl _ :: _, _, _ => by unfold putD; exact Nat.succ_le_succ (Nat.zero_le _)
  | .int _ :: _, _, _ => by unfold putD; exact Nat.succ_le_succ (Nat.zero_le _)
  | .str _ :: _, _, _ => by unfold putD; exact Nat.succ_le_succ (Nat.zero_le _)
  | .lst _ :: _, _, _ => by unfold putD; exact Nat.succ_le_succ (Nat.zero_le _)
  | .dic _ :: _, _, _ => by unfold putD; exact Nat.succ_le_succ (Nat.zero_le _)
  | .dit _ :: _, _, _ => by unfold putD; exact Nat.succ_le_succ (Nat.zero_le _)
  | .tup [] :: _, _, _ => by unfold putD; exact Nat.succ_le_succ (Nat.zero_le _)
  | .tup [_] :: _, _, _ => by unfold putD; exact Nat.succ_le_succ (Nat.zero_le _)
  | .tup (_ :: _ :: _ :: _) :: _, _, _ => by unfold putD; exact Nat.succ_le_succ (Nat.zero_le _)

/-! ### {k: v for x in xs} -/
def cmpD (vs : List Nat) (g : D → Env' → Out Env') (t : Env' → Out Bool) (fk fv : Env' → Out D) (ρ : Env') : List D → List D → Out (List D)
  | [], acc => .ok acc
  | x :: xs, acc => (noX (g x (wipeE ρ vs))).bind fun ρ1 => (noX (t ρ1)).bind fun c => if c = true then (noX (fk ρ1)).bind fun k => (noX (fv ρ1)).bind fun d => if (keyQ k).isSome = true ∧ ndK acc = true then cmpD vs g t fk fv ρ xs (putD acc k d) else .bad else cmpD vs g t fk fv ρ xs acc
def rDc (it : Env' → Out (List D)) (vs : List Nat) (g : D → Env' → Out Env') (t : Env' → Out Bool) (fk fv : Env' → Out D) : Env' → Out D := fun ρ => (it ρ).bind fun xs => if xs.length ≤ sizeLine then (noX (cmpD vs g t fk fv ρ xs [])).bind fun ds => .ok (.dic ds) else .bad
section
variable {K : Fr'} {mg : MG} {W : WX} {it : Env' → Out (List D)} {vs sl : List Nat} {g : D → Env' → Out Env'} {t : Env' → Out Bool} {fk fv : Env' → Out D}
theorem dc_read (hsl : ∀ i, i ∈ sl → i ∈ vs) : ∀ σ H Q, tO K mg W false (rDc it vs g t fk fv) σ H Q → tDc (iR K mg W false it) (gM K sl g) (tRT K mg W0 t) (tR K mg W0 false fk) (tR K mg W0 false fv) vs σ H Q := by
  rintro σ H Q ⟨F, ρ, s, q⟩
  refine ⟨F, ρ, s, on_imp (on_bind q) (fun xs exs q J F0 H0 n0 it => ?_) fun _ _ _ q => q⟩
  have s0 := s.new n0
  by_cases hl : xs.length ≤ sizeLine
  · rw [if_pos hl] at q
    obtain ⟨ds, eds, q⟩ := noX_on (on_bind q)
    intro D hD
    have nD : ¬ Owned σ ρ D := fun w => by
      obtain ⟨o, ho⟩ := s0.owned_some w
      rw [hD] at ho
      cases ho
    refine ⟨fun i m H1 => m = xs.length - i ∧ i ≤ xs.length ∧ ∃ F1 acc accV, St2 K F1 H1 σ ρ ∧ New F0 H0 F1 H1 ∧ F1 D = none ∧ H1 D = some (.dK accV) ∧ RepK K F1 acc accV ∧ acc.length ≤ i ∧ cmpD vs g t fk fv ρ (xs.drop i) acc = .ok ds,
      ⟨xs.length, by omega, Nat.zero_le _, F0, [], [], s0.side (s0.le.none hD) nD, ⟨Le.refl _, s0.le.updR (s0.le.none hD), fun b o h => by
        rw [upd_ne (ne_of_none h hD)]
        exact h, fun b h => .inl h⟩, s0.le.none hD, upd_same, mkK_nil, Nat.le_refl _, eds⟩, ?_⟩
    rintro i m H1 ⟨rfl, hi, F1, acc, accV, s1, n1, fD, hD1, r1, hacc, e1⟩
    have k1 : Kept (bs false F0 H0 σ ρ) H0 H1 := fun b o _ h => n1.kp b o h
    by_cases hlt : i < xs.length
    · rw [drop_cons hlt] at e1
      obtain ⟨ρ2, eρ, e1⟩ := bind_ok e1
      obtain ⟨c, ec, e1⟩ := bind_ok e1
      refine .inr ⟨it.go F1 H1 i n1.le s1.le k1 hlt, fun H2 => i + 1 ≤ xs.length ∧ ∃ F1 acc2 accV, St2 K F1 H2 σ ρ ∧ New F0 H0 F1 H2 ∧ F1 D = none ∧ H2 D = some (.dK accV) ∧ RepK K F1 acc2 accV ∧ acc2.length ≤ i + 1 ∧ cmpD vs g t fk fv ρ (xs.drop (i + 1)) acc2 = .ok ds,
        fun H2 h2 => ⟨xs.length - (i + 1), by omega, rfl, h2⟩, fun v H2 hy => ?_⟩
      obtain ⟨F2, n2, r2⟩ := it.yld F1 H1 i xs[i] v H2 n1.le s1.le k1 (List.getElem?_eq_getElem hlt) hy
      have s2 := (s1.new n2)
      refine ⟨F2, wipeE ρ vs, _, s2.wipe vs, r2, on_ok (noX_ok_inv eρ) fun σ3 s3 o3 w3 => ⟨wipe_eq o3 hsl, F2, ρ2, s3, on_ok (noX_ok_inv ec) fun F4 H4 n4 => ?_⟩⟩
      have n14 := n2.trans n4
      have gone : ∀ {F' H' : Hp}, New F1 H1 F' H' → F' D = none := fun {F' H'} n => by
        cases z : F' D with
        | none => rfl
        | some u =>
          rcases n.fr D (by rw [z]; exact Option.some_ne_none _) with w | w
          · exact absurd fD w
          · rw [hD1] at w
            cases w
      cases c with
      | true =>
        rw [if_pos rfl] at e1
        refine iteT ?_
        obtain ⟨kd, ek, e1⟩ := bind_ok e1
        obtain ⟨d, ed, e1⟩ := bind_ok e1
        split at e1
        · rename_i ck
          obtain ⟨kq, hkq⟩ := Option.isSome_iff_exists.mp ck.1
          have hkd := keyQ_some hkq
          subst hkd
          refine ⟨F4, ρ2, s3.new n4, on_ok (noX_ok_inv ek) fun y5 F5 H5 n5 r5 => ⟨F5, ρ2, (s3.new n4).new n5, on_ok (noX_ok_inv ed) fun z6 F6 H6 n6 r6 => ?_⟩⟩
          have n16 := (n14.trans n5).trans n6
          have f6D := gone n16
          have s6 : St2 K F6 H6 σ ρ := s1.new n16
          have n06 := n1.trans n16
          refine ⟨accV, kq, ?_, n16.kp _ _ hD1, by rw [repK_len r1]; omega, hlt, F6, _, _, s6.side f6D nD, ⟨n06.le, s6.le.updR f6D, fun b o h => by
            rw [upd_ne (ne_of_none h hD)]
            exact n06.kp b o h, n06.fr⟩, f6D, upd_same, putD_ok r6 ck.2 (RepK.mono n16.le _ _ r1), ?_, e1⟩
          · cases kq with
            | inl i => exact rep_int r5
            | inr x => exact rep_str r5
          · exact Nat.le_trans (putD_len _ _ _) (Nat.succ_le_succ hacc)
        · cases e1
      | false =>
        rw [if_neg Bool.false_ne_true] at e1
        refine iteF ?_
        exact ⟨hlt, F4, acc, accV, s1.new n14, n1.trans n14, gone n14, n14.kp _ _ hD1, RepK.mono n14.le _ _ r1, by omega, e1⟩
    · have e : i = xs.length := by omega
      subst e
      rw [List.drop_length] at e1
      cases e1
      refine .inl ⟨it.stop F1 H1 _ n1.le s1.le k1 (Nat.le_refl _), ?_⟩
      have n2 : New F H F1 (del H1 D) := by
        have n3 := n0.trans n1
        refine ⟨n3.le, fun a u h => ?_, fun b o h => ?_, n3.fr⟩
        · have ha : a ≠ D := fun z => by
            subst z
            rcases h with h | ⟨o, h⟩ <;> rw [fD] at h <;> cases h
          exact Rd.congr (del_ne ha).symm (s1.le a u h)
        · rw [del_ne (ne_of_none (n0.kp b o h) hD)]
          exact n3.kp b o h
      have := q D (.dK accV) F1 (del H1 D) n2 del_same ⟨accV, rfl, r1⟩
      rw [del_upd hD1] at this
      exact this
  · rw [if_neg hl] at q
    exact q.elim
end
section
variable {X : Cx} {W : WX} {kx vx tg iter : Expr} {ifs : List Expr} {scope : Scope} {own : List (Str × Nat)} {pos : Pos} {sl : List Nat} {it : Env' → Out (List D)} {g : D → Env' → Out Env'} {t : Env' → Out Bool} {fk fv : Env' → Out D}
theorem SO.dc (hc : X.calm = true) (hN : X.N.Nodup) (hi : SI false X W tg iter it) (ok : BlkOk X.N X.env.scope scope own)
    (hg : ∀ (s : Shared) (H : Hp) (C : Addr) (cl : List (Str × Addr)) (fp : List Addr), SG (X.blk s H scope (compEnvC scope cl C X.env) fp) sl tg g)
    (ht : ∀ (s : Shared) (H : Hp) (C : Addr) (cl : List (Str × Addr)) (fp : List Addr), STs (X.blk s H scope (compEnvC scope cl C X.env) fp) W0 ifs t)
    (hk : ∀ (s : Shared) (H : Hp) (C : Addr) (cl : List (Str × Addr)) (fp : List Addr), SR false (X.blk s H scope (compEnvC scope cl C X.env) fp) W0 kx fk)
    (he : ∀ (s : Shared) (H : Hp) (C : Addr) (cl : List (Str × Addr)) (fp : List Addr), SR false (X.blk s H scope (compEnvC scope cl C X.env) fp) W0 vx fv) (hsl : ∀ i, i ∈ sl → i ∈ own.map (·.2) := by decide) (hs : ∀ x, foldedSetIterable iter X.env x = pure x := by intro _; rfl) :
    SO false X W (.DictComp kx vx [⟨tg, iter, ifs, 0⟩] scope pos) (rDc it (own.map (·.2)) g t fk fv) :=
  SO.imp (pe_dc hc hN hi.pi ok (fun s H C cl fp => (hg s H C cl fp).pg) (fun s H C cl fp => (ht s H C cl fp).pt) (fun s H C cl fp => (hk s H C cl fp).pe) (fun s H C cl fp => (he s H C cl fp).pe) hs) (dc_read hsl)
/-- y = {..} on one line, y a plain local name -/
theorem S1.dcO (i : Nat) {y : Str} {py spos : Pos} {prot : List Nat} (hc : X.calm = true) (hN : X.N.Nodup) (hi : SI false X W tg iter it) (ok : BlkOk X.N X.env.scope scope own)
    (hg : ∀ (s : Shared) (H : Hp) (C : Addr) (cl : List (Str × Addr)) (fp : List Addr), SG (X.blk s H scope (compEnvC scope cl C X.env) fp) sl tg g)
    (ht : ∀ (s : Shared) (H : Hp) (C : Addr) (cl : List (Str × Addr)) (fp : List Addr), STs (X.blk s H scope (compEnvC scope cl C X.env) fp) W0 ifs t)
    (hk : ∀ (s : Shared) (H : Hp) (C : Addr) (cl : List (Str × Addr)) (fp : List Addr), SR false (X.blk s H scope (compEnvC scope cl C X.env) fp) W0 kx fk)
    (he : ∀ (s : Shared) (H : Hp) (C : Addr) (cl : List (Str × Addr)) (fp : List Addr), SR false (X.blk s H scope (compEnvC scope cl C X.env) fp) W0 vx fv) (hyl : X.env.scope.names.lookup y = some .local)
    (hsw : swapsWith (.DictComp kx vx [⟨tg, iter, ifs, 0⟩] scope pos) (some (.Name y py)) spos.line X.env = pure true) (hp : i ∉ prot := by decide) (hy : X.N[i]? = some y := by rfl) (hsl : ∀ i, i ∈ sl → i ∈ own.map (·.2) := by decide) (hs : ∀ x, foldedSetIterable iter X.env x = pure x := by intro _; rfl) :
    S1 X W prot (.Assign [.Name y py] (.DictComp kx vx [⟨tg, iter, ifs, 0⟩] scope pos) spos) (sOwn false (rDc it (own.map (·.2)) g t fk fv) i) := by
  refine ⟨⟨fun pins s0 σ H D0 I h => ?_⟩⟩
  obtain ⟨F, ρ, s, q⟩ := h
  rw [PySem.exec_Assign_Name_used _ _ _ _ hsw]
  refine wpAny_bind (wpAny_standAt (wpAny_bind ?_))
  have h : tDc (iR X.K X.mg W false it) (gM X.K sl g) (tRT X.K X.mg W0 t) (tR X.K X.mg W0 false fk) (tR X.K X.mg W0 false fv) (own.map (·.2)) σ H (fun x H1 => gName i x σ H1 D0.nx) :=
    dc_read hsl σ H _ ⟨F, ρ, s, on_imp (on_bind q) (fun d ed q p o F1 H1 n hp' c => by
      split at q
      · rename_i w
        have ⟨s2, p2⟩ := own_ok s n hp' (b := false) c w i
        exact q _ F1 _ s2 p2 (Fix.set hp)
      · exact q.elim) fun _ _ _ q => q⟩
  show wpAny _ X.A (do let _ ← comprehension (.DictComp kx vx [⟨tg, iter, ifs, 0⟩] scope pos) scope X.env (firstIterPos [⟨tg, iter, ifs, 0⟩] pos) newDict false (eval iter X.env) (some (assign (.Name y py) X.env))) _ _ s0
  refine wpAny_bind (thn (dc_core (Qf := fun _ s' => SP X pins D0 .next s') hc hN I hi.pi ok (fun s H C cl fp => (hg s H C cl fp).pg) (fun s H C cl fp => (ht s H C cl fp).pt) (fun s H C cl fp => (hk s H C cl fp).pe) (fun s H C cl fp => (he s H C cl fp).pe) hs h fun L C s' m H' I' q hn f => ?_) fun _ s' hq => wpAny_pure (wpAny_pure hq))
  show wpAny _ _ (assign (.Name y py) X.env (.ref L)) _ _ _
  refine wpAny_assign_Name (store_ok2 (v := V.ref L) I' hN hy (.inl hyl) rfl (fun s2 I2 ⟨a, sb, ha⟩ => ?_) (.inr hyl))
  obtain ⟨g0, g1, g2, g3, g4, g5⟩ := f
  have hCa : C ≠ a := ha.elim (fun z => by rw [z]; exact g1) fun z e => g4 y a z e.symm
  exact ⟨m, hn.sameBut sb hCa, fun h3 sb3 => ⟨_, H', I2.turned (t' := s2.toks) (fun b o hb e => (sb3.2 b hb).trans e) g0 g1 g3 g4 g5, q⟩⟩
theorem sw_trueD {kx vx : Expr} {gs : List Comprehension} {scope : Scope} {pos py : Pos} {y : Str} {l : Nat} {env : Env} (hk : env.scope.kind = .function) (hy : env.scope.names.lookup y = some .local) (hl : (py.line == pos.line) = true)
    (ha : (scope.names.any fun (n, k) => n == y && (k == .local || k == .cell)) = false) : swapsWith (.DictComp kx vx gs scope pos) (some (.Name y py)) l env = pure true := by
  have h1 : env.kindOf y = some .local := hy
  have h2 : env.blockKind = .function := by unfold Env.blockKind; rw [hk]; rfl
  unfold swapsWith
  simp only [h2, h1, ha, Expr.pos, hl]
  rfl
end
end VL

/-! V16: the keys of a dict walked in a comprehension; dicts looked up. -/
namespace VL
open PySem PySem.Spec L2

theorem Co.monoC {K : Fr'} {F F' : Hp} (l : LeC F F') : ∀ {d : D} {o : HO}, Co K F d o → Co K F' d o
  | .lst xs, o, ⟨vs, e, r⟩ => ⟨vs, e, Reps.monoC l _ _ r⟩
  | .dic xs, o, ⟨vs, e, r⟩ => ⟨vs, e, RepK.monoC l _ _ r⟩
  | .dit xs, o, ⟨vs, e, r⟩ => ⟨vs, e, RepT.monoC l _ _ r⟩
section
variable {X : Cx} {e : Expr} {t t' : TE}
theorem PE.or (h : PE X e t) (h' : PE X e t') : PE X e (fun σ H Q => t σ H Q ∨ t' σ H Q) := ⟨fun pins s σ H Q I q => q.elim (h.run pins s σ H Q I) (h'.run pins s σ H Q I)⟩
end
/-- a frozen dict, unlocked or locked -/
theorem it_keys {K : Fr'} {F H0 : Hp} {a : Addr} {o : Obj} {kvs : List (Key × V)} {xs : List D} (hF : F a ≠ none) (h : H0 a = some (.frz o (.dK kvs))) (r : RepK K F xs kvs) : ItOk K F H0 (Itk a o kvs) (keysD xs) := by
  have len : (keysD xs).length = kvs.length := by
    have : ∀ (xs : List D) (kvs : List (Key × V)), RepK K F xs kvs → (keysD xs).length = kvs.length := fun xs => by
      induction xs with
      | nil =>
        intro kvs h
        rw [repK_nil h]
        rfl
      | cons x xs ih =>
        intro kvs h
        obtain ⟨d, q, v, r, rfl, rfl, h1, h2⟩ := repK_cons h
        exact congrArg Nat.succ (ih r h2)
    exact this _ _ r
  have get : ∀ (xs : List D) (kvs : List (Key × V)) (i : Nat) (d : D), RepK K F xs kvs → (keysD xs)[i]? = some d → ∃ q v, kvs[i]? = some (q, v) ∧ d = keyD q := fun xs => by
    induction xs with
    | nil =>
      intro kvs i d h e
      simp [keysD] at e
    | cons x xs ih =>
      intro kvs i d h e
      obtain ⟨d', q, v, r, rfl, rfl, h1, h2⟩ := repK_cons h
      cases i with
      | zero =>
        cases e
        exact ⟨q, v, rfl, rfl⟩
      | succ i => exact ih r i d h2 e
  exact
  { go := fun G H i l l2 k hi => ⟨k a _ hF h, by rw [← len]; exact hi⟩
    stop := fun G H i l l2 k hi => ⟨k a _ hF h, by rw [← len]; exact hi⟩
    yld := fun G H i d v H' l l2 k hd y => by
      obtain ⟨rfl, q, w, hq, rfl⟩ := y
      obtain ⟨q', w', h1, rfl⟩ := get _ _ _ _ r hd
      rw [hq] at h1
      cases h1
      refine ⟨G, New.refl l2, ?_⟩
      cases q with
      | inl i => exact mk_int
      | inr x => exact mk_str }
def iKs (f : Env' → Out D) : Env' → Out (List D) := fun ρ => (f ρ).bind fun d => match d with
  | .dic xs => .ok (keysD xs)
  | _ => .bad
section
variable {K : Fr'} {mg : MG} {W : WX} {vs sl : List Nat} {g : D → Env' → Out Env'} {t : Env' → Out Bool} {f : Env' → Out D}
/-- the reading of a comprehension over the keys of the dict at place i -/
theorem lcK_read (i : Nat) (hsl : ∀ i, i ∈ sl → i ∈ vs) : ∀ σ H Q, tO K mg W false (rLc (iKs (rv false i)) vs g t f) σ H Q →
    (tLockE (tLc (iKeys (tVar i)) (gM K sl g) (tRT K mg W0 t) (tR K mg W0 false f) vs) σ H Q ∨ tLc (iKeys (tVar i)) (gM K sl g) (tRT K mg W0 t) (tR K mg W0 false f) vs σ H Q) := by
  rintro σ H Q ⟨F, ρ, s, q⟩
  unfold rLc iKs at q
  cases e : rv false i ρ with
  | bad => rw [e] at q; exact q.elim
  | exc c fs =>
    unfold rv at e
    split at e <;> first | (cases e; done) | (split at e <;> cases e)
  | ok d =>
    rw [e] at q
    cases d <;> first | (exact q.elim) | skip
    rename_i xs
    have hi : ρ[i]? = some (Cell.val (.dic xs)) := by
      unfold rv at e
      split at e
      · rename_i d hd
        cases e
        exact hd
      · rename_i d hd
        rw [if_neg Bool.false_ne_true] at e
        cases e
      · cases e
    have q : (if (keysD xs).length ≤ sizeLine then (noX (cmpL vs g t f ρ (keysD xs))).bind fun ds => .ok (.lst ds) else .bad : Out D).on (fun d => ∀ p o F' H', New F H F' H' → H' p = none → Co K (bs false F' H' σ ρ) d o → Q (.ref p) (upd H' p o)) (ExM mg W σ ρ F H) := q
    by_cases hl : (keysD xs).length ≤ sizeLine
    · rw [if_pos hl] at q
      obtain ⟨ds, eds, q⟩ := noX_on (on_bind q)
      obtain ⟨v, ev, r⟩ := s.val i _ hi
      unfold Rep at r
      obtain ⟨a, kvs, rfl, hF, rk⟩ := r
      · have hF0 : F a ≠ none := fun z => by rcases hF with h | ⟨o, h⟩ <;> rw [z] at h <;> cases h
        have na : ¬ Owned σ ρ a := fun z => hF0 (s.owned_none z)
        rcases s.le a _ hF with hH | ⟨o, hH⟩
        · -- locked for the while
          refine .inl ⟨a, .dK kvs, hH, True.intro, fun od => ?_⟩
          have hFa : F a = some (.dK kvs) := by
            rcases hF with h | ⟨o, h⟩
            · exact h
            · rcases s.le a _ (.inl h) with w | ⟨o2, w⟩ <;> rw [hH] at w <;> cases w
          have lL : ∀ {G G' : Hp}, Le G G' → (∀ w, Rd G a w → w = .dK kvs) → Le G (upd G' a (.frz od (.dK kvs))) := fun {G G'} l hw b w h => by
            by_cases z : b = a
            · subst z
              rw [hw w h]
              exact .inr ⟨od, upd_same⟩
            · exact Rd.congr (upd_ne z).symm (l b w h)
          have hw : ∀ w, Rd F a w → w = .dK kvs := fun w h => by
            rcases h with h | ⟨o, h⟩
            · rw [hFa] at h
              exact (Option.some.inj h).symm
            · rw [hFa] at h
              cases h
          have sL : St2 K F (upd H a (.frz od (.dK kvs))) σ ρ := ⟨lL s.le hw, s.len, s.val, fun j d hj => by
            obtain ⟨p, u, e1, ho, hn, c⟩ := s.own j d hj
            refine ⟨p, u, e1, ?_, hn, c⟩
            rw [upd_ne fun (z : p = a) => na ⟨j, d, hj, by rw [← z]; exact e1⟩]
            exact ho, s.sep⟩
          refine ⟨_, ev, a, od, rfl, .inl ⟨kvs, upd_same, lc_body (mg := mg) (Q := fun v H' => H' a = some (.frz od (.dK kvs)) ∧ Q v (upd H' a (.dK kvs))) hsl sL (it_keys hF0 upd_same rk) hl eds fun p o F' H' n hp c => ?_⟩⟩
          have hH'a : H' a = some (.frz od (.dK kvs)) := n.kp _ _ upd_same
          have pa : p ≠ a := fun z => by rw [z, hH'a] at hp; cases hp
          have hF'w : ∀ w, Rd F' a w → w = .dK kvs ∨ w = .frz od (.dK kvs) := fun w h => by
            rcases n.le' a w h with h | ⟨o2, h⟩
            · rw [hH'a] at h
              exact .inr (Option.some.inj h).symm
            · rw [hH'a] at h
              cases h
              exact .inl rfl
          have hF'a : Rd F' a (.dK kvs) := n.le a _ (.inl hFa)
          refine ⟨by rw [upd_ne (Ne.symm pa)]; exact hH'a, ?_⟩
          have eu : upd (upd H' p o) a (.dK kvs) = upd (upd H' a (.dK kvs)) p o := by
            funext b
            by_cases z : b = a
            · subst z
              rw [upd_same, upd_ne (Ne.symm pa), upd_same]
            · rw [upd_ne z]
              by_cases y : b = p
              · subst y
                rw [upd_same, upd_same]
              · rw [upd_ne y, upd_ne y, upd_ne z]
          rw [eu]
          refine q p o (upd F' a (.dK kvs)) (upd H' a (.dK kvs)) ⟨fun b w h => ?_, fun b w h => ?_, fun b u h => ?_, fun b h => ?_⟩ (by rw [upd_ne pa]; exact hp) (Co.monoC (fun b w nz h => ?_) c)
          · by_cases z : b = a
            · subst z
              rw [hw w h]
              exact .inl upd_same
            · exact Rd.congr (upd_ne z).symm (n.le b w h)
          · by_cases z : b = a
            · subst z
              exact Rd.congr (upd_same.trans upd_same.symm) h
            · exact Rd.congr (upd_ne z).symm (n.le' b w (Rd.congr (upd_ne z) h))
          · by_cases z : b = a
            · subst z
              rw [upd_same, ← h, hH]
            · rw [upd_ne z]
              exact n.kp b u (by rw [upd_ne z]; exact h)
          · by_cases z : b = a
            · subst z
              exact .inl hF0
            · rw [upd_ne z] at h
              rcases n.fr b h with h | h
              · exact .inl h
              · rw [upd_ne z] at h
                exact .inr h
          · by_cases z : b = a
            · subst z
              rcases hF'w w h with h | h
              · rw [h]
                exact .inl upd_same
              · rw [h] at nz
                exact nz.elim
            · exact Rd.congr (upd_ne z).symm h
        · -- it is locked already
          exact .inr ⟨_, ev, a, o, rfl, .inl ⟨kvs, hH, lc_body (mg := mg) (Q := Q) hsl s (it_keys hF0 hH rk) hl eds fun p o F' H' n hp c => q p o F' H' n hp c⟩⟩
    · rw [if_neg hl] at q
      exact q.elim
end
end VL

/-! V17: sets of ints and texts that are only sorted or counted. -/
namespace VL
open PySem PySem.Spec L2 PyProof.Rows

def keyF : Value → Key
  | .int k _ => .inl k
  | .str x _ => .inr x
  | _ => .inl 0
theorem keyF_is {P : Program} {w : World} {k : Key} {v : Value} (h : (mixKind P w).is k v = true) : keyF v = k := by
  rcases keyIs_shape h with ⟨i, t, rfl, rfl⟩ | ⟨x, t, rfl, rfl⟩ <;> rfl
theorem keyF_sc {P : Program} {w : World} {k : Key} {v : Value} (h : (mixKind P w).is k v = true) : v.scannable = true := by
  rcases keyIs_shape h with ⟨i, t, rfl, rfl⟩ | ⟨x, t, rfl, rfl⟩ <;> rfl
def kfE (e : Int × Value) : Key := keyF e.2
/-- a set of keys, its table fit to be walked -/
structure SetMr (P : Program) (w : World) (h : Heap) (a : Addr) (ks : List Key) : Prop where
  ex : ∃ (o : Obj) (es : Array (Int × Value)) (ep : Nat) (t : SetTable), h.get? a = some o ∧ o.ExactSet ∧ o.data = .set es ep t ∧ ElemsOf (mixKind P w) es.toList ∧ (es.toList.map kfE).Perm ks ∧ ks.Nodup ∧
    es.size < scanBound ∧ t.fits es.size = true ∧ L2.Ris t.place.toList ∧ (w.params.followText "set-order" = true ∨ t.led = true)
section
variable {P : Program} {w : World} {h h' : Heap} {a : Addr} {ks : List Key} {A : Around} {E : Value → Shared → Prop} {s : Shared}
theorem SetMr.at (R : SetMr P w h a ks) (k : ∀ o, h.get? a = some o → h'.get? a = some o) : SetMr P w h' a ks := by
  obtain ⟨o, es, ep, t, ho, r⟩ := R.ex
  exact ⟨o, es, ep, t, k o ho, r⟩
theorem el_is {e : Int × Value} {k j : Key} (hk : (mixKind P w).is k e.2 = true) : (mixKind P w).is j e.2 = true ↔ kfE e = j := by
  constructor
  · intro q
    exact keyF_is q
  · intro q
    have z : kfE e = k := keyF_is hk
    rw [← q, z]
    exact hk
theorem el_mem {l : List (Int × Value)} (g : ElemsOf (mixKind P w) l) (k : Key) : k ∈ l.map kfE ↔ ∃ e ∈ l, (mixKind P w).is k e.2 = true := by
  rw [List.mem_map]
  constructor
  · rintro ⟨e, he, q⟩
    obtain ⟨⟨j, hj, _⟩, _⟩ := g e he
    exact ⟨e, he, (el_is hj).2 q⟩
  · rintro ⟨e, he, q⟩
    exact ⟨e, he, keyF_is q⟩
theorem addTailM {g : Bool → Sem Unit} (hg : ∀ (b : Bool) (s₁ : Shared) (Q' : Unit → Shared → Prop), Q' () s₁ → wpAny (model P w) A (g b) Q' E s₁) {o : Obj} {es : Array (Int × Value)} {ep : Nat} {t : SetTable} (ho : s.heap.get? a = some o) (hex : o.ExactSet) (hd : o.data = .set es ep t)
    {es1 : Array (Int × Value)} {t2 : SetTable} (g1 : ElemsOf (mixKind P w) es1.toList) (pm1 : (es1.toList.map kfE).Perm ks) (nd1 : ks.Nodup) (hb1 : es1.size < scanBound) (hf2 : t2.fits es1.size = true) (hr : L2.Ris t2.place.toList) (hl : w.params.followText "set-order" = true ∨ t2.led = true) {wasDummy : Bool} {R : Option Bool → Shared → Prop}
    (hR : ∀ h', Heap.SameBut a s.heap h' → SetMr P w h' a ks → R (some true) { s with heap := h' }) :
    wpAny (model P w) A (do storeSet a es1 t2; if (!wasDummy && t2.tooFull) = true then do { g (relayAll t2 es1 (SetTable.grown es1.size)).2.2; storeSet a (relayAll t2 es1 (SetTable.grown es1.size)).1 (relayAll t2 es1 (SetTable.grown es1.size)).2.1; pure (some true) } else pure (some true)) R E s := by
  refine wpAny_bind (wpAny_storeSet_of ho hd ?_ (fits_of_scanBound hb1))
  have q1 := L2.store_at (es' := es1) (t' := t2) ho hd
  have b1 := Heap.SameBut.update s.heap a (Obj.putSet es1 t2)
  split
  · have pm := relayAll_perm t2 es1 (SetTable.grown es1.size)
    have f3 := relayAll_fits t2 es1 (SetTable.grown es1.size)
    have r3 := L2.relayAll_ris t2 es1 (SetTable.grown es1.size)
    have l3 := L2.relayAll_led t2 es1 (SetTable.grown es1.size)
    generalize relayAll t2 es1 (SetTable.grown es1.size) = Z at pm f3 r3 l3 ⊢
    obtain ⟨es2, t3, gave⟩ := Z
    dsimp only at pm f3 r3 l3 ⊢
    have sz : es2.size = es1.size := by rw [← Array.length_toList, pm.length_eq, Array.length_toList]
    have b2 : es2.size < scanBound := by rw [sz]; exact hb1
    refine wpAny_bind (hg _ _ _ ?_); refine wpAny_bind (wpAny_storeSet_of q1 rfl ?_ (fits_of_scanBound b2))
    have q2 := L2.store_at (es' := es2) (t' := t3) q1 rfl
    refine wpAny_pure (hR _ (b1.trans (Heap.SameBut.update _ a _)) ⟨_, es2, _, t3, q2, hex, rfl, fun e he => g1 e (pm.mem_iff.mp he), (pm.map kfE).trans pm1, nd1, b2, f3, r3, hl.imp id fun z => by rw [l3]; exact z⟩)
  · exact wpAny_pure (hR _ b1 ⟨_, es1, _, t2, q1, hex, rfl, g1, pm1, nd1, hb1, hf2, hr, hl⟩)
def hasK (ks : List Key) (k : Key) : Bool := ks.any fun j => decide (j = k)
theorem hasK_iff {ks : List Key} {k : Key} : hasK ks k = true ↔ k ∈ ks := by
  unfold hasK
  rw [List.any_eq_true]
  constructor
  · rintro ⟨j, hj, e⟩
    rw [← of_decide_eq_true e]
    exact hj
  · exact fun h => ⟨k, h, decide_eq_true rfl⟩
def addK (ks : List Key) (k : Key) : List Key := if hasK ks k = true then ks else k :: ks
theorem addHashedM {k : Key} {v : Value} {Q : Bool → Shared → Prop} (hk : (mixKind P w).is k v = true) (R : SetMr P w s.heap a ks) (room : ks.length + 1 < scanBound) (hQ : ∀ (b : Bool) h', Heap.SameBut a s.heap h' → SetMr P w h' a (addK ks k) → Q b { s with heap := h' }) :
    wpAny (model P w) A (setAddHashed a v ((mixKind P w).hash k)) Q E s := by
  obtain ⟨o, es, ep, t, ho, hex, hd, g, pm0, nd, hb, hf, hr, hl⟩ := R.ex
  have hsc : v.scannable = true := keyF_sc hk
  unfold setAddHashed setAddHashedIn
  refine wpAny_holding (wpAny_bind (wpAny_setState_of ho hd hf ?_)); dsimp only
  rw [byScan_of hsc hb g]; simp only [↓reduceIte]; unfold setAddByScan
  refine wpAny_bind ?_; refine wpAny_bind (wpAny_rule ?_); refine wpAny_bind (wpAny_setScan_of hk ho hd hf g ?_)
  cases hfi : List.findIdx? (fun e => (mixKind P w).is k e.2) es.toList with
  | some j =>
    dsimp only
    obtain ⟨hj, pj, _⟩ := List.findIdx?_eq_some_iff_getElem.mp hfi
    have hin : k ∈ ks := pm0.mem_iff.mp ((el_mem g k).2 ⟨es.toList[j], List.getElem_mem hj, pj⟩)
    refine wpAny_pure (wpAny_pure (hQ _ s.heap (Heap.SameBut.refl a s.heap) ?_))
    unfold addK; rw [if_pos (hasK_iff.mpr hin)]
    exact R
  | none =>
    dsimp only
    have hnk : k ∉ es.toList.map kfE := fun z => by
      obtain ⟨e, he, q⟩ := (el_mem g k).1 z
      have c := List.findIdx?_eq_none_iff.mp hfi e he
      rw [q] at c; cases c
    have hni : k ∉ ks := fun z => hnk (pm0.mem_iff.mpr z)
    have eK : addK ks k = k :: ks := by unfold addK; rw [if_neg fun z => hni (hasK_iff.mp z)]
    rw [eK] at hQ
    have hgw : ∀ (b : Bool) {s₁ : Shared} {Q' : Unit → Shared → Prop}, Q' () s₁ → wpAny (model P w) A (match b with | true => rule "set.scan.the-table-gave-way" | false => pure ()) Q' E s₁ := fun b s₁ Q' q => by
      cases b
      · exact wpAny_pure q
      · exact wpAny_rule q
    have pm := layNew_perm t es ((mixKind P w).hash k) v
    have f1 := layNew_fits t es ((mixKind P w).hash k) v
    have r1 := L2.layNew_ris t es ((mixKind P w).hash k) v hr
    have l1 := L2.layNew_led t es ((mixKind P w).hash k) v
    generalize layNew t es ((mixKind P w).hash k) v = Z at pm f1 r1 l1 ⊢
    obtain ⟨es1, t1, wasDummy, gave⟩ := Z
    dsimp only at pm f1 r1 l1 ⊢
    rw [Array.toList_push] at pm
    have pc : es1.toList.Perm (((mixKind P w).hash k, v) :: es.toList) := pm.trans (List.perm_append_singleton _ _)
    have ev : kfE ((mixKind P w).hash k, v) = k := keyF_is hk
    have pk : (es1.toList.map kfE).Perm (k :: ks) := by
      have z := pc.map kfE
      rw [List.map_cons, ev] at z
      exact z.trans (pm0.cons k)
    have g1 : ElemsOf (mixKind P w) es1.toList := fun e he => by
      rcases List.mem_cons.mp (pc.mem_iff.mp he) with z | z
      · rw [z]
        exact ⟨⟨k, hk, rfl⟩, hsc⟩
      · exact g e z
    have nd1 : (k :: ks).Nodup := List.nodup_cons.mpr ⟨hni, nd⟩
    have sz : es1.size = ks.length + 1 := by
      have z := pk.length_eq
      rw [List.length_map, Array.length_toList, List.length_cons] at z
      exact z
    have hb1 : es1.size < scanBound := by rw [sz]; exact room
    have led : w.params.followText "set-order" = true ∨ t1.led = true := hl.imp id fun z => by rw [l1]; exact z
    refine wpAny_bind (hgw _ ?_)
    split
    · refine wpAny_bind ?_; rw [hashByValue_scannable 8 hsc]
      refine wpAny_pure (addTailM (fun b s₁ Q' q => ?_) ho hex hd g1 pk nd1 hb1 ?_ ?_ ?_ fun h' sb r => ?_)
      · cases b
        · exact wpAny_pure q
        · exact wpAny_rule q
      · first
        | exact f1
        | (split <;> first | exact f1 | exact SetTable.fits_plain_off f1)
      · first
        | exact r1
        | (split <;> exact r1)
      · first
        | exact led
        | (split <;> exact led)
      · dsimp only; exact wpAny_pure (hQ _ h' sb r)
    · refine wpAny_bind (wpAny_pure ?_); simp only [↓reduceIte]
      refine addTailM (fun b s₁ Q' q => ?_) ho hex hd g1 pk nd1 hb1 f1 r1 led fun h' sb r => ?_
      · cases b
        · exact wpAny_pure q
        · exact wpAny_rule q
      · dsimp only; exact wpAny_pure (hQ _ h' sb r)
def addKs (acc : List Key) : List Key → List Key
  | [] => acc
  | k :: r => addKs (addK acc k) r
theorem addK_len (acc : List Key) (k : Key) : (addK acc k).length ≤ acc.length + 1 := by
  unfold addK
  split
  · omega
  · exact Nat.le_refl _
theorem updLoopM {I : Addr} {fp wr : List Addr} {G : Array GenState → Array GenState → Prop} {n : Nat} {Pv : Nat → Value → Prop} {St : Nat → Shared → Prop} {R : Result → Shared → Prop} (W : WalksS P w A.in1 I fp wr G n Pv St) (S : Addr) (hSf : S ∉ fp) (qs : List Key) (hn : n = qs.length)
    (hval : ∀ i v, Pv i v → ∃ k, qs[i]? = some k ∧ (mixKind P w).is k v = true) :
    ∀ (m i : Nat) (acc : List Key) (s : Shared), n - i = m → i ≤ n → St i s → SetMr P w s.heap S acc → acc.length + m + 1 < scanBound →
      (∀ s', Moved (S :: wr) G s s' → SetMr P w s'.heap S (addKs acc (qs.drop i)) → R (.ok (.ret .none)) s') → codeAny (model P w) A (.builtin "set.update.loop" ⟨[.ref S, .ref I], []⟩) R s := by
  have nw : S ∉ wr := fun h => hSf (W.sub _ h)
  have sub : ∀ b ∈ wr, b ∈ S :: wr := fun b hb => List.mem_cons_of_mem _ hb
  intro m
  induction m with
  | zero =>
    intro i acc s hm hi hst hS hb hR
    have hin : i = n := by omega
    subst hin
    refine codeAny_builtin F.entry_set_update_loop ?_; rw [Around.under_plainId F.plain_set_update_loop _]
    show wpAny _ A.in1 (pyNext (.ref I) >>= _) _ _ s; refine wpAny_bind (W.done s _ _ hst fun s' hm' => ?_)
    show wpAny _ A.in1 (ret Value.none) _ _ s'
    have e : qs.drop i = [] := List.drop_eq_nil_of_le (by omega)
    rw [e] at hR
    exact wpAny_pure (hR s' (hm'.mono sub) (hS.at fun o e => hm'.heap S o nw e))
  | succ m ih =>
    intro i acc s hm hi hst hS hb hR
    have hlt : i < n := by omega
    refine codeAny_builtin F.entry_set_update_loop ?_; rw [Around.under_plainId F.plain_set_update_loop _]
    show wpAny _ A.in1 (pyNext (.ref I) >>= _) _ _ s; refine wpAny_bind (W.item i s _ _ hlt hst fun v s' hP hst' hm' => ?_)
    obtain ⟨k, hq, hk⟩ := hval i v hP
    have hS1 : SetMr P w s'.heap S acc := hS.at fun o e => hm'.heap S o nw e
    show wpAny _ A.in1 (holding [v] (setAdd S v) >>= _) _ _ s'; refine wpAny_bind (wpAny_holding ?_)
    unfold setAdd; refine wpAny_holding ?_; refine wpAny_bind ((mixKind P w).pyHash (k := k) hk ?_)
    refine addHashedM (s := { s' with toks := s'.toks + 1 }) hk hS1 (by omega) fun _ h' hsb hS2 => ?_
    have ed : qs.drop i = k :: qs.drop (i + 1) := by
      obtain ⟨h1, h2⟩ := List.getElem?_eq_some_iff.mp hq
      rw [List.drop_eq_getElem_cons h1, h2]
    have hl := addK_len acc k
    refine wpAny_pure ⟨plainId_quiet F.plain_set_update_loop _, ih (i + 1) (addK acc k) _ (by omega) hlt (W.frame _ s' _ _ hst' (Nat.le_succ _) fun b hb o e => (hsb.2 b fun z : b = S => hSf (by rw [← z]; exact hb)).trans e) hS2 (by omega) fun s'' hm2 hS3 => ?_⟩
    refine hR s'' (Moved.trans W.gtrans ((hm'.mono sub).then_heap (Nat.le_succ _) fun b o hb e => (hsb.2 b fun z : b = S => hb (by rw [z]; exact List.mem_cons_self)).trans e) hm2) ?_
    rw [ed]
    exact hS3
end
end VL

/-! V18: set(xs) of keys, sorted(set(xs)), len(set(xs)). -/
namespace VL
open PySem PySem.Spec L2 PyProof.Rows

abbrev setO (w : World) : Obj := { cls := .type "set", dict := none, data := .set #[] 0 (.fresh 0 0 (!w.params.followText "set-order")) }
theorem SetMr.new {P : Program} {w : World} {h : Heap} {a : Addr} (ho : h.get? a = some (setO w)) : SetMr P w h a [] :=
  ⟨_, #[], 0, _, ho, ⟨rfl, rfl, rfl⟩, rfl, fun e he => absurd he (by simp), List.Perm.refl _, List.nodup_nil, by decide, rfl, List.Pairwise.nil, by
    cases q : w.params.followText "set-order" with
    | true => exact .inl rfl
    | false => exact .inr rfl⟩
section
variable {P : Program} {w : World} {A : Around} {E : Value → Shared → Prop} {s : Shared}
set_option maxHeartbeats 8000000 in
theorem call_setM {l : Addr} {items : Array Value} (qs : List Key) {Q : Value → Shared → Prop} (hh : A.handled = none) (hl : s.heap.IsList l items) (hit : ∀ (i : Nat) (v : Value), items[i]? = some v → ∃ k, qs[i]? = some k ∧ (mixKind P w).is k v = true) (hz : items.size = qs.length) (hb : qs.length + 1 < scanBound)
    (h : ∀ (h' : Heap) (tk : Nat), SetMr P w h' s.heap.objs.size (addKs [] qs) → (∀ b o, s.heap.get? b = some o → h'.get? b = some o) → Q (.ref s.heap.objs.size) { s with heap := h', toks := tk }) : wpAny (model P w) A (call (.type "set") [.ref l]) Q E s := by
  obtain ⟨c, tl, hmro⟩ := F.called_set.mro
  have made := F.called_set.made; have hsub := F.called_set.sub
  refine wpAny_call (codeAny_of_tree ?_); show wpAny _ _ (callAny (.type "set") _) _ _ _
  refine wpAny_pure ⟨Code.quiet_builtin _ (by decide +kernel), codeAny_builtin F.entry_type_call ?_⟩; rw [Around.under_plain (weight_type_call_type "set" [.ref l] []) rfl]
  have h1 := F.called_set.notType; have h2 := F.called_set.canCreate; have hct := F.typeCall_set_1 (.ref l)
  repeat (any_goals (first | assumption | wp_step))
  refine codeAny_mono (L2.code_set_led1 (.ref l) (E := E) (Q₁ := fun obj s₁ => obj = .ref s.heap.objs.size ∧ s₁ = { s with heap := s.heap.push (setO w) }) ⟨rfl, rfl⟩) fun r s₁ hr => ?_
  cases r with
  | error e => exact hr
  | ok fl =>
    cases fl with
    | ret obj =>
      obtain ⟨rfl, rfl⟩ := hr
      have gS : (s.heap.push (setO w)).get? s.heap.objs.size = some (setO w) := Heap.get?_push_size _ rfl
      have tS : Shared.TypeIs { s with heap := s.heap.push (setO w) } (.ref s.heap.objs.size) "set" := ⟨_, gS, rfl⟩
      have hli := F.called_set.init.lookup; have hbi := F.called_set.init.bind (.ref s.heap.objs.size)
      repeat (any_goals (first | assumption | wp_step))
      refine codeAny_mono (codeAny_call_builtin (R := wants (fun r s₂ => r = .none ∧ ∃ h' tk, s₂ = { s with heap := h', toks := tk } ∧ SetMr P w h' s.heap.objs.size (addKs [] qs) ∧ (∀ b o, s.heap.get? b = some o → h'.get? b = some o)) E) F.called_set.init.plain F.entry_set_init (check_set_init_1 tS ?_)) fun r₂ s₂ hr₂ => ?_
      · obtain ⟨ol, hol, hcl, nl, hdl⟩ := hl
        obtain ⟨ocls, odict, odata, oslots⟩ := ol
        simp only at hcl hdl; subst hcl; subst hdl
        have hol' : (s.heap.push (setO w)).get? l = some { cls := .type "list", dict := odict, data := .seq items nl, slots := oslots } := Heap.get?_push_of_some _ hol
        have hsls := F.sub_list_set; have hslf := F.sub_list_frozenset
        have hne : (Value.type "list" == Value.type "dict") = false := by decide
        have hl1 : (s.heap.push (setO w)).IsList l items := ⟨_, hol', rfl, nl, rfl⟩
        unfold Builtin.«set.__init__» noKeywords Builtin.Frozenset.updateFrom; generalize hPI : pyIter = PI; wp_walk; subst hPI
        refine wpAny_pyIter_list hl1 ?_; refine wpAny_bind (wpAny_runValue ?_)
        have hlS : l < s.heap.objs.size := Heap.lt_size hol
        have hh3 : A.in1.in1.in1.handled = none := by simp [hh]
        have z1 : (s.heap.push (setO w)).objs.size = s.heap.objs.size + 1 := Heap.size_push ..
        have neI : l ≠ (s.heap.push (setO w)).objs.size := by rw [z1]; exact Nat.ne_of_lt (Nat.lt_succ_of_lt hlS)
        have nSf : s.heap.objs.size ∉ [(s.heap.push (setO w)).objs.size, l] := by
          rw [z1]; simp only [List.mem_cons, List.not_mem_nil, or_false, not_or]; exact ⟨Nat.ne_of_lt (Nat.lt_succ_self _), Nat.ne_of_gt hlS⟩
        refine updLoopM ((Walks.list hh3 _ l neI items).toS) s.heap.objs.size nSf qs hz hit (items.size - 0) 0 [] _ rfl (Nat.zero_le _) ⟨⟨_, Heap.get?_push_size _ rfl, rfl, rfl⟩, (hl1.push _)⟩ (SetMr.new (Heap.get?_push_of_some _ gS)) (by rw [hz]; simpa using hb) fun s' hm hS' => ?_
        obtain ⟨h', g2, d', tk', os'⟩ := s'
        have eg : g2 = s.gens := hm.gens; have ed : d' = s.drawn := hm.drawn; have eo : os' = s.os := hm.os
        subst eg; subst ed; subst eo; show wpAny _ _ _ _ _ _
        refine wpAny_pure ?_; show wpAny _ _ (ret Value.none) _ _ _
        refine wpAny_pure ⟨rfl, h', tk', rfl, hS', fun b o e => ?_⟩
        have hb0 : b < s.heap.objs.size := Heap.lt_size e
        refine hm.heap b o (fun z => ?_) (Heap.get?_push_of_some _ (Heap.get?_push_of_some _ e))
        simp only [List.mem_cons, List.not_mem_nil, or_false] at z
        rcases z with z | z
        · exact absurd hb0 (by rw [z]; exact Nat.lt_irrefl _)
        · exact absurd hb0 (by rw [z, z1]; exact Nat.not_lt_of_le (Nat.le_succ _))
      · cases r₂ with
        | error e => exact hr₂
        | ok fl₂ =>
          cases fl₂ with
          | ret r =>
            obtain ⟨rfl, h', tk, rfl, hS', hk'⟩ := hr₂
            repeat (any_goals (first | assumption | wp_step))
            exact h _ _ hS' hk'
          | _ => exact hr₂.elim
    | _ => exact hr.elim

/-! ### its members sorted -/
theorem sort_canon {α : Type} (le : α → α → Bool) (tr : ∀ a b c, le a b = true → le b c = true → le a c = true) (to : ∀ a b, (le a b || le b a) = true) (an : ∀ a b, le a b = true → le b a = true → a = b) {l m : List α} (p : l.Perm m) : l.mergeSort le = m.mergeSort le :=
  List.Perm.eq_of_pairwise (fun a b _ _ => an a b) (List.pairwise_mergeSort tr to l) (List.pairwise_mergeSort tr to m) (((List.mergeSort_perm l le).trans p).trans (List.mergeSort_perm m le).symm)
theorem sorted_vs {β : Type} {R : Value → β → Prop} {enc : β → PyData} {bs : List β} {vs : List Value} {a : Addr} {ks : List Key} {Q : Value → Shared → Prop} (R0 : SetMr P w s.heap a ks) (hh : A.handled = none) (hu : A.units + 200 < cLine)
    (hv : ∀ us : List Value, us.length = ks.length → (us.map keyF).Perm ks → (∀ u ∈ us, ∃ k, (mixKind P w).is k u = true) → ∃ bs : List β, PySem.W.EachIs R us bs ∧ (∀ h : Heap, PySem.W.EachIs (fun v b => ∃ as, Reads h v (enc b) as ∧ as = []) us bs) ∧ PySem.W.AllAlike (bs.map enc) ∧ PySem.W.Sortable (bs.map enc) ∧ (∀ b ∈ bs, (enc b).depth ≤ 64) ∧
      ∀ s' p (out : List Value) (c : Nat), out.length = bs.length → PySem.W.EachIs R out (bs.mergeSort (PySem.W.dataLe false enc)) → (∀ b o, s.heap.get? b = some o → s'.heap.get? b = some o) → s'.gens = s.gens → s'.os = s.os → s.heap.objs.size ≤ p → s'.heap.get? p = some (seqObj "list" out.toArray c) → Q (.ref p) s') :
    wpAny (model P w) A (call (.builtin "sorted") [.ref a]) Q E s := by
  obtain ⟨o, es, ep, t, ho, hex, hd, g, pm0, nd, hb, hf, hr, hl⟩ := R0.ex
  refine Calls.call_function_entry kind_sorted plain_sorted entry_sorted (args_sorted1 _) ?_
  unfold Builtin.«sorted»; refine wpAny_bind (m := checkCount "sorted" 1 1 _) (wpAny_pure ?_)
  refine wpAny_bind (L2.collect_set (A := A.in1) hh ⟨o, ho, hex.1, hd⟩ hf hb hr hl fun s1 vs k1 hz g1 o1 pm => ?_)
  have pk : (vs.map keyF).Perm ks := by
    have z := pm.map keyF
    rw [List.map_map] at z
    exact z.trans pm0
  have hvl : vs.length = ks.length := by
    have z := pk.length_eq
    rw [List.length_map] at z
    exact z
  have hes : es.size = ks.length := by
    have z := pm0.length_eq
    rw [List.length_map, Array.length_toList] at z
    exact z
  obtain ⟨bs, e1, e2, al, so, dp, q⟩ := hv vs hvl pk fun u hu => by
    obtain ⟨e, he, z⟩ := List.mem_map.mp (pm.mem_iff.mp hu)
    obtain ⟨⟨k, hk, _⟩, _⟩ := g e he
    exact ⟨k, by rw [← z]; exact hk⟩
  have hlen : vs.length ≤ sizeLine := by rw [hvl, ← hes]; exact fits_of_scanBound hb
  refine wpAny_bind (wpAny_newList ?_ hlen)
  have hoL : (s1.heap.push (seqObj "list" vs.toArray 0)).get? s1.heap.objs.size = some (seqObj "list" vs.toArray 0) := Heap.get?_push_size _ rfl
  refine wpAny_bind (wpAny_holding (PySem.W.list_sort_data (R := R) (bs := bs) (enc := enc) hoL e1 ((e2 _).mono fun v b ⟨as, r, z⟩ => ⟨as, r, by rw [z]; exact List.not_mem_nil⟩) al so (by rw [← e1.length]; exact hlen) (fun b hb => ?_) fun out hol eo => ?_))
  · have z := dp b hb
    show A.units + 1 + 1 + (enc b).depth < cLine
    omega
  · obtain ⟨c, hc⟩ := sortedHeap_at (vs := vs) (out := out.toArray) hoL
    refine wpAny_pure ⟨_, rfl, q { s1 with heap := sortedHeap (s1.heap.push (seqObj "list" vs.toArray 0)) s1.heap.objs.size vs out.toArray } s1.heap.objs.size out c hol eo (fun b u e => ?_) g1 o1 hz hc⟩
    have z := k1 b u e
    have hlt := Heap.lt_size z
    show (sortedHeap (s1.heap.push (seqObj "list" vs.toArray 0)) s1.heap.objs.size vs out.toArray).get? b = some u; rw [sortedHeap_old (Nat.ne_of_lt hlt) (by rw [size_push']; exact Nat.lt_succ_of_lt hlt)]
    exact Heap.get?_push_of_some _ z
end
end VL

/-! V19: sorted(set(e)), of ints or of texts. -/
namespace VL
open PySem PySem.Spec L2 PyProof.Rows

def addL {α : Type} [DecidableEq α] (acc : List α) : List α → List α
  | [] => acc
  | k :: r => addL (if acc.any (fun j => decide (j = k)) = true then acc else k :: acc) r
theorem addKs_map {α : Type} [DecidableEq α] (f : α → Key) (inj : ∀ a b, f a = f b → a = b) : ∀ (l acc : List α), addKs (acc.map f) (l.map f) = (addL acc l).map f
  | [], acc => rfl
  | k :: r, acc => by
    show addKs (addK (acc.map f) (f k)) (r.map f) = (addL (if acc.any (fun j => decide (j = k)) = true then acc else k :: acc) r).map f
    have e : hasK (acc.map f) (f k) = acc.any (fun j => decide (j = k)) := by
      unfold hasK
      rw [List.any_map]
      congr 1
      funext j
      show decide (f j = f k) = decide (j = k)
      exact decide_eq_decide.mpr ⟨inj j k, fun z => by rw [z]⟩
    unfold addK
    rw [e]
    by_cases c : acc.any (fun j => decide (j = k)) = true
    · rw [if_pos c, if_pos c]
      exact addKs_map f inj r acc
    · rw [if_neg c, if_neg c]
      exact addKs_map f inj r (k :: acc)
theorem addL_len {α : Type} [DecidableEq α] : ∀ (l acc : List α), (addL acc l).length ≤ acc.length + l.length
  | [], acc => Nat.le_refl _
  | k :: r, acc => by
    unfold addL
    refine Nat.le_trans (addL_len r _) ?_
    split <;> simp <;> omega
def intsD : List D → Option (List Int)
  | [] => some []
  | .int i :: r => (intsD r).map (i :: ·)
  | _ => none
def txsD : List D → Option (List Str)
  | [] => some []
  | .str i :: r => (txsD r).map (i :: ·)
  | _ => none
def leS (x y : Str) : Bool := decide (x.cps.toList ≤ y.cps.toList)
def sortI (ns : List Int) : List Int := (addL [] ns).mergeSort fun a b => decide (a ≤ b)
def sortS (ns : List Str) : List Str := (addL [] ns).mergeSort leS
theorem leS_an {a b : Str} (h : leS a b = true) (k : leS b a = true) : a = b := by
  have e : a.cps.toList = b.cps.toList := List.le_antisymm (of_decide_eq_true h) (of_decide_eq_true k)
  cases a with
  | mk x =>
    cases b with
    | mk y =>
      have : x = y := Array.toList_inj.mp e
      rw [this]
theorem leS_tr {a b c : Str} (h : leS a b = true) (k : leS b c = true) : leS a c = true := decide_eq_true (List.le_trans (of_decide_eq_true h) (of_decide_eq_true k))
theorem leS_to (a b : Str) : (leS a b || leS b a) = true := by
  rw [Bool.or_eq_true]
  exact (List.le_total a.cps.toList b.cps.toList).imp decide_eq_true decide_eq_true
theorem intsD_some : ∀ {xs : List D} {ns : List Int}, intsD xs = some ns → xs = ns.map D.int
  | [], ns, h => by cases h; rfl
  | x :: r, ns, h => by
    cases x <;> first | (unfold intsD at h; cases h; done) | skip
    unfold intsD at h
    obtain ⟨m, h1, h2⟩ := Option.map_eq_some_iff.mp h
    rw [← h2, intsD_some h1]
    rfl
theorem txsD_some : ∀ {xs : List D} {ns : List Str}, txsD xs = some ns → xs = ns.map D.str
  | [], ns, h => by cases h; rfl
  | x :: r, ns, h => by
    cases x <;> first | (unfold txsD at h; cases h; done) | skip
    unfold txsD at h
    obtain ⟨m, h1, h2⟩ := Option.map_eq_some_iff.mp h
    rw [← h2, txsD_some h1]
    rfl
def gSoSet : D → Out D
  | .lst xs => match intsD xs with
    | some ns => if ns.length ≤ 4000 then .ok (.lst ((sortI ns).map .int)) else .bad
    | none => match txsD xs with
      | some ns => if ns.length ≤ 4000 then .ok (.lst ((sortS ns).map .str)) else .bad
      | none => .bad
  | _ => .bad
theorem reps_ints {K : Fr'} {F : Hp} : ∀ {ns : List Int} {vs : List V}, Reps K F (ns.map D.int) vs → vs = ns.map V.int
  | [], vs, h => reps_nil h
  | n :: ns, vs, h => by
    obtain ⟨v, r, rfl, h1, h2⟩ := reps_cons h
    rw [rep_int h1, reps_ints h2]
    rfl
theorem reps_txs {K : Fr'} {F : Hp} : ∀ {ns : List Str} {vs : List V}, Reps K F (ns.map D.str) vs → vs = ns.map V.str
  | [], vs, h => reps_nil h
  | n :: ns, vs, h => by
    obtain ⟨v, r, rfl, h1, h2⟩ := reps_cons h
    rw [rep_str h1, reps_txs h2]
    rfl
theorem mk_ints {K : Fr'} {F : Hp} : ∀ (ns : List Int), Reps K F (ns.map D.int) (ns.map V.int)
  | [] => mk_nil
  | n :: ns => mk_cons mk_int (mk_ints ns)
theorem mk_txs {K : Fr'} {F : Hp} : ∀ (ns : List Str), Reps K F (ns.map D.str) (ns.map V.str)
  | [] => mk_nil
  | n :: ns => mk_cons mk_str (mk_txs ns)
theorem vals_keys {P : Program} {w : World} : ∀ {ks : List Key} {us : List Value}, Vals (ks.map kV) us → ∀ (i : Nat) (v : Value), us[i]? = some v → ∃ k, ks[i]? = some k ∧ (mixKind P w).is k v = true
  | [], _, .nil, i, v, h => by simp at h
  | k :: ks, _, .cons r t, 0, v, h => by
    cases h
    exact ⟨k, rfl, kV_is r⟩
  | k :: ks, _, .cons r t, i + 1, v, h => vals_keys t i v h
theorem mix_shape {P : Program} {w : World} {k : Key} {v : Value} (h : (mixKind P w).is k v = true) : (∃ (i : Int) (t : Tok), k = Sum.inl i ∧ v = .int i t) ∨ ∃ (x : Str) (t : Tok), k = Sum.inr x ∧ v = .str x t := by
  rcases keyIs_shape h with ⟨i, t, h1, h2⟩ | ⟨i, t, h1, h2⟩
  · exact .inl ⟨i, t, by first | exact h1 | exact h2, by first | exact h2 | exact h1⟩
  · exact .inr ⟨i, t, by first | exact h1 | exact h2, by first | exact h2 | exact h1⟩
/-- values and what they read as -/
theorem eachI {P : Program} {w : World} : ∀ (us : List Value), (∀ u ∈ us, ∃ k : Int, keyF u = Sum.inl k ∧ ∃ q, (mixKind P w).is q u = true) →
    ∃ bs : List Int, us.map keyF = bs.map Sum.inl ∧ PySem.W.EachIs (fun v (n : Int) => RelV (V.int n) v) us bs ∧ ∀ h : Heap, PySem.W.EachIs (fun v (b : Int) => ∃ as, Reads h v (.int b) as ∧ as = []) us bs
  | [], _ => ⟨[], rfl, .nil, fun h => .nil⟩
  | u :: us, hh => by
    obtain ⟨bs, e, e1, e2⟩ := eachI us fun v hv => hh v (List.mem_cons_of_mem _ hv)
    obtain ⟨k, h1, q, h2⟩ := hh u List.mem_cons_self
    have h3 := keyF_is h2
    rw [h1] at h3
    subst h3
    rcases mix_shape h2 with ⟨i, t, z, rfl⟩ | ⟨x, t, z, rfl⟩
    · cases z
      exact ⟨k :: bs, by rw [List.map_cons, e]; rfl, .cons ⟨t, rfl⟩ e1, fun h => .cons ⟨[], .int _ _, rfl⟩ (e2 h)⟩
    · cases z
theorem eachS {P : Program} {w : World} : ∀ (us : List Value), (∀ u ∈ us, ∃ k : Str, keyF u = Sum.inr k ∧ ∃ q, (mixKind P w).is q u = true) →
    ∃ bs : List Str, us.map keyF = bs.map Sum.inr ∧ PySem.W.EachIs (fun v (n : Str) => RelV (V.str n) v) us bs ∧ ∀ h : Heap, PySem.W.EachIs (fun v (b : Str) => ∃ as, Reads h v (.str b) as ∧ as = []) us bs
  | [], _ => ⟨[], rfl, .nil, fun h => .nil⟩
  | u :: us, hh => by
    obtain ⟨bs, e, e1, e2⟩ := eachS us fun v hv => hh v (List.mem_cons_of_mem _ hv)
    obtain ⟨k, h1, q, h2⟩ := hh u List.mem_cons_self
    have h3 := keyF_is h2
    rw [h1] at h3
    subst h3
    rcases mix_shape h2 with ⟨i, t, z, rfl⟩ | ⟨x, t, z, rfl⟩
    · cases z
    · cases z
      exact ⟨k :: bs, by rw [List.map_cons, e]; rfl, .cons ⟨t, rfl⟩ e1, fun h => .cons ⟨[], .str _ _, rfl⟩ (e2 h)⟩
theorem perm_of_map {α β : Type} [DecidableEq α] {f : α → β} (inj : ∀ a b, f a = f b → a = b) {l m : List α} (p : (l.map f).Perm (m.map f)) : l.Perm m := by
  classical
  refine List.perm_iff_count.mpr fun a => ?_
  have c : ∀ l : List α, (l.map f).count (f a) = l.count a := fun l => by
    induction l with
    | nil => rfl
    | cons x r ih =>
      rw [List.map_cons, List.count_cons, List.count_cons, ih]
      congr 1
      by_cases e : x = a
      · subst e
        simp
      · have e2 : f x ≠ f a := fun z => e (inj _ _ z)
        simp [e, e2]
  rw [← c l, ← c m]
  exact p.count_eq _
theorem each_relI : ∀ {us : List Value} {ns : List Int}, PySem.W.EachIs (fun v (n : Int) => RelV (V.int n) v) us ns → Vals (ns.map V.int) us
  | _, _, .nil => .nil
  | _, _, .cons h t => .cons h (each_relI t)
theorem each_relS : ∀ {us : List Value} {ns : List Str}, PySem.W.EachIs (fun v (n : Str) => RelV (V.str n) v) us ns → Vals (ns.map V.str) us
  | _, _, .nil => .nil
  | _, _, .cons h t => .cons h (each_relS t)
def rSoSet (K : Fr') : V → Hp → VK → Prop := fun x H Q => ∃ a ws, x = .ref a ∧ SqL K H a ws ∧ ((∃ ns : List Int, ws = ns.map V.int ∧ ns.length ≤ 4000 ∧ ∀ p, H p = none → Q (.ref p) (upd H p (.lst ((sortI ns).map V.int)))) ∨
  ∃ ns : List Str, ws = ns.map V.str ∧ ns.length ≤ 4000 ∧ ∀ p, H p = none → Q (.ref p) (upd H p (.lst ((sortS ns).map V.str))))
theorem Inv.listAt {X : Cx} {pins : List (Addr × Obj)} {σ : L2.St} {H : Hp} {s s' : Shared} {p c : Nat} {out : List Value} {ws : List V} (I : Inv X pins σ H s) (k : ∀ b o, s.heap.get? b = some o → s'.heap.get? b = some o) (g : s'.gens = s.gens) (o : s'.os = s.os) (hp : s.heap.objs.size ≤ p) (hl : ws.length ≤ sizeLine) (hv : Vals ws out) (hg : s'.heap.get? p = some (seqObj "list" out.toArray c)) :
    Inv X pins σ (upd H p (.lst ws)) s' ∧ H p = none := by
  have hn : H p = none := I.hok.fresh hp
  have J : Inv X pins σ (upd H p (.lst ws)) { s with heap := s'.heap, gens := s'.gens, drawn := s'.drawn, toks := s'.toks } := I.call (ch := []) (Un.laid k hp hn) (I.hok.laid k hp ⟨hl, out, c, hv, by simpa using hg⟩) (by rw [g]; exact I.bare) (fun _ z => nomatch z)
  have e : s' = { s with heap := s'.heap, gens := s'.gens, drawn := s'.drawn, toks := s'.toks } := by
    cases s'
    cases s
    cases o
    rfl
  rw [e]
  exact ⟨J, hn⟩
section
variable {X : Cx} {W : WX} {b : Bool} {a : Expr} {f : Env' → Out D} {p p2 q pos : Pos}
theorem sort_setM (hu : X.A.units + 200 < cLine) (hc : X.calm = true) {pins : List (Addr × Obj)} {σ : L2.St} {H : Hp} {s : Shared} {E : Value → Shared → Prop} {x : V} {u : Value} {Q : VK} (I : Inv X pins σ H s) (r : RelV x u) (h : rSoSet X.K x H Q)
    {R : Value → Shared → Prop} (hR : ∀ v s1, wpAny (model X.prog X.w) X.A (call (.builtin "sorted") [v]) (fun v s' => ∃ y H', Inv X pins σ H' s' ∧ RelV y v ∧ Q y H') E s1 → R v s1) : wpAny (model X.prog X.w) X.A (call (.type "set") [u]) R E s := by
  obtain ⟨l, ws, rfl, hq, h⟩ := h
  cases r
  obtain ⟨its, rv, pl, hz⟩ := I.list hq
  rcases h with ⟨ns, rfl, hn, q⟩ | ⟨ns, rfl, hn, q⟩
  · have hks : ns.map V.int = (ns.map Sum.inl).map kV := by rw [List.map_map]; rfl
    have hl : its.toArray.size = (ns.map (Sum.inl : Int → Key)).length := by rw [List.size_toArray, ← rv.length, List.length_map, List.length_map]
    rw [hks] at rv
    refine call_setM (ns.map Sum.inl) (I.ok.hd hc) pl.isList (fun i v hv => vals_keys rv i v (by simpa using hv)) hl (by rw [List.length_map]; unfold scanBound; omega) fun h' tk hS hk => hR _ _ ?_
    have eK : addKs [] (ns.map Sum.inl) = (addL [] ns).map Sum.inl := addKs_map Sum.inl (fun a b z => Sum.inl.inj z) ns []
    rw [eK] at hS
    have I2 : Inv X pins σ H { s with heap := h', toks := tk } := I.kept hk
    refine sorted_vs (s := { s with heap := h', toks := tk }) (R := fun v (n : Int) => RelV (V.int n) v) (enc := fun n : Int => .int n) (bs := []) (vs := []) hS (I.ok.hd hc) hu fun us h1 h2 h3 => ?_
    obtain ⟨bs, e0, e1, e2⟩ := eachI (P := X.prog) (w := X.w) us fun u hu => by
      have m := h2.mem_iff.mp (List.mem_map_of_mem (f := keyF) hu)
      obtain ⟨k, _, z⟩ := List.mem_map.mp m
      exact ⟨k, z.symm, h3 u hu⟩
    rw [e0] at h2
    have pm : bs.Perm (addL [] ns) := perm_of_map (fun a b z => Sum.inl.inj z) h2
    have es : bs.mergeSort (PySem.W.dataLe false fun n : Int => .int n) = sortI ns := by
      rw [PySem.W.dataLe_int]
      exact sort_canon (fun a b : Int => decide (a ≤ b)) (fun a b c h k => decide_eq_true (Int.le_trans (of_decide_eq_true h) (of_decide_eq_true k))) (fun a b => by rw [Bool.or_eq_true, decide_eq_true_eq, decide_eq_true_eq]; exact Int.le_total a b) (fun a b h k => Int.le_antisymm (of_decide_eq_true h) (of_decide_eq_true k)) pm
    refine ⟨bs, e1, e2, fun d hd d' hd' => ?_, .inr fun d hd => ?_, fun b hb => by show (PyData.int b).depth ≤ 64; simp [PyData.depth], fun s' p out c hol eo k g o hp hg => ?_⟩
    · obtain ⟨x, _, rfl⟩ := List.mem_map.mp hd
      obtain ⟨y, _, rfl⟩ := List.mem_map.mp hd'
      rfl
    · obtain ⟨x, _, rfl⟩ := List.mem_map.mp hd
      exact ⟨fun z => PyData.noConfusion z, fun _ z => PyData.noConfusion z⟩
    · rw [es] at eo
      have hlen : ((sortI ns).map V.int).length ≤ sizeLine := by
        unfold sortI
        rw [List.length_map, List.length_mergeSort]
        have z := addL_len ns []
        rw [sizeLine_eq]
        simp only [List.length_nil] at z
        omega
      obtain ⟨J, hn⟩ := Inv.listAt I2 k g o hp hlen (each_relI eo) hg
      exact ⟨.ref p, _, J, rfl, q p hn⟩
  · have hks : ns.map V.str = (ns.map Sum.inr).map kV := by rw [List.map_map]; rfl
    have hl : its.toArray.size = (ns.map (Sum.inr : Str → Key)).length := by rw [List.size_toArray, ← rv.length, List.length_map, List.length_map]
    rw [hks] at rv
    refine call_setM (ns.map Sum.inr) (I.ok.hd hc) pl.isList (fun i v hv => vals_keys rv i v (by simpa using hv)) hl (by rw [List.length_map]; unfold scanBound; omega) fun h' tk hS hk => hR _ _ ?_
    have eK : addKs [] (ns.map Sum.inr) = (addL [] ns).map Sum.inr := addKs_map Sum.inr (fun a b z => Sum.inr.inj z) ns []
    rw [eK] at hS
    have I2 : Inv X pins σ H { s with heap := h', toks := tk } := I.kept hk
    refine sorted_vs (s := { s with heap := h', toks := tk }) (R := fun v (n : Str) => RelV (V.str n) v) (enc := fun n : Str => .str n) (bs := []) (vs := []) hS (I.ok.hd hc) hu fun us h1 h2 h3 => ?_
    obtain ⟨bs, e0, e1, e2⟩ := eachS (P := X.prog) (w := X.w) us fun u hu => by
      have m := h2.mem_iff.mp (List.mem_map_of_mem (f := keyF) hu)
      obtain ⟨k, _, z⟩ := List.mem_map.mp m
      exact ⟨k, z.symm, h3 u hu⟩
    rw [e0] at h2
    have pm : bs.Perm (addL [] ns) := perm_of_map (fun a b z => Sum.inr.inj z) h2
    have es : bs.mergeSort (PySem.W.dataLe false fun n : Str => .str n) = sortS ns := by
      rw [PySem.W.dataLe_str]
      exact sort_canon leS (fun a b c => leS_tr) leS_to (fun a b => leS_an) pm
    refine ⟨bs, e1, e2, fun d hd d' hd' => ?_, .inr fun d hd => ?_, fun b hb => by show (PyData.str b).depth ≤ 64; simp [PyData.depth], fun s' p out c hol eo k g o hp hg => ?_⟩
    · obtain ⟨x, _, rfl⟩ := List.mem_map.mp hd
      obtain ⟨y, _, rfl⟩ := List.mem_map.mp hd'
      rfl
    · obtain ⟨x, _, rfl⟩ := List.mem_map.mp hd
      exact ⟨fun z => PyData.noConfusion z, fun _ z => PyData.noConfusion z⟩
    · rw [es] at eo
      have hlen : ((sortS ns).map V.str).length ≤ sizeLine := by
        unfold sortS
        rw [List.length_map, List.length_mergeSort]
        have z := addL_len ns []
        rw [sizeLine_eq]
        simp only [List.length_nil] at z
        omega
      obtain ⟨J, hn⟩ := Inv.listAt I2 k g o hp hlen (each_relS eo) hg
      exact ⟨.ref p, _, J, rfl, q p hn⟩
/-- sorted(set(e)) -/
theorem SO.sortSet (hu : X.A.units + 200 < cLine) (hc : X.calm = true) (hg : Gl X "sorted") (hm : X.mg "sorted" = none) (hg2 : Gl X "set") (hm2 : X.mg "set" = none) (ha : SR b X W a f) (na : starEach [a] X.env = (false, eval a X.env) :: starEach [] X.env := by rfl) :
    SO b X W (.Call (.Name "sorted" p) [.Call (.Name "set" p2) [a] [] q] [] pos) (r1 f gSoSet) := by
  refine ⟨⟨fun pins s σ H Q I h => ?_⟩⟩
  have h2 := tO1 (r := rSoSet X.K) (h := gSoSet) (by
    intro F H x dx d Q l rx e k
    unfold gSoSet at e
    split at e
    · rename_i xs
      obtain ⟨a, vs, rfl, h1, r1⟩ := rep_lst rx
      split at e
      · rename_i ns hi
        split at e
        · rename_i hn
          cases e
          have ex := intsD_some hi
          subst ex
          have ev := reps_ints r1
          subst ev
          exact ⟨a, _, rfl, l.seqL h1, .inl ⟨ns, rfl, hn, fun p hp => k p _ hp ⟨_, rfl, mk_ints _⟩⟩⟩
        · cases e
      · split at e
        · rename_i ns hi
          split at e
          · rename_i hn
            cases e
            have ex := txsD_some hi
            subst ex
            have ev := reps_txs r1
            subst ev
            exact ⟨a, _, rfl, l.seqL h1, .inr ⟨ns, rfl, hn, fun p hp => k p _ hp ⟨_, rfl, mk_txs _⟩⟩⟩
          · cases e
        · cases e
    · cases e) σ H Q h
  refine Call_ (ld_blt I hg hm boot_sorted ?_); refine callWith_builtin1 (args_cons ?_ rfl) rfl rfl
  refine Call_ (ld_blt I hg2 hm2 boot_set ?_); refine callWith_type1 (args_cons (thn (ha.pe.run pins s σ H _ I h2) fun v s1 ⟨x, H1, I1, r1, q1⟩ => args_nil ?_) na) na rfl
  exact sort_setM hu hc (E := X.xe) I1 r1 q1 fun v s1 z => args_nil z
end
end VL

/-! V20: defs by facts; globals; keys of dicts. -/
namespace VL
open PySem PySem.Spec L2

/-- the def x, by name: nothing handed back -/
structure OkF (P : Program) (w : World) (K : Fr') (mg : MG) (base : Heap) (k : Nat) (x : Str) (ps : List Str) (mf : List D → Out D) : Prop where
  g : mg x = some (.ref (He.ga K x))
  kp : PySem.W.keepIn K (.ref (He.ga K x)) = true
  fn : ∃ fd, FnOk P w K mg base (L2.CX P w) k (He.ga K x) fd ps (spF K mg mf) ∧ Binds K fd ps []
/-- .. the first parameter is handed back -/
structure OkT (P : Program) (w : World) (K : Fr') (mg : MG) (base : Heap) (k : Nat) (x : Str) (ps : List Str) (mf : D → List D → Out (D × D)) : Prop where
  g : mg x = some (.ref (He.ga K x))
  kp : PySem.W.keepIn K (.ref (He.ga K x)) = true
  fn : ∃ fd, FnOk P w K mg base (L2.CX P w) k (He.ga K x) fd ps (spT K mg mf) ∧ Binds K fd ps []
section
variable {P : Program} {w : World} {K : Fr'} {mg : MG} {base : Heap} {x qual : Str} {params : Arguments} {body : List Stmt} {sc : Scope} {N ps : List Str} {k : Nat} {f : Addr} {fd : FuncData} {bd : Env' → Out (Fl × Env')}
theorem fnD_F (F : FunD K x qual params body sc [] [] f fd) (S : FnScope N ps sc)
    (hb : ∀ (cdv : Value) (A : Around) (outer : List Env) (s : Shared) (H : Hp) (E : XK), Room k (A.deeper (PyProof.Rows.envOfC qual sc s.heap.objs.size f cdv)) →
      SS (cxOf (L2.CX P w) P w K mg base N qual sc f cdv A outer s H E) (WE' E) [] body bd) :
    FnOk P w K mg base (L2.CX P w) (k + 1) f fd ps (spF K mg (arity ps.length (fnF N.length bd))) := by
  refine fn_ar (F.ok S (fun vs H Q E h => h.1) fun cdv A outer s H vs Q E hr h => ⟨_, (hb cdv A outer s H E hr).ps, ?_⟩)
  obtain ⟨hl, F, ds, le, r, q⟩ := h
  have s0 := vals_st2 le r
  have lv : vs.length = (ds.map Cell.val).length := by rw [List.length_map, reps_len r]
  have s1 := s0.start (N := N) (by rw [hl]; exact scope_le S)
  have noow : ∀ b, ¬ Owned (L2.start N vs) (begE N.length (ds.map Cell.val)) b := fun b z => vals_noown (owned_start lv z)
  have nw : ∀ {σ' : L2.St} {ρ' : Env'} {F' H' : Hp}, Le F' H' → Stp (L2.start N vs) (begE N.length (ds.map Cell.val)) F H σ' ρ' F' H' → New F H F' H' := fun {σ' ρ' F' H'} l p => ⟨p.le, l, fun b o h => p.kp b o h (noow b), fun b h => by
    rcases p.fr b h with h | h | h
    · exact .inl h
    · exact .inr h
    · exact absurd h (noow b)⟩
  refine ⟨F, _, s1, on_imp (on_bind q) (fun p ep q σ' F' H' s' pp fx => ?_) (fun c fs ec q cls xd σ' F' H' l hl' pp r' => q cls xd F' H' (nw l pp) r')⟩
  obtain ⟨fl, ρ'⟩ := p
  have n := nw s'.le pp
  cases fl with
  | nx => exact q .non F' H' n mk_non
  | brk => exact q.elim
  | cnt => exact q.elim
  | ret d => exact fun v rv => q v F' H' n rv
  | new d =>
    intro p o hp c
    obtain ⟨n2, r⟩ := Co.laid s'.le hp c
    exact q _ _ _ (n.trans n2) r
theorem fnD_T (F : FunD K x qual params body sc [] [] f fd) (S : FnScope N ps sc)
    (hb : ∀ (cdv : Value) (A : Around) (outer : List Env) (s : Shared) (H : Hp) (E : XK), Room k (A.deeper (PyProof.Rows.envOfC qual sc s.heap.objs.size f cdv)) →
      SS (cxOf (L2.CX P w) P w K mg base N qual sc f cdv A outer s H E) (WE' E) [0] body bd) :
    FnOk P w K mg base (L2.CX P w) (k + 1) f fd ps (spT K mg (fnT N.length ps.length bd)) := by
  refine F.ok S (fun vs H Q E h => ?_) fun cdv A outer s H vs Q E hr h => ⟨_, (hb cdv A outer s H E hr).ps, ?_⟩
  · obtain ⟨F, p, o, d, ws, ds, rfl, l, ho, hn, c, r, q⟩ := h
    unfold fnT at q
    by_cases e : ds.length + 1 = ps.length
    · show ws.length + 1 = ps.length
      rw [reps_len r]
      exact e
    · rw [if_neg e] at q
      exact q.elim
  · obtain ⟨F, p, o, d, ws, ds, rfl, l, ho, hn, c, r, q⟩ := h
    unfold fnT at q
    by_cases e : ds.length + 1 = ps.length
    · rw [if_pos e] at q
      have s0 := own_st2 l ho hn c r
      have lv : (V.ref p :: ws).length = (Cell.own d :: ds.map Cell.val).length := by
        show ws.length + 1 = (ds.map Cell.val).length + 1
        rw [List.length_map, reps_len r]
      have s1 := s0.start (N := N) (by
        have := scope_le S
        show ws.length + 1 ≤ N.length
        rw [reps_len r]
        omega)
      have oo : ∀ b, Owned (L2.start N (V.ref p :: ws)) (begE N.length (Cell.own d :: ds.map Cell.val)) b → b = p := fun b z => own_only (owned_start lv z)
      refine ⟨F, _, s1, on_imp (on_bind q) (fun pr ep q σ' F' H' s' pp fx => ?_) (fun cc fs ec q cls xd σ' F' H' l2 hl' pp r' => q cls xd F' H' (fun b u hb h => pp.kp b u h fun z => hb (oo b z)) pp.le l2 (fun b h => ?_) pp.al r')⟩
      · obtain ⟨fl, ρ'⟩ := pr
        have hσ : σ'[0]? = some (some (V.ref p)) := by
          rw [fx.2 0 List.mem_cons_self]
          exact start_at (N := N) (vs := V.ref p :: ws) (Nat.succ_pos _)
        have fin : ∀ {d' : D}, ρ'[0]? = some (Cell.own d') → ∃ o', TStp p F H F' H' ∧ H' p = some o' ∧ F' p = none ∧ Co K F' d' o' := fun {d'} h0 => by
          obtain ⟨p', o', e1, ho', hn', c'⟩ := s'.own 0 d' h0
          rw [hσ] at e1
          cases e1
          refine ⟨o', ⟨pp.le, s'.le, fun b u hb h => pp.kp b u h fun z => hb (oo b z), fun b h => ?_⟩, ho', hn', c'⟩
          rcases pp.fr b h with w | w | w
          · exact .inl w
          · exact .inr w
          · rw [oo b w] at h
            exact absurd hn' h
        cases fl with
        | nx =>
          obtain ⟨d', h0, q⟩ := ownOf_on q
          obtain ⟨o', t, h1, h2, h3⟩ := fin h0
          exact q .non F' H' o' t h1 h2 h3 mk_non
        | brk => exact q.elim
        | cnt => exact q.elim
        | ret r0 =>
          obtain ⟨d', h0, q⟩ := ownOf_on q
          obtain ⟨o', t, h1, h2, h3⟩ := fin h0
          exact fun v rv => q v F' H' o' t h1 h2 h3 rv
        | new d => exact q.elim
      · rcases pp.fr b h with h | h | h
        · exact .inl h
        · exact .inr (.inl h)
        · exact .inr (.inr (oo b h))
    · rw [if_neg e] at q
      exact q.elim
end
/-! ### defs that make a new object -/
def spN (K : Fr') (mg : MG) (mf : List D → Out D) : Sp := fun vs H Q E => ∃ F ds, Le F H ∧ Reps K F ds vs ∧
  (mf ds).on (fun d => ∀ p o F' H', New F H F' H' → H' p = none → Co K F' d o → Q (.ref p) (upd H' p o)) (fun c fs => ∀ cls xd F' H', New F H F' H' → ExcR mg c fs cls xd → E cls xd H')
def fnN (n m : Nat) (body : Env' → Out (Fl × Env')) (ds : List D) : Out D := if ds.length = m then (body (begE n (ds.map Cell.val))).bind fun p => match p.1 with
  | .new d => .ok d
  | _ => .bad else .bad
structure OkN (P : Program) (w : World) (K : Fr') (mg : MG) (base : Heap) (k : Nat) (x : Str) (ps : List Str) (mf : List D → Out D) : Prop where
  g : mg x = some (.ref (He.ga K x))
  kp : PySem.W.keepIn K (.ref (He.ga K x)) = true
  fn : ∃ fd, FnOk P w K mg base (L2.CX P w) k (He.ga K x) fd ps (spN K mg mf) ∧ Binds K fd ps []
section
variable {P : Program} {w : World} {K : Fr'} {mg : MG} {base : Heap} {x qual : Str} {params : Arguments} {body : List Stmt} {sc : Scope} {N ps : List Str} {k : Nat} {f : Addr} {fd : FuncData} {bd : Env' → Out (Fl × Env')}
theorem fnD_N (F : FunD K x qual params body sc [] [] f fd) (S : FnScope N ps sc)
    (hb : ∀ (cdv : Value) (A : Around) (outer : List Env) (s : Shared) (H : Hp) (E : XK), Room k (A.deeper (PyProof.Rows.envOfC qual sc s.heap.objs.size f cdv)) →
      SS (cxOf (L2.CX P w) P w K mg base N qual sc f cdv A outer s H E) (WE' E) [] body bd) :
    FnOk P w K mg base (L2.CX P w) (k + 1) f fd ps (spN K mg (fnN N.length ps.length bd)) := by
  refine F.ok S (fun vs H Q E h => ?_) fun cdv A outer s H vs Q E hr h => ⟨_, (hb cdv A outer s H E hr).ps, ?_⟩
  · obtain ⟨F, ds, l, r, q⟩ := h
    unfold fnN at q
    by_cases e : ds.length = ps.length
    · rw [reps_len r]
      exact e
    · rw [if_neg e] at q
      exact q.elim
  · obtain ⟨F, ds, le, r, q⟩ := h
    unfold fnN at q
    by_cases e : ds.length = ps.length
    · rw [if_pos e] at q
      have s0 := vals_st2 le r
      have lv : vs.length = (ds.map Cell.val).length := by rw [List.length_map, reps_len r]
      have s1 := s0.start (N := N) (by rw [reps_len r, e]; exact scope_le S)
      have noow : ∀ b, ¬ Owned (L2.start N vs) (begE N.length (ds.map Cell.val)) b := fun b z => vals_noown (owned_start lv z)
      have nw : ∀ {σ' : L2.St} {ρ' : Env'} {F' H' : Hp}, Le F' H' → Stp (L2.start N vs) (begE N.length (ds.map Cell.val)) F H σ' ρ' F' H' → New F H F' H' := fun {σ' ρ' F' H'} l p => ⟨p.le, l, fun b o h => p.kp b o h (noow b), fun b h => by
        rcases p.fr b h with h | h | h
        · exact .inl h
        · exact .inr h
        · exact absurd h (noow b)⟩
      refine ⟨F, _, s1, on_imp (on_bind q) (fun p ep q σ' F' H' s' pp fx => ?_) (fun c fs ec q cls xd σ' F' H' l hl' pp r' => q cls xd F' H' (nw l pp) r')⟩
      obtain ⟨fl, ρ'⟩ := p
      have n := nw s'.le pp
      cases fl with
      | nx => exact q.elim
      | brk => exact q.elim
      | cnt => exact q.elim
      | ret d => exact q.elim
      | new d => exact fun p o hp c => q p o F' H' n hp c
    · rw [if_neg e] at q
      exact q.elim
end
section
variable {X : Cx} {W : WX} {prot : List Nat} {e : Expr} {f : Env' → Out D} {pos : Pos}
/-- return of a new object -/
def sNew (f : Env' → Out D) : Env' → Out (Fl × Env') := fun ρ => (f ρ).bind fun d => .ok (.new d, ρ)
theorem S1.retN' (he : SO false X W e f) : S1 X W prot (.Return (some e) pos) (sNew f) := ⟨PS.imp (ps_ret he.pe) fun D0 σ H ⟨F, ρ, s, q⟩ => ⟨F, ρ, s, on_imp (on_bind q) (fun d ed q p o F1 H1 n hp c => q σ F1 H1 (s.new n) (n.stp σ ρ) (Fix.refl _ _) p o hp c) fun _ _ _ q => q⟩⟩
end
def mCF (ms : Env' → Out (List D × Env')) (mf : List D → Out D) : Env' → Out (D × Env') := fun ρ => (ms ρ).bind fun a => (mf a.1).bind fun d => .ok (d, a.2)
section
variable {b : Bool} {X : Cx} {W : WX} {k j : Nat} {ps : List Str} {mf : List D → Out D} {fs : Env' → Out (List D)} {x : Str} {p pos : Pos} {e : Expr} {es : List Expr}
theorem SR.callD (G : OkF X.prog X.w X.K X.mg X.base k x ps mf) (hr : Room j X.A) (tk : TK X W) (ha : SRs b X W (e :: es) fs) (hk : k ≤ j := by decide) (hg : Gl X x := by rfl) (hdb : (x == ("__debug__" : Str)) = false := by decide)
    (hs : starEach (e :: es) X.env = (false, eval e X.env) :: starEach es X.env := by rfl) (hpl : (backTo pos (starEach es X.env)).any (·.1) = false := by rfl) : SR b X W (.Call (.Name x p) (e :: es) [] pos) (rF fs mf) := by
  obtain ⟨fd, F, B⟩ := G.fn
  exact SR.call F (hr.mono hk) hg G.g G.kp B tk ha hdb hs hpl
theorem SO.callN (G : OkN X.prog X.w X.K X.mg X.base k x ps mf) (hr : Room j X.A) (tk : TK X W) (ha : SRs b X W (e :: es) fs) (hk : k ≤ j := by decide) (hg : Gl X x := by rfl) (hdb : (x == ("__debug__" : Str)) = false := by decide)
    (hs : starEach (e :: es) X.env = (false, eval e X.env) :: starEach es X.env := by rfl) (hpl : (backTo pos (starEach es X.env)).any (·.1) = false := by rfl) : SO b X W (.Call (.Name x p) (e :: es) [] pos) (rF fs mf) := by
  obtain ⟨fd, F, B⟩ := G.fn
  refine SO.imp (pe_callS F (hr.mono hk) hg G.g G.kp B tk ha.pe hdb hs hpl) ?_
  rintro σ H Q ⟨F, ρ, s, q⟩
  refine ⟨F, ρ, s, on_imp (on_bind q) (fun ds ed q vs F1 H1 n1 rx => ?_) fun _ _ _ q => q⟩
  have s1 := s.new n1
  refine ⟨_, ds, s1.bs_le, rx, on_imp q (fun d ed q p o F' H' n hp c => ?_) (fun c cs ec q cls xd F' H' n r => ?_)⟩
  · obtain ⟨F2, n2, l⟩ := s1.bnew n
    exact q p o F2 H' (n1.trans n2) hp (Co.mono l c)
  · obtain ⟨F2, n2, l⟩ := s1.bnew n
    exact q cls xd σ F2 H' n2.le' rfl (Stp.emp (n1.trans n2)) r
theorem SM.callF {ms : Env' → Out (List D × Env')} (G : OkF X.prog X.w X.K X.mg X.base k x ps mf) (hr : Room j X.A) (tk : TK X W) (ha : SMs X W (e :: es) ms) (hk : k ≤ j := by decide) (hg : Gl X x := by rfl) (hdb : (x == ("__debug__" : Str)) = false := by decide)
    (hs : starEach (e :: es) X.env = (false, eval e X.env) :: starEach es X.env := by rfl) (hpl : (backTo pos (starEach es X.env)).any (·.1) = false := by rfl) : SM X W (.Call (.Name x p) (e :: es) [] pos) (mCF ms mf) := by
  obtain ⟨fd, F, B⟩ := G.fn
  refine SM.imp (pe_callS F (hr.mono hk) hg G.g G.kp B tk ha.pe hdb hs hpl) ?_
  rintro σ H Q ⟨F, ρ, s, q⟩
  refine ⟨F, ρ, s, on_imp (on_bind q) (fun a ea q vs F1 H1 s1 rx p1 => ?_) fun _ _ _ q => q⟩
  have lr : a.2.length = ρ.length := by rw [← s.len, ← s1.len]
  have em : emps ρ = emps a.2 := by unfold emps; rw [lr]
  refine ⟨_, a.1, s1.le, rx, on_imp (on_bind q) (fun d ed q v F' H' n rv => q v F' H' (s1.new n) rv (p1.trans (n.stp σ a.2))) (fun c cs ec q cls xd F' H' n r => ?_)⟩
  refine q cls xd σ F' H' n.le' rfl (p1.trans ?_) r
  rw [em]
  exact Stp.emp n
theorem SM.callD {mt : D → List D → Out (D × D)} {ms : Env' → Out (List D × Env')} {y : Str} {px : Pos} (i : Nat) (G : OkT X.prog X.w X.K X.mg X.base k x ps mt) (hr : Room j X.A) (tk : TK X W) (ha : SMs X W es ms) (hk : k ≤ j := by decide) (hg : Gl X x := by rfl) (hN : X.N[i]? = some y := by rfl) (hv : Vis X.env.scope y := by first | exact Or.inl rfl | exact Or.inr (Or.inl rfl) | exact Or.inr (Or.inr rfl)) (hd : (y == ("__debug__" : Str)) = false := by decide)
    (hcd : (y == ("__classdict__" : Str)) = false := by decide) (hdb : (x == ("__debug__" : Str)) = false := by decide) (hs : starEach (.Name y px :: es) X.env = (false, eval (.Name y px) X.env) :: starEach es X.env := by rfl) (hpl : (backTo pos (starEach es X.env)).any (·.1) = false := by rfl) :
    SM X W (.Call (.Name x p) (.Name y px :: es) [] pos) (mCT i ms mt) := by
  obtain ⟨fd, F, B⟩ := G.fn
  exact SM.callT i F (hr.mono hk) hg G.g G.kp B tk ha hN hv hd hcd hdb hs hpl
/-- a module's name -/
theorem SR.glo {v : V} {u : Value} {d : D} (hm : X.mg x = some u) (r : RelV v u) (rp : ∀ F, Rep X.K F d v) (hg : Gl X x := by rfl) (hd : (x == ("__debug__" : Str)) = false := by decide) : SR b X W (.Name x pos) (rC d) := SR.const (pe_glob hg hm r hd) rp
theorem SR.gInt {i : Int} (hm : ∃ t, X.mg x = some (.int i t)) (hg : Gl X x := by rfl) (hd : (x == ("__debug__" : Str)) = false := by decide) : SR b X W (.Name x pos) (rC (.int i)) := by
  obtain ⟨t, hm⟩ := hm
  exact SR.glo (v := .int i) hm ⟨t, rfl⟩ (fun _ => mk_int) hg hd
theorem SR.gStr {i : Str} (hm : ∃ t, X.mg x = some (.str i t)) (hg : Gl X x := by rfl) (hd : (x == ("__debug__" : Str)) = false := by decide) : SR b X W (.Name x pos) (rC (.str i)) := by
  obtain ⟨t, hm⟩ := hm
  exact SR.glo (v := .str i) hm ⟨t, rfl⟩ (fun _ => mk_str) hg hd
/-- plain items -/
def dvD : He.Dv → D
  | .non => .non
  | .bl c => .bl c
  | .int i => .int i
  | .str y => .str y
  | _ => .dit []
def dvOk : He.Dv → Bool
  | .non => true
  | .bl _ => true
  | .int _ => true
  | .str _ => true
  | _ => false
theorem dv_reps {K : Fr'} {F : Hp} : ∀ {vs : List He.Dv}, vs.all dvOk = true → Reps K F (vs.map dvD) (vs.map (He.Dv.v K))
  | [], _ => mk_nil
  | v :: vs, h => by
    rw [List.all_cons, Bool.and_eq_true] at h
    refine mk_cons ?_ (dv_reps h.2)
    have h1 := h.1
    cases v <;> first | (cases h1; done) | skip
    · exact mk_non
    · exact mk_bl
    · exact mk_int
    · exact mk_str
theorem SR.gTup {vs : List He.Dv} (hm : X.mg x = some (.ref (He.ga X.K x))) (ht : He.tupB X.K x vs = true) (ok : vs.all dvOk = true := by decide) (hg : Gl X x := by rfl) (hd : (x == ("__debug__" : Str)) = false := by decide) : SR b X W (.Name x pos) (rC (.tup (vs.map dvD))) :=
  SR.glo hm (v := .ref (He.ga X.K x)) rfl (fun F => mk_tup (He.tupB_ok ht F) (dv_reps ok)) hg hd
end
end VL

/-! V21: + of whatever; comprehensions over the keys of a dict; lists of texts. -/
namespace VL
open PySem PySem.Spec L2

def gAddU : D → D → Out D
  | .int i, .int j => .ok (.int (i + j))
  | .str x, .str y => if x.length + y.length ≤ sizeLine then .ok (.str (x ++ y)) else .bad
  | .lst xs, .lst ys => if xs.length + ys.length ≤ sizeLine then .ok (.lst (xs ++ ys)) else .bad
  | .tup xs, .tup ys => if xs.length + ys.length ≤ sizeLine then .ok (.tup (xs ++ ys)) else .bad
  | _, _ => .bad
def rAddU (K : Fr') : R2 := fun x y H Q => rAddS x y H Q ∨ (rCatR K x y H Q ∨ rCatA K x y H Q)
theorem op_addU {X : Cx} : OpR X (binaryOp .Add) (rAddU X.K) := OpR.or op_addS (OpR.or op_catR op_catA)
theorem p_addU {K : Fr'} : Pure2 K (rAddU K) gAddU := by
  intro F H x y dx dy d Q l rx ry e k
  cases dx <;> cases dy <;> first | (unfold gAddU at e; cases e; done) | skip
  · exact .inl (p_add F H x y _ _ d Q l rx ry e k)
  · exact .inl (p_add F H x y _ _ d Q l rx ry e k)
  · rename_i xs ys
    unfold gAddU at e
    dsimp only at e
    by_cases c : xs.length + ys.length ≤ sizeLine
    · rw [if_pos c] at e
      cases e
      obtain ⟨a, vs, rfl, h1, q1⟩ := rep_tup rx
      obtain ⟨a2, ws, rfl, h2, q2⟩ := rep_tup ry
      refine .inr (.inr ⟨a, a2, vs, ws, rfl, rfl, l.seqT h1, l.seqT h2, by rw [reps_len q1, reps_len q2]; exact c, fun z => ?_, fun z z2 => ?_, fun z z2 p hp => ?_⟩)
      · subst z
        have e0 : xs = [] := by
          have h := reps_len q1
          exact List.eq_nil_of_length_eq_zero h.symm
        subst e0
        exact k _ _ _ (New.refl l) (mk_tup h2 q2)
      · subst z2
        have e0 : ys = [] := by
          have h := reps_len q2
          exact List.eq_nil_of_length_eq_zero h.symm
        subst e0
        refine k _ _ _ (New.refl l) ?_
        rw [List.append_nil]
        exact mk_tup h1 q1
      · exact k _ _ _ (New.upd (o := .tup (vs ++ ws)) l hp) (mk_tup (.inl (.inl upd_same)) (Reps.mono (Le.updL (l.none hp)) _ _ (reps_app q1 q2)))
    · rw [if_neg c] at e
      cases e
  · rename_i xs ys
    have e2 : gCatL (.lst xs) (.lst ys) = .ok d := e
    exact .inr (.inl (p_catL F H x y _ _ d Q l rx ry e2 fun p o hp c => by
      obtain ⟨n, r⟩ := Co.laid l hp c
      exact k _ _ _ n r))
section
variable {b : Bool} {X : Cx} {W : WX} {x y : Expr} {f g : Env' → Out D} {pos : Pos}
theorem SR.addU (ha : SR b X W x f) (hb : SR b X W y g) : SR b X W (.BinOp x .Add y pos) (r2 f g gAddU) := SR.bin op_addU p_addU ha hb
theorem SM.addU {mf mg' : Env' → Out (D × Env')} (ha : SM X W x mf) (hb : SM X W y mg') : SM X W (.BinOp x .Add y pos) (m2 mf mg' gAddU) := SM.bin op_addU p_addU ha hb
end
section
variable {X : Cx} {W : WX} {elt tg : Expr} {ifs : List Expr} {scope : Scope} {own : List (Str × Nat)} {pos p : Pos} {sl : List Nat} {g : D → Env' → Out Env'} {t : Env' → Out Bool} {f : Env' → Out D} {z : Str}
/-- [.. for k in d], d a frozen dict in place i -/
theorem SO.lcK (i : Nat) (hc : X.calm = true) (hN : X.N.Nodup) (ok : BlkOk X.N X.env.scope scope own)
    (hg : ∀ (s : Shared) (H : Hp) (C : Addr) (cl : List (Str × Addr)) (fp : List Addr), SG (X.blk s H scope (compEnvC scope cl C X.env) fp) sl tg g)
    (ht : ∀ (s : Shared) (H : Hp) (C : Addr) (cl : List (Str × Addr)) (fp : List Addr), STs (X.blk s H scope (compEnvC scope cl C X.env) fp) W0 ifs t)
    (he : ∀ (s : Shared) (H : Hp) (C : Addr) (cl : List (Str × Addr)) (fp : List Addr), SR false (X.blk s H scope (compEnvC scope cl C X.env) fp) W0 elt f) (hNi : X.N[i]? = some z := by rfl) (hv : Vis X.env.scope z := by first | exact Or.inl rfl | exact Or.inr (Or.inl rfl) | exact Or.inr (Or.inr rfl)) (hd : (z == ("__debug__" : Str)) = false := by decide)
    (hcd : (z == ("__classdict__" : Str)) = false := by decide) (hsl : ∀ i, i ∈ sl → i ∈ own.map (·.2) := by decide) (hs : ∀ x, foldedSetIterable (.Name z p) X.env x = pure x := by intro _; rfl) :
    SO false X W (.ListComp elt [⟨tg, .Name z p, ifs, 0⟩] scope pos) (rLc (iKs (rv false i)) (own.map (·.2)) g t f) := by
  have h := pe_lc (elt := elt) (pos := pos) (g := gM X.K sl g) (tt := tRT X.K X.mg W0 t) (te := tR X.K X.mg W0 false f) hc hN (pi_keys (pe_var (pos := p) hNi hv hd hcd)) ok (fun s H C cl fp => (hg s H C cl fp).pg) (fun s H C cl fp => (ht s H C cl fp).pt) (fun s H C cl fp => (he s H C cl fp).pe) hs
  exact SO.imp (PE.or (pe_lock h) h) (lcK_read i hsl)
end
end VL

/-! V22: mirrors run by equations. -/
namespace VL
open PySem PySem.Spec L2

section
variable {α β : Type} (ρ : Env') (f g h : Env' → Out D) (o : D → D → Out D)
theorem ev_ok (a : α) (k : α → Out β) : (Out.ok a).bind k = k a := rfl
theorem ev_exc (c : Str) (fs : List D) (k : α → Out β) : (Out.exc c fs).bind k = .exc c fs := rfl
theorem ev_bad (k : α → Out β) : (Out.bad : Out α).bind k = .bad := rfl
theorem ev_nok (a : α) : noX (Out.ok a) = .ok a := rfl
theorem ev_nbad : noX (Out.bad : Out α) = .bad := rfl
theorem ev_nexc (c : Str) (fs : List D) : noX (Out.exc c fs : Out α) = .bad := rfl
theorem ev_rC (d : D) : rC d ρ = .ok d := rfl
theorem ev_r1 (u : D → Out D) : r1 f u ρ = (f ρ).bind fun x => noX (u x) := rfl
theorem ev_r2 : r2 f g o ρ = (f ρ).bind fun x => (g ρ).bind fun y => noX (o x y) := rfl
theorem ev_rN (fs : Env' → Out (List D)) (u : List D → Out D) : rN fs u ρ = (fs ρ).bind fun x => noX (u x) := rfl
theorem ev_rF (fs : Env' → Out (List D)) (u : List D → Out D) : rF fs u ρ = (fs ρ).bind u := rfl
theorem ev_rNil : rNil ρ = .ok [] := rfl
theorem ev_rCons (fs : Env' → Out (List D)) : rCons f fs ρ = (f ρ).bind fun x => (fs ρ).bind fun xs => .ok (x :: xs) := rfl
theorem ev_rIf (t : Env' → Out Bool) (u v : Env' → Out α) : rIf t u v ρ = (t ρ).bind fun c => if c = true then u ρ else v ρ := rfl
theorem ev_rAnd : rAnd f g ρ = (f ρ).bind fun c => match c with
  | .bl true => g ρ
  | .bl false => .ok (.bl false)
  | _ => .bad := rfl
theorem ev_rOr : rOr f g ρ = (f ρ).bind fun c => match c with
  | .bl true => .ok (.bl true)
  | .bl false => g ρ
  | _ => .bad := rfl
theorem ev_rNot (c : Bool) : rNot (.bl c) = .ok (.bl !c) := rfl
theorem ev_rCh (o' : D → D → Out D) : rCh f g h o o' ρ = (f ρ).bind fun x => (g ρ).bind fun y => (noX (o x y)).bind fun c => match c with
  | .bl true => (h ρ).bind fun z => noX (o' y z)
  | .bl false => .ok (.bl false)
  | _ => .bad := rfl
theorem ev_bT : bT f ρ = (f ρ).bind asB := rfl
theorem ev_asB (c : Bool) : asB (.bl c) = .ok c := rfl
theorem ev_bAnd (u v : Env' → Out Bool) : bAnd u v ρ = (u ρ).bind fun c => if c = true then v ρ else .ok false := rfl
theorem ev_bOr (u v : Env' → Out Bool) : bOr u v ρ = (u ρ).bind fun c => if c = true then .ok true else v ρ := rfl
theorem ev_bNot (u : Env' → Out Bool) : bNot u ρ = (u ρ).bind fun c => .ok (!c) := rfl
theorem ev_mOf (b : Bool) : mOf b f ρ = (f ρ).bind fun d => if b = false ∨ immut d = true then .ok (d, ρ) else .bad := rfl
theorem ev_mT (u : Env' → Out Bool) : mT u ρ = (u ρ).bind fun c => .ok (c, ρ) := rfl
theorem ev_brw (u : Env' → Out α) : brw u ρ = u (frzA ρ) := rfl
theorem ev_sSeq (u v : Env' → Out (Fl × Env')) : sSeq u v ρ = (u ρ).bind fun p => match p.1 with
  | .nx => v p.2
  | .brk => .ok (.brk, p.2)
  | .cnt => .ok (.cnt, p.2)
  | .ret d => .ok (.ret d, p.2)
  | .new d => .ok (.new d, p.2) := rfl
theorem ev_sNil : sNil ρ = .ok (.nx, ρ) := rfl
theorem ev_sAsg (m : Env' → Out (D × Env')) (t : D → Env' → Out Env') : sAsg m t ρ = (m ρ).bind fun x => (noX (t x.1 x.2)).bind fun r => .ok (.nx, r) := rfl
theorem ev_tgN (i : Nat) (d : D) : tgN i d ρ = .ok (ρ.set i (.val d)) := rfl
theorem ev_sIf (c : Env' → Out (Bool × Env')) (u v : Env' → Out (Fl × Env')) : sIf c u v ρ = (c ρ).bind fun t => if t.1 = true then u t.2 else v t.2 := rfl
theorem ev_sRet (m : Env' → Out (D × Env')) : sRet m ρ = (m ρ).bind fun x => .ok (.ret x.1, x.2) := rfl
theorem ev_sNew : sNew f ρ = (f ρ).bind fun d => .ok (.new d, ρ) := rfl
theorem ev_sFor (it : Env' → Out (List D × Env')) (t : D → Env' → Out Env') (u : Env' → Out (Fl × Env')) : sFor it t u ρ = (it ρ).bind fun x => forL t u x.1 x.2 := rfl
theorem ev_iOf (u : Env' → Out (List D)) : iOf u ρ = (u ρ).bind fun xs => .ok (xs, ρ) := rfl
theorem ev_iSeq : iSeq f ρ = (f ρ).bind seqD := rfl
theorem ev_sPut (i : Nat) (m : Env' → Out (D × Env')) : sPut i m f ρ = (m ρ).bind fun x => match x.2[i]? with
  | some (.own (.lst xs)) => (f x.2).bind fun k => match k with
    | .int j => match ixN xs.length j with
      | some n => .ok (.nx, x.2.set i (.own (.lst (xs.set n x.1))))
      | none => .bad
    | _ => .bad
  | _ => .bad := rfl
theorem ev_mCT (i : Nat) (ms : Env' → Out (List D × Env')) (mf : D → List D → Out (D × D)) : mCT i ms mf ρ = match ρ[i]? with
  | some (.own _) => (ms ρ).bind fun a => (match a.2[i]? with
    | some (.own d) => (mf d a.1).bind fun r => .ok (r.1, a.2.set i (.own r.2))
    | _ => .bad)
  | _ => .bad := rfl
theorem ev_mNil : mNil ρ = .ok ([], ρ) := rfl
theorem ev_mCons (m : Env' → Out (D × Env')) (ms : Env' → Out (List D × Env')) : mCons m ms ρ = (m ρ).bind fun x => (ms x.2).bind fun xs => .ok (x.1 :: xs.1, xs.2) := rfl
theorem ev_mN (ms : Env' → Out (List D × Env')) (u : List D → Out D) : mN ms u ρ = (ms ρ).bind fun x => (noX (u x.1)).bind fun d => .ok (d, x.2) := rfl
theorem ev_m1 (m : Env' → Out (D × Env')) (u : D → Out D) : m1 m u ρ = (m ρ).bind fun x => (noX (u x.1)).bind fun d => .ok (d, x.2) := rfl
theorem ev_m2 (m n : Env' → Out (D × Env')) : m2 m n o ρ = (m ρ).bind fun x => (n x.2).bind fun y => (noX (o x.1 y.1)).bind fun d => .ok (d, y.2) := rfl
theorem ev_mCF (ms : Env' → Out (List D × Env')) (u : List D → Out D) : mCF ms u ρ = (ms ρ).bind fun a => (u a.1).bind fun d => .ok (d, a.2) := rfl
theorem ev_bMT (m : Env' → Out (D × Env')) : bMT m ρ = (m ρ).bind fun x => (asB x.1).bind fun c => .ok (c, x.2) := rfl
theorem ev_sOwn (b : Bool) (i : Nat) : sOwn b f i ρ = (f ρ).bind fun d => if b = false ∨ topIm d = true then .ok (.nx, ρ.set i (.own d)) else .bad := rfl
theorem ev_mIxO (i : Nat) : mIxO i f ρ = match ρ[i]? with
  | some (.own (.lst xs)) => (f ρ).bind fun y => match y with
    | .int j => match atI xs j with
      | some d => .ok (d, ρ)
      | none => .bad
    | _ => .bad
  | _ => .bad := rfl
end
theorem ev_rv (b : Bool) (i : Nat) (ρ : Env') : rv b i ρ = match ρ[i]? with
  | some (.val d) => .ok d
  | some (.own d) => if b = true then .ok d else .bad
  | _ => .bad := rfl
theorem ev_gSub (i j : Int) : gSub (.int i) (.int j) = .ok (.int (i - j)) := rfl
theorem ev_gLt (i j : Int) : gLt (.int i) (.int j) = .ok (.bl (decide (i < j))) := rfl
theorem ev_gLe (i j : Int) : gLe (.int i) (.int j) = .ok (.bl (decide (i ≤ j))) := rfl
theorem ev_gGt (i j : Int) : gGt (.int i) (.int j) = .ok (.bl (decide (j < i))) := rfl
theorem ev_gGe (i j : Int) : gGe (.int i) (.int j) = .ok (.bl (decide (j ≤ i))) := rfl
theorem ev_addI (i j : Int) : gAddU (.int i) (.int j) = .ok (.int (i + j)) := rfl
theorem ev_mod {i j : Int} (h : j ≠ 0) : gMod (.int i) (.int j) = .ok (.int (i.fmod j)) := by
  show (if decide (j ≠ 0) = true then _ else _) = _
  rw [if_pos (decide_eq_true h)]
theorem ev_fdiv {i j : Int} (h : j ≠ 0) (h2 : j.natAbs < 1073741824) : gFdiv (.int i) (.int j) = .ok (.int (i.fdiv j)) := by
  show (if (decide (j ≠ 0) && decide (j.natAbs < 1073741824)) = true then _ else _) = _
  rw [if_pos (by rw [Bool.and_eq_true]; exact ⟨decide_eq_true h, decide_eq_true h2⟩)]
theorem ev_mulR {i j : Int} (h1 : -(2 ^ 64) < j) (h2 : j < 2 ^ 64) : gMulI (.int i) (.int j) = .ok (.int (i * j)) := by
  show (if cMul i j = true then _ else _) = _
  rw [if_pos]
  unfold cMul
  rw [Bool.or_eq_true, Bool.and_eq_true, Bool.and_eq_true]
  exact .inr ⟨decide_eq_true h1, decide_eq_true h2⟩
theorem ev_mulL {i j : Int} (h1 : -(2 ^ 64) < i) (h2 : i < 2 ^ 64) : gMulI (.int i) (.int j) = .ok (.int (i * j)) := by
  show (if cMul i j = true then _ else _) = _
  rw [if_pos]
  unfold cMul
  rw [Bool.or_eq_true, Bool.and_eq_true, Bool.and_eq_true]
  exact .inl ⟨decide_eq_true h1, decide_eq_true h2⟩
theorem ev_int (i : Int) : gInt [.int i] = .ok (.int i) := rfl
theorem ev_intB (c : Bool) : gInt [.bl c] = .ok (.int (if c then 1 else 0)) := rfl
theorem ev_neg (i : Int) : gNeg (.int i) = .ok (.int (-i)) := rfl
theorem ev_lenL (xs : List D) : gLen [.lst xs] = .ok (.int xs.length) := rfl
theorem atI_nat' {α : Type} {xs : List α} {i : Int} (h : 0 ≤ i) : atI xs i = xs[i.toNat]? := by
  unfold atI ixN
  rw [if_pos h]
  by_cases c : i < xs.length
  · rw [if_pos c]
    rfl
  · rw [if_neg c]
    show none = _
    rw [List.getElem?_eq_none (by omega)]
theorem ixN_nat {n : Nat} {i : Int} (h : 0 ≤ i) (h2 : i < n) : ixN n i = some i.toNat := by
  unfold ixN
  rw [if_pos h, if_pos h2]
end VL

/-! V23: what the top has written: functions, names, tuples. -/
namespace VL
open PySem PySem.Spec L2

abbrev TbD : Type := List (Str × List He.Dv)
def obsX (fa : List He.Fa) (fn : List He.DefD) (tb : TbD) (K : Fr') : He.AlD := (((fa.all fun f => f.ok K) && fn.all fun d => d.ok K) && tb.all fun q => He.tupB K q.1 q.2, fn.map fun d => He.fnW K d.at_)
def SaysX (fa : List He.Fa) (fn : List He.DefD) (tb : TbD) (K : Fr') : Prop := obsX fa fn tb K = He.valD fn
def obsXG (n : Nat) (fa : List He.Fa) (fn : List He.DefD) (tb : TbD) (g : Addr → Option Obj) : He.AlD := obsX fa fn tb (He.frG g (He.asD g n))
def hookX (n : Nat) (fa : List He.Fa) (fn : List He.DefD) (tb : TbD) : PySem.W.Hook where
  α := He.AlD
  obs := fun s => obsXG n fa fn tb s.heap.get?
  val := fun _ => He.valD fn
  says := fun _ h => ∃ K : Fr', K.In h ∧ SaysX fa fn tb K
  of := fun _ _ e => ⟨_, He.frG_in, e⟩
  keeps := fun _ _ _ ⟨K, hK, c⟩ k => ⟨K, PySem.W.Frag.In.keeps hK k, c⟩
theorem obsXG_eq {n : Nat} {fa : List He.Fa} {fn : List He.DefD} {tb : TbD} {g : Addr → Option Obj} {s : Shared} (h : ∀ a, g a = s.heap.get? a) : obsXG n fa fn tb g = (hookX n fa fn tb).obs s := by
  have e : g = s.heap.get? := funext h
  rw [e]
  rfl
section
variable {fa : List He.Fa} {fn : List He.DefD} {tb : TbD} {K : Fr'}
theorem SaysX.one (c : SaysX fa fn tb K) : (((fa.all fun f => f.ok K) && fn.all fun d => d.ok K) && tb.all fun q => He.tupB K q.1 q.2) = true := congrArg (fun z : He.AlD => z.1) c
theorem SaysX.fact (c : SaysX fa fn tb K) (i : Nat) {f : He.Fa} (h : fa[i]? = some f := by rfl) : f.ok K = true :=
  List.all_eq_true.mp (He.ba (He.ba c.one).1).1 f (List.mem_of_getElem? h)
theorem SaysX.tup (c : SaysX fa fn tb K) (i : Nat) {q : Str × List He.Dv} (h : tb[i]? = some q := by rfl) : He.tupB K q.1 q.2 = true :=
  List.all_eq_true.mp (He.ba c.one).2 q (List.mem_of_getElem? h)
theorem SaysX.def_ (c : SaysX fa fn tb K) (i : Nat) {d : He.DefD} (h : fn[i]? = some d := by rfl) : ∃ fd, FunD K d.name d.qual d.params d.body d.scope (d.dvs K) (d.kws K) (He.fAd K d.at_) fd := by
  have e : fn.map (fun d => He.fnW K d.at_) = fn.map He.DefD.val := congrArg (fun z : He.AlD => z.2) c
  have e2 : (fn.map fun d => He.fnW K d.at_)[i]? = (fn.map He.DefD.val)[i]? := by rw [e]
  rw [List.getElem?_map, List.getElem?_map, h] at e2
  exact He.DefD.funD (Option.some.inj e2) (List.all_eq_true.mp (He.ba (He.ba c.one).1).2 d (List.mem_of_getElem? h))
end
/-- the law, from what its mirror says -/
theorem law_sp {P : Program} {w : World} {K : Fr'} {mg : MG} {base : Heap} {k : Nat} {x : Str} {ps : List Str} {mf : List D → Out D} {f : Addr} (G : OkF P w K mg base k x ps mf) (hf : mg x = some (.ref f)) (hps : ps = (["script"] : List Str)) :
    ∃ fd, FnOk P w K mg base (L2.CX P w) k f fd ["script"] (spF K mg mf) := by
  obtain ⟨fd, F, B⟩ := G.fn
  have e := hf.symm.trans G.g
  cases e
  subst hps
  exact ⟨fd, F⟩
theorem sp_law {K : Fr'} {mg : MG} {mf : List D → Out D} (h : ∀ ns : List Int, mf [.lst (ns.map D.int)] = .ok (.bl true)) {H : Hp} {a : Addr} {ns : List Int} (hS : SqL K H a (ns.map V.int)) :
    spF K mg mf [.ref a] H (fun v _ => v = .bl true) (fun _ _ _ => False) := by
  refine ⟨H, [.lst (ns.map D.int)], Le.refl _, mk_cons (mk_lst hS (mk_ints ns)) mk_nil, ?_⟩
  rw [h ns]
  exact fun v F' H' n r => rep_bl r
theorem law_walk {l : PySem.W.OpenLaw} {n k j : Nat} {q : Program} {loose : List Str} {XP : (Str → Option Value) → Heap → Prop} {d : DefRec} {x : Str} {fa : List He.Fa} {fn : List He.DefD} {tb : TbD} {mf : List D → Out D} (hn : l.most = some n) (hn2 : n ≤ sizeLine) (hdf : d.params.defaults = []) (hr : Room k callerA)
    (hlaw : ∀ ns : List Int, mf [.lst (ns.map D.int)] = .ok (.bl true)) (F : ∀ (w : World) (K : Fr') (mg : MG) (f : Addr) (h : Heap), K.In h → h.Ns mainGlobals mg → mg d.name = some (.ref f) → SaysX fa fn tb K →
      ∃ fd : FuncData, (∀ (s : Shared) (u : Value), BindsTo s fd ⟨[u], []⟩ [(x, u)]) ∧ ∀ base : Heap, K.In base → base.Ns mainGlobals mg → FnOk l.prog w K mg base (L2.CX l.prog w) k f fd [x] (spF K mg mf)) :
    PySem.W.WalkO q loose XP (hookX j fa fn tb).says l.row.toRowW d [] (fun f vs => PySem.call f vs) := by
  refine Att.attach_call hn hdf fun w s₀ s₁ mg mb f o pm cd doc a vs ns G Y ho hd hcd hmg hobj hints hlen hg => ?_
  obtain ⟨K, KX, c⟩ := Y; obtain ⟨fd, hb, hF⟩ := F w K mg f _ KX G.T.g hmg c
  exact law_call KX G.T.g G.T.b G.T.builtins G.T.nolimit hg hobj hints (Nat.le_trans hlen hn2) hr hF hb (fun H hO hS => sp_law hlaw hS) fun H e s' h => by
    obtain ⟨_, _, _, _, _, _, _, _, _, _, _, _, z⟩ := h
    exact z
end VL

/-! V24: dicts looked up, asked, stored to. -/
namespace VL
open PySem PySem.Spec L2 PyProof.Rows

/-! ### d[k], k in d -/
def rIxD : R2 := fun x y H Q => ∃ a v, x = .ref a ∧ DGet H a y (some v) ∧ Q v H
theorem ix_dict {X : Cx} (hu : X.A.units + 64 < cLine) : IxR X rIxD := by
  intro value slice pins s σ H x y v u Q I rx ry h hs
  obtain ⟨a, w, rfl, g, q⟩ := h
  cases rx
  have hT := dict_typeIs I g
  unfold subscriptTail
  refine wpAny_bind ?_
  rw [getitemInPython_of_ne hT.not_modules]
  refine wpAny_bind (wpAny_specialOf hT PySem.F.slot_dict_getitem.lookup ?_)
  have fin : wpAny (model X.prog X.w) X.A (subscripted slice false (.ref a) u) (fun r s₃ => wpAny (model X.prog X.w) X.A (letTemporaryGo value (.ref a) r >>= fun _ => pure r) (EP X pins σ Q) X.xe s₃) X.xe s := by
    rw [hs]
    exact wpAny_operating (d_getItem (Nat.lt_of_le_of_lt (Nat.add_le_add_left (by decide : 1 ≤ 64) _) hu) I g ry fun w' s' I' rw' => wpAny_bind (wpAny_letTemporaryGo (wpAny_pure ⟨w, H, I', rw', q⟩)))
  first
    | exact wpAny_pure (wpAny_bind fin)
    | exact wpAny_bind (wpAny_pure (wpAny_bind fin))
    | exact wpAny_bind fin
def gIxU : D → D → Out D
  | .dic xs, k => match keyQ k, lookD xs k with
    | some _, some d => .ok d
    | _, _ => .bad
  | x, k => gIx x k
def rIxU (K : Fr') : R2 := fun x y H Q => rIxD x y H Q ∨ rIxAll K x y H Q
theorem ix_u {X : Cx} (hu : X.A.units + 64 < cLine) : IxR X (rIxU X.K) := IxR.or (ix_dict hu) ix_all
theorem rep_dic {K : Fr'} {F : Hp} {xs : List D} {v : V} (h : Rep K F (.dic xs) v) : ∃ a kvs, v = .ref a ∧ Rd F a (.dK kvs) ∧ RepK K F xs kvs := by unfold Rep at h; exact h
theorem rep_key {K : Fr'} {F : Hp} {d : D} {v : V} {q : Key} (h : Rep K F d v) (e : keyQ d = some q) : v = kV q ∧ d = keyD q := by
  have z := keyQ_some e
  subst z
  refine ⟨?_, rfl⟩
  cases q with
  | inl i => exact rep_int h
  | inr x => exact rep_str h
theorem p_ixU {K : Fr'} : Pure2 K (rIxU K) gIxU := by
  intro F H x y dx dy d Q l rx ry e k
  by_cases c : ∃ xs, dx = .dic xs
  · obtain ⟨xs, rfl⟩ := c
    unfold gIxU at e
    dsimp only at e
    split at e
    · rename_i q w hq hw
      cases e
      obtain ⟨a, kvs, rfl, h1, r1⟩ := rep_dic rx
      obtain ⟨e1, e2⟩ := rep_key ry hq
      subst e1 e2
      obtain ⟨v, hv, rv⟩ := (lookD_ok r1).1 _ hw
      exact .inl ⟨a, v, rfl, .inl ⟨kvs, q, l _ _ h1, rfl, hv.symm⟩, k _ _ _ (New.refl l) rv⟩
    · cases e
  · refine .inr (p_ix F H x y dx dy d Q l rx ry ?_ k)
    unfold gIxU at e
    split at e
    · exact absurd ⟨_, rfl⟩ c
    · exact e
def rInD (neg : Bool) : R2 := fun x y H Q => ∃ a o, y = .ref a ∧ DGet H a x o ∧ Q (.bl (if neg then !o.isSome else o.isSome)) H
theorem op_inD1 {X : Cx} (hu : X.A.units + 64 < cLine) : OpR X (compareOp .In) (rInD false) := by
  intro pins s σ H x y v u Q I rx ry h
  obtain ⟨a, o, rfl, g, q⟩ := h
  cases ry
  exact d_in (Nat.lt_of_le_of_lt (Nat.add_le_add_left (by decide : 1 ≤ 64) _) hu) I g rx fun s' I' => ⟨.bl o.isSome, H, I', rfl, q⟩
theorem op_notInD1 {X : Cx} (hu : X.A.units + 64 < cLine) : OpR X (compareOp .NotIn) (rInD true) := by
  intro pins s σ H x y v u Q I rx ry h
  obtain ⟨a, o, rfl, g, q⟩ := h
  cases ry
  exact d_notIn (Nat.lt_of_le_of_lt (Nat.add_le_add_left (by decide : 1 ≤ 64) _) hu) I g rx fun s' I' => ⟨.bl (!o.isSome), H, I', rfl, q⟩
def rInU (K : Fr') (neg : Bool) : R2 := fun x y H Q => rInD neg x y H Q ∨ rInA K neg x y H Q
theorem op_inU {X : Cx} (hu : X.A.units + 64 < cLine) : OpR X (compareOp .In) (rInU X.K false) := OpR.or (op_inD1 hu) op_inA
theorem op_notInU {X : Cx} (hu : X.A.units + 64 < cLine) : OpR X (compareOp .NotIn) (rInU X.K true) := OpR.or (op_notInD1 hu) op_notInA
def gInU (neg : Bool) (x y : D) : Out D := match y with
  | .dic xs => match keyQ x with
    | some _ => .ok (.bl (if neg then !(lookD xs x).isSome else (lookD xs x).isSome))
    | none => .bad
  | y => gIn neg x y
theorem p_inU {K : Fr'} {neg : Bool} : Pure2 K (rInU K neg) (gInU neg) := by
  intro F H x y dx dy d Q l rx ry e k
  by_cases c : ∃ xs, dy = .dic xs
  · obtain ⟨xs, rfl⟩ := c
    unfold gInU at e
    dsimp only at e
    split at e
    · rename_i q hq
      cases e
      obtain ⟨a, kvs, rfl, h1, r1⟩ := rep_dic ry
      obtain ⟨e1, e2⟩ := rep_key rx hq
      subst e1 e2
      have es : (valV kvs q).isSome = (lookD xs (keyD q)).isSome := by
        cases w : lookD xs (keyD q) with
        | none =>
          rw [(lookD_ok r1).2 w]
          rfl
        | some d =>
          obtain ⟨v, hv, _⟩ := (lookD_ok r1).1 _ w
          rw [hv]
          rfl
      refine .inl ⟨a, valV kvs q, rfl, .inl ⟨kvs, q, l _ _ h1, rfl, rfl⟩, ?_⟩
      rw [es]
      exact k _ _ _ (New.refl l) mk_bl
    · cases e
  · refine .inr (p_in F H x y dx dy d Q l rx ry ?_ k)
    unfold gInU at e
    split at e
    · exact absurd ⟨_, rfl⟩ c
    · exact e
section
variable {b : Bool} {X : Cx} {W : WX} {x y : Expr} {f g : Env' → Out D} {mf mg' : Env' → Out (D × Env')} {pos : Pos} {prot : List Nat}
theorem SR.ixU (hu : X.A.units + 64 < cLine) (ha : SR b X W x f) (hb : SR b X W y g) (hs : PlainIx y := by exact fun _ _ => rfl) : SR b X W (.Subscript x y pos) (r2 f g gIxU) := SR.imp (pe_ix (ix_u hu) ha.pe hb.pe hs) (tR2 p_ixU)
theorem SM.ixU (hu : X.A.units + 64 < cLine) (ha : SM X W x mf) (hb : SM X W y mg') (hs : PlainIx y := by exact fun _ _ => rfl) : SM X W (.Subscript x y pos) (m2 mf mg' gIxU) := SM.imp (pe_ix (ix_u hu) ha.pe hb.pe hs) (tM2 p_ixU)
/-- {} -/
theorem SO.dnew : SO b X W (.Dict [] [] pos) (rC (.dic [])) := ⟨PE.imp pe_dnewK fun σ H Q ⟨F, ρ, s, q⟩ p hp => q p _ F H (New.refl s.le) hp ⟨[], rfl, mkK_nil⟩⟩
/-- x[k] = e, x an owned dict or list -/
def sPutU (i : Nat) (mf : Env' → Out (D × Env')) (g : Env' → Out D) : Env' → Out (Fl × Env') := fun ρ => (mf ρ).bind fun x => match x.2[i]? with
  | some (.own (.dic xs)) => (g x.2).bind fun k => match keyQ k with
    | some _ => if xs.length < sizeLine ∧ ndK xs = true then .ok (.nx, x.2.set i (.own (.dic (putD xs k x.1)))) else .bad
    | none => .bad
  | _ => .bad
theorem S1.putU (i : Nat) {x : Str} {k : Expr} {e : Expr} {p0 tpos : Pos} (hu : X.A.units + 64 < cLine) (he : SM X W e mf) (hk : SR false X W k g) (hN : X.N[i]? = some x := by rfl) (hv : Vis X.env.scope x := by first | exact Or.inl rfl | exact Or.inr (Or.inl rfl) | exact Or.inr (Or.inr rfl)) (hd : (x == ("__debug__" : Str)) = false := by decide)
    (hcd : (x == ("__classdict__" : Str)) = false := by decide) (hs : swapsWith e (some (.Subscript (.Name x p0) k tpos)) pos.line X.env = pure false := by rfl) : S1 X W prot (.Assign [.Subscript (.Name x p0) k tpos] e pos) (sPutU i mf g) := by
  refine ⟨PS.imp (ps_dput (Nat.lt_of_le_of_lt (Nat.add_le_add_left (by decide : 1 ≤ 64) _) hu) (pe_var hN hv hd hcd) hk.pe he.pe hs) ?_⟩
  rintro D0 σ H ⟨F, ρ, s, q⟩
  refine ⟨F, ρ, s, on_imp (on_bind q) (fun y ey q w F1 H1 s1 r1 p1 => ?_) fun _ _ _ q => q⟩
  split at q
  · rename_i xs hx
    obtain ⟨p, o, e2, ho, hn, kvs, rfl, rk⟩ := s1.own i _ hx
    have lr : y.2.length = ρ.length := by rw [← s.len, ← s1.len]
    refine ⟨_, e2, F1, y.2, s1, on_stp p1 rfl lr (on_bind q) fun k' ek q v F2 H2 n2 rkv => ?_⟩
    split at q
    · rename_i qk hq
      split at q
      · rename_i c
        obtain ⟨e3, e4⟩ := rep_key rkv hq
        subst e3 e4
        have s2 := s1.new n2
        have rk2 := RepK.mono n2.le _ _ rk
        have c2 : Co X.K F2 (.dic (putD xs (keyD qk) y.1)) (.dK (putK kvs qk w)) := ⟨_, rfl, putD_ok (Rep.mono n2.le _ _ r1) c.2 rk2⟩
        exact ⟨p, _, rfl, .inl ⟨kvs, qk, n2.kp _ _ ho, rfl, by rw [repK_len rk]; exact c.1, rfl⟩, q σ F2 _ (s2.updO hx e2 c2) ((p1.trans (n2.stp σ y.2)).trans (Stp.updO s2 hx e2)) (Fix.refl _ _)⟩
      · exact q.elim
    · exact q.elim
  · exact q.elim
end
end VL

/-! V25: len, list, sorted, dict of dicts. -/
namespace VL
open PySem PySem.Spec L2 PyProof.Rows

abbrev rLen1 (K : Fr') : List V → Hp → VK → Prop := fun xs H Q => ∃ x n, xs = [x] ∧ LenV K x H n ∧ Q (.int n) H
def rLenDk : List V → Hp → VK → Prop := fun xs H Q => ∃ a kvs, xs = [V.ref a] ∧ Rd H a (.dK kvs) ∧ Q (.int kvs.length) H
theorem cr_lenDk {X : Cx} : CallR X (.builtin "len") rLenDk := by
  intro pins s σ H xs us Q I r h
  obtain ⟨a, kvs, rfl, e, q⟩ := h
  rw [Vals.ref1 r]
  exact d_len I e fun t s' I' => ⟨.int kvs.length, H, I', ⟨_, rfl⟩, q⟩
def rLenU (K : Fr') : List V → Hp → VK → Prop := fun xs H Q => rLenDk xs H Q ∨ rLen1 K xs H Q
theorem cr_lenU {X : Cx} : CallR X (.builtin "len") (rLenU X.K) := CallR.or cr_lenDk call_len
def gLenU : List D → Out D
  | [.dic xs] => .ok (.int xs.length)
  | x => gLen x
theorem p_lenU {K : Fr'} : PureN K (rLenU K) gLenU := by
  intro F H xs ds d Q l rx e k
  by_cases c : ∃ ys, ds = [.dic ys]
  · obtain ⟨ys, rfl⟩ := c
    cases e
    obtain ⟨v, rfl, r⟩ := reps1 rx
    obtain ⟨a, kvs, rfl, h1, r1⟩ := rep_dic r
    refine .inl ⟨a, kvs, rfl, l _ _ h1, ?_⟩
    rw [repK_len r1]
    exact k _ _ _ (New.refl l) mk_int
  · refine .inr (p_len F H xs ds d Q l rx ?_ k)
    unfold gLenU at e
    split at e
    · exact absurd ⟨_, rfl⟩ c
    · exact e
/-! ### keys -/
theorem repK_keys {K : Fr'} {F : Hp} : ∀ {xs : List D} {kvs : List (Key × V)}, RepK K F xs kvs → Reps K F (keysD xs) (kvs.map fun kv => kV kv.1)
  | [], kvs, h => by
    rw [repK_nil h]
    exact mk_nil
  | x :: xs, kvs, h => by
    obtain ⟨d, q, v, r, rfl, rfl, h1, h2⟩ := repK_cons h
    refine mk_cons ?_ (repK_keys h2)
    cases q with
    | inl i => exact mk_int
    | inr x => exact mk_str
abbrev rList1 (K : Fr') : List V → Hp → VK → Prop := fun xs H Q => ∃ p ys, xs = [.ref p] ∧ (SqL K H p ys ∨ SqT K H p ys) ∧ ∀ l, H l = none → Q (.ref l) (upd H l (.lst ys))
def rListDk : List V → Hp → VK → Prop := fun xs H Q => ∃ (a : Addr) (kvs : List (Key × V)), xs = [.ref a] ∧ Rd H a (.dK kvs) ∧ ∀ p, H p = none → Q (.ref p) (upd H p (.lst (kvs.map fun kv => kV kv.1)))
def rListU (K : Fr') : List V → Hp → VK → Prop := fun xs H Q => rListDk xs H Q ∨ rList1 K xs H Q
theorem cr_listU {X : Cx} (hc : X.calm = true) : CallR X (.type "list") (rListU X.K) := CallR.or (call_listD hc) call_list_of
def gListU : List D → Out D
  | [.dic xs] => .ok (.lst (keysD xs))
  | x => gList x
theorem p_listU {K : Fr'} : PureON K (rListU K) gListU := by
  intro F H xs ds d Q l rx e k
  by_cases c : ∃ ys, ds = [.dic ys]
  · obtain ⟨ys, rfl⟩ := c
    cases e
    obtain ⟨v, rfl, r⟩ := reps1 rx
    obtain ⟨a, kvs, rfl, h1, r1⟩ := rep_dic r
    exact .inl ⟨a, kvs, rfl, l _ _ h1, fun p hp => k p _ hp ⟨_, rfl, repK_keys r1⟩⟩
  · refine .inr (p_list F H xs ds d Q l rx ?_ k)
    unfold gListU at e
    split at e
    · exact absurd ⟨_, rfl⟩ c
    · exact e
/-! ### sorted -/
theorem repK_fst {K : Fr'} {F : Hp} {α : Type} {f : α → Key} {g : α → D} (hg : ∀ a, g a = keyD (f a)) : ∀ {xs : List D} {kvs : List (Key × V)} {ns : List α}, RepK K F xs kvs → keysD xs = ns.map g → kvs.map (·.1) = ns.map f
  | [], kvs, ns, h, e => by
    rw [repK_nil h]
    cases ns with
    | nil => rfl
    | cons n r => cases e
  | x :: xs, kvs, ns, h, e => by
    obtain ⟨d, q, v, r, rfl, rfl, h1, h2⟩ := repK_cons h
    cases ns with
    | nil => cases e
    | cons n ns =>
      have e : keyD q :: keysD xs = g n :: ns.map g := e
      obtain ⟨e1, e2⟩ := List.cons.inj e
      rw [hg n] at e1
      have e3 : q = f n := by
        cases q <;> cases w : f n <;> rw [w] at e1 <;> cases e1 <;> rfl
      rw [List.map_cons, List.map_cons, repK_fst hg h2 e2, e3]

section
variable {P : Program} {w : World} {A : Around} {E : Value → Shared → Prop} {s : Shared}
theorem sorted_dv {β : Type} {R : Value → β → Prop} {enc : β → PyData} {vs : List (Key × Value)} {a : Addr} {ep : Nat} {Q : Value → Shared → Prop} (lo : (a == sysModules) = false) (hat : s.heap.DictAt (mixKind P w) a vs ep) (hz : vs.length ≤ sizeLine) (hh : A.handled = none) (hu : A.units + 200 < cLine)
    (hv : ∀ us : List Value, us.length = vs.length → us.map keyF = vs.map (·.1) → (∀ u ∈ us, ∃ k, (mixKind P w).is k u = true) → ∃ bs : List β, PySem.W.EachIs R us bs ∧ (∀ h : Heap, PySem.W.EachIs (fun v b => ∃ as, Reads h v (enc b) as ∧ as = []) us bs) ∧ PySem.W.AllAlike (bs.map enc) ∧ PySem.W.Sortable (bs.map enc) ∧ (∀ b ∈ bs, (enc b).depth ≤ 64) ∧
      ∀ (h' : Heap) s' p (out : List Value) (c : Nat), out.length = bs.length → PySem.W.EachIs R out (bs.mergeSort (PySem.W.dataLe false enc)) → (∀ b o, s.heap.get? b = some o → h'.get? b = some o) → (∀ b o, h'.get? b = some o → s'.heap.get? b = some o) → s'.gens = s.gens → s'.os = s.os → h'.objs.size ≤ p → s'.heap.get? p = some (seqObj "list" out.toArray c) → Q (.ref p) s') :
    wpAny (model P w) A (call (.builtin "sorted") [.ref a]) Q E s := by
  refine Calls.call_function_entry kind_sorted plain_sorted entry_sorted (args_sorted1 _) ?_
  unfold Builtin.«sorted»; refine wpAny_bind (m := checkCount "sorted" 1 1 _) (wpAny_pure ?_)
  refine wpAny_bind (PySem.W.kdu_collect (A := A.in1) (PySem.W.kdl_dict (knd := mixKind P w) (kvs := vs) (ep := ep) lo) hh hat hz fun h' tk acc hk hacc => ?_)
  have hal : acc.toList.length = vs.length := by rw [Array.length_toList, hacc.1]
  have hkey : ∀ j v, acc.toList[j]? = some v → ∃ k x, vs[j]? = some (k, x) ∧ (mixKind P w).is k v = true := fun j v e => hacc.2 j v (by rw [← Array.getElem?_toList]; exact e)
  have hmap : acc.toList.map keyF = vs.map (·.1) := by
    apply List.ext_getElem?
    intro j
    rw [List.getElem?_map, List.getElem?_map]
    cases e : acc.toList[j]? with
    | none =>
      have hj : vs.length ≤ j := by rw [← hal]; exact List.getElem?_eq_none_iff.mp e
      rw [List.getElem?_eq_none hj]
      rfl
    | some v =>
      obtain ⟨k, x, e1, e2⟩ := hkey j v e
      rw [e1]
      exact congrArg some (keyF_is e2)
  obtain ⟨bs, e1, e2, al, so, dp, q⟩ := hv acc.toList hal hmap fun u hu => by
    obtain ⟨j, hj⟩ := List.mem_iff_getElem?.mp hu
    obtain ⟨k, x, _, e2⟩ := hkey j u hj
    exact ⟨k, e2⟩
  have hlen : acc.toList.length ≤ sizeLine := by rw [hal]; exact hz
  refine wpAny_bind (wpAny_newList ?_ hlen)
  have hoL : (h'.push (seqObj "list" acc.toList.toArray 0)).get? h'.objs.size = some (seqObj "list" acc.toList.toArray 0) := Heap.get?_push_size _ rfl
  refine wpAny_bind (wpAny_holding (PySem.W.list_sort_data (s := { s with heap := h'.push (seqObj "list" acc.toList.toArray 0), toks := tk }) (R := R) (bs := bs) (enc := enc) hoL e1 ((e2 _).mono fun v b ⟨as, r, z⟩ => ⟨as, r, by rw [z]; exact List.not_mem_nil⟩) al so (by rw [← e1.length]; exact hlen) (fun b hb => ?_) fun out hol eo => ?_))
  · have z := dp b hb
    show A.units + 1 + 1 + (enc b).depth < cLine
    omega
  · obtain ⟨c, hc⟩ := sortedHeap_at (vs := acc.toList) (out := out.toArray) hoL
    refine wpAny_pure ⟨_, rfl, q h' { s with heap := sortedHeap (h'.push (seqObj "list" acc.toList.toArray 0)) h'.objs.size acc.toList out.toArray, toks := tk } h'.objs.size out c hol eo hk (fun b u z => ?_) rfl rfl (Nat.le_refl _) hc⟩
    have hlt := Heap.lt_size z
    show (sortedHeap (h'.push (seqObj "list" acc.toList.toArray 0)) h'.objs.size acc.toList out.toArray).get? b = some u; rw [sortedHeap_old (Nat.ne_of_lt hlt) (by rw [size_push']; exact Nat.lt_succ_of_lt hlt)]
    exact Heap.get?_push_of_some _ z
theorem sorted_dv' {vs : List (Key × Value)} {a : Addr} {ep : Nat} {Q : Value → Shared → Prop} (lo : (a == sysModules) = false) (hat : s.heap.DictAt (mixKind P w) a vs ep) (hz : vs.length ≤ sizeLine) (hh : A.handled = none) (hu : A.units + 200 < cLine)
    (hv : (∃ ks : List Int, vs.map (·.1) = ks.map Sum.inl ∧ ∀ (h' : Heap) s' p (out : List Value) (c : Nat), out.length = ks.length → PySem.W.EachIs (fun v (n : Int) => RelV (V.int n) v) out (ks.mergeSort fun a b => decide (a ≤ b)) → (∀ b o, s.heap.get? b = some o → h'.get? b = some o) → (∀ b o, h'.get? b = some o → s'.heap.get? b = some o) → s'.gens = s.gens → s'.os = s.os → h'.objs.size ≤ p → s'.heap.get? p = some (seqObj "list" out.toArray c) → Q (.ref p) s') ∨
      ∃ ks : List Str, vs.map (·.1) = ks.map Sum.inr ∧ ∀ (h' : Heap) s' p (out : List Value) (c : Nat), out.length = ks.length → PySem.W.EachIs (fun v (n : Str) => RelV (V.str n) v) out (ks.mergeSort leS) → (∀ b o, s.heap.get? b = some o → h'.get? b = some o) → (∀ b o, h'.get? b = some o → s'.heap.get? b = some o) → s'.gens = s.gens → s'.os = s.os → h'.objs.size ≤ p → s'.heap.get? p = some (seqObj "list" out.toArray c) → Q (.ref p) s') :
    wpAny (model P w) A (call (.builtin "sorted") [.ref a]) Q E s := by
  rcases hv with ⟨ks, hk, q⟩ | ⟨ks, hk, q⟩
  · refine sorted_dv (R := fun v (n : Int) => RelV (V.int n) v) (enc := fun n : Int => .int n) lo hat hz hh hu fun us h1 h2 h3 => ?_
    obtain ⟨bs, e0, e1, e2⟩ := eachI (P := P) (w := w) us fun u hu => by
      have m := List.mem_map_of_mem (f := keyF) hu
      rw [h2, hk] at m
      obtain ⟨k, _, z⟩ := List.mem_map.mp m
      exact ⟨k, z.symm, h3 u hu⟩
    have eb : bs = ks := by
      rw [h2, hk] at e0
      exact (List.map_inj_right (fun a b z => Sum.inl.inj z)).mp e0.symm
    subst eb
    refine ⟨bs, e1, e2, fun d hd d' hd' => ?_, .inr fun d hd => ?_, fun b hb => by show (PyData.int b).depth ≤ 64; simp [PyData.depth], fun h' s' p out c hol eo k1 k2 g o hp hg => q h' s' p out c hol (by rw [PySem.W.dataLe_int] at eo; exact eo) k1 k2 g o hp hg⟩
    · obtain ⟨x, _, rfl⟩ := List.mem_map.mp hd
      obtain ⟨y, _, rfl⟩ := List.mem_map.mp hd'
      rfl
    · obtain ⟨x, _, rfl⟩ := List.mem_map.mp hd
      exact ⟨fun z => PyData.noConfusion z, fun _ z => PyData.noConfusion z⟩
  · refine sorted_dv (R := fun v (n : Str) => RelV (V.str n) v) (enc := fun n : Str => .str n) lo hat hz hh hu fun us h1 h2 h3 => ?_
    obtain ⟨bs, e0, e1, e2⟩ := eachS (P := P) (w := w) us fun u hu => by
      have m := List.mem_map_of_mem (f := keyF) hu
      rw [h2, hk] at m
      obtain ⟨k, _, z⟩ := List.mem_map.mp m
      exact ⟨k, z.symm, h3 u hu⟩
    have eb : bs = ks := by
      rw [h2, hk] at e0
      exact (List.map_inj_right (fun a b z => Sum.inr.inj z)).mp e0.symm
    subst eb
    refine ⟨bs, e1, e2, fun d hd d' hd' => ?_, .inr fun d hd => ?_, fun b hb => by show (PyData.str b).depth ≤ 64; simp [PyData.depth], fun h' s' p out c hol eo k1 k2 g o hp hg => q h' s' p out c hol (by rw [PySem.W.dataLe_str] at eo; exact eo) k1 k2 g o hp hg⟩
    · obtain ⟨x, _, rfl⟩ := List.mem_map.mp hd
      obtain ⟨y, _, rfl⟩ := List.mem_map.mp hd'
      rfl
    · obtain ⟨x, _, rfl⟩ := List.mem_map.mp hd
      exact ⟨fun z => PyData.noConfusion z, fun _ z => PyData.noConfusion z⟩
end
def srtI (ns : List Int) : List Int := ns.mergeSort fun a b => decide (a ≤ b)
def srtS (ns : List Str) : List Str := ns.mergeSort leS
def rSortDk : List V → Hp → VK → Prop := fun xs H Q => ∃ (a : Addr) (kvs : List (Key × V)), xs = [.ref a] ∧ Rd H a (.dK kvs) ∧ ((∃ ks : List Int, kvs.map (·.1) = ks.map Sum.inl ∧ ∀ p, H p = none → Q (.ref p) (upd H p (.lst ((srtI ks).map V.int)))) ∨
  ∃ ks : List Str, kvs.map (·.1) = ks.map Sum.inr ∧ ∀ p, H p = none → Q (.ref p) (upd H p (.lst ((srtS ks).map V.str))))
theorem cr_sortDk {X : Cx} (hc : X.calm = true) (hu : X.A.units + 200 < cLine) : CallR X (.builtin "sorted") rSortDk := by
  intro pins s σ H xs us0 Q I r h
  obtain ⟨a, kvs, rfl, hd, h⟩ := h
  rw [Vals.ref1 r]
  obtain ⟨z, lo, vs, rel, dd⟩ := dk_rd I.hok hd
  obtain ⟨ep, hat⟩ := dd.dictAt
  have hl : kvs.length = vs.length := Paired.length rel
  refine sorted_dv' lo hat (by rw [← hl]; exact z) (I.ok.hd hc) hu ?_
  rcases h with ⟨ks, hk, q⟩ | ⟨ks, hk, q⟩
  · refine .inl ⟨ks, rel.keys.symm.trans hk, fun h' s' p out c hol eo k1 k2 g o hp hg => ?_⟩
    have hlen : ((srtI ks).map V.int).length ≤ sizeLine := by
      unfold srtI
      have e := congrArg List.length hk
      rw [List.length_map, List.length_map] at e
      rw [List.length_map, List.length_mergeSort, ← e]
      exact z
    have I2 : Inv X pins σ H { s with heap := h', toks := s.toks } := I.kept k1
    obtain ⟨J, hn⟩ := Inv.listAt I2 k2 g o hp hlen (each_relI eo) hg
    exact ⟨.ref p, _, J, rfl, q p hn⟩
  · refine .inr ⟨ks, rel.keys.symm.trans hk, fun h' s' p out c hol eo k1 k2 g o hp hg => ?_⟩
    have hlen : ((srtS ks).map V.str).length ≤ sizeLine := by
      unfold srtS
      have e := congrArg List.length hk
      rw [List.length_map, List.length_map] at e
      rw [List.length_map, List.length_mergeSort, ← e]
      exact z
    have I2 : Inv X pins σ H { s with heap := h', toks := s.toks } := I.kept k1
    obtain ⟨J, hn⟩ := Inv.listAt I2 k2 g o hp hlen (each_relS eo) hg
    exact ⟨.ref p, _, J, rfl, q p hn⟩
def rSortU (K : Fr') : List V → Hp → VK → Prop := fun xs H Q => rSortDk xs H Q ∨ rSortD K xs H Q
theorem cr_sortU {X : Cx} (hc : X.calm = true) (hu : X.A.units + 200 < cLine) : CallR X (.builtin "sorted") (rSortU X.K) := CallR.or (cr_sortDk hc hu) (cr_sortD hu)
def gSortedU : List D → Out D
  | [.dic xs] => match intsD (keysD xs) with
    | some ns => .ok (.lst ((srtI ns).map .int))
    | none => match txsD (keysD xs) with
      | some ns => .ok (.lst ((srtS ns).map .str))
      | none => .bad
  | x => gSorted x
theorem p_sortedU {K : Fr'} : PureON K (rSortU K) gSortedU := by
  intro F H xs ds d Q l rx e k
  by_cases c : ∃ ys, ds = [.dic ys]
  · obtain ⟨ys, rfl⟩ := c
    obtain ⟨v, rfl, r⟩ := reps1 rx
    obtain ⟨a, kvs, rfl, h1, r1⟩ := rep_dic r
    unfold gSortedU at e
    dsimp only at e
    split at e
    · rename_i ns hi
      cases e
      exact .inl ⟨a, kvs, rfl, l _ _ h1, .inl ⟨ns, repK_fst (g := D.int) (fun _ => rfl) r1 (intsD_some hi), fun p hp => k p _ hp ⟨_, rfl, mk_ints _⟩⟩⟩
    · split at e
      · rename_i ns hi
        cases e
        exact .inl ⟨a, kvs, rfl, l _ _ h1, .inr ⟨ns, repK_fst (g := D.str) (fun _ => rfl) r1 (txsD_some hi), fun p hp => k p _ hp ⟨_, rfl, mk_txs _⟩⟩⟩
      · cases e
  · refine .inr (p_sorted F H xs ds d Q l rx ?_ k)
    unfold gSortedU at e
    split at e
    · exact absurd ⟨_, rfl⟩ c
    · exact e
end VL

/-! V26: raise X(), try .. except X. -/
namespace VL
open PySem PySem.Spec L2 PyProof.Rows

section
variable {X : Cx} {W : WX} {prot : List Nat} {C : Addr} {bmB : List Value} {B newId initId : String} {x : Str} {p pos pos2 : Pos}
theorem pmk_own0 (F : ExcBaseFacts B newId initId bmB) (q : PySem.W.excIn X.K C bmB newId = true) (gC : X.mg x = some (.ref C)) (kC : PySem.W.keepIn X.K (.ref C) = true) (r : Raises X (.ref C)) (hg : Gl X x) (hdb : (x == ("__debug__" : Str)) = false := by decide) : PMk X (.Call (.Name x p) [] [] pos) (fun _ H Q => Q (.ref C) none H) := by
  intro pins s σ H Q I h
  refine wpAny_Call_Name_kw (ld_glob I hg gC ?_ hdb); refine PySem.W.callWith_K0 I.kIn kC ?_
  show wpAny _ _ (call (.ref C) []) _ _ _
  obtain ⟨bm, N, nm, qn, bs, hdct, sn, sub, ab, col, dd, k0, k1, k2, k3, k5, mN, hC, hN, hni, T⟩ := exc_obj I.kIn q
  exact wpAny_call_exc_subT F T hC hN hni (fun h' e hm => mk_of I hm r h (I.hok.gone hm.new)) (Nat.zero_le _)
/-- what is known of an own exception class -/
structure ExcC (K : Fr') (mg : MG) (x : Str) : Prop where
  g : mg x = some (.ref (He.ga K x))
  ex : PySem.W.excIn K (He.ga K x) [.type "Exception", .type "BaseException", .type "object"] "Exception.__new__" = true
  kp : PySem.W.keepIn K (.ref (He.ga K x)) = true
  sb : PySem.W.subIn K (.ref (He.ga K x)) (.type "BaseException") = some true
  ty : PySem.W.typeIn K (.ref (He.ga K x)) = some (.type "type")
def sRaise (c : Str) : Env' → Out (Fl × Env') := fun _ => .exc c []
theorem S1.raise (T : ExcC X.K X.mg x) (tk : Takes X W) (hc : X.calm = true) (hg : Gl X x := by rfl) (hdb : (x == ("__debug__" : Str)) = false := by decide) : S1 X W prot (.Raise (some (.Call (.Name x p) [] [] pos)) none pos2) (sRaise x) :=
  ⟨PS.imp (ps_raise hc tk (pmk_own0 PySem.F.excBase_Exception T.ex T.g T.kp (raises_own T.sb T.ty) hg hdb)) fun D0 σ H ⟨F, ρ, s, q⟩ => q (.ref (He.ga X.K x)) none σ F H s.le rfl (Stp.emp (New.refl s.le)) ⟨rfl, rfl, _, rfl, T.g⟩⟩
/-! ### try -/
def sTry (ex : Str → Option Bool) (f g : Env' → Out (Fl × Env')) : Env' → Out (Fl × Env') := fun ρ => match f ρ with
  | .ok p => .ok p
  | .exc c fs => match ex c with
    | some true => noX (g (emps ρ))
    | some false => .exc c fs
    | none => .bad
  | .bad => .bad
theorem emps_emps (ρ : Env') : emps (emps ρ) = emps ρ := by
  unfold emps
  rw [List.length_replicate]
theorem S1.tryS {ex : Str → Option Bool} {body suite : List Stmt} {b₀ : Stmt} {np pos' : Pos} {f g : Env' → Out (Fl × Env')} {Cv : Value} (hs : X.stack = X.env :: X.outer) (hf : X.env.frame = some X.env.locals) (hc : Names X x Cv) (tk : Takes X W)
    (hx : ∀ c b A, ex c = some b → X.mg c = some (.ref A) → PySem.W.exmOne X.K (.ref A) Cv = some b)
    (hb : ∀ (W' : WX) (pn : List (Addr × Obj)) (xe : Value → Shared → Prop), Takes (X.tr pn xe) W' → PassesOwn (model X.prog X.w) X.A X.env xe → SS (X.tr pn xe) W' [] body f)
    (hg : ∀ (a : Addr) (pn : List (Addr × Obj)), SS (X.suite a pn) W0 [] (b₀ :: suite) g) :
    S1 X W [] (.Try body [.ExceptHandler (some (.Name x np)) none (b₀ :: suite) pos'] [] [] pos) (sTry ex f g) := by
  refine ⟨PS.imp (ps_try_only (tb := fun W' => tS X.K X.mg W' [] f) (ts := fun _ _ _ => tS X.K X.mg W0 [] g) hs hf hc tk (fun W' pn xe t po => (hb W' pn xe t po).ps) (fun a oe cls d pn _ _ => (hg a _).ps)) ?_⟩
  rintro D0 σ H ⟨F, ρ, s, q⟩
  refine ⟨F, ρ, s, ?_⟩
  unfold sTry at q
  cases e : f ρ with
  | ok pr =>
    rw [e] at q
    exact q
  | bad =>
    rw [e] at q
    exact q.elim
  | exc c fs =>
    rw [e] at q
    intro cls xd σ' F' H' l hl sp r
    obtain ⟨r1, r2, A, rfl, r3⟩ := r
    have q : (match ex c with
      | some true => noX (g (emps ρ))
      | some false => .exc c fs
      | none => .bad : Out (Fl × Env')).on (fun p => ∀ σ' F' H', St2 X.K F' H' σ' p.2 → Stp σ ρ F H σ' p.2 F' H' → Fix [] σ σ' → EndsF X.K D0 σ' F' H' p.1) (ExM X.mg W σ ρ F H) := q
    cases w : ex c with
    | none =>
      rw [w] at q
      exact q.elim
    | some b =>
      rw [w] at q
      refine ⟨b, hx c b A w r3, fun hb1 a ha => ?_, fun hb1 => ?_⟩
      · subst hb1
        have s' : St2 X.K F' H' σ' (emps ρ) := by
          have := St2.emps (K := X.K) (F := F') (H := H') (σ := σ') (ρ := ρ) l (by rw [hl]; exact s.len)
          exact this
        refine ⟨F', emps ρ, s', ?_⟩
        cases eg : g (emps ρ) with
        | ok pr =>
          rw [eg] at q
          exact fun σ2 F2 H2 s2 p2 fx => q σ2 F2 H2 s2 (sp.trans p2) ⟨fx.1.trans hl, fun i hi => nomatch hi⟩
        | exc c2 fs2 =>
          rw [eg] at q
          exact q.elim
        | bad =>
          rw [eg] at q
          exact q.elim
      · subst hb1
        exact q (.ref A) xd σ' F' H' l hl sp ⟨r1, r2, A, rfl, r3⟩
end
end VL

/-! V27: sorted(d.items()). -/
namespace VL
open PySem PySem.Spec L2 PyProof.Rows

def layT (H : Hp) : List (Addr × List V) → Hp
  | [] => H
  | z :: L => layT (upd H z.1 (.tup z.2)) L
theorem layT_old {H : Hp} {a : Addr} : ∀ {L : List (Addr × List V)}, (∀ z ∈ L, z.1 ≠ a) → layT H L a = H a
  | [], _ => rfl
  | z :: L, h => by
    show layT (upd H z.1 (.tup z.2)) L a = H a
    rw [layT_old fun y hy => h y (List.mem_cons_of_mem _ hy), upd_ne (Ne.symm (h z List.mem_cons_self))]
theorem layT_new {F H : Hp} : ∀ {L : List (Addr × List V)} {F H : Hp}, Le F H → (L.map (·.1)).Nodup → (∀ z ∈ L, H z.1 = none) → New F H (layT F L) (layT H L)
  | [], _, _, l, _, _ => New.refl l
  | z :: L, F, H, l, nd, h => by
    rw [List.map_cons, List.nodup_cons] at nd
    have n1 := New.upd (o := HO.tup z.2) l (h z List.mem_cons_self)
    exact n1.trans (layT_new (F := F) (H := H) (n1.le') nd.2 fun y hy => by
      have hne : y.1 ≠ z.1 := fun e => nd.1 (by rw [← e]; exact List.mem_map_of_mem hy)
      rw [upd_ne hne]
      exact h y (List.mem_cons_of_mem _ hy))
theorem layT_at : ∀ {L : List (Addr × List V)} {H : Hp}, (L.map (·.1)).Nodup → ∀ z ∈ L, layT H L z.1 = some (.tup z.2)
  | z :: L, H, nd, y, hy => by
    rw [List.map_cons, List.nodup_cons] at nd
    rcases List.mem_cons.mp hy with rfl | hy
    · show layT (upd H y.1 (.tup y.2)) L y.1 = _
      rw [layT_old fun w hw e => nd.1 (by rw [← e]; exact List.mem_map_of_mem hw), upd_same]
    · exact layT_at nd.2 y hy
section
variable {X : Cx}
theorem takeL {pins : List (Addr × Obj)} {σ : L2.St} {H0 : Hp} {s : Shared} {h' : Heap} {tk : Nat} (I0 : Inv X pins σ H0 s) : ∀ (L : List (Addr × List V)) (H1 : Hp), Inv X pins σ H1 { s with heap := h', toks := tk } → (L.map (·.1)).Nodup →
    (∀ z ∈ L, s.heap.objs.size ≤ z.1 ∧ H1 z.1 = none ∧ ∀ H2, ObjOk X.prog X.w H2 h' z.1 (.tup z.2)) → Inv X pins σ (layT H1 L) { s with heap := h', toks := tk }
  | [], H1, I1, _, _ => I1
  | z :: L, H1, I1, nd, h => by
    obtain ⟨hb, hnone, ok⟩ := h z List.mem_cons_self
    have I2 : Inv X pins σ (upd H1 z.1 (.tup z.2)) { s with heap := h', toks := tk } := I1.take (h' := h') (t' := tk) (fun b ob _ e => e) (I0.fpOk hb hnone) (ok _)
    rw [List.map_cons, List.nodup_cons] at nd
    refine takeL I0 L (upd H1 z.1 (.tup z.2)) I2 nd.2 fun y hy => ?_
    obtain ⟨c1, c2, c3⟩ := h y (List.mem_cons_of_mem _ hy)
    have hne : y.1 ≠ z.1 := fun e => nd.1 (by rw [← e]; exact List.mem_map_of_mem hy)
    exact ⟨c1, by rw [upd_ne hne]; exact c2, c3⟩
def rItemsK : V → List V → Hp → VK → Prop := fun x xs H Q => ∃ (a : Addr) (kvs : List (Key × V)), x = .ref a ∧ xs = [] ∧ Rd H a (.dK kvs) ∧ ∀ p, H p = none → Q (.ref p) (upd H p (L2.DX.itemsO p a))
theorem mt_itemsK : MtR X "dict.items" rItemsK := by
  intro pins s σ H x xs v us Q I rx rxs h
  obtain ⟨a, kvs, rfl, rfl, ha, q⟩ := h
  cases rx
  cases rxs
  obtain ⟨z, hd, vs, rel, dd⟩ := dk_rd I.hok ha
  obtain ⟨ep, o, es, ho, hx, hdat, _⟩ := dd.dictAt
  refine DT.callItems (es := es) (ep := ep) hd ⟨o, ho, hx, hdat⟩ ?_
  have hf : H s.heap.objs.size = none := I.hok.fresh (Nat.le_refl _)
  exact ⟨.ref s.heap.objs.size, upd H s.heap.objs.size (L2.DX.itemsO s.heap.objs.size a), I.laid (t' := s.toks) (fun b u e => Heap.get?_push_of_some _ e) (Nat.le_refl _) (L2.DX.itemsO_ok (Heap.get?_push_size _ rfl)), rfl, q _ hf⟩
def kvV (kv : Key × V) : List V := [kV kv.1, kv.2]
def rSortItK (K : Fr') : List V → Hp → VK → Prop := fun vs H Q => ∃ (p a : Addr) (kvs : List (Key × V)) (ds : List D), vs = [.ref p] ∧ H p = some (L2.DX.itemsO p a) ∧ Rd H a (.dK kvs) ∧ ds.length = kvs.length ∧ PySem.W.AllAlike (toPs ds) ∧ PySem.W.Sortable (toPs ds) ∧ (∀ d ∈ ds, (toP d).depth ≤ 64) ∧
  ∀ L : List (Addr × List V), (L.map (·.1)).Nodup → (∀ z ∈ L, H z.1 = none) → L.map (·.2) = kvs.map kvV → DpAll K (layT H L) (L.map fun z => V.ref z.1) (toPs ds) ∧
    ∀ l, layT H L l = none → Q (.ref l) (upd (layT H L) l (.lst ((((L.map fun z => V.ref z.1).zip ds).mergeSort (PySem.W.dataLe false fun z => toP z.2)).map (·.1))))
theorem pairs_at {P : Program} {w : World} {es : List DictEntry} {vs : List (Key × Value)} (h : PySem.Pairs (mixKind P w) es vs) : ∀ {j : Nat} {e : DictEntry}, es[j]? = some e → ∃ x, vs[j]? = some x ∧ RelV (kV x.1) e.key ∧ e.val = x.2 := by
  induction h with
  | nil => intro j e he; simp at he
  | @cons e0 kv es kvs hk hv t ih =>
    intro j e he
    cases j with
    | zero =>
      rw [List.getElem?_cons_zero] at he
      cases he
      refine ⟨kv, rfl, ?_, hv⟩
      have hk : keyIs kv.1 e0.key = true := hk
      rcases keyIs_shape hk with ⟨i, t, e1, e2⟩ | ⟨i, t, e1, e2⟩
      · rw [e1, e2]
        exact ⟨t, rfl⟩
      · rw [e1, e2]
        exact ⟨t, rfl⟩
    | succ j =>
      rw [List.getElem?_cons_succ] at he
      rw [List.getElem?_cons_succ]
      exact ih he
theorem cr_sortItK (hc : X.calm = true) (hu : X.A.units + 200 < cLine) : CallR X (.builtin "sorted") (rSortItK X.K) := by
  intro pins s σ H xs us Q I r h
  obtain ⟨p, a, kvs, ds, rfl, hp, ha, hdl, al, so, dep, q⟩ := h
  obtain rfl := Vals.ref1 r
  have view : s.heap.IsItemsView p a := (show ObjOk X.prog X.w H s.heap p (L2.DX.itemsO p a) from I.hok p _ hp).1
  obtain ⟨z, hd, vs, rel, dd⟩ := dk_rd I.hok ha
  obtain ⟨ep, o, es, ho, hx, hdat, hko, hpr, hnd⟩ := dd.dictAt
  have l1 : kvs.length = vs.length := Paired.length rel
  have l2 : es.size = vs.length := by rw [← Array.length_toList]; exact hpr.length
  have hh : X.A.handled = none := I.ok.hd hc
  refine DT.sortedI (es := es) (ep := ep) hh view ⟨o, ho, hx, hdat⟩ (by omega) fun h' tk as hk hlt hl hG => ?_
  have nd : as.Nodup := List.Pairwise.imp (fun h => Nat.ne_of_lt h) hG.rise
  have lak : as.length = (kvs.map kvV).length := by rw [List.length_map]; omega
  generalize hL : as.zip (kvs.map kvV) = L
  have f1 : L.map (·.1) = as := by rw [← hL]; exact List.map_fst_zip (by rw [lak]; exact Nat.le_refl _)
  have f2 : L.map (·.2) = kvs.map kvV := by rw [← hL]; exact List.map_snd_zip (by rw [lak]; exact Nat.le_refl _)
  have ndL : (L.map (·.1)).Nodup := by rw [f1]; exact nd
  have mem : ∀ y ∈ L, s.heap.objs.size ≤ y.1 ∧ y.1 < h'.objs.size ∧ ∃ us, Vals y.2 us ∧ h'.get? y.1 = some { cls := .type "tuple", data := .seq us.toArray } ∧ y.2.length ≤ sizeLine := by
    intro y hy
    obtain ⟨j, hj⟩ := List.mem_iff_getElem?.mp hy
    rw [← hL] at hj
    obtain ⟨j1, j2⟩ := List.getElem?_zip_eq_some.mp hj
    obtain ⟨e, he, hg⟩ := hG.pairs j y.1 j1
    rw [← Array.getElem?_toList] at he
    obtain ⟨x, hx1, hx2, hx3⟩ := pairs_at hpr he
    rw [List.getElem?_map] at j2
    cases hkj : kvs[j]? with
    | none =>
      rw [hkj] at j2
      cases j2
    | some kv =>
      rw [hkj] at j2
      have ey : kvV kv = y.2 := Option.some.inj j2
      obtain ⟨kv', hk', r1, r2⟩ := L2.DX.pget rel hx1
      obtain rfl : kv' = kv := Option.some.inj (hk'.symm.trans hkj)
      refine ⟨Nat.le_of_lt (hG.above y.1 (List.mem_of_getElem? j1)), Heap.lt_size hg, [e.key, e.val], ?_, hg, ?_⟩
      · rw [← ey]
        refine .cons ?_ (.cons ?_ .nil)
        · rw [r1]
          exact hx2
        · rw [hx3]
          exact r2
      · rw [← ey]
        show 2 ≤ sizeLine
        rw [sizeLine_eq]
        omega
  have fresh : ∀ y ∈ L, H y.1 = none := fun y hy => I.hok.fresh (mem y hy).1
  obtain ⟨hdp, q⟩ := q L ndL fresh f2
  have I1 : Inv X pins σ (layT H L) { s with heap := h', toks := tk } := takeL I L H (I.kept (t' := tk) hk) ndL fun y hy => by
    obtain ⟨m1, m2, us, m3, m4, m5⟩ := mem y hy
    exact ⟨m1, fresh y hy, fun H3 => ⟨m5, us, m3, ⟨_, m4, rfl, 0, by rfl⟩⟩⟩
  have ob : (h'.push { cls := .type "list", data := .seq (as.map Value.ref).toArray }).get? h'.objs.size = some (seqObj "list" (as.map Value.ref).toArray 0) := Heap.get?_push_size _ rfl
  have hnl : layT H L h'.objs.size = none := I1.hok.fresh (Nat.le_refl _)
  generalize hh2 : h'.push { cls := .type "list", data := .seq (as.map Value.ref).toArray } = h2 at ob ⊢
  have ka : ∀ b o, h'.get? b = some o → h2.get? b = some o := fun b o e => by rw [← hh2]; exact Heap.get?_push_of_some _ e
  have ne0 : ∀ b o, h'.get? b = some o → b ≠ h'.objs.size := fun b o e => Nat.ne_of_lt (Heap.lt_size e)
  have I2 : Inv X pins σ (layT H L) { s with heap := h2, toks := tk } := I1.kept (t' := tk) ka
  have ev : (L.map fun z => V.ref z.1) = as.map V.ref := by rw [← f1, List.map_map]; rfl
  have rv : Vals (L.map fun z => V.ref z.1) (as.map Value.ref) := by
    rw [ev]
    exact vals_maps (fun z : Addr => V.ref z) (fun z => Value.ref z) as fun _ _ => rfl
  obtain ⟨e1, e2⟩ := dps_reads I1 rv hdp
  have hlen := dpAll_len hdp
  have ez := zip_enc hlen
  refine PySem.W.list_sort_data (s := { s with heap := h2, toks := tk }) (R := fun v (z : V × D) => RelV z.1 v) (enc := fun z : V × D => toP z.2) (bs := (L.map fun z => V.ref z.1).zip ds) ob e2 ?_ (by rw [ez]; exact al) (by rw [ez]; exact so) (by rw [List.length_zip]; omega) (fun y hy => ?_) fun out hol eo => ?_
  · exact e1.mono fun v b ⟨as', r⟩ => ⟨as', PyProof.Rows.Reads.keeps ka r, fun hm => by
      obtain ⟨o', ho'⟩ := PyProof.On.reads_mem_get r _ hm
      exact ne0 _ _ ho' rfl⟩
  · have := dep y.2 (List.of_mem_zip hy).2
    show X.A.units + 1 + 1 + (toP y.2).depth < cLine
    omega
  · have kF : ∀ b o, h'.get? b = some o → (sortedHeap h2 h'.objs.size (as.map Value.ref) out.toArray).get? b = some o := fun b o e => (PyProof.Rows.sortedHeap_old (ne0 _ _ e) (Heap.lt_size (ka _ _ e))).trans (ka _ _ e)
    obtain ⟨eF, heF⟩ := PyProof.Rows.sortedHeap_at (vs := as.map Value.ref) (out := out.toArray) ob
    have I3 : Inv X pins σ (layT H L) { s with heap := sortedHeap h2 h'.objs.size (as.map Value.ref) out.toArray, toks := tk } := I1.kept (t' := tk) kF
    have hv := each_vals eo
    have I4 := I3.take (h' := sortedHeap h2 h'.objs.size (as.map Value.ref) out.toArray) (t' := tk) (o := .lst ((((L.map fun z => V.ref z.1).zip ds).mergeSort (PySem.W.dataLe false fun z => toP z.2)).map (·.1))) (fun b ob _ e => e) (I.fpOk (Nat.le_of_lt hlt) hnl) ⟨by
      rw [List.length_map, List.length_mergeSort, List.length_zip]
      omega, out, eF, hv, by simpa using heF⟩
    exact ⟨.ref h'.objs.size, _, I4, rfl, q _ hnl⟩
end
end VL

/-! V28: sorted(d.items()), list(d.values()), dict(..). -/
namespace VL
open PySem PySem.Spec L2 PyProof.Rows

section
variable {X : Cx} {W : WX} {b : Bool} {prot : List Nat} {f g : Env' → Out D} {pos : Pos}
theorem tO1' {r : V → Hp → VK → Prop} {h : D → Out D} (P : ∀ F H x dx d Q, Le F H → Rep X.K F dx x → h dx = .ok d → (∀ p o F' H', New F H F' H' → H' p = none → Co X.K F' d o → Q (.ref p) (upd H' p o)) → r x H Q) :
    ∀ σ H Q, tO X.K X.mg W b (r1 f h) σ H Q → tR X.K X.mg W b f σ H fun x H1 => r x H1 Q := by
  rintro σ H Q ⟨F, ρ, s, q⟩
  refine ⟨F, ρ, s, on_imp (on_bind q) (fun x ex q => ?_) (fun _ _ _ q => q)⟩
  obtain ⟨d, ed, q⟩ := noX_on q
  intro v1 F1 H1 n1 rx
  have s1 := s.new n1
  refine P _ _ _ _ _ _ s1.bs_le rx ed fun p o F' H' n hp c => ?_
  obtain ⟨F'', n2, l⟩ := s1.bnew n
  exact q p o F'' H' (n1.trans n2) hp (Co.mono l c)
theorem newSide {F H : Hp} {p : Addr} {o : HO} (l : Le F H) (h : H p = none) : New F H F (upd H p o) := ⟨Le.refl _, l.updR (l.none h), fun c u e => by rw [upd_ne (ne_of_none e h)]; exact e, fun _ h => .inl h⟩
def tyDk (x : V) (H : Hp) : Prop := ∃ a kvs, x = .ref a ∧ Rd H a (.dK kvs)
theorem ty_dk : TyOk X "dict" tyDk := by
  intro pins σ H s x v I r ty
  obtain ⟨a, kvs, rfl, hk⟩ := ty
  cases r
  obtain ⟨_, _, vs, _, dd⟩ := dk_rd I.hok hk
  obtain ⟨_, o, _, ho, hx, _⟩ := dd.dictAt
  refine ⟨⟨o, ho, hx.1⟩, fun b e => ?_⟩
  cases e
  exact ⟨o, ho, hx.2.1⟩
theorem mk_kD {K : Fr'} {F : Hp} (q : Key) : Rep K F (keyD q) (kV q) := by
  cases q with
  | inl i => exact mk_int
  | inr x => exact mk_str
theorem reps_items {K : Fr'} {F G : Hp} (le : Le F G) : ∀ {xs : List D} {kvs : List (Key × V)} {L : List (Addr × List V)}, RepK K F xs kvs → L.map (·.2) = kvs.map kvV → (∀ z ∈ L, Rd G z.1 (.tup z.2)) → Reps K G xs (L.map fun z => V.ref z.1)
  | [], kvs, L, r, e, _ => by
    rw [repK_nil r] at e
    cases L with
    | nil => exact mk_nil
    | cons z L => cases e
  | x :: xs, kvs, L, r, e, h => by
    obtain ⟨d, q, v, r', rfl, rfl, h1, h2⟩ := repK_cons r
    cases L with
    | nil => cases e
    | cons z L =>
      rw [List.map_cons, List.map_cons] at e
      obtain ⟨e1, e2⟩ := List.cons.inj e
      refine mk_cons ?_ (reps_items le h2 e2 fun y hy => h y (List.mem_cons_of_mem _ hy))
      have hz := h z List.mem_cons_self
      unfold Rep
      refine ⟨z.1, z.2, rfl, .inl hz, ?_⟩
      have e1 : z.2 = [kV q, v] := e1
      rw [e1]
      exact mk_cons (mk_kD q) (mk_cons (Rep.mono le _ _ h1) mk_nil)
def gSortIt : D → Out D
  | .dic xs => if sortOk xs = true then .ok (.lst (xs.mergeSort ltLe)) else .bad
  | _ => .bad
theorem p_sortIt {K : Fr'} : ∀ (F H : Hp) (x : V) (dx d : D) (Q : VK), Le F H → Rep K F dx x → gSortIt dx = .ok d → (∀ p o F' H', New F H F' H' → H' p = none → Co K F' d o → Q (.ref p) (upd H' p o)) →
    tyDk x H ∧ rItemsK x [] H fun v H1 => rSortItK K [v] H1 Q := by
  intro F H x dx d Q l rx e k
  unfold gSortIt at e
  split at e
  · rename_i xs
    split at e
    · rename_i c
      cases e
      obtain ⟨a, kvs, rfl, h1, r1⟩ := rep_dic rx
      refine ⟨⟨a, kvs, rfl, l _ _ h1⟩, a, kvs, rfl, rfl, l _ _ h1, fun p hp => ?_⟩
      have n0 : New F H F (upd H p (L2.DX.itemsO p a)) := newSide l hp
      unfold sortOk at c
      rw [Bool.and_eq_true, Bool.and_eq_true, Bool.or_eq_true] at c
      obtain ⟨c1, c2, c3⟩ := c
      have lay : PyData.canLayAll0 (toPs xs) = true := SeqAt.canLay_of_shaped c3
      have dep : PyData.depth (toP (.lst xs)) ≤ 64 := SeqAt.depth_of_shaped c3
      refine ⟨p, a, kvs, xs, rfl, upd_same, n0.le' _ _ h1, (repK_len r1).symm, ?_, ?_, ?_, fun L nd fr e2 => ?_⟩
      · intro x hx y hy
        obtain ⟨d1, m1, rfl⟩ := mem_toPs hx
        obtain ⟨d2, m2, rfl⟩ := mem_toPs hy
        unfold alikeD at c1
        exact List.all_eq_true.mp (List.all_eq_true.mp c1 d1 m1) d2 m2
      · rcases c2 with c2 | c2
        · refine .inl fun x hx => ?_
          obtain ⟨d1, m1, rfl⟩ := mem_toPs hx
          have h := List.all_eq_true.mp c2 d1 m1
          unfold isTN at h
          split at h
          · exact ⟨_, _, rfl⟩
          · cases h
        · refine .inr fun x hx => ?_
          obtain ⟨d1, m1, rfl⟩ := mem_toPs hx
          have h := List.all_eq_true.mp c2 d1 m1
          cases d1 <;> first | (cases h; done) | exact ⟨fun z => (nomatch z), fun _ z => (nomatch z)⟩
      · intro d1 m1
        have h2 := depth_mem m1
        have h3 : PyData.depth (toP (.lst xs)) = PyData.depthAll (toPs xs) + 1 := by
          show PyData.depth (.list (toPs xs)) = _
          simp only [PyData.depth]
        omega
      · have n1 := layT_new (F := F) (H := upd H p (L2.DX.itemsO p a)) n0.le' nd fr
        have fF : ∀ z ∈ L, F z.1 = none := fun z hz => n0.le'.none (fr z hz)
        have rr : Reps K (layT F L) xs (L.map fun z => V.ref z.1) := reps_items n1.le r1 e2 fun z hz => .inl (layT_at nd z hz)
        refine ⟨reps_dp n1.le' _ _ lay rr, fun l' hl => k l' _ _ _ (n0.trans n1) hl ⟨_, rfl, ?_⟩⟩
        have h := reps_of_pairs (K := K) (F := layT F L) (zs := ((L.map fun z => V.ref z.1).zip xs).mergeSort (PySem.W.dataLe false fun z : V × D => toP z.2)) fun z hz => zip_rep rr z ((List.mergeSort_perm _ _).mem_iff.mp hz)
        have e2 : (((L.map fun z => V.ref z.1).zip xs).mergeSort (PySem.W.dataLe false fun z : V × D => toP z.2)).map (·.2) = xs.mergeSort ltLe := by
          rw [List.map_mergeSort (s := ltLe)]
          · rw [List.map_snd_zip (by rw [reps_len rr]; exact Nat.le_refl _)]
          · intro x _ y _
            rfl
        rw [e2] at h
        exact h
    · cases e
  · cases e
/-- sorted(e.items()) -/
theorem SO.sortIt {e : Expr} {n : Str} {np apos cpos : Pos} (hc : X.calm = true) (hu : X.A.units + 200 < cLine) (hg : Gl X n) (hm : X.mg n = none) (hv : bootBuiltins n = some (.builtin "sorted")) (he : SR b X W e f) (hn : n ≠ "__name__" := by decide) (hdb : (n == ("__debug__" : Str)) = false := by decide)
    (hbase : attributeBase e "items" X.env (eval e X.env) = eval e X.env := by rfl) (hline : (apos.endLine == cpos.line) = true := by rfl)
    (hs : starEach [.Call (.Attribute e "items" apos) [] [] cpos] X.env = (false, eval (.Call (.Attribute e "items" apos) [] [] cpos) X.env) :: starEach [] X.env := by rfl) (hpl : (backTo pos (starEach [] X.env)).any (·.1) = false := by rfl) :
    SO b X W (.Call (.Name n np) [.Call (.Attribute e "items" apos) [] [] cpos] [] pos) (r1 f gSortIt) :=
  SO.imp (pe_callB (cr_sortItK hc hu) hg hm hv (pa_cons (pe_mG0 ty_dk PySem.F.plainAttrs_dict PySem.F.slot_dict_items rfl mt_itemsK he.pe hbase hline) pa_nil hs) hn hdb hs hpl)
    (tO1' (r := fun x H Q => tyDk x H ∧ rItemsK x [] H fun v H1 => rSortItK X.K [v] H1 Q) p_sortIt)
end
end VL

/-! V29: dicts compared; list(d.values()); dict(..); update. -/
namespace VL
open PySem PySem.Spec L2 PyProof.Rows

def valsOk (xs : List D) : Bool := xs.all fun p => match p with
  | .tup [_, d] => SeqAt.shaped (toP d)
  | _ => false
def hitD (ys : List D) (p : D) : Bool := match p with
  | .tup [k, d] => match lookD ys k with
    | some e => PyData.eqv (toP d) (toP e)
    | none => false
  | _ => false
def eqK (xs ys : List D) : Bool := xs.length == ys.length && xs.all (hitD ys)
section
variable {X : Cx}
theorem valsOk_cons {x : D} {xs : List D} (h : valsOk (x :: xs) = true) : valsOk xs = true := (Bool.and_eq_true_iff.mp h).2
theorem look_shaped {j e : D} : ∀ {xs : List D}, valsOk xs = true → lookD xs j = some e → SeqAt.shaped (toP e) = true
  | [], _, h => by cases h
  | x :: xs, c, h => by
    have c0 := (Bool.and_eq_true_iff.mp c).1
    have c1 := valsOk_cons c
    unfold lookD at h
    split at h
    · rename_i y ys k d r j' he
      cases he
      split at h
      · cases h
        exact c0
      · exact look_shaped c1 h
    · cases h
theorem hits_ok {pins : List (Addr × Obj)} {σ : L2.St} {H F : Hp} {s : Shared} {A : Around} (I : Inv X pins σ H s) (l : Le F H) (hu : A.in1.units + 64 < cLine) {ys : List D} {ls : List (Key × V)} {vb : List (Key × Value)} (ry : RepK X.K F ys ls) (rb : KV ls vb) (cy : valsOk ys = true) :
    ∀ {xs : List D} {ks : List (Key × V)} {va : List (Key × Value)}, RepK X.K F xs ks → KV ks va → valsOk xs = true → PySem.W.KeqHits A.in1 s vb va (xs.all (hitD ys))
  | [], ks, va, r, ra, _ => by
    rw [repK_nil r] at ra
    cases ra
    exact .nil
  | x :: xs, ks, va, r, ra, c => by
    obtain ⟨d, q, v, r', rfl, rfl, h1, h2⟩ := repK_cons r
    cases ra with
    | @cons a b as bs h t =>
      obtain ⟨k, u⟩ := b
      obtain ⟨e1, e2⟩ := h
      have e1 : q = k := e1
      subst e1
      have c0 : SeqAt.shaped (toP d) = true := (Bool.and_eq_true_iff.mp c).1
      have ih := hits_ok I l hu ry rb cy h2 t (valsOk_cons c)
      rw [List.all_cons]
      unfold hitD
      dsimp only
      cases hl : lookD ys (keyD q) with
      | none =>
        have hv := (lookD_ok ry (j := q)).2 hl
        have ho : RelO (valV ls q) (valueAt vb q) := rb.val q
        rw [hv] at ho
        have hn : valueAt vb q = none := by
          cases hh : valueAt vb q with
          | none => rfl
          | some z =>
            rw [hh] at ho
            exact ho.elim
        exact .miss hn
      | some e =>
        obtain ⟨v2, hv, rv⟩ := (lookD_ok ry (j := q)).1 _ hl
        have ho : RelO (valV ls q) (valueAt vb q) := rb.val q
        rw [hv] at ho
        obtain ⟨y, hy, r3⟩ := ho.some_of
        have ce := look_shaped cy hl
        obtain ⟨as, r1⟩ := Dp.reads I _ _ _ (rep_dp l _ _ (SeqAt.canLay_of_shaped c0) h1) e2
        obtain ⟨bs, r2⟩ := Dp.reads I _ _ _ (rep_dp l _ _ (SeqAt.canLay_of_shaped ce) rv) r3
        exact .hit hy (PySem.W.keq_at r1 r2 c0 ce hu) ih
def rEqK (K : Fr') (neg : Bool) : R2 := fun x y H Q => ∃ F a c ks ls xs ys, Le F H ∧ x = .ref a ∧ y = .ref c ∧ Rd H a (.dK ks) ∧ Rd H c (.dK ls) ∧ RepK K F xs ks ∧ RepK K F ys ls ∧ valsOk xs = true ∧ valsOk ys = true ∧ Q (.bl (if neg then !eqK xs ys else eqK xs ys)) H
theorem len_beq {α β γ δ : Type} {a : List α} {b : List β} {c : List γ} {d : List δ} (h1 : a.length = c.length) (h2 : b.length = d.length) : (a.length == b.length) = (c.length == d.length) := by rw [h1, h2]
theorem op_eqK1 (hu : X.A.units + 200 < cLine) : OpR X (compareOp .Eq) (rEqK X.K false) := by
  intro pins s σ H x y v u Q I rx ry h
  obtain ⟨F, a, c, ks, ls, xs, ys, l, rfl, rfl, ea, ec, ra, rc, oa, oc, q⟩ := h
  obtain rfl : v = Value.ref a := rx
  obtain rfl : u = Value.ref c := ry
  obtain ⟨_, ya, va, qa, da⟩ := dk_rd I.hok ea
  obtain ⟨_, yb, vb, qb, db⟩ := dk_rd I.hok ec
  have hu2 : X.A.in1.units + 64 < cLine := by show X.A.units + 1 + 64 < cLine; omega
  refine PySem.W.keq_eq (knd := mixKind X.prog X.w) ya yb da db (by omega) (fun _ => hits_ok I l hu2 rc qb oc ra qa oa) (fin_bl I q ?_)
  unfold eqK
  rw [if_neg Bool.false_ne_true, len_beq ((repK_len ra).symm.trans qa.length) ((repK_len rc).symm.trans qb.length)]
theorem op_neK1 (hu : X.A.units + 200 < cLine) : OpR X (compareOp .NotEq) (rEqK X.K true) := by
  intro pins s σ H x y v u Q I rx ry h
  obtain ⟨F, a, c, ks, ls, xs, ys, l, rfl, rfl, ea, ec, ra, rc, oa, oc, q⟩ := h
  obtain rfl : v = Value.ref a := rx
  obtain rfl : u = Value.ref c := ry
  obtain ⟨_, ya, va, qa, da⟩ := dk_rd I.hok ea
  obtain ⟨_, yb, vb, qb, db⟩ := dk_rd I.hok ec
  have hu2 : X.A.in1.units + 64 < cLine := by show X.A.units + 1 + 64 < cLine; omega
  refine PySem.W.keq_ne (knd := mixKind X.prog X.w) ya yb da db (by omega) (fun _ => hits_ok I l hu2 rc qb oc ra qa oa) (fin_bl I q ?_)
  unfold eqK
  rw [if_pos rfl, len_beq ((repK_len ra).symm.trans qa.length) ((repK_len rc).symm.trans qb.length)]
def rEqU (K : Fr') : R2 := fun x y H Q => rEqK K false x y H Q ∨ rEqD K x y H Q
def rNeU (K : Fr') : R2 := fun x y H Q => rEqK K true x y H Q ∨ rNeD K x y H Q
theorem op_eqU (hu : X.A.units + 200 < cLine) : OpR X (compareOp .Eq) (rEqU X.K) := OpR.or (op_eqK1 hu) (op_eqD (by omega))
theorem op_neU (hu : X.A.units + 200 < cLine) : OpR X (compareOp .NotEq) (rNeU X.K) := OpR.or (op_neK1 hu) (op_neD (by omega))
def gEqU (x y : D) : Out D := match x, y with
  | .dic xs, .dic ys => if valsOk xs = true ∧ valsOk ys = true then .ok (.bl (eqK xs ys)) else .bad
  | _, _ => gEq x y
def gNeU (x y : D) : Out D := match x, y with
  | .dic xs, .dic ys => if valsOk xs = true ∧ valsOk ys = true then .ok (.bl (!eqK xs ys)) else .bad
  | _, _ => gNe x y
theorem p_eqU {K : Fr'} : Pure2 K (rEqU K) gEqU := by
  intro F H x y dx dy d Q l rx ry e k
  unfold gEqU at e
  split at e
  · split at e
    · rename_i c
      cases e
      obtain ⟨a, ks, rfl, h1, r1⟩ := rep_dic rx
      obtain ⟨a2, ls, rfl, h2, r2⟩ := rep_dic ry
      exact .inl ⟨F, a, a2, ks, ls, _, _, l, rfl, rfl, l _ _ h1, l _ _ h2, r1, r2, c.1, c.2, k _ _ _ (New.refl l) mk_bl⟩
    · cases e
  · exact .inr (pure_eq F H x y _ _ d Q l rx ry e k)
theorem p_neU {K : Fr'} : Pure2 K (rNeU K) gNeU := by
  intro F H x y dx dy d Q l rx ry e k
  unfold gNeU at e
  split at e
  · split at e
    · rename_i c
      cases e
      obtain ⟨a, ks, rfl, h1, r1⟩ := rep_dic rx
      obtain ⟨a2, ls, rfl, h2, r2⟩ := rep_dic ry
      exact .inl ⟨F, a, a2, ks, ls, _, _, l, rfl, rfl, l _ _ h1, l _ _ h2, r1, r2, c.1, c.2, k _ _ _ (New.refl l) mk_bl⟩
    · cases e
  · exact .inr (pure_ne F H x y _ _ d Q l rx ry e k)
/-! ### list(d.values()) -/
theorem kv_vals {kvs : List (Key × V)} {vs : List (Key × Value)} (rel : KV kvs vs) : Vals (kvs.map (·.2)) (vs.map (·.2)) := by
  unfold KV at rel
  induction rel with
  | nil => exact .nil
  | cons h t ih => exact .cons h.2 ih
def valuesO (p d : Addr) : HO := .ext fun h => h.IsValuesView p d
theorem valuesO_ok {P : Program} {w : World} {H : Hp} {h : Heap} {p d : Addr} (e : h.get? p = some { cls := .type "dict_values", data := .fields #[.ref d] }) : ObjOk P w H h p (valuesO p d) :=
  ⟨⟨_, e, rfl, rfl⟩, ⟨_, e⟩, fun h1 h2 x k => let ⟨o, ho, r⟩ := x; ⟨o, k o ho, r⟩⟩
def rValsK : V → List V → Hp → VK → Prop := fun x xs H Q => ∃ (a : Addr) (kvs : List (Key × V)), x = .ref a ∧ xs = [] ∧ Rd H a (.dK kvs) ∧ ∀ p, H p = none → Q (.ref p) (upd H p (valuesO p a))
theorem mt_valsK : MtR X "dict.values" rValsK := by
  intro pins s σ H x xs v us Q I rx rxs h
  obtain ⟨a, kvs, rfl, rfl, ha, q⟩ := h
  cases rx
  cases rxs
  obtain ⟨z, hd, vs, rel, dd⟩ := dk_rd I.hok ha
  refine call_meetsIn PySem.F.slot_dict_values dd.typeIs PySem.F.entry_dict_values (PySem.F.args_dict_values_1 _) (PySem.meets_dict_values (mixKind X.prog X.w) a hd) ⟨⟨vs, dd⟩, ?_⟩
  have hf : H s.heap.objs.size = none := I.hok.fresh (Nat.le_refl _)
  exact ⟨.ref s.heap.objs.size, upd H s.heap.objs.size (valuesO s.heap.objs.size a), I.laid (t' := s.toks) (fun b u e => Heap.get?_push_of_some _ e) (Nat.le_refl _) (valuesO_ok (Heap.get?_push_size _ rfl)), rfl, q _ hf⟩
def rListVl : List V → Hp → VK → Prop := fun vs H Q => ∃ (p a : Addr) (kvs : List (Key × V)), vs = [.ref p] ∧ H p = some (valuesO p a) ∧ Rd H a (.dK kvs) ∧ ∀ l, H l = none → Q (.ref l) (upd H l (.lst (kvs.map (·.2))))
theorem cr_listVl (hc : X.calm = true) : CallR X (.type "list") rListVl := by
  intro pins s σ H xs us Q I r h
  obtain ⟨p, a, kvs, rfl, hp, ha, q⟩ := h
  obtain rfl := Vals.ref1 r
  have view : s.heap.IsValuesView p a := (show ObjOk X.prog X.w H s.heap p (valuesO p a) from I.hok p _ hp).1
  obtain ⟨z, hd, vs, rel, dd⟩ := dk_rd I.hok ha
  obtain ⟨ep, hat⟩ := dd.dictAt
  have l1 : kvs.length = vs.length := Paired.length rel
  refine PySem.W.kdl_call (PySem.W.kdl_values (knd := mixKind X.prog X.w) (kvs := vs) (ep := ep)) (I.ok.hd hc) ⟨view, hat⟩ (by omega) fun h' tk acc c hk hS hacc => ?_
  have hf : H s.heap.objs.size = none := I.hok.fresh (Nat.le_refl _)
  refine ⟨.ref s.heap.objs.size, _, I.laid (o := .lst (kvs.map (·.2))) (t' := tk) hk (Nat.le_refl _) ⟨by rw [List.length_map]; exact z, acc.toList, c, ?_, by simpa using hS⟩, rfl, q _ hf⟩
  have e : acc.toList = vs.map (·.2) := by
    apply List.ext_getElem?
    intro j
    rw [List.getElem?_map]
    cases e : acc.toList[j]? with
    | none =>
      have hj : vs.length ≤ j := by rw [← hacc.1, ← Array.length_toList]; exact List.getElem?_eq_none_iff.mp e
      rw [List.getElem?_eq_none hj]
      rfl
    | some v =>
      obtain ⟨k, e1⟩ := hacc.2 j v (by rw [← Array.getElem?_toList]; exact e)
      rw [e1]
      rfl
  rw [e]
  exact kv_vals rel
end
section
variable {X : Cx} {W : WX} {b : Bool} {prot : List Nat} {f g : Env' → Out D} {pos : Pos}
def gListVl : D → Out D
  | .dic xs => .ok (.lst (valsD xs))
  | _ => .bad
theorem repK_vals {K : Fr'} {F : Hp} : ∀ {xs : List D} {kvs : List (Key × V)}, RepK K F xs kvs → Reps K F (valsD xs) (kvs.map (·.2))
  | [], kvs, h => by
    rw [repK_nil h]
    exact mk_nil
  | x :: xs, kvs, h => by
    obtain ⟨d, q, v, r, rfl, rfl, h1, h2⟩ := repK_cons h
    exact mk_cons h1 (repK_vals h2)
theorem p_listVl {K : Fr'} : ∀ (F H : Hp) (x : V) (dx d : D) (Q : VK), Le F H → Rep K F dx x → gListVl dx = .ok d → (∀ p o F' H', New F H F' H' → H' p = none → Co K F' d o → Q (.ref p) (upd H' p o)) →
    tyDk x H ∧ rValsK x [] H fun v H1 => rListVl [v] H1 Q := by
  intro F H x dx d Q l rx e k
  unfold gListVl at e
  split at e
  · rename_i xs
    cases e
    obtain ⟨a, kvs, rfl, h1, r1⟩ := rep_dic rx
    refine ⟨⟨a, kvs, rfl, l _ _ h1⟩, a, kvs, rfl, rfl, l _ _ h1, fun p hp => ?_⟩
    have n0 : New F H F (upd H p (valuesO p a)) := newSide l hp
    exact ⟨p, a, kvs, rfl, upd_same, n0.le' _ _ h1, fun l' hl => k l' _ _ _ n0 hl ⟨_, rfl, repK_vals r1⟩⟩
  · cases e
/-- list(e.values()) -/
theorem SO.listVl {e : Expr} {n : Str} {np apos cpos : Pos} (hc : X.calm = true) (hg : Gl X n) (hm : X.mg n = none) (hv : bootBuiltins n = some (.type "list")) (he : SR b X W e f) (hn : n ≠ "__name__" := by decide) (hdb : (n == ("__debug__" : Str)) = false := by decide)
    (hbase : attributeBase e "values" X.env (eval e X.env) = eval e X.env := by rfl) (hline : (apos.endLine == cpos.line) = true := by rfl)
    (hs : starEach [.Call (.Attribute e "values" apos) [] [] cpos] X.env = (false, eval (.Call (.Attribute e "values" apos) [] [] cpos) X.env) :: starEach [] X.env := by rfl) (hpl : (backTo pos (starEach [] X.env)).any (·.1) = false := by rfl) :
    SO b X W (.Call (.Name n np) [.Call (.Attribute e "values" apos) [] [] cpos] [] pos) (r1 f gListVl) :=
  SO.imp (pe_callTy (cr_listVl hc) hg hm hv (pa_cons (pe_mG0 ty_dk PySem.F.plainAttrs_dict PySem.F.slot_dict_values rfl mt_valsK he.pe hbase hline) pa_nil hs) hn hdb hs hpl)
    (tO1' (r := fun x H Q => tyDk x H ∧ rValsK x [] H fun v H1 => rListVl [v] H1 Q) p_listVl)
/-! ### dict(..) -/
def mergeD (acc ps : List D) : List D := ps.foldl (fun a p => match p with
  | .tup [k, d] => putD a k d
  | _ => a) acc
def pairOk (p : D) : Bool := match p with
  | .tup [k, _] => (keyQ k).isSome
  | _ => false
def rDict1 : List V → Hp → VK → Prop := fun xs H Q => ∃ (a : Addr) (kvs : List (Key × V)), xs = [.ref a] ∧ Rd H a (.dK kvs) ∧ ∀ p, H p = none → Q (.ref p) (upd H p (.dK kvs))
def rDict2 (K : Fr') : List V → Hp → VK → Prop := fun xs H Q => ∃ (a : Addr) (ps : List Addr) (kvs : List (Key × V)), xs = [.ref a] ∧ SqL K H a (ps.map V.ref) ∧ Paired (fun p kv => SqT K H p [kV kv.1, kv.2]) ps kvs ∧ ∀ p, H p = none → Q (.ref p) (upd H p (.dK (mergeK [] kvs)))
def rDictU (K : Fr') : List V → Hp → VK → Prop := fun xs H Q => rDict1 xs H Q ∨ rDict2 K xs H Q
theorem cr_dictU (hc : X.calm = true) : CallR X (.type "dict") (rDictU X.K) := CallR.or call_dictD (call_dictP hc)
def gDictU : List D → Out D
  | [.dic xs] => .ok (.dic xs)
  | [.lst ps] => if ps.all pairOk = true then .ok (.dic (mergeD [] ps)) else .bad
  | _ => .bad
theorem keyEq_comm (a c : D) : keyEq a c = keyEq c a := by
  unfold keyEq
  cases keyQ a <;> cases keyQ c <;> first | rfl | exact decide_eq_decide.mpr eq_comm
theorem look_put {k j e : D} (hj : keyEq j k = false) : ∀ {xs : List D}, (lookD xs k).isNone = true → (lookD (putD xs j e) k).isNone = true
  | [], _ => by
    show (lookD [.tup [j, e]] k).isNone = true
    unfold lookD
    rw [hj]
    rfl
  | x :: xs, h => by
    by_cases c : ∃ kk d, x = .tup [kk, d]
    · obtain ⟨kk, d, rfl⟩ := c
      unfold lookD at h
      by_cases c2 : keyEq kk k = true
      · rw [if_pos c2] at h
        cases h
      · rw [if_neg c2] at h
        unfold putD
        by_cases c3 : keyEq kk j = true
        · rw [if_pos c3]
          unfold lookD
          rw [if_neg c2]
          exact h
        · rw [if_neg c3]
          unfold lookD
          rw [if_neg c2]
          exact look_put hj h
    · have e0 : putD (x :: xs) j e = [.tup [j, e]] := by
        unfold putD
        split
        · rename_i he
          exact absurd ⟨_, _, (List.cons.inj he).1⟩ c
        · rfl
      rw [e0]
      unfold lookD
      rw [hj]
      rfl
theorem nd_put {j e : D} : ∀ {xs : List D}, ndK xs = true → ndK (putD xs j e) = true
  | [], _ => rfl
  | x :: xs, h => by
    by_cases c : ∃ kk d, x = .tup [kk, d]
    · obtain ⟨kk, d, rfl⟩ := c
      unfold ndK at h
      rw [Bool.and_eq_true] at h
      unfold putD
      by_cases c3 : keyEq kk j = true
      · rw [if_pos c3]
        unfold ndK
        rw [Bool.and_eq_true]
        exact h
      · rw [if_neg c3]
        unfold ndK
        rw [Bool.and_eq_true]
        refine ⟨look_put ?_ h.1, nd_put h.2⟩
        rw [keyEq_comm]
        simpa using c3
    · have e0 : putD (x :: xs) j e = [.tup [j, e]] := by
        unfold putD
        split
        · rename_i he
          exact absurd ⟨_, _, (List.cons.inj he).1⟩ c
        · rfl
      rw [e0]
      rfl
theorem reps_pairs {K : Fr'} {F H : Hp} (l : Le F H) : ∀ {ps : List D} {vs : List V}, Reps K F ps vs → ps.all pairOk = true → ∃ (as : List Addr) (kvs : List (Key × V)), vs = as.map V.ref ∧ Paired (fun p kv => SqT K H p [kV kv.1, kv.2]) as kvs ∧ RepK K F ps kvs
  | [], vs, r, _ => by
    rw [reps_nil r]
    exact ⟨[], [], rfl, .nil, mkK_nil⟩
  | p :: ps, vs, r, c => by
    obtain ⟨v, r', rfl, h1, h2⟩ := reps_cons r
    rw [List.all_cons, Bool.and_eq_true] at c
    obtain ⟨as, kvs, rfl, h3, h4⟩ := reps_pairs l h2 c.2
    have c1 := c.1
    unfold pairOk at c1
    split at c1
    · rename_i k d
      cases hk : keyQ k with
      | none =>
        rw [hk] at c1
        cases c1
      | some q =>
        obtain ⟨a, us, rfl, h5, h6⟩ := rep_tup h1
        obtain ⟨u1, r1, rfl, h7, h8⟩ := reps_cons h6
        obtain ⟨u2, r2, rfl, h9, h10⟩ := reps_cons h8
        obtain rfl := reps_nil h10
        obtain ⟨e1, e2⟩ := rep_key h7 hk
        subst e1 e2
        exact ⟨a :: as, (q, u2) :: kvs, rfl, .cons (l.seqT h5) h3, mkK_cons h9 h4⟩
    · cases c1
theorem mergeD_ok {K : Fr'} {F : Hp} : ∀ {ps : List D} {more : List (Key × V)} {acc : List D} {kvs : List (Key × V)}, RepK K F ps more → ndK acc = true → RepK K F acc kvs → RepK K F (mergeD acc ps) (mergeK kvs more) ∧ ndK (mergeD acc ps) = true
  | [], more, acc, kvs, r, nd, ra => by
    rw [repK_nil r]
    exact ⟨ra, nd⟩
  | p :: ps, more, acc, kvs, r, nd, ra => by
    obtain ⟨d, q, v, r', rfl, rfl, h1, h2⟩ := repK_cons r
    exact mergeD_ok (acc := putD acc (keyD q) d) (kvs := putK kvs q v) h2 (nd_put nd) (putD_ok h1 nd ra)
theorem p_dictU {K : Fr'} : PureON K (rDictU K) gDictU := by
  intro F H xs ds d Q l rx e k
  unfold gDictU at e
  split at e
  · cases e
    obtain ⟨v, rfl, r⟩ := reps1 rx
    obtain ⟨a, kvs, rfl, h1, r1⟩ := rep_dic r
    exact .inl ⟨a, kvs, rfl, l _ _ h1, fun p hp => k p _ hp ⟨_, rfl, r1⟩⟩
  · split at e
    · rename_i ps c
      cases e
      obtain ⟨v, rfl, r⟩ := reps1 rx
      obtain ⟨a, vs, rfl, h1, r1⟩ := rep_lst r
      obtain ⟨as, kvs, rfl, h3, h4⟩ := reps_pairs l r1 c
      exact .inr ⟨a, as, kvs, rfl, l.seqL h1, h3, fun p hp => k p _ hp ⟨_, rfl, (mergeD_ok h4 rfl mkK_nil).1⟩⟩
    · cases e
  · cases e
end
end VL

/-! V30: x.extend(e), x.update(e). -/
namespace VL
open PySem PySem.Spec L2 PyProof.Rows

theorem extend_seq (l it : Addr) {T : String} (hT : T = "list" ∨ T = "tuple") (items items2 : Array Value) (n n2 : Nat) (ob : Obj) (hlong : ¬(!items.isEmpty && Builtin.List.listTooLong (items.size + items2.size)) = true) (hc1 : items.size ≤ sizeLine) (hs2 : items.size + items2.size ≤ sizeLine + 1) :
    Meets (Builtin.«list.extend» ⟨[.ref l, .ref it], []⟩) (fun _ R s => s.heap.get? l = some { cls := .type "list", dict := none, data := .seq items n, slots := #[] } ∧ s.heap.get? it = some ob ∧ ob.cls = .type T ∧ ob.data = .seq items2 n2 ∧ R (.ok (.ret Value.none)) { s with heap := s.heap.update l (Obj.mapSeq fun x => x ++ items2) }) :=
  .of_wp fun prog w A R s h => by
    obtain ⟨hS, ho, hc, hd, h⟩ := h
    show wpAny _ A.in1 (Builtin.List.listExtendWith (.ref l) (.ref it) .none) _ _ s
    unfold Builtin.List.listExtendWith
    refine wpAny_bind (wpAny_typeOf ⟨ob, ho, hc⟩ ?_)
    have h1 : (Builtin.List.listSameRef (.ref l) (.ref it) || Value.type T == Value.type "list" || Value.type T == Value.type "tuple") = true := by
      rcases hT with rfl | rfl <;> simp
    simp only [h1, if_true]
    refine wpAny_bind ?_
    unfold Builtin.List.listItems
    refine wpAny_bind (wpAny_seqItems ho hd (wpAny_pure ?_))
    refine wpAny_bind ?_
    refine wpAny_bind (wpAny_seqItems hS rfl (wpAny_pure ?_))
    rw [if_neg hlong]
    show wpAny _ A.in1 (updateSeq l (· ++ items2) >>= fun _ => ret .none) _ _ s
    refine wpAny_bind (wpAny_updateSeq hS rfl ?_ (hz := hc1) (_hz' := by rw [Array.size_append]; exact hs2))
    exact wpAny_pure ⟨_, rfl, h⟩
section
variable {X : Cx}
def rExtS (K : Fr') : V → List V → Hp → VK → Prop := fun x vs H Q => ∃ l c xs zs, x = .ref l ∧ vs = [.ref c] ∧ H l = some (.lst xs) ∧ (SqL K H c zs ∨ SqT K H c zs) ∧ xs.length + zs.length ≤ sizeLine ∧ Q .non (upd H l (.lst (xs ++ zs)))
theorem mt_extS : MtM X "list.extend" (rExtS X.K) := by
  intro pins s σ H x vs v us Q I rx rv h
  obtain ⟨l, c, xs, zs, rfl, rfl, hH, hB, hz, q⟩ := h
  cases rx
  obtain ⟨u, rfl, ru⟩ := rv.one
  cases ru
  obtain ⟨z, its, n, r, hl, e⟩ := I.lstM hH
  obtain ⟨T, hT, its2, ob, n2, r2, hob, hc, hd, hl2⟩ : ∃ (T : String), (T = "list" ∨ T = "tuple") ∧ ∃ (its2 : List Value) (ob : Obj) (n2 : Nat), Vals zs its2 ∧ s.heap.get? c = some ob ∧ ob.cls = .type T ∧ ob.data = .seq its2.toArray n2 ∧ zs.length = its2.length := by
    rcases hB with hB | hB
    · obtain ⟨its2, r2, ⟨o, n2, ho, hc, _, hd⟩, _⟩ := I.list hB
      exact ⟨_, .inl rfl, its2, o, n2, r2, ho, hc, hd, r2.length⟩
    · obtain ⟨its2, r2, ⟨o, ho, hc, n2, hd⟩, _⟩ := I.tuple hB
      exact ⟨_, .inr rfl, its2, o, n2, r2, ho, hc, hd, r2.length⟩
  have hsz : its.toArray.size + its2.toArray.size ≤ sizeLine := by rw [List.size_toArray, List.size_toArray]; omega
  have hlong : ¬ (!its.toArray.isEmpty && Builtin.List.listTooLong (its.toArray.size + its2.toArray.size)) = true := by
    rw [notLongL hsz, Bool.and_false]
    exact Bool.false_ne_true
  refine call_meets F.slot_list_extend ⟨_, e, rfl⟩ F.entry_list_extend (F.args_list_extend_2 _ _) (extend_seq l c hT its.toArray its2.toArray n n2 ob hlong (by rw [List.size_toArray]; omega) (by omega)) ⟨e, hob, hc, hd, ?_⟩
  refine ⟨.non, _, I.lset (its' := its ++ its2) hH e (by simp) (r.append r2) ?_, rfl, q⟩
  rw [List.length_append]
  omega
def rUpdD : V → List V → Hp → VK → Prop := fun x vs H Q => ∃ a c kvs more, x = .ref a ∧ vs = [.ref c] ∧ a ≠ c ∧ H a = some (.dK kvs) ∧ Rd H c (.dK more) ∧ kvs.length + more.length ≤ sizeLine ∧ Q .non (upd H a (.dK (mergeK kvs more)))
theorem mt_updD : MtM X "dict.update" rUpdD := by
  intro pins s σ H x vs v us Q I rx rv h
  obtain ⟨a, c, kvs, more, rfl, rfl, hne, hH, hB, hz, q⟩ := h
  cases rx
  obtain ⟨u, rfl, ru⟩ := rv.one
  cases ru
  obtain ⟨z, hd, vs, rel, dd⟩ := dk_of I.hok hH
  obtain ⟨z2, hd2, vs2, rel2, dd2⟩ := dk_rd I.hok hB
  have l1 : kvs.length = vs.length := Paired.length rel
  have l2 : more.length = vs2.length := Paired.length rel2
  refine call_meetsIn PySem.F.slot_dict_update dd.typeIs PySem.F.entry_dict_update (PySem.F.args_dict_update_2 _ _) (meets_dict_update (mixKind X.prog X.w) a c hne hd2) ⟨vs, vs2, dd, dd2, by omega, fun h' d1 d2 sb => ?_⟩
  have hm : (mergeK kvs more).length ≤ sizeLine := Nat.le_trans (length_mergeK more kvs) hz
  have he : ∃ q, h'.get? a = some q := let ⟨q, _, _, hq, _⟩ := d1; ⟨q, hq⟩
  exact ⟨.non, _, d_write (t' := s.toks) I (by rw [hH]; exact True.intro) sb he (dk_new hm hd (KV.merge rel2 rel) d1), rfl, q⟩
end
section
variable {X : Cx} {W : WX} {prot : List Nat} {mf : Env' → Out (D × Env')} {e : Expr} {pos : Pos}
def sqD : D → Option (List D)
  | .lst zs => some zs
  | .tup zs => some zs
  | _ => none
theorem sqD_ok {K : Fr'} {F : Hp} {d : D} {zs : List D} {v : V} (h : sqD d = some zs) (r : Rep K F d v) : ∃ a vs, v = .ref a ∧ (SqL K F a vs ∨ SqT K F a vs) ∧ Reps K F zs vs := by
  unfold sqD at h
  split at h
  · cases h
    obtain ⟨a, vs, e, h1, h2⟩ := rep_lst r
    exact ⟨a, vs, e, .inl h1, h2⟩
  · cases h
    obtain ⟨a, vs, e, h1, h2⟩ := rep_tup r
    exact ⟨a, vs, e, .inr h1, h2⟩
  · cases h
def sExt (i : Nat) (mf : Env' → Out (D × Env')) : Env' → Out (Fl × Env') := fun ρ => match ρ[i]? with
  | some (.own (.lst _)) => (mf ρ).bind fun y => match y.2[i]?, sqD y.1 with
    | some (.own (.lst xs)), some zs => if xs.length + zs.length ≤ sizeLine then .ok (.nx, y.2.set i (.own (.lst (xs ++ zs)))) else .bad
    | _, _ => .bad
  | _ => .bad
theorem S1.extS (i : Nat) {x : Str} {p0 apos cpos : Pos} (he : SM X W e mf) (hN : X.N[i]? = some x := by rfl) (hv : Vis X.env.scope x := by first | exact Or.inl rfl | exact Or.inr (Or.inl rfl) | exact Or.inr (Or.inr rfl)) (hd : (x == ("__debug__" : Str)) = false := by decide)
    (hcd : (x == ("__classdict__" : Str)) = false := by decide)
    (hbase : attributeBase (.Name x p0) "extend" X.env (eval (.Name x p0) X.env) = eval (.Name x p0) X.env := by rfl)
    (hfew : ((backTo cpos (starEach [e] X.env)).all (fun x => !x.1) && (backToKw cpos (keywordEach [] X.env)).all (fun x => x.1.isSome)
      && decide ([e].length + ([] : List Keyword).length + (if ([] : List Keyword).isEmpty then 0 else 1) < 30)) = true := by rfl)
    (hline : (apos.endLine == cpos.line) = true := by rfl) (hs : starEach [e] X.env = (false, eval e X.env) :: starEach [] X.env := by rfl) (hplain : (backTo cpos (starEach [] X.env)).any (·.1) = false := by rfl)
    (hsw : swapsWith (.Call (.Attribute (.Name x p0) "extend" apos) [e] [] cpos) none pos.line X.env = pure false := by rfl) :
    S1 X W prot (.Expr (.Call (.Attribute (.Name x p0) "extend" apos) [e] [] cpos) pos) (sExt i mf) := by
  refine ⟨PS.imp (ps_expr (pe_bm PySem.F.plainAttrs_list PySem.F.slot_list_extend PySem.F.type_list_extend mt_extS (pe_var hN hv hd hcd) (pa_cons he.pe pa_nil hs) hbase hfew hline hs hplain) hsw) ?_⟩
  rintro D0 σ H ⟨F, ρ, s, q⟩
  unfold sExt at q
  split at q
  · rename_i xs0 hx
    obtain ⟨p, vs0, e1, ho, r0⟩ := own_lst s hx
    refine ⟨_, e1, .inl ⟨rfl, vs0, .inl (.inl ho)⟩, F, ρ, s, on_imp (on_bind q) (fun y ey q w F1 H1 s1 r1 p1 => ?_) fun _ _ _ q => q⟩
    split at q
    · rename_i xs zs hx1 hz
      obtain ⟨p', vs, e2, ho1, r2⟩ := own_lst s1 hx1
      rw [e1] at e2
      cases e2
      split at q
      · rename_i hl
        obtain ⟨c, us, rfl, h3, h4⟩ := sqD_ok hz r1
        have c2 : Co X.K F1 (.lst (xs ++ zs)) (.lst (vs ++ us)) := ⟨_, rfl, reps_app r2 h4⟩
        exact ⟨p, c, vs, us, rfl, rfl, ho1, h3.imp s1.le.seqL s1.le.seqT, by rw [reps_len r2, reps_len h4]; exact hl, q σ F1 _ (s1.updO hx1 e1 c2) (p1.trans (Stp.updO s1 hx1 e1)) (Fix.refl _ _)⟩
      · exact q.elim
    · exact q.elim
  · exact q.elim
def sUpd (i : Nat) (mf : Env' → Out (D × Env')) : Env' → Out (Fl × Env') := fun ρ => match ρ[i]? with
  | some (.own (.dic _)) => (mf ρ).bind fun y => match y.2[i]?, y.1 with
    | some (.own (.dic xs)), .dic zs => if xs.length + zs.length ≤ sizeLine ∧ ndK xs = true then .ok (.nx, y.2.set i (.own (.dic (mergeD xs zs)))) else .bad
    | _, _ => .bad
  | _ => .bad
theorem own_dic {K : Fr'} {F H : Hp} {σ : L2.St} {ρ : Env'} (s : St2 K F H σ ρ) {i : Nat} {xs : List D} (h : ρ[i]? = some (Cell.own (.dic xs))) : ∃ p kvs, σ[i]? = some (some (V.ref p)) ∧ H p = some (.dK kvs) ∧ F p = none ∧ RepK K F xs kvs := by
  obtain ⟨p, o, e, ho, hn, vs, rfl, r⟩ := s.own i _ h
  exact ⟨p, vs, e, ho, hn, r⟩
theorem S1.updS (i : Nat) {x : Str} {p0 apos cpos : Pos} (he : SM X W e mf) (hN : X.N[i]? = some x := by rfl) (hv : Vis X.env.scope x := by first | exact Or.inl rfl | exact Or.inr (Or.inl rfl) | exact Or.inr (Or.inr rfl)) (hd : (x == ("__debug__" : Str)) = false := by decide)
    (hcd : (x == ("__classdict__" : Str)) = false := by decide)
    (hbase : attributeBase (.Name x p0) "update" X.env (eval (.Name x p0) X.env) = eval (.Name x p0) X.env := by rfl)
    (hfew : ((backTo cpos (starEach [e] X.env)).all (fun x => !x.1) && (backToKw cpos (keywordEach [] X.env)).all (fun x => x.1.isSome)
      && decide ([e].length + ([] : List Keyword).length + (if ([] : List Keyword).isEmpty then 0 else 1) < 30)) = true := by rfl)
    (hline : (apos.endLine == cpos.line) = true := by rfl) (hs : starEach [e] X.env = (false, eval e X.env) :: starEach [] X.env := by rfl) (hplain : (backTo cpos (starEach [] X.env)).any (·.1) = false := by rfl)
    (hsw : swapsWith (.Call (.Attribute (.Name x p0) "update" apos) [e] [] cpos) none pos.line X.env = pure false := by rfl) :
    S1 X W prot (.Expr (.Call (.Attribute (.Name x p0) "update" apos) [e] [] cpos) pos) (sUpd i mf) := by
  refine ⟨PS.imp (ps_expr (pe_bm PySem.F.plainAttrs_dict PySem.F.slot_dict_update rfl mt_updD (pe_var hN hv hd hcd) (pa_cons he.pe pa_nil hs) hbase hfew hline hs hplain) hsw) ?_⟩
  rintro D0 σ H ⟨F, ρ, s, q⟩
  unfold sUpd at q
  split at q
  · rename_i xs0 hx
    obtain ⟨p, vs0, e1, ho, hn, r0⟩ := own_dic s hx
    refine ⟨_, e1, .inr (.inr (.inl ⟨rfl, .inl ⟨vs0, ho⟩⟩)), F, ρ, s, on_imp (on_bind q) (fun y ey q w F1 H1 s1 r1 p1 => ?_) fun _ _ _ q => q⟩
    split at q
    · rename_i xs zs hx1 hz
      obtain ⟨p', vs, e2, ho1, hn1, r2⟩ := own_dic s1 hx1
      rw [e1] at e2
      cases e2
      split at q
      · rename_i hl
        rw [hz] at r1
        obtain ⟨c, us, rfl, h3, h4⟩ := rep_dic r1
        have hne : p ≠ c := fun z => by
          subst z
          rcases h3 with h3 | ⟨o, h3⟩ <;> rw [hn1] at h3 <;> cases h3
        have c2 : Co X.K F1 (.dic (mergeD xs zs)) (.dK (mergeK vs us)) := ⟨_, rfl, (mergeD_ok h4 hl.2 r2).1⟩
        exact ⟨p, c, vs, us, rfl, rfl, hne, ho1, s1.le _ _ h3, by rw [repK_len r2, repK_len h4]; exact hl.1, q σ F1 _ (s1.updO hx1 e1 c2) (p1.trans (Stp.updO s1 hx1 e1)) (Fix.refl _ _)⟩
      · exact q.elim
    · exact q.elim
  · exact q.elim
end
end VL

/-! V31: a, b = x, y with plain names. -/
namespace VL
open PySem PySem.Spec L2 PyProof.Rows

section
variable {X : Cx} {W : WX} {prot : List Nat} {f g : Env' → Out D} {a b : Expr} {pos px py pt : Pos} {x y : Str} {kt k2 : Nat} {pt2 : Pos}
def sPar (i j : Nat) (f g : Env' → Out D) (cf cg : D → Cell) : Env' → Out (Fl × Env') := fun ρ => (f ρ).bind fun d => (g ρ).bind fun e => .ok (.nx, (ρ.set i (cf d)).set j (cg e))
theorem st_side {K : Fr'} {F H : Hp} {σ : L2.St} {ρ : Env'} {p : Addr} {o : HO} (s : St2 K F H σ ρ) (hp : H p = none) : St2 K F (upd H p o) σ ρ := s.side (s.le.none hp) fun w => by
  obtain ⟨o, ho⟩ := s.owned_some w
  rw [hp] at ho
  cases ho
theorem S1.parOV (i j : Nat) (hc : X.calm = true) (hN : X.N.Nodup) (ha : SO false X W a f) (hb : SR false X W b g) (hp : i ∉ prot ∧ j ∉ prot := by decide) (hij : i ≠ j := by decide) (hi : X.N[i]? = some x := by rfl) (hj : X.N[j]? = some y := by rfl)
    (hx : X.env.scope.names.lookup x = some .local := by rfl) (hy : X.env.scope.names.lookup y = some .local := by rfl) (hs1 : starEach [a, b] X.env = (false, eval a X.env) :: starEach [b] X.env := by rfl) (hs2 : starEach [b] X.env = (false, eval b X.env) :: starEach [] X.env := by rfl)
    (hw : swappedStores [.Tuple [.Name x px, .Name y py] kt pt] (.Tuple [a, b] k2 pt2) X.env = pure (some [x, y]) := by rfl) (hs : swapsWithSole [.Tuple [.Name x px, .Name y py] kt pt] (.Tuple [a, b] k2 pt2) pos.line X.env = pure false := by rfl) :
    S1 X W prot (.Assign [.Tuple [.Name x px, .Name y py] kt pt] (.Tuple [a, b] k2 pt2) pos) (sPar i j f g .own .val) := by
  refine ⟨PS.imp (ps_par hc hN hi hj hij hx hy (pa_cons ha.pe (pa_cons hb.pe pa_nil hs2) hs1) hw hs) ?_⟩
  rintro D0 σ H ⟨F, ρ, s, q⟩
  refine ⟨F, ρ, s, on_imp (on_bind q) (fun d ed q p o F1 H1 n1 hp1 c => ?_) fun _ _ _ q => q⟩
  have s1 := s.new n1
  have s1' := st_side (o := o) s1 hp1
  have n1' : New F H F1 (upd H1 p o) := n1.trans (newSide s1.le hp1)
  refine ⟨F1, ρ, s1', on_new n1' (on_bind q) fun e ee q v F2 H2 n2 r => ⟨.ref p, v, rfl, ?_⟩⟩
  have sA := s1.setO hp1 c i
  have sB := sA.new n2
  exact q _ F2 H2 (sB.setV r j) ((((n1.stp σ ρ).trans (Stp.setO s1 hp1 i)).trans (n2.stp _ _)).trans (Stp.setV j)) ((Fix.set hp.1).trans (Fix.set hp.2))
theorem S1.parOO (i j : Nat) (hc : X.calm = true) (hN : X.N.Nodup) (ha : SO false X W a f) (hb : SO false X W b g) (hp : i ∉ prot ∧ j ∉ prot := by decide) (hij : i ≠ j := by decide) (hi : X.N[i]? = some x := by rfl) (hj : X.N[j]? = some y := by rfl)
    (hx : X.env.scope.names.lookup x = some .local := by rfl) (hy : X.env.scope.names.lookup y = some .local := by rfl) (hs1 : starEach [a, b] X.env = (false, eval a X.env) :: starEach [b] X.env := by rfl) (hs2 : starEach [b] X.env = (false, eval b X.env) :: starEach [] X.env := by rfl)
    (hw : swappedStores [.Tuple [.Name x px, .Name y py] kt pt] (.Tuple [a, b] k2 pt2) X.env = pure (some [x, y]) := by rfl) (hs : swapsWithSole [.Tuple [.Name x px, .Name y py] kt pt] (.Tuple [a, b] k2 pt2) pos.line X.env = pure false := by rfl) :
    S1 X W prot (.Assign [.Tuple [.Name x px, .Name y py] kt pt] (.Tuple [a, b] k2 pt2) pos) (sPar i j f g .own .own) := by
  refine ⟨PS.imp (ps_par hc hN hi hj hij hx hy (pa_cons ha.pe (pa_cons hb.pe pa_nil hs2) hs1) hw hs) ?_⟩
  rintro D0 σ H ⟨F, ρ, s, q⟩
  refine ⟨F, ρ, s, on_imp (on_bind q) (fun d ed q p o F1 H1 n1 hp1 c => ?_) fun _ _ _ q => q⟩
  have s1 := s.new n1
  have s1' := st_side (o := o) s1 hp1
  have n1' : New F H F1 (upd H1 p o) := n1.trans (newSide s1.le hp1)
  refine ⟨F1, ρ, s1', on_new n1' (on_bind q) fun e ee q p2 o2 F2 H2 n2 hp2 c2 => ⟨.ref p, .ref p2, rfl, ?_⟩⟩
  have sA := s1.setO hp1 c i
  have sB := sA.new n2
  exact q _ F2 _ (sB.setO hp2 c2 j) ((((n1.stp σ ρ).trans (Stp.setO s1 hp1 i)).trans (n2.stp _ _)).trans (Stp.setO sB hp2 j)) ((Fix.set hp.1).trans (Fix.set hp.2))
theorem S1.parVO (i j : Nat) (hc : X.calm = true) (hN : X.N.Nodup) (ha : SR false X W a f) (hb : SO false X W b g) (hp : i ∉ prot ∧ j ∉ prot := by decide) (hij : i ≠ j := by decide) (hi : X.N[i]? = some x := by rfl) (hj : X.N[j]? = some y := by rfl)
    (hx : X.env.scope.names.lookup x = some .local := by rfl) (hy : X.env.scope.names.lookup y = some .local := by rfl) (hs1 : starEach [a, b] X.env = (false, eval a X.env) :: starEach [b] X.env := by rfl) (hs2 : starEach [b] X.env = (false, eval b X.env) :: starEach [] X.env := by rfl)
    (hw : swappedStores [.Tuple [.Name x px, .Name y py] kt pt] (.Tuple [a, b] k2 pt2) X.env = pure (some [x, y]) := by rfl) (hs : swapsWithSole [.Tuple [.Name x px, .Name y py] kt pt] (.Tuple [a, b] k2 pt2) pos.line X.env = pure false := by rfl) :
    S1 X W prot (.Assign [.Tuple [.Name x px, .Name y py] kt pt] (.Tuple [a, b] k2 pt2) pos) (sPar i j f g .val .own) := by
  refine ⟨PS.imp (ps_par hc hN hi hj hij hx hy (pa_cons ha.pe (pa_cons hb.pe pa_nil hs2) hs1) hw hs) ?_⟩
  rintro D0 σ H ⟨F, ρ, s, q⟩
  refine ⟨F, ρ, s, on_imp (on_bind q) (fun d ed q v F1 H1 n1 r => ?_) fun _ _ _ q => q⟩
  have s1 := s.new n1
  refine ⟨F1, ρ, s1, on_new n1 (on_bind q) fun e ee q p2 o2 F2 H2 n2 hp2 c2 => ⟨v, .ref p2, rfl, ?_⟩⟩
  have sA := s1.setV r i
  have sB := sA.new n2
  exact q _ F2 _ (sB.setO hp2 c2 j) ((((n1.stp σ ρ).trans (Stp.setV i)).trans (n2.stp _ _)).trans (Stp.setO sB hp2 j)) ((Fix.set hp.1).trans (Fix.set hp.2))
theorem S1.parVV (i j : Nat) (hc : X.calm = true) (hN : X.N.Nodup) (ha : SR false X W a f) (hb : SR false X W b g) (hp : i ∉ prot ∧ j ∉ prot := by decide) (hij : i ≠ j := by decide) (hi : X.N[i]? = some x := by rfl) (hj : X.N[j]? = some y := by rfl)
    (hx : X.env.scope.names.lookup x = some .local := by rfl) (hy : X.env.scope.names.lookup y = some .local := by rfl) (hs1 : starEach [a, b] X.env = (false, eval a X.env) :: starEach [b] X.env := by rfl) (hs2 : starEach [b] X.env = (false, eval b X.env) :: starEach [] X.env := by rfl)
    (hw : swappedStores [.Tuple [.Name x px, .Name y py] kt pt] (.Tuple [a, b] k2 pt2) X.env = pure (some [x, y]) := by rfl) (hs : swapsWithSole [.Tuple [.Name x px, .Name y py] kt pt] (.Tuple [a, b] k2 pt2) pos.line X.env = pure false := by rfl) :
    S1 X W prot (.Assign [.Tuple [.Name x px, .Name y py] kt pt] (.Tuple [a, b] k2 pt2) pos) (sPar i j f g .val .val) := by
  refine ⟨PS.imp (ps_par hc hN hi hj hij hx hy (pa_cons ha.pe (pa_cons hb.pe pa_nil hs2) hs1) hw hs) ?_⟩
  rintro D0 σ H ⟨F, ρ, s, q⟩
  refine ⟨F, ρ, s, on_imp (on_bind q) (fun d ed q v F1 H1 n1 r => ?_) fun _ _ _ q => q⟩
  have s1 := s.new n1
  refine ⟨F1, ρ, s1, on_new n1 (on_bind q) fun e ee q v2 F2 H2 n2 r2 => ⟨v, v2, rfl, ?_⟩⟩
  have sA := s1.setV r i
  have sB := sA.new n2
  exact q _ F2 _ (sB.setV r2 j) ((((n1.stp σ ρ).trans (Stp.setV i)).trans (n2.stp _ _)).trans (Stp.setV j)) ((Fix.set hp.1).trans (Fix.set hp.2))
end
end VL

/-! V32: for x in d, d a frozen dict in a name. -/
namespace VL
open PySem PySem.Spec L2 PyProof.Rows

section
variable {X : Cx} {W : WX} {prot sl : List Nat} {tg : Expr} {body : List Stmt} {g : D → Env' → Out Env'} {f : Env' → Out (Fl × Env')} {pos : Pos}
abbrev NoE : Str → List D → Prop := fun _ _ => False
/-- the turns of a loop that raises nothing -/
theorem for_core {D0 : Ends} {σ : L2.St} {F H : Hp} {ρ : Env'} {J : It} {xs : List D} (s : St2 X.K F H σ ρ) (it : ItOk X.K F H J xs) (dj : ∀ i, i ∈ prot → i ∉ sl)
    (q : (forL g f xs ρ).on (fun p => ∀ σ' F' H', St2 X.K F' H' σ' p.2 → Stp σ ρ F H σ' p.2 F' H' → Fix prot σ σ' → EndsF X.K D0 σ' F' H' p.1) NoE) :
    ∃ W' : Nat → Nat → L2.St → Hp → Prop, (∃ m, W' 0 m σ H) ∧ ∀ i m σ H, W' i m σ H →
      (J.stop i H ∧ D0.nx σ H) ∨ (J.go i H ∧ ∃ N : L2.St → Hp → Prop, (∀ σ' H', N σ' H' → ∃ m', m' < m ∧ W' (i + 1) m' σ' H') ∧ ∀ x H', J.yld i H x H' → gM X.K sl g x σ H' fun σ2 H2 => tS X.K X.mg W prot f { D0 with nx := N, ct := N, bk := D0.nx } σ2 H2) := by
  let PP : Fl × Env' → Prop := fun p => ∀ σ' F' H', St2 X.K F' H' σ' p.2 → Stp σ ρ F H σ' p.2 F' H' → Fix prot σ σ' → EndsF X.K D0 σ' F' H' p.1
  refine ⟨fun i m σ1 H1 => m = xs.length - i ∧ i ≤ xs.length ∧ ∃ F1 ρ1, St2 X.K F1 H1 σ1 ρ1 ∧ Stp σ ρ F H σ1 ρ1 F1 H1 ∧ Fix prot σ σ1 ∧ Le F F1 ∧ Kept F H H1 ∧ (forL g f (xs.drop i) ρ1).on PP NoE,
    ⟨xs.length, by omega, Nat.zero_le _, F, ρ, s, Stp.refl _ _ _ _, Fix.refl _ _, Le.refl _, fun _ _ _ h => h, q⟩, ?_⟩
  rintro i m σ1 H1 ⟨rfl, hi, F1, ρ1, s1, p1, fx1, l1, k1, q1⟩
  by_cases hlt : i < xs.length
  · rw [drop_cons hlt] at q1
    refine .inr ⟨it.go F1 H1 i l1 s1.le k1 hlt, fun σ2 H2 => i + 1 ≤ xs.length ∧ ∃ F2 ρ2, St2 X.K F2 H2 σ2 ρ2 ∧ Stp σ ρ F H σ2 ρ2 F2 H2 ∧ Fix prot σ σ2 ∧ Le F F2 ∧ Kept F H H2 ∧ (forL g f (xs.drop (i + 1)) ρ2).on PP NoE,
      fun σ2 H2 h2 => ⟨xs.length - (i + 1), by omega, rfl, h2⟩, fun v H2 hy => ?_⟩
    obtain ⟨F2, n2, r2⟩ := it.yld F1 H1 i xs[i] v H2 l1 s1.le k1 (List.getElem?_eq_getElem hlt) hy
    have s2 := s1.new n2
    obtain ⟨ρ3, e3, q3⟩ := noX_on (on_bind q1)
    refine ⟨F2, ρ1, _, s2, r2, ?_⟩
    rw [e3]
    intro σ3 s3 o3 w3
    have p3 : Stp σ1 ρ1 F1 H1 σ3 ρ3 F2 H2 := (n2.stp σ1 ρ1).trans ⟨Le.refl _, fun _ _ h _ => h, fun _ h => .inl h, fun b h => .inl (w3 b h), fun _ h => h⟩
    have fx3 : Fix prot σ σ3 := fx1.trans (o3.fix dj)
    have k3 : Kept F H H2 := Stp.kept s1 l1 k1 (n2.stp σ1 ρ1)
    refine ⟨F2, ρ3, s3, on_imp (on_bind q3) (fun p ep q σ4 F4 H4 s4 p4 fx4 => ?_) fun _ _ _ q => q.elim⟩
    obtain ⟨fl, ρ4⟩ := p
    have p04 := (p1.trans p3).trans p4
    have k4 : Kept F H H4 := Stp.kept s3 (l1.trans n2.le) k3 p4
    have l4 : Le F F4 := (l1.trans n2.le).trans p4.le
    cases fl with
    | nx => exact ⟨hlt, F4, ρ4, s4, p04, fx3.trans fx4, l4, k4, q⟩
    | cnt => exact ⟨hlt, F4, ρ4, s4, p04, fx3.trans fx4, l4, k4, q⟩
    | brk => exact q σ4 F4 H4 s4 p04 (fx3.trans fx4)
    | ret d => exact q σ4 F4 H4 s4 p04 (fx3.trans fx4)
    | new d => exact q σ4 F4 H4 s4 p04 (fx3.trans fx4)
  · have e : i = xs.length := by omega
    subst e
    rw [List.drop_length] at q1
    exact .inl ⟨it.stop F1 H1 _ l1 s1.le k1 (Nat.le_refl _), q1 σ1 F1 H1 s1 p1 fx1⟩
theorem PS.or {st : Stmt} {t t' : TS} (h : PS X st t) (h' : PS X st t') : PS X st (fun D0 σ H => t D0 σ H ∨ t' D0 σ H) := ⟨fun pins s σ H D0 I q => q.elim (h.run pins s σ H D0 I) (h'.run pins s σ H D0 I)⟩
theorem upd_comm {G : Hp} {p a : Addr} {o u : HO} (pa : p ≠ a) : upd (upd G p o) a u = upd (upd G a u) p o := by
  funext b
  by_cases z : b = a
  · subst z
    rw [upd_same, upd_ne (Ne.symm pa), upd_same]
  · rw [upd_ne z]
    by_cases y : b = p
    · subst y
      rw [upd_same, upd_same]
    · rw [upd_ne y, upd_ne y, upd_ne z]
def sForK (i : Nat) (g : D → Env' → Out Env') (f : Env' → Out (Fl × Env')) : Env' → Out (Fl × Env') := fun ρ => match ρ[i]? with
  | some (.val (.dic xs)) => noX (forL g f (keysD xs) ρ)
  | _ => .bad
theorem S1.forK (i : Nat) {z : Str} {p : Pos} (hp : PassesOwn (model X.prog X.w) X.A X.env X.xe) (hc : X.calm = true) (hg : SG X sl tg g) (hb : SS X W prot body f) (dj : ∀ i, i ∈ prot → i ∉ sl := by decide) (hNi : X.N[i]? = some z := by rfl) (hv : Vis X.env.scope z := by first | exact Or.inl rfl | exact Or.inr (Or.inl rfl) | exact Or.inr (Or.inr rfl))
    (hd : (z == ("__debug__" : Str)) = false := by decide) (hcd : (z == ("__classdict__" : Str)) = false := by decide) (hs : ∀ x, foldedSetIterable (.Name z p) X.env x = pure x := by intro _; rfl) : S1 X W prot (.For tg (.Name z p) body [] pos) (sForK i g f) := by
  have h := ps_for (pos := pos) hp hc (pi_keys (pe_var (pos := p) hNi hv hd hcd)) hg.pg hb.ps hs
  refine ⟨PS.imp (PS.or (ps_lock h) h) ?_⟩
  rintro D0 σ H ⟨F, ρ, s, q⟩
  unfold sForK at q
  split at q
  · rename_i xs hi
    obtain ⟨pe, ep, q⟩ := noX_on q
    have qq : (forL g f (keysD xs) ρ).on (fun p => ∀ σ' F' H', St2 X.K F' H' σ' p.2 → Stp σ ρ F H σ' p.2 F' H' → Fix prot σ σ' → EndsF X.K D0 σ' F' H' p.1) NoE := by
      rw [ep]
      exact q
    clear q ep
    obtain ⟨v, ev, r⟩ := s.val i _ hi
    obtain ⟨a, kvs, rfl, hF, rk⟩ := rep_dic r
    have hF0 : F a ≠ none := fun z => by rcases hF with h | ⟨o, h⟩ <;> rw [z] at h <;> cases h
    have na : ¬ Owned σ ρ a := fun z => hF0 (s.owned_none z)
    rcases s.le a _ hF with hH | ⟨o, hH⟩
    · refine .inl ⟨a, .dK kvs, hH, True.intro, fun od => ?_⟩
      have hFa : F a = some (.dK kvs) := by
        rcases hF with h | ⟨o, h⟩
        · exact h
        · rcases s.le a _ (.inl h) with w | ⟨o2, w⟩ <;> rw [hH] at w <;> cases w
      have lL : ∀ {G G' : Hp}, Le G G' → (∀ w, Rd G a w → w = .dK kvs) → Le G (upd G' a (.frz od (.dK kvs))) := fun {G G'} l hw b w h => by
        by_cases z : b = a
        · subst z
          rw [hw w h]
          exact .inr ⟨od, upd_same⟩
        · exact Rd.congr (upd_ne z).symm (l b w h)
      have hw : ∀ w, Rd F a w → w = .dK kvs := fun w h => by
        rcases h with h | ⟨o, h⟩
        · rw [hFa] at h
          exact (Option.some.inj h).symm
        · rw [hFa] at h
          cases h
      have sL : St2 X.K F (upd H a (.frz od (.dK kvs))) σ ρ := ⟨lL s.le hw, s.len, s.val, fun j d hj => by
        obtain ⟨p, u, e1, ho, hn, c⟩ := s.own j d hj
        refine ⟨p, u, e1, ?_, hn, c⟩
        rw [upd_ne fun (z : p = a) => na ⟨j, d, hj, by rw [← z]; exact e1⟩]
        exact ho, s.sep⟩
      refine ⟨_, ev, a, od, rfl, .inl ⟨kvs, upd_same, for_core sL (it_keys hF0 upd_same rk) dj (on_imp qq (fun pr epr q σ' F' H' s' p' fx => ?_) fun _ _ _ q => q)⟩⟩
      have hH'a : H' a = some (.frz od (.dK kvs)) := p'.kp _ _ upd_same na
      have na' : ¬ Owned σ' pr.2 a := fun w => (p'.ow a w).elim na fun z => by
        rw [upd_same] at z
        cases z
      have hF'w : ∀ w, Rd F' a w → w = .dK kvs ∨ w = .frz od (.dK kvs) := fun w h => by
        rcases s'.le a w h with h | ⟨o2, h⟩
        · rw [hH'a] at h
          exact .inr (Option.some.inj h).symm
        · rw [hH'a] at h
          cases h
          exact .inl rfl
      have lc : LeC F' (upd F' a (.dK kvs)) := fun b w nz h => by
        by_cases z : b = a
        · subst z
          rcases hF'w w h with h | h
          · rw [h]
            exact .inl upd_same
          · rw [h] at nz
            exact nz.elim
        · exact Rd.congr (upd_ne z).symm h
      have s2 : St2 X.K (upd F' a (.dK kvs)) (upd H' a (.dK kvs)) σ' pr.2 := ⟨fun b w h => by
        by_cases z : b = a
        · subst z
          exact Rd.congr (upd_same.trans upd_same.symm) h
        · exact Rd.congr (upd_ne z).symm (s'.le b w (Rd.congr (upd_ne z) h)), s'.len, fun j d hj => by
        obtain ⟨v, e1, r⟩ := s'.val j d hj
        exact ⟨v, e1, Rep.monoC lc _ _ r⟩, fun j d hj => by
        obtain ⟨p, u, e1, ho, hn, c⟩ := s'.own j d hj
        have pa : p ≠ a := fun z => na' ⟨j, d, hj, by rw [← z]; exact e1⟩
        exact ⟨p, u, e1, by rw [upd_ne pa]; exact ho, by rw [upd_ne pa]; exact hn, Co.monoC lc c⟩, s'.sep⟩
      have p2 : Stp σ ρ F H σ' pr.2 (upd F' a (.dK kvs)) (upd H' a (.dK kvs)) := ⟨fun b w h => by
        by_cases z : b = a
        · subst z
          rw [hw w h]
          exact .inl upd_same
        · exact Rd.congr (upd_ne z).symm (p'.le b w h), fun b u h no => by
        by_cases z : b = a
        · subst z
          rw [upd_same, ← h, hH]
        · rw [upd_ne z]
          exact p'.kp b u (by rw [upd_ne z]; exact h) no, fun b h => by
        by_cases z : b = a
        · subst z
          exact .inl hF0
        · rw [upd_ne z] at h
          rcases p'.fr b h with h | h | h
          · exact .inl h
          · rw [upd_ne z] at h
            exact .inr (.inl h)
          · exact .inr (.inr h), fun b w => by
        rcases p'.ow b w with h | h
        · exact .inl h
        · by_cases z : b = a
          · subst z
            exact absurd w na'
          · rw [upd_ne z] at h
            exact .inr h, fun b h => by
        by_cases z : b = a
        · subst z
          rw [upd_same]
          exact fun z => nomatch z
        · rw [upd_ne z]
          exact p'.al b (by rw [upd_ne z]; exact h)⟩
      have e := q σ' _ _ s2 p2 fx
      obtain ⟨fl, ρ'⟩ := pr
      cases fl with
      | nx => exact ⟨hH'a, e⟩
      | cnt => exact ⟨hH'a, e⟩
      | brk => exact ⟨hH'a, e⟩
      | ret d => exact fun v r => ⟨hH'a, e v (Rep.monoC lc _ _ r)⟩
      | new d =>
        intro p o hp c
        have pa : p ≠ a := fun z => by rw [z, hH'a] at hp; cases hp
        refine ⟨by rw [upd_ne (Ne.symm pa)]; exact hH'a, ?_⟩
        rw [upd_comm pa]
        exact e p o (by rw [upd_ne pa]; exact hp) (Co.monoC lc c)
    · exact .inr ⟨_, ev, a, o, rfl, .inl ⟨kvs, hH, for_core s (it_keys hF0 hH rk) dj qq⟩⟩
  · exact q.elim
end
end VL

/-! V33: {k: v, ..}. -/
namespace VL
open PySem PySem.Spec L2 PyProof.Rows

section
variable {X : Cx} {W : WX} {f g : Env' → Out D} {fs : Env' → Out (List D × List D)} {pos : Pos}
def tPs (K : Fr') (mg : MG) (W : WX) (fs : Env' → Out (List D × List D)) (σ : L2.St) (H : Hp) (Q : List (V × V) → Hp → Prop) : Prop := ∃ F ρ, St2 K F H σ ρ ∧ (fs ρ).on (fun ds => ∀ ps F' H', New F H F' H' → Reps K F' ds.1 (ps.map (·.1)) → Reps K F' ds.2 (ps.map (·.2)) → Q ps H') (ExM mg W σ ρ F H)
structure SPs (X : Cx) (W : WX) (pos : Pos) (keys : List (Option Expr)) (values : List Expr) (fs : Env' → Out (List D × List D)) : Prop where
  ex : ∃ trs, PPs X pos keys values trs ∧ ∀ σ H Q, tPs X.K X.mg W fs σ H Q → tPairs trs σ H Q
def rPs0 : Env' → Out (List D × List D) := fun _ => .ok ([], [])
def rPs1 (f g : Env' → Out D) (fs : Env' → Out (List D × List D)) : Env' → Out (List D × List D) := fun ρ => (f ρ).bind fun k => (g ρ).bind fun v => (fs ρ).bind fun r => .ok (k :: r.1, v :: r.2)
theorem SPs.nil : SPs X W pos [] [] rPs0 := ⟨_, pps_nil, fun σ H Q ⟨F, ρ, s, q⟩ => q [] F H (New.refl s.le) mk_nil mk_nil⟩
theorem SPs.cons {k v : Expr} {ks : List (Option Expr)} {vs : List Expr} (hk : SR false X W k f) (hv : SR false X W v g) (hr : SPs X W pos ks vs fs) : SPs X W pos (some k :: ks) (v :: vs) (rPs1 f g fs) := by
  obtain ⟨trs, hr, kr⟩ := hr
  refine ⟨_, pps_cons hk.pe hv.pe hr, ?_⟩
  rintro σ H Q ⟨F, ρ, s, q⟩
  refine ⟨F, ρ, s, on_imp (on_bind q) (fun d ed q v1 F1 H1 n1 r1 => ?_) fun _ _ _ q => q⟩
  have s1 := s.new n1
  refine ⟨F1, ρ, s1, on_new n1 (on_bind q) fun e ee q v2 F2 H2 n2 r2 => ?_⟩
  have s2 := s1.new n2
  refine kr σ H2 _ ⟨F2, ρ, s2, on_new (n1.trans n2) (on_bind q) fun r er q ps F3 H3 n3 r3 r4 => ?_⟩
  exact q ((v1, v2) :: ps) F3 H3 ((n1.trans n2).trans n3) (mk_cons (Rep.mono (n2.trans n3).le _ _ r1) r3) (mk_cons (Rep.mono n3.le _ _ r2) r4)
def delP (H : Hp) (p : Addr) : Hp := fun b => if b = p then none else H b
def zipD : List D → List D → Option (List D)
  | [], [] => some []
  | k :: ks, v :: vs => if (keyQ k).isSome = true then (zipD ks vs).map fun r => .tup [k, v] :: r else none
  | _, _ => none
theorem zipD_ok {K : Fr'} {F : Hp} : ∀ {ks vs xs : List D} {ps : List (V × V)}, zipD ks vs = some xs → Reps K F ks (ps.map (·.1)) → Reps K F vs (ps.map (·.2)) → ∃ kvs : List (Key × V), ps = kvs.map (fun kv => (kV kv.1, kv.2)) ∧ RepK K F xs kvs ∧ kvs.length = xs.length
  | [], [], xs, ps, h, r, _ => by
    cases h
    have e := reps_nil r
    cases ps with
    | nil => exact ⟨[], rfl, mkK_nil, rfl⟩
    | cons p ps => cases e
  | k :: ks, v :: vs, xs, ps, h, r, r2 => by
    unfold zipD at h
    split at h
    · rename_i c
      cases hz : zipD ks vs with
      | none =>
        rw [hz] at h
        cases h
      | some ys =>
        rw [hz] at h
        cases h
        cases ps with
        | nil =>
          obtain ⟨v1, r', e1, _, _⟩ := reps_cons r
          cases e1
        | cons p ps =>
          obtain ⟨v1, r', e1, h1, h2⟩ := reps_cons r
          obtain ⟨v2, r'', e2, h3, h4⟩ := reps_cons r2
          cases e1
          cases e2
          obtain ⟨kvs, rfl, h5, h6⟩ := zipD_ok hz h2 h4
          obtain ⟨q, hq⟩ := Option.isSome_iff_exists.mp c
          obtain ⟨e3, e4⟩ := rep_key h1 hq
          refine ⟨(q, p.2) :: kvs, ?_, ?_, by rw [List.length_cons, List.length_cons, h6]⟩
          · rw [List.map_cons]
            show p :: _ = (kV q, p.2) :: _
            rw [← e3]
          · rw [e4]
            exact mkK_cons h3 h5
    · cases h
  | [], _ :: _, _, _, h, _, _ => by cases h
  | _ :: _, [], _, _, h, _, _ => by cases h
def rDisp (fs : Env' → Out (List D × List D)) : Env' → Out D := fun ρ => (fs ρ).bind fun r => match zipD r.1 r.2 with
  | some xs => if xs.length ≤ 15 then .ok (.dic (mergeD [] xs)) else .bad
  | none => .bad
theorem SO.disp {keys : List (Option Expr)} {values : List Expr} (h : SPs X W pos keys values fs) (hall : keys.all (·.isSome) = true := by rfl) (hl : keys.length = values.length := by rfl) (h0 : keys ≠ [] := by decide) (h15 : keys.length ≤ 15 := by decide) : SO false X W (.Dict keys values pos) (rDisp fs) := by
  obtain ⟨trs, hp, kr⟩ := h
  refine SO.imp (pe_disp hp hall hl h0 h15) ?_
  rintro σ H Q ⟨F, ρ, s, q⟩ p hp0
  have s' := st_side (o := .dK []) s hp0
  have n1 : New F H F (upd H p (.dK [])) := newSide s.le hp0
  refine kr σ _ _ ⟨F, ρ, s', on_new n1 (on_bind q) fun r er q ps F2 H2 n2 r1 r2 => ?_⟩
  have hH2 : H2 p = some (.dK []) := n2.kp _ _ upd_same
  refine ⟨hH2, ?_⟩
  split at q
  · rename_i xs hz
    obtain ⟨kvs, rfl, rk, hl⟩ := zipD_ok hz r1 r2
    split at q
    · rename_i c
      refine ⟨kvs, rfl, by rw [hl]; exact c, ?_⟩
      have hF : F p = none := s.le.none hp0
      have hF2 : F2 p = none := by
        by_cases e : F2 p = none
        · exact e
        · rcases n2.fr p e with h | h
          · exact absurd hF h
          · rw [upd_same] at h
            cases h
      have e : upd H2 p (.dK (mergeK [] kvs)) = upd (delP H2 p) p (.dK (mergeK [] kvs)) := by
        funext b
        by_cases z : b = p
        · subst z
          rw [upd_same, upd_same]
        · rw [upd_ne z, upd_ne z]
          unfold delP
          rw [if_neg z]
      rw [e]
      have old : ∀ b, b ≠ p → delP H2 p b = H2 b := fun b z => by
        unfold delP
        rw [if_neg z]
      refine q p _ F2 (delP H2 p) ⟨n2.le, fun b w h => ?_, fun b u h => ?_, fun b h => ?_⟩ (by unfold delP; rw [if_pos rfl]) ⟨_, rfl, (mergeD_ok rk rfl mkK_nil).1⟩
      · by_cases z : b = p
        · subst z
          rcases h with h | ⟨o, h⟩ <;> rw [hF2] at h <;> cases h
        · exact Rd.congr (old b z).symm (n2.le' b w h)
      · have z : b ≠ p := fun z => by rw [z, hp0] at h; cases h
        rw [old b z]
        exact n2.kp b u (by rw [upd_ne z]; exact h)
      · by_cases z : b = p
        · subst z
          exact absurd hF2 h
        · rcases n2.fr b h with h | h
          · exact .inl h
          · rw [upd_ne z] at h
            exact .inr h
    · exact q.elim
  · exact q.elim
end
end VL

/-! V34: a, b = a list. -/
namespace VL
open PySem PySem.Spec L2 PyProof.Rows

section
variable {prog : Program} {w : World} {A : Around} {E : Value → Shared → Prop}
theorem draw_list {it t : Addr} {items : Array Value} (hne : t ≠ it) : ∀ (n i : Nat) (s : Shared) (Q : List Value → Shared → Prop), s.heap.IsListIter it t i → s.heap.IsList t items → i + n ≤ items.size →
    (∀ h', h'.IsListIter it t (i + n) → Heap.SameBut it s.heap h' → Q ((items.toList.drop i).take n) { s with heap := h' }) → wpAny (model prog w) A (draw (.ref it) n) Q E s
  | 0, i, s, Q, hit, _, _, hQ => by
    show wpAny _ _ (pure []) Q E s
    exact wpAny_pure (by simpa using hQ s.heap hit (Heap.SameBut.refl ..))
  | n + 1, i, s, Q, hit, ht, hle, hQ => by
    have hlt : i < items.size := by omega
    show wpAny _ _ (pyNext (.ref it) >>= _) Q E s
    refine wpAny_bind (wpAny_pyNext_list_item hit ht (x := items[i]) (by simp [hlt]) fun h₁ hit₁ hs₁ => ?_)
    refine wpAny_bind (wpAny_holding (draw_list hne n (i + 1) _ _ hit₁ (ht.extBut hs₁.extBut hne) (by omega) fun h₂ hit₂ hs₂ => wpAny_pure ?_))
    have hd : items.toList.drop i = items[i] :: items.toList.drop (i + 1) := by simp [List.drop_eq_getElem_cons, hlt]
    have := hQ h₂ (by rw [show i + (n + 1) = i + 1 + n by omega]; exact hit₂) (hs₁.trans hs₂)
    rw [hd, List.take_succ_cons] at this
    exact this
theorem unpackItems_list {t : Addr} {items : Array Value} {s : Shared} {Q : List Value → Shared → Prop} (hh : A.handled = none) (ht : s.heap.IsList t items)
    (hQ : ∀ h', Heap.ExtBut s.heap.objs.size s.heap h' → Q items.toList { s with heap := h' }) : wpAny (model prog w) A (unpackItems (.ref t) items.size none) Q E s := by
  have hlt : t ≠ s.heap.objs.size := by obtain ⟨o, ho, _⟩ := ht; exact Nat.ne_of_lt (Heap.lt_size ho)
  unfold unpackItems
  refine wpAny_bind ?_
  · unfold notIterableAtAll
    refine wpAny_bind (wpAny_specialOf ht.typeIs slot_list_iter.lookup ?_)
    refine wpAny_pure ?_
    simp only [Bool.false_eq_true, if_false]
    refine wpAny_bind (wpAny_holding (wpAny_pyIter_list ht ?_))
    refine wpAny_bind (wpAny_holding (draw_list hlt items.size 0 _ _ ⟨_, Heap.get?_push_size _ rfl, rfl, rfl⟩ (ht.push _) (by omega) fun h₁ hit₁ hs₁ => ?_))
    have hall : List.take items.size (List.drop 0 items.toList) = items.toList := by
      rw [List.drop_zero]; exact List.take_of_length_le (by simp)
    rw [hall]
    rw [if_neg (by simp)]
    have ht₁ : h₁.IsList t items := (ht.push _).extBut hs₁.extBut hlt
    refine wpAny_bind (wpAny_holding (wpAny_pyNext_list_end hh hit₁ ht₁ (by simp) fun h₂ he₂ => ?_))
    simp only [Option.isSome_none, Bool.false_eq_true, if_false]
    refine wpAny_pure (hQ h₂ fun b o hb e => he₂ b o hb (hs₁.extBut b o hb (Heap.get?_push_of_some _ e)))
theorem assign_Tuple_list {env : Env} {elts : List Expr} {x1} {pos : Pos} {t : Addr} {items : Array Value} {s : Shared} {Q : Unit → Shared → Prop} (hh : A.handled = none) (ht : s.heap.IsList t items)
    (hn : (assignEach elts env).length = items.size) (hstar : (assignEach elts env).findIdx? (·.1) = none)
    (h : ∀ h', Heap.ExtBut s.heap.objs.size s.heap h' → wpAny (model prog w) A (assignInOrder ((assignEach elts env).map (·.2)) items.toList) Q E { s with heap := h' }) :
    wpAny (model prog w) A (assign (.Tuple elts x1 pos) env (.ref t)) Q E s := by
  rw [assign_Tuple]
  refine wpAny_bind (wpAny_standAt ?_)
  unfold unpack
  rw [hn, hstar]
  exact wpAny_bind (wpAny_holding (unpackItems_list hh ht h))
end
section
variable {X : Cx} {sl : List Nat} {es : List Expr} {pos : Pos}
def gTupL (K : PySem.W.Frag) (n : Nat) (t : TGs) : TG := fun v σ H Q => ∃ a xs, v = .ref a ∧ (SqL K H a xs ∨ SqT K H a xs) ∧ xs.length = n ∧ t xs σ H Q
theorem pg_tupL {k : Nat} {t : TGs} {n : Nat} (hc : X.calm = true) (h : PGs X es t)
    (hn : (assignEach es X.env).length = n := by rfl) (hst : (assignEach es X.env).findIdx? (·.1) = none := by rfl) : PG X (.Tuple es k pos) (gTupL X.K n t) := by
  refine ⟨fun pins s σ H v u Q I r hw => ?_⟩
  obtain ⟨a, xs, e1, hq, hl, hw⟩ := hw
  subst e1
  cases r
  rcases hq with hq | hq
  · obtain ⟨its, rv, ht, hz⟩ := I.list hq
    refine assign_Tuple_list (I.ok.hd hc) (items := its.toArray) ht.isList (by simp [hn, ← hl, rv.length]) hst fun h' hx => ?_
    have I1 : Inv X pins σ H { s with heap := h' } := I.kept (t' := s.toks) fun b o e => hx b o (Nat.ne_of_lt (Heap.lt_size e)) e
    exact h.run pins _ σ H xs _ Q I1 (by simpa using rv) hw
  · obtain ⟨its, rv, ht, hz⟩ := I.tuple hq
    refine assign_Tuple_tuple (I.ok.hd hc) ht (by simp [hn, ← hl, rv.length]) hst fun h' hx => ?_
    have I1 : Inv X pins σ H { s with heap := h' } := I.kept (t' := s.toks) fun b o e => hx b o (Nat.ne_of_lt (Heap.lt_size e)) e
    exact h.run pins _ σ H xs _ Q I1 (by simpa using rv) hw
def tgTupL (n : Nat) (h : List D → Env' → Out Env') : D → Env' → Out Env' := fun d ρ => match sqD d with
  | some xs => if xs.length = n then h xs ρ else .bad
  | none => .bad
theorem SG.tupL {k n : Nat} {h : List D → Env' → Out Env'} (hc : X.calm = true) (h2 : SGs X sl es h)
    (hn : (assignEach es X.env).length = n := by rfl) (hst : (assignEach es X.env).findIdx? (·.1) = none := by rfl) : SG X sl (.Tuple es k pos) (tgTupL n h) := ⟨PG.imp (pg_tupL hc h2.pg hn hst) fun v σ H Q ⟨F, ρ, d, s, r, q⟩ => by
  unfold tgTupL at q
  cases e : sqD d with
  | none =>
    rw [e] at q
    exact q.elim
  | some xs =>
    rw [e] at q
    obtain ⟨a, vs, rfl, h1, q1⟩ := sqD_ok e r
    dsimp only at q
    by_cases w : xs.length = n
    · rw [if_pos w] at q
      exact ⟨a, vs, rfl, h1.imp s.le.seqL s.le.seqT, by rw [reps_len q1]; exact w, F, ρ, xs, s, q1, q⟩
    · rw [if_neg w] at q
      exact q.elim⟩
end
end VL

/-! V35: list(range(..)), a new list * n, is True, x[M] = M. -/
namespace VL
open PySem PySem.Spec L2

section
variable {b : Bool} {X : Cx} {W : WX} {x y e : Expr} {f g : Env' → Out D} {mf mk : Env' → Out (D × Env')} {p pos : Pos} {prot : List Nat}
/-! ### list(range(..)) -/
def gLR1 : List D → Out D
  | [.int n] => if 0 ≤ n ∧ n ≤ 16777216 then .ok (.lst (rngD 0 n.toNat)) else .bad
  | _ => .bad
def gLR2 : List D → Out D
  | [.int m, .int n] => if 0 ≤ m ∧ m ≤ 16777216 ∧ 0 ≤ n ∧ n ≤ 16777216 then .ok (.lst (rngD m (n - m).toNat)) else .bad
  | _ => .bad
theorem reps_rg {K : Fr'} {F : Hp} (m : Int) (n : Int) : Reps K F (rngD m (n - m).toNat) (rgV m n) := by
  unfold rngD rgV
  generalize (n - m).toNat = k
  have : ∀ l : List Nat, Reps K F (l.map fun (i : Nat) => D.int (m + i)) (l.map fun i => V.int (m + (i : Nat))) := by
    intro l
    induction l with
    | nil => exact mk_nil
    | cons a l ih => exact mk_cons mk_int ih
  exact this _
theorem SO.listRg1 {a : Expr} (hc : X.calm = true) (hg : Gl X "list") (hm : X.mg "list" = none) (hg2 : Gl X "range") (hm2 : X.mg "range" = none) {p2 pos2 : Pos} (ha : SR b X W a f) (hs : starEach [a] X.env = (false, eval a X.env) :: starEach [] X.env := by rfl)
    (na : starEach [Expr.Call (.Name "range" p2) [a] [] pos2] X.env = (false, eval (.Call (.Name "range" p2) [a] [] pos2) X.env) :: starEach [] X.env := by rfl) :
    SO b X W (.Call (.Name "list" p) [.Call (.Name "range" p2) [a] [] pos2] [] pos) (r1 f fun d => gLR1 [d]) :=
  SO.imp (pe_listRg hc hg hm (prg_1 hg2 hm2 ha.pe hs) na) fun σ H Q h => tO1 (r := fun z H1 Q => ∃ n, z = .int n ∧ RgOk 0 n ∧ ∀ q, H1 q = none → Q (.ref q) (upd H1 q (.lst (rgV 0 n)))) (by
    intro F H x dx d Q l rx e k
    cases dx <;> first | (exact absurd e (by unfold gLR1; intro z; cases z)) | skip
    rename_i n
    unfold gLR1 at e
    dsimp only at e
    split at e
    · rename_i c
      cases e
      refine ⟨n, rep_int rx, RgOk.of_le (Int.le_refl _) c.2 (by decide) c.1, fun q hq => k q _ hq ⟨_, rfl, ?_⟩⟩
      have := reps_rg (K := X.K) (F := F) 0 n
      rw [Int.sub_zero] at this
      exact this
    · cases e) σ H Q h
theorem SO.listRg2 {a c : Expr} (hc : X.calm = true) (hg : Gl X "list") (hm : X.mg "list" = none) (hg2 : Gl X "range") (hm2 : X.mg "range" = none) {p2 pos2 : Pos} (ha : SR b X W a f) (hb : SR b X W c g)
    (hs : starEach [a, c] X.env = (false, eval a X.env) :: starEach [c] X.env := by rfl) (hs2 : starEach [c] X.env = (false, eval c X.env) :: starEach [] X.env := by rfl) (hp : (backTo pos2 (starEach [c] X.env)).any (·.1) = false := by rfl)
    (na : starEach [Expr.Call (.Name "range" p2) [a, c] [] pos2] X.env = (false, eval (.Call (.Name "range" p2) [a, c] [] pos2) X.env) :: starEach [] X.env := by rfl) {pos : Pos} :
    SO b X W (.Call (.Name "list" p) [.Call (.Name "range" p2) [a, c] [] pos2] [] pos) (r2 f g fun d e => gLR2 [d, e]) :=
  SO.imp (pe_listRg hc hg hm (prg_2 hg2 hm2 ha.pe hb.pe hs hs2 hp) na) fun σ H Q h => tO2 (r := fun z w H1 Q => ∃ m n, z = .int m ∧ w = .int n ∧ RgOk m n ∧ ∀ q, H1 q = none → Q (.ref q) (upd H1 q (.lst (rgV m n)))) (by
    intro F H x y dx dy d Q l rx ry e k
    cases dx <;> cases dy <;> first | (exact absurd e (by unfold gLR2; intro z; cases z)) | skip
    rename_i m n
    unfold gLR2 at e
    dsimp only at e
    split at e
    · rename_i c
      cases e
      exact ⟨m, n, rep_int rx, rep_int ry, RgOk.of_le c.1 c.2.2.2 c.2.1 c.2.2.1, fun q hq => k q _ hq ⟨_, rfl, reps_rg m n⟩⟩
    · cases e) σ H Q h

/-! ### a new list * n -/
def rRepO (f g : Env' → Out D) : Env' → Out D := fun ρ => (f ρ).bind fun x => match x with
  | .lst xs => (g ρ).bind fun y => noX (gRepL xs y)
  | _ => .bad
theorem SO.repO (ha : SO b X W x f) (hb : SR b X W y g) : SO b X W (.BinOp x .Mult y pos) (rRepO f g) := by
  refine SO.imp (pe_op op_rep ha.pe hb.pe) ?_
  rintro σ H Q ⟨F, ρ, s, q⟩
  refine ⟨F, ρ, s, on_imp (on_bind q) (fun d ed q p o F1 H1 n1 hp co => ?_) fun _ _ _ q => q⟩
  have s1 := s.new n1
  cases d <;> first | (exact q.elim) | skip
  rename_i xs
  obtain ⟨vs, rfl, r1⟩ := co
  have hpF := s1.le.none hp
  have nD : ¬ Owned σ ρ p := fun w => by
    obtain ⟨o, ho⟩ := s1.owned_some w
    rw [hp] at ho
    cases ho
  have s1' : St2 X.K F1 (upd H1 p (.lst vs)) σ ρ := s1.side hpF nD
  have n1' : New F H F1 (upd H1 p (.lst vs)) := ⟨n1.le, s1'.le, fun c o h => by
    rw [upd_ne (ne_of_none (n1.kp _ _ h) hp)]
    exact n1.kp _ _ h, n1.fr⟩
  refine ⟨F1, ρ, s1', on_new n1' (on_bind q) fun y ey q v2 F2 H2 n2 ry => ?_⟩
  have s2 := s1'.new n2
  obtain ⟨d, ed, q⟩ := noX_on q
  cases y <;> first | (unfold gRepL at ed; cases ed; done) | skip
  rename_i k
  unfold gRepL at ed
  dsimp only at ed
  split at ed
  · rename_i c
    cases ed
    have hp2 : H2 p = some (.lst vs) := n2.kp _ _ upd_same
    have l12 : Le (bs b F1 H1 σ ρ) (bs b F2 H2 σ ρ) := by
      have n12 : New F1 H1 F2 H2 := ⟨n2.le, n2.le', fun c o h => n2.kp _ _ (by rw [upd_ne (ne_of_none h hp)]; exact h), fun c h => by
        rcases n2.fr c h with h | h
        · exact .inl h
        · by_cases e : c = p
          · rw [e, upd_same] at h
            cases h
          · rw [upd_ne e] at h
            exact .inr h⟩
      exact bs_new s1 n12
    refine ⟨p, k, vs, rfl, rep_int ry, hp2, c.2.1, c.2.2.1, by rw [reps_len r1]; exact c.2.2.2, fun p2 hp3 => q p2 _ F2 H2 (n1'.trans n2) hp3 ⟨_, rfl, reps_rep (Reps.mono l12 _ _ r1) k.toNat⟩⟩
  · cases ed

/-! ### is True -/
def rIsU : R2 := fun x y H Q => (y = .non ∧ Q (.bl (decide (x = .non))) H) ∨ (∃ a b, x = .bl a ∧ y = .bl b ∧ Q (.bl (decide (a = b))) H)
def rNotU : R2 := fun x y H Q => (y = .non ∧ Q (.bl (!decide (x = .non))) H) ∨ (∃ a b, x = .bl a ∧ y = .bl b ∧ Q (.bl (!decide (a = b))) H)
theorem op_isU {X : Cx} : OpR X (compareOp .Is) rIsU := OpR.or op_isN op_is_bl
theorem op_notU {X : Cx} : OpR X (compareOp .IsNot) rNotU := OpR.or op_notN op_isnot_bl
def gIsU (x y : D) : Out D := match x, y with
  | .bl a, .bl c => .ok (.bl (decide (a = c)))
  | x, y => gIsN x y
def gNotU (x y : D) : Out D := match x, y with
  | .bl a, .bl c => .ok (.bl (!decide (a = c)))
  | x, y => gNotN x y
theorem p_isU {K : Fr'} : Pure2 K rIsU gIsU := by
  intro F H x y dx dy d Q l rx ry e k
  unfold gIsU at e
  split at e
  · cases e
    exact .inr ⟨_, _, rep_bl rx, rep_bl ry, k _ _ _ (New.refl l) mk_bl⟩
  · exact .inl (p_isN F H x y _ _ d Q l rx ry e k)
theorem p_notU {K : Fr'} : Pure2 K rNotU gNotU := by
  intro F H x y dx dy d Q l rx ry e k
  unfold gNotU at e
  split at e
  · cases e
    exact .inr ⟨_, _, rep_bl rx, rep_bl ry, k _ _ _ (New.refl l) mk_bl⟩
  · exact .inl (p_notN F H x y _ _ d Q l rx ry e k)

/-! ### x[M] = M, x an owned dict -/
def sPutM (i : Nat) (mf mk : Env' → Out (D × Env')) : Env' → Out (Fl × Env') := fun ρ => (mf ρ).bind fun x => match x.2[i]? with
  | some (.own _) => (mk x.2).bind fun k => match k.2[i]? with
    | some (.own (.dic xs)) => (match keyQ k.1 with
      | some _ => if xs.length < sizeLine ∧ ndK xs = true then .ok (.nx, k.2.set i (.own (.dic (putD xs k.1 x.1)))) else .bad
      | none => .bad)
    | _ => .bad
  | _ => .bad
theorem S1.putM (i : Nat) {x : Str} {k : Expr} {e : Expr} {p0 tpos : Pos} (hu : X.A.units + 64 < cLine) (he : SM X W e mf) (hk : SM X W k mk) (hN : X.N[i]? = some x := by rfl) (hv : Vis X.env.scope x := by first | exact Or.inl rfl | exact Or.inr (Or.inl rfl) | exact Or.inr (Or.inr rfl)) (hd : (x == ("__debug__" : Str)) = false := by decide)
    (hcd : (x == ("__classdict__" : Str)) = false := by decide) (hs : swapsWith e (some (.Subscript (.Name x p0) k tpos)) pos.line X.env = pure false := by rfl) : S1 X W prot (.Assign [.Subscript (.Name x p0) k tpos] e pos) (sPutM i mf mk) := by
  refine ⟨PS.imp (ps_dput (Nat.lt_of_le_of_lt (Nat.add_le_add_left (by decide : 1 ≤ 64) _) hu) (pe_var hN hv hd hcd) hk.pe he.pe hs) ?_⟩
  rintro D0 σ H ⟨F, ρ, s, q⟩
  refine ⟨F, ρ, s, on_imp (on_bind q) (fun y ey q w F1 H1 s1 r1 p1 => ?_) fun _ _ _ q => q⟩
  split at q
  · rename_i d0 hx
    obtain ⟨p, o, e2, ho, hn, c0⟩ := s1.own i _ hx
    have lr : y.2.length = ρ.length := by rw [← s.len, ← s1.len]
    refine ⟨_, e2, F1, y.2, s1, on_stp p1 rfl lr (on_bind q) fun k' ek q v F2 H2 s2 rkv p2 => ?_⟩
    split at q
    · rename_i xs hx2
      split at q
      · rename_i qk hq
        split at q
        · rename_i c
          obtain ⟨p', o', e2', ho', hn', kvs, rfl, rk⟩ := s2.own i _ hx2
          rw [e2] at e2'
          cases e2'
          obtain ⟨e3, e4⟩ := rep_key rkv hq
          subst e3
          have c2 : Co X.K F2 (.dic (putD xs k'.1 y.1)) (.dK (putK kvs qk w)) := ⟨_, rfl, by rw [e4]; exact putD_ok (Rep.mono p2.le _ _ r1) c.2 rk⟩
          exact ⟨p, _, rfl, .inl ⟨kvs, qk, ho', rfl, by rw [repK_len rk]; exact c.1, rfl⟩, q σ F2 _ (s2.updO hx2 e2 c2) ((p1.trans p2).trans (Stp.updO s2 hx2 e2)) (Fix.refl _ _)⟩
        · exact q.elim
      · exact q.elim
    · exact q.elim
  · exact q.elim
end
end VL

/-! V36: what the top has written: own exceptions, too. -/
namespace VL
open PySem PySem.Spec L2

theorem hu2 {k : Nat} {A : Around} (hr : Room k A) : A.units + 200 < cLine := by have := hr.un; omega
theorem hu6 {k : Nat} {A : Around} (hr : Room k A) : A.units + 64 < cLine := by have := hr.un; omega
def exBase : List Value := [.type "Exception", .type "BaseException", .type "object"]
def exB (K : Fr') (x : Str) : Bool := PySem.W.excIn K (He.ga K x) exBase "Exception.__new__" && (PySem.W.keepIn K (.ref (He.ga K x)) && (decide (PySem.W.subIn K (.ref (He.ga K x)) (.type "BaseException") = some true) && decide (PySem.W.typeIn K (.ref (He.ga K x)) = some (.type "type"))))
theorem exB_ok {K : Fr'} {mg : MG} {x : Str} (g : mg x = some (.ref (He.ga K x))) (c : exB K x = true) : ExcC K mg x := by
  obtain ⟨c1, c⟩ := He.ba c
  obtain ⟨c2, c⟩ := He.ba c
  obtain ⟨c3, c4⟩ := He.ba c
  exact ⟨g, c1, c2, of_decide_eq_true c3, of_decide_eq_true c4⟩
def obsY (fa : List He.Fa) (fn : List He.DefD) (tb : TbD) (ex : List Str) (K : Fr') : He.AlD := ((((fa.all fun f => f.ok K) && fn.all fun d => d.ok K) && tb.all fun q => He.tupB K q.1 q.2) && ex.all fun x => exB K x, fn.map fun d => He.fnW K d.at_)
def SaysY (fa : List He.Fa) (fn : List He.DefD) (tb : TbD) (ex : List Str) (K : Fr') : Prop := obsY fa fn tb ex K = He.valD fn
def obsYG (n : Nat) (fa : List He.Fa) (fn : List He.DefD) (tb : TbD) (ex : List Str) (g : Addr → Option Obj) : He.AlD := obsY fa fn tb ex (He.frG g (He.asD g n))
def hookY (n : Nat) (fa : List He.Fa) (fn : List He.DefD) (tb : TbD) (ex : List Str) : PySem.W.Hook where
  α := He.AlD
  obs := fun s => obsYG n fa fn tb ex s.heap.get?
  val := fun _ => He.valD fn
  says := fun _ h => ∃ K : Fr', K.In h ∧ SaysY fa fn tb ex K
  of := fun _ _ e => ⟨_, He.frG_in, e⟩
  keeps := fun _ _ _ ⟨K, hK, c⟩ k => ⟨K, PySem.W.Frag.In.keeps hK k, c⟩
theorem obsYG_eq {n : Nat} {fa : List He.Fa} {fn : List He.DefD} {tb : TbD} {ex : List Str} {g : Addr → Option Obj} {s : Shared} (h : ∀ a, g a = s.heap.get? a) : obsYG n fa fn tb ex g = (hookY n fa fn tb ex).obs s := by
  have e : g = s.heap.get? := funext h
  rw [e]
  rfl
section
variable {fa : List He.Fa} {fn : List He.DefD} {tb : TbD} {ex : List Str} {K : Fr'}
theorem SaysY.one (c : SaysY fa fn tb ex K) : ((((fa.all fun f => f.ok K) && fn.all fun d => d.ok K) && tb.all fun q => He.tupB K q.1 q.2) && ex.all fun x => exB K x) = true := congrArg (fun z : He.AlD => z.1) c
theorem SaysY.fact (c : SaysY fa fn tb ex K) (i : Nat) {f : He.Fa} (h : fa[i]? = some f := by rfl) : f.ok K = true :=
  List.all_eq_true.mp (He.ba (He.ba (He.ba c.one).1).1).1 f (List.mem_of_getElem? h)
theorem SaysY.tup (c : SaysY fa fn tb ex K) (i : Nat) {q : Str × List He.Dv} (h : tb[i]? = some q := by rfl) : He.tupB K q.1 q.2 = true :=
  List.all_eq_true.mp (He.ba (He.ba c.one).1).2 q (List.mem_of_getElem? h)
theorem SaysY.exc (c : SaysY fa fn tb ex K) (i : Nat) {x : Str} (h : ex[i]? = some x := by rfl) : exB K x = true :=
  List.all_eq_true.mp (He.ba c.one).2 x (List.mem_of_getElem? h)
theorem SaysY.def_ (c : SaysY fa fn tb ex K) (i : Nat) {d : He.DefD} (h : fn[i]? = some d := by rfl) : ∃ fd, FunD K d.name d.qual d.params d.body d.scope (d.dvs K) (d.kws K) (He.fAd K d.at_) fd := by
  have e : fn.map (fun d => He.fnW K d.at_) = fn.map He.DefD.val := congrArg (fun z : He.AlD => z.2) c
  have e2 : (fn.map fun d => He.fnW K d.at_)[i]? = (fn.map He.DefD.val)[i]? := by rw [e]
  rw [List.getElem?_map, List.getElem?_map, h] at e2
  exact He.DefD.funD (Option.some.inj e2) (List.all_eq_true.mp (He.ba (He.ba (He.ba c.one).1).1).2 d (List.mem_of_getElem? h))
end
theorem law_walkY {l : PySem.W.OpenLaw} {n k j : Nat} {q : Program} {loose : List Str} {XP : (Str → Option Value) → Heap → Prop} {d : DefRec} {x : Str} {fa : List He.Fa} {fn : List He.DefD} {tb : TbD} {ex : List Str} {mf : List D → Out D} (hn : l.most = some n) (hn2 : n ≤ sizeLine) (hdf : d.params.defaults = []) (hr : Room k callerA)
    (hlaw : ∀ ns : List Int, mf [.lst (ns.map D.int)] = .ok (.bl true)) (F : ∀ (w : World) (K : Fr') (mg : MG) (f : Addr) (h : Heap), K.In h → h.Ns mainGlobals mg → mg d.name = some (.ref f) → SaysY fa fn tb ex K →
      ∃ fd : FuncData, (∀ (s : Shared) (u : Value), BindsTo s fd ⟨[u], []⟩ [(x, u)]) ∧ ∀ base : Heap, K.In base → base.Ns mainGlobals mg → FnOk l.prog w K mg base (L2.CX l.prog w) k f fd [x] (spF K mg mf)) :
    PySem.W.WalkO q loose XP (hookY j fa fn tb ex).says l.row.toRowW d [] (fun f vs => PySem.call f vs) := by
  refine Att.attach_call hn hdf fun w s₀ s₁ mg mb f o pm cd doc a vs ns G Y ho hd hcd hmg hobj hints hlen hg => ?_
  obtain ⟨K, KX, c⟩ := Y; obtain ⟨fd, hb, hF⟩ := F w K mg f _ KX G.T.g hmg c
  exact law_call KX G.T.g G.T.b G.T.builtins G.T.nolimit hg hobj hints (Nat.le_trans hlen hn2) hr hF hb (fun H hO hS => sp_law hlaw hS) fun H e s' h => by
    obtain ⟨_, _, _, _, _, _, _, _, _, _, _, _, z⟩ := h
    exact z
end VL

/-! V37: y = [.. for k in d], d a frozen dict in a name. -/
namespace VL
open PySem PySem.Spec L2
section
variable {X : Cx} {W : WX} {elt tg : Expr} {ifs : List Expr} {scope : Scope} {own : List (Str × Nat)} {pos p : Pos} {sl : List Nat} {g : D → Env' → Out Env'} {t : Env' → Out Bool} {f : Env' → Out D} {z : Str}
theorem S1.lcKO (j i : Nat) {y : Str} {py spos : Pos} {prot : List Nat} (hc : X.calm = true) (hN : X.N.Nodup) (ok : BlkOk X.N X.env.scope scope own)
    (hg : ∀ (s : Shared) (H : Hp) (C : Addr) (cl : List (Str × Addr)) (fp : List Addr), SG (X.blk s H scope (compEnvC scope cl C X.env) fp) sl tg g)
    (ht : ∀ (s : Shared) (H : Hp) (C : Addr) (cl : List (Str × Addr)) (fp : List Addr), STs (X.blk s H scope (compEnvC scope cl C X.env) fp) W0 ifs t)
    (he : ∀ (s : Shared) (H : Hp) (C : Addr) (cl : List (Str × Addr)) (fp : List Addr), SR false (X.blk s H scope (compEnvC scope cl C X.env) fp) W0 elt f) (hyl : X.env.scope.names.lookup y = some .local)
    (hsw : swapsWith (.ListComp elt [⟨tg, .Name z p, ifs, 0⟩] scope pos) (some (.Name y py)) spos.line X.env = pure true) (hp : j ∉ prot := by decide) (hy : X.N[j]? = some y := by rfl)
    (hNi : X.N[i]? = some z := by rfl) (hv : Vis X.env.scope z := by first | exact Or.inl rfl | exact Or.inr (Or.inl rfl) | exact Or.inr (Or.inr rfl)) (hd : (z == ("__debug__" : Str)) = false := by decide)
    (hcd : (z == ("__classdict__" : Str)) = false := by decide) (hsl : ∀ i, i ∈ sl → i ∈ own.map (·.2) := by decide) (hs : ∀ x, foldedSetIterable (.Name z p) X.env x = pure x := by intro _; rfl) :
    S1 X W prot (.Assign [.Name y py] (.ListComp elt [⟨tg, .Name z p, ifs, 0⟩] scope pos) spos) (sOwn false (rLc (iKs (rv false i)) (own.map (·.2)) g t f) j) := by
  have h := ps_setLc (i := j) (elt := elt) (pos := pos) (spos := spos) (py := py) (g := gM X.K sl g) (tt := tRT X.K X.mg W0 t) (te := tR X.K X.mg W0 false f) hc hN hy hyl hsw (pi_keys (pe_var (pos := p) hNi hv hd hcd)) ok (fun s H C cl fp => (hg s H C cl fp).pg) (fun s H C cl fp => (ht s H C cl fp).pt) (fun s H C cl fp => (he s H C cl fp).pe) hs
  refine ⟨PS.imp (PS.or (ps_lock h) h) ?_⟩
  rintro D0 σ H ⟨F, ρ, s, q⟩
  refine lcK_read (K := X.K) (mg := X.mg) (W := W) i hsl σ H (fun x H1 => D0.nx (σ.set j (some x)) H1) ?_
  refine ⟨F, ρ, s, on_imp (on_bind q) (fun d ed q p o F1 H1 n hp' c => ?_) fun _ _ _ q => q⟩
  split at q
  · rename_i w
    have ⟨s2, p2⟩ := own_ok s n hp' (b := false) c w j
    exact q _ F1 _ s2 p2 (Fix.set hp)
  · exact q.elim
end
/-- which exceptions a clause takes -/
def exT (l : List (Str × Bool)) : Str → Option Bool := fun c => (l.find? fun p => decide (p.1 = c)).map (·.2)
theorem exT_ok (K : Fr') {mg : MG} {l : List (Str × Bool)} {Cv : Value} (h : ∀ p ∈ l, PySem.W.exmOne K (.ref (He.ga K p.1)) Cv = some p.2 ∧ mg p.1 = some (.ref (He.ga K p.1))) :
    ∀ c b A, exT l c = some b → mg c = some (.ref A) → PySem.W.exmOne K (.ref A) Cv = some b := by
  intro c b A e m
  unfold exT at e
  cases q : l.find? fun p => decide (p.1 = c) with
  | none => rw [q] at e; cases e
  | some p =>
    rw [q] at e
    cases e
    have e1 : p.1 = c := by
      have z := List.find?_some (p := fun p : Str × Bool => decide (p.1 = c)) q
      exact of_decide_eq_true z
    obtain ⟨h1, h2⟩ := h p (List.mem_of_find?_eq_some q)
    rw [e1, m] at h2
    cases h2
    rw [e1] at h1
    exact h1
end VL

/-! V38: sorted(set(..)) of a list or a tuple. -/
namespace VL
open PySem PySem.Spec L2 PyProof.Rows
section
variable {P : Program} {w : World} {A : Around} {E : Value → Shared → Prop} {s : Shared}
set_option maxHeartbeats 8000000 in
theorem call_setMT {l : Addr} {items : Array Value} (qs : List Key) {Q : Value → Shared → Prop} (hh : A.handled = none) (hl : s.heap.IsTuple l items) (hit : ∀ (i : Nat) (v : Value), items[i]? = some v → ∃ k, qs[i]? = some k ∧ (mixKind P w).is k v = true) (hz : items.size = qs.length) (hb : qs.length + 1 < scanBound)
    (h : ∀ (h' : Heap) (tk : Nat), SetMr P w h' s.heap.objs.size (addKs [] qs) → (∀ b o, s.heap.get? b = some o → h'.get? b = some o) → Q (.ref s.heap.objs.size) { s with heap := h', toks := tk }) : wpAny (model P w) A (call (.type "set") [.ref l]) Q E s := by
  obtain ⟨c, tl, hmro⟩ := F.called_set.mro
  have made := F.called_set.made; have hsub := F.called_set.sub
  refine wpAny_call (codeAny_of_tree ?_); show wpAny _ _ (callAny (.type "set") _) _ _ _
  refine wpAny_pure ⟨Code.quiet_builtin _ (by decide +kernel), codeAny_builtin F.entry_type_call ?_⟩; rw [Around.under_plain (weight_type_call_type "set" [.ref l] []) rfl]
  have h1 := F.called_set.notType; have h2 := F.called_set.canCreate; have hct := F.typeCall_set_1 (.ref l)
  repeat (any_goals (first | assumption | wp_step))
  refine codeAny_mono (L2.code_set_led1 (.ref l) (E := E) (Q₁ := fun obj s₁ => obj = .ref s.heap.objs.size ∧ s₁ = { s with heap := s.heap.push (setO w) }) ⟨rfl, rfl⟩) fun r s₁ hr => ?_
  cases r with
  | error e => exact hr
  | ok fl =>
    cases fl with
    | ret obj =>
      obtain ⟨rfl, rfl⟩ := hr
      have gS : (s.heap.push (setO w)).get? s.heap.objs.size = some (setO w) := Heap.get?_push_size _ rfl
      have tS : Shared.TypeIs { s with heap := s.heap.push (setO w) } (.ref s.heap.objs.size) "set" := ⟨_, gS, rfl⟩
      have hli := F.called_set.init.lookup; have hbi := F.called_set.init.bind (.ref s.heap.objs.size)
      repeat (any_goals (first | assumption | wp_step))
      refine codeAny_mono (codeAny_call_builtin (R := wants (fun r s₂ => r = .none ∧ ∃ h' tk, s₂ = { s with heap := h', toks := tk } ∧ SetMr P w h' s.heap.objs.size (addKs [] qs) ∧ (∀ b o, s.heap.get? b = some o → h'.get? b = some o)) E) F.called_set.init.plain F.entry_set_init (check_set_init_1 tS ?_)) fun r₂ s₂ hr₂ => ?_
      · obtain ⟨ol, hol, hcl, nl, hdl⟩ := hl
        obtain ⟨ocls, odict, odata, oslots⟩ := ol
        simp only at hcl hdl; subst hcl; subst hdl
        have hol' : (s.heap.push (setO w)).get? l = some { cls := .type "tuple", dict := odict, data := .seq items nl, slots := oslots } := Heap.get?_push_of_some _ hol
        have hsls := F.sub_tuple_set; have hslf := F.sub_tuple_frozenset
        have hne : (Value.type "tuple" == Value.type "dict") = false := by decide
        have hl1 : (s.heap.push (setO w)).IsTuple l items := ⟨_, hol', rfl, nl, rfl⟩
        unfold Builtin.«set.__init__» noKeywords Builtin.Frozenset.updateFrom; generalize hPI : pyIter = PI; wp_walk; subst hPI
        refine wpAny_pyIter_tuple hl1 ?_; refine wpAny_bind (wpAny_runValue ?_)
        have hlS : l < s.heap.objs.size := Heap.lt_size hol
        have hh3 : A.in1.in1.in1.handled = none := by simp [hh]
        have z1 : (s.heap.push (setO w)).objs.size = s.heap.objs.size + 1 := Heap.size_push ..
        have neI : l ≠ (s.heap.push (setO w)).objs.size := by rw [z1]; exact Nat.ne_of_lt (Nat.lt_succ_of_lt hlS)
        have nSf : s.heap.objs.size ∉ [(s.heap.push (setO w)).objs.size, l] := by
          rw [z1]; simp only [List.mem_cons, List.not_mem_nil, or_false, not_or]; exact ⟨Nat.ne_of_lt (Nat.lt_succ_self _), Nat.ne_of_gt hlS⟩
        refine updLoopM ((Walks.tuple hh3 _ l neI items).toS) s.heap.objs.size nSf qs hz hit (items.size - 0) 0 [] _ rfl (Nat.zero_le _) ⟨⟨_, Heap.get?_push_size _ rfl, rfl, rfl⟩, (hl1.push _)⟩ (SetMr.new (Heap.get?_push_of_some _ gS)) (by rw [hz]; simpa using hb) fun s' hm hS' => ?_
        obtain ⟨h', g2, d', tk', os'⟩ := s'
        have eg : g2 = s.gens := hm.gens; have ed : d' = s.drawn := hm.drawn; have eo : os' = s.os := hm.os
        subst eg; subst ed; subst eo; show wpAny _ _ _ _ _ _
        refine wpAny_pure ?_; show wpAny _ _ (ret Value.none) _ _ _
        refine wpAny_pure ⟨rfl, h', tk', rfl, hS', fun b o e => ?_⟩
        have hb0 : b < s.heap.objs.size := Heap.lt_size e
        refine hm.heap b o (fun z => ?_) (Heap.get?_push_of_some _ (Heap.get?_push_of_some _ e))
        simp only [List.mem_cons, List.not_mem_nil, or_false] at z
        rcases z with z | z
        · exact absurd hb0 (by rw [z]; exact Nat.lt_irrefl _)
        · exact absurd hb0 (by rw [z, z1]; exact Nat.not_lt_of_le (Nat.le_succ _))
      · cases r₂ with
        | error e => exact hr₂
        | ok fl₂ =>
          cases fl₂ with
          | ret r =>
            obtain ⟨rfl, h', tk, rfl, hS', hk'⟩ := hr₂
            repeat (any_goals (first | assumption | wp_step))
            exact h _ _ hS' hk'
          | _ => exact hr₂.elim
    | _ => exact hr.elim

end
def rSoSetT (K : Fr') : V → Hp → VK → Prop := fun x H Q => ∃ a ws, x = .ref a ∧ SqT K H a ws ∧ ((∃ ns : List Int, ws = ns.map V.int ∧ ns.length ≤ 4000 ∧ ∀ p, H p = none → Q (.ref p) (upd H p (.lst ((sortI ns).map V.int)))) ∨
  ∃ ns : List Str, ws = ns.map V.str ∧ ns.length ≤ 4000 ∧ ∀ p, H p = none → Q (.ref p) (upd H p (.lst ((sortS ns).map V.str))))
section
variable {X : Cx} {W : WX} {b : Bool} {a : Expr} {f : Env' → Out D} {p p2 q pos : Pos}
theorem sort_setMT (hu : X.A.units + 200 < cLine) (hc : X.calm = true) {pins : List (Addr × Obj)} {σ : L2.St} {H : Hp} {s : Shared} {E : Value → Shared → Prop} {x : V} {u : Value} {Q : VK} (I : Inv X pins σ H s) (r : RelV x u) (h : rSoSetT X.K x H Q)
    {R : Value → Shared → Prop} (hR : ∀ v s1, wpAny (model X.prog X.w) X.A (call (.builtin "sorted") [v]) (fun v s' => ∃ y H', Inv X pins σ H' s' ∧ RelV y v ∧ Q y H') E s1 → R v s1) : wpAny (model X.prog X.w) X.A (call (.type "set") [u]) R E s := by
  obtain ⟨l, ws, rfl, hq, h⟩ := h
  cases r
  obtain ⟨its, rv, pl, hz⟩ := I.tuple hq
  rcases h with ⟨ns, rfl, hn, q⟩ | ⟨ns, rfl, hn, q⟩
  · have hks : ns.map V.int = (ns.map Sum.inl).map kV := by rw [List.map_map]; rfl
    have hl : its.toArray.size = (ns.map (Sum.inl : Int → Key)).length := by rw [List.size_toArray, ← rv.length, List.length_map, List.length_map]
    rw [hks] at rv
    refine call_setMT (ns.map Sum.inl) (I.ok.hd hc) pl (fun i v hv => vals_keys rv i v (by simpa using hv)) hl (by rw [List.length_map]; unfold scanBound; omega) fun h' tk hS hk => hR _ _ ?_
    have eK : addKs [] (ns.map Sum.inl) = (addL [] ns).map Sum.inl := addKs_map Sum.inl (fun a b z => Sum.inl.inj z) ns []
    rw [eK] at hS
    have I2 : Inv X pins σ H { s with heap := h', toks := tk } := I.kept hk
    refine sorted_vs (s := { s with heap := h', toks := tk }) (R := fun v (n : Int) => RelV (V.int n) v) (enc := fun n : Int => .int n) (bs := []) (vs := []) hS (I.ok.hd hc) hu fun us h1 h2 h3 => ?_
    obtain ⟨bs, e0, e1, e2⟩ := eachI (P := X.prog) (w := X.w) us fun u hu => by
      have m := h2.mem_iff.mp (List.mem_map_of_mem (f := keyF) hu)
      obtain ⟨k, _, z⟩ := List.mem_map.mp m
      exact ⟨k, z.symm, h3 u hu⟩
    rw [e0] at h2
    have pm : bs.Perm (addL [] ns) := perm_of_map (fun a b z => Sum.inl.inj z) h2
    have es : bs.mergeSort (PySem.W.dataLe false fun n : Int => .int n) = sortI ns := by
      rw [PySem.W.dataLe_int]
      exact sort_canon (fun a b : Int => decide (a ≤ b)) (fun a b c h k => decide_eq_true (Int.le_trans (of_decide_eq_true h) (of_decide_eq_true k))) (fun a b => by rw [Bool.or_eq_true, decide_eq_true_eq, decide_eq_true_eq]; exact Int.le_total a b) (fun a b h k => Int.le_antisymm (of_decide_eq_true h) (of_decide_eq_true k)) pm
    refine ⟨bs, e1, e2, fun d hd d' hd' => ?_, .inr fun d hd => ?_, fun b hb => by show (PyData.int b).depth ≤ 64; simp [PyData.depth], fun s' p out c hol eo k g o hp hg => ?_⟩
    · obtain ⟨x, _, rfl⟩ := List.mem_map.mp hd
      obtain ⟨y, _, rfl⟩ := List.mem_map.mp hd'
      rfl
    · obtain ⟨x, _, rfl⟩ := List.mem_map.mp hd
      exact ⟨fun z => PyData.noConfusion z, fun _ z => PyData.noConfusion z⟩
    · rw [es] at eo
      have hlen : ((sortI ns).map V.int).length ≤ sizeLine := by
        unfold sortI
        rw [List.length_map, List.length_mergeSort]
        have z := addL_len ns []
        rw [sizeLine_eq]
        simp only [List.length_nil] at z
        omega
      obtain ⟨J, hn⟩ := Inv.listAt I2 k g o hp hlen (each_relI eo) hg
      exact ⟨.ref p, _, J, rfl, q p hn⟩
  · have hks : ns.map V.str = (ns.map Sum.inr).map kV := by rw [List.map_map]; rfl
    have hl : its.toArray.size = (ns.map (Sum.inr : Str → Key)).length := by rw [List.size_toArray, ← rv.length, List.length_map, List.length_map]
    rw [hks] at rv
    refine call_setMT (ns.map Sum.inr) (I.ok.hd hc) pl (fun i v hv => vals_keys rv i v (by simpa using hv)) hl (by rw [List.length_map]; unfold scanBound; omega) fun h' tk hS hk => hR _ _ ?_
    have eK : addKs [] (ns.map Sum.inr) = (addL [] ns).map Sum.inr := addKs_map Sum.inr (fun a b z => Sum.inr.inj z) ns []
    rw [eK] at hS
    have I2 : Inv X pins σ H { s with heap := h', toks := tk } := I.kept hk
    refine sorted_vs (s := { s with heap := h', toks := tk }) (R := fun v (n : Str) => RelV (V.str n) v) (enc := fun n : Str => .str n) (bs := []) (vs := []) hS (I.ok.hd hc) hu fun us h1 h2 h3 => ?_
    obtain ⟨bs, e0, e1, e2⟩ := eachS (P := X.prog) (w := X.w) us fun u hu => by
      have m := h2.mem_iff.mp (List.mem_map_of_mem (f := keyF) hu)
      obtain ⟨k, _, z⟩ := List.mem_map.mp m
      exact ⟨k, z.symm, h3 u hu⟩
    rw [e0] at h2
    have pm : bs.Perm (addL [] ns) := perm_of_map (fun a b z => Sum.inr.inj z) h2
    have es : bs.mergeSort (PySem.W.dataLe false fun n : Str => .str n) = sortS ns := by
      rw [PySem.W.dataLe_str]
      exact sort_canon leS (fun a b c => leS_tr) leS_to (fun a b => leS_an) pm
    refine ⟨bs, e1, e2, fun d hd d' hd' => ?_, .inr fun d hd => ?_, fun b hb => by show (PyData.str b).depth ≤ 64; simp [PyData.depth], fun s' p out c hol eo k g o hp hg => ?_⟩
    · obtain ⟨x, _, rfl⟩ := List.mem_map.mp hd
      obtain ⟨y, _, rfl⟩ := List.mem_map.mp hd'
      rfl
    · obtain ⟨x, _, rfl⟩ := List.mem_map.mp hd
      exact ⟨fun z => PyData.noConfusion z, fun _ z => PyData.noConfusion z⟩
    · rw [es] at eo
      have hlen : ((sortS ns).map V.str).length ≤ sizeLine := by
        unfold sortS
        rw [List.length_map, List.length_mergeSort]
        have z := addL_len ns []
        rw [sizeLine_eq]
        simp only [List.length_nil] at z
        omega
      obtain ⟨J, hn⟩ := Inv.listAt I2 k g o hp hlen (each_relS eo) hg
      exact ⟨.ref p, _, J, rfl, q p hn⟩
/-- sorted(set(e)), e a list or a tuple -/
def gSoSetU (d : D) : Out D := match d with
  | .tup xs => gSoSet (.lst xs)
  | d => gSoSet d
theorem SO.sortSetU (hu : X.A.units + 200 < cLine) (hc : X.calm = true) (hg : Gl X "sorted") (hm : X.mg "sorted" = none) (hg2 : Gl X "set") (hm2 : X.mg "set" = none) (ha : SR b X W a f) (na : starEach [a] X.env = (false, eval a X.env) :: starEach [] X.env := by rfl) :
    SO b X W (.Call (.Name "sorted" p) [.Call (.Name "set" p2) [a] [] q] [] pos) (r1 f gSoSetU) := by
  refine ⟨⟨fun pins s σ H Q I h => ?_⟩⟩
  have h2 := tO1 (r := fun x H Q => rSoSet X.K x H Q ∨ rSoSetT X.K x H Q) (h := gSoSetU) (by
    intro F H x dx d Q l rx e k
    unfold gSoSetU at e
    split at e
    · rename_i xs
      unfold gSoSet at e
      dsimp only at e
      obtain ⟨a, vs, rfl, h1, r1⟩ := rep_tup rx
      split at e
      · rename_i ns hi
        split at e
        · rename_i hn
          cases e
          have ex := intsD_some hi
          subst ex
          have ev := reps_ints r1
          subst ev
          exact .inr ⟨a, _, rfl, l.seqT h1, .inl ⟨ns, rfl, hn, fun p hp => k p _ hp ⟨_, rfl, mk_ints _⟩⟩⟩
        · cases e
      · split at e
        · rename_i ns hi
          split at e
          · rename_i hn
            cases e
            have ex := txsD_some hi
            subst ex
            have ev := reps_txs r1
            subst ev
            exact .inr ⟨a, _, rfl, l.seqT h1, .inr ⟨ns, rfl, hn, fun p hp => k p _ hp ⟨_, rfl, mk_txs _⟩⟩⟩
          · cases e
        · cases e
    · unfold gSoSet at e
      split at e
      · rename_i xs
        obtain ⟨a, vs, rfl, h1, r1⟩ := rep_lst rx
        split at e
        · rename_i ns hi
          split at e
          · rename_i hn
            cases e
            have ex := intsD_some hi
            subst ex
            have ev := reps_ints r1
            subst ev
            exact .inl ⟨a, _, rfl, l.seqL h1, .inl ⟨ns, rfl, hn, fun p hp => k p _ hp ⟨_, rfl, mk_ints _⟩⟩⟩
          · cases e
        · split at e
          · rename_i ns hi
            split at e
            · rename_i hn
              cases e
              have ex := txsD_some hi
              subst ex
              have ev := reps_txs r1
              subst ev
              exact .inl ⟨a, _, rfl, l.seqL h1, .inr ⟨ns, rfl, hn, fun p hp => k p _ hp ⟨_, rfl, mk_txs _⟩⟩⟩
            · cases e
          · cases e
      · cases e) σ H Q h
  refine Call_ (ld_blt I hg hm boot_sorted ?_); refine callWith_builtin1 (args_cons ?_ rfl) rfl rfl
  refine Call_ (ld_blt I hg2 hm2 boot_set ?_); refine callWith_type1 (args_cons (thn (ha.pe.run pins s σ H _ I h2) fun v s1 ⟨x, H1, I1, r1, q1⟩ => args_nil ?_) na) na rfl
  rcases q1 with q1 | q1
  · exact sort_setM hu hc (E := X.xe) I1 r1 q1 fun v s1 z => args_nil z
  · exact sort_setMT hu hc (E := X.xe) I1 r1 q1 fun v s1 z => args_nil z
end
end VL

/-! V39: freezing as one word; steps of statements as rules. -/
namespace VL
open PySem PySem.Spec L2
def sFrz (i : Nat) (f : Env' → Out (Fl × Env')) : Env' → Out (Fl × Env') := fun ρ => f (frzE i ρ)
section
variable {ρ ρ1 ρ2 : Env'} {f g : Env' → Out (Fl × Env')} {d : D}
theorem ev_sFrz (i : Nat) : sFrz i f ρ = f (frzE i ρ) := rfl
theorem seq_nx (h : f ρ = .ok (.nx, ρ1)) : sSeq f g ρ = g ρ1 := by
  show ((f ρ).bind fun p => _) = _
  rw [h]
  rfl
theorem seq_ret (h : f ρ = .ok (.ret d, ρ1)) : sSeq f g ρ = .ok (.ret d, ρ1) := by
  show ((f ρ).bind fun p => _) = _
  rw [h]
  rfl
theorem seq_exc {c : Str} {fs : List D} (h : f ρ = .exc c fs) : sSeq f g ρ = .exc c fs := by
  show ((f ρ).bind fun p => _) = _
  rw [h]
  rfl
theorem for_eq {it : Env' → Out (List D × Env')} {t : D → Env' → Out Env'} {xs : List D} (h : it ρ = .ok (xs, ρ1)) : sFor it t f ρ = forL t f xs ρ1 := by
  show ((it ρ).bind fun x => _) = _
  rw [h]
  rfl
variable {t : D → Env' → Out Env'} {x : D} {xs : List D}
theorem for_nx (h1 : t x ρ = .ok ρ1) (h2 : f ρ1 = .ok (.nx, ρ2)) : forL t f (x :: xs) ρ = forL t f xs ρ2 := by
  show ((noX (t x ρ)).bind fun ρ1 => _) = _
  rw [h1]
  show ((f ρ1).bind fun p => _) = _
  rw [h2]
  rfl
theorem for_cnt (h1 : t x ρ = .ok ρ1) (h2 : f ρ1 = .ok (.cnt, ρ2)) : forL t f (x :: xs) ρ = forL t f xs ρ2 := by
  show ((noX (t x ρ)).bind fun ρ1 => _) = _
  rw [h1]
  show ((f ρ1).bind fun p => _) = _
  rw [h2]
  rfl
theorem for_ret (h1 : t x ρ = .ok ρ1) (h2 : f ρ1 = .ok (.ret d, ρ2)) : forL t f (x :: xs) ρ = .ok (.ret d, ρ2) := by
  show ((noX (t x ρ)).bind fun ρ1 => _) = _
  rw [h1]
  show ((f ρ1).bind fun p => _) = _
  rw [h2]
  rfl
theorem for_brk (h1 : t x ρ = .ok ρ1) (h2 : f ρ1 = .ok (.brk, ρ2)) : forL t f (x :: xs) ρ = .ok (.nx, ρ2) := by
  show ((noX (t x ρ)).bind fun ρ1 => _) = _
  rw [h1]
  show ((f ρ1).bind fun p => _) = _
  rw [h2]
  rfl
theorem for_exc {c : Str} {fs : List D} (h1 : t x ρ = .ok ρ1) (h2 : f ρ1 = .exc c fs) : forL t f (x :: xs) ρ = .exc c fs := by
  show ((noX (t x ρ)).bind fun ρ1 => _) = _
  rw [h1]
  show ((f ρ1).bind fun p => _) = _
  rw [h2]
  rfl
variable {c : Env' → Out (Bool × Env')} {n : Nat}
theorem while_go (h1 : c ρ = .ok (true, ρ1)) (h2 : f ρ1 = .ok (.nx, ρ2)) : whileL c f (n + 1) ρ = whileL c f n ρ2 := by
  show ((c ρ).bind fun t => if t.1 = true then (f t.2).bind fun p => match p.1 with
      | .nx => whileL c f n p.2
      | .cnt => whileL c f n p.2
      | .brk => .ok (.nx, p.2)
      | .ret d => .ok (.ret d, p.2)
      | .new d => .ok (.new d, p.2)
    else .ok (.nx, t.2)) = _
  rw [h1]
  show ((f ρ1).bind fun p => _) = _
  rw [h2]
  rfl
theorem while_ret (h1 : c ρ = .ok (true, ρ1)) (h2 : f ρ1 = .ok (.ret d, ρ2)) : whileL c f (n + 1) ρ = .ok (.ret d, ρ2) := by
  show ((c ρ).bind fun t => if t.1 = true then (f t.2).bind fun p => match p.1 with
      | .nx => whileL c f n p.2
      | .cnt => whileL c f n p.2
      | .brk => .ok (.nx, p.2)
      | .ret d => .ok (.ret d, p.2)
      | .new d => .ok (.new d, p.2)
    else .ok (.nx, t.2)) = _
  rw [h1]
  show ((f ρ1).bind fun p => _) = _
  rw [h2]
  rfl
theorem while_end (h1 : c ρ = .ok (false, ρ1)) : whileL c f (n + 1) ρ = .ok (.nx, ρ1) := by
  show ((c ρ).bind fun t => _) = _
  rw [h1]
  rfl
theorem if_yes (h1 : c ρ = .ok (true, ρ1)) : sIf c f g ρ = f ρ1 := by
  show ((c ρ).bind fun t => _) = _
  rw [h1]
  rfl
theorem if_no (h1 : c ρ = .ok (false, ρ1)) : sIf c f g ρ = g ρ1 := by
  show ((c ρ).bind fun t => _) = _
  rw [h1]
  rfl
theorem forK_eq {i : Nat} {ys : List D} {r : Fl × Env'} (h : ρ[i]? = some (.val (.dic ys))) (e : forL t f (keysD ys) ρ = .ok r) : sForK i t f ρ = .ok r := by
  show (match ρ[i]? with
    | some (.val (.dic xs)) => noX (forL t f (keysD xs) ρ)
    | _ => .bad) = _
  rw [h]
  show noX (forL t f (keysD ys) ρ) = _
  rw [e]
  rfl
end
end VL

/-! V40: d.get(k, x), max, an if-expression that draws, enumerate. -/
namespace VL
open PySem PySem.Spec L2 PyProof.Rows

/-! ### d.get(k, x) -/
def gGet (xs : List D) (k x : D) : Out D := match keyQ k with
  | some _ => .ok ((lookD xs k).getD x)
  | none => .bad
def rGet (f g h : Env' → Out D) : Env' → Out D := fun ρ => (f ρ).bind fun d => match d with
  | .dic xs => (g ρ).bind fun k => (h ρ).bind fun x => noX (gGet xs k x)
  | _ => .bad
section
variable {X : Cx} {W : WX} {b : Bool} {o e e' : Expr} {f g h : Env' → Out D} {apos cpos : Pos}
theorem SR.get2 (hu : X.A.units + 1 < cLine) (hf : SR b X W o f) (hg : SR b X W e g) (hh : SR b X W e' h) (m : M2 X o "get" apos e e' cpos) : SR b X W (.Call (.Attribute o "get" apos) [e, e'] [] cpos) (rGet f g h) := by
  refine SR.imp (pe_dget2 hu hf.pe hg.pe hh.pe m) ?_
  rintro σ H Q ⟨F, ρ, s, q⟩
  refine ⟨F, ρ, s, on_imp (on_bind q) (fun x ex q v1 F1 H1 n1 rx => ?_) fun _ _ _ q => q⟩
  cases x <;> first | (exact q.elim) | skip
  rename_i xs
  have s1 := s.new n1
  obtain ⟨a, kvs, rfl, h1, r1⟩ := rep_dic rx
  refine ⟨a, rfl, .inl ⟨kvs, s1.bs_le _ _ h1⟩, F1, ρ, s1, on_imp (on_bind q) (fun k ek q v2 F2 H2 n2 rk => ⟨F2, ρ, s1.new n2, on_imp (on_bind q) (fun x ex q v3 F3 H3 n3 rx => ?_) fun _ _ _ q => (q.new n1).new n2⟩) fun _ _ _ q => q.new n1⟩
  obtain ⟨d, ed, q⟩ := noX_on q
  have s2 := s1.new n2
  have s3 := s2.new n3
  unfold gGet at ed
  split at ed
  · rename_i kq hq
    cases ed
    obtain ⟨e1, e2⟩ := rep_key rk hq
    subst e1 e2
    have le3 : Le (bs b F1 H1 σ ρ) (bs b F3 H3 σ ρ) := (bs_new s1 n2).trans (bs_new s2 n3)
    refine ⟨valV kvs kq, .inl ⟨kvs, kq, s3.bs_le _ _ (le3 _ _ h1), rfl, rfl⟩, q _ _ _ ((n1.trans n2).trans n3) ?_⟩
    cases hw : lookD xs (keyD kq) with
    | some w =>
      obtain ⟨v, hv, rv⟩ := (lookD_ok r1).1 _ hw
      rw [hv]
      exact Rep.mono le3 _ _ rv
    | none =>
      rw [(lookD_ok r1).2 hw]
      exact rx
  · cases ed
end
/-! ### max -/
def maxI : List Int → Option Int
  | [] => none
  | a :: l => some (l.foldl (fun m x => if m < x then x else m) a)
theorem maxI_fold : ∀ (l : List Int) (a : Int), a ≤ l.foldl (fun m x => if m < x then x else m) a ∧ (∀ x ∈ l, x ≤ l.foldl (fun m x => if m < x then x else m) a) ∧ (l.foldl (fun m x => if m < x then x else m) a = a ∨ l.foldl (fun m x => if m < x then x else m) a ∈ l)
  | [], a => ⟨Int.le_refl _, fun _ h => (nomatch h), .inl rfl⟩
  | b :: l, a => by
    have ih := maxI_fold l (if a < b then b else a)
    have h1 : a ≤ (if a < b then b else a) := by split <;> omega
    have h2 : b ≤ (if a < b then b else a) := by split <;> omega
    rw [List.foldl_cons]
    refine ⟨Int.le_trans h1 ih.1, fun x hx => ?_, ?_⟩
    · rcases List.mem_cons.mp hx with rfl | hx
      · exact Int.le_trans h2 ih.1
      · exact ih.2.1 x hx
    · rcases ih.2.2 with w | w
      · rw [w]
        by_cases c : a < b
        · rw [if_pos c]
          exact .inr List.mem_cons_self
        · rw [if_neg c]
          exact .inl rfl
      · exact .inr (List.mem_cons_of_mem _ w)
theorem maxI_spec {l : List Int} {m : Int} (h : maxI l = some m) : m ∈ l ∧ ∀ x ∈ l, x ≤ m := by
  cases l with
  | nil => cases h
  | cons a l =>
    have ih := maxI_fold l a
    have h : l.foldl (fun m x => if m < x then x else m) a = m := Option.some.inj h
    rw [h] at ih
    refine ⟨?_, fun x hx => ?_⟩
    · rcases ih.2.2 with w | w
      · rw [w]
        exact List.mem_cons_self
      · exact List.mem_cons_of_mem _ w
    · rcases List.mem_cons.mp hx with rfl | hx
      · exact ih.1
      · exact ih.2.1 x hx
def gMax : List D → Out D
  | [.lst xs] => match intsD xs with
    | some ns => match maxI ns with
      | some m => .ok (.int m)
      | none => .bad
    | none => .bad
  | _ => .bad
theorem reps_ints' {K : Fr'} {F : Hp} : ∀ {ns : List Int} {vs : List V}, Reps K F (ns.map D.int) vs → vs = ns.map V.int
  | [], vs, r => by
    cases vs with
    | nil => rfl
    | cons v vs => exact absurd (reps_len r) (by simp)
  | n :: ns, vs, r => by
    obtain ⟨v, vs', rfl, h1, h2⟩ := reps_cons r
    rw [rep_int h1, reps_ints' h2]
    rfl
theorem p_max {K : Fr'} : PureN K (rMax K) gMax := by
  intro F H xs ds d Q l rx e k
  unfold gMax at e
  split at e
  · rename_i ys
    split at e
    · rename_i ns hi
      split at e
      · rename_i m hm
        cases e
        obtain ⟨v, rfl, r⟩ := reps1 rx
        obtain ⟨a, vs, rfl, h1, q1⟩ := rep_lst r
        rw [intsD_some hi] at q1
        have ev := reps_ints' q1
        subst ev
        obtain ⟨s1, s2⟩ := maxI_spec hm
        refine ⟨a, ns, rfl, l.seqL h1, List.length_pos_of_mem s1, fun m' hm' hle => ?_⟩
        have : m' = m := Int.le_antisymm (s2 _ hm') (hle _ s1)
        rw [this]
        exact k _ _ _ (New.refl l) mk_int
      · cases e
    · cases e
  · cases e
/-! ### a if t else b, with draws -/
def mIf (t : Env' → Out (Bool × Env')) (f g : Env' → Out (D × Env')) : Env' → Out (D × Env') := fun ρ => (t ρ).bind fun c => if c.1 = true then f c.2 else g c.2
theorem SM.ifE {X : Cx} {W : WX} {x y z : Expr} {pos : Pos} {tf : Env' → Out (Bool × Env')} {f g : Env' → Out (D × Env')} (hc : SMT X W z tf) (ha : SM X W x f) (hb : SM X W y g) : SM X W (.IfExp z x y pos) (mIf tf f g) :=
  SM.imp (pe_ifExp hc.pe ha.pe hb.pe) fun σ H Q ⟨F, ρ, s, q⟩ => ⟨F, ρ, s, on_imp (on_bind q) (fun c ec q F1 H1 s1 p1 => by
    obtain ⟨c, ρ1⟩ := c
    cases c with
    | true =>
      have q := q
      dsimp only at q
      rw [if_pos rfl] at q ⊢
      exact ⟨F1, ρ1, s1, on_stp p1 rfl (s.rlen s1) q fun y ey q v2 F2 H2 s2 ry p2 => q v2 F2 H2 s2 ry (p1.trans p2)⟩
    | false =>
      have q := q
      dsimp only at q
      rw [if_neg Bool.false_ne_true] at q ⊢
      exact ⟨F1, ρ1, s1, on_stp p1 rfl (s.rlen s1) q fun y ey q v2 F2 H2 s2 ry p2 => q v2 F2 H2 s2 ry (p1.trans p2)⟩) fun _ _ _ q => q⟩
end VL

/-! V41: enumerate of a list or a tuple. -/
namespace VL
open PySem PySem.Spec L2 PyProof.Rows
open AutoSeq1 (wpAny_loadPart')
theorem new_enumT (l : Addr) (items : Array Value) (n : Nat) (dct : Option Addr) (sl : Array (Option Value)) :
    Meets (Builtin.«enumerate.__new__» ⟨[.type "enumerate", .ref l], []⟩) (fun _ R s => s.heap.get? l = some { cls := .type "tuple", dict := dct, data := .seq items n, slots := sl } ∧
      R (.ok (.ret (.ref (s.heap.push { cls := .type "tuple_iterator", data := .fields #[.ref l, .int 0 0] }).objs.size)))
        { s with heap := (s.heap.push { cls := .type "tuple_iterator", data := .fields #[.ref l, .int 0 0] }).push { cls := .type "enumerate", data := .fields #[.none, .bool false, .ref s.heap.objs.size, rawInt 0, .none, .none] } }) :=
  .of_wp fun prog w A R s h => by
    obtain ⟨hp, g, d, tk, os⟩ := s
    obtain ⟨hl, h⟩ := h
    have hsub := sub_enumerate
    have hL : Heap.IsTuple (Shared.heap ⟨hp, g, d, tk, os⟩) l items := ⟨_, hl, rfl, n, rfl⟩
    wp_walk using wpAny_loadPart' hl
    refine wpAny_stack_any fun st => wpAny_pure ?_
    split
    · rename_i c _ _ _ _ _
      cases (c == Value.type "enumerate")
      · wp_walk using wpAny_loadPart' hl, wpAny_pyIter_tuple hL
        exact ⟨_, rfl, h⟩
      · wp_walk using wpAny_loadPart' hl, wpAny_pyIter_tuple hL
        exact ⟨_, rfl, h⟩
    · wp_walk using wpAny_loadPart' hl, wpAny_pyIter_tuple hL
      exact ⟨_, rfl, h⟩
section
variable {prog : Program} {w : World} {A : Around} {E : Value → Shared → Prop} {s : Shared}
theorem call_enumT {l : Addr} {items : Array Value} {Q : Value → Shared → Prop} (hL : s.heap.IsTuple l items)
    (h : ∀ h', IsEnum h' (s.heap.objs.size + 1) s.heap.objs.size 0 .none → h'.IsTupleIter s.heap.objs.size l 0 → h'.objs.size = s.heap.objs.size + 2 →
      (∀ b o, s.heap.get? b = some o → h'.get? b = some o) → Q (.ref (s.heap.objs.size + 1)) { s with heap := h' }) :
    wpAny (model prog w) A (call (.type "enumerate") [.ref l]) Q E s := by
  obtain ⟨⟨c, dct, dt, sl⟩, hl, hc, n, hd⟩ := hL
  replace hc : c = .type "tuple" := hc
  replace hd : dt = .seq items n := hd
  subst hc hd
  refine callType_new F.called_enumerate (by decide) (F.typeCall_enumerate_1 _) (F.newCall_enumerate_1 _) (fun obj => F.args_object_init_2 obj _) F.entry_enumerate_new
    (new_enumT l items n dct sl) ⟨hl, ?_⟩
  have hz : (s.heap.push { cls := .type "tuple_iterator", data := .fields #[.ref l, .int 0 0] }).objs.size = s.heap.objs.size + 1 := Heap.size_push ..
  show _ ∧ _
  rw [hz]
  have he : IsEnum ((s.heap.push { cls := .type "tuple_iterator", data := .fields #[.ref l, .int 0 0] }).push
      { cls := .type "enumerate", data := .fields #[.none, .bool false, .ref s.heap.objs.size, rawInt 0, .none, .none] }) (s.heap.objs.size + 1) s.heap.objs.size 0 .none := by
    have := Heap.get?_push_size (s.heap.push { cls := .type "tuple_iterator", data := .fields #[.ref l, .int 0 0] })
      (o := { cls := .type "enumerate", data := .fields #[.none, .bool false, .ref s.heap.objs.size, rawInt 0, .none, .none] }) rfl
    rw [hz] at this
    exact this
  refine ⟨⟨_, he, rfl⟩, h _ he ⟨_, Heap.get?_push_of_some _ (Heap.get?_push_size _ rfl), rfl, rfl⟩ (by rw [Heap.size_push, hz]) fun b o x => Heap.get?_push_of_some _ (Heap.get?_push_of_some _ x)⟩
end
section
variable {prog : Program} {w : World} {A : Around} {E : Value → Shared → Prop} {s : Shared}
theorem next_enumT_end {e it t : Addr} {items : Array Value} {j : Nat} {i : Int} {old : Value} {Q : Option Value → Shared → Prop}
    (hh : A.handled = none) (he : IsEnum s.heap e it i old) (hit : s.heap.IsTupleIter it t j) (ht : s.heap.IsTuple t items) (hx : items[j]? = none)
    (hQ : ∀ h', Heap.ExtBut it s.heap h' → Q none { s with heap := h' }) : wpAny (model prog w) A (pyNext (.ref e)) Q E s := by
  have hT : s.TypeIs (.ref e) "enumerate" := ⟨_, he, rfl⟩
  unfold pyNext
  refine wpAny_bind (wpAny_attempt (wpAny_callSpecial?_slot (name := Str.ofString "__next__") hT F.slot_enumerate_next
    (wpAny_call_entry F.slot_enumerate_next hT F.entry_enumerate_next ?_ (F.args_enumerate_next_1 _))))
  show wpAny _ _ (field (.ref e) 2 >>= _) _ _ _
  refine wpAny_bind (wpAny_field he rfl (x := .ref it) rfl ?_)
  refine wpAny_bind (wpAny_nextOf_tuple_end (A := A.in1) hh hit ht hx fun h' x he' hx' => ?_)
  obtain ⟨o, ho, hc⟩ := hx'
  refine wpAny_bind (wpAny_isInstance (T := "StopIteration") (b := true) ⟨o, ho, hc⟩ isSubtype_stop ?_)
  exact wpAny_pure (hQ _ he')
end
def IteT (K : PySem.W.Frag) (a : Addr) : It :=
  ⟨fun i H => ∃ (xs : List V) (x : V), SqT K H a xs ∧ xs[i]? = some x, fun i H v H' => ∃ T x, v = .ref T ∧ H T = none ∧ H' = upd H T (.tup [.int (i : Nat), x]) ∧ ∀ xs, SqT K H a xs → xs[i]? = some x, fun i H => ∃ xs : List V, SqT K H a xs ∧ xs.length ≤ i⟩
theorem turn_enumT {P : Program} {w : World} {K : PySem.W.Frag} {elts : List Expr} {kk : Nat} {tpos : Pos} (a e it : Addr) :
    Turn P w K (.Tuple elts kk tpos) (IteT K a) [e, it] e (fun i h => (∃ old, IsEnum h e it ((i : Nat) : Int) old) ∧ h.IsTupleIter it a i ∧ e ≠ it ∧ a ≠ e ∧ a ≠ it) where
  mem := by simp
  obj := fun i h st b hb => by
    obtain ⟨⟨old, he⟩, ⟨o, ho, hc, hd⟩, _⟩ := st
    have e' : b = e ∨ b = it := by simpa using hb
    rcases e' with z | z
    · rw [z]; exact ⟨_, he, fun v q => nomatch q⟩
    · rw [z]; exact ⟨o, ho, fun v q => by rw [hd] at q; cases q⟩
  keep := fun i h h' st k => let ⟨⟨old, he⟩, hi, hne⟩ := st; ⟨⟨old, k e (by simp) _ he⟩, hi.at fun o q => k it (by simp) o q, hne⟩
  item := by
    intro X hP hw hK hc i pins s σ H E I hf st hg
    subst hP hw hK
    obtain ⟨⟨old, he⟩, hit, hne, nae, nai⟩ := st
    obtain ⟨xs, x, hq, hx⟩ := hg
    obtain ⟨its, rv, p, hz⟩ := I.tuple hq
    obtain ⟨u, hu, ru⟩ := rv.get hx
    have hel : e < s.heap.objs.size := Heap.lt_size he
    have hil : it < s.heap.objs.size := by obtain ⟨_, q, _⟩ := hit; exact Heap.lt_size q
    have hlt : i < its.toArray.size := by
      have := (List.getElem?_eq_some_iff.mp hu).1
      simpa using this
    refine wpAny_pyNext_enum_itemD (Draws.tuple (A := X.A.in1) (I.ok.hd hc) it a nai its.toArray) he ⟨hit, p⟩ hlt hne (by simp; exact ⟨hne, Ne.symm nae⟩) fun x' h' tk hx' ho st' hT hsz hk => ?_
    obtain rfl : x' = u := by
      have : (some x' : Option Value) = some u := by
        rw [← hu]
        simpa using hx'.symm
      exact Option.some.inj this
    refine ⟨_, rfl, wpAny_letOwnedTupleGo_enum (s := { s with heap := h', toks := tk + 1 }) ho fun h'' he' sb => ?_⟩
    have hT2 : h''.get? s.heap.objs.size = some { cls := .type "tuple", data := .seq #[.int i tk, x'] } := (sb.2 _ (Nat.ne_of_gt hel)).trans hT
    have new : ObjOk X.prog X.w (upd H s.heap.objs.size (.tup [.int (i : Nat), x])) h'' s.heap.objs.size (.tup [.int (i : Nat), x]) :=
      ⟨by show 2 ≤ sizeLine; decide, [.int i tk, x'], .cons ⟨_, rfl⟩ (.cons ru .nil), ⟨_, hT2, rfl, _, rfl⟩⟩
    have I1 : Inv X pins σ (upd H s.heap.objs.size (.tup [.int (i : Nat), x])) { s with heap := h'', toks := tk + 1 } :=
      I.turnedNew (ch := [e, it]) (fun b ob hb q => (sb.2 b (fun z => hb (by simp [z]))).trans (hk b ob (fun z => hb (by simp [z])) (fun z => hb (by simp [z])) q)) hf (Nat.le_refl _) new
    refine ⟨.ref s.heap.objs.size, _, I1, rfl, ⟨_, x, rfl, I.hok.fresh (Nat.le_refl _), rfl, fun ys hy => by rw [I.tuple_inj hy hq]; exact hx⟩, ⟨⟨x', ?_⟩, st'.1.at fun o q => (sb.2 it (Ne.symm hne)).trans q, hne, nae, nai⟩, fun b hb => ?_⟩
    · have e1 : ((i + 1 : Nat) : Int) = (i : Int) + 1 := by omega
      rw [e1]; exact he'
    · have hb' : b < s.heap.objs.size := by
        have e' : b = e ∨ b = it := by simpa using hb
        rcases e' with z | z
        · rw [z]; exact hel
        · rw [z]; exact hil
      rw [upd_ne (Nat.ne_of_lt hb')]
      exact (hf b hb).1
  done := by
    intro X hP hw hK hc i pins s σ H E I hf st hg
    subst hP hw hK
    obtain ⟨⟨old, he⟩, hit, hne, nae, nai⟩ := st
    obtain ⟨xs, hq, hx⟩ := hg
    obtain ⟨its, rv, p, hz⟩ := I.tuple hq
    obtain ⟨f0, f1, f2, f3, f4, f5⟩ := hf it (by simp)
    have hl := rv.length
    exact next_enumT_end (I.ok.hd hc) he hit (show s.heap.IsTuple a its.toArray from p) (by simp; omega) fun h' eb => ⟨rfl, I.turned (t' := s.toks) (fun b o hb q => eb b o hb q) f0 f1 f3 f4 f5⟩
  self := fun A i s Q E st h => let ⟨⟨_, he⟩, _⟩ := st; wpAny_pyIter_enum he h
def iEnumT (K : PySem.W.Frag) (ta : TA) : TI := fun σ H R => ta σ H fun vs H1 => ∃ a xs, vs = [.ref a] ∧ SqT K H1 a xs ∧ R (IteT K a) H1
theorem pi_enumT {X : Cx} {e : Expr} {ta : TA} {p pos tpos : Pos} {elts : List Expr} {kk : Nat} (hg : Gl X "enumerate") (hm : X.mg "enumerate" = none) (ha : PA X [e] ta) (hs : starEach [e] X.env = [(false, eval e X.env)] := by rfl) :
    PI X (.Tuple elts kk tpos) (.Call (.Name "enumerate" p) [e] [] pos) (iEnumT X.K ta) := by
  refine ⟨fun pins s σ H R I h => ?_⟩
  refine Call_ (ld_blt I hg hm boot_enumerate (PyProof.Rows.callWith_type1 (thn (ha.run pos pins s σ H _ I h) fun us s1 ⟨vs, H1, I1, r1, q1⟩ => ?_) hs rfl))
  obtain ⟨a, xs, ex, hq, q⟩ := q1
  subst ex
  cases r1 with
  | cons r rr =>
    cases rr
    cases r
    obtain ⟨its, rv, p', hz⟩ := I1.tuple hq
    have hal : a < s1.heap.objs.size := by
      obtain ⟨o, ho, _⟩ := (p' : IsTup s1.heap a its.toArray)
      exact Heap.lt_size ho
    refine call_enumT (show s1.heap.IsTuple a its.toArray from p') fun h' he hit hsz hk => wpAny_pyIter_enum he ?_
    have I2 : Inv X pins σ H1 { s1 with heap := h' } := I1.kept (t' := s1.toks) hk
    refine ⟨s1.heap.objs.size + 1, [s1.heap.objs.size + 1, s1.heap.objs.size], _, _, H1, rfl, I2, turn_enumT a (s1.heap.objs.size + 1) s1.heap.objs.size, ⟨⟨.none, he⟩, hit, Nat.succ_ne_self _, Nat.ne_of_lt (Nat.lt_succ_of_lt hal), Nat.ne_of_lt hal⟩, fun b hb => ?_, q⟩
    have e' : b = s1.heap.objs.size + 1 ∨ b = s1.heap.objs.size := by simpa using hb
    have hle : s1.heap.objs.size ≤ b := by
      rcases e' with z | z
      · rw [z]; exact Nat.le_add_right _ _
      · rw [z]; exact Nat.le_refl _
    exact I1.fpOk hle (I1.hok.fresh hle)
def enumD : Nat → List D → List D
  | _, [] => []
  | n, x :: xs => .tup [.int n, x] :: enumD (n + 1) xs
theorem enumD_len : ∀ (n : Nat) (xs : List D), (enumD n xs).length = xs.length
  | _, [] => rfl
  | n, x :: xs => by
    show (enumD (n + 1) xs).length + 1 = _
    rw [enumD_len]
    rfl
theorem enumD_get : ∀ (n : Nat) (xs : List D) (i : Nat), (enumD n xs)[i]? = xs[i]?.map fun x => .tup [.int ((n + i : Nat) : Int), x]
  | _, [], i => by
    rfl
  | n, x :: xs, 0 => rfl
  | n, x :: xs, i + 1 => by
    show (enumD (n + 1) xs)[i]? = xs[i]?.map _
    rw [enumD_get]
    have : n + 1 + i = n + (i + 1) := by omega
    rw [this]
theorem pairNew {K : Fr'} {F H : Hp} {T : Addr} {i : Int} {x : V} {d : D} (l : Le F H) (hT : H T = none) (r : Rep K F d x) : New F H (upd F T (.tup [.int i, x])) (upd H T (.tup [.int i, x])) ∧ Rep K (upd F T (.tup [.int i, x])) (.tup [.int i, d]) (.ref T) :=
  ⟨New.upd (o := .tup [.int i, x]) l hT, mk_tup (.inl (.inl upd_same)) (mk_cons mk_int (mk_cons (Rep.mono (Le.updL (l.none hT)) _ _ r) mk_nil))⟩
theorem it_enum {K : Fr'} {F H0 : Hp} {a : Addr} {vs : List V} {xs : List D} (h : SqL K F a vs) (r : Reps K F xs vs) : ItOk K F H0 (Ite K a) (enumD 0 xs) where
  go := fun G H i l l2 _ hi => by
    have hv : i < vs.length := by rw [reps_len r, ← enumD_len 0 xs]; exact hi
    exact ⟨vs, vs[i], l2.seqL (l.seqL h), List.getElem?_eq_getElem hv⟩
  stop := fun G H i l l2 _ hi => ⟨vs, l2.seqL (l.seqL h), by rw [reps_len r, ← enumD_len 0 xs]; exact hi⟩
  yld := fun G H i d v H' l l2 _ hd y => by
    obtain ⟨T, x, rfl, hT, rfl, y⟩ := y
    rw [enumD_get] at hd
    obtain ⟨e, he, rfl⟩ := Option.map_eq_some_iff.mp hd
    obtain ⟨w, hw, rw'⟩ := reps_get r he
    have e := (y vs (l2.seqL (l.seqL h))).symm.trans hw
    cases e
    rw [Nat.zero_add]
    exact ⟨_, pairNew l2 hT (Rep.mono l _ _ rw')⟩
theorem it_enumT {K : Fr'} {F H0 : Hp} {a : Addr} {vs : List V} {xs : List D} (h : SqT K F a vs) (r : Reps K F xs vs) : ItOk K F H0 (IteT K a) (enumD 0 xs) where
  go := fun G H i l l2 _ hi => by
    have hv : i < vs.length := by rw [reps_len r, ← enumD_len 0 xs]; exact hi
    exact ⟨vs, vs[i], l2.seqT (l.seqT h), List.getElem?_eq_getElem hv⟩
  stop := fun G H i l l2 _ hi => ⟨vs, l2.seqT (l.seqT h), by rw [reps_len r, ← enumD_len 0 xs]; exact hi⟩
  yld := fun G H i d v H' l l2 _ hd y => by
    obtain ⟨T, x, rfl, hT, rfl, y⟩ := y
    rw [enumD_get] at hd
    obtain ⟨e, he, rfl⟩ := Option.map_eq_some_iff.mp hd
    obtain ⟨w, hw, rw'⟩ := reps_get r he
    have e := (y vs (l2.seqT (l.seqT h))).symm.trans hw
    cases e
    rw [Nat.zero_add]
    exact ⟨_, pairNew l2 hT (Rep.mono l _ _ rw')⟩
def enumOf : D → Out (List D)
  | .lst xs => .ok (enumD 0 xs)
  | .tup xs => .ok (enumD 0 xs)
  | _ => .bad
def iEnumU (f : Env' → Out D) : Env' → Out (List D) := fun ρ => (f ρ).bind enumOf
theorem SI.enumU {X : Cx} {W : WX} {b : Bool} {e : Expr} {f : Env' → Out D} {p pos tpos : Pos} {elts : List Expr} {kk : Nat} (hg : Gl X "enumerate") (hm : X.mg "enumerate" = none) (he : SR b X W e f) (hs : starEach [e] X.env = [(false, eval e X.env)] := by rfl) :
    SI b X W (.Tuple elts kk tpos) (.Call (.Name "enumerate" p) [e] [] pos) (iEnumU f) := ⟨PI.imp (PI.or (pi_enum hg hm (pa_cons he.pe pa_nil (by rw [hs]; rfl)) hs) (pi_enumT hg hm (pa_cons he.pe pa_nil (by rw [hs]; rfl)) hs)) fun σ H R ⟨F, ρ, s, q⟩ => by
  cases e : f ρ with
  | bad => unfold iEnumU at q; rw [e] at q; exact q.elim
  | exc c fs =>
    unfold iEnumU at q
    rw [e] at q
    refine .inl ⟨F, ρ, s, ?_⟩
    rw [e]
    exact q
  | ok d =>
    unfold iEnumU at q
    rw [e] at q
    cases d <;> first | (exact q.elim) | skip
    · refine .inr ⟨F, ρ, s, ?_⟩
      rw [e]
      intro v F' H' n r
      obtain ⟨a, vs, rfl, h1, r1⟩ := rep_tup r
      exact ⟨a, vs, rfl, (s.new n).bs_le.seqT h1, q _ F' H' n (it_enumT h1 r1)⟩
    · refine .inl ⟨F, ρ, s, ?_⟩
      rw [e]
      intro v F' H' n r
      obtain ⟨a, vs, rfl, h1, r1⟩ := rep_lst r
      exact ⟨a, vs, rfl, (s.new n).bs_le.seqL h1, q _ F' H' n (it_enum h1 r1)⟩⟩
end VL

/-! V42: [e for x in xs for y in ys]. -/
namespace VL
open PySem PySem.Spec L2 PyProof.Rows

theorem newNone {F H F' H' : Hp} {D : Addr} {o : HO} (n : New F H F' H') (h : H D = some o) (f : F D = none) : F' D = none := by
  cases z : F' D with
  | none => rfl
  | some u =>
    rcases n.fr D (by rw [z]; exact Option.some_ne_none _) with w | w
    · exact absurd f w
    · rw [h] at w
      cases w
theorem newDel {F H F' H' : Hp} {D : Addr} (n : New F H F' H') (f : F D = none) (f' : F' D = none) : New F (del H D) F' (del H' D) := by
  refine ⟨n.le, fun a u h => ?_, fun b o h => ?_, fun b h => ?_⟩
  · have ha : a ≠ D := fun z => by
      subst z
      rcases h with h | ⟨o, h⟩ <;> rw [f'] at h <;> cases h
    exact Rd.congr (del_ne ha).symm (n.le' a u h)
  · have hb : b ≠ D := fun z => by
      subst z
      rw [del_same] at h
      cases h
    rw [del_ne hb] at h ⊢
    exact n.kp b o h
  · have hb : b ≠ D := fun z => by
      subst z
      exact h f'
    rw [del_ne hb]
    exact n.fr b h
theorem del_upd2 {H : Hp} {D : Addr} {o : HO} : del (upd H D o) D = del H D := by
  funext b
  by_cases e : b = D
  · subst e
    rw [del_same, del_same]
  · rw [del_ne e, del_ne e, upd_ne e]
theorem del_none {H : Hp} {D : Addr} (h : H D = none) : del H D = H := by
  funext b
  by_cases e : b = D
  · subst e
    rw [del_same, h]
  · rw [del_ne e]
theorem kept_del {F H F1 H1 : Hp} {D : Addr} (f : F D = none) (n : New F (del H D) F1 (del H1 D)) : Kept F H H1 := fun b o hf h => by
  have hb : b ≠ D := fun z => by
    subst z
    exact hf f
  have := n.kp b o (by rw [del_ne hb]; exact h)
  rwa [del_ne hb] at this
section
variable {K : Fr'} {mg : MG} {vs sl : List Nat} {g : D → Env' → Out Env'} {t : Env' → Out Bool} {f : Env' → Out D}
/-- the inner walk: the list at D is gone on with -/
theorem lcIn (hsl : ∀ i, i ∈ sl → i ∈ vs) {F0 H0 : Hp} {σ : L2.St} {ρ : Env'} {D : Addr} {acc0 ds ys : List VL.D} {accV0 : List V} {J : It} (s0 : St2 K F0 H0 σ ρ) (hD : H0 D = some (.lst accV0)) (fD : F0 D = none) (nD : ¬ Owned σ ρ D)
    (it : ItOk K F0 H0 J ys) (r0 : Reps K F0 acc0 accV0) (eds : cmpL vs g t f ρ ys = .ok ds) (hb : acc0.length + ds.length ≤ sizeLine) (Nx : Hp → Prop)
    (k : ∀ F' H' accV, New F0 (del H0 D) F' (del H' D) → St2 K F' H' σ ρ → F' D = none → H' D = some (.lst accV) → Reps K F' (acc0 ++ ds) accV → Nx H') :
    ∃ W1 : Nat → Nat → Hp → Prop, (∃ m, W1 0 m H0) ∧ ∀ j m H, W1 j m H → (J.stop j H ∧ Nx H) ∨ (J.go j H ∧ ∃ Nx1 : Hp → Prop, (∀ H', Nx1 H' → ∃ m', m' < m ∧ W1 (j + 1) m' H') ∧ ∀ x H', J.yld j H x H' →
      gM K sl g x (wipe σ vs) H' fun σ3 H5 => wipe σ3 vs = wipe σ vs ∧ tRT K mg W0 t σ3 H5 fun b H6 => if b = true then tR K mg W0 false f σ3 H6 fun y H7 => ∃ acc, H7 D = some (.lst acc) ∧ acc.length < sizeLine ∧ Nx1 (upd H7 D (.lst (acc ++ [y]))) else Nx1 H6) := by
  refine ⟨fun j m H1 => m = ys.length - j ∧ j ≤ ys.length ∧ ∃ F1 acc accV rest, St2 K F1 H1 σ ρ ∧ New F0 (del H0 D) F1 (del H1 D) ∧ F1 D = none ∧ H1 D = some (.lst accV) ∧ Reps K F1 (acc0 ++ acc) accV ∧ cmpL vs g t f ρ (ys.drop j) = .ok rest ∧ ds = acc ++ rest,
    ⟨ys.length, by omega, Nat.zero_le _, F0, [], accV0, ds, s0, newDel (New.refl s0.le) fD fD, fD, hD, by rw [List.append_nil]; exact r0, eds, rfl⟩, ?_⟩
  rintro j m H1 ⟨rfl, hj, F1, acc, accV, rest, s1, n1, f1, h1, r1, e1, rfl⟩
  have k1 := kept_del fD n1
  by_cases hlt : j < ys.length
  · rw [drop_cons hlt] at e1
    obtain ⟨ρ2, eρ, e1⟩ := bind_ok e1
    obtain ⟨c, ec, e1⟩ := bind_ok e1
    refine .inr ⟨it.go F1 H1 j n1.le s1.le k1 hlt, fun H2 => j + 1 ≤ ys.length ∧ ∃ F1 acc2 accV rest2, St2 K F1 H2 σ ρ ∧ New F0 (del H0 D) F1 (del H2 D) ∧ F1 D = none ∧ H2 D = some (.lst accV) ∧ Reps K F1 (acc0 ++ acc2) accV ∧ cmpL vs g t f ρ (ys.drop (j + 1)) = .ok rest2 ∧ acc ++ rest = acc2 ++ rest2,
      fun H2 h2 => ⟨ys.length - (j + 1), by omega, rfl, h2⟩, fun v H2 hy => ?_⟩
    obtain ⟨F2, n2, r2⟩ := it.yld F1 H1 j ys[j] v H2 n1.le s1.le k1 (List.getElem?_eq_getElem hlt) hy
    have s2 := s1.new n2
    refine ⟨F2, wipeE ρ vs, _, s2.wipe vs, r2, on_ok (noX_ok_inv eρ) fun σ3 s3 o3 w3 => ⟨wipe_eq o3 hsl, F2, ρ2, s3, on_ok (noX_ok_inv ec) fun F4 H4 n4 => ?_⟩⟩
    have n14 := n2.trans n4
    have f4 := newNone n14 h1 f1
    cases c with
    | true =>
      rw [if_pos rfl] at e1
      refine iteT ?_
      obtain ⟨d, ed, e1⟩ := bind_ok e1
      obtain ⟨rest2, er, e1⟩ := bind_ok e1
      cases e1
      refine ⟨F4, ρ2, s3.new n4, on_ok (noX_ok_inv ed) fun v5 F5 H5 n5 r5 => ?_⟩
      have n15 := n14.trans n5
      have f5 := newNone n15 h1 f1
      have s5 : St2 K F5 H5 σ ρ := s1.new n15
      refine ⟨accV, n15.kp _ _ h1, ?_, hlt, F5, acc ++ [d], _, rest2, s5.side f5 nD, ?_, f5, upd_same, ?_, er, ?_⟩
      · rw [reps_len r1, List.length_append]
        rw [List.length_append, List.length_cons] at hb
        omega
      · rw [del_upd2]
        exact n1.trans (newDel n15 f1 f5)
      · rw [← List.append_assoc]
        exact reps_app (Reps.mono n15.le _ _ r1) (mk_cons r5 mk_nil)
      · rw [List.append_assoc]
        rfl
    | false =>
      rw [if_neg Bool.false_ne_true] at e1
      refine iteF ?_
      exact ⟨hlt, F4, acc, accV, rest, s1.new n14, n1.trans (newDel n14 f1 f4), f4, n14.kp _ _ h1, Reps.mono n14.le _ _ r1, e1, rfl⟩
  · have e : j = ys.length := by omega
    subst e
    rw [List.drop_length] at e1
    cases e1
    refine .inl ⟨it.stop F1 H1 _ n1.le s1.le k1 (Nat.le_refl _), ?_⟩
    rw [List.append_nil] at k
    exact k F1 H1 accV n1 s1 f1 h1 r1
variable {it1 : Env' → Out (List D)} {vs1 sl1 : List Nat} {g1 : D → Env' → Out Env'} {t1 : Env' → Out Bool} {it : Env' → Out (List D)} {W : WX}
def cmpL2 (vs : List Nat) (g : D → Env' → Out Env') (t : Env' → Out Bool) (it1 : Env' → Out (List D)) (vs1 : List Nat) (g1 : D → Env' → Out Env') (t1 : Env' → Out Bool) (f : Env' → Out D) (ρ : Env') : List D → Out (List D)
  | [] => .ok []
  | x :: xs => (noX (g x (wipeE ρ vs))).bind fun ρ1 => (noX (t ρ1)).bind fun c => if c = true then (noX (it1 ρ1)).bind fun ys => (noX (cmpL vs1 g1 t1 f ρ1 ys)).bind fun ds => (cmpL2 vs g t it1 vs1 g1 t1 f ρ xs).bind fun es => .ok (ds ++ es) else cmpL2 vs g t it1 vs1 g1 t1 f ρ xs
def rLc2 (it : Env' → Out (List D)) (vs : List Nat) (g : D → Env' → Out Env') (t : Env' → Out Bool) (it1 : Env' → Out (List D)) (vs1 : List Nat) (g1 : D → Env' → Out Env') (t1 : Env' → Out Bool) (f : Env' → Out D) : Env' → Out D := fun ρ => (it ρ).bind fun xs => (noX (cmpL2 vs g t it1 vs1 g1 t1 f ρ xs)).bind fun ds => if ds.length ≤ sizeLine then .ok (.lst ds) else .bad
theorem lc2_read (hsl : ∀ i, i ∈ sl → i ∈ vs) (hsl1 : ∀ i, i ∈ sl1 → i ∈ vs1) : ∀ σ H Q, tO K mg W false (rLc2 it vs g t it1 vs1 g1 t1 f) σ H Q → tLc2 (iR K mg W false it) (gM K sl g) (tRT K mg W0 t) (iR K mg W0 false it1) (gM K sl1 g1) (tRT K mg W0 t1) (tR K mg W0 false f) vs vs1 σ H Q := by
  rintro σ H Q ⟨F, ρ, s, q⟩
  refine ⟨F, ρ, s, on_imp (on_bind q) (fun xs exs q J F0 H0 n0 it => ?_) fun _ _ _ q => q⟩
  obtain ⟨ds, eds, q⟩ := noX_on (on_bind q)
  by_cases hl : ds.length ≤ sizeLine
  · rw [if_pos hl] at q
    have s0 := s.new n0
    intro D hD
    have nD : ¬ Owned σ ρ D := fun w => by
      obtain ⟨o, ho⟩ := s0.owned_some w
      rw [hD] at ho
      cases ho
    have f0 : F0 D = none := s0.le.none hD
    have n00 : New F0 H0 F0 (del (upd H0 D (.lst [])) D) := by
      rw [del_upd2, del_none hD]
      exact New.refl s0.le
    refine ⟨fun i m H1 => m = xs.length - i ∧ i ≤ xs.length ∧ ∃ F1 acc accV rest, St2 K F1 H1 σ ρ ∧ New F0 H0 F1 (del H1 D) ∧ F1 D = none ∧ H1 D = some (.lst accV) ∧ Reps K F1 acc accV ∧ cmpL2 vs g t it1 vs1 g1 t1 f ρ (xs.drop i) = .ok rest ∧ ds = acc ++ rest,
      ⟨xs.length, by omega, Nat.zero_le _, F0, [], [], ds, s0.side f0 nD, n00, f0, upd_same, mk_nil, eds, rfl⟩, ?_⟩
    rintro i m H1 ⟨rfl, hi, F1, acc, accV, rest, s1, n1, f1, h1, r1, e1, rfl⟩
    have k1 : Kept F0 H0 H1 := fun b o hf h => by
      have := n1.kp b o h
      have hb : b ≠ D := fun z => by
        subst z
        exact hf f0
      rwa [del_ne hb] at this
    by_cases hlt : i < xs.length
    · rw [drop_cons hlt] at e1
      obtain ⟨ρ2, eρ, e1⟩ := bind_ok e1
      obtain ⟨c, ec, e1⟩ := bind_ok e1
      refine .inr ⟨it.go F1 H1 i n1.le s1.le k1 hlt, fun H2 => i + 1 ≤ xs.length ∧ ∃ F1 acc2 accV rest2, St2 K F1 H2 σ ρ ∧ New F0 H0 F1 (del H2 D) ∧ F1 D = none ∧ H2 D = some (.lst accV) ∧ Reps K F1 acc2 accV ∧ cmpL2 vs g t it1 vs1 g1 t1 f ρ (xs.drop (i + 1)) = .ok rest2 ∧ acc ++ rest = acc2 ++ rest2,
        fun H2 h2 => ⟨xs.length - (i + 1), by omega, rfl, h2⟩, fun v H2 hy => ?_⟩
      obtain ⟨F2, n2, r2⟩ := it.yld F1 H1 i xs[i] v H2 n1.le s1.le k1 (List.getElem?_eq_getElem hlt) hy
      have s2 := s1.new n2
      refine ⟨F2, wipeE ρ vs, _, s2.wipe vs, r2, on_ok (noX_ok_inv eρ) fun σ3 s3 o3 w3 => ⟨wipe_eq o3 hsl, F2, ρ2, s3, on_ok (noX_ok_inv ec) fun F4 H4 n4 => ?_⟩⟩
      have n14 := n2.trans n4
      have f4 := newNone n14 h1 f1
      cases c with
      | true =>
        rw [if_pos rfl] at e1
        refine iteT ?_
        obtain ⟨ys, ey, e1⟩ := bind_ok e1
        obtain ⟨d1, ed, e1⟩ := bind_ok e1
        obtain ⟨rest2, er, e1⟩ := bind_ok e1
        cases e1
        refine ⟨F4, ρ2, s3.new n4, on_ok (noX_ok_inv ey) fun J1 F5 H5 n5 it5 => ?_⟩
        have n15 := n14.trans n5
        have f5 := newNone n15 h1 f1
        have nD3 : ¬ Owned σ3 ρ2 D := fun w => nD (owned_wipe (w3 D w))
        refine lcIn hsl1 ((s3.new n4).new n5) (n15.kp _ _ h1) f5 nD3 it5 (Reps.mono n15.le _ _ r1) (noX_ok_inv ed) (by rw [List.length_append, List.length_append] at hl; omega) _ fun F6 H6 accV6 n6 s6 f6 h6 r6 => ?_
        have n16 : New F0 H0 F6 (del H6 D) := (n1.trans (newDel n15 f1 f5)).trans n6
        refine ⟨hlt, F6, acc ++ d1, accV6, rest2, ?_, n16, f6, h6, r6, er, by rw [List.append_assoc]⟩
        have s7 : St2 K F6 (del H6 D) σ ρ := s0.new n16
        have s8 := s7.side (o := .lst accV6) f6 nD
        rwa [del_upd h6] at s8
      | false =>
        rw [if_neg Bool.false_ne_true] at e1
        refine iteF ?_
        exact ⟨hlt, F4, acc, accV, rest, s1.new n14, n1.trans (newDel n14 f1 f4), f4, n14.kp _ _ h1, Reps.mono n14.le _ _ r1, e1, rfl⟩
    · have e : i = xs.length := by omega
      subst e
      rw [List.drop_length] at e1
      cases e1
      refine .inl ⟨it.stop F1 H1 _ n1.le s1.le k1 (Nat.le_refl _), ?_⟩
      have := q D (.lst accV) F1 (del H1 D) (n0.trans n1) del_same ⟨accV, rfl, by rw [List.append_nil]; exact r1⟩
      rw [del_upd h1] at this
      exact this
  · rw [if_neg hl] at q
    exact q.elim
end
section
variable {X : Cx} {W : WX} {elt tg iter tg1 iter1 : Expr} {ifs ifs1 : List Expr} {scope : Scope} {own : List (Str × Nat)} {vs1 : List Nat} {pos : Pos} {sl sl1 : List Nat} {it it1 : Env' → Out (List D)} {g g1 : D → Env' → Out Env'} {t t1 : Env' → Out Bool} {f : Env' → Out D}
theorem SO.lc2 (hc : X.calm = true) (hN : X.N.Nodup) (hi : SI false X W tg iter it) (ok : BlkOk X.N X.env.scope scope own) (hv : ∀ i, i ∈ vs1 → i ∈ own.map (·.2))
    (hg : ∀ (s : Shared) (H : Hp) (C : Addr) (cl : List (Str × Addr)) (fp : List Addr), SG (X.blk s H scope (compEnvC scope cl C X.env) fp) sl tg g)
    (ht : ∀ (s : Shared) (H : Hp) (C : Addr) (cl : List (Str × Addr)) (fp : List Addr), STs (X.blk s H scope (compEnvC scope cl C X.env) fp) W0 ifs t)
    (hi1 : ∀ (s : Shared) (H : Hp) (C : Addr) (cl : List (Str × Addr)) (fp : List Addr), SI false (X.blk s H scope (compEnvC scope cl C X.env) fp) W0 tg1 iter1 it1)
    (hg1 : ∀ (s : Shared) (H : Hp) (C : Addr) (cl : List (Str × Addr)) (fp : List Addr), SG (X.blk s H scope (compEnvC scope cl C X.env) fp) sl1 tg1 g1)
    (ht1 : ∀ (s : Shared) (H : Hp) (C : Addr) (cl : List (Str × Addr)) (fp : List Addr), STs (X.blk s H scope (compEnvC scope cl C X.env) fp) W0 ifs1 t1)
    (he : ∀ (s : Shared) (H : Hp) (C : Addr) (cl : List (Str × Addr)) (fp : List Addr), SR false (X.blk s H scope (compEnvC scope cl C X.env) fp) W0 elt f)
    (hsl : ∀ i, i ∈ sl → i ∈ own.map (·.2) := by decide) (hsl1 : ∀ i, i ∈ sl1 → i ∈ vs1 := by decide) (hs : ∀ x, foldedSetIterable iter X.env x = pure x := by intro _; rfl) (hs1 : ∀ (env : Env) (x : Value), foldedSetIterable iter1 env x = pure x := by intro _ _; rfl) :
    SO false X W (.ListComp elt [⟨tg, iter, ifs, 0⟩, ⟨tg1, iter1, ifs1, 0⟩] scope pos) (rLc2 it (own.map (·.2)) g t it1 vs1 g1 t1 f) :=
  SO.imp (pe_lc2 (vs1 := vs1) hc hN hi.pi ok hv (fun s H C cl fp => (hg s H C cl fp).pg) (fun s H C cl fp => (ht s H C cl fp).pt) (fun s H C cl fp => (hi1 s H C cl fp).pi) (fun s H C cl fp => (hg1 s H C cl fp).pg) (fun s H C cl fp => (ht1 s H C cl fp).pt) (fun s H C cl fp => (he s H C cl fp).pe) hs hs1) (lc2_read hsl hsl1)
end
end VL

/-! V43: try with several except clauses. -/
namespace VL
open PySem PySem.Spec L2 PyProof.Rows

abbrev HdN := (Str → Option Bool) × (Env' → Out (Fl × Env'))
def hdl (c : Str) (fs : List D) (ρ : Env') : List HdN → Out (Fl × Env')
  | [] => .exc c fs
  | h :: r => match h.1 c with
    | some true => noX (h.2 (emps ρ))
    | some false => hdl c fs ρ r
    | none => .bad
def sTryN (f : Env' → Out (Fl × Env')) (hs : List HdN) : Env' → Out (Fl × Env') := fun ρ => match f ρ with
  | .ok p => .ok p
  | .exc c fs => hdl c fs ρ hs
  | .bad => .bad
inductive HsN (X : Cx) : List ExceptHandler → List (Value × HdN) → Prop
  | nil : HsN X [] []
  | cons {x : Str} {Cv : Value} {ex : Str → Option Bool} {g : Env' → Out (Fl × Env')} {b₀ : Stmt} {suite : List Stmt} {np pos' : Pos} {hds : List ExceptHandler} {l : List (Value × HdN)} (hc : Names X x Cv)
      (hx : ∀ c b A, ex c = some b → X.mg c = some (.ref A) → PySem.W.exmOne X.K (.ref A) Cv = some b)
      (hg : ∀ (a : Addr) (pn : List (Addr × Obj)), SS (X.suite a pn) W0 [] (b₀ :: suite) g) (r : HsN X hds l) :
      HsN X (.ExceptHandler (some (.Name x np)) none (b₀ :: suite) pos' :: hds) ((Cv, (ex, g)) :: l)
def lTs (K : Fr') (mg : MG) (l : List (Value × HdN)) : List (Value × (Addr → Value → Option Addr → TS)) := l.map fun z => (z.1, fun _ _ _ => tS K mg W0 [] z.2.2)
section
variable {X : Cx} {W : WX}
theorem HsN.ok {hds : List ExceptHandler} {l : List (Value × HdN)} (h : HsN X hds l) : HdsOk X hds (lTs X.K X.mg l) := by
  induction h with
  | nil => exact .nil
  | @cons x Cv ex g b₀ suite np pos' hds l hc hx hg r ih => exact .cons hc (fun a oe cls d pn _ _ => (hg a _).ps) ih
theorem S1.tryN {body : List Stmt} {h₀ : ExceptHandler} {hds : List ExceptHandler} {l : List (Value × HdN)} {pos : Pos} {f : Env' → Out (Fl × Env')} (hh : HsN X (h₀ :: hds) l) (hs : X.stack = X.env :: X.outer) (hf : X.env.frame = some X.env.locals) (tk : Takes X W)
    (hb : ∀ (W' : WX) (pn : List (Addr × Obj)) (xe : Value → Shared → Prop), Takes (X.tr pn xe) W' → PassesOwn (model X.prog X.w) X.A X.env xe → SS (X.tr pn xe) W' [] body f) :
    S1 X W [] (.Try body (h₀ :: hds) [] [] pos) (sTryN f (l.map (·.2))) := by
  refine ⟨PS.imp (ps_try_many (tb := fun W' => tS X.K X.mg W' [] f) hs hf tk (fun W' pn xe t po => (hb W' pn xe t po).ps) hh.ok) ?_⟩
  rintro D0 σ H ⟨F, ρ, s, q⟩
  refine ⟨F, ρ, s, ?_⟩
  unfold sTryN at q
  cases e : f ρ with
  | ok pr =>
    rw [e] at q
    exact q
  | bad =>
    rw [e] at q
    exact q.elim
  | exc c fs =>
    rw [e] at q
    intro cls xd σ' F' H' l0 hl sp r
    obtain ⟨r1, r2, A, rfl, r3⟩ := r
    have q : (hdl c fs ρ (l.map (·.2))).on (fun p => ∀ σ' F' H', St2 X.K F' H' σ' p.2 → Stp σ ρ F H σ' p.2 F' H' → Fix [] σ σ' → EndsF X.K D0 σ' F' H' p.1) (ExM X.mg W σ ρ F H) := q
    show wMany X.K W D0 (lTs X.K X.mg l) (.ref A) xd σ' H'
    clear e
    generalize h₀ :: hds = hh' at hh
    induction hh with
    | nil => exact q (.ref A) xd σ' F' H' l0 hl sp ⟨r1, r2, A, rfl, r3⟩
    | @cons x Cv ex g b₀ suite np pos' hds l hc hx hg r ih =>
      have q : (match ex c with
        | some true => noX (g (emps ρ))
        | some false => hdl c fs ρ (l.map (·.2))
        | none => .bad : Out (Fl × Env')).on (fun p => ∀ σ' F' H', St2 X.K F' H' σ' p.2 → Stp σ ρ F H σ' p.2 F' H' → Fix [] σ σ' → EndsF X.K D0 σ' F' H' p.1) (ExM X.mg W σ ρ F H) := q
      cases w : ex c with
      | none =>
        rw [w] at q
        exact q.elim
      | some b =>
        rw [w] at q
        refine ⟨b, hx c b A w r3, fun hb1 a ha => ?_, fun hb1 => ?_⟩
        · subst hb1
          have s' : St2 X.K F' H' σ' (emps ρ) := by
            have := St2.emps (K := X.K) (F := F') (H := H') (σ := σ') (ρ := ρ) l0 (by rw [hl]; exact s.len)
            exact this
          refine ⟨F', emps ρ, s', ?_⟩
          show (g (emps ρ)).on _ _
          cases eg : g (emps ρ) with
          | ok pr =>
            rw [eg] at q
            exact fun σ2 F2 H2 s2 p2 fx => q σ2 F2 H2 s2 (sp.trans p2) ⟨fx.1.trans hl, fun i hi => nomatch hi⟩
          | exc c2 fs2 =>
            rw [eg] at q
            exact q.elim
          | bad =>
            rw [eg] at q
            exact q.elim
        · subst hb1
          exact ih q q
end
end VL

/-! V44: x = [.. two fors ..], a dict display with draws, a tuple times a number. -/
namespace VL
open PySem PySem.Spec L2 PyProof.Rows

section
variable {X : Cx} {W : WX} {elt tg iter tg1 iter1 : Expr} {ifs ifs1 : List Expr} {scope : Scope} {own : List (Str × Nat)} {vs1 : List Nat} {pos : Pos} {sl sl1 : List Nat} {it it1 : Env' → Out (List D)} {g g1 : D → Env' → Out Env'} {t t1 : Env' → Out Bool} {f : Env' → Out D}
theorem S1.lc2O (j : Nat) {y : Str} {py spos : Pos} {prot : List Nat} (hc : X.calm = true) (hN : X.N.Nodup) (hi : SI false X W tg iter it) (ok : BlkOk X.N X.env.scope scope own) (hv : ∀ i, i ∈ vs1 → i ∈ own.map (·.2))
    (hg : ∀ (s : Shared) (H : Hp) (C : Addr) (cl : List (Str × Addr)) (fp : List Addr), SG (X.blk s H scope (compEnvC scope cl C X.env) fp) sl tg g)
    (ht : ∀ (s : Shared) (H : Hp) (C : Addr) (cl : List (Str × Addr)) (fp : List Addr), STs (X.blk s H scope (compEnvC scope cl C X.env) fp) W0 ifs t)
    (hi1 : ∀ (s : Shared) (H : Hp) (C : Addr) (cl : List (Str × Addr)) (fp : List Addr), SI false (X.blk s H scope (compEnvC scope cl C X.env) fp) W0 tg1 iter1 it1)
    (hg1 : ∀ (s : Shared) (H : Hp) (C : Addr) (cl : List (Str × Addr)) (fp : List Addr), SG (X.blk s H scope (compEnvC scope cl C X.env) fp) sl1 tg1 g1)
    (ht1 : ∀ (s : Shared) (H : Hp) (C : Addr) (cl : List (Str × Addr)) (fp : List Addr), STs (X.blk s H scope (compEnvC scope cl C X.env) fp) W0 ifs1 t1)
    (he : ∀ (s : Shared) (H : Hp) (C : Addr) (cl : List (Str × Addr)) (fp : List Addr), SR false (X.blk s H scope (compEnvC scope cl C X.env) fp) W0 elt f)
    (hyl : X.env.scope.names.lookup y = some .local)
    (hsw : swapsWith (.ListComp elt [⟨tg, iter, ifs, 0⟩, ⟨tg1, iter1, ifs1, 0⟩] scope pos) (some (.Name y py)) spos.line X.env = pure true) (hp : j ∉ prot := by decide) (hy : X.N[j]? = some y := by rfl)
    (hsl : ∀ i, i ∈ sl → i ∈ own.map (·.2) := by decide) (hsl1 : ∀ i, i ∈ sl1 → i ∈ vs1 := by decide) (hs : ∀ x, foldedSetIterable iter X.env x = pure x := by intro _; rfl) (hs1 : ∀ (env : Env) (x : Value), foldedSetIterable iter1 env x = pure x := by intro _ _; rfl) :
    S1 X W prot (.Assign [.Name y py] (.ListComp elt [⟨tg, iter, ifs, 0⟩, ⟨tg1, iter1, ifs1, 0⟩] scope pos) spos) (sOwn false (rLc2 it (own.map (·.2)) g t it1 vs1 g1 t1 f) j) := by
  refine ⟨PS.imp (ps_setLc2 (vs1 := vs1) (g := gM X.K sl g) (tt := tRT X.K X.mg W0 t) (wi1 := iR X.K X.mg W0 false it1) (g1 := gM X.K sl1 g1) (tt1 := tRT X.K X.mg W0 t1) (te := tR X.K X.mg W0 false f) hc hN hy hyl hsw hi.pi ok hv (fun s H C cl fp => (hg s H C cl fp).pg) (fun s H C cl fp => (ht s H C cl fp).pt) (fun s H C cl fp => (hi1 s H C cl fp).pi) (fun s H C cl fp => (hg1 s H C cl fp).pg) (fun s H C cl fp => (ht1 s H C cl fp).pt) (fun s H C cl fp => (he s H C cl fp).pe) hs hs1) ?_⟩
  rintro D0 σ H ⟨F, ρ, s, q⟩
  refine lc2_read hsl hsl1 σ H _ ?_
  refine ⟨F, ρ, s, on_imp (on_bind q) (fun d ed q p o F1 H1 n hp' c => ?_) fun _ _ _ q => q⟩
  split at q
  · rename_i w
    have ⟨s2, p2⟩ := own_ok s n hp' (b := false) c w j
    exact q _ F1 _ s2 p2 (Fix.set hp)
  · exact q.elim
end
/-! ### a tuple times a number -/
def gRepT : D → D → Out D
  | .tup xs, .int k => if xs ≠ [] ∧ 2 ≤ k ∧ k ≤ 1000 ∧ xs.length ≤ 1000 then .ok (.tup (List.replicate k.toNat xs).flatten) else .bad
  | _, _ => .bad
theorem reps_flat {K : Fr'} {F : Hp} {xs : List D} {vs : List V} (r : Reps K F xs vs) : ∀ n, Reps K F (List.replicate n xs).flatten (List.replicate n vs).flatten
  | 0 => mk_nil
  | n + 1 => by
    rw [List.replicate_succ, List.replicate_succ, List.flatten_cons, List.flatten_cons]
    exact reps_app r (reps_flat r n)
theorem p_repT {K : Fr'} : Pure2 K (rRepT K) gRepT := by
  intro F H x y dx dy d Q l rx ry e k
  unfold gRepT at e
  split at e
  · rename_i xs n
    split at e
    · rename_i c
      cases e
      obtain ⟨a, vs, rfl, h1, q1⟩ := rep_tup rx
      rw [rep_int ry]
      refine ⟨a, n, vs, rfl, rfl, l.seqT h1, fun z => c.1 (by
        subst z
        cases xs with
        | nil => rfl
        | cons x xs => exact absurd (reps_len q1) (by simp)), c.2.1, c.2.2.1, by rw [reps_len q1]; exact c.2.2.2, fun p hp => ?_⟩
      exact k _ _ _ (New.upd (o := .tup (List.replicate n.toNat vs).flatten) l hp) (mk_tup (.inl (.inl upd_same)) (Reps.mono (Le.updL (l.none hp)) _ _ (reps_flat q1 _)))
    · cases e
  · cases e
/-! ### {k: v, ..} with draws -/
section
variable {X : Cx} {W : WX} {f g : Env' → Out (D × Env')} {fs : Env' → Out ((List D × List D) × Env')} {pos : Pos}
def tPsM (K : Fr') (mg : MG) (W : WX) (fs : Env' → Out ((List D × List D) × Env')) (σ : L2.St) (H : Hp) (Q : List (V × V) → Hp → Prop) : Prop := ∃ F ρ, St2 K F H σ ρ ∧ (fs ρ).on (fun r => ∀ ps F' H', St2 K F' H' σ r.2 → Reps K F' r.1.1 (ps.map (·.1)) → Reps K F' r.1.2 (ps.map (·.2)) → Stp σ ρ F H σ r.2 F' H' → Q ps H') (ExM mg W σ ρ F H)
structure SPM (X : Cx) (W : WX) (pos : Pos) (keys : List (Option Expr)) (values : List Expr) (fs : Env' → Out ((List D × List D) × Env')) : Prop where
  ex : ∃ trs, PPs X pos keys values trs ∧ ∀ σ H Q, tPsM X.K X.mg W fs σ H Q → tPairs trs σ H Q
def mPs0 : Env' → Out ((List D × List D) × Env') := fun ρ => .ok (([], []), ρ)
def mPs1 (f g : Env' → Out (D × Env')) (fs : Env' → Out ((List D × List D) × Env')) : Env' → Out ((List D × List D) × Env') := fun ρ => (f ρ).bind fun k => (g k.2).bind fun v => (fs v.2).bind fun r => .ok ((k.1 :: r.1.1, v.1 :: r.1.2), r.2)
theorem SPM.nil : SPM X W pos [] [] mPs0 := ⟨_, pps_nil, fun σ H Q ⟨F, ρ, s, q⟩ => q [] F H s mk_nil mk_nil (Stp.refl _ _ _ _)⟩
theorem SPM.cons {k v : Expr} {ks : List (Option Expr)} {vs : List Expr} (hk : SM X W k f) (hv : SM X W v g) (hr : SPM X W pos ks vs fs) : SPM X W pos (some k :: ks) (v :: vs) (mPs1 f g fs) := by
  obtain ⟨trs, hr, kr⟩ := hr
  refine ⟨_, pps_cons hk.pe hv.pe hr, ?_⟩
  rintro σ H Q ⟨F, ρ, s, q⟩
  refine ⟨F, ρ, s, on_imp (on_bind q) (fun d ed q v1 F1 H1 s1 r1 p1 => ?_) fun _ _ _ q => q⟩
  refine ⟨F1, d.2, s1, on_stp p1 rfl (s.rlen s1) (on_bind q) fun e ee q v2 F2 H2 s2 r2 p2 => ?_⟩
  refine kr σ H2 _ ⟨F2, e.2, s2, on_stp (p1.trans p2) rfl (s.rlen s2) (on_bind q) fun r er q ps F3 H3 s3 r3 r4 p3 => ?_⟩
  exact q ((v1, v2) :: ps) F3 H3 s3 (mk_cons (Rep.mono (p2.trans p3).le _ _ r1) r3) (mk_cons (Rep.mono p3.le _ _ r2) r4) ((p1.trans p2).trans p3)
def mDisp (fs : Env' → Out ((List D × List D) × Env')) : Env' → Out (D × Env') := fun ρ => (fs ρ).bind fun r => match zipD r.1.1 r.1.2 with
  | some xs => if xs.length ≤ 15 then .ok (.dic (mergeD [] xs), r.2) else .bad
  | none => .bad
theorem St2.delq {K : Fr'} {F H : Hp} {σ : L2.St} {ρ : Env'} (s : St2 K F H σ ρ) {p : Addr} (h : F p = none) (no : ¬ Owned σ ρ p) : St2 K F (del H p) σ ρ where
  le := fun a u z => by
    have ha : a ≠ p := fun w => by
      subst w
      rcases z with z | ⟨o, z⟩ <;> rw [h] at z <;> cases z
    exact Rd.congr (del_ne ha).symm (s.le a u z)
  len := s.len
  val := s.val
  own := fun i d hi => by
    obtain ⟨b, o, e1, e2, e3, e4⟩ := s.own i d hi
    have hb : b ≠ p := fun w => by
      subst w
      exact no ⟨i, d, hi, e1⟩
    exact ⟨b, o, e1, by rw [del_ne hb]; exact e2, e3, e4⟩
  sep := s.sep
theorem SM.disp {keys : List (Option Expr)} {values : List Expr} (h : SPM X W pos keys values fs) (hall : keys.all (·.isSome) = true := by rfl) (hl : keys.length = values.length := by rfl) (h0 : keys ≠ [] := by decide) (h15 : keys.length ≤ 15 := by decide) : SM X W (.Dict keys values pos) (mDisp fs) := by
  obtain ⟨trs, hp, kr⟩ := h
  refine SM.imp (pe_disp hp hall hl h0 h15) ?_
  rintro σ H Q ⟨F, ρ, s, q⟩ p hp0
  have s' := st_side (o := .dK []) s hp0
  have n1 : New F H F (upd H p (.dK [])) := newSide s.le hp0
  have nO : ¬ Owned σ ρ p := fun w => by
    obtain ⟨o, ho⟩ := s.owned_some w
    rw [hp0] at ho
    cases ho
  refine kr σ _ _ ⟨F, ρ, s', on_new n1 (on_bind q) fun r er q ps F2 H2 s2 r1 r2 p2 => ?_⟩
  have hH2 : H2 p = some (.dK []) := p2.kp _ _ upd_same nO
  refine ⟨hH2, ?_⟩
  split at q
  · rename_i xs hz
    obtain ⟨kvs, rfl, rk, hl⟩ := zipD_ok hz r1 r2
    split at q
    · rename_i c
      refine ⟨kvs, rfl, by rw [hl]; exact c, ?_⟩
      have hF : F p = none := s.le.none hp0
      have hF2 : F2 p = none := by
        by_cases e : F2 p = none
        · exact e
        · rcases p2.fr p e with h | h | h
          · exact absurd hF h
          · rw [upd_same] at h
            cases h
          · exact absurd h nO
      have nO2 : ¬ Owned σ r.2 p := fun w => by
        rcases p2.ow p w with w | w
        · exact nO w
        · rw [upd_same] at w
          cases w
      have s3 : St2 X.K F2 (del H2 p) σ r.2 := s2.delq hF2 nO2
      have p3 : Stp σ ρ F H σ r.2 F2 (del H2 p) := by
        have neq : ∀ {b}, H b ≠ none → b ≠ p := fun h w => by
          subst w
          exact h hp0
        refine ⟨p2.le, fun b o hb no => ?_, fun b hb => ?_, fun b hb => ?_, fun b hb => ?_⟩
        · have z := neq (b := b) (by rw [hb]; exact Option.some_ne_none _)
          rw [del_ne z]
          exact p2.kp b o (by rw [upd_ne z]; exact hb) no
        · have z : b ≠ p := fun w => by
            subst w
            exact hb hF2
          rcases p2.fr b hb with h | h | h
          · exact .inl h
          · rw [upd_ne z] at h
            exact .inr (.inl h)
          · exact .inr (.inr h)
        · rcases p2.ow b hb with h | h
          · exact .inl h
          · have z : b ≠ p := fun w => by
              subst w
              rw [upd_same] at h
              cases h
            rw [upd_ne z] at h
            exact .inr h
        · have z := neq hb
          rw [del_ne z]
          exact p2.al b (by rw [upd_ne z]; exact hb)
      have c' : Co X.K F2 (.dic (mergeD [] xs)) (.dK (mergeK [] kvs)) := ⟨_, rfl, (mergeD_ok rk rfl mkK_nil).1⟩
      have ⟨n4, r4⟩ := Co.laid s3.le del_same c'
      have := q (.ref p) _ _ (s3.new n4) r4 (p3.trans (n4.stp σ r.2))
      have e : upd (del H2 p) p (.dK (mergeK [] kvs)) = upd H2 p (.dK (mergeK [] kvs)) := by
        funext b
        by_cases z : b = p
        · subst z
          rw [upd_same, upd_same]
        · rw [upd_ne z, upd_ne z, del_ne z]
      rw [e] at this
      exact this
    · exact q.elim
  · exact q.elim
end
theorem hu1 {n : Nat} (h : n + 64 < cLine) : n + 1 < cLine := Nat.lt_of_le_of_lt (Nat.add_le_add_left (by decide : 1 ≤ 64) _) h
end VL

/-! V45: what the top has written: tuples within tuples, too. -/
namespace VL
open PySem PySem.Spec L2 PyProof.Rows

mutual
def repB (K : Fr') : D → Value → Bool
  | .non, u => match u with
    | .none => true
    | _ => false
  | .bl b, u => match u with
    | .bool c => decide (b = c)
    | _ => false
  | .int i, u => match u with
    | .int j _ => decide (i = j)
    | _ => false
  | .str x, u => match u with
    | .str y _ => decide (x = y)
    | _ => false
  | .tup ds, u => match u with
    | .ref a => match K.lookup a with
      | some ⟨.type c, _, .seq its _, _⟩ => decide (c = "tuple") && (decide (its.size ≤ sizeLine) && repsB K ds its.toList)
      | _ => false
    | _ => false
  | _, _ => false
def repsB (K : Fr') : List D → List Value → Bool
  | [], us => us.isEmpty
  | d :: ds, us => match us with
    | u :: us => repB K d u && repsB K ds us
    | [] => false
end
mutual
theorem repB_ok {K : Fr'} : ∀ (d : D) (u : Value), repB K d u = true → ∃ v, RelV v u ∧ ∀ F, Rep K F d v
  | .non, u, h => by
    unfold repB at h
    split at h
    · exact ⟨.non, rfl, fun F => mk_non⟩
    · cases h
  | .bl b, u, h => by
    unfold repB at h
    split at h
    · rename_i c
      have := of_decide_eq_true h
      subst this
      exact ⟨.bl b, rfl, fun F => mk_bl⟩
    · cases h
  | .int i, u, h => by
    unfold repB at h
    split at h
    · rename_i j t
      have := of_decide_eq_true h
      subst this
      exact ⟨.int i, ⟨t, rfl⟩, fun F => mk_int⟩
    · cases h
  | .str x, u, h => by
    unfold repB at h
    split at h
    · rename_i y t
      have := of_decide_eq_true h
      subst this
      exact ⟨.str x, ⟨t, rfl⟩, fun F => mk_str⟩
    · cases h
  | .tup ds, u, h => by
    unfold repB at h
    split at h
    · rename_i a
      split at h
      · rename_i c od its n sl q
        obtain ⟨h1, h2⟩ := He.ba h
        obtain ⟨h3, h4⟩ := He.ba h2
        obtain ⟨vs, r, k⟩ := repsB_ok ds its.toList h4
        exact ⟨.ref a, rfl, fun F => mk_tup (.inr ⟨_, its, n, q, congrArg Value.type (of_decide_eq_true h1), rfl, of_decide_eq_true h3, r⟩) (k F)⟩
      · cases h
    · cases h
  | .lst _, u, h => by unfold repB at h; cases h
  | .dic _, u, h => by unfold repB at h; cases h
  | .dit _, u, h => by unfold repB at h; cases h
theorem repsB_ok {K : Fr'} : ∀ (ds : List D) (us : List Value), repsB K ds us = true → ∃ vs, Vals vs us ∧ ∀ F, Reps K F ds vs
  | [], us, h => by
    unfold repsB at h
    cases us with
    | nil => exact ⟨[], .nil, fun F => mk_nil⟩
    | cons _ _ => cases h
  | d :: ds, us, h => by
    unfold repsB at h
    split at h
    · rename_i u us
      obtain ⟨h1, h2⟩ := He.ba h
      obtain ⟨v, r1, k1⟩ := repB_ok d u h1
      obtain ⟨vs, r2, k2⟩ := repsB_ok ds us h2
      exact ⟨v :: vs, .cons r1 r2, fun F => mk_cons (k1 F) (k2 F)⟩
    · cases h
end
abbrev CnD : Type := List (Str × D)
def conB (K : Fr') (q : Str × D) : Bool := repB K q.2 (.ref (He.ga K q.1))
theorem SR.gCon {b : Bool} {X : Cx} {W : WX} {x : Str} {d : D} {pos : Pos} (hm : X.mg x = some (.ref (He.ga X.K x))) (ht : conB X.K (x, d) = true) (hg : Gl X x := by rfl) (hd : (x == ("__debug__" : Str)) = false := by decide) : SR b X W (.Name x pos) (rC d) := by
  obtain ⟨v, r, k⟩ := repB_ok d _ ht
  exact SR.glo hm (v := v) r k hg hd
def obsZ (fa : List He.Fa) (fn : List He.DefD) (tb : CnD) (ex : List Str) (K : Fr') : He.AlD := ((((fa.all fun f => f.ok K) && fn.all fun d => d.ok K) && tb.all fun q => conB K q) && ex.all fun x => exB K x, fn.map fun d => He.fnW K d.at_)
def SaysZ (fa : List He.Fa) (fn : List He.DefD) (tb : CnD) (ex : List Str) (K : Fr') : Prop := obsZ fa fn tb ex K = He.valD fn
def obsZG (n : Nat) (fa : List He.Fa) (fn : List He.DefD) (tb : CnD) (ex : List Str) (g : Addr → Option Obj) : He.AlD := obsZ fa fn tb ex (He.frG g (He.asD g n))
def hookZ (n : Nat) (fa : List He.Fa) (fn : List He.DefD) (tb : CnD) (ex : List Str) : PySem.W.Hook where
  α := He.AlD
  obs := fun s => obsZG n fa fn tb ex s.heap.get?
  val := fun _ => He.valD fn
  says := fun _ h => ∃ K : Fr', K.In h ∧ SaysZ fa fn tb ex K
  of := fun _ _ e => ⟨_, He.frG_in, e⟩
  keeps := fun _ _ _ ⟨K, hK, c⟩ k => ⟨K, PySem.W.Frag.In.keeps hK k, c⟩
theorem obsZG_eq {n : Nat} {fa : List He.Fa} {fn : List He.DefD} {tb : CnD} {ex : List Str} {g : Addr → Option Obj} {s : Shared} (h : ∀ a, g a = s.heap.get? a) : obsZG n fa fn tb ex g = (hookZ n fa fn tb ex).obs s := by
  have e : g = s.heap.get? := funext h
  rw [e]
  rfl
section
variable {fa : List He.Fa} {fn : List He.DefD} {tb : CnD} {ex : List Str} {K : Fr'}
theorem SaysZ.one (c : SaysZ fa fn tb ex K) : ((((fa.all fun f => f.ok K) && fn.all fun d => d.ok K) && tb.all fun q => conB K q) && ex.all fun x => exB K x) = true := congrArg (fun z : He.AlD => z.1) c
theorem SaysZ.fact (c : SaysZ fa fn tb ex K) (i : Nat) {f : He.Fa} (h : fa[i]? = some f := by rfl) : f.ok K = true :=
  List.all_eq_true.mp (He.ba (He.ba (He.ba c.one).1).1).1 f (List.mem_of_getElem? h)
theorem SaysZ.tup (c : SaysZ fa fn tb ex K) (i : Nat) {q : Str × D} (h : tb[i]? = some q := by rfl) : conB K q = true :=
  List.all_eq_true.mp (He.ba (He.ba c.one).1).2 q (List.mem_of_getElem? h)
theorem SaysZ.exc (c : SaysZ fa fn tb ex K) (i : Nat) {x : Str} (h : ex[i]? = some x := by rfl) : exB K x = true :=
  List.all_eq_true.mp (He.ba c.one).2 x (List.mem_of_getElem? h)
theorem SaysZ.def_ (c : SaysZ fa fn tb ex K) (i : Nat) {d : He.DefD} (h : fn[i]? = some d := by rfl) : ∃ fd, FunD K d.name d.qual d.params d.body d.scope (d.dvs K) (d.kws K) (He.fAd K d.at_) fd := by
  have e : fn.map (fun d => He.fnW K d.at_) = fn.map He.DefD.val := congrArg (fun z : He.AlD => z.2) c
  have e2 : (fn.map fun d => He.fnW K d.at_)[i]? = (fn.map He.DefD.val)[i]? := by rw [e]
  rw [List.getElem?_map, List.getElem?_map, h] at e2
  exact He.DefD.funD (Option.some.inj e2) (List.all_eq_true.mp (He.ba (He.ba (He.ba c.one).1).1).2 d (List.mem_of_getElem? h))
end
theorem law_walkZ {l : PySem.W.OpenLaw} {n k j : Nat} {q : Program} {loose : List Str} {XP : (Str → Option Value) → Heap → Prop} {d : DefRec} {x : Str} {fa : List He.Fa} {fn : List He.DefD} {tb : CnD} {ex : List Str} {mf : List D → Out D} (hn : l.most = some n) (hn2 : n ≤ sizeLine) (hdf : d.params.defaults = []) (hr : Room k callerA)
    (hlaw : ∀ ns : List Int, mf [.lst (ns.map D.int)] = .ok (.bl true)) (F : ∀ (w : World) (K : Fr') (mg : MG) (f : Addr) (h : Heap), K.In h → h.Ns mainGlobals mg → mg d.name = some (.ref f) → SaysZ fa fn tb ex K →
      ∃ fd : FuncData, (∀ (s : Shared) (u : Value), BindsTo s fd ⟨[u], []⟩ [(x, u)]) ∧ ∀ base : Heap, K.In base → base.Ns mainGlobals mg → FnOk l.prog w K mg base (L2.CX l.prog w) k f fd [x] (spF K mg mf)) :
    PySem.W.WalkO q loose XP (hookZ j fa fn tb ex).says l.row.toRowW d [] (fun f vs => PySem.call f vs) := by
  refine Att.attach_call hn hdf fun w s₀ s₁ mg mb f o pm cd doc a vs ns G Y ho hd hcd hmg hobj hints hlen hg => ?_
  obtain ⟨K, KX, c⟩ := Y
  obtain ⟨fd, hb, hF⟩ := F w K mg f _ KX G.T.g hmg c
  exact law_call KX G.T.g G.T.b G.T.builtins G.T.nolimit hg hobj hints (Nat.le_trans hlen hn2) hr hF hb (fun H hO hS => sp_law hlaw hS) fun H e s' h => by
    obtain ⟨_, _, _, _, _, _, _, _, _, _, _, _, z⟩ := h
    exact z
end VL

namespace K04
open PySem PySem.Spec L2 VL
def t_NEVER : D := .tup [.tup [.tup [.str "ne", .str "nil", .str "nil"]], .tup []]
def t_RESERVED : D := .tup [.str "nil", .str "new", .str "free", .str "if", .str "else", .str "while", .str "call", .str "both", .str "with", .str "and", .str "pre", .str "post", .str "proc", .str "end", .str "ls", .str "at", .str "found", .str "inv"]
def T_BadClaim : List (Str × Bool) := [("BadClaim", true), ("TooLarge", false)]
def T_TooLarge : List (Str × Bool) := [("BadClaim", false), ("TooLarge", true)]
def b_is_name : Env' → Out (Fl × Env') := (sSeq (sIf (mT (bOr (bNot (bT (rCh (rC (.int 1)) (rN (rCons (rv false 0) rNil) gLenU) (rC (.int 12)) gLe gLe))) (bOr (bT (r2 (rv false 0) (rC t_RESERVED) (gInU false))) (bT (r2 (r2 (rv false 0) (rC (.int 0)) gIxU) (rC (.str "abcdefghijklmnopqrstuvwxyz")) (gInU true)))))) (sSeq (sRet (mOf false (rC (.bl false))))
  sNil) sNil)
  (sSeq (sRet (mOf false (rN (rCons (rLc (iSeq (rv false 0)) [1] (tgN 1) tYs (r2 (rv false 1) (r2 (rC (.str "abcdefghijklmnopqrstuvwxyz")) (rC (.str "0123456789")) gAddU) (gInU false))) rNil) gAll)))
  sNil))
def m_is_name : List D → Out D := arity 1 (fnF 2 b_is_name)
def b_is_hidden : Env' → Out (Fl × Env') := (sSeq (sAsg (mOf false (rSl (rv false 0) (oI (some (rC (.int 1)))) (oI none) gSl)) (tgN 1))
  (sSeq (sIf (mT (bOr (bT (r2 (rSl (rv false 0) (oI none) (oI (some (rC (.int 1)))) gSl) (rC (.str "H")) gNeU)) (bOr (bNot (bT (rCh (rC (.int 1)) (rN (rCons (rv false 1) rNil) gLenU) (rC (.int 12)) gLe gLt))) (bNot (bT (rN (rCons (rLc (iSeq (rv false 1)) [2] (tgN 2) tYs (r2 (rv false 2) (rC (.str "0123456789")) (gInU false))) rNil) gAll)))))) (sSeq (sRet (mOf false (rC (.bl false))))
  sNil) sNil)
  (sSeq (sRet (mOf false (rOr (r2 (rv false 1) (rC (.str "0")) gEqU) (r2 (r2 (rv false 1) (rC (.int 0)) gIxU) (rC (.str "0")) gNeU))))
  sNil)))
def m_is_hidden : List D → Out D := arity 1 (fnF 3 b_is_hidden)
def b_row_put_for : Env' → Out (Fl × Env') := (sSeq (sRet (mOf false (rN (rCons (r2 (rv false 0) (rC (.int 0)) gIxU) (rCons (rGet (rv false 1) (r2 (rv false 0) (rC (.int 1)) gIxU) (r2 (rv false 0) (rC (.int 1)) gIxU)) (rCons (rGet (rv false 1) (r2 (rv false 0) (rC (.int 2)) gIxU) (r2 (rv false 0) (rC (.int 2)) gIxU)) rNil))) gTup)))
  sNil)
def m_row_put_for : List D → Out D := arity 2 (fnF 2 b_row_put_for)
def b_star : Env' → Out (Fl × Env') := (sSeq (sRet (mOf false (rN (rCons (r2 (rN (rCons (r2 (rv false 0) (rC (.int 0)) gIxU) rNil) gTuple) (rN (rCons (r2 (rv false 1) (rC (.int 0)) gIxU) rNil) gTuple) gAddU) (rCons (r2 (rN (rCons (r2 (rv false 0) (rC (.int 1)) gIxU) rNil) gTuple) (rN (rCons (r2 (rv false 1) (rC (.int 1)) gIxU) rNil) gTuple) gAddU) rNil)) gTup)))
  sNil)
def m_star : List D → Out D := arity 2 (fnF 2 b_star)
def b_with_fact : Env' → Out (Fl × Env') := (sSeq (sRet (mOf false (rN (rCons (r2 (rN (rCons (r2 (rv false 0) (rC (.int 0)) gIxU) rNil) gTuple) (rN (rCons (rv false 1) rNil) gTup) gAddU) (rCons (rN (rCons (r2 (rv false 0) (rC (.int 1)) gIxU) rNil) gTuple) rNil)) gTup)))
  sNil)
def m_with_fact : List D → Out D := arity 2 (fnF 2 b_with_fact)
def b_without_atom : Env' → Out (Fl × Env') := (sSeq (sAsg (mOf false (rN (rCons (r2 (rv false 0) (rC (.int 1)) gIxU) rNil) gTuple)) (tgN 2))
  (sSeq (sRet (mOf false (rN (rCons (rN (rCons (r2 (rv false 0) (rC (.int 0)) gIxU) rNil) gTuple) (rCons (r2 (rSl (rv false 2) (oI none) (oI (some (rv false 1))) gSl) (rSl (rv false 2) (oI (some (r2 (rv false 1) (rC (.int 1)) gAddU))) (oI none) gSl) gAddU) rNil)) gTup)))
  sNil))
def m_without_atom : List D → Out D := arity 2 (fnF 3 b_without_atom)
def b_atoms_in_place : Env' → Out (Fl × Env') := (sSeq (sAsg (mOf false (rN (rCons (r2 (rv false 0) (rC (.int 1)) gIxU) rNil) gTuple)) (tgN 3))
  (sSeq (sRet (mOf false (rN (rCons (rN (rCons (r2 (rv false 0) (rC (.int 0)) gIxU) rNil) gTuple) (rCons (r2 (r2 (rSl (rv false 3) (oI none) (oI (some (rv false 1))) gSl) (rN (rCons (rv false 2) rNil) gTuple) gAddU) (rSl (rv false 3) (oI (some (r2 (rv false 1) (rC (.int 1)) gAddU))) (oI none) gSl) gAddU) rNil)) gTup)))
  sNil))
def m_atoms_in_place : List D → Out D := arity 3 (fnF 4 b_atoms_in_place)
def b_segments_of : Env' → Out (Fl × Env') := (sSeq (sRet (mOf false (rLc (iEnumU (r2 (rv false 0) (rC (.int 1)) gIxU)) [1, 2] (tgTupL 2 (tgCons (tgN 1) (tgCons (tgN 2) tgNil))) (bT (r2 (r2 (rv false 2) (rC (.int 0)) gIxU) (rC (.str "ls")) gEqU)) (rv false 1))))
  sNil)
def m_segments_of : List D → Out D := arity 1 (fnF 3 b_segments_of)
def b__law_is : Env' → Out (Fl × Env') := (sSeq (sIf (mT (bT (r2 (rv false 1) (rC .non) gIsU))) (sSeq (sRet (mOf false (r2 (rv false 0) (rC .non) gIsU)))
  sNil) sNil)
  (sSeq (sIf (mT (bT (r1 (rv false 1) (gIsi "bool")))) (sSeq (sRet (mOf false (rAnd (r1 (rv false 0) (gIsi "bool")) (r2 (rv false 0) (rv false 1) gEqU))))
  sNil) sNil)
  (sSeq (sIf (mT (bT (r1 (rv false 1) (gIsi "int")))) (sSeq (sRet (mOf false (rAnd (r1 (rv false 0) (gIsi "int")) (r2 (rv false 0) (rv false 1) gEqU))))
  sNil) sNil)
  (sSeq (sIf (mT (bT (r1 (rv false 1) (gIsi "str")))) (sSeq (sRet (mOf false (rAnd (r1 (rv false 0) (gIsi "str")) (r2 (rv false 0) (rv false 1) gEqU))))
  sNil) sNil)
  (sSeq (sIf (mT (bT (r1 (rv false 1) (gIsi "tuple")))) (sSeq (sRet (mOf false (rAnd (r1 (rv false 0) (gIsi "tuple")) (r2 (rv false 0) (rv false 1) gEqU))))
  sNil) sNil)
  (sSeq (sRet (mOf false (rAnd (r1 (rv false 0) (gIsi "list")) (r2 (rv false 0) (rv false 1) gEqU))))
  sNil))))))
def m__law_is : List D → Out D := arity 2 (fnF 2 b__law_is)
def b__law_draw : Env' → Out (Fl × Env') := (sSeq (sIf (mT (brw (bT (r2 (r2 (rv false 0) (rC (.int 2)) gIxU) (rv false 1) gLt)))) (sSeq (sAsg (mIxO 0 (rC (.int 0))) (tgN 2))
  (sSeq (sAsg (mIxO 0 (rC (.int 1))) (tgN 3))
  (sSeq (sAsg (mOf true (brw (rIf (bT (r2 (rv false 3) (rN (rCons (rv false 2) rNil) gLenU) gLt)) (r2 (rv false 2) (rv false 3) gIxU) (r2 (rv false 0) (rC (.int 3)) gIxU)))) (tgN 4))
  (sSeq (sIf (mT (bT (r2 (rv false 4) (rC (.int 0)) gLt))) (sSeq (sAsg (mOf false (r2 (r2 (r1 (rC (.int 2)) gNeg) (rv false 4) gMulI) (rC (.int 1)) gSub)) (tgN 4))
  sNil) sNil)
  (sSeq (sIf (mT (bOr (bT (r2 (rv false 4) (r2 (rC (.int 10)) (rC (.int 9)) gPow) gLt)) (bT (r2 (rv false 3) (rN (rCons (rv false 2) rNil) gLenU) gGe)))) (sSeq (sAsg (mOf false (r2 (rN (rCons (r2 (r2 (r2 (rv false 4) (rC (.int 48271)) gMulI) (r2 (rv false 3) (rC (.int 69621)) gMulI) gAddU) (rC (.int 12345)) gAddU) rNil) gInt) (rC (.int 2147483647)) gMod)) (tgN 4))
  (sSeq (sAsg (mOf false (r2 (rN (rCons (r2 (r2 (r2 (rv false 4) (rv false 4) gMulI) (r2 (rv false 3) (rC (.int 39373)) gMulI) gAddU) (rC (.int 6789)) gAddU) rNil) gInt) (rC (.int 2147483629)) gMod)) (tgN 4))
  sNil)) sNil)
  (sSeq (sPut 0 (mOf false (r2 (rv false 3) (rC (.int 1)) gAddU)) (rC (.int 1)))
  (sSeq (sPut 0 (mOf false (rv false 4)) (rC (.int 2)))
  sNil))))))) sNil)
  (sSeq (sAsg (mOf true (brw (r2 (rN (rCons (r2 (rv false 0) (rC (.int 2)) gIxU) rNil) gInt) (rv false 1) gMod))) (tgN 5))
  (sSeq (sPut 0 (mOf true (brw (r2 (r2 (rv false 0) (rC (.int 2)) gIxU) (rv false 1) gFdiv))) (rC (.int 2)))
  (sSeq (sRet (mOf false (rv false 5)))
  sNil))))
def m__law_draw : D → List D → Out (D × D) := fnT 6 2 b__law_draw
def w__law_tape_0 : Env' → Out (Fl × Env') := (sSeq (sAsg (mOf false (r2 (rN (rCons (r2 (r2 (r2 (rv false 1) (rC (.int 48271)) gMulI) (r2 (rv false 2) (rC (.int 16807)) gMulI) gAddU) (rC (.int 7)) gAddU) rNil) gInt) (rC (.int 1000000007)) gMod)) (tgN 1))
  sNil)
def b__law_tape : Env' → Out (Fl × Env') := (sSeq (sAsg (mOf false (rN (rCons (rv false 0) rNil) gLenU)) (tgN 1))
  (sSeq (sFor (iOf (iSeq (rv false 0))) (tgN 2) w__law_tape_0)
  (sSeq (sNew (rN (rCons (rN (rCons (rv false 0) rNil) gListU) (rCons (rC (.int 0)) (rCons (rC (.int 0)) (rCons (rv false 1) rNil)))) gLst))
  sNil)))
def m__law_tape : List D → Out D := fnN 3 1 b__law_tape
def b__law_key : Env' → Out (Fl × Env') := (sSeq (sRet (mOf false (rIf (bT (r2 (rv false 0) (rC (.str "nil")) gEqU)) (rN (rCons (rC (.int 0)) (rCons (rC (.str "")) (rCons (rC (.int 0)) rNil))) gTup) (rIf (bT (r2 (r2 (rv false 0) (rC (.int 0)) gIxU) (rC (.str "H")) gEqU)) (rN (rCons (rC (.int 2)) (rCons (rC (.str "")) (rCons (rN (rCons (rSl (rv false 0) (oI (some (rC (.int 1)))) (oI none) gSl) rNil) gInt) rNil))) gTup) (rN (rCons (rC (.int 1)) (rCons (rv false 0) (rCons (rC (.int 0)) rNil))) gTup)))))
  sNil)
def m__law_key : List D → Out D := arity 1 (fnF 1 b__law_key)
def b__law_moved : Env' → Out (Fl × Env') := (sSeq (sRet (mOf false (rLc (iSeq (rv false 0)) [2] (tgN 2) tYs (rN (rCons (r2 (rv false 2) (rC (.int 0)) gIxU) (rCons (rGet (rv false 1) (r2 (rv false 2) (rC (.int 1)) gIxU) (r2 (rv false 2) (rC (.int 1)) gIxU)) (rCons (rGet (rv false 1) (r2 (rv false 2) (rC (.int 2)) gIxU) (r2 (rv false 2) (rC (.int 2)) gIxU)) rNil))) gTup))))
  sNil)
def m__law_moved : List D → Out D := arity 2 (fnF 3 b__law_moved)
def b_is_term : Env' → Out (Fl × Env') := (sSeq (sRet (mOf false (rOr (r2 (rv false 0) (rC (.str "nil")) gEqU) (rOr (rF (rCons (rv false 0) rNil) m_is_name) (rF (rCons (rv false 0) rNil) m_is_hidden)))))
  sNil)
def m_is_term : List D → Out D := arity 1 (fnF 1 b_is_term)
def b_order_of : Env' → Out (Fl × Env') := (sSeq (sIf (mT (bT (r2 (rv false 0) (rC (.str "nil")) gEqU))) (sSeq (sRet (mOf false (rN (rCons (rC (.int 0)) (rCons (rC (.str "")) (rCons (rC (.int 0)) rNil))) gTup)))
  sNil) sNil)
  (sSeq (sIf (mT (bT (rF (rCons (rv false 0) rNil) m_is_hidden))) (sSeq (sRet (mOf false (rN (rCons (rC (.int 2)) (rCons (rC (.str "")) (rCons (rN (rCons (rSl (rv false 0) (oI (some (rC (.int 1)))) (oI none) gSl) rNil) gInt) rNil))) gTup)))
  sNil) sNil)
  (sSeq (sRet (mOf false (rN (rCons (rC (.int 1)) (rCons (rv false 0) (rCons (rC (.int 0)) rNil))) gTup)))
  sNil)))
def m_order_of : List D → Out D := arity 1 (fnF 1 b_order_of)
def b_put_for : Env' → Out (Fl × Env') := (sSeq (sAsg (mOf false (rv false 0)) (tgTupL 2 (tgCons (tgN 2) (tgCons (tgN 3) tgNil))))
  (sSeq (sRet (mOf false (rN (rCons (rN (rCons (rLc (iSeq (rv false 2)) [4] (tgN 4) tYs (rF (rCons (rv false 4) (rCons (rv false 1) rNil)) m_row_put_for)) rNil) gTuple) (rCons (rN (rCons (rLc (iSeq (rv false 3)) [4] (tgN 4) tYs (rF (rCons (rv false 4) (rCons (rv false 1) rNil)) m_row_put_for)) rNil) gTuple) rNil)) gTup)))
  sNil))
def m_put_for : List D → Out D := arity 2 (fnF 5 b_put_for)
def w__law_claim_0 : Env' → Out (Fl × Env') := (sSeq (sApp 4 (mN (mCons (m2 (mOf false (rN (rCons (rC (.str "eq")) (rCons (rC (.str "ne")) (rCons (rC (.str "ne")) rNil))) gLst)) (mCT 0 (mCons (mOf false (rC (.int 3))) mNil) m__law_draw) gIxU) (mCons (m2 (mOf false (rv false 3)) (mCT 0 (mCons (mOf false (rN (rCons (rv false 3) rNil) gLenU)) mNil) m__law_draw) gIxU) (mCons (m2 (mOf false (rv false 3)) (mCT 0 (mCons (mOf false (rN (rCons (rv false 3) rNil) gLenU)) mNil) m__law_draw) gIxU) mNil))) gTup))
  sNil)
def w__law_claim_1 : Env' → Out (Fl × Env') := (sSeq (sAsg (mIf (bMT (m2 (mCT 0 (mCons (mOf false (rC (.int 12))) mNil) m__law_draw) (mOf false (rC (.int 0))) gGt)) (m2 (mOf false (rv false 3)) (m2 (mOf false (rC (.int 1))) (mCT 0 (mCons (mOf false (rN (rCons (rv false 1) rNil) gLenU)) mNil) m__law_draw) gAddU) gIxU) (mOf false (rC (.str "nil")))) (tgN 7))
  (sSeq (sApp 5 (mN (mCons (m2 (mOf false (rN (rCons (rC (.str "to")) (rCons (rC (.str "ls")) rNil)) gLst)) (mCT 0 (mCons (mOf false (rC (.int 2))) mNil) m__law_draw) gIxU) (mCons (mOf false (rv false 7)) (mCons (m2 (mOf false (rv false 3)) (mCT 0 (mCons (mOf false (rN (rCons (rv false 3) rNil) gLenU)) mNil) m__law_draw) gIxU) mNil))) gTup))
  sNil))
def b__law_claim : Env' → Out (Fl × Env') := (sSeq (sAsg (mOf false (r2 (rN (rCons (rC (.str "nil")) rNil) gLst) (rN (rCons (rv false 1) rNil) gListU) gAddU)) (tgN 3))
  (sSeq (sPar 4 5 (rN rNil gLst) (rN rNil gLst) Cell.own Cell.own)
  (sSeq (sFor (iMrng (mCons (m2 (mOf false (rN (rCons (rC (.int 0)) (rCons (rC (.int 0)) (rCons (rC (.int 1)) (rCons (rC (.int 1)) (rCons (rC (.int 2)) rNil))))) gLst)) (mCT 0 (mCons (mOf false (rC (.int 5))) mNil) m__law_draw) gIxU) mNil) gR1) (tgN 6) w__law_claim_0)
  (sFrz 4 (sSeq (sFor (iMrng (mCons (mCT 0 (mCons (mOf false (r2 (rv false 2) (rC (.int 1)) gAddU)) mNil) m__law_draw) mNil) gR1) (tgN 6) w__law_claim_1)
  (sFrz 5 (sSeq (sRet (mOf false (rN (rCons (rN (rCons (rv false 4) rNil) gTuple) (rCons (rN (rCons (rv false 5) rNil) gTuple) rNil)) gTup)))
  sNil)))))))
def m__law_claim : D → List D → Out (D × D) := fnT 8 3 b__law_claim
def b__law_order : Env' → Out (Fl × Env') := (sSeq (sRet (mOf false (rLc (iSeq (rN (rCons (rLc (iSeq (r1 (rv false 0) gSoSetU)) [2] (tgN 2) tYs (rN (rCons (rF (rCons (rv false 2) rNil) m__law_key) (rCons (rv false 2) rNil)) gTup)) rNil) gSortedU)) [1, 2] (tgTupL 2 (tgCons (tgN 1) (tgCons (tgN 2) tgNil))) tYs (rv false 2))))
  sNil)
def m__law_order : List D → Out D := arity 1 (fnF 3 b__law_order)
def b_in_order : Env' → Out (Fl × Env') := (sSeq (sOwn false (rDc (iSeq (rv false 0)) [2] (tgN 2) tYs (rv false 2) (rC (.bl true))) 1)
  (sFrz 1 (sSeq (sRet (mOf false (rLc (iSeq (rN (rCons (rLc (iKs (rv false 1)) [2] (tgN 2) tYs (rN (rCons (rF (rCons (rv false 2) rNil) m_order_of) (rCons (rv false 2) rNil)) gTup)) rNil) gSortedU)) [3, 2] (tgTupL 2 (tgCons (tgN 3) (tgCons (tgN 2) tgNil))) tYs (rv false 2))))
  sNil)))
def m_in_order : List D → Out D := arity 1 (fnF 4 b_in_order)
def w_check_claim_0 : Env' → Out (Fl × Env') := (sSeq (sIf (mT (bOr (bT (r2 (rN (rCons (rv false 4) rNil) gLenU) (rC (.int 3)) gNeU)) (bOr (bT (r2 (r2 (rv false 4) (rC (.int 0)) gIxU) (rv false 5) (gInU true))) (bOr (bNot (bT (rF (rCons (r2 (rv false 4) (rC (.int 1)) gIxU) rNil) m_is_term))) (bNot (bT (rF (rCons (r2 (rv false 4) (rC (.int 2)) gIxU) rNil) m_is_term))))))) (sSeq (sRaise "BadClaim")
  sNil) sNil)
  sNil)
def b_check_claim : Env' → Out (Fl × Env') := (sSeq (sIf (mT (bT (r2 (rN (rCons (rv false 0) rNil) gLenU) (rC (.int 2)) gNeU))) (sSeq (sRaise "BadClaim")
  sNil) sNil)
  (sSeq (sAsg (mOf false (rv false 0)) (tgTupL 2 (tgCons (tgN 1) (tgCons (tgN 2) tgNil))))
  (sSeq (sAsg (mOf false (r2 (rLc (iSeq (rv false 1)) [4] (tgN 4) tYs (rN (rCons (rv false 4) (rCons (rN (rCons (rC (.str "eq")) (rCons (rC (.str "ne")) rNil)) gTup) rNil)) gTup)) (rLc (iSeq (rv false 2)) [4] (tgN 4) tYs (rN (rCons (rv false 4) (rCons (rN (rCons (rC (.str "to")) (rCons (rC (.str "ls")) rNil)) gTup) rNil)) gTup)) gAddU)) (tgN 3))
  (sSeq (sFor (iOf (iSeq (rv false 3))) (tgTupL 2 (tgCons (tgN 4) (tgCons (tgN 5) tgNil))) w_check_claim_0)
  (sSeq (sIf (mT (bOr (bT (r2 (rN (rCons (rv false 1) rNil) gLenU) (rC (.int 20)) gGt)) (bT (r2 (rN (rCons (rv false 2) rNil) gLenU) (rC (.int 12)) gGt)))) (sSeq (sRaise "TooLarge")
  sNil) sNil)
  sNil)))))
def m_check_claim : List D → Out D := arity 1 (fnF 6 b_check_claim)
def b_terms_of : Env' → Out (Fl × Env') := (sSeq (sAsg (mOf false (rv false 0)) (tgTupL 2 (tgCons (tgN 1) (tgCons (tgN 2) tgNil))))
  (sSeq (sRet (mOf false (rF (rCons (rLc2 (iSeq (r2 (rN (rCons (rv false 1) rNil) gTuple) (rN (rCons (rv false 2) rNil) gTuple) gAddU)) [3, 4] (tgN 3) tYs (iSeq (rSl (rv false 3) (oI (some (rC (.int 1)))) (oI none) gSl)) [4] (tgN 4) tYs (rv false 4)) rNil) m_in_order)))
  sNil))
def m_terms_of : List D → Out D := arity 1 (fnF 5 b_terms_of)
def b_check_over : Env' → Out (Fl × Env') := (sSeq (sDrop (mOf false (rF (rCons (rv false 0) rNil) m_check_claim)))
  (sSeq (sIf (mT (bNot (bT (rN (rCons (rLc (iSeq (rF (rCons (rv false 0) rNil) m_terms_of)) [2] (tgN 2) tYs (rOr (r2 (rv false 2) (rC (.str "nil")) gEqU) (r2 (rv false 2) (rv false 1) (gInU false)))) rNil) gAll)))) (sSeq (sRaise "BadClaim")
  sNil) sNil)
  sNil))
def m_check_over : List D → Out D := arity 2 (fnF 3 b_check_over)
def b_names_of : Env' → Out (Fl × Env') := (sSeq (sRet (mOf false (rLc (iSeq (rF (rCons (rv false 0) rNil) m_terms_of)) [1] (tgN 1) (bT (r2 (rv false 1) (rC (.str "nil")) gNeU)) (rv false 1))))
  sNil)
def m_names_of : List D → Out D := arity 1 (fnF 2 b_names_of)
def b_hidden_of : Env' → Out (Fl × Env') := (sSeq (sRet (mOf false (rLc (iSeq (rF (rCons (rv false 0) rNil) m_terms_of)) [1] (tgN 1) (bT (rF (rCons (rv false 1) rNil) m_is_hidden)) (rv false 1))))
  sNil)
def m_hidden_of : List D → Out D := arity 1 (fnF 2 b_hidden_of)
def b_fresh_of : Env' → Out (Fl × Env') := (sSeq (sOwn false (rLc2 (iSeq (rv false 0)) [2, 3] (tgN 2) tYs (iSeq (rF (rCons (rv false 2) rNil) m_hidden_of)) [3] (tgN 3) tYs (rN (rCons (rSl (rv false 3) (oI (some (rC (.int 1)))) (oI none) gSl) rNil) gInt)) 1)
  (sFrz 1 (sSeq (sRet (mOf false (r2 (rC (.str "H")) (rN (rCons (rIf (bT (r2 (rN (rCons (rv false 1) rNil) gLenU) (rC (.int 0)) gGt)) (r2 (rN (rCons (rv false 1) rNil) gMax) (rC (.int 1)) gAddU) (rC (.int 0))) rNil) gStr) gAddU)))
  sNil)))
def m_fresh_of : List D → Out D := arity 1 (fnF 4 b_fresh_of)
def b__law_checked : Env' → Out (Fl × Env') := (sSeq (sTryN (sSeq (sIf (mT (bT (r2 (rv false 1) (rC .non) gIsU))) (sSeq (sDrop (mOf false (rF (rCons (rv false 0) rNil) m_check_claim)))
  sNil) (sSeq (sDrop (mOf false (rF (rCons (rv false 0) (rCons (rv false 1) rNil)) m_check_over)))
  sNil))
  sNil) [(exT T_BadClaim, (sSeq (sRet (mOf false (rC (.str "bad"))))
  sNil)), (exT T_TooLarge, (sSeq (sRet (mOf false (rC (.str "large"))))
  sNil))])
  (sSeq (sRet (mOf false (rC (.str "right"))))
  sNil))
def m__law_checked : List D → Out D := arity 2 (fnF 2 b__law_checked)
def b_law : Env' → Out (Fl × Env') := (sSeq (sOwn false (rF (rCons (rv false 0) rNil) m__law_tape) 1)
  (sSeq (sAsg (mCT 1 (mCons (mOf false (rN (rCons (rC (.str "x")) (rCons (rC (.str "y")) (rCons (rC (.str "H2")) (rCons (rC (.str "H10")) rNil)))) gLst)) (mCons (mOf false (rC (.int 4))) mNil)) m__law_claim) (tgN 2))
  (sSeq (sAsg (mCT 1 (mCons (mOf false (rN (rCons (rC (.str "x")) (rCons (rC (.str "z")) (rCons (rC (.str "H0")) rNil))) gLst)) (mCons (mOf false (rC (.int 3))) mNil)) m__law_claim) (tgN 3))
  (sSeq (sAsg (mOf false (r2 (r2 (rv false 2) (rC (.int 0)) gIxU) (r2 (rv false 2) (rC (.int 1)) gIxU) gAddU)) (tgN 4))
  (sSeq (sAsg (mOf false (rF (rCons (r2 (rLc (iSeq (rv false 4)) [6] (tgN 6) tYs (r2 (rv false 6) (rC (.int 1)) gIxU)) (rLc (iSeq (rv false 4)) [6] (tgN 6) tYs (r2 (rv false 6) (rC (.int 2)) gIxU)) gAddU) rNil) m__law_order)) (tgN 5))
  (sSeq (sIf (mT (bOr (bNot (bT (rF (rCons (rF (rCons (rv false 2) rNil) m_terms_of) (rCons (rv false 5) rNil)) m__law_is))) (bNot (bT (rF (rCons (rF (rCons (rv false 2) rNil) m_names_of) (rCons (rLc (iSeq (rv false 5)) [7] (tgN 7) (bT (r2 (rv false 7) (rC (.str "nil")) gNeU)) (rv false 7)) rNil)) m__law_is))))) (sSeq (sRet (mOf false (rC (.bl false))))
  sNil) sNil)
  (sSeq (sOwn false (if false = true then brw (rLc (iSeq (rv false 5)) [7] (tgN 7) (bT (r2 (r2 (rv false 7) (rC (.int 0)) gIxU) (rC (.str "H")) gEqU)) (rv false 7)) else (rLc (iSeq (rv false 5)) [7] (tgN 7) (bT (r2 (r2 (rv false 7) (rC (.int 0)) gIxU) (rC (.str "H")) gEqU)) (rv false 7))) 8)
  (sFrz 8 (sSeq (sIf (mT (bOr (bNot (bT (rF (rCons (rF (rCons (rv false 2) rNil) m_hidden_of) (rCons (rv false 8) rNil)) m__law_is))) (bT (r2 (rF (rCons (rN (rCons (rv false 2) (rCons (rv false 3) rNil)) gLst) rNil) m_fresh_of) (r2 (rC (.str "H")) (rN (rCons (r2 (rC (.int 1)) (rN (rCons (r2 (rN (rCons (r2 (rC (.int 0)) (rC (.int 1)) gSub) rNil) gLst) (rLc (iSeq (r2 (rv false 8) (rF (rCons (rv false 3) rNil) m_hidden_of) gAddU)) [7] (tgN 7) tYs (rN (rCons (rSl (rv false 7) (oI (some (rC (.int 1)))) (oI none) gSl) rNil) gInt)) gAddU) rNil) gMax) gAddU) rNil) gStr) gAddU) gNeU)))) (sSeq (sRet (mOf false (rC (.bl false))))
  sNil) sNil)
  (sSeq (sAsg (mDisp (mPs1 (mOf false (rC (.str "x"))) (m2 (mOf false (rN (rCons (rC (.str "y")) (rCons (rC (.str "nil")) (rCons (rC (.str "H5")) rNil))) gLst)) (mCT 1 (mCons (mOf false (rC (.int 3))) mNil) m__law_draw) gIxU) (mPs1 (mOf false (rC (.str "y"))) (mOf false (rC (.str "x"))) mPs0))) (tgN 9))
  (sSeq (sAsg (mOf false (rN (rCons (rF (rCons (r2 (rv false 2) (rC (.int 0)) gIxU) (rCons (rv false 9) rNil)) m__law_moved) (rCons (rF (rCons (r2 (rv false 2) (rC (.int 1)) gIxU) (rCons (rv false 9) rNil)) m__law_moved) rNil)) gLst)) (tgN 10))
  (sSeq (sIf (mT (bOr (bT (r2 (rF (rCons (rv false 2) (rCons (rv false 9) rNil)) m_put_for) (rN (rCons (rN (rCons (r2 (rv false 10) (rC (.int 0)) gIxU) rNil) gTuple) (rCons (rN (rCons (r2 (rv false 10) (rC (.int 1)) gIxU) rNil) gTuple) rNil)) gTup) gNeU)) (bT (r2 (rF (rCons (rv false 2) (rCons (rv false 3) rNil)) m_star) (rN (rCons (r2 (r2 (rv false 2) (rC (.int 0)) gIxU) (r2 (rv false 3) (rC (.int 0)) gIxU) gAddU) (rCons (r2 (r2 (rv false 2) (rC (.int 1)) gIxU) (r2 (rv false 3) (rC (.int 1)) gIxU) gAddU) rNil)) gTup) gNeU)))) (sSeq (sRet (mOf false (rC (.bl false))))
  sNil) sNil)
  (sSeq (sIf (mT (bOr (bT (r2 (rF (rCons (rv false 2) (rCons (rN (rCons (rC (.str "eq")) (rCons (rC (.str "x")) (rCons (rC (.str "nil")) rNil))) gTup) rNil)) m_with_fact) (rN (rCons (r2 (r2 (rv false 2) (rC (.int 0)) gIxU) (rN (rCons (rN (rCons (rC (.str "eq")) (rCons (rC (.str "x")) (rCons (rC (.str "nil")) rNil))) gTup) rNil) gTup) gAddU) (rCons (r2 (rv false 2) (rC (.int 1)) gIxU) rNil)) gTup) gNeU)) (bT (r2 (rF (rCons (rv false 2) rNil) m_segments_of) (rLc (iRng (rCons (rN (rCons (r2 (rv false 2) (rC (.int 1)) gIxU) rNil) gLenU) rNil) gR1) [11] (tgN 11) (bT (r2 (r2 (r2 (r2 (rv false 2) (rC (.int 1)) gIxU) (rv false 11) gIxU) (rC (.int 0)) gIxU) (rC (.str "ls")) gEqU)) (rv false 11)) gNeU)))) (sSeq (sRet (mOf false (rC (.bl false))))
  sNil) sNil)
  (sSeq (sIf (mT (bT (r2 (rN (rCons (r2 (rv false 2) (rC (.int 1)) gIxU) rNil) gLenU) (rC (.int 0)) gGt))) (sSeq (sAsg (mCT 1 (mCons (mOf false (rN (rCons (r2 (rv false 2) (rC (.int 1)) gIxU) rNil) gLenU)) mNil) m__law_draw) (tgN 11))
  (sSeq (sIf (mT (bOr (bT (r2 (rF (rCons (rv false 2) (rCons (rv false 11) rNil)) m_without_atom) (rN (rCons (r2 (rv false 2) (rC (.int 0)) gIxU) (rCons (r2 (rSl (r2 (rv false 2) (rC (.int 1)) gIxU) (oI none) (oI (some (rv false 11))) gSl) (rSl (r2 (rv false 2) (rC (.int 1)) gIxU) (oI (some (r2 (rv false 11) (rC (.int 1)) gAddU))) (oI none) gSl) gAddU) rNil)) gTup) gNeU)) (bT (r2 (rF (rCons (rv false 2) (rCons (rv false 11) (rCons (r2 (rv false 3) (rC (.int 1)) gIxU) rNil))) m_atoms_in_place) (rN (rCons (r2 (rv false 2) (rC (.int 0)) gIxU) (rCons (r2 (r2 (rSl (r2 (rv false 2) (rC (.int 1)) gIxU) (oI none) (oI (some (rv false 11))) gSl) (r2 (rv false 3) (rC (.int 1)) gIxU) gAddU) (rSl (r2 (rv false 2) (rC (.int 1)) gIxU) (oI (some (r2 (rv false 11) (rC (.int 1)) gAddU))) (oI none) gSl) gAddU) rNil)) gTup) gNeU)))) (sSeq (sRet (mOf false (rC (.bl false))))
  sNil) sNil)
  sNil)) sNil)
  (sSeq (sIf (mT (bOr (bT (r2 (rC (.str "nil")) (rC (.str "nil")) gNeU)) (bOr (bT (r2 (rC t_NEVER) (rN (rCons (rN (rCons (rN (rCons (rC (.str "ne")) (rCons (rC (.str "nil")) (rCons (rC (.str "nil")) rNil))) gTup) rNil) gTup) (rCons (rN rNil gTup) rNil)) gTup) gNeU)) (bT (r2 (rF (rCons (rv false 2) (rCons (rC .non) rNil)) m__law_checked) (rC (.str "right")) gNeU))))) (sSeq (sRet (mOf false (rC (.bl false))))
  sNil) sNil)
  (sSeq (sIf (mT (bOr (bT (r2 (rF (rCons (rv false 2) (rCons (rN (rCons (rC (.str "x")) (rCons (rC (.str "y")) (rCons (rC (.str "H2")) (rCons (rC (.str "H10")) rNil)))) gLst) rNil)) m__law_checked) (rC (.str "right")) gNeU)) (bT (r2 (rF (rCons (rv false 2) (rCons (rN (rCons (rC (.str "x")) rNil) gLst) rNil)) m__law_checked) (rIf (bT (r2 (rLc (iSeq (rv false 5)) [12] (tgN 12) (bT (r2 (rv false 12) (rN (rCons (rC (.str "nil")) (rCons (rC (.str "x")) rNil)) gLst) (gInU true))) (rv false 12)) (rN rNil gLst) gEqU)) (rC (.str "right")) (rC (.str "bad"))) gNeU)))) (sSeq (sRet (mOf false (rC (.bl false))))
  sNil) sNil)
  (sSeq (sAsg (mOf false (rN (rCons (rN (rCons (rN (rCons (rN (rCons (rC (.str "eq")) (rCons (rC (.str "x")) (rCons (rC (.str "X")) rNil))) gTup) rNil) gTup) (rCons (rN rNil gTup) rNil)) gTup) (rCons (rN (rCons (rN (rCons (rN (rCons (rC (.str "is")) (rCons (rC (.str "x")) (rCons (rC (.str "y")) rNil))) gTup) rNil) gTup) (rCons (rN rNil gTup) rNil)) gTup) (rCons (rN (rCons (rN rNil gTup) (rCons (rN (rCons (rN (rCons (rC (.str "to")) (rCons (rC (.str "x")) rNil)) gTup) rNil) gTup) rNil)) gTup) (rCons (rN (rCons (rN rNil gTup) (rCons (rN (rCons (rN (rCons (rC (.str "lx")) (rCons (rC (.str "x")) (rCons (rC (.str "y")) rNil))) gTup) rNil) gTup) rNil)) gTup) (rCons (rN (rCons (rN rNil gTup) rNil) gTup) (rCons (rN (rCons (rN (rCons (rN (rCons (rC (.str "eq")) (rCons (rC (.str "x")) (rCons (rC (.str "ls")) rNil))) gTup) rNil) gTup) (rCons (rN rNil gTup) rNil)) gTup) (rCons (rN (rCons (rN rNil gTup) (rCons (r2 (rN (rCons (rN (rCons (rC (.str "to")) (rCons (rC (.str "x")) (rCons (rC (.str "y")) rNil))) gTup) rNil) gTup) (rC (.int 13)) gRepT) rNil)) gTup) (rCons (rN (rCons (r2 (rN (rCons (rN (rCons (rC (.str "ne")) (rCons (rC (.str "x")) (rCons (rC (.str "y")) rNil))) gTup) rNil) gTup) (rC (.int 21)) gRepT) (rCons (rN rNil gTup) rNil)) gTup) rNil)))))))) gLst)) (tgN 13))
  (sSeq (sAsg (mCT 1 (mCons (mOf false (rC (.int 8))) mNil) m__law_draw) (tgN 11))
  (sFrz 1 (sSeq (sRet (mOf false (rAnd (r2 (rF (rCons (r2 (rv false 13) (rv false 11) gIxU) (rCons (rC .non) rNil)) m__law_checked) (rIf (bT (r2 (rv false 11) (rC (.int 5)) gGt)) (rC (.str "large")) (rC (.str "bad"))) gEqU) (r2 (rF (rCons (rN (rCons (r2 (rN (rCons (rN (rCons (rC (.str "ne")) (rCons (rC (.str "x")) (rCons (rC (.str "y")) rNil))) gTup) rNil) gTup) (rC (.int 20)) gRepT) (rCons (r2 (rN (rCons (rN (rCons (rC (.str "to")) (rCons (rC (.str "x")) (rCons (rC (.str "y")) rNil))) gTup) rNil) gTup) (rC (.int 12)) gRepT) rNil)) gTup) (rCons (rC .non) rNil)) m__law_checked) (rC (.str "right")) gEqU))))
  sNil))))))))))))))))))))
def m_law : List D → Out D := arity 1 (fnF 14 b_law)
end K04

/-! PL1: plain facts of the mirrors: dicts of ints, comprehensions, loops. -/
namespace VL
open PySem PySem.Spec L2

/-! ### comprehensions -/
section
variable {α : Type} {vs : List Nat} {g : D → Env' → Out Env'} {t : Env' → Out Bool} {f fk fv : Env' → Out D} {ρ : Env'}
theorem cmpL_eq (enc : α → D) (c : α → Bool) (G : α → D) : ∀ (l : List α), (∀ a ∈ l, ∃ ρ1, g (enc a) (wipeE ρ vs) = .ok ρ1 ∧ t ρ1 = .ok (c a) ∧ (c a = true → f ρ1 = .ok (G a))) → cmpL vs g t f ρ (l.map enc) = .ok ((l.filter c).map G)
  | [], _ => rfl
  | x :: xs, h => by
    obtain ⟨ρ1, h1, h2, h3⟩ := h x List.mem_cons_self
    have ih := cmpL_eq enc c G xs fun a ha => h a (List.mem_cons_of_mem _ ha)
    show ((noX (g (enc x) (wipeE ρ vs))).bind fun ρ1 => (noX (t ρ1)).bind fun c => if c = true then (noX (f ρ1)).bind fun d => (cmpL vs g t f ρ (xs.map enc)).bind fun ds => .ok (d :: ds) else cmpL vs g t f ρ (xs.map enc)) = _
    rw [h1]
    show ((noX (t ρ1)).bind fun c => if c = true then (noX (f ρ1)).bind fun d => (cmpL vs g t f ρ (xs.map enc)).bind fun ds => .ok (d :: ds) else cmpL vs g t f ρ (xs.map enc)) = _
    rw [h2]
    show (if c x = true then (noX (f ρ1)).bind fun d => (cmpL vs g t f ρ (xs.map enc)).bind fun ds => .ok (d :: ds) else cmpL vs g t f ρ (xs.map enc)) = _
    by_cases e : c x = true
    · rw [if_pos e, h3 e, ih, List.filter_cons_of_pos e]
      rfl
    · rw [if_neg e, ih, List.filter_cons_of_neg e]
theorem rLc_eq {it : Env' → Out (List D)} (enc : α → D) (c : α → Bool) (G : α → D) (l : List α) (hi : it ρ = .ok (l.map enc)) (hl : l.length ≤ 100000) (h : ∀ a ∈ l, ∃ ρ1, g (enc a) (wipeE ρ vs) = .ok ρ1 ∧ t ρ1 = .ok (c a) ∧ (c a = true → f ρ1 = .ok (G a))) :
    rLc it vs g t f ρ = .ok (.lst ((l.filter c).map G)) := by
  unfold rLc
  rw [hi]
  show (if (l.map enc).length ≤ sizeLine then (noX (cmpL vs g t f ρ (l.map enc))).bind fun ds => Out.ok (D.lst ds) else Out.bad) = _
  rw [if_pos (by rw [List.length_map]; exact Nat.le_trans hl (by decide)), cmpL_eq enc c G l h]
  rfl
theorem rLc_map {it : Env' → Out (List D)} (enc : α → D) (G : α → D) (l : List α) (hi : it ρ = .ok (l.map enc)) (hl : l.length ≤ 100000) (h : ∀ a ∈ l, ∃ ρ1, g (enc a) (wipeE ρ vs) = .ok ρ1 ∧ f ρ1 = .ok (G a)) :
    rLc it vs g tYs f ρ = .ok (.lst (l.map G)) := by
  have := rLc_eq (t := tYs) (f := f) enc (fun _ => true) G l hi hl fun a ha => by
    obtain ⟨ρ1, h1, h2⟩ := h a ha
    exact ⟨ρ1, h1, rfl, fun _ => h2⟩
  rw [this, List.filter_eq_self.mpr fun _ _ => rfl]
end

/-! ### dicts of ints -/
abbrev HL := List (Int × Int)
def prI (p : Int × Int) : D := .tup [.int p.1, .int p.2]
def hP (h : HL) : List D := h.map prI
def hD (h : HL) : D := .dic (hP h)
def look (h : HL) (k : Int) : Option Int := (h.find? fun p => decide (p.1 = k)).map (·.2)
def has (h : HL) (k : Int) : Bool := (look h k).isSome
def put (h : HL) (k v : Int) : HL := match h with
  | [] => [(k, v)]
  | p :: r => if p.1 = k then (p.1, v) :: r else p :: put r k v
theorem put_cons (p : Int × Int) (r : HL) (k v : Int) : put (p :: r) k v = if p.1 = k then (p.1, v) :: r else p :: put r k v := rfl
theorem keyEq_int (a b : Int) : keyEq (.int a) (.int b) = decide (a = b) := by
  show decide ((Sum.inl a : Key) = Sum.inl b) = _
  exact decide_eq_decide.mpr ⟨fun h => Sum.inl.inj h, fun h => by rw [h]⟩
theorem lookD_hP (k : Int) : ∀ h : HL, lookD (hP h) (.int k) = (look h k).map .int
  | [] => rfl
  | p :: r => by
    show (if keyEq (.int p.1) (.int k) = true then some (D.int p.2) else lookD (hP r) (.int k)) = _
    rw [keyEq_int, lookD_hP k r]
    unfold look
    rw [List.find?_cons]
    by_cases e : p.1 = k
    · rw [if_pos (decide_eq_true e), decide_eq_true e]
      rfl
    · rw [if_neg (by simpa using e), decide_eq_false e]
theorem putD_hP (k v : Int) : ∀ h : HL, putD (hP h) (.int k) (.int v) = hP (put h k v)
  | [] => rfl
  | p :: r => by
    show (if keyEq (.int p.1) (.int k) = true then D.tup [.int p.1, .int v] :: hP r else D.tup [.int p.1, .int p.2] :: putD (hP r) (.int k) (.int v)) = _
    rw [keyEq_int, putD_hP k v r, put_cons]
    by_cases e : p.1 = k
    · rw [if_pos (decide_eq_true e), if_pos e]
      rfl
    · rw [if_neg (by simpa using e), if_neg e]
      rfl
theorem keysD_hP : ∀ h : HL, keysD (hP h) = (h.map (·.1)).map .int
  | [] => rfl
  | p :: r => congrArg (D.int p.1 :: ·) (keysD_hP r)
theorem valsD_hP : ∀ h : HL, valsD (hP h) = (h.map (·.2)).map .int
  | [] => rfl
  | p :: r => congrArg (D.int p.2 :: ·) (valsD_hP r)
theorem look_none {k : Int} {h : HL} : look h k = none ↔ k ∉ h.map (·.1) := by
  unfold look
  rw [Option.map_eq_none_iff, List.find?_eq_none]
  simp only [decide_eq_true_eq, List.mem_map, not_exists, not_and]
theorem has_iff {k : Int} {h : HL} : has h k = true ↔ k ∈ h.map (·.1) := by
  unfold has
  cases e : look h k with
  | none => exact ⟨(fun z => nomatch z), fun z => absurd z (look_none.mp e)⟩
  | some v => exact ⟨fun _ => Classical.byContradiction fun z => (by rw [look_none.mpr z] at e; cases e), fun _ => rfl⟩
theorem has_eq (k : Int) (h : HL) : has h k = decide (k ∈ h.map (·.1)) := by
  by_cases e : k ∈ h.map (·.1)
  · rw [decide_eq_true e, has_iff.mpr e]
  · rw [decide_eq_false e]
    cases q : has h k with
    | false => rfl
    | true => exact absurd (has_iff.mp q) e
theorem has_some {k : Int} {h : HL} (e : has h k = true) : ∃ v, look h k = some v := Option.isSome_iff_exists.mp e
theorem look_mem {k v : Int} {h : HL} (e : look h k = some v) : (k, v) ∈ h := by
  unfold look at e
  obtain ⟨p, h1, h2⟩ := Option.map_eq_some_iff.mp e
  have h3 := List.find?_some h1
  have h4 : p.1 = k := of_decide_eq_true h3
  have := List.mem_of_find?_eq_some h1
  rw [← h4, ← h2]
  exact this
theorem look_of_mem {k v : Int} : ∀ {h : HL}, (h.map (·.1)).Nodup → (k, v) ∈ h → look h k = some v
  | p :: r, nd, m => by
    rw [List.map_cons, List.nodup_cons] at nd
    unfold look
    rw [List.find?_cons]
    rcases List.mem_cons.mp m with rfl | m
    · rw [decide_eq_true rfl]
      rfl
    · have ne : p.1 ≠ k := fun e => nd.1 (e ▸ List.mem_map.mpr ⟨_, m, rfl⟩)
      rw [decide_eq_false ne]
      exact look_of_mem nd.2 m
theorem ndK_hP : ∀ h : HL, ndK (hP h) = decide ((h.map (·.1)).Nodup)
  | [] => rfl
  | p :: r => by
    show ((lookD (hP r) (.int p.1)).isNone && ndK (hP r)) = _
    rw [lookD_hP, ndK_hP r, List.map_cons]
    cases e : look r p.1 with
    | none =>
      have := look_none.mp e
      show decide ((r.map (·.1)).Nodup) = _
      exact decide_eq_decide.mpr (by rw [List.nodup_cons]; exact ⟨fun z => ⟨this, z⟩, fun z => z.2⟩)
    | some v =>
      have : p.1 ∈ r.map (·.1) := Classical.byContradiction fun z => by rw [look_none.mpr z] at e; cases e
      exact (decide_eq_false (by rw [List.nodup_cons]; exact fun z => z.1 this)).symm
theorem hP_len (h : HL) : (hP h).length = h.length := List.length_map ..
theorem inU_h (neg : Bool) (k : Int) (h : HL) : gInU neg (.int k) (hD h) = .ok (.bl (if neg then !has h k else has h k)) := by
  show Out.ok (D.bl (if neg then !(lookD (hP h) (.int k)).isSome else (lookD (hP h) (.int k)).isSome)) = _
  rw [lookD_hP, Option.isSome_map]
  rfl
theorem ixU_h {k v : Int} {h : HL} (e : look h k = some v) : gIxU (hD h) (.int k) = .ok (.int v) := by
  show (match keyQ (.int k), lookD (hP h) (.int k) with
    | some _, some d => Out.ok d
    | _, _ => .bad) = _
  rw [lookD_hP, e]
  rfl
theorem lenU_h (h : HL) : gLenU [hD h] = .ok (.int h.length) := by
  show Out.ok (D.int (hP h).length) = _
  rw [hP_len]
theorem intsD_map : ∀ ns : List Int, intsD (ns.map .int) = some ns
  | [] => rfl
  | n :: ns => by
    show (intsD (ns.map .int)).map (n :: ·) = _
    rw [intsD_map ns]
    rfl
theorem sortedU_h (h : HL) : gSortedU [hD h] = .ok (.lst ((srtI (h.map (·.1))).map .int)) := by
  show (match intsD (keysD (hP h)) with
    | some ns => Out.ok (D.lst ((srtI ns).map .int))
    | none => match txsD (keysD (hP h)) with
      | some ns => .ok (.lst ((srtS ns).map .str))
      | none => .bad) = _
  rw [keysD_hP, intsD_map]
theorem listVl_h (h : HL) : gListVl (hD h) = .ok (.lst ((h.map (·.2)).map .int)) := by
  show Out.ok (D.lst (valsD (hP h))) = _
  rw [valsD_hP]
theorem soSet_ints {ns : List Int} (hl : ns.length ≤ 4000) : gSoSetU (.lst (ns.map .int)) = .ok (.lst ((sortI ns).map .int)) := by
  show (match intsD (ns.map .int) with
    | some ns => if ns.length ≤ 4000 then Out.ok (D.lst ((sortI ns).map .int)) else .bad
    | none => match txsD (ns.map .int) with
      | some ns => if ns.length ≤ 4000 then .ok (.lst ((sortS ns).map .str)) else .bad
      | none => .bad) = _
  rw [intsD_map]
  exact if_pos hl
theorem soSet_intsT {ns : List Int} (hl : ns.length ≤ 4000) : gSoSetU (.tup (ns.map .int)) = .ok (.lst ((sortI ns).map .int)) := soSet_ints hl
/-- equality of dicts of ints -/
theorem shaped_int (i : Int) : SeqAt.shaped (toP (.int i)) = true := rfl
theorem valsOk_h (h : HL) : valsOk (hP h) = true := by
  unfold valsOk hP
  rw [List.all_map]
  exact List.all_eq_true.mpr fun p _ => rfl
theorem hit_h (h : HL) (p : Int × Int) : hitD (hP h) (prI p) = decide (look h p.1 = some p.2) := by
  show (match lookD (hP h) (.int p.1) with
    | some e => PyData.eqv (toP (.int p.2)) (toP e)
    | none => false) = _
  rw [lookD_hP]
  cases look h p.1 with
  | none => exact (decide_eq_false fun z => by cases z).symm
  | some v =>
    show decide (p.2 = v) = decide (some v = some p.2)
    exact decide_eq_decide.mpr ⟨fun z => by rw [z], fun z => (Option.some.inj z).symm⟩
def eqH (a b : HL) : Bool := a.length == b.length && a.all fun p => decide (look b p.1 = some p.2)
theorem eqK_h (a b : HL) : eqK (hP a) (hP b) = eqH a b := by
  unfold eqK eqH
  rw [hP_len, hP_len]
  congr 1
  show (a.map prI).all (hitD (hP b)) = _
  rw [List.all_map]
  congr 1
  funext p
  exact hit_h b p
theorem eqU_h (a b : HL) : gEqU (hD a) (hD b) = .ok (.bl (eqH a b)) := by
  show (if valsOk (hP a) = true ∧ valsOk (hP b) = true then Out.ok (D.bl (eqK (hP a) (hP b))) else .bad) = _
  rw [if_pos ⟨valsOk_h a, valsOk_h b⟩, eqK_h]
theorem neU_h (a b : HL) : gNeU (hD a) (hD b) = .ok (.bl (!eqH a b)) := by
  show (if valsOk (hP a) = true ∧ valsOk (hP b) = true then Out.ok (D.bl (!eqK (hP a) (hP b))) else .bad) = _
  rw [if_pos ⟨valsOk_h a, valsOk_h b⟩, eqK_h]
theorem eqH_self {h : HL} (nd : (h.map (·.1)).Nodup) : eqH h h = true := by
  unfold eqH
  rw [Bool.and_eq_true]
  exact ⟨beq_self_eq_true _, List.all_eq_true.mpr fun p hp => decide_eq_true (look_of_mem nd hp)⟩
theorem eqH_perm {a b : HL} (nd : (b.map (·.1)).Nodup) (p : a.Perm b) : eqH a b = true := by
  unfold eqH
  rw [Bool.and_eq_true]
  exact ⟨beq_iff_eq.mpr p.length_eq, List.all_eq_true.mpr fun q hq => decide_eq_true (look_of_mem nd (p.mem_iff.mp hq))⟩
/-! ### putting -/
theorem put_new {h : HL} {k : Int} (v : Int) (n : k ∉ h.map (·.1)) : put h k v = h ++ [(k, v)] := by
  induction h with
  | nil => rfl
  | cons p r ih =>
    rw [List.map_cons, List.mem_cons, not_or] at n
    rw [put_cons, if_neg fun e => n.1 e.symm, ih n.2]
    rfl
theorem put_keys (h : HL) (k v : Int) : (put h k v).map (·.1) = if k ∈ h.map (·.1) then h.map (·.1) else h.map (·.1) ++ [k] := by
  induction h with
  | nil => rfl
  | cons p r ih =>
    rw [put_cons]
    by_cases e : p.1 = k
    · rw [if_pos e, if_pos (by rw [List.map_cons, e]; exact List.mem_cons_self)]
      rfl
    · rw [if_neg e, List.map_cons, ih, List.map_cons]
      by_cases m : k ∈ r.map (·.1)
      · rw [if_pos m, if_pos (List.mem_cons_of_mem _ m)]
      · rw [if_neg m, if_neg fun z => by
          rcases List.mem_cons.mp z with z | z
          · exact e z.symm
          · exact m z]
        rfl
theorem put_nodup {h : HL} {k v : Int} (nd : (h.map (·.1)).Nodup) : ((put h k v).map (·.1)).Nodup := by
  rw [put_keys]
  split
  · exact nd
  · rename_i m
    exact List.nodup_append.mpr ⟨nd, by simp, fun a ha b hb e => by
      rw [List.mem_singleton] at hb
      rw [e, hb] at ha
      exact m ha⟩
theorem put_len (h : HL) (k v : Int) : (put h k v).length ≤ h.length + 1 := by
  induction h with
  | nil => exact Nat.le_refl _
  | cons p r ih =>
    rw [put_cons]
    split
    · exact Nat.le_succ _
    · exact Nat.succ_le_succ ih
theorem put_mem {h : HL} {k v : Int} {p : Int × Int} (m : p ∈ put h k v) : p ∈ h ∨ p = (k, v) := by
  induction h with
  | nil => exact .inr (List.mem_singleton.mp m)
  | cons q r ih =>
    rw [put_cons] at m
    split at m
    · rename_i e
      rcases List.mem_cons.mp m with m | m
      · exact .inr (by rw [m, e])
      · exact .inl (List.mem_cons_of_mem _ m)
    · rcases List.mem_cons.mp m with m | m
      · exact .inl (by rw [m]; exact List.mem_cons_self)
      · rcases ih m with z | z
        · exact .inl (List.mem_cons_of_mem _ z)
        · exact .inr z
/-! ### merging -/
def mergeH (a b : HL) : HL := b.foldl (fun h p => put h p.1 p.2) a
theorem mergeD_hP : ∀ (b a : HL), mergeD (hP a) (hP b) = hP (mergeH a b)
  | [], a => rfl
  | p :: r, a => by
    show mergeD (putD (hP a) (.int p.1) (.int p.2)) (hP r) = _
    rw [putD_hP]
    exact mergeD_hP r (put a p.1 p.2)
theorem merge_nodup : ∀ (b : HL) {a : HL}, (a.map (·.1)).Nodup → ((mergeH a b).map (·.1)).Nodup
  | [], _, nd => nd
  | p :: r, _, nd => merge_nodup r (put_nodup nd)
theorem merge_app : ∀ (b a : HL), ((a ++ b).map (·.1)).Nodup → mergeH a b = a ++ b
  | [], a, _ => (List.append_nil a).symm
  | p :: r, a, nd => by
    have n : p.1 ∉ a.map (·.1) := fun z => by
      rw [List.map_append, List.map_cons] at nd
      exact (List.nodup_append.mp nd).2.2 _ z _ List.mem_cons_self rfl
    show mergeH (put a p.1 p.2) r = _
    rw [put_new _ n, merge_app r (a ++ [p]) (by rw [List.append_assoc]; exact nd), List.append_assoc]
    rfl
/-- {k: v for ..} of ints -/
theorem cmpD_eq {α : Type} {vs : List Nat} {g : D → Env' → Out Env'} {t : Env' → Out Bool} {fk fv : Env' → Out D} {ρ : Env'} (enc : α → D) (c : α → Bool) (G : α → Int × Int) : ∀ (l : List α) (acc : HL), (acc.map (·.1)).Nodup → (∀ a ∈ l, ∃ ρ1, g (enc a) (wipeE ρ vs) = .ok ρ1 ∧ t ρ1 = .ok (c a) ∧ (c a = true → fk ρ1 = .ok (.int (G a).1) ∧ fv ρ1 = .ok (.int (G a).2))) →
    cmpD vs g t fk fv ρ (l.map enc) (hP acc) = .ok (hP (mergeH acc ((l.filter c).map G)))
  | [], acc, _, _ => rfl
  | x :: xs, acc, nd, h => by
    obtain ⟨ρ1, h1, h2, h3⟩ := h x List.mem_cons_self
    have ih := fun acc nd => cmpD_eq enc c G xs acc nd fun a ha => h a (List.mem_cons_of_mem _ ha)
    show ((noX (g (enc x) (wipeE ρ vs))).bind fun ρ1 => (noX (t ρ1)).bind fun c => if c = true then (noX (fk ρ1)).bind fun k => (noX (fv ρ1)).bind fun d => if (keyQ k).isSome = true ∧ ndK (hP acc) = true then cmpD vs g t fk fv ρ (xs.map enc) (putD (hP acc) k d) else .bad else cmpD vs g t fk fv ρ (xs.map enc) (hP acc)) = _
    rw [h1]
    show ((noX (t ρ1)).bind fun c => if c = true then (noX (fk ρ1)).bind fun k => (noX (fv ρ1)).bind fun d => if (keyQ k).isSome = true ∧ ndK (hP acc) = true then cmpD vs g t fk fv ρ (xs.map enc) (putD (hP acc) k d) else .bad else cmpD vs g t fk fv ρ (xs.map enc) (hP acc)) = _
    rw [h2]
    show (if c x = true then (noX (fk ρ1)).bind fun k => (noX (fv ρ1)).bind fun d => if (keyQ k).isSome = true ∧ ndK (hP acc) = true then cmpD vs g t fk fv ρ (xs.map enc) (putD (hP acc) k d) else .bad else cmpD vs g t fk fv ρ (xs.map enc) (hP acc)) = _
    by_cases e : c x = true
    · obtain ⟨e1, e2⟩ := h3 e
      rw [if_pos e, e1, e2]
      show (if (keyQ (.int (G x).1)).isSome = true ∧ ndK (hP acc) = true then cmpD vs g t fk fv ρ (xs.map enc) (putD (hP acc) (.int (G x).1) (.int (G x).2)) else .bad) = _
      rw [if_pos ⟨rfl, by rw [ndK_hP]; exact decide_eq_true nd⟩, putD_hP, ih _ (put_nodup nd), List.filter_cons_of_pos e]
      rfl
    · rw [if_neg e, ih _ nd, List.filter_cons_of_neg e]
theorem rDc_eq {α : Type} {it : Env' → Out (List D)} {vs : List Nat} {g : D → Env' → Out Env'} {t : Env' → Out Bool} {fk fv : Env' → Out D} {ρ : Env'} (enc : α → D) (c : α → Bool) (G : α → Int × Int) (l : List α) (hi : it ρ = .ok (l.map enc)) (hl : l.length ≤ 100000)
    (h : ∀ a ∈ l, ∃ ρ1, g (enc a) (wipeE ρ vs) = .ok ρ1 ∧ t ρ1 = .ok (c a) ∧ (c a = true → fk ρ1 = .ok (.int (G a).1) ∧ fv ρ1 = .ok (.int (G a).2))) : rDc it vs g t fk fv ρ = .ok (hD (mergeH [] ((l.filter c).map G))) := by
  unfold rDc
  rw [hi]
  show (if (l.map enc).length ≤ sizeLine then (noX (cmpD vs g t fk fv ρ (l.map enc) [])).bind fun ds => Out.ok (D.dic ds) else Out.bad) = _
  rw [if_pos (by rw [List.length_map]; exact Nat.le_trans hl (by decide))]
  have := cmpD_eq (g := g) (t := t) (fk := fk) (fv := fv) (ρ := ρ) (vs := vs) enc c G l [] List.nodup_nil h
  rw [show cmpD vs g t fk fv ρ (l.map enc) [] = cmpD vs g t fk fv ρ (l.map enc) (hP []) from rfl, this]
  rfl
/-! ### bools -/
theorem bools_mapB : ∀ l : List Bool, bools (l.map .bl) = some l
  | [] => rfl
  | c :: r => by
    show (bools (r.map D.bl)).map (c :: ·) = _
    rw [bools_mapB r]
    rfl
theorem all_bl {α : Type} (l : List α) (p : α → Bool) : gAll [.lst (l.map fun a => .bl (p a))] = .ok (.bl (l.all p)) := by
  have e : (l.map fun a => D.bl (p a)) = (l.map p).map .bl := by rw [List.map_map]; rfl
  unfold gAll
  rw [e]
  dsimp only
  rw [bools_mapB]
  show Out.ok (D.bl ((l.map p).all id)) = _
  rw [List.all_map]
  rfl
theorem any_bl {α : Type} (l : List α) (p : α → Bool) : gAny [.lst (l.map fun a => .bl (p a))] = .ok (.bl (l.any p)) := by
  have e : (l.map fun a => D.bl (p a)) = (l.map p).map .bl := by rw [List.map_map]; rfl
  unfold gAny
  rw [e]
  dsimp only
  rw [bools_mapB]
  show Out.ok (D.bl ((l.map p).any id)) = _
  rw [List.any_map]
  rfl
theorem nofalse_bl {α : Type} (l : List α) (p : α → Bool) : gInU true (.bl false) (.lst (l.map fun a => .bl (p a))) = .ok (.bl (l.all p)) := by
  show gInS true (.bl false) (l.map fun a => .bl (p a)) = _
  unfold gInS
  have hf : flatD (.bl false) = true ∧ (l.map fun a => D.bl (p a)).all flatD = true := by
    refine ⟨rfl, ?_⟩
    rw [List.all_map]
    exact List.all_eq_true.mpr fun c _ => rfl
  rw [if_pos hf]
  congr 2
  show (!((l.map fun a => D.bl (p a)).any fun y => PyData.eqv (toP y) (toP (.bl false)))) = _
  rw [List.any_map, List.not_any_eq_all_not]
  congr 1
  funext a
  show (!(PyData.eqv (toP (.bl (p a))) (toP (.bl false)))) = p a
  cases p a <;> decide +kernel
/-- k in a list of ints -/
theorem in_ints (neg : Bool) (k : Int) (ns : List Int) : gInU neg (.int k) (.lst (ns.map .int)) = .ok (.bl (if neg then !decide (k ∈ ns) else decide (k ∈ ns))) := by
  show gInS neg (.int k) (ns.map .int) = _
  unfold gInS
  have hf : flatD (.int k) = true ∧ (ns.map D.int).all flatD = true := by
    refine ⟨rfl, ?_⟩
    rw [List.all_map]
    exact List.all_eq_true.mpr fun c _ => rfl
  rw [if_pos hf]
  have e : ((ns.map D.int).any fun y => PyData.eqv (toP y) (toP (.int k))) = decide (k ∈ ns) := by
    rw [List.any_map]
    show (ns.any fun n => decide (n = k)) = _
    rw [Bool.eq_iff_iff, List.any_eq_true, decide_eq_true_eq]
    exact ⟨fun ⟨x, h1, h2⟩ => of_decide_eq_true h2 ▸ h1, fun h => ⟨k, h, decide_eq_true rfl⟩⟩
  rw [e]
end VL

/-! PL2: further equations by which mirrors are run. -/
namespace VL
open PySem PySem.Spec L2
section
variable {α : Type} {ρ : Env'} {f g h : Env' → Out D} {o : D → D → Out D}
theorem ev_arity (n : Nat) (mf : List D → Out D) (ds : List D) : arity n mf ds = if ds.length = n then mf ds else .bad := rfl
theorem ev_fnF (n : Nat) (b : Env' → Out (Fl × Env')) (ds : List D) : fnF n b ds = (b (begE n (ds.map Cell.val))).bind fun p => match p.1 with
    | .nx => .ok .non
    | .ret d => .ok d
    | .new d => .ok d
    | .brk => .bad
    | .cnt => .bad := by
  unfold fnF
  congr 1
  funext p
  cases p.1 <;> rfl
theorem ev_sRaise (c : Str) : sRaise c ρ = .exc c [] := rfl
theorem ev_sPar (i j : Nat) (cf cg : D → Cell) : sPar i j f g cf cg ρ = (f ρ).bind fun d => (g ρ).bind fun e => .ok (.nx, (ρ.set i (cf d)).set j (cg e)) := rfl
theorem ev_frzE (i : Nat) : frzE i ρ = match ρ[i]? with
    | some (.own d) => ρ.set i (.val d)
    | _ => ρ := rfl
theorem ev_sDrop (m : Env' → Out (D × Env')) : sDrop m ρ = (m ρ).bind fun x => .ok (.nx, x.2) := rfl
theorem ev_sApp (i : Nat) (m : Env' → Out (D × Env')) : sApp i m ρ = match ρ[i]? with
    | some (.own (.lst _)) => (m ρ).bind fun y => (match y.2[i]? with
      | some (.own (.lst xs)) => if xs.length < sizeLine then .ok (.nx, y.2.set i (.own (.lst (xs ++ [y.1])))) else .bad
      | _ => .bad)
    | _ => .bad := rfl
theorem ev_iKs (u : Env' → Out D) : iKs u ρ = (u ρ).bind fun d => match d with
    | .dic xs => .ok (keysD xs)
    | _ => .bad := rfl
theorem ev_iRng (fs : Env' → Out (List D)) (u : List D → Out (List D)) : iRng fs u ρ = (fs ρ).bind u := rfl
theorem ev_iMrng (ms : Env' → Out (List D × Env')) (u : List D → Out (List D)) : iMrng ms u ρ = (ms ρ).bind fun x => (noX (u x.1)).bind fun xs => .ok (xs, x.2) := rfl
theorem ev_sTry (ex : Str → Option Bool) (u v : Env' → Out (Fl × Env')) : sTry ex u v ρ = match u ρ with
    | .ok p => .ok p
    | .exc c fs => match ex c with
      | some true => noX (v (emps ρ))
      | some false => .exc c fs
      | none => .bad
    | .bad => .bad := rfl
theorem ev_while (c : Env' → Out (Bool × Env')) (u : Env' → Out (Fl × Env')) (n : Nat) : whileL c u (n + 1) ρ = (c ρ).bind fun t => if t.1 = true then (u t.2).bind fun p => match p.1 with
      | .nx => whileL c u n p.2
      | .cnt => whileL c u n p.2
      | .brk => .ok (.nx, p.2)
      | .ret d => .ok (.ret d, p.2)
      | .new d => .ok (.new d, p.2)
    else .ok (.nx, t.2) := rfl
theorem ev_forNil (t : D → Env' → Out Env') (u : Env' → Out (Fl × Env')) : forL t u [] ρ = .ok (.nx, ρ) := rfl
theorem ev_forCons (t : D → Env' → Out Env') (u : Env' → Out (Fl × Env')) (x : D) (xs : List D) : forL t u (x :: xs) ρ = (noX (t x ρ)).bind fun ρ1 => (u ρ1).bind fun p => match p.1 with
    | .nx => forL t u xs p.2
    | .cnt => forL t u xs p.2
    | .brk => .ok (.nx, p.2)
    | .ret d => .ok (.ret d, p.2)
    | .new d => .ok (.new d, p.2) := rfl
theorem ev_gTup1 {xs : List D} (h : xs.length ≤ 1000) : gTup xs = .ok (.tup xs) := if_pos (Nat.le_trans h (by decide))
theorem ev_gLst1 {xs : List D} (h : xs.length ≤ 1000) : gLst xs = .ok (.lst xs) := if_pos (Nat.le_trans h (by decide))
theorem ev_gLst0 : gLst [] = .ok (.lst []) := ev_gLst1 (by decide)
theorem ev_gLst2 (a b : D) : gLst [a, b] = .ok (.lst [a, b]) := ev_gLst1 (show 2 ≤ 1000 by decide)
theorem ev_gTup2 (a b : D) : gTup [a, b] = .ok (.tup [a, b]) := ev_gTup1 (show 2 ≤ 1000 by decide)
theorem ev_gTup3 (a b c : D) : gTup [a, b, c] = .ok (.tup [a, b, c]) := ev_gTup1 (show 3 ≤ 1000 by decide)
theorem ev_lenU (xs : List D) : gLenU [.lst xs] = .ok (.int xs.length) := rfl
theorem ev_lenUT (xs : List D) : gLenU [.tup xs] = .ok (.int xs.length) := rfl
theorem ev_seqL (xs : List D) : seqD (.lst xs) = .ok xs := rfl
theorem ev_seqT (xs : List D) : seqD (.tup xs) = .ok xs := rfl
theorem addI (i j : Int) : gAddU (.int i) (.int j) = .ok (.int (i + j)) := Eq.trans (b := .ok (.int (i + j))) rfl rfl
theorem eqU_int (a b : Int) : gEqU (.int a) (.int b) = .ok (.bl (decide (a = b))) := rfl
theorem neU_int (a b : Int) : gNeU (.int a) (.int b) = .ok (.bl (!decide (a = b))) := rfl
theorem gR1_ok {n : Nat} (h : n ≤ 100000) : gR1 [.int n] = .ok (rngD 0 n) := by
  have e : okR (n : Int) = true := by unfold okR; rw [Bool.and_eq_true, decide_eq_true_eq, decide_eq_true_eq]; constructor <;> omega
  have e2 : gR1 [.int n] = if okR (n : Int) = true then Out.ok (rngD 0 (n : Int).toNat) else .bad := by unfold gR1; rfl
  rw [e2, if_pos e, Int.toNat_natCast]
theorem gR2_ok {m n : Int} (h0 : -100000 ≤ m) (h1 : m ≤ 100000) (h2 : -100000 ≤ n) (h3 : n ≤ 100000) : gR2 [.int m, .int n] = .ok (rngD m (n - m).toNat) := by
  have e : okR m = true ∧ okR n = true := by unfold okR; rw [Bool.and_eq_true, Bool.and_eq_true, decide_eq_true_eq, decide_eq_true_eq, decide_eq_true_eq, decide_eq_true_eq]; refine ⟨⟨?_, ?_⟩, ?_, ?_⟩ <;> omega
  have e2 : gR2 [.int m, .int n] = if okR m = true ∧ okR n = true then Out.ok (rngD m (n - m).toNat) else .bad := by unfold gR2; rfl
  rw [e2, if_pos e]
theorem rng1_ok {n : Nat} (e : f ρ = .ok (.int n)) (h : n ≤ 100000) : iRng (rCons f rNil) gR1 ρ = .ok (rngD 0 n) := by
  have e2 : rCons f rNil ρ = .ok [.int n] := by rw [ev_rCons, e]; rfl
  have e3 : iRng (rCons f rNil) gR1 ρ = (rCons f rNil ρ).bind gR1 := by unfold iRng; rfl
  rw [e3, e2, ev_ok, gR1_ok h]
theorem rng2_ok {m n : Int} (e : f ρ = .ok (.int m)) (e' : g ρ = .ok (.int n)) (h0 : -100000 ≤ m) (h1 : m ≤ 100000) (h2 : -100000 ≤ n) (h3 : n ≤ 100000) : iRng (rCons f (rCons g rNil)) gR2 ρ = .ok (rngD m (n - m).toNat) := by
  have e2 : rCons f (rCons g rNil) ρ = .ok [.int m, .int n] := by rw [ev_rCons, e, ev_rCons, e']; rfl
  have e3 : iRng (rCons f (rCons g rNil)) gR2 ρ = (rCons f (rCons g rNil) ρ).bind gR2 := by unfold iRng; rfl
  rw [e3, e2, ev_ok, gR2_ok h0 h1 h2 h3]
theorem rngD_len (a : Int) (n : Nat) : (rngD a n).length = n := by unfold rngD; rw [List.length_map, List.length_range]
end
end VL

/-! PL3: ways in heaps (plain). -/
namespace VL
open PySem PySem.Spec L2
theorem nodup_sub_len {α : Type} [DecidableEq α] : ∀ (l M : List α), l.Nodup → (∀ x ∈ l, x ∈ M) → l.length ≤ M.length
  | [], _, _, _ => Nat.zero_le _
  | x :: l, M, nd, sub => by
    rw [List.nodup_cons] at nd
    have hx := sub x List.mem_cons_self
    have ih := nodup_sub_len l (M.erase x) nd.2 fun y hy => by
      have ne : y ≠ x := fun e => nd.1 (e ▸ hy)
      exact (List.mem_erase_of_ne ne).mpr (sub y (List.mem_cons_of_mem _ hy))
    rw [List.length_erase_of_mem hx] at ih
    have : 0 < M.length := List.length_pos_of_mem hx
    rw [List.length_cons]
    omega
def get (h : HL) (k : Int) : Int := (look h k).getD 0
theorem look_get {h : HL} {k : Int} (e : has h k = true) : look h k = some (get h k) := by
  obtain ⟨v, hv⟩ := has_some e
  unfold get
  rw [hv]
  rfl
def keys (h : HL) : List Int := h.map (·.1)
/-- on along a way: at most so many cells more -/
def wayF (h : HL) : Nat → Int → List Int → List Int × Int
  | 0, at_, acc => (acc, at_)
  | n + 1, at_, acc => if has h at_ = true ∧ at_ ∉ acc then wayF h n (get h at_) (acc ++ [at_]) else (acc, at_)
def Row (h : HL) (acc : List Int) : Prop := acc.Nodup ∧ ∀ x ∈ acc, x ∈ keys h
theorem Row.nil (h : HL) : Row h [] := ⟨List.nodup_nil, fun _ z => nomatch z⟩
theorem Row.snoc {h : HL} {acc : List Int} {a : Int} (r : Row h acc) (e : has h a = true) (n : a ∉ acc) : Row h (acc ++ [a]) :=
  ⟨List.nodup_append.mpr ⟨r.1, by simp, fun x hx y hy z => by
    rw [List.mem_singleton] at hy
    rw [z, hy] at hx
    exact n hx⟩, fun x hx => by
    rcases List.mem_append.mp hx with hx | hx
    · exact r.2 x hx
    · rw [List.mem_singleton] at hx
      rw [hx]
      exact has_iff.mp e⟩
theorem Row.full {h : HL} {acc : List Int} {a : Int} (r : Row h acc) (l : h.length ≤ acc.length) : ¬ (has h a = true ∧ a ∉ acc) := fun ⟨e, n⟩ => by
  have := nodup_sub_len _ _ (r.snoc e n).1 (r.snoc e n).2
  unfold keys at this
  rw [List.length_append, List.length_map, List.length_singleton] at this
  omega
theorem wayF_row {h : HL} : ∀ (n : Nat) (a : Int) (acc : List Int), Row h acc → Row h (wayF h n a acc).1
  | 0, a, acc, r => r
  | n + 1, a, acc, r => by
    unfold wayF
    split
    · rename_i c
      exact wayF_row n _ _ (r.snoc c.1 c.2)
    · exact r
theorem wayF_stop {h : HL} : ∀ (n : Nat) (a : Int) (acc : List Int), Row h acc → h.length ≤ acc.length + n → ¬ (has h (wayF h n a acc).2 = true ∧ (wayF h n a acc).2 ∉ (wayF h n a acc).1)
  | 0, a, acc, r, l => r.full l
  | n + 1, a, acc, r, l => by
    unfold wayF
    split
    · rename_i c
      exact wayF_stop n _ _ (r.snoc c.1 c.2) (by rw [List.length_append, List.length_singleton]; omega)
    · assumption
/-- come to along cells -/
inductive Rch (h : HL) : Int → Int → Prop where
  | base {v : Int} : has h v = true → Rch h v v
  | step {v x : Int} : has h v = true → Rch h (get h v) x → Rch h v x
theorem wayF_sub {h : HL} {x : Int} : ∀ (n : Nat) (a : Int) (acc : List Int), x ∈ (wayF h n a acc).1 → x ∈ acc ∨ Rch h a x
  | 0, a, acc, m => .inl m
  | n + 1, a, acc, m => by
    unfold wayF at m
    split at m
    · rename_i c
      rcases wayF_sub n _ _ m with m | m
      · rcases List.mem_append.mp m with m | m
        · exact .inl m
        · rw [List.mem_singleton] at m
          rw [m]
          exact .inr (.base c.1)
      · exact .inr (.step c.1 m)
    · exact .inl m
theorem wayF_mono {h : HL} {x : Int} : ∀ (n : Nat) (a : Int) (acc : List Int), x ∈ acc → x ∈ (wayF h n a acc).1
  | 0, a, acc, m => m
  | n + 1, a, acc, m => by
    unfold wayF
    split
    · exact wayF_mono n _ _ (List.mem_append_left _ m)
    · exact m
def Cl (h : HL) (acc : List Int) (a : Int) : Prop := ∀ c ∈ acc, has h (get h c) = true → get h c ∈ acc ∨ get h c = a
theorem wayF_cl {h : HL} : ∀ (n : Nat) (a : Int) (acc : List Int), Cl h acc a → Cl h (wayF h n a acc).1 (wayF h n a acc).2
  | 0, a, acc, c => c
  | n + 1, a, acc, c => by
    unfold wayF
    split
    · rename_i e
      refine wayF_cl n _ _ fun y hy hh => ?_
      rcases List.mem_append.mp hy with hy | hy
      · rcases c y hy hh with z | z
        · exact .inl (List.mem_append_left _ z)
        · exact .inl (List.mem_append_right _ (by rw [z]; exact List.mem_singleton.mpr rfl))
      · rw [List.mem_singleton] at hy
        rw [hy]
        exact .inr rfl
    · exact c
def Closed (h : HL) (S : List Int) : Prop := ∀ c ∈ S, has h (get h c) = true → get h c ∈ S
theorem wayF_closed {h : HL} {n : Nat} {a : Int} {acc : List Int} (r : Row h acc) (l : h.length ≤ acc.length + n) (c : Closed h acc) : Closed h (wayF h n a acc).1 := fun x hx hh => by
  have k := wayF_cl n a acc (fun y hy z => .inl (c y hy z)) x hx hh
  rcases k with k | k
  · exact k
  · have s := wayF_stop n a acc r l
    rw [← k] at s
    exact Classical.byContradiction fun z => s ⟨hh, z⟩
theorem wayF_head {h : HL} {n : Nat} {a : Int} {acc : List Int} (r : Row h acc) (l : h.length ≤ acc.length + n) (e : has h a = true) : a ∈ (wayF h n a acc).1 := by
  cases n with
  | zero =>
    exact Classical.byContradiction fun z => r.full l ⟨e, z⟩
  | succ n =>
    by_cases m : a ∈ acc
    · exact wayF_mono _ _ _ m
    · unfold wayF
      rw [if_pos ⟨e, m⟩]
      exact wayF_mono _ _ _ (List.mem_append_right _ (List.mem_singleton.mpr rfl))
theorem rch_closed {h : HL} {S : List Int} (c : Closed h S) {v x : Int} (r : Rch h v x) (s : has h v = true → v ∈ S) : x ∈ S := by
  induction r with
  | base e => exact s e
  | step e r ih => exact ih fun z => c _ (s e) z
theorem way_mem {h : HL} {n : Nat} {a x : Int} {acc : List Int} (r : Row h acc) (l : h.length ≤ acc.length + n) (c : Closed h acc) : x ∈ (wayF h n a acc).1 ↔ x ∈ acc ∨ Rch h a x :=
  ⟨wayF_sub n a acc, fun z => z.elim (wayF_mono n a acc) fun z => rch_closed (wayF_closed r l c) z fun e => wayF_head r l e⟩
theorem closed_nil (h : HL) : Closed h [] := fun _ z => nomatch z
/-- the last cell holds where the way ends -/
theorem wayF_last {h : HL} : ∀ (n : Nat) (a : Int) (acc : List Int), (∀ c, acc.getLast? = some c → get h c = a) → ∀ c, (wayF h n a acc).1.getLast? = some c → get h c = (wayF h n a acc).2
  | 0, a, acc, k => k
  | n + 1, a, acc, k => by
    unfold wayF
    split
    · exact wayF_last n _ _ fun c e => by
        rw [List.getLast?_append, List.getLast?_singleton] at e
        cases e
        rfl
    · exact k
theorem wayF_nil {h : HL} {n : Nat} {a : Int} (e : (wayF h n a []).1 = []) : (wayF h n a []).2 = a := by
  cases n with
  | zero => rfl
  | succ n =>
    unfold wayF at e ⊢
    split
    · rename_i c
      rw [if_pos c] at e
      have : a ∈ (wayF h n (get h a) ([] ++ [a])).1 := wayF_mono _ _ _ (List.mem_singleton.mpr rfl)
      rw [e] at this
      cases this
    · rfl
/-- a segment -/
def segF (h : HL) (end_ : Int) : Nat → Int → List Int → Option (List Int)
  | 0, _, _ => none
  | n + 1, at_, acc => if at_ = end_ then some acc else if has h at_ = true ∧ at_ ∉ acc then segF h end_ n (get h at_) (acc ++ [at_]) else none
/-! ### sorting -/
theorem addL_mem {α : Type} [DecidableEq α] {x : α} : ∀ (l acc : List α), x ∈ addL acc l ↔ x ∈ acc ∨ x ∈ l
  | [], acc => ⟨.inl, fun z => z.elim id fun z => nomatch z⟩
  | k :: r, acc => by
    unfold addL
    rw [addL_mem r]
    split
    · rename_i c
      obtain ⟨j, hj, e⟩ := List.any_eq_true.mp c
      have e := of_decide_eq_true e
      subst e
      exact ⟨fun z => z.elim .inl fun z => .inr (List.mem_cons_of_mem _ z), fun z => z.elim .inl fun z => (List.mem_cons.mp z).elim (fun z => .inl (z ▸ hj)) .inr⟩
    · rw [List.mem_cons, List.mem_cons]
      exact ⟨fun z => z.elim (fun z => z.elim (fun z => .inr (.inl z)) .inl) fun z => .inr (.inr z), fun z => z.elim (fun z => .inl (.inr z)) fun z => z.elim (fun z => .inl (.inl z)) .inr⟩
theorem addL_nodup {α : Type} [DecidableEq α] : ∀ (l acc : List α), acc.Nodup → (addL acc l).Nodup
  | [], acc, nd => nd
  | k :: r, acc, nd => by
    unfold addL
    split
    · exact addL_nodup r acc nd
    · rename_i c
      refine addL_nodup r _ (List.nodup_cons.mpr ⟨fun m => c (List.any_eq_true.mpr ⟨k, m, decide_eq_true rfl⟩), nd⟩)
theorem sort_canonI {l m : List Int} (p : l.Perm m) : l.mergeSort (fun a b => decide (a ≤ b)) = m.mergeSort (fun a b => decide (a ≤ b)) :=
  sort_canon (fun a b : Int => decide (a ≤ b)) (fun a b c h k => decide_eq_true (Int.le_trans (of_decide_eq_true h) (of_decide_eq_true k))) (fun a b => by rw [Bool.or_eq_true, decide_eq_true_eq, decide_eq_true_eq]; exact Int.le_total a b) (fun a b h k => Int.le_antisymm (of_decide_eq_true h) (of_decide_eq_true k)) p
/-- the keys sorted are the set sorted -/
theorem srt_set {l S : List Int} (nd : S.Nodup) (h : ∀ x, x ∈ S ↔ x ∈ l) : srtI S = sortI l :=
  sort_canonI ((List.perm_ext_iff_of_nodup nd (addL_nodup l [] List.nodup_nil)).mpr fun x => by rw [h, addL_mem]; exact ⟨.inr, fun z => z.elim (fun z => nomatch z) id⟩)
theorem sortI_mem {l : List Int} {x : Int} : x ∈ sortI l ↔ x ∈ l := by
  unfold sortI
  rw [List.mem_mergeSort, addL_mem]
  exact ⟨fun z => z.elim (fun z => nomatch z) id, .inr⟩
theorem srtI_mem {l : List Int} {x : Int} : x ∈ srtI l ↔ x ∈ l := List.mem_mergeSort
theorem srtI_perm (l : List Int) : (srtI l).Perm l := List.mergeSort_perm _ _
theorem srtI_sorted {l : List Int} (h : l.Pairwise (fun a b => a ≤ b)) : srtI l = l := by
  unfold srtI
  exact List.mergeSort_of_pairwise (h.imp fun z => decide_eq_true z)
end VL

/-! PL4: shapes, equality with itself. -/
namespace VL
open PySem PySem.Spec L2
theorem toPs_map {α : Type} (f : α → D) : ∀ l : List α, toPs (l.map f) = l.map fun a => toP (f a)
  | [] => rfl
  | a :: r => congrArg (toP (f a) :: ·) (toPs_map f r)
theorem layAll {α : Type} {f : α → PyData} : ∀ {l : List α}, (∀ a ∈ l, (f a).canLay0 = true) → PyData.canLayAll0 (l.map f) = true
  | [], _ => rfl
  | a :: r, h => by
    show (PyData.canLay0 (f a) && PyData.canLayAll0 (r.map f)) = true
    rw [h a List.mem_cons_self, layAll fun b hb => h b (List.mem_cons_of_mem _ hb)]
    rfl
theorem depAll {α : Type} {f : α → PyData} {n : Nat} : ∀ {l : List α}, (∀ a ∈ l, (f a).depth ≤ n) → PyData.depthAll (l.map f) ≤ n
  | [], _ => by simp [PyData.depthAll]
  | a :: r, h => by
    rw [List.map_cons]
    unfold PyData.depthAll
    exact Nat.max_le.mpr ⟨h a List.mem_cons_self, depAll fun b hb => h b (List.mem_cons_of_mem _ hb)⟩
/-- of a depth at most n, without dicts, texts well -/
def Shp (n : Nat) (d : D) : Prop := (toP d).canLay0 = true ∧ (toP d).depth ≤ n
theorem Shp.up {n m : Nat} {d : D} (h : Shp n d) (l : n ≤ m) : Shp m d := ⟨h.1, Nat.le_trans h.2 l⟩
theorem Shp.sh {n : Nat} {d : D} (h : Shp n d) (l : n ≤ 64) : SeqAt.shaped (toP d) = true := by
  unfold SeqAt.shaped
  rw [h.1, decide_eq_true (Nat.le_trans h.2 l)]
  rfl
theorem shp_int (i : Int) : Shp 0 (.int i) := ⟨rfl, by simp [toP, PyData.depth]⟩
theorem shp_bl (i : Bool) : Shp 0 (.bl i) := ⟨rfl, by simp [toP, PyData.depth]⟩
theorem shp_non : Shp 0 .non := ⟨rfl, by simp [toP, PyData.depth]⟩
theorem shp_str {x : Str} (h : PyData.strOk x = true) : Shp 0 (.str x) := ⟨h, by simp [toP, PyData.depth]⟩
theorem shp_lstM {α : Type} {n : Nat} {f : α → D} {l : List α} (h : ∀ a ∈ l, Shp n (f a)) : Shp (n + 1) (.lst (l.map f)) := by
  have e : toP (.lst (l.map f)) = .list (l.map fun a => toP (f a)) := by
    show PyData.list (toPs (l.map f)) = _
    rw [toPs_map]
  unfold Shp
  rw [e]
  refine ⟨layAll fun a ha => (h a ha).1, ?_⟩
  have z := depAll (f := fun a => toP (f a)) (n := n) fun a ha => (h a ha).2
  simp only [PyData.depth]
  omega
theorem shp_tupM {α : Type} {n : Nat} {f : α → D} {l : List α} (h : ∀ a ∈ l, Shp n (f a)) : Shp (n + 1) (.tup (l.map f)) := by
  have e : toP (.tup (l.map f)) = .tuple (l.map fun a => toP (f a)) := by
    show PyData.tuple (toPs (l.map f)) = _
    rw [toPs_map]
  unfold Shp
  rw [e]
  refine ⟨layAll fun a ha => (h a ha).1, ?_⟩
  have z := depAll (f := fun a => toP (f a)) (n := n) fun a ha => (h a ha).2
  simp only [PyData.depth]
  omega
theorem shp_lst {n : Nat} {l : List D} (h : ∀ a ∈ l, Shp n a) : Shp (n + 1) (.lst l) := by
  have := shp_lstM (f := fun a : D => a) h
  rwa [List.map_id'] at this
theorem shp_tup {n : Nat} {l : List D} (h : ∀ a ∈ l, Shp n a) : Shp (n + 1) (.tup l) := by
  have := shp_tupM (f := fun a : D => a) h
  rwa [List.map_id'] at this
mutual
theorem eqv_self : ∀ d : D, (toP d).canLay0 = true → PyData.eqv (toP d) (toP d) = true
  | .non, _ => rfl
  | .bl b, _ => by cases b <;> rfl
  | .int i, _ => by
    show decide (i = i) = true
    exact decide_eq_true rfl
  | .str x, _ => by
    show (x == x) = true
    exact beq_self_eq_true x
  | .tup xs, h => eqvs_self xs h
  | .lst xs, h => eqvs_self xs h
  | .dic _, h => by
    unfold toP PyData.canLay0 at h
    exact absurd h Bool.false_ne_true
  | .dit _, h => by
    unfold toP PyData.canLay0 at h
    exact absurd h Bool.false_ne_true
theorem eqvs_self : ∀ l : List D, PyData.canLayAll0 (toPs l) = true → PyData.eqvAll (toPs l) (toPs l) = true
  | [], _ => rfl
  | x :: xs, h => by
    unfold toPs PyData.canLayAll0 at h
    rw [Bool.and_eq_true] at h
    show (PyData.eqv (toP x) (toP x) && PyData.eqvAll (toPs xs) (toPs xs)) = true
    rw [eqv_self x h.1, eqvs_self xs h.2]
    rfl
end
theorem isdic_lay {d : D} (h : (toP d).canLay0 = true) : ∀ xs, d ≠ .dic xs := fun xs e => by
  subst e
  unfold toP PyData.canLay0 at h
  exact absurd h Bool.false_ne_true
theorem eqU_gEq {a b : D} (h : ∀ xs, a ≠ .dic xs) : gEqU a b = gEq a b := by
  cases a <;> first | rfl | exact absurd rfl (h _)
theorem neU_gNe {a b : D} (h : ∀ xs, a ≠ .dic xs) : gNeU a b = gNe a b := by
  cases a <;> first | rfl | exact absurd rfl (h _)
theorem eqU_self {n : Nat} {d : D} (h : Shp n d) (l : n ≤ 64) : gEqU d d = .ok (.bl true) := by
  rw [eqU_gEq (isdic_lay h.1)]
  unfold gEq
  rw [if_pos ⟨h.sh l, h.sh l⟩, eqv_self d h.1]
theorem neU_self {n : Nat} {d : D} (h : Shp n d) (l : n ≤ 64) : gNeU d d = .ok (.bl false) := by
  rw [neU_gNe (isdic_lay h.1)]
  unfold gNe
  rw [if_pos ⟨h.sh l, h.sh l⟩, eqv_self d h.1]
  rfl
theorem shp_iL (l : List Int) : Shp 1 (.lst (l.map .int)) := shp_lstM fun a _ => shp_int a
/-- sorting of what is alike -/
theorem alikeD_map {α : Type} {f : α → D} {l : List α} (h : ∀ a b, PySem.W.alike (toP (f a)) (toP (f b)) = true) : alikeD (l.map f) = true := by
  unfold alikeD
  rw [List.all_map, List.all_eq_true]
  intro a _
  show (l.map f).all (fun y => PySem.W.alike (toP (f a)) (toP y)) = true
  rw [List.all_map, List.all_eq_true]
  exact fun b _ => h a b
theorem sortOk_map {α : Type} {f : α → D} {l : List α} {n : Nat} (h : ∀ a b, PySem.W.alike (toP (f a)) (toP (f b)) = true) (k : (∀ a, isTN (f a) = true) ∨ ∀ a, notNT (f a) = true) (s : ∀ a ∈ l, Shp n (f a)) (hn : n + 1 ≤ 64) : sortOk (l.map f) = true := by
  unfold sortOk
  rw [alikeD_map h, (shp_lstM s).sh hn, Bool.true_and, Bool.and_true, Bool.or_eq_true, List.all_map, List.all_map]
  rcases k with k | k
  · exact .inl (List.all_eq_true.mpr fun a _ => k a)
  · exact .inr (List.all_eq_true.mpr fun a _ => k a)
theorem shp_prI (p : Int × Int) : Shp 1 (prI p) := shp_tup fun a h => by
  rcases List.mem_cons.mp h with rfl | h
  · exact shp_int _
  · rw [List.mem_singleton] at h
    rw [h]
    exact shp_int _
theorem sortIt_h (h : HL) : ∃ h' : HL, h'.Perm h ∧ gSortIt (hD h) = .ok (.lst (hP h')) := by
  have e : sortOk (hP h) = true := sortOk_map (fun a b => by
    show PySem.W.alike (.tuple [.int a.1, .int a.2]) (.tuple [.int b.1, .int b.2]) = true
    simp [PySem.W.alike, PySem.W.alikeAll]) (.inl fun _ => rfl) (fun a _ => shp_prI a) (by omega)
  have e2 : gSortIt (hD h) = if sortOk (hP h) = true then .ok (.lst ((hP h).mergeSort ltLe)) else .bad := rfl
  rw [e2, if_pos e]
  have e3 := List.map_mergeSort (r := fun a b => ltLe (prI a) (prI b)) (s := ltLe) (f := prI) (l := h) fun _ _ _ _ => rfl
  exact ⟨h.mergeSort fun a b => ltLe (prI a) (prI b), List.mergeSort_perm _ _, by
    show Out.ok (D.lst ((h.map prI).mergeSort ltLe)) = _
    rw [← e3]
    rfl⟩
end VL

/-! PL5: reading, step by step, over any environment. -/
namespace VL
open PySem PySem.Spec L2
section
variable {α : Type} {ρ ρ1 ρ2 : Env'} {f g k : Env' → Out D} {t u : Env' → Out Bool} {a b c d : D} {i j : Nat} {p q : Bool}
theorem o_rv (h : ρ[i]? = some (.val d)) : rv false i ρ = .ok d := by rw [ev_rv, h]
theorem o_r1 {o : D → Out D} (h : f ρ = .ok a) (e : o a = .ok d) : r1 f o ρ = .ok d := by rw [ev_r1, h]; show noX (o a) = _; rw [e]; rfl
theorem o_r2 {o : D → D → Out D} (h : f ρ = .ok a) (h' : g ρ = .ok b) (e : o a b = .ok d) : r2 f g o ρ = .ok d := by rw [ev_r2, h, h']; show noX (o a b) = _; rw [e]; rfl
theorem o_N1 {o : List D → Out D} (h : f ρ = .ok a) (e : o [a] = .ok d) : rN (rCons f rNil) o ρ = .ok d := by rw [ev_rN, ev_rCons, h]; show noX (o [a]) = _; rw [e]; rfl
theorem o_N2 {o : List D → Out D} (h : f ρ = .ok a) (h' : g ρ = .ok b) (e : o [a, b] = .ok d) : rN (rCons f (rCons g rNil)) o ρ = .ok d := by rw [ev_rN, ev_rCons, ev_rCons, h, h']; show noX (o [a, b]) = _; rw [e]; rfl
theorem o_F1 {o : List D → Out D} (h : f ρ = .ok a) (e : o [a] = .ok d) : rF (rCons f rNil) o ρ = .ok d := by rw [ev_rF, ev_rCons, h]; exact e
theorem o_F2 {o : List D → Out D} (h : f ρ = .ok a) (h' : g ρ = .ok b) (e : o [a, b] = .ok d) : rF (rCons f (rCons g rNil)) o ρ = .ok d := by rw [ev_rF, ev_rCons, ev_rCons, h, h']; exact e
theorem o_F3 {o : List D → Out D} (h : f ρ = .ok a) (h' : g ρ = .ok b) (h'' : k ρ = .ok c) (e : o [a, b, c] = .ok d) : rF (rCons f (rCons g (rCons k rNil))) o ρ = .ok d := by rw [ev_rF, ev_rCons, ev_rCons, ev_rCons, h, h', h'']; exact e
theorem o_bT (h : f ρ = .ok (.bl p)) : bT f ρ = .ok p := by rw [ev_bT, h]; rfl
theorem o_not (h : t ρ = .ok p) : bNot t ρ = .ok (!p) := by rw [ev_bNot, h]; rfl
theorem o_or (h : t ρ = .ok false) (h' : u ρ = .ok false) : bOr t u ρ = .ok false := by rw [ev_bOr, h]; exact h'
theorem o_orb (h : t ρ = .ok p) (h' : u ρ = .ok q) : bOr t u ρ = .ok (p || q) := by rw [ev_bOr, h]; cases p <;> first | rfl | exact h'
theorem o_mT (h : t ρ = .ok p) : mT t ρ = .ok (p, ρ) := by rw [ev_mT, h]; rfl
theorem o_andb (h : f ρ = .ok (.bl p)) (h' : p = true → g ρ = .ok (.bl q)) : rAnd f g ρ = .ok (.bl (p && q)) := by
  rw [ev_rAnd, h]
  cases p with
  | true => exact h' rfl
  | false => rfl
theorem o_if {v w : Env' → Out D} (h : t ρ = .ok p) (h1 : v ρ = .ok a) (h2 : w ρ = .ok b) : rIf t v w ρ = .ok (if p = true then a else b) := by
  rw [ev_rIf, h]
  cases p with
  | true => exact h1
  | false => exact h2
theorem o_asg (h : f ρ = .ok d) : sAsg (mOf false f) (tgN i) ρ = .ok (.nx, ρ.set i (.val d)) := by rw [ev_sAsg, ev_mOf, h]; rfl
theorem o_own (h : f ρ = .ok d) : sOwn false f i ρ = .ok (.nx, ρ.set i (.own d)) := by rw [ev_sOwn, h]; rfl
theorem o_ret (h : f ρ = .ok d) : sRet (mOf false f) ρ = .ok (.ret d, ρ) := by rw [ev_sRet, ev_mOf, h]; rfl
theorem wi (h1 : i < ρ.length) : rv false i ((wipeE ρ [i]).set i (.val d)) = .ok d := o_rv (by show ((ρ.set i Cell.emp).set i (.val d))[i]? = _; rw [List.getElem?_set_self (by rw [List.length_set]; exact h1)])
theorem wj (hj : i ≠ j) (h2 : ρ[j]? = some (.val a)) : rv false j ((wipeE ρ [i]).set i (.val d)) = .ok a := o_rv (by show ((ρ.set i Cell.emp).set i (.val d))[j]? = _; rw [List.getElem?_set_ne hj, List.getElem?_set_ne hj, h2])
end

section
variable {ρ ρ1 : Env'} {f g : Env' → Out D} {a b c d : D} {i j : Nat} {p q : Bool} {xs : List D}
theorem o_seqL (h : f ρ = .ok (.lst xs)) : iSeq f ρ = .ok xs := by rw [ev_iSeq, h]; rfl
theorem o_seqT (h : f ρ = .ok (.tup xs)) : iSeq f ρ = .ok xs := by rw [ev_iSeq, h]; rfl
theorem o_ksD (h : ρ[i]? = some (.val (.dic xs))) : iKs (rv false i) ρ = .ok (keysD xs) := by rw [ev_iKs, o_rv h]; rfl
theorem o_c : rC d ρ = .ok d := rfl
theorem o_N3 {k : Env' → Out D} {o : List D → Out D} (h : f ρ = .ok a) (h' : g ρ = .ok b) (h'' : k ρ = .ok c) (e : o [a, b, c] = .ok d) : rN (rCons f (rCons g (rCons k rNil))) o ρ = .ok d := by rw [ev_rN, ev_rCons, ev_rCons, ev_rCons, h, h', h'']; show noX (o [a, b, c]) = _; rw [e]; rfl
theorem o_orb2 {t u : Env' → Out Bool} (h : t ρ = .ok p) (h' : p = false → u ρ = .ok q) : bOr t u ρ = .ok (p || q) := by
  rw [ev_bOr, h]
  cases p with
  | true => rfl
  | false => exact h' rfl
theorem o_get {e : Env' → Out D} {x k : D} (h : f ρ = .ok (.dic xs)) (h' : g ρ = .ok k) (h'' : e ρ = .ok x) (w : gGet xs k x = .ok d) : rGet f g e ρ = .ok d := by
  unfold rGet
  rw [h]
  show ((g ρ).bind fun k => (e ρ).bind fun x => noX (gGet xs k x)) = _
  rw [h', h'']
  show noX (gGet xs k x) = _
  rw [w]
  rfl
end
end VL

namespace K04
open PySem PySem.Spec L2 VL
/-! ### the terms that are drawn -/
def canon : List Str := ["nil", "x", "y", "z", "H0", "H2", "H5", "H10"]
theorem canon_cases {s : Str} (h : s ∈ canon) : s = "nil" ∨ s = "x" ∨ s = "y" ∨ s = "z" ∨ s = "H0" ∨ s = "H2" ∨ s = "H5" ∨ s = "H10" := by
  unfold canon at h
  simpa only [List.mem_cons, List.not_mem_nil, or_false] using h
def hidB (s : Str) : Bool := decide (s ∈ ([("H0" : Str), "H2", "H5", "H10"] : List Str))
def numS (s : Str) : Int := if s = "H10" then 10 else if s = "H5" then 5 else if s = "H2" then 2 else 0
def keyD4 (s : Str) : D := if s = "nil" then .tup [.int 0, .str "", .int 0] else if hidB s = true then .tup [.int 2, .str "", .int (numS s)] else .tup [.int 1, .str s, .int 0]
def kp (s : Str) : D := .tup [keyD4 s, .str s]
theorem is_term_c {s : Str} (h : s ∈ canon) : m_is_term [.str s] = .ok (.bl true) := by
  rcases canon_cases h with h | h | h | h | h | h | h | h <;> (subst h; kernel_rfl)
theorem is_hidden_c {s : Str} (h : s ∈ canon) : m_is_hidden [.str s] = .ok (.bl (hidB s)) := by
  rcases canon_cases h with h | h | h | h | h | h | h | h <;> (subst h; kernel_rfl)
theorem order_c {s : Str} (h : s ∈ canon) : m_order_of [.str s] = .ok (keyD4 s) := by
  rcases canon_cases h with h | h | h | h | h | h | h | h <;> (subst h; kernel_rfl)
theorem key_c {s : Str} (h : s ∈ canon) : m__law_key [.str s] = .ok (keyD4 s) := by
  rcases canon_cases h with h | h | h | h | h | h | h | h <;> (subst h; kernel_rfl)
theorem num_c {s : Str} (h : s ∈ canon) (z : hidB s = true) : ∃ r, gSl (.str s) (some 1) none = .ok (.str r) ∧ gInt [.str r] = .ok (.int (numS s)) := by
  rcases canon_cases h with h | h | h | h | h | h | h | h <;> subst h
  · exact absurd z (by decide)
  · exact absurd z (by decide)
  · exact absurd z (by decide)
  · exact absurd z (by decide)
  · exact ⟨"0", by kernel_rfl, by kernel_rfl⟩
  · exact ⟨"2", by kernel_rfl, by kernel_rfl⟩
  · exact ⟨"5", by kernel_rfl, by kernel_rfl⟩
  · exact ⟨"10", by kernel_rfl, by kernel_rfl⟩
theorem head_c {s : Str} (h : s ∈ canon) : ∃ r, gIxU (.str s) (.int 0) = .ok (.str r) ∧ gEqU (.str r) (.str "H") = .ok (.bl (hidB s)) := by
  rcases canon_cases h with h | h | h | h | h | h | h | h <;> subst h
  · exact ⟨"n", by kernel_rfl, by kernel_rfl⟩
  · exact ⟨"x", by kernel_rfl, by kernel_rfl⟩
  · exact ⟨"y", by kernel_rfl, by kernel_rfl⟩
  · exact ⟨"z", by kernel_rfl, by kernel_rfl⟩
  · exact ⟨"H", by kernel_rfl, by kernel_rfl⟩
  · exact ⟨"H", by kernel_rfl, by kernel_rfl⟩
  · exact ⟨"H", by kernel_rfl, by kernel_rfl⟩
  · exact ⟨"H", by kernel_rfl, by kernel_rfl⟩
theorem strOk_c {s : Str} (h : s ∈ canon) : PyData.strOk s = true := by
  rcases canon_cases h with h | h | h | h | h | h | h | h <;> (subst h; decide +kernel)
/-! ### put in order -/
def pos (s : Str) : Nat := canon.idxOf s
theorem kp_le {a b : Str} (ha : a ∈ canon) (hb : b ∈ canon) : ltLe (kp a) (kp b) = decide (pos a ≤ pos b) := by
  have h : (canon.all fun a => canon.all fun b => ltLe (kp a) (kp b) == decide (pos a ≤ pos b)) = true := by decide +kernel
  exact eq_of_beq (List.all_eq_true.mp (List.all_eq_true.mp h a ha) b hb)
theorem pos_inj {a b : Str} (ha : a ∈ canon) (hb : b ∈ canon) (h : pos a = pos b) : a = b := by
  have h0 : (canon.all fun a => canon.all fun b => !decide (pos a = pos b) || decide (a = b)) = true := by decide +kernel
  have := List.all_eq_true.mp (List.all_eq_true.mp h0 a ha) b hb
  rw [decide_eq_true h] at this
  exact of_decide_eq_true this
theorem canon_sorted : canon.Pairwise (fun a b => ltLe (kp a) (kp b) = true) := by
  have h : canon.Pairwise (fun a b => pos a ≤ pos b) := by decide +kernel
  exact h.imp_of_mem fun ha hb z => by rw [kp_le ha hb]; exact decide_eq_true z
theorem canon_nodup : canon.Nodup := by decide +kernel
theorem kp_tot : PySem.W.TotalLe (fun a b : Str => ltLe (kp a) (kp b)) :=
  PySem.W.sortLe_total (PyProof.Rows.listOrd PyProof.Rows.itemOrd) false (fun r : Str => PySem.W.keyToks (toP (kp r)))
def ordS (l : List Str) : List Str := canon.filter fun s => decide (s ∈ l)
theorem ordS_mem {l : List Str} {s : Str} : s ∈ ordS l ↔ s ∈ canon ∧ s ∈ l := by
  unfold ordS
  rw [List.mem_filter, decide_eq_true_eq]
theorem sort_kp {l : List Str} (nd : l.Nodup) (h : ∀ s ∈ l, s ∈ canon) : l.mergeSort (fun a b => ltLe (kp a) (kp b)) = ordS l := by
  have p : l.Perm (ordS l) := (List.perm_ext_iff_of_nodup nd (canon_nodup.sublist List.filter_sublist)).mpr fun s => by
    show s ∈ l ↔ s ∈ ordS l
    rw [ordS_mem]
    exact ⟨fun z => ⟨h s z, z⟩, fun z => z.2⟩
  refine List.Perm.eq_of_pairwise (le := fun a b => ltLe (kp a) (kp b) = true) (fun a b ha hb h1 h2 => ?_) (List.pairwise_mergeSort kp_tot.trans (fun a b => by rw [Bool.or_eq_true]; exact kp_tot.total a b) l) (canon_sorted.sublist List.filter_sublist) ((List.mergeSort_perm _ _).trans p)
  have ha := h a (List.mem_mergeSort.mp ha)
  have hb := (ordS_mem.mp hb).1
  rw [kp_le ha hb] at h1
  rw [kp_le hb ha] at h2
  exact pos_inj ha hb (Nat.le_antisymm (of_decide_eq_true h1) (of_decide_eq_true h2))
theorem keyD4_tup (s : Str) : ∃ i x j, keyD4 s = .tup [.int i, .str x, .int j] := by
  unfold keyD4
  split
  · exact ⟨_, _, _, rfl⟩
  · split <;> exact ⟨_, _, _, rfl⟩
theorem alike_kp (a b : Str) : PySem.W.alike (toP (kp a)) (toP (kp b)) = true := by
  obtain ⟨i, x, j, e⟩ := keyD4_tup a
  obtain ⟨i', x', j', e'⟩ := keyD4_tup b
  unfold kp
  rw [e, e']
  show PySem.W.alike (.tuple [.tuple [.int i, .str x, .int j], .str a]) (.tuple [.tuple [.int i', .str x', .int j'], .str b]) = true
  simp [PySem.W.alike, PySem.W.alikeAll]
theorem shp_c {s : Str} (h : s ∈ canon) : Shp 0 (.str s) := shp_str (strOk_c h)
theorem shp_3 {a b c : D} {n : Nat} (ha : Shp n a) (hb : Shp n b) (hc : Shp n c) : Shp (n + 1) (.tup [a, b, c]) := shp_tup fun x h => by
  simp only [List.mem_cons, List.not_mem_nil, or_false] at h
  rcases h with rfl | rfl | rfl
  · exact ha
  · exact hb
  · exact hc
theorem shp_2 {a b : D} {n : Nat} (ha : Shp n a) (hb : Shp n b) : Shp (n + 1) (.tup [a, b]) := shp_tup fun x h => by
  simp only [List.mem_cons, List.not_mem_nil, or_false] at h
  rcases h with rfl | rfl
  · exact ha
  · exact hb
theorem shp_kp {s : Str} (h : s ∈ canon) : Shp 2 (kp s) := by
  refine shp_2 ?_ ((shp_c h).up (by omega))
  unfold keyD4
  split
  · exact shp_3 (shp_int _) (shp_str (by decide +kernel)) (shp_int _)
  · split
    · exact shp_3 (shp_int _) (shp_str (by decide +kernel)) (shp_int _)
    · exact shp_3 (shp_int _) (shp_c h) (shp_int _)
theorem sorted_kp {l : List Str} (nd : l.Nodup) (h : ∀ s ∈ l, s ∈ canon) : gSortedU [.lst (l.map kp)] = .ok (.lst ((ordS l).map kp)) := by
  have e : sortOk (l.map kp) = true := sortOk_map alike_kp (.inl fun _ => rfl) (fun a ha => shp_kp (h a ha)) (by omega)
  have e2 : gSortedU [.lst (l.map kp)] = if sortOk (l.map kp) = true then .ok (.lst ((l.map kp).mergeSort ltLe)) else .bad := rfl
  rw [e2, if_pos e, ← List.map_mergeSort (r := fun a b => ltLe (kp a) (kp b)) (s := ltLe) (f := kp) (l := l) fun _ _ _ _ => rfl, sort_kp nd h]
/-! ### {term: True ..}, in_order, _law_order -/
def sP (l : List Str) : List D := l.map fun s => .tup [.str s, .bl true]
def addS (l : List Str) (s : Str) : List Str := if s ∈ l then l else l ++ [s]
theorem keyEq_str (a b : Str) : keyEq (.str a) (.str b) = decide (a = b) := by
  show decide ((Sum.inr a : Key) = Sum.inr b) = _
  exact decide_eq_decide.mpr ⟨fun h => Sum.inr.inj h, fun h => by rw [h]⟩
theorem putD_sP (s : Str) : ∀ l : List Str, putD (sP l) (.str s) (.bl true) = sP (addS l s)
  | [] => rfl
  | a :: l => by
    have ih := putD_sP s l
    show (if keyEq (.str a) (.str s) = true then D.tup [.str a, .bl true] :: sP l else .tup [.str a, .bl true] :: putD (sP l) (.str s) (.bl true)) = _
    rw [keyEq_str, ih]
    by_cases e : a = s
    · rw [if_pos (decide_eq_true e)]
      unfold addS
      rw [if_pos (by rw [e]; exact List.mem_cons_self)]
      rfl
    · rw [if_neg (by rw [decide_eq_false e]; exact Bool.false_ne_true)]
      unfold addS
      by_cases m : s ∈ l
      · rw [if_pos m, if_pos (List.mem_cons_of_mem _ m)]
        rfl
      · rw [if_neg m, if_neg (fun z => (List.mem_cons.mp z).elim (fun z => e z.symm) m)]
        rfl
theorem ndK_sP : ∀ l : List Str, l.Nodup → ndK (sP l) = true
  | [], _ => rfl
  | a :: l, nd => by
    rw [List.nodup_cons] at nd
    have h : lookD (sP l) (.str a) = none := by
      have : ∀ l : List Str, a ∉ l → lookD (sP l) (.str a) = none := fun l => by
        induction l with
        | nil => intro _; rfl
        | cons b l ih =>
          intro m
          show (if keyEq (.str b) (.str a) = true then some (D.bl true) else lookD (sP l) (.str a)) = none
          rw [keyEq_str, if_neg (by rw [decide_eq_false fun z => m (by rw [z]; exact List.mem_cons_self)]; exact Bool.false_ne_true)]
          exact ih fun z => m (List.mem_cons_of_mem _ z)
      exact this l nd.1
    show ((lookD (sP l) (.str a)).isNone && ndK (sP l)) = true
    rw [h, ndK_sP l nd.2]
    rfl
def dedS (l : List Str) : List Str := l.foldl addS []
theorem addS_nodup {l : List Str} {s : Str} (h : l.Nodup) : (addS l s).Nodup := by
  unfold addS
  split
  · exact h
  · rename_i m
    rw [List.nodup_append]
    exact ⟨h, by simp, fun a ha b hb => by
      rw [List.mem_singleton] at hb
      rw [hb]
      exact fun z => m (z ▸ ha)⟩
theorem addS_mem {l : List Str} {s x : Str} : x ∈ addS l s ↔ x ∈ l ∨ x = s := by
  unfold addS
  split
  · rename_i m
    exact ⟨.inl, fun z => z.elim id fun z => z ▸ m⟩
  · rw [List.mem_append, List.mem_singleton]
theorem foldS : ∀ (l acc : List Str), acc.Nodup → (l.foldl addS acc).Nodup ∧ ∀ x, x ∈ l.foldl addS acc ↔ x ∈ acc ∨ x ∈ l
  | [], acc, h => ⟨h, fun x => by simp⟩
  | s :: l, acc, h => by
    obtain ⟨h1, h2⟩ := foldS l (addS acc s) (addS_nodup h)
    refine ⟨h1, fun x => ?_⟩
    rw [List.foldl_cons, h2, addS_mem, List.mem_cons, or_assoc]
theorem cmpD_S {vs : List Nat} {g : D → Env' → Out Env'} {fk fv : Env' → Out D} {ρ : Env'} : ∀ (l acc : List Str), acc.Nodup → (∀ a ∈ l, ∃ ρ1, g (.str a) (wipeE ρ vs) = .ok ρ1 ∧ fk ρ1 = .ok (.str a) ∧ fv ρ1 = .ok (.bl true)) →
    cmpD vs g tYs fk fv ρ (l.map D.str) (sP acc) = .ok (sP (l.foldl addS acc))
  | [], acc, _, _ => rfl
  | x :: xs, acc, nd, h => by
    obtain ⟨ρ1, h1, e1, e2⟩ := h x List.mem_cons_self
    have ih := cmpD_S (fk := fk) (fv := fv) xs (addS acc x) (addS_nodup nd) fun a ha => h a (List.mem_cons_of_mem _ ha)
    show ((noX (g (.str x) (wipeE ρ vs))).bind fun ρ1 => (noX (tYs ρ1)).bind fun c => if c = true then (noX (fk ρ1)).bind fun k => (noX (fv ρ1)).bind fun d => if (keyQ k).isSome = true ∧ ndK (sP acc) = true then cmpD vs g tYs fk fv ρ (xs.map D.str) (putD (sP acc) k d) else .bad else cmpD vs g tYs fk fv ρ (xs.map D.str) (sP acc)) = _
    rw [h1]
    show ((noX (fk ρ1)).bind fun k => (noX (fv ρ1)).bind fun d => if (keyQ k).isSome = true ∧ ndK (sP acc) = true then cmpD vs g tYs fk fv ρ (xs.map D.str) (putD (sP acc) k d) else .bad) = _
    rw [e1, e2]
    show (if (keyQ (.str x)).isSome = true ∧ ndK (sP acc) = true then cmpD vs g tYs fk fv ρ (xs.map D.str) (putD (sP acc) (.str x) (.bl true)) else .bad) = _
    rw [if_pos ⟨rfl, ndK_sP acc nd⟩, putD_sP, ih]
    rfl
theorem keysD_sP : ∀ l : List Str, keysD (sP l) = l.map D.str
  | [] => rfl
  | _ :: l => by
    show _ :: keysD (sP l) = _
    rw [keysD_sP l]
    rfl
end K04

namespace K04
open PySem PySem.Spec L2 VL
def sL (l : List Str) : D := .lst (l.map .str)
theorem ded_nodup (l : List Str) : (dedS l).Nodup := (foldS l [] List.nodup_nil).1
theorem ded_mem {l : List Str} {x : Str} : x ∈ dedS l ↔ x ∈ l := by
  show x ∈ l.foldl addS [] ↔ _
  rw [(foldS l [] List.nodup_nil).2]
  simp
theorem ordS_congr {l m : List Str} (h : ∀ x, x ∈ l ↔ x ∈ m) : ordS l = ordS m := by
  unfold ordS
  exact List.filter_congr fun x _ => decide_eq_decide.mpr (h x)
theorem ordS_canon {l : List Str} : ∀ s ∈ ordS l, s ∈ canon := fun s h => (ordS_mem.mp h).1
theorem ded_len (l : List Str) : (dedS l).length ≤ l.length := nodup_sub_len _ _ (ded_nodup l) fun x hx => ded_mem.mp hx
theorem ordS_len (l : List Str) : (ordS l).length ≤ 8 := List.length_filter_le _ _
theorem pick_lc {ρ : Env'} {i j : Nat} {l : List Str} {it : Env' → Out (List D)} (hi : it ρ = .ok (l.map kp)) (hl : l.length ≤ 1000) (hj : j < ρ.length) (hne : i ≠ j) :
    rLc it [i, j] (tgTupL 2 (tgCons (tgN i) (tgCons (tgN j) tgNil))) tYs (rv false j) ρ = .ok (sL l) :=
  rLc_map kp D.str l hi (by omega) fun s _ => ⟨((wipeE ρ [i, j]).set i (.val (keyD4 s))).set j (.val (.str s)), rfl, o_rv (by rw [List.getElem?_set_self (by rw [List.length_set, wipeE_len]; exact hj)])⟩
theorem in_order_ok {ts : List Str} (h : ∀ s ∈ ts, s ∈ canon) (hl : ts.length ≤ 1000) : m_in_order [sL ts] = .ok (sL (ordS ts)) := by
  have e1 : rDc (iSeq (rv false 0)) [2] (tgN 2) tYs (rv false 2) (rC (.bl true)) [.val (sL ts), .emp, .emp, .emp] = .ok (.dic (sP (dedS ts))) := by
    have := cmpD_S (vs := [2]) (g := tgN 2) (fk := rv false 2) (fv := rC (.bl true)) (ρ := [.val (sL ts), .emp, .emp, .emp]) ts [] List.nodup_nil fun a _ => ⟨_, rfl, rfl, rfl⟩
    unfold rDc
    rw [show iSeq (rv false 0) [.val (sL ts), .emp, .emp, .emp] = .ok (ts.map D.str) from rfl]
    show (if (ts.map D.str).length ≤ sizeLine then (noX (cmpD [2] (tgN 2) tYs (rv false 2) (rC (.bl true)) [.val (sL ts), .emp, .emp, .emp] (ts.map D.str) (sP []))).bind fun ds => Out.ok (D.dic ds) else Out.bad) = _
    rw [if_pos (by rw [List.length_map]; exact Nat.le_trans hl (by decide)), this]
    rfl
  have e2 : rLc (iKs (rv false 1)) [2] (tgN 2) tYs (rN (rCons (rF (rCons (rv false 2) rNil) m_order_of) (rCons (rv false 2) rNil)) gTup) [.val (sL ts), .val (.dic (sP (dedS ts))), .emp, .emp] = .ok (.lst ((dedS ts).map kp)) :=
    rLc_map D.str kp (dedS ts) (by rw [o_ksD rfl, keysD_sP]) (by have := ded_len ts; omega) fun s hs => ⟨_, rfl, o_N2 (o_F1 (a := .str s) rfl (order_c (h s (ded_mem.mp hs)))) (b := .str s) rfl (ev_gTup2 _ _)⟩
  have e3 := sorted_kp (ded_nodup ts) fun s hs => h s (ded_mem.mp hs)
  rw [ordS_congr fun x => ded_mem] at e3
  have e4 := o_seqL (o_N1 (ρ := [.val (sL ts), .val (.dic (sP (dedS ts))), .emp, .emp]) e2 e3)
  have e5 := pick_lc (i := 3) (j := 2) e4 (by have := ordS_len ts; omega) (show 2 < 4 by decide) (by decide)
  have b1 : b_in_order [.val (sL ts), .emp, .emp, .emp] = .ok (.ret (sL (ordS ts)), [.val (sL ts), .val (.dic (sP (dedS ts))), .emp, .emp]) := by
    unfold b_in_order
    refine (seq_nx (o_own e1)).trans ?_
    rw [ev_sFrz]
    exact seq_ret (o_ret e5)
  show (b_in_order [.val (sL ts), .emp, .emp, .emp]).bind _ = _
  rw [b1]
  rfl
theorem txsD_map : ∀ ts : List Str, txsD (ts.map .str) = some ts
  | [] => rfl
  | t :: ts => by
    show (txsD (ts.map .str)).map (t :: ·) = _
    rw [txsD_map ts]
    rfl
theorem soSet_S {ts : List Str} (hl : ts.length ≤ 1000) : ∃ l : List Str, l.Nodup ∧ (∀ x, x ∈ l ↔ x ∈ ts) ∧ gSoSetU (sL ts) = .ok (sL l) := by
  cases ts with
  | nil => exact ⟨[], List.nodup_nil, fun x => Iff.rfl, by kernel_rfl⟩
  | cons t ts =>
    refine ⟨sortS (t :: ts), ?_, fun x => ?_, ?_⟩
    · unfold sortS
      exact (List.mergeSort_perm _ _).nodup_iff.mpr (addL_nodup _ [] List.nodup_nil)
    · unfold sortS
      rw [List.mem_mergeSort, addL_mem]
      simp
    · show (match intsD (D.str t :: ts.map .str) with
        | some ns => if ns.length ≤ 4000 then Out.ok (D.lst ((sortI ns).map .int)) else .bad
        | none => match txsD ((t :: ts).map .str) with
          | some ns => if ns.length ≤ 4000 then .ok (.lst ((sortS ns).map .str)) else .bad
          | none => .bad) = _
      rw [txsD_map]
      show (if (t :: ts).length ≤ 4000 then Out.ok (D.lst ((sortS (t :: ts)).map .str)) else .bad) = _
      rw [if_pos (by omega)]
      rfl
theorem law_order_ok {ts : List Str} (h : ∀ s ∈ ts, s ∈ canon) (hl : ts.length ≤ 1000) : m__law_order [sL ts] = .ok (sL (ordS ts)) := by
  obtain ⟨l, nd, mem, e1⟩ := soSet_S hl
  have hc : ∀ s ∈ l, s ∈ canon := fun s hs => h s ((mem s).mp hs)
  have ll : l.length ≤ ts.length := nodup_sub_len _ _ nd fun x hx => (mem x).mp hx
  have e2 : rLc (iSeq (r1 (rv false 0) gSoSetU)) [2] (tgN 2) tYs (rN (rCons (rF (rCons (rv false 2) rNil) m__law_key) (rCons (rv false 2) rNil)) gTup) [.val (sL ts), .emp, .emp] = .ok (.lst (l.map kp)) :=
    rLc_map D.str kp l (o_seqL (o_r1 (o_rv rfl) e1)) (by omega) fun s hs => ⟨_, rfl, o_N2 (o_F1 (a := .str s) rfl (key_c (hc s hs))) (b := .str s) rfl (ev_gTup2 _ _)⟩
  have e3 := sorted_kp nd hc
  rw [ordS_congr mem] at e3
  have e5 := pick_lc (i := 1) (j := 2) (o_seqL (o_N1 (ρ := [.val (sL ts), .emp, .emp]) e2 e3)) (by have := ordS_len ts; omega) (show 2 < 3 by decide) (by decide)
  have b1 : b__law_order [.val (sL ts), .emp, .emp] = .ok (.ret (sL (ordS ts)), [.val (sL ts), .emp, .emp]) := by
    unfold b__law_order
    exact seq_ret (o_ret e5)
  show (b__law_order [.val (sL ts), .emp, .emp]).bind _ = _
  rw [b1]
  rfl
/-! ### claims -/
structure Rw where
  k : Str
  a : Str
  b : Str
def rD (r : Rw) : D := .tup [.str r.k, .str r.a, .str r.b]
structure Cl where
  f : List Rw
  a : List Rw
def rowsT (l : List Rw) : D := .tup (l.map rD)
def cD (c : Cl) : D := .tup [rowsT c.f, rowsT c.a]
structure ROk (ks : List Str) (r : Rw) : Prop where
  k : r.k ∈ ks
  a : r.a ∈ canon
  b : r.b ∈ canon
structure COk (c : Cl) : Prop where
  f : ∀ r ∈ c.f, ROk ["eq", "ne"] r
  a : ∀ r ∈ c.a, ROk ["to", "ls"] r
  fl : c.f.length ≤ 2
  al : c.a.length ≤ 4
def trm (l : List Rw) : List Str := l.flatMap fun r => [r.a, r.b]
def tsC (c : Cl) : List Str := trm (c.f ++ c.a)
theorem trm_len (l : List Rw) : (trm l).length = 2 * l.length := by
  unfold trm
  induction l with
  | nil => rfl
  | cons r l ih =>
    rw [List.flatMap_cons, List.length_append, ih]
    show 2 + 2 * l.length = 2 * (l.length + 1)
    omega
theorem COk.ts {c : Cl} (h : COk c) : ∀ s ∈ tsC c, s ∈ canon := fun s hs => by
  obtain ⟨r, hr, e⟩ := List.mem_flatMap.mp hs
  have hk : r.a ∈ canon ∧ r.b ∈ canon := by
    rcases List.mem_append.mp hr with hr | hr
    · exact ⟨(h.f r hr).a, (h.f r hr).b⟩
    · exact ⟨(h.a r hr).a, (h.a r hr).b⟩
  simp only [List.mem_cons, List.not_mem_nil, or_false] at e
  rcases e with rfl | rfl
  · exact hk.1
  · exact hk.2
theorem COk.tl {c : Cl} (h : COk c) : (tsC c).length ≤ 12 := by
  unfold tsC
  rw [trm_len, List.length_append]
  have := h.fl
  have := h.al
  omega
/-- [term for row in .. for term in row[1:]] -/
theorem cmpL2_eq {vs vs1 : List Nat} {g g1 : D → Env' → Out Env'} {it1 : Env' → Out (List D)} {f : Env' → Out D} {ρ : Env'} : ∀ l : List Rw, (∀ r ∈ l, ∃ ρ1, g (rD r) (wipeE ρ vs) = .ok ρ1 ∧ it1 ρ1 = .ok [.str r.a, .str r.b] ∧ cmpL vs1 g1 tYs f ρ1 [.str r.a, .str r.b] = .ok [.str r.a, .str r.b]) →
    cmpL2 vs g tYs it1 vs1 g1 tYs f ρ (l.map rD) = .ok ((trm l).map .str)
  | [], _ => rfl
  | r :: l, h => by
    obtain ⟨ρ1, h1, h2, h3⟩ := h r List.mem_cons_self
    have ih := cmpL2_eq l fun r hr => h r (List.mem_cons_of_mem _ hr)
    show ((noX (g (rD r) (wipeE ρ vs))).bind fun ρ1 => (noX (tYs ρ1)).bind fun c => if c = true then (noX (it1 ρ1)).bind fun ys => (noX (cmpL vs1 g1 tYs f ρ1 ys)).bind fun ds => (cmpL2 vs g tYs it1 vs1 g1 tYs f ρ (l.map rD)).bind fun es => .ok (ds ++ es) else cmpL2 vs g tYs it1 vs1 g1 tYs f ρ (l.map rD)) = _
    rw [h1]
    show ((noX (it1 ρ1)).bind fun ys => (noX (cmpL vs1 g1 tYs f ρ1 ys)).bind fun ds => (cmpL2 vs g tYs it1 vs1 g1 tYs f ρ (l.map rD)).bind fun es => Out.ok (ds ++ es)) = _
    rw [h2]
    show ((noX (cmpL vs1 g1 tYs f ρ1 [.str r.a, .str r.b])).bind fun ds => (cmpL2 vs g tYs it1 vs1 g1 tYs f ρ (l.map rD)).bind fun es => Out.ok (ds ++ es)) = _
    rw [h3, ih]
    rfl
theorem addT {xs ys : List D} (h : xs.length + ys.length ≤ 1000) : gAddU (.tup xs) (.tup ys) = .ok (.tup (xs ++ ys)) := by
  show (if xs.length + ys.length ≤ sizeLine then Out.ok (D.tup (xs ++ ys)) else .bad) = _
  rw [if_pos (Nat.le_trans h (by decide))]
theorem terms_of_ok {c : Cl} (h : COk c) : m_terms_of [cD c] = .ok (sL (ordS (tsC c))) := by
  have e1 : rLc2 (iSeq (r2 (rN (rCons (rv false 1) rNil) gTuple) (rN (rCons (rv false 2) rNil) gTuple) gAddU)) [3, 4] (tgN 3) tYs (iSeq (rSl (rv false 3) (oI (some (rC (.int 1)))) (oI none) gSl)) [4] (tgN 4) tYs (rv false 4) [.val (cD c), .val (rowsT c.f), .val (rowsT c.a), .emp, .emp] = .ok (sL (tsC c)) := by
    have a := addT (xs := c.f.map rD) (ys := c.a.map rD) (by rw [List.length_map, List.length_map]; have := h.fl; have := h.al; omega)
    have i : iSeq (r2 (rN (rCons (rv false 1) rNil) gTuple) (rN (rCons (rv false 2) rNil) gTuple) gAddU) [.val (cD c), .val (rowsT c.f), .val (rowsT c.a), .emp, .emp] = .ok ((c.f ++ c.a).map rD) := by
      rw [o_seqT (o_r2 (o_N1 (o_rv rfl) (d := rowsT c.f) rfl) (o_N1 (o_rv rfl) (d := rowsT c.a) rfl) a), List.map_append]
    have m := cmpL2_eq (vs := [3, 4]) (vs1 := [4]) (g := tgN 3) (g1 := tgN 4) (it1 := iSeq (rSl (rv false 3) (oI (some (rC (.int 1)))) (oI none) gSl)) (f := rv false 4) (ρ := [.val (cD c), .val (rowsT c.f), .val (rowsT c.a), .emp, .emp]) (c.f ++ c.a) fun r _ => ⟨[.val (cD c), .val (rowsT c.f), .val (rowsT c.a), .val (rD r), .emp], rfl, by kernel_rfl, rfl⟩
    unfold rLc2
    rw [i]
    show ((noX (cmpL2 [3, 4] (tgN 3) tYs (iSeq (rSl (rv false 3) (oI (some (rC (.int 1)))) (oI none) gSl)) [4] (tgN 4) tYs (rv false 4) [.val (cD c), .val (rowsT c.f), .val (rowsT c.a), .emp, .emp] ((c.f ++ c.a).map rD))).bind fun ds => if ds.length ≤ sizeLine then Out.ok (D.lst ds) else .bad) = _
    rw [m]
    show (if ((tsC c).map D.str).length ≤ sizeLine then Out.ok (D.lst ((tsC c).map D.str)) else .bad) = _
    rw [if_pos (by rw [List.length_map]; exact Nat.le_trans h.tl (by decide))]
    rfl
  have b1 : b_terms_of [.val (cD c), .emp, .emp, .emp, .emp] = .ok (.ret (sL (ordS (tsC c))), [.val (cD c), .val (rowsT c.f), .val (rowsT c.a), .emp, .emp]) := by
    unfold b_terms_of
    refine (seq_nx (ρ1 := [.val (cD c), .val (rowsT c.f), .val (rowsT c.a), .emp, .emp]) rfl).trans ?_
    exact seq_ret (o_ret (o_F1 e1 (in_order_ok h.ts (by have := h.tl; omega))))
  show (b_terms_of [.val (cD c), .emp, .emp, .emp, .emp]).bind _ = _
  rw [b1]
  rfl
end K04

namespace K04
open PySem PySem.Spec L2 VL
theorem neU_nil_c {s : Str} (h : s ∈ canon) : gNeU (.str s) (.str "nil") = .ok (.bl (!decide (s = "nil"))) := by
  rcases canon_cases h with h | h | h | h | h | h | h | h <;> (subst h; kernel_rfl)
theorem eqU_nil_c {s : Str} (h : s ∈ canon) : gEqU (.str s) (.str "nil") = .ok (.bl (decide (s = "nil"))) := by
  rcases canon_cases h with h | h | h | h | h | h | h | h <;> (subst h; kernel_rfl)
theorem fil_lc {ρ : Env'} {i : Nat} {l : List Str} {it : Env' → Out (List D)} {t : Env' → Out Bool} {c : Str → Bool} (hi : it ρ = .ok (l.map .str)) (hl : l.length ≤ 1000) (h1 : i < ρ.length)
    (ht : ∀ s ∈ l, t ((wipeE ρ [i]).set i (.val (.str s))) = .ok (c s)) : rLc it [i] (tgN i) t (rv false i) ρ = .ok (sL (l.filter c)) :=
  rLc_eq D.str c D.str l hi (by omega) fun s hs => ⟨_, tgN_ok', ht s hs, fun _ => wi h1⟩
where
  tgN_ok' {i : Nat} {d : D} {ρ : Env'} : tgN i d ρ = .ok (ρ.set i (.val d)) := rfl
theorem tgN_ok {i : Nat} {d : D} {ρ : Env'} : tgN i d ρ = .ok (ρ.set i (.val d)) := rfl
theorem names_of_ok {c : Cl} (h : COk c) : m_names_of [cD c] = .ok (sL ((ordS (tsC c)).filter fun s => !decide (s = "nil"))) := by
  have e1 := fil_lc (ρ := [.val (cD c), .emp]) (i := 1) (t := bT (r2 (rv false 1) (rC (.str "nil")) gNeU)) (o_seqL (o_F1 (ρ := [.val (cD c), .emp]) (f := rv false 0) rfl (terms_of_ok h))) (by have := ordS_len (tsC c); omega) (show 1 < 2 by decide) fun s hs => o_bT (o_r2 (wi (show 1 < 2 by decide)) o_c (neU_nil_c (ordS_canon s hs)))
  have b1 : b_names_of [.val (cD c), .emp] = .ok (.ret (sL ((ordS (tsC c)).filter fun s => !decide (s = "nil"))), [.val (cD c), .emp]) := by
    unfold b_names_of
    exact seq_ret (o_ret e1)
  show (b_names_of [.val (cD c), .emp]).bind _ = _
  rw [b1]
  rfl
def hS (c : Cl) : List Str := (ordS (tsC c)).filter hidB
theorem hidden_of_ok {c : Cl} (h : COk c) : m_hidden_of [cD c] = .ok (sL (hS c)) := by
  have e1 := fil_lc (ρ := [.val (cD c), .emp]) (i := 1) (t := bT (rF (rCons (rv false 1) rNil) m_is_hidden)) (c := hidB) (o_seqL (o_F1 (ρ := [.val (cD c), .emp]) (f := rv false 0) rfl (terms_of_ok h))) (by have := ordS_len (tsC c); omega) (show 1 < 2 by decide) fun s hs => o_bT (o_F1 (wi (show 1 < 2 by decide)) (is_hidden_c (ordS_canon s hs)))
  have b1 : b_hidden_of [.val (cD c), .emp] = .ok (.ret (sL (hS c)), [.val (cD c), .emp]) := by
    unfold b_hidden_of
    exact seq_ret (o_ret e1)
  show (b_hidden_of [.val (cD c), .emp]).bind _ = _
  rw [b1]
  rfl
theorem hS_canon {c : Cl} : ∀ s ∈ hS c, s ∈ canon ∧ hidB s = true := fun s h => by
  unfold hS at h
  rw [List.mem_filter] at h
  exact ⟨ordS_canon s h.1, h.2⟩
theorem hS_len (c : Cl) : (hS c).length ≤ 8 := Nat.le_trans (List.length_filter_le _ _) (ordS_len _)
/-! ### numbers -/
def nums (l : List Str) : List Int := l.map numS
theorem num_e {ρ : Env'} {i : Nat} {s : Str} (hi : ρ[i]? = some (.val (.str s))) (h : s ∈ canon) (z : hidB s = true) : rN (rCons (rSl (rv false i) (oI (some (rC (.int 1)))) (oI none) gSl) rNil) gInt ρ = .ok (.int (numS s)) := by
  obtain ⟨r, e1, e2⟩ := num_c h z
  refine o_N1 (a := .str r) ?_ e2
  show ((rv false i ρ).bind fun x => noX (gSl x (some 1) none)) = _
  rw [o_rv hi]
  show noX (gSl (.str s) (some 1) none) = _
  rw [e1]
  rfl
theorem numS_mem {s : Str} (h : s ∈ canon) (z : hidB s = true) : numS s = 0 ∨ numS s = 2 ∨ numS s = 5 ∨ numS s = 10 := by
  rcases canon_cases h with h | h | h | h | h | h | h | h <;> subst h
  · exact absurd z (by decide)
  · exact absurd z (by decide)
  · exact absurd z (by decide)
  · exact absurd z (by decide)
  · exact .inl rfl
  · exact .inr (.inl rfl)
  · exact .inr (.inr (.inl rfl))
  · exact .inr (.inr (.inr rfl))
def topN (l : List Int) : Int := match maxI l with
  | some m => m + 1
  | none => 0
theorem maxI_neg {l : List Int} (h : ∀ x ∈ l, 0 ≤ x) : maxI (-1 :: l) = some (topN l - 1) := by
  cases l with
  | nil => rfl
  | cons n l =>
    have hn := h n List.mem_cons_self
    show some (l.foldl _ (if (-1 : Int) < n then n else -1)) = some (l.foldl _ n + 1 - 1)
    rw [if_pos (by omega)]
    congr 1
    omega
theorem topN_cases {l : List Int} (h : ∀ x ∈ l, x = 0 ∨ x = 2 ∨ x = 5 ∨ x = 10) : topN l = 0 ∨ topN l = 1 ∨ topN l = 3 ∨ topN l = 6 ∨ topN l = 11 := by
  unfold topN
  cases e : maxI l with
  | none => exact .inl rfl
  | some m =>
    have := h m (maxI_spec e).1
    show m + 1 = 0 ∨ m + 1 = 1 ∨ m + 1 = 3 ∨ m + 1 = 6 ∨ m + 1 = 11
    omega
theorem fresh_str {v : Int} (h : v = 0 ∨ v = 1 ∨ v = 3 ∨ v = 6 ∨ v = 11) : ∃ s u, gStr [.int v] = .ok (.str s) ∧ gAddU (.str "H") (.str s) = .ok (.str u) ∧ gNeU (.str u) (.str u) = .ok (.bl false) := by
  rcases h with h | h | h | h | h <;> subst h
  · exact ⟨"0", "H0", by kernel_rfl, by kernel_rfl, by kernel_rfl⟩
  · exact ⟨"1", "H1", by kernel_rfl, by kernel_rfl, by kernel_rfl⟩
  · exact ⟨"3", "H3", by kernel_rfl, by kernel_rfl, by kernel_rfl⟩
  · exact ⟨"6", "H6", by kernel_rfl, by kernel_rfl, by kernel_rfl⟩
  · exact ⟨"11", "H11", by kernel_rfl, by kernel_rfl, by kernel_rfl⟩
theorem max_ints {l : List Int} {m : Int} (h : maxI l = some m) : gMax [.lst (l.map .int)] = .ok (.int m) := by
  show (match intsD (l.map .int) with
    | some ns => match maxI ns with
      | some m => Out.ok (D.int m)
      | none => .bad
    | none => .bad) = _
  rw [intsD_map]
  show (match maxI l with
      | some m => Out.ok (D.int m)
      | none => .bad) = _
  rw [h]
def iL (l : List Int) : D := .lst (l.map .int)
theorem nums_lc {ρ : Env'} {i : Nat} {l : List Str} {it : Env' → Out (List D)} (hi : it ρ = .ok (l.map .str)) (hl : l.length ≤ 1000) (h1 : i < ρ.length) (h : ∀ s ∈ l, s ∈ canon ∧ hidB s = true) :
    rLc it [i] (tgN i) tYs (rN (rCons (rSl (rv false i) (oI (some (rC (.int 1)))) (oI none) gSl) rNil) gInt) ρ = .ok (iL (nums l)) := by
  have := rLc_map (it := it) (vs := [i]) (g := tgN i) (f := rN (rCons (rSl (rv false i) (oI (some (rC (.int 1)))) (oI none) gSl) rNil) gInt) (ρ := ρ) D.str (fun s => D.int (numS s)) l hi (by omega) fun s hs => ⟨_, tgN_ok, num_e (by
    show ((ρ.set i Cell.emp).set i (.val (.str s)))[i]? = _
    rw [List.getElem?_set_self (by rw [List.length_set]; exact h1)]) (h s hs).1 (h s hs).2⟩
  rw [this]
  unfold iL nums
  rw [List.map_map]
  rfl
theorem fresh_of_ok {c d : Cl} (hc : COk c) (hd : COk d) {s u : Str} (e1 : gStr [.int (topN (nums (hS c) ++ nums (hS d)))] = .ok (.str s)) (e2 : gAddU (.str "H") (.str s) = .ok (.str u)) : m_fresh_of [.lst [cD c, cD d]] = .ok (.str u) := by
  have inner : ∀ x : Cl, COk x → ∀ y z w : Cell, cmpL [3] (tgN 3) tYs (rN (rCons (rSl (rv false 3) (oI (some (rC (.int 1)))) (oI none) gSl) rNil) gInt) [y, z, .val (cD x), w] ((hS x).map .str) = .ok ((nums (hS x)).map .int) := fun x hx y z w => by
    have := cmpL_eq (vs := [3]) (g := tgN 3) (t := tYs) (f := rN (rCons (rSl (rv false 3) (oI (some (rC (.int 1)))) (oI none) gSl) rNil) gInt) (ρ := [y, z, .val (cD x), w]) D.str (fun _ => true) (fun s => D.int (numS s)) (hS x) fun s hs => ⟨[y, z, .val (cD x), .val (.str s)], rfl, rfl, fun _ => num_e rfl (hS_canon s hs).1 (hS_canon s hs).2⟩
    rw [this, List.filter_eq_self.mpr fun _ _ => rfl]
    unfold nums
    rw [List.map_map]
    rfl
  have it : ∀ x : Cl, COk x → ∀ y z w : Cell, iSeq (rF (rCons (rv false 2) rNil) m_hidden_of) [y, z, .val (cD x), w] = .ok ((hS x).map .str) := fun x hx y z w => o_seqL (o_F1 (a := cD x) rfl (hidden_of_ok hx))
  have l1 := hS_len c
  have l2 := hS_len d
  have e3 : rLc2 (iSeq (rv false 0)) [2, 3] (tgN 2) tYs (iSeq (rF (rCons (rv false 2) rNil) m_hidden_of)) [3] (tgN 3) tYs (rN (rCons (rSl (rv false 3) (oI (some (rC (.int 1)))) (oI none) gSl) rNil) gInt) [.val (.lst [cD c, cD d]), .emp, .emp, .emp] = .ok (iL (nums (hS c) ++ nums (hS d))) := by
    unfold rLc2
    show ((noX (cmpL2 [2, 3] (tgN 2) tYs (iSeq (rF (rCons (rv false 2) rNil) m_hidden_of)) [3] (tgN 3) tYs (rN (rCons (rSl (rv false 3) (oI (some (rC (.int 1)))) (oI none) gSl) rNil) gInt) [.val (.lst [cD c, cD d]), .emp, .emp, .emp] [cD c, cD d])).bind fun ds => if ds.length ≤ sizeLine then Out.ok (D.lst ds) else .bad) = _
    have m : cmpL2 [2, 3] (tgN 2) tYs (iSeq (rF (rCons (rv false 2) rNil) m_hidden_of)) [3] (tgN 3) tYs (rN (rCons (rSl (rv false 3) (oI (some (rC (.int 1)))) (oI none) gSl) rNil) gInt) [.val (.lst [cD c, cD d]), .emp, .emp, .emp] [cD c, cD d] = .ok ((nums (hS c) ++ nums (hS d)).map .int) := by
      show ((noX (iSeq (rF (rCons (rv false 2) rNil) m_hidden_of) [.val (.lst [cD c, cD d]), .emp, .val (cD c), .emp])).bind fun ys => (noX (cmpL [3] (tgN 3) tYs (rN (rCons (rSl (rv false 3) (oI (some (rC (.int 1)))) (oI none) gSl) rNil) gInt) [.val (.lst [cD c, cD d]), .emp, .val (cD c), .emp] ys)).bind fun ds => (((noX (iSeq (rF (rCons (rv false 2) rNil) m_hidden_of) [.val (.lst [cD c, cD d]), .emp, .val (cD d), .emp])).bind fun ys => (noX (cmpL [3] (tgN 3) tYs (rN (rCons (rSl (rv false 3) (oI (some (rC (.int 1)))) (oI none) gSl) rNil) gInt) [.val (.lst [cD c, cD d]), .emp, .val (cD d), .emp] ys)).bind fun ds => (Out.ok []).bind fun es => .ok (ds ++ es))).bind fun es => Out.ok (ds ++ es)) = _
      rw [it c hc, it d hd]
      show ((noX (cmpL [3] (tgN 3) tYs (rN (rCons (rSl (rv false 3) (oI (some (rC (.int 1)))) (oI none) gSl) rNil) gInt) [.val (.lst [cD c, cD d]), .emp, .val (cD c), .emp] ((hS c).map .str))).bind fun ds => (((noX (cmpL [3] (tgN 3) tYs (rN (rCons (rSl (rv false 3) (oI (some (rC (.int 1)))) (oI none) gSl) rNil) gInt) [.val (.lst [cD c, cD d]), .emp, .val (cD d), .emp] ((hS d).map .str))).bind fun ds => (Out.ok []).bind fun es => .ok (ds ++ es))).bind fun es => Out.ok (ds ++ es)) = _
      rw [inner c hc, inner d hd, List.map_append]
      show Out.ok ((nums (hS c)).map D.int ++ ((nums (hS d)).map D.int ++ [])) = _
      rw [List.append_nil]
    rw [m]
    show (if ((nums (hS c) ++ nums (hS d)).map D.int).length ≤ sizeLine then Out.ok (iL (nums (hS c) ++ nums (hS d))) else .bad) = _
    rw [if_pos (by unfold nums; rw [List.length_map, List.length_append, List.length_map, List.length_map]; exact Nat.le_trans (show _ ≤ 16 by omega) (by decide))]
  generalize nums (hS c) ++ nums (hS d) = N at e1 e3
  have e4 : rIf (bT (r2 (rN (rCons (rv false 1) rNil) gLenU) (rC (.int 0)) gGt)) (r2 (rN (rCons (rv false 1) rNil) gMax) (rC (.int 1)) gAddU) (rC (.int 0)) [.val (.lst [cD c, cD d]), .val (iL N), .emp, .emp] = .ok (.int (topN N)) := by
    cases N with
    | nil => rfl
    | cons n N =>
      have m : maxI (n :: N) = some (topN (n :: N) - 1) := by
        show some _ = some _
        congr 1
        show N.foldl _ n = N.foldl _ n + 1 - 1
        omega
      have := o_r2 (ρ := [.val (.lst [cD c, cD d]), .val (iL (n :: N)), .emp, .emp]) (g := rC (.int 1)) (o := gAddU) (o_N1 (f := rv false 1) (a := iL (n :: N)) rfl (max_ints m)) rfl (addI _ _)
      rw [show topN (n :: N) - 1 + 1 = topN (n :: N) by omega] at this
      have t : bT (r2 (rN (rCons (rv false 1) rNil) gLenU) (rC (.int 0)) gGt) [.val (.lst [cD c, cD d]), .val (iL (n :: N)), .emp, .emp] = .ok true := by
        refine o_bT (o_r2 (o_N1 (a := iL (n :: N)) rfl (ev_lenU _)) (b := .int 0) rfl ?_)
        show Out.ok (D.bl (decide ((((n :: N).map D.int).length : Int) > 0))) = _
        rw [decide_eq_true (by rw [List.length_map, List.length_cons]; omega)]
      rw [ev_rIf, t]
      exact this
  have b1 : b_fresh_of [.val (.lst [cD c, cD d]), .emp, .emp, .emp] = .ok (.ret (.str u), [.val (.lst [cD c, cD d]), .val (iL N), .emp, .emp]) := by
    unfold b_fresh_of
    refine (seq_nx (o_own e3)).trans ?_
    rw [ev_sFrz]
    exact seq_ret (o_ret (o_r2 o_c (o_N1 e4 e1) e2))
  show (b_fresh_of [.val (.lst [cD c, cD d]), .emp, .emp, .emp]).bind _ = _
  rw [b1]
  rfl
end K04

namespace K04
open PySem PySem.Spec L2 VL
theorem fn_ret {n m : Nat} {b : Env' → Out (Fl × Env')} {ds : List D} {d : D} {ρ : Env'} (h : ds.length = m) (e : b (begE n (ds.map Cell.val)) = .ok (.ret d, ρ)) : arity m (fnF n b) ds = .ok d := by
  rw [ev_arity, if_pos h, ev_fnF, e]
  rfl
/-! ### shapes -/
theorem shp_rD {ks : List Str} {r : Rw} (h : ROk ks r) (hk : ∀ s ∈ ks, PyData.strOk s = true) : Shp 1 (rD r) := shp_3 (shp_str (hk _ h.k)) (shp_c h.a) (shp_c h.b)
theorem ks_f : ∀ s ∈ ([("eq" : Str), "ne"] : List Str), PyData.strOk s = true := fun s h => by
  simp only [List.mem_cons, List.not_mem_nil, or_false] at h
  rcases h with h | h <;> (subst h; decide +kernel)
theorem ks_a : ∀ s ∈ ([("to" : Str), "ls"] : List Str), PyData.strOk s = true := fun s h => by
  simp only [List.mem_cons, List.not_mem_nil, or_false] at h
  rcases h with h | h <;> (subst h; decide +kernel)
theorem shp_rows {ks : List Str} {l : List Rw} (h : ∀ r ∈ l, ROk ks r) (hk : ∀ s ∈ ks, PyData.strOk s = true) : Shp 2 (rowsT l) := shp_tupM fun r hr => shp_rD (h r hr) hk
theorem ne_cD {c : Cl} (hf : ∀ r ∈ c.f, ROk ["eq", "ne"] r) (ha : ∀ r ∈ c.a, ROk ["to", "ls"] r) : gNeU (cD c) (cD c) = .ok (.bl false) :=
  neU_self (n := 3) (shp_2 (shp_rows hf ks_f) (shp_rows ha ks_a)) (by omega)
/-! ### other terms -/
def oD (v : Str) : D := .dic [.tup [.str "x", .str v], .tup [.str "y", .str "x"]]
def oth (v s : Str) : Str := if "x" = s then v else if "y" = s then "x" else s
def mv (v : Str) (r : Rw) : Rw := ⟨r.k, oth v r.a, oth v r.b⟩
theorem get_oth (v s : Str) : gGet [.tup [.str "x", .str v], .tup [.str "y", .str "x"]] (.str s) (.str s) = .ok (.str (oth v s)) := by
  show Out.ok ((if keyEq (.str "x") (.str s) = true then some (D.str v) else if keyEq (.str "y") (.str s) = true then some (D.str "x") else none).getD (.str s)) = _
  rw [keyEq_str, keyEq_str]
  unfold oth
  by_cases h : ("x" : Str) = s
  · rw [if_pos (decide_eq_true h), if_pos h]
    rfl
  · rw [if_neg (by rw [decide_eq_false h]; exact Bool.false_ne_true), if_neg h]
    by_cases h2 : ("y" : Str) = s
    · rw [if_pos (decide_eq_true h2), if_pos h2]
      rfl
    · rw [if_neg (by rw [decide_eq_false h2]; exact Bool.false_ne_true), if_neg h2]
      rfl
theorem mv_e {ρ : Env'} {i j : Nat} {r : Rw} {v : Str} (hi : ρ[i]? = some (.val (rD r))) (hj : ρ[j]? = some (.val (oD v))) :
    rN (rCons (r2 (rv false i) (rC (.int 0)) gIxU) (rCons (rGet (rv false j) (r2 (rv false i) (rC (.int 1)) gIxU) (r2 (rv false i) (rC (.int 1)) gIxU)) (rCons (rGet (rv false j) (r2 (rv false i) (rC (.int 2)) gIxU) (r2 (rv false i) (rC (.int 2)) gIxU)) rNil))) gTup ρ = .ok (rD (mv v r)) := by
  have i1 : r2 (rv false i) (rC (.int 1)) gIxU ρ = .ok (.str r.a) := o_r2 (b := .int 1) (o_rv hi) rfl rfl
  have i2 : r2 (rv false i) (rC (.int 2)) gIxU ρ = .ok (.str r.b) := o_r2 (b := .int 2) (o_rv hi) rfl rfl
  exact o_N3 (a := .str r.k) (o_r2 (b := .int 0) (o_rv hi) rfl rfl) (o_get (o_rv hj) i1 i1 (get_oth v r.a)) (o_get (o_rv hj) i2 i2 (get_oth v r.b)) (ev_gTup3 _ _ _)
theorem row_put_ok (r : Rw) (v : Str) : m_row_put_for [rD r, oD v] = .ok (rD (mv v r)) := by
  have b1 : b_row_put_for [.val (rD r), .val (oD v)] = .ok (.ret (rD (mv v r)), [.val (rD r), .val (oD v)]) := by
    unfold b_row_put_for
    exact seq_ret (o_ret (mv_e rfl rfl))
  exact fn_ret (n := 2) (m := 2) (b := b_row_put_for) (ds := [rD r, oD v]) rfl b1
theorem put_for_ok {c : Cl} (h : COk c) (v : Str) : m_put_for [cD c, oD v] = .ok (cD ⟨c.f.map (mv v), c.a.map (mv v)⟩) := by
  have e1 : rLc (iSeq (rv false 2)) [4] (tgN 4) tYs (rF (rCons (rv false 4) (rCons (rv false 1) rNil)) m_row_put_for) [.val (cD c), .val (oD v), .val (rowsT c.f), .val (rowsT c.a), .emp] = .ok (.lst (c.f.map fun r => rD (mv v r))) :=
    rLc_map rD (fun r => rD (mv v r)) c.f rfl (by have := h.fl; omega) fun r _ => ⟨_, rfl, o_F2 (a := rD r) rfl (b := oD v) rfl (row_put_ok r v)⟩
  have e2 : rLc (iSeq (rv false 3)) [4] (tgN 4) tYs (rF (rCons (rv false 4) (rCons (rv false 1) rNil)) m_row_put_for) [.val (cD c), .val (oD v), .val (rowsT c.f), .val (rowsT c.a), .emp] = .ok (.lst (c.a.map fun r => rD (mv v r))) :=
    rLc_map rD (fun r => rD (mv v r)) c.a rfl (by have := h.al; omega) fun r _ => ⟨_, rfl, o_F2 (a := rD r) rfl (b := oD v) rfl (row_put_ok r v)⟩
  have b1 : b_put_for [.val (cD c), .val (oD v), .emp, .emp, .emp] = .ok (.ret (cD ⟨c.f.map (mv v), c.a.map (mv v)⟩), [.val (cD c), .val (oD v), .val (rowsT c.f), .val (rowsT c.a), .emp]) := by
    unfold b_put_for
    refine (seq_nx (ρ1 := [.val (cD c), .val (oD v), .val (rowsT c.f), .val (rowsT c.a), .emp]) rfl).trans ?_
    have := seq_ret (g := sNil) (o_ret (o_N2 (o := gTup) (o_N1 (o := gTuple) e1 rfl) (o_N1 (o := gTuple) e2 rfl) (ev_gTup2 _ _)))
    rw [this]
    unfold cD rowsT
    rw [List.map_map, List.map_map]
    rfl
  show (b_put_for [.val (cD c), .val (oD v), .emp, .emp, .emp]).bind _ = _
  rw [b1]
  rfl
theorem moved_ok {l : List Rw} (h : l.length ≤ 100) (v : Str) : m__law_moved [rowsT l, oD v] = .ok (.lst ((l.map (mv v)).map rD)) := by
  have e1 := rLc_map (it := iSeq (rv false 0)) (vs := [2]) (g := tgN 2) (f := rN (rCons (r2 (rv false 2) (rC (.int 0)) gIxU) (rCons (rGet (rv false 1) (r2 (rv false 2) (rC (.int 1)) gIxU) (r2 (rv false 2) (rC (.int 1)) gIxU)) (rCons (rGet (rv false 1) (r2 (rv false 2) (rC (.int 2)) gIxU) (r2 (rv false 2) (rC (.int 2)) gIxU)) rNil))) gTup) (ρ := [.val (rowsT l), .val (oD v), .emp]) rD (fun r => rD (mv v r)) l rfl (by omega) fun r _ => ⟨[.val (rowsT l), .val (oD v), .val (rD r)], rfl, mv_e rfl rfl⟩
  have b1 : b__law_moved [.val (rowsT l), .val (oD v), .emp] = .ok (.ret (.lst ((l.map (mv v)).map rD)), [.val (rowsT l), .val (oD v), .emp]) := by
    unfold b__law_moved
    have := seq_ret (g := sNil) (o_ret e1)
    rw [this, List.map_map]
    rfl
  show (b__law_moved [.val (rowsT l), .val (oD v), .emp]).bind _ = _
  rw [b1]
  rfl
theorem oth_canon {v s : Str} (hv : v ∈ canon) (h : s ∈ canon) : oth v s ∈ canon := by
  unfold oth
  split
  · exact hv
  · split
    · decide +kernel
    · exact h
theorem mv_ok {ks : List Str} {v : Str} (hv : v ∈ canon) {l : List Rw} (h : ∀ r ∈ l, ROk ks r) : ∀ r ∈ l.map (mv v), ROk ks r := fun r hr => by
  obtain ⟨q, hq, rfl⟩ := List.mem_map.mp hr
  exact ⟨(h q hq).k, oth_canon hv (h q hq).a, oth_canon hv (h q hq).b⟩
/-! ### joined -/
theorem app_ok' {ks : List Str} {l m : List Rw} (h : ∀ r ∈ l, ROk ks r) (h' : ∀ r ∈ m, ROk ks r) : ∀ r ∈ l ++ m, ROk ks r := fun r hr => (List.mem_append.mp hr).elim (h r) (h' r)
theorem addR {l m : List Rw} (h : l.length + m.length ≤ 1000) : gAddU (rowsT l) (rowsT m) = .ok (rowsT (l ++ m)) := by
  unfold rowsT
  rw [addT (by rw [List.length_map, List.length_map]; exact h), List.map_append]
theorem cf_e {ρ : Env'} {i : Nat} {c : Cl} (hi : ρ[i]? = some (.val (cD c))) : r2 (rv false i) (rC (.int 0)) gIxU ρ = .ok (rowsT c.f) := o_r2 (b := .int 0) (o_rv hi) rfl rfl
theorem ca_e {ρ : Env'} {i : Nat} {c : Cl} (hi : ρ[i]? = some (.val (cD c))) : r2 (rv false i) (rC (.int 1)) gIxU ρ = .ok (rowsT c.a) := o_r2 (b := .int 1) (o_rv hi) rfl rfl
theorem tpl (l : List Rw) : gTuple [rowsT l] = .ok (rowsT l) := rfl
theorem star_ok {c d : Cl} (hc : COk c) (hd : COk d) : m_star [cD c, cD d] = .ok (cD ⟨c.f ++ d.f, c.a ++ d.a⟩) := by
  have h1 := addR (l := c.f) (m := d.f) (by have := hc.fl; have := hd.fl; omega)
  have h2 := addR (l := c.a) (m := d.a) (by have := hc.al; have := hd.al; omega)
  have b1 : b_star [.val (cD c), .val (cD d)] = .ok (.ret (cD ⟨c.f ++ d.f, c.a ++ d.a⟩), [.val (cD c), .val (cD d)]) := by
    unfold b_star
    exact seq_ret (o_ret (o_N2 (o_r2 (o_N1 (cf_e rfl) (tpl _)) (o_N1 (cf_e rfl) (tpl _)) h1) (o_r2 (o_N1 (ca_e rfl) (tpl _)) (o_N1 (ca_e rfl) (tpl _)) h2) (ev_gTup2 _ _)))
  show (b_star [.val (cD c), .val (cD d)]).bind _ = _
  rw [b1]
  rfl
def rx : Rw := ⟨"eq", "x", "nil"⟩
theorem rx_ok : ROk ["eq", "ne"] rx := ⟨by decide, by decide, by decide⟩
theorem with_fact_ok {c : Cl} (hc : COk c) : m_with_fact [cD c, rD rx] = .ok (cD ⟨c.f ++ [rx], c.a⟩) := by
  have h1 := addR (l := c.f) (m := [rx]) (by have := hc.fl; show c.f.length + 1 ≤ 1000; omega)
  have b1 : b_with_fact [.val (cD c), .val (rD rx)] = .ok (.ret (cD ⟨c.f ++ [rx], c.a⟩), [.val (cD c), .val (rD rx)]) := by
    unfold b_with_fact
    exact seq_ret (o_ret (o_N2 (o_r2 (o_N1 (cf_e rfl) (tpl _)) (o_N1 (a := rD rx) (d := rowsT [rx]) rfl rfl) h1) (o_N1 (ca_e rfl) (tpl _)) (ev_gTup2 _ _)))
  show (b_with_fact [.val (cD c), .val (rD rx)]).bind _ = _
  rw [b1]
  rfl
/-! ### slices -/
def cutR (l : List Rw) (lo hi : Option Int) : List Rw := if HT.sIx l.length 0 lo = 0 ∧ HT.sIx l.length l.length hi = l.length then l else (l.drop (HT.sIx l.length 0 lo)).take (HT.sIx l.length l.length hi - HT.sIx l.length 0 lo)
theorem slR (l : List Rw) (lo hi : Option Int) : gSl (rowsT l) lo hi = .ok (rowsT (cutR l lo hi)) := by
  show (if HT.sIx (l.map rD).length 0 lo = 0 ∧ HT.sIx (l.map rD).length (l.map rD).length hi = (l.map rD).length then Out.ok (D.tup (l.map rD)) else .ok (.tup (cutD (l.map rD) lo hi))) = _
  unfold cutR cutD
  rw [List.length_map]
  split
  · rfl
  · unfold rowsT
    rw [List.map_take, List.map_drop]
theorem cutR_mem {l : List Rw} {lo hi : Option Int} : ∀ r ∈ cutR l lo hi, r ∈ l := fun r hr => by
  unfold cutR at hr
  split at hr
  · exact hr
  · exact List.mem_of_mem_drop (List.mem_of_mem_take hr)
theorem cutR_len (l : List Rw) (lo hi : Option Int) : (cutR l lo hi).length ≤ l.length := by
  unfold cutR
  split
  · exact Nat.le_refl _
  · rw [List.length_take, List.length_drop]
    omega
theorem sl_e {ρ : Env'} {f : Env' → Out D} {lo hi : Env' → Out (Option Int)} {l : List Rw} {a b : Option Int} (h : f ρ = .ok (rowsT l)) (h1 : lo ρ = .ok a) (h2 : hi ρ = .ok b) : rSl f lo hi gSl ρ = .ok (rowsT (cutR l a b)) := by
  unfold rSl
  rw [h, ev_ok, h1, ev_ok, h2, ev_ok, slR]
  rfl
theorem oI_some {ρ : Env'} {g : Env' → Out D} {k : Int} (h : g ρ = .ok (.int k)) : oI (some g) ρ = .ok (some k) := by
  unfold oI
  dsimp only
  rw [h]
  rfl
theorem oI_none {ρ : Env'} : oI none ρ = .ok none := rfl
def woA (l : List Rw) (k : Int) : List Rw := cutR l none (some k) ++ cutR l (some (k + 1)) none
def inA (l m : List Rw) (k : Int) : List Rw := (cutR l none (some k) ++ m) ++ cutR l (some (k + 1)) none
theorem lo_e {ρ : Env'} {i : Nat} {k : Int} (h : ρ[i]? = some (.val (.int k))) : oI (some (r2 (rv false i) (rC (.int 1)) gAddU)) ρ = .ok (some (k + 1)) := oI_some (o_r2 (b := .int 1) (o_rv h) rfl (addI _ _))
theorem without_ok {c : Cl} (hc : COk c) (k : Int) : m_without_atom [cD c, .int k] = .ok (cD ⟨c.f, woA c.a k⟩) := by
  have l1 := cutR_len c.a none (some k)
  have l2 := cutR_len c.a (some (k + 1)) none
  have := hc.al
  have h1 := addR (l := cutR c.a none (some k)) (m := cutR c.a (some (k + 1)) none) (by omega)
  have b1 : b_without_atom [.val (cD c), .val (.int k), .emp] = .ok (.ret (cD ⟨c.f, woA c.a k⟩), [.val (cD c), .val (.int k), .val (rowsT c.a)]) := by
    unfold b_without_atom
    refine (seq_nx (o_asg (o_N1 (ca_e rfl) (tpl _)))).trans ?_
    exact seq_ret (o_ret (o_N2 (o_N1 (cf_e rfl) (tpl _)) (o_r2 (sl_e (o_rv rfl) oI_none (oI_some (o_rv rfl))) (sl_e (o_rv rfl) (lo_e rfl) oI_none) h1) (ev_gTup2 _ _)))
  show (b_without_atom [.val (cD c), .val (.int k), .emp]).bind _ = _
  rw [b1]
  rfl
theorem in_place_ok {c d : Cl} (hc : COk c) (hd : COk d) (k : Int) : m_atoms_in_place [cD c, .int k, rowsT d.a] = .ok (cD ⟨c.f, inA c.a d.a k⟩) := by
  have l1 := cutR_len c.a none (some k)
  have l2 := cutR_len c.a (some (k + 1)) none
  have := hc.al
  have := hd.al
  have h1 := addR (l := cutR c.a none (some k)) (m := d.a) (by omega)
  have h2 := addR (l := cutR c.a none (some k) ++ d.a) (m := cutR c.a (some (k + 1)) none) (by rw [List.length_append]; omega)
  have b1 : b_atoms_in_place [.val (cD c), .val (.int k), .val (rowsT d.a), .emp] = .ok (.ret (cD ⟨c.f, inA c.a d.a k⟩), [.val (cD c), .val (.int k), .val (rowsT d.a), .val (rowsT c.a)]) := by
    unfold b_atoms_in_place
    refine (seq_nx (o_asg (o_N1 (ca_e rfl) (tpl _)))).trans ?_
    exact seq_ret (o_ret (o_N2 (o_N1 (cf_e rfl) (tpl _)) (o_r2 (o_r2 (sl_e (o_rv rfl) oI_none (oI_some (o_rv rfl))) (o_N1 (o_rv rfl) (tpl _)) h1) (sl_e (o_rv rfl) (lo_e rfl) oI_none) h2) (ev_gTup2 _ _)))
  show (b_atoms_in_place [.val (cD c), .val (.int k), .val (rowsT d.a), .emp]).bind _ = _
  rw [b1]
  rfl
theorem woA_ok {ks : List Str} {l : List Rw} (h : ∀ r ∈ l, ROk ks r) (k : Int) : ∀ r ∈ woA l k, ROk ks r := app_ok' (fun r hr => h r (cutR_mem r hr)) fun r hr => h r (cutR_mem r hr)
theorem inA_ok {ks : List Str} {l m : List Rw} (h : ∀ r ∈ l, ROk ks r) (h' : ∀ r ∈ m, ROk ks r) (k : Int) : ∀ r ∈ inA l m k, ROk ks r := app_ok' (app_ok' (fun r hr => h r (cutR_mem r hr)) h') fun r hr => h r (cutR_mem r hr)
end K04

namespace K04
open PySem PySem.Spec L2 VL
/-! ### segments -/
def idxR : Nat → List Rw → List (Nat × Rw)
  | _, [] => []
  | n, r :: l => (n, r) :: idxR (n + 1) l
theorem idxR_enum : ∀ (n : Nat) (l : List Rw), enumD n (l.map rD) = (idxR n l).map fun p => .tup [.int p.1, rD p.2]
  | _, [] => rfl
  | n, r :: l => by
    show _ :: enumD (n + 1) (l.map rD) = _
    rw [idxR_enum (n + 1) l]
    rfl
theorem idxR_get : ∀ (n : Nat) (l : List Rw) (p : Nat × Rw), p ∈ idxR n l → ∃ j, p.1 = n + j ∧ l[j]? = some p.2
  | n, r :: l, p, h => by
    rcases List.mem_cons.mp h with h | h
    · subst h
      exact ⟨0, rfl, rfl⟩
    · obtain ⟨j, h1, h2⟩ := idxR_get (n + 1) l p h
      exact ⟨j + 1, by omega, h2⟩
theorem idxR_rng : ∀ (n : Nat) (l : List Rw), (List.range' n l.length).map (fun (i : Nat) => D.int (0 + (i : Int))) = (idxR n l).map fun p => D.int p.1
  | _, [] => rfl
  | n, r :: l => by
    rw [List.length_cons, List.range'_succ, List.map_cons, idxR_rng (n + 1) l]
    show D.int (0 + (n : Int)) :: _ = D.int n :: _
    rw [Int.zero_add]
theorem idxR_len : ∀ (n : Nat) (l : List Rw), (idxR n l).length = l.length
  | _, [] => rfl
  | n, r :: l => by
    show (idxR (n + 1) l).length + 1 = _
    rw [idxR_len (n + 1) l]
    rfl
def segL (l : List Rw) : List Int := ((idxR 0 l).filter fun p => decide (p.2.k = ("ls" : Str))).map fun p => (p.1 : Int)
theorem ls_e {k : Str} (h : k ∈ ([("to" : Str), "ls"] : List Str)) : gEqU (.str k) (.str "ls") = .ok (.bl (decide (k = ("ls" : Str)))) := by
  simp only [List.mem_cons, List.not_mem_nil, or_false] at h
  rcases h with h | h <;> (subst h; kernel_rfl)
theorem segments_ok {c : Cl} (hc : COk c) : m_segments_of [cD c] = .ok (iL (segL c.a)) := by
  have e1 := rLc_eq (it := iEnumU (r2 (rv false 0) (rC (.int 1)) gIxU)) (vs := [1, 2]) (g := tgTupL 2 (tgCons (tgN 1) (tgCons (tgN 2) tgNil))) (t := bT (r2 (r2 (rv false 2) (rC (.int 0)) gIxU) (rC (.str "ls")) gEqU)) (f := rv false 1) (ρ := [.val (cD c), .emp, .emp]) (fun p : Nat × Rw => .tup [.int p.1, rD p.2]) (fun p => decide (p.2.k = ("ls" : Str))) (fun p => D.int p.1) (idxR 0 c.a) (by
    rw [← idxR_enum]
    show (r2 (rv false 0) (rC (.int 1)) gIxU [.val (cD c), .emp, .emp]).bind enumOf = _
    rw [ca_e rfl]
    rfl) (by rw [idxR_len]; have := hc.al; omega) fun p hp => ⟨[.val (cD c), .val (.int p.1), .val (rD p.2)], rfl, by
      obtain ⟨j, _, h2⟩ := idxR_get _ _ _ hp
      exact o_bT (o_r2 (o_r2 (a := rD p.2) (b := .int 0) (d := .str p.2.k) rfl rfl rfl) o_c (ls_e (hc.a _ (List.mem_of_getElem? h2)).k)), fun _ => rfl⟩
  have b1 : b_segments_of [.val (cD c), .emp, .emp] = .ok (.ret (iL (segL c.a)), [.val (cD c), .emp, .emp]) := by
    unfold b_segments_of
    have := seq_ret (g := sNil) (o_ret e1)
    rw [this]
    unfold iL segL
    rw [List.map_map]
    rfl
  exact fn_ret (n := 3) (m := 1) (b := b_segments_of) (ds := [cD c]) rfl b1
theorem ixT {l : List Rw} {i : Nat} {r : Rw} (e : l[i]? = some r) : gIxU (rowsT l) (.int i) = .ok (rD r) := by
  have e2 : (l.map rD)[i]? = some (rD r) := by rw [List.getElem?_map, e]; rfl
  show (match atI (l.map rD) (i : Int) with
    | some d => Out.ok d
    | none => .bad) = _
  rw [atI_nat' (by omega), Int.toNat_natCast, e2]
/-! ### whether it is a claim -/
def kD (b : Bool) : D := if b = true then .tup [.str "eq", .str "ne"] else .tup [.str "to", .str "ls"]
structure POk (p : Rw × Bool) : Prop where
  h : if p.2 = true then ROk ["eq", "ne"] p.1 else ROk ["to", "ls"] p.1
theorem POk.abk {p : Rw × Bool} (h : POk p) : p.1.a ∈ canon ∧ p.1.b ∈ canon ∧ gInU true (.str p.1.k) (kD p.2) = .ok (.bl false) := by
  obtain ⟨r, b⟩ := p
  obtain ⟨h⟩ := h
  cases b with
  | true =>
    have h : ROk ["eq", "ne"] r := h
    refine ⟨h.a, h.b, ?_⟩
    have k := h.k
    simp only [List.mem_cons, List.not_mem_nil, or_false] at k
    show gInU true (.str r.k) (kD true) = _
    rcases k with k | k <;> (rw [k]; kernel_rfl)
  | false =>
    have h : ROk ["to", "ls"] r := h
    refine ⟨h.a, h.b, ?_⟩
    have k := h.k
    simp only [List.mem_cons, List.not_mem_nil, or_false] at k
    show gInU true (.str r.k) (kD false) = _
    rcases k with k | k <;> (rw [k]; kernel_rfl)
theorem chk_turn {p : Rw × Bool} (h : POk p) (x0 x1 x2 x3 : Cell) : w_check_claim_0 [x0, x1, x2, x3, .val (rD p.1), .val (kD p.2)] = .ok (.nx, [x0, x1, x2, x3, .val (rD p.1), .val (kD p.2)]) := by
  obtain ⟨ha, hb, hk⟩ := h.abk
  have t : bOr (bT (r2 (rN (rCons (rv false 4) rNil) gLenU) (rC (.int 3)) gNeU)) (bOr (bT (r2 (r2 (rv false 4) (rC (.int 0)) gIxU) (rv false 5) (gInU true))) (bOr (bNot (bT (rF (rCons (r2 (rv false 4) (rC (.int 1)) gIxU) rNil) m_is_term))) (bNot (bT (rF (rCons (r2 (rv false 4) (rC (.int 2)) gIxU) rNil) m_is_term))))) [x0, x1, x2, x3, .val (rD p.1), .val (kD p.2)] = .ok false :=
    o_or (o_bT (p := false) (o_r2 (o_N1 (a := rD p.1) (d := .int 3) rfl rfl) o_c rfl)) (o_or (o_bT (o_r2 (o_r2 (a := rD p.1) (b := .int 0) (d := .str p.1.k) rfl rfl rfl) (b := kD p.2) rfl hk)) (o_or (o_not (o_bT (p := true) (o_F1 (o_r2 (a := rD p.1) (b := .int 1) (d := .str p.1.a) rfl rfl rfl) (is_term_c ha)))) (o_not (o_bT (p := true) (o_F1 (o_r2 (a := rD p.1) (b := .int 2) (d := .str p.1.b) rfl rfl rfl) (is_term_c hb))))))
  unfold w_check_claim_0
  exact (seq_nx ((if_no (o_mT t)).trans rfl)).trans rfl
theorem chk_loop (x0 x1 x2 x3 : Cell) : ∀ (l : List (Rw × Bool)) (c4 c5 : Cell), (∀ p ∈ l, POk p) → ∃ c4' c5', forL (tgTupL 2 (tgCons (tgN 4) (tgCons (tgN 5) tgNil))) w_check_claim_0 (l.map fun p => .tup [rD p.1, kD p.2]) [x0, x1, x2, x3, c4, c5] = .ok (.nx, [x0, x1, x2, x3, c4', c5'])
  | [], c4, c5, _ => ⟨c4, c5, rfl⟩
  | p :: l, c4, c5, h => by
    obtain ⟨c4', c5', e⟩ := chk_loop x0 x1 x2 x3 l (.val (rD p.1)) (.val (kD p.2)) fun q hq => h q (List.mem_cons_of_mem _ hq)
    exact ⟨c4', c5', (for_nx (ρ1 := [x0, x1, x2, x3, .val (rD p.1), .val (kD p.2)]) rfl (chk_turn (h p List.mem_cons_self) x0 x1 x2 x3)).trans e⟩
theorem check_ok {c : Cl} (h : COk c) : m_check_claim [cD c] = .ok .non := by
  have fl := h.fl
  have al := h.al
  have e1 : r2 (rLc (iSeq (rv false 1)) [4] (tgN 4) tYs (rN (rCons (rv false 4) (rCons (rN (rCons (rC (.str "eq")) (rCons (rC (.str "ne")) rNil)) gTup) rNil)) gTup)) (rLc (iSeq (rv false 2)) [4] (tgN 4) tYs (rN (rCons (rv false 4) (rCons (rN (rCons (rC (.str "to")) (rCons (rC (.str "ls")) rNil)) gTup) rNil)) gTup)) gAddU [.val (cD c), .val (rowsT c.f), .val (rowsT c.a), .emp, .emp, .emp] = .ok (.lst ((c.f.map (·, true) ++ c.a.map (·, false)).map fun p => .tup [rD p.1, kD p.2])) := by
    have a1 : rLc (iSeq (rv false 1)) [4] (tgN 4) tYs (rN (rCons (rv false 4) (rCons (rN (rCons (rC (.str "eq")) (rCons (rC (.str "ne")) rNil)) gTup) rNil)) gTup) [.val (cD c), .val (rowsT c.f), .val (rowsT c.a), .emp, .emp, .emp] = .ok (.lst (c.f.map fun r => .tup [rD r, kD true])) :=
      rLc_map rD _ c.f rfl (by omega) fun r _ => ⟨_, rfl, o_N2 (a := rD r) rfl (o_N2 (o := gTup) (a := .str "eq") rfl (b := .str "ne") rfl (ev_gTup2 _ _)) (ev_gTup2 _ _)⟩
    have a2 : rLc (iSeq (rv false 2)) [4] (tgN 4) tYs (rN (rCons (rv false 4) (rCons (rN (rCons (rC (.str "to")) (rCons (rC (.str "ls")) rNil)) gTup) rNil)) gTup) [.val (cD c), .val (rowsT c.f), .val (rowsT c.a), .emp, .emp, .emp] = .ok (.lst (c.a.map fun r => .tup [rD r, kD false])) :=
      rLc_map rD _ c.a rfl (by omega) fun r _ => ⟨_, rfl, o_N2 (a := rD r) rfl (o_N2 (o := gTup) (a := .str "to") rfl (b := .str "ls") rfl (ev_gTup2 _ _)) (ev_gTup2 _ _)⟩
    refine o_r2 a1 a2 ?_
    show (if (c.f.map fun r => D.tup [rD r, kD true]).length + (c.a.map fun r => D.tup [rD r, kD false]).length ≤ sizeLine then Out.ok (D.lst ((c.f.map fun r => D.tup [rD r, kD true]) ++ (c.a.map fun r => D.tup [rD r, kD false]))) else .bad) = _
    rw [if_pos (by rw [List.length_map, List.length_map]; exact Nat.le_trans (show _ ≤ 6 by omega) (by decide)), List.map_append, List.map_map, List.map_map]
    rfl
  obtain ⟨c4, c5, e2⟩ := chk_loop (.val (cD c)) (.val (rowsT c.f)) (.val (rowsT c.a)) (.val (.lst ((c.f.map (·, true) ++ c.a.map (·, false)).map fun p => .tup [rD p.1, kD p.2]))) (c.f.map (·, true) ++ c.a.map (·, false)) .emp .emp fun p hp => by
    rcases List.mem_append.mp hp with hp | hp
    · obtain ⟨r, hr, rfl⟩ := List.mem_map.mp hp
      exact ⟨h.f r hr⟩
    · obtain ⟨r, hr, rfl⟩ := List.mem_map.mp hp
      exact ⟨h.a r hr⟩
  have t : bOr (bT (r2 (rN (rCons (rv false 1) rNil) gLenU) (rC (.int 20)) gGt)) (bT (r2 (rN (rCons (rv false 2) rNil) gLenU) (rC (.int 12)) gGt)) [.val (cD c), .val (rowsT c.f), .val (rowsT c.a), .val (.lst ((c.f.map (·, true) ++ c.a.map (·, false)).map fun p => .tup [rD p.1, kD p.2])), c4, c5] = .ok false := by
    refine o_or (o_bT (o_r2 (o_N1 (a := rowsT c.f) rfl (ev_lenUT _)) o_c ?_)) (o_bT (o_r2 (o_N1 (a := rowsT c.a) rfl (ev_lenUT _)) o_c ?_))
    · rw [ev_gGt, decide_eq_false (by rw [List.length_map]; omega)]
    · rw [ev_gGt, decide_eq_false (by rw [List.length_map]; omega)]
  have t0 : mT (bT (r2 (rN (rCons (rv false 0) rNil) gLenU) (rC (.int 2)) gNeU)) [.val (cD c), .emp, .emp, .emp, .emp, .emp] = .ok (false, [.val (cD c), .emp, .emp, .emp, .emp, .emp]) := o_mT (o_bT (p := false) (o_r2 (o_N1 (a := cD c) (d := .int 2) rfl rfl) o_c rfl))
  have b1 : b_check_claim [.val (cD c), .emp, .emp, .emp, .emp, .emp] = .ok (.nx, [.val (cD c), .val (rowsT c.f), .val (rowsT c.a), .val (.lst ((c.f.map (·, true) ++ c.a.map (·, false)).map fun p => .tup [rD p.1, kD p.2])), c4, c5]) := by
    unfold b_check_claim
    refine (seq_nx ((if_no t0).trans rfl)).trans ?_
    refine (seq_nx (ρ1 := [.val (cD c), .val (rowsT c.f), .val (rowsT c.a), .emp, .emp, .emp]) rfl).trans ?_
    refine (seq_nx (o_asg e1)).trans ?_
    refine (seq_nx ((for_eq rfl).trans e2)).trans ?_
    exact (seq_nx ((if_no (o_mT t)).trans rfl)).trans rfl
  show (b_check_claim [.val (cD c), .emp, .emp, .emp, .emp, .emp]).bind _ = _
  rw [b1]
  rfl
end K04

namespace K04
open PySem PySem.Spec L2 VL
theorem o_F2x {ρ : Env'} {f g : Env' → Out D} {a b : D} {o : List D → Out D} {c : Str} {fs : List D} (h : f ρ = .ok a) (h' : g ρ = .ok b) (e : o [a, b] = .exc c fs) : rF (rCons f (rCons g rNil)) o ρ = .exc c fs := by rw [ev_rF, ev_rCons, ev_rCons, h, h']; exact e
/-! ### over names -/
def nm1 : List Str := ["x", "y", "H2", "H10"]
def nm2 : List Str := ["x"]
theorem in1 {s : Str} (h : s ∈ canon) : gInU false (.str s) (sL nm1) = .ok (.bl (decide (s ∈ nm1))) := by
  rcases canon_cases h with h | h | h | h | h | h | h | h <;> (subst h; kernel_rfl)
theorem in2 {s : Str} (h : s ∈ canon) : gInU false (.str s) (sL nm2) = .ok (.bl (decide (s ∈ nm2))) := by
  rcases canon_cases h with h | h | h | h | h | h | h | h <;> (subst h; kernel_rfl)
theorem nin2 {s : Str} (h : s ∈ canon) : gInU true (.str s) (.lst [.str "nil", .str "x"]) = .ok (.bl (!(decide (s = "nil") || decide (s ∈ nm2)))) := by
  rcases canon_cases h with h | h | h | h | h | h | h | h <;> (subst h; kernel_rfl)
def okN (nm ts : List Str) : Bool := (ordS ts).all fun s : Str => decide (s = "nil") || decide (s ∈ nm)
theorem check_over_ok {c : Cl} (h : COk c) {nm : List Str} (hn : ∀ s ∈ canon, gInU false (.str s) (sL nm) = .ok (.bl (decide (s ∈ nm)))) : m_check_over [cD c, sL nm] = if okN nm (tsC c) = true then .ok .non else .exc "BadClaim" [] := by
  have e1 : rLc (iSeq (rF (rCons (rv false 0) rNil) m_terms_of)) [2] (tgN 2) tYs (rOr (r2 (rv false 2) (rC (.str "nil")) gEqU) (r2 (rv false 2) (rv false 1) (gInU false))) [.val (cD c), .val (sL nm), .emp] = .ok (.lst ((ordS (tsC c)).map fun s : Str => .bl (decide (s = "nil") || decide (s ∈ nm)))) :=
    rLc_map D.str (fun s : Str => D.bl (decide (s = "nil") || decide (s ∈ nm))) (ordS (tsC c)) (o_seqL (o_F1 (f := rv false 0) (a := cD c) rfl (terms_of_ok h))) (by have := ordS_len (tsC c); omega) fun s hs => ⟨_, rfl, by
      have hc := ordS_canon s hs
      have a1 : r2 (rv false 2) (rC (.str "nil")) gEqU [.val (cD c), .val (sL nm), .val (.str s)] = .ok (.bl (decide (s = "nil"))) := o_r2 (a := .str s) rfl o_c (eqU_nil_c hc)
      have a2 : r2 (rv false 2) (rv false 1) (gInU false) [.val (cD c), .val (sL nm), .val (.str s)] = .ok (.bl (decide (s ∈ nm))) := o_r2 (a := .str s) rfl (b := sL nm) rfl (hn s hc)
      show rOr (r2 (rv false 2) (rC (.str "nil")) gEqU) (r2 (rv false 2) (rv false 1) (gInU false)) [.val (cD c), .val (sL nm), .val (.str s)] = _
      rw [ev_rOr, a1]
      cases decide (s = ("nil" : Str)) with
      | true => rfl
      | false => exact a2⟩
  have e2 := all_bl (ordS (tsC c)) fun s : Str => decide (s = "nil") || decide (s ∈ nm)
  have s1 : sDrop (mOf false (rF (rCons (rv false 0) rNil) m_check_claim)) [.val (cD c), .val (sL nm), .emp] = .ok (.nx, [.val (cD c), .val (sL nm), .emp]) := by
    rw [ev_sDrop, ev_mOf, o_F1 (f := rv false 0) (a := cD c) rfl (check_ok h)]
    rfl
  have t : mT (bNot (bT (rN (rCons (rLc (iSeq (rF (rCons (rv false 0) rNil) m_terms_of)) [2] (tgN 2) tYs (rOr (r2 (rv false 2) (rC (.str "nil")) gEqU) (r2 (rv false 2) (rv false 1) (gInU false)))) rNil) gAll))) [.val (cD c), .val (sL nm), .emp] = .ok (!okN nm (tsC c), [.val (cD c), .val (sL nm), .emp]) := o_mT (o_not (o_bT (o_N1 e1 e2)))
  cases z : okN nm (tsC c) with
  | true =>
    rw [z] at t
    rw [if_pos rfl]
    have b1 : b_check_over [.val (cD c), .val (sL nm), .emp] = .ok (.nx, [.val (cD c), .val (sL nm), .emp]) := by
      unfold b_check_over
      exact (seq_nx s1).trans ((seq_nx ((if_no t).trans rfl)).trans rfl)
    show (b_check_over [.val (cD c), .val (sL nm), .emp]).bind _ = _
    rw [b1]
    rfl
  | false =>
    rw [z] at t
    rw [if_neg Bool.false_ne_true]
    have b1 : b_check_over [.val (cD c), .val (sL nm), .emp] = .exc "BadClaim" [] := by
      unfold b_check_over
      exact (seq_nx s1).trans (seq_exc ((if_yes t).trans rfl))
    show (b_check_over [.val (cD c), .val (sL nm), .emp]).bind _ = _
    rw [b1]
    rfl
/-! ### _law_checked -/
theorem checked_none {c : Cl} (h : COk c) : m__law_checked [cD c, .non] = .ok (.str "right") := by
  have s1 : sIf (mT (bT (r2 (rv false 1) (rC .non) gIsU))) (sSeq (sDrop (mOf false (rF (rCons (rv false 0) rNil) m_check_claim))) sNil) (sSeq (sDrop (mOf false (rF (rCons (rv false 0) (rCons (rv false 1) rNil)) m_check_over))) sNil) [.val (cD c), .val .non] = .ok (.nx, [.val (cD c), .val .non]) := by
    refine (if_yes (o_mT (p := true) rfl)).trans ?_
    rw [ev_sSeq, ev_sDrop, ev_mOf, o_F1 (f := rv false 0) (a := cD c) rfl (check_ok h)]
    rfl
  have b1 : b__law_checked [.val (cD c), .val .non] = .ok (.ret (.str "right"), [.val (cD c), .val .non]) := by
    unfold b__law_checked
    refine (seq_nx (ρ1 := [.val (cD c), .val .non]) ?_).trans rfl
    unfold sTryN
    rw [seq_nx s1]
    rfl
  show (b__law_checked [.val (cD c), .val .non]).bind _ = _
  rw [b1]
  rfl
theorem checked_nm {c : Cl} (h : COk c) {nm : List Str} (hn : ∀ s ∈ canon, gInU false (.str s) (sL nm) = .ok (.bl (decide (s ∈ nm)))) : m__law_checked [cD c, sL nm] = .ok (.str (if okN nm (tsC c) = true then "right" else "bad")) := by
  have e := check_over_ok h hn
  cases z : okN nm (tsC c) with
  | true =>
    rw [z, if_pos rfl] at e
    have s1 : sIf (mT (bT (r2 (rv false 1) (rC .non) gIsU))) (sSeq (sDrop (mOf false (rF (rCons (rv false 0) rNil) m_check_claim))) sNil) (sSeq (sDrop (mOf false (rF (rCons (rv false 0) (rCons (rv false 1) rNil)) m_check_over))) sNil) [.val (cD c), .val (sL nm)] = .ok (.nx, [.val (cD c), .val (sL nm)]) := by
      refine (if_no (o_mT (p := false) rfl)).trans ?_
      rw [ev_sSeq, ev_sDrop, ev_mOf, o_F2 (f := rv false 0) (a := cD c) rfl (g := rv false 1) (b := sL nm) rfl e]
      rfl
    have b1 : b__law_checked [.val (cD c), .val (sL nm)] = .ok (.ret (.str "right"), [.val (cD c), .val (sL nm)]) := by
      unfold b__law_checked
      refine (seq_nx (ρ1 := [.val (cD c), .val (sL nm)]) ?_).trans rfl
      unfold sTryN
      rw [seq_nx s1]
      rfl
    show (b__law_checked [.val (cD c), .val (sL nm)]).bind _ = _
    rw [b1]
    rfl
  | false =>
    rw [z, if_neg Bool.false_ne_true] at e
    have s1 : sIf (mT (bT (r2 (rv false 1) (rC .non) gIsU))) (sSeq (sDrop (mOf false (rF (rCons (rv false 0) rNil) m_check_claim))) sNil) (sSeq (sDrop (mOf false (rF (rCons (rv false 0) (rCons (rv false 1) rNil)) m_check_over))) sNil) [.val (cD c), .val (sL nm)] = .exc "BadClaim" [] := by
      refine (if_no (o_mT (p := false) rfl)).trans ?_
      rw [ev_sSeq, ev_sDrop, ev_mOf, o_F2x (f := rv false 0) (a := cD c) rfl (g := rv false 1) (b := sL nm) rfl e]
      rfl
    have b1 : b__law_checked [.val (cD c), .val (sL nm)] = .ok (.ret (.str "bad"), [.emp, .emp]) := by
      unfold b__law_checked
      refine seq_ret ?_
      unfold sTryN
      rw [seq_exc s1]
      rfl
    show (b__law_checked [.val (cD c), .val (sL nm)]).bind _ = _
    rw [b1]
    rfl
/-! ### wrong ones -/
def E0 : D := .tup []
def R3 (a b c : Str) : D := .tup [.str a, .str b, .str c]
def wr : List D := [.tup [.tup [R3 "eq" "x" "X"], E0], .tup [.tup [R3 "is" "x" "y"], E0], .tup [E0, .tup [.tup [.str "to", .str "x"]]], .tup [E0, .tup [R3 "lx" "x" "y"]], .tup [E0], .tup [.tup [R3 "eq" "x" "ls"], E0],
  .tup [E0, .tup (List.replicate 13 (R3 "to" "x" "y"))], .tup [.tup (List.replicate 21 (R3 "ne" "x" "y")), E0]]
theorem wr0 : m__law_checked [.tup [.tup [R3 "eq" "x" "X"], E0], .non] = .ok (.str "bad") := by kernel_rfl
theorem wr1 : m__law_checked [.tup [.tup [R3 "is" "x" "y"], E0], .non] = .ok (.str "bad") := by kernel_rfl
theorem wr2 : m__law_checked [.tup [E0, .tup [.tup [.str "to", .str "x"]]], .non] = .ok (.str "bad") := by kernel_rfl
theorem wr3 : m__law_checked [.tup [E0, .tup [R3 "lx" "x" "y"]], .non] = .ok (.str "bad") := by kernel_rfl
theorem wr4 : m__law_checked [.tup [E0], .non] = .ok (.str "bad") := by kernel_rfl
theorem wr5 : m__law_checked [.tup [.tup [R3 "eq" "x" "ls"], E0], .non] = .ok (.str "bad") := by kernel_rfl
theorem wr6 : m__law_checked [.tup [E0, .tup (List.replicate 13 (R3 "to" "x" "y"))], .non] = .ok (.str "large") := by kernel_rfl
theorem wr7 : m__law_checked [.tup [.tup (List.replicate 21 (R3 "ne" "x" "y")), E0], .non] = .ok (.str "large") := by kernel_rfl
theorem wr8 : m__law_checked [.tup [.tup (List.replicate 20 (R3 "ne" "x" "y")), .tup (List.replicate 12 (R3 "to" "x" "y"))], .non] = .ok (.str "right") := by kernel_rfl
end K04

namespace K04
open PySem PySem.Spec L2 VL
def tp (cells : List Int) (k cell mix : Int) : D := .lst [.lst (cells.map .int), .int k, .int cell, .int mix]
theorem ix4_0 (a b c d : D) : gIxU (.lst [a, b, c, d]) (.int 0) = .ok a := rfl
theorem ix4_1 (a b c d : D) : gIxU (.lst [a, b, c, d]) (.int 1) = .ok b := rfl
theorem ix4_2 (a b c d : D) : gIxU (.lst [a, b, c, d]) (.int 2) = .ok c := rfl
theorem ix4_3 (a b c d : D) : gIxU (.lst [a, b, c, d]) (.int 3) = .ok d := rfl
theorem at4_0 (a b c d : D) : atI [a, b, c, d] 0 = some a := rfl
theorem at4_1 (a b c d : D) : atI [a, b, c, d] 1 = some b := rfl
theorem xn4_1 : ixN 4 1 = some 1 := rfl
theorem xn4_2 : ixN 4 2 = some 2 := rfl
theorem pow9 : gPow (.int 10) (.int 9) = .ok (.int 1000000000) := by
  show (if (decide ((0 : Int) ≤ 9) && (decide ((9 : Int) ≤ 1000000) && decide (Int.natAbs 10 < 2 ^ 64))) = true then Out.ok (D.int (10 ^ Int.toNat 9)) else .bad) = _
  rw [if_pos (by decide +kernel)]
  rfl
theorem im_int (i : Int) : immut (.int i) = true := rfl
theorem mul_c (i : Int) : gMulI (.int i) (.int 48271) = .ok (.int (i * 48271)) := ev_mulR (by decide) (by decide)
theorem mul_k (i : Int) : gMulI (.int i) (.int 69621) = .ok (.int (i * 69621)) := ev_mulR (by decide) (by decide)
theorem mul_k2 (i : Int) : gMulI (.int i) (.int 39373) = .ok (.int (i * 39373)) := ev_mulR (by decide) (by decide)
theorem mul_2 (i : Int) : gMulI (.int (-2)) (.int i) = .ok (.int (-2 * i)) := ev_mulL (by decide) (by decide)
theorem mod_a (i : Int) : gMod (.int i) (.int 2147483647) = .ok (.int (i.fmod 2147483647)) := ev_mod (by decide)
theorem mod_b (i : Int) : gMod (.int i) (.int 2147483629) = .ok (.int (i.fmod 2147483629)) := ev_mod (by decide)
theorem fm (i : Int) {n : Int} (h : 0 < n) : 0 ≤ i.fmod n ∧ i.fmod n < n := ⟨Int.fmod_nonneg_of_pos i h, Int.fmod_lt_of_pos i h⟩
theorem mul_s (i : Int) : gMulI (.int (i.fmod 2147483647)) (.int (i.fmod 2147483647)) = .ok (.int (i.fmod 2147483647 * i.fmod 2147483647)) := by
  have h := fm i (n := 2147483647) (by decide)
  exact ev_mulR (by omega) (by omega)
local macro_rules | `(tactic| trivial) => `(tactic| simp only [ev_ok, ev_exc, ev_bad, ev_nok, ev_nbad, ev_rC, ev_r1, ev_r2, ev_rN, ev_rNil, ev_rCons, ev_rIf, ev_bT, ev_asB, ev_bOr, ev_mOf, ev_mT, ev_brw, ev_sSeq, ev_sNil, ev_sAsg, ev_tgN, ev_sIf, ev_sRet, ev_sPut, ev_mIxO, ev_rv, ev_gSub, ev_gLt, ev_gGe, addI, ev_int, ev_neg, ev_lenU, begE, frzA, frzC, ix4_0, ix4_1, ix4_2, ix4_3, at4_0, at4_1, xn4_1, xn4_2, pow9, im_int, mul_c, mul_k, mul_k2, mul_2, mod_a, mod_b, mul_s,
  List.map_cons, List.map_nil, List.length_cons, List.length_nil, List.length_map, List.replicate, List.cons_append, List.nil_append, List.getElem?_cons_zero, List.getElem?_cons_succ, List.set_cons_zero, List.set_cons_succ, List.set_nil, if_true, if_false, reduceIte, Nat.reduceAdd, Nat.reduceSub, decide_eq_true_eq, decide_true, decide_false, Bool.false_eq_true, or_true, true_or, *])
theorem draw_ok (cells : List Int) (k cell mix many : Int) (hk : 0 ≤ k) (hc : 0 ≤ cell) (hm : 0 ≤ mix) (h0 : 0 < many) (h1 : many < 1073741824) :
    ∃ k' cell' n, m__law_draw (tp cells k cell mix) [.int many] = .ok (.int n, tp cells k' cell' mix) ∧ 0 ≤ n ∧ n < many ∧ 0 ≤ k' ∧ 0 ≤ cell' := by
  have hm0 : many ≠ 0 := by omega
  have m1 : ∀ i : Int, gMod (.int i) (.int many) = .ok (.int (i.fmod many)) := fun i => ev_mod hm0
  have m2 : ∀ i : Int, gFdiv (.int i) (.int many) = .ok (.int (i.fdiv many)) := fun i => ev_fdiv hm0 (by omega)
  have fd : ∀ i : Int, 0 ≤ i → 0 ≤ i.fdiv many := fun i h => Int.fdiv_nonneg h (by omega)
  unfold m__law_draw fnT b__law_draw tp
  by_cases c0 : cell < many
  · have fin : ∀ (v : Int) (k' : Int), 0 ≤ v → 0 ≤ k' → ∃ k'' cell' n, ownOf (D.int (v.fmod many)) (some (Cell.own (D.lst [D.lst (List.map D.int cells), D.int k', D.int (v.fdiv many), D.int mix]))) = Out.ok (D.int n, D.lst [D.lst (List.map D.int cells), D.int k'', D.int cell', D.int mix]) ∧ 0 ≤ n ∧ n < many ∧ 0 ≤ k'' ∧ 0 ≤ cell' :=
      fun v k' hv hk' => ⟨_, _, _, rfl, (fm v h0).1, (fm v h0).2, hk', fd v hv⟩
    by_cases c1 : k < (cells.length : Int)
    · have c1' : ¬ (cells.length : Int) ≤ k := by omega
      have hg : gIxU (.lst (cells.map .int)) (.int k) = .ok (.int (cells[k.toNat]'(by omega))) := by
        show (match atI (cells.map D.int) k with
          | some d => Out.ok d
          | none => .bad) = _
        rw [atI_nat' hk, List.getElem?_map, List.getElem?_eq_getElem (by omega)]
        rfl
      generalize cells[k.toNat]'(by omega) = v at hg
      by_cases c2 : v < 0
      · by_cases c3 : -2 * v - 1 < 1000000000
        · trivial
          exact fin _ _ (fm _ (by decide)).1 (by omega)
        · trivial
          exact fin _ _ (by omega) (by omega)
      · by_cases c3 : v < 1000000000
        · trivial
          exact fin _ _ (fm _ (by decide)).1 (by omega)
        · trivial
          exact fin _ _ (by omega) (by omega)
    · have c1' : (cells.length : Int) ≤ k := by omega
      have c2 : ¬ mix < 0 := by omega
      by_cases c3 : mix < 1000000000
      · trivial
        exact fin _ _ (fm _ (by decide)).1 (by omega)
      · trivial
        exact fin _ _ (fm _ (by decide)).1 (by omega)
  · trivial
    exact ⟨_, _, _, rfl, (fm _ h0).1, (fm _ h0).2, hk, fd _ hc⟩
def Tp (d : D) : Prop := ∃ cells k cell mix, d = tp cells k cell mix ∧ 0 ≤ k ∧ 0 ≤ cell ∧ 0 ≤ mix
theorem draw {d : D} (h : Tp d) (many : Int) (h0 : 0 < many) (h1 : many < 1073741824) : ∃ n d', m__law_draw d [.int many] = .ok (.int n, d') ∧ 0 ≤ n ∧ n < many ∧ Tp d' := by
  obtain ⟨cells, k, cell, mix, rfl, a, b, c⟩ := h
  obtain ⟨k', cell', n, e, h1, h2, h3, h4⟩ := draw_ok cells k cell mix many a b c h0 h1
  exact ⟨n, _, e, h1, h2, cells, k', cell', mix, rfl, h3, h4, c⟩
theorem mct_eq {i : Nat} {ρ : Env'} {d d' : D} {g : Env' → Out D} {many n : Int} (hi : ρ[i]? = some (Cell.own d)) (hg : g ρ = .ok (.int many)) (e : m__law_draw d [.int many] = .ok (.int n, d')) : mCT i (mCons (mOf false g) mNil) m__law_draw ρ = .ok (.int n, ρ.set i (.own d')) := by
  have a1 : mCons (mOf false g) mNil ρ = .ok ([.int many], ρ) := by
    rw [ev_mCons, ev_mOf, hg]
    rfl
  rw [ev_mCT, hi]
  dsimp only
  rw [a1, ev_ok]
  dsimp only
  rw [hi]
  dsimp only
  rw [e]
  rfl
theorem tape_loop (a : Cell) : ∀ (ns : List Int) (mix : Int) (c : Cell), 0 ≤ mix → ∃ mix' c', 0 ≤ mix' ∧ forL (tgN 2) w__law_tape_0 (ns.map D.int) [a, Cell.val (.int mix), c] = .ok (.nx, [a, Cell.val (.int mix'), c'])
  | [], mix, c, h => ⟨mix, c, h, rfl⟩
  | n :: ns, mix, c, h => by
    have m1 : gMulI (.int mix) (.int 48271) = .ok (.int (mix * 48271)) := ev_mulR (by decide) (by decide)
    have m2 : gMulI (.int n) (.int 16807) = .ok (.int (n * 16807)) := ev_mulR (by decide) (by decide)
    have m3 : ∀ i : Int, gMod (.int i) (.int 1000000007) = .ok (.int (i.fmod 1000000007)) := fun i => ev_mod (by decide)
    obtain ⟨mix', c', h1, h2⟩ := tape_loop a ns ((mix * 48271 + n * 16807 + 7).fmod 1000000007) (Cell.val (.int n)) (fm _ (by decide)).1
    refine ⟨mix', c', h1, (for_nx (ρ1 := [a, .val (.int mix), .val (.int n)]) rfl ?_).trans h2⟩
    unfold w__law_tape_0
    clear h1 h2
    simp only [ev_tgN, ev_nok, ev_ok, List.set_cons_zero, List.set_cons_succ, ev_sSeq, ev_sAsg, ev_mOf, ev_r2, ev_rN, ev_rCons, ev_rNil, ev_rv, ev_rC, List.getElem?_cons_zero, List.getElem?_cons_succ, m1, m2, m3, addI, ev_int, true_or, reduceIte, ev_sNil]
theorem tape_ok (ns : List Int) : ∃ d, m__law_tape [.lst (ns.map D.int)] = .ok d ∧ Tp d := by
  obtain ⟨mix', c', h1, h2⟩ := tape_loop (Cell.val (.lst (ns.map D.int))) ns ((ns.map D.int).length : Nat) Cell.emp (by omega)
  refine ⟨tp ns 0 0 mix', ?_, ns, 0, 0, mix', rfl, Int.le_refl _, Int.le_refl _, h1⟩
  have b1 : b__law_tape [.val (.lst (ns.map D.int)), .emp, .emp] = .ok (.new (tp ns 0 0 mix'), [.val (.lst (ns.map D.int)), .val (.int mix'), c']) := by
    unfold b__law_tape
    refine (seq_nx (ρ1 := [.val (.lst (ns.map D.int)), .val (.int ((ns.map D.int).length : Nat)), .emp]) rfl).trans ?_
    refine (seq_nx ((for_eq rfl).trans h2)).trans ?_
    rfl
  show fnN 3 1 b__law_tape [.lst (ns.map D.int)] = _
  unfold fnN
  show (if 1 = 1 then (b__law_tape [.val (.lst (ns.map D.int)), .emp, .emp]).bind _ else _) = _
  rw [if_pos rfl, b1]
  rfl
end K04

namespace K04
open PySem PySem.Spec L2 VL
abbrev nl : Str := "nil"
theorem ix_sL {l : List Str} {n : Int} (h0 : 0 ≤ n) (h1 : n < l.length) : ∃ s, l[n.toNat]? = some s ∧ gIxU (sL l) (.int n) = .ok (.str s) := by
  have hl : n.toNat < l.length := by omega
  refine ⟨l[n.toNat], List.getElem?_eq_getElem hl, ?_⟩
  have e : (l.map D.str)[n.toNat]? = some (.str l[n.toNat]) := by rw [List.getElem?_map, List.getElem?_eq_getElem hl]; rfl
  show (match atI (l.map D.str) n with
    | some d => Out.ok d
    | none => .bad) = _
  rw [atI_nat' h0, e]
theorem pick {ρ : Env'} {d : D} {l : List Str} {f g : Env' → Out D} (h0 : ρ[0]? = some (.own d)) (hf : f ρ = .ok (sL l)) (hg : g ρ = .ok (.int l.length)) (t : Tp d) (l1 : 0 < l.length) (l2 : l.length ≤ 1000) :
    ∃ s d', s ∈ l ∧ Tp d' ∧ m2 (mOf false f) (mCT 0 (mCons (mOf false g) mNil) m__law_draw) gIxU ρ = .ok (.str s, ρ.set 0 (.own d')) := by
  obtain ⟨n, d', e, a, b, c⟩ := draw t l.length (by omega) (by omega)
  obtain ⟨s, hs, es⟩ := ix_sL a b
  refine ⟨s, d', List.mem_of_getElem? hs, c, ?_⟩
  have mc := mct_eq h0 hg e
  rw [ev_m2, ev_mOf, hf]
  show ((mCT 0 (mCons (mOf false g) mNil) m__law_draw ρ).bind fun y => (noX (gIxU (sL l) y.1)).bind fun d => Out.ok (d, y.2)) = _
  rw [mc]
  show ((noX (gIxU (sL l) (.int n))).bind fun d => _) = _
  rw [es]
  rfl
theorem row_e {ρ ρ1 ρ2 ρ3 : Env'} {A B C : Env' → Out (D × Env')} {k a b : Str} (hA : A ρ = .ok (.str k, ρ1)) (hB : B ρ1 = .ok (.str a, ρ2)) (hC : C ρ2 = .ok (.str b, ρ3)) : mN (mCons A (mCons B (mCons C mNil))) gTup ρ = .ok (rD ⟨k, a, b⟩, ρ3) := by
  rw [ev_mN, ev_mCons, hA]
  show (((mCons B (mCons C mNil) ρ1).bind fun xs => Out.ok (D.str k :: xs.1, xs.2)).bind fun x => (noX (gTup x.1)).bind fun d => Out.ok (d, x.2)) = _
  rw [ev_mCons, hB]
  show ((((mCons C mNil ρ2).bind fun xs => Out.ok (D.str a :: xs.1, xs.2)).bind fun xs => Out.ok (D.str k :: xs.1, xs.2)).bind fun x => (noX (gTup x.1)).bind fun d => Out.ok (d, x.2)) = _
  rw [ev_mCons, hC]
  show ((noX (gTup [.str k, .str a, .str b])).bind fun d => Out.ok (d, ρ3)) = _
  rw [ev_gTup3]
  rfl
theorem app_row {i : Nat} {m : Env' → Out (D × Env')} {ρ ρ1 : Env'} {l : List Rw} {r : Rw} (hi : ρ[i]? = some (.own (.lst (l.map rD)))) (hm : m ρ = .ok (rD r, ρ1)) (hj : ρ1[i]? = some (.own (.lst (l.map rD)))) (hl : l.length ≤ 1000) : sApp i m ρ = .ok (.nx, ρ1.set i (.own (.lst ((l ++ [r]).map rD)))) := by
  rw [ev_sApp, hi]
  dsimp only
  rw [hm]
  show (match ρ1[i]? with
      | some (.own (.lst xs)) => if xs.length < sizeLine then Out.ok (Fl.nx, ρ1.set i (.own (.lst (xs ++ [rD r])))) else .bad
      | _ => .bad) = _
  rw [hj]
  dsimp only
  rw [if_pos (by rw [List.length_map]; exact Nat.lt_of_le_of_lt hl (by decide)), List.map_append]
  rfl
/-! ### facts -/
theorem fact_loop (nm : List Str) (x2 x5 x7 : Cell) (hn : ∀ s ∈ nm, s ∈ canon) (ln : nm.length ≤ 100) : ∀ (items : List D) (d : D) (fs : List Rw) (c6 : Cell) (n : Nat), Tp d → (∀ r ∈ fs, ROk ["eq", "ne"] r ∧ r.a ∈ nl :: nm ∧ r.b ∈ nl :: nm) → fs.length ≤ n → n + items.length ≤ 100 →
    ∃ (d' : D) (fs' : List Rw) (c6' : Cell), Tp d' ∧ (∀ r ∈ fs', ROk ["eq", "ne"] r ∧ r.a ∈ nl :: nm ∧ r.b ∈ nl :: nm) ∧ fs'.length ≤ n + items.length ∧
      forL (tgN 6) w__law_claim_0 items [.own d, .val (sL nm), x2, .val (sL (nl :: nm)), .own (.lst (fs.map rD)), x5, c6, x7] = .ok (.nx, [.own d', .val (sL nm), x2, .val (sL (nl :: nm)), .own (.lst (fs'.map rD)), x5, c6', x7])
  | [], d, fs, c6, n, t, h, l, _ => ⟨d, fs, c6, t, h, l, rfl⟩
  | x :: items, d, fs, c6, n, t, h, l, l2 => by
    rw [List.length_cons] at l2
    have cn : ∀ s ∈ nl :: nm, s ∈ canon := fun s hs => (List.mem_cons.mp hs).elim (fun z => by rw [z]; decide +kernel) (hn s)
    obtain ⟨k, d1, hk, t1, e1⟩ := pick (ρ := [.own d, .val (sL nm), x2, .val (sL (nl :: nm)), .own (.lst (fs.map rD)), x5, .val x, x7]) (l := ["eq", "ne", "ne"]) (f := rN (rCons (rC (.str "eq")) (rCons (rC (.str "ne")) (rCons (rC (.str "ne")) rNil))) gLst) (g := rC (.int 3)) rfl rfl rfl t (by decide) (by decide)
    obtain ⟨a, d2, ha, t2, e2⟩ := pick (ρ := [.own d1, .val (sL nm), x2, .val (sL (nl :: nm)), .own (.lst (fs.map rD)), x5, .val x, x7]) (l := nl :: nm) (f := rv false 3) (g := rN (rCons (rv false 3) rNil) gLenU) rfl rfl (by rw [o_N1 (f := rv false 3) (a := sL (nl :: nm)) rfl (ev_lenU _), List.length_map]) t1 (by rw [List.length_cons]; omega) (by rw [List.length_cons]; omega)
    obtain ⟨b, d3, hb, t3, e3⟩ := pick (ρ := [.own d2, .val (sL nm), x2, .val (sL (nl :: nm)), .own (.lst (fs.map rD)), x5, .val x, x7]) (l := nl :: nm) (f := rv false 3) (g := rN (rCons (rv false 3) rNil) gLenU) rfl rfl (by rw [o_N1 (f := rv false 3) (a := sL (nl :: nm)) rfl (ev_lenU _), List.length_map]) t2 (by rw [List.length_cons]; omega) (by rw [List.length_cons]; omega)
    have hk2 : k ∈ ([("eq" : Str), "ne"] : List Str) := by
      simp only [List.mem_cons, List.not_mem_nil, or_false] at hk ⊢
      rcases hk with hk | hk | hk
      · exact .inl hk
      · exact .inr hk
      · exact .inr hk
    have s := app_row (i := 4) (l := fs) (r := ⟨k, a, b⟩) (ρ := [.own d, .val (sL nm), x2, .val (sL (nl :: nm)), .own (.lst (fs.map rD)), x5, .val x, x7]) rfl (row_e e1 e2 e3) rfl (by omega)
    obtain ⟨d', fs', c6', t', h', l', e'⟩ := fact_loop nm x2 x5 x7 hn ln items d3 (fs ++ [⟨k, a, b⟩]) (.val x) (n + 1) t3 (fun r hr => by
      rcases List.mem_append.mp hr with hr | hr
      · exact h r hr
      · rw [List.mem_singleton] at hr
        rw [hr]
        exact ⟨⟨hk2, cn a ha, cn b hb⟩, ha, hb⟩) (by rw [List.length_append]; show fs.length + 1 ≤ n + 1; omega) (by omega)
    refine ⟨d', fs', c6', t', h', by rw [List.length_cons]; omega, (for_nx (ρ1 := [.own d, .val (sL nm), x2, .val (sL (nl :: nm)), .own (.lst (fs.map rD)), x5, .val x, x7]) rfl ?_).trans e'⟩
    unfold w__law_claim_0
    exact (seq_nx s).trans rfl
/-! ### atoms -/
theorem atom_loop (nm : List Str) (x2 x4 : Cell) (hn : ∀ s ∈ nm, s ∈ canon) (n0 : 0 < nm.length) (ln : nm.length ≤ 100) : ∀ (items : List D) (d : D) (fs : List Rw) (c6 c7 : Cell) (n : Nat), Tp d → (∀ r ∈ fs, ROk ["to", "ls"] r ∧ r.a ∈ nl :: nm ∧ r.b ∈ nl :: nm) → fs.length ≤ n → n + items.length ≤ 100 →
    ∃ (d' : D) (fs' : List Rw) (c6' c7' : Cell), Tp d' ∧ (∀ r ∈ fs', ROk ["to", "ls"] r ∧ r.a ∈ nl :: nm ∧ r.b ∈ nl :: nm) ∧ fs'.length ≤ n + items.length ∧
      forL (tgN 6) w__law_claim_1 items [.own d, .val (sL nm), x2, .val (sL (nl :: nm)), x4, .own (.lst (fs.map rD)), c6, c7] = .ok (.nx, [.own d', .val (sL nm), x2, .val (sL (nl :: nm)), x4, .own (.lst (fs'.map rD)), c6', c7'])
  | [], d, fs, c6, c7, n, t, h, l, _ => ⟨d, fs, c6, c7, t, h, l, rfl⟩
  | x :: items, d, fs, c6, c7, n, t, h, l, l2 => by
    rw [List.length_cons] at l2
    have cn : ∀ s ∈ nl :: nm, s ∈ canon := fun s hs => (List.mem_cons.mp hs).elim (fun z => by rw [z]; decide +kernel) (hn s)
    obtain ⟨v, d1, ev, v0, v1, t1⟩ := draw t 12 (by decide) (by decide)
    have c1 : bMT (m2 (mCT 0 (mCons (mOf false (rC (.int 12))) mNil) m__law_draw) (mOf false (rC (.int 0))) gGt) [.own d, .val (sL nm), x2, .val (sL (nl :: nm)), x4, .own (.lst (fs.map rD)), .val x, c7] = .ok (decide (v > 0), [.own d1, .val (sL nm), x2, .val (sL (nl :: nm)), x4, .own (.lst (fs.map rD)), .val x, c7]) := by
      rw [ev_bMT, ev_m2, mct_eq (g := rC (.int 12)) (many := 12) rfl rfl ev]
      rfl
    have st : ∃ s d2, s ∈ nl :: nm ∧ Tp d2 ∧ mIf (bMT (m2 (mCT 0 (mCons (mOf false (rC (.int 12))) mNil) m__law_draw) (mOf false (rC (.int 0))) gGt)) (m2 (mOf false (rv false 3)) (m2 (mOf false (rC (.int 1))) (mCT 0 (mCons (mOf false (rN (rCons (rv false 1) rNil) gLenU)) mNil) m__law_draw) gAddU) gIxU) (mOf false (rC (.str "nil"))) [.own d, .val (sL nm), x2, .val (sL (nl :: nm)), x4, .own (.lst (fs.map rD)), .val x, c7] = .ok (.str s, [.own d2, .val (sL nm), x2, .val (sL (nl :: nm)), x4, .own (.lst (fs.map rD)), .val x, c7]) := by
      unfold mIf
      rw [c1]
      by_cases z : v > 0
      · rw [decide_eq_true z]
        obtain ⟨w, d2, ew, w0, w1, t2⟩ := draw t1 nm.length (by omega) (by omega)
        obtain ⟨s, hs, es⟩ := ix_sL (l := nl :: nm) (n := 1 + w) (by omega) (by rw [List.length_cons]; omega)
        refine ⟨s, d2, List.mem_of_getElem? hs, t2, ?_⟩
        have hg : rN (rCons (rv false 1) rNil) gLenU [.own d1, .val (sL nm), x2, .val (sL (nl :: nm)), x4, .own (.lst (fs.map rD)), .val x, c7] = .ok (.int nm.length) := by rw [o_N1 (f := rv false 1) (a := sL nm) rfl (ev_lenU _), List.length_map]
        have mc := mct_eq (ρ := [.own d1, .val (sL nm), x2, .val (sL (nl :: nm)), x4, .own (.lst (fs.map rD)), .val x, c7]) (i := 0) rfl hg ew
        have m1 : m2 (mOf false (rC (.int 1))) (mCT 0 (mCons (mOf false (rN (rCons (rv false 1) rNil) gLenU)) mNil) m__law_draw) gAddU [.own d1, .val (sL nm), x2, .val (sL (nl :: nm)), x4, .own (.lst (fs.map rD)), .val x, c7] = .ok (.int (1 + w), [.own d2, .val (sL nm), x2, .val (sL (nl :: nm)), x4, .own (.lst (fs.map rD)), .val x, c7]) := by
          rw [ev_m2, ev_mOf]
          show ((mCT 0 (mCons (mOf false (rN (rCons (rv false 1) rNil) gLenU)) mNil) m__law_draw [.own d1, .val (sL nm), x2, .val (sL (nl :: nm)), x4, .own (.lst (fs.map rD)), .val x, c7]).bind fun y => (noX (gAddU (.int 1) y.1)).bind fun d => Out.ok (d, y.2)) = _
          rw [mc]
          show ((noX (gAddU (.int 1) (.int w))).bind fun d => _) = _
          rw [addI]
          rfl
        show m2 (mOf false (rv false 3)) (m2 (mOf false (rC (.int 1))) (mCT 0 (mCons (mOf false (rN (rCons (rv false 1) rNil) gLenU)) mNil) m__law_draw) gAddU) gIxU [.own d1, .val (sL nm), x2, .val (sL (nl :: nm)), x4, .own (.lst (fs.map rD)), .val x, c7] = _
        rw [ev_m2, ev_mOf]
        show ((m2 (mOf false (rC (.int 1))) (mCT 0 (mCons (mOf false (rN (rCons (rv false 1) rNil) gLenU)) mNil) m__law_draw) gAddU [.own d1, .val (sL nm), x2, .val (sL (nl :: nm)), x4, .own (.lst (fs.map rD)), .val x, c7]).bind fun y => (noX (gIxU (sL (nl :: nm)) y.1)).bind fun d => Out.ok (d, y.2)) = _
        rw [m1]
        show ((noX (gIxU (sL (nl :: nm)) (.int (1 + w)))).bind fun d => _) = _
        rw [es]
        rfl
      · rw [decide_eq_false z]
        exact ⟨"nil", d1, List.mem_cons_self, t1, rfl⟩
    obtain ⟨a, d2, ha, t2, e2⟩ := st
    obtain ⟨k, d3, hk, t3, e3⟩ := pick (ρ := [.own d2, .val (sL nm), x2, .val (sL (nl :: nm)), x4, .own (.lst (fs.map rD)), .val x, .val (.str a)]) (l := ["to", "ls"]) (f := rN (rCons (rC (.str "to")) (rCons (rC (.str "ls")) rNil)) gLst) (g := rC (.int 2)) rfl rfl rfl t2 (by decide) (by decide)
    obtain ⟨b, d4, hb, t4, e4⟩ := pick (ρ := [.own d3, .val (sL nm), x2, .val (sL (nl :: nm)), x4, .own (.lst (fs.map rD)), .val x, .val (.str a)]) (l := nl :: nm) (f := rv false 3) (g := rN (rCons (rv false 3) rNil) gLenU) rfl rfl (by rw [o_N1 (f := rv false 3) (a := sL (nl :: nm)) rfl (ev_lenU _), List.length_map]) t3 (by rw [List.length_cons]; omega) (by rw [List.length_cons]; omega)
    have s1 := app_row (i := 5) (l := fs) (r := ⟨k, a, b⟩) (ρ := [.own d2, .val (sL nm), x2, .val (sL (nl :: nm)), x4, .own (.lst (fs.map rD)), .val x, .val (.str a)]) rfl (row_e (B := mOf false (rv false 7)) e3 rfl e4) rfl (by omega)
    have s0 : sAsg (mIf (bMT (m2 (mCT 0 (mCons (mOf false (rC (.int 12))) mNil) m__law_draw) (mOf false (rC (.int 0))) gGt)) (m2 (mOf false (rv false 3)) (m2 (mOf false (rC (.int 1))) (mCT 0 (mCons (mOf false (rN (rCons (rv false 1) rNil) gLenU)) mNil) m__law_draw) gAddU) gIxU) (mOf false (rC (.str "nil")))) (tgN 7) [.own d, .val (sL nm), x2, .val (sL (nl :: nm)), x4, .own (.lst (fs.map rD)), .val x, c7] = .ok (.nx, [.own d2, .val (sL nm), x2, .val (sL (nl :: nm)), x4, .own (.lst (fs.map rD)), .val x, .val (.str a)]) := by
      rw [ev_sAsg, e2]
      rfl
    obtain ⟨d', fs', c6', c7', t', h', l', e'⟩ := atom_loop nm x2 x4 hn n0 ln items d4 (fs ++ [⟨k, a, b⟩]) (.val x) (.val (.str a)) (n + 1) t4 (fun r hr => by
      rcases List.mem_append.mp hr with hr | hr
      · exact h r hr
      · rw [List.mem_singleton] at hr
        rw [hr]
        exact ⟨⟨hk, cn a ha, cn b hb⟩, ha, hb⟩) (by rw [List.length_append]; show fs.length + 1 ≤ n + 1; omega) (by omega)
    refine ⟨d', fs', c6', c7', t', h', by rw [List.length_cons]; omega, (for_nx (ρ1 := [.own d, .val (sL nm), x2, .val (sL (nl :: nm)), x4, .own (.lst (fs.map rD)), .val x, c7]) rfl ?_).trans e'⟩
    unfold w__law_claim_1
    exact (seq_nx s0).trans ((seq_nx s1).trans rfl)
end K04

namespace K04
open PySem PySem.Spec L2 VL
theorem addS_L {a b : List Str} (h : a.length + b.length ≤ 1000) : gAddU (sL a) (sL b) = .ok (sL (a ++ b)) := by
  show (if (a.map D.str).length + (b.map D.str).length ≤ sizeLine then Out.ok (D.lst (a.map D.str ++ b.map D.str)) else .bad) = _
  rw [if_pos (by rw [List.length_map, List.length_map]; exact Nat.le_trans h (by decide)), ← List.map_append]
  rfl
theorem five {v : Int} (h0 : 0 ≤ v) (h1 : v < 5) : ∃ n : Nat, n ≤ 2 ∧ gIxU (.lst [.int 0, .int 0, .int 1, .int 1, .int 2]) (.int v) = .ok (.int n) := by
  have : v = 0 ∨ v = 1 ∨ v = 2 ∨ v = 3 ∨ v = 4 := by omega
  rcases this with h | h | h | h | h <;> subst h
  · exact ⟨0, by decide, rfl⟩
  · exact ⟨0, by decide, rfl⟩
  · exact ⟨1, by decide, rfl⟩
  · exact ⟨1, by decide, rfl⟩
  · exact ⟨2, by decide, rfl⟩
theorem mrng {ρ ρ1 : Env'} {m : Env' → Out (D × Env')} {n : Nat} (e : m ρ = .ok (.int n, ρ1)) (h : n ≤ 100) : iMrng (mCons m mNil) gR1 ρ = .ok (rngD 0 n, ρ1) := by
  have a : mCons m mNil ρ = .ok ([.int n], ρ1) := by
    rw [ev_mCons, e]
    rfl
  rw [ev_iMrng, a, ev_ok]
  show ((noX (gR1 [.int n])).bind fun xs => Out.ok (xs, ρ1)) = _
  rw [gR1_ok (show n ≤ 100000 by omega)]
  rfl
theorem claim_ok {d : D} (t : Tp d) (nm : List Str) (hn : ∀ s ∈ nm, s ∈ canon) (n0 : 0 < nm.length) (ln : nm.length ≤ 100) (most : Nat) (hm : most ≤ 4) :
    ∃ (c : Cl) (d' : D), Tp d' ∧ COk c ∧ (∀ s ∈ tsC c, s ∈ nl :: nm) ∧ m__law_claim d [sL nm, .int most] = .ok (cD c, d') := by
  obtain ⟨v, d1, e1, v0, v1, t1⟩ := draw t 5 (by decide) (by decide)
  obtain ⟨n, n2, en⟩ := five v0 v1
  obtain ⟨d2, fs, c6, t2, hf, lf, e2⟩ := fact_loop nm (.val (.int most)) (.own (.lst [])) .emp hn ln (rngD 0 n) d1 [] .emp 0 t1 (fun r hr => nomatch hr) (Nat.le_refl _) (by rw [rngD_len]; omega)
  rw [rngD_len, Nat.zero_add] at lf
  obtain ⟨w, d3, e3, w0, w1, t3⟩ := draw t2 ((most : Int) + 1) (by omega) (by omega)
  obtain ⟨w, rfl⟩ := Int.eq_ofNat_of_zero_le w0
  obtain ⟨d4, as, c6', c7', t4, ha, la, e4⟩ := atom_loop nm (.val (.int most)) (.val (.lst (fs.map rD))) hn n0 ln (rngD 0 w) d3 [] c6 .emp 0 t3 (fun r hr => nomatch hr) (Nat.le_refl _) (by rw [rngD_len]; omega)
  rw [rngD_len, Nat.zero_add] at la
  refine ⟨⟨fs, as⟩, d4, t4, ⟨fun r hr => (hf r hr).1, fun r hr => (ha r hr).1, by show fs.length ≤ 2; omega, by show as.length ≤ 4; omega⟩, fun s hs => ?_, ?_⟩
  · obtain ⟨r, hr, e⟩ := List.mem_flatMap.mp hs
    simp only [List.mem_cons, List.not_mem_nil, or_false] at e
    rcases List.mem_append.mp hr with hr | hr
    · rcases e with rfl | rfl
      · exact (hf r hr).2.1
      · exact (hf r hr).2.2
    · rcases e with rfl | rfl
      · exact (ha r hr).2.1
      · exact (ha r hr).2.2
  · have s1 : r2 (rN (rCons (rC (.str "nil")) rNil) gLst) (rN (rCons (rv false 1) rNil) gListU) gAddU [.own d, .val (sL nm), .val (.int most), .emp, .emp, .emp, .emp, .emp] = .ok (sL (nl :: nm)) :=
      o_r2 (a := sL [nl]) rfl (o_N1 (a := sL nm) (d := sL nm) rfl rfl) (addS_L (a := [nl]) (b := nm) (by show 1 + nm.length ≤ 1000; omega))
    have m5 : m2 (mOf false (rN (rCons (rC (.int 0)) (rCons (rC (.int 0)) (rCons (rC (.int 1)) (rCons (rC (.int 1)) (rCons (rC (.int 2)) rNil))))) gLst)) (mCT 0 (mCons (mOf false (rC (.int 5))) mNil) m__law_draw) gIxU [.own d, .val (sL nm), .val (.int most), .val (sL (nl :: nm)), .own (.lst []), .own (.lst []), .emp, .emp] = .ok (.int n, [.own d1, .val (sL nm), .val (.int most), .val (sL (nl :: nm)), .own (.lst []), .own (.lst []), .emp, .emp]) := by
      have mc := mct_eq (ρ := [.own d, .val (sL nm), .val (.int most), .val (sL (nl :: nm)), .own (.lst []), .own (.lst []), .emp, .emp]) (i := 0) (g := rC (.int 5)) (many := 5) rfl rfl e1
      rw [ev_m2, ev_mOf]
      show ((mCT 0 (mCons (mOf false (rC (.int 5))) mNil) m__law_draw [.own d, .val (sL nm), .val (.int most), .val (sL (nl :: nm)), .own (.lst []), .own (.lst []), .emp, .emp]).bind fun y => (noX (gIxU (.lst [.int 0, .int 0, .int 1, .int 1, .int 2]) y.1)).bind fun d => Out.ok (d, y.2)) = _
      rw [mc]
      show ((noX (gIxU (.lst [.int 0, .int 0, .int 1, .int 1, .int 2]) (.int v))).bind fun d => _) = _
      rw [en]
      rfl
    have m6 := mct_eq (ρ := [.own d2, .val (sL nm), .val (.int most), .val (sL (nl :: nm)), .val (.lst (fs.map rD)), .own (.lst []), c6, .emp]) (i := 0) (g := r2 (rv false 2) (rC (.int 1)) gAddU) rfl (o_r2 (a := .int most) rfl (b := .int 1) rfl (addI _ _)) e3
    have b1 : b__law_claim [.own d, .val (sL nm), .val (.int most), .emp, .emp, .emp, .emp, .emp] = .ok (.ret (cD ⟨fs, as⟩), [.own d4, .val (sL nm), .val (.int most), .val (sL (nl :: nm)), .val (.lst (fs.map rD)), .val (.lst (as.map rD)), c6', c7']) := by
      unfold b__law_claim
      refine (seq_nx (o_asg s1)).trans ?_
      refine (seq_nx (ρ1 := [.own d, .val (sL nm), .val (.int most), .val (sL (nl :: nm)), .own (.lst []), .own (.lst []), .emp, .emp]) rfl).trans ?_
      refine (seq_nx ((for_eq (mrng m5 (by omega))).trans e2)).trans ?_
      rw [ev_sFrz]
      refine (seq_nx (ρ1 := [.own d4, .val (sL nm), .val (.int most), .val (sL (nl :: nm)), .val (.lst (fs.map rD)), .own (.lst (as.map rD)), c6', c7']) ((for_eq (mrng m6 (by omega))).trans e4)).trans ?_
      rw [ev_sFrz]
      exact seq_ret (o_ret (o_N2 (o_N1 (f := rv false 4) (a := .lst (fs.map rD)) (d := rowsT fs) rfl rfl) (o_N1 (f := rv false 5) (a := .lst (as.map rD)) (d := rowsT as) rfl rfl) (ev_gTup2 _ _)))
    unfold m__law_claim fnT
    show (if 3 = 3 then (b__law_claim [.own d, .val (sL nm), .val (.int most), .emp, .emp, .emp, .emp, .emp]).bind _ else _) = _
    rw [if_pos rfl, b1]
    rfl
/-! ### what the law asks -/
theorem strOk_sub {l : List Str} (h : ∀ s ∈ l, s ∈ canon) : Shp 1 (sL l) := shp_lstM fun s hs => shp_c (h s hs)
theorem isS_ok {l : List Str} (h : ∀ s ∈ l, s ∈ canon) : m__law_is [sL l, sL l] = .ok (.bl true) := by
  have g1 : gEqU (sL l) (sL l) = .ok (.bl true) := eqU_self (strOk_sub h) (by omega)
  have t : ∀ f : Env' → Out D, f [.val (sL l), .val (sL l)] = .ok (.bl false) → mT (bT f) [.val (sL l), .val (sL l)] = .ok (false, [.val (sL l), .val (sL l)]) := fun f h => o_mT (o_bT h)
  have b1 : b__law_is [.val (sL l), .val (sL l)] = .ok (.ret (.bl true), [.val (sL l), .val (sL l)]) := by
    unfold b__law_is
    refine (seq_nx ((if_no (t _ rfl)).trans rfl)).trans ?_
    refine (seq_nx ((if_no (t _ rfl)).trans rfl)).trans ?_
    refine (seq_nx ((if_no (t _ rfl)).trans rfl)).trans ?_
    refine (seq_nx ((if_no (t _ rfl)).trans rfl)).trans ?_
    refine (seq_nx ((if_no (t _ rfl)).trans rfl)).trans ?_
    exact seq_ret (o_ret (o_andb (p := true) (q := true) rfl fun _ => o_r2 (o_rv rfl) (o_rv rfl) g1))
  show (b__law_is [.val (sL l), .val (sL l)]).bind _ = _
  rw [b1]
  rfl
theorem col_lc {ρ : Env'} {j : Nat} {l : List Rw} {k : Int} (G : Rw → Str) (hG : ∀ r, gIxU (rD r) (.int k) = .ok (.str (G r))) (h4 : ρ[j]? = some (.val (rowsT l))) (hl : 6 < ρ.length) (hn : l.length ≤ 1000) : rLc (iSeq (rv false j)) [6] (tgN 6) tYs (r2 (rv false 6) (rC (.int k)) gIxU) ρ = .ok (sL (l.map G)) := by
  have := rLc_map (it := iSeq (rv false j)) (vs := [6]) (g := tgN 6) (f := r2 (rv false 6) (rC (.int k)) gIxU) (ρ := ρ) rD (fun r => D.str (G r)) l (by rw [ev_iSeq, o_rv h4]; rfl) (by omega) fun r _ => ⟨_, tgN_ok, o_r2 (wi hl) o_c (hG r)⟩
  rw [this]
  unfold sL
  rw [List.map_map]
  rfl
end K04

namespace K04
open PySem PySem.Spec L2 VL
section
variable {ρ : Env'} {c e : Cl} {v : Str}
def R1 (c : Cl) : List Rw := c.f ++ c.a
theorem R1_len (hc : COk c) : (R1 c).length ≤ 6 := by
  unfold R1
  rw [List.length_append]
  have := hc.fl
  have := hc.al
  omega
theorem rows_e (h2 : ρ[2]? = some (.val (cD c))) (hc : COk c) : r2 (r2 (rv false 2) (rC (.int 0)) gIxU) (r2 (rv false 2) (rC (.int 1)) gIxU) gAddU ρ = .ok (rowsT (R1 c)) :=
  o_r2 (cf_e h2) (ca_e h2) (addR (by have := hc.fl; have := hc.al; omega))
theorem cols_mem (l : List Rw) (x : Str) : x ∈ l.map Rw.a ++ l.map Rw.b ↔ x ∈ trm l := by
  unfold trm
  rw [List.mem_append, List.mem_map, List.mem_map, List.mem_flatMap]
  constructor
  · rintro (⟨r, hr, rfl⟩ | ⟨r, hr, rfl⟩)
    · exact ⟨r, hr, List.mem_cons_self⟩
    · exact ⟨r, hr, List.mem_cons_of_mem _ List.mem_cons_self⟩
  · rintro ⟨r, hr, h⟩
    simp only [List.mem_cons, List.not_mem_nil, or_false] at h
    rcases h with rfl | rfl
    · exact .inl ⟨r, hr, rfl⟩
    · exact .inr ⟨r, hr, rfl⟩
theorem terms_e (h4 : ρ[4]? = some (.val (rowsT (R1 c)))) (hl : 6 < ρ.length) (hc : COk c) :
    rF (rCons (r2 (rLc (iSeq (rv false 4)) [6] (tgN 6) tYs (r2 (rv false 6) (rC (.int 1)) gIxU)) (rLc (iSeq (rv false 4)) [6] (tgN 6) tYs (r2 (rv false 6) (rC (.int 2)) gIxU)) gAddU) rNil) m__law_order ρ = .ok (sL (ordS (tsC c))) := by
  have rl := R1_len hc
  have e1 := o_r2 (col_lc (ρ := ρ) (j := 4) (k := 1) Rw.a (fun _ => rfl) h4 hl (by omega)) (col_lc (ρ := ρ) (j := 4) (k := 2) Rw.b (fun _ => rfl) h4 hl (by omega)) (addS_L (by rw [List.length_map, List.length_map]; omega))
  have e2 := law_order_ok (ts := (R1 c).map Rw.a ++ (R1 c).map Rw.b) (fun s hs => hc.ts s ((cols_mem _ _).mp hs)) (by rw [List.length_append, List.length_map, List.length_map]; omega)
  have cg : ordS ((R1 c).map Rw.a ++ (R1 c).map Rw.b) = ordS (tsC c) := ordS_congr fun x => cols_mem _ _
  rw [cg] at e2
  exact o_F1 e1 e2
theorem c1_ok (h2 : ρ[2]? = some (.val (cD c))) (h5 : ρ[5]? = some (.val (sL (ordS (tsC c))))) (hl : 7 < ρ.length) (hc : COk c) :
    bOr (bNot (bT (rF (rCons (rF (rCons (rv false 2) rNil) m_terms_of) (rCons (rv false 5) rNil)) m__law_is))) (bNot (bT (rF (rCons (rF (rCons (rv false 2) rNil) m_names_of) (rCons (rLc (iSeq (rv false 5)) [7] (tgN 7) (bT (r2 (rv false 7) (rC (.str "nil")) gNeU)) (rv false 7)) rNil)) m__law_is))) ρ = .ok false := by
  have l5 : iSeq (rv false 5) ρ = .ok ((ordS (tsC c)).map .str) := o_seqL (o_rv h5)
  have e1 := fil_lc (ρ := ρ) (i := 7) (t := bT (r2 (rv false 7) (rC (.str "nil")) gNeU)) l5 (by have := ordS_len (tsC c); omega) hl fun s hs => o_bT (o_r2 (wi hl) o_c (neU_nil_c (ordS_canon s hs)))
  exact o_or (o_not (o_bT (p := true) (o_F2 (o_F1 (o_rv h2) (terms_of_ok hc)) (o_rv h5) (isS_ok ordS_canon)))) (o_not (o_bT (p := true) (o_F2 (o_F1 (o_rv h2) (names_of_ok hc)) e1 (isS_ok fun s hs => ordS_canon s ((List.mem_filter.mp hs).1)))))
theorem hid_e (h5 : ρ[5]? = some (.val (sL (ordS (tsC c))))) (hl : 7 < ρ.length) : rLc (iSeq (rv false 5)) [7] (tgN 7) (bT (r2 (r2 (rv false 7) (rC (.int 0)) gIxU) (rC (.str "H")) gEqU)) (rv false 7) ρ = .ok (sL (hS c)) :=
  fil_lc (c := hidB) (o_seqL (o_rv h5)) (by have := ordS_len (tsC c); omega) hl fun s hs => by
    obtain ⟨r, e1, e2⟩ := head_c (ordS_canon s hs)
    exact o_bT (o_r2 (o_r2 (wi hl) o_c e1) o_c e2)
theorem nums_app (a b : List Str) : nums (a ++ b) = nums a ++ nums b := List.map_append ..
theorem nums_val {c : Cl} : ∀ x ∈ nums (hS c), x = 0 ∨ x = 2 ∨ x = 5 ∨ x = 10 := fun x hx => by
  obtain ⟨s, hs, rfl⟩ := List.mem_map.mp hx
  exact numS_mem (hS_canon s hs).1 (hS_canon s hs).2
theorem c2_ok (h2 : ρ[2]? = some (.val (cD c))) (h3 : ρ[3]? = some (.val (cD e))) (h8 : ρ[8]? = some (.val (sL (hS c)))) (hl : 7 < ρ.length) (hc : COk c) (he : COk e) :
    bOr (bNot (bT (rF (rCons (rF (rCons (rv false 2) rNil) m_hidden_of) (rCons (rv false 8) rNil)) m__law_is))) (bT (r2 (rF (rCons (rN (rCons (rv false 2) (rCons (rv false 3) rNil)) gLst) rNil) m_fresh_of) (r2 (rC (.str "H")) (rN (rCons (r2 (rC (.int 1)) (rN (rCons (r2 (rN (rCons (r2 (rC (.int 0)) (rC (.int 1)) gSub) rNil) gLst) (rLc (iSeq (r2 (rv false 8) (rF (rCons (rv false 3) rNil) m_hidden_of) gAddU)) [7] (tgN 7) tYs (rN (rCons (rSl (rv false 7) (oI (some (rC (.int 1)))) (oI none) gSl) rNil) gInt)) gAddU) rNil) gMax) gAddU) rNil) gStr) gAddU) gNeU)) ρ = .ok false := by
  have l1 := hS_len c
  have l2 := hS_len e
  have nv : ∀ x ∈ nums (hS c) ++ nums (hS e), x = 0 ∨ x = 2 ∨ x = 5 ∨ x = 10 := fun x hx => (List.mem_append.mp hx).elim (nums_val x) (nums_val x)
  obtain ⟨s, u, e1, e2, e3⟩ := fresh_str (topN_cases nv)
  have f1 := fresh_of_ok hc he e1 e2
  have n1 := nums_lc (ρ := ρ) (i := 7) (o_seqL (o_r2 (o_rv h8) (o_F1 (o_rv h3) (hidden_of_ok he)) (addS_L (by omega)))) (by rw [List.length_append]; omega) hl fun s hs => (List.mem_append.mp hs).elim (hS_canon s) (hS_canon s)
  rw [nums_app] at n1
  have m1 := max_ints (maxI_neg (l := nums (hS c) ++ nums (hS e)) fun x hx => by have := nv x hx; omega)
  have a1 : gAddU (.lst [.int (-1)]) (iL (nums (hS c) ++ nums (hS e))) = .ok (.lst (((-1) :: (nums (hS c) ++ nums (hS e))).map D.int)) := by
    show (if 1 + ((nums (hS c) ++ nums (hS e)).map D.int).length ≤ sizeLine then Out.ok (D.lst ([.int (-1)] ++ (nums (hS c) ++ nums (hS e)).map D.int)) else .bad) = _
    rw [if_pos (by unfold nums; rw [List.length_map, List.length_append, List.length_map, List.length_map]; exact Nat.le_trans (show _ ≤ 17 by omega) (by decide))]
    rfl
  have g1 := o_r2 (ρ := ρ) (f := rC (.int 1)) (a := .int 1) rfl (o_N1 (o_r2 (f := rN (rCons (r2 (rC (.int 0)) (rC (.int 1)) gSub) rNil) gLst) (a := .lst [.int (-1)]) rfl n1 a1) m1) (addI _ _)
  rw [show 1 + (topN (nums (hS c) ++ nums (hS e)) - 1) = topN (nums (hS c) ++ nums (hS e)) by omega] at g1
  exact o_or (o_not (o_bT (p := true) (o_F2 (o_F1 (o_rv h2) (hidden_of_ok hc)) (o_rv h8) (isS_ok fun s hs => (hS_canon s hs).1)))) (o_bT (o_r2 (o_F1 (o_N2 (o_rv h2) (o_rv h3) (ev_gLst2 _ _)) f1) (o_r2 o_c (o_N1 g1 e1) e2) e3))
theorem moved_e (h2 : ρ[2]? = some (.val (cD c))) (h9 : ρ[9]? = some (.val (oD v))) (hc : COk c) :
    rN (rCons (rF (rCons (r2 (rv false 2) (rC (.int 0)) gIxU) (rCons (rv false 9) rNil)) m__law_moved) (rCons (rF (rCons (r2 (rv false 2) (rC (.int 1)) gIxU) (rCons (rv false 9) rNil)) m__law_moved) rNil)) gLst ρ = .ok (.lst [.lst ((c.f.map (mv v)).map rD), .lst ((c.a.map (mv v)).map rD)]) :=
  o_N2 (o_F2 (cf_e h2) (o_rv h9) (moved_ok (by have := hc.fl; omega) v)) (o_F2 (ca_e h2) (o_rv h9) (moved_ok (by have := hc.al; omega) v)) (ev_gLst2 _ _)
theorem c3_ok (h2 : ρ[2]? = some (.val (cD c))) (h3 : ρ[3]? = some (.val (cD e))) (h9 : ρ[9]? = some (.val (oD v))) (h10 : ρ[10]? = some (.val (.lst [.lst ((c.f.map (mv v)).map rD), .lst ((c.a.map (mv v)).map rD)]))) (hc : COk c) (he : COk e) (hv : v ∈ canon) :
    bOr (bT (r2 (rF (rCons (rv false 2) (rCons (rv false 9) rNil)) m_put_for) (rN (rCons (rN (rCons (r2 (rv false 10) (rC (.int 0)) gIxU) rNil) gTuple) (rCons (rN (rCons (r2 (rv false 10) (rC (.int 1)) gIxU) rNil) gTuple) rNil)) gTup) gNeU)) (bT (r2 (rF (rCons (rv false 2) (rCons (rv false 3) rNil)) m_star) (rN (rCons (r2 (r2 (rv false 2) (rC (.int 0)) gIxU) (r2 (rv false 3) (rC (.int 0)) gIxU) gAddU) (rCons (r2 (r2 (rv false 2) (rC (.int 1)) gIxU) (r2 (rv false 3) (rC (.int 1)) gIxU) gAddU) rNil)) gTup) gNeU)) ρ = .ok false := by
  have x1 : r2 (rv false 10) (rC (.int 0)) gIxU ρ = .ok (.lst ((c.f.map (mv v)).map rD)) := o_r2 (b := .int 0) (o_rv h10) rfl rfl
  have x2 : r2 (rv false 10) (rC (.int 1)) gIxU ρ = .ok (.lst ((c.a.map (mv v)).map rD)) := o_r2 (b := .int 1) (o_rv h10) rfl rfl
  have q1 := ne_cD (c := ⟨c.f.map (mv v), c.a.map (mv v)⟩) (mv_ok hv hc.f) (mv_ok hv hc.a)
  have q2 := ne_cD (c := ⟨c.f ++ e.f, c.a ++ e.a⟩) (app_ok' hc.f he.f) (app_ok' hc.a he.a)
  have h1 := addR (l := c.f) (m := e.f) (by have := hc.fl; have := he.fl; omega)
  have h2' := addR (l := c.a) (m := e.a) (by have := hc.al; have := he.al; omega)
  exact o_or (o_bT (p := false) (o_r2 (o_F2 (o_rv h2) (o_rv h9) (put_for_ok hc v)) (o_N2 (o := gTup) (o_N1 (o := gTuple) x1 (d := rowsT (c.f.map (mv v))) rfl) (o_N1 (o := gTuple) x2 (d := rowsT (c.a.map (mv v))) rfl) (ev_gTup2 _ _)) q1)) (o_bT (p := false) (o_r2 (o_F2 (o_rv h2) (o_rv h3) (star_ok hc he)) (o_N2 (o_r2 (cf_e h2) (cf_e h3) h1) (o_r2 (ca_e h2) (ca_e h3) h2') (ev_gTup2 _ _)) q2))
theorem seg_lc (h2 : ρ[2]? = some (.val (cD c))) (hl : 11 < ρ.length) (hc : COk c) :
    rLc (iRng (rCons (rN (rCons (r2 (rv false 2) (rC (.int 1)) gIxU) rNil) gLenU) rNil) gR1) [11] (tgN 11) (bT (r2 (r2 (r2 (r2 (rv false 2) (rC (.int 1)) gIxU) (rv false 11) gIxU) (rC (.int 0)) gIxU) (rC (.str "ls")) gEqU)) (rv false 11) ρ = .ok (iL (segL c.a)) := by
  have al := hc.al
  have it : iRng (rCons (rN (rCons (r2 (rv false 2) (rC (.int 1)) gIxU) rNil) gLenU) rNil) gR1 ρ = .ok ((idxR 0 c.a).map fun p => D.int p.1) := by
    have a := rng1_ok (f := rN (rCons (r2 (rv false 2) (rC (.int 1)) gIxU) rNil) gLenU) (ρ := ρ) (n := c.a.length) (by rw [o_N1 (ca_e h2) (ev_lenUT _), List.length_map]) (by omega)
    rw [a, ← idxR_rng]
    unfold rngD
    rw [List.range_eq_range']
  have := rLc_eq (it := iRng (rCons (rN (rCons (r2 (rv false 2) (rC (.int 1)) gIxU) rNil) gLenU) rNil) gR1) (vs := [11]) (g := tgN 11) (t := bT (r2 (r2 (r2 (r2 (rv false 2) (rC (.int 1)) gIxU) (rv false 11) gIxU) (rC (.int 0)) gIxU) (rC (.str "ls")) gEqU)) (f := rv false 11) (ρ := ρ) (fun p : Nat × Rw => D.int p.1) (fun p => decide (p.2.k = ("ls" : Str))) (fun p => D.int p.1) (idxR 0 c.a) it (by rw [idxR_len]; omega) fun p hp => ⟨_, tgN_ok, by
    obtain ⟨j, e1, e2⟩ := idxR_get _ _ _ hp
    have ej : p.1 = j := by omega
    have w2 : rv false 2 ((wipeE ρ [11]).set 11 (.val (.int p.1))) = .ok (cD c) := wj (by decide) h2
    have w11 : rv false 11 ((wipeE ρ [11]).set 11 (.val (.int p.1))) = .ok (.int p.1) := wi hl
    exact o_bT (o_r2 (o_r2 (o_r2 (o_r2 w2 o_c (d := rowsT c.a) rfl) w11 (ixT (by rw [ej]; exact e2))) (b := .int 0) rfl (d := .str p.2.k) rfl) o_c (ls_e (hc.a _ (List.mem_of_getElem? e2)).k)), fun _ => wi hl⟩
  rw [this]
  unfold iL segL
  rw [List.map_map]
  rfl
theorem c4_ok (h2 : ρ[2]? = some (.val (cD c))) (hl : 11 < ρ.length) (hc : COk c) :
    bOr (bT (r2 (rF (rCons (rv false 2) (rCons (rN (rCons (rC (.str "eq")) (rCons (rC (.str "x")) (rCons (rC (.str "nil")) rNil))) gTup) rNil)) m_with_fact) (rN (rCons (r2 (r2 (rv false 2) (rC (.int 0)) gIxU) (rN (rCons (rN (rCons (rC (.str "eq")) (rCons (rC (.str "x")) (rCons (rC (.str "nil")) rNil))) gTup) rNil) gTup) gAddU) (rCons (r2 (rv false 2) (rC (.int 1)) gIxU) rNil)) gTup) gNeU)) (bT (r2 (rF (rCons (rv false 2) rNil) m_segments_of) (rLc (iRng (rCons (rN (rCons (r2 (rv false 2) (rC (.int 1)) gIxU) rNil) gLenU) rNil) gR1) [11] (tgN 11) (bT (r2 (r2 (r2 (r2 (rv false 2) (rC (.int 1)) gIxU) (rv false 11) gIxU) (rC (.int 0)) gIxU) (rC (.str "ls")) gEqU)) (rv false 11)) gNeU)) ρ = .ok false := by
  have h1 := addR (l := c.f) (m := [rx]) (by have := hc.fl; show c.f.length + 1 ≤ 1000; omega)
  have q1 := ne_cD (c := ⟨c.f ++ [rx], c.a⟩) (app_ok' hc.f fun r hr => by rw [List.mem_singleton] at hr; rw [hr]; exact rx_ok) hc.a
  have q2 : gNeU (iL (segL c.a)) (iL (segL c.a)) = .ok (.bl false) := neU_self (shp_iL _) (by omega)
  exact o_or (o_bT (p := false) (o_r2 (o_F2 (o_rv h2) (b := rD rx) rfl (with_fact_ok hc)) (o_N2 (o_r2 (cf_e h2) (b := rowsT [rx]) rfl h1) (ca_e h2) (ev_gTup2 _ _)) q1)) (o_bT (p := false) (o_r2 (o_F1 (o_rv h2) (segments_ok hc)) (seg_lc h2 hl hc) q2))
theorem c5_ok {k : Int} (h2 : ρ[2]? = some (.val (cD c))) (h3 : ρ[3]? = some (.val (cD e))) (h11 : ρ[11]? = some (.val (.int k))) (hc : COk c) (he : COk e) :
    bOr (bT (r2 (rF (rCons (rv false 2) (rCons (rv false 11) rNil)) m_without_atom) (rN (rCons (r2 (rv false 2) (rC (.int 0)) gIxU) (rCons (r2 (rSl (r2 (rv false 2) (rC (.int 1)) gIxU) (oI none) (oI (some (rv false 11))) gSl) (rSl (r2 (rv false 2) (rC (.int 1)) gIxU) (oI (some (r2 (rv false 11) (rC (.int 1)) gAddU))) (oI none) gSl) gAddU) rNil)) gTup) gNeU)) (bT (r2 (rF (rCons (rv false 2) (rCons (rv false 11) (rCons (r2 (rv false 3) (rC (.int 1)) gIxU) rNil))) m_atoms_in_place) (rN (rCons (r2 (rv false 2) (rC (.int 0)) gIxU) (rCons (r2 (r2 (rSl (r2 (rv false 2) (rC (.int 1)) gIxU) (oI none) (oI (some (rv false 11))) gSl) (r2 (rv false 3) (rC (.int 1)) gIxU) gAddU) (rSl (r2 (rv false 2) (rC (.int 1)) gIxU) (oI (some (r2 (rv false 11) (rC (.int 1)) gAddU))) (oI none) gSl) gAddU) rNil)) gTup) gNeU)) ρ = .ok false := by
  have l1 := cutR_len c.a none (some k)
  have l2 := cutR_len c.a (some (k + 1)) none
  have := hc.al
  have := he.al
  have g1 := addR (l := cutR c.a none (some k)) (m := cutR c.a (some (k + 1)) none) (by omega)
  have g2 := addR (l := cutR c.a none (some k)) (m := e.a) (by omega)
  have g3 := addR (l := cutR c.a none (some k) ++ e.a) (m := cutR c.a (some (k + 1)) none) (by rw [List.length_append]; omega)
  have q1 := ne_cD (c := ⟨c.f, woA c.a k⟩) hc.f (woA_ok hc.a k)
  have q2 := ne_cD (c := ⟨c.f, inA c.a e.a k⟩) hc.f (inA_ok hc.a he.a k)
  have sa := sl_e (ρ := ρ) (ca_e h2) oI_none (oI_some (o_rv h11))
  have sb := sl_e (ρ := ρ) (ca_e h2) (lo_e h11) oI_none
  exact o_or (o_bT (p := false) (o_r2 (o_F2 (o_rv h2) (o_rv h11) (without_ok hc k)) (o_N2 (cf_e h2) (o_r2 sa sb g1) (ev_gTup2 _ _)) q1)) (o_bT (p := false) (o_r2 (o_F3 (o_rv h2) (o_rv h11) (ca_e h3) (in_place_ok hc he k)) (o_N2 (cf_e h2) (o_r2 (o_r2 sa (ca_e h3) g2) sb g3) (ev_gTup2 _ _)) q2))
theorem right_eq : gNeU (.str "right") (.str "right") = .ok (.bl false) := by kernel_rfl
theorem bad_eq : gNeU (.str "bad") (.str "bad") = .ok (.bl false) := by kernel_rfl
theorem c6_ok (h2 : ρ[2]? = some (.val (cD c))) (hc : COk c) :
    bOr (bT (r2 (rC (.str "nil")) (rC (.str "nil")) gNeU)) (bOr (bT (r2 (rC t_NEVER) (rN (rCons (rN (rCons (rN (rCons (rC (.str "ne")) (rCons (rC (.str "nil")) (rCons (rC (.str "nil")) rNil))) gTup) rNil) gTup) (rCons (rN rNil gTup) rNil)) gTup) gNeU)) (bT (r2 (rF (rCons (rv false 2) (rCons (rC .non) rNil)) m__law_checked) (rC (.str "right")) gNeU))) ρ = .ok false :=
  o_or (o_bT (o_r2 (a := .str "nil") rfl (b := .str "nil") rfl (by kernel_rfl))) (o_or (o_bT (o_r2 (a := t_NEVER) rfl (b := t_NEVER) rfl (by kernel_rfl))) (o_bT (o_r2 (o_F2 (o_rv h2) (b := .non) rfl (checked_none hc)) o_c right_eq)))
theorem c7_ok (h2 : ρ[2]? = some (.val (cD c))) (h5 : ρ[5]? = some (.val (sL (ordS (tsC c))))) (hl : 12 < ρ.length) (hc : COk c) (hn : ∀ s ∈ tsC c, s ∈ nl :: nm1) :
    bOr (bT (r2 (rF (rCons (rv false 2) (rCons (rN (rCons (rC (.str "x")) (rCons (rC (.str "y")) (rCons (rC (.str "H2")) (rCons (rC (.str "H10")) rNil)))) gLst) rNil)) m__law_checked) (rC (.str "right")) gNeU)) (bT (r2 (rF (rCons (rv false 2) (rCons (rN (rCons (rC (.str "x")) rNil) gLst) rNil)) m__law_checked) (rIf (bT (r2 (rLc (iSeq (rv false 5)) [12] (tgN 12) (bT (r2 (rv false 12) (rN (rCons (rC (.str "nil")) (rCons (rC (.str "x")) rNil)) gLst) (gInU true))) (rv false 12)) (rN rNil gLst) gEqU)) (rC (.str "right")) (rC (.str "bad"))) gNeU)) ρ = .ok false := by
  have k1 := checked_nm hc (nm := nm1) fun s hs => in1 hs
  have o1 : okN nm1 (tsC c) = true := by
    unfold okN
    rw [List.all_eq_true]
    intro s hs
    rw [Bool.or_eq_true, decide_eq_true_eq, decide_eq_true_eq]
    exact List.mem_cons.mp (hn s (ordS_mem.mp hs).2)
  rw [if_pos o1] at k1
  have k2 := checked_nm hc (nm := nm2) fun s hs => in2 hs
  have e1 := fil_lc (ρ := ρ) (i := 12) (l := ordS (tsC c)) (it := iSeq (rv false 5)) (t := bT (r2 (rv false 12) (rN (rCons (rC (.str "nil")) (rCons (rC (.str "x")) rNil)) gLst) (gInU true))) (o_seqL (o_rv h5)) (by have := ordS_len (tsC c); omega) hl fun s hs => o_bT (o_r2 (wi hl) (b := .lst [.str "nil", .str "x"]) rfl (nin2 (ordS_canon s hs)))
  have e2 : gEqU (sL ((ordS (tsC c)).filter fun s : Str => !(decide (s = "nil") || decide (s ∈ nm2)))) (.lst []) = .ok (.bl (okN nm2 (tsC c))) := by
    have z : okN nm2 (tsC c) = ((ordS (tsC c)).filter fun s : Str => !(decide (s = "nil") || decide (s ∈ nm2))).isEmpty := by
      unfold okN
      rw [Bool.eq_iff_iff, List.all_eq_true, List.isEmpty_iff, List.filter_eq_nil_iff]
      exact ⟨fun h s hs w => by rw [h s hs] at w; exact Bool.false_ne_true w, fun h s hs => by
        have := h s hs
        cases y : (decide (s = ("nil" : Str)) || decide (s ∈ nm2)) with
        | true => rfl
        | false => exact absurd (by rw [y]; rfl) this⟩
    rw [z]
    have sh : ∀ s ∈ ((ordS (tsC c)).filter fun s : Str => !(decide (s = "nil") || decide (s ∈ nm2))), s ∈ canon := fun s hs => ordS_canon s ((List.mem_filter.mp hs).1)
    generalize ((ordS (tsC c)).filter fun s : Str => !(decide (s = "nil") || decide (s ∈ nm2))) = l at sh
    have s1 := strOk_sub sh
    rw [eqU_gEq (a := sL l) (isdic_lay s1.1)]
    unfold gEq
    rw [if_pos ⟨s1.sh (by omega), by kernel_rfl⟩]
    cases l <;> rfl
  have i1 := o_if (ρ := ρ) (v := rC (.str "right")) (w := rC (.str "bad")) (o_bT (o_r2 (g := rN rNil gLst) e1 (b := .lst []) rfl e2)) (a := .str "right") rfl (b := .str "bad") rfl
  refine o_or (o_bT (o_r2 (o_F2 (o_rv h2) (b := sL nm1) rfl k1) o_c right_eq)) (o_bT (p := false) (o_r2 (o_F2 (o_rv h2) (b := sL nm2) rfl k2) i1 ?_))
  cases okN nm2 (tsC c) with
  | true => exact right_eq
  | false => exact bad_eq
end
end K04

namespace K04
open PySem PySem.Spec L2 VL
theorem mct_gen {i : Nat} {ρ : Env'} {d d' v : D} {ds : List D} {ms : Env' → Out (List D × Env')} {mf : D → List D → Out (D × D)} (hi : ρ[i]? = some (Cell.own d)) (hm : ms ρ = .ok (ds, ρ)) (e : mf d ds = .ok (v, d')) : mCT i ms mf ρ = .ok (v, ρ.set i (.own d')) := by
  rw [ev_mCT, hi]
  dsimp only
  rw [hm, ev_ok]
  dsimp only
  rw [hi]
  dsimp only
  rw [e]
  rfl
theorem len_a {ρ : Env'} {c : Cl} (h2 : ρ[2]? = some (.val (cD c))) : rN (rCons (r2 (rv false 2) (rC (.int 1)) gIxU) rNil) gLenU ρ = .ok (.int c.a.length) := by
  rw [o_N1 (o := gLenU) (ca_e h2) (ev_lenUT _), List.length_map]
theorem three {w : Int} (h0 : 0 ≤ w) (h1 : w < 3) : ∃ v ∈ canon, gIxU (.lst [.str "y", .str "nil", .str "H5"]) (.int w) = .ok (.str v) := by
  have : w = 0 ∨ w = 1 ∨ w = 2 := by omega
  rcases this with h | h | h <;> subst h
  · exact ⟨"y", by decide +kernel, rfl⟩
  · exact ⟨"nil", by decide +kernel, rfl⟩
  · exact ⟨"H5", by decide +kernel, rfl⟩
theorem large_eq : gEqU (.str "large") (.str "large") = .ok (.bl true) := by kernel_rfl
theorem bad_eq' : gEqU (.str "bad") (.str "bad") = .ok (.bl true) := by kernel_rfl
theorem right_eq' : gEqU (.str "right") (.str "right") = .ok (.bl true) := by kernel_rfl
theorem wr_e {w : Int} (h0 : 0 ≤ w) (h1 : w < 8) : ∃ d, gIxU (.lst wr) (.int w) = .ok d ∧ m__law_checked [d, .non] = .ok (.str (if w > 5 then "large" else "bad")) := by
  have : w = 0 ∨ w = 1 ∨ w = 2 ∨ w = 3 ∨ w = 4 ∨ w = 5 ∨ w = 6 ∨ w = 7 := by omega
  rcases this with h | h | h | h | h | h | h | h <;> subst h
  · exact ⟨_, rfl, wr0⟩
  · exact ⟨_, rfl, wr1⟩
  · exact ⟨_, rfl, wr2⟩
  · exact ⟨_, rfl, wr3⟩
  · exact ⟨_, rfl, wr4⟩
  · exact ⟨_, rfl, wr5⟩
  · exact ⟨_, rfl, wr6⟩
  · exact ⟨_, rfl, wr7⟩

theorem b_law_ok (ns : List Int) : ∃ ρ, b_law [.val (.lst (ns.map D.int)), .emp, .emp, .emp, .emp, .emp, .emp, .emp, .emp, .emp, .emp, .emp, .emp, .emp] = .ok (.ret (.bl true), ρ) := by
  obtain ⟨d0, e0, t0⟩ := tape_ok ns
  obtain ⟨c, d1, t1, hc, hn, e1⟩ := claim_ok t0 nm1 (by decide +kernel) (by decide) (by decide) 4 (by decide)
  obtain ⟨e, d2, t2, he, hn2, e2⟩ := claim_ok t1 ["x", "z", "H0"] (by decide +kernel) (by decide) (by decide) 3 (by decide)
  have s1 : sOwn false (rF (rCons (rv false 0) rNil) m__law_tape) 1 [.val (.lst (ns.map D.int)), .emp, .emp, .emp, .emp, .emp, .emp, .emp, .emp, .emp, .emp, .emp, .emp, .emp] = .ok (.nx, [.val (.lst (ns.map D.int)), .own d0, .emp, .emp, .emp, .emp, .emp, .emp, .emp, .emp, .emp, .emp, .emp, .emp]) := o_own (o_F1 (o_rv rfl) e0)
  have s2 : sAsg (mCT 1 (mCons (mOf false (rN (rCons (rC (.str "x")) (rCons (rC (.str "y")) (rCons (rC (.str "H2")) (rCons (rC (.str "H10")) rNil)))) gLst)) (mCons (mOf false (rC (.int 4))) mNil)) m__law_claim) (tgN 2) [.val (.lst (ns.map D.int)), .own d0, .emp, .emp, .emp, .emp, .emp, .emp, .emp, .emp, .emp, .emp, .emp, .emp] = .ok (.nx, [.val (.lst (ns.map D.int)), .own d1, .val (cD c), .emp, .emp, .emp, .emp, .emp, .emp, .emp, .emp, .emp, .emp, .emp]) := by
    have a := mct_gen (ρ := [.val (.lst (ns.map D.int)), .own d0, .emp, .emp, .emp, .emp, .emp, .emp, .emp, .emp, .emp, .emp, .emp, .emp]) (ms := mCons (mOf false (rN (rCons (rC (.str "x")) (rCons (rC (.str "y")) (rCons (rC (.str "H2")) (rCons (rC (.str "H10")) rNil)))) gLst)) (mCons (mOf false (rC (.int 4))) mNil)) (i := 1) (ds := [sL nm1, .int (4 : Nat)]) rfl rfl e1
    rw [ev_sAsg, a]
    rfl
  have s3 : sAsg (mCT 1 (mCons (mOf false (rN (rCons (rC (.str "x")) (rCons (rC (.str "z")) (rCons (rC (.str "H0")) rNil))) gLst)) (mCons (mOf false (rC (.int 3))) mNil)) m__law_claim) (tgN 3) [.val (.lst (ns.map D.int)), .own d1, .val (cD c), .emp, .emp, .emp, .emp, .emp, .emp, .emp, .emp, .emp, .emp, .emp] = .ok (.nx, [.val (.lst (ns.map D.int)), .own d2, .val (cD c), .val (cD e), .emp, .emp, .emp, .emp, .emp, .emp, .emp, .emp, .emp, .emp]) := by
    have a := mct_gen (ρ := [.val (.lst (ns.map D.int)), .own d1, .val (cD c), .emp, .emp, .emp, .emp, .emp, .emp, .emp, .emp, .emp, .emp, .emp]) (ms := mCons (mOf false (rN (rCons (rC (.str "x")) (rCons (rC (.str "z")) (rCons (rC (.str "H0")) rNil))) gLst)) (mCons (mOf false (rC (.int 3))) mNil)) (i := 1) (ds := [sL ["x", "z", "H0"], .int (3 : Nat)]) rfl rfl e2
    rw [ev_sAsg, a]
    rfl
  have s4 := o_asg (i := 4) (rows_e (ρ := [.val (.lst (ns.map D.int)), .own d2, .val (cD c), .val (cD e), .emp, .emp, .emp, .emp, .emp, .emp, .emp, .emp, .emp, .emp]) (c := c) rfl hc)
  have s5 := o_asg (i := 5) (terms_e (ρ := [.val (.lst (ns.map D.int)), .own d2, .val (cD c), .val (cD e), .val (rowsT (R1 c)), .emp, .emp, .emp, .emp, .emp, .emp, .emp, .emp, .emp]) (c := c) rfl (show 6 < 14 by decide) hc)
  have c1 := o_mT (c1_ok (ρ := [.val (.lst (ns.map D.int)), .own d2, .val (cD c), .val (cD e), .val (rowsT (R1 c)), .val (sL (ordS (tsC c))), .emp, .emp, .emp, .emp, .emp, .emp, .emp, .emp]) (c := c) rfl rfl (show 7 < 14 by decide) hc)
  have s6 := o_own (i := 8) (hid_e (ρ := [.val (.lst (ns.map D.int)), .own d2, .val (cD c), .val (cD e), .val (rowsT (R1 c)), .val (sL (ordS (tsC c))), .emp, .emp, .emp, .emp, .emp, .emp, .emp, .emp]) (c := c) rfl (show 7 < 14 by decide))
  have c2 := o_mT (c2_ok (ρ := [.val (.lst (ns.map D.int)), .own d2, .val (cD c), .val (cD e), .val (rowsT (R1 c)), .val (sL (ordS (tsC c))), .emp, .emp, .val (sL (hS c)), .emp, .emp, .emp, .emp, .emp]) (c := c) (e := e) rfl rfl rfl (show 7 < 14 by decide) hc he)
  obtain ⟨w, d3, ew, w0, w1, t3⟩ := draw t2 3 (by decide) (by decide)
  obtain ⟨v, hv, ev⟩ := three w0 w1
  have m7 : m2 (mOf false (rN (rCons (rC (.str "y")) (rCons (rC (.str "nil")) (rCons (rC (.str "H5")) rNil))) gLst)) (mCT 1 (mCons (mOf false (rC (.int 3))) mNil) m__law_draw) gIxU [.val (.lst (ns.map D.int)), .own d2, .val (cD c), .val (cD e), .val (rowsT (R1 c)), .val (sL (ordS (tsC c))), .emp, .emp, .val (sL (hS c)), .emp, .emp, .emp, .emp, .emp] = .ok (.str v, [.val (.lst (ns.map D.int)), .own d3, .val (cD c), .val (cD e), .val (rowsT (R1 c)), .val (sL (ordS (tsC c))), .emp, .emp, .val (sL (hS c)), .emp, .emp, .emp, .emp, .emp]) := by
    have mc := mct_gen (ρ := [.val (.lst (ns.map D.int)), .own d2, .val (cD c), .val (cD e), .val (rowsT (R1 c)), .val (sL (ordS (tsC c))), .emp, .emp, .val (sL (hS c)), .emp, .emp, .emp, .emp, .emp]) (ms := mCons (mOf false (rC (.int 3))) mNil) (i := 1) (ds := [.int 3]) rfl rfl ew
    rw [ev_m2, ev_mOf]
    show ((mCT 1 (mCons (mOf false (rC (.int 3))) mNil) m__law_draw [.val (.lst (ns.map D.int)), .own d2, .val (cD c), .val (cD e), .val (rowsT (R1 c)), .val (sL (ordS (tsC c))), .emp, .emp, .val (sL (hS c)), .emp, .emp, .emp, .emp, .emp]).bind fun y => (noX (gIxU (.lst [.str "y", .str "nil", .str "H5"]) y.1)).bind fun d => Out.ok (d, y.2)) = _
    rw [mc]
    show ((noX (gIxU (.lst [.str "y", .str "nil", .str "H5"]) (.int w))).bind fun d => _) = _
    rw [ev]
    rfl
  have s7 : sAsg (mDisp (mPs1 (mOf false (rC (.str "x"))) (m2 (mOf false (rN (rCons (rC (.str "y")) (rCons (rC (.str "nil")) (rCons (rC (.str "H5")) rNil))) gLst)) (mCT 1 (mCons (mOf false (rC (.int 3))) mNil) m__law_draw) gIxU) (mPs1 (mOf false (rC (.str "y"))) (mOf false (rC (.str "x"))) mPs0))) (tgN 9) [.val (.lst (ns.map D.int)), .own d2, .val (cD c), .val (cD e), .val (rowsT (R1 c)), .val (sL (ordS (tsC c))), .emp, .emp, .val (sL (hS c)), .emp, .emp, .emp, .emp, .emp] = .ok (.nx, [.val (.lst (ns.map D.int)), .own d3, .val (cD c), .val (cD e), .val (rowsT (R1 c)), .val (sL (ordS (tsC c))), .emp, .emp, .val (sL (hS c)), .val (oD v), .emp, .emp, .emp, .emp]) := by
    have a : mDisp (mPs1 (mOf false (rC (.str "x"))) (m2 (mOf false (rN (rCons (rC (.str "y")) (rCons (rC (.str "nil")) (rCons (rC (.str "H5")) rNil))) gLst)) (mCT 1 (mCons (mOf false (rC (.int 3))) mNil) m__law_draw) gIxU) (mPs1 (mOf false (rC (.str "y"))) (mOf false (rC (.str "x"))) mPs0)) [.val (.lst (ns.map D.int)), .own d2, .val (cD c), .val (cD e), .val (rowsT (R1 c)), .val (sL (ordS (tsC c))), .emp, .emp, .val (sL (hS c)), .emp, .emp, .emp, .emp, .emp] = .ok (oD v, [.val (.lst (ns.map D.int)), .own d3, .val (cD c), .val (cD e), .val (rowsT (R1 c)), .val (sL (ordS (tsC c))), .emp, .emp, .val (sL (hS c)), .emp, .emp, .emp, .emp, .emp]) := by
      unfold mDisp mPs1
      rw [ev_mOf]
      show ((((m2 (mOf false (rN (rCons (rC (.str "y")) (rCons (rC (.str "nil")) (rCons (rC (.str "H5")) rNil))) gLst)) (mCT 1 (mCons (mOf false (rC (.int 3))) mNil) m__law_draw) gIxU) [.val (.lst (ns.map D.int)), .own d2, .val (cD c), .val (cD e), .val (rowsT (R1 c)), .val (sL (ordS (tsC c))), .emp, .emp, .val (sL (hS c)), .emp, .emp, .emp, .emp, .emp]).bind fun v => ((mPs1 (mOf false (rC (.str "y"))) (mOf false (rC (.str "x"))) mPs0) v.2).bind fun r => Out.ok ((D.str "x" :: r.1.1, v.1 :: r.1.2), r.2)).bind _) = _
      rw [m7]
      rfl
    rw [ev_sAsg, a]
    rfl
  have s8 := o_asg (i := 10) (moved_e (ρ := [.val (.lst (ns.map D.int)), .own d3, .val (cD c), .val (cD e), .val (rowsT (R1 c)), .val (sL (ordS (tsC c))), .emp, .emp, .val (sL (hS c)), .val (oD v), .emp, .emp, .emp, .emp]) (c := c) (v := v) rfl rfl hc)
  have c3 := o_mT (c3_ok (ρ := [.val (.lst (ns.map D.int)), .own d3, .val (cD c), .val (cD e), .val (rowsT (R1 c)), .val (sL (ordS (tsC c))), .emp, .emp, .val (sL (hS c)), .val (oD v), .val (.lst [.lst ((c.f.map (mv v)).map rD), .lst ((c.a.map (mv v)).map rD)]), .emp, .emp, .emp]) (c := c) (e := e) (v := v) rfl rfl rfl rfl hc he hv)
  have c4 := o_mT (c4_ok (ρ := [.val (.lst (ns.map D.int)), .own d3, .val (cD c), .val (cD e), .val (rowsT (R1 c)), .val (sL (ordS (tsC c))), .emp, .emp, .val (sL (hS c)), .val (oD v), .val (.lst [.lst ((c.f.map (mv v)).map rD), .lst ((c.a.map (mv v)).map rD)]), .emp, .emp, .emp]) (c := c) rfl (show 11 < 14 by decide) hc)
  have s9 : ∃ (d4 : D) (z11 : Cell), Tp d4 ∧ (sIf (mT (bT (r2 (rN (rCons (r2 (rv false 2) (rC (.int 1)) gIxU) rNil) gLenU) (rC (.int 0)) gGt))) (sSeq (sAsg (mCT 1 (mCons (mOf false (rN (rCons (r2 (rv false 2) (rC (.int 1)) gIxU) rNil) gLenU)) mNil) m__law_draw) (tgN 11)) (sSeq (sIf (mT (bOr (bT (r2 (rF (rCons (rv false 2) (rCons (rv false 11) rNil)) m_without_atom) (rN (rCons (r2 (rv false 2) (rC (.int 0)) gIxU) (rCons (r2 (rSl (r2 (rv false 2) (rC (.int 1)) gIxU) (oI none) (oI (some (rv false 11))) gSl) (rSl (r2 (rv false 2) (rC (.int 1)) gIxU) (oI (some (r2 (rv false 11) (rC (.int 1)) gAddU))) (oI none) gSl) gAddU) rNil)) gTup) gNeU)) (bT (r2 (rF (rCons (rv false 2) (rCons (rv false 11) (rCons (r2 (rv false 3) (rC (.int 1)) gIxU) rNil))) m_atoms_in_place) (rN (rCons (r2 (rv false 2) (rC (.int 0)) gIxU) (rCons (r2 (r2 (rSl (r2 (rv false 2) (rC (.int 1)) gIxU) (oI none) (oI (some (rv false 11))) gSl) (r2 (rv false 3) (rC (.int 1)) gIxU) gAddU) (rSl (r2 (rv false 2) (rC (.int 1)) gIxU) (oI (some (r2 (rv false 11) (rC (.int 1)) gAddU))) (oI none) gSl) gAddU) rNil)) gTup) gNeU)))) (sSeq (sRet (mOf false (rC (.bl false)))) sNil) sNil) sNil)) sNil) [.val (.lst (ns.map D.int)), .own d3, .val (cD c), .val (cD e), .val (rowsT (R1 c)), .val (sL (ordS (tsC c))), .emp, .emp, .val (sL (hS c)), .val (oD v), .val (.lst [.lst ((c.f.map (mv v)).map rD), .lst ((c.a.map (mv v)).map rD)]), .emp, .emp, .emp] = .ok (.nx, [.val (.lst (ns.map D.int)), .own d4, .val (cD c), .val (cD e), .val (rowsT (R1 c)), .val (sL (ordS (tsC c))), .emp, .emp, .val (sL (hS c)), .val (oD v), .val (.lst [.lst ((c.f.map (mv v)).map rD), .lst ((c.a.map (mv v)).map rD)]), z11, .emp, .emp]) := by
    by_cases z : (c.a.length : Int) > 0
    · have tt := o_mT (o_bT (p := decide ((c.a.length : Int) > 0)) (o_r2 (ρ := [.val (.lst (ns.map D.int)), .own d3, .val (cD c), .val (cD e), .val (rowsT (R1 c)), .val (sL (ordS (tsC c))), .emp, .emp, .val (sL (hS c)), .val (oD v), .val (.lst [.lst ((c.f.map (mv v)).map rD), .lst ((c.a.map (mv v)).map rD)]), .emp, .emp, .emp]) (o := gGt) (g := rC (.int 0)) (len_a (c := c) rfl) (b := .int 0) rfl (ev_gGt _ _)))
      rw [decide_eq_true z] at tt
      obtain ⟨k, d4, ek, k0, k1, t4⟩ := draw t3 c.a.length (by omega) (by have := hc.al; omega)
      refine ⟨d4, .val (.int k), t4, (if_yes tt).trans ?_⟩
      have mc := mct_gen (ρ := [.val (.lst (ns.map D.int)), .own d3, .val (cD c), .val (cD e), .val (rowsT (R1 c)), .val (sL (ordS (tsC c))), .emp, .emp, .val (sL (hS c)), .val (oD v), .val (.lst [.lst ((c.f.map (mv v)).map rD), .lst ((c.a.map (mv v)).map rD)]), .emp, .emp, .emp]) (ms := mCons (mOf false (rN (rCons (r2 (rv false 2) (rC (.int 1)) gIxU) rNil) gLenU)) mNil) (i := 1) (ds := [.int c.a.length]) rfl (by
        rw [ev_mCons, ev_mOf, len_a (c := c) rfl]
        rfl) ek
      have sk : sAsg (mCT 1 (mCons (mOf false (rN (rCons (r2 (rv false 2) (rC (.int 1)) gIxU) rNil) gLenU)) mNil) m__law_draw) (tgN 11) [.val (.lst (ns.map D.int)), .own d3, .val (cD c), .val (cD e), .val (rowsT (R1 c)), .val (sL (ordS (tsC c))), .emp, .emp, .val (sL (hS c)), .val (oD v), .val (.lst [.lst ((c.f.map (mv v)).map rD), .lst ((c.a.map (mv v)).map rD)]), .emp, .emp, .emp] = .ok (.nx, [.val (.lst (ns.map D.int)), .own d4, .val (cD c), .val (cD e), .val (rowsT (R1 c)), .val (sL (ordS (tsC c))), .emp, .emp, .val (sL (hS c)), .val (oD v), .val (.lst [.lst ((c.f.map (mv v)).map rD), .lst ((c.a.map (mv v)).map rD)]), .val (.int k), .emp, .emp]) := by
        rw [ev_sAsg, mc]
        rfl
      have c5 := o_mT (c5_ok (ρ := [.val (.lst (ns.map D.int)), .own d4, .val (cD c), .val (cD e), .val (rowsT (R1 c)), .val (sL (ordS (tsC c))), .emp, .emp, .val (sL (hS c)), .val (oD v), .val (.lst [.lst ((c.f.map (mv v)).map rD), .lst ((c.a.map (mv v)).map rD)]), .val (.int k), .emp, .emp]) (c := c) (e := e) (k := k) rfl rfl rfl hc he)
      exact (seq_nx sk).trans ((seq_nx ((if_no c5).trans rfl)).trans rfl)
    · have tt := o_mT (o_bT (p := decide ((c.a.length : Int) > 0)) (o_r2 (ρ := [.val (.lst (ns.map D.int)), .own d3, .val (cD c), .val (cD e), .val (rowsT (R1 c)), .val (sL (ordS (tsC c))), .emp, .emp, .val (sL (hS c)), .val (oD v), .val (.lst [.lst ((c.f.map (mv v)).map rD), .lst ((c.a.map (mv v)).map rD)]), .emp, .emp, .emp]) (o := gGt) (g := rC (.int 0)) (len_a (c := c) rfl) (b := .int 0) rfl (ev_gGt _ _)))
      rw [decide_eq_false z] at tt
      exact ⟨d3, .emp, t3, (if_no tt).trans rfl⟩
  obtain ⟨d4, z11, t4, s9⟩ := s9
  have c6 := o_mT (c6_ok (ρ := [.val (.lst (ns.map D.int)), .own d4, .val (cD c), .val (cD e), .val (rowsT (R1 c)), .val (sL (ordS (tsC c))), .emp, .emp, .val (sL (hS c)), .val (oD v), .val (.lst [.lst ((c.f.map (mv v)).map rD), .lst ((c.a.map (mv v)).map rD)]), z11, .emp, .emp]) (c := c) rfl hc)
  have c7 := o_mT (c7_ok (ρ := [.val (.lst (ns.map D.int)), .own d4, .val (cD c), .val (cD e), .val (rowsT (R1 c)), .val (sL (ordS (tsC c))), .emp, .emp, .val (sL (hS c)), .val (oD v), .val (.lst [.lst ((c.f.map (mv v)).map rD), .lst ((c.a.map (mv v)).map rD)]), z11, .emp, .emp]) (c := c) rfl rfl (show 12 < 14 by decide) hc hn)
  have s10 : sAsg (mOf false (rN (rCons (rN (rCons (rN (rCons (rN (rCons (rC (.str "eq")) (rCons (rC (.str "x")) (rCons (rC (.str "X")) rNil))) gTup) rNil) gTup) (rCons (rN rNil gTup) rNil)) gTup) (rCons (rN (rCons (rN (rCons (rN (rCons (rC (.str "is")) (rCons (rC (.str "x")) (rCons (rC (.str "y")) rNil))) gTup) rNil) gTup) (rCons (rN rNil gTup) rNil)) gTup) (rCons (rN (rCons (rN rNil gTup) (rCons (rN (rCons (rN (rCons (rC (.str "to")) (rCons (rC (.str "x")) rNil)) gTup) rNil) gTup) rNil)) gTup) (rCons (rN (rCons (rN rNil gTup) (rCons (rN (rCons (rN (rCons (rC (.str "lx")) (rCons (rC (.str "x")) (rCons (rC (.str "y")) rNil))) gTup) rNil) gTup) rNil)) gTup) (rCons (rN (rCons (rN rNil gTup) rNil) gTup) (rCons (rN (rCons (rN (rCons (rN (rCons (rC (.str "eq")) (rCons (rC (.str "x")) (rCons (rC (.str "ls")) rNil))) gTup) rNil) gTup) (rCons (rN rNil gTup) rNil)) gTup) (rCons (rN (rCons (rN rNil gTup) (rCons (r2 (rN (rCons (rN (rCons (rC (.str "to")) (rCons (rC (.str "x")) (rCons (rC (.str "y")) rNil))) gTup) rNil) gTup) (rC (.int 13)) gRepT) rNil)) gTup) (rCons (rN (rCons (r2 (rN (rCons (rN (rCons (rC (.str "ne")) (rCons (rC (.str "x")) (rCons (rC (.str "y")) rNil))) gTup) rNil) gTup) (rC (.int 21)) gRepT) (rCons (rN rNil gTup) rNil)) gTup) rNil)))))))) gLst)) (tgN 13) [.val (.lst (ns.map D.int)), .own d4, .val (cD c), .val (cD e), .val (rowsT (R1 c)), .val (sL (ordS (tsC c))), .emp, .emp, .val (sL (hS c)), .val (oD v), .val (.lst [.lst ((c.f.map (mv v)).map rD), .lst ((c.a.map (mv v)).map rD)]), z11, .emp, .emp] = .ok (.nx, [.val (.lst (ns.map D.int)), .own d4, .val (cD c), .val (cD e), .val (rowsT (R1 c)), .val (sL (ordS (tsC c))), .emp, .emp, .val (sL (hS c)), .val (oD v), .val (.lst [.lst ((c.f.map (mv v)).map rD), .lst ((c.a.map (mv v)).map rD)]), z11, .emp, .val (.lst wr)]) := by
    exact o_asg (i := 13) (d := .lst wr) (by kernel_rfl)
  obtain ⟨w, d5, e5, w0, w1, t5⟩ := draw t4 8 (by decide) (by decide)
  obtain ⟨dw, e6, e7⟩ := wr_e w0 w1
  have s11 : sAsg (mCT 1 (mCons (mOf false (rC (.int 8))) mNil) m__law_draw) (tgN 11) [.val (.lst (ns.map D.int)), .own d4, .val (cD c), .val (cD e), .val (rowsT (R1 c)), .val (sL (ordS (tsC c))), .emp, .emp, .val (sL (hS c)), .val (oD v), .val (.lst [.lst ((c.f.map (mv v)).map rD), .lst ((c.a.map (mv v)).map rD)]), z11, .emp, .val (.lst wr)] = .ok (.nx, [.val (.lst (ns.map D.int)), .own d5, .val (cD c), .val (cD e), .val (rowsT (R1 c)), .val (sL (ordS (tsC c))), .emp, .emp, .val (sL (hS c)), .val (oD v), .val (.lst [.lst ((c.f.map (mv v)).map rD), .lst ((c.a.map (mv v)).map rD)]), .val (.int w), .emp, .val (.lst wr)]) := by
    have a := mct_gen (ρ := [.val (.lst (ns.map D.int)), .own d4, .val (cD c), .val (cD e), .val (rowsT (R1 c)), .val (sL (ordS (tsC c))), .emp, .emp, .val (sL (hS c)), .val (oD v), .val (.lst [.lst ((c.f.map (mv v)).map rD), .lst ((c.a.map (mv v)).map rD)]), z11, .emp, .val (.lst wr)]) (ms := mCons (mOf false (rC (.int 8))) mNil) (i := 1) (ds := [.int 8]) rfl rfl e5
    rw [ev_sAsg, a]
    rfl
  have i1 := o_if (ρ := [.val (.lst (ns.map D.int)), .val d5, .val (cD c), .val (cD e), .val (rowsT (R1 c)), .val (sL (ordS (tsC c))), .emp, .emp, .val (sL (hS c)), .val (oD v), .val (.lst [.lst ((c.f.map (mv v)).map rD), .lst ((c.a.map (mv v)).map rD)]), .val (.int w), .emp, .val (.lst wr)]) (t := bT (r2 (rv false 11) (rC (.int 5)) gGt)) (v := rC (.str "large")) (w := rC (.str "bad")) (p := decide (w > 5)) (o_bT (o_r2 (a := .int w) rfl (b := .int 5) rfl (ev_gGt _ _))) (a := .str "large") rfl (b := .str "bad") rfl
  have q1 : gEqU (.str (if w > 5 then "large" else "bad")) (if decide (w > 5) = true then D.str "large" else .str "bad") = .ok (.bl true) := by
    by_cases z : w > 5
    · rw [if_pos z, if_pos (decide_eq_true z)]
      exact large_eq
    · rw [if_neg z, if_neg (by rw [decide_eq_false z]; exact Bool.false_ne_true)]
      exact bad_eq'
  have s12 := o_ret (ρ := [.val (.lst (ns.map D.int)), .val d5, .val (cD c), .val (cD e), .val (rowsT (R1 c)), .val (sL (ordS (tsC c))), .emp, .emp, .val (sL (hS c)), .val (oD v), .val (.lst [.lst ((c.f.map (mv v)).map rD), .lst ((c.a.map (mv v)).map rD)]), .val (.int w), .emp, .val (.lst wr)]) (o_andb (p := true) (q := true) (o_r2 (o := gEqU) (o_F2 (o := m__law_checked) (o_r2 (o := gIxU) (f := rv false 13) (a := .lst wr) rfl (g := rv false 11) (b := .int w) rfl e6) (g := rC .non) (b := .non) rfl e7) i1 q1) fun _ => o_r2 (o := gEqU) (o_F2 (o := m__law_checked) (f := rN (rCons (r2 (rN (rCons (rN (rCons (rC (.str "ne")) (rCons (rC (.str "x")) (rCons (rC (.str "y")) rNil))) gTup) rNil) gTup) (rC (.int 20)) gRepT) (rCons (r2 (rN (rCons (rN (rCons (rC (.str "to")) (rCons (rC (.str "x")) (rCons (rC (.str "y")) rNil))) gTup) rNil) gTup) (rC (.int 12)) gRepT) rNil)) gTup) (a := .tup [.tup (List.replicate 20 (R3 "ne" "x" "y")), .tup (List.replicate 12 (R3 "to" "x" "y"))]) (by kernel_rfl) (g := rC .non) (b := .non) rfl wr8) (g := rC (.str "right")) (b := .str "right") rfl right_eq')
  refine ⟨[.val (.lst (ns.map D.int)), .val d5, .val (cD c), .val (cD e), .val (rowsT (R1 c)), .val (sL (ordS (tsC c))), .emp, .emp, .val (sL (hS c)), .val (oD v), .val (.lst [.lst ((c.f.map (mv v)).map rD), .lst ((c.a.map (mv v)).map rD)]), .val (.int w), .emp, .val (.lst wr)], ?_⟩
  unfold b_law
  refine (seq_nx s1).trans ?_
  refine (seq_nx s2).trans ?_
  refine (seq_nx s3).trans ?_
  refine (seq_nx s4).trans ?_
  refine (seq_nx s5).trans ?_
  refine (seq_nx ((if_no c1).trans rfl)).trans ?_
  refine (seq_nx s6).trans ?_
  rw [ev_sFrz]
  refine (seq_nx ((if_no c2).trans rfl)).trans ?_
  refine (seq_nx s7).trans ?_
  refine (seq_nx s8).trans ?_
  refine (seq_nx ((if_no c3).trans rfl)).trans ?_
  refine (seq_nx ((if_no c4).trans rfl)).trans ?_
  refine (seq_nx s9).trans ?_
  refine (seq_nx ((if_no c6).trans rfl)).trans ?_
  refine (seq_nx ((if_no c7).trans rfl)).trans ?_
  refine (seq_nx s10).trans ?_
  refine (seq_nx s11).trans ?_
  rw [ev_sFrz]
  exact seq_ret s12
theorem law_ok (ns : List Int) : m_law [.lst (ns.map D.int)] = .ok (.bl true) := by
  obtain ⟨ρ, e⟩ := b_law_ok ns
  unfold m_law
  show (b_law [.val (.lst (ns.map D.int)), .emp, .emp, .emp, .emp, .emp, .emp, .emp, .emp, .emp, .emp, .emp, .emp, .emp]).bind _ = _
  rw [e]
  rfl
end K04

namespace K04
open PySem PySem.Spec L2 VL
def topS (i : Nat) : Stmt := PySem.Challenge.pw_strayless_k04_claims.main.body.getD i (.Pass ⟨0, 0, 0, 0⟩)
/-- what the top has written -/
structure Tk (K : Fr') (mg : MG) : Prop where
  g_is_name : mg "is_name" = some (.ref (He.ga K "is_name"))
  f_is_name : ∃ fd, FunD K "is_name" "is_name" (defArgs (topS 13)) (defBody (topS 13)) (defScope (topS 13)) [] [] (He.ga K "is_name") fd
  g_is_hidden : mg "is_hidden" = some (.ref (He.ga K "is_hidden"))
  f_is_hidden : ∃ fd, FunD K "is_hidden" "is_hidden" (defArgs (topS 14)) (defBody (topS 14)) (defScope (topS 14)) [] [] (He.ga K "is_hidden") fd
  g_is_term : mg "is_term" = some (.ref (He.ga K "is_term"))
  f_is_term : ∃ fd, FunD K "is_term" "is_term" (defArgs (topS 15)) (defBody (topS 15)) (defScope (topS 15)) [] [] (He.ga K "is_term") fd
  g_order_of : mg "order_of" = some (.ref (He.ga K "order_of"))
  f_order_of : ∃ fd, FunD K "order_of" "order_of" (defArgs (topS 16)) (defBody (topS 16)) (defScope (topS 16)) [] [] (He.ga K "order_of") fd
  g_in_order : mg "in_order" = some (.ref (He.ga K "in_order"))
  f_in_order : ∃ fd, FunD K "in_order" "in_order" (defArgs (topS 17)) (defBody (topS 17)) (defScope (topS 17)) [] [] (He.ga K "in_order") fd
  g_check_claim : mg "check_claim" = some (.ref (He.ga K "check_claim"))
  f_check_claim : ∃ fd, FunD K "check_claim" "check_claim" (defArgs (topS 18)) (defBody (topS 18)) (defScope (topS 18)) [] [] (He.ga K "check_claim") fd
  g_check_over : mg "check_over" = some (.ref (He.ga K "check_over"))
  f_check_over : ∃ fd, FunD K "check_over" "check_over" (defArgs (topS 19)) (defBody (topS 19)) (defScope (topS 19)) [] [] (He.ga K "check_over") fd
  g_terms_of : mg "terms_of" = some (.ref (He.ga K "terms_of"))
  f_terms_of : ∃ fd, FunD K "terms_of" "terms_of" (defArgs (topS 20)) (defBody (topS 20)) (defScope (topS 20)) [] [] (He.ga K "terms_of") fd
  g_names_of : mg "names_of" = some (.ref (He.ga K "names_of"))
  f_names_of : ∃ fd, FunD K "names_of" "names_of" (defArgs (topS 21)) (defBody (topS 21)) (defScope (topS 21)) [] [] (He.ga K "names_of") fd
  g_hidden_of : mg "hidden_of" = some (.ref (He.ga K "hidden_of"))
  f_hidden_of : ∃ fd, FunD K "hidden_of" "hidden_of" (defArgs (topS 22)) (defBody (topS 22)) (defScope (topS 22)) [] [] (He.ga K "hidden_of") fd
  g_fresh_of : mg "fresh_of" = some (.ref (He.ga K "fresh_of"))
  f_fresh_of : ∃ fd, FunD K "fresh_of" "fresh_of" (defArgs (topS 23)) (defBody (topS 23)) (defScope (topS 23)) [] [] (He.ga K "fresh_of") fd
  g_row_put_for : mg "row_put_for" = some (.ref (He.ga K "row_put_for"))
  f_row_put_for : ∃ fd, FunD K "row_put_for" "row_put_for" (defArgs (topS 24)) (defBody (topS 24)) (defScope (topS 24)) [] [] (He.ga K "row_put_for") fd
  g_put_for : mg "put_for" = some (.ref (He.ga K "put_for"))
  f_put_for : ∃ fd, FunD K "put_for" "put_for" (defArgs (topS 25)) (defBody (topS 25)) (defScope (topS 25)) [] [] (He.ga K "put_for") fd
  g_star : mg "star" = some (.ref (He.ga K "star"))
  f_star : ∃ fd, FunD K "star" "star" (defArgs (topS 26)) (defBody (topS 26)) (defScope (topS 26)) [] [] (He.ga K "star") fd
  g_with_fact : mg "with_fact" = some (.ref (He.ga K "with_fact"))
  f_with_fact : ∃ fd, FunD K "with_fact" "with_fact" (defArgs (topS 27)) (defBody (topS 27)) (defScope (topS 27)) [] [] (He.ga K "with_fact") fd
  g_without_atom : mg "without_atom" = some (.ref (He.ga K "without_atom"))
  f_without_atom : ∃ fd, FunD K "without_atom" "without_atom" (defArgs (topS 28)) (defBody (topS 28)) (defScope (topS 28)) [] [] (He.ga K "without_atom") fd
  g_atoms_in_place : mg "atoms_in_place" = some (.ref (He.ga K "atoms_in_place"))
  f_atoms_in_place : ∃ fd, FunD K "atoms_in_place" "atoms_in_place" (defArgs (topS 29)) (defBody (topS 29)) (defScope (topS 29)) [] [] (He.ga K "atoms_in_place") fd
  g_segments_of : mg "segments_of" = some (.ref (He.ga K "segments_of"))
  f_segments_of : ∃ fd, FunD K "segments_of" "segments_of" (defArgs (topS 30)) (defBody (topS 30)) (defScope (topS 30)) [] [] (He.ga K "segments_of") fd
  g__law_is : mg "_law_is" = some (.ref (He.ga K "_law_is"))
  f__law_is : ∃ fd, FunD K "_law_is" "_law_is" (defArgs (topS 32)) (defBody (topS 32)) (defScope (topS 32)) [] [] (He.ga K "_law_is") fd
  g__law_draw : mg "_law_draw" = some (.ref (He.ga K "_law_draw"))
  f__law_draw : ∃ fd, FunD K "_law_draw" "_law_draw" (defArgs (topS 33)) (defBody (topS 33)) (defScope (topS 33)) [] [] (He.ga K "_law_draw") fd
  g__law_tape : mg "_law_tape" = some (.ref (He.ga K "_law_tape"))
  f__law_tape : ∃ fd, FunD K "_law_tape" "_law_tape" (defArgs (topS 34)) (defBody (topS 34)) (defScope (topS 34)) [] [] (He.ga K "_law_tape") fd
  g__law_claim : mg "_law_claim" = some (.ref (He.ga K "_law_claim"))
  f__law_claim : ∃ fd, FunD K "_law_claim" "_law_claim" (defArgs (topS 35)) (defBody (topS 35)) (defScope (topS 35)) [] [] (He.ga K "_law_claim") fd
  g__law_checked : mg "_law_checked" = some (.ref (He.ga K "_law_checked"))
  f__law_checked : ∃ fd, FunD K "_law_checked" "_law_checked" (defArgs (topS 36)) (defBody (topS 36)) (defScope (topS 36)) [] [] (He.ga K "_law_checked") fd
  g__law_key : mg "_law_key" = some (.ref (He.ga K "_law_key"))
  f__law_key : ∃ fd, FunD K "_law_key" "_law_key" (defArgs (topS 37)) (defBody (topS 37)) (defScope (topS 37)) [] [] (He.ga K "_law_key") fd
  g__law_order : mg "_law_order" = some (.ref (He.ga K "_law_order"))
  f__law_order : ∃ fd, FunD K "_law_order" "_law_order" (defArgs (topS 38)) (defBody (topS 38)) (defScope (topS 38)) [] [] (He.ga K "_law_order") fd
  g__law_moved : mg "_law_moved" = some (.ref (He.ga K "_law_moved"))
  f__law_moved : ∃ fd, FunD K "_law_moved" "_law_moved" (defArgs (topS 39)) (defBody (topS 39)) (defScope (topS 39)) [] [] (He.ga K "_law_moved") fd
  g_law : mg "law" = some (.ref (He.ga K "law"))
  f_law : ∃ fd, FunD K "law" "law" (defArgs (topS 40)) (defBody (topS 40)) (defScope (topS 40)) [] [] (He.ga K "law") fd
  n_all : mg "all" = none
  n_bool : mg "bool" = none
  n_enumerate : mg "enumerate" = none
  n_int : mg "int" = none
  n_isinstance : mg "isinstance" = none
  n_len : mg "len" = none
  n_list : mg "list" = none
  n_max : mg "max" = none
  n_range : mg "range" = none
  n_set : mg "set" = none
  n_sorted : mg "sorted" = none
  n_str : mg "str" = none
  n_tuple : mg "tuple" = none
  c_ATOMS_MOST : ∃ t, mg "ATOMS_MOST" = some (.int 12 t)
  c_DIGITS : ∃ t, mg "DIGITS" = some (.str "0123456789" t)
  c_FACTS_MOST : ∃ t, mg "FACTS_MOST" = some (.int 20 t)
  c_NAME_MOST : ∃ t, mg "NAME_MOST" = some (.int 12 t)
  c_NEVER : mg "NEVER" = some (.ref (He.ga K "NEVER"))
  t_NEVER : conB K ("NEVER", t_NEVER) = true
  c_NIL : ∃ t, mg "NIL" = some (.str "nil" t)
  c_RESERVED : mg "RESERVED" = some (.ref (He.ga K "RESERVED"))
  t_RESERVED : conB K ("RESERVED", t_RESERVED) = true
  c_SMALL : ∃ t, mg "SMALL" = some (.str "abcdefghijklmnopqrstuvwxyz" t)
  x_BadClaim : ExcC K mg "BadClaim"
  x_TooLarge : ExcC K mg "TooLarge"
  h_BadClaim : ∀ p ∈ T_BadClaim, PySem.W.exmOne K (.ref (He.ga K p.1)) (.ref (He.ga K "BadClaim")) = some p.2 ∧ mg p.1 = some (.ref (He.ga K p.1))
  h_TooLarge : ∀ p ∈ T_TooLarge, PySem.W.exmOne K (.ref (He.ga K p.1)) (.ref (He.ga K "TooLarge")) = some p.2 ∧ mg p.1 = some (.ref (He.ga K p.1))
/-! ### is_name -/
abbrev s_is_name : Stmt := topS 13
abbrev NN_is_name : List Str := ["word", "sign"]
theorem sc_is_name : FnScope ["word", "sign"] ["word"] (defScope s_is_name) := ⟨rfl, rfl, rfl, by decide +kernel, rfl, by decide +kernel, by decide +kernel⟩
theorem ok_is_name {P : Program} {w : World} {K : Fr'} {mg : MG} {base : Heap} (T : Tk K mg) : OkF P w K mg base 1 "is_name" ["word"] m_is_name := by
  obtain ⟨fd, F⟩ := T.f_is_name
  refine ⟨T.g_is_name, F.kp, fd, fnD_F F sc_is_name fun cdv A outer s H E hr => ?_, F.bindsN fun _ _ _ _ _ _ us hl => match us, hl with | [_], _ => rfl⟩
  have nd : List.Nodup (["word", "sign"] : List Str) := sc_is_name.nd
  have tk0 : Takes (cxOf (L2.CX P w) P w K mg base ["word", "sign"] "is_name" (defScope s_is_name) (He.ga K "is_name") cdv A outer s H E) (WE' E) := takes_of rfl rfl rfl rfl
  have tk := TK.of tk0
  have po : PassesOwn (model P w) (cxOf (L2.CX P w) P w K mg base ["word", "sign"] "is_name" (defScope s_is_name) (He.ga K "is_name") cdv A outer s H E).A (cxOf (L2.CX P w) P w K mg base ["word", "sign"] "is_name" (defScope s_is_name) (He.ga K "is_name") cdv A outer s H E).env (cxOf (L2.CX P w) P w K mg base ["word", "sign"] "is_name" (defScope s_is_name) (He.ga K "is_name") cdv A outer s H E).xe := passes_of rfl
  exact (SS.cons (S1.ifS (SRT.m (SRW.t (SRW.or (SRT.not (SRT.chain op_le p_le op_le p_le SR.int (SR.callB (cr_lenU) p_lenU (by rfl) T.n_len (by decide +kernel) (SRs.cons (SR.var 0) SRs.nil)) (SR.gInt T.c_NAME_MOST))) (SRW.or (SRT.cmp (b := false) (op_inU (hu6 hr)) p_inU (SR.var 0) (SR.gCon T.c_RESERVED T.t_RESERVED)) (SRW.or1 (SRT.cmp (b := false) (op_notInU (hu6 hr)) p_inU (SR.ixU (hu6 hr) (SR.var 0) SR.int) (SR.gStr T.c_SMALL))))))) (SS.cons (S1.ret (SR.m SR.bl))
      SS.nil) SS.nil)
      (SS.cons (S1.ret (SR.m (SR.callB (cr_all (by rfl)) p_all (by rfl) T.n_all (by decide +kernel) (SRs.cons (SO.sr (SO.lc (by rfl) nd (SI.seq (SR.var 0)) (blkOk_by (own := [("sign", 1)]) (by kernel_rfl)) (fun _ _ _ _ _ => (SG.name 1 nd)) (fun _ _ _ _ _ => STs.nil) (fun _ _ _ _ _ => (SR.cmp (op_inU (hu6 hr)) p_inU (SR.var 1) (SR.bin op_addU p_addU (SR.gStr T.c_SMALL) (SR.gStr T.c_DIGITS)))))) SRs.nil))))
      SS.nil))
/-! ### is_hidden -/
abbrev s_is_hidden : Stmt := topS 14
abbrev NN_is_hidden : List Str := ["word", "rest", "sign"]
theorem sc_is_hidden : FnScope ["word", "rest", "sign"] ["word"] (defScope s_is_hidden) := ⟨rfl, rfl, rfl, by decide +kernel, rfl, by decide +kernel, by decide +kernel⟩
theorem ok_is_hidden {P : Program} {w : World} {K : Fr'} {mg : MG} {base : Heap} (T : Tk K mg) : OkF P w K mg base 1 "is_hidden" ["word"] m_is_hidden := by
  obtain ⟨fd, F⟩ := T.f_is_hidden
  refine ⟨T.g_is_hidden, F.kp, fd, fnD_F F sc_is_hidden fun cdv A outer s H E hr => ?_, F.bindsN fun _ _ _ _ _ _ us hl => match us, hl with | [_], _ => rfl⟩
  have nd : List.Nodup (["word", "rest", "sign"] : List Str) := sc_is_hidden.nd
  have tk0 : Takes (cxOf (L2.CX P w) P w K mg base ["word", "rest", "sign"] "is_hidden" (defScope s_is_hidden) (He.ga K "is_hidden") cdv A outer s H E) (WE' E) := takes_of rfl rfl rfl rfl
  have tk := TK.of tk0
  have po : PassesOwn (model P w) (cxOf (L2.CX P w) P w K mg base ["word", "rest", "sign"] "is_hidden" (defScope s_is_hidden) (He.ga K "is_hidden") cdv A outer s H E).A (cxOf (L2.CX P w) P w K mg base ["word", "rest", "sign"] "is_hidden" (defScope s_is_hidden) (He.ga K "is_hidden") cdv A outer s H E).env (cxOf (L2.CX P w) P w K mg base ["word", "rest", "sign"] "is_hidden" (defScope s_is_hidden) (He.ga K "is_hidden") cdv A outer s H E).xe := passes_of rfl
  exact (SS.cons (S1.set 1 nd (SR.m (SR.sl (SR.var 0) (SRo.some SR.int) SRo.none)))
      (SS.cons (S1.ifS (SRT.m (SRW.t (SRW.or (SRT.cmp (b := false) (op_neU (hu2 hr)) p_neU (SR.sl (SR.var 0) SRo.none (SRo.some SR.int)) SR.str) (SRW.or (SRT.not (SRT.chain op_le p_le op_lt p_lt SR.int (SR.callB (cr_lenU) p_lenU (by rfl) T.n_len (by decide +kernel) (SRs.cons (SR.var 1) SRs.nil)) (SR.gInt T.c_NAME_MOST))) (SRW.or1 (SRT.not (SRT.val (SR.callB (cr_all (by rfl)) p_all (by rfl) T.n_all (by decide +kernel) (SRs.cons (SO.sr (SO.lc (by rfl) nd (SI.seq (SR.var 1)) (blkOk_by (own := [("sign", 2)]) (by kernel_rfl)) (fun _ _ _ _ _ => (SG.name 2 nd)) (fun _ _ _ _ _ => STs.nil) (fun _ _ _ _ _ => (SR.cmp (op_inU (hu6 hr)) p_inU (SR.var 2) (SR.gStr T.c_DIGITS))))) SRs.nil))))))))) (SS.cons (S1.ret (SR.m SR.bl))
      SS.nil) SS.nil)
      (SS.cons (S1.ret (SR.m (SR.or (SR.cmp (op_eqU (hu2 hr)) p_eqU (SR.var 1) SR.str) (SR.one (SR.cmp (op_neU (hu2 hr)) p_neU (SR.ixU (hu6 hr) (SR.var 1) SR.int) SR.str)))))
      SS.nil)))
/-! ### row_put_for -/
abbrev s_row_put_for : Stmt := topS 24
abbrev NN_row_put_for : List Str := ["row", "terms"]
theorem sc_row_put_for : FnScope ["row", "terms"] ["row", "terms"] (defScope s_row_put_for) := ⟨rfl, rfl, rfl, by decide +kernel, rfl, by decide +kernel, by decide +kernel⟩
theorem ok_row_put_for {P : Program} {w : World} {K : Fr'} {mg : MG} {base : Heap} (T : Tk K mg) : OkF P w K mg base 1 "row_put_for" ["row", "terms"] m_row_put_for := by
  obtain ⟨fd, F⟩ := T.f_row_put_for
  refine ⟨T.g_row_put_for, F.kp, fd, fnD_F F sc_row_put_for fun cdv A outer s H E hr => ?_, F.bindsN fun _ _ _ _ _ _ us hl => match us, hl with | [_, _], _ => rfl⟩
  have nd : List.Nodup (["row", "terms"] : List Str) := sc_row_put_for.nd
  have tk0 : Takes (cxOf (L2.CX P w) P w K mg base ["row", "terms"] "row_put_for" (defScope s_row_put_for) (He.ga K "row_put_for") cdv A outer s H E) (WE' E) := takes_of rfl rfl rfl rfl
  have tk := TK.of tk0
  have po : PassesOwn (model P w) (cxOf (L2.CX P w) P w K mg base ["row", "terms"] "row_put_for" (defScope s_row_put_for) (He.ga K "row_put_for") cdv A outer s H E).A (cxOf (L2.CX P w) P w K mg base ["row", "terms"] "row_put_for" (defScope s_row_put_for) (He.ga K "row_put_for") cdv A outer s H E).env (cxOf (L2.CX P w) P w K mg base ["row", "terms"] "row_put_for" (defScope s_row_put_for) (He.ga K "row_put_for") cdv A outer s H E).xe := passes_of rfl
  exact (SS.cons (S1.ret (SR.m (SR.tup (SRs.cons (SR.ixU (hu6 hr) (SR.var 0) SR.int) (SRs.cons (SR.get2 (hu1 (hu6 hr)) (SR.var 1) (SR.ixU (hu6 hr) (SR.var 0) SR.int) (SR.ixU (hu6 hr) (SR.var 0) SR.int) ⟨by rfl, by rfl, by rfl, by rfl⟩) (SRs.cons (SR.get2 (hu1 (hu6 hr)) (SR.var 1) (SR.ixU (hu6 hr) (SR.var 0) SR.int) (SR.ixU (hu6 hr) (SR.var 0) SR.int) ⟨by rfl, by rfl, by rfl, by rfl⟩) SRs.nil))))))
      SS.nil)
/-! ### star -/
abbrev s_star : Stmt := topS 26
abbrev NN_star : List Str := ["first", "second"]
theorem sc_star : FnScope ["first", "second"] ["first", "second"] (defScope s_star) := ⟨rfl, rfl, rfl, by decide +kernel, rfl, by decide +kernel, by decide +kernel⟩
theorem ok_star {P : Program} {w : World} {K : Fr'} {mg : MG} {base : Heap} (T : Tk K mg) : OkF P w K mg base 1 "star" ["first", "second"] m_star := by
  obtain ⟨fd, F⟩ := T.f_star
  refine ⟨T.g_star, F.kp, fd, fnD_F F sc_star fun cdv A outer s H E hr => ?_, F.bindsN fun _ _ _ _ _ _ us hl => match us, hl with | [_, _], _ => rfl⟩
  have nd : List.Nodup (["first", "second"] : List Str) := sc_star.nd
  have tk0 : Takes (cxOf (L2.CX P w) P w K mg base ["first", "second"] "star" (defScope s_star) (He.ga K "star") cdv A outer s H E) (WE' E) := takes_of rfl rfl rfl rfl
  have tk := TK.of tk0
  have po : PassesOwn (model P w) (cxOf (L2.CX P w) P w K mg base ["first", "second"] "star" (defScope s_star) (He.ga K "star") cdv A outer s H E).A (cxOf (L2.CX P w) P w K mg base ["first", "second"] "star" (defScope s_star) (He.ga K "star") cdv A outer s H E).env (cxOf (L2.CX P w) P w K mg base ["first", "second"] "star" (defScope s_star) (He.ga K "star") cdv A outer s H E).xe := passes_of rfl
  exact (SS.cons (S1.ret (SR.m (SR.tup (SRs.cons (SR.bin op_addU p_addU (SR.callTy (call_tuple_of) p_tuple (by rfl) T.n_tuple (by decide +kernel) (SRs.cons (SR.ixU (hu6 hr) (SR.var 0) SR.int) SRs.nil)) (SR.callTy (call_tuple_of) p_tuple (by rfl) T.n_tuple (by decide +kernel) (SRs.cons (SR.ixU (hu6 hr) (SR.var 1) SR.int) SRs.nil))) (SRs.cons (SR.bin op_addU p_addU (SR.callTy (call_tuple_of) p_tuple (by rfl) T.n_tuple (by decide +kernel) (SRs.cons (SR.ixU (hu6 hr) (SR.var 0) SR.int) SRs.nil)) (SR.callTy (call_tuple_of) p_tuple (by rfl) T.n_tuple (by decide +kernel) (SRs.cons (SR.ixU (hu6 hr) (SR.var 1) SR.int) SRs.nil))) SRs.nil)))))
      SS.nil)
/-! ### with_fact -/
abbrev s_with_fact : Stmt := topS 27
abbrev NN_with_fact : List Str := ["claim", "fact"]
theorem sc_with_fact : FnScope ["claim", "fact"] ["claim", "fact"] (defScope s_with_fact) := ⟨rfl, rfl, rfl, by decide +kernel, rfl, by decide +kernel, by decide +kernel⟩
theorem ok_with_fact {P : Program} {w : World} {K : Fr'} {mg : MG} {base : Heap} (T : Tk K mg) : OkF P w K mg base 1 "with_fact" ["claim", "fact"] m_with_fact := by
  obtain ⟨fd, F⟩ := T.f_with_fact
  refine ⟨T.g_with_fact, F.kp, fd, fnD_F F sc_with_fact fun cdv A outer s H E hr => ?_, F.bindsN fun _ _ _ _ _ _ us hl => match us, hl with | [_, _], _ => rfl⟩
  have nd : List.Nodup (["claim", "fact"] : List Str) := sc_with_fact.nd
  have tk0 : Takes (cxOf (L2.CX P w) P w K mg base ["claim", "fact"] "with_fact" (defScope s_with_fact) (He.ga K "with_fact") cdv A outer s H E) (WE' E) := takes_of rfl rfl rfl rfl
  have tk := TK.of tk0
  have po : PassesOwn (model P w) (cxOf (L2.CX P w) P w K mg base ["claim", "fact"] "with_fact" (defScope s_with_fact) (He.ga K "with_fact") cdv A outer s H E).A (cxOf (L2.CX P w) P w K mg base ["claim", "fact"] "with_fact" (defScope s_with_fact) (He.ga K "with_fact") cdv A outer s H E).env (cxOf (L2.CX P w) P w K mg base ["claim", "fact"] "with_fact" (defScope s_with_fact) (He.ga K "with_fact") cdv A outer s H E).xe := passes_of rfl
  exact (SS.cons (S1.ret (SR.m (SR.tup (SRs.cons (SR.bin op_addU p_addU (SR.callTy (call_tuple_of) p_tuple (by rfl) T.n_tuple (by decide +kernel) (SRs.cons (SR.ixU (hu6 hr) (SR.var 0) SR.int) SRs.nil)) (SR.tup (SRs.cons (SR.var 1) SRs.nil))) (SRs.cons (SR.callTy (call_tuple_of) p_tuple (by rfl) T.n_tuple (by decide +kernel) (SRs.cons (SR.ixU (hu6 hr) (SR.var 0) SR.int) SRs.nil)) SRs.nil)))))
      SS.nil)
/-! ### without_atom -/
abbrev s_without_atom : Stmt := topS 28
abbrev NN_without_atom : List Str := ["claim", "place", "atoms"]
theorem sc_without_atom : FnScope ["claim", "place", "atoms"] ["claim", "place"] (defScope s_without_atom) := ⟨rfl, rfl, rfl, by decide +kernel, rfl, by decide +kernel, by decide +kernel⟩
theorem ok_without_atom {P : Program} {w : World} {K : Fr'} {mg : MG} {base : Heap} (T : Tk K mg) : OkF P w K mg base 1 "without_atom" ["claim", "place"] m_without_atom := by
  obtain ⟨fd, F⟩ := T.f_without_atom
  refine ⟨T.g_without_atom, F.kp, fd, fnD_F F sc_without_atom fun cdv A outer s H E hr => ?_, F.bindsN fun _ _ _ _ _ _ us hl => match us, hl with | [_, _], _ => rfl⟩
  have nd : List.Nodup (["claim", "place", "atoms"] : List Str) := sc_without_atom.nd
  have tk0 : Takes (cxOf (L2.CX P w) P w K mg base ["claim", "place", "atoms"] "without_atom" (defScope s_without_atom) (He.ga K "without_atom") cdv A outer s H E) (WE' E) := takes_of rfl rfl rfl rfl
  have tk := TK.of tk0
  have po : PassesOwn (model P w) (cxOf (L2.CX P w) P w K mg base ["claim", "place", "atoms"] "without_atom" (defScope s_without_atom) (He.ga K "without_atom") cdv A outer s H E).A (cxOf (L2.CX P w) P w K mg base ["claim", "place", "atoms"] "without_atom" (defScope s_without_atom) (He.ga K "without_atom") cdv A outer s H E).env (cxOf (L2.CX P w) P w K mg base ["claim", "place", "atoms"] "without_atom" (defScope s_without_atom) (He.ga K "without_atom") cdv A outer s H E).xe := passes_of rfl
  exact (SS.cons (S1.set 2 nd (SR.m (SR.callTy (call_tuple_of) p_tuple (by rfl) T.n_tuple (by decide +kernel) (SRs.cons (SR.ixU (hu6 hr) (SR.var 0) SR.int) SRs.nil))))
      (SS.cons (S1.ret (SR.m (SR.tup (SRs.cons (SR.callTy (call_tuple_of) p_tuple (by rfl) T.n_tuple (by decide +kernel) (SRs.cons (SR.ixU (hu6 hr) (SR.var 0) SR.int) SRs.nil)) (SRs.cons (SR.bin op_addU p_addU (SR.sl (SR.var 2) SRo.none (SRo.some (SR.var 1))) (SR.sl (SR.var 2) (SRo.some (SR.bin op_addU p_addU (SR.var 1) SR.int)) SRo.none)) SRs.nil)))))
      SS.nil))
/-! ### atoms_in_place -/
abbrev s_atoms_in_place : Stmt := topS 29
abbrev NN_atoms_in_place : List Str := ["claim", "place", "atoms", "old"]
theorem sc_atoms_in_place : FnScope ["claim", "place", "atoms", "old"] ["claim", "place", "atoms"] (defScope s_atoms_in_place) := ⟨rfl, rfl, rfl, by decide +kernel, rfl, by decide +kernel, by decide +kernel⟩
theorem ok_atoms_in_place {P : Program} {w : World} {K : Fr'} {mg : MG} {base : Heap} (T : Tk K mg) : OkF P w K mg base 1 "atoms_in_place" ["claim", "place", "atoms"] m_atoms_in_place := by
  obtain ⟨fd, F⟩ := T.f_atoms_in_place
  refine ⟨T.g_atoms_in_place, F.kp, fd, fnD_F F sc_atoms_in_place fun cdv A outer s H E hr => ?_, F.bindsN fun _ _ _ _ _ _ us hl => match us, hl with | [_, _, _], _ => rfl⟩
  have nd : List.Nodup (["claim", "place", "atoms", "old"] : List Str) := sc_atoms_in_place.nd
  have tk0 : Takes (cxOf (L2.CX P w) P w K mg base ["claim", "place", "atoms", "old"] "atoms_in_place" (defScope s_atoms_in_place) (He.ga K "atoms_in_place") cdv A outer s H E) (WE' E) := takes_of rfl rfl rfl rfl
  have tk := TK.of tk0
  have po : PassesOwn (model P w) (cxOf (L2.CX P w) P w K mg base ["claim", "place", "atoms", "old"] "atoms_in_place" (defScope s_atoms_in_place) (He.ga K "atoms_in_place") cdv A outer s H E).A (cxOf (L2.CX P w) P w K mg base ["claim", "place", "atoms", "old"] "atoms_in_place" (defScope s_atoms_in_place) (He.ga K "atoms_in_place") cdv A outer s H E).env (cxOf (L2.CX P w) P w K mg base ["claim", "place", "atoms", "old"] "atoms_in_place" (defScope s_atoms_in_place) (He.ga K "atoms_in_place") cdv A outer s H E).xe := passes_of rfl
  exact (SS.cons (S1.set 3 nd (SR.m (SR.callTy (call_tuple_of) p_tuple (by rfl) T.n_tuple (by decide +kernel) (SRs.cons (SR.ixU (hu6 hr) (SR.var 0) SR.int) SRs.nil))))
      (SS.cons (S1.ret (SR.m (SR.tup (SRs.cons (SR.callTy (call_tuple_of) p_tuple (by rfl) T.n_tuple (by decide +kernel) (SRs.cons (SR.ixU (hu6 hr) (SR.var 0) SR.int) SRs.nil)) (SRs.cons (SR.bin op_addU p_addU (SR.bin op_addU p_addU (SR.sl (SR.var 3) SRo.none (SRo.some (SR.var 1))) (SR.callTy (call_tuple_of) p_tuple (by rfl) T.n_tuple (by decide +kernel) (SRs.cons (SR.var 2) SRs.nil))) (SR.sl (SR.var 3) (SRo.some (SR.bin op_addU p_addU (SR.var 1) SR.int)) SRo.none)) SRs.nil)))))
      SS.nil))
/-! ### segments_of -/
abbrev s_segments_of : Stmt := topS 30
abbrev NN_segments_of : List Str := ["claim", "place", "atom"]
theorem sc_segments_of : FnScope ["claim", "place", "atom"] ["claim"] (defScope s_segments_of) := ⟨rfl, rfl, rfl, by decide +kernel, rfl, by decide +kernel, by decide +kernel⟩
theorem ok_segments_of {P : Program} {w : World} {K : Fr'} {mg : MG} {base : Heap} (T : Tk K mg) : OkF P w K mg base 1 "segments_of" ["claim"] m_segments_of := by
  obtain ⟨fd, F⟩ := T.f_segments_of
  refine ⟨T.g_segments_of, F.kp, fd, fnD_F F sc_segments_of fun cdv A outer s H E hr => ?_, F.bindsN fun _ _ _ _ _ _ us hl => match us, hl with | [_], _ => rfl⟩
  have nd : List.Nodup (["claim", "place", "atom"] : List Str) := sc_segments_of.nd
  have tk0 : Takes (cxOf (L2.CX P w) P w K mg base ["claim", "place", "atom"] "segments_of" (defScope s_segments_of) (He.ga K "segments_of") cdv A outer s H E) (WE' E) := takes_of rfl rfl rfl rfl
  have tk := TK.of tk0
  have po : PassesOwn (model P w) (cxOf (L2.CX P w) P w K mg base ["claim", "place", "atom"] "segments_of" (defScope s_segments_of) (He.ga K "segments_of") cdv A outer s H E).A (cxOf (L2.CX P w) P w K mg base ["claim", "place", "atom"] "segments_of" (defScope s_segments_of) (He.ga K "segments_of") cdv A outer s H E).env (cxOf (L2.CX P w) P w K mg base ["claim", "place", "atom"] "segments_of" (defScope s_segments_of) (He.ga K "segments_of") cdv A outer s H E).xe := passes_of rfl
  exact (SS.cons (S1.ret (SR.m (SO.sr (SO.lc (by rfl) nd (SI.enumU (by rfl) T.n_enumerate (SR.ixU (hu6 hr) (SR.var 0) SR.int)) (blkOk_by (own := [("place", 1), ("atom", 2)]) (by kernel_rfl)) (fun _ _ _ _ _ => (SG.tupL (by rfl) (SGs.cons (SG.name 1 nd) (SGs.cons (SG.name 2 nd) SGs.nil)))) (fun _ _ _ _ _ => STs.one (SRT.cmp (b := false) (op_eqU (hu2 hr)) p_eqU (SR.ixU (hu6 hr) (SR.var 2) SR.int) SR.str)) (fun _ _ _ _ _ => (SR.var 1))))))
      SS.nil)
/-! ### _law_is -/
abbrev s__law_is : Stmt := topS 32
abbrev NN__law_is : List Str := ["told", "due"]
theorem sc__law_is : FnScope ["told", "due"] ["told", "due"] (defScope s__law_is) := ⟨rfl, rfl, rfl, by decide +kernel, rfl, by decide +kernel, by decide +kernel⟩
theorem ok__law_is {P : Program} {w : World} {K : Fr'} {mg : MG} {base : Heap} (T : Tk K mg) : OkF P w K mg base 1 "_law_is" ["told", "due"] m__law_is := by
  obtain ⟨fd, F⟩ := T.f__law_is
  refine ⟨T.g__law_is, F.kp, fd, fnD_F F sc__law_is fun cdv A outer s H E hr => ?_, F.bindsN fun _ _ _ _ _ _ us hl => match us, hl with | [_, _], _ => rfl⟩
  have nd : List.Nodup (["told", "due"] : List Str) := sc__law_is.nd
  have tk0 : Takes (cxOf (L2.CX P w) P w K mg base ["told", "due"] "_law_is" (defScope s__law_is) (He.ga K "_law_is") cdv A outer s H E) (WE' E) := takes_of rfl rfl rfl rfl
  have tk := TK.of tk0
  have po : PassesOwn (model P w) (cxOf (L2.CX P w) P w K mg base ["told", "due"] "_law_is" (defScope s__law_is) (He.ga K "_law_is") cdv A outer s H E).A (cxOf (L2.CX P w) P w K mg base ["told", "due"] "_law_is" (defScope s__law_is) (He.ga K "_law_is") cdv A outer s H E).env (cxOf (L2.CX P w) P w K mg base ["told", "due"] "_law_is" (defScope s__law_is) (He.ga K "_law_is") cdv A outer s H E).xe := passes_of rfl
  exact (SS.cons (S1.ifS (SRT.m (SRT.cmp (b := false) op_isU p_isU (SR.var 1) SR.non)) (SS.cons (S1.ret (SR.m (SR.cmp op_isU p_isU (SR.var 0) SR.non)))
      SS.nil) SS.nil)
      (SS.cons (S1.ifS (SRT.m (SRT.val (SR.isi "bool" (by rfl) T.n_isinstance (by rfl) T.n_bool (by decide +kernel) (SR.var 1)))) (SS.cons (S1.ret (SR.m (SR.and (SR.isi "bool" (by rfl) T.n_isinstance (by rfl) T.n_bool (by decide +kernel) (SR.var 0)) (SR.one (SR.cmp (op_eqU (hu2 hr)) p_eqU (SR.var 0) (SR.var 1))))))
      SS.nil) SS.nil)
      (SS.cons (S1.ifS (SRT.m (SRT.val (SR.isi "int" (by rfl) T.n_isinstance (by rfl) T.n_int (by decide +kernel) (SR.var 1)))) (SS.cons (S1.ret (SR.m (SR.and (SR.isi "int" (by rfl) T.n_isinstance (by rfl) T.n_int (by decide +kernel) (SR.var 0)) (SR.one (SR.cmp (op_eqU (hu2 hr)) p_eqU (SR.var 0) (SR.var 1))))))
      SS.nil) SS.nil)
      (SS.cons (S1.ifS (SRT.m (SRT.val (SR.isi "str" (by rfl) T.n_isinstance (by rfl) T.n_str (by decide +kernel) (SR.var 1)))) (SS.cons (S1.ret (SR.m (SR.and (SR.isi "str" (by rfl) T.n_isinstance (by rfl) T.n_str (by decide +kernel) (SR.var 0)) (SR.one (SR.cmp (op_eqU (hu2 hr)) p_eqU (SR.var 0) (SR.var 1))))))
      SS.nil) SS.nil)
      (SS.cons (S1.ifS (SRT.m (SRT.val (SR.isi "tuple" (by rfl) T.n_isinstance (by rfl) T.n_tuple (by decide +kernel) (SR.var 1)))) (SS.cons (S1.ret (SR.m (SR.and (SR.isi "tuple" (by rfl) T.n_isinstance (by rfl) T.n_tuple (by decide +kernel) (SR.var 0)) (SR.one (SR.cmp (op_eqU (hu2 hr)) p_eqU (SR.var 0) (SR.var 1))))))
      SS.nil) SS.nil)
      (SS.cons (S1.ret (SR.m (SR.and (SR.isi "list" (by rfl) T.n_isinstance (by rfl) T.n_list (by decide +kernel) (SR.var 0)) (SR.one (SR.cmp (op_eqU (hu2 hr)) p_eqU (SR.var 0) (SR.var 1))))))
      SS.nil))))))
/-! ### _law_draw -/
abbrev s__law_draw : Stmt := topS 33
abbrev NN__law_draw : List Str := ["tape", "many", "cells", "k", "cell", "digit"]
theorem sc__law_draw : FnScope ["tape", "many", "cells", "k", "cell", "digit"] ["tape", "many"] (defScope s__law_draw) := ⟨rfl, rfl, rfl, by decide +kernel, rfl, by decide +kernel, by decide +kernel⟩
theorem ok__law_draw {P : Program} {w : World} {K : Fr'} {mg : MG} {base : Heap} (T : Tk K mg) : OkT P w K mg base 1 "_law_draw" ["tape", "many"] m__law_draw := by
  obtain ⟨fd, F⟩ := T.f__law_draw
  refine ⟨T.g__law_draw, F.kp, fd, fnD_T F sc__law_draw fun cdv A outer s H E hr => ?_, F.bindsN fun _ _ _ _ _ _ us hl => match us, hl with | [_, _], _ => rfl⟩
  have nd : List.Nodup (["tape", "many", "cells", "k", "cell", "digit"] : List Str) := sc__law_draw.nd
  have tk0 : Takes (cxOf (L2.CX P w) P w K mg base ["tape", "many", "cells", "k", "cell", "digit"] "_law_draw" (defScope s__law_draw) (He.ga K "_law_draw") cdv A outer s H E) (WE' E) := takes_of rfl rfl rfl rfl
  have tk := TK.of tk0
  have po : PassesOwn (model P w) (cxOf (L2.CX P w) P w K mg base ["tape", "many", "cells", "k", "cell", "digit"] "_law_draw" (defScope s__law_draw) (He.ga K "_law_draw") cdv A outer s H E).A (cxOf (L2.CX P w) P w K mg base ["tape", "many", "cells", "k", "cell", "digit"] "_law_draw" (defScope s__law_draw) (He.ga K "_law_draw") cdv A outer s H E).env (cxOf (L2.CX P w) P w K mg base ["tape", "many", "cells", "k", "cell", "digit"] "_law_draw" (defScope s__law_draw) (He.ga K "_law_draw") cdv A outer s H E).xe := passes_of rfl
  exact (SS.cons (S1.ifS (SRT.m (SRT.borrow (SRT.cmp (b := false) op_lt p_lt (SR.ixU (hu6 hr) (SR.var 0) SR.int) (SR.var 1)))) (SS.cons (S1.set 2 nd (SM.ixO 0 SR.int))
      (SS.cons (S1.set 3 nd (SM.ixO 0 SR.int))
      (SS.cons (S1.set 4 nd (SR.m (SR.borrow (SR.ifE (SRT.cmp (b := false) op_lt p_lt (SR.var 3) (SR.callB (cr_lenU) p_lenU (by rfl) T.n_len (by decide +kernel) (SRs.cons (SR.var 2) SRs.nil))) (SR.ixU (hu6 hr) (SR.var 2) (SR.var 3)) (SR.ixU (hu6 hr) (SR.var 0) SR.int)))))
      (SS.cons (S1.ifS (SRT.m (SRT.cmp (b := false) op_lt p_lt (SR.var 4) SR.int)) (SS.cons (S1.set 4 nd (SR.m (SR.bin op_sub p_sub (SR.bin op_mul p_mulI (SR.neg SR.int) (SR.var 4)) SR.int)))
      SS.nil) SS.nil)
      (SS.cons (S1.ifS (SRT.m (SRW.t (SRW.or (SRT.cmp (b := false) op_lt p_lt (SR.var 4) (SR.bin op_pow p_pow SR.int SR.int)) (SRW.or1 (SRT.cmp (b := false) op_ge p_ge (SR.var 3) (SR.callB (cr_lenU) p_lenU (by rfl) T.n_len (by decide +kernel) (SRs.cons (SR.var 2) SRs.nil))))))) (SS.cons (S1.set 4 nd (SR.m (SR.bin op_modN p_mod (SR.callTy (cr_int) p_int (by rfl) T.n_int (by decide +kernel) (SRs.cons (SR.bin op_addU p_addU (SR.bin op_addU p_addU (SR.bin op_mul p_mulI (SR.var 4) SR.int) (SR.bin op_mul p_mulI (SR.var 3) SR.int)) SR.int) SRs.nil)) SR.int)))
      (SS.cons (S1.set 4 nd (SR.m (SR.bin op_modN p_mod (SR.callTy (cr_int) p_int (by rfl) T.n_int (by decide +kernel) (SRs.cons (SR.bin op_addU p_addU (SR.bin op_addU p_addU (SR.bin op_mul p_mulI (SR.var 4) (SR.var 4)) (SR.bin op_mul p_mulI (SR.var 3) SR.int)) SR.int) SRs.nil)) SR.int)))
      SS.nil)) SS.nil)
      (SS.cons (S1.put 0 (SR.m (SR.bin op_addU p_addU (SR.var 3) SR.int)) SR.int)
      (SS.cons (S1.put 0 (SR.m (SR.var 4)) SR.int)
      SS.nil))))))) SS.nil)
      (SS.cons (S1.set 5 nd (SR.m (SR.borrow (SR.bin op_modN p_mod (SR.callTy (cr_int) p_int (by rfl) T.n_int (by decide +kernel) (SRs.cons (SR.ixU (hu6 hr) (SR.var 0) SR.int) SRs.nil)) (SR.var 1)))))
      (SS.cons (S1.put 0 (SR.m (SR.borrow (SR.bin op_fdivN p_fdiv (SR.ixU (hu6 hr) (SR.var 0) SR.int) (SR.var 1)))) SR.int)
      (SS.cons (S1.ret (SR.m (SR.var 5)))
      SS.nil))))
/-! ### _law_tape -/
abbrev s__law_tape : Stmt := topS 34
abbrev NN__law_tape : List Str := ["script", "mix", "cell"]
theorem sc__law_tape : FnScope ["script", "mix", "cell"] ["script"] (defScope s__law_tape) := ⟨rfl, rfl, rfl, by decide +kernel, rfl, by decide +kernel, by decide +kernel⟩
theorem ok__law_tape {P : Program} {w : World} {K : Fr'} {mg : MG} {base : Heap} (T : Tk K mg) : OkN P w K mg base 1 "_law_tape" ["script"] m__law_tape := by
  obtain ⟨fd, F⟩ := T.f__law_tape
  refine ⟨T.g__law_tape, F.kp, fd, fnD_N F sc__law_tape fun cdv A outer s H E hr => ?_, F.bindsN fun _ _ _ _ _ _ us hl => match us, hl with | [_], _ => rfl⟩
  have nd : List.Nodup (["script", "mix", "cell"] : List Str) := sc__law_tape.nd
  have tk0 : Takes (cxOf (L2.CX P w) P w K mg base ["script", "mix", "cell"] "_law_tape" (defScope s__law_tape) (He.ga K "_law_tape") cdv A outer s H E) (WE' E) := takes_of rfl rfl rfl rfl
  have tk := TK.of tk0
  have po : PassesOwn (model P w) (cxOf (L2.CX P w) P w K mg base ["script", "mix", "cell"] "_law_tape" (defScope s__law_tape) (He.ga K "_law_tape") cdv A outer s H E).A (cxOf (L2.CX P w) P w K mg base ["script", "mix", "cell"] "_law_tape" (defScope s__law_tape) (He.ga K "_law_tape") cdv A outer s H E).env (cxOf (L2.CX P w) P w K mg base ["script", "mix", "cell"] "_law_tape" (defScope s__law_tape) (He.ga K "_law_tape") cdv A outer s H E).xe := passes_of rfl
  exact (SS.cons (S1.set 1 nd (SR.m (SR.callB (cr_lenU) p_lenU (by rfl) T.n_len (by decide +kernel) (SRs.cons (SR.var 0) SRs.nil))))
      (SS.cons (S1.forS po (by rfl) (SI.m (SI.seq (SR.var 0))) (SG.name 2 nd) (SS.cons (S1.set 1 nd (SR.m (SR.bin op_modN p_mod (SR.callTy (cr_int) p_int (by rfl) T.n_int (by decide +kernel) (SRs.cons (SR.bin op_addU p_addU (SR.bin op_addU p_addU (SR.bin op_mul p_mulI (SR.var 1) SR.int) (SR.bin op_mul p_mulI (SR.var 2) SR.int)) SR.int) SRs.nil)) SR.int)))
      SS.nil))
      (SS.cons (S1.retN' (SO.lst (SRs.cons (SO.sr (SO.callTy (cr_listU (by rfl)) p_listU (by rfl) T.n_list (by decide +kernel) (SRs.cons (SR.var 0) SRs.nil))) (SRs.cons SR.int (SRs.cons SR.int (SRs.cons (SR.var 1) SRs.nil))))))
      SS.nil)))
/-! ### _law_key -/
abbrev s__law_key : Stmt := topS 37
abbrev NN__law_key : List Str := ["term"]
theorem sc__law_key : FnScope ["term"] ["term"] (defScope s__law_key) := ⟨rfl, rfl, rfl, by decide +kernel, rfl, by decide +kernel, by decide +kernel⟩
theorem ok__law_key {P : Program} {w : World} {K : Fr'} {mg : MG} {base : Heap} (T : Tk K mg) : OkF P w K mg base 1 "_law_key" ["term"] m__law_key := by
  obtain ⟨fd, F⟩ := T.f__law_key
  refine ⟨T.g__law_key, F.kp, fd, fnD_F F sc__law_key fun cdv A outer s H E hr => ?_, F.bindsN fun _ _ _ _ _ _ us hl => match us, hl with | [_], _ => rfl⟩
  have nd : List.Nodup (["term"] : List Str) := sc__law_key.nd
  have tk0 : Takes (cxOf (L2.CX P w) P w K mg base ["term"] "_law_key" (defScope s__law_key) (He.ga K "_law_key") cdv A outer s H E) (WE' E) := takes_of rfl rfl rfl rfl
  have tk := TK.of tk0
  have po : PassesOwn (model P w) (cxOf (L2.CX P w) P w K mg base ["term"] "_law_key" (defScope s__law_key) (He.ga K "_law_key") cdv A outer s H E).A (cxOf (L2.CX P w) P w K mg base ["term"] "_law_key" (defScope s__law_key) (He.ga K "_law_key") cdv A outer s H E).env (cxOf (L2.CX P w) P w K mg base ["term"] "_law_key" (defScope s__law_key) (He.ga K "_law_key") cdv A outer s H E).xe := passes_of rfl
  exact (SS.cons (S1.ret (SR.m (SR.ifE (SRT.cmp (b := false) (op_eqU (hu2 hr)) p_eqU (SR.var 0) SR.str) (SR.tup (SRs.cons SR.int (SRs.cons SR.str (SRs.cons SR.int SRs.nil)))) (SR.ifE (SRT.cmp (b := false) (op_eqU (hu2 hr)) p_eqU (SR.ixU (hu6 hr) (SR.var 0) SR.int) SR.str) (SR.tup (SRs.cons SR.int (SRs.cons SR.str (SRs.cons (SR.callTy (cr_int) p_int (by rfl) T.n_int (by decide +kernel) (SRs.cons (SR.sl (SR.var 0) (SRo.some SR.int) SRo.none) SRs.nil)) SRs.nil)))) (SR.tup (SRs.cons SR.int (SRs.cons (SR.var 0) (SRs.cons SR.int SRs.nil))))))))
      SS.nil)
/-! ### _law_moved -/
abbrev s__law_moved : Stmt := topS 39
abbrev NN__law_moved : List Str := ["rows", "other", "row"]
theorem sc__law_moved : FnScope ["rows", "other", "row"] ["rows", "other"] (defScope s__law_moved) := ⟨rfl, rfl, rfl, by decide +kernel, rfl, by decide +kernel, by decide +kernel⟩
theorem ok__law_moved {P : Program} {w : World} {K : Fr'} {mg : MG} {base : Heap} (T : Tk K mg) : OkF P w K mg base 1 "_law_moved" ["rows", "other"] m__law_moved := by
  obtain ⟨fd, F⟩ := T.f__law_moved
  refine ⟨T.g__law_moved, F.kp, fd, fnD_F F sc__law_moved fun cdv A outer s H E hr => ?_, F.bindsN fun _ _ _ _ _ _ us hl => match us, hl with | [_, _], _ => rfl⟩
  have nd : List.Nodup (["rows", "other", "row"] : List Str) := sc__law_moved.nd
  have tk0 : Takes (cxOf (L2.CX P w) P w K mg base ["rows", "other", "row"] "_law_moved" (defScope s__law_moved) (He.ga K "_law_moved") cdv A outer s H E) (WE' E) := takes_of rfl rfl rfl rfl
  have tk := TK.of tk0
  have po : PassesOwn (model P w) (cxOf (L2.CX P w) P w K mg base ["rows", "other", "row"] "_law_moved" (defScope s__law_moved) (He.ga K "_law_moved") cdv A outer s H E).A (cxOf (L2.CX P w) P w K mg base ["rows", "other", "row"] "_law_moved" (defScope s__law_moved) (He.ga K "_law_moved") cdv A outer s H E).env (cxOf (L2.CX P w) P w K mg base ["rows", "other", "row"] "_law_moved" (defScope s__law_moved) (He.ga K "_law_moved") cdv A outer s H E).xe := passes_of rfl
  exact (SS.cons (S1.ret (SR.m (SO.sr (SO.lc (by rfl) nd (SI.seq (SR.var 0)) (blkOk_by (own := [("row", 2)]) (by kernel_rfl)) (fun _ _ _ _ _ => (SG.name 2 nd)) (fun _ _ _ _ _ => STs.nil) (fun _ _ _ _ _ => (SR.tup (SRs.cons (SR.ixU (hu6 hr) (SR.var 2) SR.int) (SRs.cons (SR.get2 (hu1 (hu6 hr)) (SR.var 1) (SR.ixU (hu6 hr) (SR.var 2) SR.int) (SR.ixU (hu6 hr) (SR.var 2) SR.int) ⟨by rfl, by rfl, by rfl, by rfl⟩) (SRs.cons (SR.get2 (hu1 (hu6 hr)) (SR.var 1) (SR.ixU (hu6 hr) (SR.var 2) SR.int) (SR.ixU (hu6 hr) (SR.var 2) SR.int) ⟨by rfl, by rfl, by rfl, by rfl⟩) SRs.nil)))))))))
      SS.nil)
/-! ### is_term -/
abbrev s_is_term : Stmt := topS 15
abbrev NN_is_term : List Str := ["word"]
theorem sc_is_term : FnScope ["word"] ["word"] (defScope s_is_term) := ⟨rfl, rfl, rfl, by decide +kernel, rfl, by decide +kernel, by decide +kernel⟩
theorem ok_is_term {P : Program} {w : World} {K : Fr'} {mg : MG} {base : Heap} (T : Tk K mg) : OkF P w K mg base 2 "is_term" ["word"] m_is_term := by
  have G_is_hidden := ok_is_hidden (P := P) (w := w) (base := base) T
  have G_is_name := ok_is_name (P := P) (w := w) (base := base) T
  obtain ⟨fd, F⟩ := T.f_is_term
  refine ⟨T.g_is_term, F.kp, fd, fnD_F F sc_is_term fun cdv A outer s H E hr => ?_, F.bindsN fun _ _ _ _ _ _ us hl => match us, hl with | [_], _ => rfl⟩
  have nd : List.Nodup (["word"] : List Str) := sc_is_term.nd
  have tk0 : Takes (cxOf (L2.CX P w) P w K mg base ["word"] "is_term" (defScope s_is_term) (He.ga K "is_term") cdv A outer s H E) (WE' E) := takes_of rfl rfl rfl rfl
  have tk := TK.of tk0
  have po : PassesOwn (model P w) (cxOf (L2.CX P w) P w K mg base ["word"] "is_term" (defScope s_is_term) (He.ga K "is_term") cdv A outer s H E).A (cxOf (L2.CX P w) P w K mg base ["word"] "is_term" (defScope s_is_term) (He.ga K "is_term") cdv A outer s H E).env (cxOf (L2.CX P w) P w K mg base ["word"] "is_term" (defScope s_is_term) (He.ga K "is_term") cdv A outer s H E).xe := passes_of rfl
  exact (SS.cons (S1.ret (SR.m (SR.or (SR.cmp (op_eqU (hu2 hr)) p_eqU (SR.var 0) (SR.gStr T.c_NIL)) (SR.or (SR.callD G_is_name hr tk (SRs.cons (SR.var 0) SRs.nil)) (SR.one (SR.callD G_is_hidden hr tk (SRs.cons (SR.var 0) SRs.nil)))))))
      SS.nil)
/-! ### order_of -/
abbrev s_order_of : Stmt := topS 16
abbrev NN_order_of : List Str := ["term"]
theorem sc_order_of : FnScope ["term"] ["term"] (defScope s_order_of) := ⟨rfl, rfl, rfl, by decide +kernel, rfl, by decide +kernel, by decide +kernel⟩
theorem ok_order_of {P : Program} {w : World} {K : Fr'} {mg : MG} {base : Heap} (T : Tk K mg) : OkF P w K mg base 2 "order_of" ["term"] m_order_of := by
  have G_is_hidden := ok_is_hidden (P := P) (w := w) (base := base) T
  obtain ⟨fd, F⟩ := T.f_order_of
  refine ⟨T.g_order_of, F.kp, fd, fnD_F F sc_order_of fun cdv A outer s H E hr => ?_, F.bindsN fun _ _ _ _ _ _ us hl => match us, hl with | [_], _ => rfl⟩
  have nd : List.Nodup (["term"] : List Str) := sc_order_of.nd
  have tk0 : Takes (cxOf (L2.CX P w) P w K mg base ["term"] "order_of" (defScope s_order_of) (He.ga K "order_of") cdv A outer s H E) (WE' E) := takes_of rfl rfl rfl rfl
  have tk := TK.of tk0
  have po : PassesOwn (model P w) (cxOf (L2.CX P w) P w K mg base ["term"] "order_of" (defScope s_order_of) (He.ga K "order_of") cdv A outer s H E).A (cxOf (L2.CX P w) P w K mg base ["term"] "order_of" (defScope s_order_of) (He.ga K "order_of") cdv A outer s H E).env (cxOf (L2.CX P w) P w K mg base ["term"] "order_of" (defScope s_order_of) (He.ga K "order_of") cdv A outer s H E).xe := passes_of rfl
  exact (SS.cons (S1.ifS (SRT.m (SRT.cmp (b := false) (op_eqU (hu2 hr)) p_eqU (SR.var 0) (SR.gStr T.c_NIL))) (SS.cons (S1.ret (SR.m (SR.tup (SRs.cons SR.int (SRs.cons SR.str (SRs.cons SR.int SRs.nil))))))
      SS.nil) SS.nil)
      (SS.cons (S1.ifS (SRT.m (SRT.val (SR.callD G_is_hidden hr tk (SRs.cons (SR.var 0) SRs.nil)))) (SS.cons (S1.ret (SR.m (SR.tup (SRs.cons SR.int (SRs.cons SR.str (SRs.cons (SR.callTy (cr_int) p_int (by rfl) T.n_int (by decide +kernel) (SRs.cons (SR.sl (SR.var 0) (SRo.some SR.int) SRo.none) SRs.nil)) SRs.nil))))))
      SS.nil) SS.nil)
      (SS.cons (S1.ret (SR.m (SR.tup (SRs.cons SR.int (SRs.cons (SR.var 0) (SRs.cons SR.int SRs.nil))))))
      SS.nil)))
/-! ### put_for -/
abbrev s_put_for : Stmt := topS 25
abbrev NN_put_for : List Str := ["claim", "terms", "facts", "atoms", "row"]
theorem sc_put_for : FnScope ["claim", "terms", "facts", "atoms", "row"] ["claim", "terms"] (defScope s_put_for) := ⟨rfl, rfl, rfl, by decide +kernel, rfl, by decide +kernel, by decide +kernel⟩
theorem ok_put_for {P : Program} {w : World} {K : Fr'} {mg : MG} {base : Heap} (T : Tk K mg) : OkF P w K mg base 2 "put_for" ["claim", "terms"] m_put_for := by
  have G_row_put_for := ok_row_put_for (P := P) (w := w) (base := base) T
  obtain ⟨fd, F⟩ := T.f_put_for
  refine ⟨T.g_put_for, F.kp, fd, fnD_F F sc_put_for fun cdv A outer s H E hr => ?_, F.bindsN fun _ _ _ _ _ _ us hl => match us, hl with | [_, _], _ => rfl⟩
  have nd : List.Nodup (["claim", "terms", "facts", "atoms", "row"] : List Str) := sc_put_for.nd
  have tk0 : Takes (cxOf (L2.CX P w) P w K mg base ["claim", "terms", "facts", "atoms", "row"] "put_for" (defScope s_put_for) (He.ga K "put_for") cdv A outer s H E) (WE' E) := takes_of rfl rfl rfl rfl
  have tk := TK.of tk0
  have po : PassesOwn (model P w) (cxOf (L2.CX P w) P w K mg base ["claim", "terms", "facts", "atoms", "row"] "put_for" (defScope s_put_for) (He.ga K "put_for") cdv A outer s H E).A (cxOf (L2.CX P w) P w K mg base ["claim", "terms", "facts", "atoms", "row"] "put_for" (defScope s_put_for) (He.ga K "put_for") cdv A outer s H E).env (cxOf (L2.CX P w) P w K mg base ["claim", "terms", "facts", "atoms", "row"] "put_for" (defScope s_put_for) (He.ga K "put_for") cdv A outer s H E).xe := passes_of rfl
  exact (SS.cons (S1.asg (SR.m (SR.var 0)) (SG.tupL (by rfl) (SGs.cons (SG.name 2 nd) (SGs.cons (SG.name 3 nd) SGs.nil))))
      (SS.cons (S1.ret (SR.m (SR.tup (SRs.cons (SR.callTy (call_tuple_of) p_tuple (by rfl) T.n_tuple (by decide +kernel) (SRs.cons (SO.sr (SO.lc (by rfl) nd (SI.seq (SR.var 2)) (blkOk_by (own := [("row", 4)]) (by kernel_rfl)) (fun _ _ _ _ _ => (SG.name 4 nd)) (fun _ _ _ _ _ => STs.nil) (fun _ _ _ _ _ => (SR.callD G_row_put_for hr TK.zero (SRs.cons (SR.var 4) (SRs.cons (SR.var 1) SRs.nil)))))) SRs.nil)) (SRs.cons (SR.callTy (call_tuple_of) p_tuple (by rfl) T.n_tuple (by decide +kernel) (SRs.cons (SO.sr (SO.lc (by rfl) nd (SI.seq (SR.var 3)) (blkOk_by (own := [("row", 4)]) (by kernel_rfl)) (fun _ _ _ _ _ => (SG.name 4 nd)) (fun _ _ _ _ _ => STs.nil) (fun _ _ _ _ _ => (SR.callD G_row_put_for hr TK.zero (SRs.cons (SR.var 4) (SRs.cons (SR.var 1) SRs.nil)))))) SRs.nil)) SRs.nil)))))
      SS.nil))
/-! ### _law_claim -/
abbrev s__law_claim : Stmt := topS 35
abbrev NN__law_claim : List Str := ["tape", "names", "most", "terms", "facts", "atoms", "k", "start"]
theorem sc__law_claim : FnScope ["tape", "names", "most", "terms", "facts", "atoms", "k", "start"] ["tape", "names", "most"] (defScope s__law_claim) := ⟨rfl, rfl, rfl, by decide +kernel, rfl, by decide +kernel, by decide +kernel⟩
theorem ok__law_claim {P : Program} {w : World} {K : Fr'} {mg : MG} {base : Heap} (T : Tk K mg) : OkT P w K mg base 2 "_law_claim" ["tape", "names", "most"] m__law_claim := by
  have G__law_draw := ok__law_draw (P := P) (w := w) (base := base) T
  obtain ⟨fd, F⟩ := T.f__law_claim
  refine ⟨T.g__law_claim, F.kp, fd, fnD_T F sc__law_claim fun cdv A outer s H E hr => ?_, F.bindsN fun _ _ _ _ _ _ us hl => match us, hl with | [_, _, _], _ => rfl⟩
  have nd : List.Nodup (["tape", "names", "most", "terms", "facts", "atoms", "k", "start"] : List Str) := sc__law_claim.nd
  have tk0 : Takes (cxOf (L2.CX P w) P w K mg base ["tape", "names", "most", "terms", "facts", "atoms", "k", "start"] "_law_claim" (defScope s__law_claim) (He.ga K "_law_claim") cdv A outer s H E) (WE' E) := takes_of rfl rfl rfl rfl
  have tk := TK.of tk0
  have po : PassesOwn (model P w) (cxOf (L2.CX P w) P w K mg base ["tape", "names", "most", "terms", "facts", "atoms", "k", "start"] "_law_claim" (defScope s__law_claim) (He.ga K "_law_claim") cdv A outer s H E).A (cxOf (L2.CX P w) P w K mg base ["tape", "names", "most", "terms", "facts", "atoms", "k", "start"] "_law_claim" (defScope s__law_claim) (He.ga K "_law_claim") cdv A outer s H E).env (cxOf (L2.CX P w) P w K mg base ["tape", "names", "most", "terms", "facts", "atoms", "k", "start"] "_law_claim" (defScope s__law_claim) (He.ga K "_law_claim") cdv A outer s H E).xe := passes_of rfl
  exact (SS.cons (S1.set 3 nd (SR.m (SR.bin op_addU p_addU (SO.sr (SO.lst (SRs.cons SR.str SRs.nil))) (SO.sr (SO.callTy (cr_listU (by rfl)) p_listU (by rfl) T.n_list (by decide +kernel) (SRs.cons (SR.var 1) SRs.nil))))))
      (SS.cons (S1.parOO 4 5 (by rfl) nd (SO.lst SRs.nil) (SO.lst SRs.nil))
      (SS.cons (S1.forS po (by rfl) (SIM.rng1 (by rfl) T.n_range (SMs.cons (SM.ixU (hu6 hr) (SR.m (SO.sr (SO.lst (SRs.cons SR.int (SRs.cons SR.int (SRs.cons SR.int (SRs.cons SR.int (SRs.cons SR.int SRs.nil)))))))) (SM.callD 0 G__law_draw hr tk (SMs.cons (SR.m SR.int) SMs.nil))) SMs.nil)) (SG.name 6 nd) (SS.cons (S1.app 4 (SM.tup (SMs.cons (SM.ixU (hu6 hr) (SR.m (SO.sr (SO.lst (SRs.cons SR.str (SRs.cons SR.str (SRs.cons SR.str SRs.nil)))))) (SM.callD 0 G__law_draw hr tk (SMs.cons (SR.m SR.int) SMs.nil))) (SMs.cons (SM.ixU (hu6 hr) (SR.m (SR.var 3)) (SM.callD 0 G__law_draw hr tk (SMs.cons (SR.m (SR.callB (cr_lenU) p_lenU (by rfl) T.n_len (by decide +kernel) (SRs.cons (SR.var 3) SRs.nil))) SMs.nil))) (SMs.cons (SM.ixU (hu6 hr) (SR.m (SR.var 3)) (SM.callD 0 G__law_draw hr tk (SMs.cons (SR.m (SR.callB (cr_lenU) p_lenU (by rfl) T.n_len (by decide +kernel) (SRs.cons (SR.var 3) SRs.nil))) SMs.nil))) SMs.nil)))))
      SS.nil))
      (SS.frz 4 (SS.cons (S1.forS po (by rfl) (SIM.rng1 (by rfl) T.n_range (SMs.cons (SM.callD 0 G__law_draw hr tk (SMs.cons (SR.m (SR.bin op_addU p_addU (SR.var 2) SR.int)) SMs.nil)) SMs.nil)) (SG.name 6 nd) (SS.cons (S1.set 7 nd (SM.ifE (SMT.cmp op_gt p_gt (SM.callD 0 G__law_draw hr tk (SMs.cons (SR.m SR.int) SMs.nil)) (SR.m SR.int)) (SM.ixU (hu6 hr) (SR.m (SR.var 3)) (SM.bin op_addU p_addU (SR.m SR.int) (SM.callD 0 G__law_draw hr tk (SMs.cons (SR.m (SR.callB (cr_lenU) p_lenU (by rfl) T.n_len (by decide +kernel) (SRs.cons (SR.var 1) SRs.nil))) SMs.nil)))) (SR.m SR.str)))
      (SS.cons (S1.app 5 (SM.tup (SMs.cons (SM.ixU (hu6 hr) (SR.m (SO.sr (SO.lst (SRs.cons SR.str (SRs.cons SR.str SRs.nil))))) (SM.callD 0 G__law_draw hr tk (SMs.cons (SR.m SR.int) SMs.nil))) (SMs.cons (SR.m (SR.var 7)) (SMs.cons (SM.ixU (hu6 hr) (SR.m (SR.var 3)) (SM.callD 0 G__law_draw hr tk (SMs.cons (SR.m (SR.callB (cr_lenU) p_lenU (by rfl) T.n_len (by decide +kernel) (SRs.cons (SR.var 3) SRs.nil))) SMs.nil))) SMs.nil)))))
      SS.nil)))
      (SS.frz 5 (SS.cons (S1.ret (SR.m (SR.tup (SRs.cons (SR.callTy (call_tuple_of) p_tuple (by rfl) T.n_tuple (by decide +kernel) (SRs.cons (SR.var 4) SRs.nil)) (SRs.cons (SR.callTy (call_tuple_of) p_tuple (by rfl) T.n_tuple (by decide +kernel) (SRs.cons (SR.var 5) SRs.nil)) SRs.nil)))))
      SS.nil)))))))
/-! ### _law_order -/
abbrev s__law_order : Stmt := topS 38
abbrev NN__law_order : List Str := ["terms", "key", "term"]
theorem sc__law_order : FnScope ["terms", "key", "term"] ["terms"] (defScope s__law_order) := ⟨rfl, rfl, rfl, by decide +kernel, rfl, by decide +kernel, by decide +kernel⟩
theorem ok__law_order {P : Program} {w : World} {K : Fr'} {mg : MG} {base : Heap} (T : Tk K mg) : OkF P w K mg base 2 "_law_order" ["terms"] m__law_order := by
  have G__law_key := ok__law_key (P := P) (w := w) (base := base) T
  obtain ⟨fd, F⟩ := T.f__law_order
  refine ⟨T.g__law_order, F.kp, fd, fnD_F F sc__law_order fun cdv A outer s H E hr => ?_, F.bindsN fun _ _ _ _ _ _ us hl => match us, hl with | [_], _ => rfl⟩
  have nd : List.Nodup (["terms", "key", "term"] : List Str) := sc__law_order.nd
  have tk0 : Takes (cxOf (L2.CX P w) P w K mg base ["terms", "key", "term"] "_law_order" (defScope s__law_order) (He.ga K "_law_order") cdv A outer s H E) (WE' E) := takes_of rfl rfl rfl rfl
  have tk := TK.of tk0
  have po : PassesOwn (model P w) (cxOf (L2.CX P w) P w K mg base ["terms", "key", "term"] "_law_order" (defScope s__law_order) (He.ga K "_law_order") cdv A outer s H E).A (cxOf (L2.CX P w) P w K mg base ["terms", "key", "term"] "_law_order" (defScope s__law_order) (He.ga K "_law_order") cdv A outer s H E).env (cxOf (L2.CX P w) P w K mg base ["terms", "key", "term"] "_law_order" (defScope s__law_order) (He.ga K "_law_order") cdv A outer s H E).xe := passes_of rfl
  exact (SS.cons (S1.ret (SR.m (SO.sr (SO.lc (by rfl) nd (SI.seq (SO.sr (SO.callB (cr_sortU (by rfl) (hu2 hr)) p_sortedU (by rfl) T.n_sorted (by decide +kernel) (SRs.cons (SO.sr (SO.lc (by rfl) nd (SI.seq (SO.sr (SO.sortSetU (hu2 hr) rfl (by rfl) T.n_sorted (by rfl) T.n_set (SR.var 0)))) (blkOk_by (own := [("term", 2)]) (by kernel_rfl)) (fun _ _ _ _ _ => (SG.name 2 nd)) (fun _ _ _ _ _ => STs.nil) (fun _ _ _ _ _ => (SR.tup (SRs.cons (SR.callD G__law_key hr TK.zero (SRs.cons (SR.var 2) SRs.nil)) (SRs.cons (SR.var 2) SRs.nil)))))) SRs.nil)))) (blkOk_by (own := [("key", 1), ("term", 2)]) (by kernel_rfl)) (fun _ _ _ _ _ => (SG.tupL (by rfl) (SGs.cons (SG.name 1 nd) (SGs.cons (SG.name 2 nd) SGs.nil)))) (fun _ _ _ _ _ => STs.nil) (fun _ _ _ _ _ => (SR.var 2))))))
      SS.nil)
/-! ### in_order -/
abbrev s_in_order : Stmt := topS 17
abbrev NN_in_order : List Str := ["terms", "once", "term", "order"]
theorem sc_in_order : FnScope ["terms", "once", "term", "order"] ["terms"] (defScope s_in_order) := ⟨rfl, rfl, rfl, by decide +kernel, rfl, by decide +kernel, by decide +kernel⟩
theorem ok_in_order {P : Program} {w : World} {K : Fr'} {mg : MG} {base : Heap} (T : Tk K mg) : OkF P w K mg base 3 "in_order" ["terms"] m_in_order := by
  have G_order_of := ok_order_of (P := P) (w := w) (base := base) T
  obtain ⟨fd, F⟩ := T.f_in_order
  refine ⟨T.g_in_order, F.kp, fd, fnD_F F sc_in_order fun cdv A outer s H E hr => ?_, F.bindsN fun _ _ _ _ _ _ us hl => match us, hl with | [_], _ => rfl⟩
  have nd : List.Nodup (["terms", "once", "term", "order"] : List Str) := sc_in_order.nd
  have tk0 : Takes (cxOf (L2.CX P w) P w K mg base ["terms", "once", "term", "order"] "in_order" (defScope s_in_order) (He.ga K "in_order") cdv A outer s H E) (WE' E) := takes_of rfl rfl rfl rfl
  have tk := TK.of tk0
  have po : PassesOwn (model P w) (cxOf (L2.CX P w) P w K mg base ["terms", "once", "term", "order"] "in_order" (defScope s_in_order) (He.ga K "in_order") cdv A outer s H E).A (cxOf (L2.CX P w) P w K mg base ["terms", "once", "term", "order"] "in_order" (defScope s_in_order) (He.ga K "in_order") cdv A outer s H E).env (cxOf (L2.CX P w) P w K mg base ["terms", "once", "term", "order"] "in_order" (defScope s_in_order) (He.ga K "in_order") cdv A outer s H E).xe := passes_of rfl
  exact (SS.cons (S1.dcO 1 (by rfl) nd (SI.seq (SR.var 0)) (blkOk_by (own := [("term", 2)]) (by kernel_rfl)) (fun _ _ _ _ _ => (SG.name 2 nd)) (fun _ _ _ _ _ => STs.nil) (fun _ _ _ _ _ => (SR.var 2)) (fun _ _ _ _ _ => SR.bl) rfl (sw_trueD rfl rfl (by rfl) (by decide +kernel)))
      (SS.frz 1 (SS.cons (S1.ret (SR.m (SO.sr (SO.lc (by rfl) nd (SI.seq (SO.sr (SO.callB (cr_sortU (by rfl) (hu2 hr)) p_sortedU (by rfl) T.n_sorted (by decide +kernel) (SRs.cons (SO.sr (SO.lcK 1 (by rfl) nd (blkOk_by (own := [("term", 2)]) (by kernel_rfl)) (fun _ _ _ _ _ => (SG.name 2 nd)) (fun _ _ _ _ _ => STs.nil) (fun _ _ _ _ _ => (SR.tup (SRs.cons (SR.callD G_order_of hr TK.zero (SRs.cons (SR.var 2) SRs.nil)) (SRs.cons (SR.var 2) SRs.nil)))))) SRs.nil)))) (blkOk_by (own := [("order", 3), ("term", 2)]) (by kernel_rfl)) (fun _ _ _ _ _ => (SG.tupL (by rfl) (SGs.cons (SG.name 3 nd) (SGs.cons (SG.name 2 nd) SGs.nil)))) (fun _ _ _ _ _ => STs.nil) (fun _ _ _ _ _ => (SR.var 2))))))
      SS.nil)))
/-! ### check_claim -/
abbrev s_check_claim : Stmt := topS 18
abbrev NN_check_claim : List Str := ["claim", "facts", "atoms", "rows", "row", "kinds"]
theorem sc_check_claim : FnScope ["claim", "facts", "atoms", "rows", "row", "kinds"] ["claim"] (defScope s_check_claim) := ⟨rfl, rfl, rfl, by decide +kernel, rfl, by decide +kernel, by decide +kernel⟩
theorem ok_check_claim {P : Program} {w : World} {K : Fr'} {mg : MG} {base : Heap} (T : Tk K mg) : OkF P w K mg base 3 "check_claim" ["claim"] m_check_claim := by
  have G_is_term := ok_is_term (P := P) (w := w) (base := base) T
  obtain ⟨fd, F⟩ := T.f_check_claim
  refine ⟨T.g_check_claim, F.kp, fd, fnD_F F sc_check_claim fun cdv A outer s H E hr => ?_, F.bindsN fun _ _ _ _ _ _ us hl => match us, hl with | [_], _ => rfl⟩
  have nd : List.Nodup (["claim", "facts", "atoms", "rows", "row", "kinds"] : List Str) := sc_check_claim.nd
  have tk0 : Takes (cxOf (L2.CX P w) P w K mg base ["claim", "facts", "atoms", "rows", "row", "kinds"] "check_claim" (defScope s_check_claim) (He.ga K "check_claim") cdv A outer s H E) (WE' E) := takes_of rfl rfl rfl rfl
  have tk := TK.of tk0
  have po : PassesOwn (model P w) (cxOf (L2.CX P w) P w K mg base ["claim", "facts", "atoms", "rows", "row", "kinds"] "check_claim" (defScope s_check_claim) (He.ga K "check_claim") cdv A outer s H E).A (cxOf (L2.CX P w) P w K mg base ["claim", "facts", "atoms", "rows", "row", "kinds"] "check_claim" (defScope s_check_claim) (He.ga K "check_claim") cdv A outer s H E).env (cxOf (L2.CX P w) P w K mg base ["claim", "facts", "atoms", "rows", "row", "kinds"] "check_claim" (defScope s_check_claim) (He.ga K "check_claim") cdv A outer s H E).xe := passes_of rfl
  exact (SS.cons (S1.ifS (SRT.m (SRT.cmp (b := false) (op_neU (hu2 hr)) p_neU (SR.callB (cr_lenU) p_lenU (by rfl) T.n_len (by decide +kernel) (SRs.cons (SR.var 0) SRs.nil)) SR.int)) (SS.cons (S1.raise T.x_BadClaim tk0 (by rfl))
      SS.nil) SS.nil)
      (SS.cons (S1.asg (SR.m (SR.var 0)) (SG.tupL (by rfl) (SGs.cons (SG.name 1 nd) (SGs.cons (SG.name 2 nd) SGs.nil))))
      (SS.cons (S1.set 3 nd (SR.m (SR.bin op_addU p_addU (SO.sr (SO.lc (by rfl) nd (SI.seq (SR.var 1)) (blkOk_by (own := [("row", 4)]) (by kernel_rfl)) (fun _ _ _ _ _ => (SG.name 4 nd)) (fun _ _ _ _ _ => STs.nil) (fun _ _ _ _ _ => (SR.tup (SRs.cons (SR.var 4) (SRs.cons (SR.tup (SRs.cons SR.str (SRs.cons SR.str SRs.nil))) SRs.nil)))))) (SO.sr (SO.lc (by rfl) nd (SI.seq (SR.var 2)) (blkOk_by (own := [("row", 4)]) (by kernel_rfl)) (fun _ _ _ _ _ => (SG.name 4 nd)) (fun _ _ _ _ _ => STs.nil) (fun _ _ _ _ _ => (SR.tup (SRs.cons (SR.var 4) (SRs.cons (SR.tup (SRs.cons SR.str (SRs.cons SR.str SRs.nil))) SRs.nil)))))))))
      (SS.cons (S1.forS po (by rfl) (SI.m (SI.seq (SR.var 3))) (SG.tupL (by rfl) (SGs.cons (SG.name 4 nd) (SGs.cons (SG.name 5 nd) SGs.nil))) (SS.cons (S1.ifS (SRT.m (SRW.t (SRW.or (SRT.cmp (b := false) (op_neU (hu2 hr)) p_neU (SR.callB (cr_lenU) p_lenU (by rfl) T.n_len (by decide +kernel) (SRs.cons (SR.var 4) SRs.nil)) SR.int) (SRW.or (SRT.cmp (b := false) (op_notInU (hu6 hr)) p_inU (SR.ixU (hu6 hr) (SR.var 4) SR.int) (SR.var 5)) (SRW.or (SRT.not (SRT.val (SR.callD G_is_term hr tk (SRs.cons (SR.ixU (hu6 hr) (SR.var 4) SR.int) SRs.nil)))) (SRW.or1 (SRT.not (SRT.val (SR.callD G_is_term hr tk (SRs.cons (SR.ixU (hu6 hr) (SR.var 4) SR.int) SRs.nil)))))))))) (SS.cons (S1.raise T.x_BadClaim tk0 (by rfl))
      SS.nil) SS.nil)
      SS.nil))
      (SS.cons (S1.ifS (SRT.m (SRW.t (SRW.or (SRT.cmp (b := false) op_gt p_gt (SR.callB (cr_lenU) p_lenU (by rfl) T.n_len (by decide +kernel) (SRs.cons (SR.var 1) SRs.nil)) (SR.gInt T.c_FACTS_MOST)) (SRW.or1 (SRT.cmp (b := false) op_gt p_gt (SR.callB (cr_lenU) p_lenU (by rfl) T.n_len (by decide +kernel) (SRs.cons (SR.var 2) SRs.nil)) (SR.gInt T.c_ATOMS_MOST)))))) (SS.cons (S1.raise T.x_TooLarge tk0 (by rfl))
      SS.nil) SS.nil)
      SS.nil)))))
/-! ### terms_of -/
abbrev s_terms_of : Stmt := topS 20
abbrev NN_terms_of : List Str := ["claim", "facts", "atoms", "row", "term"]
theorem sc_terms_of : FnScope ["claim", "facts", "atoms", "row", "term"] ["claim"] (defScope s_terms_of) := ⟨rfl, rfl, rfl, by decide +kernel, rfl, by decide +kernel, by decide +kernel⟩
theorem ok_terms_of {P : Program} {w : World} {K : Fr'} {mg : MG} {base : Heap} (T : Tk K mg) : OkF P w K mg base 4 "terms_of" ["claim"] m_terms_of := by
  have G_in_order := ok_in_order (P := P) (w := w) (base := base) T
  obtain ⟨fd, F⟩ := T.f_terms_of
  refine ⟨T.g_terms_of, F.kp, fd, fnD_F F sc_terms_of fun cdv A outer s H E hr => ?_, F.bindsN fun _ _ _ _ _ _ us hl => match us, hl with | [_], _ => rfl⟩
  have nd : List.Nodup (["claim", "facts", "atoms", "row", "term"] : List Str) := sc_terms_of.nd
  have tk0 : Takes (cxOf (L2.CX P w) P w K mg base ["claim", "facts", "atoms", "row", "term"] "terms_of" (defScope s_terms_of) (He.ga K "terms_of") cdv A outer s H E) (WE' E) := takes_of rfl rfl rfl rfl
  have tk := TK.of tk0
  have po : PassesOwn (model P w) (cxOf (L2.CX P w) P w K mg base ["claim", "facts", "atoms", "row", "term"] "terms_of" (defScope s_terms_of) (He.ga K "terms_of") cdv A outer s H E).A (cxOf (L2.CX P w) P w K mg base ["claim", "facts", "atoms", "row", "term"] "terms_of" (defScope s_terms_of) (He.ga K "terms_of") cdv A outer s H E).env (cxOf (L2.CX P w) P w K mg base ["claim", "facts", "atoms", "row", "term"] "terms_of" (defScope s_terms_of) (He.ga K "terms_of") cdv A outer s H E).xe := passes_of rfl
  exact (SS.cons (S1.asg (SR.m (SR.var 0)) (SG.tupL (by rfl) (SGs.cons (SG.name 1 nd) (SGs.cons (SG.name 2 nd) SGs.nil))))
      (SS.cons (S1.ret (SR.m (SR.callD G_in_order hr tk (SRs.cons (SO.sr (SO.lc2 (vs1 := [4]) (by rfl) nd (SI.seq (SR.bin op_addU p_addU (SR.callTy (call_tuple_of) p_tuple (by rfl) T.n_tuple (by decide +kernel) (SRs.cons (SR.var 1) SRs.nil)) (SR.callTy (call_tuple_of) p_tuple (by rfl) T.n_tuple (by decide +kernel) (SRs.cons (SR.var 2) SRs.nil)))) (blkOk_by (own := [("row", 3), ("term", 4)]) (by kernel_rfl)) (by decide) (fun _ _ _ _ _ => (SG.name 3 nd)) (fun _ _ _ _ _ => STs.nil) (fun _ _ _ _ _ => (SI.seq (SR.sl (SR.var 3) (SRo.some SR.int) SRo.none))) (fun _ _ _ _ _ => (SG.name 4 nd)) (fun _ _ _ _ _ => STs.nil) (fun _ _ _ _ _ => (SR.var 4)))) SRs.nil))))
      SS.nil))
/-! ### check_over -/
abbrev s_check_over : Stmt := topS 19
abbrev NN_check_over : List Str := ["claim", "names", "term"]
theorem sc_check_over : FnScope ["claim", "names", "term"] ["claim", "names"] (defScope s_check_over) := ⟨rfl, rfl, rfl, by decide +kernel, rfl, by decide +kernel, by decide +kernel⟩
theorem ok_check_over {P : Program} {w : World} {K : Fr'} {mg : MG} {base : Heap} (T : Tk K mg) : OkF P w K mg base 5 "check_over" ["claim", "names"] m_check_over := by
  have G_check_claim := ok_check_claim (P := P) (w := w) (base := base) T
  have G_terms_of := ok_terms_of (P := P) (w := w) (base := base) T
  obtain ⟨fd, F⟩ := T.f_check_over
  refine ⟨T.g_check_over, F.kp, fd, fnD_F F sc_check_over fun cdv A outer s H E hr => ?_, F.bindsN fun _ _ _ _ _ _ us hl => match us, hl with | [_, _], _ => rfl⟩
  have nd : List.Nodup (["claim", "names", "term"] : List Str) := sc_check_over.nd
  have tk0 : Takes (cxOf (L2.CX P w) P w K mg base ["claim", "names", "term"] "check_over" (defScope s_check_over) (He.ga K "check_over") cdv A outer s H E) (WE' E) := takes_of rfl rfl rfl rfl
  have tk := TK.of tk0
  have po : PassesOwn (model P w) (cxOf (L2.CX P w) P w K mg base ["claim", "names", "term"] "check_over" (defScope s_check_over) (He.ga K "check_over") cdv A outer s H E).A (cxOf (L2.CX P w) P w K mg base ["claim", "names", "term"] "check_over" (defScope s_check_over) (He.ga K "check_over") cdv A outer s H E).env (cxOf (L2.CX P w) P w K mg base ["claim", "names", "term"] "check_over" (defScope s_check_over) (He.ga K "check_over") cdv A outer s H E).xe := passes_of rfl
  exact (SS.cons (S1.expr (SR.m (SR.callD G_check_claim hr tk (SRs.cons (SR.var 0) SRs.nil))))
      (SS.cons (S1.ifS (SRT.m (SRT.not (SRT.val (SR.callB (cr_all (by rfl)) p_all (by rfl) T.n_all (by decide +kernel) (SRs.cons (SO.sr (SO.lc (by rfl) nd (SI.seq (SR.callD G_terms_of hr tk (SRs.cons (SR.var 0) SRs.nil))) (blkOk_by (own := [("term", 2)]) (by kernel_rfl)) (fun _ _ _ _ _ => (SG.name 2 nd)) (fun _ _ _ _ _ => STs.nil) (fun _ _ _ _ _ => (SR.or (SR.cmp (op_eqU (hu2 hr)) p_eqU (SR.var 2) (SR.gStr T.c_NIL)) (SR.one (SR.cmp (op_inU (hu6 hr)) p_inU (SR.var 2) (SR.var 1))))))) SRs.nil))))) (SS.cons (S1.raise T.x_BadClaim tk0 (by rfl))
      SS.nil) SS.nil)
      SS.nil))
/-! ### names_of -/
abbrev s_names_of : Stmt := topS 21
abbrev NN_names_of : List Str := ["claim", "term"]
theorem sc_names_of : FnScope ["claim", "term"] ["claim"] (defScope s_names_of) := ⟨rfl, rfl, rfl, by decide +kernel, rfl, by decide +kernel, by decide +kernel⟩
theorem ok_names_of {P : Program} {w : World} {K : Fr'} {mg : MG} {base : Heap} (T : Tk K mg) : OkF P w K mg base 5 "names_of" ["claim"] m_names_of := by
  have G_terms_of := ok_terms_of (P := P) (w := w) (base := base) T
  obtain ⟨fd, F⟩ := T.f_names_of
  refine ⟨T.g_names_of, F.kp, fd, fnD_F F sc_names_of fun cdv A outer s H E hr => ?_, F.bindsN fun _ _ _ _ _ _ us hl => match us, hl with | [_], _ => rfl⟩
  have nd : List.Nodup (["claim", "term"] : List Str) := sc_names_of.nd
  have tk0 : Takes (cxOf (L2.CX P w) P w K mg base ["claim", "term"] "names_of" (defScope s_names_of) (He.ga K "names_of") cdv A outer s H E) (WE' E) := takes_of rfl rfl rfl rfl
  have tk := TK.of tk0
  have po : PassesOwn (model P w) (cxOf (L2.CX P w) P w K mg base ["claim", "term"] "names_of" (defScope s_names_of) (He.ga K "names_of") cdv A outer s H E).A (cxOf (L2.CX P w) P w K mg base ["claim", "term"] "names_of" (defScope s_names_of) (He.ga K "names_of") cdv A outer s H E).env (cxOf (L2.CX P w) P w K mg base ["claim", "term"] "names_of" (defScope s_names_of) (He.ga K "names_of") cdv A outer s H E).xe := passes_of rfl
  exact (SS.cons (S1.ret (SR.m (SO.sr (SO.lc (by rfl) nd (SI.seq (SR.callD G_terms_of hr tk (SRs.cons (SR.var 0) SRs.nil))) (blkOk_by (own := [("term", 1)]) (by kernel_rfl)) (fun _ _ _ _ _ => (SG.name 1 nd)) (fun _ _ _ _ _ => STs.one (SRT.cmp (b := false) (op_neU (hu2 hr)) p_neU (SR.var 1) (SR.gStr T.c_NIL))) (fun _ _ _ _ _ => (SR.var 1))))))
      SS.nil)
/-! ### hidden_of -/
abbrev s_hidden_of : Stmt := topS 22
abbrev NN_hidden_of : List Str := ["claim", "term"]
theorem sc_hidden_of : FnScope ["claim", "term"] ["claim"] (defScope s_hidden_of) := ⟨rfl, rfl, rfl, by decide +kernel, rfl, by decide +kernel, by decide +kernel⟩
theorem ok_hidden_of {P : Program} {w : World} {K : Fr'} {mg : MG} {base : Heap} (T : Tk K mg) : OkF P w K mg base 5 "hidden_of" ["claim"] m_hidden_of := by
  have G_is_hidden := ok_is_hidden (P := P) (w := w) (base := base) T
  have G_terms_of := ok_terms_of (P := P) (w := w) (base := base) T
  obtain ⟨fd, F⟩ := T.f_hidden_of
  refine ⟨T.g_hidden_of, F.kp, fd, fnD_F F sc_hidden_of fun cdv A outer s H E hr => ?_, F.bindsN fun _ _ _ _ _ _ us hl => match us, hl with | [_], _ => rfl⟩
  have nd : List.Nodup (["claim", "term"] : List Str) := sc_hidden_of.nd
  have tk0 : Takes (cxOf (L2.CX P w) P w K mg base ["claim", "term"] "hidden_of" (defScope s_hidden_of) (He.ga K "hidden_of") cdv A outer s H E) (WE' E) := takes_of rfl rfl rfl rfl
  have tk := TK.of tk0
  have po : PassesOwn (model P w) (cxOf (L2.CX P w) P w K mg base ["claim", "term"] "hidden_of" (defScope s_hidden_of) (He.ga K "hidden_of") cdv A outer s H E).A (cxOf (L2.CX P w) P w K mg base ["claim", "term"] "hidden_of" (defScope s_hidden_of) (He.ga K "hidden_of") cdv A outer s H E).env (cxOf (L2.CX P w) P w K mg base ["claim", "term"] "hidden_of" (defScope s_hidden_of) (He.ga K "hidden_of") cdv A outer s H E).xe := passes_of rfl
  exact (SS.cons (S1.ret (SR.m (SO.sr (SO.lc (by rfl) nd (SI.seq (SR.callD G_terms_of hr tk (SRs.cons (SR.var 0) SRs.nil))) (blkOk_by (own := [("term", 1)]) (by kernel_rfl)) (fun _ _ _ _ _ => (SG.name 1 nd)) (fun _ _ _ _ _ => STs.one (SRT.val (SR.callD G_is_hidden hr TK.zero (SRs.cons (SR.var 1) SRs.nil)))) (fun _ _ _ _ _ => (SR.var 1))))))
      SS.nil)
/-! ### fresh_of -/
abbrev s_fresh_of : Stmt := topS 23
abbrev NN_fresh_of : List Str := ["claims", "numbers", "claim", "term"]
theorem sc_fresh_of : FnScope ["claims", "numbers", "claim", "term"] ["claims"] (defScope s_fresh_of) := ⟨rfl, rfl, rfl, by decide +kernel, rfl, by decide +kernel, by decide +kernel⟩
theorem ok_fresh_of {P : Program} {w : World} {K : Fr'} {mg : MG} {base : Heap} (T : Tk K mg) : OkF P w K mg base 6 "fresh_of" ["claims"] m_fresh_of := by
  have G_hidden_of := ok_hidden_of (P := P) (w := w) (base := base) T
  obtain ⟨fd, F⟩ := T.f_fresh_of
  refine ⟨T.g_fresh_of, F.kp, fd, fnD_F F sc_fresh_of fun cdv A outer s H E hr => ?_, F.bindsN fun _ _ _ _ _ _ us hl => match us, hl with | [_], _ => rfl⟩
  have nd : List.Nodup (["claims", "numbers", "claim", "term"] : List Str) := sc_fresh_of.nd
  have tk0 : Takes (cxOf (L2.CX P w) P w K mg base ["claims", "numbers", "claim", "term"] "fresh_of" (defScope s_fresh_of) (He.ga K "fresh_of") cdv A outer s H E) (WE' E) := takes_of rfl rfl rfl rfl
  have tk := TK.of tk0
  have po : PassesOwn (model P w) (cxOf (L2.CX P w) P w K mg base ["claims", "numbers", "claim", "term"] "fresh_of" (defScope s_fresh_of) (He.ga K "fresh_of") cdv A outer s H E).A (cxOf (L2.CX P w) P w K mg base ["claims", "numbers", "claim", "term"] "fresh_of" (defScope s_fresh_of) (He.ga K "fresh_of") cdv A outer s H E).env (cxOf (L2.CX P w) P w K mg base ["claims", "numbers", "claim", "term"] "fresh_of" (defScope s_fresh_of) (He.ga K "fresh_of") cdv A outer s H E).xe := passes_of rfl
  exact (SS.cons (S1.lc2O 1 (vs1 := [3]) (by rfl) nd (SI.seq (SR.var 0)) (blkOk_by (own := [("claim", 2), ("term", 3)]) (by kernel_rfl)) (by decide) (fun _ _ _ _ _ => (SG.name 2 nd)) (fun _ _ _ _ _ => STs.nil) (fun _ _ _ _ _ => (SI.seq (SR.callD G_hidden_of hr TK.zero (SRs.cons (SR.var 2) SRs.nil)))) (fun _ _ _ _ _ => (SG.name 3 nd)) (fun _ _ _ _ _ => STs.nil) (fun _ _ _ _ _ => (SR.callTy (cr_int) p_int (by rfl) T.n_int (by decide +kernel) (SRs.cons (SR.sl (SR.var 3) (SRo.some SR.int) SRo.none) SRs.nil))) (by rfl) (sw_true rfl rfl (by rfl) (by decide +kernel)))
      (SS.frz 1 (SS.cons (S1.ret (SR.m (SR.bin op_addU p_addU SR.str (SR.callTy (call_str_int) p_str (by rfl) T.n_str (by decide +kernel) (SRs.cons (SR.ifE (SRT.cmp (b := false) op_gt p_gt (SR.callB (cr_lenU) p_lenU (by rfl) T.n_len (by decide +kernel) (SRs.cons (SR.var 1) SRs.nil)) SR.int) (SR.bin op_addU p_addU (SR.callB (cr_max (by rfl)) p_max (by rfl) T.n_max (by decide +kernel) (SRs.cons (SR.var 1) SRs.nil)) SR.int) SR.int) SRs.nil)))))
      SS.nil)))
/-! ### _law_checked -/
abbrev s__law_checked : Stmt := topS 36
abbrev NN__law_checked : List Str := ["claim", "names"]
theorem sc__law_checked : FnScope ["claim", "names"] ["claim", "names"] (defScope s__law_checked) := ⟨rfl, rfl, rfl, by decide +kernel, rfl, by decide +kernel, by decide +kernel⟩
theorem ok__law_checked {P : Program} {w : World} {K : Fr'} {mg : MG} {base : Heap} (T : Tk K mg) : OkF P w K mg base 6 "_law_checked" ["claim", "names"] m__law_checked := by
  have G_check_claim := ok_check_claim (P := P) (w := w) (base := base) T
  have G_check_over := ok_check_over (P := P) (w := w) (base := base) T
  obtain ⟨fd, F⟩ := T.f__law_checked
  refine ⟨T.g__law_checked, F.kp, fd, fnD_F F sc__law_checked fun cdv A outer s H E hr => ?_, F.bindsN fun _ _ _ _ _ _ us hl => match us, hl with | [_, _], _ => rfl⟩
  have nd : List.Nodup (["claim", "names"] : List Str) := sc__law_checked.nd
  have tk0 : Takes (cxOf (L2.CX P w) P w K mg base ["claim", "names"] "_law_checked" (defScope s__law_checked) (He.ga K "_law_checked") cdv A outer s H E) (WE' E) := takes_of rfl rfl rfl rfl
  have tk := TK.of tk0
  have po : PassesOwn (model P w) (cxOf (L2.CX P w) P w K mg base ["claim", "names"] "_law_checked" (defScope s__law_checked) (He.ga K "_law_checked") cdv A outer s H E).A (cxOf (L2.CX P w) P w K mg base ["claim", "names"] "_law_checked" (defScope s__law_checked) (He.ga K "_law_checked") cdv A outer s H E).env (cxOf (L2.CX P w) P w K mg base ["claim", "names"] "_law_checked" (defScope s__law_checked) (He.ga K "_law_checked") cdv A outer s H E).xe := passes_of rfl
  exact (SS.cons (S1.tryN (HsN.cons (ex := exT T_BadClaim) ⟨by rfl, by decide, .inl T.x_BadClaim.g⟩ (exT_ok K T.h_BadClaim) (fun a pn => by
        have tk0 := takes0 (X := (cxOf (L2.CX P w) P w K mg base (NN__law_checked) "_law_checked" (defScope s__law_checked) (He.ga K "_law_checked") cdv A outer s H E).suite a pn)
        have tk := TK.of tk0
        exact (SS.cons (S1.ret (SR.m SR.str))
      SS.nil)) (HsN.cons (ex := exT T_TooLarge) ⟨by rfl, by decide, .inl T.x_TooLarge.g⟩ (exT_ok K T.h_TooLarge) (fun a pn => by
        have tk0 := takes0 (X := (cxOf (L2.CX P w) P w K mg base (NN__law_checked) "_law_checked" (defScope s__law_checked) (He.ga K "_law_checked") cdv A outer s H E).suite a pn)
        have tk := TK.of tk0
        exact (SS.cons (S1.ret (SR.m SR.str))
      SS.nil)) HsN.nil)) rfl rfl tk0
      (fun W' pn xe tk0 po => by
        have tk := TK.of tk0
        exact (SS.cons (S1.ifS (SRT.m (SRT.cmp (b := false) op_isU p_isU (SR.var 1) SR.non)) (SS.cons (S1.expr (SR.m (SR.callD G_check_claim hr tk (SRs.cons (SR.var 0) SRs.nil))))
      SS.nil) (SS.cons (S1.expr (SR.m (SR.callD G_check_over hr tk (SRs.cons (SR.var 0) (SRs.cons (SR.var 1) SRs.nil)))))
      SS.nil))
      SS.nil)))
      (SS.cons (S1.ret (SR.m SR.str))
      SS.nil))
/-! ### law -/
abbrev s_law : Stmt := topS 40
abbrev NN_law : List Str := ["script", "tape", "first", "second", "rows", "terms", "row", "term", "hidden", "other", "moved", "k", "t", "wrong"]
theorem sc_law : FnScope ["script", "tape", "first", "second", "rows", "terms", "row", "term", "hidden", "other", "moved", "k", "t", "wrong"] ["script"] (defScope s_law) := ⟨rfl, rfl, rfl, by decide +kernel, rfl, by decide +kernel, by decide +kernel⟩
theorem fn_law {P : Program} {w : World} {K : Fr'} {mg : MG} {base : Heap} {fd : FuncData} (T : Tk K mg) (F : FunD K "law" "law" (defArgs s_law) (defBody s_law) (defScope s_law) [] [] (He.ga K "law") fd) : FnOk P w K mg base (L2.CX P w) 7 (He.ga K "law") fd ["script"] (spF K mg m_law) := by
  have G__law_checked := ok__law_checked (P := P) (w := w) (base := base) T
  have G__law_claim := ok__law_claim (P := P) (w := w) (base := base) T
  have G__law_draw := ok__law_draw (P := P) (w := w) (base := base) T
  have G__law_is := ok__law_is (P := P) (w := w) (base := base) T
  have G__law_moved := ok__law_moved (P := P) (w := w) (base := base) T
  have G__law_order := ok__law_order (P := P) (w := w) (base := base) T
  have G__law_tape := ok__law_tape (P := P) (w := w) (base := base) T
  have G_atoms_in_place := ok_atoms_in_place (P := P) (w := w) (base := base) T
  have G_fresh_of := ok_fresh_of (P := P) (w := w) (base := base) T
  have G_hidden_of := ok_hidden_of (P := P) (w := w) (base := base) T
  have G_names_of := ok_names_of (P := P) (w := w) (base := base) T
  have G_put_for := ok_put_for (P := P) (w := w) (base := base) T
  have G_segments_of := ok_segments_of (P := P) (w := w) (base := base) T
  have G_star := ok_star (P := P) (w := w) (base := base) T
  have G_terms_of := ok_terms_of (P := P) (w := w) (base := base) T
  have G_with_fact := ok_with_fact (P := P) (w := w) (base := base) T
  have G_without_atom := ok_without_atom (P := P) (w := w) (base := base) T
  refine fnD_F F sc_law fun cdv A outer s H E hr => ?_
  have nd : List.Nodup (["script", "tape", "first", "second", "rows", "terms", "row", "term", "hidden", "other", "moved", "k", "t", "wrong"] : List Str) := sc_law.nd
  have tk0 : Takes (cxOf (L2.CX P w) P w K mg base ["script", "tape", "first", "second", "rows", "terms", "row", "term", "hidden", "other", "moved", "k", "t", "wrong"] "law" (defScope s_law) (He.ga K "law") cdv A outer s H E) (WE' E) := takes_of rfl rfl rfl rfl
  have tk := TK.of tk0
  have po : PassesOwn (model P w) (cxOf (L2.CX P w) P w K mg base ["script", "tape", "first", "second", "rows", "terms", "row", "term", "hidden", "other", "moved", "k", "t", "wrong"] "law" (defScope s_law) (He.ga K "law") cdv A outer s H E).A (cxOf (L2.CX P w) P w K mg base ["script", "tape", "first", "second", "rows", "terms", "row", "term", "hidden", "other", "moved", "k", "t", "wrong"] "law" (defScope s_law) (He.ga K "law") cdv A outer s H E).env (cxOf (L2.CX P w) P w K mg base ["script", "tape", "first", "second", "rows", "terms", "row", "term", "hidden", "other", "moved", "k", "t", "wrong"] "law" (defScope s_law) (He.ga K "law") cdv A outer s H E).xe := passes_of rfl
  exact (SS.cons (S1.own 1 nd (SO.callN G__law_tape hr tk (SRs.cons (SR.var 0) SRs.nil)))
      (SS.cons (S1.set 2 nd (SM.callD 1 G__law_claim hr tk (SMs.cons (SR.m (SO.sr (SO.lst (SRs.cons SR.str (SRs.cons SR.str (SRs.cons SR.str (SRs.cons SR.str SRs.nil))))))) (SMs.cons (SR.m SR.int) SMs.nil))))
      (SS.cons (S1.set 3 nd (SM.callD 1 G__law_claim hr tk (SMs.cons (SR.m (SO.sr (SO.lst (SRs.cons SR.str (SRs.cons SR.str (SRs.cons SR.str SRs.nil)))))) (SMs.cons (SR.m SR.int) SMs.nil))))
      (SS.cons (S1.set 4 nd (SR.m (SR.bin op_addU p_addU (SR.ixU (hu6 hr) (SR.var 2) SR.int) (SR.ixU (hu6 hr) (SR.var 2) SR.int))))
      (SS.cons (S1.set 5 nd (SR.m (SR.callD G__law_order hr tk (SRs.cons (SR.bin op_addU p_addU (SO.sr (SO.lc (by rfl) nd (SI.seq (SR.var 4)) (blkOk_by (own := [("row", 6)]) (by kernel_rfl)) (fun _ _ _ _ _ => (SG.name 6 nd)) (fun _ _ _ _ _ => STs.nil) (fun _ _ _ _ _ => (SR.ixU (hu6 hr) (SR.var 6) SR.int)))) (SO.sr (SO.lc (by rfl) nd (SI.seq (SR.var 4)) (blkOk_by (own := [("row", 6)]) (by kernel_rfl)) (fun _ _ _ _ _ => (SG.name 6 nd)) (fun _ _ _ _ _ => STs.nil) (fun _ _ _ _ _ => (SR.ixU (hu6 hr) (SR.var 6) SR.int))))) SRs.nil))))
      (SS.cons (S1.ifS (SRT.m (SRW.t (SRW.or (SRT.not (SRT.val (SR.callD G__law_is hr tk (SRs.cons (SR.callD G_terms_of hr tk (SRs.cons (SR.var 2) SRs.nil)) (SRs.cons (SR.var 5) SRs.nil))))) (SRW.or1 (SRT.not (SRT.val (SR.callD G__law_is hr tk (SRs.cons (SR.callD G_names_of hr tk (SRs.cons (SR.var 2) SRs.nil)) (SRs.cons (SO.sr (SO.lc (by rfl) nd (SI.seq (SR.var 5)) (blkOk_by (own := [("term", 7)]) (by kernel_rfl)) (fun _ _ _ _ _ => (SG.name 7 nd)) (fun _ _ _ _ _ => STs.one (SRT.cmp (b := false) (op_neU (hu2 hr)) p_neU (SR.var 7) SR.str)) (fun _ _ _ _ _ => (SR.var 7)))) SRs.nil))))))))) (SS.cons (S1.ret (SR.m SR.bl))
      SS.nil) SS.nil)
      (SS.cons (S1.lcO 8 false (by rfl) nd (SI.seq (SR.var 5)) (blkOk_by (own := [("term", 7)]) (by kernel_rfl)) (fun _ _ _ _ _ => (SG.name 7 nd)) (fun _ _ _ _ _ => STs.one (SRT.cmp (b := false) (op_eqU (hu2 hr)) p_eqU (SR.ixU (hu6 hr) (SR.var 7) SR.int) SR.str)) (fun _ _ _ _ _ => (SR.var 7)) (by rfl) (sw_true rfl rfl (by rfl) (by decide +kernel)))
      (SS.frz 8 (SS.cons (S1.ifS (SRT.m (SRW.t (SRW.or (SRT.not (SRT.val (SR.callD G__law_is hr tk (SRs.cons (SR.callD G_hidden_of hr tk (SRs.cons (SR.var 2) SRs.nil)) (SRs.cons (SR.var 8) SRs.nil))))) (SRW.or1 (SRT.cmp (b := false) (op_neU (hu2 hr)) p_neU (SR.callD G_fresh_of hr tk (SRs.cons (SO.sr (SO.lst (SRs.cons (SR.var 2) (SRs.cons (SR.var 3) SRs.nil)))) SRs.nil)) (SR.bin op_addU p_addU SR.str (SR.callTy (call_str_int) p_str (by rfl) T.n_str (by decide +kernel) (SRs.cons (SR.bin op_addU p_addU SR.int (SR.callB (cr_max (by rfl)) p_max (by rfl) T.n_max (by decide +kernel) (SRs.cons (SR.bin op_addU p_addU (SO.sr (SO.lst (SRs.cons (SR.bin op_sub p_sub SR.int SR.int) SRs.nil))) (SO.sr (SO.lc (by rfl) nd (SI.seq (SR.bin op_addU p_addU (SR.var 8) (SR.callD G_hidden_of hr tk (SRs.cons (SR.var 3) SRs.nil)))) (blkOk_by (own := [("term", 7)]) (by kernel_rfl)) (fun _ _ _ _ _ => (SG.name 7 nd)) (fun _ _ _ _ _ => STs.nil) (fun _ _ _ _ _ => (SR.callTy (cr_int) p_int (by rfl) T.n_int (by decide +kernel) (SRs.cons (SR.sl (SR.var 7) (SRo.some SR.int) SRo.none) SRs.nil)))))) SRs.nil))) SRs.nil)))))))) (SS.cons (S1.ret (SR.m SR.bl))
      SS.nil) SS.nil)
      (SS.cons (S1.set 9 nd (SM.disp (SPM.cons (SR.m SR.str) (SM.ixU (hu6 hr) (SR.m (SO.sr (SO.lst (SRs.cons SR.str (SRs.cons SR.str (SRs.cons SR.str SRs.nil)))))) (SM.callD 1 G__law_draw hr tk (SMs.cons (SR.m SR.int) SMs.nil))) (SPM.cons (SR.m SR.str) (SR.m SR.str) SPM.nil))))
      (SS.cons (S1.set 10 nd (SR.m (SO.sr (SO.lst (SRs.cons (SR.callD G__law_moved hr tk (SRs.cons (SR.ixU (hu6 hr) (SR.var 2) SR.int) (SRs.cons (SR.var 9) SRs.nil))) (SRs.cons (SR.callD G__law_moved hr tk (SRs.cons (SR.ixU (hu6 hr) (SR.var 2) SR.int) (SRs.cons (SR.var 9) SRs.nil))) SRs.nil))))))
      (SS.cons (S1.ifS (SRT.m (SRW.t (SRW.or (SRT.cmp (b := false) (op_neU (hu2 hr)) p_neU (SR.callD G_put_for hr tk (SRs.cons (SR.var 2) (SRs.cons (SR.var 9) SRs.nil))) (SR.tup (SRs.cons (SR.callTy (call_tuple_of) p_tuple (by rfl) T.n_tuple (by decide +kernel) (SRs.cons (SR.ixU (hu6 hr) (SR.var 10) SR.int) SRs.nil)) (SRs.cons (SR.callTy (call_tuple_of) p_tuple (by rfl) T.n_tuple (by decide +kernel) (SRs.cons (SR.ixU (hu6 hr) (SR.var 10) SR.int) SRs.nil)) SRs.nil)))) (SRW.or1 (SRT.cmp (b := false) (op_neU (hu2 hr)) p_neU (SR.callD G_star hr tk (SRs.cons (SR.var 2) (SRs.cons (SR.var 3) SRs.nil))) (SR.tup (SRs.cons (SR.bin op_addU p_addU (SR.ixU (hu6 hr) (SR.var 2) SR.int) (SR.ixU (hu6 hr) (SR.var 3) SR.int)) (SRs.cons (SR.bin op_addU p_addU (SR.ixU (hu6 hr) (SR.var 2) SR.int) (SR.ixU (hu6 hr) (SR.var 3) SR.int)) SRs.nil)))))))) (SS.cons (S1.ret (SR.m SR.bl))
      SS.nil) SS.nil)
      (SS.cons (S1.ifS (SRT.m (SRW.t (SRW.or (SRT.cmp (b := false) (op_neU (hu2 hr)) p_neU (SR.callD G_with_fact hr tk (SRs.cons (SR.var 2) (SRs.cons (SR.tup (SRs.cons SR.str (SRs.cons SR.str (SRs.cons SR.str SRs.nil)))) SRs.nil))) (SR.tup (SRs.cons (SR.bin op_addU p_addU (SR.ixU (hu6 hr) (SR.var 2) SR.int) (SR.tup (SRs.cons (SR.tup (SRs.cons SR.str (SRs.cons SR.str (SRs.cons SR.str SRs.nil)))) SRs.nil))) (SRs.cons (SR.ixU (hu6 hr) (SR.var 2) SR.int) SRs.nil)))) (SRW.or1 (SRT.cmp (b := false) (op_neU (hu2 hr)) p_neU (SR.callD G_segments_of hr tk (SRs.cons (SR.var 2) SRs.nil)) (SO.sr (SO.lc (by rfl) nd (SI.rng1 (by rfl) T.n_range (SRs.cons (SR.callB (cr_lenU) p_lenU (by rfl) T.n_len (by decide +kernel) (SRs.cons (SR.ixU (hu6 hr) (SR.var 2) SR.int) SRs.nil)) SRs.nil)) (blkOk_by (own := [("k", 11)]) (by kernel_rfl)) (fun _ _ _ _ _ => (SG.name 11 nd)) (fun _ _ _ _ _ => STs.one (SRT.cmp (b := false) (op_eqU (hu2 hr)) p_eqU (SR.ixU (hu6 hr) (SR.ixU (hu6 hr) (SR.ixU (hu6 hr) (SR.var 2) SR.int) (SR.var 11)) SR.int) SR.str)) (fun _ _ _ _ _ => (SR.var 11))))))))) (SS.cons (S1.ret (SR.m SR.bl))
      SS.nil) SS.nil)
      (SS.cons (S1.ifS (SRT.m (SRT.cmp (b := false) op_gt p_gt (SR.callB (cr_lenU) p_lenU (by rfl) T.n_len (by decide +kernel) (SRs.cons (SR.ixU (hu6 hr) (SR.var 2) SR.int) SRs.nil)) SR.int)) (SS.cons (S1.set 11 nd (SM.callD 1 G__law_draw hr tk (SMs.cons (SR.m (SR.callB (cr_lenU) p_lenU (by rfl) T.n_len (by decide +kernel) (SRs.cons (SR.ixU (hu6 hr) (SR.var 2) SR.int) SRs.nil))) SMs.nil)))
      (SS.cons (S1.ifS (SRT.m (SRW.t (SRW.or (SRT.cmp (b := false) (op_neU (hu2 hr)) p_neU (SR.callD G_without_atom hr tk (SRs.cons (SR.var 2) (SRs.cons (SR.var 11) SRs.nil))) (SR.tup (SRs.cons (SR.ixU (hu6 hr) (SR.var 2) SR.int) (SRs.cons (SR.bin op_addU p_addU (SR.sl (SR.ixU (hu6 hr) (SR.var 2) SR.int) SRo.none (SRo.some (SR.var 11))) (SR.sl (SR.ixU (hu6 hr) (SR.var 2) SR.int) (SRo.some (SR.bin op_addU p_addU (SR.var 11) SR.int)) SRo.none)) SRs.nil)))) (SRW.or1 (SRT.cmp (b := false) (op_neU (hu2 hr)) p_neU (SR.callD G_atoms_in_place hr tk (SRs.cons (SR.var 2) (SRs.cons (SR.var 11) (SRs.cons (SR.ixU (hu6 hr) (SR.var 3) SR.int) SRs.nil)))) (SR.tup (SRs.cons (SR.ixU (hu6 hr) (SR.var 2) SR.int) (SRs.cons (SR.bin op_addU p_addU (SR.bin op_addU p_addU (SR.sl (SR.ixU (hu6 hr) (SR.var 2) SR.int) SRo.none (SRo.some (SR.var 11))) (SR.ixU (hu6 hr) (SR.var 3) SR.int)) (SR.sl (SR.ixU (hu6 hr) (SR.var 2) SR.int) (SRo.some (SR.bin op_addU p_addU (SR.var 11) SR.int)) SRo.none)) SRs.nil)))))))) (SS.cons (S1.ret (SR.m SR.bl))
      SS.nil) SS.nil)
      SS.nil)) SS.nil)
      (SS.cons (S1.ifS (SRT.m (SRW.t (SRW.or (SRT.cmp (b := false) (op_neU (hu2 hr)) p_neU (SR.gStr T.c_NIL) SR.str) (SRW.or (SRT.cmp (b := false) (op_neU (hu2 hr)) p_neU (SR.gCon T.c_NEVER T.t_NEVER) (SR.tup (SRs.cons (SR.tup (SRs.cons (SR.tup (SRs.cons SR.str (SRs.cons SR.str (SRs.cons SR.str SRs.nil)))) SRs.nil)) (SRs.cons (SR.tup SRs.nil) SRs.nil)))) (SRW.or1 (SRT.cmp (b := false) (op_neU (hu2 hr)) p_neU (SR.callD G__law_checked hr tk (SRs.cons (SR.var 2) (SRs.cons SR.non SRs.nil))) SR.str)))))) (SS.cons (S1.ret (SR.m SR.bl))
      SS.nil) SS.nil)
      (SS.cons (S1.ifS (SRT.m (SRW.t (SRW.or (SRT.cmp (b := false) (op_neU (hu2 hr)) p_neU (SR.callD G__law_checked hr tk (SRs.cons (SR.var 2) (SRs.cons (SO.sr (SO.lst (SRs.cons SR.str (SRs.cons SR.str (SRs.cons SR.str (SRs.cons SR.str SRs.nil)))))) SRs.nil))) SR.str) (SRW.or1 (SRT.cmp (b := false) (op_neU (hu2 hr)) p_neU (SR.callD G__law_checked hr tk (SRs.cons (SR.var 2) (SRs.cons (SO.sr (SO.lst (SRs.cons SR.str SRs.nil))) SRs.nil))) (SR.ifE (SRT.cmp (b := false) (op_eqU (hu2 hr)) p_eqU (SO.sr (SO.lc (by rfl) nd (SI.seq (SR.var 5)) (blkOk_by (own := [("t", 12)]) (by kernel_rfl)) (fun _ _ _ _ _ => (SG.name 12 nd)) (fun _ _ _ _ _ => STs.one (SRT.cmp (b := false) (op_notInU (hu6 hr)) p_inU (SR.var 12) (SO.sr (SO.lst (SRs.cons SR.str (SRs.cons SR.str SRs.nil)))))) (fun _ _ _ _ _ => (SR.var 12)))) (SO.sr (SO.lst SRs.nil))) SR.str SR.str)))))) (SS.cons (S1.ret (SR.m SR.bl))
      SS.nil) SS.nil)
      (SS.cons (S1.set 13 nd (SR.m (SO.sr (SO.lst (SRs.cons (SR.tup (SRs.cons (SR.tup (SRs.cons (SR.tup (SRs.cons SR.str (SRs.cons SR.str (SRs.cons SR.str SRs.nil)))) SRs.nil)) (SRs.cons (SR.tup SRs.nil) SRs.nil))) (SRs.cons (SR.tup (SRs.cons (SR.tup (SRs.cons (SR.tup (SRs.cons SR.str (SRs.cons SR.str (SRs.cons SR.str SRs.nil)))) SRs.nil)) (SRs.cons (SR.tup SRs.nil) SRs.nil))) (SRs.cons (SR.tup (SRs.cons (SR.tup SRs.nil) (SRs.cons (SR.tup (SRs.cons (SR.tup (SRs.cons SR.str (SRs.cons SR.str SRs.nil))) SRs.nil)) SRs.nil))) (SRs.cons (SR.tup (SRs.cons (SR.tup SRs.nil) (SRs.cons (SR.tup (SRs.cons (SR.tup (SRs.cons SR.str (SRs.cons SR.str (SRs.cons SR.str SRs.nil)))) SRs.nil)) SRs.nil))) (SRs.cons (SR.tup (SRs.cons (SR.tup SRs.nil) SRs.nil)) (SRs.cons (SR.tup (SRs.cons (SR.tup (SRs.cons (SR.tup (SRs.cons SR.str (SRs.cons SR.str (SRs.cons SR.str SRs.nil)))) SRs.nil)) (SRs.cons (SR.tup SRs.nil) SRs.nil))) (SRs.cons (SR.tup (SRs.cons (SR.tup SRs.nil) (SRs.cons (SR.bin op_repT p_repT (SR.tup (SRs.cons (SR.tup (SRs.cons SR.str (SRs.cons SR.str (SRs.cons SR.str SRs.nil)))) SRs.nil)) SR.int) SRs.nil))) (SRs.cons (SR.tup (SRs.cons (SR.bin op_repT p_repT (SR.tup (SRs.cons (SR.tup (SRs.cons SR.str (SRs.cons SR.str (SRs.cons SR.str SRs.nil)))) SRs.nil)) SR.int) (SRs.cons (SR.tup SRs.nil) SRs.nil))) SRs.nil))))))))))))
      (SS.cons (S1.set 11 nd (SM.callD 1 G__law_draw hr tk (SMs.cons (SR.m SR.int) SMs.nil)))
      (SS.frz 1 (SS.cons (S1.ret (SR.m (SR.and (SR.cmp (op_eqU (hu2 hr)) p_eqU (SR.callD G__law_checked hr tk (SRs.cons (SR.ixU (hu6 hr) (SR.var 13) (SR.var 11)) (SRs.cons SR.non SRs.nil))) (SR.ifE (SRT.cmp (b := false) op_gt p_gt (SR.var 11) SR.int) SR.str SR.str)) (SR.one (SR.cmp (op_eqU (hu2 hr)) p_eqU (SR.callD G__law_checked hr tk (SRs.cons (SR.tup (SRs.cons (SR.bin op_repT p_repT (SR.tup (SRs.cons (SR.tup (SRs.cons SR.str (SRs.cons SR.str (SRs.cons SR.str SRs.nil)))) SRs.nil)) SR.int) (SRs.cons (SR.bin op_repT p_repT (SR.tup (SRs.cons (SR.tup (SRs.cons SR.str (SRs.cons SR.str (SRs.cons SR.str SRs.nil)))) SRs.nil)) SR.int) SRs.nil))) (SRs.cons SR.non SRs.nil))) SR.str)))))
      SS.nil))))))))))))))))))))
end K04

namespace K04
open PySem PySem.Spec L2 VL
def d_is_name : He.DefD := ⟨("is_name", none), "is_name", "is_name", defArgs (topS 13), defBody (topS 13), defScope (topS 13), [], []⟩
def d_is_hidden : He.DefD := ⟨("is_hidden", none), "is_hidden", "is_hidden", defArgs (topS 14), defBody (topS 14), defScope (topS 14), [], []⟩
def d_is_term : He.DefD := ⟨("is_term", none), "is_term", "is_term", defArgs (topS 15), defBody (topS 15), defScope (topS 15), [], []⟩
def d_order_of : He.DefD := ⟨("order_of", none), "order_of", "order_of", defArgs (topS 16), defBody (topS 16), defScope (topS 16), [], []⟩
def d_in_order : He.DefD := ⟨("in_order", none), "in_order", "in_order", defArgs (topS 17), defBody (topS 17), defScope (topS 17), [], []⟩
def d_check_claim : He.DefD := ⟨("check_claim", none), "check_claim", "check_claim", defArgs (topS 18), defBody (topS 18), defScope (topS 18), [], []⟩
def d_check_over : He.DefD := ⟨("check_over", none), "check_over", "check_over", defArgs (topS 19), defBody (topS 19), defScope (topS 19), [], []⟩
def d_terms_of : He.DefD := ⟨("terms_of", none), "terms_of", "terms_of", defArgs (topS 20), defBody (topS 20), defScope (topS 20), [], []⟩
def d_names_of : He.DefD := ⟨("names_of", none), "names_of", "names_of", defArgs (topS 21), defBody (topS 21), defScope (topS 21), [], []⟩
def d_hidden_of : He.DefD := ⟨("hidden_of", none), "hidden_of", "hidden_of", defArgs (topS 22), defBody (topS 22), defScope (topS 22), [], []⟩
def d_fresh_of : He.DefD := ⟨("fresh_of", none), "fresh_of", "fresh_of", defArgs (topS 23), defBody (topS 23), defScope (topS 23), [], []⟩
def d_row_put_for : He.DefD := ⟨("row_put_for", none), "row_put_for", "row_put_for", defArgs (topS 24), defBody (topS 24), defScope (topS 24), [], []⟩
def d_put_for : He.DefD := ⟨("put_for", none), "put_for", "put_for", defArgs (topS 25), defBody (topS 25), defScope (topS 25), [], []⟩
def d_star : He.DefD := ⟨("star", none), "star", "star", defArgs (topS 26), defBody (topS 26), defScope (topS 26), [], []⟩
def d_with_fact : He.DefD := ⟨("with_fact", none), "with_fact", "with_fact", defArgs (topS 27), defBody (topS 27), defScope (topS 27), [], []⟩
def d_without_atom : He.DefD := ⟨("without_atom", none), "without_atom", "without_atom", defArgs (topS 28), defBody (topS 28), defScope (topS 28), [], []⟩
def d_atoms_in_place : He.DefD := ⟨("atoms_in_place", none), "atoms_in_place", "atoms_in_place", defArgs (topS 29), defBody (topS 29), defScope (topS 29), [], []⟩
def d_segments_of : He.DefD := ⟨("segments_of", none), "segments_of", "segments_of", defArgs (topS 30), defBody (topS 30), defScope (topS 30), [], []⟩
def d__law_is : He.DefD := ⟨("_law_is", none), "_law_is", "_law_is", defArgs (topS 32), defBody (topS 32), defScope (topS 32), [], []⟩
def d__law_draw : He.DefD := ⟨("_law_draw", none), "_law_draw", "_law_draw", defArgs (topS 33), defBody (topS 33), defScope (topS 33), [], []⟩
def d__law_tape : He.DefD := ⟨("_law_tape", none), "_law_tape", "_law_tape", defArgs (topS 34), defBody (topS 34), defScope (topS 34), [], []⟩
def d__law_claim : He.DefD := ⟨("_law_claim", none), "_law_claim", "_law_claim", defArgs (topS 35), defBody (topS 35), defScope (topS 35), [], []⟩
def d__law_checked : He.DefD := ⟨("_law_checked", none), "_law_checked", "_law_checked", defArgs (topS 36), defBody (topS 36), defScope (topS 36), [], []⟩
def d__law_key : He.DefD := ⟨("_law_key", none), "_law_key", "_law_key", defArgs (topS 37), defBody (topS 37), defScope (topS 37), [], []⟩
def d__law_order : He.DefD := ⟨("_law_order", none), "_law_order", "_law_order", defArgs (topS 38), defBody (topS 38), defScope (topS 38), [], []⟩
def d__law_moved : He.DefD := ⟨("_law_moved", none), "_law_moved", "_law_moved", defArgs (topS 39), defBody (topS 39), defScope (topS 39), [], []⟩
def d_law : He.DefD := ⟨("law", none), "law", "law", defArgs (topS 40), defBody (topS 40), defScope (topS 40), [], []⟩
def fa0 : List He.Fa := [.glo "is_name", .glo "is_hidden", .glo "is_term", .glo "order_of", .glo "in_order", .glo "check_claim", .glo "check_over", .glo "terms_of", .glo "names_of", .glo "hidden_of", .glo "fresh_of", .glo "row_put_for", .glo "put_for", .glo "star", .glo "with_fact", .glo "without_atom", .glo "atoms_in_place", .glo "segments_of", .glo "_law_is", .glo "_law_draw", .glo "_law_tape", .glo "_law_claim", .glo "_law_checked", .glo "_law_key", .glo "_law_order", .glo "_law_moved", .glo "law", .free "all", .free "bool", .free "enumerate"]
def fa1 : List He.Fa := [.free "int", .free "isinstance", .free "len", .free "list", .free "max", .free "range", .free "set", .free "sorted", .free "str", .free "tuple", .int "ATOMS_MOST" 12, .str "DIGITS" "0123456789", .int "FACTS_MOST" 20, .int "NAME_MOST" 12, .glo "NEVER", .str "NIL" "nil", .glo "RESERVED", .str "SMALL" "abcdefghijklmnopqrstuvwxyz", .glo "BadClaim", .glo "TooLarge", .exm "BadClaim" "BadClaim" true, .exm "TooLarge" "BadClaim" false, .exm "BadClaim" "TooLarge" false, .exm "TooLarge" "TooLarge" true]
def fa : List He.Fa := fa0 ++ fa1
def fn0 : List He.DefD := [d_is_name, d_is_hidden, d_is_term, d_order_of, d_in_order, d_check_claim, d_check_over, d_terms_of, d_names_of, d_hidden_of, d_fresh_of, d_row_put_for, d_put_for, d_star, d_with_fact, d_without_atom, d_atoms_in_place, d_segments_of, d__law_is, d__law_draw, d__law_tape, d__law_claim, d__law_checked, d__law_key, d__law_order, d__law_moved, d_law]
def fn : List He.DefD := fn0
def ex : List Str := ["BadClaim", "TooLarge"]
def tb : CnD := [("NEVER", t_NEVER), ("RESERVED", t_RESERVED)]
def loose0 : List Str := ["CellError", "BadClaim", "TooLarge", "RESERVED", "SMALL", "DIGITS", "NAME_MOST", "FACTS_MOST", "ATOMS_MOST", "NIL", "NEVER", "is_name", "is_hidden", "is_term", "order_of", "in_order", "check_claim", "check_over", "terms_of", "names_of", "hidden_of", "fresh_of", "row_put_for", "put_for", "star", "with_fact", "without_atom", "atoms_in_place", "segments_of", "_law_is"]
def loose1 : List Str := ["_law_draw", "_law_tape", "_law_claim", "_law_checked", "_law_key", "_law_order", "_law_moved"]
def loose : List Str := loose0 ++ loose1
abbrev R : PySem.W.OpenRow := PySem.W.OpenLaw.row PySem.Challenge.rw_strayless_k04_claims
abbrev hk : PySem.W.Hook := hookZ 4 fa fn tb ex
def ob (s : PySem.W.SharedT) : He.AlD := obsZG 4 fa fn tb ex (HandSHeadRun.getT s)
theorem ob_eq (s : PySem.W.SharedT) : ob s = hk.obs s.abs := obsZG_eq (HandSHeadRun.getT_eq s)
theorem run (w : World) : HandSHeadRun.RunEq R (PySem.W.view R.prog [40]) hk ob 3000 loose w := by
  intro os; kernel_rfl
theorem tk_ok {K : Fr'} {h : Heap} {mg : MG} (X : K.In h) (G : h.Ns mainGlobals mg) (c : SaysZ fa fn tb ex K) : Tk K mg where
  g_is_name := He.glo_ok X G (c.fact 0 (f := .glo "is_name") rfl)
  f_is_name := c.def_ 0 (d := d_is_name) rfl
  g_is_hidden := He.glo_ok X G (c.fact 1 (f := .glo "is_hidden") rfl)
  f_is_hidden := c.def_ 1 (d := d_is_hidden) rfl
  g_is_term := He.glo_ok X G (c.fact 2 (f := .glo "is_term") rfl)
  f_is_term := c.def_ 2 (d := d_is_term) rfl
  g_order_of := He.glo_ok X G (c.fact 3 (f := .glo "order_of") rfl)
  f_order_of := c.def_ 3 (d := d_order_of) rfl
  g_in_order := He.glo_ok X G (c.fact 4 (f := .glo "in_order") rfl)
  f_in_order := c.def_ 4 (d := d_in_order) rfl
  g_check_claim := He.glo_ok X G (c.fact 5 (f := .glo "check_claim") rfl)
  f_check_claim := c.def_ 5 (d := d_check_claim) rfl
  g_check_over := He.glo_ok X G (c.fact 6 (f := .glo "check_over") rfl)
  f_check_over := c.def_ 6 (d := d_check_over) rfl
  g_terms_of := He.glo_ok X G (c.fact 7 (f := .glo "terms_of") rfl)
  f_terms_of := c.def_ 7 (d := d_terms_of) rfl
  g_names_of := He.glo_ok X G (c.fact 8 (f := .glo "names_of") rfl)
  f_names_of := c.def_ 8 (d := d_names_of) rfl
  g_hidden_of := He.glo_ok X G (c.fact 9 (f := .glo "hidden_of") rfl)
  f_hidden_of := c.def_ 9 (d := d_hidden_of) rfl
  g_fresh_of := He.glo_ok X G (c.fact 10 (f := .glo "fresh_of") rfl)
  f_fresh_of := c.def_ 10 (d := d_fresh_of) rfl
  g_row_put_for := He.glo_ok X G (c.fact 11 (f := .glo "row_put_for") rfl)
  f_row_put_for := c.def_ 11 (d := d_row_put_for) rfl
  g_put_for := He.glo_ok X G (c.fact 12 (f := .glo "put_for") rfl)
  f_put_for := c.def_ 12 (d := d_put_for) rfl
  g_star := He.glo_ok X G (c.fact 13 (f := .glo "star") rfl)
  f_star := c.def_ 13 (d := d_star) rfl
  g_with_fact := He.glo_ok X G (c.fact 14 (f := .glo "with_fact") rfl)
  f_with_fact := c.def_ 14 (d := d_with_fact) rfl
  g_without_atom := He.glo_ok X G (c.fact 15 (f := .glo "without_atom") rfl)
  f_without_atom := c.def_ 15 (d := d_without_atom) rfl
  g_atoms_in_place := He.glo_ok X G (c.fact 16 (f := .glo "atoms_in_place") rfl)
  f_atoms_in_place := c.def_ 16 (d := d_atoms_in_place) rfl
  g_segments_of := He.glo_ok X G (c.fact 17 (f := .glo "segments_of") rfl)
  f_segments_of := c.def_ 17 (d := d_segments_of) rfl
  g__law_is := He.glo_ok X G (c.fact 18 (f := .glo "_law_is") rfl)
  f__law_is := c.def_ 18 (d := d__law_is) rfl
  g__law_draw := He.glo_ok X G (c.fact 19 (f := .glo "_law_draw") rfl)
  f__law_draw := c.def_ 19 (d := d__law_draw) rfl
  g__law_tape := He.glo_ok X G (c.fact 20 (f := .glo "_law_tape") rfl)
  f__law_tape := c.def_ 20 (d := d__law_tape) rfl
  g__law_claim := He.glo_ok X G (c.fact 21 (f := .glo "_law_claim") rfl)
  f__law_claim := c.def_ 21 (d := d__law_claim) rfl
  g__law_checked := He.glo_ok X G (c.fact 22 (f := .glo "_law_checked") rfl)
  f__law_checked := c.def_ 22 (d := d__law_checked) rfl
  g__law_key := He.glo_ok X G (c.fact 23 (f := .glo "_law_key") rfl)
  f__law_key := c.def_ 23 (d := d__law_key) rfl
  g__law_order := He.glo_ok X G (c.fact 24 (f := .glo "_law_order") rfl)
  f__law_order := c.def_ 24 (d := d__law_order) rfl
  g__law_moved := He.glo_ok X G (c.fact 25 (f := .glo "_law_moved") rfl)
  f__law_moved := c.def_ 25 (d := d__law_moved) rfl
  g_law := He.glo_ok X G (c.fact 26 (f := .glo "law") rfl)
  f_law := c.def_ 26 (d := d_law) rfl
  n_all := He.free_ok X G (c.fact 27 (f := .free "all") rfl)
  n_bool := He.free_ok X G (c.fact 28 (f := .free "bool") rfl)
  n_enumerate := He.free_ok X G (c.fact 29 (f := .free "enumerate") rfl)
  n_int := He.free_ok X G (c.fact 30 (f := .free "int") rfl)
  n_isinstance := He.free_ok X G (c.fact 31 (f := .free "isinstance") rfl)
  n_len := He.free_ok X G (c.fact 32 (f := .free "len") rfl)
  n_list := He.free_ok X G (c.fact 33 (f := .free "list") rfl)
  n_max := He.free_ok X G (c.fact 34 (f := .free "max") rfl)
  n_range := He.free_ok X G (c.fact 35 (f := .free "range") rfl)
  n_set := He.free_ok X G (c.fact 36 (f := .free "set") rfl)
  n_sorted := He.free_ok X G (c.fact 37 (f := .free "sorted") rfl)
  n_str := He.free_ok X G (c.fact 38 (f := .free "str") rfl)
  n_tuple := He.free_ok X G (c.fact 39 (f := .free "tuple") rfl)
  c_ATOMS_MOST := He.int_ok X G (c.fact 40 (f := .int "ATOMS_MOST" 12) rfl)
  c_DIGITS := He.str_ok X G (c.fact 41 (f := .str "DIGITS" "0123456789") rfl)
  c_FACTS_MOST := He.int_ok X G (c.fact 42 (f := .int "FACTS_MOST" 20) rfl)
  c_NAME_MOST := He.int_ok X G (c.fact 43 (f := .int "NAME_MOST" 12) rfl)
  c_NEVER := He.glo_ok X G (c.fact 44 (f := .glo "NEVER") rfl)
  t_NEVER := c.tup 0 (q := ("NEVER", t_NEVER)) rfl
  c_NIL := He.str_ok X G (c.fact 45 (f := .str "NIL" "nil") rfl)
  c_RESERVED := He.glo_ok X G (c.fact 46 (f := .glo "RESERVED") rfl)
  t_RESERVED := c.tup 1 (q := ("RESERVED", t_RESERVED)) rfl
  c_SMALL := He.str_ok X G (c.fact 47 (f := .str "SMALL" "abcdefghijklmnopqrstuvwxyz") rfl)
  x_BadClaim := exB_ok (He.glo_ok X G (c.fact 48 (f := .glo "BadClaim") rfl)) (c.exc 0 (x := "BadClaim") rfl)
  x_TooLarge := exB_ok (He.glo_ok X G (c.fact 49 (f := .glo "TooLarge") rfl)) (c.exc 1 (x := "TooLarge") rfl)
  h_BadClaim := by unfold T_BadClaim; exact List.forall_mem_cons.mpr ⟨⟨He.exm_ok (c.fact 50 (f := .exm "BadClaim" "BadClaim" true) rfl), He.glo_ok X G (c.fact 48 (f := .glo "BadClaim") rfl)⟩, List.forall_mem_cons.mpr ⟨⟨He.exm_ok (c.fact 51 (f := .exm "TooLarge" "BadClaim" false) rfl), He.glo_ok X G (c.fact 49 (f := .glo "TooLarge") rfl)⟩, List.forall_mem_nil _⟩⟩
  h_TooLarge := by unfold T_TooLarge; exact List.forall_mem_cons.mpr ⟨⟨He.exm_ok (c.fact 52 (f := .exm "BadClaim" "TooLarge" false) rfl), He.glo_ok X G (c.fact 48 (f := .glo "BadClaim") rfl)⟩, List.forall_mem_cons.mpr ⟨⟨He.exm_ok (c.fact 53 (f := .exm "TooLarge" "TooLarge" true) rfl), He.glo_ok X G (c.fact 49 (f := .glo "TooLarge") rfl)⟩, List.forall_mem_nil _⟩⟩
theorem facts {P : Program} {w : World} {K : Fr'} {h : Heap} {mg : MG} {f : Addr} (X : K.In h) (G : h.Ns mainGlobals mg) (hfa : mg ("law" : Str) = some (.ref f)) (c : SaysZ fa fn tb ex K) :
    ∃ fd : FuncData, (∀ (s : Shared) (v : Value), BindsTo s fd ⟨[v], []⟩ [("script", v)]) ∧ ∀ base : Heap, K.In base → base.Ns mainGlobals mg → FnOk P w K mg base (L2.CX P w) 7 f fd ["script"] (spF K mg m_law) := by
  obtain ⟨fd, F⟩ := c.def_ 26 (d := d_law) rfl
  have T := tk_ok X G c
  have e := hfa.symm.trans T.g_law
  cases e
  have b := FunD.bindsA (ps := ["script"]) F fun _ _ _ _ _ _ us hl => match us, hl with | [_], _ => rfl
  exact ⟨fd, fun s v => b s [v] rfl, fun base _ _ => fn_law T F⟩
end K04
open PySem PySem.W PySem.Calls PyProof.Rows
theorem PySem.Challenge.cw_strayless_k04_claims_holds : PySem.Challenge.rw_strayless_k04_claims.Holds := by
  w_on; o_law
  refine HandSHeadRun.head_any (r := K04.R) (q := view K04.R.prog [40]) (H := K04.hk) (ob := K04.ob) (M := 3000) (loose := K04.loose) (d := HandSHeadRun.topDef K04.R.prog 40) (kwd := []) K04.ob_eq
    (by kernel_rfl) (fun s => by kernel_rfl) K04.run (by kernel_rfl) (by kernel_rfl) (by kernel_rfl) (by rfl) (by first | assumption | decide +kernel) (by decide +kernel) ⟨rfl, rfl, rfl, rfl, rfl, by decide +kernel⟩ ?hw ?hc
  case hw => w_witness2
  case hc =>
    refine VL.law_walkZ (l := PySem.Challenge.rw_strayless_k04_claims) (n := 63) (k := 7) (x := "script") (mf := K04.m_law) rfl (by decide) (by kernel_rfl) ⟨rfl, by decide, by decide⟩ K04.law_ok ?F
    intro w K mg fa h KX G hmg0 c
    have hmg : mg ("law" : PySem.Str) = some (.ref fa) := by
      have e : (HandSHeadRun.topDef K04.R.prog 40).name = ("law" : PySem.Str) := by kernel_rfl
      rw [← e]; exact hmg0
    exact K04.facts (P := PySem.Challenge.rw_strayless_k04_claims.prog) (w := w) KX G hmg c

