import PyProof.Rows.All
import Wide.All
import OpenK.AllK
import Wide.FinOn
import PySem.Challenge.RW_sidestold_k00_errors_and_limits
import HandS.Base
import HandS.Call
import HandS.List
import HandS.Comp
import HandS.Iter
import HandS.Dict
import HandS.Text
import HandS.Exc
import HandS.Ends
import HandS.Wide
import HandS.Words
import HandS.TryMany
import HandS.TupAny
import HandS.TupMul
import HandS.Deep
import HandS.Flow
import HandS.IsInst
import HandS.RaiseMore
import HandS.Zip
import HandS.Style
import HandS.HeadEnd
import HandS.Defaults
import HandS.HeadHook1
import HandS.HeadHook2
import KE.KExcSuper
import HandS.ExcInit
import KE.KExcIs
import HandS.ExcField
import HandS.ExcIs
import HandS.HotCalls
import PyProof.ReprReads
import KE.KStateDown
import Lean
import HandS.Head0
import HandS.Head1
import HandS.Head2
section
set_option Elab.async false
set_option linter.all false
set_option maxRecDepth 100000
set_option maxHeartbeats 4000000
/-! DL0: plain data for the hand layer: slots, states, how they lie in the abstract heap. -/
namespace DL
open PySem PySem.Spec PyProof.Rows L2

abbrev D := PyData
abbrev St := L2.St

/-- what a name of a def holds -/
inductive Slot where
  | no
  /-- data that nobody changes -/
  | val (d : D)
  /-- a list of the def's own that only this name holds -/
  | ml (xs : List D)
  /-- a list lent by the caller, changed in its place -/
  | mb (xs : List D)
  /-- a caught error: class, attributes -/
  | er (C : Str) (fs : List (Str × D))
abbrev Sl := List Slot

def Slot.mut : Slot → Bool
  | .ml _ => true
  | .mb _ => true
  | _ => false

/-- the heap without some addresses -/
noncomputable def minus (H : Hp) (M : Addr → Prop) : Hp := fun b =>
  haveI := Classical.propDecidable (M b)
  if M b then none else H b
theorem minus_some {H : Hp} {M : Addr → Prop} {b : Addr} {o : HO} : minus H M b = some o ↔ ¬ M b ∧ H b = some o := by
  unfold minus
  by_cases h : M b
  · simp [h]
  · simp [h]

end DL
namespace L2
open PySem PySem.Spec PyProof.Rows DL
section
variable {K : PySem.W.Frag} {H H' : Hp}
theorem SqL.same {a : Addr} {xs : List V} (e : Same H H') (h : SqL K H a xs) : SqL K H' a xs := by
  rcases h with (h | ⟨o, h⟩) | h
  · exact .inl (.inl (e _ _ h))
  · exact .inl (.inr ⟨o, e _ _ h⟩)
  · exact .inr h
theorem SqT.same {a : Addr} {xs : List V} (e : Same H H') (h : SqT K H a xs) : SqT K H' a xs := by
  rcases h with (h | ⟨o, h⟩) | h
  · exact .inl (.inl (e _ _ h))
  · exact .inl (.inr ⟨o, e _ _ h⟩)
  · exact .inr h
mutual
theorem Dp.same (e : Same H H') : ∀ {d : D} {v : V}, Dp K H v d → Dp K H' v d
  | .none, _, h => by cases h; exact .non
  | .bool _, _, h => by cases h; exact .bl _
  | .int _, _, h => by cases h; exact .int _
  | .str _, _, h => by cases h; exact .str _
  | .list ds, _, h => by
    cases h with
    | lst a b => exact .lst (SqL.same e a) (DpAll.same e b)
  | .tuple ds, _, h => by
    cases h with
    | tup a b => exact .tup (SqT.same e a) (DpAll.same e b)
  | .dict _, _, h => by cases h
theorem DpAll.same (e : Same H H') : ∀ {ds : List D} {vs : List V}, DpAll K H vs ds → DpAll K H' vs ds
  | [], _, h => by cases h; exact .nil
  | d :: ds, _, h => by
    cases h with
    | cons a b => exact .cons (Dp.same e a) (DpAll.same e b)
end
theorem DpAll.len : ∀ {ds : List D} {vs : List V}, DpAll K H vs ds → vs.length = ds.length
  | _, _, .nil => rfl
  | _, _, .cons _ t => by simp [DpAll.len t]
theorem DpAll.app : ∀ {ds es : List D} {vs us : List V}, DpAll K H vs ds → DpAll K H us es → DpAll K H (vs ++ us) (ds ++ es)
  | _, _, _, _, .nil, h => h
  | _, _, _, _, .cons a t, h => .cons a (DpAll.app t h)
theorem DpAll.get : ∀ {ds : List D} {vs : List V} {i : Nat} {d : D}, DpAll K H vs ds → ds[i]? = some d → ∃ v, vs[i]? = some v ∧ Dp K H v d
  | _, _, _, _, .nil, e => by simp at e
  | _, _, 0, _, .cons a _, e => by simp at e; subst e; exact ⟨_, rfl, a⟩
  | _, _, i + 1, d, .cons _ t, e => by
    obtain ⟨v, h1, h2⟩ := DpAll.get (i := i) (d := d) t (by simpa using e)
    exact ⟨v, by simpa using h1, h2⟩
theorem DpAll.getV : ∀ {ds : List D} {vs : List V} {i : Nat} {v : V}, DpAll K H vs ds → vs[i]? = some v → ∃ d, ds[i]? = some d ∧ Dp K H v d
  | _, _, _, _, .nil, e => by simp at e
  | _, _, 0, _, .cons a _, e => by simp at e; subst e; exact ⟨_, rfl, a⟩
  | _, _, i + 1, d, .cons _ t, e => by
    obtain ⟨v, h1, h2⟩ := DpAll.getV (i := i) (v := d) t (by simpa using e)
    exact ⟨v, by simpa using h1, h2⟩
theorem DpAll.drop : ∀ {ds : List D} {vs : List V} (n : Nat), DpAll K H vs ds → DpAll K H (vs.drop n) (ds.drop n)
  | _, _, 0, h => h
  | _, _, _ + 1, .nil => .nil
  | _, _, n + 1, .cons _ t => DpAll.drop n t
theorem DpAll.take : ∀ {ds : List D} {vs : List V} (n : Nat), DpAll K H vs ds → DpAll K H (vs.take n) (ds.take n)
  | _, _, 0, _ => .nil
  | _, _, _ + 1, .nil => .nil
  | _, _, n + 1, .cons a t => .cons a (DpAll.take n t)
theorem DpAll.set {v : V} {d : D} (h : Dp K H v d) : ∀ {ds : List D} {vs : List V} (n : Nat), DpAll K H vs ds → DpAll K H (vs.set n v) (ds.set n d)
  | _, _, _, .nil => .nil
  | _, _, 0, .cons _ t => .cons h t
  | _, _, n + 1, .cons a t => .cons a (DpAll.set h n t)
end
end L2
namespace DL
open PySem PySem.Spec PyProof.Rows L2

/-- an activation: the heap at its entry, what the caller hides, which slots are lent -/
structure Act where
  H0 : Hp
  G : Addr → Prop
  bor : Nat → Option Addr
  /-- lists that are just being made, as they are -/
  priv : Hp
def Act.Pv (F : Act) (b : Addr) : Prop := ∃ o, F.priv b = some o
def Act.Bor (F : Act) (b : Addr) : Prop := ∃ i, F.bor i = some b

/-- the addresses of the lists that names of the def hold alone, or hold for the caller -/
def mutAt (env : Sl) (σ : St) (a : Addr) : Prop := ∃ (i : Nat) (s : Slot), env[i]? = some s ∧ s.mut = true ∧ σ[i]? = some (some (.ref a))
def Act.Hid (F : Act) (env : Sl) (σ : St) (a : Addr) : Prop := F.G a ∨ F.Pv a ∨ mutAt env σ a
/-- what may be read by anyone -/
noncomputable def Act.pub (F : Act) (env : Sl) (σ : St) (H : Hp) : Hp := minus H (F.Hid env σ)

/-- attributes in the abstract heap -/
inductive FsOk (K : PySem.W.Frag) (H : Hp) : List (Str × V) → List (Str × D) → Prop
  | nil : FsOk K H [] []
  | cons {n : Str} {v : V} {d : D} {vs : List (Str × V)} {ds : List (Str × D)} : Dp K H v d → FsOk K H vs ds → FsOk K H ((n, v) :: vs) ((n, d) :: ds)
theorem FsOk.same {K : PySem.W.Frag} {H H' : Hp} (e : Same H H') : ∀ {vs : List (Str × V)} {ds : List (Str × D)}, FsOk K H vs ds → FsOk K H' vs ds
  | _, _, .nil => .nil
  | _, _, .cons a t => .cons (Dp.same e a) (FsOk.same e t)
/-- the written part; which errors are in hand: at which place, of which class, with which dict -/
structure Kx where
  K : PySem.W.Frag
  exc : Addr → Str → Addr → Prop

def SlotOk (K : Kx) (Hm H : Hp) : Slot → Option V → Prop
  | .no, _ => True
  | .val d, o => ∃ v, o = some v ∧ Dp K.K Hm v d
  | .ml xs, o => ∃ a vs, o = some (.ref a) ∧ H a = some (.lst vs) ∧ DpAll K.K Hm vs xs
  | .mb xs, o => ∃ a vs, o = some (.ref a) ∧ H a = some (.lst vs) ∧ DpAll K.K Hm vs xs
  | .er C fs, o => ∃ a dd vs, o = some (.ref a) ∧ K.exc a C dd ∧ Hm dd = some (.xd vs) ∧ FsOk K.K Hm vs fs

structure Rel (K : Kx) (F : Act) (env : Sl) (σ : St) (H : Hp) : Prop where
  len : env.length = σ.length
  slot : ∀ (i : Nat) (s : Slot), env[i]? = some s → ∃ o, σ[i]? = some o ∧ SlotOk K (F.pub env σ H) H s o
  inj : ∀ (i j : Nat) (s t : Slot) (a : Addr), env[i]? = some s → env[j]? = some t → s.mut = true → t.mut = true → σ[i]? = some (some (.ref a)) → σ[j]? = some (some (.ref a)) → i = j
  frame : ∀ b o, F.H0 b = some o → ¬ F.Bor b → H b = some o
  bg : ∀ b, F.Bor b → F.G b
  live0 : ∀ b, F.G b → F.H0 b ≠ Option.none
  live : ∀ b, F.G b → H b ≠ Option.none
  pv : ∀ b o, F.priv b = some o → H b = some o
  pne : ∀ (i : Nat) (s : Slot) (a : Addr), env[i]? = some s → s.mut = true → σ[i]? = some (some (.ref a)) → ¬ F.Pv a
  own : ∀ (i : Nat) (xs : List D) (a : Addr), env[i]? = some (.ml xs) → σ[i]? = some (some (.ref a)) → F.H0 a = none
  lent : ∀ (i : Nat) (xs : List D), env[i]? = some (.mb xs) → ∃ a, F.bor i = some a ∧ σ[i]? = some (some (.ref a)) ∧ F.G a

/-- what was public stays so -/
def Grow (F : Act) (env : Sl) (σ : St) (H : Hp) (env' : Sl) (σ' : St) (H' : Hp) : Prop := Same (F.pub env σ H) (F.pub env' σ' H')
theorem Grow.refl {F : Act} {env : Sl} {σ : St} {H : Hp} : Grow F env σ H env σ H := Same.refl _
theorem Grow.trans {F : Act} {e1 e2 e3 : Sl} {σ1 σ2 σ3 : St} {H1 H2 H3 : Hp} (a : Grow F e1 σ1 H1 e2 σ2 H2) (b : Grow F e2 σ2 H2 e3 σ3 H3) : Grow F e1 σ1 H1 e3 σ3 H3 := Same.trans a b

/-! ### what code gives -/
inductive Out (α : Type) where
  | stuck
  | ok (a : α) (env : Sl)
  | err (C : Str) (fs : List (Str × D)) (env : Sl)
@[reducible] def Out.bind {α β : Type} (x : Out α) (f : α → Sl → Out β) : Out β := match x with
  | .stuck => .stuck
  | .ok a env => f a env
  | .err C fs env => .err C fs env
theorem Out.bind_ok {α β : Type} (a : α) (env : Sl) (f : α → Sl → Out β) : (Out.ok a env).bind f = f a env := rfl
theorem Out.bind_stuck {α β : Type} (f : α → Sl → Out β) : (Out.stuck : Out α).bind f = .stuck := rfl
theorem Out.bind_err {α β : Type} (C : Str) (fs : List (Str × D)) (env : Sl) (f : α → Sl → Out β) : (Out.err C fs env : Out α).bind f = .err C fs env := rfl

def ErrIs (K : PySem.W.Frag) (mg : Str → Option Value) (Hm H : Hp) (cls : Value) (dd : Option Addr) (C : Str) (fs : List (Str × D)) : Prop :=
  ∃ (a d : Addr) (vs : List (Str × V)), mg C = some (.ref a) ∧ cls = .ref a ∧ dd = some d ∧ Hm d = some (.xd vs) ∧ FsOk K Hm vs fs
end DL
end
section
set_option Elab.async false
set_option linter.all false
set_option maxRecDepth 100000
set_option maxHeartbeats 4000000
/-! DL1: how a state moves. -/
namespace DL
open PySem PySem.Spec PyProof.Rows L2

section
variable {K : Kx} {F : Act} {env env' : Sl} {σ : St} {H H' : Hp}

theorem minus_same {H H' : Hp} {M : Addr → Prop} (e : Same H H') : Same (minus H M) (minus H' M) := fun b o h => by
  rw [minus_some] at h ⊢
  exact ⟨h.1, e b o h.2⟩
theorem minus_less {H : Hp} {M M' : Addr → Prop} (e : ∀ b, M' b → M b) : Same (minus H M) (minus H M') := fun b o h => by
  rw [minus_some] at h ⊢
  exact ⟨fun z => h.1 (e b z), h.2⟩
theorem minus_sub {H : Hp} {M : Addr → Prop} : Same (minus H M) H := fun b o h => (minus_some.mp h).2
theorem _root_.L2.Dp.full {K : PySem.W.Frag} {H : Hp} {M : Addr → Prop} {v : V} {d : D} (h : Dp K (minus H M) v d) : Dp K H v d := Dp.same minus_sub h
theorem _root_.L2.DpAll.full {K : PySem.W.Frag} {H : Hp} {M : Addr → Prop} {v : List V} {d : List D} (h : DpAll K (minus H M) v d) : DpAll K H v d := DpAll.same minus_sub h

theorem Slot.mut_of {s : Slot} (h : s.mut = true) : (∃ xs, s = .ml xs) ∨ ∃ xs, s = .mb xs := by
  cases s with
  | ml xs => exact .inl ⟨xs, rfl⟩
  | mb xs => exact .inr ⟨xs, rfl⟩
  | _ => cases h
/-- a hidden list is there -/
theorem Rel.at_mut (R : Rel K F env σ H) {i : Nat} {s : Slot} {a : Addr} (h1 : env[i]? = some s) (h2 : s.mut = true) (h3 : σ[i]? = some (some (.ref a))) : ∃ vs, H a = some (.lst vs) := by
  obtain ⟨o, e, k⟩ := R.slot i s h1
  rw [h3] at e
  cases e
  rcases Slot.mut_of h2 with ⟨xs, rfl⟩ | ⟨xs, rfl⟩
  · obtain ⟨a', vs, e1, e2, _⟩ := k
    cases e1
    exact ⟨vs, e2⟩
  · obtain ⟨a', vs, e1, e2, _⟩ := k
    cases e1
    exact ⟨vs, e2⟩
theorem Rel.plive (R : Rel K F env σ H) (b : Addr) (h : F.Pv b) : H b ≠ Option.none := fun z => by
  obtain ⟨o, e⟩ := h
  rw [R.pv b o e] at z
  cases z
theorem Rel.hid_live (R : Rel K F env σ H) {b : Addr} (h : F.Hid env σ b) : H b ≠ Option.none := by
  rcases h with h | h | ⟨i, s, h1, h2, h3⟩
  · exact R.live b h
  · exact R.plive b h
  · obtain ⟨vs, e⟩ := R.at_mut h1 h2 h3
    rw [e]
    intro z
    cases z
theorem Rel.fresh (R : Rel K F env σ H) {p : Addr} (h : H p = Option.none) : ¬ F.Hid env σ p := fun z => R.hid_live z h

theorem SlotOk.same {Hm Hm' : Hp} {s : Slot} {o : Option V} (e : Same Hm Hm') (e2 : Same H H') (h : SlotOk K Hm H s o) : SlotOk K Hm' H' s o := by
  cases s with
  | no => trivial
  | val d => obtain ⟨v, e1, p⟩ := h; exact ⟨v, e1, Dp.same e p⟩
  | ml xs => obtain ⟨a, vs, e1, p, q⟩ := h; exact ⟨a, vs, e1, e2 _ _ p, DpAll.same e q⟩
  | mb xs => obtain ⟨a, vs, e1, p, q⟩ := h; exact ⟨a, vs, e1, e2 _ _ p, DpAll.same e q⟩
  | er C fs => obtain ⟨a, dd, ws, e1, x, p, q⟩ := h; exact ⟨a, dd, ws, e1, x, e _ _ p, FsOk.same e q⟩

/-- objects were added -/
theorem Rel.grow (R : Rel K F env σ H) (e : Same H H') : Rel K F env σ H' where
  len := R.len
  slot := fun i s h => by
    obtain ⟨o, e1, k⟩ := R.slot i s h
    exact ⟨o, e1, k.same (minus_same e) e⟩
  inj := R.inj
  frame := fun b o h1 h2 => e _ _ (R.frame b o h1 h2)
  bg := R.bg
  live0 := R.live0
  live := fun b h => by
    cases q : H b with
    | none => exact absurd q (R.live b h)
    | some o =>
      rw [e b o q]
      intro z
      cases z
  pv := fun b o h => e b o (R.pv b o h)
  pne := R.pne
  own := R.own
  lent := R.lent
theorem Grow.of (e : Same H H') : Grow F env σ H env σ H' := minus_same e

/-- a slot's list is made public: nobody changes it from now on -/
theorem Rel.freeze (R : Rel K F env σ H) {i : Nat} {xs : List D} (h : env[i]? = some (.ml xs)) :
    Rel K F (env.set i (.val (.list xs))) σ H ∧ Grow F env σ H (env.set i (.val (.list xs))) σ H ∧ ∃ a, σ[i]? = some (some (.ref a)) ∧ Dp K.K (F.pub (env.set i (.val (.list xs))) σ H) (.ref a) (.list xs) := by
  have hi : i < env.length := (List.getElem?_eq_some_iff.mp h).1
  have hid : ∀ b, F.Hid (env.set i (.val (.list xs))) σ b → F.Hid env σ b := fun b z => by
    rcases z with z | z | ⟨j, s, h1, h2, h3⟩
    · exact .inl z
    · exact .inr (.inl z)
    · by_cases hj : i = j
      · subst hj
        rw [List.getElem?_set_self hi] at h1
        cases h1
        cases h2
      · rw [List.getElem?_set_ne hj] at h1
        exact .inr (.inr ⟨j, s, h1, h2, h3⟩)
  have g : Grow F env σ H (env.set i (.val (.list xs))) σ H := minus_less hid
  obtain ⟨o, e1, a, vs, rfl, ha, hv⟩ := R.slot i _ h
  have na : ¬ F.Hid (env.set i (.val (.list xs))) σ a := fun z => by
    rcases z with z | z | ⟨j, s, h1, h2, h3⟩
    · exact R.live0 a z (R.own i xs a h e1)
    · exact R.pne i _ a h rfl e1 z
    · by_cases hj : i = j
      · subst hj
        rw [List.getElem?_set_self hi] at h1
        cases h1
        cases h2
      · rw [List.getElem?_set_ne hj] at h1
        exact hj (R.inj i j _ s a h h1 rfl h2 e1 h3)
  have dp : Dp K.K (F.pub (env.set i (.val (.list xs))) σ H) (.ref a) (.list xs) := .lst (SqL.of (minus_some.mpr ⟨na, ha⟩)) (DpAll.same g hv)
  refine ⟨⟨by rw [List.length_set]; exact R.len, fun j s hj => ?_, fun j l s t b h1 h2 m1 m2 q1 q2 => ?_, R.frame, R.bg, R.live0, R.live, R.pv, fun j t b h1 m1 q1 => ?_, fun j ys b h1 h2 => ?_, fun j ys h1 => ?_⟩, g, a, e1, dp⟩
  · by_cases hij : i = j
    · subst hij
      rw [List.getElem?_set_self hi] at hj
      cases hj
      exact ⟨_, e1, _, rfl, dp⟩
    · rw [List.getElem?_set_ne hij] at hj
      obtain ⟨o, e2, k⟩ := R.slot j s hj
      exact ⟨o, e2, k.same g (Same.refl _)⟩
  · have n1 : i ≠ j := fun z => by
      subst z
      rw [List.getElem?_set_self hi] at h1
      cases h1
      cases m1
    have n2 : i ≠ l := fun z => by
      subst z
      rw [List.getElem?_set_self hi] at h2
      cases h2
      cases m2
    rw [List.getElem?_set_ne n1] at h1
    rw [List.getElem?_set_ne n2] at h2
    exact R.inj j l s t b h1 h2 m1 m2 q1 q2
  · have n1 : i ≠ j := fun z => by
      subst z
      rw [List.getElem?_set_self hi] at h1
      cases h1
      cases m1
    rw [List.getElem?_set_ne n1] at h1
    exact R.pne j t b h1 m1 q1
  · have n1 : i ≠ j := fun z => by
      subst z
      rw [List.getElem?_set_self hi] at h1
      cases h1
    rw [List.getElem?_set_ne n1] at h1
    exact R.own j ys b h1 h2
  · have n1 : i ≠ j := fun z => by
      subst z
      rw [List.getElem?_set_self hi] at h1
      cases h1
    rw [List.getElem?_set_ne n1] at h1
    exact R.lent j ys h1

/-- a slot may be written anew: not a lent one -/
def Slot.free : Slot → Bool
  | .mb _ => false
  | _ => true

/-- a name takes plain data (or nothing, or an error) -/
theorem Rel.put (R : Rel K F env σ H) {i : Nat} {s s' : Slot} (h : env[i]? = some s) (hf : s.free = true) (hm : s'.mut = false) {o : Option V}
    (hs : ∀ Hm, Same (F.pub env σ H) Hm → SlotOk K Hm H s' o) : Rel K F (env.set i s') (σ.set i o) H ∧ Grow F env σ H (env.set i s') (σ.set i o) H := by
  have hi : i < env.length := (List.getElem?_eq_some_iff.mp h).1
  have hiσ : i < σ.length := by rw [← R.len]; exact hi
  have back : ∀ (j : Nat) (t : Slot), (env.set i s')[j]? = some t → t.mut = true → i ≠ j ∧ env[j]? = some t ∧ (σ.set i o)[j]? = σ[j]? := fun j t h1 m => by
    have n1 : i ≠ j := fun z => by
      subst z
      rw [List.getElem?_set_self hi] at h1
      cases h1
      rw [hm] at m
      cases m
    rw [List.getElem?_set_ne n1] at h1
    exact ⟨n1, h1, List.getElem?_set_ne n1⟩
  have hid : ∀ b, F.Hid (env.set i s') (σ.set i o) b → F.Hid env σ b := fun b z => by
    rcases z with z | z | ⟨j, t, h1, h2, h3⟩
    · exact .inl z
    · exact .inr (.inl z)
    · obtain ⟨_, k1, k2⟩ := back j t h1 h2
      rw [k2] at h3
      exact .inr (.inr ⟨j, t, k1, h2, h3⟩)
  have g : Grow F env σ H (env.set i s') (σ.set i o) H := minus_less hid
  refine ⟨⟨by rw [List.length_set, List.length_set]; exact R.len, fun j t hj => ?_, fun j l t u b h1 h2 m1 m2 q1 q2 => ?_, R.frame, R.bg, R.live0, R.live, R.pv, fun j t b h1 m1 q1 => ?_, fun j ys b h1 h2 => ?_, fun j ys h1 => ?_⟩, g⟩
  · by_cases hij : i = j
    · subst hij
      rw [List.getElem?_set_self hi] at hj
      cases hj
      exact ⟨o, List.getElem?_set_self hiσ, hs _ g⟩
    · rw [List.getElem?_set_ne hij] at hj
      obtain ⟨o', e2, k⟩ := R.slot j t hj
      exact ⟨o', by rw [List.getElem?_set_ne hij]; exact e2, k.same g (Same.refl _)⟩
  · obtain ⟨_, k1, k2⟩ := back j t h1 m1
    obtain ⟨_, k3, k4⟩ := back l u h2 m2
    rw [k2] at q1
    rw [k4] at q2
    exact R.inj j l t u b k1 k3 m1 m2 q1 q2
  · obtain ⟨_, k1, k2⟩ := back j t h1 m1
    rw [k2] at q1
    exact R.pne j t b k1 m1 q1
  · obtain ⟨_, k1, k2⟩ := back j _ h1 rfl
    rw [k2] at h2
    exact R.own j ys b k1 h2
  · obtain ⟨_, k1, k2⟩ := back j _ h1 rfl
    obtain ⟨a, e1, e2, e3⟩ := R.lent j ys k1
    exact ⟨a, e1, by rw [k2]; exact e2, e3⟩

/-- a name takes a new list of its own: at p, which nobody else has -/
theorem Rel.putNew (R : Rel K F env σ H) {i : Nat} {s : Slot} (h : env[i]? = some s) (hf : s.free = true) {p : Addr} {vs : List V} {xs : List D} (hp : H p = some (.lst vs)) (hn : ¬ F.Hid env σ p) (h0 : F.H0 p = Option.none)
    (hd : DpAll K.K (minus H (fun b => F.Hid env σ b ∨ b = p)) vs xs)
    (hpub : ∀ (j : Nat) (t : Slot) (o : Option V), env[j]? = some t → σ[j]? = some o → SlotOk K (minus H (fun b => F.Hid env σ b ∨ b = p)) H t o) :
    Rel K F (env.set i (.ml xs)) (σ.set i (some (.ref p))) H ∧ Same (minus H (fun b => F.Hid env σ b ∨ b = p)) (F.pub (env.set i (.ml xs)) (σ.set i (some (.ref p))) H) := by
  have hi : i < env.length := (List.getElem?_eq_some_iff.mp h).1
  have hiσ : i < σ.length := by rw [← R.len]; exact hi
  have back : ∀ (j : Nat) (t : Slot), (env.set i (.ml xs))[j]? = some t → i ≠ j → env[j]? = some t ∧ (σ.set i (some (.ref p)))[j]? = σ[j]? := fun j t h1 n1 => by
    rw [List.getElem?_set_ne n1] at h1
    exact ⟨h1, List.getElem?_set_ne n1⟩
  have hid : ∀ b, F.Hid (env.set i (.ml xs)) (σ.set i (some (.ref p))) b → F.Hid env σ b ∨ b = p := fun b z => by
    rcases z with z | z | ⟨j, t, h1, h2, h3⟩
    · exact .inl (.inl z)
    · exact .inl (.inr (.inl z))
    · by_cases hij : i = j
      · subst hij
        rw [List.getElem?_set_self hiσ] at h3
        cases h3
        exact .inr rfl
      · obtain ⟨k1, k2⟩ := back j t h1 hij
        rw [k2] at h3
        exact .inl (.inr (.inr ⟨j, t, k1, h2, h3⟩))
  have g : Same (minus H (fun b => F.Hid env σ b ∨ b = p)) (F.pub (env.set i (.ml xs)) (σ.set i (some (.ref p))) H) := minus_less hid
  have other : ∀ (j : Nat) (t : Slot) (b : Addr), i ≠ j → env[j]? = some t → t.mut = true → σ[j]? = some (some (.ref b)) → b ≠ p := fun j t b n1 k1 m q z => by
    subst z
    exact hn (.inr (.inr ⟨j, t, k1, m, q⟩))
  refine ⟨⟨by rw [List.length_set, List.length_set]; exact R.len, fun j t hj => ?_, fun j l t u b h1 h2 m1 m2 q1 q2 => ?_, R.frame, R.bg, R.live0, R.live, R.pv, fun j t b h1 m1 q1 => ?_, fun j ys b h1 h2 => ?_, fun j ys h1 => ?_⟩, g⟩
  · by_cases hij : i = j
    · subst hij
      rw [List.getElem?_set_self hi] at hj
      cases hj
      exact ⟨_, List.getElem?_set_self hiσ, p, vs, rfl, hp, DpAll.same g hd⟩
    · obtain ⟨k1, k2⟩ := back j t hj hij
      obtain ⟨o', e2, k⟩ := R.slot j t k1
      exact ⟨o', by rw [k2]; exact e2, (hpub j t o' k1 e2).same g (Same.refl _)⟩
  · by_cases hij : i = j
    · by_cases hil : i = l
      · exact hij.symm.trans hil
      · subst hij
        rw [List.getElem?_set_self hiσ] at q1
        cases q1
        obtain ⟨k3, k4⟩ := back l u h2 hil
        rw [k4] at q2
        exact absurd rfl (other l u _ hil k3 m2 q2)
    · obtain ⟨k1, k2⟩ := back j t h1 hij
      rw [k2] at q1
      by_cases hil : i = l
      · subst hil
        rw [List.getElem?_set_self hiσ] at q2
        cases q2
        exact absurd rfl (other j t _ hij k1 m1 q1)
      · obtain ⟨k3, k4⟩ := back l u h2 hil
        rw [k4] at q2
        exact R.inj j l t u b k1 k3 m1 m2 q1 q2
  · by_cases hij : i = j
    · subst hij
      rw [List.getElem?_set_self hiσ] at q1
      cases q1
      exact fun z => hn (.inr (.inl z))
    · obtain ⟨k1, k2⟩ := back j t h1 hij
      rw [k2] at q1
      exact R.pne j t b k1 m1 q1
  · by_cases hij : i = j
    · subst hij
      rw [List.getElem?_set_self hiσ] at h2
      cases h2
      exact h0
    · obtain ⟨k1, k2⟩ := back j _ h1 hij
      rw [k2] at h2
      exact R.own j ys b k1 h2
  · by_cases hij : i = j
    · subst hij
      rw [List.getElem?_set_self hi] at h1
      cases h1
    · obtain ⟨k1, k2⟩ := back j _ h1 hij
      obtain ⟨a, e1, e2, e3⟩ := R.lent j ys k1
      exact ⟨a, e1, by rw [k2]; exact e2, e3⟩

/-- the list that a name holds alone (or for the caller) is changed in its place -/
theorem Rel.change (R : Rel K F env σ H) {i : Nat} {s : Slot} {a : Addr} {vs : List V} {xs : List D} (h : env[i]? = some s) (hm : s.mut = true) (ha : σ[i]? = some (some (.ref a)))
    (hd : DpAll K.K (F.pub env σ H) vs xs) : let s' : Slot := match s with
      | .mb _ => .mb xs
      | _ => .ml xs
    Rel K F (env.set i s') σ (upd H a (.lst vs)) ∧ Grow F env σ H (env.set i s') σ (upd H a (.lst vs)) := by
  intro s'
  have hi : i < env.length := (List.getElem?_eq_some_iff.mp h).1
  have hs' : s'.mut = true := by
    rcases Slot.mut_of hm with ⟨ys, rfl⟩ | ⟨ys, rfl⟩ <;> rfl
  have hidE : ∀ b, F.Hid (env.set i s') σ b → F.Hid env σ b := fun b z => by
    rcases z with z | z | ⟨j, t, h1, h2, h3⟩
    · exact .inl z
    · exact .inr (.inl z)
    · by_cases hij : i = j
      · subst hij
        exact .inr (.inr ⟨i, s, h, hm, h3⟩)
      · rw [List.getElem?_set_ne hij] at h1
        exact .inr (.inr ⟨j, t, h1, h2, h3⟩)
  have hidA : F.Hid env σ a := .inr (.inr ⟨i, s, h, hm, ha⟩)
  have g : Grow F env σ H (env.set i s') σ (upd H a (.lst vs)) := fun b o z => by
    rw [Act.pub, minus_some] at z ⊢
    have nb : b ≠ a := fun q => z.1 (by rw [q]; exact hidA)
    exact ⟨fun q => z.1 (hidE b q), by rw [upd_ne nb]; exact z.2⟩
  refine ⟨⟨by rw [List.length_set]; exact R.len, fun j t hj => ?_, fun j l t u b h1 h2 m1 m2 q1 q2 => ?_, fun b o h1 h2 => ?_, R.bg, R.live0, fun b hb => ?_, fun b o hb => ?_, fun j t b h1 m1 q1 => ?_, fun j ys b h1 h2 => ?_, fun j ys h1 => ?_⟩, g⟩
  · by_cases hij : i = j
    · subst hij
      rw [List.getElem?_set_self hi] at hj
      cases hj
      refine ⟨_, ha, ?_⟩
      rcases Slot.mut_of hm with ⟨ys, rfl⟩ | ⟨ys, rfl⟩
      · exact ⟨a, vs, rfl, upd_same, DpAll.same g hd⟩
      · exact ⟨a, vs, rfl, upd_same, DpAll.same g hd⟩
    · rw [List.getElem?_set_ne hij] at hj
      obtain ⟨o, e1, k⟩ := R.slot j t hj
      refine ⟨o, e1, ?_⟩
      cases t with
      | no => trivial
      | val d => obtain ⟨v, e2, p⟩ := k; exact ⟨v, e2, Dp.same g p⟩
      | er C fs => obtain ⟨a, dd, ws, e2, x, p, q⟩ := k; exact ⟨a, dd, ws, e2, x, g _ _ p, FsOk.same g q⟩
      | ml ys =>
        obtain ⟨b, us, rfl, p, q⟩ := k
        have nb : b ≠ a := fun z => hij (R.inj i j s _ b h hj hm rfl (by rw [z]; exact ha) e1)
        exact ⟨b, us, rfl, by rw [upd_ne nb]; exact p, DpAll.same g q⟩
      | mb ys =>
        obtain ⟨b, us, rfl, p, q⟩ := k
        have nb : b ≠ a := fun z => hij (R.inj i j s _ b h hj hm rfl (by rw [z]; exact ha) e1)
        exact ⟨b, us, rfl, by rw [upd_ne nb]; exact p, DpAll.same g q⟩
  · have bk : ∀ (j : Nat) (t : Slot), (env.set i s')[j]? = some t → t.mut = true → ∃ t', env[j]? = some t' ∧ t'.mut = true := fun j t h1 m => by
      by_cases hij : i = j
      · subst hij
        exact ⟨s, h, hm⟩
      · rw [List.getElem?_set_ne hij] at h1
        exact ⟨t, h1, m⟩
    obtain ⟨t', k1, m1'⟩ := bk j t h1 m1
    obtain ⟨u', k2, m2'⟩ := bk l u h2 m2
    exact R.inj j l t' u' b k1 k2 m1' m2' q1 q2
  · have q := R.frame b o h1 h2
    have nb : b ≠ a := fun z => by
      subst z
      rcases Slot.mut_of hm with ⟨ys, rfl⟩ | ⟨ys, rfl⟩
      · rw [R.own i ys b h ha] at h1
        cases h1
      · obtain ⟨c, e1, e2, _⟩ := R.lent i ys h
        rw [ha] at e2
        cases e2
        exact h2 ⟨i, e1⟩
    rw [upd_ne nb]
    exact q
  · by_cases hb2 : b = a
    · subst hb2
      rw [upd_same]
      intro z
      cases z
    · rw [upd_ne hb2]
      exact R.live b hb
  · have hb2 : b ≠ a := fun z => R.pne i s a h hm ha ⟨o, by rw [← z]; exact hb⟩
    rw [upd_ne hb2]
    exact R.pv b o hb
  · by_cases hij : i = j
    · subst hij
      exact R.pne i s b h hm q1
    · rw [List.getElem?_set_ne hij] at h1
      exact R.pne j t b h1 m1 q1
  · by_cases hij : i = j
    · subst hij
      rcases Slot.mut_of hm with ⟨zs, rfl⟩ | ⟨zs, rfl⟩
      · exact R.own i zs b h h2
      · rw [List.getElem?_set_self hi] at h1
        have z : Slot.mb xs = Slot.ml ys := Option.some.inj h1
        cases z
    · rw [List.getElem?_set_ne hij] at h1
      exact R.own j ys b h1 h2
  · by_cases hij : i = j
    · subst hij
      rcases Slot.mut_of hm with ⟨zs, rfl⟩ | ⟨zs, rfl⟩
      · rw [List.getElem?_set_self hi] at h1
        have z : Slot.ml xs = Slot.mb ys := Option.some.inj h1
        cases z
      · exact R.lent i zs h
    · rw [List.getElem?_set_ne hij] at h1
      exact R.lent j ys h1

/-- a list is being made at p -/
def Act.add (F : Act) (p : Addr) (vs : List V) : Act := { F with priv := upd F.priv p (.lst vs) }
theorem add_pv {F : Act} {p b : Addr} {vs : List V} : (F.add p vs).Pv b ↔ F.Pv b ∨ b = p := by
  unfold Act.Pv Act.add
  by_cases z : b = p
  · subst z
    simp [upd_same]
  · simp only [upd_ne z, z, or_false]
theorem Rel.h0none (R : Rel K F env σ H) {p : Addr} (h : H p = Option.none) : F.H0 p = Option.none := by
  cases q : F.H0 p with
  | none => rfl
  | some o =>
    by_cases hb : F.Bor p
    · exact absurd h (R.live p (R.bg p hb))
    · rw [R.frame p o q hb] at h
      cases h
theorem add_hid {p b : Addr} {vs : List V} : (F.add p vs).Hid env σ b ↔ F.Hid env σ b ∨ b = p := by
  unfold Act.Hid
  rw [add_pv]
  show F.G b ∨ (F.Pv b ∨ b = p) ∨ mutAt env σ b ↔ _
  constructor
  · rintro (h | (h | h) | h)
    · exact .inl (.inl h)
    · exact .inl (.inr (.inl h))
    · exact .inr h
    · exact .inl (.inr (.inr h))
  · rintro ((h | h | h) | h)
    · exact .inl h
    · exact .inr (.inl (.inl h))
    · exact .inr (.inr h)
    · exact .inr (.inl (.inr h))
/-- a new list, being made -/
theorem Rel.addNew (R : Rel K F env σ H) {p : Addr} {vs : List V} (h : H p = Option.none) : Rel K (F.add p vs) env σ (upd H p (.lst vs)) ∧ Same (F.pub env σ H) ((F.add p vs).pub env σ (upd H p (.lst vs))) := by
  have hf : ¬ F.Hid env σ p := R.fresh h
  have ne : ∀ b o, H b = some o → b ≠ p := fun b o e => ne_of_none e h
  have g : Same (F.pub env σ H) ((F.add p vs).pub env σ (upd H p (.lst vs))) := fun b o z => by
    rw [Act.pub, minus_some] at z ⊢
    exact ⟨fun q => (add_hid.mp q).elim z.1 (ne b o z.2), by rw [upd_ne (ne b o z.2)]; exact z.2⟩
  have liv : ∀ b, H b ≠ Option.none → upd H p (.lst vs) b ≠ Option.none := fun b z => by
    have nb : b ≠ p := fun q => z (by rw [q]; exact h)
    rw [upd_ne nb]
    exact z
  refine ⟨⟨R.len, fun i s hs => ?_, R.inj, fun b o h1 h2 => ?_, R.bg, R.live0, fun b hb => liv b (R.live b hb), fun b o hb => ?_, fun i s a h1 h2 h3 z => ?_, R.own, R.lent⟩, g⟩
  · obtain ⟨o, e1, k⟩ := R.slot i s hs
    refine ⟨o, e1, ?_⟩
    cases s with
    | no => trivial
    | val d => obtain ⟨v, e2, q⟩ := k; exact ⟨v, e2, Dp.same g q⟩
    | er C fs => obtain ⟨a, dd, ws, e2, x, p, q⟩ := k; exact ⟨a, dd, ws, e2, x, g _ _ p, FsOk.same g q⟩
    | ml ys => obtain ⟨a, us, e2, q, q2⟩ := k; exact ⟨a, us, e2, by rw [upd_ne (ne a _ q)]; exact q, DpAll.same g q2⟩
    | mb ys => obtain ⟨a, us, e2, q, q2⟩ := k; exact ⟨a, us, e2, by rw [upd_ne (ne a _ q)]; exact q, DpAll.same g q2⟩
  · have e := R.frame b o h1 h2
    rw [upd_ne (ne b o e)]
    exact e
  · by_cases hb2 : b = p
    · subst hb2
      rw [show (F.add b vs).priv b = some (.lst vs) from upd_same] at hb
      rw [upd_same]
      exact hb
    · rw [show (F.add p vs).priv b = F.priv b from upd_ne hb2] at hb
      rw [upd_ne hb2]
      exact R.pv b o hb
  · rcases add_pv.mp z with z | z
    · exact R.pne i s a h1 h2 h3 z
    · obtain ⟨us, e⟩ := R.at_mut h1 h2 h3
      exact ne a _ e z
/-- it is public from now on -/
theorem Rel.drop {p : Addr} {vs : List V} (R : Rel K (F.add p vs) env σ H) (hn : ¬ F.Hid env σ p) : Rel K F env σ H ∧ Same ((F.add p vs).pub env σ H) (F.pub env σ H) := by
  have g : Same ((F.add p vs).pub env σ H) (F.pub env σ H) := minus_less fun b z => add_hid.mpr (.inl z)
  refine ⟨⟨R.len, fun i s hs => ?_, R.inj, R.frame, R.bg, R.live0, R.live, fun b o hb => R.pv b o (by
    have nb : b ≠ p := fun z => hn (.inr (.inl ⟨o, by rw [← z]; exact hb⟩))
    exact (upd_ne nb).trans hb), fun i s a h1 h2 h3 z => R.pne i s a h1 h2 h3 (add_pv.mpr (.inl z)), R.own, R.lent⟩, g⟩
  obtain ⟨o, e1, k⟩ := R.slot i s hs
  exact ⟨o, e1, k.same g (Same.refl _)⟩
/-- the list that is being made is changed -/
theorem Rel.step {p : Addr} {vs us : List V} (R : Rel K (F.add p vs) env σ H) (hn : ¬ F.Hid env σ p) (h0 : F.H0 p = Option.none) : Rel K (F.add p us) env σ (upd H p (.lst us)) ∧ Same ((F.add p vs).pub env σ H) ((F.add p us).pub env σ (upd H p (.lst us))) := by
  have hp : H p = some (.lst vs) := R.pv p _ upd_same
  have hide : ∀ b, (F.add p us).Hid env σ b → (F.add p vs).Hid env σ b := fun b z => add_hid.mpr (add_hid.mp z)
  have g : Same ((F.add p vs).pub env σ H) ((F.add p us).pub env σ (upd H p (.lst us))) := fun b o z => by
    rw [Act.pub, minus_some] at z ⊢
    have nb : b ≠ p := fun q => z.1 (add_hid.mpr (.inr q))
    exact ⟨fun q => z.1 (hide b q), by rw [upd_ne nb]; exact z.2⟩
  have mne : ∀ (i : Nat) (s : Slot) (a : Addr), env[i]? = some s → s.mut = true → σ[i]? = some (some (.ref a)) → a ≠ p := fun i s a h1 h2 h3 z => hn (.inr (.inr ⟨i, s, h1, h2, by rw [← z]; exact h3⟩))
  refine ⟨⟨R.len, fun i s hs => ?_, R.inj, fun b o h1 h2 => ?_, R.bg, R.live0, fun b hb => ?_, fun b o hb => ?_, fun i s a h1 h2 h3 z => R.pne i s a h1 h2 h3 (add_pv.mpr (add_pv.mp z)), R.own, R.lent⟩, g⟩
  · obtain ⟨o, e1, k⟩ := R.slot i s hs
    refine ⟨o, e1, ?_⟩
    cases s with
    | no => trivial
    | val d => obtain ⟨v, e2, q⟩ := k; exact ⟨v, e2, Dp.same g q⟩
    | er C fs => obtain ⟨a, dd, ws, e2, x, p, q⟩ := k; exact ⟨a, dd, ws, e2, x, g _ _ p, FsOk.same g q⟩
    | ml ys => obtain ⟨a, ws, e2, q, q2⟩ := k; exact ⟨a, ws, e2, by rw [upd_ne (mne i _ a hs rfl (by rw [e1, e2]))]; exact q, DpAll.same g q2⟩
    | mb ys => obtain ⟨a, ws, e2, q, q2⟩ := k; exact ⟨a, ws, e2, by rw [upd_ne (mne i _ a hs rfl (by rw [e1, e2]))]; exact q, DpAll.same g q2⟩
  · have e := R.frame b o h1 h2
    have nb : b ≠ p := fun z => by
      subst z
      rw [show (F.add b us).H0 b = F.H0 b from rfl, h0] at h1
      cases h1
    rw [upd_ne nb]
    exact e
  · by_cases nb : b = p
    · subst nb
      rw [upd_same]
      intro z
      cases z
    · rw [upd_ne nb]
      exact R.live b hb
  · by_cases nb : b = p
    · subst nb
      rw [show (F.add b us).priv b = some (.lst us) from upd_same] at hb
      rw [upd_same]
      exact hb
    · rw [upd_ne nb]
      refine R.pv b o ?_
      rw [show (F.add p us).priv b = F.priv b from upd_ne nb] at hb
      exact (upd_ne nb).trans hb
end
end DL
end
section
set_option Elab.async false
set_option linter.all false
set_option maxRecDepth 100000
set_option maxHeartbeats 4000000
/-! DL2: judgements over data; names, constants, operators, tests, displays. -/
namespace DL
open PySem PySem.Spec PyProof.Rows L2

structure Mdl where
  P : Program
  w : World
  K : PySem.W.Frag
  mg : Str → Option Value
  base : Heap
  /-- the errors in hand -/
  exc : Addr → Str → Addr → Prop := fun _ _ _ => False
@[reducible] def Mdl.kx (M : Mdl) : Kx := ⟨M.K, M.exc⟩
/-- where code stands, as far as it is written -/
structure Cf where
  k : Nat
  N : List Str
  sc : Scope
  fn : Str → Bool
  calm : Bool
structure Good (M : Mdl) (c : Cf) (X : Cx) : Prop where
  prog : X.prog = M.P
  w : X.w = M.w
  K : X.K = M.K
  mg : X.mg = M.mg
  base : X.base = M.base
  N : X.N = c.N
  sc : X.env.scope = c.sc
  fn : X.fn = c.fn
  nd : c.N.Nodup
  calm : c.calm = true → X.calm = true
  room : c.calm = true → Room c.k X.A
  units : X.A.units + 16 * c.k + 200 < cLine
  deep : X.A.depth + 3 * c.k + 5 < recursionLimit
  guards : X.A.guards = some []
  cold : c.calm = true → ∀ a C d, ¬ M.exc a C d
  excs : ∀ a C d, M.exc a C d → ∃ (oe : Obj) (Ca : Addr), (a, oe) ∈ X.pn ∧ M.mg C = some (.ref Ca) ∧ Zc (.ref Ca) (some d) oe ∧ ∃ vs, oe.data = .fields vs

/-! ### an expression's most general reading -/
def WE (X : Cx) (e : Expr) : TE := fun σ H Q => ∀ (pins : List (Addr × Obj)) (s : Shared), Inv X pins σ H s → wpAny (model X.prog X.w) X.A (eval e X.env) (EP X pins σ Q) X.xe s
def WT (X : Cx) (e : Expr) : TT := fun σ H Q => ∀ (pins : List (Addr × Obj)) (s : Shared), Inv X pins σ H s → wpAny (model X.prog X.w) X.A (isTrue e X.env (eval e X.env)) (TP X pins σ Q) X.xe s
def WW (X : Cx) (e : Expr) : TT := fun σ H Q => ∀ (whole : Sem Value) (pins : List (Addr × Obj)) (s : Shared), Inv X pins σ H s → wpAny (model X.prog X.w) X.A (isTrue e X.env whole) (TP X pins σ Q) X.xe s
def WA (X : Cx) (es : List Expr) : TA := fun σ H Q => ∀ (pos : Pos) (pins : List (Addr × Obj)) (s : Shared), Inv X pins σ H s → wpAny (model X.prog X.w) X.A (spliced (backTo pos (starEach es X.env))) (AP X pins σ Q) X.xe s
section
variable {X : Cx} {e : Expr} {es : List Expr} {σ : St} {H : Hp}
theorem pe_we : PE X e (WE X e) := ⟨fun pins s _ _ _ I h => h pins s I⟩
theorem pt_wt : PT X e (WT X e) := ⟨fun pins s _ _ _ I h => h pins s I⟩
theorem pw_ww : PW X e (WW X e) := ⟨fun whole pins s _ _ _ I h => h whole pins s I⟩
theorem pa_wa : PA X es (WA X es) := ⟨fun pos pins s _ _ _ I h => h pos pins s I⟩
theorem WE.of {t : TE} {Q : VK} (p : PE X e t) (h : t σ H Q) : WE X e σ H Q := fun pins s I => p.run pins s σ H Q I h
theorem WT.of {t : TT} {Q : Bool → Hp → Prop} (p : PT X e t) (h : t σ H Q) : WT X e σ H Q := fun pins s I => p.run pins s σ H Q I h
theorem WW.of {t : TT} {Q : Bool → Hp → Prop} (p : PW X e t) (h : t σ H Q) : WW X e σ H Q := fun whole pins s I => p.run whole pins s σ H Q I h
theorem WA.of {t : TA} {Q : List V → Hp → Prop} (p : PA X es t) (h : t σ H Q) : WA X es σ H Q := fun pos pins s I => p.run pos pins s σ H Q I h
end

/-! ### what is wanted behind code that gives x -/
/-- R: how what came stands to the data (public heap, heap) -/
def Post {α β : Type} (M : Mdl) (F : Act) (env : Sl) (σ : St) (H : Hp) (R : Hp → Hp → β → α → Prop) (Q : β → Hp → Prop) (W : WX) : Out α → Prop
  | .stuck => False
  | .ok d env' => ∀ v H', Rel M.kx F env' σ H' → Grow F env σ H env' σ H' → R (F.pub env' σ H') H' v d → Q v H'
  | .err C fs env' => ∀ cls dd H', Rel M.kx F env' σ H' → Grow F env σ H env' σ H' → ErrIs M.K M.mg (F.pub env' σ H') H' cls dd C fs → W cls dd σ H'
section
variable {α β γ δ : Type} {M : Mdl} {F : Act} {env env' : Sl} {σ : St} {H H' : Hp} {R : Hp → Hp → β → α → Prop} {Q : β → Hp → Prop} {W : WX}
theorem Post.rebase {x : Out α} (h : Post M F env σ H R Q W x) (g : Grow F env σ H env' σ H') : Post M F env' σ H' R Q W x := by
  cases x with
  | stuck => exact h
  | ok a env2 => exact fun v H2 R2 g2 p => h v H2 R2 (g.trans g2) p
  | err C fs env2 => exact fun c d H2 R2 g2 p => h c d H2 R2 (g.trans g2) p
theorem Post.split {x : Out γ} {f : γ → Sl → Out α} {R1 : Hp → Hp → δ → γ → Prop} {Q1 : δ → Hp → Prop} (h : Post M F env σ H R Q W (x.bind f))
    (k : ∀ a env1 v H1, x = .ok a env1 → Rel M.kx F env1 σ H1 → Grow F env σ H env1 σ H1 → R1 (F.pub env1 σ H1) H1 v a → Post M F env1 σ H1 R Q W (f a env1) → Q1 v H1) : Post M F env σ H R1 Q1 W x := by
  cases x with
  | stuck => exact h
  | ok a env2 => exact fun v H2 R2 g2 p => k a env2 v H2 rfl R2 g2 p (h.rebase g2)
  | err C fs env2 => exact h
end

/-- a value's data -/
def rD (K : PySem.W.Frag) : Hp → Hp → V → D → Prop := fun Hm _ v d => Dp K Hm v d
def rDs (K : PySem.W.Frag) : Hp → Hp → List V → List D → Prop := fun Hm _ v d => DpAll K Hm v d
def rB : Hp → Hp → Bool → Bool → Prop := fun _ _ a b => a = b

/-- data, or a list that a name holds alone, looked at for a moment -/
def DpX (K : PySem.W.Frag) (Hm H : Hp) (v : V) (d : D) : Prop := Dp K Hm v d ∨ ∃ a vs xs, v = .ref a ∧ d = .list xs ∧ H a = some (.lst vs) ∧ DpAll K Hm vs xs
section
variable {K : PySem.W.Frag} {Hm H : Hp} {v : V} {d : D}
theorem DpX.of (h : Dp K Hm v d) : DpX K Hm H v d := .inl h
theorem DpX.dp (h : DpX K Hm H v d) (hn : ∀ xs, d ≠ .list xs) : Dp K Hm v d := by
  rcases h with h | ⟨a, vs, xs, _, e, _⟩
  · exact h
  · exact absurd e (hn xs)
theorem DpX.full (h : DpX K Hm H v d) (s : Same Hm H) : Dp K H v d := by
  rcases h with h | ⟨a, vs, xs, rfl, rfl, ha, hd⟩
  · exact Dp.same s h
  · exact .lst (SqL.of ha) (DpAll.same s hd)
theorem DpX.int_inv {i : Int} (h : DpX K Hm H v (.int i)) : v = .int i := by cases h.dp (fun _ z => nomatch z); rfl
theorem DpX.str_inv {i : Str} (h : DpX K Hm H v (.str i)) : v = .str i := by cases h.dp (fun _ z => nomatch z); rfl
theorem DpX.bl_inv {i : Bool} (h : DpX K Hm H v (.bool i)) : v = .bl i := by cases h.dp (fun _ z => nomatch z); rfl
theorem DpX.non_inv (h : DpX K Hm H v .none) : v = .non := by cases h.dp (fun _ z => nomatch z); rfl
theorem DpX.tup_inv {ds : List D} (h : DpX K Hm H v (.tuple ds)) : ∃ a xs, v = .ref a ∧ SqT K Hm a xs ∧ DpAll K Hm xs ds := by
  cases h.dp (fun _ z => nomatch z) with
  | tup h1 h2 => exact ⟨_, _, rfl, h1, h2⟩
theorem DpX.lst_inv {ds : List D} (h : DpX K Hm H v (.list ds)) (s : Same Hm H) : ∃ a xs, v = .ref a ∧ SqL K H a xs ∧ DpAll K Hm xs ds := by
  rcases h with h | ⟨a, vs, xs, rfl, e, ha, hd⟩
  · cases h with
    | lst h1 h2 => exact ⟨_, _, rfl, SqL.same s h1, h2⟩
  · cases e
    exact ⟨a, vs, rfl, SqL.of ha, hd⟩
end

structure DE (M : Mdl) (c : Cf) (e : Expr) (f : Sl → Out D) : Prop where
  run : ∀ (X : Cx), Good M c X → ∀ (W : WX), Takes X W → ∀ (F : Act) (env : Sl) (σ : St) (H : Hp) (Q : VK),
  Rel M.kx F env σ H → Post M F env σ H (rD M.K) Q W (f env) → WE X e σ H Q
structure DT (M : Mdl) (c : Cf) (e : Expr) (f : Sl → Out Bool) : Prop where
  run : ∀ (X : Cx), Good M c X → ∀ (W : WX), Takes X W → ∀ (F : Act) (env : Sl) (σ : St) (H : Hp) (Q : Bool → Hp → Prop),
  Rel M.kx F env σ H → Post M F env σ H rB Q W (f env) → WT X e σ H Q
/-- a test whatever its whole is -/
structure DW (M : Mdl) (c : Cf) (e : Expr) (f : Sl → Out Bool) : Prop where
  run : ∀ (X : Cx), Good M c X → ∀ (W : WX), Takes X W → ∀ (F : Act) (env : Sl) (σ : St) (H : Hp) (Q : Bool → Hp → Prop),
  Rel M.kx F env σ H → Post M F env σ H rB Q W (f env) → WW X e σ H Q
structure DA (M : Mdl) (c : Cf) (es : List Expr) (f : Sl → Out (List D)) : Prop where
  run : ∀ (X : Cx), Good M c X → ∀ (W : WX), Takes X W → ∀ (F : Act) (env : Sl) (σ : St) (H : Hp) (Q : List V → Hp → Prop),
  Rel M.kx F env σ H → Post M F env σ H (rDs M.K) Q W (f env) → WA X es σ H Q

@[reducible] def lift (x : Option D) (env : Sl) : Out D := match x with
  | some d => .ok d env
  | none => .stuck
theorem lift_some (d : D) (env : Sl) : lift (some d) env = .ok d env := rfl
theorem lift_none (env : Sl) : lift none env = .stuck := rfl
@[reducible] def liftB (x : Option Bool) (env : Sl) : Out Bool := match x with
  | some d => .ok d env
  | none => .stuck

section
variable {M : Mdl} {c : Cf} {pos : Pos}

/-! ### names and constants -/
def varD (i : Nat) : Sl → Out D := fun env => match env[i]? with
  | some (.val d) => .ok d env
  | some (.ml xs) => .ok (.list xs) (env.set i (.val (.list xs)))
  | _ => .stuck
theorem Good.var {X : Cx} (G : Good M c X) {i : Nat} {x : Str} (hN : c.N[i]? = some x) (hv : Vis c.sc x) (hd : (x == ("__debug__" : Str)) = false) (hcd : (x == ("__classdict__" : Str)) = false) : PE X (.Name x pos) (tVar i) :=
  pe_var (by rw [G.N]; exact hN) (by rw [G.sc]; exact hv) hd hcd
theorem de_var {i : Nat} {x : Str} (hN : c.N[i]? = some x) (hv : Vis c.sc x) (hd : (x == ("__debug__" : Str)) = false) (hcd : (x == ("__classdict__" : Str)) = false) : DE M c (.Name x pos) (varD i) := by
  refine ⟨fun X G W tk F env σ H Q R h => ?_⟩
  refine WE.of (G.var hN hv hd hcd) ?_
  unfold varD at h
  cases e : env[i]? with
  | none => rw [e] at h; exact h.elim
  | some s =>
    rw [e] at h
    cases s with
    | val d =>
      obtain ⟨o, e1, v, rfl, p⟩ := R.slot i _ e
      exact ⟨v, e1, h v H R Grow.refl p⟩
    | ml xs =>
      obtain ⟨R2, g, a, e1, p⟩ := R.freeze e
      exact ⟨_, e1, h _ H R2 g p⟩
    | no => exact h.elim
    | mb xs => exact h.elim
    | er C fs => exact h.elim
/-- a constant -/
def conD (d : D) : Sl → Out D := fun env => .ok d env
theorem de_int {i : Int} {j} : DE M c (.Constant (.int i) j pos) (conD (.int i)) := ⟨fun X G W tk F env σ H Q R h => WE.of pe_int (h _ H R Grow.refl (.int i))⟩
theorem de_bl {b : Bool} {j} : DE M c (.Constant (.bool b) j pos) (conD (.bool b)) := ⟨fun X G W tk F env σ H Q R h => WE.of pe_bl (h _ H R Grow.refl (.bl b))⟩
theorem de_non {j} : DE M c (.Constant .none j pos) (conD .none) := ⟨fun X G W tk F env σ H Q R h => WE.of pe_non (h _ H R Grow.refl .non)⟩
theorem de_str {x : Str} {j} : DE M c (.Constant (.str x) j pos) (conD (.str x)) := ⟨fun X G W tk F env σ H Q R h => WE.of pe_str (h _ H R Grow.refl (.str x))⟩
/-- a module's constant -/
theorem de_glob {x : Str} {v : V} {u : Value} {d : D} (hg : c.sc.names.lookup x = some .globalImplicit) (hm : M.mg x = some u) (r : RelV v u) (hd : ∀ H, Dp M.K H v d) (hdb : (x == ("__debug__" : Str)) = false) : DE M c (.Name x pos) (conD d) :=
  ⟨fun X G W tk F env σ H Q R h => WE.of (pe_glob (by unfold Gl PySem.Env.kindOf; rw [G.sc]; exact hg) (by rw [G.mg]; exact hm) r hdb) (h v H R Grow.refl (hd _))⟩

/-! ### operands: a name may be looked at, without giving its list away -/
def peek (env : Sl) (i : Nat) : Option D := match env[i]? with
  | some (.val d) => some d
  | some (.ml xs) => some (.list xs)
  | some (.mb xs) => some (.list xs)
  | _ => none
theorem peek_ok {F : Act} {env : Sl} {σ : St} {H : Hp} {i : Nat} {d : D} (R : Rel M.kx F env σ H) (h : peek env i = some d) : ∃ v, σ[i]? = some (some v) ∧ DpX M.K (F.pub env σ H) H v d := by
  unfold peek at h
  cases e : env[i]? with
  | none => rw [e] at h; cases h
  | some s =>
    rw [e] at h
    cases s with
    | val d' =>
      cases h
      obtain ⟨o, e1, v, rfl, p⟩ := R.slot i _ e
      exact ⟨v, e1, .inl p⟩
    | ml xs =>
      cases h
      obtain ⟨o, e1, a, vs, rfl, p, q⟩ := R.slot i _ e
      exact ⟨_, e1, .inr ⟨a, vs, xs, rfl, rfl, p, q⟩⟩
    | mb xs =>
      cases h
      obtain ⟨o, e1, a, vs, rfl, p, q⟩ := R.slot i _ e
      exact ⟨_, e1, .inr ⟨a, vs, xs, rfl, rfl, p, q⟩⟩
    | no => cases h
    | er C fs => cases h
inductive Opd where
  | pk (i : Nat)
  | ev (f : Sl → Out D)
def Opd.Of (M : Mdl) (c : Cf) (e : Expr) : Opd → Prop
  | .pk i => ∃ (x : Str) (pos : Pos), e = .Name x pos ∧ c.N[i]? = some x ∧ Vis c.sc x ∧ (x == ("__debug__" : Str)) = false ∧ (x == ("__classdict__" : Str)) = false
  | .ev f => DE M c e f
theorem op_pk {i : Nat} {x : Str} (hN : c.N[i]? = some x) (hv : Vis c.sc x) (hd : (x == ("__debug__" : Str)) = false) (hcd : (x == ("__classdict__" : Str)) = false) : (Opd.pk i).Of M c (.Name x pos) := ⟨x, pos, rfl, hN, hv, hd, hcd⟩
theorem op_ev {e : Expr} {f : Sl → Out D} (h : DE M c e f) : (Opd.ev f).Of M c e := h
/-- one operand -/
def ev1 {α : Type} : Opd → (D → Sl → Out α) → Sl → Out α
  | .pk i, k, env => match peek env i with
    | some d => k d env
    | none => .stuck
  | .ev f, k, env => (f env).bind k
/-- two operands -/
def ev2 {α : Type} : Opd → Opd → (D → D → Sl → Out α) → Sl → Out α
  | .pk i, ob, k, env => match peek env i with
    | some _ => ev1 ob (fun y env => match peek env i with
      | some d => k d y env
      | none => .stuck) env
    | none => .stuck
  | .ev f, ob, k, env => (f env).bind fun x env => ev1 ob (fun y env => k x y env) env
section
variable {α β : Type} {F : Act} {env : Sl} {σ : St} {H : Hp} {R : Hp → Hp → β → α → Prop} {Q : β → Hp → Prop} {W : WX} {X : Cx} {e a b : Expr}
theorem pub_sub {F : Act} {env : Sl} {σ : St} {H : Hp} : Same (F.pub env σ H) H := minus_sub
theorem opd1 {o : Opd} {k : D → Sl → Out α} {Z : VK} (ho : o.Of M c e) (G : Good M c X) (tk : Takes X W) (Re : Rel M.kx F env σ H) (h : Post M F env σ H R Q W (ev1 o k env))
    (fin : ∀ env2 v d H2, Rel M.kx F env2 σ H2 → Grow F env σ H env2 σ H2 → DpX M.K (F.pub env2 σ H2) H2 v d → Post M F env2 σ H2 R Q W (k d env2) → Z v H2) : WE X e σ H Z := by
  cases o with
  | pk i =>
    obtain ⟨x, pos, rfl, h1, h2, h3, h4⟩ := ho
    refine WE.of (G.var h1 h2 h3 h4) ?_
    have h : Post M F env σ H R Q W (match peek env i with
      | some d => k d env
      | none => .stuck) := h
    cases q : peek env i with
    | none => rw [q] at h; exact h.elim
    | some d =>
      rw [q] at h
      obtain ⟨v, e1, p⟩ := peek_ok Re q
      exact ⟨v, e1, fin env v d H Re Grow.refl p h⟩
  | ev f =>
    have ho : DE M c e f := ho
    have h : Post M F env σ H R Q W ((f env).bind k) := h
    exact ho.run X G W tk F env σ H _ Re (Post.split h fun d env1 v H1 _ R1 g1 p1 h1 => fin env1 v d H1 R1 g1 (.inl p1) h1)
theorem opd2 {oa ob : Opd} {k : D → D → Sl → Out α} {Z : V → V → Hp → Prop} (ha : oa.Of M c a) (hb : ob.Of M c b) (G : Good M c X) (tk : Takes X W) (Re : Rel M.kx F env σ H)
    (h : Post M F env σ H R Q W (ev2 oa ob k env))
    (fin : ∀ env2 v1 v2 d1 d2 H2, Rel M.kx F env2 σ H2 → Grow F env σ H env2 σ H2 → DpX M.K (F.pub env2 σ H2) H2 v1 d1 → DpX M.K (F.pub env2 σ H2) H2 v2 d2 → Post M F env2 σ H2 R Q W (k d1 d2 env2) → Z v1 v2 H2) :
    WE X a σ H fun v1 H1 => WE X b σ H1 fun v2 H2 => Z v1 v2 H2 := by
  cases oa with
  | pk i =>
    obtain ⟨x, pos, rfl, h1, h2, h3, h4⟩ := ha
    refine WE.of (G.var h1 h2 h3 h4) ?_
    have h : Post M F env σ H R Q W (match peek env i with
      | some _ => ev1 ob (fun y env => match peek env i with
        | some d => k d y env
        | none => .stuck) env
      | none => .stuck) := h
    cases q0 : peek env i with
    | none => rw [q0] at h; exact h.elim
    | some d0 =>
      simp only [q0] at h
      obtain ⟨v, ev, _⟩ := peek_ok Re q0
      refine ⟨v, ev, opd1 hb G tk Re h fun env2 v2 d2 H2 R2 g2 p2 q2 => ?_⟩
      cases q : peek env2 i with
      | none => simp only [q] at q2; exact q2.elim
      | some d =>
        simp only [q] at q2
        obtain ⟨v', e1, p⟩ := peek_ok R2 q
        rw [ev] at e1
        cases e1
        exact fin env2 v v2 d d2 H2 R2 g2 p p2 q2
  | ev f =>
    have ha : DE M c a f := ha
    have h : Post M F env σ H R Q W ((f env).bind fun x env => ev1 ob (fun y env => k x y env) env) := h
    refine ha.run X G W tk F env σ H _ Re (Post.split h fun d env1 v H1 _ R1 g1 p1 h1 => ?_)
    exact opd1 hb G tk R1 h1 fun env2 v2 d2 H2 R2 g2 p2 q2 => fin env2 v v2 d d2 H2 R2 (g1.trans g2) (.inl (Dp.same g2 p1)) p2 q2
end

/-! ### operators by values -/
def anyR (X : Cx) (f : Value → Value → Sem Value) : R2 := fun x y H Q => ∃ r, OpR X f r ∧ r x y H Q
theorem anyR_ok {X : Cx} {f : Value → Value → Sem Value} : OpR X f (anyR X f) := fun pins s σ H x y v u Q I rx ry h => by
  obtain ⟨r, h1, h2⟩ := h
  exact h1 pins s σ H x y v u Q I rx ry h2
def BopD (M : Mdl) (c : Cf) (f : Value → Value → Sem Value) (g : D → D → Option D) : Prop := ∀ (X : Cx), Good M c X → ∀ (H : Hp) (Hd : Addr → Prop) (x y : V) (d1 d2 d : D) (Q : VK), (∀ b, Hd b → H b ≠ Option.none) →
  DpX M.K (minus H Hd) H x d1 → DpX M.K (minus H Hd) H y d2 → g d1 d2 = some d → (∀ v H', Same H H' → Dp M.K (minus H' Hd) v d → Q v H') → anyR X f x y H Q
def bin (g : D → D → Option D) (oa ob : Opd) : Sl → Out D := ev2 oa ob fun x y env => lift (g x y) env
theorem lift_post {F : Act} {env : Sl} {σ : St} {H : Hp} {Q : VK} {W : WX} {o : Option D} (R : Rel M.kx F env σ H) (h : Post M F env σ H (rD M.K) Q W (lift o env)) :
    ∃ d, o = some d ∧ ∀ v H', Same H H' → Dp M.K (minus H' (F.Hid env σ)) v d → Q v H' := by
  cases o with
  | none => exact h.elim
  | some d => exact ⟨d, rfl, fun v H' e p => h v H' (R.grow e) (Grow.of e) p⟩
theorem liftB_post {F : Act} {env : Sl} {σ : St} {H : Hp} {Q : Bool → Hp → Prop} {W : WX} {o : Option Bool} (R : Rel M.kx F env σ H) (h : Post M F env σ H rB Q W (liftB o env)) :
    ∃ d, o = some d ∧ ∀ H', Same H H' → Q d H' := by
  cases o with
  | none => exact h.elim
  | some d => exact ⟨d, rfl, fun H' e => h d H' (R.grow e) (Grow.of e) rfl⟩
variable {a b : Expr} {oa ob : Opd}
theorem de_bin {op : Operator} {g : D → D → Option D} (ho : BopD M c (binaryOp op) g) (ha : oa.Of M c a) (hb : ob.Of M c b) : DE M c (.BinOp a op b pos) (bin g oa ob) := by
  refine ⟨fun X G W tk F env σ H Q R h => ?_⟩
  refine WE.of (pe_op anyR_ok pe_we pe_we) (opd2 ha hb G tk R h fun env2 v1 v2 d1 d2 H2 R2 g2 p1 p2 h2 => ?_)
  obtain ⟨d, e, k⟩ := lift_post R2 h2
  exact ho X G H2 _ v1 v2 d1 d2 d Q (fun _ => R2.hid_live) p1 p2 e k
/-- a comparison as a value -/
theorem de_cmp {op : CmpOp} {g : D → D → Option D} (ho : BopD M c (compareOp op) g) (hm : behindInMarks op b = false) (ha : oa.Of M c a) (hb : ob.Of M c b) : DE M c (.Compare a [op] [b] pos) (bin g oa ob) := by
  refine ⟨fun X G W tk F env σ H Q R h => ?_⟩
  refine WE.of (pe_cmpR anyR_ok pe_we pe_we hm) (opd2 ha hb G tk R h fun env2 v1 v2 d1 d2 H2 R2 g2 p1 p2 h2 => ?_)
  obtain ⟨d, e, k⟩ := lift_post R2 h2
  exact ho X G H2 _ v1 v2 d1 d2 d Q (fun _ => R2.hid_live) p1 p2 e k
end
end DL
end
section
set_option Elab.async false
set_option linter.all false
set_option maxRecDepth 100000
set_option maxHeartbeats 4000000
/-! DL3: operators over data. -/
namespace DL
open PySem PySem.Spec PyProof.Rows L2

section
variable {K : PySem.W.Frag} {H : Hp} {Hd : Addr → Prop}
theorem upd_grow {p : Addr} {o : HO} (hp : H p = Option.none) : Same H (upd H p o) := fun b u e => by rw [upd_ne (ne_of_none e hp)]; exact e
theorem new_tup {p : Addr} {vs : List V} {ds : List D} (hl : ∀ b, Hd b → H b ≠ Option.none) (hp : H p = Option.none) (ha : DpAll K (minus H Hd) vs ds) : Dp K (minus (upd H p (.tup vs)) Hd) (.ref p) (.tuple ds) :=
  .tup (SqT.of (minus_some.mpr ⟨fun z => hl p z hp, upd_same⟩)) (DpAll.same (minus_same (upd_grow hp)) ha)
theorem new_lst {p : Addr} {vs : List V} {ds : List D} (hl : ∀ b, Hd b → H b ≠ Option.none) (hp : H p = Option.none) (ha : DpAll K (minus H Hd) vs ds) : Dp K (minus (upd H p (.lst vs)) Hd) (.ref p) (.list ds) :=
  .lst (SqL.of (minus_some.mpr ⟨fun z => hl p z hp, upd_same⟩)) (DpAll.same (minus_same (upd_grow hp)) ha)
theorem _root_.L2.SqT.full {a : Addr} {xs : List V} (h : SqT K (minus H Hd) a xs) : SqT K H a xs := SqT.same minus_sub h
theorem _root_.L2.SqL.full {a : Addr} {xs : List V} (h : SqL K (minus H Hd) a xs) : SqL K H a xs := SqL.same minus_sub h
theorem _root_.L2.Dp.int_inv {v : V} {i : Int} (h : Dp K H v (.int i)) : v = .int i := by cases h; rfl
theorem _root_.L2.Dp.str_inv {v : V} {i : Str} (h : Dp K H v (.str i)) : v = .str i := by cases h; rfl
theorem _root_.L2.Dp.bl_inv {v : V} {i : Bool} (h : Dp K H v (.bool i)) : v = .bl i := by cases h; rfl
theorem _root_.L2.Dp.non_inv {v : V} (h : Dp K H v .none) : v = .non := by cases h; rfl
theorem _root_.L2.Dp.tup_inv {v : V} {ds : List D} (h : Dp K H v (.tuple ds)) : ∃ a xs, v = .ref a ∧ SqT K H a xs ∧ DpAll K H xs ds := by
  cases h with
  | tup h1 h2 => exact ⟨_, _, rfl, h1, h2⟩
theorem _root_.L2.Dp.lst_inv {v : V} {ds : List D} (h : Dp K H v (.list ds)) : ∃ a xs, v = .ref a ∧ SqL K H a xs ∧ DpAll K H xs ds := by
  cases h with
  | lst h1 h2 => exact ⟨_, _, rfl, h1, h2⟩
end

/-- list + list, read in any way -/
def rCatL (K : PySem.W.Frag) : R2 := fun x y H Q => ∃ l b xs zs, x = .ref l ∧ y = .ref b ∧ SqL K H l xs ∧ SqL K H b zs ∧ xs.length + zs.length ≤ sizeLine ∧ ∀ p, H p = Option.none → Q (.ref p) (upd H p (.lst (xs ++ zs)))
theorem op_catL {X : Cx} : OpR X (binaryOp .Add) (rCatL X.K) := by
  intro pins s σ H x y v u Q I rx ry h
  obtain ⟨l, b, xs, zs, rfl, rfl, hH, hB, hz, q⟩ := h
  cases rx
  cases ry
  obtain ⟨its, r, ⟨⟨oc, od, odt, osl⟩, n, e, ec, ed, et⟩, zl⟩ := I.list hH
  obtain ⟨its2, r2, ⟨⟨oc2, od2, odt2, osl2⟩, n2, e2, ec2, ed2, et2⟩, zl2⟩ := I.list hB
  simp only at ec ed et ec2 ed2 et2
  subst ec ed et ec2 ed2 et2
  have hl := r.length
  have hl2 := r2.length
  have ea : its.toArray ++ its2.toArray = (its ++ its2).toArray := by simp
  refine concat_meets ⟨_, e, rfl⟩ ⟨_, e2, rfl⟩ noFill_list_add seq_list_add PySem.F.slot_list_add PySem.F.entry_list_add
    (PySem.F.args_list_add_2 _ _) (list_addW l b its.toArray its2.toArray n n2 Option.none Option.none osl osl2 (by simp; omega)) ⟨e, e2, ?_⟩
  rw [ea]
  exact ⟨.ref _, _, I.lnew (t' := s.toks) (r.append r2) (by rw [List.length_append]; omega), rfl, q _ I.fresh⟩

section
variable {M : Mdl} {c : Cf}
theorem Good.calmT {X : Cx} (G : Good M c X) (h : c.calm = true) : X.calm = true := G.calm h
theorem Good.u0 {X : Cx} (G : Good M c X) : X.A.units < cLine := by have := G.units; omega
theorem Good.u64 {X : Cx} (G : Good M c X) : X.A.units + 64 < cLine := by have := G.units; omega
theorem Good.u65 {X : Cx} (G : Good M c X) : X.A.units + 65 < cLine := by have := G.units; omega

/-- small enough for a product -/
def mulOk (i j : Int) : Bool := decide (i.natAbs.log2 + j.natAbs.log2 < 1000000)
def addD : D → D → Option D
  | .int i, .int j => some (.int (i + j))
  | .str x, .str y => if x.length + y.length ≤ sizeLine then some (.str (x ++ y)) else none
  | .tuple xs, .tuple ys => if xs.length + ys.length ≤ sizeLine then some (.tuple (xs ++ ys)) else none
  | .list xs, .list ys => if xs.length + ys.length ≤ sizeLine then some (.list (xs ++ ys)) else none
  | _, _ => none
theorem b_add : BopD M c (binaryOp .Add) addD := by
  intro X G H Hd x y d1 d2 d Q hl p1 p2 e k
  cases d1 <;> cases d2 <;> first | (cases e; done) | skip
  case int.int i j =>
    cases e
    cases p1.int_inv
    cases p2.int_inv
    exact ⟨_, op_add, _, _, rfl, rfl, k _ _ (Same.refl _) (.int _)⟩
  case str.str i j =>
    simp only [addD] at e
    split at e
    · cases e
      cases p1.str_inv
      cases p2.str_inv
      exact ⟨_, op_add_str, _, _, rfl, rfl, ‹_›, k _ _ (Same.refl _) (.str _)⟩
    · cases e
  case tuple.tuple xs ys =>
    simp only [addD] at e
    split at e
    · rename_i hz
      cases e
      obtain ⟨a, us, rfl, s1, q1⟩ := p1.tup_inv
      obtain ⟨b, vs, rfl, s2, q2⟩ := p2.tup_inv
      have l1 := q1.len
      have l2 := q2.len
      refine ⟨_, op_catA, a, b, us, vs, rfl, rfl, by rw [G.K]; exact s1.full, by rw [G.K]; exact s2.full, by omega, fun z => ?_, fun _ z => ?_, fun _ _ p hp => ?_⟩
      · subst z
        have : xs = [] := List.eq_nil_of_length_eq_zero (by simpa using l1.symm)
        subst this
        exact k _ _ (Same.refl _) (.tup s2 q2)
      · subst z
        have : ys = [] := List.eq_nil_of_length_eq_zero (by simpa using l2.symm)
        subst this
        exact k _ _ (Same.refl _) (by rw [List.append_nil]; exact .tup s1 q1)
      · exact k _ _ (upd_grow hp) (new_tup hl hp (q1.app q2))
    · cases e
  case list.list xs ys =>
    simp only [addD] at e
    split at e
    · rename_i hz
      cases e
      obtain ⟨a, us, rfl, s1, q1⟩ := p1.lst_inv minus_sub
      obtain ⟨b, vs, rfl, s2, q2⟩ := p2.lst_inv minus_sub
      have l1 := q1.len
      have l2 := q2.len
      refine ⟨_, op_catL, a, b, us, vs, rfl, rfl, by rw [G.K]; exact s1, by rw [G.K]; exact s2, by omega, fun p hp => ?_⟩
      exact k _ _ (upd_grow hp) (new_lst hl hp (q1.app q2))
    · cases e
def subD : D → D → Option D
  | .int i, .int j => some (.int (i - j))
  | _, _ => none
theorem b_sub : BopD M c (binaryOp .Sub) subD := by
  intro X G H Hd x y d1 d2 d Q hl p1 p2 e k
  cases d1 <;> cases d2 <;> first | (cases e; done) | skip
  cases e
  cases p1.int_inv
  cases p2.int_inv
  exact ⟨_, op_sub, _, _, rfl, rfl, k _ _ (Same.refl _) (.int _)⟩
def modD : D → D → Option D
  | .int i, .int j => if j = 0 then none else some (.int (i.fmod j))
  | _, _ => none
theorem b_mod : BopD M c (binaryOp .Mod) modD := by
  intro X G H Hd x y d1 d2 d Q hl p1 p2 e k
  cases d1 <;> cases d2 <;> first | (cases e; done) | skip
  simp only [modD] at e
  split at e
  · cases e
  · cases e
    cases p1.int_inv
    cases p2.int_inv
    exact ⟨_, op_modN, _, _, rfl, rfl, ‹_›, k _ _ (Same.refl _) (.int _)⟩
/-- a divisor: small, or positive below 2 ^ 9000 -/
def divOk (j : Int) : Bool := (decide (j ≠ 0) && decide (j.natAbs < 1073741824)) || (decide (0 < j) && decide (j.natAbs.log2 < 9000))
def fdivD : D → D → Option D
  | .int i, .int j => if divOk j = true then some (.int (i.fdiv j)) else none
  | _, _ => none
theorem b_fdiv : BopD M c (binaryOp .FloorDiv) fdivD := by
  intro X G H Hd x y d1 d2 d Q hl p1 p2 e k
  cases d1 <;> cases d2 <;> first | (cases e; done) | skip
  simp only [fdivD] at e
  split at e
  · rename_i hj
    cases e
    cases p1.int_inv
    cases p2.int_inv
    rename_i i j
    simp only [divOk, Bool.or_eq_true, Bool.and_eq_true, decide_eq_true_eq] at hj
    rcases hj with hj | hj
    · exact ⟨_, op_fdivN, _, _, rfl, rfl, hj, k _ _ (Same.refl _) (.int _)⟩
    · refine ⟨_, op_fdivW, _, _, rfl, rfl, hj, ?_⟩
      show Q (.int (i / j)) H
      rw [← Int.fdiv_eq_ediv_of_nonneg i (Int.le_of_lt hj.1)]
      exact k _ _ (Same.refl _) (.int _)
  · cases e
def mulD : D → D → Option D
  | .int i, .int j => if mulOk i j = true then some (.int (i * j)) else none
  | .tuple xs, .int k => if xs ≠ [] ∧ 2 ≤ k ∧ k ≤ 1000 ∧ xs.length ≤ 1000 then some (.tuple (List.replicate k.toNat xs).flatten) else none
  | _, _ => none
theorem _root_.L2.DpAll.rep {K : PySem.W.Frag} {H : Hp} {vs : List V} {ds : List D} (h : DpAll K H vs ds) (n : Nat) : DpAll K H (List.replicate n vs).flatten (List.replicate n ds).flatten := by
  induction n with
  | zero => exact .nil
  | succ n ih =>
    rw [List.replicate_succ, List.replicate_succ, List.flatten_cons, List.flatten_cons]
    exact h.app ih
theorem b_mul : BopD M c (binaryOp .Mult) mulD := by
  intro X G H Hd x y d1 d2 d Q hl p1 p2 e k
  cases d1 <;> cases d2 <;> first | (cases e; done) | skip
  case int.int i j =>
    simp only [mulD] at e
    split at e
    · rename_i hj
      cases e
      cases p1.int_inv
      cases p2.int_inv
      exact ⟨_, op_mulW, _, _, rfl, rfl, (show i.natAbs.log2 + j.natAbs.log2 < 1000000 from of_decide_eq_true hj), k _ _ (Same.refl _) (.int _)⟩
    · cases e
  case tuple.int xs j =>
    simp only [mulD] at e
    split at e
    · rename_i hj
      cases e
      obtain ⟨a, us, rfl, s1, q1⟩ := p1.tup_inv
      cases p2.int_inv
      have l1 := q1.len
      refine ⟨_, op_repT, a, j, us, rfl, rfl, by rw [G.K]; exact s1.full, fun z => hj.1 ?_, hj.2.1, hj.2.2.1, by omega, fun p hp => ?_⟩
      · subst z
        exact List.eq_nil_of_length_eq_zero (by simpa using l1.symm)
      · exact k _ _ (upd_grow hp) (new_tup hl hp (q1.rep _))
    · cases e
def cmpI (p : Int → Int → Bool) : D → D → Option D
  | .int i, .int j => some (.bool (p i j))
  | _, _ => none
theorem b_cmpI {op : CmpOp} {p : Int → Int → Bool} (ho : ∀ X : Cx, OpR X (compareOp op) (rI0 fun i j => .bl (p i j))) : BopD M c (compareOp op) (cmpI p) := by
  intro X G H Hd x y d1 d2 d Q hl p1 p2 e k
  cases d1 <;> cases d2 <;> first | (cases e; done) | skip
  cases e
  cases p1.int_inv
  cases p2.int_inv
  exact ⟨_, ho X, _, _, rfl, rfl, k _ _ (Same.refl _) (.bl _)⟩
abbrev ltD := cmpI fun i j => decide (i < j)
abbrev leD := cmpI fun i j => decide (i ≤ j)
abbrev gtD := cmpI fun i j => decide (j < i)
abbrev geD := cmpI fun i j => decide (j ≤ i)
theorem b_lt : BopD M c (compareOp .Lt) ltD := b_cmpI fun _ => op_lt
theorem b_le : BopD M c (compareOp .LtE) leD := b_cmpI fun _ => op_le
theorem b_gt : BopD M c (compareOp .Gt) gtD := b_cmpI fun _ => op_gt
theorem b_ge : BopD M c (compareOp .GtE) geD := b_cmpI fun _ => op_ge
/-- whether two data are == -/
def eqB : D → D → Option Bool
  | .int i, .int j => some (decide (i = j))
  | .str i, .str j => some (decide (i = j))
  | .none, .none => some true
  | a, b => if SeqAt.shaped a = true ∧ SeqAt.shaped b = true then some (PyData.eqv a b) else none
def eqD (a b : D) : Option D := (eqB a b).map .bool
def neD (a b : D) : Option D := (eqB a b).map fun z => .bool (!z)
theorem eqB_cases {a b : D} {z : Bool} (h : eqB a b = some z) : (∃ i j, a = .int i ∧ b = .int j ∧ z = decide (i = j)) ∨ (∃ i j, a = .str i ∧ b = .str j ∧ z = decide (i = j)) ∨ (a = .none ∧ b = .none ∧ z = true) ∨
    (SeqAt.shaped a = true ∧ SeqAt.shaped b = true ∧ z = PyData.eqv a b) := by
  have tl : (if SeqAt.shaped a = true ∧ SeqAt.shaped b = true then some (PyData.eqv a b) else none) = some z → SeqAt.shaped a = true ∧ SeqAt.shaped b = true ∧ z = PyData.eqv a b := fun q => by
    split at q
    · rename_i hh
      cases q
      exact ⟨hh.1, hh.2, rfl⟩
    · cases q
  cases a <;> cases b <;> first
    | exact .inr (.inr (.inr (tl h)))
    | (cases h; exact .inl ⟨_, _, rfl, rfl, rfl⟩)
    | (cases h; exact .inr (.inl ⟨_, _, rfl, rfl, rfl⟩))
    | (cases h; exact .inr (.inr (.inl ⟨rfl, rfl, rfl⟩)))
theorem b_eq : BopD M c (compareOp .Eq) eqD := by
  intro X G H Hd x y d1 d2 d Q hl p1 p2 e k
  unfold eqD at e
  obtain ⟨z, e1, rfl⟩ := Option.map_eq_some_iff.mp e
  rcases eqB_cases e1 with ⟨i, j, rfl, rfl, rfl⟩ | ⟨i, j, rfl, rfl, rfl⟩ | ⟨rfl, rfl, rfl⟩ | ⟨h1, h2, rfl⟩
  · cases p1.int_inv
    cases p2.int_inv
    refine ⟨_, op_eq, rfl, ?_⟩
    have e : decide (V.int i = V.int j) = decide (i = j) := by simp
    rw [e]
    exact k _ _ (Same.refl _) (.bl _)
  · cases p1.str_inv
    cases p2.str_inv
    refine ⟨_, op_eq, rfl, ?_⟩
    have e : decide (V.str i = V.str j) = decide (i = j) := by simp
    rw [e]
    exact k _ _ (Same.refl _) (.bl _)
  · cases p1.non_inv
    cases p2.non_inv
    refine ⟨_, op_eq, rfl, ?_⟩
    exact k _ _ (Same.refl _) (.bl _)
  · exact ⟨_, op_eqD G.u64, _, _, by rw [G.K]; exact p1.full minus_sub, by rw [G.K]; exact p2.full minus_sub, h1, h2, k _ _ (Same.refl _) (.bl _)⟩
theorem b_ne : BopD M c (compareOp .NotEq) neD := by
  intro X G H Hd x y d1 d2 d Q hl p1 p2 e k
  unfold neD at e
  obtain ⟨z, e1, rfl⟩ := Option.map_eq_some_iff.mp e
  rcases eqB_cases e1 with ⟨i, j, rfl, rfl, rfl⟩ | ⟨i, j, rfl, rfl, rfl⟩ | ⟨rfl, rfl, rfl⟩ | ⟨h1, h2, rfl⟩
  · cases p1.int_inv
    cases p2.int_inv
    refine ⟨_, op_ne, rfl, ?_⟩
    have e : decide (V.int i = V.int j) = decide (i = j) := by simp
    rw [e]
    exact k _ _ (Same.refl _) (.bl _)
  · cases p1.str_inv
    cases p2.str_inv
    refine ⟨_, op_ne, rfl, ?_⟩
    have e : decide (V.str i = V.str j) = decide (i = j) := by simp
    rw [e]
    exact k _ _ (Same.refl _) (.bl _)
  · cases p1.non_inv
    cases p2.non_inv
    refine ⟨_, op_ne, rfl, ?_⟩
    exact k _ _ (Same.refl _) (.bl _)
  · exact ⟨_, op_neD G.u64, _, _, by rw [G.K]; exact p1.full minus_sub, by rw [G.K]; exact p2.full minus_sub, h1, h2, k _ _ (Same.refl _) (.bl _)⟩
/-- is None -/
def isN : D → Bool
  | .none => true
  | _ => false
def isND (a b : D) : Option D := if isN b = true then some (.bool (isN a)) else none
def notND (a b : D) : Option D := if isN b = true then some (.bool (!isN a)) else none
theorem isN_dec {K : PySem.W.Frag} {Hm H : Hp} {v : V} {d : D} (h : DpX K Hm H v d) : decide (v = .non) = isN d := by
  rcases h with h | ⟨a, vs, xs, rfl, rfl, _, _⟩
  · cases h <;> simp [isN]
  · simp [isN]
theorem b_is : BopD M c (compareOp .Is) isND := by
  intro X G H Hd x y d1 d2 d Q hl p1 p2 e k
  unfold isND at e
  split at e
  · cases e
    cases d2 <;> first | (rename_i z; cases z; done) | skip
    cases p2.non_inv
    refine ⟨_, op_isN, rfl, ?_⟩
    rw [isN_dec p1]
    exact k _ _ (Same.refl _) (.bl _)
  · cases e
theorem b_isnot : BopD M c (compareOp .IsNot) notND := by
  intro X G H Hd x y d1 d2 d Q hl p1 p2 e k
  unfold notND at e
  split at e
  · cases e
    cases d2 <;> first | (rename_i z; cases z; done) | skip
    cases p2.non_inv
    refine ⟨_, op_notN, rfl, ?_⟩
    rw [isN_dec p1]
    exact k _ _ (Same.refl _) (.bl _)
  · cases e
end
end DL
end
section
set_option Elab.async false
set_option linter.all false
set_option maxRecDepth 100000
set_option maxHeartbeats 4000000
/-! DL4: tests, choices, displays, chains, places. -/
namespace DL
open PySem PySem.Spec PyProof.Rows L2

section
variable {M : Mdl} {c : Cf} {pos : Pos} {a b e : Expr} {rest es : List Expr} {fa fb fc fe : Sl → Out D} {ta tb : Sl → Out Bool}

/-- a value's truth -/
def truthD : D → Option Bool
  | .none => some false
  | .bool b => some b
  | .int i => some (decide (i ≠ 0))
  | .str x => if x.length ≤ sizeLine then some (decide (x.length ≠ 0)) else none
  | .list xs => some (!xs.isEmpty)
  | .tuple xs => some (!xs.isEmpty)
  | .dict _ => none
theorem empty_same {K : PySem.W.Frag} {H : Hp} {vs : List V} {ds : List D} (h : DpAll K H vs ds) : vs.isEmpty = ds.isEmpty := by
  cases h <;> rfl
theorem tru_of {K : PySem.W.Frag} {H : Hp} {v : V} {d : D} {k : Bool} (p : Dp K H v d) (h : truthD d = some k) : TruV K v H k := by
  cases p with
  | non => cases h; rfl
  | bl b => cases h; rfl
  | int i =>
    cases h
    show decide (i ≠ 0) = (i != 0)
    by_cases z : i = 0
    · subst z; rfl
    · rw [decide_eq_true z]
      exact (bne_iff_ne.mpr z).symm
  | str x =>
    simp only [truthD] at h
    split at h
    · cases h
      refine ⟨‹_›, ?_⟩
      by_cases z : x.length = 0
      · rw [z]; rfl
      · rw [decide_eq_true z]
        exact (bne_iff_ne.mpr (by omega)).symm
    · cases h
  | lst h1 h2 => cases h; exact .inl ⟨_, h1, by rw [empty_same h2]⟩
  | tup h1 h2 => cases h; exact .inr (.inl ⟨_, h1, by rw [empty_same h2]⟩)
theorem tru_ofX {K : PySem.W.Frag} {Hm H : Hp} {v : V} {d : D} {k : Bool} (p : DpX K Hm H v d) (s : Same Hm H) (h : truthD d = some k) : TruV K v H k := tru_of (p.full s) h
/-- a test by its value -/
def truT (oa : Opd) : Sl → Out Bool := ev1 oa fun x env => liftB (truthD x) env
theorem dt_val {oa : Opd} (ha : oa.Of M c a) (he : ∀ (env : PySem.Env) (whole : Sem Value), isTrue a env whole = (do let v ← whole; standAt a.pos; holding [v] (truthy v))) : DT M c a (truT oa) := by
  refine ⟨fun X G W tk F env σ H Q R h => ?_⟩
  refine WT.of (pt_truth pe_we (he X.env)) (opd1 ha G tk R h fun env1 v1 d1 H1 R1 g1 p1 h1 => ?_)
  obtain ⟨k, e1, q⟩ := liftB_post R1 h1
  refine ⟨k, ?_, q _ (Same.refl _)⟩
  rw [G.K]
  exact tru_ofX p1 minus_sub e1
/-- a comparison as a test -/
def cmpT (g : D → D → Option D) (oa ob : Opd) : Sl → Out Bool := ev2 oa ob fun x y env => match g x y with
  | some (.bool k) => .ok k env
  | _ => .stuck
theorem dt_cmp {op : CmpOp} {g : D → D → Option D} {oa ob : Opd} (ho : BopD M c (compareOp op) g) (hm : behindInMarks op b = false) (ha : oa.Of M c a) (hb : ob.Of M c b) : DT M c (.Compare a [op] [b] pos) (cmpT g oa ob) := by
  refine ⟨fun X G W tk F env σ H Q R h => ?_⟩
  refine WT.of (pt_cmpR anyR_ok pe_we pe_we hm) (opd2 ha hb G tk R h fun env2 v1 v2 d1 d2 H2 R2 g2 p1 p2 h2 => ?_)
  split at h2
  · rename_i k e
    refine ho X G H2 _ v1 v2 d1 d2 (.bool k) _ (fun _ => R2.hid_live) p1 p2 e fun v H' s p => ?_
    cases (DpX.of (H := H') p).bl_inv
    exact ⟨k, rfl, h2 k H' (R2.grow s) (Grow.of s) rfl⟩
  · exact h2.elim
/-- two comparisons, a test -/
def chainT (g g' : D → D → Option D) (fa fb fc : Sl → Out D) : Sl → Out Bool := fun env => (fa env).bind fun x env => (fb env).bind fun y env => match g x y with
  | some (.bool k) => if k = true then (fc env).bind fun z env => (match g' y z with
      | some (.bool k) => .ok k env
      | _ => .stuck) else .ok false env
  | _ => .stuck
theorem dt_chain {op op' : CmpOp} {d : Expr} {g g' : D → D → Option D} (ho : BopD M c (compareOp op) g) (ho' : BopD M c (compareOp op') g') (ha : DE M c a fa) (hb : DE M c b fb) (hc : DE M c d fc)
    (hm : lastMarks [op, op'] [b, d] = false) : DT M c (.Compare a [op, op'] [b, d] pos) (chainT g g' fa fb fc) := by
  refine ⟨fun X G W tk F env σ H Q R h => ?_⟩
  refine WT.of (pt_chain anyR_ok anyR_ok pe_we pe_we pe_we hm) ?_
  refine ha.run X G W tk F env σ H _ R (Post.split h fun d1 env1 v1 H1 _ R1 g1 p1 h1 => ?_)
  refine hb.run X G W tk F env1 σ H1 _ R1 (Post.split h1 fun d2 env2 v2 H2 _ R2 g2 p2 h2 => ?_)
  split at h2
  · rename_i k e
    refine ho X G H2 _ v1 v2 d1 d2 (.bool k) _ (fun _ => R2.hid_live) (.inl (Dp.same g2 p1)) (.inl p2) e fun v H' s p => ?_
    cases (DpX.of (H := H') p).bl_inv
    refine ⟨k, rfl, ?_⟩
    have R3 := R2.grow s
    cases k with
    | false => exact ⟨_, rfl, (h2 : Post _ _ _ _ _ _ _ _ (Out.ok false env2)) false H' R3 (Grow.of s) rfl⟩
    | true =>
      have h3 := (Post.rebase (env' := env2) (H' := H') h2 (Grow.of s))
      refine hc.run X G W tk F env2 σ H' _ R3 (Post.split h3 fun d3 env3 v3 H3 _ R4 g4 p4 h4 => ?_)
      split at h4
      · rename_i k' e'
        refine ho' X G H3 _ v2 v3 d2 d3 (.bool k') _ (fun _ => R4.hid_live) (.inl (Dp.same (Same.trans (minus_same s) g4) p2)) (.inl p4) e' fun v H5 s5 p5 => ?_
        cases (DpX.of (H := H5) p5).bl_inv
        exact ⟨k', rfl, h4 k' H5 (R4.grow s5) (Grow.of s5) rfl⟩
      · exact h4.elim
  · exact h2.elim
/-- .. as a value -/
def boolE (t : Sl → Out Bool) : Sl → Out D := fun env => (t env).bind fun k env => .ok (.bool k) env
theorem de_chain {op op' : CmpOp} {d : Expr} {g g' : D → D → Option D} (ho : BopD M c (compareOp op) g) (ho' : BopD M c (compareOp op') g') (ha : DE M c a fa) (hb : DE M c b fb) (hc : DE M c d fc)
    (hm : lastMarks [op, op'] [b, d] = false) : DE M c (.Compare a [op, op'] [b, d] pos) (boolE (chainT g g' fa fb fc)) := by
  refine ⟨fun X G W tk F env σ H Q R h => ?_⟩
  refine WE.of (pe_chain anyR_ok anyR_ok pe_we pe_we pe_we hm) ?_
  have h0 : Post M F env σ H rB (fun k H' => Q (.bl k) H') W (chainT g g' fa fb fc env) := by
    unfold boolE at h
    cases q : chainT g g' fa fb fc env with
    | stuck => rw [q] at h; exact h
    | ok k env' => rw [q] at h; exact fun v H' R' g' e => by rw [show v = k from e]; exact h _ H' R' g' (.bl k)
    | err C fs env' => rw [q] at h; exact h
  refine ha.run X G W tk F env σ H _ R (Post.split h0 fun d1 env1 v1 H1 _ R1 g1 p1 h1 => ?_)
  refine hb.run X G W tk F env1 σ H1 _ R1 (Post.split h1 fun d2 env2 v2 H2 _ R2 g2 p2 h2 => ?_)
  split at h2
  · rename_i k e
    refine ho X G H2 _ v1 v2 d1 d2 (.bool k) _ (fun _ => R2.hid_live) (.inl (Dp.same g2 p1)) (.inl p2) e fun v H' s p => ?_
    cases (DpX.of (H := H') p).bl_inv
    refine ⟨k, rfl, ?_⟩
    have R3 := R2.grow s
    cases k with
    | false => exact (h2 : Post _ _ _ _ _ _ _ _ (Out.ok false env2)) false H' R3 (Grow.of s) rfl
    | true =>
      have h3 := (Post.rebase (env' := env2) (H' := H') h2 (Grow.of s))
      refine hc.run X G W tk F env2 σ H' _ R3 (Post.split h3 fun d3 env3 v3 H3 _ R4 g4 p4 h4 => ?_)
      split at h4
      · rename_i k' e'
        refine ho' X G H3 _ v2 v3 d2 d3 (.bool k') _ (fun _ => R4.hid_live) (.inl (Dp.same (Same.trans (minus_same s) g4) p2)) (.inl p4) e' fun v H5 s5 p5 => ?_
        cases (DpX.of (H := H5) p5).bl_inv
        exact h4 k' H5 (R4.grow s5) (Grow.of s5) rfl
      · exact h4.elim
  · exact h2.elim

/-! ### not, and, or -/
def notT (t : Sl → Out Bool) : Sl → Out Bool := fun env => (t env).bind fun k env => .ok (!k) env
def andT (t u : Sl → Out Bool) : Sl → Out Bool := fun env => (t env).bind fun k env => if k = true then u env else .ok false env
def orT (t u : Sl → Out Bool) : Sl → Out Bool := fun env => (t env).bind fun k env => if k = true then .ok true env else u env
theorem dt_not (ha : DT M c a ta) : DT M c (.UnaryOp .Not a pos) (notT ta) := by
  refine ⟨fun X G W tk F env σ H Q R h => ?_⟩
  refine WT.of (pt_not pt_wt) ?_
  refine ha.run X G W tk F env σ H _ R (Post.split h fun k env1 v1 H1 _ R1 g1 p1 h1 => ?_)
  exact (h1 : Post _ _ _ _ _ _ _ _ (Out.ok (!k) env1)) _ H1 R1 Grow.refl (by rw [show v1 = k from p1]; rfl)
theorem dt_w (h : DW M c e ta) : DT M c e ta := ⟨fun X G W tk F env σ H Q R q => WT.of (pw_ww.pt) (h.run X G W tk F env σ H Q R q)⟩
theorem dw_and1 (ha : DT M c a ta) : DW M c (.BoolOp .And [a] pos) ta := ⟨fun X G W tk F env σ H Q R q => WW.of (pw_and1 pt_wt) (ha.run X G W tk F env σ H Q R q)⟩
theorem dw_or1 (ha : DT M c a ta) : DW M c (.BoolOp .Or [a] pos) ta := ⟨fun X G W tk F env σ H Q R q => WW.of (pw_or1 pt_wt) (ha.run X G W tk F env σ H Q R q)⟩
theorem dw_and (ha : DT M c a ta) (hb : DW M c (.BoolOp .And (b :: rest) pos) tb) : DW M c (.BoolOp .And (a :: b :: rest) pos) (andT ta tb) := by
  refine ⟨fun X G W tk F env σ H Q R h => ?_⟩
  refine WW.of (pw_and pt_wt pw_ww) ?_
  refine ha.run X G W tk F env σ H _ R (Post.split h fun k env1 v1 H1 _ R1 g1 p1 h1 => ?_)
  cases (show v1 = k from p1)
  cases k with
  | true => exact hb.run X G W tk F env1 σ H1 Q R1 h1
  | false => exact (h1 : Post _ _ _ _ _ _ _ _ (Out.ok false env1)) _ H1 R1 Grow.refl rfl
theorem dw_or (ha : DT M c a ta) (hb : DW M c (.BoolOp .Or (b :: rest) pos) tb) : DW M c (.BoolOp .Or (a :: b :: rest) pos) (orT ta tb) := by
  refine ⟨fun X G W tk F env σ H Q R h => ?_⟩
  refine WW.of (pw_or pt_wt pw_ww) ?_
  refine ha.run X G W tk F env σ H _ R (Post.split h fun k env1 v1 H1 _ R1 g1 p1 h1 => ?_)
  cases (show v1 = k from p1)
  cases k with
  | false => exact hb.run X G W tk F env1 σ H1 Q R1 h1
  | true => exact (h1 : Post _ _ _ _ _ _ _ _ (Out.ok true env1)) _ H1 R1 Grow.refl rfl
/-- as values -/
def andE (fa fb : Sl → Out D) : Sl → Out D := fun env => (fa env).bind fun x env => match truthD x with
  | some k => if k = true then fb env else .ok x env
  | none => .stuck
def orE (fa fb : Sl → Out D) : Sl → Out D := fun env => (fa env).bind fun x env => match truthD x with
  | some k => if k = true then .ok x env else fb env
  | none => .stuck
def notE (fa : Sl → Out D) : Sl → Out D := fun env => (fa env).bind fun x env => lift ((truthD x).map fun k => .bool (!k)) env
theorem de_one {op} (ha : DE M c a fa) : DE M c (.BoolOp op [a] pos) fa := ⟨fun X G W tk F env σ H Q R q => WE.of (pe_one pe_we) (ha.run X G W tk F env σ H Q R q)⟩
theorem de_and (ha : DE M c a fa) (hb : DE M c (.BoolOp .And (b :: rest) pos) fb) : DE M c (.BoolOp .And (a :: b :: rest) pos) (andE fa fb) := by
  refine ⟨fun X G W tk F env σ H Q R h => ?_⟩
  refine WE.of (pe_andT pe_we pe_we) ?_
  refine ha.run X G W tk F env σ H _ R (Post.split h fun d env1 v1 H1 _ R1 g1 p1 h1 => ?_)
  cases q : truthD d with
  | none => simp only [q] at h1; exact h1.elim
  | some k =>
    simp only [q] at h1
    refine ⟨k, by rw [G.K]; exact tru_of p1.full q, ?_⟩
    cases k with
    | true => exact hb.run X G W tk F env1 σ H1 Q R1 h1
    | false => exact (h1 : Post _ _ _ _ _ _ _ _ (Out.ok d env1)) _ H1 R1 Grow.refl p1
theorem de_or (ha : DE M c a fa) (hb : DE M c (.BoolOp .Or (b :: rest) pos) fb) : DE M c (.BoolOp .Or (a :: b :: rest) pos) (orE fa fb) := by
  refine ⟨fun X G W tk F env σ H Q R h => ?_⟩
  refine WE.of (pe_orT pe_we pe_we) ?_
  refine ha.run X G W tk F env σ H _ R (Post.split h fun d env1 v1 H1 _ R1 g1 p1 h1 => ?_)
  cases q : truthD d with
  | none => simp only [q] at h1; exact h1.elim
  | some k =>
    simp only [q] at h1
    refine ⟨k, by rw [G.K]; exact tru_of p1.full q, ?_⟩
    cases k with
    | false => exact hb.run X G W tk F env1 σ H1 Q R1 h1
    | true => exact (h1 : Post _ _ _ _ _ _ _ _ (Out.ok d env1)) _ H1 R1 Grow.refl p1
theorem de_not (ha : DE M c a fa) : DE M c (.UnaryOp .Not a pos) (notE fa) := by
  refine ⟨fun X G W tk F env σ H Q R h => ?_⟩
  refine WE.of (pe_notT pe_we) ?_
  refine ha.run X G W tk F env σ H _ R (Post.split h fun d env1 v1 H1 _ R1 g1 p1 h1 => ?_)
  obtain ⟨z, e1, k⟩ := lift_post R1 h1
  obtain ⟨t, e2, rfl⟩ := Option.map_eq_some_iff.mp e1
  exact ⟨t, by rw [G.K]; exact tru_of p1.full e2, k _ _ (Same.refl _) (.bl _)⟩
/-- a if t else b -/
def ifE (t : Sl → Out Bool) (fa fb : Sl → Out D) : Sl → Out D := fun env => (t env).bind fun k env => if k = true then fa env else fb env
theorem de_if (ht : DT M c e ta) (ha : DE M c a fa) (hb : DE M c b fb) : DE M c (.IfExp e a b pos) (ifE ta fa fb) := by
  refine ⟨fun X G W tk F env σ H Q R h => ?_⟩
  refine WE.of (pe_ifExp pt_wt pe_we pe_we) ?_
  refine ht.run X G W tk F env σ H _ R (Post.split h fun k env1 v1 H1 _ R1 g1 p1 h1 => ?_)
  cases (show v1 = k from p1)
  cases k with
  | true => exact ha.run X G W tk F env1 σ H1 Q R1 h1
  | false => exact hb.run X G W tk F env1 σ H1 Q R1 h1

/-! ### argument lists, displays -/
def nilA : Sl → Out (List D) := fun env => .ok [] env
def consA (fa : Sl → Out D) (fr : Sl → Out (List D)) : Sl → Out (List D) := fun env => (fa env).bind fun x env => (fr env).bind fun xs env => .ok (x :: xs) env
theorem da_nil : DA M c [] nilA := ⟨fun X G W tk F env σ H Q R h => WA.of pa_nil (h _ H R Grow.refl .nil)⟩
theorem da_cons {fr : Sl → Out (List D)} (ha : DE M c a fa) (hr : DA M c es fr) (hs : ∀ env : PySem.Env, starEach (a :: es) env = (false, eval a env) :: starEach es env) : DA M c (a :: es) (consA fa fr) := by
  refine ⟨fun X G W tk F env σ H Q R h => ?_⟩
  refine WA.of (pa_cons pe_we pa_wa (hs _)) ?_
  refine ha.run X G W tk F env σ H _ R (Post.split h fun d1 env1 v1 H1 _ R1 g1 p1 h1 => ?_)
  refine hr.run X G W tk F env1 σ H1 _ R1 (Post.split h1 fun d2 env2 v2 H2 _ R2 g2 p2 h2 => ?_)
  exact h2 _ H2 R2 Grow.refl (.cons (Dp.same g2 p1) p2)
def tupE (fr : Sl → Out (List D)) : Sl → Out D := fun env => (fr env).bind fun xs env => .ok (.tuple xs) env
def lstE (fr : Sl → Out (List D)) : Sl → Out D := fun env => (fr env).bind fun xs env => .ok (.list xs) env
/-- as many as there are expressions -/
theorem wa_len {X : Cx} {σ : St} {H : Hp} {Q : List V → Hp → Prop} (h : WA X es σ H Q) : WA X es σ H Q := h
/-- what is given is of a size that is served -/
structure SzA (fr : Sl → Out (List D)) : Prop where
  run : ∀ env xs env', fr env = .ok xs env' → xs.length ≤ sizeLine
theorem de_tup {x1} {fr : Sl → Out (List D)} (h : DA M c es fr) (hz : SzA fr) : DE M c (.Tuple es x1 pos) (tupE fr) := by
  refine ⟨fun X G W tk F env σ H Q R hw => ?_⟩
  refine WE.of (pe_tup pa_wa) ?_
  refine h.run X G W tk F env σ H _ R (Post.split hw fun ds env1 vs H1 e1 R1 g1 p1 h1 => ?_)
  have l1 := p1.len
  refine ⟨by have := hz.run _ _ _ e1; omega, fun p hp => ?_⟩
  exact h1 _ _ (R1.grow (upd_grow hp)) (Grow.of (upd_grow hp)) (new_tup (fun _ => R1.hid_live) hp p1)
theorem de_lst {fr : Sl → Out (List D)} (h : DA M c es fr) (hz : SzA fr) : DE M c (.List es pos) (lstE fr) := by
  refine ⟨fun X G W tk F env σ H Q R hw => ?_⟩
  refine WE.of (pe_lst pa_wa) ?_
  refine h.run X G W tk F env σ H _ R (Post.split hw fun ds env1 vs H1 e1 R1 g1 p1 h1 => ?_)
  have l1 := p1.len
  refine ⟨by have := hz.run _ _ _ e1; omega, fun p hp => ?_⟩
  exact h1 _ _ (R1.grow (upd_grow hp)) (Grow.of (upd_grow hp)) (new_lst (fun _ => R1.hid_live) hp p1)
/-- how many a written list gives -/
structure LenA (fr : Sl → Out (List D)) (n : Nat) : Prop where
  run : ∀ env xs env', fr env = .ok xs env' → xs.length = n
theorem lenA_nil : LenA nilA 0 := ⟨fun env xs env' h => by
  cases h
  rfl⟩
theorem lenA_cons {fr : Sl → Out (List D)} {n : Nat} (h : LenA fr n) : LenA (consA fa fr) (n + 1) := by
  refine ⟨fun env xs env' q => ?_⟩
  unfold consA at q
  cases e1 : fa env with
  | stuck => rw [e1] at q; cases q
  | err C fs env2 => rw [e1] at q; cases q
  | ok x env2 =>
    rw [e1] at q
    have q : (fr env2).bind (fun xs env => Out.ok (x :: xs) env) = .ok xs env' := q
    cases e2 : fr env2 with
    | stuck => rw [e2] at q; cases q
    | err C fs env2 => rw [e2] at q; cases q
    | ok ys env3 =>
      rw [e2] at q
      cases q
      rw [List.length_cons, h.run _ _ _ e2]

/-! ### -a -/
def negD : D → Option D
  | .int i => some (.int (-i))
  | _ => none
def unE (g : D → Option D) (fa : Sl → Out D) : Sl → Out D := fun env => (fa env).bind fun x env => lift (g x) env
theorem de_neg (ha : DE M c a fa) : DE M c (.UnaryOp .USub a pos) (unE negD fa) := by
  refine ⟨fun X G W tk F env σ H Q R h => ?_⟩
  refine WE.of (pe_un un_neg pe_we) ?_
  refine ha.run X G W tk F env σ H _ R (Post.split h fun d env1 v1 H1 _ R1 g1 p1 h1 => ?_)
  obtain ⟨z, e1, k⟩ := lift_post R1 h1
  cases d <;> first | (cases e1; done) | skip
  cases e1
  cases (DpX.of (H := H1) p1).int_inv
  exact ⟨_, rfl, k _ _ (Same.refl _) (.int _)⟩

/-! ### a[i], a[lo:hi] -/
def ixD : D → D → Option D
  | .list xs, .int i => atI xs i
  | .tuple xs, .int i => atI xs i
  | .str z, .int i => if z.length ≤ sizeLine then (atI z.cps.toList i).map fun c => .str ⟨#[c]⟩ else none
  | _, _ => none
theorem atI_dp {K : PySem.W.Frag} {H : Hp} {vs : List V} {ds : List D} {i : Int} {d : D} (h : DpAll K H vs ds) (e : atI ds i = some d) : ∃ v, atI vs i = some v ∧ Dp K H v d := by
  unfold atI at e ⊢
  rw [h.len]
  cases q : ixN ds.length i with
  | none => rw [q] at e; cases e
  | some j =>
    rw [q] at e
    exact h.get e
theorem ix_post {X : Cx} (G : Good M c X) {H : Hp} {Hd : Addr → Prop} {x y : V} {d1 d2 d : D} {Q : VK} (p1 : DpX M.K (minus H Hd) H x d1) (p2 : DpX M.K (minus H Hd) H y d2) (e : ixD d1 d2 = some d)
    (k : ∀ v, Dp M.K (minus H Hd) v d → Q v H) : rIx X.K x y H Q := by
  cases d1 <;> cases d2 <;> first | (cases e; done) | skip
  case list.int xs i =>
    obtain ⟨a, us, rfl, s1, q1⟩ := p1.lst_inv minus_sub
    cases p2.int_inv
    obtain ⟨v, e2, p3⟩ := atI_dp q1 e
    exact .inl ⟨a, us, i, v, rfl, rfl, by rw [G.K]; exact s1, e2, k v p3⟩
  case tuple.int xs i =>
    obtain ⟨a, us, rfl, s1, q1⟩ := p1.tup_inv
    cases p2.int_inv
    obtain ⟨v, e2, p3⟩ := atI_dp q1 e
    exact .inr (.inl ⟨a, us, i, v, rfl, rfl, by rw [G.K]; exact s1.full, e2, k v p3⟩)
  case str.int z i =>
    cases p1.str_inv
    cases p2.int_inv
    simp only [ixD] at e
    split at e
    · obtain ⟨cc, e2, rfl⟩ := Option.map_eq_some_iff.mp e
      exact .inr (.inr ⟨z, i, cc, rfl, rfl, ‹_›, e2, k _ (.str _)⟩)
    · cases e
theorem de_ix {oa ob : Opd} (ha : oa.Of M c a) (hb : ob.Of M c b) (hs : PlainIx b) : DE M c (.Subscript a b pos) (bin ixD oa ob) := by
  refine ⟨fun X G W tk F env σ H Q R h => ?_⟩
  refine WE.of (pe_ix ix_seq pe_we pe_we hs) (opd2 ha hb G tk R h fun env2 v1 v2 d1 d2 H2 R2 g2 p1 p2 h2 => ?_)
  obtain ⟨d, e, k⟩ := lift_post R2 h2
  exact ix_post G p1 p2 e fun v p => k v H2 (Same.refl _) p
end
end DL
end
section
set_option Elab.async false
set_option linter.all false
set_option maxRecDepth 100000
set_option maxHeartbeats 4000000
/-! DL5: slices, calls of built-in functions. -/
namespace DL
open PySem PySem.Spec PyProof.Rows L2

section
variable {M : Mdl} {c : Cf} {pos : Pos} {a b e : Expr} {rest es : List Expr} {fa fb fe : Sl → Out D}

/-! ### slices -/
def WO (X : Cx) (o : Option Expr) : TO := fun σ H Q => ∀ (pins : List (Addr × Obj)) (s : Shared), Inv X pins σ H s →
  wpAny (model X.prog X.w) X.A (evalPart o X.env) (fun u s' => ∃ o H', Inv X pins σ H' s' ∧ IsPart u o ∧ Q o H') X.xe s
theorem po_wo {X : Cx} {o : Option Expr} : PO X o (WO X o) := ⟨fun pins s _ _ _ I h => h pins s I⟩
def rO : Hp → Hp → Option Int → Option Int → Prop := fun _ _ a b => a = b
structure DO (M : Mdl) (c : Cf) (o : Option Expr) (f : Sl → Out (Option Int)) : Prop where
  run : ∀ (X : Cx), Good M c X → ∀ (W : WX), Takes X W → ∀ (F : Act) (env : Sl) (σ : St) (H : Hp) (Q : Option Int → Hp → Prop),
  Rel M.kx F env σ H → Post M F env σ H rO Q W (f env) → WO X o σ H Q
def noO : Sl → Out (Option Int) := fun env => .ok none env
def someO (fa : Sl → Out D) : Sl → Out (Option Int) := fun env => (fa env).bind fun x env => match x with
  | .int i => .ok (some i) env
  | _ => .stuck
theorem do_none : DO M c none noO := ⟨fun X G W tk F env σ H Q R h pins s I => po_none.run pins s σ H Q I (h _ H R Grow.refl rfl)⟩
theorem do_some (ha : DE M c a fa) : DO M c (some a) (someO fa) := by
  refine ⟨fun X G W tk F env σ H Q R h pins s I => ?_⟩
  refine (po_some (pe_we (X := X) (e := a))).run pins s σ H Q I ?_
  refine ha.run X G W tk F env σ H _ R (Post.split h fun d env1 v1 H1 _ R1 g1 p1 h1 => ?_)
  cases d <;> first | exact h1.elim | skip
  cases (DpX.of (H := H1) p1).int_inv
  exact ⟨_, rfl, h1 _ H1 R1 Grow.refl rfl⟩
/-- the items from lo to hi -/
def cut {α : Type} (xs : List α) (lo hi : Option Int) : List α := (xs.drop (HT.sIx xs.length 0 lo)).take (HT.sIx xs.length xs.length hi - HT.sIx xs.length 0 lo)
theorem cut_dp {K : PySem.W.Frag} {H : Hp} {vs : List V} {ds : List D} {lo hi : Option Int} (h : DpAll K H vs ds) : DpAll K H (cutV vs lo hi) (cut ds lo hi) := by
  unfold cutV cut
  rw [h.len]
  exact (h.drop _).take _
theorem cut_all {α : Type} (xs : List α) (lo hi : Option Int) (h : HT.sIx xs.length 0 lo = 0 ∧ HT.sIx xs.length xs.length hi = xs.length) : cut xs lo hi = xs := by
  unfold cut
  rw [h.1, h.2, List.drop_zero, Nat.sub_zero, List.take_length]
def cutD (x : D) (lo hi : Option Int) : Option D := match x with
  | .list xs => some (.list (cut xs lo hi))
  | .tuple xs => some (.tuple (cut xs lo hi))
  | .str z => if z.length ≤ sizeLine then some (.str (cutS z lo hi)) else none
  | _ => none
def sliceE (oa : Opd) (fl fh : Sl → Out (Option Int)) : Sl → Out D := fun env => match oa with
  | .ev fa => (fa env).bind fun x env => (fl env).bind fun l env => (fh env).bind fun h env => lift (cutD x l h) env
  | .pk i => match peek env i with
    | some _ => (fl env).bind fun l env => (fh env).bind fun h env => (match peek env i with
      | some x => lift (cutD x l h) env
      | none => .stuck)
    | none => .stuck
def anySl (X : Cx) : V → Option Int → Option Int → Hp → VK → Prop := fun x lo hi H Q => ∃ r, SlR X r ∧ r x lo hi H Q
theorem anySl_ok {X : Cx} : SlR X (anySl X) := by
  intro pins s σ H x v vl vu lo hi sl Q I rx hs pl pu ⟨r, h1, h2⟩
  exact h1 pins s σ H x v vl vu lo hi sl Q I rx hs pl pu h2
theorem cut_post {X : Cx} (G : Good M c X) {H : Hp} {Hd : Addr → Prop} {x : V} {d1 d : D} {lo hi : Option Int} {Q : VK} (hl : ∀ b, Hd b → H b ≠ Option.none) (p1 : DpX M.K (minus H Hd) H x d1) (e : cutD d1 lo hi = some d)
    (k : ∀ v H', Same H H' → Dp M.K (minus H' Hd) v d → Q v H') : anySl X x lo hi H Q := by
  cases d1 <;> first | (cases e; done) | skip
  case list xs =>
    cases e
    obtain ⟨a, us, rfl, s1, q1⟩ := p1.lst_inv minus_sub
    exact ⟨_, sl_list, a, us, rfl, by rw [G.K]; exact s1, fun p hp => k _ _ (upd_grow hp) (new_lst hl hp (cut_dp q1))⟩
  case tuple xs =>
    cases e
    obtain ⟨a, us, rfl, s1, q1⟩ := p1.tup_inv
    refine ⟨_, sl_tupA, a, us, rfl, by rw [G.K]; exact s1.full, fun z => ?_, fun _ p hp => k _ _ (upd_grow hp) (new_tup hl hp (cut_dp q1))⟩
    rw [q1.len] at z
    exact k _ _ (Same.refl _) (by rw [cut_all _ _ _ z]; exact .tup s1 q1)
  case str z =>
    cases p1.str_inv
    simp only [cutD] at e
    split at e
    · cases e
      exact ⟨_, sl_str, z, rfl, ‹_›, k _ _ (Same.refl _) (.str _)⟩
    · cases e
theorem de_slice {lo hi : Option Expr} {p2 : Pos} {oa : Opd} {fl fh : Sl → Out (Option Int)} (ha : oa.Of M c a) (hl : DO M c lo fl) (hh : DO M c hi fh) : DE M c (.Subscript a (.Slice lo hi none p2) pos) (sliceE oa fl fh) := by
  refine ⟨fun X G W tk F env σ H Q R h => ?_⟩
  refine WE.of (pe_slice anySl_ok pe_we po_wo po_wo) ?_
  cases oa with
  | ev fa =>
    have ha : DE M c a fa := ha
    have h : Post M F env σ H (rD M.K) Q W ((fa env).bind fun x env => (fl env).bind fun l env => (fh env).bind fun h env => lift (cutD x l h) env) := h
    refine ha.run X G W tk F env σ H _ R (Post.split h fun d1 env1 v1 H1 _ R1 g1 p1 h1 => ?_)
    refine hl.run X G W tk F env1 σ H1 _ R1 (Post.split h1 fun l env2 v2 H2 _ R2 g2 p2 h2 => ?_)
    cases p2
    refine hh.run X G W tk F env2 σ H2 _ R2 (Post.split h2 fun u env3 v3 H3 _ R3 g3 p3 h3 => ?_)
    cases p3
    obtain ⟨d, e, k⟩ := lift_post R3 h3
    exact cut_post G (fun _ => R3.hid_live) (.inl (Dp.same (g2.trans g3) p1)) e k
  | pk i =>
    obtain ⟨x, pos', rfl, h1, h2, h3, h4⟩ := ha
    refine WE.of (G.var h1 h2 h3 h4) ?_
    have h : Post M F env σ H (rD M.K) Q W (match peek env i with
      | some _ => (fl env).bind fun l env => (fh env).bind fun h env => (match peek env i with
        | some x => lift (cutD x l h) env
        | none => .stuck)
      | none => .stuck) := h
    cases q0 : peek env i with
    | none => rw [q0] at h; exact h.elim
    | some d0 =>
      simp only [q0] at h
      obtain ⟨v, ev, _⟩ := peek_ok R q0
      refine ⟨v, ev, hl.run X G W tk F env σ H _ R (Post.split h fun l env2 v2 H2 _ R2 g2 p2 h2 => ?_)⟩
      cases p2
      refine hh.run X G W tk F env2 σ H2 _ R2 (Post.split h2 fun u env3 v3 H3 _ R3 g3 p3 h3 => ?_)
      cases p3
      cases q : peek env3 i with
      | none => simp only [q] at h3; exact h3.elim
      | some d =>
        simp only [q] at h3
        obtain ⟨v', e1, p⟩ := peek_ok R3 q
        rw [ev] at e1
        cases e1
        obtain ⟨d', e, k⟩ := lift_post R3 h3
        exact cut_post G (fun _ => R3.hid_live) p e k

/-! ### built-in functions -/
def anyC (X : Cx) (f : Value) : List V → Hp → VK → Prop := fun vs H Q => ∃ r, CallR X f r ∧ r vs H Q
theorem anyC_ok {X : Cx} {f : Value} : CallR X f (anyC X f) := fun pins s σ H xs us Q I r ⟨_, h1, h2⟩ => h1 pins s σ H xs us Q I r h2
/-- one argument -/
def Cal1 (M : Mdl) (c : Cf) (f : Value) (g : D → Option D) : Prop := ∀ (X : Cx), Good M c X → ∀ (H : Hp) (Hd : Addr → Prop) (x : V) (d1 d : D) (Q : VK), (∀ b, Hd b → H b ≠ Option.none) →
  DpX M.K (minus H Hd) H x d1 → g d1 = some d → (∀ v H', Same H H' → Dp M.K (minus H' Hd) v d → Q v H') → anyC X f [x] H Q
def Cal2 (M : Mdl) (c : Cf) (f : Value) (g : D → D → Option D) : Prop := ∀ (X : Cx), Good M c X → ∀ (H : Hp) (Hd : Addr → Prop) (x y : V) (d1 d2 d : D) (Q : VK), (∀ b, Hd b → H b ≠ Option.none) →
  DpX M.K (minus H Hd) H x d1 → DpX M.K (minus H Hd) H y d2 → g d1 d2 = some d → (∀ v H', Same H H' → Dp M.K (minus H' Hd) v d → Q v H') → anyC X f [x, y] H Q
def call1 (g : D → Option D) (oa : Opd) : Sl → Out D := ev1 oa fun x env => lift (g x) env
/-- a built-in name of the def -/
structure Bn (M : Mdl) (c : Cf) (x : Str) (v : Value) : Prop where
  gl : c.sc.names.lookup x = some .globalImplicit
  mg : M.mg x = none
  boot : bootBuiltins x = some v
  nn : x ≠ "__name__"
  nd : (x == ("__debug__" : Str)) = false
theorem Bn.gl' {x : Str} {v : Value} (b : Bn M c x v) {X : Cx} (G : Good M c X) : Gl X x := by unfold Gl PySem.Env.kindOf; rw [G.sc]; exact b.gl
theorem star1 (a : Expr) (env : PySem.Env) (h : ∀ env : PySem.Env, starEach [a] env = [(false, eval a env)]) : starEach [a] env = (false, eval a env) :: starEach [] env := by
  rw [h env]
  rfl
def NoStar (a : Expr) : Prop := ∀ (es : List Expr) (env : PySem.Env), starEach (a :: es) env = (false, eval a env) :: starEach es env
theorem de_callB1 {x : Str} {id : String} {p : Pos} {g : D → Option D} {oa : Opd} (B : Bn M c x (.builtin id)) (hc : Cal1 M c (.builtin id) g) (ha : oa.Of M c a) (hs : NoStar a) : DE M c (.Call (.Name x p) [a] [] pos) (call1 g oa) := by
  refine ⟨fun X G W tk F env σ H Q R h => ?_⟩
  refine WE.of (pe_callB anyC_ok (B.gl' G) (by rw [G.mg]; exact B.mg) B.boot (pa_cons pe_we pa_nil (hs _ _)) B.nn B.nd (hs _ _) rfl) ?_
  refine opd1 ha G tk R h fun env2 v d H2 R2 g2 p h2 => ?_
  obtain ⟨d', e, k⟩ := lift_post R2 h2
  exact hc X G H2 _ v d d' Q (fun _ => R2.hid_live) p e k
theorem de_callT1 {x : Str} {id : String} {p : Pos} {g : D → Option D} {oa : Opd} (B : Bn M c x (.type id)) (hc : Cal1 M c (.type id) g) (ha : oa.Of M c a) (hs : NoStar a) : DE M c (.Call (.Name x p) [a] [] pos) (call1 g oa) := by
  refine ⟨fun X G W tk F env σ H Q R h => ?_⟩
  refine WE.of (pe_callTy anyC_ok (B.gl' G) (by rw [G.mg]; exact B.mg) B.boot (pa_cons pe_we pa_nil (hs _ _)) B.nn B.nd (hs _ _) rfl) ?_
  refine opd1 ha G tk R h fun env2 v d H2 R2 g2 p h2 => ?_
  obtain ⟨d', e, k⟩ := lift_post R2 h2
  exact hc X G H2 _ v d d' Q (fun _ => R2.hid_live) p e k
theorem de_callB2 {x : Str} {id : String} {p : Pos} {g : D → D → Option D} {oa ob : Opd} (B : Bn M c x (.builtin id)) (hc : Cal2 M c (.builtin id) g) (ha : oa.Of M c a) (hb : ob.Of M c b) (hs : NoStar a) (hs2 : NoStar b) :
    DE M c (.Call (.Name x p) [a, b] [] pos) (bin g oa ob) := by
  refine ⟨fun X G W tk F env σ H Q R h => ?_⟩
  refine WE.of (pe_callB anyC_ok (B.gl' G) (by rw [G.mg]; exact B.mg) B.boot (pa_cons pe_we (pa_cons pe_we pa_nil (hs2 _ _)) (hs _ _)) B.nn B.nd (hs _ _) (by rw [hs2]; rfl)) ?_
  refine opd2 ha hb G tk R h fun env2 v1 v2 d1 d2 H2 R2 g2 p1 p2 h2 => ?_
  obtain ⟨d', e, k⟩ := lift_post R2 h2
  exact hc X G H2 _ v1 v2 d1 d2 d' Q (fun _ => R2.hid_live) p1 p2 e k

/-! ### len, abs, int, tuple, list, sum .. -/
def lenD : D → Option D
  | .list xs => some (.int xs.length)
  | .tuple xs => some (.int xs.length)
  | .str z => if z.length ≤ sizeLine then some (.int z.length) else none
  | _ => none
theorem c_len : Cal1 M c (.builtin "len") lenD := by
  intro X G H Hd x d1 d Q hl p1 e k
  cases d1 <;> first | (cases e; done) | skip
  case list xs =>
    cases e
    obtain ⟨a, us, rfl, s1, q1⟩ := p1.lst_inv minus_sub
    refine ⟨_, call_len_seq, a, us, rfl, .inl (by rw [G.K]; exact s1), ?_⟩
    rw [q1.len]
    exact k _ _ (Same.refl _) (.int _)
  case tuple xs =>
    cases e
    obtain ⟨a, us, rfl, s1, q1⟩ := p1.tup_inv
    refine ⟨_, call_len_seq, a, us, rfl, .inr (by rw [G.K]; exact s1.full), ?_⟩
    rw [q1.len]
    exact k _ _ (Same.refl _) (.int _)
  case str z =>
    cases p1.str_inv
    simp only [lenD] at e
    split at e
    · cases e
      exact ⟨_, call_len_str, z, rfl, ‹_›, k _ _ (Same.refl _) (.int _)⟩
    · cases e
def absD : D → Option D
  | .int i => some (.int (if i < 0 then -i else i))
  | _ => none
theorem c_abs : Cal1 M c (.builtin "abs") absD := by
  intro X G H Hd x d1 d Q hl p1 e k
  cases d1 <;> first | (cases e; done) | skip
  cases e
  cases p1.int_inv
  exact ⟨_, call_abs, _, rfl, k _ _ (Same.refl _) (.int _)⟩
def intD : D → Option D
  | .int i => some (.int i)
  | .bool b => some (.int (if b = true then 1 else 0))
  | .str z => if z.length ≤ 640 then (PySem.intText? z).map .int else none
  | _ => none
theorem c_int : Cal1 M c (.type "int") intD := by
  intro X G H Hd x d1 d Q hl p1 e k
  cases d1 <;> first | (cases e; done) | skip
  case int i =>
    cases e
    cases p1.int_inv
    exact ⟨_, call_int1, .inl ⟨_, rfl, k _ _ (Same.refl _) (.int _)⟩⟩
  case bool b =>
    cases e
    cases p1.bl_inv
    exact ⟨_, call_int1, .inr ⟨_, rfl, k _ _ (Same.refl _) (.int _)⟩⟩
  case str z =>
    simp only [intD] at e
    split at e
    · obtain ⟨n, e1, rfl⟩ := Option.map_eq_some_iff.mp e
      cases p1.str_inv
      exact ⟨_, call_int_str, z, n, rfl, e1, ‹_›, k _ _ (Same.refl _) (.int _)⟩
    · cases e
def tupleD : D → Option D
  | .list xs => some (.tuple xs)
  | .tuple xs => some (.tuple xs)
  | _ => none
theorem c_tuple : Cal1 M c (.type "tuple") tupleD := by
  intro X G H Hd x d1 d Q hl p1 e k
  cases d1 <;> first | (cases e; done) | skip
  case list xs =>
    cases e
    obtain ⟨a, us, rfl, s1, q1⟩ := p1.lst_inv minus_sub
    exact ⟨_, call_tuple_of, a, us, rfl, .inl ⟨by rw [G.K]; exact s1, fun p hp => k _ _ (upd_grow hp) (new_tup hl hp q1)⟩⟩
  case tuple xs =>
    cases e
    obtain ⟨a, us, rfl, s1, q1⟩ := p1.tup_inv
    exact ⟨_, call_tuple_of, a, us, rfl, .inr ⟨by rw [G.K]; exact s1.full, k _ _ (Same.refl _) (.tup s1 q1)⟩⟩
def listD : D → Option D
  | .list xs => some (.list xs)
  | .tuple xs => some (.list xs)
  | _ => none
theorem c_list : Cal1 M c (.type "list") listD := by
  intro X G H Hd x d1 d Q hl p1 e k
  cases d1 <;> first | (cases e; done) | skip
  case list xs =>
    cases e
    obtain ⟨a, us, rfl, s1, q1⟩ := p1.lst_inv minus_sub
    exact ⟨_, call_list_of, a, us, rfl, .inl (by rw [G.K]; exact s1), fun p hp => k _ _ (upd_grow hp) (new_lst hl hp q1)⟩
  case tuple xs =>
    cases e
    obtain ⟨a, us, rfl, s1, q1⟩ := p1.tup_inv
    exact ⟨_, call_list_of, a, us, rfl, .inr (by rw [G.K]; exact s1.full), fun p hp => k _ _ (upd_grow hp) (new_lst hl hp q1)⟩
/-- a list of ints -/
def intsD : List D → Option (List Int)
  | [] => some []
  | .int i :: r => (intsD r).map (i :: ·)
  | _ :: _ => none
theorem intsD_ok {K : PySem.W.Frag} {H : Hp} : ∀ {ds : List D} {vs : List V} {ns : List Int}, DpAll K H vs ds → intsD ds = some ns → vs = ns.map V.int
  | [], _, ns, h, e => by
    cases h
    cases e
    rfl
  | d :: ds, _, ns, h, e => by
    cases h with
    | cons p t =>
      cases d <;> first | (cases e; done) | skip
      simp only [intsD] at e
      obtain ⟨ms, e1, rfl⟩ := Option.map_eq_some_iff.mp e
      cases (DpX.of (H := H) p).int_inv
      rw [intsD_ok t e1]
      rfl
def boolsD : List D → Option (List Bool)
  | [] => some []
  | .bool i :: r => (boolsD r).map (i :: ·)
  | _ :: _ => none
theorem boolsD_ok {K : PySem.W.Frag} {H : Hp} : ∀ {ds : List D} {vs : List V} {ns : List Bool}, DpAll K H vs ds → boolsD ds = some ns → vs = ns.map V.bl
  | [], _, ns, h, e => by
    cases h
    cases e
    rfl
  | d :: ds, _, ns, h, e => by
    cases h with
    | cons p t =>
      cases d <;> first | (cases e; done) | skip
      simp only [boolsD] at e
      obtain ⟨ms, e1, rfl⟩ := Option.map_eq_some_iff.mp e
      cases (DpX.of (H := H) p).bl_inv
      rw [boolsD_ok t e1]
      rfl
def sumD : D → Option D
  | .list xs => (intsD xs).map fun ns => .int ns.sum
  | _ => none
theorem c_sum (hc : c.calm = true) : Cal1 M c (.builtin "sum") sumD := by
  intro X G H Hd x d1 d Q hl p1 e k
  cases d1 <;> first | (cases e; done) | skip
  simp only [sumD] at e
  obtain ⟨ns, e1, rfl⟩ := Option.map_eq_some_iff.mp e
  obtain ⟨a, us, rfl, s1, q1⟩ := p1.lst_inv minus_sub
  cases intsD_ok q1 e1
  exact ⟨_, cr_sum (G.calm hc), a, ns, rfl, by rw [G.K]; exact s1, k _ _ (Same.refl _) (.int _)⟩
def anyD : D → Option D
  | .list xs => (boolsD xs).map fun ns => .bool (ns.any id)
  | _ => none
def allD : D → Option D
  | .list xs => (boolsD xs).map fun ns => .bool (ns.all id)
  | _ => none
theorem c_any (hc : c.calm = true) : Cal1 M c (.builtin "any") anyD := by
  intro X G H Hd x d1 d Q hl p1 e k
  cases d1 <;> first | (cases e; done) | skip
  simp only [anyD] at e
  obtain ⟨ns, e1, rfl⟩ := Option.map_eq_some_iff.mp e
  obtain ⟨a, us, rfl, s1, q1⟩ := p1.lst_inv minus_sub
  cases boolsD_ok q1 e1
  exact ⟨_, cr_any (G.calm hc), a, ns, rfl, by rw [G.K]; exact s1, k _ _ (Same.refl _) (.bl _)⟩
theorem c_all (hc : c.calm = true) : Cal1 M c (.builtin "all") allD := by
  intro X G H Hd x d1 d Q hl p1 e k
  cases d1 <;> first | (cases e; done) | skip
  simp only [allD] at e
  obtain ⟨ns, e1, rfl⟩ := Option.map_eq_some_iff.mp e
  obtain ⟨a, us, rfl, s1, q1⟩ := p1.lst_inv minus_sub
  cases boolsD_ok q1 e1
  exact ⟨_, cr_all (G.calm hc), a, ns, rfl, by rw [G.K]; exact s1, k _ _ (Same.refl _) (.bl _)⟩
/-! ### isinstance(x, T) -/
def tyN : D → String
  | .none => "NoneType"
  | .bool _ => "bool"
  | .int _ => "int"
  | .str _ => "str"
  | .list _ => "list"
  | .tuple _ => "tuple"
  | .dict _ => "dict"
theorem tyx_of {K : PySem.W.Frag} {H : Hp} {v : V} {d : D} (h : Dp K H v d) : TyX K H v (.type (tyN d)) := by
  cases h with
  | non => exact .base .non
  | bl b => exact .base (.bl b)
  | int i => exact .base (.int i)
  | str x => exact .base (.str x)
  | lst h1 h2 =>
    rcases h1 with (h1 | ⟨o, h1⟩) | ⟨o, its, n, h1, h3, _⟩
    · exact .base (.lst h1)
    · exact .base (.frz h1)
    · exact .kList h1 h3
  | tup h1 h2 =>
    rcases h1 with (h1 | ⟨o, h1⟩) | ⟨o, its, n, h1, h3, _⟩
    · exact .base (.tup h1)
    · exact .fTuple h1
    · exact .kTuple h1 h3
def isiD (T : String) : D → Option D := fun d => (kitB (tyN d) T).map .bool
theorem de_isi {x y T' : Str} {T : String} {p p2 : Pos} {oa : Opd} (B : Bn M c ("isinstance" : Str) (.builtin "isinstance")) (B2 : Bn M c T' (.type T)) (ha : oa.Of M c a) (hs : NoStar a) :
    DE M c (.Call (.Name ("isinstance" : Str) p) [a, .Name T' p2] [] pos) (call1 (isiD T) oa) := by
  refine ⟨fun X G W tk F env σ H Q R h => ?_⟩
  refine WE.of (pe_callB call_isi (B.gl' G) (by rw [G.mg]; exact B.mg) B.boot (pa_cons pe_we (pa_cons (pe_bltn (v := .ty T) (B2.gl' G) (by rw [G.mg]; exact B2.mg) B2.boot rfl B2.nn B2.nd) pa_nil) (hs _ _)) B.nn B.nd (hs _ _) rfl) ?_
  refine opd1 ha G tk R h fun env2 v d H2 R2 g2 p h2 => ?_
  obtain ⟨d', e, k⟩ := lift_post R2 h2
  obtain ⟨b, e1, rfl⟩ := Option.map_eq_some_iff.mp e
  refine ⟨v, .ty T, .type (tyN d), .type T, b, rfl, .ty T, ?_, kit_ty e1, k _ _ (Same.refl _) (.bl _)⟩
  rw [G.K]
  exact tyx_of (p.full minus_sub)
end
end DL
end
section
set_option Elab.async false
set_option linter.all false
set_option maxRecDepth 100000
set_option maxHeartbeats 4000000
/-! DL6: what a def promises over data; its call. -/
namespace DL
open PySem PySem.Spec PyProof.Rows L2

/-- a def's answer: a value, or an error; and the lent lists as they are then -/
inductive FOut where
  | stuck
  | ok (d : D) (outs : List Slot)
  | err (C : Str) (fs : List (Str × D)) (outs : List Slot)

/-- what is handed in -/
def ArgOk (K : PySem.W.Frag) (G : Addr → Prop) (H : Hp) : Slot → V → Prop
  | .val d, v => Dp K (minus H G) v d
  | .mb xs, v => ∃ a us, v = .ref a ∧ G a ∧ H a = some (.lst us) ∧ DpAll K (minus H G) us xs
  | _, _ => False
def BorAt (args : List Slot) (vs : List V) (b : Addr) : Prop := ∃ (i : Nat) (xs : List D), args[i]? = some (.mb xs) ∧ vs[i]? = some (.ref b)
structure ArgsOk (K : PySem.W.Frag) (G : Addr → Prop) (H : Hp) (args : List Slot) (vs : List V) : Prop where
  len : args.length = vs.length
  arg : ∀ (i : Nat) (s : Slot), args[i]? = some s → ∃ v, vs[i]? = some v ∧ ArgOk K G H s v
  inj : ∀ (i j : Nat) (xs ys : List D) (a : Addr), args[i]? = some (.mb xs) → args[j]? = some (.mb ys) → vs[i]? = some (.ref a) → vs[j]? = some (.ref a) → i = j
  live : ∀ b, G b → H b ≠ Option.none
structure FinOk (K : PySem.W.Frag) (G : Addr → Prop) (H : Hp) (args : List Slot) (vs : List V) (H' : Hp) (outs : List Slot) : Prop where
  frame : ∀ b o, H b = some o → ¬ BorAt args vs b → H' b = some o
  out : ∀ (i : Nat) (xs : List D), args[i]? = some (.mb xs) → ∃ ys a us, outs[i]? = some (.mb ys) ∧ vs[i]? = some (.ref a) ∧ H' a = some (.lst us) ∧ DpAll K (minus H' G) us ys
/-- a def that answers as g says -/
def spD (K : PySem.W.Frag) (mg : Str → Option Value) (n : Nat) (g : List Slot → FOut) : Sp := fun vs H Q E => vs.length = n ∧ ∃ (G : Addr → Prop) (args : List Slot), ArgsOk K G H args vs ∧
  match g args with
  | .stuck => False
  | .ok d outs => ∀ v H', FinOk K G H args vs H' outs → Dp K (minus H' G) v d → Q v H'
  | .err C fs outs => ∀ cls dd H', FinOk K G H args vs H' outs → ErrIs K mg (minus H' G) H' cls dd C fs → E cls dd H'

/-- a def of the text that keeps a promise; no repr is under way -/
structure FnG (M : Mdl) (k : Nat) (f : Addr) (fd : FuncData) (ps : List Str) (sp : Sp) : Prop where
  len : ∀ vs H Q E, sp vs H Q E → vs.length = ps.length
  go : ∀ (A : Around) (outer : List PySem.Env) (s : Shared) (H : Hp) (args : Args) (us : List Value) (vs : List V) (Q : VK) (E : XK), Room k A → A.guards = some [] →
    Env0 M.P M.w M.K M.mg M.base A outer s H → BindsTo s fd args (ps.zip us) → Vals vs us → sp vs H Q E → codeAny (model M.P M.w) A (.call (.ref f) args) (CR (CX M.P M.w) outer M.P M.w H s Q E) s
theorem FnG.mono {M : Mdl} {j k : Nat} {f : Addr} {fd : FuncData} {ps : List Str} {sp : Sp} (F : FnG M j f fd ps sp) (h : j ≤ k) : FnG M k f fd ps sp :=
  ⟨F.len, fun A outer s H args us vs Q E hr => F.go A outer s H args us vs Q E (hr.mono h)⟩

/-- a def stands at a global name: x -/
structure FnAt (M : Mdl) (k : Nat) (x : Str) (n : Nat) (g : List Slot → FOut) : Prop where
  at_ : ∃ (f : Addr) (fd : FuncData) (ps : List Str), M.mg x = some (.ref f) ∧ PySem.W.keepIn M.K (.ref f) = true ∧ ps.length = n ∧ Binds M.K fd ps [] ∧ FnG M k f fd ps (spD M.K M.mg n g)
  nd : (x == ("__debug__" : Str)) = false
theorem FnAt.mono {M : Mdl} {j k n : Nat} {x : Str} {g : List Slot → FOut} (F : FnAt M j x n g) (h : j ≤ k) : FnAt M k x n g := by
  obtain ⟨⟨f, fd, ps, h1, h2, h3, h4, h5⟩, nd⟩ := F
  exact ⟨⟨f, fd, ps, h1, h2, h3, h4, h5.mono h⟩, nd⟩
/-- it answers as another function says that agrees where it is not stuck -/
theorem FnG.imp {M : Mdl} {k : Nat} {f : Addr} {fd : FuncData} {ps : List Str} {sp sp' : Sp} (F : FnG M k f fd ps sp) (h : ∀ vs H Q E, sp' vs H Q E → sp vs H Q E) : FnG M k f fd ps sp' :=
  ⟨fun vs H Q E q => F.len vs H Q E (h _ _ _ _ q), fun A outer s H args us vs Q E hr hg he hb hv hs => F.go A outer s H args us vs Q E hr hg he hb hv (h _ _ _ _ hs)⟩
theorem FnAt.imp {M : Mdl} {k n : Nat} {x : Str} {g g' : List Slot → FOut} (F : FnAt M k x n g) (h : ∀ args, g' args ≠ .stuck → g args = g' args) : FnAt M k x n g' := by
  obtain ⟨⟨f, fd, ps, h1, h2, h3, h4, h5⟩, nd⟩ := F
  refine ⟨⟨f, fd, ps, h1, h2, h3, h4, h5.imp fun vs H Q E q => ?_⟩, nd⟩
  obtain ⟨hl, G, args, ha, q⟩ := q
  refine ⟨hl, G, args, ha, ?_⟩
  by_cases z : g' args = .stuck
  · rw [z] at q
    exact q.elim
  · rw [h args z]
    exact q

/-! ### the call -/
inductive Arg where
  | v (f : Sl → Out D)
  | m (i : Nat)
def Arg.Of (M : Mdl) (c : Cf) (e : Expr) : Arg → Prop
  | .m i => ∃ (x : Str) (pos : Pos), e = .Name x pos ∧ c.N[i]? = some x ∧ Vis c.sc x ∧ (x == ("__debug__" : Str)) = false ∧ (x == ("__classdict__" : Str)) = false
  | .v f => DE M c e f
/-- the lent list of a slot -/
def lendS : Option Slot → Option (List D)
  | some (.ml xs) => some xs
  | some (.mb xs) => some xs
  | _ => none
def lend (env : Sl) (i : Nat) : Option (List D) := lendS env[i]?
def evA : List Arg → Sl → Out (List (Option D))
  | [], env => .ok [] env
  | .v f :: r, env => (f env).bind fun x env => (evA r env).bind fun xs env => .ok (some x :: xs) env
  | .m i :: r, env => match lend env i with
    | some _ => (evA r env).bind fun xs env => .ok (none :: xs) env
    | none => .stuck
/-- the slots of the call -/
def fillA : List Arg → List (Option D) → Sl → Option (List Slot)
  | .v _ :: r, some d :: ds, env => (fillA r ds env).map (.val d :: ·)
  | .m i :: r, none :: ds, env => (lend env i).bind fun xs => (fillA r ds env).map (.mb xs :: ·)
  | [], [], _ => some []
  | _, _, _ => none
def back1 (env : Sl) (i : Nat) (ys : List D) : Sl := env.set i (match env[i]? with
  | some (.mb _) => .mb ys
  | _ => .ml ys)
/-- the lent lists come back -/
def backA : List Arg → List Slot → Sl → Sl
  | .v _ :: r, _ :: os, env => backA r os env
  | .m i :: r, .mb ys :: os, env => backA r os (back1 env i ys)
  | _, _, env => env
def lentA : List Arg → List Nat
  | [] => []
  | .v _ :: r => lentA r
  | .m i :: r => i :: lentA r
def callE (g : List Slot → FOut) (as : List Arg) : Sl → Out D := fun env => (evA as env).bind fun ds env => match fillA as ds env with
  | some args => (match g args with
    | .stuck => .stuck
    | .ok d outs => .ok d (backA as outs env)
    | .err C fs outs => .err C fs (backA as outs env))
  | none => .stuck

inductive AgOk (K : PySem.W.Frag) (σ : St) (Hm : Hp) : List V → List Arg → List (Option D) → Prop
  | nil : AgOk K σ Hm [] [] []
  | v {v : V} {vs : List V} {f : Sl → Out D} {as : List Arg} {d : D} {ds : List (Option D)} : Dp K Hm v d → AgOk K σ Hm vs as ds → AgOk K σ Hm (v :: vs) (.v f :: as) (some d :: ds)
  | m {v : V} {vs : List V} {i : Nat} {as : List Arg} {ds : List (Option D)} : σ[i]? = some (some v) → AgOk K σ Hm vs as ds → AgOk K σ Hm (v :: vs) (.m i :: as) (none :: ds)
theorem AgOk.len {K : PySem.W.Frag} {σ : St} {Hm : Hp} : ∀ {vs : List V} {as : List Arg} {ds : List (Option D)}, AgOk K σ Hm vs as ds → vs.length = as.length
  | _, _, _, .nil => rfl
  | _, _, _, .v _ t => by simp [AgOk.len t]
  | _, _, _, .m _ t => by simp [AgOk.len t]
theorem AgOk.same {K : PySem.W.Frag} {σ : St} {Hm Hm' : Hp} (e : Same Hm Hm') : ∀ {vs : List V} {as : List Arg} {ds : List (Option D)}, AgOk K σ Hm vs as ds → AgOk K σ Hm' vs as ds
  | _, _, _, .nil => .nil
  | _, _, _, .v a t => .v (Dp.same e a) (AgOk.same e t)
  | _, _, _, .m a t => .m a (AgOk.same e t)
structure DAg (M : Mdl) (c : Cf) (es : List Expr) (as : List Arg) : Prop where
  run : ∀ (X : Cx), Good M c X → ∀ (W : WX), Takes X W → ∀ (F : Act) (env : Sl) (σ : St) (H : Hp) (Q : List V → Hp → Prop),
  Rel M.kx F env σ H → Post M F env σ H (fun Hm _ vs ds => AgOk M.K σ Hm vs as ds) Q W (evA as env) → WA X es σ H Q
section
variable {M : Mdl} {c : Cf} {pos : Pos} {a b e : Expr} {rest es : List Expr} {as : List Arg}
theorem lend_ok {F : Act} {env : Sl} {σ : St} {H : Hp} {i : Nat} {xs : List D} (R : Rel M.kx F env σ H) (h : lend env i = some xs) :
    ∃ s a us, env[i]? = some s ∧ s.mut = true ∧ σ[i]? = some (some (.ref a)) ∧ H a = some (.lst us) ∧ DpAll M.K (F.pub env σ H) us xs := by
  unfold lend at h
  cases e : env[i]? with
  | none => rw [e] at h; cases h
  | some s =>
    rw [e] at h
    cases s with
    | ml ys =>
      cases h
      obtain ⟨o, e1, a, us, rfl, p, q⟩ := R.slot i _ e
      exact ⟨_, a, us, rfl, rfl, e1, p, q⟩
    | mb ys =>
      cases h
      obtain ⟨o, e1, a, us, rfl, p, q⟩ := R.slot i _ e
      exact ⟨_, a, us, rfl, rfl, e1, p, q⟩
    | no => cases h
    | val d => cases h
    | er C fs => cases h
theorem dag_nil : DAg M c [] [] := ⟨fun X G W tk F env σ H Q R h => WA.of pa_nil (h _ H R Grow.refl .nil)⟩
theorem dag_v {f : Sl → Out D} (ha : DE M c a f) (hs : NoStar a) (hr : DAg M c es as) : DAg M c (a :: es) (.v f :: as) := by
  refine ⟨fun X G W tk F env σ H Q R h => ?_⟩
  refine WA.of (pa_cons pe_we pa_wa (hs _ _)) ?_
  refine ha.run X G W tk F env σ H _ R (Post.split h fun d1 env1 v1 H1 _ R1 g1 p1 h1 => ?_)
  refine hr.run X G W tk F env1 σ H1 _ R1 (Post.split h1 fun d2 env2 v2 H2 _ R2 g2 p2 h2 => ?_)
  exact h2 _ H2 R2 Grow.refl (.v (Dp.same g2 p1) p2)
theorem dag_m {i : Nat} {x : Str} {p : Pos} (hN : c.N[i]? = some x) (hv : Vis c.sc x) (hd : (x == ("__debug__" : Str)) = false) (hcd : (x == ("__classdict__" : Str)) = false) (hs : NoStar (.Name x p)) (hr : DAg M c es as) : DAg M c (.Name x p :: es) (.m i :: as) := by
  refine ⟨fun X G W tk F env σ H Q R h => ?_⟩
  refine WA.of (pa_cons pe_we pa_wa (hs _ _)) ?_
  refine WE.of (G.var hN hv hd hcd) ?_
  have h : Post M F env σ H (fun Hm _ vs ds => AgOk M.K σ Hm vs (.m i :: as) ds) Q W (match lend env i with
    | some _ => (evA as env).bind fun xs env => .ok (none :: xs) env
    | none => .stuck) := h
  cases q : lend env i with
  | none => rw [q] at h; exact h.elim
  | some xs =>
    rw [q] at h
    obtain ⟨s, a, us, e1, e2, e3, e4, e5⟩ := lend_ok R q
    refine ⟨_, e3, hr.run X G W tk F env σ H _ R (Post.split h fun d2 env2 v2 H2 _ R2 g2 p2 h2 => ?_)⟩
    exact h2 _ H2 R2 Grow.refl (.m e3 p2)

/-- what is handed in, from a state -/
theorem fill_ok {F : Act} {env : Sl} {σ : St} {H : Hp} (R : Rel M.kx F env σ H) : ∀ {vs : List V} {as : List Arg} {ds : List (Option D)} {args : List Slot}, AgOk M.K σ (F.pub env σ H) vs as ds → fillA as ds env = some args →
    args.length = vs.length ∧ (∀ (j : Nat) (s : Slot), args[j]? = some s → ∃ v, vs[j]? = some v ∧ ArgOk M.K (F.Hid env σ) H s v) ∧
      (∀ (j : Nat) (xs : List D), args[j]? = some (.mb xs) → ∃ i, as[j]? = some (.m i) ∧ ∃ a s, env[i]? = some s ∧ s.mut = true ∧ σ[i]? = some (some (.ref a)) ∧ vs[j]? = some (.ref a))
  | _, _, _, _, .nil, e => by
    cases e
    exact ⟨rfl, fun j s h => by simp at h, fun j xs h => by simp at h⟩
  | _, _, _, args, .v (d := d) (as := as) (ds := ds) p t, e => by
    simp only [fillA] at e
    obtain ⟨rs, e1, rfl⟩ := Option.map_eq_some_iff.mp e
    obtain ⟨h1, h2, h3⟩ := fill_ok R t e1
    refine ⟨by simp [h1], fun j s h => ?_, fun j xs h => ?_⟩
    · cases j with
      | zero =>
        simp at h
        subst h
        exact ⟨_, rfl, p⟩
      | succ j =>
        obtain ⟨v, q1, q2⟩ := h2 j s (by simpa using h)
        exact ⟨v, by simpa using q1, q2⟩
    · cases j with
      | zero => simp at h
      | succ j =>
        obtain ⟨i, q1, a, s, q2, q3, q4, q5⟩ := h3 j xs (by simpa using h)
        exact ⟨i, by simpa using q1, a, s, q2, q3, q4, by simpa using q5⟩
  | _, _, _, args, .m (v := v) (i := i) (as := as) (ds := ds) p t, e => by
    simp only [fillA] at e
    obtain ⟨xs, e0, e⟩ := Option.bind_eq_some_iff.mp e
    obtain ⟨rs, e1, rfl⟩ := Option.map_eq_some_iff.mp e
    obtain ⟨h1, h2, h3⟩ := fill_ok R t e1
    obtain ⟨s, a, us, l1, l2, l3, l4, l5⟩ := lend_ok R e0
    rw [l3] at p
    cases p
    refine ⟨by simp [h1], fun j s h => ?_, fun j ys h => ?_⟩
    · cases j with
      | zero =>
        simp at h
        subst h
        exact ⟨_, rfl, a, us, rfl, .inr (.inr ⟨i, _, l1, l2, l3⟩), l4, l5⟩
      | succ j =>
        obtain ⟨v, q1, q2⟩ := h2 j s (by simpa using h)
        exact ⟨v, by simpa using q1, q2⟩
    · cases j with
      | zero => exact ⟨i, rfl, a, s, l1, l2, l3, rfl⟩
      | succ j =>
        obtain ⟨i, q1, a, s, q2, q3, q4, q5⟩ := h3 j ys (by simpa using h)
        exact ⟨i, by simpa using q1, a, s, q2, q3, q4, by simpa using q5⟩
end
end DL
end
section
set_option Elab.async false
set_option linter.all false
set_option maxRecDepth 100000
set_option maxHeartbeats 4000000
/-! DL7: behind a call. -/
namespace DL
open PySem PySem.Spec PyProof.Rows L2

theorem back1_get {env : Sl} {i j : Nat} {ys : List D} (h : i ≠ j) : (back1 env i ys)[j]? = env[j]? := by
  unfold back1
  rw [List.getElem?_set_ne h]
/-- the slot of a lent list, behind -/
def backS (s : Slot) (ys : List D) : Slot := match s with
  | .mb _ => .mb ys
  | _ => .ml ys
theorem back1_at {env : Sl} {i : Nat} {s : Slot} {ys : List D} (h : env[i]? = some s) : (back1 env i ys)[i]? = some (backS s ys) := by
  unfold back1
  rw [List.getElem?_set_self (List.getElem?_eq_some_iff.mp h).1, h]
  cases s <;> rfl
theorem back1_len {env : Sl} {i : Nat} {ys : List D} : (back1 env i ys).length = env.length := by
  unfold back1
  rw [List.length_set]
theorem backA_len : ∀ {as : List Arg} {os : List Slot} {env : Sl}, (backA as os env).length = env.length
  | [], _, _ => by simp [backA]
  | .v _ :: r, [], _ => by simp [backA]
  | .v _ :: r, _ :: os, env => by simp [backA, backA_len (as := r) (os := os) (env := env)]
  | .m i :: r, [], _ => by simp [backA]
  | .m i :: r, .mb ys :: os, env => by simp [backA, backA_len (as := r) (os := os) (env := back1 env i ys), back1_len]
  | .m i :: r, .no :: os, env => by simp [backA]
  | .m i :: r, .val _ :: os, env => by simp [backA]
  | .m i :: r, .ml _ :: os, env => by simp [backA]
  | .m i :: r, .er _ _ :: os, env => by simp [backA]
theorem backA_ne : ∀ {as : List Arg} {os : List Slot} {env : Sl} {i : Nat}, i ∉ lentA as → (backA as os env)[i]? = env[i]?
  | [], _, _, _, _ => by simp [backA]
  | .v _ :: r, [], _, _, _ => by simp [backA]
  | .v _ :: r, _ :: os, env, i, h => by
    simp only [backA]
    exact backA_ne (as := r) (by simpa [lentA] using h)
  | .m j :: r, [], _, _, _ => by simp [backA]
  | .m j :: r, .mb ys :: os, env, i, h => by
    simp only [backA]
    simp only [lentA, List.mem_cons, not_or] at h
    rw [backA_ne (as := r) h.2, back1_get (Ne.symm h.1)]
  | .m j :: r, .no :: os, env, i, h => by simp [backA]
  | .m j :: r, .val _ :: os, env, i, h => by simp [backA]
  | .m j :: r, .ml _ :: os, env, i, h => by simp [backA]
  | .m j :: r, .er _ _ :: os, env, i, h => by simp [backA]
theorem mem_lentA : ∀ {as : List Arg} {i : Nat}, i ∈ lentA as ↔ ∃ j : Nat, as[j]? = some (Arg.m i)
  | [], i => by simp [lentA]
  | .v f :: r, i => by
    simp only [lentA]
    rw [mem_lentA (as := r)]
    constructor
    · rintro ⟨j, h⟩
      exact ⟨j + 1, by simpa using h⟩
    · rintro ⟨j, h⟩
      cases j with
      | zero => simp at h
      | succ j => exact ⟨j, by simpa using h⟩
  | .m k :: r, i => by
    simp only [lentA, List.mem_cons]
    rw [mem_lentA (as := r)]
    constructor
    · rintro (rfl | ⟨j, h⟩)
      · exact ⟨0, rfl⟩
      · exact ⟨j + 1, by simpa using h⟩
    · rintro ⟨j, h⟩
      cases j with
      | zero =>
        simp at h
        exact .inl h.symm
      | succ j => exact .inr ⟨j, by simpa using h⟩
/-- every lent place has its list in the answer -/
def OutsOk (as : List Arg) (os : List Slot) : Prop := ∀ (j i : Nat), as[j]? = some (.m i) → ∃ ys, os[j]? = some (.mb ys)
theorem backA_at : ∀ {as : List Arg} {os : List Slot} {env : Sl} {i j : Nat} {s : Slot} {ys : List D}, (lentA as).Nodup → OutsOk as os → as.length ≤ os.length → as[j]? = some (.m i) → os[j]? = some (.mb ys) → env[i]? = some s →
    (backA as os env)[i]? = some (backS s ys)
  | [], _, _, _, _, _, _, _, _, _, h, _, _ => by simp at h
  | .v f :: r, [], _, _, _, _, _, _, _, hl, _, _, _ => by simp at hl
  | .v f :: r, o :: os, env, i, j, s, ys, nd, ok, hl, h1, h2, h3 => by
    cases j with
    | zero => simp at h1
    | succ j =>
      simp only [backA]
      exact backA_at (as := r) nd (fun j' i' q => by
        obtain ⟨zs, q2⟩ := ok (j' + 1) i' (by simpa using q)
        exact ⟨zs, by simpa using q2⟩) (by simpa using hl) (by simpa using h1) (by simpa using h2) h3
  | .m k :: r, [], _, _, _, _, _, _, _, hl, _, _, _ => by simp at hl
  | .m k :: r, o :: os, env, i, j, s, ys, nd, ok, hl, h1, h2, h3 => by
    simp only [lentA, List.nodup_cons] at nd
    obtain ⟨zs, q0⟩ := ok 0 k rfl
    simp at q0
    subst q0
    simp only [backA]
    cases j with
    | zero =>
      simp at h1 h2
      subst h1 h2
      rw [backA_ne nd.1]
      exact back1_at h3
    | succ j =>
      have h1' : r[j]? = some (.m i) := by simpa using h1
      have ne : k ≠ i := fun z => nd.1 (by rw [z]; exact mem_lentA.mpr ⟨j, h1'⟩)
      exact backA_at (as := r) nd.2 (fun j' i' q => by
        obtain ⟨zs, q2⟩ := ok (j' + 1) i' (by simpa using q)
        exact ⟨zs, by simpa using q2⟩) (by simpa using hl) h1' (by simpa using h2) (by rw [back1_get ne]; exact h3)

theorem backS_mut (s : Slot) (ys : List D) : (backS s ys).mut = true := by
  cases s <;> rfl
section
variable {M : Mdl} {F : Act} {env : Sl} {σ : St} {H H' : Hp} {vs : List V} {as : List Arg} {ds : List (Option D)} {args outs : List Slot}
theorem outs_len {K : PySem.W.Frag} {G : Addr → Prop} : True := trivial
/-- the state behind a call -/
theorem back_ok (R : Rel M.kx F env σ H) (nd : (lentA as).Nodup) (ag : AgOk M.K σ (F.pub env σ H) vs as ds) (fi : fillA as ds env = some args) (fo : FinOk M.K (F.Hid env σ) H args vs H' outs) (hol : as.length ≤ outs.length)
    (allm : ∀ (j i : Nat), as[j]? = some (.m i) → ∃ xs, args[j]? = some (.mb xs)) :
    Rel M.kx F (backA as outs env) σ H' ∧ Grow F env σ H (backA as outs env) σ H' ∧ Same (minus H' (F.Hid env σ)) (F.pub (backA as outs env) σ H') := by
  obtain ⟨_, _, h3⟩ := fill_ok R ag fi
  have ok : OutsOk as outs := fun j i q => by
    obtain ⟨xs, q1⟩ := allm j i q
    obtain ⟨ys, _, _, q2, _⟩ := fo.out j xs q1
    exact ⟨ys, q2⟩
  -- a slot behind is the slot ahead, or a lent one with its new list
  have shape : ∀ (i : Nat) (s' : Slot), (backA as outs env)[i]? = some s' → (i ∉ lentA as ∧ env[i]? = some s') ∨ ∃ (j : Nat) (xs ys : List D) (a : Addr) (us : List V) (s : Slot), as[j]? = some (.m i) ∧ args[j]? = some (.mb xs) ∧ env[i]? = some s ∧ s.mut = true ∧ σ[i]? = some (some (.ref a)) ∧
      vs[j]? = some (.ref a) ∧ H' a = some (.lst us) ∧ DpAll M.K (minus H' (F.Hid env σ)) us ys ∧ s' = backS s ys := fun i s' h => by
    by_cases hi : i ∈ lentA as
    · obtain ⟨j, q⟩ := mem_lentA.mp hi
      obtain ⟨xs, q1⟩ := allm j i q
      obtain ⟨i', q2, a, s, q3, q4, q5, q6⟩ := h3 j xs q1
      rw [q] at q2
      cases q2
      obtain ⟨ys, a', us, o1, o2, o3, o4⟩ := fo.out j xs q1
      rw [q6] at o2
      cases o2
      rw [backA_at nd ok hol q o1 q3] at h
      cases h
      exact .inr ⟨j, xs, ys, a, us, s, q, q1, q3, q4, q5, q6, o3, o4, rfl⟩
    · rw [backA_ne hi] at h
      exact .inl ⟨hi, h⟩
  have mutE : ∀ (i : Nat) (s' : Slot), (backA as outs env)[i]? = some s' → s'.mut = true → ∃ s : Slot, env[i]? = some s ∧ s.mut = true := fun i s' h m => by
    rcases shape i s' h with ⟨_, q⟩ | ⟨j, xs, ys, a, us, s, _, _, q3, q4, _⟩
    · exact ⟨s', q, m⟩
    · exact ⟨s, q3, q4⟩
  have mutB : ∀ (i : Nat) (s : Slot), env[i]? = some s → s.mut = true → ∃ s' : Slot, (backA as outs env)[i]? = some s' ∧ s'.mut = true := fun i s h m => by
    by_cases hi : i ∈ lentA as
    · obtain ⟨j, q⟩ := mem_lentA.mp hi
      obtain ⟨ys, o1⟩ := ok j i q
      exact ⟨_, backA_at nd ok hol q o1 h, backS_mut s ys⟩
    · exact ⟨s, by rw [backA_ne hi]; exact h, m⟩
  have hidE : ∀ b, F.Hid (backA as outs env) σ b → F.Hid env σ b := fun b z => by
    rcases z with z | z | ⟨i, s, h1, h2, h4⟩
    · exact .inl z
    · exact .inr (.inl z)
    · obtain ⟨s0, k1, k2⟩ := mutE i s h1 h2
      exact .inr (.inr ⟨i, s0, k1, k2, h4⟩)
  have borHid : ∀ b, BorAt args vs b → ∃ (i : Nat) (s : Slot) (j : Nat), as[j]? = some (.m i) ∧ env[i]? = some s ∧ s.mut = true ∧ σ[i]? = some (some (.ref b)) := fun b ⟨j, xs, q1, q2⟩ => by
    obtain ⟨i, k1, a, s, k2, k3, k4, k5⟩ := h3 j xs q1
    rw [q2] at k5
    cases k5
    exact ⟨i, s, j, k1, k2, k3, k4⟩
  have pubS : Same (minus H' (F.Hid env σ)) (F.pub (backA as outs env) σ H') := minus_less hidE
  have g : Grow F env σ H (backA as outs env) σ H' := fun b o z => by
    rw [Act.pub, minus_some] at z
    refine pubS b o (minus_some.mpr ⟨z.1, fo.frame b o z.2 fun q => ?_⟩)
    obtain ⟨i, s, j, _, k2, k3, k4⟩ := borHid b q
    exact z.1 (.inr (.inr ⟨i, s, k2, k3, k4⟩))
  have liveB : ∀ b, H b ≠ Option.none → H' b ≠ Option.none := fun b h => by
    by_cases hb : BorAt args vs b
    · obtain ⟨j, xs, q1, q2⟩ := hb
      obtain ⟨ys, a, us, o1, o2, o3, _⟩ := fo.out j xs q1
      rw [q2] at o2
      cases o2
      rw [o3]
      intro z
      cases z
    · cases q : H b with
      | none => exact absurd q h
      | some o =>
        rw [fo.frame b o q hb]
        intro z
        cases z
  refine ⟨⟨by rw [backA_len]; exact R.len, fun i s' h => ?_, fun i j s t a h1 h2 m1 m2 q1 q2 => ?_, fun b o h1 h2 => ?_, R.bg, R.live0, fun b hb => liveB b (R.live b hb), fun b o hb => fo.frame b o (R.pv b o hb) (fun z => by
    obtain ⟨i, s, j, _, k2, k3, k4⟩ := borHid b z
    exact R.pne i s b k2 k3 k4 ⟨o, hb⟩), fun i s a h1 m1 q1 => ?_, fun i xs a h1 h2 => ?_, fun i xs h1 => ?_⟩, g, pubS⟩
  · rcases shape i s' h with ⟨hi, q⟩ | ⟨j, xs, ys, a, us, s, q1, q2, q3, q4, q5, q6, q7, q8, rfl⟩
    · obtain ⟨o, e1, k⟩ := R.slot i s' q
      refine ⟨o, e1, ?_⟩
      have keep : ∀ a, o = some (.ref a) → s'.mut = true → ∀ u, H a = some u → H' a = some u := fun a eo m u hu => fo.frame a u hu fun z => by
        obtain ⟨i', s, j, k1, k2, k3, k4⟩ := borHid a z
        rw [eo] at e1
        have := R.inj i i' s' s a q k2 m k3 e1 k4
        subst this
        exact hi (mem_lentA.mpr ⟨j, k1⟩)
      cases s' with
      | no => trivial
      | val d => obtain ⟨v, e2, p⟩ := k; exact ⟨v, e2, Dp.same g p⟩
      | er C fs => obtain ⟨a, dd, ws, e2, x, p, q⟩ := k; exact ⟨a, dd, ws, e2, x, g _ _ p, FsOk.same g q⟩
      | ml ys => obtain ⟨a, us, e2, p, p2⟩ := k; exact ⟨a, us, e2, keep a e2 rfl _ p, DpAll.same g p2⟩
      | mb ys => obtain ⟨a, us, e2, p, p2⟩ := k; exact ⟨a, us, e2, keep a e2 rfl _ p, DpAll.same g p2⟩
    · refine ⟨_, q5, ?_⟩
      rcases Slot.mut_of q4 with ⟨ws, rfl⟩ | ⟨ws, rfl⟩ <;> exact ⟨a, us, rfl, q7, DpAll.same pubS q8⟩
  · obtain ⟨s0, k1, k2⟩ := mutE i s h1 m1
    obtain ⟨t0, k3, k4⟩ := mutE j t h2 m2
    exact R.inj i j s0 t0 a k1 k3 k2 k4 q1 q2
  · refine fo.frame b o (R.frame b o h1 h2) fun z => ?_
    obtain ⟨i, s, j, k1, k2, k3, k4⟩ := borHid b z
    rcases Slot.mut_of k3 with ⟨ys, rfl⟩ | ⟨ys, rfl⟩
    · rw [R.own i ys b k2 k4] at h1
      cases h1
    · obtain ⟨a, e1, e2, _⟩ := R.lent i ys k2
      rw [k4] at e2
      cases e2
      exact h2 ⟨i, e1⟩
  · obtain ⟨s0, k1, k2⟩ := mutE i s h1 m1
    exact R.pne i s0 a k1 k2 q1
  · rcases shape i _ h1 with ⟨_, q⟩ | ⟨j, zs, ys, b, us, s, q1, q2, q3, q4, q5, q6, q7, q8, q9⟩
    · exact R.own i xs a q h2
    · rcases Slot.mut_of q4 with ⟨ws, rfl⟩ | ⟨ws, rfl⟩
      · exact R.own i ws a q3 h2
      · cases q9
  · rcases shape i _ h1 with ⟨_, q⟩ | ⟨j, zs, ys, b, us, s, q1, q2, q3, q4, q5, q6, q7, q8, q9⟩
    · exact R.lent i xs q
    · rcases Slot.mut_of q4 with ⟨ws, rfl⟩ | ⟨ws, rfl⟩
      · cases q9
      · exact R.lent i ws q3
end

/-! ### the rule -/
theorem allm_of : ∀ {as : List Arg} {ds : List (Option D)} {env : Sl} {args : List Slot}, fillA as ds env = some args → ∀ (j i : Nat), as[j]? = some (.m i) → ∃ xs, args[j]? = some (.mb xs)
  | .v f :: r, some d :: ds, env, args, e, j, i, h => by
    simp only [fillA] at e
    obtain ⟨rs, e1, rfl⟩ := Option.map_eq_some_iff.mp e
    cases j with
    | zero => simp at h
    | succ j =>
      obtain ⟨xs, q⟩ := allm_of e1 j i (by simpa using h)
      exact ⟨xs, by simpa using q⟩
  | .m k :: r, none :: ds, env, args, e, j, i, h => by
    simp only [fillA] at e
    obtain ⟨xs, e0, e⟩ := Option.bind_eq_some_iff.mp e
    obtain ⟨rs, e1, rfl⟩ := Option.map_eq_some_iff.mp e
    cases j with
    | zero => exact ⟨xs, rfl⟩
    | succ j =>
      obtain ⟨xs, q⟩ := allm_of e1 j i (by simpa using h)
      exact ⟨xs, by simpa using q⟩
  | [], _, _, _, _, j, i, h => by simp at h
  | .v f :: r, [], _, _, e, _, _, _ => by simp [fillA] at e
  | .v f :: r, none :: ds, _, _, e, _, _, _ => by simp [fillA] at e
  | .m k :: r, [], _, _, e, _, _, _ => by simp [fillA] at e
  | .m k :: r, some d :: ds, _, _, e, _, _, _ => by simp [fillA] at e
theorem lent_once : ∀ {as : List Arg} {i j k : Nat}, (lentA as).Nodup → as[i]? = some (.m k) → as[j]? = some (.m k) → i = j
  | [], _, _, _, _, h1, _ => by simp at h1
  | .v f :: r, i, j, k, nd, h1, h2 => by
    cases i with
    | zero => simp at h1
    | succ i =>
      cases j with
      | zero => simp at h2
      | succ j =>
        have e := lent_once (as := r) (i := i) (j := j) (k := k) (by simpa [lentA] using nd) (by simpa using h1) (by simpa using h2)
        omega
  | .m l :: r, i, j, k, nd, h1, h2 => by
    simp only [lentA, List.nodup_cons] at nd
    cases i with
    | zero =>
      simp at h1
      subst h1
      cases j with
      | zero => rfl
      | succ j => exact absurd (mem_lentA.mpr ⟨j, by simpa using h2⟩) nd.1
    | succ i =>
      cases j with
      | zero =>
        simp at h2
        subst h2
        exact absurd (mem_lentA.mpr ⟨i, by simpa using h1⟩) nd.1
      | succ j =>
        have e := lent_once (as := r) (i := i) (j := j) (k := k) nd.2 (by simpa using h1) (by simpa using h2)
        omega
/-- as many answers as arguments -/
def FOut.Len (n : Nat) : FOut → Prop
  | .stuck => True
  | .ok _ outs => outs.length = n
  | .err _ _ outs => outs.length = n
section
variable {M : Mdl} {c : Cf} {pos : Pos} {a b e : Expr} {rest es : List Expr} {as : List Arg}
/-- the callee runs -/
theorem run_G {X : Cx} {k : Nat} {f : Addr} {fd : FuncData} {ps : List Str} {sp : Sp} {E : XK} {pins : List (Addr × Obj)} {σ : St} {H : Hp} {s : Shared} {Q : VK} {us : List Value} {vs : List V} (G : Good M c X) (hk : k ≤ c.k) (hc : c.calm = true) (Fn : FnG M k f fd ps sp)
    (hb : Binds M.K fd ps []) (I : Inv X pins σ H s) (hx : ∀ e s', CX X.prog X.w X.stack H s E e s' → X.xe e s') (r : Vals vs us) (h : sp vs H Q E) : wpAny (model X.prog X.w) X.A (call (.ref f) us) (EP X pins σ Q) X.xe s := by
  have hl := Fn.len _ _ _ _ h
  have e0 : Env0 M.P M.w M.K M.mg M.base X.A X.stack s H := by
    have z := I.env0
    rw [G.prog, G.w, G.K, G.mg, G.base] at z
    exact z
  have kin : M.K.In s.heap := by rw [← G.K]; exact I.kIn
  have bt := hb s us kin (by rw [List.append_nil, ← r.length]; exact hl)
  rw [List.append_nil] at bt
  refine wpAny_call ?_
  rw [G.prog, G.w]
  refine codeAny_mono (Fn.go X.A X.stack s H ⟨us, []⟩ us vs Q E ((G.room hc).mono hk) G.guards e0 bt r h) fun res s' hq => ?_
  cases res with
  | error e =>
    have hq : CX M.P M.w X.stack H s E e s' := hq
    rw [← G.prog, ← G.w] at hq
    exact hx e s' hq
  | ok fl =>
    cases fl with
    | ret u =>
      have hq : CE X.stack M.P M.w H s Q u s' := hq
      rw [← G.prog, ← G.w] at hq
      exact I.after hq
    | next => exact False.elim hq
    | brk => exact False.elim hq
    | cont => exact False.elim hq
theorem de_call {x : Str} {p : Pos} {k n : Nat} {g : List Slot → FOut} (Fn : FnAt M k x n g) (hk : k ≤ c.k) (hc : c.calm = true) (hg : c.sc.names.lookup x = some .globalImplicit) (hgl : ∀ args, (g args).Len n) (ha : DAg M c (a :: es) as) (hn : as.length = n) (nd : (lentA as).Nodup)
    (hs : NoStar a) (hpl : ∀ (pos : Pos) (env : PySem.Env), (backTo pos (starEach es env)).any (·.1) = false) : DE M c (.Call (.Name x p) (a :: es) [] pos) (callE g as) := by
  refine ⟨fun X G W tk F env σ H Q R h => ?_⟩
  obtain ⟨⟨f, fd, ps, h1, h2, h3, h4, h5⟩, hdb⟩ := Fn
  intro pins s I
  refine wpAny_Call_Name_kw (ld_glob I (by unfold Gl PySem.Env.kindOf; rw [G.sc]; exact hg) (by rw [G.mg]; exact h1) ?_ hdb)
  refine PySem.W.callWith_K (h₀ := X.base) I.ok.mod.kin (by rw [G.K]; exact h2) ?_ (hs _ _) (hpl _ _)
  refine thn (ha.run X G W tk F env σ H (fun vs H1 => ∃ env1 ds, Rel M.kx F env1 σ H1 ∧ Grow F env σ H env1 σ H1 ∧ AgOk M.K σ (F.pub env1 σ H1) vs as ds ∧ Post M F env1 σ H1 (rD M.K) Q W (match fillA as ds env1 with
    | some args => (match g args with
      | .stuck => .stuck
      | .ok d outs => .ok d (backA as outs env1)
      | .err C fs outs => .err C fs (backA as outs env1))
    | none => .stuck)) R (Post.split h fun ds env1 vs H1 _ R1 g1 p1 q1 => ⟨env1, ds, R1, g1, p1, q1⟩) pos pins s I) fun us s1 ⟨vs, H1, I1, r1, env1, ds, R1, g1, p1, q1⟩ => ⟨I1.kIn, ?_⟩
  cases fi : fillA as ds env1 with
  | none => simp only [fi] at q1; exact q1.elim
  | some args =>
    simp only [fi] at q1
    obtain ⟨l1, l2, l3⟩ := fill_ok R1 p1 fi
    have lv : vs.length = n := p1.len.trans hn
    refine run_G (E := fun cls dd H' => W cls dd σ H') G hk hc h5 h4 I1 (fun e s' cx => tk e s' (XE.of_call I1 (fun cls d H' z => z) cx)) r1 ⟨lv, F.Hid env1 σ, args, ⟨l1, l2, fun i j xs ys b a1 a2 b1 b2 => ?_, fun b hb => R1.hid_live hb⟩, ?_⟩
    · obtain ⟨i', c1, a', s', c2, c3, c4, c5⟩ := l3 i xs a1
      obtain ⟨j', d1, b', t', d2, d3, d4, d5⟩ := l3 j ys a2
      rw [b1] at c5
      rw [b2] at d5
      cases c5
      cases d5
      have e1 := R1.inj i' j' s' t' b c2 d2 c3 d3 c4 d4
      subst e1
      -- the same lent name twice: not so
      exact lent_once nd c1 d1
    · have hL := hgl args
      cases q : g args with
      | stuck => rw [q] at q1; exact q1.elim
      | ok d outs =>
        rw [q] at hL q1
        intro v H' fo pd
        obtain ⟨R2, g2, s2⟩ := back_ok R1 nd p1 fi fo (by rw [hn]; exact Nat.le_of_eq hL.symm) (allm_of fi)
        exact q1 v H' R2 g2 (Dp.same s2 pd)
      | err C fs outs =>
        rw [q] at hL q1
        intro cls dd H' fo pd
        obtain ⟨R2, g2, s2⟩ := back_ok R1 nd p1 fi fo (by rw [hn]; exact Nat.le_of_eq hL.symm) (allm_of fi)
        obtain ⟨a1, d1, ws, e1, e2, e3, e4, e5⟩ := pd
        exact q1 cls dd H' R2 g2 ⟨a1, d1, ws, e1, e2, e3, s2 _ _ e4, FsOk.same s2 e5⟩
end
end DL
end
section
set_option Elab.async false
set_option linter.all false
set_option maxRecDepth 100000
set_option maxHeartbeats 4000000
/-! DL8: new lists; what is walked; comprehensions. -/
namespace DL
open PySem PySem.Spec PyProof.Rows L2

/-! ### lengths -/
def LenOk (K : PySem.W.Frag) (H : Hp) : Prop := ∀ a xs, SqL K H a xs ∨ SqT K H a xs → xs.length ≤ sizeLine
theorem Inv.lenOk {X : Cx} {pins : List (Addr × Obj)} {σ : St} {H : Hp} {s : Shared} (I : L2.Inv X pins σ H s) : LenOk X.K H := fun a xs h => by
  rcases h with h | h
  · obtain ⟨_, _, _, z⟩ := I.list h
    exact z
  · obtain ⟨_, _, _, z⟩ := I.tuple h
    exact z
theorem WE.len {X : Cx} {e : Expr} {σ : St} {H : Hp} {Q : VK} (h : WE X e σ H (fun v H' => LenOk X.K H' → Q v H')) : WE X e σ H Q := fun pins s I =>
  thn (h pins s I) fun u s' ⟨v, H', I', r, q⟩ => ⟨v, H', I', r, q (Inv.lenOk I')⟩

/-! ### an expression that gives a new list -/
def PostF (M : Mdl) (F : Act) (env : Sl) (σ : St) (H : Hp) (Q : VK) (W : WX) : Out (List D) → Prop
  | .stuck => False
  | .ok ds env' => ∀ p vs H', Rel M.kx (F.add p vs) env' σ H' → Same (F.pub env σ H) ((F.add p vs).pub env' σ H') → F.H0 p = Option.none → ¬ F.Hid env' σ p → H' p = some (.lst vs) → DpAll M.K ((F.add p vs).pub env' σ H') vs ds → Q (.ref p) H'
  | .err C fs env' => ∀ cls dd H', Rel M.kx F env' σ H' → Grow F env σ H env' σ H' → ErrIs M.K M.mg (F.pub env' σ H') H' cls dd C fs → W cls dd σ H'
structure DF (M : Mdl) (c : Cf) (e : Expr) (f : Sl → Out (List D)) : Prop where
  run : ∀ (X : Cx), Good M c X → ∀ (W : WX), Takes X W → ∀ (F : Act) (env : Sl) (σ : St) (H : Hp) (Q : VK),
  Rel M.kx F env σ H → PostF M F env σ H Q W (f env) → WE X e σ H Q
section
variable {M : Mdl} {c : Cf} {pos : Pos} {a b e : Expr} {rest es : List Expr}
theorem de_new {f : Sl → Out (List D)} (h : DF M c e f) : DE M c e (lstE f) := by
  refine ⟨fun X G W tk F env σ H Q R q => ?_⟩
  refine h.run X G W tk F env σ H Q R ?_
  unfold lstE at q
  cases x : f env with
  | stuck => rw [x] at q; exact q
  | err C fs env' => rw [x] at q; exact q
  | ok ds env' =>
    rw [x] at q
    intro p vs H' R' s h0 nh hp pd
    obtain ⟨R2, s2⟩ := R'.drop nh
    exact q _ H' R2 (Same.trans s s2) (.lst (SqL.of (minus_some.mpr ⟨nh, hp⟩)) (DpAll.same s2 pd))
theorem df_lst {fr : Sl → Out (List D)} (h : DA M c es fr) (hz : SzA fr) : DF M c (.List es pos) fr := by
  refine ⟨fun X G W tk F env σ H Q R hw => ?_⟩
  refine WE.of (pe_lst pa_wa) ?_
  refine h.run X G W tk F env σ H _ R ?_
  cases x : fr env with
  | stuck => rw [x] at hw; exact hw
  | err C fs env' => rw [x] at hw; exact hw
  | ok ds env' =>
    rw [x] at hw
    intro vs H1 R1 g1 p1
    have l1 := DpAll.len p1
    refine ⟨by have := hz.run _ _ _ x; omega, fun p hp => ?_⟩
    obtain ⟨R2, s2⟩ := R1.addNew (vs := vs) hp
    exact hw p vs _ R2 (Same.trans g1 s2) (R1.h0none hp) (R1.fresh hp) upd_same (DpAll.same s2 p1)

/-! ### what is walked -/
def WI (X : Cx) (tg iter : Expr) : TI := fun σ H R => ∀ (pins : List (Addr × Obj)) (s : Shared), Inv X pins σ H s →
  wpAny (model X.prog X.w) X.A (eval iter X.env) (fun v s1 => wpAny (model X.prog X.w) X.A (pyIter v) (PIE X pins σ tg R) X.xe s1) X.xe s
theorem pi_wi {X : Cx} {tg iter : Expr} : PI X tg iter (WI X tg iter) := ⟨fun pins s _ _ _ I h => h pins s I⟩
theorem WI.of {X : Cx} {tg iter : Expr} {wi : TI} {σ : St} {H : Hp} {R : It → Hp → Prop} (p : PI X tg iter wi) (h : wi σ H R) : WI X tg iter σ H R := fun pins s I => p.run pins s σ H R I h
def ItOk (K : PySem.W.Frag) (Hm : Hp) (J : It) (items : List D) : Prop := ∀ (H2 : Hp) (Hd : Addr → Prop), Same Hm (minus H2 Hd) → (∀ p, Hd p → H2 p ≠ Option.none) →
  J.stop items.length H2 ∧ ∀ (i : Nat) (d : D), items[i]? = some d → J.go i H2 ∧ ∀ x H3, J.yld i H2 x H3 → Same H2 H3 ∧ Dp K (minus H3 Hd) x d
def PostI (M : Mdl) (F : Act) (env : Sl) (σ : St) (H : Hp) (R : It → Hp → Prop) (W : WX) : Out (List D) → Prop
  | .stuck => False
  | .ok ds env' => ∀ J H', Rel M.kx F env' σ H' → Grow F env σ H env' σ H' → ds.length ≤ sizeLine → ItOk M.K (F.pub env' σ H') J ds → R J H'
  | .err C fs env' => ∀ cls dd H', Rel M.kx F env' σ H' → Grow F env σ H env' σ H' → ErrIs M.K M.mg (F.pub env' σ H') H' cls dd C fs → W cls dd σ H'
structure DI (M : Mdl) (c : Cf) (tg iter : Expr) (f : Sl → Out (List D)) : Prop where
  run : ∀ (X : Cx), Good M c X → ∀ (W : WX), Takes X W → ∀ (F : Act) (env : Sl) (σ : St) (H : Hp) (R : It → Hp → Prop),
  Rel M.kx F env σ H → PostI M F env σ H R W (f env) → WI X tg iter σ H R

/-! ### a comprehension's block -/
def wipeS : List Nat → Sl → Sl
  | [], env => env
  | v :: vs, env => (wipeS vs env).set v .no
def restS (env0 : Sl) : List Nat → Sl → Sl
  | [], env => env
  | v :: vs, env => (restS env0 vs env).set v (env0[v]?.getD .no)
theorem wipeS_len (env : Sl) : ∀ vs : List Nat, (wipeS vs env).length = env.length
  | [] => rfl
  | v :: vs => by simp [wipeS, wipeS_len env vs]
theorem restS_len (e0 env : Sl) : ∀ vs : List Nat, (restS e0 vs env).length = env.length
  | [] => rfl
  | v :: vs => by simp [restS, restS_len e0 env vs]
theorem wipeS_ne {env : Sl} {i : Nat} : ∀ {vs : List Nat}, i ∉ vs → (wipeS vs env)[i]? = env[i]?
  | [], _ => rfl
  | v :: vs, h => by
    simp only [List.mem_cons, not_or] at h
    simp only [wipeS]
    rw [List.getElem?_set_ne (Ne.symm h.1), wipeS_ne h.2]
theorem wipeS_in {env : Sl} {i : Nat} {s : Slot} : ∀ {vs : List Nat}, i ∈ vs → (wipeS vs env)[i]? = some s → s = .no
  | v :: vs, h, e => by
    simp only [wipeS] at e
    by_cases z : v = i
    · subst z
      by_cases hl : v < (wipeS vs env).length
      · rw [List.getElem?_set_self hl] at e
        cases e
        rfl
      · rw [List.getElem?_eq_none (by simpa using hl)] at e
        cases e
    · rw [List.getElem?_set_ne z] at e
      rcases List.mem_cons.mp h with h | h
      · exact absurd h.symm z
      · exact wipeS_in h e
theorem restS_ne {e0 env : Sl} {i : Nat} : ∀ {vs : List Nat}, i ∉ vs → (restS e0 vs env)[i]? = env[i]?
  | [], _ => rfl
  | v :: vs, h => by
    simp only [List.mem_cons, not_or] at h
    simp only [restS]
    rw [List.getElem?_set_ne (Ne.symm h.1), restS_ne h.2]
theorem restS_in {e0 env : Sl} {i : Nat} {s : Slot} : ∀ {vs : List Nat}, i ∈ vs → (restS e0 vs env)[i]? = some s → s = e0[i]?.getD .no
  | v :: vs, h, e => by
    simp only [restS] at e
    by_cases z : v = i
    · subst z
      by_cases hl : v < (restS e0 vs env).length
      · rw [List.getElem?_set_self hl] at e
        cases e
        rfl
      · rw [List.getElem?_eq_none (by simpa using hl)] at e
        cases e
    · rw [List.getElem?_set_ne z] at e
      rcases List.mem_cons.mp h with h | h
      · exact absurd h.symm z
      · exact restS_in h e
theorem wipe_ne {σ : St} {i : Nat} : ∀ {vs : List Nat}, i ∉ vs → (wipe σ vs)[i]? = σ[i]?
  | [], _ => rfl
  | v :: vs, h => by
    simp only [List.mem_cons, not_or] at h
    simp only [wipe]
    rw [List.getElem?_set_ne (Ne.symm h.1), wipe_ne h.2]
theorem wipe_in {σ : St} {i : Nat} : ∀ {vs : List Nat}, i ∈ vs → i < σ.length → (wipe σ vs)[i]? = some Option.none
  | v :: vs, h, hl => by
    simp only [wipe]
    by_cases z : v = i
    · subst z
      rw [List.getElem?_set_self (by rw [wipe_length]; exact hl)]
    · rw [List.getElem?_set_ne z]
      rcases List.mem_cons.mp h with h | h
      · exact absurd h.symm z
      · exact wipe_in h hl
theorem wipe_ext {σ σ' : St} {vs : List Nat} (hl : σ'.length = σ.length) (h : ∀ j, j ∉ vs → σ'[j]? = σ[j]?) : wipe σ' vs = wipe σ vs := by
  apply List.ext_getElem?
  intro j
  by_cases hj : j ∈ vs
  · by_cases hb : j < σ.length
    · rw [wipe_in hj hb, wipe_in hj (by rw [hl]; exact hb)]
    · rw [List.getElem?_eq_none (by rw [wipe_length, hl]; omega), List.getElem?_eq_none (by rw [wipe_length]; omega)]
  · rw [wipe_ne hj, wipe_ne hj, h j hj]
theorem wipe_wipe {σ : St} {vs : List Nat} : wipe (wipe σ vs) vs = wipe σ vs := wipe_ext (wipe_length σ vs) fun j hj => wipe_ne hj

/-- no name of vs holds a list of its own -/
def noMut (env : Sl) (vs : List Nat) : Bool := vs.all fun v => match env[v]? with
  | some s => !s.mut
  | none => true
theorem noMut_at {env : Sl} {vs : List Nat} (h : noMut env vs = true) {v : Nat} (hv : v ∈ vs) {s : Slot} (e : env[v]? = some s) : s.mut = false := by
  have := List.all_eq_true.mp h v hv
  rw [e] at this
  simpa using this
/-- the block's state, from the def's -/
theorem Rel.block {K : Kx} {F : Act} {env : Sl} {σ : St} {H : Hp} {vs : List Nat} (R : Rel K F env σ H) (hm : noMut env vs = true) :
    Rel K F (wipeS vs env) (wipe σ vs) H ∧ (∀ b, F.Hid (wipeS vs env) (wipe σ vs) b ↔ F.Hid env σ b) := by
  have back : ∀ (i : Nat) (s : Slot), (wipeS vs env)[i]? = some s → s ≠ .no → i ∉ vs ∧ env[i]? = some s ∧ (wipe σ vs)[i]? = σ[i]? := fun i s h n => by
    by_cases hi : i ∈ vs
    · exact absurd (wipeS_in hi h) n
    · rw [wipeS_ne hi] at h
      exact ⟨hi, h, wipe_ne hi⟩
  have fwd : ∀ (i : Nat) (s : Slot), env[i]? = some s → s.mut = true → (wipeS vs env)[i]? = some s ∧ (wipe σ vs)[i]? = σ[i]? := fun i s h m => by
    have hi : i ∉ vs := fun z => by
      rw [noMut_at hm z h] at m
      cases m
    exact ⟨by rw [wipeS_ne hi]; exact h, wipe_ne hi⟩
  have nn : ∀ s : Slot, s.mut = true → s ≠ .no := fun s m z => by subst z; cases m
  have hid : ∀ b, F.Hid (wipeS vs env) (wipe σ vs) b ↔ F.Hid env σ b := fun b => by
    constructor
    · rintro (z | z | ⟨i, s, h1, h2, h3⟩)
      · exact .inl z
      · exact .inr (.inl z)
      · obtain ⟨_, k1, k2⟩ := back i s h1 (nn s h2)
        rw [k2] at h3
        exact .inr (.inr ⟨i, s, k1, h2, h3⟩)
    · rintro (z | z | ⟨i, s, h1, h2, h3⟩)
      · exact .inl z
      · exact .inr (.inl z)
      · obtain ⟨k1, k2⟩ := fwd i s h1 h2
        exact .inr (.inr ⟨i, s, k1, h2, by rw [k2]; exact h3⟩)
  have g : Same (F.pub env σ H) (F.pub (wipeS vs env) (wipe σ vs) H) := minus_less fun b z => (hid b).mp z
  refine ⟨⟨by rw [wipeS_len, wipe_length]; exact R.len, fun i s h => ?_, fun i j s t a h1 h2 m1 m2 q1 q2 => ?_, R.frame, R.bg, R.live0, R.live, R.pv, fun i s a h1 m1 q1 => ?_, fun i xs a h1 h2 => ?_, fun i xs h1 => ?_⟩, hid⟩
  · by_cases hn : s = .no
    · subst hn
      have hl : i < (wipe σ vs).length := by
        rw [wipe_length, ← R.len]
        have := (List.getElem?_eq_some_iff.mp h).1
        rw [wipeS_len] at this
        exact this
      exact ⟨_, List.getElem?_eq_getElem hl, trivial⟩
    · obtain ⟨hi, k1, k2⟩ := back i s h hn
      obtain ⟨o, e1, k⟩ := R.slot i s k1
      exact ⟨o, by rw [k2]; exact e1, k.same g (Same.refl _)⟩
  · obtain ⟨_, k1, k2⟩ := back i s h1 (nn s m1)
    obtain ⟨_, k3, k4⟩ := back j t h2 (nn t m2)
    rw [k2] at q1
    rw [k4] at q2
    exact R.inj i j s t a k1 k3 m1 m2 q1 q2
  · obtain ⟨_, k1, k2⟩ := back i s h1 (nn s m1)
    rw [k2] at q1
    exact R.pne i s a k1 m1 q1
  · obtain ⟨_, k1, k2⟩ := back i _ h1 (nn _ rfl)
    rw [k2] at h2
    exact R.own i xs a k1 h2
  · obtain ⟨_, k1, k2⟩ := back i _ h1 (nn _ rfl)
    obtain ⟨a, e1, e2, e3⟩ := R.lent i xs k1
    exact ⟨a, e1, by rw [k2]; exact e2, e3⟩
/-- within a block: back to the block's beginning slots -/
theorem Rel.rewipe {K : Kx} {F : Act} {env : Sl} {σ σ2 : St} {H : Hp} {vs : List Nat} (R : Rel K F env σ2 H) (hw : wipe σ2 vs = wipe σ vs) (hm : noMut env vs = true) :
    Rel K F (wipeS vs env) (wipe σ vs) H ∧ (∀ b, F.Hid (wipeS vs env) (wipe σ vs) b ↔ F.Hid env σ2 b) := by
  rw [← hw]
  exact R.block hm
/-- behind the block -/
theorem Rel.unblock {K : Kx} {F F1 : Act} {env0 env : Sl} {σ : St} {H0 H : Hp} {vs : List Nat} (R0 : Rel K F1 env0 σ H0) (R : Rel K F env (wipe σ vs) H) (hm : noMut env0 vs = true) (hn : ∀ (v : Nat) (s : Slot), v ∈ vs → env[v]? = some s → s = .no)
    (g : Same (F1.pub env0 σ H0) (F.pub env (wipe σ vs) H)) : Rel K F (restS env0 vs env) σ H ∧ (∀ b, F.Hid (restS env0 vs env) σ b ↔ F.Hid env (wipe σ vs) b) := by
  have hl : env.length = σ.length := by rw [R.len, wipe_length]
  have own0 : ∀ (i : Nat) (s : Slot), i ∈ vs → (restS env0 vs env)[i]? = some s → env0[i]? = some s := fun i s hi h => by
    have hlt : i < env0.length := by
      have := (List.getElem?_eq_some_iff.mp h).1
      rw [restS_len, hl, ← R0.len] at this
      exact this
    rw [restS_in hi h, List.getElem?_eq_getElem hlt]
    rfl
  have back : ∀ (i : Nat) (s : Slot), (restS env0 vs env)[i]? = some s → s.mut = true → env[i]? = some s ∧ (wipe σ vs)[i]? = σ[i]? := fun i s h m => by
    by_cases hi : i ∈ vs
    · have := noMut_at hm hi (own0 i s hi h)
      rw [this] at m
      cases m
    · rw [restS_ne hi] at h
      exact ⟨h, wipe_ne hi⟩
  have fwd : ∀ (i : Nat) (s : Slot), env[i]? = some s → s.mut = true → (restS env0 vs env)[i]? = some s ∧ (wipe σ vs)[i]? = σ[i]? := fun i s h m => by
    have hi : i ∉ vs := fun z => by
      rw [hn i s z h] at m
      cases m
    exact ⟨by rw [restS_ne hi]; exact h, wipe_ne hi⟩
  have hid : ∀ b, F.Hid (restS env0 vs env) σ b ↔ F.Hid env (wipe σ vs) b := fun b => by
    constructor
    · rintro (z | z | ⟨i, s, h1, h2, h3⟩)
      · exact .inl z
      · exact .inr (.inl z)
      · obtain ⟨k1, k2⟩ := back i s h1 h2
        exact .inr (.inr ⟨i, s, k1, h2, by rw [k2]; exact h3⟩)
    · rintro (z | z | ⟨i, s, h1, h2, h3⟩)
      · exact .inl z
      · exact .inr (.inl z)
      · obtain ⟨k1, k2⟩ := fwd i s h1 h2
        rw [k2] at h3
        exact .inr (.inr ⟨i, s, k1, h2, h3⟩)
  have g2 : Same (F.pub env (wipe σ vs) H) (F.pub (restS env0 vs env) σ H) := minus_less fun b z => (hid b).mp z
  refine ⟨⟨by rw [restS_len]; exact hl, fun i s h => ?_, fun i j s t a h1 h2 m1 m2 q1 q2 => ?_, R.frame, R.bg, R.live0, R.live, R.pv, fun i s a h1 m1 q1 => ?_, fun i xs a h1 h2 => ?_, fun i xs h1 => ?_⟩, hid⟩
  · by_cases hi : i ∈ vs
    · have h0 := own0 i s hi h
      obtain ⟨o, e1, k⟩ := R0.slot i s h0
      refine ⟨o, e1, ?_⟩
      have nm := noMut_at hm hi h0
      cases s with
      | no => trivial
      | val d => obtain ⟨v, e2, p⟩ := k; exact ⟨v, e2, Dp.same (Same.trans g g2) p⟩
      | er C fs => obtain ⟨a, dd, ws, e2, x, p, q⟩ := k; exact ⟨a, dd, ws, e2, x, g2 _ _ (g _ _ p), FsOk.same (Same.trans g g2) q⟩
      | ml ys => cases nm
      | mb ys => cases nm
    · rw [restS_ne hi] at h
      obtain ⟨o, e1, k⟩ := R.slot i s h
      rw [wipe_ne hi] at e1
      exact ⟨o, e1, k.same g2 (Same.refl _)⟩
  · obtain ⟨k1, k2⟩ := back i s h1 m1
    obtain ⟨k3, k4⟩ := back j t h2 m2
    rw [← k2] at q1
    rw [← k4] at q2
    exact R.inj i j s t a k1 k3 m1 m2 q1 q2
  · obtain ⟨k1, k2⟩ := back i s h1 m1
    rw [← k2] at q1
    exact R.pne i s a k1 m1 q1
  · obtain ⟨k1, k2⟩ := back i _ h1 rfl
    rw [← k2] at h2
    exact R.own i xs a k1 h2
  · obtain ⟨k1, k2⟩ := back i _ h1 rfl
    obtain ⟨a, e1, e2, e3⟩ := R.lent i xs k1
    exact ⟨a, e1, by rw [← k2]; exact e2, e3⟩
end
end DL
end
section
set_option Elab.async false
set_option linter.all false
set_option maxRecDepth 100000
set_option maxHeartbeats 4000000
/-! DL9: targets; list comprehensions. -/
namespace DL
open PySem PySem.Spec PyProof.Rows L2

/-! ### targets -/
def WG (X : Cx) (tg : Expr) : TG := fun v σ H Q => ∀ (pins : List (Addr × Obj)) (s : Shared) (u : Value), Inv X pins σ H s → RelV v u →
  wpAny (model X.prog X.w) X.A (assign tg X.env u) (fun _ s' => ∃ σ' H', Inv X pins σ' H' s' ∧ Q σ' H') X.xe s
def WGs (X : Cx) (ts : List Expr) : TGs := fun vs σ H Q => ∀ (pins : List (Addr × Obj)) (s : Shared) (us : List Value), Inv X pins σ H s → Vals vs us →
  wpAny (model X.prog X.w) X.A (assignInOrder ((assignEach ts X.env).map (·.2)) us) (fun _ s' => ∃ σ' H', Inv X pins σ' H' s' ∧ Q σ' H') X.xe s
theorem pg_wg {X : Cx} {tg : Expr} : PG X tg (WG X tg) := ⟨fun pins s _ _ _ u _ I r h => h pins s u I r⟩
theorem pgs_wgs {X : Cx} {ts : List Expr} : PGs X ts (WGs X ts) := ⟨fun pins s _ _ _ us _ I r h => h pins s us I r⟩
theorem WG.of {X : Cx} {tg : Expr} {g : TG} {v : V} {σ : St} {H : Hp} {Q : St → Hp → Prop} (p : PG X tg g) (h : g v σ H Q) : WG X tg v σ H Q := fun pins s u I r => p.run pins s σ H v u Q I r h
theorem WGs.of {X : Cx} {ts : List Expr} {g : TGs} {vs : List V} {σ : St} {H : Hp} {Q : St → Hp → Prop} (p : PGs X ts g) (h : g vs σ H Q) : WGs X ts vs σ H Q := fun pins s us I r => p.run pins s σ H vs us Q I r h

structure DG (M : Mdl) (c : Cf) (tg : Expr) (ts : List Nat) (g : D → Sl → Option Sl) : Prop where
  run : ∀ (X : Cx), Good M c X → ∀ (F : Act) (env : Sl) (σ : St) (H : Hp) (v : V) (d : D) (env' : Sl) (Q : St → Hp → Prop), Rel M.kx F env σ H → Dp M.K (F.pub env σ H) v d → g d env = some env' →
  (∀ σ' H', Rel M.kx F env' σ' H' → Grow F env σ H env' σ' H' → σ'.length = σ.length → (∀ j, j ∉ ts → σ'[j]? = σ[j]?) → (∀ b, F.Hid env' σ' b → F.Hid env σ b) → Same H H' → Q σ' H') → WG X tg v σ H Q
structure DGs (M : Mdl) (c : Cf) (tgs : List Expr) (ts : List Nat) (g : List D → Sl → Option Sl) : Prop where
  run : ∀ (X : Cx), Good M c X → ∀ (F : Act) (env : Sl) (σ : St) (H : Hp) (vs : List V) (ds : List D) (env' : Sl) (Q : St → Hp → Prop), Rel M.kx F env σ H → DpAll M.K (F.pub env σ H) vs ds → g ds env = some env' →
  (∀ σ' H', Rel M.kx F env' σ' H' → Grow F env σ H env' σ' H' → σ'.length = σ.length → (∀ j, j ∉ ts → σ'[j]? = σ[j]?) → (∀ b, F.Hid env' σ' b → F.Hid env σ b) → Same H H' → Q σ' H') → WGs X tgs vs σ H Q
/-- a name takes data -/
def putS (i : Nat) (d : D) (env : Sl) : Option Sl := match env[i]? with
  | some s => if s.free = true then some (env.set i (.val d)) else none
  | none => none
def tupS (n : Nat) (g : List D → Sl → Option Sl) (d : D) (env : Sl) : Option Sl := match d with
  | .tuple xs => if xs.length = n then g xs env else none
  | _ => none
def nilS (ds : List D) (env : Sl) : Option Sl := match ds with
  | [] => some env
  | _ => none
def consS (g : D → Sl → Option Sl) (gs : List D → Sl → Option Sl) (ds : List D) (env : Sl) : Option Sl := match ds with
  | d :: r => (g d env).bind fun env => gs r env
  | [] => none
section
variable {M : Mdl} {c : Cf} {pos : Pos}
theorem Rel.putV {F : Act} {env env' : Sl} {σ : St} {H : Hp} {i : Nat} {d : D} {v : V} (R : Rel M.kx F env σ H) (p : Dp M.K (F.pub env σ H) v d) (h : putS i d env = some env') :
    Rel M.kx F env' (σ.set i (some v)) H ∧ Grow F env σ H env' (σ.set i (some v)) H ∧ (∀ b, F.Hid env' (σ.set i (some v)) b → F.Hid env σ b) := by
  unfold putS at h
  cases e : env[i]? with
  | none => rw [e] at h; cases h
  | some s =>
    simp only [e] at h
    split at h
    · rename_i hf
      cases h
      obtain ⟨R2, g⟩ := R.put (s' := .val d) (o := some v) e hf rfl fun Hm k => ⟨v, rfl, Dp.same k p⟩
      refine ⟨R2, g, fun b z => ?_⟩
      have hi : i < env.length := (List.getElem?_eq_some_iff.mp e).1
      rcases z with z | z | ⟨j, t, h1, h2, h3⟩
      · exact .inl z
      · exact .inr (.inl z)
      · have ne : i ≠ j := fun q => by
          subst q
          rw [List.getElem?_set_self hi] at h1
          cases h1
          cases h2
        rw [List.getElem?_set_ne ne] at h1 h3
        exact .inr (.inr ⟨j, t, h1, h2, h3⟩)
    · cases h
theorem dg_name {i : Nat} {x : Str} (hN : c.N[i]? = some x) (hx : Loc c.sc x) (hf : c.fn x = true ∨ c.sc.names.lookup x = some .local) : DG M c (.Name x pos) [i] (putS i) := by
  refine ⟨fun X G F env σ H v d env' Q R p e k => ?_⟩
  refine WG.of (pg_name (by rw [G.N]; exact G.nd) (by rw [G.N]; exact hN) (by rw [G.sc]; exact hx) (by rw [G.fn, G.sc]; exact hf)) ?_
  obtain ⟨R2, g, hh⟩ := R.putV p e
  exact k _ H R2 g (by rw [List.length_set]) (fun j hj => List.getElem?_set_ne fun z => hj (by rw [z]; exact List.mem_singleton.mpr rfl)) hh (Same.refl _)
theorem dgs_nil : DGs M c [] [] nilS := by
  refine ⟨fun X G F env σ H vs ds env' Q R p e k => ?_⟩
  refine WGs.of pgs_nil ?_
  cases p with
  | nil =>
    cases e
    exact ⟨rfl, k σ H R Grow.refl rfl (fun _ _ => rfl) (fun _ z => z) (Same.refl _)⟩
  | cons _ _ => cases e
theorem dgs_cons {a : Expr} {es : List Expr} {ts us : List Nat} {g : D → Sl → Option Sl} {gs : List D → Sl → Option Sl} (h1 : DG M c a ts g) (h2 : DGs M c es us gs)
    (hs : ∀ env : PySem.Env, (assignEach (a :: es) env).map (·.2) = assign a env :: (assignEach es env).map (·.2)) : DGs M c (a :: es) (ts ++ us) (consS g gs) := by
  refine ⟨fun X G F env σ H vs ds env' Q R p e k => ?_⟩
  refine WGs.of (pgs_cons pg_wg pgs_wgs (hs _)) ?_
  cases p with
  | nil => cases e
  | cons p pr =>
    obtain ⟨env1, e1, e2⟩ := Option.bind_eq_some_iff.mp (show ((g _ env).bind fun env => gs _ env) = some env' from e)
    refine ⟨_, _, rfl, h1.run X G F env σ H _ _ env1 _ R p e1 fun σ1 H1 R1 g1 l1 k1 hh1 s1 => ?_⟩
    refine h2.run X G F env1 σ1 H1 _ _ env' Q R1 (DpAll.same g1 pr) e2 fun σ2 H2 R2 g2 l2 k2 hh2 s2 => ?_
    refine k σ2 H2 R2 (g1.trans g2) (l2.trans l1) (fun j hj => ?_) (fun b z => hh1 b (hh2 b z)) (Same.trans s1 s2)
    rw [List.mem_append, not_or] at hj
    rw [k2 j hj.2, k1 j hj.1]
theorem dg_tup {es : List Expr} {n k : Nat} {ts : List Nat} {gs : List D → Sl → Option Sl} (hc : c.calm = true) (h : DGs M c es ts gs) (hn : ∀ env : PySem.Env, (assignEach es env).length = n) (hst : ∀ env : PySem.Env, (assignEach es env).findIdx? (·.1) = Option.none) :
    DG M c (.Tuple es k pos) ts (tupS n gs) := by
  refine ⟨fun X G F env σ H v d env' Q R p e kk => ?_⟩
  refine WG.of (pg_tup (G.calm hc) pgs_wgs (hn _) (hst _)) ?_
  cases d <;> first | (cases e; done) | skip
  simp only [tupS] at e
  split at e
  · rename_i hl
    obtain ⟨a, us, rfl, s1, q1⟩ := (DpX.of (H := H) p).tup_inv
    exact ⟨a, us, rfl, by rw [G.K]; exact s1.full, by rw [q1.len]; exact hl, h.run X G F env σ H us _ env' Q R q1 e kk⟩
  · cases e

/-! ### a comprehension's tests -/
def WTs (X : Cx) (ifs : List Expr) : TT := fun σ H Q => ∀ (pins : List (Addr × Obj)) (s : Shared), Inv X pins σ H s →
  wpAny (model X.prog X.w) X.A (forIn ifs true fun c r => if r = true then do let ok ← isTrue c X.env (eval c X.env); pure (ForInStep.yield ok) else pure (ForInStep.yield r)) (TP X pins σ Q) X.xe s
theorem pts_wts {X : Cx} {ifs : List Expr} : PTs X ifs (WTs X ifs) := ⟨fun pins s _ _ _ I h => h pins s I⟩
structure DTs (M : Mdl) (c : Cf) (ifs : List Expr) (f : Sl → Out Bool) : Prop where
  run : ∀ (X : Cx), Good M c X → ∀ (W : WX), Takes X W → ∀ (F : Act) (env : Sl) (σ : St) (H : Hp) (Q : Bool → Hp → Prop),
  Rel M.kx F env σ H → Post M F env σ H rB Q W (f env) → WTs X ifs σ H Q
def yesT : Sl → Out Bool := fun env => .ok true env
theorem dts_nil : DTs M c [] yesT := ⟨fun X G W tk F env σ H Q R h pins s I => pts_nil.run pins s σ H Q I (h true H R Grow.refl rfl)⟩
theorem dts_one {a : Expr} {f : Sl → Out Bool} (h : DT M c a f) : DTs M c [a] f := ⟨fun X G W tk F env σ H Q R q pins s I => (pts_one (pt_wt (X := X) (e := a))).run pins s σ H Q I (h.run X G W tk F env σ H Q R q)⟩

/-! ### the comprehension -/
/-- errors don't leave a comprehension -/
@[reducible] def Out.bindN {α β : Type} (x : Out α) (f : α → Sl → Out β) : Out β := match x with
  | .ok a env => f a env
  | _ => .stuck
theorem Out.bindN_ok {α β : Type} (a : α) (env : Sl) (f : α → Sl → Out β) : (Out.ok a env).bindN f = f a env := rfl
theorem Out.bindN_stuck {α β : Type} (f : α → Sl → Out β) : (Out.stuck : Out α).bindN f = .stuck := rfl
theorem Out.bindN_err {α β : Type} (C : Str) (fs : List (Str × D)) (env : Sl) (f : α → Sl → Out β) : (Out.err C fs env : Out α).bindN f = .stuck := rfl
theorem Out.bindN_inv {α β : Type} {x : Out α} {f : α → Sl → Out β} {b : β} {env : Sl} (h : x.bindN f = .ok b env) : ∃ a env1, x = .ok a env1 ∧ f a env1 = .ok b env := by
  cases x with
  | stuck => cases h
  | err C fs env => cases h
  | ok a env1 => exact ⟨a, env1, rfl, h⟩
def compL (g : D → Sl → Option Sl) (t : Sl → Out Bool) (fe : Sl → Out D) (vs : List Nat) : List D → Sl → Out (List D)
  | [], env => .ok [] env
  | d :: ds, env => match g d env with
    | some env => (t env).bindN fun k env => if noMut env vs = true then (if k = true then (fe env).bindN fun y env => (if noMut env vs = true then (compL g t fe vs ds (wipeS vs env)).bindN fun ys env => .ok (y :: ys) env else .stuck)
      else compL g t fe vs ds (wipeS vs env)) else .stuck
    | none => .stuck
def compE (fi : Sl → Out (List D)) (g : D → Sl → Option Sl) (t : Sl → Out Bool) (fe : Sl → Out D) (vs : List Nat) : Sl → Out (List D) := fun env => (fi env).bind fun items env1 =>
  if noMut env1 vs = true then (compL g t fe vs items (wipeS vs env1)).bindN fun ys env2 => .ok ys (restS env1 vs env2) else .stuck
theorem compL_cons {g : D → Sl → Option Sl} {t : Sl → Out Bool} {fe : Sl → Out D} {vs : List Nat} {d : D} {ds : List D} {env envE : Sl} {ys : List D} (h : compL g t fe vs (d :: ds) env = .ok ys envE) :
    ∃ env1 k env2, g d env = some env1 ∧ t env1 = .ok k env2 ∧ noMut env2 vs = true ∧ ((k = false ∧ compL g t fe vs ds (wipeS vs env2) = .ok ys envE) ∨ (k = true ∧ ∃ y env3 zs, fe env2 = .ok y env3 ∧ noMut env3 vs = true ∧ compL g t fe vs ds (wipeS vs env3) = .ok zs envE ∧ ys = y :: zs)) := by
  simp only [compL] at h
  cases q1 : g d env with
  | none => rw [q1] at h; cases h
  | some env1 =>
    simp only [q1] at h
    obtain ⟨k, env2, q2, h⟩ := Out.bindN_inv h
    by_cases q3 : noMut env2 vs = true
    · rw [if_pos q3] at h
      refine ⟨env1, k, env2, rfl, q2, q3, ?_⟩
      cases k with
      | false => exact .inl ⟨rfl, h⟩
      | true =>
        rw [if_pos rfl] at h
        obtain ⟨y, env3, q4, h⟩ := Out.bindN_inv h
        by_cases q5 : noMut env3 vs = true
        · rw [if_pos q5] at h
          obtain ⟨zs, env4, q6, h⟩ := Out.bindN_inv h
          cases h
          exact .inr ⟨rfl, y, env3, zs, q4, q5, q6, rfl⟩
        · rw [if_neg q5] at h
          cases h
    · rw [if_neg q3] at h
      cases h
theorem compL_no {g : D → Sl → Option Sl} {t : Sl → Out Bool} {fe : Sl → Out D} {vs : List Nat} : ∀ {ds : List D} {env : Sl} {ys : List D} {env' : Sl}, (∀ (v : Nat) (s : Slot), v ∈ vs → env[v]? = some s → s = .no) → compL g t fe vs ds env = .ok ys env' →
    ∀ (v : Nat) (s : Slot), v ∈ vs → env'[v]? = some s → s = .no
  | [], env, ys, env', h0, e => by
    cases e
    exact h0
  | d :: ds, env, ys, env', h0, e => by
    obtain ⟨env1, k, env2, _, _, _, ⟨_, e⟩ | ⟨_, y, env3, zs, _, _, e, _⟩⟩ := compL_cons e
    · exact compL_no (fun v s hv hs => wipeS_in hv hs) e
    · exact compL_no (fun v s hv hs => wipeS_in hv hs) e

/-- the list that is being made is hidden, and no name's -/
theorem Rel.nhid {K : Kx} {F : Act} {env : Sl} {σ : St} {H : Hp} {p : Addr} {vs : List V} (R : Rel K (F.add p vs) env σ H) (h0 : F.H0 p = Option.none) (hp : ¬ F.Pv p) : ¬ F.Hid env σ p := fun z => by
  rcases z with z | z | ⟨i, s, h1, h2, h3⟩
  · exact R.live0 p z h0
  · exact hp z
  · exact R.pne i s p h1 h2 h3 (add_pv.mpr (.inr rfl))

/-- the block's context, as it is written -/
def Cf.blk (c : Cf) (scope : Scope) : Cf := { c with sc := relS scope c.sc, fn := fun x => scope.names.lookup x == some .cell }
theorem Good.blk {X : Cx} (G : Good M c X) (hc : c.calm = true) (s : Shared) (H : Hp) (scope : Scope) (C : Addr) (cl : List (Str × Addr)) (fp : List Addr) : Good M (c.blk scope) (X.blk s H scope (compEnvC scope cl C X.env) fp) :=
  ⟨G.prog, G.w, G.K, G.mg, G.base, G.N, by show relS scope X.env.scope = _; rw [G.sc]; rfl, rfl, G.nd, G.calm, G.room, G.units, G.deep, G.guards, G.cold, fun a C d z => (G.cold hc a C d z).elim⟩
def gU (X : Cx) (scope : Scope) (tg : Expr) : TG := fun v σ H Q => ∀ (s0 : Shared) (H0 : Hp) (C : Addr) (cl : List (Str × Addr)) (fp : List Addr), WG (X.blk s0 H0 scope (compEnvC scope cl C X.env) fp) tg v σ H Q
def tU (X : Cx) (scope : Scope) (ifs : List Expr) : TT := fun σ H Q => ∀ (s0 : Shared) (H0 : Hp) (C : Addr) (cl : List (Str × Addr)) (fp : List Addr), WTs (X.blk s0 H0 scope (compEnvC scope cl C X.env) fp) ifs σ H Q
def eU (X : Cx) (scope : Scope) (e : Expr) : TE := fun σ H Q => ∀ (s0 : Shared) (H0 : Hp) (C : Addr) (cl : List (Str × Addr)) (fp : List Addr), WE (X.blk s0 H0 scope (compEnvC scope cl C X.env) fp) e σ H Q

/-- the loop -/
theorem comp_loop {X : Cx} {scope : Scope} {tg elt : Expr} {ifs : List Expr} {ts vs : List Nat} {g : D → Sl → Option Sl} {t : Sl → Out Bool} {fe : Sl → Out D} {F : Act} {env1 envE : Sl} {σ : St} {H1 : Hp} {Q : VK} {items ys : List D} {J : It} {Dn : Addr} (hc : c.calm = true) (G : Good M c X)
    (hg : DG M (c.blk scope) tg ts g) (ht : DTs M (c.blk scope) ifs t) (he : DE M (c.blk scope) elt fe) (hts : ∀ j, j ∈ ts → j ∈ vs) (R : Rel M.kx F env1 σ H1) (hm : noMut env1 vs = true) (hD : H1 Dn = Option.none) (hl : items.length ≤ sizeLine) (ok : ItOk M.K (F.pub env1 σ H1) J items)
    (run : compL g t fe vs items (wipeS vs env1) = .ok ys envE)
    (fin : ∀ us H2, Rel M.kx (F.add Dn us) envE (wipe σ vs) H2 → Same (F.pub env1 σ H1) ((F.add Dn us).pub envE (wipe σ vs) H2) → H2 Dn = some (.lst us) → DpAll M.K ((F.add Dn us).pub envE (wipe σ vs) H2) us ys → Q (.ref Dn) H2) :
    ∃ W : Nat → Nat → Hp → Prop, (∃ m, W 0 m (upd H1 Dn (.lst []))) ∧ ∀ i m H, W i m H → (J.stop i H ∧ Q (.ref Dn) H) ∨ (J.go i H ∧ ∃ Nx : Hp → Prop, (∀ H', Nx H' → ∃ m', m' < m ∧ W (i + 1) m' H') ∧
      ∀ x H', J.yld i H x H' → gU X scope tg x (wipe σ vs) H' fun σ2 H2 => wipe σ2 vs = wipe σ vs ∧ tU X scope ifs σ2 H2 fun b H3 =>
        if b = true then eU X scope elt σ2 H3 fun y H4 => ∃ acc, H4 Dn = some (.lst acc) ∧ acc.length < sizeLine ∧ Nx (upd H4 Dn (.lst (acc ++ [y]))) else Nx H3) := by
  have h0 : F.H0 Dn = Option.none := R.h0none hD
  have hpv : ¬ F.Pv Dn := fun ⟨o, z⟩ => by
    have := R.pv Dn o z
    rw [hD] at this
    cases this
  -- what holds ahead of turn i
  let P : Nat → Hp → Prop := fun i H => ∃ (env : Sl) (acc : List V) (as zs : List D), Rel M.kx (F.add Dn acc) env (wipe σ vs) H ∧ Same (F.pub env1 σ H1) ((F.add Dn acc).pub env (wipe σ vs) H) ∧ DpAll M.K ((F.add Dn acc).pub env (wipe σ vs) H) acc as ∧
    acc.length ≤ i ∧ compL g t fe vs (items.drop i) env = .ok zs envE ∧ ys = as ++ zs
  refine ⟨fun i m H => m = items.length - i ∧ i ≤ items.length ∧ P i H, ⟨items.length, by simp, Nat.zero_le _, ?_⟩, ?_⟩
  · obtain ⟨R2, hid⟩ := R.block hm
    obtain ⟨R3, s3⟩ := R2.addNew (vs := []) hD
    exact ⟨_, [], [], ys, R3, Same.trans (minus_less fun b z => (hid b).mp z) s3, .nil, Nat.zero_le _, run, rfl⟩
  · rintro i m H ⟨rfl, hi, env, acc, as, zs, Re, sm, pa, hacc, hrun, hys⟩
    obtain ⟨stp, trn⟩ := ok H ((F.add Dn acc).Hid env (wipe σ vs)) sm (fun _ => Re.hid_live)
    by_cases hlt : i < items.length
    · right
      have hd : items[i]? = some items[i] := List.getElem?_eq_getElem hlt
      obtain ⟨hgo, hy⟩ := trn i _ hd
      refine ⟨hgo, P (i + 1), fun H' p => ⟨items.length - (i + 1), by omega, rfl, hlt, p⟩, fun x H' hyl s0 H0 C cl fp => ?_⟩
      obtain ⟨sx, px⟩ := hy x H' hyl
      have Rx := Re.grow sx
      rw [List.drop_eq_getElem_cons hlt] at hrun
      obtain ⟨env2, k, env3, q1, q2, q3, hrun2⟩ := compL_cons hrun
      refine hg.run _ (G.blk hc s0 H0 scope C cl fp) (F.add Dn acc) env (wipe σ vs) H' x _ env2 _ Rx px q1 fun σ2 H2 R2 g2 l2 k2 hh2 s2 => ?_
      have hw : wipe σ2 vs = wipe σ vs := by
        rw [← wipe_wipe (σ := σ) (vs := vs)]
        exact wipe_ext l2 fun j hj => k2 j fun z => hj (hts j z)
      refine ⟨hw, fun s1 H1' C1 cl1 fp1 => ?_⟩
      refine ht.run _ (G.blk hc s1 H1' scope C1 cl1 fp1) _ takes_none5 (F.add Dn acc) env2 σ2 H2 _ R2 ?_
      rw [q2]
      intro b H3 R3 g3 eb
      cases (show b = k from eb)
      have sm3 : Same ((F.add Dn acc).pub env (wipe σ vs) H) ((F.add Dn acc).pub env3 σ2 H3) := Same.trans (Grow.of sx) (Same.trans g2 g3)
      clear hrun
      rcases hrun2 with ⟨rfl, hrun⟩ | ⟨rfl, y, env4, ws, q4, q5, hrun, rfl⟩
      · rw [if_neg Bool.false_ne_true]
        obtain ⟨R5, hid5⟩ := R3.rewipe hw q3
        have s5 : Same ((F.add Dn acc).pub env3 σ2 H3) ((F.add Dn acc).pub (wipeS vs env3) (wipe σ vs) H3) := minus_less fun b z => (hid5 b).mp z
        exact ⟨_, acc, as, zs, R5, Same.trans sm (Same.trans sm3 s5), DpAll.same (Same.trans sm3 s5) pa, by omega, hrun, hys⟩
      · rw [if_pos rfl]
        intro s3 H3' C3 cl3 fp3
        refine he.run _ (G.blk hc s3 H3' scope C3 cl3 fp3) _ takes_none5 (F.add Dn acc) env3 σ2 H3 _ R3 ?_
        rw [q4]
        intro yv H4 R4 g4 py
        obtain ⟨R5, hid5⟩ := R4.rewipe hw q5
        have s5 : Same ((F.add Dn acc).pub env4 σ2 H4) ((F.add Dn acc).pub (wipeS vs env4) (wipe σ vs) H4) := minus_less fun b z => (hid5 b).mp z
        obtain ⟨R6, s6⟩ := R5.step (us := acc ++ [yv]) (R5.nhid h0 hpv) h0
        have s56 := Same.trans s5 s6
        have s46 := Same.trans sm3 (Same.trans g4 s56)
        refine ⟨acc, R4.pv Dn _ upd_same, by omega, _, acc ++ [yv], as ++ [y], ws, R6, Same.trans sm s46, DpAll.app (DpAll.same s46 pa) (.cons (Dp.same s56 py) .nil), by simp; omega, hrun, by rw [hys, List.append_assoc]; rfl⟩
    · left
      have e : i = items.length := by omega
      subst e
      rw [List.drop_length] at hrun
      cases hrun
      rw [List.append_nil] at hys
      subst hys
      exact ⟨stp, fin acc H Re sm (Re.pv Dn _ upd_same) pa⟩
end
end DL
end
section
set_option Elab.async false
set_option linter.all false
set_option maxRecDepth 100000
set_option maxHeartbeats 4000000
/-! DL10: the comprehension's rule; what is walked. -/
namespace DL
open PySem PySem.Spec PyProof.Rows L2

section
variable {M : Mdl} {c : Cf} {pos : Pos} {tg iter elt : Expr} {ifs : List Expr} {scope : Scope}
theorem lc_ok {own : List (Str × Nat)} {ts : List Nat} {fi : Sl → Out (List D)} {g : D → Sl → Option Sl} {t : Sl → Out Bool} {fe : Sl → Out D} {X : Cx} {W : WX} {F : Act} {env : Sl} {σ : St} {H : Hp} {Q : VK} (hc : c.calm = true) (hi : DI M c tg iter fi) (hg : DG M (c.blk scope) tg ts g) (ht : DTs M (c.blk scope) ifs t)
    (he : DE M (c.blk scope) elt fe) (hts : ∀ j, j ∈ ts → j ∈ own.map (·.2)) (G : Good M c X) (tk : Takes X W) (R : Rel M.kx F env σ H) (h : PostF M F env σ H Q W (compE fi g t fe (own.map (·.2)) env)) :
    tLc (WI X tg iter) (gU X scope tg) (tU X scope ifs) (eU X scope elt) (own.map (·.2)) σ H Q := by
  refine hi.run X G W tk F env σ H _ R ?_
  unfold compE at h
  cases q : fi env with
  | stuck => rw [q] at h; exact h
  | err C fs env1 => rw [q] at h; exact h
  | ok items env1 =>
    rw [q] at h
    have h : PostF M F env σ H Q W (if noMut env1 (own.map (·.2)) = true then (compL g t fe (own.map (·.2)) items (wipeS (own.map (·.2)) env1)).bindN fun ys env2 => .ok ys (restS env1 (own.map (·.2)) env2) else .stuck) := h
    intro J H1 R1 g1 hl iok Dn hD
    by_cases hm : noMut env1 (own.map (·.2)) = true
    · rw [if_pos hm] at h
      cases q2 : compL g t fe (own.map (·.2)) items (wipeS (own.map (·.2)) env1) with
      | stuck => rw [q2] at h; exact h.elim
      | err C fs env2 => rw [q2] at h; exact h.elim
      | ok ys env2 =>
        rw [q2] at h
        have h0 := R1.h0none hD
        have hpv : ¬ F.Pv Dn := fun ⟨o, z⟩ => by
          have := R1.pv Dn o z
          rw [hD] at this
          cases this
        refine comp_loop hc G hg ht he hts R1 hm hD hl iok q2 fun us H2 R2 s2 hp pd => ?_
        obtain ⟨R3, hid⟩ := Rel.unblock R1 R2 hm (compL_no (fun v s hv hs => wipeS_in hv hs) q2) s2
        have s3 : Same ((F.add Dn us).pub env2 (wipe σ (own.map (·.2))) H2) ((F.add Dn us).pub (restS env1 (own.map (·.2)) env2) σ H2) := minus_less fun b z => (hid b).mp z
        exact h Dn us H2 R3 (Same.trans g1 (Same.trans s2 s3)) h0 (R3.nhid h0 hpv) hp (DpAll.same s3 pd)
    · rw [if_neg hm] at h
      exact h.elim
theorem df_lc {own : List (Str × Nat)} {ts : List Nat} {fi : Sl → Out (List D)} {g : D → Sl → Option Sl} {t : Sl → Out Bool} {fe : Sl → Out D} (hc : c.calm = true) (hi : DI M c tg iter fi) (ok : BlkOk c.N c.sc scope own) (hg : DG M (c.blk scope) tg ts g) (ht : DTs M (c.blk scope) ifs t)
    (he : DE M (c.blk scope) elt fe) (hts : ∀ j, j ∈ ts → j ∈ own.map (·.2)) (hs : ∀ (env : PySem.Env) x, foldedSetIterable iter env x = pure x) : DF M c (.ListComp elt [⟨tg, iter, ifs, 0⟩] scope pos) (compE fi g t fe (own.map (·.2))) := by
  refine ⟨fun X G W tk F env σ H Q R h => ?_⟩
  exact WE.of (pe_lc (wi := WI X tg iter) (g := gU X scope tg) (tt := tU X scope ifs) (te := eU X scope elt) (G.calm hc) (by rw [G.N]; exact G.nd) pi_wi (by rw [G.N, G.sc]; exact ok) (fun s0 H0 C cl fp => ⟨fun pins s _ _ _ u _ I r h => h s0 H0 C cl fp pins s u I r⟩)
    (fun s0 H0 C cl fp => ⟨fun pins s _ _ _ I h => h s0 H0 C cl fp pins s I⟩) (fun s0 H0 C cl fp => ⟨fun pins s _ _ _ I h => h s0 H0 C cl fp pins s I⟩) (hs X.env)) (lc_ok hc hi hg ht he hts G tk R h)

/-! ### what is walked -/
def seqI (fe : Sl → Out D) : Sl → Out (List D) := fun env => (fe env).bind fun d env => match d with
  | .list xs => .ok xs env
  | .tuple xs => .ok xs env
  | _ => .stuck
theorem it_list {K : PySem.W.Frag} {Hm : Hp} {a : Addr} {xs : List V} {ds : List D} (h : SqL K Hm a xs) (p : DpAll K Hm xs ds) : ItOk K Hm (Itl K a) ds := by
  intro H2 Hd s hd
  have h2 : SqL K H2 a xs := (SqL.same s h).full
  have l := p.len
  refine ⟨⟨xs, h2, by omega⟩, fun i d e => ?_⟩
  obtain ⟨v, hv, pv⟩ := p.get e
  refine ⟨⟨xs, v, h2, hv⟩, fun x H3 ⟨e3, hx⟩ => ?_⟩
  subst e3
  have := hx xs h2
  rw [hv] at this
  cases this
  exact ⟨Same.refl _, Dp.same s pv⟩
theorem it_tup {K : PySem.W.Frag} {Hm : Hp} {a : Addr} {xs : List V} {ds : List D} (h : SqT K Hm a xs) (p : DpAll K Hm xs ds) : ItOk K Hm (Itt K a) ds := by
  intro H2 Hd s hd
  have h2 : SqT K H2 a xs := (SqT.same s h).full
  have l := p.len
  refine ⟨⟨xs, h2, by omega⟩, fun i d e => ?_⟩
  obtain ⟨v, hv, pv⟩ := p.get e
  refine ⟨⟨xs, v, h2, hv⟩, fun x H3 ⟨e3, hx⟩ => ?_⟩
  subst e3
  have := hx xs h2
  rw [hv] at this
  cases this
  exact ⟨Same.refl _, Dp.same s pv⟩
theorem di_seq {e : Expr} {fe : Sl → Out D} (he : DE M c e fe) : DI M c tg e (seqI fe) := by
  refine ⟨fun X G W tk F env σ H Rr R h => ?_⟩
  unfold seqI at h
  cases q : fe env with
  | stuck => rw [q] at h; exact h.elim
  | err C fs env1 =>
    refine WI.of (pi_list (tg := tg) (pe_we (X := X) (e := e))) (he.run X G W tk F env σ H _ R ?_)
    rw [q] at h ⊢
    exact h
  | ok d env1 =>
    rw [q] at h
    cases d <;> first | exact h.elim | skip
    · rename_i xs
      refine WI.of (pi_list (tg := tg) (pe_we (X := X) (e := e))) (WE.len (he.run X G W tk F env σ H _ R ?_))
      rw [q]
      intro v H1 R1 g1 p1 lk
      obtain ⟨a, vs, rfl, s1, q1⟩ := (DpX.of (H := H1) p1).lst_inv pub_sub
      have p1' := p1
      cases p1 with
      | lst s2 q2 =>
      have l := lk a _ (.inl (by rw [G.K]; exact s2.full))
      rw [q2.len] at l
      exact ⟨_, rfl, ⟨_, by rw [G.K]; exact s2.full⟩, h _ H1 R1 g1 l (by rw [G.K]; exact it_list s2 q2)⟩
    · rename_i xs
      refine WI.of (pi_tup (tg := tg) (pe_we (X := X) (e := e))) (WE.len (he.run X G W tk F env σ H _ R ?_))
      rw [q]
      intro v H1 R1 g1 p1 lk
      cases p1 with
      | tup s2 q2 =>
      have l := lk _ _ (.inr (by rw [G.K]; exact s2.full))
      rw [q2.len] at l
      exact ⟨_, rfl, ⟨_, by rw [G.K]; exact s2.full⟩, h _ H1 R1 g1 l (by rw [G.K]; exact it_tup s2 q2)⟩

/-- lo, lo + 1, .. -/
def upTo (lo : Int) (n : Nat) : List D := (List.range n).map fun (i : Nat) => PyData.int (lo + i)
theorem upTo_len (lo : Int) (n : Nat) : (upTo lo n).length = n := by simp [upTo]
theorem it_rng {K : PySem.W.Frag} {Hm : Hp} {lo : Int} {n : Nat} : ItOk K Hm (Itr lo n) (upTo lo n) := by
  intro H2 Hd s hd
  rw [upTo_len]
  refine ⟨Nat.le_refl n, fun i d e => ?_⟩
  have hi : i < n := by
    have := (List.getElem?_eq_some_iff.mp e).1
    rwa [upTo_len] at this
  refine ⟨hi, fun x H3 ⟨e3, hx⟩ => ?_⟩
  subst e3 hx
  simp only [upTo, List.getElem?_map, List.getElem?_range hi, Option.map_some, Option.some.injEq] at e
  subst e
  exact ⟨Same.refl _, .int _⟩
/-- lo, lo - 1, .. -/
def stepTo (lo c : Int) (n : Nat) : List D := (List.range n).map fun (i : Nat) => PyData.int (lo + i * c)
theorem stepTo_len (lo c : Int) (n : Nat) : (stepTo lo c n).length = n := by simp [stepTo]
theorem it_rngC {K : PySem.W.Frag} {Hm : Hp} {lo c : Int} {n : Nat} : ItOk K Hm (Itc lo c n) (stepTo lo c n) := by
  intro H2 Hd s hd
  rw [stepTo_len]
  refine ⟨Nat.le_refl n, fun i d e => ?_⟩
  have hi : i < n := by
    have := (List.getElem?_eq_some_iff.mp e).1
    rwa [stepTo_len] at this
  refine ⟨hi, fun x H3 ⟨e3, hx⟩ => ?_⟩
  subst e3 hx
  simp only [stepTo, List.getElem?_map, List.getElem?_range hi, Option.map_some, Option.some.injEq] at e
  subst e
  exact ⟨Same.refl _, .int _⟩
def rng1 (fa : Sl → Out (List D)) : Sl → Out (List D) := fun env => (fa env).bind fun ds env => match ds with
  | [.int j] => if j ≤ 16777216 ∧ -16777216 ≤ j then .ok (upTo 0 j.toNat) env else .stuck
  | _ => .stuck
def rng2 (fa : Sl → Out (List D)) : Sl → Out (List D) := fun env => (fa env).bind fun ds env => match ds with
  | [.int i, .int j] => if (-4611686018427387904 ≤ i ∧ i < 4611686018427387904 ∧ -4611686018427387904 ≤ j ∧ j < 4611686018427387904) ∧ j - i ≤ 16777216 then .ok (upTo i (j - i).toNat) env else .stuck
  | _ => .stuck
def rng3 (fa : Sl → Out (List D)) : Sl → Out (List D) := fun env => (fa env).bind fun ds env => match ds with
  | [.int i, .int j, .int c] => if (-4611686018427387904 ≤ i ∧ i < 4611686018427387904 ∧ -4611686018427387904 ≤ j ∧ j < 4611686018427387904) ∧ i - j ≤ 16777216 ∧ c = -1 then .ok (stepTo i (-1) (i - j).toNat) env else .stuck
  | _ => .stuck
theorem szl : sizeLine = 16777216 := by decide
theorem dpa1 {K : PySem.W.Frag} {Hm : Hp} {vs : List V} {i : Int} (h : DpAll K Hm vs [.int i]) : vs = [.int i] := by
  cases h with
  | cons a t =>
    cases t
    cases a
    rfl
theorem dpa2 {K : PySem.W.Frag} {Hm : Hp} {vs : List V} {i j : Int} (h : DpAll K Hm vs [.int i, .int j]) : vs = [.int i, .int j] := by
  cases h with
  | cons a t =>
    cases a
    rw [dpa1 t]
theorem dpa3 {K : PySem.W.Frag} {Hm : Hp} {vs : List V} {i j k : Int} (h : DpAll K Hm vs [.int i, .int j, .int k]) : vs = [.int i, .int j, .int k] := by
  cases h with
  | cons a t =>
    cases a
    rw [dpa2 t]
variable {a b d : Expr} {p : Pos}
theorem Good.gl {X : Cx} (G : Good M c X) {x : Str} (h : c.sc.names.lookup x = some .globalImplicit) : Gl X x := by
  unfold Gl PySem.Env.kindOf
  rw [G.sc]
  exact h
theorem di_range1 {fa : Sl → Out (List D)} (ha : DA M c [a] fa) (hg : c.sc.names.lookup ("range" : Str) = some .globalImplicit) (hm : M.mg "range" = Option.none) (hs : ∀ env : PySem.Env, starEach [a] env = [(false, eval a env)]) :
    DI M c tg (.Call (.Name "range" p) [a] [] pos) (rng1 fa) := by
  refine ⟨fun X G W tk F env σ H Rr R h => ?_⟩
  refine WI.of (pi_range1 (G.gl hg) (by rw [G.mg]; exact hm) pa_wa (hs X.env)) (ha.run X G W tk F env σ H _ R ?_)
  unfold rng1 at h
  cases q : fa env with
  | stuck => rw [q] at h; exact h.elim
  | err C fs env1 => rw [q] at h; exact h
  | ok ds env1 =>
    rw [q] at h
    intro vs H1 R1 g1 p1
    dsimp only [Out.bind] at h
    split at h
    · rename_i j
      split at h
      · rename_i hj
        rw [dpa1 p1]
        exact ⟨j, rfl, by omega, by omega, h _ H1 R1 g1 (by rw [upTo_len, szl]; omega) it_rng⟩
      · exact h.elim
    · exact h.elim
theorem di_range2 {fa : Sl → Out (List D)} (ha : DA M c [a, b] fa) (hg : c.sc.names.lookup ("range" : Str) = some .globalImplicit) (hm : M.mg "range" = Option.none) (hs : ∀ env : PySem.Env, starEach [a, b] env = [(false, eval a env), (false, eval b env)]) (hs2 : ∀ env : PySem.Env, starEach [b] env = [(false, eval b env)]) :
    DI M c tg (.Call (.Name "range" p) [a, b] [] pos) (rng2 fa) := by
  refine ⟨fun X G W tk F env σ H Rr R h => ?_⟩
  refine WI.of (pi_range2 (G.gl hg) (by rw [G.mg]; exact hm) pa_wa (hs X.env) (hs2 X.env)) (ha.run X G W tk F env σ H _ R ?_)
  unfold rng2 at h
  cases q : fa env with
  | stuck => rw [q] at h; exact h.elim
  | err C fs env1 => rw [q] at h; exact h
  | ok ds env1 =>
    rw [q] at h
    intro vs H1 R1 g1 p1
    dsimp only [Out.bind] at h
    split at h
    · rename_i i j
      split at h
      · rename_i hj
        rw [dpa2 p1]
        exact ⟨i, j, rfl, by omega, h _ H1 R1 g1 (by rw [upTo_len, szl]; omega) it_rng⟩
      · exact h.elim
    · exact h.elim
theorem di_range3 {fa : Sl → Out (List D)} (ha : DA M c [a, b, d] fa) (hg : c.sc.names.lookup ("range" : Str) = some .globalImplicit) (hm : M.mg "range" = Option.none) (hs : ∀ env : PySem.Env, starEach [a, b, d] env = (false, eval a env) :: starEach [b, d] env)
    (hpl : ∀ (pos : Pos) (env : PySem.Env), (backTo pos (starEach [b, d] env)).any (·.1) = false) :
    DI M c tg (.Call (.Name "range" p) [a, b, d] [] pos) (rng3 fa) := by
  refine ⟨fun X G W tk F env σ H Rr R h => ?_⟩
  refine WI.of (pi_range3 (G.gl hg) (by rw [G.mg]; exact hm) pa_wa (hs X.env) (hpl _ X.env)) (ha.run X G W tk F env σ H _ R ?_)
  unfold rng3 at h
  cases q : fa env with
  | stuck => rw [q] at h; exact h.elim
  | err C fs env1 => rw [q] at h; exact h
  | ok ds env1 =>
    rw [q] at h
    intro vs H1 R1 g1 p1
    dsimp only [Out.bind] at h
    split at h
    · rename_i i j k
      split at h
      · rename_i hj
        rw [dpa3 p1]
        obtain ⟨hj, hj2, rfl⟩ := hj
        exact ⟨i, j, -1, _, rfl, RgC.neg (by omega) (by omega) (by omega) (by omega), h _ H1 R1 g1 (by rw [stepTo_len, szl]; omega) it_rngC⟩
      · exact h.elim
    · exact h.elim

/-! ### pairs -/
def enumD (xs : List D) : List D := xs.mapIdx fun i x => PyData.tuple [.int (i : Nat), x]
def enumI (fa : Sl → Out (List D)) : Sl → Out (List D) := fun env => (fa env).bind fun ds env => match ds with
  | [.list xs] => .ok (enumD xs) env
  | _ => .stuck
def zipD (xs ys : List D) : List D := List.zipWith (fun x y => PyData.tuple [x, y]) xs ys
def zipI (fa : Sl → Out (List D)) : Sl → Out (List D) := fun env => (fa env).bind fun ds env => match ds with
  | [.list xs, .list ys] => .ok (zipD xs ys) env
  | [.tuple xs, .tuple ys] => .ok (zipD xs ys) env
  | _ => .stuck
theorem newPair {K : PySem.W.Frag} {H2 H3 : Hp} {Hd : Addr → Prop} {T : Addr} {x y : V} {d1 d2 : D} (hT : H2 T = Option.none) (hd : ∀ p, Hd p → H2 p ≠ Option.none) (e3 : H3 = upd H2 T (.tup [x, y])) (p1 : Dp K (minus H2 Hd) x d1) (p2 : Dp K (minus H2 Hd) y d2) :
    Same H2 H3 ∧ Dp K (minus H3 Hd) (.ref T) (.tuple [d1, d2]) := by
  subst e3
  have s : Same H2 (upd H2 T (.tup [x, y])) := fun b o z => by
    have nb : b ≠ T := fun q => by rw [q, hT] at z; cases z
    rw [upd_ne nb]
    exact z
  have s2 := minus_same (M := Hd) s
  have nh : ¬ Hd T := fun z => hd T z hT
  exact ⟨s, .tup (SqT.of (minus_some.mpr ⟨nh, upd_same⟩)) (.cons (Dp.same s2 p1) (.cons (Dp.same s2 p2) .nil))⟩
theorem it_enum {K : PySem.W.Frag} {Hm : Hp} {a : Addr} {xs : List V} {ds : List D} (h : SqL K Hm a xs) (p : DpAll K Hm xs ds) : ItOk K Hm (Ite K a) (enumD ds) := by
  intro H2 Hd s hd
  have h2 : SqL K H2 a xs := (SqL.same s h).full
  have l := p.len
  refine ⟨⟨xs, h2, by simp [enumD]; omega⟩, fun i d e => ?_⟩
  simp only [enumD, List.getElem?_mapIdx] at e
  obtain ⟨d0, e0, rfl⟩ := Option.map_eq_some_iff.mp e
  obtain ⟨v, hv, pv⟩ := p.get e0
  refine ⟨⟨xs, v, h2, hv⟩, fun x H3 ⟨T, x0, e1, hT, e3, hx⟩ => ?_⟩
  subst e1
  have := hx xs h2
  rw [hv] at this
  cases this
  exact newPair hT hd e3 (.int _) (Dp.same s pv)
theorem it_zip {K : PySem.W.Frag} {Hm : Hp} {a b : Addr} {xs ys : List V} {ds es : List D} (h : SqL K Hm a xs) (p : DpAll K Hm xs ds) (h' : SqL K Hm b ys) (p' : DpAll K Hm ys es) : ItOk K Hm (Itz K a b) (zipD ds es) := by
  intro H2 Hd s hd
  have h2 : SqL K H2 a xs := (SqL.same s h).full
  have h3 : SqL K H2 b ys := (SqL.same s h').full
  have l := p.len
  have l' := p'.len
  refine ⟨⟨xs, ys, h2, h3, by simp [zipD]; omega⟩, fun i d e => ?_⟩
  simp only [zipD, List.getElem?_zipWith] at e
  split at e
  · rename_i d1 d2 e1 e2
    cases e
    obtain ⟨v, hv, pv⟩ := p.get e1
    obtain ⟨u, hu, pu⟩ := p'.get e2
    refine ⟨⟨xs, ys, v, u, h2, h3, hv, hu⟩, fun x H3 ⟨T, x0, y0, e4, hT, e3, hx, hy⟩ => ?_⟩
    subst e4
    have k1 := hx xs h2
    have k2 := hy ys h3
    rw [hv] at k1
    rw [hu] at k2
    cases k1
    cases k2
    exact newPair hT hd e3 (Dp.same s pv) (Dp.same s pu)
  · cases e
theorem it_zipT {K : PySem.W.Frag} {Hm : Hp} {a b : Addr} {xs ys : List V} {ds es : List D} (h : SqT K Hm a xs) (p : DpAll K Hm xs ds) (h' : SqT K Hm b ys) (p' : DpAll K Hm ys es) : ItOk K Hm (RZ.ItzT K a b) (zipD ds es) := by
  intro H2 Hd s hd
  have h2 : SqT K H2 a xs := (SqT.same s h).full
  have h3 : SqT K H2 b ys := (SqT.same s h').full
  have l := p.len
  have l' := p'.len
  refine ⟨⟨xs, ys, h2, h3, by simp [zipD]; omega⟩, fun i d e => ?_⟩
  simp only [zipD, List.getElem?_zipWith] at e
  split at e
  · rename_i d1 d2 e1 e2
    cases e
    obtain ⟨v, hv, pv⟩ := p.get e1
    obtain ⟨u, hu, pu⟩ := p'.get e2
    refine ⟨⟨xs, ys, v, u, h2, h3, hv, hu⟩, fun x H3 ⟨T, x0, y0, e4, hT, e3, hx, hy⟩ => ?_⟩
    subst e4
    have k1 := hx xs h2
    have k2 := hy ys h3
    rw [hv] at k1
    rw [hu] at k2
    cases k1
    cases k2
    exact newPair hT hd e3 (Dp.same s pv) (Dp.same s pu)
  · cases e
variable {elts : List Expr} {kk : Nat} {tpos : Pos}
theorem WA.len {X : Cx} {es : List Expr} {σ : St} {H : Hp} {Q : List V → Hp → Prop} (h : WA X es σ H (fun v H' => LenOk X.K H' → Q v H')) : WA X es σ H Q := fun pos pins s I =>
  thn (h pos pins s I) fun u s' ⟨v, H', I', r, q⟩ => ⟨v, H', I', r, q (Inv.lenOk I')⟩
theorem di_enum {fa : Sl → Out (List D)} (ha : DA M c [a] fa) (hg : c.sc.names.lookup ("enumerate" : Str) = some .globalImplicit) (hm : M.mg "enumerate" = Option.none) (hs : ∀ env : PySem.Env, starEach [a] env = [(false, eval a env)]) :
    DI M c (.Tuple elts kk tpos) (.Call (.Name "enumerate" p) [a] [] pos) (enumI fa) := by
  refine ⟨fun X G W tk F env σ H Rr R h => ?_⟩
  refine WI.of (pi_enum (G.gl hg) (by rw [G.mg]; exact hm) pa_wa (hs X.env)) (WA.len (ha.run X G W tk F env σ H _ R ?_))
  unfold enumI at h
  cases q : fa env with
  | stuck => rw [q] at h; exact h.elim
  | err C fs env1 => rw [q] at h; exact h
  | ok ds env1 =>
    rw [q] at h
    intro vs H1 R1 g1 p1 lk
    dsimp only [Out.bind] at h
    split at h
    · cases p1 with
      | cons p1 pt =>
        cases pt
        cases p1 with
        | lst s1 q1 =>
          have l := lk _ _ (.inl (by rw [G.K]; exact s1.full))
          rw [q1.len] at l
          exact ⟨_, _, rfl, by rw [G.K]; exact s1.full, h _ H1 R1 g1 (by simp [enumD]; exact l) (by rw [G.K]; exact it_enum s1 q1)⟩
    · exact h.elim
theorem zipD_len (xs ys : List D) : (zipD xs ys).length ≤ xs.length := by simp [zipD]; omega
theorem di_zip {fa : Sl → Out (List D)} (ha : DA M c [a, b] fa) (hg : c.sc.names.lookup ("zip" : Str) = some .globalImplicit) (hm : M.mg "zip" = Option.none) (hs : ∀ env : PySem.Env, starEach [a, b] env = (false, eval a env) :: starEach [b] env)
    (hpl : ∀ (pos : Pos) (env : PySem.Env), (backTo pos (starEach [b] env)).any (·.1) = false) : DI M c (.Tuple elts kk tpos) (.Call (.Name "zip" p) [a, b] [] pos) (zipI fa) := by
  refine ⟨fun X G W tk F env σ H Rr R h => ?_⟩
  refine WI.of (RZ.pi_zipA (G.gl hg) (by rw [G.mg]; exact hm) pa_wa (hs X.env) (hpl _ X.env)) (WA.len (ha.run X G W tk F env σ H _ R ?_))
  unfold zipI at h
  cases q : fa env with
  | stuck => rw [q] at h; exact h.elim
  | err C fs env1 => rw [q] at h; exact h
  | ok ds env1 =>
    rw [q] at h
    intro vs H1 R1 g1 p1 lk
    dsimp only [Out.bind] at h
    split at h
    · rename_i xs ys
      cases p1 with
      | cons p1 pt =>
        cases pt with
        | cons p2 pt =>
          cases pt
          cases p1 with
          | lst s1 q1 =>
            cases p2 with
            | lst s2 q2 =>
              have l := lk _ _ (.inl (by rw [G.K]; exact s1.full))
              rw [q1.len] at l
              exact ⟨_, _, _, _, rfl, .inl ⟨by rw [G.K]; exact s1.full, by rw [G.K]; exact s2.full, h _ H1 R1 g1 (Nat.le_trans (zipD_len xs ys) l) (by rw [G.K]; exact it_zip s1 q1 s2 q2)⟩⟩
    · rename_i xs ys
      cases p1 with
      | cons p1 pt =>
        cases pt with
        | cons p2 pt =>
          cases pt
          cases p1 with
          | tup s1 q1 =>
            cases p2 with
            | tup s2 q2 =>
              have l := lk _ _ (.inr (by rw [G.K]; exact s1.full))
              rw [q1.len] at l
              exact ⟨_, _, _, _, rfl, .inr ⟨by rw [G.K]; exact s1.full, by rw [G.K]; exact s2.full, h _ H1 R1 g1 (Nat.le_trans (zipD_len xs ys) l) (by rw [G.K]; exact it_zipT s1 q1 s2 q2)⟩⟩
    · exact h.elim
/-! ### a str's signs -/
def signsD (x : Str) : List D := x.cps.toList.map fun c => PyData.str ⟨#[c]⟩
def strI (fe : Sl → Out D) : Sl → Out (List D) := fun env => (fe env).bind fun d env => match d with
  | .str x => if x.cps.size ≤ 16777216 then .ok (signsD x) env else .stuck
  | _ => .stuck
theorem it_str {K : PySem.W.Frag} {Hm : Hp} {x : Str} : ItOk K Hm (Its x) (signsD x) := by
  intro H2 Hd s hd
  refine ⟨by simp [signsD, Its], fun i d e => ?_⟩
  simp only [signsD, List.getElem?_map, Array.getElem?_toList] at e
  obtain ⟨ch, e0, rfl⟩ := Option.map_eq_some_iff.mp e
  refine ⟨by have := (Array.getElem?_eq_some_iff.mp e0).1; exact this, fun v H3 ⟨e3, ch', hc', ev⟩ => ?_⟩
  subst e3 ev
  rw [e0] at hc'
  cases hc'
  exact ⟨Same.refl _, .str _⟩
theorem di_str {e : Expr} {fe : Sl → Out D} (he : DE M c e fe) : DI M c tg e (strI fe) := by
  refine ⟨fun X G W tk F env σ H Rr R h => ?_⟩
  refine WI.of (pi_str (tg := tg) (pe_we (X := X) (e := e))) (he.run X G W tk F env σ H _ R ?_)
  unfold strI at h
  cases q : fe env with
  | stuck => rw [q] at h; exact h.elim
  | err C fs env1 => rw [q] at h; exact h
  | ok d env1 =>
    rw [q] at h
    intro v H1 R1 g1 p1
    dsimp only [Out.bind] at h
    split at h
    · split at h
      · rename_i x hx
        cases p1
        exact ⟨_, rfl, h _ H1 R1 g1 (by simp [signsD, szl]; exact hx) it_str⟩
      · exact h.elim
    · exact h.elim
end
end DL
end
section
set_option Elab.async false
set_option linter.all false
set_option maxRecDepth 100000
set_option maxHeartbeats 4000000
/-! DL11: statements. -/
namespace DL
open PySem PySem.Spec PyProof.Rows L2

inductive Flw where
  | nx
  | br
  | ct
  | ret (d : D)
def WS (X : Cx) (st : Stmt) : TS := fun E σ H => ∀ (pins : List (Addr × Obj)) (s : Shared), Inv X pins σ H s → wpAny (model X.prog X.w) X.A (exec st X.env) (SP X pins E) X.xe s
def WSs (X : Cx) (sts : List Stmt) : TS := fun E σ H => ∀ (pins : List (Addr × Obj)) (s : Shared), Inv X pins σ H s → wpAny (model X.prog X.w) X.A (execs sts X.env) (SP X pins E) X.xe s
theorem ps_ws {X : Cx} {st : Stmt} : PS X st (WS X st) := ⟨fun pins s _ _ _ I h => h pins s I⟩
theorem pss_wss {X : Cx} {sts : List Stmt} : PSs X sts (WSs X sts) := ⟨fun pins s _ _ _ I h => h pins s I⟩
theorem WS.of {X : Cx} {st : Stmt} {t : TS} {σ : St} {H : Hp} {E : Ends} (p : PS X st t) (h : t E σ H) : WS X st E σ H := fun pins s I => p.run pins s σ H E I h
theorem WSs.of {X : Cx} {sts : List Stmt} {t : TS} {σ : St} {H : Hp} {E : Ends} (p : PSs X sts t) (h : t E σ H) : WSs X sts E σ H := fun pins s I => p.run pins s σ H E I h

def PostS (M : Mdl) (F : Act) (env : Sl) (σ : St) (H : Hp) (E : Ends) (W : WX) : Out Flw → Prop
  | .stuck => False
  | .ok .nx env' => ∀ σ' H', Rel M.kx F env' σ' H' → Grow F env σ H env' σ' H' → E.nx σ' H'
  | .ok .br env' => ∀ σ' H', Rel M.kx F env' σ' H' → Grow F env σ H env' σ' H' → E.bk σ' H'
  | .ok .ct env' => ∀ σ' H', Rel M.kx F env' σ' H' → Grow F env σ H env' σ' H' → E.ct σ' H'
  | .ok (.ret d) env' => ∀ v σ' H', Rel M.kx F env' σ' H' → Grow F env σ H env' σ' H' → Dp M.K (F.pub env' σ' H') v d → E.rt v H'
  | .err C fs env' => ∀ cls dd σ' H', Rel M.kx F env' σ' H' → Grow F env σ H env' σ' H' → ErrIs M.K M.mg (F.pub env' σ' H') H' cls dd C fs → W cls dd σ' H'
structure GoodS (M : Mdl) (c : Cf) (X : Cx) : Prop extends Good M c X where
  pass : PassesOwn (model X.prog X.w) X.A X.env X.xe
  kind : X.env.scope.kind = .function
  stk : X.stack = X.env :: X.outer
  frm : X.env.frame = some X.env.locals
structure DS (M : Mdl) (c : Cf) (st : Stmt) (f : Sl → Out Flw) : Prop where
  run : ∀ (X : Cx), GoodS M c X → ∀ (W : WX), Takes X W → ∀ (F : Act) (env : Sl) (σ : St) (H : Hp) (E : Ends),
  Rel M.kx F env σ H → PostS M F env σ H E W (f env) → WS X st E σ H
structure DSs (M : Mdl) (c : Cf) (sts : List Stmt) (f : Sl → Out Flw) : Prop where
  run : ∀ (X : Cx), GoodS M c X → ∀ (W : WX), Takes X W → ∀ (F : Act) (env : Sl) (σ : St) (H : Hp) (E : Ends),
  Rel M.kx F env σ H → PostS M F env σ H E W (f env) → WSs X sts E σ H

section
variable {α β γ δ : Type} {M : Mdl} {F : Act} {env env' : Sl} {σ σ' : St} {H H' : Hp} {E E' : Ends} {W : WX}
theorem PostS.rebase {x : Out Flw} (h : PostS M F env σ H E W x) (g : Grow F env σ H env' σ' H') : PostS M F env' σ' H' E W x := by
  cases x with
  | stuck => exact h
  | ok a e2 =>
    cases a with
    | nx => exact fun s2 H2 R2 g2 => h s2 H2 R2 (g.trans g2)
    | br => exact fun s2 H2 R2 g2 => h s2 H2 R2 (g.trans g2)
    | ct => exact fun s2 H2 R2 g2 => h s2 H2 R2 (g.trans g2)
    | ret d => exact fun v s2 H2 R2 g2 p => h v s2 H2 R2 (g.trans g2) p
  | err C fs e2 => exact fun c d s2 H2 R2 g2 p => h c d s2 H2 R2 (g.trans g2) p
/-- behind an expression -/
theorem PostS.split {x : Out γ} {f : γ → Sl → Out Flw} {R1 : Hp → Hp → δ → γ → Prop} {Q1 : δ → Hp → Prop} (h : PostS M F env σ H E W (x.bind f))
    (k : ∀ a env1 v H1, x = .ok a env1 → Rel M.kx F env1 σ H1 → Grow F env σ H env1 σ H1 → R1 (F.pub env1 σ H1) H1 v a → PostS M F env1 σ H1 E W (f a env1) → Q1 v H1) : Post M F env σ H R1 Q1 W x := by
  cases x with
  | stuck => exact h
  | ok a env2 => exact fun v H2 R2 g2 p => k a env2 v H2 rfl R2 g2 p (h.rebase g2)
  | err C fs env2 => exact fun c d H2 R2 g2 p => h c d σ H2 R2 g2 p
/-- behind a new list -/
theorem PostS.splitF {x : Out (List D)} {f : List D → Sl → Out Flw} {Q1 : VK} (h : PostS M F env σ H E W (x.bind f))
    (k : ∀ ds env1 p vs H1, x = .ok ds env1 → Rel M.kx (F.add p vs) env1 σ H1 → Same (F.pub env σ H) ((F.add p vs).pub env1 σ H1) → F.H0 p = Option.none → ¬ F.Hid env1 σ p → H1 p = some (.lst vs) → DpAll M.K ((F.add p vs).pub env1 σ H1) vs ds → PostS M F env σ H E W (f ds env1) → Q1 (.ref p) H1) :
    PostF M F env σ H Q1 W x := by
  cases x with
  | stuck => exact h
  | ok a env2 => exact fun p vs H2 R2 s2 h0 nh hp pd => k a env2 p vs H2 rfl R2 s2 h0 nh hp pd h
  | err C fs env2 => exact fun c d H2 R2 g2 p => h c d σ H2 R2 g2 p
end

def seqS (f g : Sl → Out Flw) : Sl → Out Flw := fun env => match f env with
  | .ok .nx env => g env
  | .ok .br env => .ok .br env
  | .ok .ct env => .ok .ct env
  | .ok (.ret d) env => .ok (.ret d) env
  | .err C fs env => .err C fs env
  | .stuck => .stuck
def nextS : Sl → Out Flw := fun env => .ok .nx env
def brkS : Sl → Out Flw := fun env => .ok .br env
def cntS : Sl → Out Flw := fun env => .ok .ct env
def retS (fe : Sl → Out D) : Sl → Out Flw := fun env => (fe env).bind fun d env => .ok (.ret d) env
def dropS (fe : Sl → Out D) : Sl → Out Flw := fun env => (fe env).bind fun _ env => .ok .nx env
def ifS (ft : Sl → Out Bool) (fa fb : Sl → Out Flw) : Sl → Out Flw := fun env => (ft env).bind fun b env => if b = true then fa env else fb env
def storeS (g : D → Sl → Option Sl) (d : D) (env : Sl) : Out Flw := match g d env with
  | some env => .ok .nx env
  | none => .stuck
def asgS (fe : Sl → Out D) (g : D → Sl → Option Sl) : Sl → Out Flw := fun env => (fe env).bind (storeS g)
def newS (i : Nat) (ds : List D) (env : Sl) : Out Flw := match env[i]? with
  | some s => if s.free = true then .ok .nx (env.set i (.ml ds)) else .stuck
  | none => .stuck
def setN (i : Nat) (fF : Sl → Out (List D)) : Sl → Out Flw := fun env => (fF env).bind (newS i)

section
variable {M : Mdl} {c : Cf} {pos : Pos} {st : Stmt} {sts : List Stmt} {f g : Sl → Out Flw} {e : Expr} {fe : Sl → Out D}
theorem dss_nil : DSs M c [] nextS := ⟨fun X G W tk F env σ H E R h => WSs.of pss_nil (h σ H R Grow.refl)⟩
theorem dss_one (h1 : DS M c st f) : DSs M c [st] f := ⟨fun X G W tk F env σ H E R h => WSs.of (pss_one ps_ws) (h1.run X G W tk F env σ H E R h)⟩
theorem dss_cons (h1 : DS M c st f) (h2 : DSs M c sts g) : DSs M c (st :: sts) (seqS f g) := by
  refine ⟨fun X G W tk F env σ H E R h => ?_⟩
  refine WSs.of (pss_cons ps_ws pss_wss) (h1.run X G W tk F env σ H _ R ?_)
  have h : PostS M F env σ H E W (match f env with
    | .ok .nx env => g env
    | .ok .br env => .ok .br env
    | .ok .ct env => .ok .ct env
    | .ok (.ret d) env => .ok (.ret d) env
    | .err C fs env => .err C fs env
    | .stuck => .stuck) := h
  cases q : f env with
  | stuck => rw [q] at h; exact h
  | err C fs env1 => rw [q] at h; exact h
  | ok a env1 =>
    rw [q] at h
    cases a with
    | nx => exact fun σ' H' R' g' => h2.run X G W tk F env1 σ' H' E R' (PostS.rebase h g')
    | br => exact h
    | ct => exact h
    | ret d => exact h
theorem ds_pass : DS M c (.Pass pos) nextS := ⟨fun X G W tk F env σ H E R h => WS.of ps_pass (h σ H R Grow.refl)⟩
theorem ds_break : DS M c (.Break pos) brkS := ⟨fun X G W tk F env σ H E R h => WS.of ps_break (h σ H R Grow.refl)⟩
theorem ds_cont : DS M c (.Continue pos) cntS := ⟨fun X G W tk F env σ H E R h => WS.of ps_continue (h σ H R Grow.refl)⟩
theorem ds_ret (he : DE M c e fe) : DS M c (.Return (some e) pos) (retS fe) := ⟨fun X G W tk F env σ H E R h =>
  WS.of (ps_ret pe_we) (he.run X G.toGood W tk F env σ H _ R (PostS.split h fun d env1 v H1 _ R1 g1 p1 h1 => h1 v σ H1 R1 Grow.refl p1))⟩
theorem ds_retN : DS M c (.Return Option.none pos) (retS (conD .none)) := ⟨fun X G W tk F env σ H E R h => WS.of ps_retN (h .non σ H R Grow.refl .non)⟩
theorem ds_expr (he : DE M c e fe) (hs : ∀ env : PySem.Env, swapsWith e Option.none pos.line env = pure false) : DS M c (.Expr e pos) (dropS fe) := ⟨fun X G W tk F env σ H E R h =>
  WS.of (ps_expr pe_we (hs X.env)) (he.run X G.toGood W tk F env σ H _ R (PostS.split h fun d env1 v H1 _ R1 g1 p1 h1 => h1 σ H1 R1 Grow.refl))⟩
theorem ds_if {t : Expr} {a b : List Stmt} {ft : Sl → Out Bool} (ht : DT M c t ft) (ha : DSs M c a f) (hb : DSs M c b g) : DS M c (.If t a b pos) (ifS ft f g) := by
  refine ⟨fun X G W tk F env σ H E R h => ?_⟩
  refine WS.of (ps_if pt_wt pss_wss pss_wss) (ht.run X G.toGood W tk F env σ H _ R (PostS.split h fun d env1 v H1 _ R1 g1 p1 h1 => ?_))
  cases (show v = d from p1)
  cases d with
  | true => exact ha.run X G W tk F env1 σ H1 E R1 h1
  | false => exact hb.run X G W tk F env1 σ H1 E R1 h1
/-- name = value -/
theorem ds_set {i : Nat} {x : Str} {pos' : Pos} (he : DE M c e fe) (hN : c.N[i]? = some x) (hx : Loc c.sc x) (hf : c.fn x = true ∨ c.sc.names.lookup x = some .local) (hs : ∀ env : PySem.Env, swapsWith e (some (.Name x pos')) pos.line env = pure false) :
    DS M c (.Assign [.Name x pos'] e pos) (asgS fe (putS i)) := by
  refine ⟨fun X G W tk F env σ H E R h => ?_⟩
  refine WS.of (ps_set (by rw [G.N]; exact G.nd) (by rw [G.N]; exact hN) (by rw [G.sc]; exact hx) pe_we (hs X.env) (by rw [G.fn, G.sc]; exact hf)) ?_
  refine he.run X G.toGood W tk F env σ H _ R (PostS.split h fun d env1 v H1 _ R1 g1 p1 h1 => ?_)
  unfold storeS at h1
  cases q : putS i d env1 with
  | none => rw [q] at h1; exact h1.elim
  | some env2 =>
    rw [q] at h1
    obtain ⟨R2, g2, _⟩ := R1.putV p1 q
    exact h1 _ H1 R2 g2
/-- target = value -/
theorem ds_asg {tg : Expr} {ts : List Nat} {gt : D → Sl → Option Sl} (he : DE M c e fe) (hg : DG M c tg ts gt) (hs : ∀ env : PySem.Env, swapsWithSole [tg] e pos.line env = pure false) (hw : ∀ env : PySem.Env, swappedStores [tg] e env = pure Option.none)
    (h1 : ∀ env : PySem.Env, (assignEach [tg] env).map (·.2) = [assign tg env]) : DS M c (.Assign [tg] e pos) (asgS fe gt) := by
  refine ⟨fun X G W tk F env σ H E R h => ?_⟩
  refine WS.of (ps_asg pe_we pg_wg (hs X.env) (hw X.env) (h1 X.env)) ?_
  refine he.run X G.toGood W tk F env σ H _ R (PostS.split h fun d env1 v H1 _ R1 g1 p1 h1 => ?_)
  unfold storeS at h1
  cases q : gt d env1 with
  | none => rw [q] at h1; exact h1.elim
  | some env2 =>
    rw [q] at h1
    exact hg.run X G.toGood F env1 σ H1 v d env2 _ R1 p1 q fun σ' H' R2 g2 _ _ _ _ => h1 σ' H' R2 g2
/-- a name takes a new list of its own -/
theorem new_ok {X : Cx} {F : Act} {env env1 : Sl} {σ : St} {H H1 : Hp} {E : Ends} {W : WX} {i : Nat} {p : Addr} {vs : List V} {ds : List D} (R1 : Rel M.kx (F.add p vs) env1 σ H1) (s1 : Same (F.pub env σ H) ((F.add p vs).pub env1 σ H1)) (h0 : F.H0 p = Option.none) (nh : ¬ F.Hid env1 σ p)
    (hp : H1 p = some (.lst vs)) (pd : DpAll M.K ((F.add p vs).pub env1 σ H1) vs ds) (h : PostS M F env σ H E W (newS i ds env1)) : E.nx (σ.set i (some (.ref p))) H1 := by
  unfold newS at h
  cases q : env1[i]? with
  | none => rw [q] at h; exact h.elim
  | some s =>
    simp only [q] at h
    split at h
    · rename_i hf
      obtain ⟨R2, s2⟩ := R1.drop nh
      have s3 : Same ((F.add p vs).pub env1 σ H1) (minus H1 (fun b => F.Hid env1 σ b ∨ b = p)) := minus_less fun b z => add_hid.mpr z
      obtain ⟨R3, s4⟩ := R2.putNew q hf hp nh h0 (DpAll.same s3 pd) fun j t o e1 e2 => by
        obtain ⟨o', e3, k⟩ := R1.slot j t e1
        rw [e2] at e3
        cases e3
        exact k.same s3 (Same.refl _)
      exact h _ H1 R3 (Same.trans s1 (Same.trans s3 s4))
    · exact h.elim
theorem ds_setN {i : Nat} {x : Str} {pos' : Pos} {fF : Sl → Out (List D)} (he : DF M c e fF) (hN : c.N[i]? = some x) (hx : Loc c.sc x) (hf : c.fn x = true ∨ c.sc.names.lookup x = some .local) (hs : ∀ env : PySem.Env, swapsWith e (some (.Name x pos')) pos.line env = pure false) :
    DS M c (.Assign [.Name x pos'] e pos) (setN i fF) := by
  refine ⟨fun X G W tk F env σ H E R h => ?_⟩
  refine WS.of (ps_set (by rw [G.N]; exact G.nd) (by rw [G.N]; exact hN) (by rw [G.sc]; exact hx) pe_we (hs X.env) (by rw [G.fn, G.sc]; exact hf)) ?_
  exact he.run X G.toGood W tk F env σ H _ R (PostS.splitF h fun ds env1 p vs H1 _ R1 s1 h0 nh hp pd h1 => new_ok (X := X) R1 s1 h0 nh hp pd h1)
/-- y = [.. for ..], the name a local -/
theorem ds_setLc {i : Nat} {y : Str} {py pos spos : Pos} {elt tg iter : Expr} {ifs : List Expr} {scope : Scope} {own : List (Str × Nat)} {ts : List Nat} {fi : Sl → Out (List D)} {g : D → Sl → Option Sl} {t : Sl → Out Bool} (hc : c.calm = true) (hy : c.N[i]? = some y) (hyl : c.sc.names.lookup y = some .local)
    (hl : (py.line == pos.line) = true) (hl2 : (pos.line == spos.line) = true) (hsw : ∀ env : PySem.Env, env.scope.kind = .function → env.scope.names.lookup y = some .local → swapsWith (.ListComp elt [⟨tg, iter, ifs, 0⟩] scope pos) (some (.Name y py)) spos.line env = pure true)
    (hi : DI M c tg iter fi) (ok : BlkOk c.N c.sc scope own) (hg : DG M (c.blk scope) tg ts g) (ht : DTs M (c.blk scope) ifs t)
    (he : DE M (c.blk scope) elt fe) (hts : ∀ j, j ∈ ts → j ∈ own.map (·.2)) (hs : ∀ (env : PySem.Env) x, foldedSetIterable iter env x = pure x) : DS M c (.Assign [.Name y py] (.ListComp elt [⟨tg, iter, ifs, 0⟩] scope pos) spos) (setN i (compE fi g t fe (own.map (·.2)))) := by
  refine ⟨fun X G W tk F env σ H E R h => ?_⟩
  refine WS.of (ps_setLc (wi := WI X tg iter) (g := gU X scope tg) (tt := tU X scope ifs) (te := eU X scope elt) (G.calm hc) (by rw [G.N]; exact G.nd) (by rw [G.N]; exact hy) (by rw [G.sc]; exact hyl) (hsw X.env G.kind (by rw [G.sc]; exact hyl)) pi_wi (by rw [G.N, G.sc]; exact ok)
    (fun s0 H0 C cl fp => ⟨fun pins s _ _ _ u _ I r h => h s0 H0 C cl fp pins s u I r⟩) (fun s0 H0 C cl fp => ⟨fun pins s _ _ _ I h => h s0 H0 C cl fp pins s I⟩) (fun s0 H0 C cl fp => ⟨fun pins s _ _ _ I h => h s0 H0 C cl fp pins s I⟩) (hs X.env)) ?_
  exact lc_ok hc hi hg ht he hts G.toGood tk R (PostS.splitF h fun ds env1 p vs H1 _ R1 s1 h0 nh hp pd h1 => new_ok (X := X) R1 s1 h0 nh hp pd h1)
end

/-! ### loops -/
def forL (g : D → Sl → Option Sl) (tb : Sl → Out Flw) : List D → Sl → Out Flw
  | [], env => .ok .nx env
  | d :: ds, env => match g d env with
    | some env1 => (match tb env1 with
      | .ok .nx env2 => forL g tb ds env2
      | .ok .ct env2 => forL g tb ds env2
      | .ok .br env2 => .ok .nx env2
      | .ok (.ret d) env2 => .ok (.ret d) env2
      | .err C fs env2 => .err C fs env2
      | .stuck => .stuck)
    | none => .stuck
def forS (fi : Sl → Out (List D)) (g : D → Sl → Option Sl) (tb : Sl → Out Flw) : Sl → Out Flw := fun env => (fi env).bind fun items env => forL g tb items env
section
variable {M : Mdl} {c : Cf} {pos : Pos} {tg iter : Expr} {body : List Stmt} {fi : Sl → Out (List D)} {g : D → Sl → Option Sl} {tb : Sl → Out Flw} {ts : List Nat}
theorem ds_for (hc : c.calm = true) (hi : DI M c tg iter fi) (hg : DG M c tg ts g) (hb : DSs M c body tb) (hs : ∀ (env : PySem.Env) x, foldedSetIterable iter env x = pure x) : DS M c (.For tg iter body [] pos) (forS fi g tb) := by
  refine ⟨fun X G W tk F env σ H E R h => ?_⟩
  refine WS.of (ps_for (wi := WI X tg iter) (g := WG X tg) (tb := WSs X body) G.pass (G.calm hc) pi_wi pg_wg pss_wss (hs X.env)) ?_
  refine hi.run X G.toGood W tk F env σ H _ R ?_
  unfold forS at h
  cases q : fi env with
  | stuck => rw [q] at h; exact h
  | err C fs env1 => rw [q] at h; exact fun cls dd H' R' g' e' => h cls dd σ H' R' g' e'
  | ok items env1 =>
    rw [q] at h
    have h : PostS M F env σ H E W (forL g tb items env1) := h
    intro J H1 R1 g1 hl iok
    refine ⟨fun i m σ2 H2 => m = items.length - i ∧ i ≤ items.length ∧ ∃ env2, Rel M.kx F env2 σ2 H2 ∧ Grow F env1 σ H1 env2 σ2 H2 ∧ PostS M F env2 σ2 H2 E W (forL g tb (items.drop i) env2), ⟨items.length, by simp, Nat.zero_le _, env1, R1, Grow.refl, PostS.rebase h g1⟩, ?_⟩
    rintro i m σ2 H2 ⟨rfl, hle, env2, R2, g2, h2⟩
    obtain ⟨stp, trn⟩ := iok H2 (F.Hid env2 σ2) g2 (fun _ => R2.hid_live)
    by_cases hlt : i < items.length
    · right
      have hd : items[i]? = some items[i] := List.getElem?_eq_getElem hlt
      obtain ⟨hgo, hy⟩ := trn i _ hd
      refine ⟨hgo, fun σ3 H3 => ∃ env3, Rel M.kx F env3 σ3 H3 ∧ Grow F env1 σ H1 env3 σ3 H3 ∧ PostS M F env3 σ3 H3 E W (forL g tb (items.drop (i + 1)) env3), fun σ' H' ⟨env3, R3, g3, h3⟩ => ⟨items.length - (i + 1), by omega, rfl, hlt, env3, R3, g3, h3⟩, fun x H3 hyl => ?_⟩
      obtain ⟨sx, px⟩ := hy x H3 hyl
      have Rx := R2.grow sx
      have gx : Grow F env2 σ2 H2 env2 σ2 H3 := Grow.of sx
      rw [List.drop_eq_getElem_cons hlt] at h2
      simp only [forL] at h2
      cases q1 : g items[i] env2 with
      | none => rw [q1] at h2; exact h2.elim
      | some env3 =>
        simp only [q1] at h2
        refine hg.run X G.toGood F env2 σ2 H3 x _ env3 _ Rx px q1 fun σ4 H4 R4 g4 _ _ _ _ => ?_
        have g14 := (g2.trans gx).trans g4
        refine hb.run X G W tk F env3 σ4 H4 _ R4 ?_
        cases q2 : tb env3 with
        | stuck => rw [q2] at h2; exact h2
        | err C fs env4 => rw [q2] at h2; exact PostS.rebase (PostS.rebase h2 gx) g4
        | ok a env4 =>
          rw [q2] at h2
          cases a with
          | nx => exact fun σ5 H5 R5 g5 => ⟨env4, R5, g14.trans g5, PostS.rebase (PostS.rebase (PostS.rebase h2 gx) g4) g5⟩
          | ct => exact fun σ5 H5 R5 g5 => ⟨env4, R5, g14.trans g5, PostS.rebase (PostS.rebase (PostS.rebase h2 gx) g4) g5⟩
          | br => exact fun σ5 H5 R5 g5 => h2 σ5 H5 R5 ((gx.trans g4).trans g5)
          | ret d => exact PostS.rebase (PostS.rebase h2 gx) g4
    · left
      have e : i = items.length := by omega
      subst e
      rw [List.drop_length] at h2
      exact ⟨stp, h2 σ2 H2 R2 Grow.refl⟩
end
end DL
end
section
set_option Elab.async false
set_option linter.all false
set_option maxRecDepth 100000
set_option maxHeartbeats 4000000
/-! DL12: while; stores; pairs of names; changes of own lists. -/
namespace DL
open PySem PySem.Spec PyProof.Rows L2

/-! ### while -/
def whileN (ft : Sl → Out Bool) (fb : Sl → Out Flw) : Nat → Sl → Out Flw
  | 0, _ => .stuck
  | n + 1, env => match ft env with
    | .ok true env1 => (match fb env1 with
      | .ok .nx env2 => whileN ft fb n env2
      | .ok .ct env2 => whileN ft fb n env2
      | .ok .br env2 => .ok .nx env2
      | .ok (.ret d) env2 => .ok (.ret d) env2
      | .err C fs env2 => .err C fs env2
      | .stuck => .stuck)
    | .ok false env1 => .ok .nx env1
    | .err C fs env1 => .err C fs env1
    | .stuck => .stuck
theorem whileN_succ {ft : Sl → Out Bool} {fb : Sl → Out Flw} : ∀ {n : Nat} {env : Sl}, whileN ft fb n env ≠ .stuck → whileN ft fb (n + 1) env = whileN ft fb n env
  | 0, env, h => absurd rfl h
  | n + 1, env, h => by
    have u : ∀ m, whileN ft fb (m + 1) env = (match ft env with
      | .ok true env1 => (match fb env1 with
        | .ok .nx env2 => whileN ft fb m env2
        | .ok .ct env2 => whileN ft fb m env2
        | .ok .br env2 => .ok .nx env2
        | .ok (.ret d) env2 => .ok (.ret d) env2
        | .err C fs env2 => .err C fs env2
        | .stuck => .stuck)
      | .ok false env1 => .ok .nx env1
      | .err C fs env1 => .err C fs env1
      | .stuck => .stuck) := fun m => rfl
    rw [u n] at h
    rw [u (n + 1), u n]
    cases q1 : ft env with
    | stuck => rfl
    | err C fs e1 => rfl
    | ok b e1 =>
      cases b with
      | false => rfl
      | true =>
        simp only [q1] at h ⊢
        cases q2 : fb e1 with
        | stuck => rfl
        | err C fs e2 => rfl
        | ok a e2 =>
          cases a with
          | nx => simp only [q2] at h ⊢; exact whileN_succ h
          | ct => simp only [q2] at h ⊢; exact whileN_succ h
          | br => rfl
          | ret d => rfl
theorem whileN_le {ft : Sl → Out Bool} {fb : Sl → Out Flw} {n : Nat} {env : Sl} (h : whileN ft fb n env ≠ .stuck) : ∀ k, whileN ft fb (n + k) env = whileN ft fb n env
  | 0 => rfl
  | k + 1 => by
    have e := whileN_le h k
    rw [← Nat.add_assoc, whileN_succ (by rw [e]; exact h), e]
open Classical in
noncomputable def whileS (ft : Sl → Out Bool) (fb : Sl → Out Flw) : Sl → Out Flw := fun env => if h : ∃ n, whileN ft fb n env ≠ .stuck then whileN ft fb (Classical.choose h) env else .stuck
theorem whileS_of {ft : Sl → Out Bool} {fb : Sl → Out Flw} {n : Nat} {env : Sl} {o : Out Flw} (h : whileN ft fb n env = o) (ho : o ≠ .stuck) : whileS ft fb env = o := by
  have ex : ∃ n, whileN ft fb n env ≠ .stuck := ⟨n, by rw [h]; exact ho⟩
  unfold whileS
  rw [dif_pos ex]
  have h1 := Classical.choose_spec ex
  have e1 := whileN_le h1 n
  have e2 := whileN_le (n := n) (env := env) (ft := ft) (fb := fb) (by rw [h]; exact ho) (Classical.choose ex)
  rw [Nat.add_comm] at e2
  rw [← e1, e2, h]
theorem whileS_fuel {ft : Sl → Out Bool} {fb : Sl → Out Flw} {env : Sl} (h : whileS ft fb env ≠ .stuck) : ∃ n, whileS ft fb env = whileN ft fb n env := by
  unfold whileS at h ⊢
  by_cases ex : ∃ n, whileN ft fb n env ≠ .stuck
  · rw [dif_pos ex]
    exact ⟨_, rfl⟩
  · rw [dif_neg ex] at h
    exact absurd rfl h
/-- one turn, and then the rest -/
theorem whileS_step {ft : Sl → Out Bool} {fb : Sl → Out Flw} {env : Sl} : whileS ft fb env = (match ft env with
    | .ok true env1 => (match fb env1 with
      | .ok .nx env2 => whileS ft fb env2
      | .ok .ct env2 => whileS ft fb env2
      | .ok .br env2 => .ok .nx env2
      | .ok (.ret d) env2 => .ok (.ret d) env2
      | .err C fs env2 => .err C fs env2
      | .stuck => .stuck)
    | .ok false env1 => .ok .nx env1
    | .err C fs env1 => .err C fs env1
    | .stuck => .stuck) := by
  have again : ∀ (e2 : Sl) (F : Nat → Out Flw), (∀ n, F (n + 1) = whileN ft fb n e2) → (F 0 = .stuck) → (∀ n, whileN ft fb n env = F n) → whileS ft fb env = whileS ft fb e2 := fun e2 F h1 h0 h2 => by
    by_cases z : whileS ft fb e2 = .stuck
    · rw [z]
      by_cases z2 : whileS ft fb env = .stuck
      · exact z2
      · obtain ⟨n, e⟩ := whileS_fuel z2
        rw [e, h2] at z2
        cases n with
        | zero => exact absurd h0 z2
        | succ n =>
          rw [h1] at z2
          have := whileS_of (n := n) (env := e2) rfl z2
          rw [z] at this
          exact absurd this.symm z2
    · obtain ⟨n, e⟩ := whileS_fuel z
      rw [e]
      rw [e] at z
      exact whileS_of (n := n + 1) (by rw [h2, h1]) z
  have plain : ∀ (o : Out Flw), o ≠ .stuck → (∀ n, whileN ft fb (n + 1) env = o) → whileS ft fb env = o := fun o ho h => whileS_of (n := 1) (h 0) ho
  have none : (∀ n, whileN ft fb n env = .stuck) → whileS ft fb env = .stuck := fun h => by
    by_cases z2 : whileS ft fb env = .stuck
    · exact z2
    · obtain ⟨n, e⟩ := whileS_fuel z2
      rw [e, h n]
  cases q1 : ft env with
  | stuck => exact none fun n => by cases n with
    | zero => rfl
    | succ n => simp only [whileN, q1]
  | err C fs e1 => exact plain _ (fun z => nomatch z) fun n => by simp only [whileN, q1]
  | ok b e1 =>
    cases b with
    | false => exact plain _ (fun z => nomatch z) fun n => by simp only [whileN, q1]
    | true =>
      show whileS ft fb env = (match fb e1 with
      | .ok .nx env2 => whileS ft fb env2
      | .ok .ct env2 => whileS ft fb env2
      | .ok .br env2 => .ok .nx env2
      | .ok (.ret d) env2 => .ok (.ret d) env2
      | .err C fs env2 => .err C fs env2
      | .stuck => .stuck)
      cases q2 : fb e1 with
      | stuck => exact none fun n => by cases n with
        | zero => rfl
        | succ n => simp only [whileN, q1, q2]
      | err C fs e2 => exact plain _ (fun z => nomatch z) fun n => by simp only [whileN, q1, q2]
      | ok a e2 =>
        cases a with
        | nx => exact again e2 (fun n => whileN ft fb n env) (fun n => by simp only [whileN, q1, q2]) rfl fun n => rfl
        | ct => exact again e2 (fun n => whileN ft fb n env) (fun n => by simp only [whileN, q1, q2]) rfl fun n => rfl
        | br => exact plain _ (fun z => nomatch z) fun n => by simp only [whileN, q1, q2]
        | ret d => exact plain _ (fun z => nomatch z) fun n => by simp only [whileN, q1, q2]

section
variable {M : Mdl} {c : Cf} {pos : Pos} {e : Expr} {fe : Sl → Out D}
theorem ds_while {t : Expr} {body : List Stmt} {ft : Sl → Out Bool} {fb : Sl → Out Flw} (ht : DT M c t ft) (hb : DSs M c body fb) : DS M c (.While t body [] pos) (whileS ft fb) := by
  refine ⟨fun X G W tk F env σ H E R h => ?_⟩
  refine WS.of (ps_while (tc := WT X t) (tb := WSs X body) G.pass pt_wt pss_wss) ?_
  obtain ⟨n, e⟩ := whileS_fuel (ft := ft) (fb := fb) (env := env) (fun z => by rw [z] at h; exact h)
  rw [e] at h
  refine ⟨fun m σ2 H2 => ∃ env2, Rel M.kx F env2 σ2 H2 ∧ PostS M F env2 σ2 H2 E W (whileN ft fb m env2), ⟨n, env, R, h⟩, ?_⟩
  rintro m σ2 H2 ⟨env2, R2, h2⟩
  cases m with
  | zero => exact h2.elim
  | succ m =>
    refine ht.run X G.toGood W tk F env2 σ2 H2 _ R2 ?_
    simp only [whileN] at h2
    cases q1 : ft env2 with
    | stuck => rw [q1] at h2; exact h2
    | err C fs env3 => rw [q1] at h2; exact fun cls dd H' R' g' e' => h2 cls dd σ2 H' R' g' e'
    | ok b env3 =>
      rw [q1] at h2
      intro b' H3 R3 g3 eb
      cases (show b' = b from eb)
      cases b with
      | false => exact h2 σ2 H3 R3 g3
      | true =>
        refine ⟨fun σ' H' => ∃ env4, Rel M.kx F env4 σ' H' ∧ PostS M F env4 σ' H' E W (whileN ft fb m env4), fun σ' H' ⟨env4, R4, h4⟩ => ⟨m, Nat.lt_succ_self m, env4, R4, h4⟩, ?_⟩
        refine hb.run X G W tk F env3 σ2 H3 _ R3 ?_
        have h2 : PostS M F env2 σ2 H2 E W (match fb env3 with
          | .ok .nx env2 => whileN ft fb m env2
          | .ok .ct env2 => whileN ft fb m env2
          | .ok .br env2 => .ok .nx env2
          | .ok (.ret d) env2 => .ok (.ret d) env2
          | .err C fs env2 => .err C fs env2
          | .stuck => .stuck) := h2
        cases q2 : fb env3 with
        | stuck => rw [q2] at h2; exact h2
        | err C fs env4 => rw [q2] at h2; exact PostS.rebase h2 g3
        | ok a env4 =>
          rw [q2] at h2
          cases a with
          | nx => exact fun σ5 H5 R5 g5 => ⟨env4, R5, PostS.rebase (PostS.rebase h2 g3) g5⟩
          | ct => exact fun σ5 H5 R5 g5 => ⟨env4, R5, PostS.rebase (PostS.rebase h2 g3) g5⟩
          | br => exact fun σ5 H5 R5 g5 => h2 σ5 H5 R5 (g3.trans g5)
          | ret d => exact PostS.rebase h2 g3

/-! ### a change of an own list -/
/-- the list of slot i is ys from now on -/
def changeS (i : Nat) (ys : List D) (env : Sl) : Out Flw := match env[i]? with
  | some (.ml _) => .ok .nx (env.set i (.ml ys))
  | some (.mb _) => .ok .nx (env.set i (.mb ys))
  | _ => .stuck
theorem change_ok {F : Act} {env env1 : Sl} {σ : St} {H H1 : Hp} {E : Ends} {W : WX} {i : Nat} {s : Slot} {a : Addr} {vs : List V} {ys : List D} (R : Rel M.kx F env1 σ H1) (g : Grow F env σ H env1 σ H1) (h : env1[i]? = some s) (hm : s.mut = true) (ha : σ[i]? = some (some (.ref a)))
    (hd : DpAll M.K (F.pub env1 σ H1) vs ys) (hp : PostS M F env σ H E W (changeS i ys env1)) : E.nx σ (upd H1 a (.lst vs)) := by
  obtain ⟨R2, g2⟩ := R.change h hm ha hd
  unfold changeS at hp
  rcases Slot.mut_of hm with ⟨xs, rfl⟩ | ⟨xs, rfl⟩
  · rw [h] at hp
    exact hp σ _ R2 (g.trans g2)
  · rw [h] at hp
    exact hp σ _ R2 (g.trans g2)
/-- xs.append(e) -/
def appS (i : Nat) (fe : Sl → Out D) : Sl → Out Flw := fun env => match lend env i with
  | some _ => (fe env).bind fun d env => (match lend env i with
    | some xs => if xs.length < 16777216 then changeS i (xs ++ [d]) env else .stuck
    | none => .stuck)
  | none => .stuck
theorem tyL {X : Cx} {H : Hp} {a : Addr} {xs : List V} (h : SqL X.K H a xs) : tyV X.K "list" (.ref a) H := .inl ⟨rfl, xs, h⟩
theorem ds_append {i : Nat} {x : Str} {p1 p2 p3 pos : Pos} (hN : c.N[i]? = some x) (hv : Vis c.sc x) (hd : (x == ("__debug__" : Str)) = false) (hcd : (x == ("__classdict__" : Str)) = false) (he : DE M c e fe) (hst : NoStar e)
    (hbase : ∀ env : PySem.Env, attributeBase (.Name x p1) "append" env (eval (.Name x p1) env) = eval (.Name x p1) env)
    (hfew : ∀ env : PySem.Env, ((backTo p3 (starEach [e] env)).all (fun x => !x.1) && (backToKw p3 (keywordEach [] env)).all (fun x => x.1.isSome)
      && decide ([e].length + ([] : List Keyword).length + (if ([] : List Keyword).isEmpty then 0 else 1) < 30)) = true)
    (hline : (p2.endLine == p3.line) = true) (hs : ∀ env : PySem.Env, swapsWith (.Call (.Attribute (.Name x p1) "append" p2) [e] [] p3) Option.none pos.line env = pure false) :
    DS M c (.Expr (.Call (.Attribute (.Name x p1) "append" p2) [e] [] p3) pos) (appS i fe) := by
  refine ⟨fun X G W tk F env σ H E R h => ?_⟩
  refine WS.of (ps_expr (pe_bm PySem.F.plainAttrs_list PySem.F.slot_list_append PySem.F.type_list_append mt_append (G.var hN hv hd hcd) (pa_cons pe_we pa_nil (hst _ _)) (hbase X.env) (hfew X.env) hline (hst _ _) rfl) (hs X.env)) ?_
  unfold appS at h
  cases q : lend env i with
  | none => rw [q] at h; exact h.elim
  | some xs0 =>
    simp only [q] at h
    obtain ⟨s0, a, us, l1, l2, l3, l4, l5⟩ := lend_ok R q
    refine ⟨_, l3, tyL (SqL.of l4), ?_⟩
    refine he.run X G.toGood W tk F env σ H _ R (PostS.split h fun d env1 v H1 _ R1 g1 p1 h1 => ?_)
    cases q1 : lend env1 i with
    | none => simp only [q1] at h1; exact h1.elim
    | some xs =>
      simp only [q1] at h1
      obtain ⟨s1, a1, us1, k1, k2, k3, k4, k5⟩ := lend_ok R1 q1
      rw [l3] at k3
      cases k3
      split at h1
      · rename_i hlt
        exact ⟨a, us1, v, rfl, rfl, k4, by rw [k5.len, szl]; exact hlt, change_ok R1 Grow.refl k1 k2 l3 (k5.app (.cons p1 .nil)) h1⟩
      · exact h1.elim
/-- xs.pop() dropped or not: the last item -/
def popD (i : Nat) : Sl → Out D := fun env => match lend env i with
  | some xs => (match xs[xs.length - 1]? with
    | some d => (match changeS i xs.dropLast env with
      | .ok _ env => .ok d env
      | _ => .stuck)
    | none => .stuck)
  | none => .stuck
theorem DpAll_dropLast {K : PySem.W.Frag} {H : Hp} {vs : List V} {ds : List D} (h : DpAll K H vs ds) : DpAll K H vs.dropLast ds.dropLast := by
  rw [List.dropLast_eq_take, List.dropLast_eq_take, h.len]
  exact h.take _
theorem de_pop {i : Nat} {x : Str} {p1 p2 p3 : Pos} (hN : c.N[i]? = some x) (hv : Vis c.sc x) (hd : (x == ("__debug__" : Str)) = false) (hcd : (x == ("__classdict__" : Str)) = false)
    (hbase : ∀ env : PySem.Env, attributeBase (.Name x p1) "pop" env (eval (.Name x p1) env) = eval (.Name x p1) env) (hline : (p2.endLine == p3.line) = true) :
    DE M c (.Call (.Attribute (.Name x p1) "pop" p2) [] [] p3) (popD i) := by
  refine ⟨fun X G W tk F env σ H Q R h => ?_⟩
  refine WE.of (pe_bm0 PySem.F.plainAttrs_list PySem.F.slot_list_pop PySem.F.type_list_pop mt_pop (G.var hN hv hd hcd) (hbase X.env) hline) ?_
  unfold popD at h
  cases q : lend env i with
  | none => rw [q] at h; exact h.elim
  | some xs =>
    simp only [q] at h
    obtain ⟨s0, a, us, l1, l2, l3, l4, l5⟩ := lend_ok R q
    refine ⟨_, l3, tyL (SqL.of l4), ?_⟩
    cases q1 : xs[xs.length - 1]? with
    | none => simp only [q1] at h; exact h.elim
    | some d =>
      simp only [q1] at h
      obtain ⟨v, hv, pv⟩ := l5.get q1
      refine ⟨a, us, v, rfl, rfl, l4, by rw [l5.len]; exact hv, ?_⟩
      obtain ⟨R2, g2⟩ := R.change l1 l2 l3 (DpAll_dropLast l5)
      unfold changeS at h
      rcases Slot.mut_of l2 with ⟨zs, rfl⟩ | ⟨zs, rfl⟩
      · simp only [l1] at h
        exact h v _ R2 g2 (Dp.same g2 pv)
      · simp only [l1] at h
        exact h v _ R2 g2 (Dp.same g2 pv)
/-- xs[i] = e -/
def subS (i : Nat) (fe fi : Sl → Out D) : Sl → Out Flw := fun env => (fe env).bind fun d env => match lend env i with
  | some _ => (fi env).bind fun ix env => (match lend env i, ix with
    | some xs, .int k => (match ixN xs.length k with
      | some j => changeS i (xs.set j d) env
      | none => .stuck)
    | _, _ => .stuck)
  | none => .stuck
def SubPlain (o i : Expr) (pos : Pos) (env : PySem.Env) : Prop := ∀ v, assign (.Subscript o i pos) env v = (do
      let ov ← holding [v] (eval o env)
      let iv ← holding [v, ov] (eval i env)
      standAt pos
      holding [v, ov, iv] (setItem ov iv v)
      release [v, ov, iv] [])
theorem ds_sub {i : Nat} {x : Str} {ie : Expr} {fi : Sl → Out D} {p1 p2 : Pos} (hN : c.N[i]? = some x) (hv : Vis c.sc x) (hd : (x == ("__debug__" : Str)) = false) (hcd : (x == ("__classdict__" : Str)) = false) (he : DE M c e fe) (hi : DE M c ie fi)
    (ha : ∀ env : PySem.Env, SubPlain (.Name x p1) ie p2 env) (hs : ∀ env : PySem.Env, swapsWithSole [.Subscript (.Name x p1) ie p2] e pos.line env = pure false) (hw : ∀ env : PySem.Env, swappedStores [.Subscript (.Name x p1) ie p2] e env = pure Option.none)
    (h1 : ∀ env : PySem.Env, (assignEach [.Subscript (.Name x p1) ie p2] env).map (·.2) = [assign (.Subscript (.Name x p1) ie p2) env]) : DS M c (.Assign [.Subscript (.Name x p1) ie p2] e pos) (subS i fe fi) := by
  refine ⟨fun X G W tk F env σ H E R h => ?_⟩
  refine WS.of (ps_asg pe_we (pg_sub (G.var hN hv hd hcd) (pe_we (X := X) (e := ie)) set_list (ha X.env)) (hs X.env) (hw X.env) (h1 X.env)) ?_
  refine he.run X G.toGood W tk F env σ H _ R (PostS.split h fun d env1 v H1 _ R1 g1 p1 h1 => ?_)
  cases q : lend env1 i with
  | none => simp only [q] at h1; exact h1.elim
  | some xs0 =>
    simp only [q] at h1
    obtain ⟨s0, a, us, l1, l2, l3, l4, l5⟩ := lend_ok R1 q
    refine ⟨_, l3, ?_⟩
    refine hi.run X G.toGood W tk F env1 σ H1 _ R1 (PostS.split h1 fun ix env2 iv H2 _ R2 g2 p2 h2 => ?_)
    cases q1 : lend env2 i with
    | none => simp only [q1] at h2; exact h2.elim
    | some xs =>
      obtain ⟨k, rfl⟩ : ∃ k, ix = .int k := by
        cases ix <;> first | exact ⟨_, rfl⟩ | (simp only [q1] at h2; exact h2.elim)
      simp only [q1] at h2
      obtain ⟨s1, a1, us1, k1, k2, k3, k4, k5⟩ := lend_ok R2 q1
      rw [l3] at k3
      cases k3
      cases p2
      cases q2 : ixN xs.length k with
      | none => simp only [q2] at h2; exact h2.elim
      | some j =>
        simp only [q2] at h2
        exact ⟨a, us1, k, j, rfl, rfl, k4, by rw [k5.len]; exact q2, change_ok R2 Grow.refl k1 k2 l3 (DpAll.set (Dp.same g2 p1) j k5) h2⟩
/-! ### name op= e -/
def anyIp (X : Cx) (op : Operator) : TIp := fun x y H Q => ∃ t, PIp X op t ∧ t x y H Q
theorem anyIp_ok {X : Cx} {op : Operator} : PIp X op (anyIp X op) := fun pins s σ H x y v u Q I rx ry h => by
  obtain ⟨r, h1, h2⟩ := h
  exact h1 pins s σ H x y v u Q I rx ry h2
def AopD (M : Mdl) (c : Cf) (op : Operator) (g : D → D → Option D) : Prop := ∀ (X : Cx), Good M c X → ∀ (H : Hp) (Hd : Addr → Prop) (x y : V) (d1 d2 d : D) (Q : VK), (∀ b, Hd b → H b ≠ Option.none) →
  Dp M.K (minus H Hd) x d1 → Dp M.K (minus H Hd) y d2 → g d1 d2 = some d → (∀ v H', Same H H' → Dp M.K (minus H' Hd) v d → Q v H') → anyIp X op x y H Q
def augS (g : D → D → Option D) (i : Nat) (fe : Sl → Out D) : Sl → Out Flw := fun env => match env[i]? with
  | some (.val d1) => (fe env).bind fun d2 env => (match g d1 d2 with
    | some d => storeS (putS i) d env
    | none => .stuck)
  | _ => .stuck
theorem ds_aug {i : Nat} {x : Str} {op : Operator} {g : D → D → Option D} {pos' : Pos} (ho : AopD M c op g) (hN : c.N[i]? = some x) (hx : Loc c.sc x) (hf : c.fn x = true ∨ c.sc.names.lookup x = some .local) (he : DE M c e fe) : DS M c (.AugAssign (.Name x pos') op e pos) (augS g i fe) := by
  refine ⟨fun X G W tk F env σ H E R h => ?_⟩
  refine WS.of (ps_aug (by rw [G.N]; exact G.nd) (by rw [G.N]; exact hN) (by rw [G.sc]; exact hx) pe_we anyIp_ok (by rw [G.fn, G.sc]; exact hf)) ?_
  unfold augS at h
  cases q : env[i]? with
  | none => rw [q] at h; exact h.elim
  | some s =>
    rw [q] at h
    cases s <;> first | exact h.elim | skip
    rename_i d1
    obtain ⟨o, e1, v1, rfl, p1⟩ := R.slot i _ q
    refine ⟨v1, e1, he.run X G.toGood W tk F env σ H _ R (PostS.split h fun d2 env1 v2 H1 _ R1 g1 p2 h1 => ?_)⟩
    cases q1 : g d1 d2 with
    | none => simp only [q1] at h1; exact h1.elim
    | some d =>
      simp only [q1] at h1
      refine ho X G.toGood H1 (F.Hid env1 σ) v1 v2 d1 d2 d _ (fun _ => R1.hid_live) (Dp.same g1 p1) p2 q1 fun v H' sm pv => ?_
      unfold storeS at h1
      cases q2 : putS i d env1 with
      | none => rw [q2] at h1; exact h1.elim
      | some env2 =>
        rw [q2] at h1
        obtain ⟨R2, g2, _⟩ := (R1.grow sm).putV pv q2
        exact h1 _ H' R2 ((Grow.of sm).trans g2)
def iaddD (a b : D) : Option D := match a, b with
  | .int i, .int j => some (.int (i + j))
  | _, _ => none
def isubD (a b : D) : Option D := match a, b with
  | .int i, .int j => some (.int (i - j))
  | _, _ => none
def imulD (a b : D) : Option D := match a, b with
  | .int i, .int j => if mulOk i j = true then some (.int (i * j)) else none
  | _, _ => none
theorem a_add : AopD M c .Add iaddD := by
  intro X G H Hd x y d1 d2 d Q hl p1 p2 e k
  unfold iaddD at e
  split at e
  · cases e
    cases p1
    cases p2
    exact ⟨_, ip_add, _, _, rfl, rfl, k _ H (Same.refl _) (.int _)⟩
  · cases e
theorem a_sub : AopD M c .Sub isubD := by
  intro X G H Hd x y d1 d2 d Q hl p1 p2 e k
  unfold isubD at e
  split at e
  · cases e
    cases p1
    cases p2
    exact ⟨_, ip_sub, _, _, rfl, rfl, k _ H (Same.refl _) (.int _)⟩
  · cases e
end
end DL
end
section
set_option Elab.async false
set_option linter.all false
set_option maxRecDepth 100000
set_option maxHeartbeats 4000000
/-! DL13: xs += [..]; several names at once. -/
namespace DL
open PySem PySem.Spec PyProof.Rows L2

section
variable {M : Mdl} {c : Cf} {pos : Pos} {e : Expr} {fe : Sl → Out D}
theorem set_self {σ : St} {i : Nat} {o : Option V} (h : σ[i]? = some o) : σ.set i o = σ := by
  apply List.ext_getElem?
  intro j
  by_cases hj : i = j
  · subst hj
    rw [List.getElem?_set_self (List.getElem?_eq_some_iff.mp h).1, h]
  · rw [List.getElem?_set_ne hj]
def extS (i : Nat) (fF : Sl → Out (List D)) : Sl → Out Flw := fun env => match lend env i with
  | some _ => (fF env).bind fun ds env => (match lend env i with
    | some xs => if xs.length + ds.length ≤ 16777216 then changeS i (xs ++ ds) env else .stuck
    | none => .stuck)
  | none => .stuck
theorem ds_ext {i : Nat} {x : Str} {pos' : Pos} {fF : Sl → Out (List D)} (hN : c.N[i]? = some x) (hx : Loc c.sc x) (hf : c.fn x = true ∨ c.sc.names.lookup x = some .local) (he : DF M c e fF) : DS M c (.AugAssign (.Name x pos') .Add e pos) (extS i fF) := by
  refine ⟨fun X G W tk F env σ H E R h => ?_⟩
  refine WS.of (ps_aug (ti := rExt2) (by rw [G.N]; exact G.nd) (by rw [G.N]; exact hN) (by rw [G.sc]; exact hx) pe_we (iop_ext (X := X)) (by rw [G.fn, G.sc]; exact hf)) ?_
  unfold extS at h
  cases q : lend env i with
  | none => rw [q] at h; exact h.elim
  | some xs0 =>
    simp only [q] at h
    obtain ⟨s0, a, us, l1, l2, l3, l4, l5⟩ := lend_ok R q
    refine ⟨_, l3, he.run X G.toGood W tk F env σ H _ R (PostS.splitF h fun ds env1 p vs H1 _ R1 s1 h0 nh hp pd h1 => ?_)⟩
    cases q1 : lend env1 i with
    | none => simp only [q1] at h1; exact h1.elim
    | some xs =>
      simp only [q1] at h1
      obtain ⟨R2, s2⟩ := R1.drop nh
      obtain ⟨s3, a1, us1, k1, k2, k3, k4, k5⟩ := lend_ok R2 q1
      rw [l3] at k3
      cases k3
      have pd2 := DpAll.same s2 pd
      split at h1
      · rename_i hle
        refine ⟨a, p, us1, vs, rfl, rfl, k4, hp, by rw [k5.len, pd.len, szl]; exact hle, ?_⟩
        show E.nx (σ.set i (some (.ref a))) _
        rw [set_self l3]
        exact change_ok R2 (Same.trans s1 s2) k1 k2 l3 (k5.app pd2) h1
      · exact h1.elim

/-! ### a, b = x, y -/
inductive PEx where
  | v (f : Sl → Out D)
  | n (f : Sl → Out (List D))
def PEx.Of (M : Mdl) (c : Cf) (e : Expr) : PEx → Prop
  | .v f => DE M c e f
  | .n f => DF M c e f
/-- what came: data, or a new list -/
inductive Got where
  | v (d : D)
  | n (ds : List D)
def PEx.run {β : Type} : PEx → (Got → Sl → Out β) → Sl → Out β
  | .v f, k, env => (f env).bind fun d env => k (.v d) env
  | .n f, k, env => (f env).bind fun ds env => k (.n ds) env
def putG (i : Nat) (g : Got) (env : Sl) : Option Sl := match g with
  | .v d => putS i d env
  | .n ds => match env[i]? with
    | some s => if s.free = true then some (env.set i (.ml ds)) else none
    | none => none
def parS (i j : Nat) (a b : PEx) : Sl → Out Flw := a.run fun x env => b.run (fun y env => match putG i x env with
  | some env => (match putG j y env with
    | some env => .ok .nx env
    | none => .stuck)
  | none => .stuck) env
/-- a name takes the new list -/
theorem take_new {F : Act} {env1 env2 : Sl} {σ : St} {H1 : Hp} {i : Nat} {p : Addr} {vs : List V} {ds : List D} (R1 : Rel M.kx (F.add p vs) env1 σ H1) (h0 : F.H0 p = Option.none) (nh : ¬ F.Hid env1 σ p)
    (pd : DpAll M.K ((F.add p vs).pub env1 σ H1) vs ds) (h : putG i (.n ds) env1 = some env2) : Rel M.kx F env2 (σ.set i (some (.ref p))) H1 ∧ Same ((F.add p vs).pub env1 σ H1) (F.pub env2 (σ.set i (some (.ref p))) H1) := by
  have hp : H1 p = some (.lst vs) := R1.pv p _ upd_same
  unfold putG at h
  cases q : env1[i]? with
  | none => simp only [q] at h; cases h
  | some s =>
    simp only [q] at h
    split at h
    · rename_i hf
      cases h
      obtain ⟨R2, s2⟩ := R1.drop nh
      have s3 : Same ((F.add p vs).pub env1 σ H1) (minus H1 (fun b => F.Hid env1 σ b ∨ b = p)) := minus_less fun b z => add_hid.mpr z
      obtain ⟨R3, s4⟩ := R2.putNew q hf hp nh h0 (DpAll.same s3 pd) fun j t o e1 e2 => by
        obtain ⟨o', e3, k⟩ := R1.slot j t e1
        rw [e2] at e3
        cases e3
        exact k.same s3 (Same.refl _)
      exact ⟨R3, Same.trans s3 s4⟩
    · cases h
theorem Rel.npv {F : Act} {env : Sl} {σ : St} {p : Addr} (nh : ¬ F.Hid env σ p) : ¬ F.Pv p := fun z => nh (.inr (.inl z))
theorem ErrIs.same {K : PySem.W.Frag} {mg : Str → Option Value} {Hm Hm' H : Hp} {cls : Value} {dd : Option Addr} {C : Str} {fs : List (Str × D)} (s : Same Hm Hm') (h : ErrIs K mg Hm H cls dd C fs) : ErrIs K mg Hm' H cls dd C fs := by
  obtain ⟨a1, d1, ws, e1, e2, e3, e4, e5⟩ := h
  exact ⟨a1, d1, ws, e1, e2, e3, s _ _ e4, FsOk.same s e5⟩
theorem err_drop {F : Act} {env env2 : Sl} {σ σ2 : St} {H H2 : Hp} {E : Ends} {W : WX} {p : Addr} {vs : List V} {cls : Value} {dd : Option Addr} {C : Str} {fs : List (Str × D)} (R2 : Rel M.kx (F.add p vs) env2 σ2 H2) (h0 : F.H0 p = Option.none) (hpv : ¬ F.Pv p)
    (s : Same (F.pub env σ H) ((F.add p vs).pub env2 σ2 H2)) (e2 : ErrIs M.K M.mg ((F.add p vs).pub env2 σ2 H2) H2 cls dd C fs) (h : PostS M F env σ H E W (.err C fs env2)) : W cls dd σ2 H2 := by
  obtain ⟨R3, s3⟩ := R2.drop (R2.nhid h0 hpv)
  exact h cls dd σ2 H2 R3 (Same.trans s s3) (ErrIs.same s3 e2)
theorem par_ok {X : Cx} {F : Act} {env : Sl} {σ : St} {H : Hp} {E : Ends} {W : WX} {i j : Nat} {a b : Expr} {xa xb : PEx} (G : Good M c X) (tk : Takes X W) (hij : i ≠ j) (ha : xa.Of M c a) (hb : xb.Of M c b) (R : Rel M.kx F env σ H) (h : PostS M F env σ H E W (parS i j xa xb env)) :
    WE X a σ H fun v H1 => WE X b σ H1 fun w H2 => E.nx ((σ.set i (some v)).set j (some w)) H2 := by
  cases xa with
  | v fa =>
    cases xb with
    | v fb =>
      have ha : DE M c a fa := ha
      have hb : DE M c b fb := hb
      have h : PostS M F env σ H E W ((fa env).bind fun x env => (fb env).bind fun y env => match putS i x env with
        | some env => (match putS j y env with
          | some env => .ok .nx env
          | none => .stuck)
        | none => .stuck) := h
      refine ha.run X G W tk F env σ H _ R (PostS.split h fun d1 env1 v1 H1 _ R1 g1 p1 h1 => ?_)
      refine hb.run X G W tk F env1 σ H1 _ R1 (PostS.split h1 fun d2 env2 v2 H2 _ R2 g2 p2 h2 => ?_)
      cases q1 : putS i d1 env2 with
      | none => simp only [q1] at h2; exact h2.elim
      | some env3 =>
        simp only [q1] at h2
        obtain ⟨R3, g3, _⟩ := R2.putV (Dp.same g2 p1) q1
        cases q2 : putS j d2 env3 with
        | none => simp only [q2] at h2; exact h2.elim
        | some env4 =>
          simp only [q2] at h2
          obtain ⟨R4, g4, _⟩ := R3.putV (Dp.same g3 p2) q2
          exact h2 _ H2 R4 (g3.trans g4)
    | n fb =>
      have ha : DE M c a fa := ha
      have hb : DF M c b fb := hb
      have h : PostS M F env σ H E W ((fa env).bind fun x env => (fb env).bind fun y env => match putS i x env with
        | some env => (match putG j (.n y) env with
          | some env => .ok .nx env
          | none => .stuck)
        | none => .stuck) := h
      refine ha.run X G W tk F env σ H _ R (PostS.split h fun d1 env1 v1 H1 _ R1 g1 p1 h1 => ?_)
      refine hb.run X G W tk F env1 σ H1 _ R1 (PostS.splitF h1 fun d2 env2 p vs H2 _ R2 s2 h0 nh hp pd h2 => ?_)
      cases q1 : putS i d1 env2 with
      | none => simp only [q1] at h2; exact h2.elim
      | some env3 =>
        simp only [q1] at h2
        obtain ⟨R3, g3, _⟩ := R2.putV (Dp.same s2 p1) q1
        cases q2 : putG j (.n d2) env3 with
        | none => simp only [q2] at h2; exact h2.elim
        | some env4 =>
          simp only [q2] at h2
          obtain ⟨R4, s4⟩ := take_new R3 h0 (R3.nhid h0 (Rel.npv nh)) (DpAll.same g3 pd) q2
          exact h2 _ H2 R4 (Same.trans s2 (Same.trans g3 s4))
  | n fa =>
    cases xb with
    | v fb =>
      have ha : DF M c a fa := ha
      have hb : DE M c b fb := hb
      have h : PostS M F env σ H E W ((fa env).bind fun x env => (fb env).bind fun y env => match putG i (.n x) env with
        | some env => (match putS j y env with
          | some env => .ok .nx env
          | none => .stuck)
        | none => .stuck) := h
      refine ha.run X G W tk F env σ H _ R (PostS.splitF h fun d1 env1 p vs H1 _ R1 s1 h0 nh hp pd h1 => ?_)
      cases qb : fb env1 with
      | stuck => rw [qb] at h1; exact h1.elim
      | err C fs env2 =>
        refine hb.run X G W tk (F.add p vs) env1 σ H1 _ R1 ?_
        rw [qb] at h1 ⊢
        exact fun cls dd H2 R2 g2 e2 => err_drop R2 h0 (Rel.npv nh) (Same.trans s1 g2) e2 h1
      | ok d2 env2 =>
        refine hb.run X G W tk (F.add p vs) env1 σ H1 _ R1 ?_
        rw [qb] at h1 ⊢
        have h1 : PostS M F env σ H E W (match putG i (.n d1) env2 with
        | some env => (match putS j d2 env with
          | some env => .ok .nx env
          | none => .stuck)
        | none => .stuck) := h1
        intro v2 H2 R2 g2 p2
        cases q1 : putG i (.n d1) env2 with
        | none => simp only [q1] at h1; exact h1.elim
        | some env3 =>
          simp only [q1] at h1
          obtain ⟨R3, s3⟩ := take_new R2 h0 (R2.nhid h0 (Rel.npv nh)) (DpAll.same g2 pd) q1
          cases q2 : putS j d2 env3 with
          | none => simp only [q2] at h1; exact h1.elim
          | some env4 =>
            simp only [q2] at h1
            obtain ⟨R4, g4, _⟩ := R3.putV (Dp.same s3 p2) q2
            exact h1 _ H2 R4 (Same.trans s1 (Same.trans g2 (Same.trans s3 g4)))
    | n fb =>
      have ha : DF M c a fa := ha
      have hb : DF M c b fb := hb
      have h : PostS M F env σ H E W ((fa env).bind fun x env => (fb env).bind fun y env => match putG i (.n x) env with
        | some env => (match putG j (.n y) env with
          | some env => .ok .nx env
          | none => .stuck)
        | none => .stuck) := h
      refine ha.run X G W tk F env σ H _ R (PostS.splitF h fun d1 env1 p vs H1 _ R1 s1 h0 nh hp pd h1 => ?_)
      cases qb : fb env1 with
      | stuck => rw [qb] at h1; exact h1.elim
      | err C fs env2 =>
        refine hb.run X G W tk (F.add p vs) env1 σ H1 _ R1 ?_
        rw [qb] at h1 ⊢
        exact fun cls dd H2 R2 g2 e2 => err_drop R2 h0 (Rel.npv nh) (Same.trans s1 g2) e2 h1
      | ok d2 env2 =>
        refine hb.run X G W tk (F.add p vs) env1 σ H1 _ R1 ?_
        rw [qb] at h1 ⊢
        have h1 : PostS M F env σ H E W (match putG i (.n d1) env2 with
        | some env => (match putG j (.n d2) env with
          | some env => .ok .nx env
          | none => .stuck)
        | none => .stuck) := h1
        intro p2 vs2 H2 R2 s2 h02 nh2 hp2 pd2
        have hpne : p2 ≠ p := fun z => nh2 (add_hid.mpr (.inr z))
        cases q1 : putG i (.n d1) env2 with
        | none => simp only [q1] at h1; exact h1.elim
        | some env3 =>
          simp only [q1] at h1
          cases q2 : putG j (.n d2) env3 with
          | none => simp only [q2] at h1; exact h1.elim
          | some env4 =>
            simp only [q2] at h1
            -- j first, then i
            have q2' : ∃ env5, putG j (.n d2) env2 = some env5 ∧ putG i (.n d1) env5 = some env4 := by
              unfold putG at q1 q2 ⊢
              cases e1 : env2[i]? with
              | none => simp only [e1] at q1; cases q1
              | some si =>
                simp only [e1] at q1
                split at q1
                · rename_i f1
                  cases q1
                  rw [List.getElem?_set_ne hij] at q2
                  cases e2 : env2[j]? with
                  | none => simp only [e2] at q2; cases q2
                  | some sj =>
                    simp only [e2] at q2
                    split at q2
                    · rename_i f2
                      cases q2
                      refine ⟨_, by simp only [e2]; rw [if_pos f2], ?_⟩
                      rw [List.getElem?_set_ne (Ne.symm hij), e1]
                      simp only []
                      rw [if_pos f1, List.set_comm _ _ (Ne.symm hij)]
                    · cases q2
                · cases q1
            obtain ⟨env5, k1, k2⟩ := q2'
            obtain ⟨R3, s3⟩ := take_new (F := F.add p vs) R2 h02 nh2 pd2 k1
            obtain ⟨R4, s4⟩ := take_new R3 h0 (R3.nhid h0 (Rel.npv nh)) (DpAll.same s3 (DpAll.same s2 pd)) k2
            rw [List.set_comm _ _ (Ne.symm hij)] at R4 s4
            exact h1 _ H2 R4 (Same.trans s1 (Same.trans s2 (Same.trans s3 s4)))
theorem ds_par {i j : Nat} {x y : Str} {a b : Expr} {xa xb : PEx} {px py pt : Pos} {kt k2 pt2} (hc : c.calm = true) (hN : c.N[i]? = some x) (hN2 : c.N[j]? = some y) (hij : i ≠ j) (hx : c.sc.names.lookup x = some .local) (hy : c.sc.names.lookup y = some .local)
    (ha : xa.Of M c a) (hb : xb.Of M c b) (hsa : ∀ env : PySem.Env, starEach [a, b] env = (false, eval a env) :: starEach [b] env) (hsb : ∀ env : PySem.Env, starEach [b] env = (false, eval b env) :: starEach [] env)
    (hw : ∀ env : PySem.Env, env.scope.kind = .function → env.scope.names.lookup x = some .local → env.scope.names.lookup y = some .local → swappedStores [.Tuple [.Name x px, .Name y py] kt pt] (.Tuple [a, b] k2 pt2) env = pure (some [x, y]))
    (hs : ∀ env : PySem.Env, swapsWithSole [.Tuple [.Name x px, .Name y py] kt pt] (.Tuple [a, b] k2 pt2) pos.line env = pure false) :
    DS M c (.Assign [.Tuple [.Name x px, .Name y py] kt pt] (.Tuple [a, b] k2 pt2) pos) (parS i j xa xb) := by
  refine ⟨fun X G W tk F env σ H E R h => ?_⟩
  have hx' : X.env.scope.names.lookup x = some .local := by rw [G.sc]; exact hx
  have hy' : X.env.scope.names.lookup y = some .local := by rw [G.sc]; exact hy
  refine WS.of (ps_par (G.calm hc) (by rw [G.N]; exact G.nd) (by rw [G.N]; exact hN) (by rw [G.N]; exact hN2) hij hx' hy' (pa_cons pe_we (pa_cons pe_we pa_nil (hsb X.env)) (hsa X.env)) (hw X.env G.kind hx' hy') (hs X.env)) ?_
  have z := par_ok G.toGood tk hij ha hb R h
  exact fun pins s I => thn (z pins s I) fun u s' ⟨v, H', I', r, q⟩ => ⟨v, H', I', r, fun pins2 s2 I2 => thn (q pins2 s2 I2) fun u2 s3 ⟨w, H3, I3, r3, q3⟩ => ⟨w, H3, I3, r3, v, w, rfl, q3⟩⟩
end
end DL
end
section
set_option Elab.async false
set_option linter.all false
set_option maxRecDepth 100000
set_option maxHeartbeats 4000000
/-! DL14: a def by its body; a law's end. -/
namespace DL
open PySem PySem.Spec PyProof.Rows L2

def outsOf : List Slot → Sl → Option (List Slot)
  | [], _ => some []
  | .mb _ :: r, .mb ys :: e => (outsOf r e).map (.mb ys :: ·)
  | .mb _ :: _, _ => none
  | .no :: r, _ :: e => (outsOf r e).map (.no :: ·)
  | .val _ :: r, _ :: e => (outsOf r e).map (.no :: ·)
  | .ml _ :: r, _ :: e => (outsOf r e).map (.no :: ·)
  | .er _ _ :: r, _ :: e => (outsOf r e).map (.no :: ·)
  | .no :: _, [] => none
  | .val _ :: _, [] => none
  | .ml _ :: _, [] => none
  | .er _ _ :: _, [] => none
theorem outs_len2 : ∀ {args : List Slot} {env : Sl} {outs : List Slot}, outsOf args env = some outs → outs.length = args.length
  | [], _, _, h => by cases h; rfl
  | a :: r, e :: env, outs, h => by
    cases a <;> cases e <;> simp only [outsOf] at h <;> first
      | (obtain ⟨o, h1, rfl⟩ := Option.map_eq_some_iff.mp h; simp [outs_len2 h1])
      | cases h
  | a :: r, [], outs, h => by cases a <;> simp only [outsOf] at h <;> cases h
theorem outs_at : ∀ {args : List Slot} {env : Sl} {outs : List Slot} {i : Nat} {xs : List D}, outsOf args env = some outs → args[i]? = some (.mb xs) → ∃ ys, env[i]? = some (.mb ys) ∧ outs[i]? = some (.mb ys)
  | [], _, _, _, _, _, e => by simp at e
  | a :: r, [], outs, _, _, h, _ => by cases a <;> simp only [outsOf] at h <;> cases h
  | a :: r, e :: env, outs, 0, xs, h, q => by
    simp at q
    subst q
    cases e <;> simp only [outsOf] at h <;> first
      | (obtain ⟨o, h1, rfl⟩ := Option.map_eq_some_iff.mp h; exact ⟨_, rfl, rfl⟩)
      | cases h
  | a :: r, e :: env, outs, i + 1, xs, h, q => by
    have q' : r[i]? = some (.mb xs) := by simpa using q
    cases a <;> cases e <;> simp only [outsOf] at h <;> first
      | (obtain ⟨o, h1, rfl⟩ := Option.map_eq_some_iff.mp h; obtain ⟨ys, k1, k2⟩ := outs_at h1 q'; exact ⟨ys, by simpa using k1, by simpa using k2⟩)
      | cases h

/-- a def, by its body: m names, n parameters -/
def defE (m n : Nat) (f : Sl → Out Flw) (args : List Slot) : FOut := if args.length = n then (match f (args ++ List.replicate (m - n) .no) with
  | .ok (.ret d) env => (match outsOf args env with
    | some outs => .ok d outs
    | none => .stuck)
  | .ok .nx env => (match outsOf args env with
    | some outs => .ok .none outs
    | none => .stuck)
  | .err C fs env => (match outsOf args env with
    | some outs => .err C fs outs
    | none => .stuck)
  | _ => .stuck) else .stuck
theorem defE_len {m n : Nat} {f : Sl → Out Flw} {args : List Slot} : (defE m n f args).Len n := by
  unfold defE
  split
  · rename_i hl
    split
    · split
      · rename_i h; show _ = _; rw [outs_len2 h, hl]
      · trivial
    · split
      · rename_i h; show _ = _; rw [outs_len2 h, hl]
      · trivial
    · split
      · rename_i h; show _ = _; rw [outs_len2 h, hl]
      · trivial
    · trivial
  · trivial

def borOf (args : List Slot) (vs : List V) (i : Nat) : Option Addr := match args[i]?, vs[i]? with
  | some (.mb _), some (.ref a) => some a
  | _, _ => none
theorem borOf_some {args : List Slot} {vs : List V} {i : Nat} {a : Addr} : borOf args vs i = some a ↔ ∃ xs, args[i]? = some (.mb xs) ∧ vs[i]? = some (.ref a) := by
  unfold borOf
  constructor
  · intro h
    split at h
    · rename_i xs b e1 e2
      cases h
      exact ⟨xs, e1, e2⟩
    · cases h
  · rintro ⟨xs, e1, e2⟩
    rw [e1, e2]
def actOf (G : Addr → Prop) (H : Hp) (args : List Slot) (vs : List V) : Act := ⟨H, G, borOf args vs, fun _ => none⟩
section
variable {K : PySem.W.Frag} {xc : Addr → Str → Addr → Prop} {G : Addr → Prop} {H : Hp} {args : List Slot} {vs : List V}
theorem start_rel {N : List Str} {n : Nat} (A : ArgsOk K G H args vs) (hn : args.length = n) (hN : n ≤ N.length) : Rel ⟨K, xc⟩ (actOf G H args vs) (args ++ List.replicate (N.length - n) .no) (start N vs) H := by
  have hv : vs.length = n := by rw [← A.len, hn]
  -- a slot that tells something is an argument
  have arg : ∀ (i : Nat) (s : Slot), (args ++ List.replicate (N.length - n) .no)[i]? = some s → s ≠ .no → args[i]? = some s := fun i s h ne => by
    by_cases hi : i < args.length
    · rwa [List.getElem?_append_left hi] at h
    · rw [List.getElem?_append_right (by omega), List.getElem?_replicate] at h
      split at h
      · cases h; exact absurd rfl ne
      · cases h
  have sig : ∀ (i : Nat) (v : V), vs[i]? = some v → (start N vs)[i]? = some (some v) := fun i v h => by
    have hi : i < vs.length := (List.getElem?_eq_some_iff.mp h).1
    unfold L2.start
    rw [List.getElem?_append_left (by simpa using hi), List.getElem?_map, h]
    rfl
  have sig' : ∀ (i : Nat) (a : Addr), i < args.length → (start N vs)[i]? = some (some (.ref a)) → vs[i]? = some (.ref a) := fun i a hi h => by
    unfold L2.start at h
    rw [List.getElem?_append_left (by simp; omega), List.getElem?_map] at h
    cases q : vs[i]? with
    | none => rw [q] at h; cases h
    | some v => rw [q] at h; cases h; rfl
  have mutA : ∀ (i : Nat) (s : Slot) (a : Addr), (args ++ List.replicate (N.length - n) .no)[i]? = some s → s.mut = true → (start N vs)[i]? = some (some (.ref a)) → ∃ xs, s = .mb xs ∧ args[i]? = some (.mb xs) ∧ vs[i]? = some (.ref a) ∧ G a := fun i s a h m q => by
    have h1 := arg i s h (fun z => by subst z; cases m)
    have q1 := sig' i a (List.getElem?_eq_some_iff.mp h1).1 q
    obtain ⟨v, e1, k⟩ := A.arg i s h1
    rcases Slot.mut_of m with ⟨xs, rfl⟩ | ⟨xs, rfl⟩
    · exact k.elim
    · obtain ⟨b, us, e2, hG, _, _⟩ := k
      rw [e2, q1] at e1
      cases e1
      exact ⟨xs, rfl, h1, q1, hG⟩
  have hid : ∀ b, (actOf G H args vs).Hid (args ++ List.replicate (N.length - n) .no) (start N vs) b → G b := fun b z => by
    rcases z with z | ⟨o, z⟩ | ⟨i, s, h1, h2, h3⟩
    · exact z
    · cases z
    · obtain ⟨_, _, _, _, hG⟩ := mutA i s b h1 h2 h3
      exact hG
  have sm : Same (minus H G) ((actOf G H args vs).pub (args ++ List.replicate (N.length - n) .no) (start N vs) H) := minus_less hid
  refine ⟨?_, fun i s h => ?_, fun i j s t a h1 h2 m1 m2 q1 q2 => ?_, fun b o h _ => h, fun b ⟨i, h⟩ => ?_, fun b h => A.live b h, fun b h => A.live b h, fun b o h => ?_, fun i s a h1 m1 q1 => ?_, fun i xs a h1 h2 => ?_, fun i xs h => ?_⟩
  · unfold L2.start
    rw [List.length_append, List.length_append, List.length_replicate, List.length_replicate, List.length_map]
    omega
  · by_cases ne : s = .no
    · subst ne
      have hl : i < (start N vs).length := by
        have := (List.getElem?_eq_some_iff.mp h).1
        rw [List.length_append, List.length_replicate] at this
        unfold L2.start
        rw [List.length_append, List.length_replicate, List.length_map]
        omega
      exact ⟨_, List.getElem?_eq_getElem hl, trivial⟩
    · obtain ⟨v, e1, k⟩ := A.arg i s (arg i s h ne)
      refine ⟨_, sig i v e1, ?_⟩
      cases s with
      | no => trivial
      | val d => exact ⟨v, rfl, Dp.same sm k⟩
      | ml xs => exact k.elim
      | er C fs => exact k.elim
      | mb xs =>
        obtain ⟨a, us, rfl, hG, ha, hd⟩ := k
        exact ⟨a, us, rfl, ha, DpAll.same sm hd⟩
  · obtain ⟨xs, rfl, a1, b1, _⟩ := mutA i s a h1 m1 q1
    obtain ⟨ys, rfl, a2, b2, _⟩ := mutA j t a h2 m2 q2
    exact A.inj i j xs ys a a1 a2 b1 b2
  · obtain ⟨xs, e1, e2⟩ := borOf_some.mp h
    obtain ⟨v, e3, k⟩ := A.arg i _ e1
    obtain ⟨a, us, e4, hG, _⟩ := k
    rw [e2, e4] at e3
    cases e3
    exact hG
  · cases h
  · exact fun ⟨o, z⟩ => by cases z
  · obtain ⟨_, e, _⟩ := mutA i _ a h1 rfl h2
    cases e
  · have h1 := arg i _ h (fun z => by cases z)
    obtain ⟨v, e3, k⟩ := A.arg i _ h1
    obtain ⟨a, us, rfl, hG, _⟩ := k
    exact ⟨a, borOf_some.mpr ⟨xs, h1, e3⟩, sig i _ e3, hG⟩
theorem fin_ok {env : Sl} {σ : St} {H' : Hp} {outs : List Slot} (A : ArgsOk K G H args vs) (R : Rel ⟨K, xc⟩ (actOf G H args vs) env σ H') (e : outsOf args env = some outs) : FinOk K G H args vs H' outs := by
  refine ⟨fun b o h nb => R.frame b o h fun ⟨i, z⟩ => ?_, fun i xs h => ?_⟩
  · obtain ⟨xs, e1, e2⟩ := borOf_some.mp z
    exact nb ⟨i, xs, e1, e2⟩
  · obtain ⟨ys, k1, k2⟩ := outs_at e h
    obtain ⟨a, b1, b2, b3⟩ := R.lent i ys k1
    obtain ⟨o, e1, p⟩ := R.slot i _ k1
    obtain ⟨a2, us, rfl, ha, hd⟩ := p
    rw [b2] at e1
    cases e1
    obtain ⟨_, _, e2⟩ := borOf_some.mp b1
    exact ⟨ys, a, us, k2, e2, ha, DpAll.same (minus_less fun b z => .inl z) hd⟩
end

/-- THE RULE: a def, by its body -/
theorem fnG_of {M : Mdl} {k : Nat} {f : Addr} {name qual : Str} {params : Arguments} {body : List Stmt} {scope : Scope} {dV kV doc pm cdv ct oc : Value} {an od : Option Addr}
    {osl : Array (Option Value)} {N ps : List Str} {fb : Sl → Out Flw} (lk : M.K.lookup f = some ⟨oc, od, .func (PySem.W.fnOf name qual params body scope dV kV doc pm an cdv ct), osl⟩) (hcd : PySem.W.codeIn M.K cdv qual = true) (S : FnScope N ps scope) (hcold : ∀ a C d, ¬ M.exc a C d)
    (hbody : DSs M { k := k, N := N, sc := scope, fn := fun _ => true, calm := true } body fb) :
    FnG M (k + 1) f (PySem.W.fnOf name qual params body scope dV kV doc pm an cdv ct) ps (spD M.K M.mg ps.length (defE N.length ps.length fb)) := by
  refine ⟨fun vs H Q E h => h.1, fun A outer s H args us vs Q E hr hgd e0 hb r hsp => ?_⟩
  obtain ⟨hl, G, slots, hA, hsp⟩ := hsp
  have KX : M.K.In s.heap := e0.mod.kin.keeps fun b o e => (e0.bs b o e).1
  have lim : s.heap.NoLimit := e0.mod.nolimit.keeps fun b o e => (e0.bs b o e).1
  have hkind : ∀ y ∈ ps.zip us, scope.names.lookup y.1 = some .local ∨ (scope.names.lookup y.1 = some .cell ∧ ((cellsFrom (s.heap.objs.size + 1) scope.names []).lookup y.1).isSome = true) := fun ⟨n, v⟩ hy => by
    rcases S.par n (List.of_mem_zip hy).1 with q | q
    · exact .inl q
    · exact .inr ⟨q, PySem.W.cellsFrom_some _ _ _ (.inl q)⟩
  have hpl : ps.length ≤ N.length := by
    have := congrArg List.length S.pre
    rw [List.length_take] at this
    omega
  have hsl : slots.length = ps.length := hA.len.trans hl
  refine codeAny_call_function hr.depth (KX _ _ lk) rfl S.co S.gen rfl (PySem.W.codeRec_of KX hcd) (hb _ _ _ _ ?_)
  refine wpAny_newFunctionEnv_cells S.kind hkind fun env he s1 x => ?_
  subst he
  refine ⟨lim.keeps x.toInCall.keep, codeAny_func ?_⟩
  have I : Inv (cxOf (CX M.P M.w) M.P M.w M.K M.mg M.base N qual scope f cdv A outer s H E) [] (start N vs) H s1 := inv_start S hr.hd e0 hl r x
  have Gd : GoodS M { k := k, N := N, sc := scope, fn := fun _ => true, calm := true } (cxOf (CX M.P M.w) M.P M.w M.K M.mg M.base N qual scope f cdv A outer s H E) :=
    ⟨⟨rfl, rfl, rfl, rfl, rfl, rfl, rfl, rfl, S.nd, fun _ => rfl, fun _ => hr.deeper _, (hr.deeper _).un, (hr.deeper _).dp, hgd, fun _ => hcold, fun a C d z => (hcold a C d z).elim⟩, passes_of rfl, S.kind, rfl, rfl⟩
  have tk : Takes (cxOf (CX M.P M.w) M.P M.w M.K M.mg M.base N qual scope f cdv A outer s H E) (fun cls d _ H => E cls d H) := takes_of rfl rfl rfl rfl
  have R := start_rel (xc := M.exc) (N := N) hA hsl hpl
  have main := hbody.run _ Gd _ tk (actOf G H slots vs) _ (start N vs) H { nx := fun _ H' => Q .non H', rt := Q } R (by
    unfold defE at hsp
    rw [if_pos hsl] at hsp
    cases q : fb (slots ++ List.replicate (N.length - ps.length) .no) with
    | stuck => rw [q] at hsp; exact hsp.elim
    | err C fs env' =>
      rw [q] at hsp
      dsimp only at hsp
      cases q2 : outsOf slots env' with
      | none => rw [q2] at hsp; exact hsp.elim
      | some outs =>
        rw [q2] at hsp
        exact fun cls dd σ' H' R' g' e' => hsp cls dd H' (fin_ok hA R' q2) (ErrIs.same (minus_less fun b z => .inl z) e')
    | ok a env' =>
      rw [q] at hsp
      cases a with
      | br => exact hsp.elim
      | ct => exact hsp.elim
      | nx =>
        dsimp only at hsp
        cases q2 : outsOf slots env' with
        | none => rw [q2] at hsp; exact hsp.elim
        | some outs =>
          rw [q2] at hsp
          exact fun σ' H' R' g' => hsp .non H' (fin_ok hA R' q2) .non
      | ret d =>
        dsimp only at hsp
        cases q2 : outsOf slots env' with
        | none => rw [q2] at hsp; exact hsp.elim
        | some outs =>
          rw [q2] at hsp
          exact fun v σ' H' R' g' p' => hsp v H' (fin_ok hA R' q2) (Dp.same (minus_less fun b z => .inl z) p'))
  refine wpAny_mono (main [] s1 I) (fun fl s' hs => ?_) fun e s' hs => hs
  have fin : ∀ {σ' : St} {H' : Hp} {v : V} {u : Value}, Inv (cxOf (CX M.P M.w) M.P M.w M.K M.mg M.base N qual scope f cdv A outer s H E) [] σ' H' s' → RelV v u → Q v H' → CE outer M.P M.w H s Q u s' :=
    fun {σ' H' v u} J rv q => ⟨v, H', J.os, J.bare, J.base, J.hok, rv, q⟩
  cases fl with
  | ret u =>
    obtain ⟨v, σ', H', J, rv, q⟩ := hs
    exact fin J rv q
  | next =>
    obtain ⟨σ', H', J, q⟩ := hs
    exact fin (v := V.non) (u := Value.none) J rfl q
  | brk =>
    obtain ⟨_, _, _, q⟩ := hs
    exact False.elim q
  | cont =>
    obtain ⟨_, _, _, q⟩ := hs
    exact False.elim q
end DL
end
section
set_option Elab.async false
set_option linter.all false
set_option maxRecDepth 100000
set_option maxHeartbeats 4000000
/-! DL15: a law's end. -/
namespace DL
open PySem PySem.Spec PyProof.Rows L2

/-- the script alone, if it is told of: at a -/
structure Alone (H : Hp) (a : Addr) : Prop where
  only : ∀ b u, H b = some u → b = a ∧ ∃ o xs, u = .frz o (.lst xs)
theorem dp_ints {K : PySem.W.Frag} {H : Hp} : ∀ ns : List Int, DpAll K H (ns.map V.int) (ns.map PyData.int)
  | [] => .nil
  | _ :: ns => .cons (.int _) (dp_ints ns)
def lawTrue (l : List Slot → FOut) (ns : List Int) : Prop := ∃ outs, l [.val (.list (ns.map PyData.int))] = .ok (.bool true) outs
section
variable {P : Program} {w : World} {K : PySem.W.Frag} {mg mb : Str → Option Value} {k : Nat} {fa a : Addr} {fd : FuncData} {x : Str} {g : List Slot → FOut} {s : Shared} {vs : List Value} {ns : List Int} {H : Hp}
theorem end_at (KX : K.In s.heap) (hns : s.heap.Ns mainGlobals mg) (hb : s.heap.Ns builtinsNs mb) (hbb : ∀ x : Str, x ≠ "__name__" → mb x = bootBuiltins x) (hlim : s.heap.NoLimit) (hg : s.gens = #[])
    (ha : s.heap.get? a = some { cls := .type "list", data := .seq vs.toArray }) (hr : Room k callerA)
    (F : ∀ base : Heap, K.In base → base.Ns mainGlobals mg → FnG ⟨P, w, K, mg, base, fun _ _ _ => False⟩ k fa fd [x] (spD K mg 1 g)) (hbind : ∀ (s : Shared) (u : Value), BindsTo s fd ⟨[u], []⟩ [(x, u)])
    (hl : lawTrue g ns) (al : Alone H a) (hS : SqL K H a (ns.map V.int)) (hok : HOk P w H s.heap) (hK : H a ≠ Option.none → K.lookup a = Option.none) :
    codeAny (model P w) callerA (.call (.ref fa) ⟨[.ref a], []⟩) (fun r s' => r = .ok (.ret (.bool true)) ∧ OldK s.heap s'.heap ∧ s'.os = s.os ∧ AllBare s'.gens) s := by
  have free : ∀ b : Addr, b ≠ a → H b = Option.none := fun b n => by
    cases q : H b with
    | none => rfl
    | some u => exact absurd (al.only b u q).1 n
  have stay : ∀ {b : Addr} {o : Obj}, s.heap.get? b = some o → H b = Option.none → (hidT s.heap H).get? b = some o := fun e n => hidT_get e n
  have nsB : ∀ {b : Addr} {m : Str → Option Value}, s.heap.Ns b m → (hidT s.heap H).Ns b m := fun {b m} ⟨o, es, ep, e, d, r⟩ => by
    refine ⟨o, es, ep, stay e (free b fun z => ?_), d, r⟩
    rw [z, ha] at e
    cases e
    cases (show Data.seq vs.toArray _ = Data.dict es ep from d)
  have kin : K.In (hidT s.heap H) := fun b o e => stay (KX b o e) (by
    by_cases z : b = a
    · cases q : H a with
      | none => rw [z]; exact q
      | some u =>
        rw [z, hK (by rw [q]; exact fun y => nomatch y)] at e
        cases e
    · exact free b z)
  have md : Mod K mg (hidT s.heap H) := ⟨kin, nsB hns, ⟨mb, nsB hb, hbb⟩, let ⟨mc, h1, h2⟩ := hlim; ⟨mc, nsB h1, h2⟩⟩
  have e0 : Env0 P w K mg (hidT s.heap H) callerA [] s H := ⟨rfl, md, fun b o e => of_hidT e, Nat.le_of_eq (hidT_size _ _), trivial, (fun b (z : b ∈ ([] : List Addr)) => by simp at z), hok, .of_eq hg⟩
  obtain ⟨outs, hl⟩ := hl
  have sm : Same H (minus H (fun _ => False)) := fun b o e => minus_some.mpr ⟨fun z => z, e⟩
  have dp : Dp K (minus H (fun _ => False)) (.ref a) (.list (ns.map PyData.int)) := .lst (SqL.same sm hS) (dp_ints ns)
  have sp : spD K mg 1 g [.ref a] H (fun v _ => v = .bl true) (fun _ _ _ => False) := by
    refine ⟨rfl, fun _ => False, [.val (.list (ns.map PyData.int))], ⟨rfl, fun i t h => ?_, fun i j xs ys b h => ?_, fun b z => z.elim⟩, ?_⟩
    · cases i with
      | zero => cases h; exact ⟨_, rfl, dp⟩
      | succ i => cases h
    · cases i with
      | zero => cases h
      | succ i => cases h
    · rw [hl]
      intro v H' _ p
      cases p
      rfl
  refine codeAny_mono ((F _ kin (nsB hns)).go callerA [] s H ⟨[.ref a], []⟩ [.ref a] [.ref a] _ _ hr rfl e0 (hbind s (.ref a)) (.cons rfl .nil) sp) fun r s' h => ?_
  cases r with
  | error e =>
    obtain ⟨_, _, _, _, _, _, _, _, _, _, _, _, z⟩ := h
    exact z.elim
  | ok fl =>
    cases fl with
    | ret u =>
      obtain ⟨v, H', os, bare, un, hok', rv, q⟩ := h
      cases (show v = .bl true from q)
      cases (show u = Value.bool true from rv)
      refine ⟨rfl, OldK.of_keep fun b o e => ?_, os, bare⟩
      cases q : H b with
      | none => exact un.keep b o e q (fun z => absurd (show b ∈ ([] : List Addr) from z) (by simp)) (by simp)
      | some t =>
        obtain ⟨_, ob, xs, rfl⟩ := al.only b t q
        have e1 := (hok b _ q).1
        have e2 := (hok' b _ (un.frzs b ob _ q)).1
        rw [e] at e1
        cases e1
        exact e2
    | next => exact False.elim h
    | brk => exact False.elim h
    | cont => exact False.elim h
theorem law_end (KX : K.In s.heap) (hns : s.heap.Ns mainGlobals mg) (hb : s.heap.Ns builtinsNs mb) (hbb : ∀ x : Str, x ≠ "__name__" → mb x = bootBuiltins x) (hlim : s.heap.NoLimit) (hg : s.gens = #[])
    (ha : s.heap.get? a = some { cls := .type "list", data := .seq vs.toArray }) (hi : IntsAre vs ns) (hz : ns.length ≤ sizeLine) (hr : Room k callerA)
    (F : ∀ base : Heap, K.In base → base.Ns mainGlobals mg → FnG ⟨P, w, K, mg, base, fun _ _ _ => False⟩ k fa fd [x] (spD K mg 1 g)) (hbind : ∀ (s : Shared) (u : Value), BindsTo s fd ⟨[u], []⟩ [(x, u)]) (hl : lawTrue g ns) :
    codeAny (model P w) callerA (.call (.ref fa) ⟨[.ref a], []⟩) (fun r s' => r = .ok (.ret (.bool true)) ∧ OldK s.heap s'.heap ∧ s'.os = s.os ∧ AllBare s'.gens) s := by
  have rv := vals_ints hi
  have ln := hi.length
  cases hk : K.lookup a with
  | some o =>
    have e := KX a o hk
    rw [ha] at e
    cases e
    refine end_at (H := fun _ => Option.none) KX hns hb hbb hlim hg ha hr F hbind hl ⟨fun b u z => by cases (show (Option.none : Option HO) = some u from z)⟩ (.inr ⟨_, vs.toArray, _, hk, rfl, rfl, rfl, ?_, by simpa using rv⟩) (fun b u z => by cases (show (Option.none : Option HO) = some u from z)) fun z => absurd rfl z
    rw [List.size_toArray, ln]
    exact hz
  | none =>
    have at_a : (fun b => if b = a then some (HO.frz { cls := .type "list", data := .seq vs.toArray } (.lst (ns.map V.int))) else Option.none : Hp) a = some (HO.frz { cls := .type "list", data := .seq vs.toArray } (.lst (ns.map V.int))) := if_pos rfl
    have inv : ∀ b u, (fun b => if b = a then some (HO.frz { cls := .type "list", data := .seq vs.toArray } (.lst (ns.map V.int))) else Option.none : Hp) b = some u → b = a ∧ u = .frz { cls := .type "list", data := .seq vs.toArray } (.lst (ns.map V.int)) := fun b u z => by
      by_cases hb : b = a
      · exact ⟨hb, (Option.some.inj ((if_pos hb).symm.trans z)).symm⟩
      · cases (if_neg hb).symm.trans z
    refine end_at KX hns hb hbb hlim hg ha hr F hbind hl ⟨fun b u z => ⟨(inv b u z).1, _, _, (inv b u z).2⟩⟩ (.inl (.inr ⟨_, at_a⟩)) (fun b u z => ?_) fun _ => hk
    obtain ⟨rfl, rfl⟩ := inv b u z
    exact ⟨ha, by rw [List.length_map]; exact hz, vs, _, rv, ha⟩
end
/-- a law's walk -/
theorem walk_ofG {l : PySem.W.OpenLaw} {n k : Nat} {q : Program} {loose : List Str} {XP : (Str → Option Value) → Heap → Prop} {YP : World → Heap → Prop} {d : DefRec} {x : Str}
    (hn : l.most = some n) (hn2 : n ≤ sizeLine) (hdf : d.params.defaults = []) (hr : Room k callerA)
    (F : ∀ (w : World) (mg : Str → Option Value) (fa : Addr) (h : Heap), YP w h → h.Ns mainGlobals mg → mg d.name = some (.ref fa) →
      ∃ (K : PySem.W.Frag) (fd : FuncData) (g : List Slot → FOut), K.In h ∧ (∀ (s : Shared) (u : Value), BindsTo s fd ⟨[u], []⟩ [(x, u)]) ∧ (∀ ns : List Int, ns.length ≤ n → lawTrue g ns) ∧
        ∀ base : Heap, K.In base → base.Ns mainGlobals mg → FnG ⟨l.prog, w, K, mg, base, fun _ _ _ => False⟩ k fa fd [x] (spD K mg 1 g)) :
    PySem.W.WalkO q loose XP YP l.row.toRowW d [] (fun f vs => PySem.call f vs) := by
  refine Att.attach_call hn hdf fun w s₀ s₁ mg mb fa o pm cd doc a vs ns G Y ho hd hcd hmg hobj hints hlen hg => ?_
  obtain ⟨K, fd, g, KX, hb, hl, hF⟩ := F w mg fa _ Y G.T.g hmg
  exact law_end KX G.T.g G.T.b G.T.builtins G.T.nolimit hg hobj hints (Nat.le_trans hlen hn2) hr hF hb (hl ns hlen)
end DL
end
section
set_option Elab.async false
set_option linter.all false
set_option maxRecDepth 100000
set_option maxHeartbeats 4000000
/-! DL16: the same rules with their small conditions as one closed test each. -/
namespace DL
open PySem PySem.Spec PyProof.Rows L2

def visB (sc : Scope) (x : Str) : Bool := match sc.names.lookup x with
  | some .local => true
  | some .cell => true
  | some .free => true
  | _ => false
theorem vis_of {sc : Scope} {x : Str} (h : visB sc x = true) : Vis sc x := by
  unfold visB at h
  split at h
  · rename_i e; exact .inl e
  · rename_i e; exact .inr (.inl e)
  · rename_i e; exact .inr (.inr e)
  · cases h
def nmB (c : Cf) (i : Nat) (x : Str) : Bool := decide (c.N[i]? = some x) && visB c.sc x && (!(x == ("__debug__" : Str))) && !(x == ("__classdict__" : Str))
structure Nm (c : Cf) (i : Nat) (x : Str) : Prop where
  at_ : c.N[i]? = some x
  vis : Vis c.sc x
  nd : (x == ("__debug__" : Str)) = false
  nc : (x == ("__classdict__" : Str)) = false
theorem nm_of {c : Cf} {i : Nat} {x : Str} (h : nmB c i x = true) : Nm c i x := by
  simp only [nmB, Bool.and_eq_true, decide_eq_true_eq, Bool.not_eq_true'] at h
  exact ⟨h.1.1.1, vis_of h.1.1.2, h.1.2, h.2⟩
/-- a name that is written -/
def stB (c : Cf) (i : Nat) (x : Str) : Bool := decide (c.N[i]? = some x) && (match c.sc.names.lookup x with
  | some .local => true
  | some .cell => c.fn x
  | _ => false)
structure Sto (c : Cf) (i : Nat) (x : Str) : Prop where
  at_ : c.N[i]? = some x
  loc : Loc c.sc x
  fn : c.fn x = true ∨ c.sc.names.lookup x = some .local
theorem st_of {c : Cf} {i : Nat} {x : Str} (h : stB c i x = true) : Sto c i x := by
  simp only [stB, Bool.and_eq_true, decide_eq_true_eq] at h
  refine ⟨h.1, ?_, ?_⟩
  · have h2 := h.2
    split at h2
    · rename_i e; exact .inl e
    · rename_i e; exact .inr e
    · cases h2
  · have h2 := h.2
    split at h2
    · rename_i e; exact .inr e
    · exact .inl h2
    · cases h2
def glB (c : Cf) (x : Str) : Bool := match c.sc.names.lookup x with
  | some .globalImplicit => true
  | _ => false
theorem gl_of {c : Cf} {x : Str} (h : glB c x = true) : c.sc.names.lookup x = some .globalImplicit := by
  unfold glB at h
  split at h
  · assumption
  · cases h
/-- two local names on one line, not all of the values constants: the stores are turned about -/
theorem sw2 {x y : Str} {px py pt pt2 : Pos} {kt k2 : Nat} {a b : Expr} (hl : (py.line == px.line) = true) (hxy : (x == y) = false) (hst : ([a, b].any fun | .Starred .. => true | _ => false) = false) (hf : [a, b].all (foldedForSure 8) = false) (hcn : [a, b].all (constantsAlone 8) = false)
    (env : PySem.Env) (hk : env.scope.kind = .function) (hx : env.scope.names.lookup x = some .local) (hy : env.scope.names.lookup y = some .local) : swappedStores [.Tuple [.Name x px, .Name y py] kt pt] (.Tuple [a, b] k2 pt2) env = pure (some [x, y]) := by
  have ky : env.kindOf y = some .local := hy
  have kx : env.kindOf x = some .local := hx
  have hb : env.blockKind = .function := by unfold PySem.Env.blockKind; rw [hk]; rfl
  have e1 : (some NameKind.local == some NameKind.local) = true := by decide
  have hl0 : (px.line == px.line) = true := beq_self_eq_true _
  have hq : (y == x) = false := by
    rw [Bool.eq_false_iff] at hxy ⊢
    intro z
    exact hxy (by rw [LawfulBEq.eq_of_beq z]; exact beq_self_eq_true _)
  have hd : ([x, y].eraseDups).length = 2 := by
    simp [List.eraseDups_cons, hq]
  unfold swappedStores
  simp only [List.length_cons, List.length_nil, hb, hst, hf, hcn, List.head?_cons, Option.map_some, Option.getD_some, Expr.pos, List.filterMap_cons, kx, ky, e1, hl0, hl, Bool.and_self, if_true, List.filterMap_nil, hd]
  rw [if_neg (by decide), if_neg (by rw [Bool.not_eq_true]; exact hst), if_neg (by decide), if_neg Bool.false_ne_true, if_neg Bool.false_ne_true]
section
variable {M : Mdl} {c : Cf} {pos p p1 p2 p3 : Pos} {a b e : Expr} {es rest : List Expr} {fa fb fe : Sl → Out D} {oa ob : Opd}
theorem vr (i : Nat) {x : Str} (h : nmB c i x = true := by decide +kernel) : DE M c (.Name x pos) (varD i) := de_var (nm_of h).at_ (nm_of h).vis (nm_of h).nd (nm_of h).nc
theorem pk (i : Nat) {x : Str} (h : nmB c i x = true := by decide +kernel) : (Opd.pk i).Of M c (.Name x pos) := op_pk (nm_of h).at_ (nm_of h).vis (nm_of h).nd (nm_of h).nc
theorem gInt {x : Str} {n : Int} (hm : ∃ t, M.mg x = some (.int n t)) (hg : glB c x = true := by decide +kernel) (hd : (x == ("__debug__" : Str)) = false := by decide +kernel) : DE M c (.Name x pos) (conD (.int n)) := by
  obtain ⟨t, hm⟩ := hm
  exact de_glob (gl_of hg) hm (v := .int n) ⟨t, rfl⟩ (fun _ => .int n) hd
theorem gStr {x z : Str} (hm : ∃ t, M.mg x = some (.str z t)) (hg : glB c x = true := by decide +kernel) (hd : (x == ("__debug__" : Str)) = false := by decide +kernel) : DE M c (.Name x pos) (conD (.str z)) := by
  obtain ⟨t, hm⟩ := hm
  exact de_glob (gl_of hg) hm (v := .str z) ⟨t, rfl⟩ (fun _ => .str z) hd
/-- a module's tuple or list -/
theorem gRef {x : Str} {a : Addr} {d : D} (hm : M.mg x = some (.ref a)) (hd0 : ∀ H, Dp M.K H (.ref a) d) (hg : glB c x = true := by decide +kernel) (hd : (x == ("__debug__" : Str)) = false := by decide +kernel) : DE M c (.Name x pos) (conD d) :=
  de_glob (gl_of hg) hm (v := .ref a) rfl hd0 hd
theorem bn {x : Str} {v : Value} (hm : M.mg x = Option.none) (hv : bootBuiltins x = some v) (hg : glB c x = true := by decide +kernel) (hn : x ≠ "__name__" := by decide +kernel) (hd : (x == ("__debug__" : Str)) = false := by decide +kernel) : Bn M c x v := ⟨gl_of hg, hm, hv, hn, hd⟩
theorem bi {op : Operator} {g : D → D → Option D} (ho : BopD M c (binaryOp op) g) (ha : oa.Of M c a) (hb : ob.Of M c b) : DE M c (.BinOp a op b pos) (bin g oa ob) := de_bin ho ha hb
theorem cmv {op : CmpOp} {g : D → D → Option D} (ho : BopD M c (compareOp op) g) (ha : oa.Of M c a) (hb : ob.Of M c b) (hm : behindInMarks op b = false := by first | rfl | (unfold behindInMarks; rfl)) : DE M c (.Compare a [op] [b] pos) (bin g oa ob) := de_cmp ho hm ha hb
theorem cmt {op : CmpOp} {g : D → D → Option D} (ho : BopD M c (compareOp op) g) (ha : oa.Of M c a) (hb : ob.Of M c b) (hm : behindInMarks op b = false := by first | rfl | (unfold behindInMarks; rfl)) : DT M c (.Compare a [op] [b] pos) (cmpT g oa ob) := dt_cmp ho hm ha hb
theorem tv (ha : oa.Of M c a) (he : ∀ (env : PySem.Env) (whole : Sem Value), isTrue a env whole = (do let v ← whole; standAt a.pos; holding [v] (truthy v)) := by intro _ _; rfl) : DT M c a (truT oa) := dt_val ha he
theorem ac {fr : Sl → Out (List D)} (ha : DE M c a fa) (hr : DA M c es fr) (hs : NoStar a := by intro _ _; rfl) : DA M c (a :: es) (consA fa fr) := da_cons ha hr (hs _)
theorem lenA_le {fr : Sl → Out (List D)} {n : Nat} (h : LenA fr n) (hn : n ≤ 16777216) : SzA fr := by
  refine ⟨fun env xs env' q => ?_⟩
  rw [h.run env xs env' q, szl]
  exact hn
theorem ix (ha : oa.Of M c a) (hb : ob.Of M c b) (hs : PlainIx b := by intro _ _; rfl) : DE M c (.Subscript a b pos) (bin ixD oa ob) := de_ix ha hb hs
theorem cB1 {x : Str} {id : String} {g : D → Option D} (B : Bn M c x (.builtin id)) (hc : Cal1 M c (.builtin id) g) (ha : oa.Of M c a) (hs : NoStar a := by intro _ _; rfl) : DE M c (.Call (.Name x p) [a] [] pos) (call1 g oa) := de_callB1 B hc ha hs
theorem cT1 {x : Str} {id : String} {g : D → Option D} (B : Bn M c x (.type id)) (hc : Cal1 M c (.type id) g) (ha : oa.Of M c a) (hs : NoStar a := by intro _ _; rfl) : DE M c (.Call (.Name x p) [a] [] pos) (call1 g oa) := de_callT1 B hc ha hs
theorem cB2 {x : Str} {id : String} {g : D → D → Option D} (B : Bn M c x (.builtin id)) (hc : Cal2 M c (.builtin id) g) (ha : oa.Of M c a) (hb : ob.Of M c b) (hs : NoStar a := by intro _ _; rfl) (hs2 : NoStar b := by intro _ _; rfl) : DE M c (.Call (.Name x p) [a, b] [] pos) (bin g oa ob) := de_callB2 B hc ha hb hs hs2
theorem isi {x y T' : Str} {T : String} (B : Bn M c ("isinstance" : Str) (.builtin "isinstance")) (B2 : Bn M c T' (.type T)) (ha : oa.Of M c a) (hs : NoStar a := by intro _ _; rfl) : DE M c (.Call (.Name ("isinstance" : Str) p) [a, .Name T' p2] [] pos) (call1 (isiD T) oa) :=
  de_isi (x := x) (y := y) B B2 ha hs
variable {as : List Arg}
theorem av (ha : DE M c a fa) (hr : DAg M c es as) (hs : NoStar a := by intro _ _; rfl) : DAg M c (a :: es) (.v fa :: as) := dag_v ha hs hr
theorem am (i : Nat) {x : Str} (hr : DAg M c es as) (h : nmB c i x = true := by decide +kernel) (hs : NoStar (.Name x p) := by intro _ _; rfl) : DAg M c (.Name x p :: es) (.m i :: as) := dag_m (nm_of h).at_ (nm_of h).vis (nm_of h).nd (nm_of h).nc hs hr
theorem cD {x : Str} {k n : Nat} {g : List Slot → FOut} (Fn : FnAt M k x n g) (ha : DAg M c (a :: es) as) (hgl : ∀ args, (g args).Len n) (hk : k ≤ c.k := by decide +kernel) (hc : c.calm = true := by rfl) (hg : glB c x = true := by decide +kernel) (hn : as.length = n := by rfl) (nd : (lentA as).Nodup := by decide +kernel)
    (hs : NoStar a := by intro _ _; rfl) (hpl : ∀ (pos : Pos) (env : PySem.Env), (backTo pos (starEach es env)).any (·.1) = false := by intro _ _; rfl) : DE M c (.Call (.Name x p) (a :: es) [] pos) (callE g as) := de_call Fn hk hc (gl_of hg) hgl ha hn nd hs hpl

def powD : D → D → Option D
  | .int i, .int j => if 0 ≤ j ∧ j ≤ 1000000 ∧ i.natAbs < 18446744073709551616 then some (.int (i ^ j.toNat)) else none
  | _, _ => none
theorem b_pow : BopD M c (binaryOp .Pow) powD := by
  intro X G H Hd x y d1 d2 d Q hl p1 p2 e k
  cases d1 <;> cases d2 <;> first | (cases e; done) | skip
  rename_i i j
  simp only [powD] at e
  split at e
  · rename_i h
    cases e
    cases p1.int_inv
    cases p2.int_inv
    exact ⟨_, op_pow, i, j, rfl, rfl, ⟨h.1, h.2.1, h.2.2⟩, k _ _ (Same.refl _) (.int _)⟩
  · cases e

/-! statements -/
variable {body : List Stmt} {sc : Scope}
theorem sx (i : Nat) {x : Str} {pos' : Pos} (he : DE M c e fe) (h : stB c i x = true := by decide +kernel) (hs : ∀ env : PySem.Env, swapsWith e (some (.Name x pos')) pos.line env = pure false := by intro _; rfl) : DS M c (.Assign [.Name x pos'] e pos) (asgS fe (putS i)) :=
  ds_set he (st_of h).at_ (st_of h).loc (st_of h).fn hs
theorem sn (i : Nat) {x : Str} {pos' : Pos} {fF : Sl → Out (List D)} (he : DF M c e fF) (h : stB c i x = true := by decide +kernel) (hs : ∀ env : PySem.Env, swapsWith e (some (.Name x pos')) pos.line env = pure false := by intro _; rfl) : DS M c (.Assign [.Name x pos'] e pos) (setN i fF) :=
  ds_setN he (st_of h).at_ (st_of h).loc (st_of h).fn hs
theorem tn (i : Nat) {x : Str} (h : stB c i x = true := by decide +kernel) : DG M c (.Name x pos) [i] (putS i) := dg_name (st_of h).at_ (st_of h).loc (st_of h).fn
theorem tgc {ts us : List Nat} {g : D → Sl → Option Sl} {gs : List D → Sl → Option Sl} (h1 : DG M c a ts g) (h2 : DGs M c es us gs) (hs : ∀ env : PySem.Env, (assignEach (a :: es) env).map (·.2) = assign a env :: (assignEach es env).map (·.2) := by intro _; rfl) : DGs M c (a :: es) (ts ++ us) (consS g gs) := dgs_cons h1 h2 hs
theorem tt {n k : Nat} {ts : List Nat} {gs : List D → Sl → Option Sl} (h : DGs M c es ts gs) (hc : c.calm = true := by rfl) (hn : ∀ env : PySem.Env, (assignEach es env).length = n := by intro _; rfl) (hst : ∀ env : PySem.Env, (assignEach es env).findIdx? (·.1) = Option.none := by intro _; rfl) : DG M c (.Tuple es k pos) ts (tupS n gs) := dg_tup hc h hn hst
theorem sg {tg : Expr} {ts : List Nat} {gt : D → Sl → Option Sl} (he : DE M c e fe) (hg : DG M c tg ts gt) (hs : ∀ env : PySem.Env, swapsWithSole [tg] e pos.line env = pure false := by intro _; rfl) (hw : ∀ env : PySem.Env, swappedStores [tg] e env = pure Option.none := by intro _; rfl)
    (h1 : ∀ env : PySem.Env, (assignEach [tg] env).map (·.2) = [assign tg env] := by intro _; rfl) : DS M c (.Assign [tg] e pos) (asgS fe gt) := ds_asg he hg hs hw h1
theorem sa (i : Nat) {x : Str} {op : Operator} {g : D → D → Option D} {pos' : Pos} (ho : AopD M c op g) (he : DE M c e fe) (h : stB c i x = true := by decide +kernel) : DS M c (.AugAssign (.Name x pos') op e pos) (augS g i fe) := ds_aug ho (st_of h).at_ (st_of h).loc (st_of h).fn he
theorem se (i : Nat) {x : Str} {pos' : Pos} {fF : Sl → Out (List D)} (he : DF M c e fF) (h : stB c i x = true := by decide +kernel) : DS M c (.AugAssign (.Name x pos') .Add e pos) (extS i fF) := ds_ext (st_of h).at_ (st_of h).loc (st_of h).fn he
theorem sap (i : Nat) {x : Str} (he : DE M c e fe) (h : nmB c i x = true := by decide +kernel) (hst : NoStar e := by intro _ _; rfl)
    (hbase : ∀ env : PySem.Env, attributeBase (.Name x p1) "append" env (eval (.Name x p1) env) = eval (.Name x p1) env := by intro _; rfl)
    (hfew : ∀ env : PySem.Env, ((backTo p3 (starEach [e] env)).all (fun x => !x.1) && (backToKw p3 (keywordEach [] env)).all (fun x => x.1.isSome)
      && decide ([e].length + ([] : List Keyword).length + (if ([] : List Keyword).isEmpty then 0 else 1) < 30)) = true := by intro _; rfl)
    (hline : (p2.endLine == p3.line) = true := by rfl) (hs : ∀ env : PySem.Env, swapsWith (.Call (.Attribute (.Name x p1) "append" p2) [e] [] p3) Option.none pos.line env = pure false := by intro _; rfl) :
    DS M c (.Expr (.Call (.Attribute (.Name x p1) "append" p2) [e] [] p3) pos) (appS i fe) := ds_append (nm_of h).at_ (nm_of h).vis (nm_of h).nd (nm_of h).nc he hst hbase hfew hline hs
theorem ss (i : Nat) {x : Str} {ie : Expr} {fi : Sl → Out D} (he : DE M c e fe) (hi : DE M c ie fi) (h : nmB c i x = true := by decide +kernel)
    (ha : ∀ env : PySem.Env, SubPlain (.Name x p1) ie p2 env := by intro _ _; rfl) (hs : ∀ env : PySem.Env, swapsWithSole [.Subscript (.Name x p1) ie p2] e pos.line env = pure false := by intro _; rfl) (hw : ∀ env : PySem.Env, swappedStores [.Subscript (.Name x p1) ie p2] e env = pure Option.none := by intro _; rfl)
    (h1 : ∀ env : PySem.Env, (assignEach [.Subscript (.Name x p1) ie p2] env).map (·.2) = [assign (.Subscript (.Name x p1) ie p2) env] := by intro _; rfl) : DS M c (.Assign [.Subscript (.Name x p1) ie p2] e pos) (subS i fe fi) :=
  ds_sub (nm_of h).at_ (nm_of h).vis (nm_of h).nd (nm_of h).nc he hi ha hs hw h1
theorem sf {tg iter : Expr} {fi : Sl → Out (List D)} {g : D → Sl → Option Sl} {tb : Sl → Out Flw} {ts : List Nat} (hi : DI M c tg iter fi) (hg : DG M c tg ts g) (hb : DSs M c body tb) (hc : c.calm = true := by rfl) (hs : ∀ (env : PySem.Env) x, foldedSetIterable iter env x = pure x := by intro _ _; rfl) : DS M c (.For tg iter body [] pos) (forS fi g tb) :=
  ds_for hc hi hg hb hs
theorem sd (he : DE M c e fe) (hs : ∀ env : PySem.Env, swapsWith e Option.none pos.line env = pure false := by intro _; rfl) : DS M c (.Expr e pos) (dropS fe) := ds_expr he hs
variable {tg iter elt : Expr} {ifs : List Expr} {scope : Scope}
theorem r1 {fA : Sl → Out (List D)} (ha : DA M c [a] fA) (hm : M.mg "range" = Option.none) (hg : glB c ("range" : Str) = true := by decide +kernel) (hs : ∀ env : PySem.Env, starEach [a] env = [(false, eval a env)] := by intro _; rfl) : DI M c tg (.Call (.Name "range" p) [a] [] pos) (rng1 fA) := di_range1 ha (gl_of hg) hm hs
theorem r2 {fA : Sl → Out (List D)} (ha : DA M c [a, b] fA) (hm : M.mg "range" = Option.none) (hg : glB c ("range" : Str) = true := by decide +kernel) (hs : ∀ env : PySem.Env, starEach [a, b] env = [(false, eval a env), (false, eval b env)] := by intro _; rfl) (hs2 : ∀ env : PySem.Env, starEach [b] env = [(false, eval b env)] := by intro _; rfl) :
    DI M c tg (.Call (.Name "range" p) [a, b] [] pos) (rng2 fA) := di_range2 ha (gl_of hg) hm hs hs2
theorem r3 {d : Expr} {fA : Sl → Out (List D)} (ha : DA M c [a, b, d] fA) (hm : M.mg "range" = Option.none) (hg : glB c ("range" : Str) = true := by decide +kernel) (hs : ∀ env : PySem.Env, starEach [a, b, d] env = (false, eval a env) :: starEach [b, d] env := by intro _; rfl)
    (hpl : ∀ (pos : Pos) (env : PySem.Env), (backTo pos (starEach [b, d] env)).any (·.1) = false := by intro _ _; rfl) : DI M c tg (.Call (.Name "range" p) [a, b, d] [] pos) (rng3 fA) := di_range3 ha (gl_of hg) hm hs hpl
variable {elts : List Expr} {kk : Nat} {tpos : Pos}
theorem en {fA : Sl → Out (List D)} (ha : DA M c [a] fA) (hm : M.mg "enumerate" = Option.none) (hg : glB c ("enumerate" : Str) = true := by decide +kernel) (hs : ∀ env : PySem.Env, starEach [a] env = [(false, eval a env)] := by intro _; rfl) : DI M c (.Tuple elts kk tpos) (.Call (.Name "enumerate" p) [a] [] pos) (enumI fA) := di_enum ha (gl_of hg) hm hs
theorem zp {fA : Sl → Out (List D)} (ha : DA M c [a, b] fA) (hm : M.mg "zip" = Option.none) (hg : glB c ("zip" : Str) = true := by decide +kernel) (hs : ∀ env : PySem.Env, starEach [a, b] env = (false, eval a env) :: starEach [b] env := by intro _; rfl)
    (hpl : ∀ (pos : Pos) (env : PySem.Env), (backTo pos (starEach [b] env)).any (·.1) = false := by intro _ _; rfl) : DI M c (.Tuple elts kk tpos) (.Call (.Name "zip" p) [a, b] [] pos) (zipI fA) := di_zip ha (gl_of hg) hm hs hpl
theorem lc (own : List (Str × Nat)) {ts : List Nat} {fi : Sl → Out (List D)} {g : D → Sl → Option Sl} {t : Sl → Out Bool} (hi : DI M c tg iter fi) (hg : DG M (c.blk scope) tg ts g) (ht : DTs M (c.blk scope) ifs t) (he : DE M (c.blk scope) elt fe)
    (ok : blkC c.N c.sc scope own = true := by decide +kernel) (hts : ∀ j, j ∈ ts → j ∈ own.map (·.2) := by decide +kernel) (hc : c.calm = true := by rfl) (hs : ∀ (env : PySem.Env) x, foldedSetIterable iter env x = pure x := by intro _ _; rfl) :
    DF M c (.ListComp elt [⟨tg, iter, ifs, 0⟩] scope pos) (compE fi g t fe (own.map (·.2))) := df_lc hc hi (blkOk_by ok) hg ht he hts hs
/-- y = [..], y a local -/
theorem slc (i : Nat) (own : List (Str × Nat)) {y : Str} {py spos : Pos} {ts : List Nat} {fi : Sl → Out (List D)} {g : D → Sl → Option Sl} {t : Sl → Out Bool} (hi : DI M c tg iter fi) (hg : DG M (c.blk scope) tg ts g) (ht : DTs M (c.blk scope) ifs t) (he : DE M (c.blk scope) elt fe)
    (hy : c.N[i]? = some y := by decide +kernel) (hyl : c.sc.names.lookup y = some .local := by decide +kernel) (hl : (py.line == pos.line) = true := by rfl)
    (ha : (scope.names.any fun (n, k) => n == y && (k == .local || k == .cell)) = false := by decide +kernel)
    (ok : blkC c.N c.sc scope own = true := by decide +kernel) (hts : ∀ j, j ∈ ts → j ∈ own.map (·.2) := by decide +kernel) (hc : c.calm = true := by rfl) (hs : ∀ (env : PySem.Env) x, foldedSetIterable iter env x = pure x := by intro _ _; rfl) :
    DS M c (.Assign [.Name y py] (.ListComp elt [⟨tg, iter, ifs, 0⟩] scope pos) spos) (setN i (compE fi g t fe (own.map (·.2)))) := by
  by_cases h2 : (pos.line == spos.line) = true
  · exact ds_setLc hc hy hyl hl h2 (fun env hk hy' => sw_true hk hy' hl ha) hi (blkOk_by ok) hg ht he hts hs
  · refine ⟨fun X G W tk F env σ H E R h => ?_⟩
    refine WS.of (ps_setLc (wi := WI X tg iter) (g := gU X scope tg) (tt := tU X scope ifs) (te := eU X scope elt) (G.calm hc) (by rw [G.N]; exact G.nd) (by rw [G.N]; exact hy) (by rw [G.sc]; exact hyl) (sw_true G.kind (by rw [G.sc]; exact hyl) hl ha) pi_wi (by rw [G.N, G.sc]; exact blkOk_by ok)
      (fun s0 H0 C cl fp => ⟨fun pins s _ _ _ u _ I r h => h s0 H0 C cl fp pins s u I r⟩) (fun s0 H0 C cl fp => ⟨fun pins s _ _ _ I h => h s0 H0 C cl fp pins s I⟩) (fun s0 H0 C cl fp => ⟨fun pins s _ _ _ I h => h s0 H0 C cl fp pins s I⟩) (hs X.env)) ?_
    exact lc_ok hc hi hg ht he hts G.toGood tk R (PostS.splitF h fun ds env1 p vs H1 _ R1 s1 h0 nh hp pd h1 => new_ok (X := X) R1 s1 h0 nh hp pd h1)
theorem pr (i j : Nat) {x y : Str} {xa xb : PEx} {px py pt : Pos} {kt k2 pt2} (ha : xa.Of M c a) (hb : xb.Of M c b)
    (hw : ∀ env : PySem.Env, env.scope.kind = .function → env.scope.names.lookup x = some .local → env.scope.names.lookup y = some .local → swappedStores [.Tuple [.Name x px, .Name y py] kt pt] (.Tuple [a, b] k2 pt2) env = pure (some [x, y]) := by intro env hk hx hy; exact sw2 rfl (by decide +kernel) rfl rfl rfl env hk hx hy)
    (hN : c.N[i]? = some x := by decide +kernel) (hN2 : c.N[j]? = some y := by decide +kernel) (hij : i ≠ j := by decide +kernel) (hx : c.sc.names.lookup x = some .local := by decide +kernel) (hy : c.sc.names.lookup y = some .local := by decide +kernel)
    (hc : c.calm = true := by rfl) (hsa : ∀ env : PySem.Env, starEach [a, b] env = (false, eval a env) :: starEach [b] env := by intro _; rfl) (hsb : ∀ env : PySem.Env, starEach [b] env = (false, eval b env) :: starEach [] env := by intro _; rfl)
    (hs : ∀ env : PySem.Env, swapsWithSole [.Tuple [.Name x px, .Name y py] kt pt] (.Tuple [a, b] k2 pt2) pos.line env = pure false := by intro _; rfl) :
    DS M c (.Assign [.Tuple [.Name x px, .Name y py] kt pt] (.Tuple [a, b] k2 pt2) pos) (parS i j xa xb) := ds_par hc hN hN2 hij hx hy ha hb hsa hsb hw hs
end
/-- a def as it stands -/
theorem fnG_D {M : Mdl} {k : Nat} {f : Addr} {fd : FuncData} {x qual : Str} {params : Arguments} {body : List Stmt} {scope : Scope} {N ps : List Str} {fb : Sl → Out Flw} (F : FunD M.K x qual params body scope [] [] f fd) (S : FnScope N ps scope) (hcold : ∀ a C d, ¬ M.exc a C d)
    (hbody : DSs M { k := k, N := N, sc := scope, fn := fun _ => true, calm := true } body fb) : FnG M (k + 1) f fd ps (spD M.K M.mg ps.length (defE N.length ps.length fb)) := by
  obtain ⟨oc, od, dV, kV, doc, pm, an, cdv, ct, osl, rfl, lk, hcd, _, _⟩ := F.ex
  exact fnG_of lk hcd S hcold hbody
theorem fnAt_D {M : Mdl} {k : Nat} {f : Addr} {fd : FuncData} {x qual : Str} {params : Arguments} {body : List Stmt} {scope : Scope} {N ps : List Str} {fb : Sl → Out Flw} (F : FunD M.K x qual params body scope [] [] f fd) (hm : M.mg x = some (.ref f)) (S : FnScope N ps scope) (hcold : ∀ a C d, ¬ M.exc a C d)
    (hbody : DSs M { k := k, N := N, sc := scope, fn := fun _ => true, calm := true } body fb)
    (hb : ∀ (T : Value) (kV doc pm : Value) (an : Option Addr) (cdv ct : Value), True) (hbi : Binds M.K fd ps []) (hd : (x == ("__debug__" : Str)) = false := by decide +kernel) : FnAt M (k + 1) x ps.length (defE N.length ps.length fb) :=
  ⟨⟨f, fd, ps, hm, F.kp, rfl, hbi, fnG_D F S hcold hbody⟩, hd⟩
end DL
end
section
set_option Elab.async false
set_option linter.all false
set_option maxRecDepth 100000
set_option maxHeartbeats 4000000
/-! DX0: an own error over ValueError by a chain of classes, whose __init__ says super().__init__(..) and keeps its arguments: the calls. -/
namespace DX
open PySem PySem.W PySem.Calls PyProof.Rows PySem.HandSPX

/-- what the written part says of the class at C, whose __init__ (at fI) stands in the class at D; ps: its parameters, kept by their names -/
structure Chain (K : Frag) (file : Str) (C D fI : Addr) (ps : List Str) (qual : Str) (params : Arguments) (body : List Stmt) (scope : Scope) : Prop where
  cls : ∃ nm q N bs bm sn sub ab col dd k0 k1 k2 k3 k5, K.lookup C = some (excClassObj nm q C N bs bm true sn sub ab col dd k0 k1 k2 k3 k5 "ValueError.__new__") ∧ refsVE bm = true
  sa : findIn K (.ref C) "__setattr__" = some (some (.builtin "object.__setattr__"))
  no : ∀ f ∈ ps, findIn K (.ref C) f = some none
  iC : findIn K (.ref C) "__init__" = some (some (.ref fI))
  tC : typeIn K (.ref fI) = some (.type "function")
  fn : ∃ (oc : Value) (od : Option Addr) (doc pm : Value) (an : Option Addr) (cda cc : Addr) (ct : Value) (osl : Array (Option Value)) (ccl cl : Value) (cdd cld : Option Addr) (vs : Array Value) (tf : Tok) (ccs csl : Array (Option Value)) (cdD : ClassData),
    K.lookup fI = some ⟨oc, od, .func (ksFn "__init__" qual params body scope .none .none doc pm an (.ref cda) ct cc), osl⟩ ∧ codeIn K (.ref cda) qual = true ∧ K.lookup cda = some ⟨ccl, cdd, .fields vs, ccs⟩ ∧ vs[2]? = some (.str file tf) ∧
    K.lookup cc = some ⟨cl, cld, .cell (some (.ref D)), csl⟩ ∧ clsIn K D = some cdD
  sub : mroIn K C (.ref D) = some true
  noS : nsIn K mainGlobals "super" = some none
  opq : nsIn K cStatics "thirdparty.any" = some none
  sup : ks_superIn K C D "__init__" = some (some (.builtin "ValueError.__init__"))
  isV : subIn K (.ref C) (.type "ValueError") = some true
/-- the text of such an __init__ -/
structure Txt (prog : Program) (file : Str) (ps : List Str) (params : Arguments) (scope : Scope) : Prop where
  hp : ∃ ar, (params.posonlyargs ++ params.args).head? = some ar ∧ ar.arg = "self"
  hfile : ((prog.main.file : Str) == file) = true
  htop : (prog.main.scope.names.lookup ("super" : Str)).isSome = false
  hks : scope.names.lookup ("super" : Str) = some .globalImplicit
  hkc : scope.names.lookup ("__class__" : Str) = some .free
  hself : scope.names.lookup ("self" : Str) = some .local
  hps : ∀ f ∈ ps, scope.names.lookup f = some .local
  hcell : ∀ x ∈ scope.names, x.2 ≠ .cell
  hco : scope.isCoroutine = false
  hgen : scope.isGenerator = false
  hk : scope.kind = .function
  bind : ∀ (s : Shared) (qual : Str) (body : List Stmt) (doc pm : Value) (an : Option Addr) (cdv ct : Value) (cc : Addr) (us : List Value), us.length = ps.length + 1 →
    BindsTo s (ksFn "__init__" qual params body scope .none .none doc pm an cdv ct cc) ⟨us, []⟩ ((("self" : Str) :: ps).zip us)
/-- what __init__ leaves of a fresh exception at x: its dict dx holds fs -/
structure InitEnd (h h' : Heap) (x C dx t1 : Addr) (fs : List (Str × Value)) : Prop where
  keep : ∀ b o, b ≠ x → h.get? b = some o → h'.get? b = some o
  obj : h'.get? x = some { cls := .ref C, dict := some dx, data := .fields #[.ref t1, .none, .none, .none, .bool false, .none] }
  dbig : h.objs.size ≤ dx
  dne : dx ≠ x
  ns : ∃ mA, h'.Ns1 dx mA ∧ ∀ y, mA y = fs.lookup y
section
variable {prog : Program} {w : World} {A : Around} {E : Value → Shared → Prop} {R : Result → Shared → Prop} {s : Shared} {K : Frag} {mg mb : Str → Option Value} {C D fI : Addr} {file : Str}
theorem ldX {M : Model} {s : Shared} {qual : Str} {scope : Scope} {L a cc : Addr} {cd : Value} {m : Str → Option Value} {x : Str} {pos : Pos} {v : Value} {Q : Value → Shared → Prop} (hn : s.heap.Ns L m) (hv : m x = some v) (h : Q v s)
    (hk : scope.kind = .function) (hl : scope.names.lookup x = some .local) (hd : (x == ("__debug__" : Str)) = false) : wpAny M A (eval (.Name x pos) (ksEnv qual scope L a cd cc)) Q E s :=
  wpAny_Name (wpAny_loadName_local hk hl hn hv h) hd
theorem ns_keep {h h' : Heap} {L : Addr} {m : Str → Option Value} (hn : h.Ns L m) (k : ∀ o, h.get? L = some o → h'.get? L = some o) : h'.Ns L m := let ⟨o, es, ep, e, r⟩ := hn; ⟨o, es, ep, k o e, r⟩
/-- super().__init__(..) in the frame -/
theorem sup_init {ps : List Str} {qual : Str} {params : Arguments} {body : List Stmt} {scope : Scope} {L x t0 : Addr} {m : Str → Option Value} {p0 p1 p2 p3 p4 : Pos} {es : List Expr} {us : List Value} {Q : Flow → Shared → Prop} {cda cc : Addr} {bd : List Stmt}
    (T : Chain K file C D fI ps qual params body scope) (Z : Txt prog file ps params scope) (X : K.In s.heap) (G : s.heap.Ns mainGlobals mg) (B : s.heap.Ns builtinsNs mb) (hbb : ∀ x : Str, x ≠ "__name__" → mb x = bootBuiltins x)
    (hx : s.heap.get? x = some (excO C t0)) (hL : s.heap.Ns L m) (hxL : L ≠ x) (hv : m "self" = some (.ref x)) (hz : us.length ≤ sizeLine)
    (hcc : ∃ (oc : Value) (od : Option Addr) (doc pm : Value) (an : Option Addr) (ct : Value) (osl : Array (Option Value)) (ccl cl : Value) (cdd cld : Option Addr) (vs : Array Value) (tf : Tok) (ccs csl : Array (Option Value)) (cdD : ClassData),
      K.lookup fI = some ⟨oc, od, .func (ksFn "__init__" qual params body scope .none .none doc pm an (.ref cda) ct cc), osl⟩ ∧ K.lookup cda = some ⟨ccl, cdd, .fields vs, ccs⟩ ∧ vs[2]? = some (.str file tf) ∧ K.lookup cc = some ⟨cl, cld, .cell (some (.ref D)), csl⟩ ∧ clsIn K D = some cdD)
    (hes : ∀ (s' : Shared) (u : Value) (Q' : Args → Shared → Prop), s'.heap.Ns L m → Q' ⟨us, []⟩ s' → wpAny (model prog w) A (evalArgs u true (backTo p3 (starEach es (ksEnv qual scope L fI (.ref cda) cc))) []) Q' E s')
    (hpl : (backTo p3 (starEach es (ksEnv qual scope L fI (.ref cda) cc))).any (·.1) = false)
    (heq : ∀ env : PySem.Env, ∃ pl : Sem Bool, eval (.Call (.Attribute (.Call (.Name "super" p0) [] [] p1) "__init__" p2) es [] p3) env = (do
      let ov ← attributeBase (.Call (.Name "super" p0) [] [] p1) "__init__" env (eval (.Call (.Name "super" p0) [] [] p1) env)
      standAt p2.atName
      let (f, first) ← holding [ov] (getMethod ov "__init__" pl)
      callWith p3 f first (backTo p3 (starEach es env)) []))
    (hsw : ∀ env : PySem.Env, swapsWith (.Call (.Attribute (.Call (.Name "super" p0) [] [] p1) "__init__" p2) es [] p3) Option.none p4.line env = pure false)
    (hq : ∀ h' t1 tk, (∀ b o, b ≠ x → s.heap.get? b = some o → h'.get? b = some o) → h'.get? x = some (excO C t1) → Q .next { s with heap := h', toks := tk }) :
    PySem.wpAt (model prog w) A (.func bd (ksEnv qual scope L fI (.ref cda) cc)) (exec (.Expr (.Call (.Attribute (.Call (.Name "super" p0) [] [] p1) "__init__" p2) es [] p3) p4) (ksEnv qual scope L fI (.ref cda) cc)) Q E s := by
  obtain ⟨oc, od, doc, pm, an, ct, osl, ccl, cl, cdd, cld, vs, tf, ccs, csl, cdD, hf, hcode, hvs, hcell, hD⟩ := hcc
  obtain ⟨ar, har, harg⟩ := Z.hp
  obtain ⟨hh, g, d, t, os⟩ := s
  have Xh : K.In hh := X
  obtain ⟨oD, hD1, hD2⟩ : ∃ oD, hh.get? D = some oD ∧ oD.data = .cls cdD := by
    unfold clsIn at hD
    split at hD
    · rename_i c d cd' sl ho
      cases hD
      exact ⟨_, Xh _ _ ho, rfl⟩
    · cases hD
  obtain ⟨nm, q, N, bs, bm, sn, sub, ab, col, dd, k0, k1, k2, k3, k5, hC, hbm⟩ := T.cls
  have I : InstAt hh x (excO C t0) C Option.none := ⟨hx, rfl, rfl, trivial⟩
  obtain ⟨pl, heq⟩ := heq (ksEnv qual scope L fI (.ref cda) cc)
  have hint : interactive (ksEnv qual scope L fI (.ref cda) cc) = false := by simp [interactive, Z.hk]
  refine ks_wpAt_Expr_any (ks_wpAt_MethodCall (pl := pl) ?_ heq) hint (hsw _)
  refine ks_wpAt_super_base (f := fI) (attr := "__init__") Z.hks Z.hkc rfl rfl (Xh _ _ hf) rfl har rfl (Xh _ _ hcode) rfl hvs Z.hfile Z.htop ?_
  refine ks_loadName_global Z.hk Z.hks (loadGlobal_builtin (env := ksEnv qual scope L fI (.ref cda) cc) G (mg_none_of X G T.noS) B ((hbb _ (by decide +kernel)).trans (by rfl)) ⟨rfl, ?_⟩)
  refine wpAny_loadName_free Z.hk Z.hkc rfl ⟨_, Xh _ _ hcell, rfl⟩ ?_
  rw [harg]
  refine wpAny_loadName_local Z.hk Z.hself hL hv ?_
  refine ks_wpAny_isType_cls hD1 hD2 ⟨rfl, ?_⟩
  refine ks_wpAny_call_super hD1 hD2 I.at_ I.cls (fun c e => by cases e) (looks_mroIn X T.sub) (fun h' e k => ?_)
  -- the super object stands at hh's end
  have Xh' : K.In h' := Xh.keeps k
  have hx' := k _ _ hx
  have hxC : x ≠ C := ks_ne Xh I (show clsIn K C = some _ by unfold clsIn; rw [hC])
  have hcl : clsIn K C = some { name := nm, bases := bs, mro := .ref C :: bm, ns := N, qualname := q, hasDict := true, slotNames := sn, subclasses := sub, abstract := ab, collection := col, hasDel := false } := by unfold clsIn; rw [hC] <;> rfl
  have hsup := T.sup
  unfold ks_superIn at hsup
  rw [hcl, Option.bind_some] at hsup
  have I' : InstAt h' x (excO C t0) C Option.none := ⟨hx', rfl, rfl, trivial⟩
  refine kxs_getMethod kxs_ValueError e (looks_opaque Xh' T.opq) (l₀ := .ref C :: bm) (fun A Q E s k q => wpAny_bind ((looks_clsIn Xh' hcl) A _ E s k (wpAny_pure q))) rfl Xh' hsup (I'.type.andThen (looks_subIn Xh' T.isV)) hxC rfl ?_
  have hu : (h'.push (kxs_mw "ValueError.__init__" x)).get? h'.objs.size = some (kxs_mw "ValueError.__init__" x) := Heap.get?_push_at rfl rfl
  have k2 : ∀ b o, hh.get? b = some o → (h'.push (kxs_mw "ValueError.__init__" x)).get? b = some o := fun b o z => Heap.get?_push_of_some _ (k b o z)
  refine kxs_callWith (i := "ValueError.__init__") (x := x) hpl (hes _ _ _ (ns_keep hL (k2 _)) ⟨hu, ?_⟩)
  refine wpAny_call (codeAny_of_tree ?_)
  show wpAny _ A.in1 (callAny (.ref h'.objs.size) ⟨us, []⟩) _ _ _
  simp only [callAny]
  refine wpAny_bind (wpAny_load hu ?_)
  simp only [kxs_mw, show (Value.type "method-wrapper" == Value.type "method" || Value.type "method-wrapper" == Value.type "builtin_function_or_method" || Value.type "method-wrapper" == Value.type "method-wrapper") = true by decide, if_true]
  refine KFB.if_so (by decide) ?_
  refine wpAny_bind (check_bound_init F.excBase_ValueError.toExcCallFacts (k2 _ _ (Xh _ _ hC)) (k2 _ _ hx) rfl ?_)
  refine wpAny_bind (wpAny_pure (wpAny_pure ?_))
  refine ⟨plainId_quiet F.excBase_ValueError.init.plain _, codeAny_builtin F.excBase_ValueError.initEntry ?_⟩
  refine exc_init_tree (cls := .ref C) (t0 := t0) (dv := Option.none) (c2 := .none) (c3 := .none) (b4 := .bool false) (k2 _ _ hx) hz fun h3 k3 e3 _ => ?_
  exact hq h3 _ _ (fun b o nb z => k3 b o nb (k2 b o z)) e3
end
end DX
end
section
set_option Elab.async false
set_option linter.all false
set_option maxRecDepth 100000
set_option maxHeartbeats 4000000
/-! DX1: __init__ of such an error, its class called. -/
namespace DX
open PySem PySem.W PySem.Calls PyProof.Rows PySem.HandSPX

/-- super().__init__(es) -/
abbrev sSup (p0 p1 p2 p3 p4 : Pos) (es : List Expr) : Stmt := .Expr (.Call (.Attribute (.Call (.Name "super" p0) [] [] p1) "__init__" p2) es [] p3) p4
abbrev sFld (f : Str) (q1 q2 q3 q4 : Pos) : Stmt := .Assign [.Attribute (.Name "self" q1) f q2] (.Name f q3) q4
/-- what depends on the written places alone -/
structure SupOk (p0 p1 p2 p3 p4 : Pos) (es : List Expr) : Prop where
  heq : ∀ env : PySem.Env, ∃ pl : Sem Bool, eval (.Call (.Attribute (.Call (.Name "super" p0) [] [] p1) "__init__" p2) es [] p3) env = (do
      let ov ← attributeBase (.Call (.Name "super" p0) [] [] p1) "__init__" env (eval (.Call (.Name "super" p0) [] [] p1) env)
      standAt p2.atName
      let (f, first) ← holding [ov] (getMethod ov "__init__" pl)
      callWith p3 f first (backTo p3 (starEach es env)) [])
  hsw : ∀ env : PySem.Env, swapsWith (.Call (.Attribute (.Call (.Name "super" p0) [] [] p1) "__init__" p2) es [] p3) Option.none p4.line env = pure false
section
variable {prog : Program} {w : World} {A : Around} {E : Value → Shared → Prop} {R : Result → Shared → Prop} {s : Shared} {K : Frag} {mg mb : Str → Option Value} {C D fI : Addr} {file : Str} {f f2 qual : Str} {params : Arguments} {scope : Scope} {p0 p1 p2 p3 p4 q1 q2 q3 q4 q5 q6 q7 q8 r1 r2 : Pos}
theorem kept {K : Frag} {h h' : Heap} {x : Addr} (X : K.In h) (hx : K.lookup x = Option.none) (k : ∀ b o, b ≠ x → h.get? b = some o → h'.get? b = some o) : K.In h' := fun a o e =>
  k a o (fun z => by rw [z, hx] at e; cases e) (X a o e)
theorem cls_at {ps : List Str} {body : List Stmt} (T : Chain K file C D fI ps qual params body scope) : ∃ cd, clsIn K C = some cd ∧ refsVE cd.mro = true ∧ cd.hasDict = true := by
  obtain ⟨nm, q, N, bs, bm, sn, sub, ab, col, dd, k0, k1, k2, k3, k5, hC, hbm⟩ := T.cls
  exact ⟨{ name := nm, bases := bs, mro := .ref C :: bm, ns := N, qualname := q, hasDict := true, slotNames := sn, subclasses := sub, abstract := ab, collection := col, hasDel := false }, by unfold clsIn; rw [hC] <;> rfl, hbm, rfl⟩
theorem init1 {body : List Stmt} (T : Chain K file C D fI [f] qual params body scope) (Z : Txt prog file [f] params scope) (hb : body = [sSup p0 p1 p2 p3 p4 [.Name f r1], sFld f q1 q2 q3 q4]) (P : SupOk p0 p1 p2 p3 p4 [.Name f r1]) (hf : f ≠ "self") (hfd : (f == ("__debug__" : Str)) = false)
    {x t0 : Addr} {v : Value} (X : K.In s.heap) (hlim : s.heap.NoLimit) (G : s.heap.Ns mainGlobals mg) (B : s.heap.Ns builtinsNs mb) (hbb : ∀ x : Str, x ≠ "__name__" → mb x = bootBuiltins x) (hx : s.heap.get? x = some (excO C t0)) (hnx : K.lookup x = Option.none) (hroom : A.depth < recursionLimit)
    (hq : ∀ h' tk dx t1, InitEnd s.heap h' x C dx t1 [(f, v)] → R (.ok (.ret .none)) { s with heap := h', toks := tk }) :
    codeAny (model prog w) A (.call (.ref fI) ⟨[.ref x, v], []⟩) R s := by
  obtain ⟨oc, od, doc, pm, an, cda, cc, ct, osl, ccl, cl, cdd, cld, vs, tf, ccs, csl, cdD, ho, hcd, hcode, hvs, hcell, hD⟩ := T.fn
  obtain ⟨cd, hcl, hbm, hdct⟩ := cls_at T
  refine ks_codeAny_call_defAt (body := body) (binds := [(("self" : Str), .ref x), (f, v)]) hroom (X _ _ ho) rfl hlim (codeRec_of X hcd) rfl (Z.bind s qual body doc pm an (.ref cda) ct cc [.ref x, v] rfl) Z.hcell (fun y hy => ?_) (fun h₁ hns k => ?_) Z.hco Z.hgen Z.hk
  · rcases List.mem_cons.mp hy with rfl | hy
    · exact Z.hself
    · rcases List.mem_cons.mp hy with rfl | hy
      · exact Z.hps _ (List.mem_cons_self ..)
      · cases hy
  have hx₁ := k _ _ hx
  have X₁ : K.In h₁ := X.keeps k
  have hLx : s.heap.objs.size ≠ x := Nat.ne_of_gt (Heap.lt_size hx)
  have vself : ([(("self" : Str), Value.ref x), (f, v)].reverse.lookup ("self" : Str)) = some (.ref x) := by
    have n : (("self" : Str) == f) = false := by
      rw [Bool.eq_false_iff]
      intro z
      exact hf (LawfulBEq.eq_of_beq z).symm
    simp [List.lookup, n]
  have vf : ([(("self" : Str), Value.ref x), (f, v)].reverse.lookup f) = some v := by simp [List.lookup]
  subst hb
  refine ks_wpAt_execs_cons (sup_init (us := [v]) T Z X₁ (G.keeps k) (B.keeps k) hbb hx₁ hns hLx vself (by show 1 ≤ sizeLine; decide) ⟨oc, od, doc, pm, an, ct, osl, ccl, cl, cdd, cld, vs, tf, ccs, csl, cdD, ho, hcode, hvs, hcell, hD⟩ (fun s' u Q' hn q => ?_) rfl P.heq P.hsw fun h2 t1 tk k2 hx2 => ?_)
  · exact evalArgs_plain (spliced_more (ldX hn vf (spliced_none q) Z.hk (Z.hps _ (List.mem_cons_self ..)) hfd))
  refine wpAt_of_wpAny (wpAny_execs_cons (plainObj_wpAny_Assign_Attribute ?_))
  have hn2 : h2.Ns s.heap.objs.size _ := ns_keep hns (k2 _ · hLx)
  have X₂ : K.In h2 := kept X₁ hnx k2
  refine ldX hn2 vf (ldX hn2 vself ?_ Z.hk Z.hself rfl) Z.hk (Z.hps _ (List.mem_cons_self ..)) hfd
  refine set_plain X₂ (ox := excO C t1) (od := Option.none) ⟨hx2, rfl, rfl, trivial⟩ T.sa ?_
  refine exc_osa X₂ hx2 hcl hbm hdct (T.no _ (List.mem_cons_self ..)) (fun h3 tk3 dx k3 dn dne hx3 hn3 => ?_)
  have z : s.heap.objs.size < h2.objs.size := hn2.lt
  refine wpAny_execs_nil (hq h3 tk3 dx t1 ⟨fun b o hb e => k3 b o hb (k2 b o hb (k b o e)), hx3, Nat.le_of_lt (Nat.lt_of_lt_of_le z dn), dne, _, hn3, fun y => ?_⟩)
  by_cases hy : y = f
  · subst hy
    simp [List.lookup]
  · have : (y == f) = false := by simpa using hy
    simp [List.lookup, this, hy]
theorem init2 {body : List Stmt} (T : Chain K file C D fI [f, f2] qual params body scope) (Z : Txt prog file [f, f2] params scope) (hb : body = [sSup p0 p1 p2 p3 p4 [.Name f r1, .Name f2 r2], sFld f q1 q2 q3 q4, sFld f2 q5 q6 q7 q8]) (P : SupOk p0 p1 p2 p3 p4 [.Name f r1, .Name f2 r2]) (hf : f ≠ "self") (hf2 : f2 ≠ "self") (hff : f ≠ f2) (hfd : (f == ("__debug__" : Str)) = false) (hfd2 : (f2 == ("__debug__" : Str)) = false)
    {x t0 : Addr} {v v2 : Value} (X : K.In s.heap) (hlim : s.heap.NoLimit) (G : s.heap.Ns mainGlobals mg) (B : s.heap.Ns builtinsNs mb) (hbb : ∀ x : Str, x ≠ "__name__" → mb x = bootBuiltins x) (hx : s.heap.get? x = some (excO C t0)) (hnx : K.lookup x = Option.none) (hroom : A.depth < recursionLimit)
    (hq : ∀ h' tk dx t1, InitEnd s.heap h' x C dx t1 [(f2, v2), (f, v)] → R (.ok (.ret .none)) { s with heap := h', toks := tk }) :
    codeAny (model prog w) A (.call (.ref fI) ⟨[.ref x, v, v2], []⟩) R s := by
  obtain ⟨oc, od, doc, pm, an, cda, cc, ct, osl, ccl, cl, cdd, cld, vs, tf, ccs, csl, cdD, ho, hcd, hcode, hvs, hcell, hD⟩ := T.fn
  obtain ⟨cd, hcl, hbm, hdct⟩ := cls_at T
  have m1 : f ∈ [f, f2] := List.mem_cons_self ..
  have m2 : f2 ∈ [f, f2] := List.mem_cons_of_mem _ (List.mem_cons_self ..)
  refine ks_codeAny_call_defAt (body := body) (binds := [(("self" : Str), .ref x), (f, v), (f2, v2)]) hroom (X _ _ ho) rfl hlim (codeRec_of X hcd) rfl (Z.bind s qual body doc pm an (.ref cda) ct cc [.ref x, v, v2] rfl) Z.hcell (fun y hy => ?_) (fun h₁ hns k => ?_) Z.hco Z.hgen Z.hk
  · rcases List.mem_cons.mp hy with rfl | hy
    · exact Z.hself
    · rcases List.mem_cons.mp hy with rfl | hy
      · exact Z.hps _ m1
      · rcases List.mem_cons.mp hy with rfl | hy
        · exact Z.hps _ m2
        · cases hy
  have hx₁ := k _ _ hx
  have X₁ : K.In h₁ := X.keeps k
  have hLx : s.heap.objs.size ≠ x := Nat.ne_of_gt (Heap.lt_size hx)
  have nb : ∀ {a b : Str}, a ≠ b → (a == b) = false := fun {a b} h => by simpa using h
  have vself : ([(("self" : Str), Value.ref x), (f, v), (f2, v2)].reverse.lookup ("self" : Str)) = some (.ref x) := by simp [List.lookup, nb (Ne.symm hf), nb (Ne.symm hf2)]
  have vf : ([(("self" : Str), Value.ref x), (f, v), (f2, v2)].reverse.lookup f) = some v := by simp [List.lookup, nb hff]
  have vf2 : ([(("self" : Str), Value.ref x), (f, v), (f2, v2)].reverse.lookup f2) = some v2 := by simp [List.lookup]
  subst hb
  refine ks_wpAt_execs_cons (sup_init (us := [v, v2]) T Z X₁ (G.keeps k) (B.keeps k) hbb hx₁ hns hLx vself (by show 2 ≤ sizeLine; decide) ⟨oc, od, doc, pm, an, ct, osl, ccl, cl, cdd, cld, vs, tf, ccs, csl, cdD, ho, hcode, hvs, hcell, hD⟩ (fun s' u Q' hn q => ?_) rfl P.heq P.hsw fun h2 t1 tk k2 hx2 => ?_)
  · exact evalArgs_plain (spliced_more (ldX hn vf (spliced_more (ldX hn vf2 (spliced_none q) Z.hk (Z.hps _ m2) hfd2)) Z.hk (Z.hps _ m1) hfd))
  refine wpAt_of_wpAny (wpAny_execs_cons (plainObj_wpAny_Assign_Attribute ?_))
  have hn2 : h2.Ns s.heap.objs.size _ := ns_keep hns (k2 _ · hLx)
  have X₂ : K.In h2 := kept X₁ hnx k2
  refine ldX hn2 vf (ldX hn2 vself ?_ Z.hk Z.hself rfl) Z.hk (Z.hps _ m1) hfd
  refine set_plain X₂ (ox := excO C t1) (od := Option.none) ⟨hx2, rfl, rfl, trivial⟩ T.sa ?_
  refine exc_osa X₂ hx2 hcl hbm hdct (T.no _ m1) (fun h3 tk3 dx k3 dn dne hx3 hn3 => ?_)
  have X₃ : K.In h3 := kept X₂ hnx k3
  have z : s.heap.objs.size < h2.objs.size := hn2.lt
  have hLdx : s.heap.objs.size ≠ dx := Nat.ne_of_lt (Nat.lt_of_lt_of_le z dn)
  have hn3' : h3.Ns s.heap.objs.size _ := ns_keep hn2 (k3 _ · hLx)
  have old : ∀ b o, s.heap.get? b = some o → b ≠ x → h3.get? b = some o := fun b o e hb => k3 b o hb (k2 b o hb (k b o e))
  refine wpAny_execs_cons (plainObj_wpAny_Assign_Attribute ?_)
  refine ldX hn3' vf2 (ldX hn3' vself ?_ Z.hk Z.hself rfl) Z.hk (Z.hps _ m2) hfd2
  obtain ⟨oD, esD, epD, hoD, _⟩ := id hn3
  refine set_plain X₃ (ox := { cls := .ref C, dict := some dx, data := .fields #[.ref t1, .none, .none, .none, .bool false, .none] }) (od := some oD) ⟨hx3, rfl, rfl, hoD⟩ T.sa ?_
  refine OEX.osa_old X₃ hx3 hn3 (nl := [f]) (fun y hy => ?_) (by show 1 ≤ 1000; decide) hcl hbm hdct (T.no _ m2) (fun h4 tk4 k4 hn4 => ?_)
  · by_cases e : y = f
    · subst e; exact List.mem_cons_self ..
    · rw [if_neg e] at hy
      exact absurd rfl hy
  refine wpAny_execs_nil (hq h4 tk4 dx t1 ⟨fun b o hb e => ?_, ?_, Nat.le_of_lt (Nat.lt_of_lt_of_le z dn), dne, _, hn4, fun y => ?_⟩)
  · have bl : b < s.heap.objs.size := Heap.lt_size e
    exact k4 b o (Nat.ne_of_lt (Nat.lt_of_lt_of_le (Nat.lt_trans bl z) dn)) (old b o e hb)
  · exact k4 _ _ (Ne.symm dne) hx3
  · by_cases hy : y = f2
    · subst hy
      simp [List.lookup]
    · by_cases hy2 : y = f
      · subst hy2
        simp [List.lookup, nb hff, hff]
      · simp [List.lookup, nb hy, nb hy2, hy, hy2]
end
end DX
end
section
set_option Elab.async false
set_option linter.all false
set_option maxRecDepth 100000
set_option maxHeartbeats 4000000
/-! DX2: such an error made, raised. -/
namespace DX
open PySem PySem.W PySem.Calls PyProof.Rows PySem.HandSPX

/-- a made error -/
structure OwnMade (h h' : Heap) (e C d : Addr) (fs : List (Str × Value)) : Prop where
  keep : ∀ b o, h.get? b = some o → h'.get? b = some o
  new : h.objs.size ≤ e
  obj : ∃ oe vs, h'.get? e = some oe ∧ oe.cls = .ref C ∧ oe.dict = some d ∧ oe.data = .fields vs ∧ vs[1]? = some .none
  dbig : h.objs.size ≤ d
  dne : d ≠ e
  ns : ∃ mA, h'.Ns1 d mA ∧ ∀ y, mA y = fs.lookup y
/-- what a call of fI on a fresh error of the class at C does -/
def InitSpec (prog : Program) (K : Frag) (C fI : Addr) (ps : List Str) : Prop := ∀ (w : World) (mg mb : Str → Option Value) (A : Around) (s : Shared) (R : Result → Shared → Prop) (x t0 : Addr) (us : List Value), us.length = ps.length → K.In s.heap → s.heap.NoLimit → s.heap.Ns mainGlobals mg → s.heap.Ns builtinsNs mb →
  (∀ x : Str, x ≠ "__name__" → mb x = bootBuiltins x) → s.heap.get? x = some (excO C t0) → K.lookup x = Option.none → A.depth < recursionLimit →
  (∀ h' tk dx t1, InitEnd s.heap h' x C dx t1 (ps.zip us) → R (.ok (.ret .none)) { s with heap := h', toks := tk }) → codeAny (model prog w) A (.call (.ref fI) ⟨.ref x :: us, []⟩) R s
section
variable {prog : Program} {K : Frag} {C D fI : Addr} {file : Str} {f f2 qual : Str} {params : Arguments} {body : List Stmt} {scope : Scope} {p0 p1 p2 p3 p4 q1 q2 q3 q4 q5 q6 q7 q8 r1 r2 : Pos}
theorem spec1 (T : Chain K file C D fI [f] qual params body scope) (Z : Txt prog file [f] params scope) (hb : body = [sSup p0 p1 p2 p3 p4 [.Name f r1], sFld f q1 q2 q3 q4]) (P : SupOk p0 p1 p2 p3 p4 [.Name f r1]) (hf : f ≠ "self") (hfd : (f == ("__debug__" : Str)) = false) : InitSpec prog K C fI [f] := by
  intro w mg mb A s R x t0 us hl X hlim G B hbb hx hnx hroom hq
  match us, hl with
  | [v], _ => exact init1 T Z hb P hf hfd X hlim G B hbb hx hnx hroom hq
theorem spec2 (T : Chain K file C D fI [f, f2] qual params body scope) (Z : Txt prog file [f, f2] params scope) (hb : body = [sSup p0 p1 p2 p3 p4 [.Name f r1, .Name f2 r2], sFld f q1 q2 q3 q4, sFld f2 q5 q6 q7 q8]) (P : SupOk p0 p1 p2 p3 p4 [.Name f r1, .Name f2 r2]) (hf : f ≠ "self") (hf2 : f2 ≠ "self") (hff : f ≠ f2) (hfd : (f == ("__debug__" : Str)) = false) (hfd2 : (f2 == ("__debug__" : Str)) = false) : InitSpec prog K C fI [f, f2] := by
  intro w mg mb A s R x t0 us hl X hlim G B hbb hx hnx hroom hq
  match us, hl with
  | [v, v2], _ =>
    refine init2 T Z hb P hf hf2 hff hfd hfd2 X hlim G B hbb hx hnx hroom fun h' tk dx t1 e => hq h' tk dx t1 { e with ns := ?_ }
    obtain ⟨mA, h1, h2⟩ := e.ns
    refine ⟨mA, h1, fun y => (h2 y).trans ?_⟩
    have nb : ∀ {a b : Str}, a ≠ b → (a == b) = false := fun {a b} h => by simpa using h
    by_cases e1 : y = f
    · subst e1
      simp [List.lookup, nb hff]
    · by_cases e2 : y = f2
      · subst e2
        simp [List.lookup, nb e1]
      · simp [List.lookup, nb e1, nb e2]
end
section
variable {prog : Program} {w : World} {A : Around} {R : Result → Shared → Prop} {s : Shared} {K : Frag} {mg mb : Str → Option Value} {C fI : Addr} {ps : List Str}
theorem made (S : InitSpec prog K C fI ps) (hcls : ∃ nm q N bs bm sn sub ab col dd k0 k1 k2 k3 k5, K.lookup C = some (excClassObj nm q C N bs bm true sn sub ab col dd k0 k1 k2 k3 k5 "ValueError.__new__") ∧ refsVE bm = true)
    (iC : findIn K (.ref C) "__init__" = some (some (.ref fI))) (tC : typeIn K (.ref fI) = some (.type "function")) {us : List Value} (hl : us.length = ps.length) (hz : us.length ≤ sizeLine) (X : K.In s.heap) (hlim : s.heap.NoLimit) (G : s.heap.Ns mainGlobals mg) (B : s.heap.Ns builtinsNs mb)
    (hbb : ∀ x : Str, x ≠ "__name__" → mb x = bootBuiltins x) (hroom : A.depth + 1 < recursionLimit) (hq : ∀ h' tk e d, OwnMade s.heap h' e C d (ps.zip us) → R (.ok (.ret (.ref e))) { s with heap := h', toks := tk }) :
    codeAny (model prog w) A (.call (.ref C) ⟨us, []⟩) R s := by
  obtain ⟨nm, q, N, bs, bm, sn, sub, ab, col, dd, k0, k1, k2, k3, k5, hC, hbm⟩ := hcls
  obtain ⟨hp, g, dr, tk, os⟩ := s
  have k : ∀ b o, hp.get? b = some o → ((hp.push (kdv_tup us)).push (excO C hp.objs.size)).get? b = some o := fun b o e => Heap.get?_push_of_some _ (Heap.get?_push_of_some _ e)
  have hget : ((hp.push (kdv_tup us)).push (excO C hp.objs.size)).get? (hp.objs.size + 1) = some (excO C hp.objs.size) := by heap_get
  have hnx : K.lookup (hp.objs.size + 1) = Option.none := by
    cases e : K.lookup (hp.objs.size + 1) with
    | none => rfl
    | some o =>
      have z : hp.get? (hp.objs.size + 1) = some o := X _ _ e
      exact absurd (Nat.lt_of_succ_lt (Heap.lt_size z)) (Nat.lt_irrefl _)
  refine call_own F.excBase_ValueError (fun X => refsVE_contains X bm hbm) (X _ _ hC) (looks_findIn X iC) (fun self => bind_fn X self tC) hz ?_
  refine S w mg mb _ ⟨(hp.push (kdv_tup us)).push (excO C hp.objs.size), g, dr, tk, os⟩ _ _ _ us hl (X.keeps k) (hlim.keeps k) (G.keeps k) (B.keeps k) hbb hget hnx ?_ fun h' tk' dx t1 ⟨k', hx, dn, dne, hns⟩ => ?_
  · show A.depth + 1 < recursionLimit
    exact hroom
  · have old : ∀ b o, hp.get? b = some o → h'.get? b = some o := fun b o e => k' b o (Nat.ne_of_lt (Nat.lt_succ_of_lt (Heap.lt_size e))) (k b o e)
    have z : hp.objs.size + 1 + 1 ≤ dx := by
      first
        | (simpa only [Heap.size_push] using dn)
        | exact dn
        | (have q := dn; rw [Heap.size_push, Heap.size_push] at q; exact q)
    exact ⟨rfl, hq h' tk' (hp.objs.size + 1) dx ⟨old, Nat.le_succ _, ⟨_, _, hx, rfl, rfl, rfl, rfl⟩, Nat.le_trans (Nat.le_trans (Nat.le_succ _) (Nat.le_succ _)) z, dne, hns⟩⟩
end
end DX

namespace DL
open PySem PySem.Spec PyProof.Rows L2
/-- an own error class of the module -/
structure ErrC (M : Mdl) (x : Str) (ps : List Str) : Prop where
  ex : ∃ (C fI : Addr), M.mg x = some (.ref C) ∧ PySem.W.keepIn M.K (.ref C) = true ∧ DX.InitSpec M.P M.K C fI ps ∧
    (∃ nm q N bs bm sn sub ab col dd k0 k1 k2 k3 k5, M.K.lookup C = some (PySem.excClassObj nm q C N bs bm true sn sub ab col dd k0 k1 k2 k3 k5 "ValueError.__new__") ∧ PySem.HandSPX.refsVE bm = true) ∧
    PySem.W.findIn M.K (.ref C) "__init__" = some (some (.ref fI)) ∧ PySem.W.typeIn M.K (.ref fI) = some (.type "function") ∧ PySem.W.subIn M.K (.ref C) (.type "BaseException") = some true ∧ PySem.W.typeIn M.K (.ref C) = some (.type "type")
  nd : (x == ("__debug__" : Str)) = false
theorem relO_zip : ∀ {ps : List Str} {vs : List V} {us : List Value}, Vals vs us → ∀ f : Str, RelO ((ps.zip vs).lookup f) ((ps.zip us).lookup f)
  | [], _, _, _, f => trivial
  | p :: ps, _, _, .nil, f => trivial
  | p :: ps, _, _, .cons r t, f => by
    by_cases e : f = p
    · subst e
      simp only [List.zip_cons_cons, List.lookup_cons_self]
      exact r
    · have : (f == p) = false := by simpa using e
      simp only [List.zip_cons_cons, List.lookup_cons, this]
      exact relO_zip t f
theorem fsOk_zip {K : PySem.W.Frag} {H : Hp} : ∀ {ps : List Str} {vs : List V} {ds : List D}, DpAll K H vs ds → FsOk K H (ps.zip vs) (ps.zip ds)
  | [], _, _, _ => .nil
  | _ :: _, _, _, .nil => .nil
  | _ :: _, _, _, .cons p t => .cons p (fsOk_zip t)
section
variable {M : Mdl} {c : Cf} {pos pos2 p : Pos} {e : Expr} {es : List Expr} {x : Str} {ps : List Str}
def tMk (C : Addr) (ps : List Str) (ta : TA) : L2.St → Hp → XK → Prop := fun σ H Q => ta σ H fun vs H1 => vs.length = ps.length ∧ vs.length ≤ sizeLine ∧ ∀ d, H1 d = Option.none → Q (.ref C) (some d) (upd H1 d (.xd (ps.zip vs)))
theorem pmk_c {X : Cx} {k : Nat} {C fI : Addr} {ta : TA} (gC : X.mg x = some (.ref C)) (kC : PySem.W.keepIn X.K (.ref C) = true) (S : DX.InitSpec X.prog X.K C fI ps)
    (hcls : ∃ nm q N bs bm sn sub ab col dd k0 k1 k2 k3 k5, X.K.lookup C = some (PySem.excClassObj nm q C N bs bm true sn sub ab col dd k0 k1 k2 k3 k5 "ValueError.__new__") ∧ PySem.HandSPX.refsVE bm = true)
    (iC : PySem.W.findIn X.K (.ref C) "__init__" = some (some (.ref fI))) (tC : PySem.W.typeIn X.K (.ref fI) = some (.type "function")) (exC : PySem.W.subIn X.K (.ref C) (.type "BaseException") = some true) (tyC : PySem.W.typeIn X.K (.ref C) = some (.type "type"))
    (hd : (x == ("__debug__" : Str)) = false) (hr : X.A.depth + 4 < recursionLimit) (ha : PA X (e :: es) ta) (hg : Gl X x)
    (he : starEach (e :: es) X.env = (false, eval e X.env) :: starEach es X.env) (hpl : (backTo pos (starEach es X.env)).any (·.1) = false) : PMk X (.Call (.Name x p) (e :: es) [] pos) (tMk C ps ta) := by
  intro pins s σ H Q I h
  refine wpAny_Call_Name_kw (ld_glob I hg gC ?_ hd)
  refine PySem.W.callWith_K (h₀ := X.base) I.ok.mod.kin kC (thn (ha.run pos pins s σ H _ I h) fun us s1 hh => ?_) he hpl
  obtain ⟨vs, H1, I1, r1, hl, hz, q1⟩ := hh
  refine ⟨I1.kIn, ?_⟩
  have hlim := I1.nolimit
  have hl2 := r1.length
  have KX := I1.kIn
  have md := I1.ok.mod
  obtain ⟨mb, hb, hbb⟩ := md.blt
  have e0 := I1.env0
  have kb : ∀ b o, X.base.get? b = some o → s1.heap.get? b = some o := fun b o q => (e0.bs b o q).1
  refine wpAny_call (DX.made S hcls iC tC (hl2.symm.trans hl) (by show us.length ≤ sizeLine; omega) KX hlim (md.glob.keeps kb) (hb.keeps kb) hbb (by show X.A.depth + 1 < recursionLimit; omega) fun h' tk' a d Md => ?_)
  obtain ⟨hp, g, dr, tk, os⟩ := s1
  show MkP X pins σ Q (.ref a) ⟨h', g, dr, tk', os⟩
  obtain ⟨oe, fv, hoe, hc, hdd, hdat, h1⟩ := Md.obj
  obtain ⟨mA, hns, hA⟩ := Md.ns
  obtain ⟨G', g1, g2⟩ := restrict h' fun b => decide (b ≠ a)
  have gk : ∀ b, b ≠ a → G'.get? b = h'.get? b := fun b hb => g1 b (decide_eq_true hb)
  have ge : G'.get? a = Option.none := g2 a (by simp)
  have old : ∀ b o, hp.get? b = some o → G'.get? b = some o := fun b o q => (gk b (Nat.ne_of_lt (Nat.lt_of_lt_of_le (Heap.lt_size q) Md.new))).trans (Md.keep b o q)
  have ob : ObjOk X.prog X.w (upd H1 d (.xd (ps.zip vs))) G' d (.xd (ps.zip vs)) :=
    ⟨_, hns.at (fun o q => (gk d Md.dne).trans q), fun f => by rw [hA f]; exact relO_zip r1 f⟩
  have J : Inv X pins σ (upd H1 d (.xd (ps.zip vs))) ⟨G', g, dr, tk', os⟩ := I1.laid (t' := tk') old Md.dbig ob
  refine ⟨a, oe, fv, ⟨G', g, dr, tk', os⟩, _, .ref C, some d, rfl, J, fun b o q => ?_, ge, hoe, ⟨hc, hdd⟩, hdat, h1, ?_, rfl, I1.bare, raises_own exC tyC, q1 d (I1.hok.fresh Md.dbig)⟩
  · by_cases hb : b = a
    · have q' : G'.get? b = some o := q
      rw [hb, ge] at q'; cases q'
    · exact (gk b hb).symm.trans q
  · rw [upd_ne (Ne.symm Md.dne)]
    exact I1.hok.fresh Md.new
/-- raise C(es) -/
def raiseS (x : Str) (ps : List Str) (fa : Sl → Out (List D)) : Sl → Out Flw := fun env => (fa env).bind fun ds env => if ds.length = ps.length ∧ ds.length ≤ 16777216 then .err x (ps.zip ds) env else .stuck
theorem ds_raise {fa : Sl → Out (List D)} (EC : ErrC M x ps) (hc : c.calm = true) (ha : DA M c (e :: es) fa) (hg : c.sc.names.lookup x = some .globalImplicit) (hs : NoStar e) (hpl : ∀ (pos : Pos) (env : PySem.Env), (backTo pos (starEach es env)).any (·.1) = false) :
    DS M c (.Raise (some (.Call (.Name x p) (e :: es) [] pos)) Option.none pos2) (raiseS x ps fa) := by
  refine ⟨fun X G W tk F env σ H E R h => ?_⟩
  obtain ⟨⟨C, fI, h1, h2, h3, h4, h5, h6, h7, h8⟩, hd⟩ := EC
  have hr := (G.room hc).dp
  refine WS.of (ps_raise (G.calm hc) tk (pmk_c (C := C) (fI := fI) (ps := ps) (k := c.k) (by rw [G.mg]; exact h1) (by rw [G.K]; exact h2) (by rw [G.prog, G.K]; exact h3) (by rw [G.K]; exact h4) (by rw [G.K]; exact h5) (by rw [G.K]; exact h6) (by rw [G.K]; exact h7) (by rw [G.K]; exact h8) hd (by omega) pa_wa (G.gl hg) (hs _ _) (hpl _ _))) ?_
  refine ha.run X G.toGood W tk F env σ H _ R (PostS.split h fun ds env1 vs H1 _ R1 g1 p1 h1' => ?_)
  split at h1'
  · rename_i hl
    refine ⟨by rw [p1.len]; exact hl.1, by rw [p1.len, szl]; exact hl.2, fun d hdn => ?_⟩
    have R2 := R1.grow (upd_grow (o := .xd (ps.zip vs)) hdn)
    have g2 : Grow F env1 σ H1 env1 σ (upd H1 d (.xd (ps.zip vs))) := Grow.of (upd_grow hdn)
    exact h1' _ _ σ _ R2 g2 ⟨C, d, ps.zip vs, h1, rfl, rfl, minus_some.mpr ⟨R1.fresh hdn, upd_same⟩, FsOk.same g2 (fsOk_zip p1)⟩
  · exact h1'.elim
end
end DL
end
section
set_option Elab.async false
set_option linter.all false
set_option maxRecDepth 100000
set_option maxHeartbeats 4000000
/-! DX3: try with clauses, named and not. -/
namespace DL
open PySem PySem.Spec PyProof.Rows L2

/-! ### what it does -/
structure Cl where
  x : Str
  i : Option Nat
  f : Sl → Out Flw
def noEr (env : Sl) : Bool := env.all fun s => match s with
  | .er _ _ => false
  | _ => true
/-- a suite's end: its name goes -/
def leaveE (i : Option Nat) (o : Out Flw) : Out Flw := match o with
  | .ok a env => (match i with
    | none => if noEr env = true then .ok a env else .stuck
    | some i => (match env[i]? with
      | some s => if s.free = true ∧ noEr (env.set i .no) = true then .ok a (env.set i .no) else .stuck
      | none => .stuck))
  | _ => .stuck
def handS (isK : Str → Str → Option Bool) : List Cl → Str → List (Str × D) → Sl → Out Flw
  | [], C, fs, env => .err C fs env
  | h :: r, C, fs, env => match isK C h.x with
    | some true => (match h.i with
      | none => leaveE none (h.f env)
      | some i => (match env[i]? with
        | some s => if s.free = true then leaveE (some i) (h.f (env.set i (.er C fs))) else .stuck
        | none => .stuck))
    | some false => handS isK r C fs env
    | none => .stuck
def tryS (isK : Str → Str → Option Bool) (fb : Sl → Out Flw) (hs : List Cl) : Sl → Out Flw := fun env => match fb env with
  | .err C fs env1 => handS isK hs C fs env1
  | .ok a env1 => .ok a env1
  | .stuck => .stuck

/-! ### the state in a suite -/
def Mdl.withE (M : Mdl) (a : Addr) (C : Str) (d : Addr) : Mdl := { M with exc := fun a' C' d' => (a' = a ∧ C' = C ∧ d' = d) ∨ M.exc a' C' d' }
section
variable {M : Mdl} {F : Act} {env : Sl} {σ : St} {H : Hp} {a d : Addr} {C : Str}
theorem Rel.more (R : Rel M.kx F env σ H) : Rel (M.withE a C d).kx F env σ H :=
  ⟨R.len, fun i s h => by
    obtain ⟨o, e1, k⟩ := R.slot i s h
    refine ⟨o, e1, ?_⟩
    cases s with
    | er C' fs => obtain ⟨a', d', ws, e2, x, p, q⟩ := k; exact ⟨a', d', ws, e2, .inr x, p, q⟩
    | no => trivial
    | val d => exact k
    | ml xs => exact k
    | mb xs => exact k, R.inj, R.frame, R.bg, R.live0, R.live, R.pv, R.pne, R.own, R.lent⟩
theorem noEr_at (h : noEr env = true) {i : Nat} {C' : Str} {fs : List (Str × D)} : env[i]? ≠ some (.er C' fs) := fun e => by
  have := List.all_eq_true.mp h _ (List.mem_of_getElem? e)
  cases this
theorem Rel.less (hn : noEr env = true) (R : Rel (M.withE a C d).kx F env σ H) : Rel M.kx F env σ H :=
  ⟨R.len, fun i s h => by
    obtain ⟨o, e1, k⟩ := R.slot i s h
    refine ⟨o, e1, ?_⟩
    cases s with
    | er C' fs => exact absurd h (noEr_at hn)
    | no => trivial
    | val d => exact k
    | ml xs => exact k
    | mb xs => exact k, R.inj, R.frame, R.bg, R.live0, R.live, R.pv, R.pne, R.own, R.lent⟩
end

/-! ### the clauses -/
def Cf.hot (c : Cf) : Cf := { c with calm := false }
/-- the classes: which error is of which -/
def IsK (M : Mdl) (isK : Str → Str → Option Bool) : Prop := ∀ C x b, isK C x = some b → ∃ (a : Addr) (cv : Value), M.mg C = some (.ref a) ∧ (M.mg x = some cv ∨ (M.mg x = Option.none ∧ bootBuiltins x = some cv ∧ x ≠ "__name__")) ∧ PySem.W.exmOne M.K (.ref a) cv = some b
inductive HdsD (M : Mdl) (c : Cf) : List ExceptHandler → List Cl → Prop
  | nil : HdsD M c [] []
  | only {x : Str} {np pos : Pos} {b₀ : Stmt} {suite : List Stmt} {f : Sl → Out Flw} {hds : List ExceptHandler} {hs : List Cl} (hg : c.sc.names.lookup x = some .globalImplicit) (hd : (x == ("__debug__" : Str)) = false) (h : ∀ a C d, DSs (M.withE a C d) c.hot (b₀ :: suite) f) (r : HdsD M c hds hs) :
      HdsD M c (.ExceptHandler (some (.Name x np)) Option.none (b₀ :: suite) pos :: hds) (⟨x, Option.none, f⟩ :: hs)
  | as_ {x n : Str} {i : Nat} {np pos : Pos} {b₀ : Stmt} {suite : List Stmt} {f : Sl → Out Flw} {hds : List ExceptHandler} {hs : List Cl} (hg : c.sc.names.lookup x = some .globalImplicit) (hd : (x == ("__debug__" : Str)) = false) (hN : c.N[i]? = some n) (hl : c.sc.names.lookup n = some .local)
      (h : ∀ a C d, DSs (M.withE a C d) c.hot (b₀ :: suite) f) (r : HdsD M c hds hs) : HdsD M c (.ExceptHandler (some (.Name x np)) (some n) (b₀ :: suite) pos :: hds) (⟨x, some i, f⟩ :: hs)
section
variable {M : Mdl} {c : Cf} {pos : Pos} {body : List Stmt} {h₀ : ExceptHandler} {hds : List ExceptHandler} {hs : List Cl} {fb : Sl → Out Flw} {isK : Str → Str → Option Bool}
theorem Good.suite {X : Cx} (G : GoodS M c X) (hc : c.calm = true) {a Ca d : Addr} {C : Str} {oe : Obj} {pn : List (Addr × Obj)} (hm : M.mg C = some (.ref Ca)) (hz : Zc (.ref Ca) (some d) oe) (hf : ∃ vs, oe.data = .fields vs) : GoodS (M.withE a C d) c.hot (X.suite a ((a, oe) :: pn)) :=
  ⟨⟨G.prog, G.w, G.K, G.mg, G.base, G.N, G.sc, G.fn, G.nd, (fun z => nomatch (show false = true from z)), (fun z => nomatch (show false = true from z)), G.units, G.deep, G.guards, (fun z => nomatch (show false = true from z)), (fun a' C' d' z => by
    rcases z with ⟨e1, e2, e3⟩ | z
    · rw [e1, e2, e3]; exact ⟨oe, Ca, List.mem_cons_self .., hm, hz, hf⟩
    · exact (G.cold hc _ _ _ z).elim)⟩, PassesOwn.never, G.kind, G.stk, G.frm⟩
/-- what a suite is to give, from what is wanted behind the try -/
theorem leave_none {F : Act} {env : Sl} {σ : St} {H : Hp} {E : Ends} {W : WX} {a d : Addr} {C : Str} {o : Out Flw} (h : PostS M F env σ H E W (leaveE Option.none o)) : PostS (M.withE a C d) F env σ H E (fun _ _ _ _ => False) o := by
  cases o with
  | stuck => exact h
  | err C' fs e2 => exact h.elim
  | ok x e2 =>
    have h : PostS M F env σ H E W (if noEr e2 = true then .ok x e2 else .stuck) := h
    split at h
    · rename_i hn
      cases x with
      | nx => exact fun σ' H' R g => h σ' H' (R.less hn) g
      | br => exact fun σ' H' R g => h σ' H' (R.less hn) g
      | ct => exact fun σ' H' R g => h σ' H' (R.less hn) g
      | ret v => exact fun u σ' H' R g p => h u σ' H' (R.less hn) g p
    · exact h.elim
def goneE (E : Ends) (i : Nat) : Ends := { nx := fun σ' H' => E.nx (σ'.set i Option.none) H', rt := E.rt, bk := fun σ' H' => E.bk (σ'.set i Option.none) H', ct := fun σ' H' => E.ct (σ'.set i Option.none) H' }
theorem leave_some {F : Act} {env : Sl} {σ : St} {H : Hp} {E : Ends} {W : WX} {a d : Addr} {C : Str} {o : Out Flw} {i : Nat} (h : PostS M F env σ H E W (leaveE (some i) o)) : PostS (M.withE a C d) F env σ H (goneE E i) (fun _ _ _ _ => False) o := by
  cases o with
  | stuck => exact h
  | err C' fs e2 => exact h.elim
  | ok x e2 =>
    have h : PostS M F env σ H E W (match e2[i]? with
      | some s => if s.free = true ∧ noEr (e2.set i .no) = true then .ok x (e2.set i .no) else .stuck
      | none => .stuck) := h
    cases q : e2[i]? with
    | none => rw [q] at h; exact h.elim
    | some s =>
      simp only [q] at h
      split at h
      · rename_i hn
        have go : ∀ {σ' : St} {H' : Hp}, Rel (M.withE a C d).kx F e2 σ' H' → Grow F env σ H e2 σ' H' → Rel M.kx F (e2.set i .no) (σ'.set i Option.none) H' ∧ Grow F env σ H (e2.set i .no) (σ'.set i Option.none) H' ∧ Grow F e2 σ' H' (e2.set i .no) (σ'.set i Option.none) H' := fun {σ' H'} R g => by
          obtain ⟨R2, g2⟩ := R.put (s' := .no) (o := Option.none) q hn.1 rfl fun _ _ => trivial
          exact ⟨R2.less hn.2, g.trans g2, g2⟩
        cases x with
        | nx => exact fun σ' H' R g => h _ H' (go R g).1 (go R g).2.1
        | br => exact fun σ' H' R g => h _ H' (go R g).1 (go R g).2.1
        | ct => exact fun σ' H' R g => h _ H' (go R g).1 (go R g).2.1
        | ret v => exact fun u σ' H' R g p => h u _ H' (go R g).1 (go R g).2.1 (Dp.same (go R g).2.2 p)
      · exact h.elim
/-- what the body's error brings -/
def wishE (M : Mdl) (F : Act) (env : Sl) (σ : St) (H : Hp) (fb : Sl → Out Flw) : WX := fun cls dd σ' H' => ∃ (C : Str) (fs : List (Str × D)) (env1 : Sl), fb env = .err C fs env1 ∧ Rel M.kx F env1 σ' H' ∧ Grow F env σ H env1 σ' H' ∧ ErrIs M.K M.mg (F.pub env1 σ' H') H' cls dd C fs
theorem body_post {F : Act} {env : Sl} {σ : St} {H : Hp} {E : Ends} {W : WX} (h : PostS M F env σ H E W (tryS isK fb hs env)) : PostS M F env σ H E (wishE M F env σ H fb) (fb env) := by
  unfold tryS at h
  cases q : fb env with
  | stuck => rw [q] at h; exact h
  | err C fs env1 => exact fun cls dd σ' H' R g e => ⟨C, fs, env1, q, R, g, e⟩
  | ok a env1 =>
    rw [q] at h
    cases a with
    | nx => exact h
    | br => exact h
    | ct => exact h
    | ret d => exact h
theorem ds_try (ik : IsK M isK) (hc : c.calm = true) (hb : DSs M c body fb) (hh : HdsD M c (h₀ :: hds) hs) : DS M c (.Try body (h₀ :: hds) [] [] pos) (tryS isK fb hs) := by
  refine ⟨fun X G W tk F env σ H E R h pins s I => ?_⟩
  have ok := I.ok
  have hfr : X.A.frames = some (X.env :: X.outer) := by rw [ok.frames, G.stk]
  refine wpAny_Try_except ?_
  have Gt : ∀ (xe : Value → Shared → Prop), PassesOwn (model X.prog X.w) X.A X.env xe → GoodS M c (X.tr (X.pn ++ pins) xe) := fun xe hp =>
    ⟨⟨G.prog, G.w, G.K, G.mg, G.base, G.N, G.sc, G.fn, G.nd, G.calm, G.room, G.units, G.deep, G.guards, G.cold, fun a C d z => (G.cold hc a C d z).elim⟩, hp, G.kind, G.stk, G.frm⟩
  refine wpAny_mono (hb.run _ (Gt (fun e s₁ => wpAny (model X.prog X.w) X.A (noteFrame e X.env) (fun _ s₂ => wpAny (model X.prog X.w) X.A (setFlight e Option.none) (fun _ s₃ =>
    wpAny (model X.prog X.w) X.A (handleBy e X.env (h₀ :: hds)) (SP X pins E) X.xe s₃) X.xe s₂) X.xe s₁) PassesOwn.looking) (wishE M F env σ H fb) (fun u s' xx => ?ctch) F env σ H E R (body_post h) [] s (I.toTry _)) (fun f s1 hsp => ?_) (fun e s1 he => he)
  case ctch =>
    obtain ⟨a, B, sI, pins', σ1, H1, cls, d, rfl, J0, nb, up, sky, na, os, ag, C, fs, env1, qb, R1, g1, Ca, dd, ws, m1, rfl, rfl, hdd, hfs⟩ := xx
    unfold tryS at h
    rw [qb] at h
    have h : PostS M F env σ H E W (handS isK hs C fs env1) := h
    have J : Inv X pins σ1 H1 sI := J0.ofTry ok
    have sky : Sky B (X.env :: X.outer) a (Zc (.ref Ca) (some dd)) X.env.locals s'.heap := by rw [← G.stk]; exact sky
    refine Sky.land (M := model X.prog X.w) Zc.steady hfr G.frm sky fun h3 fl3 up3 => ?_
    have land : ∀ {h4 : Heap}, B.StaysIn h4 → sI.heap.UpToSlots h4 → Inv X pins σ1 H1 { s' with heap := h4 } := fun st u4 => J.landed nb st u4 os ag
    have J3 := land fl3.1 (up.trans up3)
    obtain ⟨oe3, vs3, he3, hz3, hd3⟩ := fl3.there
    have nfr : a ∉ frs (X.env :: X.outer) := fun hm => by
      obtain ⟨_, o', e', hnf⟩ := fl3.2.2.1.mem hm
      rw [he3] at e'
      cases e'
      exact hnf _ hd3
    have nL : a ≠ X.env.locals := fun z => nfr (List.mem_filterMap.mpr ⟨X.env, List.mem_cons_self .., by rw [G.frm, z]⟩)
    have nF : a ∉ X.fs := fun hm => by
      obtain ⟨e, he, q⟩ := List.mem_filterMap.mp hm
      exact nfr (List.mem_filterMap.mpr ⟨e, List.mem_cons_of_mem _ he, q⟩)
    have S3 := J3.suite he3 hd3 na nL nF
    have go : ∀ {hds' : List ExceptHandler} {hs' : List Cl}, HdsD M c hds' hs' → PostS M F env σ H E W (handS isK hs' C fs env1) → wpAny (model X.prog X.w) X.A (handleBy (.ref a) X.env hds') (SP X pins E) X.xe { s' with heap := h3 } := by
      intro hds' hs' hk
      -- the test of one clause
      have test : ∀ {x : Str} {np p : Pos} {b : Bool} {Rz : Result → Shared → Prop}, c.sc.names.lookup x = some .globalImplicit → (x == ("__debug__" : Str)) = false → isK C x = some b → Rz (.ok (if b then .brk else .next)) { s' with heap := h3 } →
          codeAny (model X.prog X.w) (X.A.mark (some (.ref a))) (.handlers (.ref a) [.ExceptHandler (some (.Name x np)) Option.none [] p] X.env) Rz { s' with heap := h3 } := fun {x np p b Rz} hg hdb hb q => by
        obtain ⟨a', cv, n1, n2, n3⟩ := ik C x b hb
        rw [m1] at n1
        cases n1
        have lt : PySem.W.Looks (model X.prog X.w) h3 (typeOf (.ref a)) (.ref Ca) := fun A Q E s k q => wpAny_typeOf_ref (k _ _ he3) (by rw [hz3.1]; exact q)
        have lm := PySem.W.exm_one (M := model X.prog X.w) J3.kIn lt (by rw [G.K]; exact n3)
        have Gl : Gl (X.suite a ((a, oe3) :: (X.pn ++ pins))) x := G.toGood.gl hg
        refine codeAny_handlers_test ?_
        rcases n2 with n2 | ⟨n2, n4, n5⟩
        · exact ld_glob S3 Gl (by show X.mg x = _; rw [G.mg]; exact n2) (lm.here q) hdb
        · exact ld_blt S3 Gl (by show X.mg x = _; rw [G.mg]; exact n2) n4 (lm.here q) n5 hdb
      induction hk with
      | nil =>
        intro w
        refine wpAny_handleBy_nil ?_
        obtain ⟨_, _, _, oe, vs, T, oT, ts', he, hz, hd, h1, hr⟩ := id fl3
        unfold PySem.passOn
        refine wpAny_bind (wpAny_field he hd h1 ?_)
        rw [if_neg (show ¬ ((Value.ref T == Value.none) = true) from by simp)]
        have fin : wpAny (model X.prog X.w) X.A (setFlight (.ref a) X.env.frame) (fun _ s4 => wpAny (model X.prog X.w) X.A (throw (.ref a) : Sem Flow) (SP X pins E) X.xe s4) X.xe { s' with heap := h3 } := by
          rw [G.frm]
          refine HandSPX.setFlight_upZ fl3 fun h4 hh4 up4 => wpAny_throw (tk _ _ ?_)
          exact ⟨a, B, sI, pins, σ1, H1, .ref Ca, some dd, rfl, J, nb, (up.trans up3).trans up4, .inr (.inr (by rw [G.stk]; exact hh4)), na, os, ag, w _ _ σ1 H1 R1 g1 ⟨Ca, dd, ws, m1, rfl, rfl, hdd, hfs⟩⟩
        first
          | exact wpAny_bind (wpAny_pure (wpAny_bind fin))
          | exact wpAny_bind fin
      | @only x np p b₀ suite f hds2 hs2 hg hdb hsu r ih =>
        intro w
        unfold handS at w
        cases q : isK C x with
        | none => simp only [q] at w; exact w.elim
        | some b =>
          simp only [q] at w
          refine wpAny_handleBy_cons (test hg hdb q ?_) (by intro z; cases z)
          cases b with
          | false => exact ih w
          | true =>
            have w : PostS M F env σ H E W (leaveE Option.none (f env1)) := w
            refine codeAny_handlers_suite (HandSPX.lands_againZ fl3 fun h4 fl4 up4 => ?_)
            obtain ⟨oe4, vs4, he4, hz4, hd4⟩ := fl4.there
            have S4 := (land fl4.1 ((up.trans up3).trans up4)).suite he4 hd4 na nL nF
            refine wpAny_mono ((hsu a C dd).run _ (Good.suite G hc m1 hz4 ⟨_, hd4⟩) _ takes_none5 F env1 σ1 H1 E R1.more (leave_none (PostS.rebase w g1)) [] _ S4) (fun fl s6 hsp => ?_) (fun _ _ z => False.elim z)
            cases fl with
            | next => obtain ⟨σ6, H6, S6, q6⟩ := hsp; exact ⟨_, _, S6.unsuite ok, q6⟩
            | brk => obtain ⟨σ6, H6, S6, q6⟩ := hsp; exact ⟨_, _, S6.unsuite ok, q6⟩
            | cont => obtain ⟨σ6, H6, S6, q6⟩ := hsp; exact ⟨_, _, S6.unsuite ok, q6⟩
            | ret u => obtain ⟨v6, σ6, H6, S6, r6, q6⟩ := hsp; exact ⟨_, _, _, S6.unsuite ok, r6, q6⟩
      | @as_ x n i np p b₀ suite f hds2 hs2 hg hdb hN hl hsu r ih =>
        intro w
        unfold handS at w
        cases q : isK C x with
        | none => simp only [q] at w; exact w.elim
        | some b =>
          simp only [q] at w
          refine wpAny_handleBy_cons (test hg hdb q ?_) (by intro z; cases z)
          cases b with
          | false => exact ih w
          | true =>
            have w : PostS M F env σ H E W (match env1[i]? with
              | some s => if s.free = true then leaveE (some i) (f (env1.set i (.er C fs))) else .stuck
              | none => .stuck) := w
            cases qs : env1[i]? with
            | none => simp only [qs] at w; exact w.elim
            | some s0 =>
              simp only [qs] at w
              split at w
              · rename_i hfree
                have hNX : X.N.Nodup := by rw [G.N]; exact G.nd
                have hiX : X.N[i]? = some n := by rw [G.N]; exact hN
                have hlX : X.env.scope.names.lookup n = some .local := by rw [G.sc]; exact hl
                refine codeAny_handlers_suite_as (HandSPX.lands_againZ fl3 fun h4 fl4 up4 => ?_)
                obtain ⟨oe4, vs4, he4, hz4, hd4⟩ := fl4.there
                have S4 := (land fl4.1 ((up.trans up3).trans up4)).suite he4 hd4 na nL nF
                refine store_ok (X := X.suite a ((a, oe4) :: (X.pn ++ pins))) (v := .ref a) S4 hNX hiX (.inl hlX) rfl (fun s5 S5 => ?_) (.inr hlX)
                obtain ⟨R5, g5⟩ := (R1.more (a := a) (C := C) (d := dd)).put (s' := .er C fs) (o := some (.ref a)) qs hfree rfl fun Hm k => ⟨a, dd, ws, rfl, .inl ⟨rfl, rfl, rfl⟩, k _ _ hdd, FsOk.same k hfs⟩
                refine wpAny_mono ((hsu a C dd).run _ (Good.suite G hc m1 hz4 ⟨_, hd4⟩) _ takes_none5 F _ _ H1 (goneE E i) R5 (leave_some (PostS.rebase (PostS.rebase w g1) g5)) [] s5 S5) (fun fl s6 hsp => ?_) (fun _ _ z => False.elim z)
                have end_ : ∀ {σ6 : St} {H6 : Hp} {Qz : Shared → Prop}, Inv (X.suite a ((a, oe4) :: (X.pn ++ pins))) [] σ6 H6 s6 → (∀ s7, Inv X pins (σ6.set i Option.none) H6 s7 → Qz s7) →
                    wpAny (model X.prog X.w) X.A (do bindName X.env n .none; unbindBehindTheSuite X.env n p) (fun _ s7 => Qz s7) X.xe s6 := fun {σ6 H6 Qz} S6 hq => gone_ok (S6.unsuite ok) hNX hiX hlX hq
                cases fl with
                | next => obtain ⟨σ6, H6, S6, q6⟩ := hsp; exact end_ S6 fun s7 J7 => ⟨_, _, J7, q6⟩
                | brk => obtain ⟨σ6, H6, S6, q6⟩ := hsp; exact end_ S6 fun s7 J7 => ⟨_, _, J7, q6⟩
                | cont => obtain ⟨σ6, H6, S6, q6⟩ := hsp; exact end_ S6 fun s7 J7 => ⟨_, _, J7, q6⟩
                | ret u => obtain ⟨v6, σ6, H6, S6, r6, q6⟩ := hsp; exact end_ S6 fun s7 J7 => ⟨_, _, _, J7, r6, q6⟩
              · exact w.elim
    exact go hh h
  · cases f with
    | next => obtain ⟨σ', H', J, q⟩ := hsp; exact wpAny_execs_nil ⟨σ', H', J.ofTry ok, q⟩
    | brk => obtain ⟨σ', H', J, q⟩ := hsp; exact ⟨σ', H', J.ofTry ok, q⟩
    | cont => obtain ⟨σ', H', J, q⟩ := hsp; exact ⟨σ', H', J.ofTry ok, q⟩
    | ret u => obtain ⟨v, σ', H', J, r, q⟩ := hsp; exact ⟨v, σ', H', J.ofTry ok, r, q⟩
end
end DL
end
section
set_option Elab.async false
set_option linter.all false
set_option maxRecDepth 100000
set_option maxHeartbeats 4000000
/-! DX4: an error in hand: its fields, its kinds. -/
namespace DL
open PySem PySem.Spec PyProof.Rows L2

section
variable {X : Cx}
/-- isinstance(e, c), e pinned -/
def rIsX (X : Cx) : List V → Hp → VK → Prop := fun xs H Q => ∃ (a Ca d : Addr) (oe : Obj) (ws : List (Str × V)) (c : V) (cv : Value) (b : Bool), xs = [.ref a, c] ∧ (∀ u, RelV c u → u = cv) ∧ (a, oe) ∈ X.pn ∧ Zc (.ref Ca) (some d) oe ∧ (∃ vs, oe.data = .fields vs) ∧
  H d = some (.xd ws) ∧ ExcC X.K Ca ∧ PySem.W.kitOne X.K (.ref Ca) cv = some b ∧ Q (.bl b) H
theorem inst_pin {pins : List (Addr × Obj)} {σ : L2.St} {H : Hp} {s : Shared} {a Ca d : Addr} {oe : Obj} {ws : List (Str × V)} (I : Inv X pins σ H s) (hp : (a, oe) ∈ X.pn) (hz : Zc (.ref Ca) (some d) oe) (hf : ∃ vs, oe.data = .fields vs) (hd : H d = some (.xd ws)) :
    ∃ (od : Obj) (mA : Str → Option Value), PySem.W.InstAt s.heap a oe Ca (some od) ∧ (∀ f, PySem.W.lookIn f od = some (mA f)) ∧ ∀ f, RelO (ws.lookup f) (mA f) := by
  obtain ⟨hget, _⟩ := I.pin (a, oe) (List.mem_append.mpr (.inl hp))
  obtain ⟨vs, hv⟩ := hf
  obtain ⟨mA, hns, hr⟩ := (show ObjOk X.prog X.w H s.heap d (.xd ws) from I.hok d _ hd)
  obtain ⟨od, ho, hl⟩ := lookIn_ns hns
  exact ⟨od, mA, ⟨hget, hz.1, by unfold PySem.W.notCls; rw [hv] <;> rfl, by rw [hz.2]; exact ho⟩, hl, hr⟩
theorem excC_cls {K : PySem.W.Frag} {D : Addr} (C : ExcC K D) : (PySem.W.clsIn K D).isSome = true := by
  obtain ⟨cd, hc, _⟩ := PySem.W.any_some C.hd
  rw [hc]
  rfl
theorem call_isX : CallR X (.builtin "isinstance") (rIsX X) := by
  intro pins s σ H xs us Q I r h
  obtain ⟨a, Ca, d, oe, ws, c, cv, b, rfl, hcv, hp, hz, hf, hd, C, e, q⟩ := h
  cases r with
  | cons rx rr =>
    cases rr with
    | cons rt rr =>
      cases rr
      cases rx
      have ec := hcv _ rt
      subst ec
      obtain ⟨od, mA, J, _, _⟩ := inst_pin I hp hz hf hd
      exact PySem.W.kia_one (PySem.W.kitx_exc (excC_cls C) C.hg C.hk C.hs C.ha C.hn C.ht C.hm) I.kIn J e (fun z => nomatch z) fun tk => ⟨.bl b, H, I.kept (t' := tk) fun _ _ z => z, rfl, q⟩
end

/-- what the law's classes of errors say: which names they are; their fields; whose kind they are -/
structure ErrT (M : Mdl) (isE : Str → Bool) (flds : List Str) : Prop where
  ex : ∀ C Ca, isE C = true → M.mg C = some (.ref Ca) → ExcC M.K Ca
  no : ∀ C Ca f, isE C = true → f ∈ flds → M.mg C = some (.ref Ca) → PySem.W.findIn M.K (.ref Ca) f = some Option.none
def IsI (M : Mdl) (isI : Str → Str → Option Bool) : Prop := ∀ C x b, isI C x = some b → ∃ (Ca : Addr) (cv : Value), M.mg C = some (.ref Ca) ∧ ((∃ A, M.mg x = some (.ref A) ∧ cv = .ref A) ∨ (M.mg x = Option.none ∧ x ≠ "__name__" ∧ ∃ T, bootBuiltins x = some (.type T) ∧ cv = .type T)) ∧ PySem.W.kitOne M.K (.ref Ca) cv = some b
section
variable {M : Mdl} {c : Cf} {pos p p1 p2 : Pos} {x f T : Str} {isE : Str → Bool} {flds : List Str} {isI : Str → Str → Option Bool} {i : Nat}
def fldD (isE : Str → Bool) (i : Nat) (f : Str) : Sl → Out D := fun env => match env[i]? with
  | some (.er C fs) => if isE C = true then (match fs.lookup f with
    | some d => .ok d env
    | none => .stuck) else .stuck
  | _ => .stuck
theorem fs_look {K : PySem.W.Frag} {H : Hp} {f : Str} {d : D} : ∀ {ws : List (Str × V)} {fs : List (Str × D)}, FsOk K H ws fs → fs.lookup f = some d → ∃ v, ws.lookup f = some v ∧ Dp K H v d
  | _, _, .nil, h => by cases h
  | _, _, .cons (n := n) p t, h => by
    by_cases e : f = n
    · subst e
      simp only [List.lookup_cons_self, Option.some.injEq] at h ⊢
      subst h
      exact ⟨_, rfl, p⟩
    · have : (f == n) = false := by simpa using e
      simp only [List.lookup_cons, this] at h ⊢
      exact fs_look t h
theorem de_fld (ET : ErrT M isE flds) (hf : f ∈ flds) (hN : Nm c i x) (hb : ∀ env : PySem.Env, attributeBase (.Name x p1) f env (eval (.Name x p1) env) = eval (.Name x p1) env) : DE M c (.Attribute (.Name x p1) f p2) (fldD isE i f) := by
  refine ⟨fun X G W tk F env σ H Q R h pins s I => ?_⟩
  unfold fldD at h
  cases q : env[i]? with
  | none => rw [q] at h; exact h.elim
  | some sl =>
    rw [q] at h
    cases sl <;> first | exact h.elim | skip
    rename_i C fs
    obtain ⟨o, e1, a, dd, ws, rfl, hx, hdd, hfs⟩ := R.slot i _ q
    obtain ⟨oe, Ca, hp, hm, hz, hfd⟩ := G.excs a C dd hx
    have h : Post M F env σ H (rD M.K) Q W (if isE C = true then (match fs.lookup f with
      | some d => .ok d env
      | none => .stuck) else .stuck) := h
    split at h
    · rename_i hE
      cases ql : fs.lookup f with
      | none => rw [ql] at h; exact h.elim
      | some d =>
        rw [ql] at h
        obtain ⟨v, hv, pv⟩ := fs_look hfs ql
        refine attr_of (hb X.env) (thn ((G.var hN.at_ hN.vis hN.nd hN.nc).run pins s σ H (fun v H1 => v = .ref a ∧ H1 = H) I ⟨_, e1, rfl, rfl⟩) fun u s1 ⟨v', H1, I1, r1, ev, eH⟩ => ?_)
        subst ev
        rw [eH] at I1
        obtain rfl : u = Value.ref a := r1
        obtain ⟨od, mA, J, hl, hr⟩ := inst_pin I1 hp hz hfd (pub_sub _ _ hdd)
        have T := ET.ex C Ca hE hm
        obtain ⟨u, hu, ru⟩ := RelO.some_of (v := v) (o := mA f) (by rw [← hv]; exact hr f)
        refine PySem.HandSPX.exc_get (K := X.K) I1.kIn J (by rw [G.K]; exact T.hg) (by rw [G.K]; exact T.hk) (by rw [G.K]; exact T.hs) (PySem.W.findObj_own (by rw [G.K]; exact T.hd) (by rw [G.K]; exact ET.no C Ca f hE hf hm) rfl (by rw [hl, hu])) (handed_of ru) ⟨v, H, I1.tok _, ru, h v H R Grow.refl pv⟩
    · exact h.elim
def isXD (isE : Str → Bool) (isI : Str → Str → Option Bool) (i : Nat) (T : Str) : Sl → Out D := fun env => match env[i]? with
  | some (.er C _) => if isE C = true then (match isI C T with
    | some b => .ok (.bool b) env
    | none => .stuck) else .stuck
  | _ => .stuck
theorem de_isX (ET : ErrT M isE flds) (II : IsI M isI) (B : Bn M c ("isinstance" : Str) (.builtin "isinstance")) (hN : Nm c i x) (hT : c.sc.names.lookup T = some .globalImplicit) (hTd : (T == ("__debug__" : Str)) = false) (hs : NoStar (.Name x p1)) (hs2 : NoStar (.Name T p2)) :
    DE M c (.Call (.Name ("isinstance" : Str) p) [.Name x p1, .Name T p2] [] pos) (isXD isE isI i T) := by
  refine ⟨fun X G W tk F env σ H Q R h => ?_⟩
  unfold isXD at h
  cases q : env[i]? with
  | none => rw [q] at h; exact h.elim
  | some sl =>
    rw [q] at h
    cases sl <;> first | exact h.elim | skip
    rename_i C fs
    obtain ⟨o, e1, a, dd, ws, rfl, hx, hdd, hfs⟩ := R.slot i _ q
    obtain ⟨oe, Ca, hp, hm, hz, hfd⟩ := G.excs a C dd hx
    have h : Post M F env σ H (rD M.K) Q W (if isE C = true then (match isI C T with
      | some b => .ok (.bool b) env
      | none => .stuck) else .stuck) := h
    split at h
    · rename_i hE
      cases ql : isI C T with
      | none => rw [ql] at h; exact h.elim
      | some b =>
        rw [ql] at h
        obtain ⟨Ca', cv, m1, m2, m3⟩ := II C T b ql
        rw [hm] at m1
        cases m1
        have E := ET.ex C Ca hE hm
        have fin : ∀ v : V, (∀ u, RelV v u → u = cv) → rIsX X [.ref a, v] H Q := fun v hv => ⟨a, Ca, dd, oe, ws, v, cv, b, rfl, hv, hp, hz, hfd, pub_sub _ _ hdd, by rw [G.K]; exact E, by rw [G.K]; exact m3, h _ H R Grow.refl (.bl b)⟩
        rcases m2 with ⟨A, m2, rfl⟩ | ⟨m2, m4, T', m5, rfl⟩
        · refine WE.of (pe_callB call_isX (B.gl' G) (by rw [G.mg]; exact B.mg) B.boot (pa_cons (G.var hN.at_ hN.vis hN.nd hN.nc) (pa_cons (pe_glob (v := .ref A) (G.gl hT) (by rw [G.mg]; exact m2) rfl hTd) pa_nil (hs2 _ _)) (hs _ _)) B.nn B.nd (hs _ _) (by rw [hs2]; rfl)) ?_
          exact ⟨_, e1, fin (.ref A) fun u ru => ru⟩
        · refine WE.of (pe_callB call_isX (B.gl' G) (by rw [G.mg]; exact B.mg) B.boot (pa_cons (G.var hN.at_ hN.vis hN.nd hN.nc) (pa_cons (pe_bltn (v := .ty T') (G.gl hT) (by rw [G.mg]; exact m2) m5 rfl m4 hTd) pa_nil (hs2 _ _)) (hs _ _)) B.nn B.nd (hs _ _) (by rw [hs2]; rfl)) ?_
          exact ⟨_, e1, fin (.ty T') fun u ru => ru⟩
    · exact h.elim
end
end DL
end
section
set_option Elab.async false
set_option linter.all false
set_option maxRecDepth 100000
set_option maxHeartbeats 4000000
/-! DX5: a def called within a suite, with the error in hand; it raises nothing. -/
namespace DL
open PySem PySem.Spec PyProof.Rows L2

/-- what a def promises that is handed the caught error -/
def SpecX (M : Mdl) (k : Nat) (f : Addr) (fd : FuncData) (pn : Str) (g : Str → List (Str × D) → Option D) : Prop := ∀ (A : Around) (outer : List PySem.Env) (s : Shared) (H : Hp) (args : Args) (u : Value) (a d Ca : Addr) (C : Str) (oe : Obj) (ws : List (Str × V)) (fs : List (Str × D)) (G : Addr → Prop) (Q : VK) (dt : D),
  L2H.RoomH k A → A.guards = some [] → L2H.PinOk outer H s (a, oe) → M.mg C = some (.ref Ca) → Zc (.ref Ca) (some d) oe → (∃ vs, oe.data = .fields vs) → minus H G d = some (.xd ws) → FsOk M.K (minus H G) ws fs → (∀ b, G b → H b ≠ Option.none) →
  Env0 M.P M.w M.K M.mg M.base A outer s H → BindsTo s fd args [(pn, u)] → RelV (.ref a) u → g C fs = some dt → (∀ v H', Same H H' → Dp M.K (minus H' G) v dt → Q v H') →
  codeAny (model M.P M.w) A (.call (.ref f) args) (CR (CX M.P M.w) outer M.P M.w H s Q (fun _ _ _ => False)) s
structure FnX (M : Mdl) (k : Nat) (x : Str) (g : Str → List (Str × D) → Option D) : Prop where
  at_ : ∃ (f : Addr) (fd : FuncData) (pn : Str), M.mg x = some (.ref f) ∧ PySem.W.keepIn M.K (.ref f) = true ∧ Binds M.K fd [pn] [] ∧ SpecX M k f fd pn g
  nd : (x == ("__debug__" : Str)) = false
def defX (m : Nat) (fb : Sl → Out Flw) (C : Str) (fs : List (Str × D)) : Option D := match fb ([.er C fs] ++ List.replicate (m - 1) .no) with
  | .ok (.ret d) _ => some d
  | _ => none
theorem init_rel {K : Kx} {G : Addr → Prop} {H : Hp} {env : Sl} {σ : L2.St} (hl : env.length = σ.length) (hm : ∀ (i : Nat) (s : Slot), env[i]? = some s → s.mut = false) (hs : ∀ (i : Nat) (s : Slot), env[i]? = some s → ∃ o, σ[i]? = some o ∧ SlotOk K (minus H G) H s o) (hG : ∀ b, G b → H b ≠ Option.none) : Rel K (actOf G H [] []) env σ H := by
  have no : ∀ {i : Nat} {s : Slot} {P : Prop}, env[i]? = some s → s.mut = true → P := fun {i s P} h m => by rw [hm i s h] at m; cases m
  have hid : ∀ b, (actOf G H [] []).Hid env σ b → G b := fun b z => by
    rcases z with z | ⟨o, z⟩ | ⟨i, s, h1, h2, _⟩
    · exact z
    · cases z
    · exact no h1 h2
  refine ⟨hl, fun i s h => ?_, fun i j s t a h1 h2 m1 => no h1 m1, fun b o h _ => h, fun b ⟨i, h⟩ => ?_, hG, hG, (fun b o h => nomatch (show (Option.none : Option HO) = some o from h)), fun i s a h m => no h m, fun i xs a h => no h rfl, fun i xs h => no h rfl⟩
  · obtain ⟨o, e, k⟩ := hs i s h
    exact ⟨o, e, k.same (minus_less hid) (Same.refl _)⟩
  · obtain ⟨xs, e, _⟩ := borOf_some.mp (show borOf [] [] i = some b from h)
    simp at e
theorem specX_of {M : Mdl} {k : Nat} {f : Addr} {name qual pn : Str} {params : Arguments} {body : List Stmt} {scope : Scope} {dV kV doc pm cdv ct oc : Value} {an od : Option Addr}
    {osl : Array (Option Value)} {N : List Str} {fb : Sl → Out Flw} (lk : M.K.lookup f = some ⟨oc, od, .func (PySem.W.fnOf name qual params body scope dV kV doc pm an cdv ct), osl⟩) (hcd : PySem.W.codeIn M.K cdv qual = true) (S : FnScope N [pn] scope) (hcold : ∀ a C d, ¬ M.exc a C d)
    (hbody : ∀ a C d, DSs (M.withE a C d) { k := k, N := N, sc := scope, fn := fun _ => true, calm := false } body fb) :
    SpecX M (k + 1) f (PySem.W.fnOf name qual params body scope dV kV doc pm an cdv ct) pn (defX N.length fb) := by
  intro A outer s H args u a d Ca C oe ws fs G Q dt hr hgd hpin hC hz hfd hd hfs hG e0 hb r hg hQ
  have KX : M.K.In s.heap := e0.mod.kin.keeps fun b o e => (e0.bs b o e).1
  have lim : s.heap.NoLimit := e0.mod.nolimit.keeps fun b o e => (e0.bs b o e).1
  have hpar := S.par pn (List.mem_cons_self ..)
  have hkind : ∀ y ∈ [(pn, u)], scope.names.lookup y.1 = some .local ∨ (scope.names.lookup y.1 = some .cell ∧ ((cellsFrom (s.heap.objs.size + 1) scope.names []).lookup y.1).isSome = true) := fun y hy => by
    rcases List.mem_cons.mp hy with rfl | hy
    · rcases hpar with q | q
      · exact .inl q
      · exact .inr ⟨q, PySem.W.cellsFrom_some _ _ _ (.inl q)⟩
    · cases hy
  have hpl : 1 ≤ N.length := by
    have := congrArg List.length S.pre
    rw [List.length_take] at this
    simp at this
    omega
  refine codeAny_call_function hr.depth (KX _ _ lk) rfl S.co S.gen rfl (PySem.W.codeRec_of KX hcd) (hb _ _ _ _ ?_)
  refine wpAny_newFunctionEnv_cells S.kind hkind fun env he s1 x => ?_
  subst he
  refine ⟨lim.keeps x.toInCall.keep, codeAny_func ?_⟩
  have I : Inv (L2H.cxH (CX M.P M.w) M.P M.w M.K M.mg M.base N qual scope f cdv A outer s H (fun _ _ _ => False) (a, oe)) [] (L2.start N [.ref a]) H s1 := L2H.inv_startH (ps := [pn]) (us := [u]) S hpin e0 rfl (.cons r .nil) x
  have Gd : GoodS (M.withE a C d) { k := k, N := N, sc := scope, fn := fun _ => true, calm := false } (L2H.cxH (CX M.P M.w) M.P M.w M.K M.mg M.base N qual scope f cdv A outer s H (fun _ _ _ => False) (a, oe)) :=
    ⟨⟨rfl, rfl, rfl, rfl, rfl, rfl, rfl, rfl, S.nd, (fun z => nomatch (show false = true from z)), (fun z => nomatch (show false = true from z)), (hr.deeper _).un, (hr.deeper _).dp, hgd, (fun z => nomatch (show false = true from z)), fun a' C' d' z => by
      rcases z with ⟨e1, e2, e3⟩ | z
      · rw [e1, e2, e3]
        exact ⟨oe, Ca, List.mem_cons_self .., hC, hz, hfd⟩
      · exact (hcold _ _ _ z).elim⟩, passes_of rfl, S.kind, rfl, rfl⟩
  have R : Rel (M.withE a C d).kx (actOf G H [] []) ([.er C fs] ++ List.replicate (N.length - 1) .no) (L2.start N [.ref a]) H := by
    refine init_rel ?_ (fun i s h => ?_) (fun i s h => ?_) hG
    · unfold L2.start
      simp
    · cases i with
      | zero => cases h; rfl
      | succ i =>
        rw [List.singleton_append, List.getElem?_cons_succ, List.getElem?_replicate] at h
        split at h
        · cases h; rfl
        · cases h
    · cases i with
      | zero =>
        cases h
        exact ⟨_, rfl, a, d, ws, rfl, .inl ⟨rfl, rfl, rfl⟩, hd, hfs⟩
      | succ i =>
        rw [List.singleton_append, List.getElem?_cons_succ, List.getElem?_replicate] at h
        split at h
        · rename_i hi
          cases h
          have hlt : i + 1 < (L2.start N [V.ref a]).length := by unfold L2.start; simp; omega
          exact ⟨_, List.getElem?_eq_getElem hlt, trivial⟩
        · cases h
  have main := (hbody a C d).run _ Gd _ (takes_none5) (actOf G H [] []) _ (L2.start N [.ref a]) H { nx := fun _ H' => Q .non H', rt := Q } R (by
    unfold defX at hg
    cases q : fb ([.er C fs] ++ List.replicate (N.length - 1) .no) with
    | stuck => rw [q] at hg; cases hg
    | err C' fs' env' => rw [q] at hg; cases hg
    | ok fl env' =>
      rw [q] at hg
      cases fl with
      | nx => cases hg
      | br => cases hg
      | ct => cases hg
      | ret dt' =>
        cases hg
        exact fun v σ' H' R' g' p' => hQ v H' (fun b o z => R'.frame b o z fun ⟨i, w⟩ => by
          obtain ⟨xs, e, _⟩ := borOf_some.mp (show borOf [] [] i = some b from w)
          simp at e) (Dp.same (minus_less fun b z => .inl z) p'))
  refine wpAny_mono (main [] s1 I) (fun fl s' hs => ?_) fun e s' hs => hs
  have fin : ∀ {σ' : L2.St} {H' : Hp} {v : V} {u : Value}, Inv (L2H.cxH (CX M.P M.w) M.P M.w M.K M.mg M.base N qual scope f cdv A outer s H (fun _ _ _ => False) (a, oe)) [] σ' H' s' → RelV v u → Q v H' → CE outer M.P M.w H s Q u s' :=
    fun {σ' H' v u} J rv q => ⟨v, H', J.os, J.bare, J.base, J.hok, rv, q⟩
  cases fl with
  | ret u =>
    obtain ⟨v, σ', H', J, rv, q⟩ := hs
    exact fin J rv q
  | next =>
    obtain ⟨σ', H', J, q⟩ := hs
    exact fin (v := V.non) (u := Value.none) J rfl q
  | brk =>
    obtain ⟨_, _, _, q⟩ := hs
    exact False.elim q
  | cont =>
    obtain ⟨_, _, _, q⟩ := hs
    exact False.elim q
theorem fnX_D {M : Mdl} {k : Nat} {f : Addr} {fd : FuncData} {x qual pn : Str} {params : Arguments} {body : List Stmt} {scope : Scope} {N : List Str} {fb : Sl → Out Flw} (F : FunD M.K x qual params body scope [] [] f fd) (hm : M.mg x = some (.ref f)) (S : FnScope N [pn] scope) (hcold : ∀ a C d, ¬ M.exc a C d)
    (hbody : ∀ a C d, DSs (M.withE a C d) { k := k, N := N, sc := scope, fn := fun _ => true, calm := false } body fb) (hbi : Binds M.K fd [pn] []) (hd : (x == ("__debug__" : Str)) = false := by decide +kernel) : FnX M (k + 1) x (defX N.length fb) := by
  obtain ⟨oc, od, dV, kV, doc, pm, an, cdv, ct, osl, rfl, lk, hcd, _, _⟩ := F.ex
  exact ⟨⟨f, _, pn, hm, F.kp, hbi, specX_of lk hcd S hcold hbody⟩, hd⟩
/-- f(e) in the suite -/
def callX (g : Str → List (Str × D) → Option D) (i : Nat) : Sl → Out D := fun env => match env[i]? with
  | some (.er C fs) => lift (g C fs) env
  | _ => .stuck
theorem de_callX {M : Mdl} {c : Cf} {x y : Str} {p p1 pos : Pos} {i k : Nat} {g : Str → List (Str × D) → Option D} (Fn : FnX M k x g) (hr : ∀ X : Cx, Good M c X → L2H.RoomH k X.A) (hN : Nm c i y) (hg : c.sc.names.lookup x = some .globalImplicit) (hs : NoStar (.Name y p1)) :
    DE M c (.Call (.Name x p) [.Name y p1] [] pos) (callX g i) := by
  refine ⟨fun X G W tk F env σ H Q R h pins s I => ?_⟩
  obtain ⟨⟨f, fd, pn, h1, h2, h3, h4⟩, hdb⟩ := Fn
  unfold callX at h
  cases q : env[i]? with
  | none => rw [q] at h; exact h.elim
  | some sl =>
    rw [q] at h
    cases sl <;> first | exact h.elim | skip
    rename_i C fs
    obtain ⟨o, e1, a, dd, ws, rfl, hx, hdd, hfs⟩ := R.slot i _ q
    obtain ⟨oe, Ca, hp, hm, hz, hfd⟩ := G.excs a C dd hx
    have h : Post M F env σ H (rD M.K) Q W (lift (g C fs) env) := h
    obtain ⟨dt, e2, kk⟩ := lift_post R h
    refine wpAny_Call_Name_kw (ld_glob I (G.gl hg) (by rw [G.mg]; exact h1) ?_ hdb)
    refine PySem.W.callWith_K (h₀ := X.base) I.ok.mod.kin (by rw [G.K]; exact h2) ?_ (hs _ _) rfl
    refine thn ((pa_cons (G.var hN.at_ hN.vis hN.nd hN.nc) pa_nil (hs _ _)).run pos pins s σ H (fun vs H1 => vs = [.ref a] ∧ H1 = H) I ⟨_, e1, rfl, rfl⟩) fun us s1 ⟨vs, H1, I1, r1, ev, eH⟩ => ⟨I1.kIn, ?_⟩
    subst ev
    rw [eH] at I1
    obtain ⟨u, rfl, ru⟩ := r1.one
    have kin : M.K.In s1.heap := by rw [← G.K]; exact I1.kIn
    have bt := h3 s1 [u] kin rfl
    have e0 : Env0 M.P M.w M.K M.mg M.base X.A X.stack s1 H := by
      have z := I1.env0
      rw [G.prog, G.w, G.K, G.mg, G.base] at z
      exact z
    have P1 := I1.pin (a, oe) (List.mem_append_left _ hp)
    have hpin : L2H.PinOk X.stack H s1 (a, oe) := ⟨P1.1, P1.2.1, fun hm => (List.mem_cons.mp (I1.stkSub a hm)).elim P1.2.2.1 P1.2.2.2.1, P1.2.2.2.2⟩
    refine wpAny_call ?_
    rw [G.prog, G.w]
    refine codeAny_mono (h4 X.A X.stack s1 H ⟨[u], []⟩ u a dd Ca C oe ws fs (F.Hid env σ) Q dt (hr X G) G.guards hpin hm hz hfd hdd hfs (fun b z => R.hid_live z) e0 bt ru e2 fun v H' sm pv => kk v H' sm pv) fun res s' hq => ?_
    cases res with
    | error e =>
      obtain ⟨_, _, _, _, _, _, _, _, _, _, _, _, z⟩ := (show CX M.P M.w X.stack H s1 (fun _ _ _ => False) e s' from hq)
      exact z.elim
    | ok fl =>
      cases fl with
      | ret u =>
        have hq : CE X.stack M.P M.w H s1 Q u s' := hq
        rw [← G.prog, ← G.w] at hq
        exact I1.after hq
      | next => exact False.elim hq
      | brk => exact False.elim hq
      | cont => exact False.elim hq
end DL
end
section
set_option Elab.async false
set_option linter.all false
set_option maxRecDepth 100000
set_option maxHeartbeats 4000000
/-! DX6: repr of data. -/
namespace DL
open PySem PySem.Spec PyProof.Rows L2

theorem repr_data {prog : Program} {w : World} {A : Around} {E : Value → Shared → Prop} {s : Shared} : ∀ {v : Value} {d : PyData} {as : List Addr}, Reads s.heap v d as → d.showable = true → d.hasDict = false → d.shown.length ≤ sizeLine → A.guards = some [] → A.units + 1 + d.depth < cLine → ∀ (Q : Value → Shared → Prop),
    (∀ h' u tk, (∀ b o, s.heap.get? b = some o → h'.get? b = some o) → Q (.str d.shown u) { s with heap := h', toks := tk }) → wpAny (model prog w) A (call (.builtin "repr") [v]) Q E s
  | _, _, _, .none, _, _, _, _, _, Q, hQ => by
    simp only [PyData.shown] at hQ
    exact P.repr_of_none (hQ s.heap _ _ fun _ _ e => e)
  | _, _, _, .bool b, _, _, _, _, _, Q, hQ => by
    simp only [PyData.shown] at hQ
    exact P.repr_of_bool (hQ s.heap _ _ fun _ _ e => e)
  | _, _, _, .int i t, hs, _, _, _, _, Q, hQ => by
    simp only [PyData.shown] at hQ
    exact P.repr_of_int (by simpa [PyData.showable] using hs) (hQ s.heap _ _ fun _ _ e => e)
  | _, _, _, .str x t, _, _, hz, _, _, Q, hQ => by
    simp only [PyData.shown] at hQ hz
    exact P.repr_of_str (hQ s.heap _ _ fun _ _ e => e) hz
  | _, _, _, .list (a := a) (vs := vs) (xs := xs) h1 h2 h3 h4, hs, hd, hz, hg, hu, Q, hQ => by
    have hz' : (listText (PyData.shownAll xs)).length ≤ sizeLine := by simpa only [PyData.shown] using hz
    have hdd : PyData.hasDictAll xs = false := by simpa [PyData.hasDict] using hd
    obtain ⟨bs, hb, hk⟩ := ReprAllK.of_readsAll (prog := prog) (w := w) h4 (by simpa [PyData.showable] using hs) (fun hx => by rw [hdd] at hx; cases hx) (fun t ht => Nat.le_trans (listText_mem_le ht) hz')
    have r : Reads s.heap (.ref a) (.list xs) _ := .list h1 h2 h3 h4
    have hna : a ∉ bs := not_mem_of_deeper r (by simp only [PyData.depth]; omega) hb
    simp only [PyData.depth] at hu
    simp only [PyData.shown] at hQ
    obtain ⟨l⟩ := vs
    cases l with
    | nil =>
      have h4' : ReadsAll s.heap [] xs _ := h4
      cases h4'
      simp only [PyData.shownAll, listText_nil] at hQ
      exact call_repr_slot (by omega) ⟨_, h1, h2⟩ F.slot_list_repr.toG (call_list_repr_empty ⟨_, h1, h2⟩ h1 h3 ⟨_, _, rfl, hQ s.heap _ _ fun _ _ e => e⟩)
    | cons x l =>
      exact call_repr_slot (by omega) ⟨_, h1, h2⟩ F.slot_list_repr.toG (call_list_reprK (A := A.in1) h1 h2 h3 hna (by simpa using hk.length_eq) (fun i y e => hk.item i y (by simpa using e)) (g := []) hg (fun b _ => Clear.nil b) (by show A.units + 1 + _ < cLine; omega) (fun _ _ e => e) (fun h' u tk hk' => ⟨_, _, rfl, hQ h' u tk hk'⟩) hz')
  | _, _, _, .tuple (a := a) (xs := xs) h1 h2 h3 h4, hs, hd, hz, hg, hu, Q, hQ => by
    have hz' : (tupleText (PyData.shownAll xs)).length ≤ sizeLine := by simpa only [PyData.shown] using hz
    have hdd : PyData.hasDictAll xs = false := by simpa [PyData.hasDict] using hd
    obtain ⟨bs, hb, hk⟩ := ReprAllK.of_readsAll (prog := prog) (w := w) h4 (by simpa [PyData.showable] using hs) (fun hx => by rw [hdd] at hx; cases hx) (fun t ht => Nat.le_trans (tupleText_mem_le ht) hz')
    have r : Reads s.heap (.ref a) (.tuple xs) _ := .tuple h1 h2 h3 h4
    have hna : a ∉ bs := not_mem_of_deeper r (by simp only [PyData.depth]; omega) hb
    simp only [PyData.depth] at hu
    simp only [PyData.shown] at hQ
    exact call_repr_slot (by omega) ⟨_, h1, h2⟩ F.slot_tuple_repr (call_tuple_reprK (A := A.in1) h1 h2 h3 hna hk (g := []) hg (fun b _ => Clear.nil b) (by show A.units + 1 + _ < cLine; omega) (fun _ _ e => e) (fun h' u tk hk' => ⟨_, _, rfl, hQ h' u tk hk'⟩) hz')
  | _, _, _, .dict h1 h2 h3 h4 h5, _, hd, _, _, _, _, _ => by
    simp only [PyData.hasDict] at hd
    cases hd
section
variable {M : Mdl} {c : Cf}
def reprD (d : D) : Option D := if d.showable = true ∧ d.hasDict = false ∧ d.shown.length ≤ 16777216 ∧ d.depth ≤ 100 then some (.str d.shown) else none
def rReprD (X : Cx) : List V → Hp → VK → Prop := fun xs H Q => ∃ v d, xs = [v] ∧ Dp X.K H v d ∧ d.showable = true ∧ d.hasDict = false ∧ d.shown.length ≤ sizeLine ∧ X.A.guards = some [] ∧ X.A.units + 1 + d.depth < cLine ∧ Q (.str d.shown) H
theorem call_reprD {X : Cx} : CallR X (.builtin "repr") (rReprD X) := by
  intro pins s σ H xs us Q I r h
  obtain ⟨v, d, rfl, p, h1, h2, h3, h4, h5, q⟩ := h
  obtain ⟨u, rfl, ru⟩ := r.one
  obtain ⟨as, rd⟩ := Dp.reads I d v u p ru
  exact repr_data rd h1 h2 h3 h4 h5 _ fun h' t tk k => ⟨.str d.shown, H, I.kept (t' := tk) k, ⟨t, rfl⟩, q⟩
theorem c_repr : Cal1 M c (.builtin "repr") reprD := by
  intro X G H Hd x d1 d Q hl p e k
  unfold reprD at e
  split at e
  · rename_i hh
    cases e
    refine ⟨_, call_reprD, x, d1, rfl, by rw [G.K]; exact p.full minus_sub, hh.1, hh.2.1, by rw [szl]; exact hh.2.2.1, G.guards, ?_, k _ H (Same.refl _) (.str _)⟩
    have := G.units
    have := hh.2.2.2
    omega
  · cases e
end
end DL
end
section
set_option Elab.async false
set_option linter.all false
set_option maxRecDepth 100000
set_option maxHeartbeats 4000000
/-! DX7: the rules about errors, each with its small conditions as closed tests. -/
namespace DL
open PySem PySem.Spec PyProof.Rows L2
section
variable {M : Mdl} {c : Cf} {pos pos2 p p1 p2 : Pos} {a b e : Expr} {es : List Expr} {x f T : Str} {ps flds : List Str} {isE : Str → Bool} {isI isK : Str → Str → Option Bool} {fa : Sl → Out (List D)}
theorem ErrT.withE {a0 d0 : Addr} {C0 : Str} (h : ErrT M isE flds) : ErrT (M.withE a0 C0 d0) isE flds := ⟨h.ex, h.no⟩
theorem IsI.withE {a0 d0 : Addr} {C0 : Str} (h : IsI M isI) : IsI (M.withE a0 C0 d0) isI := h
theorem FnX.withE {a0 d0 : Addr} {C0 : Str} {k : Nat} {g : Str → List (Str × D) → Option D} (h : FnX M k x g) : FnX (M.withE a0 C0 d0) k x g := ⟨h.at_, h.nd⟩
theorem rs (EC : ErrC M x ps) (ha : DA M c (e :: es) fa) (hc : c.calm = true := by rfl) (hg : glB c x = true := by decide +kernel) (hs : NoStar e := by intro _ _; rfl) (hpl : ∀ (pos : Pos) (env : PySem.Env), (backTo pos (starEach es env)).any (·.1) = false := by intro _ _; rfl) :
    DS M c (.Raise (some (.Call (.Name x p) (e :: es) [] pos)) Option.none pos2) (raiseS x ps fa) := ds_raise EC hc ha (gl_of hg) hs hpl
theorem ty {body : List Stmt} {h₀ : ExceptHandler} {hds : List ExceptHandler} {hs : List Cl} {fb : Sl → Out Flw} (ik : IsK M isK) (hb : DSs M c body fb) (hh : HdsD M c (h₀ :: hds) hs) (hc : c.calm = true := by rfl) : DS M c (.Try body (h₀ :: hds) [] [] pos) (tryS isK fb hs) := ds_try ik hc hb hh
theorem hn {np : Pos} {b₀ : Stmt} {suite : List Stmt} {g : Sl → Out Flw} {hds : List ExceptHandler} {hs : List Cl} (h : ∀ a C d, DSs (M.withE a C d) c.hot (b₀ :: suite) g) (r : HdsD M c hds hs) (hg : glB c x = true := by decide +kernel) (hd : (x == ("__debug__" : Str)) = false := by decide +kernel) :
    HdsD M c (.ExceptHandler (some (.Name x np)) Option.none (b₀ :: suite) pos :: hds) (⟨x, Option.none, g⟩ :: hs) := .only (gl_of hg) hd h r
theorem ha {n : Str} (i : Nat) {np : Pos} {b₀ : Stmt} {suite : List Stmt} {g : Sl → Out Flw} {hds : List ExceptHandler} {hs : List Cl} (h : ∀ a C d, DSs (M.withE a C d) c.hot (b₀ :: suite) g) (r : HdsD M c hds hs) (hg : glB c x = true := by decide +kernel) (hd : (x == ("__debug__" : Str)) = false := by decide +kernel) (hN : c.N[i]? = some n := by decide +kernel) (hl : c.sc.names.lookup n = some .local := by decide +kernel) :
    HdsD M c (.ExceptHandler (some (.Name x np)) (some n) (b₀ :: suite) pos :: hds) (⟨x, some i, g⟩ :: hs) := .as_ (gl_of hg) hd hN hl h r
theorem fl (i : Nat) (ET : ErrT M isE flds) (hf : f ∈ flds := by decide +kernel) (h : nmB c i x = true := by decide +kernel) (hb : ∀ env : PySem.Env, attributeBase (.Name x p1) f env (eval (.Name x p1) env) = eval (.Name x p1) env := by intro _; rfl) : DE M c (.Attribute (.Name x p1) f p2) (fldD isE i f) := de_fld ET hf (nm_of h) hb
theorem ie (i : Nat) (ET : ErrT M isE flds) (II : IsI M isI) (hm : M.mg ("isinstance" : Str) = Option.none) (h : nmB c i x = true := by decide +kernel) (hgl : glB c ("isinstance" : Str) = true := by decide +kernel) (hT : glB c T = true := by decide +kernel) (hTd : (T == ("__debug__" : Str)) = false := by decide +kernel) (hs : NoStar (.Name x p1) := by intro _ _; rfl) (hs2 : NoStar (.Name T p2) := by intro _ _; rfl) :
    DE M c (.Call (.Name ("isinstance" : Str) p) [.Name x p1, .Name T p2] [] pos) (isXD isE isI i T) := de_isX ET II (bn hm rfl hgl) (nm_of h) (gl_of hT) hTd hs hs2
theorem cx (i : Nat) {y : Str} {k : Nat} {g : Str → List (Str × D) → Option D} (Fn : FnX M k x g) (hk : k ≤ c.k := by decide +kernel) (h : nmB c i y = true := by decide +kernel) (hg : glB c x = true := by decide +kernel) (hs : NoStar (.Name y p1) := by intro _ _; rfl) : DE M c (.Call (.Name x p) [.Name y p1] [] pos) (callX g i) :=
  de_callX Fn (fun X G => ⟨by have := G.deep; omega, by have := G.units; omega⟩) (nm_of h) (gl_of hg) hs
end
end DL
end
section
set_option Elab.async false
set_option linter.all false
set_option maxRecDepth 100000
set_option maxHeartbeats 4000000
/-! DX8: a call without arguments. -/
namespace DL
open PySem PySem.Spec PyProof.Rows L2
section
variable {M : Mdl} {c : Cf} {pos p : Pos} {x : Str}
theorem de_call0 {k : Nat} {g : List Slot → FOut} (Fn : FnAt M k x 0 g) (hgl : ∀ args, (g args).Len 0) (hk : k ≤ c.k) (hc : c.calm = true) (hg : c.sc.names.lookup x = some .globalImplicit) : DE M c (.Call (.Name x p) [] [] pos) (callE g []) := by
  refine ⟨fun X G W tk F env σ H Q R h pins s I => ?_⟩
  obtain ⟨⟨f, fd, ps, h1, h2, h3, h4, h5⟩, hdb⟩ := Fn
  refine wpAny_Call_Name_kw (ld_glob I (by unfold Gl PySem.Env.kindOf; rw [G.sc]; exact hg) (by rw [G.mg]; exact h1) ?_ hdb)
  have h : Post M F env σ H (rD M.K) Q W (match g [] with
    | .stuck => .stuck
    | .ok d outs => .ok d (backA [] outs env)
    | .err C fs outs => .err C fs (backA [] outs env)) := h
  refine PySem.W.callWith_K0 (K := X.K) (first := []) I.kIn (by rw [G.K]; exact h2) ?_
  refine run_G (E := fun cls dd H' => W cls dd σ H') (vs := []) G hk hc h5 h4 I (fun e s' cx => tk e s' (XE.of_call I (fun cls d H' z => z) cx)) .nil ⟨rfl, F.Hid env σ, [], ⟨rfl, fun j t e => by simp at e, fun i j xs ys b a1 => by simp at a1, fun b hb => R.hid_live hb⟩, ?_⟩
  have hL := hgl []
  have ag : AgOk M.K σ (F.pub env σ H) [] [] [] := .nil
  cases q : g [] with
  | stuck => rw [q] at h; exact h.elim
  | ok d outs =>
    rw [q] at hL h
    intro v H' fo pd
    obtain ⟨R2, g2, s2⟩ := back_ok R (as := []) (by decide) ag rfl fo (Nat.zero_le _) (fun j i e => by simp at e)
    exact h v H' R2 g2 (Dp.same s2 pd)
  | err C fs outs =>
    rw [q] at hL h
    intro cls dd H' fo pd
    obtain ⟨R2, g2, s2⟩ := back_ok R (as := []) (by decide) ag rfl fo (Nat.zero_le _) (fun j i e => by simp at e)
    exact h cls dd H' R2 g2 (ErrIs.same s2 pd)
theorem c0 {k : Nat} {g : List Slot → FOut} (Fn : FnAt M k x 0 g) (hgl : ∀ args, (g args).Len 0) (hk : k ≤ c.k := by decide +kernel) (hc : c.calm = true := by rfl) (hg : glB c x = true := by decide +kernel) : DE M c (.Call (.Name x p) [] [] pos) (callE g []) := de_call0 Fn hgl hk hc (gl_of hg)
end
end DL
end
section
set_option Elab.async false
set_option linter.all false
set_option maxRecDepth 100000
set_option maxHeartbeats 4000000
/-! DH0: the head's Hook of a module with own errors. -/
namespace DH
open PySem PySem.Spec PyProof.Rows L2 He DL

/-- an own __init__ that keeps its parameters: the class, the text, the parameters' names -/
structure InD where
  x : Str
  qual : Str
  params : Arguments
  body : List Stmt
  scope : Scope
  ps : List Str
def initW (K : PySem.W.Frag) (x : Str) : FnW := match K.lookup (ma K (ga K x) "__init__") with
  | some ⟨_, _, .func fd, _⟩ => some (fd.name, fd.qualname, fd.params, fd.body, fd.scope, fd.globals, fd.closure.map (fun p => (p.1, 0)), fd.builtins)
  | _ => none
def InD.val (d : InD) : FnW := some ("__init__", d.qual, d.params, .stmts d.body, d.scope, mainGlobals, [("__class__", 0)], builtinsNs)
/-- the class's object -/
def clsB (K : PySem.W.Frag) (C : Addr) : Bool := match K.lookup C with
  | some ⟨.type "type", _, .cls cd, sl⟩ => (match cd.mro, sl.toList with
    | .ref C' :: bm, [_, _, _, _, some (.builtin n), _] => C' == C && n == "ValueError.__new__" && !cd.hasDel && PySem.HandSPX.refsVE bm && cd.hasDict
    | _, _ => false)
  | _ => false
/-- the __init__'s record -/
def fdB (K : PySem.W.Frag) (file : Str) (C : Addr) (fd : FuncData) (qual : Str) : Bool := match fd.code, fd.closure, fd.defaults, fd.kwdefaults with
  | .ref cda, [(_, cc)], .none, .none => PySem.W.codeIn K (.ref cda) qual && (match K.lookup cda with
      | some ⟨_, _, .fields vs, _⟩ => (match (vs[2]? : Option Value) with
        | some (.str f _) => decide (f = file)
        | _ => false)
      | _ => false) && (match K.lookup cc with
      | some ⟨_, _, .cell (some (.ref D)), _⟩ => (PySem.W.clsIn K D).isSome && decide (PySem.W.mroIn K C (.ref D) = some true) && decide (PySem.W.ks_superIn K C D "__init__" = some (some (.builtin "ValueError.__init__")))
      | _ => false)
  | _, _, _, _ => false
def inB (K : PySem.W.Frag) (file : Str) (d : InD) : Bool :=
  let C := ga K d.x
  let fI := ma K C "__init__"
  clsB K C && decide (PySem.W.findIn K (.ref C) "__init__" = some (some (.ref fI))) && decide (PySem.W.findIn K (.ref C) "__setattr__" = some (some (.builtin "object.__setattr__"))) && (d.ps.all fun f => decide (PySem.W.findIn K (.ref C) f = some Option.none)) &&
    decide (PySem.W.typeIn K (.ref fI) = some (.type "function")) && decide (PySem.W.nsIn K mainGlobals "super" = some Option.none) && decide (PySem.W.nsIn K cStatics "thirdparty.any" = some Option.none) && decide (PySem.W.subIn K (.ref C) (.type "ValueError") = some true) &&
    decide (PySem.W.nsIn K mainGlobals d.x = some (some (.ref C))) && PySem.W.keepIn K (.ref C) && decide (PySem.W.subIn K (.ref C) (.type "BaseException") = some true) && decide (PySem.W.typeIn K (.ref C) = some (.type "type")) &&
    (match K.lookup fI with
      | some ⟨_, _, .func fd, _⟩ => fdB K file C fd d.qual
      | _ => false)
theorem inB_ok {K : PySem.W.Frag} {file : Str} {d : InD} (h : inB K file d = true) (e : initW K d.x = d.val) : ∃ D : Addr, DX.Chain K file (ga K d.x) D (ma K (ga K d.x) "__init__") d.ps d.qual d.params d.body d.scope ∧ PySem.W.nsIn K mainGlobals d.x = some (some (.ref (ga K d.x))) ∧ PySem.W.keepIn K (.ref (ga K d.x)) = true ∧
    PySem.W.subIn K (.ref (ga K d.x)) (.type "BaseException") = some true ∧ PySem.W.typeIn K (.ref (ga K d.x)) = some (.type "type") := by
  unfold inB at h
  simp only [Bool.and_eq_true, decide_eq_true_eq] at h
  obtain ⟨⟨⟨⟨⟨⟨⟨⟨⟨⟨⟨⟨h1, h2⟩, h3⟩, h4⟩, h5⟩, h6⟩, h7⟩, h8⟩, h9⟩, h10⟩, h11⟩, h12⟩, h13⟩ := h
  unfold initW at e
  cases q : K.lookup (ma K (ga K d.x) "__init__") with
  | none => rw [q] at h13; cases h13
  | some o =>
    obtain ⟨oc, od, dt, osl⟩ := o
    rw [q] at h13 e
    cases dt with
    | func fd =>
      obtain ⟨n1, n2, n3, n4, n5, n6, n7, n8, n9, n10, n11, n12, n13, n14, n15⟩ := fd
      have e2 : (some (n1, n2, n3, n4, n5, n6, n7.map (fun p => (p.1, 0)), n15) : FnW) = d.val := e
      unfold InD.val at e2
      simp only [Option.some.injEq, Prod.mk.injEq] at e2
      obtain ⟨k1, k2, k3, k4, k5, k6, k7, k8⟩ := e2
      subst k1 k2 k3 k4 k5 k6 k8
      dsimp only at h13
      unfold fdB at h13
      dsimp only at h13
      split at h13
      · rename_i cda nm cc
        simp only [Bool.and_eq_true] at h13
        obtain ⟨⟨c1, c2⟩, c3⟩ := h13
        simp only [List.map_cons, List.map_nil, List.cons.injEq, Prod.mk.injEq, and_true] at k7
        subst k7
        split at c2
        · rename_i ccl cdd vs ccs ql
          split at c2
          · rename_i f tf qv
            have ef : f = file := of_decide_eq_true c2
            subst ef
            split at c3
            · rename_i cl cld D csl qc
              simp only [Bool.and_eq_true, decide_eq_true_eq] at c3
              obtain ⟨⟨d1, d2⟩, d3⟩ := c3
              obtain ⟨cdD, d1⟩ := Option.isSome_iff_exists.mp d1
              refine ⟨D, ⟨?_, h3, fun f hf => of_decide_eq_true (List.all_eq_true.mp h4 f hf), h2, h5, ⟨oc, od, n10, n11, n12, cda, cc, n14, osl, ccl, cl, cdd, cld, vs, tf, ccs, csl, cdD, q, c1, ql, qv, qc, d1⟩, d2, h6, h7, d3, h8⟩, h9, h10, h11, h12⟩
              unfold clsB at h1
              split at h1
              · rename_i dd cd sl qC
                split at h1
                · rename_i C' bm k0 k1 k2 k3 n k5 hm hs
                  simp only [Bool.and_eq_true, beq_iff_eq, Bool.not_eq_true'] at h1
                  obtain ⟨⟨⟨⟨g1, g2⟩, g3⟩, g4⟩, g5⟩ := h1
                  obtain ⟨a1, a2, a3, a4, a5, a6, a7, a8, a9, a10, a11⟩ := cd
                  dsimp only at hm g3 g5
                  subst g1 g2 g3 g5 hm
                  have hsl : sl = #[k0, k1, k2, k3, some (.builtin "ValueError.__new__"), k5] := by
                    obtain ⟨l⟩ := sl
                    exact congrArg Array.mk hs
                  subst hsl
                  exact ⟨_, _, _, _, _, _, _, _, _, _, _, _, _, _, _, qC, g4⟩
                · cases h1
              · cases h1
            · cases c3
          · cases c2
        · cases c2
      · cases h13
    | _ => cases h13
end DH
end
section
set_option Elab.async false
set_option linter.all false
set_option maxRecDepth 100000
set_option maxHeartbeats 4000000
/-! DH1: the Hook itself. -/
namespace DH
open PySem PySem.Spec PyProof.Rows L2 He DL

abbrev Tab : Type := List (Str × Str × Bool)
def look (t : Tab) (C x : Str) : Option Bool := (t.find? fun r => r.1 == C && r.2.1 == x).map (·.2.2)
theorem look_mem {t : Tab} {C x : Str} {b : Bool} (h : look t C x = some b) : (C, x, b) ∈ t := by
  unfold look at h
  obtain ⟨⟨C', x', b'⟩, e, rfl⟩ := Option.map_eq_some_iff.mp h
  have m := List.mem_of_find?_eq_some e
  have p := List.find?_some e
  simp only [Bool.and_eq_true, beq_iff_eq] at p
  obtain ⟨rfl, rfl⟩ := p
  exact m
def kB (K : PySem.W.Frag) (r : Str × Str × Bool) : Bool := match PySem.W.nsIn K mainGlobals r.1 with
  | some (some (.ref a)) => (match PySem.W.nsIn K mainGlobals r.2.1 with
    | some (some v) => decide (PySem.W.exmOne K (.ref a) v = some r.2.2)
    | some none => (match bootBuiltins r.2.1 with
      | some v => decide (r.2.1 ≠ "__name__") && decide (PySem.W.exmOne K (.ref a) v = some r.2.2)
      | none => false)
    | none => false)
  | _ => false
def iB (K : PySem.W.Frag) (r : Str × Str × Bool) : Bool := match PySem.W.nsIn K mainGlobals r.1 with
  | some (some (.ref a)) => (match PySem.W.nsIn K mainGlobals r.2.1 with
    | some (some (.ref A)) => decide (PySem.W.kitOne K (.ref a) (.ref A) = some r.2.2)
    | some none => (match bootBuiltins r.2.1 with
      | some (.type T) => decide (r.2.1 ≠ "__name__") && decide (PySem.W.kitOne K (.ref a) (.type T) = some r.2.2)
      | _ => false)
    | _ => false)
  | _ => false
/-- an own error, its fields read, its kinds asked -/
def exB (K : PySem.W.Frag) (flds : List Str) (x : Str) : Bool :=
  let D := ga K x
  decide (PySem.W.nsIn K mainGlobals x = some (some (.ref D))) && decide (PySem.W.findIn K (.ref D) "__getattribute__" = some (some (.builtin "BaseException.__getattribute__"))) && decide (PySem.W.findIn K (.ref D) "__getattr__" = some Option.none) && decide (PySem.W.subIn K (.ref D) (.type "BaseException") = some true) &&
    PySem.W.hasDictIn K D && decide (PySem.W.findIn K (.ref D) "__class__" = some (some (.builtin "object.__class__"))) && decide (PySem.W.specialIn K (.builtin "object.__class__") "__get__" = some (some (.builtin "getset_descriptor.__get__"))) && decide (PySem.W.takesIn K (.builtin "object.__class__") = some true) &&
    decide (PySem.W.mroIn K D (.type "object") = some true) && flds.all fun f => decide (PySem.W.findIn K (.ref D) f = some Option.none)
structure HkD where
  fa : List Fa
  fn : List DefD
  file : Str
  ins : List InD
  tk : Tab
  ti : Tab
  es : List Str
  flds : List Str
abbrev AlX : Type := AlD × Bool × List FnW
def asX (g : Addr → Option Obj) : Nat → List Addr
  | 0 => [mainGlobals, cStatics]
  | n + 1 => growD g (asX g n)
def obsX (d : HkD) (K : PySem.W.Frag) : AlX := (obsD d.fa d.fn K, (d.ins.all fun i => inB K d.file i) && (d.tk.all fun r => kB K r) && (d.ti.all fun r => iB K r) && (d.es.all fun x => exB K d.flds x), d.ins.map fun i => initW K i.x)
def valX (d : HkD) : AlX := (valD d.fn, true, d.ins.map InD.val)
def SaysX (d : HkD) (K : PySem.W.Frag) : Prop := obsX d K = valX d
def obsXG (n : Nat) (d : HkD) (g : Addr → Option Obj) : AlX := obsX d (frG g (asX g n))
def hookX (n : Nat) (d : HkD) : PySem.W.Hook where
  α := AlX
  obs := fun s => obsXG n d s.heap.get?
  val := fun _ => valX d
  says := fun _ h => ∃ K : PySem.W.Frag, K.In h ∧ SaysX d K
  of := fun _ _ e => ⟨_, frG_in, e⟩
  keeps := fun _ _ _ ⟨K, hK, c⟩ k => ⟨K, PySem.W.Frag.In.keeps hK k, c⟩
theorem obsXG_eq {n : Nat} {d : HkD} {g : Addr → Option Obj} {s : Shared} (h : ∀ a, g a = s.heap.get? a) : obsXG n d g = (hookX n d).obs s := by
  have e : g = s.heap.get? := funext h
  rw [e] <;> rfl
section
variable {d : HkD} {K : PySem.W.Frag} {h : Heap} {mg : Str → Option Value}
theorem SaysX.toD (c : SaysX d K) : SaysD d.fa d.fn K := congrArg (fun z : AlX => z.1) c
theorem SaysX.bools (c : SaysX d K) : ((d.ins.all fun i => inB K d.file i) = true ∧ (d.tk.all fun r => kB K r) = true) ∧ (d.ti.all fun r => iB K r) = true ∧ (d.es.all fun x => exB K d.flds x) = true := by
  have e : ((d.ins.all fun i => inB K d.file i) && (d.tk.all fun r => kB K r) && (d.ti.all fun r => iB K r) && (d.es.all fun x => exB K d.flds x)) = true := congrArg (fun z : AlX => z.2.1) c
  simp only [Bool.and_eq_true] at e
  exact ⟨⟨e.1.1.1, e.1.1.2⟩, e.1.2, e.2⟩
theorem SaysX.init (c : SaysX d K) (i : Nat) {n : InD} (hn : d.ins[i]? = some n := by rfl) : inB K d.file n = true ∧ initW K n.x = n.val := by
  refine ⟨List.all_eq_true.mp c.bools.1.1 n (List.mem_of_getElem? hn), ?_⟩
  have e : (d.ins.map fun i => initW K i.x) = d.ins.map InD.val := congrArg (fun z : AlX => z.2.2) c
  have e2 : (d.ins.map fun i => initW K i.x)[i]? = (d.ins.map InD.val)[i]? := by rw [e]
  rw [List.getElem?_map, List.getElem?_map, hn] at e2
  exact Option.some.inj e2
variable {M : Mdl}
theorem SaysX.isK (c : SaysX d M.K) (X : M.K.In h) (G : h.Ns mainGlobals M.mg) : IsK M (look d.tk) := by
  intro C x b hb
  have q := List.all_eq_true.mp c.bools.1.2 _ (look_mem hb)
  unfold kB at q
  dsimp only at q
  split at q
  · rename_i a e1
    split at q
    · rename_i v e2
      exact ⟨a, v, PySem.W.mg_of X G e1, .inl (PySem.W.mg_of X G e2), of_decide_eq_true q⟩
    · rename_i e2
      split at q
      · rename_i v e3
        simp only [Bool.and_eq_true, decide_eq_true_eq] at q
        exact ⟨a, v, PySem.W.mg_of X G e1, .inr ⟨PySem.W.mg_none_of X G e2, e3, q.1⟩, q.2⟩
      · cases q
    · cases q
  · cases q
theorem SaysX.isI (c : SaysX d M.K) (X : M.K.In h) (G : h.Ns mainGlobals M.mg) : IsI M (look d.ti) := by
  intro C x b hb
  have q := List.all_eq_true.mp c.bools.2.1 _ (look_mem hb)
  unfold iB at q
  dsimp only at q
  split at q
  · rename_i a e1
    split at q
    · rename_i A e2
      exact ⟨a, _, PySem.W.mg_of X G e1, .inl ⟨A, PySem.W.mg_of X G e2, rfl⟩, of_decide_eq_true q⟩
    · rename_i e2
      split at q
      · rename_i T e3
        simp only [Bool.and_eq_true, decide_eq_true_eq] at q
        exact ⟨a, _, PySem.W.mg_of X G e1, .inr ⟨PySem.W.mg_none_of X G e2, q.1, T, e3, rfl⟩, q.2⟩
      · cases q
    · cases q
  · cases q
theorem SaysX.errT (c : SaysX d M.K) (X : M.K.In h) (G : h.Ns mainGlobals M.mg) : ErrT M (fun x => d.es.contains x) d.flds := by
  have ok : ∀ C Ca, d.es.contains C = true → M.mg C = some (.ref Ca) → Ca = ga M.K C ∧ exB M.K d.flds C = true := fun C Ca hC hm => by
    have q := List.all_eq_true.mp c.bools.2.2 C (by simpa using hC)
    refine ⟨?_, q⟩
    unfold exB at q
    simp only [Bool.and_eq_true, decide_eq_true_eq] at q
    have e := PySem.W.mg_of X G q.1.1.1.1.1.1.1.1.1
    rw [hm] at e
    cases e
    rfl
  refine ⟨fun C Ca hC hm => ?_, fun C Ca f hC hf hm => ?_⟩
  · obtain ⟨rfl, q⟩ := ok C Ca hC hm
    unfold exB at q
    simp only [Bool.and_eq_true, decide_eq_true_eq] at q
    obtain ⟨⟨⟨⟨⟨⟨⟨⟨⟨_, h1⟩, h2⟩, h3⟩, h4⟩, h5⟩, h6⟩, h7⟩, h8⟩, _⟩ := q
    exact ⟨h1, h2, h3, h4, h5, h6, h7, h8⟩
  · obtain ⟨rfl, q⟩ := ok C Ca hC hm
    unfold exB at q
    simp only [Bool.and_eq_true, decide_eq_true_eq] at q
    exact of_decide_eq_true (List.all_eq_true.mp q.2 f hf)
/-- one class of errors -/
theorem SaysX.errC (c : SaysX d M.K) (X : M.K.In h) (G : h.Ns mainGlobals M.mg) (i : Nat) {n : InD} (hn : d.ins[i]? = some n) (S : ∀ (D : Addr), DX.Chain M.K d.file (ga M.K n.x) D (ma M.K (ga M.K n.x) "__init__") n.ps n.qual n.params n.body n.scope → DX.InitSpec M.P M.K (ga M.K n.x) (ma M.K (ga M.K n.x) "__init__") n.ps)
    (hd : (n.x == ("__debug__" : Str)) = false) : ErrC M n.x n.ps := by
  obtain ⟨h1, h2⟩ := c.init i hn
  obtain ⟨D, ch, k1, k2, k3, k4⟩ := inB_ok h1 h2
  exact ⟨⟨ga M.K n.x, ma M.K (ga M.K n.x) "__init__", PySem.W.mg_of X G k1, k2, S D ch, ch.cls, ch.iC, ch.tC, k3, k4⟩, hd⟩
end
end DH
end
section
set_option Elab.async false
set_option linter.all false
set_option maxRecDepth 100000
set_option maxHeartbeats 400000
namespace K00
open PySem PySem.Spec PyProof.Rows L2 DL
def top (i : Nat) : Stmt := PySem.Challenge.pw_sidestold_k00_errors_and_limits.main.body.getD i (.Pass ⟨0, 0, 0, 0⟩)
def tk : DH.Tab := [(("ArgumentError" : PySem.Str), ("ArgumentError" : PySem.Str), true), (("ArgumentError" : PySem.Str), ("CheckError" : PySem.Str), false), (("ArgumentError" : PySem.Str), ("CommandError" : PySem.Str), false), (("ArgumentError" : PySem.Str), ("LogError" : PySem.Str), false), (("ArgumentError" : PySem.Str), ("PaperError" : PySem.Str), false), (("ArgumentError" : PySem.Str), ("SideError" : PySem.Str), true), (("ArgumentError" : PySem.Str), ("TextError" : PySem.Str), false), (("ArgumentError" : PySem.Str), ("TooMany" : PySem.Str), false), (("CheckError" : PySem.Str), ("ArgumentError" : PySem.Str), false), (("CheckError" : PySem.Str), ("CheckError" : PySem.Str), true), (("CheckError" : PySem.Str), ("CommandError" : PySem.Str), false), (("CheckError" : PySem.Str), ("LogError" : PySem.Str), false), (("CheckError" : PySem.Str), ("PaperError" : PySem.Str), false), (("CheckError" : PySem.Str), ("SideError" : PySem.Str), true), (("CheckError" : PySem.Str), ("TextError" : PySem.Str), false), (("CheckError" : PySem.Str), ("TooMany" : PySem.Str), false), (("PaperError" : PySem.Str), ("ArgumentError" : PySem.Str), false), (("PaperError" : PySem.Str), ("CheckError" : PySem.Str), false), (("PaperError" : PySem.Str), ("CommandError" : PySem.Str), false), (("PaperError" : PySem.Str), ("LogError" : PySem.Str), false), (("PaperError" : PySem.Str), ("PaperError" : PySem.Str), true), (("PaperError" : PySem.Str), ("SideError" : PySem.Str), true), (("PaperError" : PySem.Str), ("TextError" : PySem.Str), false), (("PaperError" : PySem.Str), ("TooMany" : PySem.Str), false), (("TooMany" : PySem.Str), ("ArgumentError" : PySem.Str), false), (("TooMany" : PySem.Str), ("CheckError" : PySem.Str), false), (("TooMany" : PySem.Str), ("CommandError" : PySem.Str), false), (("TooMany" : PySem.Str), ("LogError" : PySem.Str), false), (("TooMany" : PySem.Str), ("PaperError" : PySem.Str), false), (("TooMany" : PySem.Str), ("SideError" : PySem.Str), true), (("TooMany" : PySem.Str), ("TextError" : PySem.Str), false), (("TooMany" : PySem.Str), ("TooMany" : PySem.Str), true), (("TextError" : PySem.Str), ("ArgumentError" : PySem.Str), false), (("TextError" : PySem.Str), ("CheckError" : PySem.Str), false), (("TextError" : PySem.Str), ("CommandError" : PySem.Str), false), (("TextError" : PySem.Str), ("LogError" : PySem.Str), false), (("TextError" : PySem.Str), ("PaperError" : PySem.Str), false), (("TextError" : PySem.Str), ("SideError" : PySem.Str), true), (("TextError" : PySem.Str), ("TextError" : PySem.Str), true), (("TextError" : PySem.Str), ("TooMany" : PySem.Str), false), (("LogError" : PySem.Str), ("ArgumentError" : PySem.Str), false), (("LogError" : PySem.Str), ("CheckError" : PySem.Str), false), (("LogError" : PySem.Str), ("CommandError" : PySem.Str), false), (("LogError" : PySem.Str), ("LogError" : PySem.Str), true), (("LogError" : PySem.Str), ("PaperError" : PySem.Str), false), (("LogError" : PySem.Str), ("SideError" : PySem.Str), true), (("LogError" : PySem.Str), ("TextError" : PySem.Str), false), (("LogError" : PySem.Str), ("TooMany" : PySem.Str), false), (("CommandError" : PySem.Str), ("ArgumentError" : PySem.Str), false), (("CommandError" : PySem.Str), ("CheckError" : PySem.Str), false), (("CommandError" : PySem.Str), ("CommandError" : PySem.Str), true), (("CommandError" : PySem.Str), ("LogError" : PySem.Str), false), (("CommandError" : PySem.Str), ("PaperError" : PySem.Str), false), (("CommandError" : PySem.Str), ("SideError" : PySem.Str), true), (("CommandError" : PySem.Str), ("TextError" : PySem.Str), false), (("CommandError" : PySem.Str), ("TooMany" : PySem.Str), false)]
def ti : DH.Tab := [(("ArgumentError" : PySem.Str), ("ArgumentError" : PySem.Str), true), (("ArgumentError" : PySem.Str), ("CheckError" : PySem.Str), false), (("ArgumentError" : PySem.Str), ("CommandError" : PySem.Str), false), (("ArgumentError" : PySem.Str), ("LogError" : PySem.Str), false), (("ArgumentError" : PySem.Str), ("PaperError" : PySem.Str), false), (("ArgumentError" : PySem.Str), ("TextError" : PySem.Str), false), (("ArgumentError" : PySem.Str), ("TooMany" : PySem.Str), false), (("ArgumentError" : PySem.Str), ("ValueError" : PySem.Str), true), (("CheckError" : PySem.Str), ("ArgumentError" : PySem.Str), false), (("CheckError" : PySem.Str), ("CheckError" : PySem.Str), true), (("CheckError" : PySem.Str), ("CommandError" : PySem.Str), false), (("CheckError" : PySem.Str), ("LogError" : PySem.Str), false), (("CheckError" : PySem.Str), ("PaperError" : PySem.Str), false), (("CheckError" : PySem.Str), ("TextError" : PySem.Str), false), (("CheckError" : PySem.Str), ("TooMany" : PySem.Str), false), (("CheckError" : PySem.Str), ("ValueError" : PySem.Str), true), (("PaperError" : PySem.Str), ("ArgumentError" : PySem.Str), false), (("PaperError" : PySem.Str), ("CheckError" : PySem.Str), false), (("PaperError" : PySem.Str), ("CommandError" : PySem.Str), false), (("PaperError" : PySem.Str), ("LogError" : PySem.Str), false), (("PaperError" : PySem.Str), ("PaperError" : PySem.Str), true), (("PaperError" : PySem.Str), ("TextError" : PySem.Str), false), (("PaperError" : PySem.Str), ("TooMany" : PySem.Str), false), (("PaperError" : PySem.Str), ("ValueError" : PySem.Str), true), (("TooMany" : PySem.Str), ("ArgumentError" : PySem.Str), false), (("TooMany" : PySem.Str), ("CheckError" : PySem.Str), false), (("TooMany" : PySem.Str), ("CommandError" : PySem.Str), false), (("TooMany" : PySem.Str), ("LogError" : PySem.Str), false), (("TooMany" : PySem.Str), ("PaperError" : PySem.Str), false), (("TooMany" : PySem.Str), ("TextError" : PySem.Str), false), (("TooMany" : PySem.Str), ("TooMany" : PySem.Str), true), (("TooMany" : PySem.Str), ("ValueError" : PySem.Str), true), (("TextError" : PySem.Str), ("ArgumentError" : PySem.Str), false), (("TextError" : PySem.Str), ("CheckError" : PySem.Str), false), (("TextError" : PySem.Str), ("CommandError" : PySem.Str), false), (("TextError" : PySem.Str), ("LogError" : PySem.Str), false), (("TextError" : PySem.Str), ("PaperError" : PySem.Str), false), (("TextError" : PySem.Str), ("TextError" : PySem.Str), true), (("TextError" : PySem.Str), ("TooMany" : PySem.Str), false), (("TextError" : PySem.Str), ("ValueError" : PySem.Str), true), (("LogError" : PySem.Str), ("ArgumentError" : PySem.Str), false), (("LogError" : PySem.Str), ("CheckError" : PySem.Str), false), (("LogError" : PySem.Str), ("CommandError" : PySem.Str), false), (("LogError" : PySem.Str), ("LogError" : PySem.Str), true), (("LogError" : PySem.Str), ("PaperError" : PySem.Str), false), (("LogError" : PySem.Str), ("TextError" : PySem.Str), false), (("LogError" : PySem.Str), ("TooMany" : PySem.Str), false), (("LogError" : PySem.Str), ("ValueError" : PySem.Str), true), (("CommandError" : PySem.Str), ("ArgumentError" : PySem.Str), false), (("CommandError" : PySem.Str), ("CheckError" : PySem.Str), false), (("CommandError" : PySem.Str), ("CommandError" : PySem.Str), true), (("CommandError" : PySem.Str), ("LogError" : PySem.Str), false), (("CommandError" : PySem.Str), ("PaperError" : PySem.Str), false), (("CommandError" : PySem.Str), ("TextError" : PySem.Str), false), (("CommandError" : PySem.Str), ("TooMany" : PySem.Str), false), (("CommandError" : PySem.Str), ("ValueError" : PySem.Str), true)]
def es : List PySem.Str := [("ArgumentError" : PySem.Str), ("CheckError" : PySem.Str), ("PaperError" : PySem.Str), ("TooMany" : PySem.Str), ("TextError" : PySem.Str), ("LogError" : PySem.Str), ("CommandError" : PySem.Str)]
def flds : List PySem.Str := [("at" : PySem.Str), ("line" : PySem.Str), ("number" : PySem.Str), ("reason" : PySem.Str)]
def isK : PySem.Str → PySem.Str → Option Bool := DH.look tk
def isI : PySem.Str → PySem.Str → Option Bool := DH.look ti
def isE : PySem.Str → Bool := fun x => es.contains x
/-- what the walk uses of the module -/
structure Mo (M : Mdl) : Prop where
  cold : ∀ a C d, ¬ M.exc a C d
  ik : IsK M isK
  ii : IsI M isI
  et : ErrT M isE flds
  b_abs : M.mg ("abs" : PySem.Str) = Option.none
  b_int : M.mg ("int" : PySem.Str) = Option.none
  b_isinstance : M.mg ("isinstance" : PySem.Str) = Option.none
  b_len : M.mg ("len" : PySem.Str) = Option.none
  b_range : M.mg ("range" : PySem.Str) = Option.none
  b_repr : M.mg ("repr" : PySem.Str) = Option.none
  d__law_caught : ∃ f fd, M.mg ("_law_caught" : PySem.Str) = some (.ref f) ∧ FunD M.K ("_law_caught" : PySem.Str) ("_law_caught" : PySem.Str) (defArgs (top 39)) (defBody (top 39)) (defScope (top 39)) [] [] f fd
  d__law_draws : ∃ f fd, M.mg ("_law_draws" : PySem.Str) = some (.ref f) ∧ FunD M.K ("_law_draws" : PySem.Str) ("_law_draws" : PySem.Str) (defArgs (top 32)) (defBody (top 32)) (defScope (top 32)) [] [] f fd
  d__law_fields : ∃ f fd, M.mg ("_law_fields" : PySem.Str) = some (.ref f) ∧ FunD M.K ("_law_fields" : PySem.Str) ("_law_fields" : PySem.Str) (defArgs (top 40)) (defBody (top 40)) (defScope (top 40)) [] [] f fd
  d__law_kinds : ∃ f fd, M.mg ("_law_kinds" : PySem.Str) = some (.ref f) ∧ FunD M.K ("_law_kinds" : PySem.Str) ("_law_kinds" : PySem.Str) (defArgs (top 38)) (defBody (top 38)) (defScope (top 38)) [] [] f fd
  d__law_limits_right : ∃ f fd, M.mg ("_law_limits_right" : PySem.Str) = some (.ref f) ∧ FunD M.K ("_law_limits_right" : PySem.Str) ("_law_limits_right" : PySem.Str) (defArgs (top 36)) (defBody (top 36)) (defScope (top 36)) [] [] f fd
  d__law_more : ∃ f fd, M.mg ("_law_more" : PySem.Str) = some (.ref f) ∧ FunD M.K ("_law_more" : PySem.Str) ("_law_more" : PySem.Str) (defArgs (top 33)) (defBody (top 33)) (defScope (top 33)) [] [] f fd
  d__law_one : ∃ f fd, M.mg ("_law_one" : PySem.Str) = some (.ref f) ∧ FunD M.K ("_law_one" : PySem.Str) ("_law_one" : PySem.Str) (defArgs (top 35)) (defBody (top 35)) (defScope (top 35)) [] [] f fd
  d__law_raise : ∃ f fd, M.mg ("_law_raise" : PySem.Str) = some (.ref f) ∧ FunD M.K ("_law_raise" : PySem.Str) ("_law_raise" : PySem.Str) (defArgs (top 37)) (defBody (top 37)) (defScope (top 37)) [] [] f fd
  d__law_take : ∃ f fd, M.mg ("_law_take" : PySem.Str) = some (.ref f) ∧ FunD M.K ("_law_take" : PySem.Str) ("_law_take" : PySem.Str) (defArgs (top 34)) (defBody (top 34)) (defScope (top 34)) [] [] f fd
  e_ArgumentError : ErrC M ("ArgumentError" : PySem.Str) [("reason" : PySem.Str)]
  e_CheckError : ErrC M ("CheckError" : PySem.Str) [("reason" : PySem.Str)]
  e_CommandError : ErrC M ("CommandError" : PySem.Str) [("line" : PySem.Str)]
  e_LogError : ErrC M ("LogError" : PySem.Str) [("number" : PySem.Str), ("reason" : PySem.Str)]
  e_PaperError : ErrC M ("PaperError" : PySem.Str) [("reason" : PySem.Str)]
  e_TextError : ErrC M ("TextError" : PySem.Str) [("at" : PySem.Str)]
  e_TooMany : ErrC M ("TooMany" : PySem.Str) [("reason" : PySem.Str)]
  i_MAX_ASIDE : ∃ t, M.mg ("MAX_ASIDE" : PySem.Str) = some (.int (8) t)
  i_MAX_BITS : ∃ t, M.mg ("MAX_BITS" : PySem.Str) = some (.int (4) t)
  i_MAX_CORNERS : ∃ t, M.mg ("MAX_CORNERS" : PySem.Str) = some (.int (12) t)
  i_MAX_COUNTED : ∃ t, M.mg ("MAX_COUNTED" : PySem.Str) = some (.int (8) t)
  i_MAX_FAMILY : ∃ t, M.mg ("MAX_FAMILY" : PySem.Str) = some (.int (64) t)
  i_MAX_LAYERS : ∃ t, M.mg ("MAX_LAYERS" : PySem.Str) = some (.int (3) t)
  i_MAX_LEARNT : ∃ t, M.mg ("MAX_LEARNT" : PySem.Str) = some (.int (400) t)
  i_MAX_LINES : ∃ t, M.mg ("MAX_LINES" : PySem.Str) = some (.int (200) t)
  i_MAX_NUMBER : ∃ t, M.mg ("MAX_NUMBER" : PySem.Str) = some (.int (1000000) t)
  i_MAX_PIECES : ∃ t, M.mg ("MAX_PIECES" : PySem.Str) = some (.int (8) t)
  i_MAX_PLANES : ∃ t, M.mg ("MAX_PLANES" : PySem.Str) = some (.int (6) t)
  i_MAX_POINTS : ∃ t, M.mg ("MAX_POINTS" : PySem.Str) = some (.int (12) t)
  i_MAX_ROUNDS : ∃ t, M.mg ("MAX_ROUNDS" : PySem.Str) = some (.int (60) t)
  i_MAX_ROWS : ∃ t, M.mg ("MAX_ROWS" : PySem.Str) = some (.int (16) t)
  i_MAX_SHATTERED : ∃ t, M.mg ("MAX_SHATTERED" : PySem.Str) = some (.int (6) t)
  i_MAX_SITES : ∃ t, M.mg ("MAX_SITES" : PySem.Str) = some (.int (8) t)
  i_MAX_SIZE : ∃ t, M.mg ("MAX_SIZE" : PySem.Str) = some (.int (4) t)
  i_MAX_TEXT : ∃ t, M.mg ("MAX_TEXT" : PySem.Str) = some (.int (6000) t)
  i_MAX_THINGS : ∃ t, M.mg ("MAX_THINGS" : PySem.Str) = some (.int (40) t)
  i_MAX_UNITS : ∃ t, M.mg ("MAX_UNITS" : PySem.Str) = some (.int (6) t)
  i_MAX_WHOLE : ∃ t, M.mg ("MAX_WHOLE" : PySem.Str) = some (.int (1000) t)
/-! ### _law_draws -/
abbrev N__law_draws : List PySem.Str := [("script" : PySem.Str), ("draws" : PySem.Str), ("cell" : PySem.Str), ("rest" : PySem.Str), ("k" : PySem.Str), ("mixed" : PySem.Str)]
abbrev C__law_draws : Cf := ⟨0, N__law_draws, defScope (top 32), fun _ => true, true⟩
def f__law_draws : Sl → Out Flw := (seqS (setN 1 nilA)
  (seqS (forS (seqI (sliceE (.pk 0) noO (someO (conD (.int 63))))) (putS 2) (seqS (asgS (call1 absD (.pk 2)) (putS 3))
  (ifS (cmpT geD (.pk 3) (.ev (bin powD (.ev (conD (.int 10))) (.ev (conD (.int 18)))))) (forS (rng1 (consA (conD (.int 60)) nilA)) (putS 4) (ifS (cmpT gtD (.pk 3) (.ev (conD (.int 0)))) (seqS (appS 1 (bin modD (.ev (call1 intD (.pk 3))) (.ev (conD (.int 1009)))))
  (asgS (bin fdivD (.pk 3) (.ev (conD (.int 1009)))) (putS 3))) nextS)) (seqS (asgS (bin modD (.ev (call1 intD (.ev (bin addD (.ev (bin mulD (.pk 3) (.ev (conD (.int 48271))))) (.ev (conD (.int 11))))))) (.ev (conD (.int 2147483647)))) (putS 5))
  (forS (rng1 (consA (conD (.int 12)) nilA)) (putS 4) (seqS (asgS (bin modD (.ev (call1 intD (.ev (bin addD (.ev (bin addD (.ev (bin mulD (.pk 5) (.ev (conD (.int 16807))))) (.ev (bin mulD (.ev (conD (.int 69621))) (.pk 4))))) (.ev (conD (.int 5))))))) (.ev (conD (.int 2147483629)))) (putS 5))
  (appS 1 (bin fdivD (.pk 5) (.ev (conD (.int 1009)))))))))))
  (retS (varD 1))))
theorem d__law_draws {M : Mdl} (m : Mo M) : DSs M C__law_draws (defBody (top 32)) f__law_draws :=
  (dss_cons (sn 1 (df_lst da_nil (lenA_le (n := 0) lenA_nil (by decide))))
  (dss_cons (sf (di_seq (de_slice (pk 0) do_none (do_some de_int))) (tn 2) (dss_cons (sx 3 (cB1 (bn (m.b_abs) rfl) c_abs (pk 2)))
  (dss_one (ds_if (cmt b_ge (pk 3) (op_ev (bi b_pow (op_ev de_int) (op_ev de_int)))) (dss_one (sf (r1 (ac de_int da_nil) (m.b_range)) (tn 4) (dss_one (ds_if (cmt b_gt (pk 3) (op_ev de_int)) (dss_cons (sap 1 (bi b_mod (op_ev (cT1 (bn (m.b_int) rfl) c_int (pk 3))) (op_ev de_int)))
  (dss_one (sx 3 (bi b_fdiv (pk 3) (op_ev de_int))))) dss_nil)))) (dss_cons (sx 5 (bi b_mod (op_ev (cT1 (bn (m.b_int) rfl) c_int (op_ev (bi b_add (op_ev (bi b_mul (pk 3) (op_ev de_int))) (op_ev de_int))))) (op_ev de_int)))
  (dss_one (sf (r1 (ac de_int da_nil) (m.b_range)) (tn 4) (dss_cons (sx 5 (bi b_mod (op_ev (cT1 (bn (m.b_int) rfl) c_int (op_ev (bi b_add (op_ev (bi b_add (op_ev (bi b_mul (pk 5) (op_ev de_int))) (op_ev (bi b_mul (op_ev de_int) (pk 4))))) (op_ev de_int))))) (op_ev de_int)))
  (dss_one (sap 1 (bi b_fdiv (pk 5) (op_ev de_int))))))))))))
  (dss_one (ds_ret (vr 1)))))
theorem sc__law_draws : FnScope N__law_draws [("script" : PySem.Str)] (defScope (top 32)) := ⟨rfl, rfl, rfl, by decide +kernel, rfl, by decide +kernel, by decide +kernel⟩
def g__law_draws : List Slot → FOut := defE 6 1 f__law_draws
theorem n__law_draws {M : Mdl} (m : Mo M) : FnAt M 1 ("_law_draws" : PySem.Str) 1 g__law_draws := by
  obtain ⟨f, fd, hm, F⟩ := m.d__law_draws
  exact fnAt_D F hm sc__law_draws m.cold (d__law_draws m) (fun _ _ _ _ _ _ _ => trivial) (F.bindsN fun _ _ _ _ _ _ us hl => match us, hl with | [_], _ => rfl)

/-! ### _law_more -/
abbrev N__law_more : List PySem.Str := [("draws" : PySem.Str), ("place" : PySem.Str), ("mixed" : PySem.Str), ("k" : PySem.Str)]
abbrev C__law_more : Cf := ⟨0, N__law_more, defScope (top 33), fun _ => true, true⟩
def f__law_more : Sl → Out Flw := (seqS (asgS (bin modD (.ev (call1 intD (.ev (bin addD (.ev (bin addD (.ev (bin mulD (.pk 1) (.ev (conD (.int 48271))))) (.ev (call1 lenD (.pk 0))))) (.ev (conD (.int 11))))))) (.ev (conD (.int 2147483629)))) (putS 2))
  (seqS (forS (rng1 (consA (conD (.int 3)) nilA)) (putS 3) (seqS (ifS (truT (.pk 0)) (asgS (bin addD (.pk 2) (.ev (bin ixD (.pk 0) (.ev (bin modD (.ev (call1 intD (.ev (bin addD (.ev (bin mulD (.pk 1) (.ev (bin addD (.pk 3) (.ev (conD (.int 5))))))) (.pk 3))))) (.ev (call1 lenD (.pk 0)))))))) (putS 2)) nextS)
  (asgS (bin modD (.ev (call1 intD (.ev (bin addD (.ev (bin addD (.ev (bin mulD (.pk 2) (.ev (conD (.int 16807))))) (.ev (bin mulD (.ev (conD (.int 69621))) (.pk 3))))) (.ev (conD (.int 5))))))) (.ev (conD (.int 2147483629)))) (putS 2))))
  (retS (bin fdivD (.pk 2) (.ev (conD (.int 1009)))))))
theorem d__law_more {M : Mdl} (m : Mo M) : DSs M C__law_more (defBody (top 33)) f__law_more :=
  (dss_cons (sx 2 (bi b_mod (op_ev (cT1 (bn (m.b_int) rfl) c_int (op_ev (bi b_add (op_ev (bi b_add (op_ev (bi b_mul (pk 1) (op_ev de_int))) (op_ev (cB1 (bn (m.b_len) rfl) c_len (pk 0))))) (op_ev de_int))))) (op_ev de_int)))
  (dss_cons (sf (r1 (ac de_int da_nil) (m.b_range)) (tn 3) (dss_cons (ds_if (tv (pk 0)) (dss_one (sx 2 (bi b_add (pk 2) (op_ev (ix (pk 0) (op_ev (bi b_mod (op_ev (cT1 (bn (m.b_int) rfl) c_int (op_ev (bi b_add (op_ev (bi b_mul (pk 1) (op_ev (bi b_add (pk 3) (op_ev de_int))))) (pk 3))))) (op_ev (cB1 (bn (m.b_len) rfl) c_len (pk 0)))))))))) dss_nil)
  (dss_one (sx 2 (bi b_mod (op_ev (cT1 (bn (m.b_int) rfl) c_int (op_ev (bi b_add (op_ev (bi b_add (op_ev (bi b_mul (pk 2) (op_ev de_int))) (op_ev (bi b_mul (op_ev de_int) (pk 3))))) (op_ev de_int))))) (op_ev de_int))))))
  (dss_one (ds_ret (bi b_fdiv (pk 2) (op_ev de_int))))))
theorem sc__law_more : FnScope N__law_more [("draws" : PySem.Str), ("place" : PySem.Str)] (defScope (top 33)) := ⟨rfl, rfl, rfl, by decide +kernel, rfl, by decide +kernel, by decide +kernel⟩
def g__law_more : List Slot → FOut := defE 4 2 f__law_more
theorem n__law_more {M : Mdl} (m : Mo M) : FnAt M 1 ("_law_more" : PySem.Str) 2 g__law_more := by
  obtain ⟨f, fd, hm, F⟩ := m.d__law_more
  exact fnAt_D F hm sc__law_more m.cold (d__law_more m) (fun _ _ _ _ _ _ _ => trivial) (F.bindsN fun _ _ _ _ _ _ us hl => match us, hl with | [_, _], _ => rfl)

/-! ### _law_take -/
abbrev N__law_take : List PySem.Str := [("draws" : PySem.Str), ("at" : PySem.Str), ("many" : PySem.Str), ("place" : PySem.Str)]
abbrev C__law_take : Cf := ⟨1, N__law_take, defScope (top 34), fun _ => true, true⟩
def f__law_take : Sl → Out Flw := (seqS (asgS (bin ixD (.pk 1) (.ev (conD (.int 0)))) (putS 3))
  (seqS (subS 1 (bin addD (.pk 3) (.ev (conD (.int 1)))) (conD (.int 0)))
  (retS (bin modD (.ev (call1 intD (.ev (ifE (cmpT ltD (.pk 3) (.ev (call1 lenD (.pk 0)))) (bin ixD (.pk 0) (.pk 3)) (callE g__law_more [.v (varD 0), .v (varD 3)]))))) (.pk 2)))))
theorem d__law_take {M : Mdl} (m : Mo M) (F__law_more : FnAt M 1 ("_law_more" : PySem.Str) 2 g__law_more) : DSs M C__law_take (defBody (top 34)) f__law_take :=
  (dss_cons (sx 3 (ix (pk 1) (op_ev de_int)))
  (dss_cons (ss 1 (bi b_add (pk 3) (op_ev de_int)) de_int)
  (dss_one (ds_ret (bi b_mod (op_ev (cT1 (bn (m.b_int) rfl) c_int (op_ev (de_if (cmt b_lt (pk 3) (op_ev (cB1 (bn (m.b_len) rfl) c_len (pk 0)))) (ix (pk 0) (pk 3)) (cD F__law_more (av (vr 0) (av (vr 3) dag_nil)) (fun _ => defE_len)))))) (pk 2))))))
theorem sc__law_take : FnScope N__law_take [("draws" : PySem.Str), ("at" : PySem.Str), ("many" : PySem.Str)] (defScope (top 34)) := ⟨rfl, rfl, rfl, by decide +kernel, rfl, by decide +kernel, by decide +kernel⟩
def g__law_take : List Slot → FOut := defE 4 3 f__law_take
theorem n__law_take {M : Mdl} (m : Mo M) : FnAt M 2 ("_law_take" : PySem.Str) 3 g__law_take := by
  obtain ⟨f, fd, hm, F⟩ := m.d__law_take
  exact fnAt_D F hm sc__law_take m.cold (d__law_take m (n__law_more m)) (fun _ _ _ _ _ _ _ => trivial) (F.bindsN fun _ _ _ _ _ _ us hl => match us, hl with | [_, _, _], _ => rfl)

/-! ### _law_one -/
abbrev N__law_one : List PySem.Str := [("rows" : PySem.Str), ("draws" : PySem.Str), ("at" : PySem.Str)]
abbrev C__law_one : Cf := ⟨2, N__law_one, defScope (top 35), fun _ => true, true⟩
def f__law_one : Sl → Out Flw := (retS (bin ixD (.pk 0) (.ev (callE g__law_take [.v (varD 1), .m 2, .v (call1 lenD (.pk 0))]))))
theorem d__law_one {M : Mdl} (m : Mo M) (F__law_take : FnAt M 2 ("_law_take" : PySem.Str) 3 g__law_take) : DSs M C__law_one (defBody (top 35)) f__law_one :=
  (dss_one (ds_ret (ix (pk 0) (op_ev (cD F__law_take (av (vr 1) (am 2 (av (cB1 (bn (m.b_len) rfl) c_len (pk 0)) dag_nil))) (fun _ => defE_len))))))
theorem sc__law_one : FnScope N__law_one [("rows" : PySem.Str), ("draws" : PySem.Str), ("at" : PySem.Str)] (defScope (top 35)) := ⟨rfl, rfl, rfl, by decide +kernel, rfl, by decide +kernel, by decide +kernel⟩
def g__law_one : List Slot → FOut := defE 3 3 f__law_one
theorem n__law_one {M : Mdl} (m : Mo M) : FnAt M 3 ("_law_one" : PySem.Str) 3 g__law_one := by
  obtain ⟨f, fd, hm, F⟩ := m.d__law_one
  exact fnAt_D F hm sc__law_one m.cold (d__law_one m (n__law_take m)) (fun _ _ _ _ _ _ _ => trivial) (F.bindsN fun _ _ _ _ _ _ us hl => match us, hl with | [_, _, _], _ => rfl)

/-! ### _law_limits_right -/
abbrev N__law_limits_right : List PySem.Str := [("told" : PySem.Str), ("due" : PySem.Str)]
abbrev C__law_limits_right : Cf := ⟨0, N__law_limits_right, defScope (top 36), fun _ => true, true⟩
def f__law_limits_right : Sl → Out Flw := (seqS (asgS (lstE (consA (conD (.int (1000000))) (consA (conD (.int (1000))) (consA (conD (.int (4))) (consA (conD (.int (12))) (consA (conD (.int (16))) (consA (conD (.int (6000))) (consA (conD (.int (200))) (consA (conD (.int (8))) (consA (conD (.int (6))) nilA)))))))))) (putS 0))
  (seqS (asgS (bin addD (.pk 0) (.ev (lstE (consA (conD (.int (4))) (consA (conD (.int (60))) (consA (conD (.int (6))) (consA (conD (.int (3))) (consA (conD (.int (8))) (consA (conD (.int (8))) (consA (conD (.int (12))) (consA (conD (.int (400))) (consA (conD (.int (8))) nilA)))))))))))) (putS 0))
  (seqS (asgS (bin addD (.pk 0) (.ev (lstE (consA (conD (.int (6))) (consA (conD (.int (64))) (consA (conD (.int (40))) nilA)))))) (putS 0))
  (seqS (asgS (lstE (consA (conD (.int 1000000)) (consA (conD (.int 1000)) (consA (conD (.int 4)) (consA (conD (.int 12)) (consA (conD (.int 16)) (consA (conD (.int 6000)) (consA (conD (.int 200)) (consA (conD (.int 8)) (consA (conD (.int 6)) (consA (conD (.int 4)) (consA (conD (.int 60)) (consA (conD (.int 6)) (consA (conD (.int 3)) (consA (conD (.int 8)) (consA (conD (.int 8)) (consA (conD (.int 12)) (consA (conD (.int 400)) (consA (conD (.int 8)) (consA (conD (.int 6)) (consA (conD (.int 64)) (consA (conD (.int 40)) nilA)))))))))))))))))))))) (putS 1))
  (retS (bin eqD (.ev (call1 reprD (.pk 0))) (.ev (call1 reprD (.pk 1)))))))))
theorem d__law_limits_right {M : Mdl} (m : Mo M) : DSs M C__law_limits_right (defBody (top 36)) f__law_limits_right :=
  (dss_cons (sx 0 (de_lst (ac (gInt (m.i_MAX_NUMBER)) (ac (gInt (m.i_MAX_WHOLE)) (ac (gInt (m.i_MAX_SIZE)) (ac (gInt (m.i_MAX_POINTS)) (ac (gInt (m.i_MAX_ROWS)) (ac (gInt (m.i_MAX_TEXT)) (ac (gInt (m.i_MAX_LINES)) (ac (gInt (m.i_MAX_ASIDE)) (ac (gInt (m.i_MAX_PLANES)) da_nil))))))))) (lenA_le (n := 9) (lenA_cons (lenA_cons (lenA_cons (lenA_cons (lenA_cons (lenA_cons (lenA_cons (lenA_cons (lenA_cons lenA_nil))))))))) (by decide))))
  (dss_cons (sx 0 (bi b_add (pk 0) (op_ev (de_lst (ac (gInt (m.i_MAX_BITS)) (ac (gInt (m.i_MAX_ROUNDS)) (ac (gInt (m.i_MAX_UNITS)) (ac (gInt (m.i_MAX_LAYERS)) (ac (gInt (m.i_MAX_COUNTED)) (ac (gInt (m.i_MAX_SITES)) (ac (gInt (m.i_MAX_CORNERS)) (ac (gInt (m.i_MAX_LEARNT)) (ac (gInt (m.i_MAX_PIECES)) da_nil))))))))) (lenA_le (n := 9) (lenA_cons (lenA_cons (lenA_cons (lenA_cons (lenA_cons (lenA_cons (lenA_cons (lenA_cons (lenA_cons lenA_nil))))))))) (by decide))))))
  (dss_cons (sx 0 (bi b_add (pk 0) (op_ev (de_lst (ac (gInt (m.i_MAX_SHATTERED)) (ac (gInt (m.i_MAX_FAMILY)) (ac (gInt (m.i_MAX_THINGS)) da_nil))) (lenA_le (n := 3) (lenA_cons (lenA_cons (lenA_cons lenA_nil))) (by decide))))))
  (dss_cons (sx 1 (de_lst (ac de_int (ac de_int (ac de_int (ac de_int (ac de_int (ac de_int (ac de_int (ac de_int (ac de_int (ac de_int (ac de_int (ac de_int (ac de_int (ac de_int (ac de_int (ac de_int (ac de_int (ac de_int (ac de_int (ac de_int (ac de_int da_nil))))))))))))))))))))) (lenA_le (n := 21) (lenA_cons (lenA_cons (lenA_cons (lenA_cons (lenA_cons (lenA_cons (lenA_cons (lenA_cons (lenA_cons (lenA_cons (lenA_cons (lenA_cons (lenA_cons (lenA_cons (lenA_cons (lenA_cons (lenA_cons (lenA_cons (lenA_cons (lenA_cons (lenA_cons lenA_nil))))))))))))))))))))) (by decide))))
  (dss_one (ds_ret (cmv b_eq (op_ev (cB1 (bn (m.b_repr) rfl) c_repr (pk 0))) (op_ev (cB1 (bn (m.b_repr) rfl) c_repr (pk 1))))))))))
theorem sc__law_limits_right : FnScope N__law_limits_right [] (defScope (top 36)) := ⟨rfl, rfl, rfl, by decide +kernel, rfl, by decide +kernel, by decide +kernel⟩
def g__law_limits_right : List Slot → FOut := defE 2 0 f__law_limits_right
theorem n__law_limits_right {M : Mdl} (m : Mo M) : FnAt M 1 ("_law_limits_right" : PySem.Str) 0 g__law_limits_right := by
  obtain ⟨f, fd, hm, F⟩ := m.d__law_limits_right
  exact fnAt_D F hm sc__law_limits_right m.cold (d__law_limits_right m) (fun _ _ _ _ _ _ _ => trivial) (F.bindsN fun _ _ _ _ _ _ us hl => match us, hl with | [], _ => rfl)

/-! ### _law_raise -/
abbrev N__law_raise : List PySem.Str := [("k" : PySem.Str), ("one" : PySem.Str), ("other" : PySem.Str)]
abbrev C__law_raise : Cf := ⟨0, N__law_raise, defScope (top 37), fun _ => true, true⟩
def f__law_raise : Sl → Out Flw := (seqS (ifS (cmpT eqD (.pk 0) (.ev (conD (.int 0)))) (raiseS ("ArgumentError" : PySem.Str) [("reason" : PySem.Str)] (consA (varD 1) nilA)) nextS)
  (seqS (ifS (cmpT eqD (.pk 0) (.ev (conD (.int 1)))) (raiseS ("PaperError" : PySem.Str) [("reason" : PySem.Str)] (consA (varD 1) nilA)) nextS)
  (seqS (ifS (cmpT eqD (.pk 0) (.ev (conD (.int 2)))) (raiseS ("TooMany" : PySem.Str) [("reason" : PySem.Str)] (consA (varD 1) nilA)) nextS)
  (seqS (ifS (cmpT eqD (.pk 0) (.ev (conD (.int 3)))) (raiseS ("CheckError" : PySem.Str) [("reason" : PySem.Str)] (consA (varD 1) nilA)) nextS)
  (seqS (ifS (cmpT eqD (.pk 0) (.ev (conD (.int 4)))) (raiseS ("TextError" : PySem.Str) [("at" : PySem.Str)] (consA (varD 1) nilA)) nextS)
  (seqS (ifS (cmpT eqD (.pk 0) (.ev (conD (.int 5)))) (raiseS ("LogError" : PySem.Str) [("number" : PySem.Str), ("reason" : PySem.Str)] (consA (varD 1) (consA (varD 2) nilA))) nextS)
  (raiseS ("CommandError" : PySem.Str) [("line" : PySem.Str)] (consA (varD 1) nilA))))))))
theorem d__law_raise {M : Mdl} (m : Mo M) : DSs M C__law_raise (defBody (top 37)) f__law_raise :=
  (dss_cons (ds_if (cmt b_eq (pk 0) (op_ev de_int)) (dss_one (rs (m.e_ArgumentError) (ac (vr 1) da_nil))) dss_nil)
  (dss_cons (ds_if (cmt b_eq (pk 0) (op_ev de_int)) (dss_one (rs (m.e_PaperError) (ac (vr 1) da_nil))) dss_nil)
  (dss_cons (ds_if (cmt b_eq (pk 0) (op_ev de_int)) (dss_one (rs (m.e_TooMany) (ac (vr 1) da_nil))) dss_nil)
  (dss_cons (ds_if (cmt b_eq (pk 0) (op_ev de_int)) (dss_one (rs (m.e_CheckError) (ac (vr 1) da_nil))) dss_nil)
  (dss_cons (ds_if (cmt b_eq (pk 0) (op_ev de_int)) (dss_one (rs (m.e_TextError) (ac (vr 1) da_nil))) dss_nil)
  (dss_cons (ds_if (cmt b_eq (pk 0) (op_ev de_int)) (dss_one (rs (m.e_LogError) (ac (vr 1) (ac (vr 2) da_nil)))) dss_nil)
  (dss_one (rs (m.e_CommandError) (ac (vr 1) da_nil)))))))))
theorem sc__law_raise : FnScope N__law_raise [("k" : PySem.Str), ("one" : PySem.Str), ("other" : PySem.Str)] (defScope (top 37)) := ⟨rfl, rfl, rfl, by decide +kernel, rfl, by decide +kernel, by decide +kernel⟩
def g__law_raise : List Slot → FOut := defE 3 3 f__law_raise
theorem n__law_raise {M : Mdl} (m : Mo M) : FnAt M 1 ("_law_raise" : PySem.Str) 3 g__law_raise := by
  obtain ⟨f, fd, hm, F⟩ := m.d__law_raise
  exact fnAt_D F hm sc__law_raise m.cold (d__law_raise m) (fun _ _ _ _ _ _ _ => trivial) (F.bindsN fun _ _ _ _ _ _ us hl => match us, hl with | [_, _, _], _ => rfl)

/-! ### _law_kinds -/
abbrev N__law_kinds : List PySem.Str := [("e" : PySem.Str), ("plain" : PySem.Str)]
abbrev C__law_kinds : Cf := ⟨0, N__law_kinds, defScope (top 38), fun _ => true, false⟩
def f__law_kinds : Sl → Out Flw := (seqS (asgS (lstE (consA (isXD isE isI 0 ("ArgumentError" : PySem.Str)) (consA (isXD isE isI 0 ("PaperError" : PySem.Str)) (consA (isXD isE isI 0 ("TooMany" : PySem.Str)) (consA (isXD isE isI 0 ("CheckError" : PySem.Str)) nilA))))) (putS 1))
  (retS (bin addD (.pk 1) (.ev (lstE (consA (isXD isE isI 0 ("TextError" : PySem.Str)) (consA (isXD isE isI 0 ("LogError" : PySem.Str)) (consA (isXD isE isI 0 ("CommandError" : PySem.Str)) nilA))))))))
theorem d__law_kinds {M : Mdl} (m : Mo M) (a : Addr) (C : PySem.Str) (d : Addr) : DSs (M.withE a C d) C__law_kinds (defBody (top 38)) f__law_kinds :=
  (dss_cons (sx 1 (de_lst (ac (ie 0 m.et.withE m.ii.withE (m.b_isinstance)) (ac (ie 0 m.et.withE m.ii.withE (m.b_isinstance)) (ac (ie 0 m.et.withE m.ii.withE (m.b_isinstance)) (ac (ie 0 m.et.withE m.ii.withE (m.b_isinstance)) da_nil)))) (lenA_le (n := 4) (lenA_cons (lenA_cons (lenA_cons (lenA_cons lenA_nil)))) (by decide))))
  (dss_one (ds_ret (bi b_add (pk 1) (op_ev (de_lst (ac (ie 0 m.et.withE m.ii.withE (m.b_isinstance)) (ac (ie 0 m.et.withE m.ii.withE (m.b_isinstance)) (ac (ie 0 m.et.withE m.ii.withE (m.b_isinstance)) da_nil))) (lenA_le (n := 3) (lenA_cons (lenA_cons (lenA_cons lenA_nil))) (by decide))))))))
theorem sc__law_kinds : FnScope N__law_kinds [("e" : PySem.Str)] (defScope (top 38)) := ⟨rfl, rfl, rfl, by decide +kernel, rfl, by decide +kernel, by decide +kernel⟩
def x__law_kinds : PySem.Str → List (PySem.Str × D) → Option D := defX 2 f__law_kinds
theorem n__law_kinds {M : Mdl} (m : Mo M) : FnX M 1 ("_law_kinds" : PySem.Str) x__law_kinds := by
  obtain ⟨f, fd, hm, F⟩ := m.d__law_kinds
  exact fnX_D F hm sc__law_kinds m.cold (d__law_kinds m) (F.bindsN fun _ _ _ _ _ _ us hl => match us, hl with | [_], _ => rfl)

/-! ### _law_caught -/
abbrev N__law_caught : List PySem.Str := [("k" : PySem.Str), ("one" : PySem.Str), ("other" : PySem.Str), ("e" : PySem.Str)]
abbrev C__law_caught : Cf := ⟨1, N__law_caught, defScope (top 39), fun _ => true, true⟩
def f__law_caught : Sl → Out Flw := (seqS (tryS isK (dropS (callE g__law_raise [.v (varD 0), .v (varD 1), .v (varD 2)])) [⟨("SideError" : PySem.Str), some 3, (retS (ifE (truT (.ev (isXD isE isI 3 ("ValueError" : PySem.Str)))) (callX x__law_kinds 3) (lstE nilA)))⟩])
  (retS (lstE nilA)))
theorem d__law_caught {M : Mdl} (m : Mo M) (F__law_raise : FnAt M 1 ("_law_raise" : PySem.Str) 3 g__law_raise) (F__law_kinds : FnX M 1 ("_law_kinds" : PySem.Str) x__law_kinds) : DSs M C__law_caught (defBody (top 39)) f__law_caught :=
  (dss_cons (ty m.ik (dss_one (sd (cD F__law_raise (av (vr 0) (av (vr 1) (av (vr 2) dag_nil))) (fun _ => defE_len)))) (ha 3 (fun _ _ _ => (dss_one (ds_ret (de_if (tv (op_ev (ie 3 m.et.withE m.ii.withE (m.b_isinstance)))) (cx 3 F__law_kinds.withE) (de_lst da_nil (lenA_le (n := 0) lenA_nil (by decide))))))) HdsD.nil))
  (dss_one (ds_ret (de_lst da_nil (lenA_le (n := 0) lenA_nil (by decide))))))
theorem sc__law_caught : FnScope N__law_caught [("k" : PySem.Str), ("one" : PySem.Str), ("other" : PySem.Str)] (defScope (top 39)) := ⟨rfl, rfl, rfl, by decide +kernel, rfl, by decide +kernel, by decide +kernel⟩
def g__law_caught : List Slot → FOut := defE 4 3 f__law_caught
theorem n__law_caught {M : Mdl} (m : Mo M) : FnAt M 2 ("_law_caught" : PySem.Str) 3 g__law_caught := by
  obtain ⟨f, fd, hm, F⟩ := m.d__law_caught
  exact fnAt_D F hm sc__law_caught m.cold (d__law_caught m (n__law_raise m) (n__law_kinds m)) (fun _ _ _ _ _ _ _ => trivial) (F.bindsN fun _ _ _ _ _ _ us hl => match us, hl with | [_, _, _], _ => rfl)

/-! ### _law_fields -/
abbrev N__law_fields : List PySem.Str := [("k" : PySem.Str), ("one" : PySem.Str), ("other" : PySem.Str), ("e" : PySem.Str)]
abbrev C__law_fields : Cf := ⟨1, N__law_fields, defScope (top 40), fun _ => true, true⟩
def f__law_fields : Sl → Out Flw := (seqS (tryS isK (dropS (callE g__law_raise [.v (varD 0), .v (varD 1), .v (varD 2)])) [⟨("ArgumentError" : PySem.Str), some 3, (retS (tupE (consA (fldD isE 3 ("reason" : PySem.Str)) nilA)))⟩, ⟨("PaperError" : PySem.Str), some 3, (retS (tupE (consA (fldD isE 3 ("reason" : PySem.Str)) nilA)))⟩, ⟨("TooMany" : PySem.Str), some 3, (retS (tupE (consA (fldD isE 3 ("reason" : PySem.Str)) nilA)))⟩, ⟨("CheckError" : PySem.Str), some 3, (retS (tupE (consA (fldD isE 3 ("reason" : PySem.Str)) nilA)))⟩, ⟨("TextError" : PySem.Str), some 3, (retS (tupE (consA (fldD isE 3 ("at" : PySem.Str)) nilA)))⟩, ⟨("LogError" : PySem.Str), some 3, (retS (tupE (consA (fldD isE 3 ("number" : PySem.Str)) (consA (fldD isE 3 ("reason" : PySem.Str)) nilA))))⟩, ⟨("CommandError" : PySem.Str), some 3, (retS (tupE (consA (fldD isE 3 ("line" : PySem.Str)) nilA)))⟩])
  (retS (conD .none)))
theorem d__law_fields {M : Mdl} (m : Mo M) (F__law_raise : FnAt M 1 ("_law_raise" : PySem.Str) 3 g__law_raise) : DSs M C__law_fields (defBody (top 40)) f__law_fields :=
  (dss_cons (ty m.ik (dss_one (sd (cD F__law_raise (av (vr 0) (av (vr 1) (av (vr 2) dag_nil))) (fun _ => defE_len)))) (ha 3 (fun _ _ _ => (dss_one (ds_ret (de_tup (ac (fl 3 m.et.withE) da_nil) (lenA_le (n := 1) (lenA_cons lenA_nil) (by decide)))))) (ha 3 (fun _ _ _ => (dss_one (ds_ret (de_tup (ac (fl 3 m.et.withE) da_nil) (lenA_le (n := 1) (lenA_cons lenA_nil) (by decide)))))) (ha 3 (fun _ _ _ => (dss_one (ds_ret (de_tup (ac (fl 3 m.et.withE) da_nil) (lenA_le (n := 1) (lenA_cons lenA_nil) (by decide)))))) (ha 3 (fun _ _ _ => (dss_one (ds_ret (de_tup (ac (fl 3 m.et.withE) da_nil) (lenA_le (n := 1) (lenA_cons lenA_nil) (by decide)))))) (ha 3 (fun _ _ _ => (dss_one (ds_ret (de_tup (ac (fl 3 m.et.withE) da_nil) (lenA_le (n := 1) (lenA_cons lenA_nil) (by decide)))))) (ha 3 (fun _ _ _ => (dss_one (ds_ret (de_tup (ac (fl 3 m.et.withE) (ac (fl 3 m.et.withE) da_nil)) (lenA_le (n := 2) (lenA_cons (lenA_cons lenA_nil)) (by decide)))))) (ha 3 (fun _ _ _ => (dss_one (ds_ret (de_tup (ac (fl 3 m.et.withE) da_nil) (lenA_le (n := 1) (lenA_cons lenA_nil) (by decide)))))) HdsD.nil))))))))
  (dss_one (ds_ret de_non)))
theorem sc__law_fields : FnScope N__law_fields [("k" : PySem.Str), ("one" : PySem.Str), ("other" : PySem.Str)] (defScope (top 40)) := ⟨rfl, rfl, rfl, by decide +kernel, rfl, by decide +kernel, by decide +kernel⟩
def g__law_fields : List Slot → FOut := defE 4 3 f__law_fields
theorem n__law_fields {M : Mdl} (m : Mo M) : FnAt M 2 ("_law_fields" : PySem.Str) 3 g__law_fields := by
  obtain ⟨f, fd, hm, F⟩ := m.d__law_fields
  exact fnAt_D F hm sc__law_fields m.cold (d__law_fields m (n__law_raise m)) (fun _ _ _ _ _ _ _ => trivial) (F.bindsN fun _ _ _ _ _ _ us hl => match us, hl with | [_, _, _], _ => rfl)

/-! ### law -/
abbrev N_law : List PySem.Str := [("script" : PySem.Str), ("draws" : PySem.Str), ("at" : PySem.Str), ("values" : PySem.Str), ("k" : PySem.Str), ("one" : PySem.Str), ("other" : PySem.Str), ("j" : PySem.Str)]
abbrev C_law : Cf := ⟨3, N_law, defScope (top 41), fun _ => true, true⟩
def f_law : Sl → Out Flw := (seqS (asgS (callE g__law_draws [.v (varD 0)]) (putS 1))
  (seqS (setN 2 (consA (conD (.int 0)) nilA))
  (seqS (ifS (notT (truT (.ev (callE g__law_limits_right [])))) (retS (conD (.bool false))) nextS)
  (seqS (asgS (lstE (consA (conD (.str ("word" : PySem.Str))) (consA (conD (.str ("" : PySem.Str))) (consA (conD (.str ("form" : PySem.Str))) (consA (conD (.int 0)) (consA (conD (.int 17)) (consA (unE negD (conD (.int 3))) (consA (conD .none) (consA (tupE (consA (conD (.str ("a" : PySem.Str))) (consA (conD (.int 5)) nilA))) (consA (conD (.str ("a line" : PySem.Str))) (consA (conD (.bool true)) nilA))))))))))) (putS 3))
  (seqS (forS (rng1 (consA (conD (.int 7)) nilA)) (putS 4) (seqS (parS 5 6 (.v (callE g__law_one [.v (varD 3), .v (varD 1), .m 2])) (.v (callE g__law_one [.v (varD 3), .v (varD 1), .m 2])))
  (seqS (ifS (cmpT neD (.ev (callE g__law_caught [.v (varD 4), .v (varD 5), .v (varD 6)])) (.ev (lstE (compE (rng1 (consA (conD (.int 7)) nilA)) (putS 7) yesT (bin eqD (.pk 7) (.pk 4)) [7])))) (retS (conD (.bool false))) nextS)
  (ifS (cmpT neD (.ev (call1 reprD (.ev (callE g__law_fields [.v (varD 4), .v (varD 5), .v (varD 6)])))) (.ev (call1 reprD (.ev (ifE (cmpT eqD (.pk 4) (.ev (conD (.int 5)))) (tupE (consA (varD 5) (consA (varD 6) nilA))) (tupE (consA (varD 5) nilA))))))) (retS (conD (.bool false))) nextS))))
  (retS (conD (.bool true))))))))
theorem d_law {M : Mdl} (m : Mo M) (F__law_caught : FnAt M 2 ("_law_caught" : PySem.Str) 3 g__law_caught) (F__law_draws : FnAt M 1 ("_law_draws" : PySem.Str) 1 g__law_draws) (F__law_fields : FnAt M 2 ("_law_fields" : PySem.Str) 3 g__law_fields) (F__law_limits_right : FnAt M 1 ("_law_limits_right" : PySem.Str) 0 g__law_limits_right) (F__law_one : FnAt M 3 ("_law_one" : PySem.Str) 3 g__law_one) : DSs M C_law (defBody (top 41)) f_law :=
  (dss_cons (sx 1 (cD F__law_draws (av (vr 0) dag_nil) (fun _ => defE_len)))
  (dss_cons (sn 2 (df_lst (ac de_int da_nil) (lenA_le (n := 1) (lenA_cons lenA_nil) (by decide))))
  (dss_cons (ds_if (dt_not (tv (op_ev (c0 F__law_limits_right (fun _ => defE_len))))) (dss_one (ds_ret de_bl)) dss_nil)
  (dss_cons (sx 3 (de_lst (ac de_str (ac de_str (ac de_str (ac de_int (ac de_int (ac (de_neg de_int) (ac de_non (ac (de_tup (ac de_str (ac de_int da_nil)) (lenA_le (n := 2) (lenA_cons (lenA_cons lenA_nil)) (by decide))) (ac de_str (ac de_bl da_nil)))))))))) (lenA_le (n := 10) (lenA_cons (lenA_cons (lenA_cons (lenA_cons (lenA_cons (lenA_cons (lenA_cons (lenA_cons (lenA_cons (lenA_cons lenA_nil)))))))))) (by decide))))
  (dss_cons (sf (r1 (ac de_int da_nil) (m.b_range)) (tn 4) (dss_cons (pr (xa := (.v (callE g__law_one [.v (varD 3), .v (varD 1), .m 2]))) (xb := (.v (callE g__law_one [.v (varD 3), .v (varD 1), .m 2]))) 5 6 (cD F__law_one (av (vr 3) (av (vr 1) (am 2 dag_nil))) (fun _ => defE_len)) (cD F__law_one (av (vr 3) (av (vr 1) (am 2 dag_nil))) (fun _ => defE_len)))
  (dss_cons (ds_if (cmt b_ne (op_ev (cD F__law_caught (av (vr 4) (av (vr 5) (av (vr 6) dag_nil))) (fun _ => defE_len))) (op_ev (de_new (lc [(("j" : PySem.Str), 7)] (r1 (ac de_int da_nil) (m.b_range)) (tn 7) dts_nil (cmv b_eq (pk 7) (pk 4)))))) (dss_one (ds_ret de_bl)) dss_nil)
  (dss_one (ds_if (cmt b_ne (op_ev (cB1 (bn (m.b_repr) rfl) c_repr (op_ev (cD F__law_fields (av (vr 4) (av (vr 5) (av (vr 6) dag_nil))) (fun _ => defE_len))))) (op_ev (cB1 (bn (m.b_repr) rfl) c_repr (op_ev (de_if (cmt b_eq (pk 4) (op_ev de_int)) (de_tup (ac (vr 5) (ac (vr 6) da_nil)) (lenA_le (n := 2) (lenA_cons (lenA_cons lenA_nil)) (by decide))) (de_tup (ac (vr 5) da_nil) (lenA_le (n := 1) (lenA_cons lenA_nil) (by decide)))))))) (dss_one (ds_ret de_bl)) dss_nil)))))
  (dss_one (ds_ret de_bl)))))))
theorem sc_law : FnScope N_law [("script" : PySem.Str)] (defScope (top 41)) := ⟨rfl, rfl, rfl, by decide +kernel, rfl, by decide +kernel, by decide +kernel⟩
def g_law : List Slot → FOut := defE 8 1 f_law
theorem n_law {M : Mdl} (m : Mo M) {f : Addr} {fd : FuncData} (F : FunD M.K "law" "law" (defArgs (top 41)) (defBody (top 41)) (defScope (top 41)) [] [] f fd) : FnG M 4 f fd ["script"] (spD M.K M.mg 1 g_law) := fnG_D F sc_law m.cold (d_law m (n__law_caught m) (n__law_draws m) (n__law_fields m) (n__law_limits_right m) (n__law_one m))
/-! ### the head -/
abbrev clsMeth (s : Stmt) (j : Nat) : Stmt := match s with
  | .ClassDef _ _ _ b _ _ _ _ _ _ _ => b.getD j (.Pass ⟨0, 0, 0, 0⟩)
  | _ => .Pass ⟨0, 0, 0, 0⟩
def D__law_caught : He.DefD := ⟨(("_law_caught" : PySem.Str), none), ("_law_caught" : PySem.Str), ("_law_caught" : PySem.Str), defArgs (top 39), defBody (top 39), defScope (top 39), [], []⟩
def D__law_draws : He.DefD := ⟨(("_law_draws" : PySem.Str), none), ("_law_draws" : PySem.Str), ("_law_draws" : PySem.Str), defArgs (top 32), defBody (top 32), defScope (top 32), [], []⟩
def D__law_fields : He.DefD := ⟨(("_law_fields" : PySem.Str), none), ("_law_fields" : PySem.Str), ("_law_fields" : PySem.Str), defArgs (top 40), defBody (top 40), defScope (top 40), [], []⟩
def D__law_kinds : He.DefD := ⟨(("_law_kinds" : PySem.Str), none), ("_law_kinds" : PySem.Str), ("_law_kinds" : PySem.Str), defArgs (top 38), defBody (top 38), defScope (top 38), [], []⟩
def D__law_limits_right : He.DefD := ⟨(("_law_limits_right" : PySem.Str), none), ("_law_limits_right" : PySem.Str), ("_law_limits_right" : PySem.Str), defArgs (top 36), defBody (top 36), defScope (top 36), [], []⟩
def D__law_more : He.DefD := ⟨(("_law_more" : PySem.Str), none), ("_law_more" : PySem.Str), ("_law_more" : PySem.Str), defArgs (top 33), defBody (top 33), defScope (top 33), [], []⟩
def D__law_one : He.DefD := ⟨(("_law_one" : PySem.Str), none), ("_law_one" : PySem.Str), ("_law_one" : PySem.Str), defArgs (top 35), defBody (top 35), defScope (top 35), [], []⟩
def D__law_raise : He.DefD := ⟨(("_law_raise" : PySem.Str), none), ("_law_raise" : PySem.Str), ("_law_raise" : PySem.Str), defArgs (top 37), defBody (top 37), defScope (top 37), [], []⟩
def D__law_take : He.DefD := ⟨(("_law_take" : PySem.Str), none), ("_law_take" : PySem.Str), ("_law_take" : PySem.Str), defArgs (top 34), defBody (top 34), defScope (top 34), [], []⟩
def D_law : He.DefD := ⟨(("law" : PySem.Str), none), ("law" : PySem.Str), ("law" : PySem.Str), defArgs (top 41), defBody (top 41), defScope (top 41), [], []⟩
def fa : List He.Fa := [.free ("abs" : PySem.Str), .free ("int" : PySem.Str), .free ("isinstance" : PySem.Str), .free ("len" : PySem.Str), .free ("range" : PySem.Str), .free ("repr" : PySem.Str), .glo ("_law_caught" : PySem.Str), .glo ("_law_draws" : PySem.Str), .glo ("_law_fields" : PySem.Str), .glo ("_law_kinds" : PySem.Str), .glo ("_law_limits_right" : PySem.Str), .glo ("_law_more" : PySem.Str), .glo ("_law_one" : PySem.Str), .glo ("_law_raise" : PySem.Str), .glo ("_law_take" : PySem.Str), .glo ("law" : PySem.Str), .int ("MAX_ASIDE" : PySem.Str) (8), .int ("MAX_BITS" : PySem.Str) (4), .int ("MAX_CORNERS" : PySem.Str) (12), .int ("MAX_COUNTED" : PySem.Str) (8), .int ("MAX_FAMILY" : PySem.Str) (64), .int ("MAX_LAYERS" : PySem.Str) (3), .int ("MAX_LEARNT" : PySem.Str) (400), .int ("MAX_LINES" : PySem.Str) (200), .int ("MAX_NUMBER" : PySem.Str) (1000000), .int ("MAX_PIECES" : PySem.Str) (8), .int ("MAX_PLANES" : PySem.Str) (6), .int ("MAX_POINTS" : PySem.Str) (12), .int ("MAX_ROUNDS" : PySem.Str) (60), .int ("MAX_ROWS" : PySem.Str) (16), .int ("MAX_SHATTERED" : PySem.Str) (6), .int ("MAX_SITES" : PySem.Str) (8), .int ("MAX_SIZE" : PySem.Str) (4), .int ("MAX_TEXT" : PySem.Str) (6000), .int ("MAX_THINGS" : PySem.Str) (40), .int ("MAX_UNITS" : PySem.Str) (6), .int ("MAX_WHOLE" : PySem.Str) (1000)]
def fn : List He.DefD := [D__law_caught, D__law_draws, D__law_fields, D__law_kinds, D__law_limits_right, D__law_more, D__law_one, D__law_raise, D__law_take, D_law]
def I_ArgumentError : DH.InD := ⟨("ArgumentError" : PySem.Str), ("ReasonError.__init__" : PySem.Str), defArgs (clsMeth (top 2) 0), defBody (clsMeth (top 2) 0), defScope (clsMeth (top 2) 0), [("reason" : PySem.Str)]⟩
def I_CheckError : DH.InD := ⟨("CheckError" : PySem.Str), ("ReasonError.__init__" : PySem.Str), defArgs (clsMeth (top 2) 0), defBody (clsMeth (top 2) 0), defScope (clsMeth (top 2) 0), [("reason" : PySem.Str)]⟩
def I_PaperError : DH.InD := ⟨("PaperError" : PySem.Str), ("ReasonError.__init__" : PySem.Str), defArgs (clsMeth (top 2) 0), defBody (clsMeth (top 2) 0), defScope (clsMeth (top 2) 0), [("reason" : PySem.Str)]⟩
def I_TooMany : DH.InD := ⟨("TooMany" : PySem.Str), ("ReasonError.__init__" : PySem.Str), defArgs (clsMeth (top 2) 0), defBody (clsMeth (top 2) 0), defScope (clsMeth (top 2) 0), [("reason" : PySem.Str)]⟩
def I_TextError : DH.InD := ⟨("TextError" : PySem.Str), ("TextError.__init__" : PySem.Str), defArgs (clsMeth (top 7) 0), defBody (clsMeth (top 7) 0), defScope (clsMeth (top 7) 0), [("at" : PySem.Str)]⟩
def I_LogError : DH.InD := ⟨("LogError" : PySem.Str), ("LogError.__init__" : PySem.Str), defArgs (clsMeth (top 8) 0), defBody (clsMeth (top 8) 0), defScope (clsMeth (top 8) 0), [("number" : PySem.Str), ("reason" : PySem.Str)]⟩
def I_CommandError : DH.InD := ⟨("CommandError" : PySem.Str), ("CommandError.__init__" : PySem.Str), defArgs (clsMeth (top 9) 0), defBody (clsMeth (top 9) 0), defScope (clsMeth (top 9) 0), [("line" : PySem.Str)]⟩
def hkd : DH.HkD := ⟨fa, fn, "/claim/cut.py", [I_ArgumentError, I_CheckError, I_PaperError, I_TooMany, I_TextError, I_LogError, I_CommandError], tk, ti, es, flds⟩
theorem txt_ReasonError : DX.Txt PySem.Challenge.pw_sidestold_k00_errors_and_limits "/claim/cut.py" [("reason" : PySem.Str)] (defArgs (clsMeth (top 2) 0)) (defScope (clsMeth (top 2) 0)) := ⟨⟨_, rfl, rfl⟩, by decide +kernel, by decide +kernel, by decide +kernel, by decide +kernel, by decide +kernel, by decide +kernel, by decide +kernel, rfl, rfl, rfl, fun _ _ _ _ _ _ _ _ _ us hl => match us, hl with | [_, _], _ => BindsTo.of_eq rfl⟩
theorem txt_TextError : DX.Txt PySem.Challenge.pw_sidestold_k00_errors_and_limits "/claim/cut.py" [("at" : PySem.Str)] (defArgs (clsMeth (top 7) 0)) (defScope (clsMeth (top 7) 0)) := ⟨⟨_, rfl, rfl⟩, by decide +kernel, by decide +kernel, by decide +kernel, by decide +kernel, by decide +kernel, by decide +kernel, by decide +kernel, rfl, rfl, rfl, fun _ _ _ _ _ _ _ _ _ us hl => match us, hl with | [_, _], _ => BindsTo.of_eq rfl⟩
theorem txt_LogError : DX.Txt PySem.Challenge.pw_sidestold_k00_errors_and_limits "/claim/cut.py" [("number" : PySem.Str), ("reason" : PySem.Str)] (defArgs (clsMeth (top 8) 0)) (defScope (clsMeth (top 8) 0)) := ⟨⟨_, rfl, rfl⟩, by decide +kernel, by decide +kernel, by decide +kernel, by decide +kernel, by decide +kernel, by decide +kernel, by decide +kernel, rfl, rfl, rfl, fun _ _ _ _ _ _ _ _ _ us hl => match us, hl with | [_, _, _], _ => BindsTo.of_eq rfl⟩
theorem txt_CommandError : DX.Txt PySem.Challenge.pw_sidestold_k00_errors_and_limits "/claim/cut.py" [("line" : PySem.Str)] (defArgs (clsMeth (top 9) 0)) (defScope (clsMeth (top 9) 0)) := ⟨⟨_, rfl, rfl⟩, by decide +kernel, by decide +kernel, by decide +kernel, by decide +kernel, by decide +kernel, by decide +kernel, by decide +kernel, rfl, rfl, rfl, fun _ _ _ _ _ _ _ _ _ us hl => match us, hl with | [_, _], _ => BindsTo.of_eq rfl⟩
theorem mo {w : World} {K : PySem.W.Frag} {h : Heap} {mg : PySem.Str → Option Value} {base : Heap} (X : K.In h) (G : h.Ns mainGlobals mg) (c : DH.SaysX hkd K) : Mo ⟨PySem.Challenge.pw_sidestold_k00_errors_and_limits, w, K, mg, base, fun _ _ _ => False⟩ where
  cold := fun _ _ _ z => z
  ik := DH.SaysX.isK (M := ⟨PySem.Challenge.pw_sidestold_k00_errors_and_limits, w, K, mg, base, fun _ _ _ => False⟩) c X G
  ii := DH.SaysX.isI (M := ⟨PySem.Challenge.pw_sidestold_k00_errors_and_limits, w, K, mg, base, fun _ _ _ => False⟩) c X G
  et := DH.SaysX.errT (M := ⟨PySem.Challenge.pw_sidestold_k00_errors_and_limits, w, K, mg, base, fun _ _ _ => False⟩) c X G
  b_abs := He.free_ok X G (c.toD.fact 0 (f := .free ("abs" : PySem.Str)) rfl)
  b_int := He.free_ok X G (c.toD.fact 1 (f := .free ("int" : PySem.Str)) rfl)
  b_isinstance := He.free_ok X G (c.toD.fact 2 (f := .free ("isinstance" : PySem.Str)) rfl)
  b_len := He.free_ok X G (c.toD.fact 3 (f := .free ("len" : PySem.Str)) rfl)
  b_range := He.free_ok X G (c.toD.fact 4 (f := .free ("range" : PySem.Str)) rfl)
  b_repr := He.free_ok X G (c.toD.fact 5 (f := .free ("repr" : PySem.Str)) rfl)
  d__law_caught := by
    obtain ⟨fd, F⟩ := c.toD.def_ 0 (d := D__law_caught) rfl
    exact ⟨_, fd, He.glo_ok X G (c.toD.fact 6 (f := .glo ("_law_caught" : PySem.Str)) rfl), F⟩
  d__law_draws := by
    obtain ⟨fd, F⟩ := c.toD.def_ 1 (d := D__law_draws) rfl
    exact ⟨_, fd, He.glo_ok X G (c.toD.fact 7 (f := .glo ("_law_draws" : PySem.Str)) rfl), F⟩
  d__law_fields := by
    obtain ⟨fd, F⟩ := c.toD.def_ 2 (d := D__law_fields) rfl
    exact ⟨_, fd, He.glo_ok X G (c.toD.fact 8 (f := .glo ("_law_fields" : PySem.Str)) rfl), F⟩
  d__law_kinds := by
    obtain ⟨fd, F⟩ := c.toD.def_ 3 (d := D__law_kinds) rfl
    exact ⟨_, fd, He.glo_ok X G (c.toD.fact 9 (f := .glo ("_law_kinds" : PySem.Str)) rfl), F⟩
  d__law_limits_right := by
    obtain ⟨fd, F⟩ := c.toD.def_ 4 (d := D__law_limits_right) rfl
    exact ⟨_, fd, He.glo_ok X G (c.toD.fact 10 (f := .glo ("_law_limits_right" : PySem.Str)) rfl), F⟩
  d__law_more := by
    obtain ⟨fd, F⟩ := c.toD.def_ 5 (d := D__law_more) rfl
    exact ⟨_, fd, He.glo_ok X G (c.toD.fact 11 (f := .glo ("_law_more" : PySem.Str)) rfl), F⟩
  d__law_one := by
    obtain ⟨fd, F⟩ := c.toD.def_ 6 (d := D__law_one) rfl
    exact ⟨_, fd, He.glo_ok X G (c.toD.fact 12 (f := .glo ("_law_one" : PySem.Str)) rfl), F⟩
  d__law_raise := by
    obtain ⟨fd, F⟩ := c.toD.def_ 7 (d := D__law_raise) rfl
    exact ⟨_, fd, He.glo_ok X G (c.toD.fact 13 (f := .glo ("_law_raise" : PySem.Str)) rfl), F⟩
  d__law_take := by
    obtain ⟨fd, F⟩ := c.toD.def_ 8 (d := D__law_take) rfl
    exact ⟨_, fd, He.glo_ok X G (c.toD.fact 14 (f := .glo ("_law_take" : PySem.Str)) rfl), F⟩
  e_ArgumentError := DH.SaysX.errC (M := ⟨PySem.Challenge.pw_sidestold_k00_errors_and_limits, w, K, mg, base, fun _ _ _ => False⟩) c X G 0 (n := I_ArgumentError) rfl (fun D ch => DX.spec1 ch txt_ReasonError rfl ⟨fun _ => ⟨_, rfl⟩, fun _ => rfl⟩ (by decide +kernel) (by decide +kernel)) (by decide +kernel)
  e_CheckError := DH.SaysX.errC (M := ⟨PySem.Challenge.pw_sidestold_k00_errors_and_limits, w, K, mg, base, fun _ _ _ => False⟩) c X G 1 (n := I_CheckError) rfl (fun D ch => DX.spec1 ch txt_ReasonError rfl ⟨fun _ => ⟨_, rfl⟩, fun _ => rfl⟩ (by decide +kernel) (by decide +kernel)) (by decide +kernel)
  e_CommandError := DH.SaysX.errC (M := ⟨PySem.Challenge.pw_sidestold_k00_errors_and_limits, w, K, mg, base, fun _ _ _ => False⟩) c X G 6 (n := I_CommandError) rfl (fun D ch => DX.spec1 ch txt_CommandError rfl ⟨fun _ => ⟨_, rfl⟩, fun _ => rfl⟩ (by decide +kernel) (by decide +kernel)) (by decide +kernel)
  e_LogError := DH.SaysX.errC (M := ⟨PySem.Challenge.pw_sidestold_k00_errors_and_limits, w, K, mg, base, fun _ _ _ => False⟩) c X G 5 (n := I_LogError) rfl (fun D ch => DX.spec2 ch txt_LogError rfl ⟨fun _ => ⟨_, rfl⟩, fun _ => rfl⟩ (by decide +kernel) (by decide +kernel) (by decide +kernel) (by decide +kernel) (by decide +kernel)) (by decide +kernel)
  e_PaperError := DH.SaysX.errC (M := ⟨PySem.Challenge.pw_sidestold_k00_errors_and_limits, w, K, mg, base, fun _ _ _ => False⟩) c X G 2 (n := I_PaperError) rfl (fun D ch => DX.spec1 ch txt_ReasonError rfl ⟨fun _ => ⟨_, rfl⟩, fun _ => rfl⟩ (by decide +kernel) (by decide +kernel)) (by decide +kernel)
  e_TextError := DH.SaysX.errC (M := ⟨PySem.Challenge.pw_sidestold_k00_errors_and_limits, w, K, mg, base, fun _ _ _ => False⟩) c X G 4 (n := I_TextError) rfl (fun D ch => DX.spec1 ch txt_TextError rfl ⟨fun _ => ⟨_, rfl⟩, fun _ => rfl⟩ (by decide +kernel) (by decide +kernel)) (by decide +kernel)
  e_TooMany := DH.SaysX.errC (M := ⟨PySem.Challenge.pw_sidestold_k00_errors_and_limits, w, K, mg, base, fun _ _ _ => False⟩) c X G 3 (n := I_TooMany) rfl (fun D ch => DX.spec1 ch txt_ReasonError rfl ⟨fun _ => ⟨_, rfl⟩, fun _ => rfl⟩ (by decide +kernel) (by decide +kernel)) (by decide +kernel)
  i_MAX_ASIDE := He.int_ok X G (c.toD.fact 16 (f := .int ("MAX_ASIDE" : PySem.Str) (8)) rfl)
  i_MAX_BITS := He.int_ok X G (c.toD.fact 17 (f := .int ("MAX_BITS" : PySem.Str) (4)) rfl)
  i_MAX_CORNERS := He.int_ok X G (c.toD.fact 18 (f := .int ("MAX_CORNERS" : PySem.Str) (12)) rfl)
  i_MAX_COUNTED := He.int_ok X G (c.toD.fact 19 (f := .int ("MAX_COUNTED" : PySem.Str) (8)) rfl)
  i_MAX_FAMILY := He.int_ok X G (c.toD.fact 20 (f := .int ("MAX_FAMILY" : PySem.Str) (64)) rfl)
  i_MAX_LAYERS := He.int_ok X G (c.toD.fact 21 (f := .int ("MAX_LAYERS" : PySem.Str) (3)) rfl)
  i_MAX_LEARNT := He.int_ok X G (c.toD.fact 22 (f := .int ("MAX_LEARNT" : PySem.Str) (400)) rfl)
  i_MAX_LINES := He.int_ok X G (c.toD.fact 23 (f := .int ("MAX_LINES" : PySem.Str) (200)) rfl)
  i_MAX_NUMBER := He.int_ok X G (c.toD.fact 24 (f := .int ("MAX_NUMBER" : PySem.Str) (1000000)) rfl)
  i_MAX_PIECES := He.int_ok X G (c.toD.fact 25 (f := .int ("MAX_PIECES" : PySem.Str) (8)) rfl)
  i_MAX_PLANES := He.int_ok X G (c.toD.fact 26 (f := .int ("MAX_PLANES" : PySem.Str) (6)) rfl)
  i_MAX_POINTS := He.int_ok X G (c.toD.fact 27 (f := .int ("MAX_POINTS" : PySem.Str) (12)) rfl)
  i_MAX_ROUNDS := He.int_ok X G (c.toD.fact 28 (f := .int ("MAX_ROUNDS" : PySem.Str) (60)) rfl)
  i_MAX_ROWS := He.int_ok X G (c.toD.fact 29 (f := .int ("MAX_ROWS" : PySem.Str) (16)) rfl)
  i_MAX_SHATTERED := He.int_ok X G (c.toD.fact 30 (f := .int ("MAX_SHATTERED" : PySem.Str) (6)) rfl)
  i_MAX_SITES := He.int_ok X G (c.toD.fact 31 (f := .int ("MAX_SITES" : PySem.Str) (8)) rfl)
  i_MAX_SIZE := He.int_ok X G (c.toD.fact 32 (f := .int ("MAX_SIZE" : PySem.Str) (4)) rfl)
  i_MAX_TEXT := He.int_ok X G (c.toD.fact 33 (f := .int ("MAX_TEXT" : PySem.Str) (6000)) rfl)
  i_MAX_THINGS := He.int_ok X G (c.toD.fact 34 (f := .int ("MAX_THINGS" : PySem.Str) (40)) rfl)
  i_MAX_UNITS := He.int_ok X G (c.toD.fact 35 (f := .int ("MAX_UNITS" : PySem.Str) (6)) rfl)
  i_MAX_WHOLE := He.int_ok X G (c.toD.fact 36 (f := .int ("MAX_WHOLE" : PySem.Str) (1000)) rfl)
end K00
end
section
set_option Elab.async false
set_option linter.all false
set_option maxRecDepth 100000
set_option maxHeartbeats 0
namespace K00
open PySem PySem.Spec PyProof.Rows L2 DL
abbrev R : PySem.W.OpenRow := PySem.W.OpenLaw.row PySem.Challenge.rw_sidestold_k00_errors_and_limits
def names : List PySem.Str := ([("SideError" : PySem.Str), ("ReasonError" : PySem.Str), ("ArgumentError" : PySem.Str), ("CheckError" : PySem.Str), ("PaperError" : PySem.Str), ("TooMany" : PySem.Str), ("TextError" : PySem.Str), ("LogError" : PySem.Str), ("CommandError" : PySem.Str), ("MAX_NUMBER" : PySem.Str), ("MAX_WHOLE" : PySem.Str), ("MAX_SIZE" : PySem.Str), ("MAX_POINTS" : PySem.Str), ("MAX_ROWS" : PySem.Str), ("MAX_TEXT" : PySem.Str), ("MAX_LINES" : PySem.Str), ("MAX_ASIDE" : PySem.Str), ("MAX_PLANES" : PySem.Str), ("MAX_BITS" : PySem.Str), ("MAX_ROUNDS" : PySem.Str), ("MAX_UNITS" : PySem.Str), ("MAX_LAYERS" : PySem.Str), ("MAX_COUNTED" : PySem.Str), ("MAX_SITES" : PySem.Str), ("MAX_CORNERS" : PySem.Str), ("MAX_LEARNT" : PySem.Str), ("MAX_PIECES" : PySem.Str), ("MAX_SHATTERED" : PySem.Str), ("MAX_FAMILY" : PySem.Str), ("MAX_THINGS" : PySem.Str), ("_law_draws" : PySem.Str), ("_law_more" : PySem.Str), ("_law_take" : PySem.Str), ("_law_one" : PySem.Str), ("_law_limits_right" : PySem.Str), ("_law_raise" : PySem.Str), ("_law_kinds" : PySem.Str), ("_law_caught" : PySem.Str), ("_law_fields" : PySem.Str)] : List PySem.Str)
abbrev hk : PySem.W.Hook := DH.hookX 6 hkd
def ob (s : PySem.W.SharedT) : DH.AlX := DH.obsXG 6 hkd (HandSHeadRun.getT s)
theorem ob_eq (s : PySem.W.SharedT) : ob s = hk.obs s.abs := DH.obsXG_eq (HandSHeadRun.getT_eq s)
theorem run (w : World) : HandSHeadRun.RunEq R (PySem.W.view R.prog [41]) hk ob 40000 names w := by
  intro os
  kernel_rfl
end K00
end
section
set_option Elab.async false
set_option linter.all false
set_option maxRecDepth 100000
set_option maxHeartbeats 1000000
namespace K00
open PySem PySem.Spec DL
def allInts (xs : List PyData) : Prop := ∀ d ∈ xs, ∃ i : Int, d = PyData.int i ∧ 0 ≤ i ∧ i < 2147483648
theorem allInts_app {xs : List PyData} {i : Int} (h : allInts xs) (h0 : 0 ≤ i) (h1 : i < 2147483648) : allInts (xs ++ [.int i]) := fun d hd => by
  rcases List.mem_append.mp hd with hd | hd
  · exact h d hd
  · rw [List.mem_singleton] at hd
    exact ⟨i, hd, h0, h1⟩
theorem fr_v {d : PyData} : (Slot.val d).free = true := rfl
theorem fr_m {d : List PyData} : (Slot.ml d).free = true := rfl
theorem fr_n : Slot.no.free = true := rfl
theorem mulOk_small {i j : Int} (hi : i.natAbs < 2 ^ 64) (hj : j.natAbs < 2 ^ 64) : mulOk i j = true := by
  have lg : ∀ n : Nat, n < 2 ^ 64 → n.log2 < 64 := fun n h => by
    by_cases h0 : n = 0
    · subst h0; decide
    · exact (Nat.log2_lt h0).mpr h
  have a := lg _ hi
  have b := lg _ hj
  unfold mulOk
  exact decide_eq_true (by omega)
theorem inner1 (S : PyData) (s2 s5 : Slot) : ∀ (ks : List Int) (xs : List PyData) (r : Int) (s4 : Slot), s4.free = true → allInts xs → xs.length + ks.length < 16777216 → ∃ xs' r' s4', s4'.free = true ∧ allInts xs' ∧ xs'.length ≤ xs.length + ks.length ∧
    forL (putS 4) (ifS (cmpT gtD (.pk 3) (.ev (conD (.int 0)))) (seqS (appS 1 (bin modD (.ev (call1 intD (.pk 3))) (.ev (conD (.int 1009))))) (asgS (bin fdivD (.pk 3) (.ev (conD (.int 1009)))) (putS 3))) nextS) (ks.map PyData.int) [.val S, .ml xs, s2, .val (.int r), s4, s5]
      = .ok .nx [.val S, .ml xs', s2, .val (.int r'), s4', s5]
  | [], xs, r, s4, hf, hx, _ => ⟨xs, r, s4, hf, hx, by simp, rfl⟩
  | k :: ks, xs, r, s4, hf, hx, hl => by
    simp only [List.length_cons] at hl
    by_cases hr : 0 < r
    · obtain ⟨xs', r', s4', h1, h2, h3, h4⟩ := inner1 S s2 s5 ks (xs ++ [.int (r.fmod 1009)]) (r.fdiv 1009) (.val (.int k)) rfl (allInts_app hx (Int.fmod_nonneg_of_pos _ (by decide)) (by have := Int.fmod_lt_of_pos r (show (0 : Int) < 1009 by decide); omega)) (by simp; omega)
      refine ⟨xs', r', s4', h1, h2, by simp at h3 ⊢; omega, ?_⟩
      rw [← h4]
      have hl2 : xs.length < 16777216 := by omega
      simp [forL, putS, hf, fr_v, ifS, cmpT, ev2, ev1, peek, gtD, cmpI, conD, hr, seqS, appS, lend, lendS, bin, call1, lift, intD, modD, fdivD, divOk, changeS, asgS, storeS, hl2, Out.bind]
    · obtain ⟨xs', r', s4', h1, h2, h3, h4⟩ := inner1 S s2 s5 ks xs r (.val (.int k)) rfl hx (by omega)
      refine ⟨xs', r', s4', h1, h2, by simp only [List.length_cons]; omega, ?_⟩
      rw [← h4]
      simp [forL, putS, hf, fr_v, ifS, cmpT, ev2, ev1, peek, gtD, cmpI, conD, hr, nextS, Out.bind]
theorem inner2 (S : PyData) (s2 s3 : Slot) : ∀ (ks : List Int) (xs : List PyData) (m : Int) (s4 : Slot), s4.free = true → allInts xs → xs.length + ks.length < 16777216 → (∀ k ∈ ks, 0 ≤ k ∧ k < 100) → 0 ≤ m → m < 2147483648 → ∃ xs' s4' s5', s4'.free = true ∧ s5'.free = true ∧ allInts xs' ∧ xs'.length ≤ xs.length + ks.length ∧
    forL (putS 4) (seqS (asgS (bin modD (.ev (call1 intD (.ev (bin addD (.ev (bin addD (.ev (bin mulD (.pk 5) (.ev (conD (.int 16807))))) (.ev (bin mulD (.ev (conD (.int 69621))) (.pk 4))))) (.ev (conD (.int 5))))))) (.ev (conD (.int 2147483629)))) (putS 5))
  (appS 1 (bin fdivD (.pk 5) (.ev (conD (.int 1009)))))) (ks.map PyData.int) [.val S, .ml xs, s2, s3, s4, .val (.int m)]
      = .ok .nx [.val S, .ml xs', s2, s3, s4', s5']
  | [], xs, m, s4, hf, hx, _, _, _, _ => ⟨xs, s4, _, hf, rfl, hx, by simp, rfl⟩
  | k :: ks, xs, m, s4, hf, hx, hl, hk, m0, m1 => by
    simp only [List.length_cons] at hl
    have hk0 := hk k (by simp)
    have n0 : 0 ≤ (m * 16807 + 69621 * k + 5).fmod 2147483629 := Int.fmod_nonneg_of_pos _ (by decide)
    have n1 : (m * 16807 + 69621 * k + 5).fmod 2147483629 < 2147483629 := Int.fmod_lt_of_pos _ (by decide)
    obtain ⟨xs', s4', s5', h1, h2, h3, h3b, h4⟩ := inner2 S s2 s3 ks (xs ++ [.int (((m * 16807 + 69621 * k + 5).fmod 2147483629).fdiv 1009)]) ((m * 16807 + 69621 * k + 5).fmod 2147483629) (.val (.int k)) rfl (allInts_app hx (by rw [Int.fdiv_eq_ediv_of_nonneg _ (by decide)]; omega) (by rw [Int.fdiv_eq_ediv_of_nonneg _ (by decide)]; omega)) (by simp; omega) (fun k h => hk k (by simp [h])) n0 (by omega)
    refine ⟨xs', s4', s5', h1, h2, h3, by simp at h3b ⊢; omega, ?_⟩
    rw [← h4]
    have hl2 : xs.length < 16777216 := by omega
    have q1 : mulOk m 16807 = true := mulOk_small (by omega) (by decide)
    have q2 : mulOk 69621 k = true := mulOk_small (by decide) (by omega)
    simp [forL, putS, hf, fr_v, ev2, ev1, peek, conD, seqS, appS, lend, lendS, bin, call1, lift, intD, modD, mulD, addD, q1, q2, fdivD, divOk, changeS, asgS, storeS, hl2, Out.bind]

theorem upTo_map (n : Nat) : DL.upTo 0 n = ((List.range n).map fun (i : Nat) => (0 + (i : Int))).map PyData.int := by
  unfold DL.upTo
  rw [List.map_map]
  rfl
abbrev B1 : Sl → Out Flw := (seqS (asgS (call1 absD (.pk 2)) (putS 3))
  (ifS (cmpT geD (.pk 3) (.ev (bin powD (.ev (conD (.int 10))) (.ev (conD (.int 18)))))) (forS (rng1 (consA (conD (.int 60)) nilA)) (putS 4) (ifS (cmpT gtD (.pk 3) (.ev (conD (.int 0)))) (seqS (appS 1 (bin modD (.ev (call1 intD (.pk 3))) (.ev (conD (.int 1009)))))
  (asgS (bin fdivD (.pk 3) (.ev (conD (.int 1009)))) (putS 3))) nextS)) (seqS (asgS (bin modD (.ev (call1 intD (.ev (bin addD (.ev (bin mulD (.pk 3) (.ev (conD (.int 48271))))) (.ev (conD (.int 11))))))) (.ev (conD (.int 2147483647)))) (putS 5))
  (forS (rng1 (consA (conD (.int 12)) nilA)) (putS 4) (seqS (asgS (bin modD (.ev (call1 intD (.ev (bin addD (.ev (bin addD (.ev (bin mulD (.pk 5) (.ev (conD (.int 16807))))) (.ev (bin mulD (.ev (conD (.int 69621))) (.pk 4))))) (.ev (conD (.int 5))))))) (.ev (conD (.int 2147483629)))) (putS 5))
  (appS 1 (bin fdivD (.pk 5) (.ev (conD (.int 1009))))))))))
theorem body1 (S : PyData) (n : Int) (s3 s4 s5 : Slot) (xs : List PyData) (f3 : s3.free = true) (f4 : s4.free = true) (f5 : s5.free = true) (hx : allInts xs) (hl : xs.length + 60 < 16777216) :
    ∃ xs' s3' s4' s5', s3'.free = true ∧ s4'.free = true ∧ s5'.free = true ∧ allInts xs' ∧ xs'.length ≤ xs.length + 60 ∧
      B1 [.val S, .ml xs, .val (.int n), s3, s4, s5] = .ok .nx [.val S, .ml xs', .val (.int n), s3', s4', s5'] := by
  obtain ⟨a, ha, ha0⟩ : ∃ a : Int, absD (.int n) = some (.int a) ∧ 0 ≤ a := ⟨(if n < 0 then -n else n), rfl, by split <;> omega⟩
  by_cases hr : (1000000000000000000 : Int) ≤ a
  · obtain ⟨xs', r', s4', h1, h2, h3, h4⟩ := inner1 S (.val (.int n)) s5 ((List.range 60).map fun (i : Nat) => (0 + (i : Int))) xs a s4 f4 hx (by simpa using hl)
    refine ⟨xs', .val (.int r'), s4', s5, fr_v, h1, f5, h2, by simpa using h3, ?_⟩
    rw [← h4, ← upTo_map]
    simp only [B1, seqS, asgS, call1, ev1, peek, List.getElem?_cons_succ, List.getElem?_cons_zero, ha, lift, Out.bind, storeS, putS, f3, if_true, List.set, ifS, cmpT, ev2, bin, conD, powD, geD, cmpI]
    simp [hr, forS, rng1, consA, nilA, conD, Out.bind]
  · have n0 : 0 ≤ (a * 48271 + 11).fmod 2147483647 := Int.fmod_nonneg_of_pos _ (by decide)
    have n1 : (a * 48271 + 11).fmod 2147483647 < 2147483647 := Int.fmod_lt_of_pos _ (by decide)
    obtain ⟨xs', s4', s5', h1, h2, h3, h3b, h4⟩ := inner2 S (.val (.int n)) (.val (.int a)) ((List.range 12).map fun (i : Nat) => (0 + (i : Int))) xs _ s4 f4 hx (by simp; omega) (by decide) n0 (by omega)
    refine ⟨xs', .val (.int a), s4', s5', fr_v, h1, h2, h3, by simp at h3b; omega, ?_⟩
    rw [← h4, ← upTo_map]
    have q1 : mulOk a 48271 = true := mulOk_small (by omega) (by decide)
    simp only [B1, seqS, asgS, call1, ev1, peek, List.getElem?_cons_succ, List.getElem?_cons_zero, ha, lift, Out.bind, storeS, putS, f3, if_true, List.set, ifS, cmpT, ev2, bin, conD, powD, geD, cmpI, mulD, q1, addD, intD, modD]
    simp [hr, q1, forS, rng1, consA, nilA, conD, Out.bind, f5]
theorem outer1 (S : PyData) : ∀ (ns : List Int) (xs : List PyData) (s2 s3 s4 s5 : Slot), s2.free = true → s3.free = true → s4.free = true → s5.free = true → allInts xs → xs.length + 60 * ns.length < 16777216 →
    ∃ xs' s2' s3' s4' s5', allInts xs' ∧ xs'.length ≤ xs.length + 60 * ns.length ∧ forL (putS 2) B1 (ns.map PyData.int) [.val S, .ml xs, s2, s3, s4, s5] = .ok .nx [.val S, .ml xs', s2', s3', s4', s5']
  | [], xs, s2, s3, s4, s5, _, _, _, _, hx, _ => ⟨xs, s2, s3, s4, s5, hx, by simp, rfl⟩
  | n :: ns, xs, s2, s3, s4, s5, f2, f3, f4, f5, hx, hl => by
    simp only [List.length_cons] at hl ⊢
    obtain ⟨xs1, t3, t4, t5, g3, g4, g5, hx1, hl1, e1⟩ := body1 S n s3 s4 s5 xs f3 f4 f5 hx (by omega)
    obtain ⟨xs', s2', s3', s4', s5', hx', hl', e2⟩ := outer1 S ns xs1 (.val (.int n)) t3 t4 t5 rfl g3 g4 g5 hx1 (by omega)
    refine ⟨xs', s2', s3', s4', s5', hx', by omega, ?_⟩
    rw [← e2]
    simp only [List.map_cons, forL, putS, List.getElem?_cons_succ, List.getElem?_cons_zero, f2, if_true, List.set, e1]
theorem defE_ret {m n : Nat} {f : Sl → Out Flw} {args outs : List Slot} {env : Sl} {d : PyData} (hl : args.length = n) (he : f (args ++ List.replicate (m - n) .no) = .ok (.ret d) env) (ho : outsOf args env = some outs) : defE m n f args = .ok d outs := by
  unfold defE
  rw [if_pos hl, he]
  simp only [ho]
theorem draws_ok (ns : List Int) (h : ns.length ≤ 63) : ∃ xs, allInts xs ∧ xs.length < 5000 ∧ g__law_draws [.val (.list (ns.map PyData.int))] = .ok (.list xs) [.no] := by
  obtain ⟨xs, s2, s3, s4, s5, hx, hl, e⟩ := outer1 (.list (ns.map PyData.int)) ns [] .no .no .no .no rfl rfl rfl rfl (fun _ h => by cases h) (by simp; omega)
  refine ⟨xs, hx, by simp at hl; omega, ?_⟩
  have hc : DL.cut (ns.map PyData.int) none (some 63) = ns.map PyData.int := cut_all _ _ _ ⟨by simp [HT.sIx], by simp [HT.sIx]; omega⟩
  have e2 : f__law_draws [.val (.list (ns.map PyData.int)), .no, .no, .no, .no, .no] = .ok (.ret (.list xs)) [.val (.list (ns.map PyData.int)), .val (.list xs), s2, s3, s4, s5] := by
    unfold f__law_draws
    simp only [seqS, setN, nilA, newS, Out.bind, List.getElem?_cons_succ, List.getElem?_cons_zero, fr_n, if_true, List.set]
    simp only [forS, seqI, sliceE, peek, noO, someO, conD, Out.bind, cutD, lift, List.getElem?_cons_succ, List.getElem?_cons_zero, hc]
    have e3 := e
    simp only [B1] at e3
    rw [e3]
    simp [retS, varD, Out.bind]
  exact defE_ret (f := f__law_draws) rfl e2 rfl
theorem at_ok {xs : List PyData} (h : allInts xs) {i : Int} (h0 : 0 ≤ i) (h1 : i < xs.length) : ∃ v : Int, ixD (.list xs) (.int i) = some (.int v) ∧ 0 ≤ v ∧ v < 2147483648 := by
  have hj : i.toNat < xs.length := by omega
  obtain ⟨v, e, b⟩ := h _ (List.getElem_mem hj)
  refine ⟨v, ?_, b⟩
  show L2.atI xs i = _
  unfold L2.atI L2.ixN
  rw [if_pos h0, if_pos h1]
  show xs[i.toNat]? = _
  rw [List.getElem?_eq_getElem hj, e]
theorem seq_nx {f g : Sl → Out Flw} {env env1 : Sl} (h : f env = .ok .nx env1) : seqS f g env = g env1 := by
  unfold seqS
  rw [h]
abbrev B2 : Sl → Out Flw := (seqS (ifS (truT (.pk 0)) (asgS (bin addD (.pk 2) (.ev (bin ixD (.pk 0) (.ev (bin modD (.ev (call1 intD (.ev (bin addD (.ev (bin mulD (.pk 1) (.ev (bin addD (.pk 3) (.ev (conD (.int 5))))))) (.pk 3))))) (.ev (call1 lenD (.pk 0)))))))) (putS 2)) nextS)
  (asgS (bin modD (.ev (call1 intD (.ev (bin addD (.ev (bin addD (.ev (bin mulD (.pk 2) (.ev (conD (.int 16807))))) (.ev (bin mulD (.ev (conD (.int 69621))) (.pk 3))))) (.ev (conD (.int 5))))))) (.ev (conD (.int 2147483629)))) (putS 2)))
theorem body2 (xs : List PyData) (hx : allInts xs) (p m k : Int) (p0 : 0 ≤ p) (p1 : p < 1000000) (m0 : 0 ≤ m) (m1 : m < 2147483648) (k0 : 0 ≤ k) (k1 : k < 100) :
    ∃ m' : Int, 0 ≤ m' ∧ m' < 2147483648 ∧ B2 [.val (.list xs), .val (.int p), .val (.int m), .val (.int k)] = .ok .nx [.val (.list xs), .val (.int p), .val (.int m'), .val (.int k)] := by
  have q2 : mulOk 69621 k = true := mulOk_small (by decide) (by omega)
  have q3 : mulOk p (k + 5) = true := mulOk_small (by omega) (by omega)
  cases he : xs with
  | nil =>
    have q1 : mulOk m 16807 = true := mulOk_small (by omega) (by decide)
    have n0 : 0 ≤ (m * 16807 + 69621 * k + 5).fmod 2147483629 := Int.fmod_nonneg_of_pos _ (by decide)
    have n1 : (m * 16807 + 69621 * k + 5).fmod 2147483629 < 2147483629 := Int.fmod_lt_of_pos _ (by decide)
    refine ⟨_, n0, by omega, ?_⟩
    simp [B2, seqS, ifS, truT, ev1, ev2, peek, truthD, liftB, nextS, asgS, bin, call1, conD, mulD, addD, intD, modD, lift, storeS, putS, fr_v, q1, q2, Out.bind]
  | cons x0 xr =>
    rw [← he]
    have hlen : 0 < (xs.length : Int) := by rw [he]; simp
    obtain ⟨v, ev, v0, v1⟩ := at_ok hx (i := (p * (k + 5) + k).fmod xs.length) (Int.fmod_nonneg_of_pos _ hlen) (Int.fmod_lt_of_pos _ hlen)
    have q1 : mulOk (m + v) 16807 = true := mulOk_small (by omega) (by decide)
    have n0 : 0 ≤ ((m + v) * 16807 + 69621 * k + 5).fmod 2147483629 := Int.fmod_nonneg_of_pos _ (by decide)
    have n1 : ((m + v) * 16807 + 69621 * k + 5).fmod 2147483629 < 2147483629 := Int.fmod_lt_of_pos _ (by decide)
    refine ⟨_, n0, by omega, ?_⟩
    have ht : truthD (.list xs) = some true := by rw [he]; rfl
    have hl : (xs.length : Int) ≠ 0 := by omega
    have hln : xs ≠ [] := by rw [he]; simp
    simp [B2, seqS, ifS, truT, ev1, ev2, peek, ht, liftB, nextS, asgS, bin, call1, conD, mulD, addD, intD, modD, lenD, lift, storeS, putS, fr_v, q1, q2, q3, hl, hln, ev, Out.bind]
theorem more_ok (xs : List PyData) (hx : allInts xs) (p : Int) (p0 : 0 ≤ p) (p1 : p < 1000000) (hl : xs.length < 5000) : ∃ v : Int, g__law_more [.val (.list xs), .val (.int p)] = .ok (.int v) [.no, .no] := by
  have q1 : mulOk p 48271 = true := mulOk_small (by omega) (by decide)
  have n0 : 0 ≤ (p * 48271 + xs.length + 11).fmod 2147483629 := Int.fmod_nonneg_of_pos _ (by decide)
  have n1 : (p * 48271 + xs.length + 11).fmod 2147483629 < 2147483629 := Int.fmod_lt_of_pos _ (by decide)
  obtain ⟨m1, a0, a1, e1⟩ := body2 xs hx p _ 0 p0 p1 n0 (by omega) (by decide) (by decide)
  obtain ⟨m2, b0, b1, e2⟩ := body2 xs hx p m1 1 p0 p1 a0 a1 (by decide) (by decide)
  obtain ⟨m3, c0, c1, e3⟩ := body2 xs hx p m2 2 p0 p1 b0 b1 (by decide) (by decide)
  simp only [B2] at e1 e2 e3
  have u3 : DL.upTo 0 3 = [.int 0, .int 1, .int 2] := rfl
  have e : f__law_more [.val (.list xs), .val (.int p), .no, .no] = .ok (.ret (.int (m3.fdiv 1009))) [.val (.list xs), .val (.int p), .val (.int m3), .val (.int 2)] := by
    unfold f__law_more
    rw [seq_nx (env1 := [.val (.list xs), .val (.int p), .val (.int ((p * 48271 + xs.length + 11).fmod 2147483629)), .no]) (by simp [asgS, bin, ev1, ev2, call1, peek, conD, mulD, addD, intD, modD, lenD, lift, storeS, putS, fr_v, fr_n, q1, Out.bind])]
    rw [seq_nx (env1 := [.val (.list xs), .val (.int p), .val (.int m3), .val (.int 2)])]
    · simp [retS, bin, ev2, ev1, peek, conD, fdivD, divOk, lift, Out.bind]
    · simp only [forS, rng1, consA, nilA, conD, Out.bind]
      rw [if_pos (by decide)]
      simp only [show ((3 : Int).toNat) = 3 from rfl, u3, forL, putS, List.getElem?_cons_succ, List.getElem?_cons_zero, fr_v, fr_n, if_true, List.set, e1, e2, e3]
  exact ⟨_, defE_ret (f := f__law_more) rfl e rfl⟩
theorem take_ok (xs : List PyData) (hx : allInts xs) (hl : xs.length < 5000) (p : Int) (p0 : 0 ≤ p) (p1 : p < 1000) (n : Int) (n0 : 0 < n) :
    ∃ v : Int, 0 ≤ v ∧ v < n ∧ g__law_take [.val (.list xs), .mb [.int p], .val (.int n)] = .ok (.int v) [.no, .mb [.int (p + 1)], .no] := by
  have key : ∃ w : Int, ifE (cmpT ltD (.pk 3) (.ev (call1 lenD (.pk 0)))) (bin ixD (.pk 0) (.pk 3)) (callE g__law_more [.v (varD 0), .v (varD 3)]) [.val (.list xs), .mb [.int (p + 1)], .val (.int n), .val (.int p)] = .ok (.int w) [.val (.list xs), .mb [.int (p + 1)], .val (.int n), .val (.int p)] := by
    by_cases hp : p < xs.length
    · obtain ⟨v, e, _⟩ := at_ok hx p0 hp
      refine ⟨v, ?_⟩
      simp [ifE, cmpT, ev2, ev1, peek, call1, lenD, lift, cmpI, hp, bin, e, Out.bind]
    · obtain ⟨v, e⟩ := more_ok xs hx p p0 (by omega) hl
      refine ⟨v, ?_⟩
      simp [ifE, cmpT, ev2, ev1, peek, call1, lenD, lift, cmpI, hp, bin, callE, evA, varD, fillA, e, backA, Out.bind]
  obtain ⟨w, ew⟩ := key
  refine ⟨w.fmod n, Int.fmod_nonneg_of_pos _ n0, Int.fmod_lt_of_pos _ n0, ?_⟩
  have e : f__law_take [.val (.list xs), .mb [.int p], .val (.int n), .no] = .ok (.ret (.int (w.fmod n))) [.val (.list xs), .mb [.int (p + 1)], .val (.int n), .val (.int p)] := by
    unfold f__law_take
    rw [seq_nx (env1 := [.val (.list xs), .mb [.int p], .val (.int n), .val (.int p)]) (by simp [asgS, bin, ev1, ev2, peek, conD, ixD, L2.atI, L2.ixN, lift, storeS, putS, fr_v, fr_n, Out.bind])]
    rw [seq_nx (env1 := [.val (.list xs), .mb [.int (p + 1)], .val (.int n), .val (.int p)]) (by simp [subS, bin, ev1, ev2, peek, conD, addD, lift, lend, lendS, L2.ixN, changeS, Out.bind])]
    have hn : n ≠ 0 := by omega
    generalize ifE (cmpT ltD (.pk 3) (.ev (call1 lenD (.pk 0)))) (bin ixD (.pk 0) (.pk 3)) (callE g__law_more [.v (varD 0), .v (varD 3)]) = F at ew ⊢
    simp [retS, bin, ev2, ev1, call1, ew, intD, modD, lift, peek, hn, Out.bind]
  exact defE_ret (f := f__law_take) rfl e rfl
theorem one_ok (xs : List PyData) (hx : allInts xs) (hl : xs.length < 5000) (p : Int) (p0 : 0 ≤ p) (p1 : p < 1000) (rows : List PyData) (hr : rows ≠ []) :
    ∃ v, v ∈ rows ∧ g__law_one [.val (.list rows), .val (.list xs), .mb [.int p]] = .ok v [.no, .no, .mb [.int (p + 1)]] := by
  have hlen : 0 < rows.length := List.length_pos_iff.mpr hr
  obtain ⟨v, v0, v1, ev⟩ := take_ok xs hx hl p p0 p1 rows.length (by omega)
  have hj : v.toNat < rows.length := by omega
  have ha : ixD (.list rows) (.int v) = some (rows[v.toNat]) := by
    show L2.atI rows v = _
    unfold L2.atI L2.ixN
    rw [if_pos v0, if_pos v1]
    exact List.getElem?_eq_getElem hj
  refine ⟨rows[v.toNat], List.getElem_mem hj, ?_⟩
  have e : f__law_one [.val (.list rows), .val (.list xs), .mb [.int p]] = .ok (.ret rows[v.toNat]) [.val (.list rows), .val (.list xs), .mb [.int (p + 1)]] := by
    unfold f__law_one
    simp [retS, bin, ev2, ev1, peek, callE, evA, varD, call1, lenD, lift, lend, lendS, fillA, ev, backA, back1, ha, Out.bind]
  exact defE_ret (f := f__law_one) rfl e rfl
def okL : Bool := match g__law_limits_right [] with
  | .ok (.bool true) [] => true
  | _ => false
theorem okL_t : okL = true := by decide +kernel
theorem limits_ok : g__law_limits_right [] = .ok (.bool true) [] := by
  have h := okL_t
  unfold okL at h
  split at h
  · assumption
  · cases h
def vals : List PyData := [.str ("word" : PySem.Str), .str ("" : PySem.Str), .str ("form" : PySem.Str), .int 0, .int 17, .int (-3), .none, .tuple [.str ("a" : PySem.Str), .int 5], .str ("a line" : PySem.Str), .bool true]
def bl (k : Int) : List PyData := [.bool (decide (0 = k)), .bool (decide (1 = k)), .bool (decide (2 = k)), .bool (decide (3 = k)), .bool (decide (4 = k)), .bool (decide (5 = k)), .bool (decide (6 = k))]
def okC (k : Int) (a b : PyData) : Bool := match g__law_caught [.val (.int k), .val a, .val b] with
  | .ok c [.no, .no, .no] => (match neD c (.list (bl k)) with
    | some (.bool false) => true
    | _ => false)
  | _ => false
def tp (k : Int) (a b : PyData) : PyData := if k = 5 then .tuple [a, b] else .tuple [a]
def okF (k : Int) (a b : PyData) : Bool := match g__law_fields [.val (.int k), .val a, .val b] with
  | .ok d [.no, .no, .no] => (match reprD d, reprD (tp k a b) with
    | some x, some y => (match neD x y with
      | some (.bool false) => true
      | _ => false)
    | _, _ => false)
  | _ => false
theorem chk : ([0, 1, 2, 3, 4, 5, 6].all fun k => vals.all fun a => vals.all fun b => okC k a b && okF k a b) = true := by decide +kernel
theorem chk2 {k : Int} {a b : PyData} (hk : k ∈ [0, 1, 2, 3, 4, 5, 6]) (ha : a ∈ vals) (hb : b ∈ vals) : okC k a b = true ∧ okF k a b = true := by
  have h := chk
  rw [List.all_eq_true] at h
  have h := h k hk
  rw [List.all_eq_true] at h
  have h := h a ha
  rw [List.all_eq_true] at h
  have h := h b hb
  rw [Bool.and_eq_true] at h
  exact h
theorem okC_of {k : Int} {a b : PyData} (h : okC k a b = true) : ∃ c, g__law_caught [.val (.int k), .val a, .val b] = .ok c [.no, .no, .no] ∧ neD c (.list (bl k)) = some (.bool false) := by
  unfold okC at h
  split at h
  · rename_i c e
    refine ⟨c, e, ?_⟩
    split at h
    · assumption
    · cases h
  · cases h
theorem okF_of {k : Int} {a b : PyData} (h : okF k a b = true) : ∃ d x y, g__law_fields [.val (.int k), .val a, .val b] = .ok d [.no, .no, .no] ∧ reprD d = some x ∧ reprD (tp k a b) = some y ∧ neD x y = some (.bool false) := by
  unfold okF at h
  split at h
  · rename_i d e
    split at h
    · rename_i x y e1 e2
      refine ⟨d, x, y, e, e1, e2, ?_⟩
      split at h
      · assumption
      · cases h
    · cases h
  · cases h
end K00
end
section
set_option Elab.async false
set_option linter.all false
set_option maxRecDepth 100000
set_option maxHeartbeats 1000000
namespace K00
open PySem PySem.Spec DL
abbrev B3 : Sl → Out Flw := (seqS (parS 5 6 (.v (callE g__law_one [.v (varD 3), .v (varD 1), .m 2])) (.v (callE g__law_one [.v (varD 3), .v (varD 1), .m 2])))
  (seqS (ifS (cmpT neD (.ev (callE g__law_caught [.v (varD 4), .v (varD 5), .v (varD 6)])) (.ev (lstE (compE (rng1 (consA (conD (.int 7)) nilA)) (putS 7) yesT (bin eqD (.pk 7) (.pk 4)) [7])))) (retS (conD (.bool false))) nextS)
  (ifS (cmpT neD (.ev (call1 reprD (.ev (callE g__law_fields [.v (varD 4), .v (varD 5), .v (varD 6)])))) (.ev (call1 reprD (.ev (ifE (cmpT eqD (.pk 4) (.ev (conD (.int 5)))) (tupE (consA (varD 5) (consA (varD 6) nilA))) (tupE (consA (varD 5) nilA))))))) (retS (conD (.bool false))) nextS)))
theorem comp_ok (S : PyData) (xs : List PyData) (l : List PyData) (v k a b : PyData) (ki : Int) (hk : k = .int ki) :
    lstE (compE (rng1 (consA (conD (.int 7)) nilA)) (putS 7) yesT (bin eqD (.pk 7) (.pk 4)) [7]) [.val S, .val (.list xs), .ml l, .val v, .val k, .val a, .val b, .no] = .ok (.list (bl ki)) [.val S, .val (.list xs), .ml l, .val v, .val k, .val a, .val b, .no] := by
  subst hk
  have u7 : DL.upTo 0 7 = [.int 0, .int 1, .int 2, .int 3, .int 4, .int 5, .int 6] := rfl
  simp only [lstE, compE, rng1, consA, nilA, conD, Out.bind]
  rw [if_pos (by decide)]
  simp only [show ((7 : Int).toNat) = 7 from rfl, u7]
  have e : ∀ i : Int, eqD (.int i) (.int ki) = some (.bool (decide (i = ki))) := fun i => rfl
  simp [noMut, Slot.mut, wipeS, restS, compL, putS, yesT, Out.bindN, Out.bind, bin, ev2, ev1, peek, lift, fr_n, fr_v, e, bl]
theorem body3 (S : PyData) (xs : List PyData) (hx : allInts xs) (hl : xs.length < 5000) (p : Int) (p0 : 0 ≤ p) (p1 : p < 900) (k : Int) (hk : k ∈ [0, 1, 2, 3, 4, 5, 6]) (s5 s6 : Slot) (f5 : s5.free = true) (f6 : s6.free = true) :
    ∃ a b : PyData, B3 [.val S, .val (.list xs), .ml [.int p], .val (.list vals), .val (.int k), s5, s6, .no] = .ok .nx [.val S, .val (.list xs), .ml [.int (p + 1 + 1)], .val (.list vals), .val (.int k), .val a, .val b, .no] := by
  obtain ⟨a, ha, ea⟩ := one_ok xs hx hl p p0 (by omega) vals (by simp [vals])
  obtain ⟨b, hb, eb⟩ := one_ok xs hx hl (p + 1) (by omega) (by omega) vals (by simp [vals])
  obtain ⟨c1, c2⟩ := chk2 hk ha hb
  obtain ⟨c, ec, hc⟩ := okC_of c1
  obtain ⟨d, x, y, ed, ex, ey, hxy⟩ := okF_of c2
  refine ⟨a, b, ?_⟩
  unfold B3
  rw [seq_nx (env1 := [.val S, .val (.list xs), .ml [.int (p + 1 + 1)], .val (.list vals), .val (.int k), .val a, .val b, .no]) (by
    simp [parS, PEx.run, callE, evA, varD, lend, lendS, fillA, ea, eb, backA, back1, putG, putS, f5, f6, Out.bind])]
  rw [seq_nx (env1 := [.val S, .val (.list xs), .ml [.int (p + 1 + 1)], .val (.list vals), .val (.int k), .val a, .val b, .no])]
  · have ht : ifE (cmpT eqD (.pk 4) (.ev (conD (.int 5)))) (tupE (consA (varD 5) (consA (varD 6) nilA))) (tupE (consA (varD 5) nilA)) [.val S, .val (.list xs), .ml [.int (p + 1 + 1)], .val (.list vals), .val (.int k), .val a, .val b, .no]
        = .ok (tp k a b) [.val S, .val (.list xs), .ml [.int (p + 1 + 1)], .val (.list vals), .val (.int k), .val a, .val b, .no] := by
      have e : eqD (.int k) (.int 5) = some (.bool (decide (k = 5))) := rfl
      by_cases h5 : k = 5
      · simp [ifE, cmpT, ev2, ev1, peek, conD, e, h5, tupE, consA, nilA, varD, tp, Out.bind]
        subst h5
        simp [eqD, eqB]
      · simp [ifE, cmpT, ev2, ev1, peek, conD, e, h5, tupE, consA, nilA, varD, tp, Out.bind]
    generalize ifE (cmpT eqD (.pk 4) (.ev (conD (.int 5)))) (tupE (consA (varD 5) (consA (varD 6) nilA))) (tupE (consA (varD 5) nilA)) = F at ht ⊢
    simp [ifS, cmpT, ev2, ev1, call1, callE, evA, varD, fillA, ed, backA, ex, lift, ht, ey, hxy, nextS, Out.bind]
  · have hcomp := comp_ok S xs [.int (p + 1 + 1)] (.list vals) (.int k) a b k rfl
    generalize lstE (compE (rng1 (consA (conD (.int 7)) nilA)) (putS 7) yesT (bin eqD (.pk 7) (.pk 4)) [7]) = F at hcomp ⊢
    simp [ifS, cmpT, ev2, ev1, callE, evA, varD, fillA, ec, backA, hcomp, hc, nextS, Out.bind]
theorem loop3 (S : PyData) (xs : List PyData) (hx : allInts xs) (hl : xs.length < 5000) : ∀ (ks : List Int) (p : Int) (s4 s5 s6 : Slot), 0 ≤ p → p + 2 * ks.length < 900 → (∀ k ∈ ks, k ∈ ([0, 1, 2, 3, 4, 5, 6] : List Int)) → s4.free = true → s5.free = true → s6.free = true →
    ∃ env, forL (putS 4) B3 (ks.map PyData.int) [.val S, .val (.list xs), .ml [.int p], .val (.list vals), s4, s5, s6, .no] = .ok .nx (.val S :: env) ∧ ∃ x1 x2 x3 x4 x5 x6 x7, env = [x1, x2, x3, x4, x5, x6, x7]
  | [], p, s4, s5, s6, _, _, _, _, _, _ => ⟨_, rfl, _, _, _, _, _, _, _, rfl⟩
  | k :: ks, p, s4, s5, s6, p0, hp, hk, f4, f5, f6 => by
    simp only [List.length_cons] at hp
    obtain ⟨a, b, e⟩ := body3 S xs hx hl p p0 (by omega) k (hk k (by simp)) s5 s6 f5 f6
    obtain ⟨env, e2, h2⟩ := loop3 S xs hx hl ks (p + 1 + 1) (.val (.int k)) (.val a) (.val b) (by omega) (by omega) (fun k h => hk k (by simp [h])) rfl rfl rfl
    refine ⟨env, ?_, h2⟩
    rw [← e2]
    simp only [List.map_cons, forL, putS, List.getElem?_cons_succ, List.getElem?_cons_zero, f4, if_true, List.set, e]
theorem law_true (ns : List Int) (h : ns.length ≤ 63) : lawTrue g_law ns := by
  obtain ⟨xs, hx, hl, ed⟩ := draws_ok ns h
  obtain ⟨env, el, x1, x2, x3, x4, x5, x6, x7, he⟩ := loop3 (.list (ns.map PyData.int)) xs hx hl [0, 1, 2, 3, 4, 5, 6] 0 .no .no .no (by decide) (by decide) (fun k h => h) rfl rfl rfl
  subst he
  refine ⟨[.no], ?_⟩
  have u7 : DL.upTo 0 7 = List.map PyData.int [0, 1, 2, 3, 4, 5, 6] := rfl
  have e : f_law [.val (.list (ns.map PyData.int)), .no, .no, .no, .no, .no, .no, .no] = .ok (.ret (.bool true)) [.val (.list (ns.map PyData.int)), x1, x2, x3, x4, x5, x6, x7] := by
    unfold f_law
    rw [seq_nx (env1 := [.val (.list (ns.map PyData.int)), .val (.list xs), .no, .no, .no, .no, .no, .no]) (by simp [asgS, callE, evA, varD, fillA, ed, backA, storeS, putS, fr_n, Out.bind])]
    rw [seq_nx (env1 := [.val (.list (ns.map PyData.int)), .val (.list xs), .ml [.int 0], .no, .no, .no, .no, .no]) (by simp [setN, newS, consA, nilA, conD, fr_n, Out.bind])]
    rw [seq_nx (env1 := [.val (.list (ns.map PyData.int)), .val (.list xs), .ml [.int 0], .no, .no, .no, .no, .no]) (by simp [ifS, notT, truT, ev1, callE, evA, fillA, limits_ok, backA, truthD, liftB, nextS, Out.bind])]
    rw [seq_nx (env1 := [.val (.list (ns.map PyData.int)), .val (.list xs), .ml [.int 0], .val (.list vals), .no, .no, .no, .no]) (by simp [asgS, lstE, consA, nilA, conD, unE, negD, tupE, lift, storeS, putS, fr_n, vals, Out.bind])]
    rw [seq_nx (env1 := [.val (.list (ns.map PyData.int)), x1, x2, x3, x4, x5, x6, x7])]
    · simp [retS, conD, Out.bind]
    · simp only [forS, rng1, consA, nilA, conD, Out.bind]
      rw [if_pos (by decide)]
      simp only [show ((7 : Int).toNat) = 7 from rfl, u7]
      exact el
  exact defE_ret (f := f_law) rfl e rfl
end K00
end
section
set_option Elab.async false
set_option linter.all false
set_option maxRecDepth 100000
set_option maxHeartbeats 0
namespace K00
open PySem PySem.Spec PyProof.Rows L2 DL
theorem facts {w : World} {K : PySem.W.Frag} {h : Heap} {mg : PySem.Str → Option Value} {f : Addr} (X : K.In h) (G : h.Ns mainGlobals mg) (hfa : mg ("law" : PySem.Str) = some (.ref f)) (c : DH.SaysX hkd K) :
    ∃ fd : FuncData, (∀ (s : Shared) (v : Value), BindsTo s fd ⟨[v], []⟩ [("script", v)]) ∧ ∀ base : Heap, K.In base → base.Ns mainGlobals mg → FnG ⟨PySem.Challenge.pw_sidestold_k00_errors_and_limits, w, K, mg, base, fun _ _ _ => False⟩ 4 f fd ["script"] (spD K mg 1 g_law) := by
  obtain ⟨fd, F⟩ := c.toD.def_ 9 (d := D_law) rfl
  have e := hfa.symm.trans (He.glo_ok X G (c.toD.fact 15 (f := .glo "law") rfl))
  cases e
  have b := FunD.bindsA (ps := ["script"]) F fun _ _ _ _ _ _ us hl => match us, hl with | [_], _ => rfl
  exact ⟨fd, fun s v => b s [v] rfl, fun base _ _ => n_law (mo X G c) F⟩
end K00
open PySem PySem.W PySem.Calls PyProof.Rows
theorem PySem.Challenge.cw_sidestold_k00_errors_and_limits_holds : PySem.Challenge.rw_sidestold_k00_errors_and_limits.Holds := by
  w_on; o_law
  refine HandSHeadRun.head_any (r := OpenLaw.row PySem.Challenge.rw_sidestold_k00_errors_and_limits) (q := view (OpenLaw.row PySem.Challenge.rw_sidestold_k00_errors_and_limits).prog [41]) (H := K00.hk) (ob := K00.ob) (M := 40000) (loose := K00.names) (d := HandSHeadRun.topDef (OpenLaw.row PySem.Challenge.rw_sidestold_k00_errors_and_limits).prog 41) (kwd := []) K00.ob_eq
    (by kernel_rfl) (fun s => by kernel_rfl) K00.run (by kernel_rfl) (by kernel_rfl) (by kernel_rfl) (by rfl) (by first | assumption | decide +kernel) (by decide +kernel) ⟨rfl, rfl, rfl, rfl, rfl, by decide +kernel⟩ ?hw ?hc
  case hw => w_witness2
  case hc =>
    refine DL.walk_ofG (l := PySem.Challenge.rw_sidestold_k00_errors_and_limits) (n := 63) (k := 4) (x := "script") rfl (by decide) (by kernel_rfl) ⟨rfl, by decide, by decide⟩ ?F
    intro w mg fa h Y G hmg0
    obtain ⟨K, KX, c⟩ := Y
    have hmg : mg ("law" : PySem.Str) = some (.ref fa) := by
      have e : (HandSHeadRun.topDef (OpenLaw.row PySem.Challenge.rw_sidestold_k00_errors_and_limits).prog 41).name = ("law" : PySem.Str) := by kernel_rfl
      rw [← e]
      exact hmg0
    obtain ⟨fd, hb, hF⟩ := K00.facts (w := w) KX G hmg c
    exact ⟨K, fd, K00.g_law, KX, hb, fun ns hl => K00.law_true ns hl, hF⟩
end
