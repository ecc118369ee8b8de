import PyProof.Rows.All
import Wide.All
import OpenK.AllK
import Wide.FinOn
import HandS.ForMost
import HandS.ForExc
import HandS.IsInst
import HandS.Wide
import HandS.TupAny
import PyProof.P3In
import PySem.Challenge.RW_laterform_k01_formulas_recognized
set_option Elab.async false
set_option linter.all false
set_option maxRecDepth 100000
set_option maxHeartbeats 1000000
namespace VL
open PySem PySem.Spec L2
/-! ### pure values, environments, results -/
/-- a text that fits -/
def okS (x : Str) : Bool := PyData.strOk x && decide (x.length ≤ sizeLine)
inductive PV where
  | non | bl (b : Bool) | int (i : Int) | str (x : Str) | ty (n : String) | tup (xs : List PV) | lst (xs : List PV)
  | dct (ks vs : List PV) | obj (c : Str) (ns : List Str) (vs : List PV)
/-- content of an owned object -/
inductive OV where
  | lst (ps : List PV)
  | dK (ks : List Key) (vs : List PV)
inductive Slot where
  | emp
  | val (p : PV)
  | own (o : OV)
abbrev En := List Slot
/-- an exception: its class, its own field -/
structure Ex where
  c : Str
  f : Option (Str × PV)
inductive R (α : Type) where
  | ok (a : α)
  | exc (e : Ex) (ρ : En)
  | stuck
def R.bind {α β : Type} : R α → (α → R β) → R β
  | .ok a, k => k a
  | .exc e ρ, _ => .exc e ρ
  | .stuck, _ => .stuck
@[simp] theorem R.bind_ok {α β : Type} (a : α) (k : α → R β) : R.bind (.ok a) k = k a := rfl
@[simp] theorem R.bind_exc {α β : Type} (e : Ex) (ρ : En) (k : α → R β) : R.bind (.exc e ρ) k = .exc e ρ := rfl
@[simp] theorem R.bind_stuck {α β : Type} (k : α → R β) : R.bind .stuck k = .stuck := rfl
theorem R.bind_assoc {α β γ : Type} (m : R α) (k : α → R β) (l : β → R γ) : (m.bind k).bind l = m.bind fun a => (k a).bind l := by
  cases m <;> rfl
/-- of a value that is there -/
def R.of {α : Type} : Option α → R α
  | some a => .ok a
  | none => .stuck
@[simp] theorem R.of_some {α : Type} (a : α) : R.of (some a) = .ok a := rfl
@[simp] theorem R.of_none {α : Type} : R.of (none : Option α) = .stuck := rfl
/-! ### how values lie in the abstract heap -/
def FzL (H : Hp) (a : Addr) (xs : List V) : Prop := ∃ o, H a = some (.frz o (.lst xs))
theorem FzL.sq {K : PySem.W.Frag} {H : Hp} {a : Addr} {xs : List V} (h : FzL H a xs) : SqL K H a xs := .inl (.inr h)
mutual
def Rep (K : PySem.W.Frag) (H : Hp) : PV → V → Prop
  | .non, v => v = .non
  | .bl b, v => v = .bl b
  | .int i, v => v = .int i
  | .str x, v => v = .str x ∧ okS x = true
  | .ty n, v => v = .ty n
  | .tup ps, v => ∃ a xs, v = .ref a ∧ SqT K H a xs ∧ RepL K H ps xs
  | .lst ps, v => ∃ a xs, v = .ref a ∧ FzL H a xs ∧ RepL K H ps xs
  | .dct _ _, _ => False
  | .obj _ _ _, _ => False
def RepL (K : PySem.W.Frag) (H : Hp) : List PV → List V → Prop
  | [], xs => xs = []
  | p :: ps, xs => ∃ x r, xs = x :: r ∧ Rep K H p x ∧ RepL K H ps r
end
def Stable : HO → Prop
  | .tup _ => True
  | .frz _ _ => True
  | _ => False
/-- what can't change has not changed -/
def Ext (H H' : Hp) : Prop := ∀ a o, H a = some o → Stable o → H' a = some o
theorem Ext.refl (H : Hp) : Ext H H := fun _ _ h _ => h
theorem Ext.trans {H H1 H2 : Hp} (e : Ext H H1) (f : Ext H1 H2) : Ext H H2 := fun a o h s => f a o (e a o h s) s
theorem Ext.of_same {H H' : Hp} (e : Same H H') : Ext H H' := fun a o h _ => e a o h
section
variable {K : PySem.W.Frag} {H H' : Hp}
theorem Rd.ext {a : Addr} {u : HO} (e : Ext H H') (s : Stable u) (h : Rd H a u) : Rd H' a u := by
  rcases h with h | ⟨o, h⟩
  · exact .inl (e a _ h s)
  · exact .inr ⟨o, e a _ h trivial⟩
theorem sqT_ext {a : Addr} {xs : List V} (e : Ext H H') (h : SqT K H a xs) : SqT K H' a xs := by
  rcases h with h | h
  · exact .inl (Rd.ext e trivial h)
  · exact .inr h
mutual
theorem Rep.mono (e : Ext H H') : ∀ (p : PV) (v : V), Rep K H p v → Rep K H' p v
  | .non, _, h => h
  | .bl _, _, h => h
  | .int _, _, h => h
  | .str _, _, h => h
  | .ty _, _, h => h
  | .tup ps, _, h => by
    simp only [Rep] at h ⊢
    obtain ⟨a, xs, rfl, h1, h2⟩ := h
    exact ⟨a, xs, rfl, sqT_ext e h1, RepL.mono e ps xs h2⟩
  | .lst ps, _, h => by
    simp only [Rep] at h ⊢
    obtain ⟨a, xs, rfl, ⟨o, h1⟩, h2⟩ := h
    exact ⟨a, xs, rfl, ⟨o, e a _ h1 trivial⟩, RepL.mono e ps xs h2⟩
  | .dct _ _, _, h => by simp only [Rep] at h
  | .obj _ _ _, _, h => by simp only [Rep] at h
theorem RepL.mono (e : Ext H H') : ∀ (ps : List PV) (xs : List V), RepL K H ps xs → RepL K H' ps xs
  | [], _, h => by simpa only [RepL] using h
  | p :: ps, _, h => by
    simp only [RepL] at h ⊢
    obtain ⟨x, r, rfl, h1, h2⟩ := h
    exact ⟨x, r, rfl, Rep.mono e p x h1, RepL.mono e ps r h2⟩
end
theorem repL_nil : RepL K H [] [] := by simp only [RepL]
theorem repL_cons {p : PV} {ps : List PV} {x : V} {xs : List V} (h : Rep K H p x) (t : RepL K H ps xs) : RepL K H (p :: ps) (x :: xs) := by
  simp only [RepL]
  exact ⟨x, xs, rfl, h, t⟩
theorem repL_cons_inv {p : PV} {ps : List PV} {xs : List V} (h : RepL K H (p :: ps) xs) : ∃ x r, xs = x :: r ∧ Rep K H p x ∧ RepL K H ps r := by
  simpa only [RepL] using h
theorem repL_nil_inv {xs : List V} (h : RepL K H [] xs) : xs = [] := by simpa only [RepL] using h
theorem repL_iff : ∀ {ps : List PV} {xs : List V}, RepL K H ps xs ↔ ps.length = xs.length ∧ ∀ (i : Nat) (p : PV) (x : V), ps[i]? = some p → xs[i]? = some x → Rep K H p x
  | [], xs => by
    constructor
    · intro h
      rw [repL_nil_inv h]
      exact ⟨rfl, fun i p x h => by simp at h⟩
    · rintro ⟨h, -⟩
      have : xs = [] := List.eq_nil_of_length_eq_zero h.symm
      rw [this]
      exact repL_nil
  | p :: ps, xs => by
    constructor
    · intro h
      obtain ⟨x, r, rfl, h1, h2⟩ := repL_cons_inv h
      obtain ⟨l, g⟩ := repL_iff.mp h2
      refine ⟨by simp [l], fun i q y e1 e2 => ?_⟩
      cases i with
      | zero => simp at e1 e2; subst e1 e2; exact h1
      | succ i => exact g i q y (by simpa using e1) (by simpa using e2)
    · rintro ⟨l, g⟩
      cases xs with
      | nil => simp at l
      | cons x r => exact repL_cons (g 0 p x rfl rfl) (repL_iff.mpr ⟨by simpa using l, fun i q y e1 e2 => g (i + 1) q y (by simpa using e1) (by simpa using e2)⟩)
theorem RepL.length {ps : List PV} {xs : List V} (h : RepL K H ps xs) : ps.length = xs.length := (repL_iff.mp h).1
theorem RepL.get {ps : List PV} {xs : List V} {i : Nat} {p : PV} (h : RepL K H ps xs) (e : ps[i]? = some p) : ∃ x, xs[i]? = some x ∧ Rep K H p x := by
  obtain ⟨l, g⟩ := repL_iff.mp h
  have hi : i < ps.length := (List.getElem?_eq_some_iff.mp e).1
  exact ⟨xs[i]'(l ▸ hi), by rw [List.getElem?_eq_getElem], g i p _ e (by rw [List.getElem?_eq_getElem])⟩
theorem RepL.append {ps qs : List PV} {xs ys : List V} (h : RepL K H ps xs) (t : RepL K H qs ys) : RepL K H (ps ++ qs) (xs ++ ys) := by
  induction ps generalizing xs with
  | nil => rw [repL_nil_inv h]; exact t
  | cons p ps ih =>
    obtain ⟨x, r, rfl, h1, h2⟩ := repL_cons_inv h
    exact repL_cons h1 (ih h2)
theorem RepL.take {ps : List PV} {xs : List V} (n : Nat) (h : RepL K H ps xs) : RepL K H (ps.take n) (xs.take n) := by
  obtain ⟨l, g⟩ := repL_iff.mp h
  refine repL_iff.mpr ⟨by simp [l], fun i p x e1 e2 => ?_⟩
  rw [List.getElem?_take] at e1 e2
  split at e1
  · rename_i hi
    rw [if_pos hi] at e2
    exact g i p x e1 e2
  · cases e1
theorem RepL.drop {ps : List PV} {xs : List V} (n : Nat) (h : RepL K H ps xs) : RepL K H (ps.drop n) (xs.drop n) := by
  obtain ⟨l, g⟩ := repL_iff.mp h
  refine repL_iff.mpr ⟨by simp [l], fun i p x e1 e2 => ?_⟩
  rw [List.getElem?_drop] at e1 e2
  exact g _ p x e1 e2
theorem RepL.set {ps : List PV} {xs : List V} {p : PV} {x : V} (n : Nat) (h : RepL K H ps xs) (hp : Rep K H p x) : RepL K H (ps.set n p) (xs.set n x) := by
  obtain ⟨l, g⟩ := repL_iff.mp h
  refine repL_iff.mpr ⟨by simp [l], fun i q y e1 e2 => ?_⟩
  by_cases hi : n = i
  · subst hi
    rw [List.getElem?_set_self'] at e1 e2
    cases h1 : ps[n]? with
    | none => rw [h1] at e1; simp at e1
    | some _ =>
      cases h2 : xs[n]? with
      | none => rw [h2] at e2; simp at e2
      | some _ => rw [h1] at e1; rw [h2] at e2; simp at e1 e2; subst e1 e2; exact hp
  · rw [List.getElem?_set_ne hi] at e1 e2
    exact g i q y e1 e2
end
end VL
set_option Elab.async false
set_option linter.all false
set_option maxRecDepth 100000
set_option maxHeartbeats 1000000
namespace VL
open PySem PySem.Spec L2
/-! ### slots -/
def OVR (K : PySem.W.Frag) (H : Hp) : OV → HO → Prop
  | .lst ps, h => ∃ xs, h = .lst xs ∧ RepL K H ps xs
  | .dK ks ps, h => ∃ kvs : List (Key × V), h = .dK kvs ∧ kvs.map (·.1) = ks ∧ RepL K H ps (kvs.map (·.2))
def SlotR (K : PySem.W.Frag) (H : Hp) : Slot → Option V → Prop
  | .emp, _ => True
  | .val p, ov => ∃ v, ov = some v ∧ Rep K H p v
  | .own o, ov => ∃ a h, ov = some (.ref a) ∧ H a = some h ∧ OVR K H o h
/-- the addresses of what is owned -/
def Ow (ρ : En) (σ : St) (a : Addr) : Prop := ∃ (i : Nat) (o : OV), ρ[i]? = some (.own o) ∧ σ[i]? = some (some (.ref a))
structure FrR (K : PySem.W.Frag) (ρ : En) (σ : St) (H : Hp) : Prop where
  len : ρ.length = σ.length
  slot : ∀ (i : Nat) (s : Slot) (ov : Option V), ρ[i]? = some s → σ[i]? = some ov → SlotR K H s ov
  inj : ∀ (i j : Nat) (o o' : OV) (a : Addr), ρ[i]? = some (.own o) → ρ[j]? = some (.own o') → σ[i]? = some (some (.ref a)) → σ[j]? = some (some (.ref a)) → i = j
structure Step (S : Addr → Prop) (H : Hp) (S' : Addr → Prop) (H' : Hp) : Prop where
  ext : Ext H H'
  keep : ∀ a o, ¬ S a → H a = some o → H' a = some o
  there : ∀ a o, H a = some o → ∃ o', H' a = some o'
  own : ∀ a, S' a → S a ∨ H a = none
theorem Step.refl (S : Addr → Prop) (H : Hp) : Step S H S H := ⟨Ext.refl H, fun _ _ _ h => h, fun _ o h => ⟨o, h⟩, fun _ h => .inl h⟩
theorem Step.trans {S S1 S2 : Addr → Prop} {H H1 H2 : Hp} (a : Step S H S1 H1) (b : Step S1 H1 S2 H2) : Step S H S2 H2 := by
  refine ⟨a.ext.trans b.ext, fun x o h e => ?_, fun x o e => ?_, fun x h => ?_⟩
  · have e1 := a.keep x o h e
    refine b.keep x o (fun s1 => ?_) e1
    rcases a.own x s1 with h' | h'
    · exact h h'
    · rw [e] at h'; cases h'
  · obtain ⟨o1, e1⟩ := a.there x o e
    exact b.there x o1 e1
  · rcases b.own x h with h1 | h1
    · exact a.own x h1
    · cases q : H x with
      | none => exact .inr rfl
      | some o =>
        obtain ⟨o1, e1⟩ := a.there x o q
        rw [e1] at h1; cases h1
theorem Step.of_same {S : Addr → Prop} {H H' : Hp} (e : Same H H') : Step S H S H' := ⟨Ext.of_same e, fun a o _ h => e a o h, fun a o h => ⟨o, e a o h⟩, fun _ h => .inl h⟩
theorem Step.none {S S' : Addr → Prop} {H H' : Hp} (s : Step S H S' H') {a : Addr} (h : H' a = none) : H a = none := by
  cases q : H a with
  | none => rfl
  | some o =>
    obtain ⟨o1, e1⟩ := s.there a o q
    rw [e1] at h; cases h
theorem same_upd {H : Hp} {p : Addr} {o : HO} (h : H p = none) : Same H (upd H p o) := fun b u q => by
  rw [upd_ne (ne_of_none q h)]; exact q
section
variable {K : PySem.W.Frag} {H H' : Hp} {ρ : En} {σ : St}
theorem OVR.mono (e : Ext H H') : ∀ {o : OV} {h : HO}, OVR K H o h → OVR K H' o h
  | .lst ps, h, ⟨xs, q, r⟩ => ⟨xs, q, RepL.mono e ps xs r⟩
  | .dK ks ps, h, ⟨kvs, q, e1, r⟩ => ⟨kvs, q, e1, RepL.mono e ps _ r⟩
theorem OVR.notStable {o : OV} {h : HO} (r : OVR K H o h) : ¬ Stable h := by
  cases o with
  | lst ps => obtain ⟨xs, rfl, _⟩ := r; exact fun z => z
  | dK ks ps => obtain ⟨kvs, rfl, _⟩ := r; exact fun z => z
/-- what is owned is as it was: the frame stays -/
theorem FrR.mono (F : FrR K ρ σ H) (e : Ext H H') (k : ∀ a o, Ow ρ σ a → H a = some o → H' a = some o) : FrR K ρ σ H' := by
  refine ⟨F.len, fun i s ov e1 e2 => ?_, F.inj⟩
  have q := F.slot i s ov e1 e2
  cases s with
  | emp => trivial
  | val p => obtain ⟨v, rfl, r⟩ := q; exact ⟨v, rfl, Rep.mono e p v r⟩
  | own o => obtain ⟨a, h, rfl, g, r⟩ := q; exact ⟨a, h, rfl, k a h ⟨i, o, e1, e2⟩ g, r.mono e⟩
theorem FrR.same (F : FrR K ρ σ H) (e : Same H H') : FrR K ρ σ H' := F.mono (Ext.of_same e) fun a o _ h => e a o h
theorem FrR.val (F : FrR K ρ σ H) {i : Nat} {p : PV} (h : ρ[i]? = some (.val p)) : ∃ v, σ[i]? = some (some v) ∧ Rep K H p v := by
  have hi : i < σ.length := by rw [← F.len]; exact (List.getElem?_eq_some_iff.mp h).1
  have e : σ[i]? = some σ[i] := List.getElem?_eq_getElem hi
  obtain ⟨v, e2, r⟩ := F.slot i _ _ h e
  exact ⟨v, by rw [e, e2], r⟩
theorem FrR.own (F : FrR K ρ σ H) {i : Nat} {o : OV} (h : ρ[i]? = some (.own o)) : ∃ a u, σ[i]? = some (some (.ref a)) ∧ H a = some u ∧ OVR K H o u := by
  have hi : i < σ.length := by rw [← F.len]; exact (List.getElem?_eq_some_iff.mp h).1
  have e : σ[i]? = some σ[i] := List.getElem?_eq_getElem hi
  obtain ⟨a, u, e2, g, r⟩ := F.slot i _ _ h e
  exact ⟨a, u, by rw [e, e2], g, r⟩
/-- a slot gets a value -/
theorem FrR.setVal (F : FrR K ρ σ H) (i : Nat) {p : PV} {v : V} (r : Rep K H p v) : FrR K (ρ.set i (.val p)) (σ.set i (some v)) H := by
  refine ⟨by simp [F.len], fun j s ov e1 e2 => ?_, fun j k o o' a h1 h2 h3 h4 => ?_⟩
  · by_cases hj : i = j
    · subst hj
      by_cases hi : i < ρ.length
      · rw [List.getElem?_set_self hi] at e1
        rw [List.getElem?_set_self (by rw [← F.len]; exact hi)] at e2
        cases e1; cases e2
        exact ⟨v, rfl, r⟩
      · rw [List.getElem?_eq_none (by simpa using hi)] at e1; cases e1
    · rw [List.getElem?_set_ne hj] at e1 e2
      exact F.slot j s ov e1 e2
  · have ne : ∀ {m : Nat} {q : OV}, (ρ.set i (.val p))[m]? = some (.own q) → i ≠ m ∧ ρ[m]? = some (.own q) := fun {m q} h => by
      by_cases hm : i = m
      · subst hm
        by_cases hi : i < ρ.length
        · rw [List.getElem?_set_self hi] at h; cases h
        · rw [List.getElem?_eq_none (by simpa using hi)] at h; cases h
      · rw [List.getElem?_set_ne hm] at h
        exact ⟨hm, h⟩
    obtain ⟨n1, h1⟩ := ne h1
    obtain ⟨n2, h2⟩ := ne h2
    rw [List.getElem?_set_ne n1] at h3
    rw [List.getElem?_set_ne n2] at h4
    exact F.inj j k o o' a h1 h2 h3 h4
theorem Ow.setVal {i : Nat} {p : PV} {v : V} {a : Addr} (h : Ow (ρ.set i (.val p)) (σ.set i (some v)) a) : Ow ρ σ a := by
  obtain ⟨m, o, h1, h2⟩ := h
  by_cases hm : i = m
  · subst hm
    by_cases hi : i < ρ.length
    · rw [List.getElem?_set_self hi] at h1; cases h1
    · rw [List.getElem?_eq_none (by simpa using hi)] at h1; cases h1
  · rw [List.getElem?_set_ne hm] at h1 h2
    exact ⟨m, o, h1, h2⟩
/-- a slot gets something new that it owns -/
theorem FrR.setOwn (F : FrR K ρ σ H) (i : Nat) {o : OV} {a : Addr} {u : HO} (g : H a = some u) (r : OVR K H o u) (na : ¬ Ow ρ σ a) : FrR K (ρ.set i (.own o)) (σ.set i (some (.ref a))) H := by
  refine ⟨by simp [F.len], fun j s ov e1 e2 => ?_, fun j k o1 o2 b h1 h2 h3 h4 => ?_⟩
  · by_cases hj : i = j
    · subst hj
      by_cases hi : i < ρ.length
      · rw [List.getElem?_set_self hi] at e1
        rw [List.getElem?_set_self (by rw [← F.len]; exact hi)] at e2
        cases e1; cases e2
        exact ⟨a, u, rfl, g, r⟩
      · rw [List.getElem?_eq_none (by simpa using hi)] at e1; cases e1
    · rw [List.getElem?_set_ne hj] at e1 e2
      exact F.slot j s ov e1 e2
  · have one : ∀ {m : Nat} {q : OV} {b : Addr}, (ρ.set i (.own o))[m]? = some (.own q) → (σ.set i (some (.ref a)))[m]? = some (some (.ref b)) → (i = m ∧ b = a) ∨ (i ≠ m ∧ ρ[m]? = some (.own q) ∧ σ[m]? = some (some (.ref b))) := fun {m q b} h h' => by
      by_cases hm : i = m
      · subst hm
        by_cases hi : i < ρ.length
        · rw [List.getElem?_set_self (by rw [← F.len]; exact hi)] at h'
          cases h'
          exact .inl ⟨rfl, rfl⟩
        · rw [List.getElem?_eq_none (by simpa using hi)] at h; cases h
      · rw [List.getElem?_set_ne hm] at h h'
        exact .inr ⟨hm, h, h'⟩
    rcases one h1 h3 with ⟨e1, e2⟩ | ⟨n1, h1, h3⟩
    · rcases one h2 h4 with ⟨e3, e4⟩ | ⟨n2, h2, h4⟩
      · exact e1.symm.trans e3
      · rw [e2] at h4; exact absurd ⟨k, o2, h2, h4⟩ na
    · rcases one h2 h4 with ⟨e3, e4⟩ | ⟨n2, h2, h4⟩
      · rw [e4] at h3; exact absurd ⟨j, o1, h1, h3⟩ na
      · exact F.inj j k o1 o2 b h1 h2 h3 h4
theorem Ow.setOwn {i : Nat} {o : OV} {a b : Addr} (h : Ow (ρ.set i (.own o)) (σ.set i (some (.ref a))) b) : Ow ρ σ b ∨ b = a := by
  obtain ⟨m, q, h1, h2⟩ := h
  by_cases hm : i = m
  · subst hm
    by_cases hi : i < σ.length
    · rw [List.getElem?_set_self hi] at h2
      cases h2
      exact .inr rfl
    · rw [List.getElem?_eq_none (by simpa using hi)] at h2; cases h2
  · rw [List.getElem?_set_ne hm] at h1 h2
    exact .inl ⟨m, q, h1, h2⟩
/-- an owned object is written -/
theorem FrR.write (F : FrR K ρ σ H) {i : Nat} {o o' : OV} {a : Addr} {u u' : HO} (h : ρ[i]? = some (.own o)) (hs : σ[i]? = some (some (.ref a))) (g : H a = some u) (r : OVR K H o u) (r' : OVR K H o' u') :
    FrR K (ρ.set i (.own o')) σ (upd H a u') ∧ Step (Ow ρ σ) H (Ow (ρ.set i (.own o')) σ) (upd H a u') := by
  have ext : Ext H (upd H a u') := fun b w e s => by
    by_cases hb : b = a
    · subst hb
      rw [g] at e; cases e
      exact absurd s r.notStable
    · rw [upd_ne hb]; exact e
  have hi : i < ρ.length := (List.getElem?_eq_some_iff.mp h).1
  have ow : ∀ b, Ow (ρ.set i (.own o')) σ b → Ow ρ σ b := fun b ⟨m, q, h1, h2⟩ => by
    by_cases hm : i = m
    · subst hm; exact ⟨i, o, h, h2⟩
    · rw [List.getElem?_set_ne hm] at h1; exact ⟨m, q, h1, h2⟩
  refine ⟨⟨by simp [F.len], fun j s ov e1 e2 => ?_, fun j k o1 o2 b h1 h2 h3 h4 => ?_⟩, ⟨ext, fun b w nb e => ?_, fun b w e => ?_, fun b hb => .inl (ow b hb)⟩⟩
  · by_cases hj : i = j
    · subst hj
      rw [List.getElem?_set_self hi] at e1
      cases e1
      rw [hs] at e2; cases e2
      exact ⟨a, u', rfl, upd_same, r'.mono ext⟩
    · rw [List.getElem?_set_ne hj] at e1
      have q := F.slot j s ov e1 e2
      cases s with
      | emp => trivial
      | val p => obtain ⟨v, rfl, q⟩ := q; exact ⟨v, rfl, Rep.mono ext p v q⟩
      | own p =>
        obtain ⟨b, w, rfl, gb, q⟩ := q
        have hb : b ≠ a := fun z => by subst z; exact hj (F.inj i j _ _ b h e1 hs e2)
        exact ⟨b, w, rfl, by rw [upd_ne hb]; exact gb, q.mono ext⟩
  · have one : ∀ {m : Nat} {q : OV}, (ρ.set i (.own o'))[m]? = some (.own q) → ∃ q', ρ[m]? = some (.own q') := fun {m q} e => by
      by_cases hm : i = m
      · subst hm; exact ⟨o, h⟩
      · rw [List.getElem?_set_ne hm] at e; exact ⟨q, e⟩
    obtain ⟨q1, h1⟩ := one h1
    obtain ⟨q2, h2⟩ := one h2
    exact F.inj j k q1 q2 b h1 h2 h3 h4
  · have hb : b ≠ a := fun z => by subst z; exact nb ⟨i, o, h, hs⟩
    rw [upd_ne hb]; exact e
  · by_cases hb : b = a
    · subst hb; exact ⟨u', upd_same⟩
    · rw [upd_ne hb]; exact ⟨w, e⟩
end
/-! ### what follows a part of the program -/
/-- the exception e, as it lies behind -/
def ExcR (K : PySem.W.Frag) (mg : Str → Option Value) (H : Hp) (cls : Value) (d : Option Addr) (e : Ex) : Prop :=
  ∃ C, mg e.c = some (.ref C) ∧ cls = .ref C ∧ match e.f with
    | none => True
    | some (f, p) => ∃ dx v, d = some dx ∧ H dx = some (.xd [(f, v)]) ∧ Rep K H p v
/-- a step of an expression: nothing more is owned -/
def ES (ρ : En) (σ : St) (H : Hp) (ρ' : En) (H' : Hp) : Prop := Step (Ow ρ σ) H (Ow ρ' σ) H' ∧ ∀ a, Ow ρ' σ a → Ow ρ σ a
theorem ES.refl (ρ : En) (σ : St) (H : Hp) : ES ρ σ H ρ H := ⟨Step.refl _ _, fun _ h => h⟩
theorem ES.trans {ρ ρ1 ρ2 : En} {σ : St} {H H1 H2 : Hp} (a : ES ρ σ H ρ1 H1) (b : ES ρ1 σ H1 ρ2 H2) : ES ρ σ H ρ2 H2 := ⟨a.1.trans b.1, fun x h => a.2 x (b.2 x h)⟩
theorem ES.of_same {ρ : En} {σ : St} {H H' : Hp} (e : Same H H') : ES ρ σ H ρ H' := ⟨Step.of_same e, fun _ h => h⟩
/-- what is new is not owned -/
theorem ES.notOw {K : PySem.W.Frag} {ρ ρ1 : En} {σ : St} {H H1 : Hp} (s : ES ρ σ H ρ1 H1) (F : FrR K ρ σ H) {a : Addr} (n : H a = none) : ¬ Ow ρ1 σ a := fun z => by
  obtain ⟨i, o, e1, e2⟩ := s.2 a z
  obtain ⟨b, u, e3, g, _⟩ := F.own e1
  rw [e2] at e3; cases e3
  rw [n] at g; cases g
abbrev RR (α β : Type) := Hp → Hp → α → β → Prop
def Post {α β : Type} (K : PySem.W.Frag) (mg : Str → Option Value) (W : WX) (σ : St) (H : Hp) (ρ : En) (r : RR α β) (Q : β → Hp → Prop) : R (α × En) → Prop
  | .ok (a, ρ') => ∀ b H', ES ρ σ H ρ' H' → FrR K ρ' σ H' → r H H' a b → Q b H'
  | .exc e ρ' => ∀ cls d H', ES ρ σ H ρ' H' → FrR K ρ' σ H' → ExcR K mg H' cls d e → W cls d σ H'
  | .stuck => False
/-- the relation looks at the first heap for what is new alone -/
def Anti {α β : Type} (r : RR α β) : Prop := ∀ H H1 H' a b, (∀ x, H1 x = none → H x = none) → r H1 H' a b → r H H' a b
section
variable {K : PySem.W.Frag} {mg : Str → Option Value} {W : WX} {σ : St} {H H1 : Hp} {ρ ρ1 : En} {α β γ δ : Type} {r : RR α β} {r' : RR γ δ} {Q : β → Hp → Prop}
theorem Post.rebase (an : Anti r) (s : ES ρ σ H ρ1 H1) : ∀ {m : R (α × En)}, Post K mg W σ H ρ r Q m → Post K mg W σ H1 ρ1 r Q m
  | .ok (a, ρ'), h => fun b H' s' F q => h b H' (s.trans s') F (an _ _ _ _ _ (fun x e => s.1.none e) q)
  | .exc e ρ', h => fun cls d H' s' F q => h cls d H' (s.trans s') F q
  | .stuck, h => h
/-- first m, then k -/
theorem Post.bind (an : Anti r) {m : R (γ × En)} {k : γ × En → R (α × En)} (h : Post K mg W σ H ρ r Q (m.bind k)) :
    Post K mg W σ H ρ r' (fun x H1 => ∃ c ρ1, ES ρ σ H ρ1 H1 ∧ FrR K ρ1 σ H1 ∧ r' H H1 c x ∧ Post K mg W σ H1 ρ1 r Q (k (c, ρ1))) m := by
  cases m with
  | ok a =>
    obtain ⟨c, ρ1⟩ := a
    exact fun x H1 s F q => ⟨c, ρ1, s, F, q, Post.rebase an s h⟩
  | exc e ρ1 => exact h
  | stuck => exact h
theorem Post.mono {Q' : β → Hp → Prop} (hQ : ∀ b H', Q b H' → Q' b H') : ∀ {m : R (α × En)}, Post K mg W σ H ρ r Q m → Post K mg W σ H ρ r Q' m
  | .ok (a, ρ'), h => fun b H' s F q => hQ _ _ (h b H' s F q)
  | .exc e ρ', h => h
  | .stuck, h => h
end
/-! ### judgements -/
def RVal (K : PySem.W.Frag) : RR PV V := fun _ H' p v => Rep K H' p v
def RVals (K : PySem.W.Frag) : RR (List PV) (List V) := fun _ H' p v => RepL K H' p v
def RNew (K : PySem.W.Frag) : RR OV V := fun H H' o v => ∃ a u, v = .ref a ∧ H a = none ∧ H' a = some u ∧ OVR K H' o u
def RBool : RR Bool Bool := fun _ _ a b => a = b
theorem anti_val {K : PySem.W.Frag} : Anti (RVal K) := fun _ _ _ _ _ _ h => h
theorem anti_vals {K : PySem.W.Frag} : Anti (RVals K) := fun _ _ _ _ _ _ h => h
theorem anti_bool : Anti RBool := fun _ _ _ _ _ _ h => h
theorem anti_new {K : PySem.W.Frag} : Anti (RNew K) := fun _ _ _ _ _ g ⟨a, u, e, n, h⟩ => ⟨a, u, e, g a n, h⟩
abbrev DE := En → R (PV × En)
abbrev DN := En → R (OV × En)
abbrev DT := En → R (Bool × En)
abbrev DA := En → R (List PV × En)
/-- the reading of a denotation -/
def tP {α β : Type} (K : PySem.W.Frag) (mg : Str → Option Value) (W : WX) (r : RR α β) (f : En → R (α × En)) : St → Hp → (β → Hp → Prop) → Prop :=
  fun σ H Q => ∃ ρ, FrR K ρ σ H ∧ Post K mg W σ H ρ r Q (f ρ)
/-- an expression is worth what f says -/
def VE (X : Cx) (W : WX) (e : Expr) (f : DE) : Prop := PE X e (tP X.K X.mg W (RVal X.K) f)
/-- .. something new -/
def VN (X : Cx) (W : WX) (e : Expr) (f : DN) : Prop := PE X e (tP X.K X.mg W (RNew X.K) f)
def VT (X : Cx) (W : WX) (e : Expr) (f : DT) : Prop := PT X e (tP X.K X.mg W RBool f)
def VW (X : Cx) (W : WX) (e : Expr) (f : DT) : Prop := PW X e (tP X.K X.mg W RBool f)
def VA (X : Cx) (W : WX) (es : List Expr) (f : DA) : Prop := PA X es (tP X.K X.mg W (RVals X.K) f)
theorem _root_.L2.PE.imp {X : Cx} {e : Expr} {t t' : TE} (h : PE X e t) (m : ∀ σ H Q, t' σ H Q → t σ H Q) : PE X e t' := ⟨fun pins s σ H Q I h' => h.run pins s σ H Q I (m σ H Q h')⟩
theorem _root_.L2.PT.imp {X : Cx} {e : Expr} {t t' : TT} (h : PT X e t) (m : ∀ σ H Q, t' σ H Q → t σ H Q) : PT X e t' := ⟨fun pins s σ H Q I h' => h.run pins s σ H Q I (m σ H Q h')⟩
theorem _root_.L2.PW.imp {X : Cx} {e : Expr} {t t' : TT} (h : PW X e t) (m : ∀ σ H Q, t' σ H Q → t σ H Q) : PW X e t' := ⟨fun wh pins s σ H Q I h' => h.run wh pins s σ H Q I (m σ H Q h')⟩
theorem _root_.L2.PA.imp {X : Cx} {es : List Expr} {t t' : TA} (h : PA X es t) (m : ∀ σ H Q, t' σ H Q → t σ H Q) : PA X es t' := ⟨fun pos pins s σ H Q I h' => h.run pos pins s σ H Q I (m σ H Q h')⟩
section
variable {X : Cx} {W : WX} {pos : Pos} {a b c e : Expr} {es : List Expr} {f g h : DE} {t u : DT} {n : DN}
/-! ### names and constants -/
def dVar (i : Nat) : DE := fun ρ => match ρ[i]? with
  | some (.val p) => .ok (p, ρ)
  | _ => .stuck
def dC (p : PV) : DE := fun ρ => .ok (p, ρ)
theorem ve_name {i : Nat} {x : Str} (h : PE X (.Name x pos) (tVar i)) : VE X W (.Name x pos) (dVar i) := by
  refine h.imp fun σ H Q ⟨ρ, F, p⟩ => ?_
  unfold dVar at p
  split at p
  · rename_i q e1
    obtain ⟨v, e2, r⟩ := F.val e1
    exact ⟨v, e2, p v H (ES.refl _ _ _) F r⟩
  · exact p.elim
theorem ve_const {p : PV} {v : V} (h : PE X e (tC v)) (r : ∀ H, Rep X.K H p v) : VE X W e (dC p) :=
  h.imp fun σ H Q ⟨ρ, F, q⟩ => q v H (ES.refl _ _ _) F (r H)
theorem ve_int {i : Int} {j} : VE X W (.Constant (.int i) j pos) (dC (.int i)) := ve_const pe_int fun H => by simp only [Rep]
theorem ve_bl {i : Bool} {j} : VE X W (.Constant (.bool i) j pos) (dC (.bl i)) := ve_const pe_bl fun H => by simp only [Rep]
theorem ve_non {j} : VE X W (.Constant .none j pos) (dC .non) := ve_const pe_non fun H => by simp only [Rep]
theorem ve_str {x : Str} {j} (hx : okS x = true := by decide +kernel) : VE X W (.Constant (.str x) j pos) (dC (.str x)) := ve_const pe_str fun H => by simp only [Rep]; exact ⟨trivial, hx⟩
/-- a built-in class as a value -/
theorem ve_ty {x : Str} {T : String} (hg : Gl X x) (hm : X.mg x = none) (hv : bootBuiltins x = some (.type T)) (hn : x ≠ "__name__" := by decide) (hd : (x == ("__debug__" : Str)) = false := by decide) : VE X W (.Name x pos) (dC (.ty T)) :=
  ve_const (pe_bltn hg hm hv (v := .ty T) rfl hn hd) fun H => by simp only [Rep]
/-- a module's constant -/
theorem ve_glob {x : Str} {p : PV} {v : V} {u : Value} (hg : Gl X x) (hm : X.mg x = some u) (r : RelV v u) (rp : ∀ H, Rep X.K H p v) (hd : (x == ("__debug__" : Str)) = false := by decide) : VE X W (.Name x pos) (dC p) :=
  ve_const (pe_glob hg hm r hd) rp
/-! ### freezing -/
def frzOf : OV → PV
  | .lst ps => .lst ps
  | .dK ks ps => .non
def canFrz : OV → Bool
  | .lst _ => true
  | .dK _ _ => false
theorem inv_freeze {pins : List (Addr × Obj)} {σ : St} {H : Hp} {s : Shared} {a : Addr} {xs : List V} (I : Inv X pins σ H s) (g : H a = some (.lst xs)) : ∃ o, Inv X pins σ (upd H a (.frz o (.lst xs))) s := by
  have ok := I.hok a _ g
  obtain ⟨z, its, n, rv, eo⟩ := ok
  refine ⟨{ cls := .type "list", data := .seq its.toArray n }, I.ok, I.os, I.bare, ⟨I.base.keep, I.base.slot, fun b o e n' hx => ?_, I.base.there, fun b ys e => ?_, fun b o w e => ?_, fun b ps e => ?_⟩, I.loc, I.cell, ?_, fun x c e => ?_, fun p hp => ?_, fun b o e => ?_, I.len⟩
  · have q := I.base.free b o e n' hx
    rw [upd_ne (fun z => by subst z; rw [g] at q; cases q)]; exact q
  · have q := I.base.tups b ys e
    rw [upd_ne (fun z => by subst z; rw [g] at q; cases q)]; exact q
  · have q := I.base.frzs b o w e
    rw [upd_ne (fun z => by subst z; rw [g] at q; cases q)]; exact q
  · obtain ⟨m, q⟩ := I.base.tbls b ps e
    exact ⟨m, by rw [upd_ne (fun z => by subst z; rw [g] at q; cases q)]; exact q⟩
  · rw [upd_ne (fun z => by have q := I.free; rw [z, g] at q; cases q)]; exact I.free
  · have q := I.freeC x c e
    rw [upd_ne (fun z => by subst z; rw [g] at q; cases q)]; exact q
  · obtain ⟨h1, h2, h3, h4, h5⟩ := I.pin p hp
    exact ⟨h1, by rw [upd_ne (fun z => by rw [z, g] at h2; cases h2)]; exact h2, h3, h4, h5⟩
  · have st : ∀ {b : Addr} {w : HO}, ObjOk X.prog X.w H s.heap b w → ObjOk X.prog X.w (upd H a (.frz { cls := .type "list", data := .seq its.toArray n } (.lst xs))) s.heap b w := fun {b w} q =>
      q.stay (fun _ _ _ e' => e') (fun c e' => by rw [upd_ne (fun z => by subst z; rw [g] at e'; cases e')]; exact e') (fun c ys e' => by rw [upd_ne (fun z => by subst z; rw [g] at e'; cases e')]; exact e')
    by_cases hb : b = a
    · subst hb
      rw [upd_same] at e; cases e
      exact ⟨eo, st (I.hok b _ g)⟩
    · rw [upd_ne hb] at e
      exact st (I.hok b o e)
/-- the frame bears that something that it doesn't own is frozen -/
theorem ext_freeze {H : Hp} {a : Addr} {xs : List V} {o : Obj} (g : H a = some (.lst xs)) : Ext H (upd H a (.frz o (.lst xs))) := fun b w e s => by
  by_cases hb : b = a
  · subst hb; rw [g] at e; cases e; exact s.elim
  · rw [upd_ne hb]; exact e
def dFz (f : DN) : DE := fun ρ => (f ρ).bind fun (o, ρ') => if canFrz o then .ok (frzOf o, ρ') else .stuck
theorem ve_fz (h : VN X W e n) : VE X W e (dFz n) := by
  refine ⟨fun pins s σ H Q I ⟨ρ, F, p⟩ => ?_⟩
  refine wpAny_mono (h.run pins s σ H (fun v H1 => ∃ o ρ1, n ρ = .ok (o, ρ1) ∧ ES ρ σ H ρ1 H1 ∧ FrR X.K ρ1 σ H1 ∧ RNew X.K H H1 o v) I ⟨ρ, F, ?_⟩) (fun u s1 ⟨v, H1, I1, rv, o, ρ1, en, st, F1, q⟩ => ?_) fun _ _ z => z
  · unfold dFz at p
    cases en : n ρ with
    | ok c => obtain ⟨o, ρ1⟩ := c; exact fun b H' s' F' q => ⟨o, ρ1, rfl, s', F', q⟩
    | exc e ρ1 => rw [en] at p; exact p
    | stuck => rw [en] at p; exact p
  · unfold dFz at p
    rw [en] at p
    obtain ⟨a, w, rfl, na, g, r⟩ := q
    cases o with
    | lst ps =>
      obtain ⟨xs, rfl, r⟩ := r
      obtain ⟨o, I2⟩ := inv_freeze I1 g
      have nown := st.notOw F na
      have ext := ext_freeze (o := o) g
      have keep : ∀ b w, b ≠ a → H1 b = some w → upd H1 a (.frz o (.lst xs)) b = some w := fun b w hb e => by
        rw [upd_ne hb]; exact e
      refine ⟨.ref a, _, I2, rv, p (.ref a) _ ⟨⟨st.1.ext.trans ext, fun b w nb e => ?_, fun b w e => ?_, st.1.own⟩, st.2⟩ (F1.mono ext fun b w hb e => keep b w (fun z => nown (z ▸ hb)) e) ?_⟩
      · exact keep b w (fun z => by subst z; rw [na] at e; cases e) (st.1.keep b w nb e)
      · obtain ⟨w', e'⟩ := st.1.there b w e
        by_cases hb : b = a
        · subst hb; exact ⟨_, upd_same⟩
        · exact ⟨w', keep b w' hb e'⟩
      · show Rep _ _ (PV.lst ps) _
        simp only [Rep]
        exact ⟨a, xs, rfl, ⟨o, upd_same⟩, RepL.mono ext ps xs r⟩
    | dK ks ps => exact p.elim
end
end VL
set_option Elab.async false
set_option linter.all false
set_option maxRecDepth 100000
set_option maxHeartbeats 1000000
namespace VL
open PySem PySem.Spec L2
/-! ### pure data, as the library's -/
mutual
def toD : PV → PyData
  | .non => .none
  | .bl b => .bool b
  | .int i => .int i
  | .str x => .str x
  | .ty _ => .dict []
  | .tup xs => .tuple (toDs xs)
  | .lst xs => .list (toDs xs)
  | .dct _ _ => .dict []
  | .obj _ _ _ => .dict []
def toDs : List PV → List PyData
  | [] => []
  | p :: ps => toD p :: toDs ps
end
mutual
/-- no dict and no object in it -/
def noD : PV → Bool
  | .tup xs => noDs xs
  | .lst xs => noDs xs
  | .dct _ _ => false
  | .obj _ _ _ => false
  | .ty _ => false
  | _ => true
def noDs : List PV → Bool
  | [] => true
  | p :: ps => noD p && noDs ps
end
mutual
def dep : PV → Nat
  | .tup xs => deps xs + 1
  | .lst xs => deps xs + 1
  | _ => 0
def deps : List PV → Nat
  | [] => 0
  | p :: ps => max (dep p) (deps ps)
end
mutual
/-- == of data -/
def eqP : PV → PV → Bool
  | .non, .non => true
  | .bl a, .bl b => a == b
  | .bl a, .int j => (if a then 1 else 0) == j
  | .int i, .bl b => i == (if b then 1 else 0)
  | .int i, .int j => i == j
  | .str x, .str y => x == y
  | .tup xs, .tup ys => eqPs xs ys
  | .lst xs, .lst ys => eqPs xs ys
  | _, _ => false
def eqPs : List PV → List PV → Bool
  | [], [] => true
  | x :: xs, y :: ys => eqP x y && eqPs xs ys
  | _, _ => false
end
mutual
theorem toD_depth : ∀ p : PV, noD p = true → (toD p).depth = dep p
  | .non, _ => by simp only [toD, PyData.depth, dep]
  | .bl _, _ => by simp only [toD, PyData.depth, dep]
  | .int _, _ => by simp only [toD, PyData.depth, dep]
  | .str _, _ => by simp only [toD, PyData.depth, dep]
  | .tup xs, h => by simp only [noD] at h; simp only [toD, PyData.depth, dep, toDs_depth xs h]
  | .lst xs, h => by simp only [noD] at h; simp only [toD, PyData.depth, dep, toDs_depth xs h]
  | .dct _ _, h => by simp only [noD] at h; cases h
  | .ty _, h => by simp only [noD] at h; cases h
  | .obj _ _ _, h => by simp only [noD] at h; cases h
theorem toDs_depth : ∀ ps : List PV, noDs ps = true → PyData.depthAll (toDs ps) = deps ps
  | [], _ => by simp only [toDs, PyData.depthAll, deps]
  | p :: ps, h => by
    simp only [noDs, Bool.and_eq_true] at h
    simp only [toDs, PyData.depthAll, deps, toD_depth p h.1, toDs_depth ps h.2]
end
mutual
theorem eqP_toD : ∀ p q : PV, noD p = true → noD q = true → PyData.eqv (toD p) (toD q) = eqP p q
  | .tup xs, .tup ys, h, g => by simp only [noD] at h g; simp only [toD, PyData.eqv, eqP, eqPs_toD xs ys h g]
  | .lst xs, .lst ys, h, g => by simp only [noD] at h g; simp only [toD, PyData.eqv, eqP, eqPs_toD xs ys h g]
  | .non, q, h, g => by cases q <;> first | (simp only [noD] at g; cases g; done) | simp only [toD, PyData.eqv, eqP]
  | .bl _, q, h, g => by cases q <;> first | (simp only [noD] at g; cases g; done) | simp only [toD, PyData.eqv, eqP]
  | .int _, q, h, g => by cases q <;> first | (simp only [noD] at g; cases g; done) | simp only [toD, PyData.eqv, eqP]
  | .str _, q, h, g => by cases q <;> first | (simp only [noD] at g; cases g; done) | simp only [toD, PyData.eqv, eqP]
  | .tup _, .non, _, _ => by simp only [toD, PyData.eqv, eqP]
  | .tup _, .bl _, _, _ => by simp only [toD, PyData.eqv, eqP]
  | .tup _, .int _, _, _ => by simp only [toD, PyData.eqv, eqP]
  | .tup _, .str _, _, _ => by simp only [toD, PyData.eqv, eqP]
  | .tup _, .lst _, _, _ => by simp only [toD, PyData.eqv, eqP]
  | .lst _, .non, _, _ => by simp only [toD, PyData.eqv, eqP]
  | .lst _, .bl _, _, _ => by simp only [toD, PyData.eqv, eqP]
  | .lst _, .int _, _, _ => by simp only [toD, PyData.eqv, eqP]
  | .lst _, .str _, _, _ => by simp only [toD, PyData.eqv, eqP]
  | .lst _, .tup _, _, _ => by simp only [toD, PyData.eqv, eqP]
  | .dct _ _, _, h, _ => by simp only [noD] at h; cases h
  | .ty _, _, h, _ => by simp only [noD] at h; cases h
  | .obj _ _ _, _, h, _ => by simp only [noD] at h; cases h
  | .tup _, .dct _ _, _, h => by simp only [noD] at h; cases h
  | .tup _, .ty _, _, h => by simp only [noD] at h; cases h
  | .tup _, .obj _ _ _, _, h => by simp only [noD] at h; cases h
  | .lst _, .dct _ _, _, h => by simp only [noD] at h; cases h
  | .lst _, .ty _, _, h => by simp only [noD] at h; cases h
  | .lst _, .obj _ _ _, _, h => by simp only [noD] at h; cases h
theorem eqPs_toD : ∀ ps qs : List PV, noDs ps = true → noDs qs = true → PyData.eqvAll (toDs ps) (toDs qs) = eqPs ps qs
  | [], [], _, _ => by simp only [toDs, PyData.eqvAll, eqPs]
  | [], _ :: _, _, _ => by simp only [toDs, PyData.eqvAll, eqPs]
  | _ :: _, [], _, _ => by simp only [toDs, PyData.eqvAll, eqPs]
  | p :: ps, q :: qs, h, g => by
    simp only [noDs, Bool.and_eq_true] at h g
    simp only [toDs, PyData.eqvAll, eqPs, eqP_toD p q h.1 g.1, eqPs_toD ps qs h.2 g.2]
end
/-- a value that is looked at, at the top perhaps an owned object -/
def RepB (K : PySem.W.Frag) (H : Hp) : PV → V → Prop
  | .lst ps, v => ∃ a xs, v = .ref a ∧ Rd H a (.lst xs) ∧ RepL K H ps xs
  | .dct ks ps, v => ∃ a kvs, v = .ref a ∧ Rd H a (.dK kvs) ∧ kvs.map (fun x => match x.1 with | .inl i => PV.int i | .inr s => PV.str s) = ks ∧ RepL K H ps (kvs.map (·.2))
  | p, v => Rep K H p v
theorem Rep.b {K : PySem.W.Frag} {H : Hp} : ∀ {p : PV} {v : V}, Rep K H p v → RepB K H p v
  | .lst ps, v, h => by
    simp only [Rep] at h
    obtain ⟨a, xs, e, ⟨o, q⟩, r⟩ := h
    exact ⟨a, xs, e, .inr ⟨o, q⟩, r⟩
  | .dct _ _, v, h => by simp only [Rep] at h
  | .non, v, h => h
  | .bl _, v, h => h
  | .int _, v, h => h
  | .str _, v, h => h
  | .ty _, v, h => h
  | .tup _, v, h => h
  | .obj _ _ _, v, h => h
def RepBs (K : PySem.W.Frag) (H : Hp) : List PV → List V → Prop := Paired (RepB K H)
section
variable {X : Cx} {pins : List (Addr × Obj)} {σ : L2.St} {H : Hp} {s : Shared}
mutual
theorem Rep.reads (I : Inv X pins σ H s) : ∀ (p : PV) (v : V) (u : Value), noD p = true → Rep X.K H p v → RelV v u → (toD p).canLay0 = true ∧ ∃ as, Reads s.heap u (toD p) as
  | .non, _, _, _, h, r => by
    simp only [Rep] at h; subst h; cases r
    simp only [toD]
    exact ⟨by simp only [PyData.canLay0], _, Reads.none⟩
  | .bl b, _, _, _, h, r => by
    simp only [Rep] at h; subst h; cases r
    simp only [toD]
    exact ⟨by simp only [PyData.canLay0], _, Reads.bool b⟩
  | .int i, _, _, _, h, r => by
    simp only [Rep] at h; subst h; obtain ⟨t, rfl⟩ := r
    simp only [toD]
    exact ⟨by simp only [PyData.canLay0], _, Reads.int i t⟩
  | .str x, _, _, _, h, r => by
    simp only [Rep] at h; obtain ⟨rfl, hx⟩ := h; obtain ⟨t, rfl⟩ := r
    simp only [toD]
    exact ⟨by simp only [PyData.canLay0]; exact (Bool.and_eq_true_iff.mp hx).1, _, Reads.str x t⟩
  | .tup ps, _, _, n, h, r => by
    simp only [Rep] at h
    obtain ⟨a, xs, rfl, hs, hr⟩ := h
    cases r
    obtain ⟨its, rv, ⟨o, ho, hc, n', hd⟩, _⟩ := I.tuple hs
    simp only [noD] at n
    obtain ⟨c, as, q⟩ := RepL.reads I ps _ its n hr rv
    simp only [toD]
    exact ⟨by simp only [PyData.canLay0]; exact c, _, Reads.tuple ho hc hd q⟩
  | .lst ps, _, _, n, h, r => by
    simp only [Rep] at h
    obtain ⟨a, xs, rfl, hs, hr⟩ := h
    cases r
    obtain ⟨its, rv, ⟨o, n', ho, hc, _, hd⟩, _⟩ := I.list hs.sq
    simp only [noD] at n
    obtain ⟨c, as, q⟩ := RepL.reads I ps _ its n hr rv
    simp only [toD]
    exact ⟨by simp only [PyData.canLay0]; exact c, _, Reads.list ho hc hd q⟩
  | .dct _ _, _, _, n, _, _ => by simp only [noD] at n; cases n
  | .ty _, _, _, n, _, _ => by simp only [noD] at n; cases n
  | .obj _ _ _, _, _, n, _, _ => by simp only [noD] at n; cases n
theorem RepL.reads (I : Inv X pins σ H s) : ∀ (ps : List PV) (vs : List V) (us : List Value), noDs ps = true → RepL X.K H ps vs → Vals vs us → PyData.canLayAll0 (toDs ps) = true ∧ ∃ as, ReadsAll s.heap us (toDs ps) as
  | [], _, _, _, h, r => by
    rw [repL_nil_inv h] at r
    cases r
    simp only [toDs]
    exact ⟨by simp only [PyData.canLayAll0], _, ReadsAll.nil⟩
  | p :: ps, _, _, n, h, r => by
    obtain ⟨x, xs, rfl, h1, h2⟩ := repL_cons_inv h
    cases r with
    | cons r1 r2 =>
      simp only [noDs, Bool.and_eq_true] at n
      obtain ⟨c1, as, q1⟩ := Rep.reads I p _ _ n.1 h1 r1
      obtain ⟨c2, bs, q2⟩ := RepL.reads I ps _ _ n.2 h2 r2
      simp only [toDs]
      exact ⟨by simp only [PyData.canLayAll0, c1, c2, Bool.and_self], _, ReadsAll.cons q1 q2⟩
end
theorem RepB.reads (I : Inv X pins σ H s) : ∀ {p : PV} {v : V} {u : Value}, noD p = true → RepB X.K H p v → RelV v u → (toD p).canLay0 = true ∧ ∃ as, Reads s.heap u (toD p) as
  | .lst ps, v, u, n, h, r => by
    obtain ⟨a, xs, rfl, hs, hr⟩ := h
    cases r
    obtain ⟨its, rv, ⟨o, n', ho, hc, _, hd⟩, _⟩ := I.list (.inl hs)
    simp only [noD] at n
    obtain ⟨c, as, q⟩ := RepL.reads I ps _ its n hr rv
    simp only [toD]
    exact ⟨by simp only [PyData.canLay0]; exact c, _, Reads.list ho hc hd q⟩
  | .dct _ _, v, u, n, h, r => by simp only [noD] at n; cases n
  | .ty _, v, u, n, h, r => by simp only [noD] at n; cases n
  | .non, v, u, n, h, r => Rep.reads I _ v u n h r
  | .bl _, v, u, n, h, r => Rep.reads I _ v u n h r
  | .int _, v, u, n, h, r => Rep.reads I _ v u n h r
  | .str _, v, u, n, h, r => Rep.reads I _ v u n h r
  | .tup _, v, u, n, h, r => Rep.reads I _ v u n h r
  | .obj _ _ _, v, u, n, h, r => by simp only [noD] at n; cases n
end
/-! ### operations by values -/
/-- a value that comes from two looked at -/
def rV2 (K : PySem.W.Frag) (F : PV → PV → Option PV) : R2 := fun x y H Q => ∃ p q z, RepB K H p x ∧ RepB K H q y ∧ F p q = some z ∧ ∀ v H', Same H H' → Rep K H' z v → Q v H'
/-- .. a new list -/
def rN2 (K : PySem.W.Frag) (F : PV → PV → Option OV) : R2 := fun x y H Q => ∃ p q o, RepB K H p x ∧ RepB K H q y ∧ F p q = some o ∧ ∀ a u H', H a = none → Same H H' → H' a = some u → OVR K H' o u → Q (.ref a) H'
def rVn (K : PySem.W.Frag) (F : List PV → Option PV) : List V → Hp → VK → Prop := fun xs H Q => ∃ ps z, RepBs K H ps xs ∧ F ps = some z ∧ ∀ v H', Same H H' → Rep K H' z v → Q v H'
def rNn (K : PySem.W.Frag) (F : List PV → Option OV) : List V → Hp → VK → Prop := fun xs H Q => ∃ ps o, RepBs K H ps xs ∧ F ps = some o ∧ ∀ a u H', H a = none → Same H H' → H' a = some u → OVR K H' o u → Q (.ref a) H'
section
variable {X : Cx} {pins : List (Addr × Obj)} {σ : L2.St} {H : Hp} {s : Shared}
/-- something new, frozen -/
theorem ep_frz {Q : VK} {u : Value} {s' : Shared} {ps : List PV} (h : EP X pins σ (fun v H' => ∃ a w, v = .ref a ∧ H a = none ∧ Same H H' ∧ H' a = some w ∧ OVR X.K H' (.lst ps) w) u s') (q : ∀ v H', Same H H' → Rep X.K H' (.lst ps) v → Q v H') : EP X pins σ Q u s' := by
  obtain ⟨v, H1, I1, r, a, w, rfl, na, sm, g, xs, rfl, hl⟩ := h
  obtain ⟨o, I2⟩ := inv_freeze I1 g
  refine ⟨.ref a, _, I2, r, q _ _ (fun b w e => ?_) ?_⟩
  · rw [upd_ne (fun z => by subst z; rw [na] at e; cases e)]; exact sm b w e
  · simp only [Rep]
    exact ⟨a, xs, rfl, ⟨o, upd_same⟩, RepL.mono (ext_freeze g) ps xs hl⟩
/-- by the new list's rule, the value's -/
theorem OpR.frz {f : Value → Value → Sem Value} {F : PV → PV → Option (List PV)} (h : OpR X f (rN2 X.K fun p q => (F p q).map OV.lst)) : OpR X f (rV2 X.K fun p q => (F p q).map PV.lst) := by
  intro pins s σ H x y v u Q I rx ry ⟨p, q, z, hp, hq, e, k⟩
  cases ef : F p q with
  | none => simp only [ef, Option.map_none] at e; cases e
  | some ps =>
    simp only [ef, Option.map_some, Option.some.injEq] at e; subst e
    refine wpAny_mono (h pins s σ H x y v u (fun v H' => ∃ a w, v = .ref a ∧ H a = none ∧ Same H H' ∧ H' a = some w ∧ OVR X.K H' (.lst ps) w) I rx ry ⟨p, q, .lst ps, hp, hq, by simp only [ef, Option.map_some], fun a w H' n sm g r => ⟨a, w, rfl, n, sm, g, r⟩⟩) (fun u' s' hh => ep_frz hh k) fun _ _ z => z
theorem CallR.frz {f : Value} {F : List PV → Option (List PV)} (h : CallR X f (rNn X.K fun p => (F p).map OV.lst)) : CallR X f (rVn X.K fun p => (F p).map PV.lst) := by
  intro pins s σ H xs us Q I rx ⟨p, z, hp, e, k⟩
  cases ef : F p with
  | none => simp only [ef, Option.map_none] at e; cases e
  | some ps =>
    simp only [ef, Option.map_some, Option.some.injEq] at e; subst e
    refine wpAny_mono (h pins s σ H xs us (fun v H' => ∃ a w, v = .ref a ∧ H a = none ∧ Same H H' ∧ H' a = some w ∧ OVR X.K H' (.lst ps) w) I rx ⟨p, .lst ps, hp, by simp only [ef, Option.map_some], fun a w H' n sm g r => ⟨a, w, rfl, n, sm, g, r⟩⟩) (fun u' s' hh => ep_frz hh k) fun _ _ z => z
/-- two rules, by what comes first -/
theorem OpR.alt {f : Value → Value → Sem Value} {F G : PV → PV → Option PV} (h : OpR X f (rV2 X.K F)) (g : OpR X f (rV2 X.K G)) : OpR X f (rV2 X.K fun p q => (F p q).or (G p q)) := by
  intro pins s σ H x y v u Q I rx ry ⟨p, q, z, hp, hq, e, k⟩
  cases ef : F p q with
  | some w =>
    simp only [ef, Option.some_or] at e
    exact h pins s σ H x y v u Q I rx ry ⟨p, q, z, hp, hq, by rw [ef, e], k⟩
  | none =>
    simp only [ef, Option.none_or] at e
    exact g pins s σ H x y v u Q I rx ry ⟨p, q, z, hp, hq, e, k⟩
theorem CallR.alt {f : Value} {F G : List PV → Option PV} (h : CallR X f (rVn X.K F)) (g : CallR X f (rVn X.K G)) : CallR X f (rVn X.K fun p => (F p).or (G p)) := by
  intro pins s σ H xs us Q I rx ⟨p, z, hp, e, k⟩
  cases ef : F p with
  | some w =>
    simp only [ef, Option.some_or] at e
    exact h pins s σ H xs us Q I rx ⟨p, z, hp, by rw [ef, e], k⟩
  | none =>
    simp only [ef, Option.none_or] at e
    exact g pins s σ H xs us Q I rx ⟨p, z, hp, e, k⟩
end
end VL
set_option Elab.async false
set_option linter.all false
set_option maxRecDepth 100000
set_option maxHeartbeats 1000000
namespace VL
open PySem PySem.Spec L2
/-! ### texts that fit -/
theorem okS_ok {x : Str} (h : okS x = true) : PyData.strOk x = true := (Bool.and_eq_true_iff.mp h).1
theorem okS_len {x : Str} (h : okS x = true) : x.length ≤ sizeLine := of_decide_eq_true (Bool.and_eq_true_iff.mp h).2
theorem okS_mk {x : Str} (h : ∀ c ∈ x.cps.toList, c < 0x110000) (l : x.length ≤ sizeLine) : okS x = true := by
  unfold okS PyData.strOk
  rw [Bool.and_eq_true, ← Array.all_toList, List.all_eq_true]
  exact ⟨fun c hc => decide_eq_true (h c hc), decide_eq_true l⟩
theorem okS_mem {x : Str} (h : okS x = true) : ∀ c ∈ x.cps.toList, c < 0x110000 := fun c hc => by
  have q := okS_ok h
  unfold PyData.strOk at q
  rw [← Array.all_toList, List.all_eq_true] at q
  exact of_decide_eq_true (q c hc)
theorem okS_append {x y : Str} (h : okS x = true) (g : okS y = true) (l : x.length + y.length ≤ sizeLine) : okS (x ++ y) = true := by
  refine okS_mk (fun c hc => ?_) ?_
  · have e : (x ++ y).cps = x.cps ++ y.cps := rfl
    rw [e, Array.toList_append, List.mem_append] at hc
    rcases hc with hc | hc
    · exact okS_mem h c hc
    · exact okS_mem g c hc
  · have e : (x ++ y).length = x.length + y.length := by show (x.cps ++ y.cps).size = _; rw [Array.size_append]; rfl
    rw [e]; exact l
theorem okS_one {x : Str} {c : Nat} (h : okS x = true) (hc : c ∈ x.cps.toList) : okS ⟨#[c]⟩ = true :=
  okS_mk (fun d hd => by have e : d = c := by simpa using hd
                         rw [e]; exact okS_mem h c hc) (by show 1 ≤ sizeLine; decide)
/-! ### + - * // % ** -/
def fI (g : Int → Int → Int) : PV → PV → Option PV
  | .int i, .int j => some (.int (g i j))
  | _, _ => none
def fIC (C : Int → Int → Bool) (g : Int → Int → Int) : PV → PV → Option PV
  | .int i, .int j => if C i j then some (.int (g i j)) else none
  | _, _ => none
def fIB (g : Int → Int → Bool) : PV → PV → Option PV
  | .int i, .int j => some (.bl (g i j))
  | _, _ => none
/-- what a looked-at list is -/
theorem RepB.lst {K : PySem.W.Frag} {H : Hp} {ps : List PV} {v : V} (h : RepB K H (.lst ps) v) : ∃ a xs, v = .ref a ∧ Rd H a (.lst xs) ∧ RepL K H ps xs := h
theorem RepB.tup {K : PySem.W.Frag} {H : Hp} {ps : List PV} {v : V} (h : RepB K H (.tup ps) v) : ∃ a xs, v = .ref a ∧ SqT K H a xs ∧ RepL K H ps xs := by simpa only [RepB, Rep] using h
theorem RepB.int {K : PySem.W.Frag} {H : Hp} {i : Int} {v : V} (h : RepB K H (.int i) v) : v = .int i := by simpa only [RepB, Rep] using h
theorem RepB.bl {K : PySem.W.Frag} {H : Hp} {i : Bool} {v : V} (h : RepB K H (.bl i) v) : v = .bl i := by simpa only [RepB, Rep] using h
theorem RepB.str {K : PySem.W.Frag} {H : Hp} {x : Str} {v : V} (h : RepB K H (.str x) v) : v = .str x ∧ okS x = true := by simpa only [RepB, Rep] using h
theorem RepB.ty {K : PySem.W.Frag} {H : Hp} {x : String} {v : V} (h : RepB K H (.ty x) v) : v = .ty x := by simpa only [RepB, Rep] using h
section
variable {X : Cx}
theorem ofI0 {f : Value → Value → Sem Value} {g : Int → Int → Int} (h : OpR X f (rI0 fun i j => V.int (g i j))) : OpR X f (rV2 X.K (fI g)) := by
  intro pins s σ H x y v u Q I rx ry ⟨p, q, z, hp, hq, e, k⟩
  cases p <;> first | (simp only [fI] at e; cases e; done) | skip
  cases q <;> first | (simp only [fI] at e; cases e; done) | skip
  simp only [fI, Option.some.injEq] at e; subst e
  exact h pins s σ H x y v u Q I rx ry ⟨_, _, hp, hq, k _ H (Same.refl H) (by simp only [Rep])⟩
theorem ofI {f : Value → Value → Sem Value} {C : Int → Int → Prop} {c : Int → Int → Bool} {g : Int → Int → Int} (h : OpR X f (rI C fun i j => V.int (g i j))) (hc : ∀ i j, c i j = true → C i j) : OpR X f (rV2 X.K (fIC c g)) := by
  intro pins s σ H x y v u Q I rx ry ⟨p, q, z, hp, hq, e, k⟩
  cases p <;> first | (simp only [fIC] at e; cases e; done) | skip
  cases q <;> first | (simp only [fIC] at e; cases e; done) | skip
  simp only [fIC] at e
  split at e
  · rename_i cc
    cases e
    exact h pins s σ H x y v u Q I rx ry ⟨_, _, hp, hq, hc _ _ cc, k _ H (Same.refl H) (by simp only [Rep])⟩
  · cases e
theorem ofB0 {f : Value → Value → Sem Value} {g : Int → Int → Bool} (h : OpR X f (rI0 fun i j => V.bl (g i j))) : OpR X f (rV2 X.K (fIB g)) := by
  intro pins s σ H x y v u Q I rx ry ⟨p, q, z, hp, hq, e, k⟩
  cases p <;> first | (simp only [fIB] at e; cases e; done) | skip
  cases q <;> first | (simp only [fIB] at e; cases e; done) | skip
  simp only [fIB, Option.some.injEq] at e; subst e
  exact h pins s σ H x y v u Q I rx ry ⟨_, _, hp, hq, k _ H (Same.refl H) (by simp only [Rep])⟩
def addS : PV → PV → Option PV
  | .str x, .str y => if x.length + y.length ≤ sizeLine then some (.str (x ++ y)) else none
  | _, _ => none
theorem op_addS : OpR X (binaryOp .Add) (rV2 X.K addS) := by
  intro pins s σ H x y v u Q I rx ry ⟨p, q, z, hp, hq, e, k⟩
  cases p <;> first | (simp only [addS] at e; cases e; done) | skip
  cases q <;> first | (simp only [addS] at e; cases e; done) | skip
  simp only [addS] at e
  split at e
  · rename_i cc
    cases e
    have hp' := RepB.str hp
    have hq' := RepB.str hq
    exact op_add_str pins s σ H x y v u Q I rx ry ⟨_, _, hp'.1, hq'.1, cc, k _ H (Same.refl H) (by simp only [Rep]; exact ⟨trivial, okS_append hp'.2 hq'.2 cc⟩)⟩
  · cases e
def addT : PV → PV → Option PV
  | .tup x, .tup y => if x.length + y.length ≤ sizeLine then some (.tup (x ++ y)) else none
  | _, _ => none
theorem op_addT : OpR X (binaryOp .Add) (rV2 X.K addT) := by
  intro pins s σ H x y v u Q I rx ry ⟨p, q, z, hp, hq, e, k⟩
  cases p <;> first | (simp only [addT] at e; cases e; done) | skip
  cases q <;> first | (simp only [addT] at e; cases e; done) | skip
  simp only [addT] at e
  split at e
  · rename_i ps qs cc
    cases e
    have hp' : ∃ a xs, x = V.ref a ∧ SqT X.K H a xs ∧ RepL X.K H ps xs := by simpa only [RepB, Rep] using hp
    have hq' : ∃ a xs, y = V.ref a ∧ SqT X.K H a xs ∧ RepL X.K H qs xs := by simpa only [RepB, Rep] using hq
    obtain ⟨a, xs, rfl, h1, r1⟩ := hp'
    obtain ⟨b, ys, rfl, h2, r2⟩ := hq'
    refine op_catA pins s σ H _ _ v u Q I rx ry ⟨a, b, xs, ys, rfl, rfl, h1, h2, by rw [← r1.length, ← r2.length]; exact cc, fun e0 => ?_, fun _ e0 => ?_, fun _ _ l hl => ?_⟩
    · subst e0
      have : ps = [] := List.eq_nil_of_length_eq_zero r1.length
      subst this
      exact k _ H (Same.refl H) (by simp only [Rep]; exact ⟨b, ys, rfl, h2, r2⟩)
    · subst e0
      have : qs = [] := List.eq_nil_of_length_eq_zero r2.length
      subst this
      rw [List.append_nil] at k
      exact k _ H (Same.refl H) (by simp only [Rep]; exact ⟨a, xs, rfl, h1, r1⟩)
    · have sm := same_upd (o := .tup (xs ++ ys)) hl
      exact k _ _ sm (by simp only [Rep]; exact ⟨l, _, rfl, SqT.of upd_same, (RepL.mono (Ext.of_same sm) _ _ r1).append (RepL.mono (Ext.of_same sm) _ _ r2)⟩)
  · cases e
theorem Rd.lst {H : Hp} {a : Addr} {xs : List V} {pins : List (Addr × Obj)} {σ : L2.St} {s : Shared} (I : Inv X pins σ H s) (h : Rd H a (.lst xs)) :
    xs.length ≤ sizeLine ∧ ∃ (its : List Value) (n : Nat), Vals xs its ∧ xs.length = its.length ∧ s.heap.get? a = some { cls := .type "list", data := .seq its.toArray n } := by
  obtain ⟨z, its, n, r, e⟩ := Rd.ok h I.hok
  exact ⟨z, its, n, r, r.length, e⟩
def addL : PV → PV → Option (List PV)
  | .lst x, .lst y => if x.length + y.length ≤ sizeLine then some (x ++ y) else none
  | _, _ => none
theorem on_addL : OpR X (binaryOp .Add) (rN2 X.K fun p q => (addL p q).map OV.lst) := by
  intro pins s σ H x y v u Q I rx ry ⟨p, q, o, hp, hq, e, k⟩
  cases p <;> first | (simp only [addL, Option.map_none] at e; cases e; done) | skip
  cases q <;> first | (simp only [addL, Option.map_none] at e; cases e; done) | skip
  simp only [addL] at e
  split at e
  · rename_i ps qs cc
    simp only [Option.map_some, Option.some.injEq] at e; subst e
    obtain ⟨a, xs, rfl, h1, r1⟩ := hp.lst
    obtain ⟨b, ys, rfl, h2, r2⟩ := hq.lst
    cases rx
    cases ry
    obtain ⟨_, its, n, w1, l1, e1⟩ := Rd.lst I h1
    obtain ⟨_, its2, n2, w2, l2, e2⟩ := Rd.lst I h2
    have hz : xs.length + ys.length ≤ sizeLine := by rw [← r1.length, ← r2.length]; exact cc
    refine PySem.P.add_list e1 e2 ?_ (by rw [List.size_toArray, List.size_toArray]; omega)
    have ea : its.toArray ++ its2.toArray = (its ++ its2).toArray := by simp
    rw [ea]
    have sm := same_upd (o := .lst (xs ++ ys)) I.fresh
    exact ⟨.ref _, _, I.lnew (t' := s.toks) (w1.append w2) (by rw [List.length_append]; omega), rfl, k _ _ _ I.fresh sm upd_same ⟨_, rfl, (RepL.mono (Ext.of_same sm) _ _ r1).append (RepL.mono (Ext.of_same sm) _ _ r2)⟩⟩
  · simp only [Option.map_none] at e; cases e
/-- a + b -/
def pyAdd (p q : PV) : Option PV := (fI (fun i j => i + j) p q).or ((addS p q).or ((addT p q).or ((addL p q).map PV.lst)))
theorem opv_add : OpR X (binaryOp .Add) (rV2 X.K pyAdd) := OpR.alt (ofI0 op_add) (OpR.alt op_addS (OpR.alt op_addT (OpR.frz on_addL)))
def pyAddN (p q : PV) : Option OV := (addL p q).map OV.lst
theorem opn_add : OpR X (binaryOp .Add) (rN2 X.K pyAddN) := on_addL
def pySub : PV → PV → Option PV := fI fun i j => i - j
theorem opv_sub : OpR X (binaryOp .Sub) (rV2 X.K pySub) := ofI0 op_sub
def mulI : PV → PV → Option PV := fIC (fun i j => decide (i.natAbs.log2 + j.natAbs.log2 < 1000000)) fun i j => i * j
theorem op_mulI : OpR X (binaryOp .Mult) (rV2 X.K mulI) := ofI op_mulW fun i j h => show CMulW i j from (of_decide_eq_true h : i.natAbs.log2 + j.natAbs.log2 < 1000000)
/-- s * n, 0 ≤ n -/
def mulS : PV → PV → Option PV
  | .str x, .int n => if x.length * n.toNat ≤ sizeLine ∧ 0 ≤ n ∧ n ≤ sizeLine then some (.str ⟨(List.replicate n.toNat x.cps.toList).flatten.toArray⟩) else none
  | _, _ => none
theorem rep_cps (a : Array Nat) : ∀ (n : Nat) (acc : Array Nat), (List.replicate n a).foldl (· ++ ·) acc = acc ++ ((List.replicate n a.toList).flatten).toArray
  | 0, acc => by simp
  | n + 1, acc => by
    rw [List.replicate_succ, List.foldl_cons, rep_cps a n, List.replicate_succ, List.flatten_cons]
    apply Array.ext'
    simp
theorem flat_len {α : Type} (n : Nat) (l : List α) : (List.replicate n l).flatten.length = n * l.length := by
  induction n with
  | zero => simp
  | succ n ih => rw [List.replicate_succ, List.flatten_cons, List.length_append, ih, Nat.succ_mul]; omega
theorem okS_rep {x : Str} {n : Nat} (h : okS x = true) (l : x.length * n ≤ sizeLine) : okS ⟨(List.replicate n x.cps.toList).flatten.toArray⟩ = true := by
  refine okS_mk (fun c hc => ?_) ?_
  · have hc' : c ∈ (List.replicate n x.cps.toList).flatten := by simpa using hc
    obtain ⟨m, hm, hcm⟩ := List.mem_flatten.mp hc'
    rw [List.eq_of_mem_replicate hm] at hcm
    exact okS_mem h c hcm
  · show ((List.replicate n x.cps.toList).flatten.toArray).size ≤ _
    rw [List.size_toArray, flat_len, Array.length_toList]
    have e : x.cps.size = x.length := rfl
    rw [e, Nat.mul_comm]; exact l
theorem op_mulS : OpR X (binaryOp .Mult) (rV2 X.K mulS) := by
  intro pins s σ H x y v u Q I rx ry ⟨p, q, z, hp, hq, e, k⟩
  cases p <;> first | (simp only [mulS] at e; cases e; done) | skip
  cases q <;> first | (simp only [mulS] at e; cases e; done) | skip
  simp only [mulS] at e
  split at e
  · rename_i z n cc
    cases e
    obtain ⟨rfl, hz⟩ := hp.str
    have e2 := hq.int
    subst e2
    obtain ⟨t, rfl⟩ := rx
    obtain ⟨t', rfl⟩ := ry
    obtain ⟨c1, c2, c3⟩ := cc
    have hs : sizeLine = 16777216 := sizeLine_eq
    have fin : ∀ (w : Str) (tk : Tok) (k' : Nat), w = ⟨(List.replicate n.toNat z.cps.toList).flatten.toArray⟩ → EP X pins σ Q (.str w tk) { s with toks := k' } := fun w tk k' ew =>
      ⟨.str w, H, I.tok k', ⟨_, rfl⟩, by subst ew; exact k _ H (Same.refl H) (by simp only [Rep]; exact ⟨trivial, okS_rep hz c1⟩)⟩
    refine PySem.P.mul_str ?_ (fun h1 h2 => ?_) (fun h1 h2 => ?_) ?_
    · rw [decide_eq_false (by omega), decide_eq_false (by omega)]; rfl
    · have hn : (1 : Int) ≤ n := by omega
      have c1' : (z.length : Int) * n ≤ 16777216 := by
        have : ((z.length * n.toNat : Nat) : Int) ≤ ((16777216 : Nat) : Int) := Int.ofNat_le.mpr (by rw [← hs]; exact c1)
        rw [Int.natCast_mul, Int.toNat_of_nonneg c2] at this
        exact this
      intro hgt
      have : (2 ^ 63 - 1) / n < (z.length : Int) := hgt
      have h3 : (2 ^ 63 - 1 : Int) < (z.length : Int) * n := by
        have := (Int.ediv_lt_iff_lt_mul (by omega : (0 : Int) < n)).mp this
        exact this
      omega
    · show Builtin.Str.tooLong _ = false
      unfold Builtin.Str.tooLong
      exact decide_eq_false (by omega)
    · split
      · rename_i h1
        have h0 : n = 0 := by omega
        subst h0
        exact ⟨by decide, fin _ _ _ rfl⟩
      · split
        · rename_i h1 h2
          refine fin z t s.toks ?_
          rcases Bool.or_eq_true_iff.mp h2 with h3 | h3
          · have : n = 1 := by simpa using h3
            subst this
            show z = _
            simp
          · have h4 : z.cps.size = 0 := by simpa [Str.length] using h3
            have h5 : z.cps = #[] := Array.eq_empty_of_size_eq_zero h4
            obtain ⟨c⟩ := z
            simp only at h5
            subst h5
            simp
        · rename_i h1 h2
          refine ⟨?_, fin _ _ _ ?_⟩
          · show (List.foldl (fun x1 x2 => x1 ++ x2) #[] (List.replicate n.toNat z.cps)).size ≤ sizeLine
            rw [rep_cps]
            simp only [List.size_toArray, Array.size_append, flat_len, Array.length_toList, Array.size_empty, Nat.zero_add, List.append_toArray, List.nil_append]
            have e0 : z.cps.size = z.length := rfl
            rw [e0, Nat.mul_comm]; exact c1
          · rw [rep_cps]; simp
  · cases e
def mulL : PV → PV → Option (List PV)
  | .lst x, .int n => if x.length * n.toNat ≤ sizeLine ∧ -(2 ^ 63) ≤ n ∧ n < 2 ^ 63 then some (List.replicate n.toNat x).flatten else none
  | _, _ => none
theorem RepL.rep {K : PySem.W.Frag} {H : Hp} {ps : List PV} {xs : List V} (h : RepL K H ps xs) : ∀ n : Nat, RepL K H (List.replicate n ps).flatten (List.replicate n xs).flatten
  | 0 => repL_nil
  | n + 1 => by rw [List.replicate_succ, List.flatten_cons, List.replicate_succ, List.flatten_cons]; exact h.append (RepL.rep h n)
/-- a * b -/
def pyMul (p q : PV) : Option PV := (mulI p q).or (mulS p q)
theorem opv_mul : OpR X (binaryOp .Mult) (rV2 X.K pyMul) := OpR.alt op_mulI op_mulS
def pyMod : PV → PV → Option PV := fIC (fun _ j => decide (j ≠ 0)) fun i j => i.fmod j
theorem opv_mod : OpR X (binaryOp .Mod) (rV2 X.K pyMod) := ofI op_modN fun i j h => of_decide_eq_true h
def pyDiv : PV → PV → Option PV := fIC (fun _ j => decide (j ≠ 0 ∧ j.natAbs.log2 < 9000)) fun i j => i.fdiv j
theorem opv_div : OpR X (binaryOp .FloorDiv) (rV2 X.K pyDiv) := ofI (C := fun _ j => j ≠ 0 ∧ j.natAbs.log2 < 9000) (opI fun _ _ _ _ _ _ _ hc q => PyProof.Rows.floordiv_int hc.1 q (.inl (PyProof.noPylong_of_log2 hc.2))) fun i j h => of_decide_eq_true h
def pyPow : PV → PV → Option PV := fIC (fun i j => decide (0 ≤ j ∧ (Builtin.Int.intBits i : Int) * j ≤ 2 ^ 27)) fun i j => i ^ j.toNat
theorem opv_pow : OpR X (binaryOp .Pow) (rV2 X.K pyPow) := ofI (C := fun i j => 0 ≤ j ∧ (Builtin.Int.intBits i : Int) * j ≤ 2 ^ 27) (opI fun _ _ _ _ _ _ _ hc q => PyProof.Rows.pow_int hc.1 hc.2 q) fun i j h => of_decide_eq_true h
/-! ### comparisons -/
/-- == of data: neither holds a dict or an object -/
def pyEqB (p q : PV) : Option Bool := if noD p = true ∧ noD q = true ∧ min (dep p) (dep q) ≤ 64 then some (eqP p q) else none
def pyEq (p q : PV) : Option PV := (pyEqB p q).map PV.bl
def pyNe (p q : PV) : Option PV := (pyEqB p q).map fun b => PV.bl !b
theorem opv_eq (hu : X.A.units + 64 < cLine) : OpR X (compareOp .Eq) (rV2 X.K pyEq) := by
  intro pins s σ H x y v u Q I rx ry ⟨p, q, z, hp, hq, e, k⟩
  unfold pyEq pyEqB at e
  split at e
  · rename_i cc
    simp only [Option.map_some, Option.some.injEq] at e; subst e
    obtain ⟨c1, as, r1⟩ := RepB.reads I cc.1 hp rx
    obtain ⟨c2, bs, r2⟩ := RepB.reads I cc.2.1 hq ry
    refine SeqAt.compareEq_reads r1 r2 c1 c2 ?_ ?_
    · rw [toD_depth p cc.1, toD_depth q cc.2.1]; omega
    · rw [eqP_toD p q cc.1 cc.2.1]
      exact ⟨.bl _, H, I, rfl, k _ H (Same.refl H) (by simp only [Rep])⟩
  · simp only [Option.map_none] at e; cases e
theorem opv_ne (hu : X.A.units + 64 < cLine) : OpR X (compareOp .NotEq) (rV2 X.K pyNe) := by
  intro pins s σ H x y v u Q I rx ry ⟨p, q, z, hp, hq, e, k⟩
  unfold pyNe pyEqB at e
  split at e
  · rename_i cc
    simp only [Option.map_some, Option.some.injEq] at e; subst e
    obtain ⟨c1, as, r1⟩ := RepB.reads I cc.1 hp rx
    obtain ⟨c2, bs, r2⟩ := RepB.reads I cc.2.1 hq ry
    refine SeqAt.compareNe_reads r1 r2 c1 c2 ?_ ?_
    · rw [toD_depth p cc.1, toD_depth q cc.2.1]; omega
    · rw [eqP_toD p q cc.1 cc.2.1]
      exact ⟨.bl _, H, I, rfl, k _ H (Same.refl H) (by simp only [Rep])⟩
  · simp only [Option.map_none] at e; cases e
def ltS : PV → PV → Option PV
  | .str x, .str y => some (.bl (decide (x.cps.toList < y.cps.toList)))
  | _, _ => none
theorem op_ltS : OpR X (compareOp .Lt) (rV2 X.K ltS) := by
  intro pins s σ H x y v u Q I rx ry ⟨p, q, z, hp, hq, e, k⟩
  cases p <;> first | (simp only [ltS] at e; cases e; done) | skip
  cases q <;> first | (simp only [ltS] at e; cases e; done) | skip
  simp only [ltS, Option.some.injEq] at e; subst e
  exact op_lt_str pins s σ H x y v u Q I rx ry ⟨_, _, hp.str.1, hq.str.1, k _ H (Same.refl H) (by simp only [Rep])⟩
def pyLt (p q : PV) : Option PV := (fIB (fun i j => decide (i < j)) p q).or (ltS p q)
theorem opv_lt : OpR X (compareOp .Lt) (rV2 X.K pyLt) := OpR.alt (ofB0 op_lt) op_ltS
def pyLe : PV → PV → Option PV := fIB fun i j => decide (i ≤ j)
theorem opv_le : OpR X (compareOp .LtE) (rV2 X.K pyLe) := ofB0 op_le
def pyGt : PV → PV → Option PV := fIB fun i j => decide (j < i)
theorem opv_gt : OpR X (compareOp .Gt) (rV2 X.K pyGt) := ofB0 op_gt
def pyGe : PV → PV → Option PV := fIB fun i j => decide (j ≤ i)
theorem opv_ge : OpR X (compareOp .GtE) (rV2 X.K pyGe) := ofB0 op_ge
def isNon : PV → Bool
  | .non => true
  | _ => false
theorem RepB.isNon {K : PySem.W.Frag} {H : Hp} {p : PV} {v : V} (h : RepB K H p v) : decide (v = .non) = VL.isNon p := by
  cases p with
  | non => have e : v = .non := by simpa only [RepB, Rep] using h
           subst e; rfl
  | bl b => rw [RepB.bl h]; rfl
  | int b => rw [RepB.int h]; rfl
  | str b => rw [(RepB.str h).1]; rfl
  | ty b => rw [RepB.ty h]; rfl
  | tup b => obtain ⟨a, xs, rfl, _⟩ := h.tup; rfl
  | lst b => obtain ⟨a, xs, rfl, _⟩ := h.lst; rfl
  | dct ks vs => obtain ⟨a, kvs, rfl, _⟩ := h; rfl
  | obj c ns vs => simp only [RepB, Rep] at h
def pyIs : PV → PV → Option PV
  | p, .non => some (.bl (isNon p))
  | _, _ => none
def pyIsNot : PV → PV → Option PV
  | p, .non => some (.bl !isNon p)
  | _, _ => none
theorem opv_is : OpR X (compareOp .Is) (rV2 X.K pyIs) := by
  intro pins s σ H x y v u Q I rx ry ⟨p, q, z, hp, hq, e, k⟩
  cases q <;> first | (simp only [pyIs] at e; cases e; done) | skip
  simp only [pyIs, Option.some.injEq] at e; subst e
  have ey : y = .non := by simpa only [RepB, Rep] using hq
  exact op_isN pins s σ H x y v u Q I rx ry ⟨ey, by rw [hp.isNon]; exact k _ H (Same.refl H) (by simp only [Rep])⟩
theorem opv_isNot : OpR X (compareOp .IsNot) (rV2 X.K pyIsNot) := by
  intro pins s σ H x y v u Q I rx ry ⟨p, q, z, hp, hq, e, k⟩
  cases q <;> first | (simp only [pyIsNot] at e; cases e; done) | skip
  simp only [pyIsNot, Option.some.injEq] at e; subst e
  have ey : y = .non := by simpa only [RepB, Rep] using hq
  exact op_notN pins s σ H x y v u Q I rx ry ⟨ey, by rw [hp.isNon]; exact k _ H (Same.refl H) (by simp only [Rep])⟩
/-- x in xs, of data -/
def inP (p : PV) (qs : List PV) : Bool := qs.any fun q => eqP q p
def inB : PV → PV → Option Bool
  | p, .lst qs => if noD p = true ∧ noDs qs = true ∧ min (deps qs) (dep p) ≤ 64 then some (inP p qs) else none
  | p, .tup qs => if noD p = true ∧ noDs qs = true ∧ min (deps qs) (dep p) ≤ 64 then some (inP p qs) else none
  | _, _ => none
theorem any_toDs {p : PV} (hp : noD p = true) : ∀ {qs : List PV}, noDs qs = true → ((toDs qs).any fun y => PyData.eqv y (toD p)) = inP p qs
  | [], _ => by simp only [toDs, List.any_nil, inP]
  | q :: qs, h => by
    simp only [noDs, Bool.and_eq_true] at h
    have ih := any_toDs hp h.2
    unfold inP at ih ⊢
    simp only [toDs, List.any_cons, eqP_toD q p h.1 hp, ih]
theorem opv_inD (hu : X.A.units + 65 < cLine) : OpR X (compareOp .In) (rV2 X.K fun p q => (inB p q).map PV.bl) ∧ OpR X (compareOp .NotIn) (rV2 X.K fun p q => (inB p q).map fun b => PV.bl !b) := by
  refine ⟨?_, ?_⟩
  all_goals
    intro pins s σ H x y v u Q I rx ry ⟨p, q, z, hp, hq, e, k⟩
    cases q <;> first | (simp only [inB, Option.map_none] at e; cases e; done) | skip
    all_goals
      simp only [inB] at e
      split at e
      rotate_left
      · simp only [Option.map_none] at e; cases e
      rename_i qs cc
      simp only [Option.map_some, Option.some.injEq] at e; subst e
      obtain ⟨c1, as, r1⟩ := RepB.reads I cc.1 hp rx
      have nq : noD (.tup qs) = true := by simp only [noD]; exact cc.2.1
      have nq' : noD (.lst qs) = true := by simp only [noD]; exact cc.2.1
      obtain ⟨c2, bs, r2⟩ := RepB.reads I (by first | exact nq | exact nq') hq ry
      have un : X.A.units + 1 + min (PyData.depthAll (toDs qs)) (toD p).depth < cLine := by rw [toD_depth p cc.1, toDs_depth qs cc.2.1]; omega
      simp only [toD] at r2 c2
      simp only [PyData.canLay0] at c2
      first
        | refine SeqAt.in_list_reads r2 r1 c2 c1 un ?_
        | refine SeqAt.in_tuple_reads r2 r1 c2 c1 un ?_
        | refine SeqAt.notIn_list_reads r2 r1 c2 c1 un ?_
        | refine SeqAt.notIn_tuple_reads r2 r1 c2 c1 un ?_
      rw [any_toDs cc.1 cc.2.1]
      exact ⟨.bl _, H, I, rfl, k _ H (Same.refl H) (by simp only [Rep])⟩
/-- one sign in a text -/
def inS : PV → PV → Option Bool
  | .str x, .str z => if x.length = 1 then some (z.cps.toList.contains (x.cps.getD 0 0)) else none
  | _, _ => none
theorem one_str {x : Str} (h : x.length = 1) : x = ⟨#[x.cps.getD 0 0]⟩ := by
  obtain ⟨c⟩ := x
  have h' : c.size = 1 := h
  obtain ⟨l⟩ := c
  match l, h' with
  | [a], _ => rfl
theorem opv_inS : OpR X (compareOp .In) (rV2 X.K fun p q => (inS p q).map PV.bl) ∧ OpR X (compareOp .NotIn) (rV2 X.K fun p q => (inS p q).map fun b => PV.bl !b) := by
  refine ⟨?_, ?_⟩
  all_goals
    intro pins s σ H x y v u Q I rx ry ⟨p, q, z, hp, hq, e, k⟩
    cases p <;> first | (simp only [inS, Option.map_none] at e; cases e; done) | skip
    cases q <;> first | (simp only [inS, Option.map_none] at e; cases e; done) | skip
    simp only [inS] at e
    split at e
    rotate_left
    · simp only [Option.map_none] at e; cases e
    rename_i xx zz cc
    simp only [Option.map_some, Option.some.injEq] at e; subst e
    have e1 := (RepB.str hp).1
    rw [one_str cc] at e1
    first
      | refine op_in_sign pins s σ H x y v u Q I rx ry ⟨_, _, e1, (RepB.str hq).1, ?_⟩
      | refine op_notIn_sign pins s σ H x y v u Q I rx ry ⟨_, _, e1, (RepB.str hq).1, ?_⟩
    refine k _ H (Same.refl H) ?_
    simp only [Rep, List.elem_eq_contains.symm, List.elem_eq_mem]
def pyIn (p q : PV) : Option PV := ((inB p q).map PV.bl).or ((inS p q).map PV.bl)
def pyNotIn (p q : PV) : Option PV := ((inB p q).map fun b => PV.bl !b).or ((inS p q).map fun b => PV.bl !b)
theorem opv_in (hu : X.A.units + 65 < cLine) : OpR X (compareOp .In) (rV2 X.K pyIn) := OpR.alt (opv_inD hu).1 opv_inS.1
theorem opv_notIn (hu : X.A.units + 65 < cLine) : OpR X (compareOp .NotIn) (rV2 X.K pyNotIn) := OpR.alt (opv_inD hu).2 opv_inS.2
end
end VL
set_option Elab.async false
set_option linter.all false
set_option maxRecDepth 100000
set_option maxHeartbeats 1000000
namespace VL
open PySem PySem.Spec L2
/-! ### subscripts -/
def pyIx : PV → PV → Option PV
  | .lst ps, .int i => atI ps i
  | .tup ps, .int i => atI ps i
  | .str x, .int i => (atI x.cps.toList i).map fun c => .str ⟨#[c]⟩
  | _, _ => none
theorem atI_rep {K : PySem.W.Frag} {H : Hp} {ps : List PV} {xs : List V} {i : Int} {p : PV} (h : RepL K H ps xs) (e : atI ps i = some p) : ∃ x, atI xs i = some x ∧ Rep K H p x := by
  unfold atI at e ⊢
  rw [← h.length]
  cases q : ixN ps.length i with
  | none => rw [q] at e; cases e
  | some j =>
    rw [q] at e
    obtain ⟨x, e1, r⟩ := h.get (show ps[j]? = some p from e)
    exact ⟨x, e1, r⟩
section
variable {X : Cx}
theorem ixv : IxR X (rV2 X.K pyIx) := by
  intro value slice pins s σ H x y v u Q I rx ry ⟨p, q, z, hp, hq, e, k⟩ hs
  cases p <;> first | (simp only [pyIx] at e; cases e; done) | skip
  all_goals (cases q <;> first | (simp only [pyIx] at e; cases e; done) | skip)
  all_goals simp only [pyIx] at e
  · rename_i z i
    cases ea : atI z.cps.toList i with
    | none => rw [ea] at e; cases e
    | some c =>
      rw [ea] at e
      simp only [Option.map_some, Option.some.injEq] at e; subst e
      refine ix_str value slice pins s σ H x y v u Q I rx ry ⟨z, i, c, (RepB.str hp).1, RepB.int hq, okS_len (RepB.str hp).2, ea, k _ H (Same.refl H) ?_⟩ hs
      simp only [Rep]
      obtain ⟨j, _, e2, _⟩ := atI_get ea
      exact ⟨trivial, okS_one (RepB.str hp).2 (List.mem_of_getElem? e2)⟩
  · obtain ⟨a, xs, e1, hx, r⟩ := RepB.tup hp
    obtain ⟨w, e2, r2⟩ := atI_rep r e
    exact ix_tup value slice pins s σ H x y v u Q I rx ry ⟨a, xs, _, w, e1, RepB.int hq, hx, e2, k _ H (Same.refl H) r2⟩ hs
  · obtain ⟨a, xs, e1, hx, r⟩ := RepB.lst hp
    obtain ⟨w, e2, r2⟩ := atI_rep r e
    exact ix_list value slice pins s σ H x y v u Q I rx ry ⟨a, xs, _, w, e1, RepB.int hq, .inl hx, e2, k _ H (Same.refl H) r2⟩ hs
/-! ### slices -/
def cutL {α : Type} (xs : List α) (lo hi : Option Int) : List α := (xs.drop (HT.sIx xs.length 0 lo)).take (HT.sIx xs.length xs.length hi - HT.sIx xs.length 0 lo)
theorem cut_rep {K : PySem.W.Frag} {H : Hp} {ps : List PV} {xs : List V} (h : RepL K H ps xs) (lo hi : Option Int) : RepL K H (cutL ps lo hi) (cutV xs lo hi) := by
  unfold cutL cutV
  rw [h.length]
  exact (h.drop _).take _
theorem cut_all {α : Type} {xs : List α} {lo hi : Option Int} (h1 : HT.sIx xs.length 0 lo = 0) (h2 : HT.sIx xs.length xs.length hi = xs.length) : cutL xs lo hi = xs := by
  unfold cutL
  rw [h1, h2]; simp
theorem okS_cut {z : Str} (h : okS z = true) (lo hi : Option Int) : okS (cutS z lo hi) = true := by
  refine okS_mk (fun c hc => ?_) (Nat.le_trans (cutS_length z lo hi) (okS_len h))
  unfold cutS at hc
  exact okS_mem h c (List.mem_of_mem_drop (List.mem_of_mem_take (by simpa using hc)))
/-- a slice by values -/
def rSlV (K : PySem.W.Frag) (F : PV → Option Int → Option Int → Option PV) : V → Option Int → Option Int → Hp → VK → Prop := fun x lo hi H Q => ∃ p z, RepB K H p x ∧ F p lo hi = some z ∧ ∀ v H', Same H H' → Rep K H' z v → Q v H'
def rSlN (K : PySem.W.Frag) (F : PV → Option Int → Option Int → Option OV) : V → Option Int → Option Int → Hp → VK → Prop := fun x lo hi H Q => ∃ p o, RepB K H p x ∧ F p lo hi = some o ∧ ∀ a u H', H a = none → Same H H' → H' a = some u → OVR K H' o u → Q (.ref a) H'
def slN : PV → Option Int → Option Int → Option OV
  | .lst ps, lo, hi => some (.lst (cutL ps lo hi))
  | _, _, _ => none
theorem sln : SlR X (rSlN X.K slN) := by
  intro pins s σ H x v vl vu lo hi sl Q I rx hs pl pu ⟨p, o, hp, e, k⟩
  cases p <;> first | (simp only [slN] at e; cases e; done) | skip
  simp only [slN, Option.some.injEq] at e; subst e
  obtain ⟨a, xs, e1, hx, r⟩ := RepB.lst hp
  refine sl_list pins s σ H x v vl vu lo hi sl Q I rx hs pl pu ⟨a, xs, e1, .inl hx, fun p hp => ?_⟩
  have sm := same_upd (o := .lst (cutV xs lo hi)) hp
  exact k p _ _ hp sm upd_same ⟨_, rfl, RepL.mono (Ext.of_same sm) _ _ (cut_rep r lo hi)⟩
def pySl : PV → Option Int → Option Int → Option PV
  | .lst ps, lo, hi => some (.lst (cutL ps lo hi))
  | .tup ps, lo, hi => some (.tup (cutL ps lo hi))
  | .str z, lo, hi => some (.str (cutS z lo hi))
  | _, _, _ => none
theorem slv : SlR X (rSlV X.K pySl) := by
  intro pins s σ H x v vl vu lo hi sl Q I rx hs pl pu ⟨p, z, hp, e, k⟩
  cases p <;> first | (simp only [pySl] at e; cases e; done) | skip
  all_goals (simp only [pySl, Option.some.injEq] at e; subst e)
  · refine sl_str pins s σ H x v vl vu lo hi sl Q I rx hs pl pu ⟨_, (RepB.str hp).1, okS_len (RepB.str hp).2, k _ H (Same.refl H) ?_⟩
    simp only [Rep]
    exact ⟨trivial, okS_cut (RepB.str hp).2 lo hi⟩
  · obtain ⟨a, xs, e1, hx, r⟩ := RepB.tup hp
    refine sl_tupA pins s σ H x v vl vu lo hi sl Q I rx hs pl pu ⟨a, xs, e1, hx, fun ⟨q1, q2⟩ => ?_, fun _ p hp => ?_⟩
    · rw [← r.length] at q1 q2
      rw [cut_all q1 q2] at k
      exact k _ H (Same.refl H) (by simp only [Rep]; exact ⟨a, xs, rfl, hx, r⟩)
    · have sm := same_upd (o := .tup (cutV xs lo hi)) hp
      exact k _ _ sm (by simp only [Rep]; exact ⟨p, _, rfl, SqT.of upd_same, RepL.mono (Ext.of_same sm) _ _ (cut_rep r lo hi)⟩)
  · rename_i ps
    obtain ⟨T, id, h1, h2, h3⟩ := sln pins s σ H x v vl vu lo hi sl (fun v H' => ∃ a w, v = .ref a ∧ H a = none ∧ Same H H' ∧ H' a = some w ∧ OVR X.K H' (.lst (cutL ps lo hi)) w) I rx hs pl pu ⟨.lst ps, _, hp, rfl, fun a w H' n sm g r => ⟨a, w, rfl, n, sm, g, r⟩⟩
    exact ⟨T, id, h1, h2, wpAny_mono h3 (fun u' s' hh => ep_frz hh k) fun _ _ z => z⟩
/-! ### built-ins by values -/
def pyLen : List PV → Option PV
  | [.lst ps] => some (.int ps.length)
  | [.tup ps] => some (.int ps.length)
  | [.str z] => some (.int z.length)
  | _ => none
theorem RepBs.one {K : PySem.W.Frag} {H : Hp} {p : PV} {xs : List V} (h : RepBs K H [p] xs) : ∃ x, xs = [x] ∧ RepB K H p x := by
  cases h with
  | cons h1 h2 => cases h2; exact ⟨_, rfl, h1⟩
theorem RepBs.two {K : PySem.W.Frag} {H : Hp} {p q : PV} {xs : List V} (h : RepBs K H [p, q] xs) : ∃ x y, xs = [x, y] ∧ RepB K H p x ∧ RepB K H q y := by
  cases h with
  | cons h1 h2 =>
    obtain ⟨y, rfl, h3⟩ := RepBs.one h2
    exact ⟨_, _, rfl, h1, h3⟩
theorem cv_len : CallR X (.builtin "len") (rVn X.K pyLen) := by
  intro pins s σ H xs us Q I rx ⟨ps, z, hp, e, k⟩
  have fin : ∀ (n : Nat), z = .int n → Q (.int n) H := fun n en => k _ H (Same.refl H) (by rw [en]; simp only [Rep])
  match ps, e, hp with
  | [.lst ps], e, hp =>
    simp only [pyLen, Option.some.injEq] at e
    obtain ⟨x, rfl, h1⟩ := hp.one
    obtain ⟨a, xs, rfl, hx, r⟩ := RepB.lst h1
    exact call_len pins s σ H _ us Q I rx ⟨_, _, rfl, .inl ⟨xs, .inl hx, rfl⟩, fin _ (by rw [← e, r.length])⟩
  | [.tup ps], e, hp =>
    simp only [pyLen, Option.some.injEq] at e
    obtain ⟨x, rfl, h1⟩ := hp.one
    obtain ⟨a, xs, rfl, hx, r⟩ := RepB.tup h1
    exact call_len pins s σ H _ us Q I rx ⟨_, _, rfl, .inr ⟨xs, hx, rfl⟩, fin _ (by rw [← e, r.length])⟩
  | [.str w], e, hp =>
    simp only [pyLen, Option.some.injEq] at e
    obtain ⟨x, rfl, h1⟩ := hp.one
    obtain ⟨rfl, ho⟩ := RepB.str h1
    exact call_len pins s σ H _ us Q I rx ⟨_, _, rfl, ⟨okS_len ho, rfl⟩, fin _ e.symm⟩
def pyAbs : List PV → Option PV
  | [.int i] => some (.int (if i < 0 then -i else i))
  | _ => none
theorem cv_abs : CallR X (.builtin "abs") (rVn X.K pyAbs) := by
  intro pins s σ H xs us Q I rx ⟨ps, z, hp, e, k⟩
  match ps, e, hp with
  | [.int i], e, hp =>
    simp only [pyAbs, Option.some.injEq] at e; subst e
    obtain ⟨x, rfl, h1⟩ := hp.one
    exact call_abs pins s σ H _ us Q I rx ⟨i, by rw [RepB.int h1], k _ H (Same.refl H) (by simp only [Rep])⟩
def pyInt : List PV → Option PV
  | [.int i] => some (.int i)
  | [.bl b] => some (.int (if b then 1 else 0))
  | _ => none
theorem cv_int : CallR X (.type "int") (rVn X.K pyInt) := by
  intro pins s σ H xs us Q I rx ⟨ps, z, hp, e, k⟩
  match ps, e, hp with
  | [.int i], e, hp =>
    simp only [pyInt, Option.some.injEq] at e; subst e
    obtain ⟨x, rfl, h1⟩ := hp.one
    exact call_int1 pins s σ H _ us Q I rx (.inl ⟨i, by rw [RepB.int h1], k _ H (Same.refl H) (by simp only [Rep])⟩)
  | [.bl i], e, hp =>
    simp only [pyInt, Option.some.injEq] at e; subst e
    obtain ⟨x, rfl, h1⟩ := hp.one
    exact call_int1 pins s σ H _ us Q I rx (.inr ⟨i, by rw [RepB.bl h1], k _ H (Same.refl H) (by simp only [Rep])⟩)
/-- max(i, j), min(i, j) -/
def pyMax2 : List PV → Option PV
  | [.int i, .int j] => some (.int (if j > i then j else i))
  | _ => none
def pyMin2 : List PV → Option PV
  | [.int i, .int j] => some (.int (if j < i then j else i))
  | _ => none
theorem cv_max2 (hc : X.calm = true) : CallR X (.builtin "max") (rVn X.K pyMax2) := by
  intro pins s σ H xs us Q I rx ⟨ps, z, hp, e, k⟩
  match ps, e, hp with
  | [.int i, .int j], e, hp =>
    simp only [pyMax2, Option.some.injEq] at e; subst e
    obtain ⟨x, y, rfl, h1, h2⟩ := hp.two
    exact call_max2 hc pins s σ H _ us Q I rx ⟨i, j, by rw [RepB.int h1, RepB.int h2], k _ H (Same.refl H) (by simp only [Rep])⟩
theorem cv_min2 (hc : X.calm = true) : CallR X (.builtin "min") (rVn X.K pyMin2) := by
  intro pins s σ H xs us Q I rx ⟨ps, z, hp, e, k⟩
  match ps, e, hp with
  | [.int i, .int j], e, hp =>
    simp only [pyMin2, Option.some.injEq] at e; subst e
    obtain ⟨x, y, rfl, h1, h2⟩ := hp.two
    exact call_min2 hc pins s σ H _ us Q I rx ⟨i, j, by rw [RepB.int h1, RepB.int h2], k _ H (Same.refl H) (by simp only [Rep])⟩
/-- a list of bools, of ints -/
def blsOf : List PV → Option (List Bool)
  | [] => some []
  | .bl b :: ps => (blsOf ps).map (b :: ·)
  | _ :: _ => none
def intsOf : List PV → Option (List Int)
  | [] => some []
  | .int b :: ps => (intsOf ps).map (b :: ·)
  | _ :: _ => none
theorem blsOf_rep {K : PySem.W.Frag} {H : Hp} : ∀ {ps : List PV} {xs : List V} {bs : List Bool}, RepL K H ps xs → blsOf ps = some bs → xs = bs.map V.bl
  | [], xs, bs, h, e => by
    simp only [blsOf, Option.some.injEq] at e; subst e
    exact repL_nil_inv h
  | p :: ps, xs, bs, h, e => by
    cases p <;> first | (simp only [blsOf] at e; cases e; done) | skip
    obtain ⟨x, r, rfl, h1, h2⟩ := repL_cons_inv h
    simp only [blsOf] at e
    cases q : blsOf ps with
    | none => rw [q] at e; cases e
    | some cs =>
      rw [q] at e
      simp only [Option.map_some, Option.some.injEq] at e; subst e
      rw [blsOf_rep h2 q]
      have e1 := (show x = V.bl _ by simpa only [Rep] using h1)
      rw [e1]; rfl
theorem intsOf_rep {K : PySem.W.Frag} {H : Hp} : ∀ {ps : List PV} {xs : List V} {bs : List Int}, RepL K H ps xs → intsOf ps = some bs → xs = bs.map V.int
  | [], xs, bs, h, e => by
    simp only [intsOf, Option.some.injEq] at e; subst e
    exact repL_nil_inv h
  | p :: ps, xs, bs, h, e => by
    cases p <;> first | (simp only [intsOf] at e; cases e; done) | skip
    obtain ⟨x, r, rfl, h1, h2⟩ := repL_cons_inv h
    simp only [intsOf] at e
    cases q : intsOf ps with
    | none => rw [q] at e; cases e
    | some cs =>
      rw [q] at e
      simp only [Option.map_some, Option.some.injEq] at e; subst e
      rw [intsOf_rep h2 q]
      have e1 := (show x = V.int _ by simpa only [Rep] using h1)
      rw [e1]; rfl
def pyAll : List PV → Option PV
  | [.lst ps] => (blsOf ps).map fun bs => .bl (bs.all id)
  | _ => none
def pyAny : List PV → Option PV
  | [.lst ps] => (blsOf ps).map fun bs => .bl (bs.any id)
  | _ => none
def pySum : List PV → Option PV
  | [.lst ps] => (intsOf ps).map fun bs => .int bs.sum
  | _ => none
theorem cv_all (hc : X.calm = true) : CallR X (.builtin "all") (rVn X.K pyAll) := by
  intro pins s σ H xs us Q I rx ⟨ps, z, hp, e, k⟩
  match ps, e, hp with
  | [.lst ps], e, hp =>
    simp only [pyAll] at e
    cases q : blsOf ps with
    | none => rw [q] at e; cases e
    | some bs =>
      rw [q] at e; simp only [Option.map_some, Option.some.injEq] at e; subst e
      obtain ⟨x, rfl, h1⟩ := hp.one
      obtain ⟨a, xs, rfl, hx, r⟩ := RepB.lst h1
      rw [blsOf_rep r q] at hx
      exact cr_all hc pins s σ H _ us Q I rx ⟨a, bs, rfl, .inl hx, k _ H (Same.refl H) (by simp only [Rep])⟩
theorem cv_any (hc : X.calm = true) : CallR X (.builtin "any") (rVn X.K pyAny) := by
  intro pins s σ H xs us Q I rx ⟨ps, z, hp, e, k⟩
  match ps, e, hp with
  | [.lst ps], e, hp =>
    simp only [pyAny] at e
    cases q : blsOf ps with
    | none => rw [q] at e; cases e
    | some bs =>
      rw [q] at e; simp only [Option.map_some, Option.some.injEq] at e; subst e
      obtain ⟨x, rfl, h1⟩ := hp.one
      obtain ⟨a, xs, rfl, hx, r⟩ := RepB.lst h1
      rw [blsOf_rep r q] at hx
      exact cr_any hc pins s σ H _ us Q I rx ⟨a, bs, rfl, .inl hx, k _ H (Same.refl H) (by simp only [Rep])⟩
theorem cv_sum (hc : X.calm = true) : CallR X (.builtin "sum") (rVn X.K pySum) := by
  intro pins s σ H xs us Q I rx ⟨ps, z, hp, e, k⟩
  match ps, e, hp with
  | [.lst ps], e, hp =>
    simp only [pySum] at e
    cases q : intsOf ps with
    | none => rw [q] at e; cases e
    | some bs =>
      rw [q] at e; simp only [Option.map_some, Option.some.injEq] at e; subst e
      obtain ⟨x, rfl, h1⟩ := hp.one
      obtain ⟨a, xs, rfl, hx, r⟩ := RepB.lst h1
      rw [intsOf_rep r q] at hx
      exact cr_sum hc pins s σ H _ us Q I rx ⟨a, bs, rfl, .inl hx, k _ H (Same.refl H) (by simp only [Rep])⟩
/-- list(x): a copy -/
def listN : List PV → Option (List PV)
  | [.lst ps] => some ps
  | [.tup ps] => some ps
  | _ => none
theorem cn_list : CallR X (.type "list") (rNn X.K fun p => (listN p).map OV.lst) := by
  intro pins s σ H xs us Q I rx ⟨ps, o, hp, e, k⟩
  match ps, e, hp with
  | [.lst ps], e, hp =>
    simp only [listN, Option.map_some, Option.some.injEq] at e; subst e
    obtain ⟨x, rfl, h1⟩ := hp.one
    obtain ⟨a, xs, rfl, hx, r⟩ := RepB.lst h1
    refine call_list_of pins s σ H _ us Q I rx ⟨a, xs, rfl, .inl (.inl hx), fun l hl => ?_⟩
    have sm := same_upd (o := .lst xs) hl
    exact k l _ _ hl sm upd_same ⟨_, rfl, RepL.mono (Ext.of_same sm) _ _ r⟩
  | [.tup ps], e, hp =>
    simp only [listN, Option.map_some, Option.some.injEq] at e; subst e
    obtain ⟨x, rfl, h1⟩ := hp.one
    obtain ⟨a, xs, rfl, hx, r⟩ := RepB.tup h1
    refine call_list_of pins s σ H _ us Q I rx ⟨a, xs, rfl, .inr hx, fun l hl => ?_⟩
    have sm := same_upd (o := .lst xs) hl
    exact k l _ _ hl sm upd_same ⟨_, rfl, RepL.mono (Ext.of_same sm) _ _ r⟩
def pyTuple : List PV → Option PV
  | [.lst ps] => some (.tup ps)
  | [.tup ps] => some (.tup ps)
  | _ => none
theorem cv_tuple : CallR X (.type "tuple") (rVn X.K pyTuple) := by
  intro pins s σ H xs us Q I rx ⟨ps, z, hp, e, k⟩
  match ps, e, hp with
  | [.lst ps], e, hp =>
    simp only [pyTuple, Option.some.injEq] at e; subst e
    obtain ⟨x, rfl, h1⟩ := hp.one
    obtain ⟨a, xs, rfl, hx, r⟩ := RepB.lst h1
    refine call_tuple_of pins s σ H _ us Q I rx ⟨a, xs, rfl, .inl ⟨.inl hx, fun l hl => ?_⟩⟩
    have sm := same_upd (o := .tup xs) hl
    exact k _ _ sm (by simp only [Rep]; exact ⟨l, xs, rfl, SqT.of upd_same, RepL.mono (Ext.of_same sm) _ _ r⟩)
  | [.tup ps], e, hp =>
    simp only [pyTuple, Option.some.injEq] at e; subst e
    obtain ⟨x, rfl, h1⟩ := hp.one
    obtain ⟨a, xs, rfl, hx, r⟩ := RepB.tup h1
    exact call_tuple_of pins s σ H _ us Q I rx ⟨a, xs, rfl, .inr ⟨hx, k _ H (Same.refl H) (by simp only [Rep]; exact ⟨a, xs, rfl, hx, r⟩)⟩⟩
/-- isinstance(x, T) for the built-in T -/
def tyN : PV → Option String
  | .non => some "NoneType"
  | .bl _ => some "bool"
  | .int _ => some "int"
  | .str _ => some "str"
  | .tup _ => some "tuple"
  | .lst _ => some "list"
  | _ => none
def tyS : List String := ["NoneType", "bool", "int", "str", "tuple", "list"]
def isT (a b : String) : Bool := a == b || (a == "bool" && b == "int")
theorem tyN_mem {p : PV} {t : String} (h : tyN p = some t) : t ∈ tyS := by
  cases p <;> simp only [tyN, Option.some.injEq] at h <;> first | (subst h; decide) | cases h
theorem kitB_all : ∀ a ∈ tyS, ∀ b ∈ tyS, kitB a b = some (isT a b) := by decide +kernel
theorem RepB.tyX {K : PySem.W.Frag} {H : Hp} {p : PV} {v : V} {t : String} (h : RepB K H p v) (e : tyN p = some t) : TyX K H v (.type t) := by
  cases p <;> simp only [tyN, Option.some.injEq] at e <;> first | cases e | skip
  · have q : v = .non := by simpa only [RepB, Rep] using h
    subst q; exact .base .non
  · rw [RepB.bl h]; exact .base (.bl _)
  · rw [RepB.int h]; exact .base (.int _)
  · rw [(RepB.str h).1]; exact .base (.str _)
  · obtain ⟨a, xs, rfl, hx, _⟩ := RepB.tup h
    rcases hx with (hx | ⟨o, hx⟩) | ⟨o, its, n, hk, hc, _⟩
    · exact .base (.tup hx)
    · exact .fTuple hx
    · exact .kTuple hk hc
  · obtain ⟨a, xs, rfl, hx, _⟩ := RepB.lst h
    rcases hx with hx | ⟨o, hx⟩
    · exact .base (.lst hx)
    · exact .base (.frz hx)
def pyIsi : List PV → Option PV
  | [p, .ty b] => if tyS.contains b then (tyN p).map fun t => .bl (isT t b) else none
  | _ => none
theorem cv_isi : CallR X (.builtin "isinstance") (rVn X.K pyIsi) := by
  intro pins s σ H xs us Q I rx ⟨ps, z, hp, e, k⟩
  match ps, e, hp with
  | [p, .ty b], e, hp =>
    simp only [pyIsi] at e
    split at e
    rotate_left
    · cases e
    rename_i hb
    cases et : tyN p with
    | none => rw [et] at e; cases e
    | some t =>
      rw [et] at e; simp only [Option.map_some, Option.some.injEq] at e; subst e
      obtain ⟨x, y, rfl, h1, h2⟩ := hp.two
      have e2 := RepB.ty h2
      subst e2
      have hk := kitB_all t (tyN_mem et) b (by simpa using hb)
      exact call_isi pins s σ H _ us Q I rx ⟨x, _, _, _, _, rfl, .ty b, RepB.tyX h1 et, kit_ty hk, k _ H (Same.refl H) (by simp only [Rep])⟩
/-- isinstance(x, (T1, T2)) -/
def pyIsi2 : List PV → Option PV
  | [p, .tup [.ty b, .ty c]] => if tyS.contains b ∧ tyS.contains c then (tyN p).map fun t => .bl (isT t b || isT t c) else none
  | _ => none
end
end VL
set_option Elab.async false
set_option linter.all false
set_option maxRecDepth 100000
set_option maxHeartbeats 1000000
namespace VL
open PySem PySem.Spec L2
/-! ### operands: a value, or an owned slot that is looked at (lent) -/
inductive Hd where
  | v (p : PV)
  | b (i : Nat)
def keyP : Key → PV
  | .inl i => .int i
  | .inr s => .str s
def viewO : OV → PV
  | .lst ps => .lst ps
  | .dK ks vs => .dct (ks.map keyP) vs
def Hd.get (ρ : En) : Hd → Option PV
  | .v p => some p
  | .b i => match ρ[i]? with
    | some (.own o) => some (viewO o)
    | _ => none
def getAll (ρ : En) : List Hd → Option (List PV)
  | [] => some []
  | h :: hs => (h.get ρ).bind fun p => (getAll ρ hs).map (p :: ·)
def RHd (K : PySem.W.Frag) (σ : L2.St) : RR Hd V := fun _ H' h v => match h with
  | .v p => Rep K H' p v
  | .b i => ∃ a, v = .ref a ∧ σ[i]? = some (some (.ref a))
def RHds (K : PySem.W.Frag) (σ : L2.St) : RR (List Hd) (List V) := fun H H' hs vs => Paired (RHd K σ H H') hs vs
theorem anti_hd {K : PySem.W.Frag} {σ : L2.St} : Anti (RHd K σ) := fun _ _ _ _ _ _ h => h
theorem anti_hds {K : PySem.W.Frag} {σ : L2.St} : Anti (RHds K σ) := fun _ _ _ _ _ _ h => h
section
variable {K : PySem.W.Frag} {σ : L2.St} {H H1 H2 H3 : Hp} {ρ : En}
theorem RHd.mono (e : Ext H1 H2) : ∀ {h : Hd} {v : V}, RHd K σ H H1 h v → RHd K σ H3 H2 h v
  | .v p, v, h => Rep.mono e p v h
  | .b i, v, h => h
theorem RHds.mono (e : Ext H1 H2) : ∀ {h : List Hd} {v : List V}, RHds K σ H H1 h v → RHds K σ H3 H2 h v
  | _, _, .nil => .nil
  | _, _, .cons h t => .cons (RHd.mono e h) (RHds.mono e t)
theorem OVR.view {o : OV} {u : HO} {a : Addr} (r : OVR K H o u) (g : H a = some u) : RepB K H (viewO o) (.ref a) := by
  cases o with
  | lst ps => obtain ⟨xs, rfl, r⟩ := r; exact ⟨a, xs, rfl, .inl g, r⟩
  | dK ks ps =>
    obtain ⟨kvs, rfl, e, r⟩ := r
    refine ⟨a, kvs, rfl, .inl g, ?_, r⟩
    rw [← e, List.map_map]
    apply List.map_congr_left
    intro x _
    simp only [Function.comp]
    cases x.1 <;> rfl
theorem RHd.repB (F : FrR K ρ σ H2) {h : Hd} {v : V} {p : PV} (r : RHd K σ H H2 h v) (e : h.get ρ = some p) : RepB K H2 p v := by
  cases h with
  | v q => simp only [Hd.get, Option.some.injEq] at e; subst e; exact Rep.b r
  | b i =>
    simp only [Hd.get] at e
    split at e
    · rename_i o h0
      obtain ⟨a, e1, e2⟩ := r
      obtain ⟨b, u, e3, g, q⟩ := F.own h0
      rw [e2] at e3; cases e3
      cases e
      rw [e1]; exact q.view g
    · cases e
theorem RHds.repBs (F : FrR K ρ σ H2) : ∀ {hs : List Hd} {vs : List V} {ps : List PV}, RHds K σ H H2 hs vs → getAll ρ hs = some ps → RepBs K H2 ps vs
  | _, _, ps, .nil, e => by simp only [getAll, Option.some.injEq] at e; subst e; exact .nil
  | h :: hs, _, ps, .cons r t, e => by
    simp only [getAll] at e
    cases e1 : h.get ρ with
    | none => rw [e1] at e; cases e
    | some p =>
      rw [e1] at e
      cases e2 : getAll ρ hs with
      | none => rw [e2] at e; cases e
      | some qs =>
        rw [e2] at e
        simp only [Option.bind_some, Option.map_some, Option.some.injEq] at e; subst e
        exact .cons (RHd.repB F r e1) (RHds.repBs F t e2)
end
abbrev DO := En → R (Hd × En)
abbrev DOs := En → R (List Hd × En)
def VO (X : Cx) (W : WX) (e : Expr) (f : DO) : Prop := PE X e fun σ H Q => tP X.K X.mg W (RHd X.K σ) f σ H Q
def VOs (X : Cx) (W : WX) (es : List Expr) (f : DOs) : Prop := PA X es fun σ H Q => tP X.K X.mg W (RHds X.K σ) f σ H Q
/-- what a body (or a block) has around it -/
structure EC (X : Cx) (W : WX) (k : Nat) : Prop where
  tk : Takes X W
  room : Room k X.A
theorem EC.units {X : Cx} {W : WX} {k : Nat} (C : EC X W k) : X.A.units + 65 < cLine := by have := C.room.un; omega
section
variable {X : Cx} {W : WX} {pos : Pos} {a b c e : Expr} {es : List Expr} {f g h : DE} {t u : DT} {n : DN} {o o' : DO} {os : DOs}
def dOV (f : DE) : DO := fun ρ => (f ρ).bind fun (p, ρ') => .ok (.v p, ρ')
theorem vo_e (h : VE X W e f) : VO X W e (dOV f) :=
  h.imp fun σ H Q ⟨ρ, F, p⟩ => ⟨ρ, F, (Post.bind (r' := RVal X.K) anti_hd p).mono fun v H1 ⟨q, ρ1, s, F1, r, p1⟩ => p1 v H1 (ES.refl _ _ _) F1 r⟩
/-- a name as an operand -/
def dON (i : Nat) : DO := fun ρ => match ρ[i]? with
  | some (.val p) => .ok (.v p, ρ)
  | some (.own _) => .ok (.b i, ρ)
  | _ => .stuck
theorem vo_n {i : Nat} {x : Str} (h : PE X (.Name x pos) (tVar i)) : VO X W (.Name x pos) (dON i) := by
  refine h.imp fun σ H Q ⟨ρ, F, p⟩ => ?_
  unfold dON at p
  split at p
  · rename_i q e1
    obtain ⟨v, e2, r⟩ := F.val e1
    exact ⟨v, e2, p v H (ES.refl _ _ _) F r⟩
  · rename_i q e1
    obtain ⟨a, u, e2, g, r⟩ := F.own e1
    exact ⟨.ref a, e2, p (.ref a) H (ES.refl _ _ _) F ⟨a, rfl, e2⟩⟩
  · exact p.elim
def dO0 : DOs := fun ρ => .ok ([], ρ)
def dOs (f : DO) (g : DOs) : DOs := fun ρ => (f ρ).bind fun (h, ρ1) => (g ρ1).bind fun (hs, ρ2) => .ok (h :: hs, ρ2)
theorem vos_nil : VOs X W [] dO0 := pa_nil.imp fun σ H Q ⟨ρ, F, p⟩ => p [] H (ES.refl _ _ _) F .nil
theorem vos_cons (h1 : VO X W e o) (h2 : VOs X W es os) (hs : starEach (e :: es) X.env = (false, eval e X.env) :: starEach es X.env := by rfl) : VOs X W (e :: es) (dOs o os) := by
  refine (pa_cons h1 h2 hs).imp fun σ H Q ⟨ρ, F, p⟩ => ?_
  refine ⟨ρ, F, (Post.bind (r' := RHd X.K σ) anti_hds p).mono fun v H1 ⟨q, ρ1, s1, F1, r1, p1⟩ => ⟨ρ1, F1, ?_⟩⟩
  exact (Post.bind (r' := RHds X.K σ) anti_hds p1).mono fun vs H2 ⟨qs, ρ2, s2, F2, r2, p2⟩ => p2 (v :: vs) H2 (ES.refl _ _ _) F2 (.cons (RHd.mono s2.1.ext r1) r2)
/-! ### two operands -/
def opnd2 {α : Type} (F : PV → PV → Option α) (f g : DO) : En → R (α × En) := fun ρ => (f ρ).bind fun (h1, ρ1) => (g ρ1).bind fun (h2, ρ2) => (R.of ((h1.get ρ2).bind fun p => (h2.get ρ2).bind fun q => F p q)).bind fun z => .ok (z, ρ2)
theorem opnd_inv {α β : Type} {σ : L2.St} {H : Hp} {ρ : En} {rr : RR α β} {Q : β → Hp → Prop} {F : PV → PV → Option α} {h1 h2 : Hd}
    (p : Post X.K X.mg W σ H ρ rr Q ((R.of ((h1.get ρ).bind fun p => (h2.get ρ).bind fun q => F p q)).bind fun z => .ok (z, ρ))) :
    ∃ x y z, h1.get ρ = some x ∧ h2.get ρ = some y ∧ F x y = some z ∧ Post X.K X.mg W σ H ρ rr Q (.ok (z, ρ)) := by
  cases e1 : h1.get ρ with
  | none => rw [e1] at p; exact p.elim
  | some x =>
    cases e2 : h2.get ρ with
    | none => rw [e1, e2] at p; exact p.elim
    | some y =>
      cases e3 : F x y with
      | none => rw [e1, e2, Option.bind_some, Option.bind_some, e3] at p; exact p.elim
      | some z =>
        rw [e1, e2, Option.bind_some, Option.bind_some, e3] at p
        exact ⟨x, y, z, rfl, rfl, e3, p⟩
theorem opnd_read {ta tb : TE} {F : PV → PV → Option PV} (ha : ta = fun σ H Q => tP X.K X.mg W (RHd X.K σ) o σ H Q) (hb : tb = fun σ H Q => tP X.K X.mg W (RHd X.K σ) o' σ H Q) (σ : L2.St) (H : Hp) (Q : VK)
    (h : tP X.K X.mg W (RVal X.K) (opnd2 F o o') σ H Q) : tOp (rV2 X.K F) ta tb σ H Q := by
  subst ha hb
  obtain ⟨ρ, F0, p⟩ := h
  refine ⟨ρ, F0, (Post.bind (r' := RHd X.K σ) anti_val p).mono fun v H1 ⟨h1, ρ1, s1, F1, r1, p1⟩ => ⟨ρ1, F1, ?_⟩⟩
  refine (Post.bind (r' := RHd X.K σ) anti_val p1).mono fun w H2 ⟨h2, ρ2, s2, F2, r2, p2⟩ => ?_
  obtain ⟨x, y, z, e1, e2, e3, p3⟩ := opnd_inv p2
  exact ⟨x, y, z, RHd.repB (H := H) F2 (RHd.mono s2.1.ext r1) e1, RHd.repB F2 r2 e2, e3, fun v' H' sm r => p3 v' H' (ES.of_same sm) (F2.same sm) r⟩
theorem opnd_readN {F : PV → PV → Option OV} (σ : L2.St) (H : Hp) (Q : VK)
    (h : tP X.K X.mg W (RNew X.K) (opnd2 F o o') σ H Q) : tOp (rN2 X.K F) (fun σ H Q => tP X.K X.mg W (RHd X.K σ) o σ H Q) (fun σ H Q => tP X.K X.mg W (RHd X.K σ) o' σ H Q) σ H Q := by
  obtain ⟨ρ, F0, p⟩ := h
  refine ⟨ρ, F0, (Post.bind (r' := RHd X.K σ) anti_new p).mono fun v H1 ⟨h1, ρ1, s1, F1, r1, p1⟩ => ⟨ρ1, F1, ?_⟩⟩
  refine (Post.bind (r' := RHd X.K σ) anti_new p1).mono fun w H2 ⟨h2, ρ2, s2, F2, r2, p2⟩ => ?_
  obtain ⟨x, y, z, e1, e2, e3, p3⟩ := opnd_inv p2
  exact ⟨x, y, z, RHd.repB (H := H) F2 (RHd.mono s2.1.ext r1) e1, RHd.repB F2 r2 e2, e3, fun a u H' na sm g r => p3 (.ref a) H' (ES.of_same sm) (F2.same sm) ⟨a, u, rfl, na, g, r⟩⟩
/-- a op b -/
theorem ve_op {op : Operator} {F : PV → PV → Option PV} (ho : OpR X (binaryOp op) (rV2 X.K F)) (ha : VO X W a o) (hb : VO X W b o') : VE X W (.BinOp a op b pos) (opnd2 F o o') :=
  (pe_op ho ha hb).imp fun σ H Q h => opnd_read rfl rfl σ H Q h
theorem vn_op {op : Operator} {F : PV → PV → Option OV} (ho : OpR X (binaryOp op) (rN2 X.K F)) (ha : VO X W a o) (hb : VO X W b o') : VN X W (.BinOp a op b pos) (opnd2 F o o') :=
  (pe_op ho ha hb).imp fun σ H Q h => opnd_readN σ H Q h
theorem ve_cmp {op : CmpOp} {F : PV → PV → Option PV} (ho : OpR X (compareOp op) (rV2 X.K F)) (ha : VO X W a o) (hb : VO X W b o') (hm : behindInMarks op b = false := by rfl) : VE X W (.Compare a [op] [b] pos) (opnd2 F o o') :=
  (pe_cmpR ho ha hb hm).imp fun σ H Q h => opnd_read rfl rfl σ H Q h
theorem ve_ix {F : PV → PV → Option PV} (ho : IxR X (rV2 X.K F)) (ha : VO X W a o) (hb : VO X W b o') (hs : PlainIx b := by exact fun _ _ => rfl) : VE X W (.Subscript a b pos) (opnd2 F o o') :=
  (pe_ix ho ha hb hs).imp fun σ H Q h => opnd_read rfl rfl σ H Q h
/-- -a -/
def pyNeg : PV → Option PV
  | .int i => some (.int (-i))
  | _ => none
def opnd1 (F : PV → Option PV) (f : DO) : DE := fun ρ => (f ρ).bind fun (h1, ρ1) => (R.of ((h1.get ρ1).bind F)).bind fun z => .ok (z, ρ1)
theorem ve_neg (ha : VO X W a o) : VE X W (.UnaryOp .USub a pos) (opnd1 pyNeg o) := by
  refine (pe_un un_neg ha).imp fun σ H Q ⟨ρ, F0, p⟩ => ?_
  refine ⟨ρ, F0, (Post.bind (r' := RHd X.K σ) anti_val p).mono fun v H1 ⟨h1, ρ1, s1, F1, r1, p1⟩ => ?_⟩
  dsimp only at p1
  cases e1 : h1.get ρ1 with
  | none => rw [e1] at p1; exact p1.elim
  | some x =>
    rw [e1, Option.bind_some] at p1
    cases x <;> first | exact p1.elim | skip
    exact ⟨_, RepB.int (RHd.repB F1 r1 e1), p1 _ H1 (ES.refl _ _ _) F1 (by simp only [RVal, Rep])⟩
/-! ### tests -/
/-- a value that is a bool, as a test -/
def dTst (f : DE) : DT := fun ρ => (f ρ).bind fun (p, ρ') => match p with
  | .bl b => .ok (b, ρ')
  | _ => .stuck
theorem dTst_read {σ : L2.St} {H : Hp} {Q : Bool → Hp → Prop} (h : tP X.K X.mg W RBool (dTst f) σ H Q) : tP X.K X.mg W (RVal X.K) f σ H fun x H' => ∃ k, x = .bl k ∧ Q k H' := by
  obtain ⟨ρ, F0, p⟩ := h
  refine ⟨ρ, F0, (Post.bind (r' := RVal X.K) anti_bool p).mono fun v H1 ⟨q, ρ1, s1, F1, r1, p1⟩ => ?_⟩
  cases q <;> first | exact p1.elim | skip
  rename_i k
  have e : v = .bl k := by simpa only [RVal, Rep] using r1
  exact ⟨k, e, p1 _ H1 (ES.refl _ _ _) F1 rfl⟩
theorem vt_cmp {op : CmpOp} {F : PV → PV → Option PV} (ho : OpR X (compareOp op) (rV2 X.K F)) (ha : VO X W a o) (hb : VO X W b o') (hm : behindInMarks op b = false := by rfl) : VT X W (.Compare a [op] [b] pos) (dTst (opnd2 F o o')) :=
  (pt_cmpR ho ha hb hm).imp fun σ H Q h => opnd_read rfl rfl σ H _ (dTst_read h)
theorem vt_val (h : VE X W e f) (he : ∀ whole, isTrue e X.env whole = (do let v ← whole; standAt e.pos; holding [v] (truthy v)) := by intro _; rfl) : VT X W e (dTst f) :=
  (pt_val h he).imp fun σ H Q h => dTst_read h
def dAnd (t u : DT) : DT := fun ρ => (t ρ).bind fun (b, ρ1) => if b = true then u ρ1 else .ok (false, ρ1)
def dOr (t u : DT) : DT := fun ρ => (t ρ).bind fun (b, ρ1) => if b = true then .ok (true, ρ1) else u ρ1
def dNot (t : DT) : DT := fun ρ => (t ρ).bind fun (b, ρ1) => .ok (!b, ρ1)
variable {es' : List Expr}
theorem vw_and1 (ha : VT X W a t) : VW X W (.BoolOp .And [a] pos) t := pw_and1 ha
theorem vw_or1 (ha : VT X W a t) : VW X W (.BoolOp .Or [a] pos) t := pw_or1 ha
theorem vw_and (ha : VT X W a t) (hb : VW X W (.BoolOp .And (b :: es') pos) u) : VW X W (.BoolOp .And (a :: b :: es') pos) (dAnd t u) := by
  refine (pw_and ha hb).imp fun σ H Q ⟨ρ, F0, p⟩ => ?_
  refine ⟨ρ, F0, (Post.bind (r' := RBool) anti_bool p).mono fun v H1 ⟨q, ρ1, s1, F1, r1, p1⟩ => ?_⟩
  have e : q = v := r1
  subst e
  dsimp only at p1
  cases q with
  | true => rw [if_pos rfl] at p1 ⊢; exact ⟨ρ1, F1, p1⟩
  | false => rw [if_neg Bool.false_ne_true] at p1 ⊢; exact p1 false H1 (ES.refl _ _ _) F1 rfl
theorem vw_or (ha : VT X W a t) (hb : VW X W (.BoolOp .Or (b :: es') pos) u) : VW X W (.BoolOp .Or (a :: b :: es') pos) (dOr t u) := by
  refine (pw_or ha hb).imp fun σ H Q ⟨ρ, F0, p⟩ => ?_
  refine ⟨ρ, F0, (Post.bind (r' := RBool) anti_bool p).mono fun v H1 ⟨q, ρ1, s1, F1, r1, p1⟩ => ?_⟩
  have e : q = v := r1
  subst e
  dsimp only at p1
  cases q with
  | true => rw [if_pos rfl] at p1 ⊢; exact p1 true H1 (ES.refl _ _ _) F1 rfl
  | false => rw [if_neg Bool.false_ne_true] at p1 ⊢; exact ⟨ρ1, F1, p1⟩
theorem vt_w (h : VW X W e t) : VT X W e t := h.pt
theorem vt_not (ha : VT X W a t) : VT X W (.UnaryOp .Not a pos) (dNot t) := by
  refine (pt_not ha).imp fun σ H Q ⟨ρ, F0, p⟩ => ?_
  refine ⟨ρ, F0, (Post.bind (r' := RBool) anti_bool p).mono fun v H1 ⟨q, ρ1, s1, F1, r1, p1⟩ => ?_⟩
  have e : q = v := r1
  subst e
  exact p1 _ H1 (ES.refl _ _ _) F1 rfl
/-- and, or, not of bools as values -/
def dAndV (f g : DE) : DE := fun ρ => (f ρ).bind fun (p, ρ1) => match p with
  | .bl true => g ρ1
  | .bl false => .ok (.bl false, ρ1)
  | _ => .stuck
def dOrV (f g : DE) : DE := fun ρ => (f ρ).bind fun (p, ρ1) => match p with
  | .bl false => g ρ1
  | .bl true => .ok (.bl true, ρ1)
  | _ => .stuck
def dNotV (f : DE) : DE := fun ρ => (f ρ).bind fun (p, ρ1) => match p with
  | .bl b => .ok (.bl !b, ρ1)
  | _ => .stuck
theorem ve_one {op} (ha : VE X W a f) : VE X W (.BoolOp op [a] pos) f := pe_one ha
theorem ve_and (ha : VE X W a f) (hb : VE X W (.BoolOp .And (b :: es') pos) g) : VE X W (.BoolOp .And (a :: b :: es') pos) (dAndV f g) := by
  refine (pe_and ha hb).imp fun σ H Q ⟨ρ, F0, p⟩ => ?_
  refine ⟨ρ, F0, (Post.bind (r' := RVal X.K) anti_val p).mono fun v H1 ⟨q, ρ1, s1, F1, r1, p1⟩ => ?_⟩
  cases q <;> first | exact p1.elim | skip
  rename_i k
  have e : v = .bl k := by simpa only [RVal, Rep] using r1
  refine ⟨k, e, ?_⟩
  cases k with
  | true => rw [if_pos rfl]; exact ⟨ρ1, F1, p1⟩
  | false => rw [if_neg Bool.false_ne_true]; exact p1 (.bl false) H1 (ES.refl _ _ _) F1 (by simp only [RVal, Rep])
theorem ve_or (ha : VE X W a f) (hb : VE X W (.BoolOp .Or (b :: es') pos) g) : VE X W (.BoolOp .Or (a :: b :: es') pos) (dOrV f g) := by
  refine (pe_or ha hb).imp fun σ H Q ⟨ρ, F0, p⟩ => ?_
  refine ⟨ρ, F0, (Post.bind (r' := RVal X.K) anti_val p).mono fun v H1 ⟨q, ρ1, s1, F1, r1, p1⟩ => ?_⟩
  cases q <;> first | exact p1.elim | skip
  rename_i k
  have e : v = .bl k := by simpa only [RVal, Rep] using r1
  refine ⟨k, e, ?_⟩
  cases k with
  | true => rw [if_pos rfl]; exact p1 (.bl true) H1 (ES.refl _ _ _) F1 (by simp only [RVal, Rep])
  | false => rw [if_neg Bool.false_ne_true]; exact ⟨ρ1, F1, p1⟩
theorem ve_not (ha : VE X W a f) : VE X W (.UnaryOp .Not a pos) (dNotV f) := by
  refine (pe_not ha).imp fun σ H Q ⟨ρ, F0, p⟩ => ?_
  refine ⟨ρ, F0, (Post.bind (r' := RVal X.K) anti_val p).mono fun v H1 ⟨q, ρ1, s1, F1, r1, p1⟩ => ?_⟩
  cases q <;> first | exact p1.elim | skip
  rename_i k
  have e : v = .bl k := by simpa only [RVal, Rep] using r1
  exact ⟨k, e, p1 _ H1 (ES.refl _ _ _) F1 (by simp only [RVal, Rep])⟩
/-- a if t else b -/
def dIfE {α : Type} (t : DT) (f g : En → R (α × En)) : En → R (α × En) := fun ρ => (t ρ).bind fun (b, ρ1) => if b = true then f ρ1 else g ρ1
theorem ve_if (hc : VT X W c t) (ha : VE X W a f) (hb : VE X W b g) : VE X W (.IfExp c a b pos) (dIfE t f g) := by
  refine (pe_ifExp hc ha hb).imp fun σ H Q ⟨ρ, F0, p⟩ => ?_
  refine ⟨ρ, F0, (Post.bind (r' := RBool) anti_val p).mono fun v H1 ⟨q, ρ1, s1, F1, r1, p1⟩ => ?_⟩
  have e : q = v := r1
  subst e
  dsimp only at p1
  cases q with
  | true => rw [if_pos rfl] at p1 ⊢; exact ⟨ρ1, F1, p1⟩
  | false => rw [if_neg Bool.false_ne_true] at p1 ⊢; exact ⟨ρ1, F1, p1⟩
theorem vn_if {n' : DN} (hc : VT X W c t) (ha : VN X W a n) (hb : VN X W b n') : VN X W (.IfExp c a b pos) (dIfE t n n') := by
  refine (pe_ifExp hc ha hb).imp fun σ H Q ⟨ρ, F0, p⟩ => ?_
  refine ⟨ρ, F0, (Post.bind (r' := RBool) anti_new p).mono fun v H1 ⟨q, ρ1, s1, F1, r1, p1⟩ => ?_⟩
  have e : q = v := r1
  subst e
  dsimp only at p1
  cases q with
  | true => rw [if_pos rfl] at p1 ⊢; exact ⟨ρ1, F1, p1⟩
  | false => rw [if_neg Bool.false_ne_true] at p1 ⊢; exact ⟨ρ1, F1, p1⟩
/-- a < b < c -/
def dChain (F G : PV → PV → Option PV) (f g k : DO) : DE := fun ρ => (f ρ).bind fun (h1, ρ1) => (g ρ1).bind fun (h2, ρ2) =>
  (R.of ((h1.get ρ2).bind fun p => (h2.get ρ2).bind fun q => F p q)).bind fun z => match z with
    | .bl true => (k ρ2).bind fun (h3, ρ3) => (R.of ((h2.get ρ3).bind fun p => (h3.get ρ3).bind fun q => G p q)).bind fun z => .ok (z, ρ3)
    | .bl false => .ok (.bl false, ρ2)
    | _ => .stuck
theorem chain_read {o3 : DO} {F G : PV → PV → Option PV} (σ : L2.St) (H : Hp) (Q : VK) (h : tP X.K X.mg W (RVal X.K) (dChain F G o o' o3) σ H Q) :
    tChain (rV2 X.K F) (rV2 X.K G) (fun σ H Q => tP X.K X.mg W (RHd X.K σ) o σ H Q) (fun σ H Q => tP X.K X.mg W (RHd X.K σ) o' σ H Q) (fun σ H Q => tP X.K X.mg W (RHd X.K σ) o3 σ H Q) σ H Q := by
  obtain ⟨ρ, F0, p⟩ := h
  refine ⟨ρ, F0, (Post.bind (r' := RHd X.K σ) anti_val p).mono fun v H1 ⟨h1, ρ1, s1, F1, r1, p1⟩ => ⟨ρ1, F1, ?_⟩⟩
  refine (Post.bind (r' := RHd X.K σ) anti_val p1).mono fun w H2 ⟨h2, ρ2, s2, F2, r2, p2⟩ => ?_
  cases e1 : h1.get ρ2 with
  | none => simp only [e1] at p2; exact p2.elim
  | some x =>
    cases e2 : h2.get ρ2 with
    | none => simp only [e1, e2] at p2; exact p2.elim
    | some y =>
      cases e3 : F x y with
      | none => simp only [e1, e2, e3, Option.bind_some] at p2; exact p2.elim
      | some z =>
        simp only [e1, e2, e3, Option.bind_some, R.of_some, R.bind_ok] at p2
        refine ⟨x, y, z, RHd.repB (H := H) F2 (RHd.mono s2.1.ext r1) e1, RHd.repB F2 r2 e2, e3, fun zv H3 sm r3 => ?_⟩
        cases z <;> first | exact p2.elim | skip
        rename_i k
        have e : zv = .bl k := by simpa only [Rep] using r3
        refine ⟨k, e, ?_⟩
        cases k with
        | false => exact p2 (.bl false) H3 (ES.of_same sm) (F2.same sm) (by simp only [RVal, Rep])
        | true =>
          have F3 := F2.same sm
          have p3 := Post.rebase anti_val (ES.of_same sm) p2
          refine ⟨ρ2, F3, (Post.bind (r' := RHd X.K σ) anti_val p3).mono fun u H4 ⟨h3, ρ3, s3, F4, r4, p4⟩ => ?_⟩
          obtain ⟨x', y', z', e1', e2', e3', p5⟩ := opnd_inv p4
          exact ⟨x', y', z', RHd.repB (H := H) F4 (RHd.mono ((Ext.of_same sm).trans s3.1.ext) r2) e1', RHd.repB F4 r4 e2', e3', fun v' H' sm' r => p5 v' H' (ES.of_same sm') (F4.same sm') r⟩
theorem ve_chain {op op' : CmpOp} {o3 : DO} {F G : PV → PV → Option PV} (ho : OpR X (compareOp op) (rV2 X.K F)) (ho' : OpR X (compareOp op') (rV2 X.K G)) (ha : VO X W a o) (hb : VO X W b o') (hc : VO X W c o3)
    (hm : lastMarks [op, op'] [b, c] = false := by with_unfolding_all rfl) : VE X W (.Compare a [op, op'] [b, c] pos) (dChain F G o o' o3) :=
  (pe_chain ho ho' ha hb hc hm).imp fun σ H Q h => chain_read σ H Q h
theorem vt_chain {op op' : CmpOp} {o3 : DO} {F G : PV → PV → Option PV} (ho : OpR X (compareOp op) (rV2 X.K F)) (ho' : OpR X (compareOp op') (rV2 X.K G)) (ha : VO X W a o) (hb : VO X W b o') (hc : VO X W c o3)
    (hm : lastMarks [op, op'] [b, c] = false := by with_unfolding_all rfl) : VT X W (.Compare a [op, op'] [b, c] pos) (dTst (dChain F G o o' o3)) :=
  (pt_chain ho ho' ha hb hc hm).imp fun σ H Q h => chain_read σ H _ (dTst_read h)
/-! ### displays -/
def dA0 : DA := fun ρ => .ok ([], ρ)
def dA (f : DE) (g : DA) : DA := fun ρ => (f ρ).bind fun (p, ρ1) => (g ρ1).bind fun (ps, ρ2) => .ok (p :: ps, ρ2)
variable {as : DA}
theorem va_nil : VA X W [] dA0 := pa_nil.imp fun σ H Q ⟨ρ, F, p⟩ => p [] H (ES.refl _ _ _) F repL_nil
theorem va_cons (h1 : VE X W e f) (h2 : VA X W es as) (hs : starEach (e :: es) X.env = (false, eval e X.env) :: starEach es X.env := by rfl) : VA X W (e :: es) (dA f as) := by
  refine (pa_cons h1 h2 hs).imp fun σ H Q ⟨ρ, F, p⟩ => ?_
  refine ⟨ρ, F, (Post.bind (r' := RVal X.K) anti_vals p).mono fun v H1 ⟨q, ρ1, s1, F1, r1, p1⟩ => ⟨ρ1, F1, ?_⟩⟩
  exact (Post.bind (r' := RVals X.K) anti_vals p1).mono fun vs H2 ⟨qs, ρ2, s2, F2, r2, p2⟩ => p2 (v :: vs) H2 (ES.refl _ _ _) F2 (repL_cons (Rep.mono s2.1.ext _ _ r1) r2)
def dTup (g : DA) : DE := fun ρ => (g ρ).bind fun (ps, ρ1) => if ps.length ≤ 1000 then .ok (.tup ps, ρ1) else .stuck
def dLst (g : DA) : DN := fun ρ => (g ρ).bind fun (ps, ρ1) => if ps.length ≤ 1000 then .ok (.lst ps, ρ1) else .stuck
theorem le1000 {n : Nat} (h : n ≤ 1000) : n ≤ sizeLine := Nat.le_of_lt (small1000 h)
theorem ve_tup {x1} (h : VA X W es as) : VE X W (.Tuple es x1 pos) (dTup as) := by
  refine (pe_tup h).imp fun σ H Q ⟨ρ, F, p⟩ => ?_
  refine ⟨ρ, F, (Post.bind (r' := RVals X.K) anti_val p).mono fun v H1 ⟨q, ρ1, s1, F1, r1, p1⟩ => ?_⟩
  dsimp only at p1
  by_cases hl : q.length ≤ 1000
  · rw [if_pos hl] at p1
    refine ⟨by rw [← RepL.length r1]; exact le1000 hl, fun l hn => ?_⟩
    have sm := same_upd (o := .tup v) hn
    exact p1 _ _ (ES.of_same sm) (F1.same sm) (by simp only [RVal, Rep]; exact ⟨l, v, rfl, SqT.of upd_same, RepL.mono (Ext.of_same sm) _ _ r1⟩)
  · rw [if_neg hl] at p1; exact p1.elim
theorem vn_lst (h : VA X W es as) : VN X W (.List es pos) (dLst as) := by
  refine (pe_lst h).imp fun σ H Q ⟨ρ, F, p⟩ => ?_
  refine ⟨ρ, F, (Post.bind (r' := RVals X.K) anti_new p).mono fun v H1 ⟨q, ρ1, s1, F1, r1, p1⟩ => ?_⟩
  dsimp only at p1
  by_cases hl : q.length ≤ 1000
  · rw [if_pos hl] at p1
    refine ⟨by rw [← RepL.length r1]; exact le1000 hl, fun l hn => ?_⟩
    have sm := same_upd (o := .lst v) hn
    exact p1 _ _ (ES.of_same sm) (F1.same sm) ⟨l, _, rfl, hn, upd_same, v, rfl, RepL.mono (Ext.of_same sm) _ _ r1⟩
  · rw [if_neg hl] at p1; exact p1.elim
/-! ### calls of built-ins -/
def dCB {α : Type} (F : List PV → Option α) (g : DOs) : En → R (α × En) := fun ρ => (g ρ).bind fun (hs, ρ1) => (R.of ((getAll ρ1 hs).bind F)).bind fun z => .ok (z, ρ1)
theorem cb_inv {α β : Type} {σ : L2.St} {H : Hp} {ρ : En} {rr : RR α β} {Q : β → Hp → Prop} {F : List PV → Option α} {hs : List Hd}
    (p : Post X.K X.mg W σ H ρ rr Q ((R.of ((getAll ρ hs).bind F)).bind fun z => .ok (z, ρ))) : ∃ ps z, getAll ρ hs = some ps ∧ F ps = some z ∧ Post X.K X.mg W σ H ρ rr Q (.ok (z, ρ)) := by
  cases e1 : getAll ρ hs with
  | none => rw [e1] at p; exact p.elim
  | some x =>
    cases e3 : F x with
    | none => rw [e1, Option.bind_some, e3] at p; exact p.elim
    | some z =>
      rw [e1, Option.bind_some, e3] at p
      exact ⟨x, z, rfl, e3, p⟩
theorem cb_read {F : List PV → Option PV} (σ : L2.St) (H : Hp) (Q : VK) (h : tP X.K X.mg W (RVal X.K) (dCB F os) σ H Q) : tCB (rVn X.K F) (fun σ H Q => tP X.K X.mg W (RHds X.K σ) os σ H Q) σ H Q := by
  obtain ⟨ρ, F0, p⟩ := h
  refine ⟨ρ, F0, (Post.bind (r' := RHds X.K σ) anti_val p).mono fun vs H1 ⟨hs, ρ1, s1, F1, r1, p1⟩ => ?_⟩
  obtain ⟨ps, z, e1, e2, p2⟩ := cb_inv p1
  exact ⟨ps, z, RHds.repBs (H := H) F1 r1 e1, e2, fun v H' sm r => p2 v H' (ES.of_same sm) (F1.same sm) r⟩
theorem cb_readN {F : List PV → Option OV} (σ : L2.St) (H : Hp) (Q : VK) (h : tP X.K X.mg W (RNew X.K) (dCB F os) σ H Q) : tCB (rNn X.K F) (fun σ H Q => tP X.K X.mg W (RHds X.K σ) os σ H Q) σ H Q := by
  obtain ⟨ρ, F0, p⟩ := h
  refine ⟨ρ, F0, (Post.bind (r' := RHds X.K σ) anti_new p).mono fun vs H1 ⟨hs, ρ1, s1, F1, r1, p1⟩ => ?_⟩
  obtain ⟨ps, z, e1, e2, p2⟩ := cb_inv p1
  exact ⟨ps, z, RHds.repBs (H := H) F1 r1 e1, e2, fun a u H' na sm g r => p2 (.ref a) H' (ES.of_same sm) (F1.same sm) ⟨a, u, rfl, na, g, r⟩⟩
variable {x : Str} {p : Pos} {id T : String}
theorem ve_callB {F : List PV → Option PV} (hc : CallR X (.builtin id) (rVn X.K F)) (hg : Gl X x) (hm : X.mg x = none) (hv : bootBuiltins x = some (.builtin id)) (ha : VOs X W (e :: es) os) (hn : x ≠ "__name__" := by decide) (hdb : (x == ("__debug__" : Str)) = false := by decide)
    (he : starEach (e :: es) X.env = (false, eval e X.env) :: starEach es X.env := by rfl) (hpl : (backTo pos (starEach es X.env)).any (·.1) = false := by rfl) : VE X W (.Call (.Name x p) (e :: es) [] pos) (dCB F os) :=
  (pe_callB hc hg hm hv ha hn hdb he hpl).imp fun σ H Q h => cb_read σ H Q h
theorem ve_callT {F : List PV → Option PV} (hc : CallR X (.type T) (rVn X.K F)) (hg : Gl X x) (hm : X.mg x = none) (hv : bootBuiltins x = some (.type T)) (ha : VOs X W (e :: es) os) (hn : x ≠ "__name__" := by decide) (hdb : (x == ("__debug__" : Str)) = false := by decide)
    (he : starEach (e :: es) X.env = (false, eval e X.env) :: starEach es X.env := by rfl) (hpl : (backTo pos (starEach es X.env)).any (·.1) = false := by rfl) : VE X W (.Call (.Name x p) (e :: es) [] pos) (dCB F os) :=
  (pe_callTy hc hg hm hv ha hn hdb he hpl).imp fun σ H Q h => cb_read σ H Q h
theorem vn_callB {F : List PV → Option OV} (hc : CallR X (.builtin id) (rNn X.K F)) (hg : Gl X x) (hm : X.mg x = none) (hv : bootBuiltins x = some (.builtin id)) (ha : VOs X W (e :: es) os) (hn : x ≠ "__name__" := by decide) (hdb : (x == ("__debug__" : Str)) = false := by decide)
    (he : starEach (e :: es) X.env = (false, eval e X.env) :: starEach es X.env := by rfl) (hpl : (backTo pos (starEach es X.env)).any (·.1) = false := by rfl) : VN X W (.Call (.Name x p) (e :: es) [] pos) (dCB F os) :=
  (pe_callB hc hg hm hv ha hn hdb he hpl).imp fun σ H Q h => cb_readN σ H Q h
theorem vn_callT {F : List PV → Option OV} (hc : CallR X (.type T) (rNn X.K F)) (hg : Gl X x) (hm : X.mg x = none) (hv : bootBuiltins x = some (.type T)) (ha : VOs X W (e :: es) os) (hn : x ≠ "__name__" := by decide) (hdb : (x == ("__debug__" : Str)) = false := by decide)
    (he : starEach (e :: es) X.env = (false, eval e X.env) :: starEach es X.env := by rfl) (hpl : (backTo pos (starEach es X.env)).any (·.1) = false := by rfl) : VN X W (.Call (.Name x p) (e :: es) [] pos) (dCB F os) :=
  (pe_callTy hc hg hm hv ha hn hdb he hpl).imp fun σ H Q h => cb_readN σ H Q h
/-! ### slices -/
abbrev DP := En → R (Option Int × En)
def RPart : RR (Option Int) (Option Int) := fun _ _ a b => a = b
theorem anti_part : Anti RPart := fun _ _ _ _ _ _ h => h
def VP (X : Cx) (W : WX) (e : Option Expr) (f : DP) : Prop := PO X e (tP X.K X.mg W RPart f)
theorem PO.imp {e : Option Expr} {t t' : TO} (h : PO X e t) (m : ∀ σ H Q, t' σ H Q → t σ H Q) : PO X e t' := ⟨fun pins s σ H Q I h' => h.run pins s σ H Q I (m σ H Q h')⟩
def dP0 : DP := fun ρ => .ok (none, ρ)
def dP1 (f : DE) : DP := fun ρ => (f ρ).bind fun (p, ρ1) => match p with
  | .int i => .ok (some i, ρ1)
  | _ => .stuck
theorem vp_none : VP X W none dP0 := PO.imp po_none fun σ H Q ⟨ρ, F, p⟩ => p none H (ES.refl _ _ _) F rfl
theorem vp_some (h : VE X W e f) : VP X W (some e) (dP1 f) := by
  refine PO.imp (po_some h) fun σ H Q ⟨ρ, F0, p⟩ => ?_
  refine ⟨ρ, F0, (Post.bind (r' := RVal X.K) anti_part p).mono fun v H1 ⟨q, ρ1, s1, F1, r1, p1⟩ => ?_⟩
  cases q <;> first | exact p1.elim | skip
  rename_i k
  have e : v = .int k := by simpa only [RVal, Rep] using r1
  exact ⟨k, e, p1 _ H1 (ES.refl _ _ _) F1 rfl⟩
def dSl {α : Type} (F : PV → Option Int → Option Int → Option α) (f : DO) (l u : DP) : En → R (α × En) := fun ρ => (f ρ).bind fun (h, ρ1) => (l ρ1).bind fun (lo, ρ2) => (u ρ2).bind fun (hi, ρ3) => (R.of ((h.get ρ3).bind fun p => F p lo hi)).bind fun z => .ok (z, ρ3)
theorem sl_inv {α β : Type} {σ : L2.St} {H : Hp} {ρ : En} {rr : RR α β} {Q : β → Hp → Prop} {F : PV → Option α} {h : Hd}
    (p : Post X.K X.mg W σ H ρ rr Q ((R.of ((h.get ρ).bind F)).bind fun z => .ok (z, ρ))) : ∃ x z, h.get ρ = some x ∧ F x = some z ∧ Post X.K X.mg W σ H ρ rr Q (.ok (z, ρ)) := by
  cases e1 : h.get ρ with
  | none => rw [e1] at p; exact p.elim
  | some x =>
    cases e3 : F x with
    | none => rw [e1, Option.bind_some, e3] at p; exact p.elim
    | some z =>
      rw [e1, Option.bind_some, e3] at p
      exact ⟨x, z, rfl, e3, p⟩
variable {lo hi : Option Expr} {dl du : DP} {p2 : Pos}
theorem ve_slice {F : PV → Option Int → Option Int → Option PV} (hr : SlR X (rSlV X.K F)) (he : VO X W e o) (hl : VP X W lo dl) (hu : VP X W hi du) : VE X W (.Subscript e (.Slice lo hi none p2) pos) (dSl F o dl du) := by
  refine (pe_slice hr he hl hu).imp fun σ H Q ⟨ρ, F0, p⟩ => ?_
  refine ⟨ρ, F0, (Post.bind (r' := RHd X.K σ) anti_val p).mono fun v H1 ⟨h1, ρ1, s1, F1, r1, p1⟩ => ⟨ρ1, F1, ?_⟩⟩
  refine (Post.bind (r' := RPart) anti_val p1).mono fun l H2 ⟨l', ρ2, s2, F2, r2, p2⟩ => ⟨ρ2, F2, ?_⟩
  refine (Post.bind (r' := RPart) anti_val p2).mono fun u H3 ⟨u', ρ3, s3, F3, r3, p3⟩ => ?_
  have e2 : l' = l := r2
  have e3 : u' = u := r3
  subst e2 e3
  obtain ⟨x, z, e1, e2, p4⟩ := sl_inv p3
  exact ⟨x, z, RHd.repB (H := H) F3 (RHd.mono (s2.1.ext.trans s3.1.ext) r1) e1, e2, fun v' H' sm r => p4 v' H' (ES.of_same sm) (F3.same sm) r⟩
theorem vn_slice {F : PV → Option Int → Option Int → Option OV} (hr : SlR X (rSlN X.K F)) (he : VO X W e o) (hl : VP X W lo dl) (hu : VP X W hi du) : VN X W (.Subscript e (.Slice lo hi none p2) pos) (dSl F o dl du) := by
  refine (pe_slice hr he hl hu).imp fun σ H Q ⟨ρ, F0, p⟩ => ?_
  refine ⟨ρ, F0, (Post.bind (r' := RHd X.K σ) anti_new p).mono fun v H1 ⟨h1, ρ1, s1, F1, r1, p1⟩ => ⟨ρ1, F1, ?_⟩⟩
  refine (Post.bind (r' := RPart) anti_new p1).mono fun l H2 ⟨l', ρ2, s2, F2, r2, p2⟩ => ⟨ρ2, F2, ?_⟩
  refine (Post.bind (r' := RPart) anti_new p2).mono fun u H3 ⟨u', ρ3, s3, F3, r3, p3⟩ => ?_
  have e2 : l' = l := r2
  have e3 : u' = u := r3
  subst e2 e3
  obtain ⟨x, z, e1, e2, p4⟩ := sl_inv p3
  exact ⟨x, z, RHd.repB (H := H) F3 (RHd.mono (s2.1.ext.trans s3.1.ext) r1) e1, e2, fun a w H' na sm g r => p4 (.ref a) H' (ES.of_same sm) (F3.same sm) ⟨a, w, rfl, na, g, r⟩⟩
end
end VL
set_option Elab.async false
set_option linter.all false
set_option maxRecDepth 100000
set_option maxHeartbeats 1000000
namespace VL
open PySem PySem.Spec L2
/-! ### what a def gives back -/
inductive Rt where
  | val (p : PV)
  | own (o : OV)
abbrev DF := List Slot → R (Rt × List Slot)
def RRt (K : PySem.W.Frag) : RR Rt V := fun H H' rt v => match rt with
  | .val p => Rep K H' p v
  | .own o => RNew K H H' o v
theorem anti_rt {K : PySem.W.Frag} : Anti (RRt K) := fun H H1 H' a b g h => by
  cases a with
  | val p => exact h
  | own o => exact anti_new _ _ _ _ _ g h
/-- a def's promise -/
def spV (K : PySem.W.Frag) (mg : Str → Option Value) (F : DF) : Sp := fun vs H Q E => tP K mg (fun c d _ H => E c d H) (RRt K) F (vs.map some) H Q
theorem spV_len {K : PySem.W.Frag} {mg : Str → Option Value} {F : DF} {n : Nat} (hF : ∀ ss, ss.length ≠ n → F ss = .stuck) {vs : List V} {H : Hp} {Q : VK} {E : XK} (h : spV K mg F vs H Q E) : vs.length = n := by
  obtain ⟨ss, F0, p⟩ := h
  by_cases e : ss.length = n
  · rw [← e, F0.len, List.length_map]
  · rw [hF ss e] at p; exact p.elim
/-! ### handing slots over, taking them back -/
def slotsOf (ρ : En) : List Hd → Option (List Slot)
  | [] => some []
  | .v p :: hs => (slotsOf ρ hs).map (.val p :: ·)
  | .b i :: hs => match ρ[i]? with
    | some (.own o) => (slotsOf ρ hs).map (.own o :: ·)
    | _ => none
def lends : List Hd → List Nat
  | [] => []
  | .v _ :: hs => lends hs
  | .b i :: hs => i :: lends hs
def ndup : List Nat → Bool
  | [] => true
  | i :: is => !is.contains i && ndup is
/-- what was lent comes back; none if it doesn't -/
def back : List Hd → List Slot → En → Option En
  | [], _, ρ => some ρ
  | .v _ :: hs, _ :: ss, ρ => back hs ss ρ
  | .b i :: hs, .own o :: ss, ρ => back hs ss (ρ.set i (.own o))
  | _, _, _ => none
def dCall (F : DF) (g : DOs) : En → R (Rt × En) := fun ρ => (g ρ).bind fun (hs, ρ1) => (R.of (slotsOf ρ1 hs)).bind fun ss => if ndup (lends hs) = true then
    match F ss with
    | .ok (rt, outs) => (R.of (back hs outs ρ1)).bind fun ρ2 => .ok (rt, ρ2)
    | .exc e outs => (R.of (back hs outs ρ1)).bind fun ρ2 => .exc e ρ2
    | .stuck => .stuck
  else .stuck
section
variable {K : PySem.W.Frag} {σ : L2.St} {H H' H0 : Hp} {ρ : En}
theorem ndup_cons {i : Nat} {is : List Nat} (h : ndup (i :: is) = true) : i ∉ is ∧ ndup is = true := by
  simp only [ndup, Bool.and_eq_true, Bool.not_eq_true', List.contains_eq_mem, decide_eq_false_iff_not] at h
  exact h
theorem slots_fr (F : FrR K ρ σ H) : ∀ {hs : List Hd} {vs : List V} {ss : List Slot}, RHds K σ H0 H hs vs → slotsOf ρ hs = some ss → ndup (lends hs) = true →
    FrR K ss (vs.map some) H ∧ (∀ (j : Nat) (o : OV), ss[j]? = some (.own o) → ∃ i a, hs[j]? = some (.b i) ∧ i ∈ lends hs ∧ ρ[i]? = some (.own o) ∧ σ[i]? = some (some (.ref a)) ∧ vs[j]? = some (.ref a))
  | _, _, ss, .nil, e, _ => by
    simp only [slotsOf, Option.some.injEq] at e; subst e
    exact ⟨⟨rfl, fun i s ov h => by simp at h, fun i j o o' a h => by simp at h⟩, fun j o h => by simp at h⟩
  | .v p :: hs, v :: vs, ss, .cons r t, e, n => by
    simp only [slotsOf] at e
    cases q : slotsOf ρ hs with
    | none => rw [q] at e; cases e
    | some ss' =>
      rw [q] at e; simp only [Option.map_some, Option.some.injEq] at e; subst e
      obtain ⟨F', g⟩ := slots_fr F t q n
      have g' : ∀ (j : Nat) (o : OV), (Slot.val p :: ss')[j]? = some (.own o) → ∃ i a, (Hd.v p :: hs)[j]? = some (.b i) ∧ i ∈ lends hs ∧ ρ[i]? = some (.own o) ∧ σ[i]? = some (some (.ref a)) ∧ (v :: vs)[j]? = some (.ref a) := fun j o h => by
        cases j with
        | zero => simp at h
        | succ j => simpa using g j o (by simpa using h)
      refine ⟨⟨by simp [F'.len], fun i s ov h1 h2 => ?_, fun i j o o' a h1 h2 h3 h4 => ?_⟩, g'⟩
      · cases i with
        | zero => simp at h1 h2; subst h1 h2; exact ⟨v, rfl, r⟩
        | succ i => exact F'.slot i s ov (by simpa using h1) (by simpa using h2)
      · cases i with
        | zero => simp at h1
        | succ i =>
          cases j with
          | zero => simp at h2
          | succ j => exact congrArg Nat.succ (F'.inj i j o o' a (by simpa using h1) (by simpa using h2) (by simpa using h3) (by simpa using h4))
  | .b i :: hs, v :: vs, ss, .cons r t, e, n => by
    simp only [slotsOf] at e
    split at e
    · rename_i o h0
      cases q : slotsOf ρ hs with
      | none => rw [q] at e; cases e
      | some ss' =>
        rw [q] at e; simp only [Option.map_some, Option.some.injEq] at e; subst e
        obtain ⟨ni, n'⟩ := ndup_cons n
        obtain ⟨F', g⟩ := slots_fr F t q n'
        obtain ⟨a, rfl, ea⟩ := r
        obtain ⟨b, u, eb, gb, rb⟩ := F.own h0
        rw [ea] at eb; cases eb
        refine ⟨⟨by simp [F'.len], fun j s ov h1 h2 => ?_, fun j k o1 o2 c h1 h2 h3 h4 => ?_⟩, fun j o' h => ?_⟩
        · cases j with
          | zero => simp at h1 h2; subst h1 h2; exact ⟨a, u, rfl, gb, rb⟩
          | succ j => exact F'.slot j s ov (by simpa using h1) (by simpa using h2)
        · have far : ∀ (j : Nat) (o' : OV), ss'[j]? = some (.own o') → (vs.map some)[j]? ≠ some (some (V.ref a)) := fun j o' h z => by
            obtain ⟨i', a', _, hm, h2, h3, h4⟩ := g j o' h
            rw [List.getElem?_map, h4] at z
            cases z
            exact ni (F.inj i i' _ _ _ h0 h2 ea h3 ▸ hm)
          cases j with
          | zero =>
            cases k with
            | zero => rfl
            | succ k =>
              simp at h3
              subst h3
              exact absurd (by simpa using h4) (far k o2 (by simpa using h2))
          | succ j =>
            cases k with
            | zero =>
              simp at h4
              subst h4
              exact absurd (by simpa using h3) (far j o1 (by simpa using h1))
            | succ k => exact congrArg Nat.succ (F'.inj j k o1 o2 c (by simpa using h1) (by simpa using h2) (by simpa using h3) (by simpa using h4))
        · cases j with
          | zero =>
            simp at h; subst h
            exact ⟨i, a, rfl, List.mem_cons_self, h0, ea, rfl⟩
          | succ j =>
            obtain ⟨i', a', h1, h2, h3⟩ := g j o' (by simpa using h)
            exact ⟨i', a', by simpa using h1, List.mem_cons_of_mem _ h2, by simpa using h3⟩
    · cases e
/-- what was not lent is as it was; what was lent is what came back -/
theorem back_at : ∀ {hs : List Hd} {outs : List Slot} {ρ ρ' : En}, back hs outs ρ = some ρ' → ndup (lends hs) = true → ρ'.length = ρ.length ∧
    ∀ (m : Nat) (s : Slot), ρ'[m]? = some s → (m ∉ lends hs ∧ ρ[m]? = some s) ∨ (∃ (j : Nat) (o : OV), hs[j]? = some (.b m) ∧ outs[j]? = some (.own o) ∧ s = .own o)
  | [], outs, ρ, ρ', e, _ => by
    simp only [back, Option.some.injEq] at e; subst e
    exact ⟨rfl, fun m s h => .inl ⟨by simp [lends], h⟩⟩
  | .v _ :: hs, [], ρ, ρ', e, _ => by simp only [back] at e; cases e
  | .v _ :: hs, _ :: ss, ρ, ρ', e, n => by
    simp only [back] at e
    obtain ⟨l, g⟩ := back_at e n
    refine ⟨l, fun m s h => ?_⟩
    rcases g m s h with h1 | ⟨j, o, h1, h2, h3⟩
    · exact .inl h1
    · exact .inr ⟨j + 1, o, by simpa using h1, by simpa using h2, h3⟩
  | .b i :: hs, [], ρ, ρ', e, _ => by simp only [back] at e; cases e
  | .b i :: hs, .emp :: ss, ρ, ρ', e, _ => by simp only [back] at e; cases e
  | .b i :: hs, .val _ :: ss, ρ, ρ', e, _ => by simp only [back] at e; cases e
  | .b i :: hs, .own o :: ss, ρ, ρ', e, n => by
    simp only [back] at e
    obtain ⟨ni, n'⟩ := ndup_cons n
    obtain ⟨l, g⟩ := back_at e n'
    refine ⟨by rw [l]; simp, fun m s h => ?_⟩
    rcases g m s h with ⟨h1, h2⟩ | ⟨j, o', h1, h2, h3⟩
    · by_cases hm : i = m
      · subst hm
        by_cases hl : i < ρ.length
        · rw [List.getElem?_set_self hl] at h2
          cases h2
          exact .inr ⟨0, o, rfl, rfl, rfl⟩
        · rw [List.getElem?_eq_none (by simpa using hl)] at h2; cases h2
      · rw [List.getElem?_set_ne hm] at h2
        refine .inl ⟨?_, h2⟩
        simp only [lends, List.mem_cons, not_or]
        exact ⟨fun z => hm z.symm, h1⟩
    · exact .inr ⟨j + 1, o', by simpa using h1, by simpa using h2, h3⟩
theorem slots_b : ∀ {hs : List Hd} {ss : List Slot} {ρ : En} {j m : Nat}, slotsOf ρ hs = some ss → hs[j]? = some (.b m) → ∃ o, ρ[m]? = some (.own o) ∧ ss[j]? = some (.own o)
  | [], _, _, _, _, _, h => by simp at h
  | .v _ :: hs, ss, ρ, j, m, e, h => by
    simp only [slotsOf] at e
    cases q : slotsOf ρ hs with
    | none => rw [q] at e; cases e
    | some ss' =>
      rw [q] at e; simp only [Option.map_some, Option.some.injEq] at e; subst e
      cases j with
      | zero => simp at h
      | succ j => simpa using slots_b q (show hs[j]? = some (.b m) by simpa using h)
  | .b i :: hs, ss, ρ, j, m, e, h => by
    simp only [slotsOf] at e
    split at e
    · rename_i o h0
      cases q : slotsOf ρ hs with
      | none => rw [q] at e; cases e
      | some ss' =>
        rw [q] at e; simp only [Option.map_some, Option.some.injEq] at e; subst e
        cases j with
        | zero => simp at h; subst h; exact ⟨o, h0, rfl⟩
        | succ j => simpa using slots_b q (show hs[j]? = some (.b m) by simpa using h)
    · cases e
/-- behind a call -/
theorem back_ok (F : FrR K ρ σ H) {hs : List Hd} {vs : List V} {ss outs : List Slot} {ρ' : En} (r : RHds K σ H0 H hs vs) (e : slotsOf ρ hs = some ss) (n : ndup (lends hs) = true) (b : back hs outs ρ = some ρ')
    (s : ES ss (vs.map some) H outs H') (F' : FrR K outs (vs.map some) H') : ES ρ σ H ρ' H' ∧ FrR K ρ' σ H' := by
  obtain ⟨F1, g⟩ := slots_fr F r e n
  obtain ⟨l, at_⟩ := back_at b n
  have ow1 : ∀ a, Ow ss (vs.map some) a → Ow ρ σ a := fun a ⟨j, o, h1, h2⟩ => by
    obtain ⟨i, a', h3, h4, h5, h6, h7⟩ := g j o h1
    rw [List.getElem?_map, h7] at h2
    cases h2
    exact ⟨i, o, h5, h6⟩
  have own : ∀ (m : Nat) (o : OV), ρ'[m]? = some (.own o) → ∃ o', ρ[m]? = some (.own o') := fun m o h => by
    rcases at_ m _ h with ⟨_, h2⟩ | ⟨j, o', h1, h2, h3⟩
    · exact ⟨o, h2⟩
    · obtain ⟨o2, h4, _⟩ := slots_b e h1
      exact ⟨o2, h4⟩
  have sub : ∀ a, Ow ρ' σ a → Ow ρ σ a := fun a ⟨m, o, h1, h2⟩ => let ⟨o', h3⟩ := own m o h1; ⟨m, o', h3, h2⟩
  refine ⟨⟨⟨s.1.ext, fun a o h => s.1.keep a o fun z => h (ow1 a z), s.1.there, fun a h => .inl (sub a h)⟩, sub⟩, ⟨l.trans F.len, fun m t ov h1 h2 => ?_, fun i j o o' a h1 h2 h3 h4 => ?_⟩⟩
  · rcases at_ m t h1 with ⟨hm, h3⟩ | ⟨j, o', h3, h4, rfl⟩
    · have q := F.slot m t ov h3 h2
      cases t with
      | emp => trivial
      | val p => obtain ⟨v, rfl, q⟩ := q; exact ⟨v, rfl, Rep.mono s.1.ext p v q⟩
      | own o =>
        obtain ⟨a, u, rfl, ga, q⟩ := q
        refine ⟨a, u, rfl, s.1.keep a u (fun ⟨j, o', z1, z2⟩ => ?_) ga, q.mono s.1.ext⟩
        obtain ⟨i, a', _, h5, h6, h7, h8⟩ := g j o' z1
        rw [List.getElem?_map, h8] at z2
        cases z2
        exact hm (F.inj m i _ _ _ h3 h6 h2 h7 ▸ h5)
    · obtain ⟨o2, h5, h6⟩ := slots_b e h3
      obtain ⟨i, a, h7, _, h8, h9, h10⟩ := g j o2 h6
      rw [h3] at h7; cases h7
      rw [h9] at h2; cases h2
      obtain ⟨a', u, e1, ga, q⟩ := F'.own h4
      rw [List.getElem?_map, h10] at e1
      cases e1
      exact ⟨a, u, rfl, ga, q⟩
  · obtain ⟨q1, h1⟩ := own i o h1
    obtain ⟨q2, h2⟩ := own j o' h2
    exact F.inj i j q1 q2 a h1 h2 h3 h4
end
/-! ### calls of defs -/
section
variable {X : Cx} {W : WX} {k k0 : Nat} {f : Addr} {fd : FuncData} {ps : List Str} {x : Str} {p pos : Pos} {e : Expr} {es : List Expr} {os : DOs} {F : DF}
/-- the callee runs; what it lets out is taken -/
theorem run_fnW {sp : Sp} {pins : List (Addr × Obj)} {σ : L2.St} {H : Hp} {s : Shared} {Q : VK} {us : List Value} {vs : List V} (G : FnOk X.prog X.w X.K X.mg X.base (L2.CX X.prog X.w) k f fd ps sp) (hr : Room k X.A) (hb : Binds X.K fd ps []) (tk : Takes X W)
    (I : Inv X pins σ H s) (r : Vals vs us) (h : sp vs H Q fun c d H' => W c d σ H') : wpAny (model X.prog X.w) X.A (call (.ref f) us) (EP X pins σ Q) X.xe s := by
  have hl : us.length = ps.length := by rw [← r.length]; exact G.len _ _ _ _ h
  have hb' := hb s us I.kIn (by simpa using hl)
  rw [List.append_nil] at hb'
  refine wpAny_call (codeAny_mono (G.run X.A X.stack s H ⟨us, []⟩ us vs Q _ hr I.env0 hb' r h) fun rr s' hq => ?_)
  cases rr with
  | error e => exact tk e s' (XE.of_call I (fun cls d H' z => z) hq)
  | ok fl =>
    cases fl with
    | ret u => exact I.after hq
    | next => exact hq.elim
    | brk => exact hq.elim
    | cont => exact hq.elim
/-- what a callable of the program promises here -/
structure Callee (X : Cx) (k : Nat) (f : Addr) (fd : FuncData) (ps : List Str) (F : DF) : Prop where
  ok : FnOk X.prog X.w X.K X.mg X.base (L2.CX X.prog X.w) k f fd ps (spV X.K X.mg F)
  binds : Binds X.K fd ps []
  kp : PySem.W.keepIn X.K (.ref f) = true
def tCallV (os : DOs) (X : Cx) (W : WX) (F : DF) : TE := fun σ H Q => tP X.K X.mg W (RHds X.K σ) os σ H fun vs H1 => spV X.K X.mg F vs H1 Q fun c d H' => W c d σ H'
theorem call_read {σ : L2.St} {H : Hp} {Q : VK} (h : tP X.K X.mg W (RRt X.K) (dCall F os) σ H Q) : tCallV os X W F σ H Q := by
  obtain ⟨ρ, F0, q⟩ := h
  refine ⟨ρ, F0, (Post.bind (r' := RHds X.K σ) anti_rt q).mono fun vs H1 ⟨hs, ρ1, s1, F1, r1, p1⟩ => ?_⟩
  dsimp only at p1
  cases e1 : slotsOf ρ1 hs with
  | none => rw [e1] at p1; exact p1.elim
  | some ss =>
    rw [e1, R.of_some, R.bind_ok] at p1
    by_cases n : ndup (lends hs) = true
    · rw [if_pos n] at p1
      obtain ⟨Fs, _⟩ := slots_fr F1 r1 e1 n
      refine ⟨ss, Fs, ?_⟩
      cases e2 : F ss with
      | ok c =>
        obtain ⟨rt, outs⟩ := c
        rw [e2] at p1
        dsimp only at p1
        cases e3 : back hs outs ρ1 with
        | none => rw [e3] at p1; exact p1.elim
        | some ρ2 =>
          rw [e3, R.of_some, R.bind_ok] at p1
          intro v H' s2 F2 r2
          obtain ⟨s3, F3⟩ := back_ok F1 r1 e1 n e3 s2 F2
          exact p1 v H' s3 F3 r2
      | exc e outs =>
        rw [e2] at p1
        dsimp only at p1
        cases e3 : back hs outs ρ1 with
        | none => rw [e3] at p1; exact p1.elim
        | some ρ2 =>
          rw [e3, R.of_some, R.bind_ok] at p1
          intro cls d H' s2 F2 r2
          obtain ⟨s3, F3⟩ := back_ok F1 r1 e1 n e3 s2 F2
          exact p1 cls d H' s3 F3 r2
      | stuck => rw [e2] at p1; exact p1.elim
    · rw [if_neg n] at p1; exact p1.elim
theorem pe_callW (C : EC X W k0) (G : Callee X k f fd ps F) (hk : k ≤ k0) (hg : Gl X x) (hm : X.mg x = some (.ref f)) (ha : VOs X W (e :: es) os) (hdb : (x == ("__debug__" : Str)) = false := by decide)
    (he : starEach (e :: es) X.env = (false, eval e X.env) :: starEach es X.env := by rfl) (hpl : (backTo pos (starEach es X.env)).any (·.1) = false := by rfl) : PE X (.Call (.Name x p) (e :: es) [] pos) (tCallV os X W F) := by
  refine ⟨fun pins s σ H Q I h => ?_⟩
  refine wpAny_Call_Name_kw (ld_glob I hg hm ?_ hdb)
  exact PySem.W.callWith_K (h₀ := X.base) I.ok.mod.kin G.kp (thn (ha.run pos pins s σ H _ I h) fun us s1 ⟨vs, H1, I1, r, q⟩ => ⟨I1.kIn, run_fnW G.ok (C.room.mono hk) G.binds C.tk I1 r q⟩) he hpl
/-- f(..), a value -/
def dCallE (F : DF) (g : DOs) : DE := fun ρ => (dCall F g ρ).bind fun (rt, ρ1) => match rt with
  | .val p => .ok (p, ρ1)
  | .own _ => .stuck
def dCallN (F : DF) (g : DOs) : DN := fun ρ => (dCall F g ρ).bind fun (rt, ρ1) => match rt with
  | .own o => .ok (o, ρ1)
  | .val _ => .stuck
theorem ve_call (C : EC X W k0) (G : Callee X k f fd ps F) (hk : k ≤ k0) (hg : Gl X x) (hm : X.mg x = some (.ref f)) (ha : VOs X W (e :: es) os) (hdb : (x == ("__debug__" : Str)) = false := by decide)
    (he : starEach (e :: es) X.env = (false, eval e X.env) :: starEach es X.env := by rfl) (hpl : (backTo pos (starEach es X.env)).any (·.1) = false := by rfl) : VE X W (.Call (.Name x p) (e :: es) [] pos) (dCallE F os) := by
  refine (pe_callW C G hk hg hm ha hdb he hpl).imp fun σ H Q ⟨ρ, F0, q⟩ => call_read ⟨ρ, F0, ?_⟩
  refine (Post.bind (r' := RRt X.K) anti_val q).mono fun v H1 ⟨rt, ρ1, s1, F1, r1, p1⟩ => ?_
  cases rt with
  | val q => exact p1 v H1 (ES.refl _ _ _) F1 r1
  | own q => exact p1.elim
theorem vn_call (C : EC X W k0) (G : Callee X k f fd ps F) (hk : k ≤ k0) (hg : Gl X x) (hm : X.mg x = some (.ref f)) (ha : VOs X W (e :: es) os) (hdb : (x == ("__debug__" : Str)) = false := by decide)
    (he : starEach (e :: es) X.env = (false, eval e X.env) :: starEach es X.env := by rfl) (hpl : (backTo pos (starEach es X.env)).any (·.1) = false := by rfl) : VN X W (.Call (.Name x p) (e :: es) [] pos) (dCallN F os) := by
  refine (pe_callW C G hk hg hm ha hdb he hpl).imp fun σ H Q ⟨ρ, F0, q⟩ => call_read ⟨ρ, F0, ?_⟩
  have q' : Post X.K X.mg W σ H ρ (RNew X.K) Q (dCallN F os ρ) := q
  unfold dCallN at q'
  cases e1 : dCall F os ρ with
  | ok c =>
    obtain ⟨rt, ρ1⟩ := c
    rw [e1] at q'
    cases rt with
    | val _ => exact q'.elim
    | own o => exact fun v H' s F' r => q' v H' s F' r
  | exc e ρ1 => rw [e1] at q'; exact q'
  | stuck => rw [e1] at q'; exact q'
end
end VL
set_option Elab.async false
set_option linter.all false
set_option maxRecDepth 100000
set_option maxHeartbeats 1000000
namespace VL
open PySem PySem.Spec L2
/-! ### statements -/
inductive Ctl where
  | nx | bk | ct
  | ret (rt : Rt)
abbrev DS := En → R (Ctl × En)
/-- a step of a statement: the slots at pin keep their objects -/
def SS (pin : List Nat) (ρ : En) (σ : L2.St) (H : Hp) (ρ' : En) (σ' : L2.St) (H' : Hp) : Prop := Step (Ow ρ σ) H (Ow ρ' σ') H' ∧ ∀ i ∈ pin, σ'[i]? = σ[i]?
theorem SS.refl {pin : List Nat} (ρ : En) (σ : L2.St) (H : Hp) : SS pin ρ σ H ρ σ H := ⟨Step.refl _ _, fun _ _ => rfl⟩
theorem SS.trans {pin : List Nat} {ρ ρ1 ρ2 : En} {σ σ1 σ2 : L2.St} {H H1 H2 : Hp} (a : SS pin ρ σ H ρ1 σ1 H1) (b : SS pin ρ1 σ1 H1 ρ2 σ2 H2) : SS pin ρ σ H ρ2 σ2 H2 :=
  ⟨a.1.trans b.1, fun i h => (b.2 i h).trans (a.2 i h)⟩
theorem ES.ss {pin : List Nat} {ρ ρ1 : En} {σ : L2.St} {H H1 : Hp} (a : ES ρ σ H ρ1 H1) : SS pin ρ σ H ρ1 σ H1 := ⟨a.1, fun _ _ => rfl⟩
/-- what is handed back at a statement -/
def RtS (K : PySem.W.Frag) (pin : List Nat) (ρ : En) (σ : L2.St) (H : Hp) (σ' : L2.St) (H' : Hp) : Rt → V → Prop
  | .val p, v => Rep K H' p v
  | .own o, v => ∃ a u, v = .ref a ∧ (Ow ρ σ a ∨ H a = none) ∧ (∀ i ∈ pin, σ'[i]? ≠ some (some (.ref a))) ∧ H' a = some u ∧ OVR K H' o u
def SPost (K : PySem.W.Frag) (mg : Str → Option Value) (W : WX) (pin : List Nat) (D : Ends) (σ : L2.St) (H : Hp) (ρ : En) : R (Ctl × En) → Prop
  | .ok (.nx, ρ') => ∀ σ' H', SS pin ρ σ H ρ' σ' H' → FrR K ρ' σ' H' → D.nx σ' H'
  | .ok (.bk, ρ') => ∀ σ' H', SS pin ρ σ H ρ' σ' H' → FrR K ρ' σ' H' → D.bk σ' H'
  | .ok (.ct, ρ') => ∀ σ' H', SS pin ρ σ H ρ' σ' H' → FrR K ρ' σ' H' → D.ct σ' H'
  | .ok (.ret rt, ρ') => ∀ σ' H' v, SS pin ρ σ H ρ' σ' H' → FrR K ρ' σ' H' → RtS K pin ρ σ H σ' H' rt v → D.rt v H'
  | .exc e ρ' => ∀ σ' cls d H', SS pin ρ σ H ρ' σ' H' → FrR K ρ' σ' H' → ExcR K mg H' cls d e → W cls d σ' H'
  | .stuck => False
def tS (K : PySem.W.Frag) (mg : Str → Option Value) (W : WX) (pin : List Nat) (f : DS) : TS := fun D σ H => ∃ ρ, FrR K ρ σ H ∧ SPost K mg W pin D σ H ρ (f ρ)
section
variable {K : PySem.W.Frag} {mg : Str → Option Value} {W : WX} {pin : List Nat} {D D' : Ends} {σ σ1 : L2.St} {H H1 : Hp} {ρ ρ1 : En} {α β : Type}
theorem RtS.rebase (s : SS pin ρ σ H ρ1 σ1 H1) {σ' : L2.St} {H' : Hp} : ∀ {rt : Rt} {v : V}, RtS K pin ρ1 σ1 H1 σ' H' rt v → RtS K pin ρ σ H σ' H' rt v
  | .val p, v, h => h
  | .own o, v, ⟨a, u, e, n, h⟩ => ⟨a, u, e, by
      rcases n with n | n
      · exact s.1.own a n
      · exact .inr (s.1.none n), h⟩
theorem SPost.rebase (s : SS pin ρ σ H ρ1 σ1 H1) : ∀ {m : R (Ctl × En)}, SPost K mg W pin D σ H ρ m → SPost K mg W pin D σ1 H1 ρ1 m
  | .ok (.nx, ρ'), h => fun σ' H' s' F => h σ' H' (s.trans s') F
  | .ok (.bk, ρ'), h => fun σ' H' s' F => h σ' H' (s.trans s') F
  | .ok (.ct, ρ'), h => fun σ' H' s' F => h σ' H' (s.trans s') F
  | .ok (.ret rt, ρ'), h => fun σ' H' v s' F q => h σ' H' v (s.trans s') F (q.rebase s)
  | .exc e ρ', h => fun σ' cls d H' s' F q => h σ' cls d H' (s.trans s') F q
  | .stuck, h => h
/-- an expression, then the rest -/
theorem SPost.bind {r : RR α β} {m : R (α × En)} {k : α × En → R (Ctl × En)} (h : SPost K mg W pin D σ H ρ (m.bind k)) :
    Post K mg W σ H ρ r (fun x H1 => ∃ c ρ1, ES ρ σ H ρ1 H1 ∧ FrR K ρ1 σ H1 ∧ r H H1 c x ∧ SPost K mg W pin D σ H1 ρ1 (k (c, ρ1))) m := by
  cases m with
  | ok a =>
    obtain ⟨c, ρ1⟩ := a
    exact fun x H1 s F q => ⟨c, ρ1, s, F, q, SPost.rebase s.ss h⟩
  | exc e ρ1 => exact fun cls d H1 s F q => h σ cls d H1 s.ss F q
  | stuck => exact h
/-- a statement, then the rest by its way out -/
theorem SPost.seq {k : Ctl × En → R (Ctl × En)} (hn : ∀ ρ1 σ1 H1, SS pin ρ σ H ρ1 σ1 H1 → FrR K ρ1 σ1 H1 → SPost K mg W pin D σ1 H1 ρ1 (k (.nx, ρ1)) → D'.nx σ1 H1)
    (hb : ∀ ρ1 σ1 H1, SS pin ρ σ H ρ1 σ1 H1 → FrR K ρ1 σ1 H1 → SPost K mg W pin D σ1 H1 ρ1 (k (.bk, ρ1)) → D'.bk σ1 H1)
    (hc : ∀ ρ1 σ1 H1, SS pin ρ σ H ρ1 σ1 H1 → FrR K ρ1 σ1 H1 → SPost K mg W pin D σ1 H1 ρ1 (k (.ct, ρ1)) → D'.ct σ1 H1)
    (hr : ∀ rt ρ1, k (.ret rt, ρ1) = .ok (.ret rt, ρ1)) (ht : D'.rt = D.rt) {m : R (Ctl × En)} (h : SPost K mg W pin D σ H ρ (m.bind k)) : SPost K mg W pin D' σ H ρ m := by
  cases m with
  | ok a =>
    obtain ⟨c, ρ1⟩ := a
    cases c with
    | nx => exact fun σ1 H1 s F => hn ρ1 σ1 H1 s F (SPost.rebase s h)
    | bk => exact fun σ1 H1 s F => hb ρ1 σ1 H1 s F (SPost.rebase s h)
    | ct => exact fun σ1 H1 s F => hc ρ1 σ1 H1 s F (SPost.rebase s h)
    | ret rt =>
      have h' : SPost K mg W pin D σ H ρ (k (.ret rt, ρ1)) := h
      rw [hr] at h'
      exact fun σ1 H1 v s F q => by rw [ht]; exact h' σ1 H1 v s F q
  | exc e ρ1 => exact h
  | stuck => exact h
end
def VS (X : Cx) (W : WX) (pin : List Nat) (st : Stmt) (f : DS) : Prop := PS X st (tS X.K X.mg W pin f)
def VSs (X : Cx) (W : WX) (pin : List Nat) (st : List Stmt) (f : DS) : Prop := PSs X st (tS X.K X.mg W pin f)
theorem _root_.L2.PS.imp {X : Cx} {st : Stmt} {t t' : TS} (h : PS X st t) (m : ∀ D σ H, t' D σ H → t D σ H) : PS X st t' := ⟨fun pins s σ H D I h' => h.run pins s σ H D I (m D σ H h')⟩
theorem _root_.L2.PSs.imp {X : Cx} {st : List Stmt} {t t' : TS} (h : PSs X st t) (m : ∀ D σ H, t' D σ H → t D σ H) : PSs X st t' := ⟨fun pins s σ H D I h' => h.run pins s σ H D I (m D σ H h')⟩
theorem _root_.L2.PG.imp {X : Cx} {tg : Expr} {t t' : TG} (h : PG X tg t) (m : ∀ v σ H Q, t' v σ H Q → t v σ H Q) : PG X tg t' := ⟨fun pins s σ H v u Q I r h' => h.run pins s σ H v u Q I r (m v σ H Q h')⟩
theorem _root_.L2.PGs.imp {X : Cx} {tg : List Expr} {t t' : TGs} (h : PGs X tg t) (m : ∀ v σ H Q, t' v σ H Q → t v σ H Q) : PGs X tg t' := ⟨fun pins s σ H v u Q I r h' => h.run pins s σ H v u Q I r (m v σ H Q h')⟩
theorem _root_.L2.PI.imp {X : Cx} {tg it : Expr} {t t' : TI} (h : PI X tg it t) (m : ∀ σ H Q, t' σ H Q → t σ H Q) : PI X tg it t' := ⟨fun pins s σ H R I h' => h.run pins s σ H R I (m σ H R h')⟩
section
variable {X : Cx} {W : WX} {pin : List Nat} {pos : Pos} {st : Stmt} {rest : List Stmt} {e c : Expr} {es : List Expr} {f g : DS} {d : DE} {n : DN} {t : DT}
def dNil : DS := fun ρ => .ok (.nx, ρ)
theorem vss_nil : VSs X W pin [] dNil := pss_nil.imp fun D σ H ⟨ρ, F, p⟩ => p σ H (SS.refl _ _ _) F
def dSeq (f g : DS) : DS := fun ρ => (f ρ).bind fun (c, ρ1) => match c with
  | .nx => g ρ1
  | c => .ok (c, ρ1)
theorem vss_cons (h1 : VS X W pin st f) (h2 : VSs X W pin rest g) : VSs X W pin (st :: rest) (dSeq f g) := by
  refine (pss_cons h1 h2).imp fun D σ H ⟨ρ, F, p⟩ => ⟨ρ, F, ?_⟩
  refine SPost.seq (D := D) ?_ ?_ ?_ ?_ ?_ p
  · exact fun ρ1 σ1 H1 s F1 q => ⟨ρ1, F1, q⟩
  · exact fun ρ1 σ1 H1 s F1 q => q σ1 H1 (SS.refl _ _ _) F1
  · exact fun ρ1 σ1 H1 s F1 q => q σ1 H1 (SS.refl _ _ _) F1
  · exact fun _ _ => rfl
  · rfl
theorem vss_one (h : VS X W pin st f) : VSs X W pin [st] f := pss_one h
theorem vs_pass : VS X W pin (.Pass pos) dNil := ps_pass.imp fun D σ H ⟨ρ, F, p⟩ => p σ H (SS.refl _ _ _) F
theorem vs_doc {x j pos'} : VS X W pin (.Expr (.Constant (.str x) j pos) pos') dNil := ps_doc.imp fun D σ H ⟨ρ, F, p⟩ => p σ H (SS.refl _ _ _) F
def dBk : DS := fun ρ => .ok (.bk, ρ)
def dCt : DS := fun ρ => .ok (.ct, ρ)
theorem vs_break : VS X W pin (.Break pos) dBk := ps_break.imp fun D σ H ⟨ρ, F, p⟩ => p σ H (SS.refl _ _ _) F
theorem vs_continue : VS X W pin (.Continue pos) dCt := ps_continue.imp fun D σ H ⟨ρ, F, p⟩ => p σ H (SS.refl _ _ _) F
def dDrop (d : DE) : DS := fun ρ => (d ρ).bind fun (_, ρ1) => .ok (.nx, ρ1)
theorem vs_expr (he : VE X W e d) (hs : swapsWith e none pos.line X.env = pure false := by rfl) : VS X W pin (.Expr e pos) (dDrop d) :=
  (ps_expr he hs).imp fun D σ H ⟨ρ, F, p⟩ => ⟨ρ, F, (SPost.bind (r := RVal X.K) p).mono fun v H1 ⟨q, ρ1, s, F1, r, p1⟩ => p1 σ H1 (SS.refl _ _ _) F1⟩
def dRet (d : DE) : DS := fun ρ => (d ρ).bind fun (p, ρ1) => .ok (.ret (.val p), ρ1)
theorem vs_ret (he : VE X W e d) : VS X W pin (.Return (some e) pos) (dRet d) :=
  (ps_ret he).imp fun D σ H ⟨ρ, F, p⟩ => ⟨ρ, F, (SPost.bind (r := RVal X.K) p).mono fun v H1 ⟨q, ρ1, s, F1, r, p1⟩ => p1 σ H1 v (SS.refl _ _ _) F1 r⟩
def dRet0 : DS := fun ρ => .ok (.ret (.val .non), ρ)
theorem vs_ret0 : VS X W pin (.Return none pos) dRet0 := ps_retN.imp fun D σ H ⟨ρ, F, p⟩ => p σ H .non (SS.refl _ _ _) F (by simp only [RtS, Rep])
/-- return of something new -/
def dRetN (n : DN) : DS := fun ρ => (n ρ).bind fun (o, ρ1) => .ok (.ret (.own o), ρ1)
/-- the slots that are lent to this def own what they hold -/
def pinsOwn (pin : List Nat) (ρ : En) : Bool := pin.all fun i => match ρ[i]? with
  | some (.own _) => true
  | _ => false
theorem pins_far {K : PySem.W.Frag} {pin : List Nat} {ρ : En} {σ : L2.St} {H : Hp} (F : FrR K ρ σ H) (h : pinsOwn pin ρ = true) {a : Addr} (n : ¬ Ow ρ σ a) : ∀ i ∈ pin, σ[i]? ≠ some (some (.ref a)) := fun i hi z => by
  have q := List.all_eq_true.mp h i hi
  split at q
  · rename_i o e
    exact n ⟨i, o, e, z⟩
  · cases q
def dRetN' (pin : List Nat) (n : DN) : DS := fun ρ => (n ρ).bind fun (o, ρ1) => if pinsOwn pin ρ1 = true then .ok (.ret (.own o), ρ1) else .stuck
theorem vs_retN (he : VN X W e n) : VS X W pin (.Return (some e) pos) (dRetN' pin n) := by
  refine (ps_ret he).imp fun D σ H ⟨ρ, F, p⟩ => ⟨ρ, F, ?_⟩
  unfold dRetN' at p
  cases e1 : n ρ with
  | ok c =>
    obtain ⟨o, ρ1⟩ := c
    rw [e1, R.bind_ok] at p
    dsimp only at p
    by_cases hp : pinsOwn pin ρ1 = true
    · rw [if_pos hp] at p
      intro v H1 s F1 ⟨a, u, e, na, ga, r⟩
      exact p σ H1 v s.ss F1 ⟨a, u, e, .inr na, pins_far F1 hp (s.notOw F na), ga, r⟩
    · rw [if_neg hp] at p; exact p.elim
  | exc x ρ1 => rw [e1] at p; exact fun cls d H1 s F1 q => p σ cls d H1 s.ss F1 q
  | stuck => rw [e1] at p; exact p
/-- return of an owned local -/
def dRetO (pin : List Nat) (i : Nat) : DS := fun ρ => if pinsOwn pin ρ = true ∧ ¬ i ∈ pin then match ρ[i]? with
  | some (.own o) => .ok (.ret (.own o), ρ)
  | _ => .stuck
  else .stuck
theorem vs_retO {i : Nat} {x : Str} {p : Pos} (h : PE X (.Name x p) (tVar i)) : VS X W pin (.Return (some (.Name x p)) pos) (dRetO pin i) := by
  refine (ps_ret h).imp fun D σ H ⟨ρ, F, p⟩ => ?_
  unfold dRetO at p
  by_cases hp : pinsOwn pin ρ = true ∧ ¬ i ∈ pin
  · rw [if_pos hp] at p
    split at p
    · rename_i o e1
      obtain ⟨a, u, e2, ga, r⟩ := F.own e1
      refine ⟨.ref a, e2, p σ H (.ref a) (SS.refl _ _ _) F ⟨a, u, rfl, .inl ⟨i, o, e1, e2⟩, fun j hj z => ?_, ga, r⟩⟩
      have q := List.all_eq_true.mp hp.1 j hj
      split at q
      · rename_i o' e3
        exact hp.2 (F.inj i j _ _ a e1 e3 e2 z ▸ hj)
      · cases q
    · exact p.elim
  · rw [if_neg hp] at p; exact p.elim
def dIf (t : DT) (f g : DS) : DS := fun ρ => (t ρ).bind fun (b, ρ1) => if b = true then f ρ1 else g ρ1
theorem vs_if {a b : List Stmt} (hc : VT X W c t) (ha : VSs X W pin a f) (hb : VSs X W pin b g) : VS X W pin (.If c a b pos) (dIf t f g) := by
  refine (ps_if hc ha hb).imp fun D σ H ⟨ρ, F, p⟩ => ⟨ρ, F, (SPost.bind (r := RBool) p).mono fun v H1 ⟨q, ρ1, s, F1, r, p1⟩ => ?_⟩
  have e : q = v := r
  subst e
  dsimp only at p1
  cases q with
  | true => rw [if_pos rfl] at p1 ⊢; exact ⟨ρ1, F1, p1⟩
  | false => rw [if_neg Bool.false_ne_true] at p1 ⊢; exact ⟨ρ1, F1, p1⟩
/-- x = e -/
def dSet (i : Nat) (d : DE) : DS := fun ρ => (d ρ).bind fun (p, ρ1) => .ok (.nx, ρ1.set i (.val p))
theorem ss_setVal {K : PySem.W.Frag} {ρ : En} {σ : L2.St} {H : Hp} {i : Nat} {p : PV} {v : V} (hp : i ∉ pin) : SS pin ρ σ H (ρ.set i (.val p)) (σ.set i (some v)) H :=
  ⟨⟨Ext.refl H, fun _ _ _ h => h, fun _ o h => ⟨o, h⟩, fun a h => .inl h.setVal⟩, fun j hj => List.getElem?_set_ne (fun (z : i = j) => hp (by rw [z]; exact hj))⟩
theorem vs_set {i : Nat} {x : Str} {pos' : Pos} (hN : X.N.Nodup) (hi : X.N[i]? = some x) (hx : Loc X.env.scope x) (hp : i ∉ pin) (he : VE X W e d) (hs : swapsWith e (some (.Name x pos')) pos.line X.env = pure false := by rfl)
    (hf : X.fn x = true ∨ X.env.scope.names.lookup x = some .local := by first | exact .inl rfl | exact .inr rfl | assumption) : VS X W pin (.Assign [.Name x pos'] e pos) (dSet i d) :=
  (ps_set hN hi hx he hs hf).imp fun D σ H ⟨ρ, F, p⟩ => ⟨ρ, F, (SPost.bind (r := RVal X.K) p).mono fun v H1 ⟨q, ρ1, s, F1, r, p1⟩ => p1 _ H1 (ss_setVal (K := X.K) hp) (F1.setVal i r)⟩
/-- x = something new, owned from then on -/
def dSetN (i : Nat) (n : DN) : DS := fun ρ => (n ρ).bind fun (o, ρ1) => .ok (.nx, ρ1.set i (.own o))
theorem setN_read {σ : L2.St} {H : Hp} {D : Ends} {i : Nat} (hp : i ∉ pin) (h : tS X.K X.mg W pin (dSetN i n) D σ H) : tP X.K X.mg W (RNew X.K) n σ H fun v H1 => D.nx (σ.set i (some v)) H1 := by
  obtain ⟨ρ, F, p⟩ := h
  refine ⟨ρ, F, ?_⟩
  unfold dSetN at p
  cases e1 : n ρ with
  | ok c =>
    obtain ⟨o, ρ1⟩ := c
    rw [e1, R.bind_ok] at p
    intro v H1 s F1 ⟨a, u, e, na, ga, r⟩
    subst e
    refine p (σ.set i (some (.ref a))) H1 ⟨⟨s.1.ext, s.1.keep, s.1.there, fun b hb => ?_⟩, fun j hj => List.getElem?_set_ne (fun (z : i = j) => hp (by rw [z]; exact hj))⟩ (F1.setOwn i ga r (s.notOw F na))
    rcases hb.setOwn with hb | hb
    · exact s.1.own b hb
    · subst hb; exact .inr na
  | exc x ρ1 => rw [e1] at p; exact fun cls d H1 s F1 q => p σ cls d H1 s.ss F1 q
  | stuck => rw [e1] at p; exact p
theorem vs_setN {i : Nat} {x : Str} {pos' : Pos} (hN : X.N.Nodup) (hi : X.N[i]? = some x) (hx : Loc X.env.scope x) (hp : i ∉ pin) (he : VN X W e n) (hs : swapsWith e (some (.Name x pos')) pos.line X.env = pure false := by rfl)
    (hf : X.fn x = true ∨ X.env.scope.names.lookup x = some .local := by first | exact .inl rfl | exact .inr rfl | assumption) : VS X W pin (.Assign [.Name x pos'] e pos) (dSetN i n) :=
  (ps_set hN hi hx he hs hf).imp fun D σ H h => setN_read hp h
/-! ### targets -/
abbrev DG := PV → En → Option En
def tG (K : PySem.W.Frag) (vs : List Nat) (g : DG) : TG := fun v σ H Q => ∃ ρ p, FrR K ρ σ H ∧ Rep K H p v ∧ match g p ρ with
  | some ρ' => ∀ σ', FrR K ρ' σ' H → (∀ a, Ow ρ' σ' a → Ow ρ σ a) → σ'.length = σ.length → (∀ i, i ∉ vs → σ'[i]? = σ[i]?) → Q σ' H
  | none => False
abbrev DGs := List PV → En → Option En
def tGs (K : PySem.W.Frag) (vs : List Nat) (g : DGs) : TGs := fun v σ H Q => ∃ ρ p, FrR K ρ σ H ∧ RepL K H p v ∧ match g p ρ with
  | some ρ' => ∀ σ', FrR K ρ' σ' H → (∀ a, Ow ρ' σ' a → Ow ρ σ a) → σ'.length = σ.length → (∀ i, i ∉ vs → σ'[i]? = σ[i]?) → Q σ' H
  | none => False
def VG (X : Cx) (vs : List Nat) (tg : Expr) (g : DG) : Prop := PG X tg (tG X.K vs g)
def VGs (X : Cx) (vs : List Nat) (tg : List Expr) (g : DGs) : Prop := PGs X tg (tGs X.K vs g)
def gN (i : Nat) : DG := fun p ρ => some (ρ.set i (.val p))
theorem vg_name {i : Nat} {x : Str} (hN : X.N.Nodup) (hi : X.N[i]? = some x) (hx : Loc X.env.scope x) (hf : X.fn x = true ∨ X.env.scope.names.lookup x = some .local := by first | exact .inl rfl | exact .inr rfl | assumption) : VG X [i] (.Name x pos) (gN i) :=
  (pg_name hN hi hx hf).imp fun v σ H Q ⟨ρ, p, F, r, q⟩ => q _ (F.setVal i r) (fun a h => h.setVal) (by simp) fun j hj => List.getElem?_set_ne (fun z => hj (by simp [z]))
def gS0 : DGs := fun ps ρ => match ps with
  | [] => some ρ
  | _ => none
def gS (g : DG) (gs : DGs) : DGs := fun ps ρ => match ps with
  | p :: ps => (g p ρ).bind fun ρ1 => gs ps ρ1
  | [] => none
theorem vgs_nil : VGs X [] [] gS0 := pgs_nil.imp fun v σ H Q ⟨ρ, p, F, r, q⟩ => by
  cases p with
  | nil => rw [repL_nil_inv r]; exact ⟨rfl, q σ F (fun _ h => h) rfl fun _ _ => rfl⟩
  | cons _ _ => exact q.elim
theorem vgs_cons {vs ws : List Nat} {g : DG} {gs : DGs} (h1 : VG X vs e g) (h2 : VGs X ws es gs) (hs : (assignEach (e :: es) X.env).map (·.2) = assign e X.env :: (assignEach es X.env).map (·.2) := by rfl) : VGs X (vs ++ ws) (e :: es) (gS g gs) := by
  refine (pgs_cons h1 h2 hs).imp fun v σ H Q ⟨ρ, p, F, r, q⟩ => ?_
  cases p with
  | nil => exact q.elim
  | cons p ps =>
    obtain ⟨x, xs, rfl, r1, r2⟩ := repL_cons_inv r
    refine ⟨x, xs, rfl, ρ, p, F, r1, ?_⟩
    dsimp only [gS] at q
    cases e1 : g p ρ with
    | none => rw [e1] at q; exact q.elim
    | some ρ1 =>
      rw [e1, Option.bind_some] at q
      intro σ1 F1 o1 l1 k1
      refine ⟨ρ1, ps, F1, r2, ?_⟩
      cases e2 : gs ps ρ1 with
      | none => rw [e2] at q; exact q.elim
      | some ρ2 =>
        rw [e2] at q
        exact fun σ2 F2 o2 l2 k2 => q σ2 F2 (fun a h => o1 a (o2 a h)) (l2.trans l1) fun i hi => (k2 i fun z => hi (List.mem_append_right _ z)).trans (k1 i fun z => hi (List.mem_append_left _ z))
/-- a, b = .. -/
def gT (gs : DGs) : DG := fun p ρ => match p with
  | .tup ps => gs ps ρ
  | _ => none
/-- so many are stored -/
def gLen (n : Nat) (gs : DGs) : DGs := fun ps ρ => if ps.length = n then gs ps ρ else none
theorem vg_tup {vs : List Nat} {gs : DGs} {k : Nat} {n : Nat} (hc : X.calm = true) (h : VGs X vs es gs) (hn : (assignEach es X.env).length = n := by rfl) (hst : (assignEach es X.env).findIdx? (·.1) = none := by rfl) : VG X vs (.Tuple es k pos) (gT (gLen n gs)) := by
  refine (pg_tup hc h hn hst).imp fun v σ H Q ⟨ρ, p, F, r, q⟩ => ?_
  cases p <;> first | exact q.elim | skip
  rename_i ps
  simp only [Rep] at r
  obtain ⟨a, xs, rfl, hs, rl⟩ := r
  dsimp only [gT, gLen] at q
  by_cases hl : ps.length = n
  · rw [if_pos hl] at q
    exact ⟨a, xs, rfl, hs, by rw [← rl.length]; exact hl, ρ, ps, F, rl, q⟩
  · rw [if_neg hl] at q; exact q.elim
/-- target = e -/
def dAsg (g : DG) (d : DE) : DS := fun ρ => (d ρ).bind fun (p, ρ1) => (R.of (g p ρ1)).bind fun ρ2 => .ok (.nx, ρ2)
theorem vs_asg {vs : List Nat} {tg : Expr} {g : DG} (hp : ∀ i ∈ pin, i ∉ vs) (he : VE X W e d) (hg : VG X vs tg g) (hs : swapsWithSole [tg] e pos.line X.env = pure false := by rfl) (hw : swappedStores [tg] e X.env = pure none := by rfl)
    (h1 : (assignEach [tg] X.env).map (·.2) = [assign tg X.env] := by rfl) : VS X W pin (.Assign [tg] e pos) (dAsg g d) := by
  refine (ps_asg he hg hs hw h1).imp fun D σ H ⟨ρ, F, p⟩ => ⟨ρ, F, (SPost.bind (r := RVal X.K) p).mono fun v H1 ⟨q, ρ1, s, F1, r, p1⟩ => ⟨ρ1, q, F1, r, ?_⟩⟩
  dsimp only at p1
  cases e1 : g q ρ1 with
  | none => rw [e1] at p1; exact p1.elim
  | some ρ2 =>
    rw [e1] at p1
    exact fun σ2 F2 o2 l2 k2 => p1 σ2 H1 ⟨⟨Ext.refl _, fun _ _ _ h => h, fun _ o h => ⟨o, h⟩, fun a h => .inl (o2 a h)⟩, fun i hi => k2 i (hp i hi)⟩ F2
end
end VL
set_option Elab.async false
set_option linter.all false
set_option maxRecDepth 100000
set_option maxHeartbeats 1000000
namespace VL
open PySem PySem.Spec L2
section
variable {X : Cx} {W : WX} {pin : List Nat} {pos : Pos} {st : Stmt} {rest : List Stmt} {e c : Expr} {es : List Expr} {f g : DS} {d : DE} {n : DN} {t : DT}
/-! ### a name as a value: what it owned is frozen from then on -/
def dN (i : Nat) : DE := fun ρ => match ρ[i]? with
  | some (.val p) => .ok (p, ρ)
  | some (.own (.lst ps)) => .ok (.lst ps, ρ.set i (.val (.lst ps)))
  | _ => .stuck
theorem ve_n {i : Nat} {x : Str} (h : PE X (.Name x pos) (tVar i)) : VE X W (.Name x pos) (dN i) := by
  refine ⟨fun pins s σ H Q I ⟨ρ, F, p⟩ => ?_⟩
  unfold dN at p
  split at p
  · rename_i q e1
    obtain ⟨v, e2, r⟩ := F.val e1
    exact h.run pins s σ H Q I ⟨v, e2, p v H (ES.refl _ _ _) F r⟩
  · rename_i ps e1
    obtain ⟨a, u, e2, ga, xs, rfl, r⟩ := F.own e1
    refine wpAny_mono (h.run pins s σ H (fun v H' => v = .ref a ∧ H' = H) I ⟨.ref a, e2, rfl, rfl⟩) (fun u s1 ⟨v, H1, I1, rv, ev, eH⟩ => ?_) fun _ _ z => z
    subst ev eH
    obtain ⟨o, I2⟩ := inv_freeze I1 ga
    have ext := ext_freeze (o := o) ga
    have hi : i < ρ.length := (List.getElem?_eq_some_iff.mp e1).1
    have ow : ∀ b, Ow (ρ.set i (.val (.lst ps))) σ b → Ow ρ σ b ∧ b ≠ a := fun b ⟨m, q, h1, h2⟩ => by
      by_cases hm : i = m
      · subst hm
        rw [List.getElem?_set_self hi] at h1; cases h1
      · rw [List.getElem?_set_ne hm] at h1
        exact ⟨⟨m, q, h1, h2⟩, fun z => by subst z; exact hm (F.inj i m _ _ b e1 h1 e2 h2)⟩
    have F2 : FrR X.K (ρ.set i (.val (.lst ps))) σ (upd H1 a (.frz o (.lst xs))) := by
      refine ⟨by simp [F.len], fun j s' ov h1 h2 => ?_, fun j k o1 o2 b h1 h2 h3 h4 => ?_⟩
      · by_cases hm : i = j
        · subst hm
          rw [List.getElem?_set_self hi] at h1; cases h1
          rw [e2] at h2; cases h2
          exact ⟨.ref a, rfl, by simp only [Rep]; exact ⟨a, xs, rfl, ⟨o, upd_same⟩, RepL.mono ext _ _ r⟩⟩
        · rw [List.getElem?_set_ne hm] at h1
          have q := F.slot j s' ov h1 h2
          cases s' with
          | emp => trivial
          | val p => obtain ⟨v, rfl, q⟩ := q; exact ⟨v, rfl, Rep.mono ext p v q⟩
          | own o' =>
            obtain ⟨b, w, rfl, gb, q⟩ := q
            have hb : b ≠ a := fun z => by subst z; exact hm (F.inj i j _ _ b e1 h1 e2 h2)
            exact ⟨b, w, rfl, by rw [upd_ne hb]; exact gb, q.mono ext⟩
      · have one : ∀ {m : Nat} {q : OV}, (ρ.set i (.val (.lst ps)))[m]? = some (.own q) → ρ[m]? = some (.own q) := fun {m q} e => by
          by_cases hm : i = m
          · subst hm; rw [List.getElem?_set_self hi] at e; cases e
          · rw [List.getElem?_set_ne hm] at e; exact e
        exact F.inj j k _ _ b (one h1) (one h2) h3 h4
    refine ⟨.ref a, _, I2, rv, p (.ref a) _ ⟨⟨ext, fun b w nb e => ?_, fun b w e => ?_, fun b hb => .inl (ow b hb).1⟩, fun b hb => (ow b hb).1⟩ F2 (by simp only [RVal, Rep]; exact ⟨a, xs, rfl, ⟨o, upd_same⟩, RepL.mono ext _ _ r⟩)⟩
    · rw [upd_ne (fun z => by subst z; exact nb ⟨i, _, e1, e2⟩)]; exact e
    · by_cases hb : b = a
      · subst hb; exact ⟨_, upd_same⟩
      · rw [upd_ne hb]; exact ⟨w, e⟩
  · exact p.elim
/-! ### an owned list is changed by a method -/
/-- o.m(..), o a name that owns a list: F gives what comes of it -/
def dMt {α : Type} (F : List PV → List PV → Option (α × List PV)) (i : Nat) (g : DA) : En → R (α × En) := fun ρ => match ρ[i]? with
  | some (.own (.lst _)) => (g ρ).bind fun (ps, ρ1) => match ρ1[i]? with
    | some (.own (.lst qs)) => (R.of (F qs ps)).bind fun (z, qs') => .ok (z, ρ1.set i (.own (.lst qs')))
    | _ => .stuck
  | _ => .stuck
/-- by values: the list at a becomes another -/
def rMt (K : PySem.W.Frag) (F : List PV → List PV → Option (PV × List PV)) : V → List V → Hp → VK → Prop := fun x vs H Q => ∃ a xs qs ps z qs', x = .ref a ∧ H a = some (.lst xs) ∧ RepL K H qs xs ∧ RepL K H ps vs ∧ F qs ps = some (z, qs') ∧
  ∀ v xs', RepL K H qs' xs' → Rep K H z v → Q v (upd H a (.lst xs'))
theorem ext_write {H : Hp} {a : Addr} {xs ys : List V} (g : H a = some (.lst xs)) : Ext H (upd H a (.lst ys)) := fun b w e s => by
  by_cases hb : b = a
  · subst hb; rw [g] at e; cases e; exact s.elim
  · rw [upd_ne hb]; exact e
theorem mt_read {F : List PV → List PV → Option (PV × List PV)} {i : Nat} {os : DA} {σ : L2.St} {H : Hp} {Q : VK} (h : tP X.K X.mg W (RVal X.K) (dMt F i os) σ H Q) :
    tBM X.K "list" (rMt X.K F) (tVar i) (tP X.K X.mg W (RVals X.K) os) σ H Q := by
  obtain ⟨ρ, F0, p⟩ := h
  unfold dMt at p
  split at p
  · rename_i q0 e0
    obtain ⟨a, u, e2, ga, xs, rfl, r⟩ := F0.own e0
    refine ⟨.ref a, e2, .inl ⟨rfl, _, SqL.of ga⟩, ρ, F0, (Post.bind (r' := RVals X.K) anti_val p).mono fun vs H1 ⟨ps, ρ1, s1, F1, r1, p1⟩ => ?_⟩
    dsimp only at p1
    split at p1
    · rename_i qs e4
      obtain ⟨b, u, e5, gb, ys, rfl, r2⟩ := F1.own e4
      rw [e2] at e5; cases e5
      cases e6 : F qs ps with
      | none => rw [e6] at p1; exact p1.elim
      | some c =>
        obtain ⟨z, qs'⟩ := c
        rw [e6, R.of_some, R.bind_ok] at p1
        refine ⟨a, ys, qs, ps, z, qs', rfl, gb, r2, r1, e6, fun v xs' rx rz => ?_⟩
        obtain ⟨F2, st⟩ := F1.write (o' := .lst qs') (u' := .lst xs') e4 e2 gb ⟨ys, rfl, r2⟩ ⟨xs', rfl, rx⟩
        have sub : ∀ b, Ow (ρ1.set i (.own (.lst qs'))) σ b → Ow ρ1 σ b := fun b ⟨m, q, h1, h2⟩ => by
          by_cases hm : i = m
          · subst hm; exact ⟨i, _, e4, h2⟩
          · rw [List.getElem?_set_ne hm] at h1; exact ⟨m, q, h1, h2⟩
        exact p1 v _ ⟨st, sub⟩ F2 (Rep.mono st.ext z v rz)
    · exact p1.elim
  · exact p.elim
variable {x name : Str} {id : String} {p apos cpos : Pos} {as : DA}
theorem ve_mt {F : List PV → List PV → Option (PV × List PV)} {i : Nat} (slot : _root_.PySem.Slot "list" name id) (hty : typeOf (.builtin id) = pure (.type "method_descriptor")) (hm : MtR X id (rMt X.K F)) (ho : PE X (.Name x p) (tVar i)) (ha : VA X W (e :: es) as)
    (hbase : attributeBase (.Name x p) name X.env (eval (.Name x p) X.env) = eval (.Name x p) X.env := by rfl)
    (hfew : ((backTo cpos (starEach (e :: es) X.env)).all (fun x => !x.1) && (backToKw cpos (keywordEach [] X.env)).all (fun x => x.1.isSome)
      && decide ((e :: es).length + ([] : List Keyword).length + (if ([] : List Keyword).isEmpty then 0 else 1) < 30)) = true := by rfl)
    (hline : (apos.endLine == cpos.line) = true := by rfl) (hs : starEach (e :: es) X.env = (false, eval e X.env) :: starEach es X.env := by rfl) (hplain : (backTo cpos (starEach es X.env)).any (·.1) = false := by rfl) :
    VE X W (.Call (.Attribute (.Name x p) name apos) (e :: es) [] cpos) (dMt F i as) :=
  (pe_bm PySem.F.plainAttrs_list slot hty hm ho ha hbase hfew hline hs hplain).imp fun σ H Q h => mt_read h
/-- .. without arguments -/
theorem ve_mt0 {F : List PV → List PV → Option (PV × List PV)} {i : Nat} (slot : _root_.PySem.Slot "list" name id) (hty : typeOf (.builtin id) = pure (.type "method_descriptor")) (hm : MtR X id (rMt X.K F)) (ho : PE X (.Name x p) (tVar i))
    (hbase : attributeBase (.Name x p) name X.env (eval (.Name x p) X.env) = eval (.Name x p) X.env := by rfl) (hline : (apos.endLine == cpos.line) = true := by rfl) :
    VE X W (.Call (.Attribute (.Name x p) name apos) [] [] cpos) (dMt F i dA0) := by
  refine (pe_bm0 PySem.F.plainAttrs_list slot hty hm ho hbase hline).imp fun σ H Q h => ?_
  obtain ⟨v, e1, e2, ρ, F0, q⟩ := mt_read h
  exact ⟨v, e1, e2, q [] H (ES.refl _ _ _) F0 repL_nil⟩
def fAppend : List PV → List PV → Option (PV × List PV)
  | qs, [p] => if qs.length < sizeLine then some (.non, qs ++ [p]) else none
  | _, _ => none
theorem mtv_append : MtR X "list.append" (rMt X.K fAppend) := by
  intro pins s σ H x vs v us Q I rx rv ⟨a, xs, qs, ps, z, qs', e, ga, r1, r2, e1, k⟩
  match ps, e1, r2 with
  | [p], e1, r2 =>
    simp only [fAppend] at e1
    split at e1
    · rename_i hl
      cases e1
      obtain ⟨w, r, rfl, h1, h2⟩ := repL_cons_inv r2
      rw [repL_nil_inv h2] at rv
      refine mt_append pins s σ H x _ v us Q I rx rv ⟨a, xs, w, e, rfl, ga, by rw [← r1.length]; exact hl, k _ _ (r1.append (repL_cons h1 repL_nil)) (by simp only [Rep])⟩
    · cases e1
/-- xs.pop() -/
def fPop : List PV → List PV → Option (PV × List PV)
  | qs, [] => (qs[qs.length - 1]?).map fun p => (p, qs.dropLast)
  | _, _ => none
theorem RepL.dropLast {K : PySem.W.Frag} {H : Hp} {ps : List PV} {xs : List V} (h : RepL K H ps xs) : RepL K H ps.dropLast xs.dropLast := by
  rw [List.dropLast_eq_take, List.dropLast_eq_take, h.length]; exact h.take _
theorem mtv_pop : MtR X "list.pop" (rMt X.K fPop) := by
  intro pins s σ H x vs v us Q I rx rv ⟨a, xs, qs, ps, z, qs', e, ga, r1, r2, e1, k⟩
  match ps, e1, r2 with
  | [], e1, r2 =>
    simp only [fPop] at e1
    cases e2 : qs[qs.length - 1]? with
    | none => rw [e2] at e1; cases e1
    | some p =>
      rw [e2] at e1; cases e1
      obtain ⟨w, e3, r3⟩ := r1.get e2
      rw [r1.length] at e3
      exact mt_pop pins s σ H x vs v us Q I rx rv ⟨a, xs, w, e, repL_nil_inv r2, ga, e3, k _ _ r1.dropLast r3⟩
/-- xs.pop(i), 0 ≤ i -/
def fPopAt : List PV → List PV → Option (PV × List PV)
  | qs, [.int i] => if 0 ≤ i ∧ i < 2 ^ 63 then (qs[i.toNat]?).map fun p => (p, qs.eraseIdx i.toNat) else none
  | _, _ => none
theorem RepL.eraseIdx {K : PySem.W.Frag} {H : Hp} : ∀ {ps : List PV} {xs : List V} (n : Nat), RepL K H ps xs → RepL K H (ps.eraseIdx n) (xs.eraseIdx n)
  | [], xs, n, h => by rw [repL_nil_inv h]; exact repL_nil
  | p :: ps, xs, n, h => by
    obtain ⟨x, r, rfl, h1, h2⟩ := repL_cons_inv h
    cases n with
    | zero => exact h2
    | succ n => exact repL_cons h1 (RepL.eraseIdx n h2)
theorem mtv_popAt : MtR X "list.pop" (rMt X.K fPopAt) := by
  intro pins s σ H x vs v us Q I rx rv ⟨a, xs, qs, ps, z, qs', e, ga, r1, r2, e1, k⟩
  match ps, e1, r2 with
  | [.int i], e1, r2 =>
    simp only [fPopAt] at e1
    split at e1
    · rename_i hl
      cases e2 : qs[i.toNat]? with
      | none => rw [e2] at e1; cases e1
      | some p =>
        rw [e2] at e1; cases e1
        obtain ⟨w, r, rfl, h1, h2⟩ := repL_cons_inv r2
        have ew : w = .int i := by simpa only [Rep] using h1
        subst ew
        rw [repL_nil_inv h2] at rv
        obtain ⟨y, e3, r3⟩ := r1.get e2
        have hlt : i.toNat < xs.length := (List.getElem?_eq_some_iff.mp e3).1
        have hsq : seqIndex? i xs.length = some i.toNat := seqIndex_of hl.1 (by omega)
        exact mt_popAt pins s σ H x _ v us Q I rx rv ⟨a, xs, i, i.toNat, y, e, rfl, ga, by omega, hl.2, hsq, e3, k _ _ (r1.eraseIdx _) r3⟩
    · cases e1
/-! ### xs[i] = e -/
def dSetIx (i : Nat) (d : DE) (x : DE) : DS := fun ρ => (d ρ).bind fun (p, ρ1) => match ρ1[i]? with
  | some (.own (.lst _)) => (x ρ1).bind fun (q, ρ2) => match q, ρ2[i]? with
    | .int k, some (.own (.lst ps)) => (R.of (ixN ps.length k)).bind fun j => .ok (.nx, ρ2.set i (.own (.lst (ps.set j p))))
    | _, _ => .stuck
  | _ => .stuck
theorem vs_setIx {i : Nat} {b : Expr} {xd : DE} {spos : Pos} (ho : PE X (.Name x p) (tVar i)) (he : VE X W e d) (hb : VE X W b xd) (hs : swapsWithSole [.Subscript (.Name x p) b spos] e pos.line X.env = pure false := by rfl) (hw : swappedStores [.Subscript (.Name x p) b spos] e X.env = pure none := by rfl)
    (h1 : (assignEach [.Subscript (.Name x p) b spos] X.env).map (·.2) = [assign (.Subscript (.Name x p) b spos) X.env] := by rfl)
    (hsub : ∀ v, assign (.Subscript (.Name x p) b spos) X.env v = (do
      let ov ← holding [v] (eval (.Name x p) X.env)
      let iv ← holding [v, ov] (eval b X.env)
      standAt spos
      holding [v, ov, iv] (setItem ov iv v)
      release [v, ov, iv] []) := by intro _; rfl) : VS X W pin (.Assign [.Subscript (.Name x p) b spos] e pos) (dSetIx i d xd) := by
  refine (ps_asg he (pg_sub ho hb set_list hsub) hs hw h1).imp fun D σ H ⟨ρ, F, q⟩ => ⟨ρ, F, (SPost.bind (r := RVal X.K) q).mono fun v H1 ⟨q1, ρ1, s1, F1, r1, p1⟩ => ?_⟩
  dsimp only at p1
  split at p1
  · rename_i ps0 e0
    obtain ⟨a, u, e2, ga, xs0, rfl, r0⟩ := F1.own e0
    refine ⟨.ref a, e2, ρ1, F1, (SPost.bind (r := RVal X.K) p1).mono fun w H2 ⟨q2, ρ2, s2, F2, r2, p2⟩ => ?_⟩
    dsimp only at p2
    split at p2
    · rename_i k ps e4
      obtain ⟨b', u, e5, gb, xs, rfl, r3⟩ := F2.own e4
      rw [e2] at e5; cases e5
      cases e6 : ixN ps.length k with
      | none => rw [e6] at p2; exact p2.elim
      | some j =>
        rw [e6, R.of_some, R.bind_ok] at p2
        have ew : w = .int k := by simpa only [RVal, Rep] using r2
        subst ew
        refine ⟨a, xs, k, j, rfl, rfl, gb, by rw [← r3.length]; exact e6, ?_⟩
        obtain ⟨F3, st⟩ := F2.write (o' := .lst (ps.set j q1)) (u' := .lst (xs.set j v)) e4 e2 gb ⟨xs, rfl, r3⟩ ⟨_, rfl, r3.set j (Rep.mono s2.1.ext _ _ r1)⟩
        exact p2 σ _ ⟨st, fun _ _ => rfl⟩ F3
    · exact p2.elim
  · exact p1.elim
/-- x op= e, a value -/
def dAug (F : PV → PV → Option PV) (i : Nat) (d : DE) : DS := fun ρ => match ρ[i]? with
  | some (.val p) => (d ρ).bind fun (q, ρ1) => (R.of (F p q)).bind fun z => .ok (.nx, ρ1.set i (.val z))
  | _ => .stuck
theorem vs_aug {i : Nat} {op : Operator} {F : PV → PV → Option PV} {pos' : Pos} (hN : X.N.Nodup) (hi : X.N[i]? = some x) (hx : Loc X.env.scope x) (hp : i ∉ pin) (he : VE X W e d) (ho : OpR X (inplaceOp op) (rV2 X.K F))
    (hf : X.fn x = true ∨ X.env.scope.names.lookup x = some .local := by first | exact .inl rfl | exact .inr rfl | assumption) : VS X W pin (.AugAssign (.Name x pos') op e pos) (dAug F i d) := by
  refine (ps_aug (ti := fun x y H Q => rV2 X.K F x y H Q) hN hi hx he (fun pins s σ H x y v u Q I r1 r2 h => ho pins s σ H x y v u Q I r1 r2 h) hf).imp fun D σ H ⟨ρ, F0, q⟩ => ?_
  unfold dAug at q
  split at q
  · rename_i p0 e0
    obtain ⟨v, e1, r0⟩ := F0.val e0
    refine ⟨v, e1, ρ, F0, (SPost.bind (r := RVal X.K) q).mono fun w H1 ⟨q1, ρ1, s1, F1, r1, p1⟩ => ?_⟩
    dsimp only at p1
    cases e2 : F p0 q1 with
    | none => rw [e2] at p1; exact p1.elim
    | some z =>
      rw [e2, R.of_some, R.bind_ok] at p1
      exact ⟨p0, q1, z, (Rep.mono s1.1.ext _ _ r0).b, Rep.b r1, e2, fun zv H' sm rz => p1 _ H' ((ES.of_same (ρ := ρ1) (σ := σ) sm).ss.trans (ss_setVal (K := X.K) hp)) ((F1.same sm).setVal i rz)⟩
  · exact q.elim
theorem opv_iadd : OpR X (inplaceOp .Add) (rV2 X.K (fI fun i j => i + j)) := ofI0 iop_add
theorem opv_isub : OpR X (inplaceOp .Sub) (rV2 X.K (fI fun i j => i - j)) := ofI0 iop_sub
end
end VL
set_option Elab.async false
set_option linter.all false
set_option maxRecDepth 100000
set_option maxHeartbeats 1000000
namespace VL
open PySem PySem.Spec L2
/-! ### what a loop walks -/
def ItR (K : PySem.W.Frag) (J : It) (ps : List PV) (H : Hp) : Prop := ∀ H', Ext H H' → J.stop ps.length H' ∧ ∀ (j : Nat) (p : PV), ps[j]? = some p → J.go j H' ∧ ∀ x H'', J.yld j H' x H'' → Same H' H'' ∧ Rep K H'' p x
def RIt (K : PySem.W.Frag) : RR (List PV) It := fun _ H' ps J => ps.length ≤ sizeLine ∧ ItR K J ps H'
theorem anti_it {K : PySem.W.Frag} : Anti (RIt K) := fun _ _ _ _ _ _ h => h
def VI (X : Cx) (W : WX) (tg iter : Expr) (f : DA) : Prop := PI X tg iter fun σ H R => tP X.K X.mg W (RIt X.K) f σ H R
section
variable {X : Cx} {W : WX} {pin : List Nat} {pos : Pos} {st : Stmt} {rest : List Stmt} {e c tg iter : Expr} {es : List Expr} {f g : DS} {d : DE} {n : DN} {t : DT} {os : DOs}
theorem itr_list {K : PySem.W.Frag} {H : Hp} {a : Addr} {xs : List V} {ps : List PV} (h : FzL H a xs) (r : RepL K H ps xs) (inj : ∀ H' ys zs, SqL K H' a ys → FzL H' a zs → ys = zs) : ItR K (Itl K a) ps H := by
  intro H' e
  have h' : FzL H' a xs := let ⟨o, q⟩ := h; ⟨o, e a _ q trivial⟩
  refine ⟨⟨xs, h'.sq, by rw [r.length]; exact Nat.le_refl _⟩, fun j p hj => ?_⟩
  obtain ⟨x, e1, r1⟩ := r.get hj
  refine ⟨⟨xs, x, h'.sq, e1⟩, fun y H'' ⟨e2, q⟩ => ?_⟩
  subst e2
  have e3 := q xs h'.sq
  rw [e1] at e3; cases e3
  exact ⟨Same.refl _, Rep.mono e p x r1⟩
theorem itr_list' {K : PySem.W.Frag} {H : Hp} {a : Addr} {xs : List V} {ps : List PV} (h : FzL H a xs) (r : RepL K H ps xs) : ItR K (Itl K a) ps H := by
  intro H' e
  have h' : FzL H' a xs := let ⟨o, q⟩ := h; ⟨o, e a _ q trivial⟩
  refine ⟨⟨xs, h'.sq, by rw [r.length]; exact Nat.le_refl _⟩, fun j p hj => ?_⟩
  obtain ⟨x, e1, r1⟩ := r.get hj
  refine ⟨⟨xs, x, h'.sq, e1⟩, fun y H'' ⟨e2, q⟩ => ?_⟩
  subst e2
  have e3 := q xs h'.sq
  rw [e1] at e3; cases e3
  exact ⟨Same.refl _, Rep.mono e p x r1⟩
theorem itr_tup {K : PySem.W.Frag} {H : Hp} {a : Addr} {xs : List V} {ps : List PV} (h : SqT K H a xs) (r : RepL K H ps xs) : ItR K (Itt K a) ps H := by
  intro H' e
  have h' : SqT K H' a xs := sqT_ext e h
  refine ⟨⟨xs, h', by rw [r.length]; exact Nat.le_refl _⟩, fun j p hj => ?_⟩
  obtain ⟨x, e1, r1⟩ := r.get hj
  refine ⟨⟨xs, x, h', e1⟩, fun y H'' ⟨e2, q⟩ => ?_⟩
  subst e2
  have e3 := q xs h'
  rw [e1] at e3; cases e3
  exact ⟨Same.refl _, Rep.mono e p x r1⟩
def sgnsOf (x : Str) : List PV := x.cps.toList.map fun c => .str ⟨#[c]⟩
theorem itr_str {K : PySem.W.Frag} {H : Hp} {x : Str} (ho : okS x = true) : ItR K (Its x) (sgnsOf x) H := by
  intro H' e
  have hl : (sgnsOf x).length = x.cps.size := by unfold sgnsOf; simp
  refine ⟨by rw [hl]; exact Nat.le_refl _, fun j p hj => ?_⟩
  have hlt : j < x.cps.size := by rw [← hl]; exact (List.getElem?_eq_some_iff.mp hj).1
  unfold sgnsOf at hj
  rw [List.getElem?_map] at hj
  refine ⟨hlt, fun y H'' ⟨e1, c, e2, e3⟩ => ?_⟩
  subst e1 e3
  rw [Array.getElem?_toList, e2] at hj
  simp only [Option.map_some, Option.some.injEq] at hj
  subst hj
  refine ⟨Same.refl _, ?_⟩
  simp only [Rep]
  exact ⟨trivial, okS_one ho (List.mem_of_getElem? (by rw [Array.getElem?_toList]; exact e2))⟩
/-- over a list, a tuple or the signs of a text -/
def dSeqOf (d : DE) : DA := fun ρ => (d ρ).bind fun (p, ρ1) => match p with
  | .lst ps => .ok (ps, ρ1)
  | .tup ps => .ok (ps, ρ1)
  | .str x => .ok (sgnsOf x, ρ1)
  | _ => .stuck
theorem vi_seq (h : VE X W iter d) : VI X W tg iter (dSeqOf d) := by
  refine ⟨fun pins s σ H R I ⟨ρ, F, q⟩ => ?_⟩
  refine thn (h.run pins s σ H _ I ⟨ρ, F, Post.bind (r' := RVal X.K) anti_it q⟩) fun v s1 ⟨x, H1, I1, r1, p, ρ1, s1', F1, rp, p1⟩ => ?_
  cases p <;> first | exact p1.elim | skip
  · rename_i z
    simp only [RVal, Rep] at rp
    obtain ⟨rfl, ho⟩ := rp
    obtain ⟨t, rfl⟩ := r1
    have q := p1 _ H1 (ES.refl _ _ _) F1 ⟨by unfold sgnsOf; rw [List.length_map]; exact okS_len ho, itr_str ho⟩
    cases ha : z.cps.all (· < 128)
    · exact wpAny_pyIter_wide ha (pi_one (tk := s1.toks) I1 _ (turn_str _ z t "str_iterator" (.inr rfl)) ⟨_, Heap.get?_push_size _ rfl, rfl, rfl⟩ q)
    · exact wpAny_pyIter_ascii ha (pi_one (tk := s1.toks) I1 _ (turn_str _ z t "str_ascii_iterator" (.inl rfl)) ⟨_, Heap.get?_push_size _ rfl, rfl, rfl⟩ q)
  · rename_i ps
    simp only [RVal, Rep] at rp
    obtain ⟨a, xs, rfl, hq, rl⟩ := rp
    cases r1
    obtain ⟨its, rv, p, hz⟩ := I1.tuple hq
    refine wpAny_pyIter_tuple (show s1.heap.IsTuple a its.toArray from p) ?_
    refine ⟨s1.heap.objs.size, [s1.heap.objs.size], _, _, H1, rfl, I1.kept (t' := s1.toks) fun b o e => Heap.get?_push_of_some _ e, turn_tuple a _, ⟨_, Heap.get?_push_size _ rfl, rfl, rfl⟩, fun b hb => ?_, ?_⟩
    · have e : b = s1.heap.objs.size := by simpa using hb
      subst e
      exact I1.fpOk (Nat.le_refl _) (I1.hok.fresh (Nat.le_refl _))
    · exact p1 _ H1 (ES.refl _ _ _) F1 ⟨by rw [rl.length]; exact hz, itr_tup hq rl⟩
  · rename_i ps
    simp only [RVal, Rep] at rp
    obtain ⟨a, xs, rfl, hq, rl⟩ := rp
    cases r1
    obtain ⟨its, rv, p, hz⟩ := I1.list hq.sq
    refine wpAny_pyIter_list p.isList ?_
    refine ⟨s1.heap.objs.size, [s1.heap.objs.size], _, _, H1, rfl, I1.kept (t' := s1.toks) fun b o e => Heap.get?_push_of_some _ e, turn_list a _, ⟨_, Heap.get?_push_size _ rfl, rfl, rfl⟩, fun b hb => ?_, ?_⟩
    · have e : b = s1.heap.objs.size := by simpa using hb
      subst e
      exact I1.fpOk (Nat.le_refl _) (I1.hok.fresh (Nat.le_refl _))
    · exact p1 _ H1 (ES.refl _ _ _) F1 ⟨by rw [rl.length]; exact hz, itr_list' hq rl⟩
/-- range(n), range(a, b): of at most sizeLine turns -/
def rngL (lo : Int) (n : Nat) : List PV := (List.range n).map fun k => .int (lo + (k : Nat))
def rng1 : List PV → Option (List PV)
  | [.int n] => if n ≤ sizeLine ∧ -(2 ^ 62) ≤ n then some (rngL 0 n.toNat) else none
  | _ => none
def rng2 : List PV → Option (List PV)
  | [.int a, .int b] => if b - a ≤ sizeLine ∧ -(2 ^ 62) ≤ a ∧ a < 2 ^ 62 ∧ -(2 ^ 62) ≤ b ∧ b < 2 ^ 62 then some (rngL a (b - a).toNat) else none
  | _ => none
theorem itr_rng {K : PySem.W.Frag} {H : Hp} {lo : Int} {n : Nat} : ItR K (Itr lo n) (rngL lo n) H := by
  intro H' e
  have hl : (rngL lo n).length = n := by unfold rngL; simp
  refine ⟨by rw [hl]; exact Nat.le_refl _, fun j p hj => ?_⟩
  have hlt : j < n := by rw [← hl]; exact (List.getElem?_eq_some_iff.mp hj).1
  have ep : p = .int (lo + (j : Nat)) := by
    unfold rngL at hj
    rw [List.getElem?_map, List.getElem?_range hlt] at hj
    cases hj; rfl
  subst ep
  refine ⟨hlt, fun x H'' ⟨e1, e2⟩ => ?_⟩
  subst e1 e2
  exact ⟨Same.refl _, by simp only [Rep]⟩
variable {a b : Expr} {p : Pos}
theorem rng_post {σ : L2.St} {R : It → Hp → Prop} {H : Hp} {ρ : En} {n : Nat} {lo : Int} (hn : n ≤ sizeLine) (F : FrR X.K ρ σ H) (q : Post X.K X.mg W σ H ρ (RIt X.K) R (.ok (rngL lo n, ρ))) : R (Itr lo n) H :=
  q _ H (ES.refl _ _ _) F ⟨by unfold rngL; simpa using hn, itr_rng⟩
theorem vi_range1 (hg : Gl X "range") (hm : X.mg "range" = none) (ha : VOs X W [a] os) (hs : starEach [a] X.env = [(false, eval a X.env)] := by rfl) : VI X W tg (.Call (.Name "range" p) [a] [] pos) (dCB rng1 os) := by
  refine (pi_range1 hg hm ha hs).imp fun σ H R ⟨ρ, F, q⟩ => ⟨ρ, F, (Post.bind (r' := RHds X.K σ) anti_it q).mono fun vs H1 ⟨hd, ρ1, s1, F1, r1, p1⟩ => ?_⟩
  obtain ⟨ps, z, e1, e2, p2⟩ := cb_inv p1
  have rb := RHds.repBs (H := H) F1 r1 e1
  unfold rng1 at e2
  split at e2
  · rename_i n
    split at e2
    · rename_i hc
      cases e2
      obtain ⟨x, rfl, h1⟩ := rb.one
      have hs : sizeLine = 16777216 := sizeLine_eq
      exact ⟨n, by rw [RepB.int h1], hc.2, by omega, rng_post (by omega) F1 p2⟩
    · cases e2
  · cases e2
theorem vi_range2 (hg : Gl X "range") (hm : X.mg "range" = none) (ha : VOs X W [a, b] os) (hs : starEach [a, b] X.env = [(false, eval a X.env), (false, eval b X.env)] := by rfl) (hs2 : starEach [b] X.env = [(false, eval b X.env)] := by rfl) : VI X W tg (.Call (.Name "range" p) [a, b] [] pos) (dCB rng2 os) := by
  refine (pi_range2 hg hm ha hs hs2).imp fun σ H R ⟨ρ, F, q⟩ => ⟨ρ, F, (Post.bind (r' := RHds X.K σ) anti_it q).mono fun vs H1 ⟨hd, ρ1, s1, F1, r1, p1⟩ => ?_⟩
  obtain ⟨ps, z, e1, e2, p2⟩ := cb_inv p1
  have rb := RHds.repBs (H := H) F1 r1 e1
  unfold rng2 at e2
  split at e2
  · rename_i i j
    split at e2
    · rename_i hc
      cases e2
      obtain ⟨x, y, rfl, h1, h2⟩ := rb.two
      exact ⟨i, j, by rw [RepB.int h1, RepB.int h2], ⟨hc.2.1, hc.2.2.1, hc.2.2.2.1, hc.2.2.2.2⟩, rng_post (by omega) F1 p2⟩
    · cases e2
  · cases e2
/-! ### for -/
def forD (g : DG) (body : DS) : List PV → DS
  | [], ρ => .ok (.nx, ρ)
  | p :: ps, ρ => (R.of (g p ρ)).bind fun ρ1 => (body ρ1).bind fun (c, ρ2) => match c with
    | .nx => forD g body ps ρ2
    | .ct => forD g body ps ρ2
    | .bk => .ok (.nx, ρ2)
    | .ret rt => .ok (.ret rt, ρ2)
def dFor (src : DA) (g : DG) (body : DS) : DS := fun ρ => (src ρ).bind fun (ps, ρ1) => forD g body ps ρ1
theorem vs_for {vs : List Nat} {g : DG} {src : DA} {body : List Stmt} (hp : PassesOwn (model X.prog X.w) X.A X.env X.xe) (hc : X.calm = true) (hv : ∀ i ∈ pin, i ∉ vs) (hi : VI X W tg iter src) (hg : VG X vs tg g) (hb : VSs X W pin body f)
    (hs : ∀ x, foldedSetIterable iter X.env x = pure x := by intro _; rfl) : VS X W pin (.For tg iter body [] pos) (dFor src g f) := by
  refine (ps_for hp hc hi hg hb hs).imp fun D σ0 H0 ⟨ρ0, F0, q0⟩ => ⟨ρ0, F0, (SPost.bind (r := RIt X.K) q0).mono fun J H1 ⟨ps, ρ1, s1, F1, ⟨hl, it⟩, p1⟩ => ?_⟩
  dsimp only at p1
  refine ⟨fun i m σ H => m = ps.length - i ∧ i ≤ ps.length ∧ Ext H1 H ∧ ∃ ρ, FrR X.K ρ σ H ∧ SPost X.K X.mg W pin D σ H ρ (forD g f (ps.drop i) ρ), ⟨ps.length, by simp, Nat.zero_le _, Ext.refl _, ρ1, F1, p1⟩, ?_⟩
  rintro i m σ H ⟨rfl, hi, ext, ρ, F, q⟩
  obtain ⟨stop, go⟩ := it H ext
  by_cases hlt : i < ps.length
  · obtain ⟨gi, yl⟩ := go i ps[i] (List.getElem?_eq_getElem hlt)
    refine .inr ⟨gi, fun σ' H' => i + 1 ≤ ps.length ∧ Ext H1 H' ∧ ∃ ρ, FrR X.K ρ σ' H' ∧ SPost X.K X.mg W pin D σ' H' ρ (forD g f (ps.drop (i + 1)) ρ), fun σ' H' ⟨h1, h2, h3⟩ => ⟨ps.length - (i + 1), by omega, rfl, h1, h2, h3⟩, fun x H' y => ?_⟩
    obtain ⟨sm, rx⟩ := yl x H' y
    have F' := F.same sm
    have q' := SPost.rebase (ES.of_same (ρ := ρ) (σ := σ) sm).ss q
    rw [List.drop_eq_getElem_cons hlt] at q'
    dsimp only [forD] at q'
    refine ⟨ρ, ps[i], F', rx, ?_⟩
    cases e1 : g ps[i] ρ with
    | none => rw [e1] at q'; exact q'.elim
    | some ρ2 =>
      rw [e1, R.of_some, R.bind_ok] at q'
      intro σ2 F2 o2 l2 k2
      have s2 : SS pin ρ σ H' ρ2 σ2 H' := ⟨⟨Ext.refl _, fun _ _ _ h => h, fun _ o h => ⟨o, h⟩, fun a h => .inl (o2 a h)⟩, fun j hj => k2 j (hv j hj)⟩
      have q2 := SPost.rebase s2 q'
      have ext' : Ext H1 H' := ext.trans (Ext.of_same sm)
      refine ⟨ρ2, F2, SPost.seq (D := D) ?_ ?_ ?_ ?_ ?_ q2⟩
      · exact fun ρ3 σ3 H3 s3 F3 q3 => ⟨hlt, ext'.trans s3.1.ext, ρ3, F3, q3⟩
      · exact fun ρ3 σ3 H3 s3 F3 q3 => q3 σ3 H3 (SS.refl _ _ _) F3
      · exact fun ρ3 σ3 H3 s3 F3 q3 => ⟨hlt, ext'.trans s3.1.ext, ρ3, F3, q3⟩
      · exact fun _ _ => rfl
      · rfl
  · have e : i = ps.length := by omega
    subst e
    rw [List.drop_length] at q
    exact .inl ⟨stop, q σ H (SS.refl _ _ _) F⟩
/-! ### while, of at most n turns -/
def whD (t : DT) (body : DS) : Nat → DS
  | 0, _ => .stuck
  | n + 1, ρ => (t ρ).bind fun (b, ρ1) => if b = true then (body ρ1).bind fun (c, ρ2) => match c with
    | .nx => whD t body n ρ2
    | .ct => whD t body n ρ2
    | .bk => .ok (.nx, ρ2)
    | .ret rt => .ok (.ret rt, ρ2)
  else .ok (.nx, ρ1)
theorem vs_while {body : List Stmt} (n : Nat) (hp : PassesOwn (model X.prog X.w) X.A X.env X.xe) (hc : VT X W c t) (hb : VSs X W pin body f) : VS X W pin (.While c body [] pos) (whD t f n) := by
  refine (ps_while hp hc hb).imp fun D σ0 H0 ⟨ρ0, F0, q0⟩ => ?_
  refine ⟨fun m σ H => ∃ ρ, FrR X.K ρ σ H ∧ SPost X.K X.mg W pin D σ H ρ (whD t f m ρ), ⟨n, ρ0, F0, q0⟩, ?_⟩
  rintro m σ H ⟨ρ, F, q⟩
  cases m with
  | zero => exact q.elim
  | succ m =>
    refine ⟨ρ, F, (SPost.bind (r := RBool) q).mono fun v H1 ⟨b, ρ1, s1, F1, r1, p1⟩ => ?_⟩
    have e : b = v := r1
    subst e
    dsimp only at p1
    cases b with
    | false => rw [if_neg Bool.false_ne_true] at p1 ⊢; exact p1 σ H1 (SS.refl _ _ _) F1
    | true =>
      rw [if_pos rfl] at p1 ⊢
      refine ⟨fun σ' H' => ∃ ρ, FrR X.K ρ σ' H' ∧ SPost X.K X.mg W pin D σ' H' ρ (whD t f m ρ), fun σ' H' h => ⟨m, Nat.lt_succ_self m, h⟩, ρ1, F1, SPost.seq (D := D) ?_ ?_ ?_ ?_ ?_ p1⟩
      · exact fun ρ3 σ3 H3 s3 F3 q3 => ⟨ρ3, F3, q3⟩
      · exact fun ρ3 σ3 H3 s3 F3 q3 => q3 σ3 H3 (SS.refl _ _ _) F3
      · exact fun ρ3 σ3 H3 s3 F3 q3 => ⟨ρ3, F3, q3⟩
      · exact fun _ _ => rfl
      · rfl
end
end VL
set_option Elab.async false
set_option linter.all false
set_option maxRecDepth 100000
set_option maxHeartbeats 1000000
namespace VL
open PySem PySem.Spec L2
/-! ### list comprehensions -/
def wipeE : En → List Nat → En
  | ρ, [] => ρ
  | ρ, v :: vs => (wipeE ρ vs).set v .emp
def restE (ρ0 : En) : En → List Nat → En
  | ρ, [] => ρ
  | ρ, v :: vs => match ρ0[v]? with
    | some s => (restE ρ0 ρ vs).set v s
    | none => restE ρ0 ρ vs
def noExc {α : Type} : R α → R α
  | .ok a => .ok a
  | _ => .stuck
@[simp] theorem noExc_ok {α : Type} (a : α) : noExc (.ok a) = .ok a := rfl
theorem wipeE_len (ρ : En) : ∀ vs : List Nat, (wipeE ρ vs).length = ρ.length
  | [] => rfl
  | v :: vs => by unfold wipeE; rw [List.length_set, wipeE_len ρ vs]
theorem restE_len (ρ0 ρ : En) : ∀ vs : List Nat, (restE ρ0 ρ vs).length = ρ.length
  | [] => rfl
  | v :: vs => by
    unfold restE
    split
    · rw [List.length_set, restE_len ρ0 ρ vs]
    · exact restE_len ρ0 ρ vs
theorem wipeE_get {ρ : En} {j : Nat} {s : Slot} : ∀ {vs : List Nat}, (wipeE ρ vs)[j]? = some s → (j ∈ vs ∧ s = .emp) ∨ (j ∉ vs ∧ ρ[j]? = some s)
  | [], h => .inr ⟨by simp, h⟩
  | v :: vs, h => by
    unfold wipeE at h
    by_cases hv : v = j
    · subst hv
      by_cases hl : v < (wipeE ρ vs).length
      · rw [List.getElem?_set_self hl] at h; cases h
        exact .inl ⟨by simp, rfl⟩
      · rw [List.getElem?_eq_none (by simpa using hl)] at h; cases h
    · rw [List.getElem?_set_ne hv] at h
      rcases wipeE_get h with ⟨h1, h2⟩ | ⟨h1, h2⟩
      · exact .inl ⟨List.mem_cons_of_mem _ h1, h2⟩
      · exact .inr ⟨by simp only [List.mem_cons, not_or]; exact ⟨fun e => hv e.symm, h1⟩, h2⟩
theorem wipe_get {σ : L2.St} {j : Nat} {s : Option V} : ∀ {vs : List Nat}, (wipe σ vs)[j]? = some s → (j ∈ vs ∧ s = none) ∨ (j ∉ vs ∧ σ[j]? = some s)
  | [], h => .inr ⟨by simp, h⟩
  | v :: vs, h => by
    unfold wipe at h
    by_cases hv : v = j
    · subst hv
      by_cases hl : v < (wipe σ vs).length
      · rw [List.getElem?_set_self hl] at h; cases h
        exact .inl ⟨by simp, rfl⟩
      · rw [List.getElem?_eq_none (by simpa using hl)] at h; cases h
    · rw [List.getElem?_set_ne hv] at h
      rcases wipe_get h with ⟨h1, h2⟩ | ⟨h1, h2⟩
      · exact .inl ⟨List.mem_cons_of_mem _ h1, h2⟩
      · exact .inr ⟨by simp only [List.mem_cons, not_or]; exact ⟨fun e => hv e.symm, h1⟩, h2⟩
theorem wipe_out {σ : L2.St} {j : Nat} {vs : List Nat} (h : j ∉ vs) : (wipe σ vs)[j]? = σ[j]? := by
  induction vs with
  | nil => rfl
  | cons v vs ih =>
    simp only [List.mem_cons, not_or] at h
    unfold wipe
    rw [List.getElem?_set_ne (fun e => h.1 e.symm), ih h.2]
theorem wipe_in {σ : L2.St} {j : Nat} {vs : List Nat} (h : j ∈ vs) (hl : j < σ.length) : (wipe σ vs)[j]? = some none := by
  have hl' : j < (wipe σ vs).length := by rw [wipe_length]; exact hl
  have e := List.getElem?_eq_getElem hl'
  rcases wipe_get e with ⟨_, q⟩ | ⟨q, _⟩
  · rw [e, q]
  · exact absurd h q
theorem wipe_eq {σ σ' : L2.St} {vs : List Nat} (hl : σ'.length = σ.length) (h : ∀ i, i ∉ vs → σ'[i]? = (wipe σ vs)[i]?) : wipe σ' vs = wipe σ vs := by
  apply List.ext_getElem?
  intro j
  by_cases hj : j ∈ vs
  · by_cases hb : j < σ.length
    · rw [wipe_in hj (by rw [hl]; exact hb), wipe_in hj hb]
    · rw [List.getElem?_eq_none (by rw [wipe_length, hl]; omega), List.getElem?_eq_none (by rw [wipe_length]; omega)]
  · rw [wipe_out hj, h j hj]
theorem restE_get {ρ0 ρ : En} {j : Nat} {s : Slot} (hl : ρ.length = ρ0.length) : ∀ {vs : List Nat}, (restE ρ0 ρ vs)[j]? = some s → (j ∈ vs ∧ ρ0[j]? = some s) ∨ (j ∉ vs ∧ ρ[j]? = some s)
  | [], h => .inr ⟨by simp, h⟩
  | v :: vs, h => by
    unfold restE at h
    by_cases hv : v = j
    · subst hv
      split at h
      · rename_i s' e
        have hl2 : v < (restE ρ0 ρ vs).length := by rw [restE_len, hl]; exact (List.getElem?_eq_some_iff.mp e).1
        rw [List.getElem?_set_self hl2] at h; cases h
        exact .inl ⟨by simp, e⟩
      · rename_i e
        have hn : ρ0.length ≤ v := List.getElem?_eq_none_iff.mp e
        rw [List.getElem?_eq_none (by rw [restE_len, hl]; exact hn)] at h; cases h
    · have h' : (restE ρ0 ρ vs)[j]? = some s := by
        split at h
        · rw [List.getElem?_set_ne hv] at h; exact h
        · exact h
      rcases restE_get hl h' with ⟨h1, h2⟩ | ⟨h1, h2⟩
      · exact .inl ⟨List.mem_cons_of_mem _ h1, h2⟩
      · exact .inr ⟨by simp only [List.mem_cons, not_or]; exact ⟨fun e => hv e.symm, h1⟩, h2⟩
section
variable {K : PySem.W.Frag} {ρ : En} {σ : L2.St} {H : Hp} {vs : List Nat}
theorem Ow.wiped {a : Addr} (h : Ow (wipeE ρ vs) (wipe σ vs) a) : Ow ρ σ a := by
  obtain ⟨i, o, h1, h2⟩ := h
  rcases wipeE_get h1 with ⟨_, q⟩ | ⟨hj, q⟩
  · cases q
  · rw [wipe_out hj] at h2
    exact ⟨i, o, q, h2⟩
theorem FrR.wiped (F : FrR K ρ σ H) : FrR K (wipeE ρ vs) (wipe σ vs) H := by
  refine ⟨by rw [wipeE_len, wipe_length]; exact F.len, fun i s ov h1 h2 => ?_, fun i j o o' a h1 h2 h3 h4 => ?_⟩
  · rcases wipeE_get h1 with ⟨_, q⟩ | ⟨hj, q⟩
    · subst q; trivial
    · rw [wipe_out hj] at h2
      exact F.slot i s ov q h2
  · rcases wipeE_get h1 with ⟨_, q⟩ | ⟨hi, q1⟩
    · cases q
    · rcases wipeE_get h2 with ⟨_, q⟩ | ⟨hj, q2⟩
      · cases q
      · rw [wipe_out hi] at h3
        rw [wipe_out hj] at h4
        exact F.inj i j o o' a q1 q2 h3 h4
end
def lcD (g : DG) (c : DT) (e : DE) (vs : List Nat) : List PV → List PV → En → R (List PV × En)
  | [], acc, ρ => .ok (acc, ρ)
  | p :: ps, acc, ρ => (R.of (g p ρ)).bind fun ρ1 => (noExc (c ρ1)).bind fun (b, ρ2) => if b = true then (noExc (e ρ2)).bind fun (q, ρ3) => lcD g c e vs ps (acc ++ [q]) (wipeE ρ3 vs)
    else lcD g c e vs ps acc (wipeE ρ2 vs)
def dLc (src : DA) (g : DG) (c : DT) (e : DE) (vs : List Nat) : DN := fun ρ => (src ρ).bind fun (ps, ρ1) => (lcD g c e vs ps [] (wipeE ρ1 vs)).bind fun (acc, ρ2) => .ok (.lst acc, restE ρ1 ρ2 vs)
abbrev noW : WX := fun _ _ _ _ => False
def VTs (X : Cx) (W : WX) (ifs : List Expr) (f : DT) : Prop := PTs X ifs (tP X.K X.mg W RBool f)
def dYes : DT := fun ρ => .ok (true, ρ)
section
variable {X : Cx} {W : WX} {pos : Pos} {e c tg iter elt : Expr} {d : DE} {t : DT} {src : DA} {g : DG} {vs ws : List Nat}
theorem vts_nil : VTs X W [] dYes := ⟨fun pins s σ H Q I ⟨ρ, F, q⟩ => pts_nil.run pins s σ H Q I (q true H (ES.refl _ _ _) F rfl)⟩
theorem vts_one (h : VT X W c t) : VTs X W [c] t := pts_one h
/-- the part of a post that has no exception -/
theorem Post.noExc {α β : Type} {K : PySem.W.Frag} {mg : Str → Option Value} {σ : L2.St} {H : Hp} {ρ : En} {r : RR α β} {Q : β → Hp → Prop} {W' : WX} : ∀ {m : R (α × En)}, Post K mg W σ H ρ r Q (VL.noExc m) → Post K mg W' σ H ρ r Q m
  | .ok (a, ρ'), h => h
  | .exc e ρ', h => h.elim
  | .stuck, h => h.elim
theorem lc_read (hw : ∀ i ∈ ws, i ∈ vs) {σ : L2.St} {H : Hp} {Q : VK} (h : tP X.K X.mg W (RNew X.K) (dLc src g t d vs) σ H Q) :
    tLc (fun σ H R => tP X.K X.mg W (RIt X.K) src σ H R) (tG X.K ws g) (tP X.K X.mg noW RBool t) (tP X.K X.mg noW (RVal X.K) d) vs σ H Q := by
  obtain ⟨ρ, F0, p⟩ := h
  refine ⟨ρ, F0, (Post.bind (r' := RIt X.K) anti_new p).mono fun J H1 ⟨ps, ρ1, s1, F1, ⟨hl, it⟩, p1⟩ D hD => ?_⟩
  dsimp only at p1
  -- the state between two turns
  let In : Nat → Hp → Prop := fun i H => i ≤ ps.length ∧ ∃ ρ' acc xs, FrR X.K ρ' (wipe σ vs) H ∧ Step (Ow (wipeE ρ1 vs) (wipe σ vs)) H1 (Ow ρ' (wipe σ vs)) H ∧ (∀ a, Ow ρ' (wipe σ vs) a → Ow (wipeE ρ1 vs) (wipe σ vs) a) ∧ ρ'.length = ρ1.length ∧
    H D = some (.lst xs) ∧ RepL X.K H acc xs ∧ acc.length ≤ i ∧ Post X.K X.mg W σ H1 ρ1 (RNew X.K) Q ((lcD g t d vs (ps.drop i) acc ρ').bind fun (acc, ρ2) => .ok (.lst acc, restE ρ1 ρ2 vs))
  have hs0 : Same H1 (upd H1 D (.lst [])) := same_upd hD
  have nD : ¬ Ow (wipeE ρ1 vs) (wipe σ vs) D := fun z => by
    obtain ⟨i, o, e1, e2⟩ := z.wiped
    obtain ⟨a, u, e3, ga, _⟩ := F1.own e1
    rw [e2] at e3; cases e3
    rw [hD] at ga; cases ga
  refine ⟨fun i m H => m = ps.length - i ∧ In i H, ⟨ps.length, by simp, Nat.zero_le _, wipeE ρ1 vs, [], [], F1.wiped.same hs0, Step.of_same hs0, fun _ h => h, wipeE_len _ _, upd_same, repL_nil, Nat.le_refl _, p1⟩, ?_⟩
  rintro i m H2 ⟨rfl, hi, ρ', acc, xs, F2, st, sub, len, gD, rl, al, q⟩
  obtain ⟨stop, go⟩ := it H2 st.ext
  by_cases hlt : i < ps.length
  · obtain ⟨gi, yl⟩ := go i ps[i] (List.getElem?_eq_getElem hlt)
    refine .inr ⟨gi, In (i + 1), fun H' h => ⟨ps.length - (i + 1), by omega, rfl, h⟩, fun x H' y => ?_⟩
    obtain ⟨sm, rx⟩ := yl x H' y
    have F3 := F2.same sm
    rw [List.drop_eq_getElem_cons hlt] at q
    dsimp only [lcD] at q
    refine ⟨ρ', ps[i], F3, rx, ?_⟩
    cases e1 : g ps[i] ρ' with
    | none => rw [e1] at q; exact q.elim
    | some ρ2 =>
      rw [e1, R.of_some, R.bind_ok] at q
      intro σ2 F4 o4 l4 k4
      have wσ : wipe σ2 vs = wipe σ vs := wipe_eq (l4.trans (wipe_length σ vs)) fun j hj => k4 j fun z => hj (hw j z)
      have wσ2 : ∀ {a : Addr} {ρx : En}, Ow (wipeE ρx vs) (wipe σ vs) a → Ow ρx σ2 a := fun {a ρx} h => by rw [← wσ] at h; exact h.wiped
      refine ⟨wσ, ρ2, F4, ?_⟩
      -- the test
      cases e2 : t ρ2 with
      | exc _ _ => rw [e2] at q; exact q.elim
      | stuck => rw [e2] at q; exact q.elim
      | ok cc =>
        obtain ⟨b, ρ3⟩ := cc
        rw [e2, noExc_ok, R.bind_ok] at q
        dsimp only at q
        intro b' H3 s3 F5 eb
        have eb' : b = b' := eb
        subst eb'
        -- what is known behind the test
        have st3 : Step (Ow (wipeE ρ1 vs) (wipe σ vs)) H1 (Ow ρ3 σ2) H3 := (st.trans (Step.of_same sm)).trans ⟨s3.1.ext, fun a o n e => s3.1.keep a o (fun z => n (o4 a z)) e, s3.1.there, fun a h => .inl (o4 a (s3.2 a h))⟩
        have sub3 : ∀ a, Ow ρ3 σ2 a → Ow (wipeE ρ1 vs) (wipe σ vs) a := fun a h => sub a (o4 a (s3.2 a h))
        have gD3 : H3 D = some (.lst xs) := s3.1.keep D _ (fun z => nD (sub D (o4 D z))) (sm D _ gD)
        have len3 : ρ3.length = ρ1.length := by rw [F5.len, l4, ← F2.len, len]
        cases b with
        | false =>
          rw [if_neg Bool.false_ne_true] at q ⊢
          refine ⟨hlt, wipeE ρ3 vs, acc, xs, ?_, ⟨st3.ext, st3.keep, st3.there, fun a h => .inl (sub3 a (wσ2 h))⟩, fun a h => sub3 a (wσ2 h), (wipeE_len _ _).trans len3, gD3, RepL.mono ((Ext.of_same sm).trans s3.1.ext) _ _ rl, Nat.le_succ_of_le al, q⟩
          rw [← wσ]; exact F5.wiped
        | true =>
          rw [if_pos rfl] at q ⊢
          refine ⟨ρ3, F5, ?_⟩
          cases e3 : d ρ3 with
          | exc _ _ => rw [e3] at q; exact q.elim
          | stuck => rw [e3] at q; exact q.elim
          | ok cc =>
            obtain ⟨w, ρ4⟩ := cc
            rw [e3, noExc_ok, R.bind_ok] at q
            dsimp only at q
            intro y H4 s4 F6 ry
            have gD4 : H4 D = some (.lst xs) := s4.1.keep D _ (fun z => nD (sub3 D z)) gD3
            have sub4 : ∀ a, Ow ρ4 σ2 a → Ow (wipeE ρ1 vs) (wipe σ vs) a := fun a h => sub3 a (s4.2 a h)
            have st4 : Step (Ow (wipeE ρ1 vs) (wipe σ vs)) H1 (Ow ρ4 σ2) H4 := st3.trans s4.1
            have ex : Ext H4 (upd H4 D (.lst (xs ++ [y]))) := ext_write gD4
            have ne : ∀ a o, H1 a = some o → a ≠ D := fun a o e z => by subst z; rw [hD] at e; cases e
            refine ⟨xs, gD4, ?_, hlt, wipeE ρ4 vs, acc ++ [w], xs ++ [y], ?_, ⟨st4.ext.trans ex, fun a o n e => by rw [upd_ne (ne a o e)]; exact st4.keep a o n e, fun a o e => ?_, fun a h => .inl (sub4 a (wσ2 h))⟩, fun a h => sub4 a (wσ2 h), (wipeE_len _ _).trans (by rw [F6.len, l4, ← F2.len, len]), upd_same, ?_, ?_, q⟩
            · rw [← rl.length]; omega
            · rw [← wσ]
              exact (F6.mono ex fun a o ha e => by rw [upd_ne (fun z => nD (sub4 D (by rw [← z]; exact ha)))]; exact e).wiped
            · obtain ⟨o', e'⟩ := st4.there a o e
              exact ⟨o', by rw [upd_ne (ne a o e)]; exact e'⟩
            · exact (RepL.mono (((Ext.of_same sm).trans s3.1.ext).trans (s4.1.ext.trans ex)) _ _ rl).append (repL_cons (Rep.mono ex _ _ ry) repL_nil)
            · rw [List.length_append]; simp; omega
  · have e : i = ps.length := by omega
    subst e
    rw [List.drop_length] at q
    dsimp only [lcD, R.bind_ok] at q
    refine .inl ⟨stop, ?_⟩
    have hrl : ρ'.length = ρ1.length := len
    have owr : ∀ a, Ow (restE ρ1 ρ' vs) σ a → Ow ρ1 σ a := fun a ⟨j, o, h1, h2⟩ => by
      rcases restE_get hrl h1 with ⟨_, q1⟩ | ⟨hj, q1⟩
      · exact ⟨j, o, q1, h2⟩
      · exact (sub a ⟨j, o, q1, by rw [wipe_out hj]; exact h2⟩).wiped
    refine q (.ref D) H2 ⟨⟨st.ext, fun a o n e => st.keep a o (fun z => n z.wiped) e, st.there, fun a h => .inl (owr a h)⟩, owr⟩ ?_ ⟨D, _, rfl, hD, gD, xs, rfl, rl⟩
    refine ⟨(restE_len _ _ _).trans (hrl.trans F1.len), fun j s ov h1 h2 => ?_, fun j k o o' a h1 h2 h3 h4 => ?_⟩
    · rcases restE_get hrl h1 with ⟨hj, q1⟩ | ⟨hj, q1⟩
      · have z := F1.slot j s ov q1 h2
        cases s with
        | emp => trivial
        | val p => obtain ⟨v, rfl, z⟩ := z; exact ⟨v, rfl, Rep.mono st.ext p v z⟩
        | own o =>
          obtain ⟨a, u, rfl, ga, z⟩ := z
          refine ⟨a, u, rfl, st.keep a u (fun ⟨i, o', z1, z2⟩ => ?_) ga, z.mono st.ext⟩
          rcases wipeE_get z1 with ⟨_, w⟩ | ⟨hi', w⟩
          · cases w
          · rw [wipe_out hi'] at z2
            exact hi' (F1.inj j i _ _ a q1 w h2 z2 ▸ hj)
      · exact F2.slot j s ov q1 (by rw [wipe_out hj]; exact h2)
    · have far : ∀ {m m' : Nat} {o1 o2 : OV}, m ∈ vs → ρ1[m]? = some (.own o1) → m' ∉ vs → ρ'[m']? = some (.own o2) → σ[m]? = some (some (.ref a)) → σ[m']? = some (some (.ref a)) → False := fun {m m' o1 o2} hm q1 hm' q2 z1 z2 => by
        obtain ⟨i, o3, z3, z4⟩ := sub a ⟨m', o2, q2, by rw [wipe_out hm']; exact z2⟩
        rcases wipeE_get z3 with ⟨_, w⟩ | ⟨hi', w⟩
        · cases w
        · rw [wipe_out hi'] at z4
          exact hi' (F1.inj m i _ _ a q1 w z1 z4 ▸ hm)
      rcases restE_get hrl h1 with ⟨hj, q1⟩ | ⟨hj, q1⟩
      · rcases restE_get hrl h2 with ⟨hk, q2⟩ | ⟨hk, q2⟩
        · exact F1.inj j k _ _ a q1 q2 h3 h4
        · exact (far hj q1 hk q2 h3 h4).elim
      · rcases restE_get hrl h2 with ⟨hk, q2⟩ | ⟨hk, q2⟩
        · exact (far hk q2 hj q1 h4 h3).elim
        · exact F2.inj j k _ _ a q1 q2 (by rw [wipe_out hj]; exact h3) (by rw [wipe_out hk]; exact h4)
variable {ifs : List Expr} {scope : Scope} {own : List (Str × Nat)}
theorem vn_lc (hc : X.calm = true) (hN : X.N.Nodup) (hi : VI X W tg iter src) (ok : BlkOk X.N X.env.scope scope own) (hw : ∀ i ∈ ws, i ∈ own.map (·.2))
    (hg : ∀ (s : Shared) (H : Hp) (C : Addr) (cl : List (Str × Addr)) (fp : List Addr), VG (X.blk s H scope (compEnvC scope cl C X.env) fp) ws tg g) (ht : ∀ (s : Shared) (H : Hp) (C : Addr) (cl : List (Str × Addr)) (fp : List Addr), VTs (X.blk s H scope (compEnvC scope cl C X.env) fp) noW ifs t)
    (he : ∀ (s : Shared) (H : Hp) (C : Addr) (cl : List (Str × Addr)) (fp : List Addr), VE (X.blk s H scope (compEnvC scope cl C X.env) fp) noW elt d) (hs : ∀ x, foldedSetIterable iter X.env x = pure x := by intro _; rfl) :
    VN X W (.ListComp elt [⟨tg, iter, ifs, 0⟩] scope pos) (dLc src g t d (own.map (·.2))) :=
  (pe_lc (g := tG X.K ws g) (tt := tP X.K X.mg noW RBool t) (te := tP X.K X.mg noW (RVal X.K) d) hc hN hi ok hg ht he hs).imp fun σ H Q h => lc_read hw h
/-- y = [..], y an ordinary local, on one line -/
theorem vs_setLc {pin : List Nat} {i : Nat} {y : Str} {py spos : Pos} (hc : X.calm = true) (hN : X.N.Nodup) (hy : X.N[i]? = some y) (hyl : X.env.scope.names.lookup y = some .local) (hp : i ∉ pin)
    (hsw : swapsWith (.ListComp elt [⟨tg, iter, ifs, 0⟩] scope pos) (some (.Name y py)) spos.line X.env = pure true) (hi : VI X W tg iter src) (ok : BlkOk X.N X.env.scope scope own) (hw : ∀ i ∈ ws, i ∈ own.map (·.2))
    (hg : ∀ (s : Shared) (H : Hp) (C : Addr) (cl : List (Str × Addr)) (fp : List Addr), VG (X.blk s H scope (compEnvC scope cl C X.env) fp) ws tg g) (ht : ∀ (s : Shared) (H : Hp) (C : Addr) (cl : List (Str × Addr)) (fp : List Addr), VTs (X.blk s H scope (compEnvC scope cl C X.env) fp) noW ifs t)
    (he : ∀ (s : Shared) (H : Hp) (C : Addr) (cl : List (Str × Addr)) (fp : List Addr), VE (X.blk s H scope (compEnvC scope cl C X.env) fp) noW elt d) (hs : ∀ x, foldedSetIterable iter X.env x = pure x := by intro _; rfl) :
    VS X W pin (.Assign [.Name y py] (.ListComp elt [⟨tg, iter, ifs, 0⟩] scope pos) spos) (dSetN i (dLc src g t d (own.map (·.2)))) :=
  (ps_setLc (g := tG X.K ws g) (tt := tP X.K X.mg noW RBool t) (te := tP X.K X.mg noW (RVal X.K) d) hc hN hy hyl hsw hi ok hg ht he hs).imp fun D σ H h => lc_read hw (setN_read hp h)
end
/-! ### a def -/
def okArgs : List Bool → List Slot → Bool
  | [], [] => true
  | true :: bs, .own _ :: ss => okArgs bs ss
  | false :: bs, .val _ :: ss => okArgs bs ss
  | _, _ => false
def outsOf : List Bool → List Slot → En → Option (List Slot)
  | [], [], _ => some []
  | true :: bs, _ :: ss, .own o :: ρ => (outsOf bs ss ρ).map (.own o :: ·)
  | false :: bs, s :: ss, _ :: ρ => (outsOf bs ss ρ).map (s :: ·)
  | _, _, _ => none
def pinsOf (k : Nat) : List Bool → List Nat
  | [] => []
  | true :: bs => k :: pinsOf (k + 1) bs
  | false :: bs => pinsOf (k + 1) bs
def dFn (n : Nat) (bs : List Bool) (body : DS) : DF := fun ss => if okArgs bs ss = true then
    match body (ss ++ List.replicate (n - ss.length) .emp) with
    | .ok (.ret rt, ρ') => (R.of (outsOf bs ss ρ')).bind fun outs => .ok (rt, outs)
    | .ok (.nx, ρ') => (R.of (outsOf bs ss ρ')).bind fun outs => .ok (.val .non, outs)
    | .exc e ρ' => (R.of (outsOf bs ss ρ')).bind fun outs => .exc e outs
    | _ => .stuck
  else .stuck
theorem okArgs_len : ∀ {bs : List Bool} {ss : List Slot}, okArgs bs ss = true → ss.length = bs.length
  | [], [], _ => rfl
  | true :: bs, .own _ :: ss, h => congrArg Nat.succ (okArgs_len (bs := bs) h)
  | false :: bs, .val _ :: ss, h => congrArg Nat.succ (okArgs_len (bs := bs) h)
theorem okArgs_own : ∀ {bs : List Bool} {ss : List Slot} {k j : Nat}, okArgs bs ss = true → (k + j ∈ pinsOf k bs ↔ ∃ o, ss[j]? = some (.own o))
  | [], [], k, j, _ => by simp [pinsOf]
  | true :: bs, .own o :: ss, k, j, h => by
    cases j with
    | zero => simp [pinsOf]
    | succ j =>
      have ih := okArgs_own (bs := bs) (ss := ss) (k := k + 1) (j := j) h
      have e : k + (j + 1) = k + 1 + j := by omega
      simp only [pinsOf, List.mem_cons, List.getElem?_cons_succ]
      rw [e, ← ih]
      constructor
      · rintro (h1 | h1)
        · omega
        · exact h1
      · exact .inr
  | false :: bs, .val p :: ss, k, j, h => by
    have far : ∀ (bs : List Bool) (k m : Nat), m ∈ pinsOf k bs → k ≤ m := by
      intro bs
      induction bs with
      | nil => intro k m hm; simp [pinsOf] at hm
      | cons b bs ih =>
        intro k m hm
        cases b with
        | true =>
          simp only [pinsOf, List.mem_cons] at hm
          rcases hm with rfl | hm
          · exact Nat.le_refl _
          · have := ih (k + 1) m hm; omega
        | false =>
          simp only [pinsOf] at hm
          have := ih (k + 1) m hm; omega
    cases j with
    | zero =>
      simp only [pinsOf, Nat.add_zero, List.getElem?_cons_zero, Option.some.injEq]
      constructor
      · intro hm; have := far bs (k + 1) k hm; omega
      · rintro ⟨o, h1⟩; cases h1
    | succ j =>
      have ih := okArgs_own (bs := bs) (ss := ss) (k := k + 1) (j := j) h
      have e : k + (j + 1) = k + 1 + j := by omega
      simp only [pinsOf, List.getElem?_cons_succ]
      rw [e]; exact ih
theorem outsOf_at : ∀ {bs : List Bool} {ss outs : List Slot} {ρ : En} {k : Nat}, okArgs bs ss = true → outsOf bs ss ρ = some outs → outs.length = ss.length ∧
    ∀ (j : Nat) (s : Slot), outs[j]? = some s → (k + j ∈ pinsOf k bs ∧ ρ[j]? = some s ∧ ∃ o, s = .own o) ∨ (ss[j]? = some s ∧ ∃ p, s = .val p)
  | [], [], outs, ρ, k, _, e => by
    simp only [outsOf, Option.some.injEq] at e; subst e
    exact ⟨rfl, fun j s h => by simp at h⟩
  | true :: bs, .own o :: ss, outs, [], k, h, e => by simp [outsOf] at e
  | true :: bs, .own o :: ss, outs, .emp :: ρ, k, h, e => by simp [outsOf] at e
  | true :: bs, .own o :: ss, outs, .val _ :: ρ, k, h, e => by simp [outsOf] at e
  | true :: bs, .own o :: ss, outs, .own o' :: ρ, k, h, e => by
    simp only [outsOf] at e
    cases q : outsOf bs ss ρ with
    | none => rw [q] at e; cases e
    | some os =>
      rw [q] at e; simp only [Option.map_some, Option.some.injEq] at e; subst e
      obtain ⟨l, g⟩ := outsOf_at (k := k + 1) (show okArgs bs ss = true from h) q
      refine ⟨by simp [l], fun j s hj => ?_⟩
      cases j with
      | zero => simp at hj; subst hj; exact .inl ⟨by simp [pinsOf], rfl, _, rfl⟩
      | succ j =>
        rcases g j s (by simpa using hj) with ⟨h1, h2, h3⟩ | ⟨h1, h2⟩
        · exact .inl ⟨by simp only [pinsOf, List.mem_cons]; exact .inr (by rw [show k + (j + 1) = k + 1 + j by omega]; exact h1), by simpa using h2, h3⟩
        · exact .inr ⟨by simpa using h1, h2⟩
  | false :: bs, .val p :: ss, outs, [], k, h, e => by simp [outsOf] at e
  | false :: bs, .val p :: ss, outs, w :: ρ, k, h, e => by
    simp only [outsOf] at e
    cases q : outsOf bs ss ρ with
    | none => rw [q] at e; cases e
    | some os =>
      rw [q] at e; simp only [Option.map_some, Option.some.injEq] at e; subst e
      obtain ⟨l, g⟩ := outsOf_at (k := k + 1) (show okArgs bs ss = true from h) q
      refine ⟨by simp [l], fun j s hj => ?_⟩
      cases j with
      | zero => simp at hj; subst hj; exact .inr ⟨rfl, _, rfl⟩
      | succ j =>
        rcases g j s (by simpa using hj) with ⟨h1, h2, h3⟩ | ⟨h1, h2⟩
        · exact .inl ⟨by simp only [pinsOf]; rw [show k + (j + 1) = k + 1 + j by omega]; exact h1, by simpa using h2, h3⟩
        · exact .inr ⟨by simpa using h1, h2⟩
section
variable {K : PySem.W.Frag} {mg : Str → Option Value}
theorem start_get {N : List Str} {vs : List V} {j : Nat} (h : j < vs.length) : (L2.start N vs)[j]? = (vs.map some)[j]? := by
  unfold L2.start
  rw [List.getElem?_append_left (by simpa using h)]
/-- the end of a def's body -/
theorem outs_ok {N : List Str} {vs : List V} {H H' : Hp} {ss outs : List Slot} {bs : List Bool} {ρ' : En} {σ' : L2.St} (ok : okArgs bs ss = true) (F : FrR K ss (vs.map some) H) (hn : bs.length ≤ N.length)
    (s : SS (pinsOf 0 bs) (ss ++ List.replicate (N.length - ss.length) .emp) (L2.start N vs) H ρ' σ' H') (F' : FrR K ρ' σ' H') (e : outsOf bs ss ρ' = some outs) : ES ss (vs.map some) H outs H' ∧ FrR K outs (vs.map some) H' := by
  obtain ⟨l, g⟩ := outsOf_at (k := 0) ok e
  have lv : ss.length = vs.length := by have := F.len; simpa using this
  have g' : ∀ (j : Nat) (s : Slot), outs[j]? = some s → (j ∈ pinsOf 0 bs ∧ ρ'[j]? = some s ∧ ∃ o, s = .own o) ∨ (ss[j]? = some s ∧ ∃ p, s = .val p) := fun j s h => by
    have := g j s h
    rwa [Nat.zero_add] at this
  have sub : ∀ a, Ow outs (vs.map some) a → Ow ss (vs.map some) a := fun a ⟨j, o, h1, h2⟩ => by
    rcases g' j _ h1 with ⟨h3, _, _⟩ | ⟨_, p, h4⟩
    · obtain ⟨o', h5⟩ := (okArgs_own (k := 0) (j := j) ok).mp (by rw [Nat.zero_add]; exact h3)
      exact ⟨j, o', h5, h2⟩
    · cases h4
  have sub0 : ∀ a, Ow (ss ++ List.replicate (N.length - ss.length) .emp) (L2.start N vs) a → Ow ss (vs.map some) a := fun a ⟨j, o, h1, h2⟩ => by
    by_cases hj : j < ss.length
    · rw [List.getElem?_append_left hj] at h1
      rw [start_get (by omega)] at h2
      exact ⟨j, o, h1, h2⟩
    · rw [List.getElem?_append_right (by omega), List.getElem?_replicate] at h1
      split at h1 <;> cases h1
  have pinV : ∀ (j : Nat), j ∈ pinsOf 0 bs → j < vs.length → σ'[j]? = (vs.map some)[j]? := fun j h hl => (s.2 j h).trans (start_get hl)
  refine ⟨⟨⟨s.1.ext, fun a o n e => s.1.keep a o (fun z => n (sub0 a z)) e, s.1.there, fun a h => .inl (sub a h)⟩, sub⟩, ⟨by rw [l, F.len], fun j t ov h1 h2 => ?_, fun i j o o' a h1 h2 h3 h4 => ?_⟩⟩
  · rcases g' j t h1 with ⟨h3, h4, h5⟩ | ⟨h3, p, h4⟩
    · have hl : j < vs.length := by have := (List.getElem?_eq_some_iff.mp h2).1; simpa using this
      exact F'.slot j t ov h4 (by rw [pinV j h3 hl]; exact h2)
    · subst h4
      obtain ⟨v, rfl, r⟩ := F.slot j _ ov h3 h2
      exact ⟨v, rfl, Rep.mono s.1.ext p v r⟩
  · have one : ∀ {m : Nat} {q : OV}, outs[m]? = some (.own q) → ∃ q', ss[m]? = some (.own q') := fun {m q} h => by
      rcases g' m _ h with ⟨h3, _, _⟩ | ⟨_, p, h4⟩
      · exact (okArgs_own (k := 0) (j := m) ok).mp (by rw [Nat.zero_add]; exact h3)
      · cases h4
    obtain ⟨q1, h1⟩ := one h1
    obtain ⟨q2, h2⟩ := one h2
    exact F.inj i j _ _ a h1 h2 h3 h4
theorem start_fr {N : List Str} {vs : List V} {H : Hp} {ss : List Slot} (F : FrR K ss (vs.map some) H) (hn : ss.length ≤ N.length) : FrR K (ss ++ List.replicate (N.length - ss.length) .emp) (L2.start N vs) H := by
  have lv : ss.length = vs.length := by have := F.len; simpa using this
  have one : ∀ (j : Nat) (s : Slot), (ss ++ List.replicate (N.length - ss.length) .emp)[j]? = some s → (j < ss.length ∧ ss[j]? = some s) ∨ s = .emp := fun j s h => by
    by_cases hj : j < ss.length
    · rw [List.getElem?_append_left hj] at h; exact .inl ⟨hj, h⟩
    · rw [List.getElem?_append_right (by omega), List.getElem?_replicate] at h
      split at h
      · cases h; exact .inr rfl
      · cases h
  refine ⟨by unfold L2.start; simp; omega, fun j s ov h1 h2 => ?_, fun i j o o' a h1 h2 h3 h4 => ?_⟩
  · rcases one j s h1 with ⟨hj, h3⟩ | rfl
    · rw [start_get (by omega)] at h2
      exact F.slot j s ov h3 h2
    · trivial
  · rcases one i _ h1 with ⟨hi, h1⟩ | h1
    · rcases one j _ h2 with ⟨hj, h2⟩ | h2
      · rw [start_get (by omega)] at h3 h4
        exact F.inj i j o o' a h1 h2 h3 h4
      · cases h2
    · cases h1
variable {P : Program} {w : World} {base : Heap}
/-- THE RULE for a def: its body's denotation -/
theorem fn_ok {x qual : Str} {st : Stmt} {f : Addr} {fd : FuncData} {N ps : List Str} {k : Nat} {bs : List Bool} {body : DS} (Fu : Fun K x qual st f fd) (S : FnScope N ps (defScope st)) (hb : bs.length = ps.length) (hn : ps.length ≤ N.length)
    (hbody : ∀ (cdv : Value) (A : Around) (outer : List Env) (s : Shared) (H : Hp) (E : XK), Room k (A.deeper (PyProof.Rows.envOfC qual (defScope st) s.heap.objs.size f cdv)) →
      VSs (cxOf (L2.CX P w) P w K mg base N qual (defScope st) f cdv A outer s H E) (fun c d _ H => E c d H) (pinsOf 0 bs) (defBody st) body) :
    FnOk P w K mg base (L2.CX P w) (k + 1) f fd ps (spV K mg (dFn N.length bs body)) := by
  refine Fu.okX S (fun vs H Q E h => ?_) fun cdv A outer s H vs Q E hr h => ?_
  · refine (spV_len (fun ss hs => ?_) h).trans hb
    unfold dFn
    rw [if_neg (fun z => hs (okArgs_len z))]
  · refine ⟨_, hbody cdv A outer s H E hr, ?_⟩
    obtain ⟨ss, F, p⟩ := h
    unfold dFn at p
    by_cases ok : okArgs bs ss = true
    · rw [if_pos ok] at p
      have hl : ss.length ≤ N.length := by rw [okArgs_len ok, hb]; exact hn
      refine ⟨_, start_fr F hl, ?_⟩
      show SPost K mg (fun c d _ H => E c d H) (pinsOf 0 bs) { nx := fun _ H' => Q .non H', rt := Q } (L2.start N vs) H (ss ++ List.replicate (N.length - ss.length) .emp) (body (ss ++ List.replicate (N.length - ss.length) .emp))
      have hn' : bs.length ≤ N.length := by rw [hb]; exact hn
      cases e : body (ss ++ List.replicate (N.length - ss.length) .emp) with
      | ok c =>
        obtain ⟨c, ρ'⟩ := c
        rw [e] at p
        cases c with
        | nx =>
          dsimp only at p
          cases e2 : outsOf bs ss ρ' with
          | none => rw [e2] at p; exact p.elim
          | some outs =>
            rw [e2, R.of_some, R.bind_ok] at p
            intro σ' H' s' F'
            obtain ⟨s2, F2⟩ := outs_ok ok F hn' s' F' e2
            exact p .non H' s2 F2 (by simp only [RRt, Rep])
        | bk => exact p.elim
        | ct => exact p.elim
        | ret rt =>
          dsimp only at p
          cases e2 : outsOf bs ss ρ' with
          | none => rw [e2] at p; exact p.elim
          | some outs =>
            rw [e2, R.of_some, R.bind_ok] at p
            intro σ' H' v s' F' rr
            obtain ⟨s2, F2⟩ := outs_ok ok F hn' s' F' e2
            refine p v H' s2 F2 ?_
            cases rt with
            | val q => exact rr
            | own o =>
              obtain ⟨a, u, ev, n, far, ga, r⟩ := rr
              refine ⟨a, u, ev, ?_, ga, r⟩
              rcases n with ⟨j, o', h1, h2⟩ | n
              · exfalso
                by_cases hj : j < ss.length
                · rw [List.getElem?_append_left hj] at h1
                  have hp : j ∈ pinsOf 0 bs := by
                    have := (okArgs_own (k := 0) (j := j) ok).mpr ⟨o', h1⟩
                    rwa [Nat.zero_add] at this
                  exact far j hp ((s'.2 j hp).trans h2)
                · rw [List.getElem?_append_right (by omega), List.getElem?_replicate] at h1
                  split at h1 <;> cases h1
              · exact n
      | exc x ρ' =>
        rw [e] at p
        dsimp only at p
        cases e2 : outsOf bs ss ρ' with
        | none => rw [e2] at p; exact p.elim
        | some outs =>
          rw [e2, R.of_some, R.bind_ok] at p
          intro σ' cls d H' s' F' q
          obtain ⟨s2, F2⟩ := outs_ok ok F hn' s' F' e2
          exact p cls d H' s2 F2 q
      | stuck => rw [e] at p; exact p.elim
    · rw [if_neg ok] at p; exact p.elim
end
end VL
set_option Elab.async false
set_option linter.all false
set_option maxRecDepth 100000
set_option maxHeartbeats 1000000
namespace VL
open PySem PySem.Spec L2
/-! ### a, b = x, y -/
def RSlot (K : PySem.W.Frag) (H H' : Hp) : Slot → V → Prop
  | .val p, v => Rep K H' p v
  | .own o, v => ∃ a u, v = .ref a ∧ H a = none ∧ H' a = some u ∧ OVR K H' o u
  | .emp, _ => False
def RSls (K : PySem.W.Frag) : RR (List Slot) (List V) := fun H H' ss vs => Paired (RSlot K H H') ss vs ∧
  ∀ (i j : Nat) (o o' : OV) (a : Addr), ss[i]? = some (.own o) → ss[j]? = some (.own o') → vs[i]? = some (.ref a) → vs[j]? = some (.ref a) → i = j
theorem RSlot.anti {K : PySem.W.Frag} {H H1 H' : Hp} (g : ∀ x, H1 x = none → H x = none) : ∀ {s : Slot} {v : V}, RSlot K H1 H' s v → RSlot K H H' s v
  | .val p, v, h => h
  | .own o, v, ⟨a, u, e, n, h⟩ => ⟨a, u, e, g a n, h⟩
  | .emp, v, h => h
theorem paired_imp {α β : Type} {F G : α → β → Prop} (h : ∀ a b, F a b → G a b) : ∀ {xs : List α} {ys : List β}, Paired F xs ys → Paired G xs ys
  | _, _, .nil => .nil
  | _, _, .cons r t => .cons (h _ _ r) (paired_imp h t)
theorem paired_get {α β : Type} {F : α → β → Prop} : ∀ {xs : List α} {ys : List β} {i : Nat} {x : α}, Paired F xs ys → xs[i]? = some x → ∃ y, ys[i]? = some y ∧ F x y
  | _, _, _, _, .nil, h => by simp at h
  | _, _, 0, _, .cons r _, h => by simp at h; subst h; exact ⟨_, rfl, r⟩
  | _, _, i + 1, x, .cons _ t, h => by
    obtain ⟨y, e, r⟩ := paired_get (i := i) (x := x) t (by simpa using h)
    exact ⟨y, by simpa using e, r⟩
theorem anti_sls {K : PySem.W.Frag} : Anti (RSls K) := fun _ _ _ _ _ g h => ⟨paired_imp (fun _ _ q => q.anti g) h.1, h.2⟩
abbrev DSl := En → R (List Slot × En)
def VSl (X : Cx) (W : WX) (es : List Expr) (f : DSl) : Prop := PA X es (tP X.K X.mg W (RSls X.K) f)
def dSl0 : DSl := fun ρ => .ok ([], ρ)
def dSlV (f : DE) (g : DSl) : DSl := fun ρ => (f ρ).bind fun (p, ρ1) => (g ρ1).bind fun (ss, ρ2) => .ok (.val p :: ss, ρ2)
def dSlN (f : DN) (g : DSl) : DSl := fun ρ => (f ρ).bind fun (o, ρ1) => (g ρ1).bind fun (ss, ρ2) => .ok (.own o :: ss, ρ2)
section
variable {X : Cx} {W : WX} {pos : Pos} {e : Expr} {es : List Expr} {f : DE} {n : DN} {g : DSl}
theorem vsl_nil : VSl X W [] dSl0 := pa_nil.imp fun σ H Q ⟨ρ, F, p⟩ => p [] H (ES.refl _ _ _) F ⟨.nil, fun i j o o' a h => by simp at h⟩
theorem vsl_val (h1 : VE X W e f) (h2 : VSl X W es g) (hs : starEach (e :: es) X.env = (false, eval e X.env) :: starEach es X.env := by rfl) : VSl X W (e :: es) (dSlV f g) := by
  refine (pa_cons h1 h2 hs).imp fun σ H Q ⟨ρ, F, p⟩ => ⟨ρ, F, ?_⟩
  unfold dSlV at p
  cases e1 : f ρ with
  | exc x ρ1 => rw [e1] at p; exact p
  | stuck => rw [e1] at p; exact p
  | ok c =>
    obtain ⟨q, ρ1⟩ := c
    rw [e1, R.bind_ok] at p
    dsimp only at p
    intro v H1 s1 F1 r1
    refine ⟨ρ1, F1, ?_⟩
    cases e2 : g ρ1 with
    | exc x ρ2 => rw [e2] at p; exact fun cls d H2 s2 F2 r2 => p cls d H2 (s1.trans s2) F2 r2
    | stuck => rw [e2] at p; exact p.elim
    | ok c =>
      obtain ⟨ss, ρ2⟩ := c
      rw [e2, R.bind_ok] at p
      dsimp only at p
      intro vs H2 s2 F2 r2
      refine p (v :: vs) H2 (s1.trans s2) F2 ⟨.cons (Rep.mono s2.1.ext _ _ r1) (paired_imp (fun s w hw => hw.anti fun x e => s1.1.none e) r2.1), fun i j o o' a h1 h2 h3 h4 => ?_⟩
      cases i with
      | zero => simp at h1
      | succ i =>
        cases j with
        | zero => simp at h2
        | succ j => exact congrArg Nat.succ (r2.2 i j o o' a (by simpa using h1) (by simpa using h2) (by simpa using h3) (by simpa using h4))
theorem vsl_own (h1 : VN X W e n) (h2 : VSl X W es g) (hs : starEach (e :: es) X.env = (false, eval e X.env) :: starEach es X.env := by rfl) : VSl X W (e :: es) (dSlN n g) := by
  refine (pa_cons h1 h2 hs).imp fun σ H Q ⟨ρ, F, p⟩ => ⟨ρ, F, ?_⟩
  unfold dSlN at p
  cases e1 : n ρ with
  | exc x ρ1 => rw [e1] at p; exact p
  | stuck => rw [e1] at p; exact p
  | ok c =>
    obtain ⟨q, ρ1⟩ := c
    rw [e1, R.bind_ok] at p
    dsimp only at p
    intro v H1 s1 F1 ⟨a, u, ev, na, ga, r1⟩
    refine ⟨ρ1, F1, ?_⟩
    cases e2 : g ρ1 with
    | exc x ρ2 => rw [e2] at p; exact fun cls d H2 s2 F2 r2 => p cls d H2 (s1.trans s2) F2 r2
    | stuck => rw [e2] at p; exact p.elim
    | ok c =>
      obtain ⟨ss, ρ2⟩ := c
      rw [e2, R.bind_ok] at p
      dsimp only at p
      intro vs H2 s2 F2 r2
      have far : ∀ (j : Nat) (o' : OV), ss[j]? = some (.own o') → vs[j]? ≠ some (V.ref a) := fun j o' h z => by
        obtain ⟨w, e3, b, u', e4, nb, _⟩ := paired_get r2.1 h
        rw [z] at e3; cases e3
        cases e4
        rw [ga] at nb; cases nb
      refine p (v :: vs) H2 (s1.trans s2) F2 ⟨.cons ⟨a, u, ev, na, s2.1.keep a u (s1.notOw F na) ga, r1.mono s2.1.ext⟩ (paired_imp (fun s w hw => hw.anti fun x e => s1.1.none e) r2.1), fun i j o o' b h1 h2 h3 h4 => ?_⟩
      subst ev
      cases i with
      | zero =>
        cases j with
        | zero => rfl
        | succ j => simp at h3; subst h3; exact absurd (by simpa using h4) (far j o' (by simpa using h2))
      | succ i =>
        cases j with
        | zero => simp at h4; subst h4; exact absurd (by simpa using h3) (far i o (by simpa using h1))
        | succ j => exact congrArg Nat.succ (r2.2 i j o o' b (by simpa using h1) (by simpa using h2) (by simpa using h3) (by simpa using h4))
/-- the stores, in their order -/
def setAll : List (Nat × Slot) → En → En
  | [], ρ => ρ
  | (i, s) :: r, ρ => setAll r (ρ.set i s)
def setVs : List (Nat × V) → L2.St → L2.St
  | [], σ => σ
  | (i, v) :: r, σ => setVs r (σ.set i (some v))
theorem stores_ok {Q : Unit → Shared → Prop} (hN : X.N.Nodup) {pins : List (Addr × Obj)} {H : Hp} : ∀ (l : List (Nat × Str × V × Value)) {σ : L2.St} {s : Shared}, Inv X pins σ H s → (∀ x ∈ l, X.N[x.1]? = some x.2.1 ∧ X.env.scope.names.lookup x.2.1 = some .local ∧ RelV x.2.2.1 x.2.2.2) →
    (∀ s', Inv X pins (setVs (l.map fun x => (x.1, x.2.2.1)) σ) H s' → Q () s') → wpAny (model X.prog X.w) X.A (assignInOrder (l.map fun x => fun v => bindName X.env x.2.1 v) (l.map fun x => x.2.2.2)) Q X.xe s
  | [], σ, s, I, _, h => PyProof.Rows.assignInOrder_nil (h s I)
  | (i, x, v, u) :: l, σ, s, I, hl, h => by
    obtain ⟨h1, h2, h3⟩ := hl _ List.mem_cons_self
    refine PyProof.Rows.assignInOrder_cons (wpAny_bindName (store_ok I hN h1 (.inl h2) h3 (fun s2 I2 => ?_) (.inr h2)))
    exact stores_ok hN l I2 (fun y hy => hl y (List.mem_cons_of_mem _ hy)) h
theorem setVs_len : ∀ (l : List (Nat × V)) (σ : L2.St), (setVs l σ).length = σ.length
  | [], _ => rfl
  | (i, v) :: l, σ => by unfold setVs; rw [setVs_len l]; simp
theorem setVs_out : ∀ {l : List (Nat × V)} {σ : L2.St} {j : Nat}, j ∉ l.map (·.1) → (setVs l σ)[j]? = σ[j]?
  | [], _, _, _ => rfl
  | (i, v) :: l, σ, j, h => by
    simp only [List.map_cons, List.mem_cons, not_or] at h
    unfold setVs
    rw [setVs_out h.2, List.getElem?_set_ne (fun e => h.1 e.symm)]
/-- the stores, by what is stored -/
theorem setAll_ok {H0 H : Hp} : ∀ (l : List (Nat × Slot × V)) {ρ : En} {σ : L2.St}, FrR X.K ρ σ H → (∀ x ∈ l, RSlot X.K H0 H x.2.1 x.2.2) → (∀ a, H0 a = none → ¬ Ow ρ σ a ∨ ∀ x ∈ l, ∀ o, x.2.1 = .own o → x.2.2 ≠ .ref a) →
    l.Pairwise (fun x y => ∀ a o o', x.2.1 = .own o → y.2.1 = .own o' → x.2.2 = .ref a → y.2.2 ≠ .ref a) →
    FrR X.K (setAll (l.map fun x => (x.1, x.2.1)) ρ) (setVs (l.map fun x => (x.1, x.2.2)) σ) H ∧ (∀ a, Ow (setAll (l.map fun x => (x.1, x.2.1)) ρ) (setVs (l.map fun x => (x.1, x.2.2)) σ) a → Ow ρ σ a ∨ H0 a = none)
  | [], ρ, σ, F, _, _, _ => ⟨F, fun a h => .inl h⟩
  | (i, s, v) :: l, ρ, σ, F, hr, hn, hp => by
    have r := hr _ List.mem_cons_self
    obtain ⟨hp1, hp2⟩ := List.pairwise_cons.mp hp
    cases s with
    | emp => exact r.elim
    | val p =>
      obtain ⟨F2, o2⟩ := setAll_ok l (F.setVal i r) (fun x hx => hr x (List.mem_cons_of_mem _ hx)) (fun a ha => (hn a ha).elim (fun z => .inl fun w => z w.setVal) fun z => .inr fun x hx => z x (List.mem_cons_of_mem _ hx)) hp2
      exact ⟨F2, fun a h => (o2 a h).elim (fun z => .inl z.setVal) .inr⟩
    | own o =>
      obtain ⟨b, u, ev, nb, gb, rb⟩ := r
      have ev' : v = .ref b := ev
      subst ev'
      have nO : ¬ Ow ρ σ b := (hn b nb).elim id fun z => absurd rfl (z _ List.mem_cons_self o rfl)
      obtain ⟨F2, o2⟩ := setAll_ok l (F.setOwn i gb rb nO) (fun x hx => hr x (List.mem_cons_of_mem _ hx)) (fun a ha => by
        by_cases hab : a = b
        · subst hab
          exact .inr fun x hx o' ho' => hp1 x hx a o o' rfl ho' rfl
        · rcases hn a ha with z | z
          · exact .inl fun w => (w.setOwn).elim z hab
          · exact .inr fun x hx => z x (List.mem_cons_of_mem _ hx)) hp2
      exact ⟨F2, fun a h => (o2 a h).elim (fun z => z.setOwn.elim .inl fun e => .inr (by rw [e]; exact nb)) .inr⟩
theorem zip4 {α β γ δ : Type} : ∀ (as : List α) (bs : List β) (cs : List γ) (ds : List δ), bs.length = as.length → cs.length = as.length → ds.length = as.length →
    ∃ L : List (α × β × γ × δ), L.map (·.1) = as ∧ L.map (·.2.1) = bs ∧ L.map (·.2.2.1) = cs ∧ L.map (·.2.2.2) = ds
  | [], [], [], [], _, _, _ => ⟨[], rfl, rfl, rfl, rfl⟩
  | a :: as, b :: bs, c :: cs, d :: ds, h1, h2, h3 => by
    obtain ⟨L, e1, e2, e3, e4⟩ := zip4 as bs cs ds (by simpa using h1) (by simpa using h2) (by simpa using h3)
    exact ⟨(a, b, c, d) :: L, by simp [e1], by simp [e2], by simp [e3], by simp [e4]⟩
  | [], _ :: _, _, _, h, _, _ => by simp at h
  | [], _, _ :: _, _, _, h, _ => by simp at h
  | [], _, _, _ :: _, _, _, h => by simp at h
  | _ :: _, [], _, _, h, _, _ => by simp at h
  | _ :: _, _, [], _, _, h, _ => by simp at h
  | _ :: _, _, _, [], _, _, h => by simp at h
theorem vals_mem : ∀ {α : Type} {L : List α} {f : α → V} {g : α → Value}, Vals (L.map f) (L.map g) → ∀ x ∈ L, RelV (f x) (g x)
  | _, [], _, _, _, x, hx => by simp at hx
  | _, a :: L, f, g, h, x, hx => by
    cases h with
    | cons r t =>
      rcases List.mem_cons.mp hx with rfl | hx
      · exact r
      · exact vals_mem t x hx
theorem paired_mem : ∀ {α β γ : Type} {P : β → γ → Prop} {L : List α} {f : α → β} {g : α → γ}, Paired P (L.map f) (L.map g) → ∀ x ∈ L, P (f x) (g x)
  | _, _, _, _, [], _, _, _, x, hx => by simp at hx
  | _, _, _, _, a :: L, f, g, h, x, hx => by
    cases h with
    | cons r t =>
      rcases List.mem_cons.mp hx with rfl | hx
      · exact r
      · exact paired_mem t x hx
def dPar (is : List Nat) (f : DSl) : DS := fun ρ => (f ρ).bind fun (ss, ρ1) => if ss.length = is.length then .ok (.nx, setAll (is.zip ss).reverse ρ1) else .stuck
theorem vs_par {pin : List Nat} {ks : List (Nat × Str)} {tg : Expr} {k2 : Nat} {pt2 : Pos} (hc : X.calm = true) (hN : X.N.Nodup) (hlen : ks.length ≤ 1000) (hk : ∀ x ∈ ks, X.N[x.1]? = some x.2 ∧ X.env.scope.names.lookup x.2 = some .local) (hp : ∀ i ∈ pin, i ∉ ks.map (·.1)) (ha : VSl X W es g)
    (hw : swappedStores [tg] (.Tuple es k2 pt2) X.env = pure (some (ks.map (·.2)))) (hs : swapsWithSole [tg] (.Tuple es k2 pt2) pos.line X.env = pure false := by rfl) : VS X W pin (.Assign [tg] (.Tuple es k2 pt2) pos) (dPar (ks.map (·.1)) g) := by
  refine ⟨fun pins s σ H D I ⟨ρ, F, q⟩ => ?_⟩
  rw [exec_Assign_arm]
  refine wpAny_bind (wpAny_standAt ?_)
  rw [hs]
  refine wpAny_bind (wpAny_pure ?_)
  rw [if_neg (by decide)]
  -- the values
  have ha' := ha.run
  have key : tP X.K X.mg W (RSls X.K) g σ H (fun vs H1 => ∃ ss ρ1, ss.length = ks.length ∧ ES ρ σ H ρ1 H1 ∧ FrR X.K ρ1 σ H1 ∧ RSls X.K H H1 ss vs ∧
      ∀ σ' H', SS pin ρ σ H (setAll ((ks.map (·.1)).zip ss).reverse ρ1) σ' H' → FrR X.K (setAll ((ks.map (·.1)).zip ss).reverse ρ1) σ' H' → D.nx σ' H') := by
    refine ⟨ρ, F, ?_⟩
    unfold dPar at q
    cases e1 : g ρ with
    | ok c =>
      obtain ⟨ss, ρ1⟩ := c
      rw [e1, R.bind_ok] at q
      dsimp only at q
      by_cases hl : ss.length = (ks.map (·.1)).length
      · rw [if_pos hl] at q
        exact fun vs H1 s1 F1 r1 => ⟨ss, ρ1, by simpa using hl, s1, F1, r1, q⟩
      · rw [if_neg hl] at q; exact q.elim
    | exc x ρ1 => rw [e1] at q; exact fun cls d H1 s1 F1 r => q σ cls d H1 s1.ss F1 r
    | stuck => rw [e1] at q; exact q
  refine wpAny_bind (PyProof.Rows.Tuple_ (thn (ha' _ pins s σ H _ I key) fun us s1 ⟨vs, H1, I1, rv, ss, ρ1, hl, s1', F1, r1, k⟩ => ?_))
  have lv : vs.length = ks.length := by have e2 : ss.length = vs.length := Paired.length r1.1; omega
  have lu : us.length = ks.length := by have e1 := rv.length; omega
  have hsz : us.length ≤ sizeLine := by rw [lu]; exact le1000 hlen
  refine wpAny_newObj_type ?_ hsz
  have I2 : Inv X pins σ H1 { s1 with heap := s1.heap.push { cls := .type "tuple", data := .seq us.toArray } } := I1.kept (t' := s1.toks) fun b o e => Heap.get?_push_of_some _ e
  rw [hw]
  refine wpAny_bind (wpAny_pure ?_)
  dsimp only [assignStores]
  refine wpAny_bind (wpAny_rule (wpAny_bind ?_))
  have lu' : us.length = (ks.map (·.2)).length := by simpa using lu
  have un := PyProof.Rows.unpackItems_tuple (prog := X.prog) (w := X.w) (A := X.A) (E := X.xe) (items := us.toArray) (s := { s1 with heap := s1.heap.push { cls := .type "tuple", data := .seq us.toArray } }) (Q := fun items s2 => wpAny (model X.prog X.w) X.A (do assignInOrder ((ks.map (·.2)).reverse.map fun n => bindName X.env n) items.reverse; pure Flow.next) (SP X pins D) X.xe s2) (I.ok.hd hc) (PyProof.Rows.IsTup.new s1.heap us.toArray) fun h' hx' => ?_
  · have esz : us.toArray.size = (ks.map (·.2)).length := by simpa using lu'
    rw [esz] at un
    exact un
  have I3 := I2.kept (h' := h') (t' := s1.toks) fun b o e => hx' b o (Nat.ne_of_lt (Heap.lt_size e)) e
  -- the stores from the right
  obtain ⟨L, ek, es', ev, eu⟩ := zip4 ks ss vs us hl lv lu
  subst ek es' ev eu
  have e1 : ((L.map (·.1)).map (·.2)).reverse.map (fun n => bindName X.env n) = (L.reverse.map fun x => ((x.1.1, x.1.2, x.2.2.1, x.2.2.2) : Nat × Str × V × Value)).map fun x => fun v => bindName X.env x.2.1 v := by
    simp only [List.map_map, ← List.map_reverse]
    rfl
  have e2 : (L.map (·.2.2.2)).toArray.toList.reverse = (L.reverse.map fun x => ((x.1.1, x.1.2, x.2.2.1, x.2.2.2) : Nat × Str × V × Value)).map fun x => x.2.2.2 := by
    simp only [List.map_map, ← List.map_reverse]
    rfl
  refine wpAny_bind ?_
  rw [e1, e2]
  refine stores_ok hN _ I3 (fun x hx => ?_) fun s' I4 => wpAny_pure ⟨_, _, I4, ?_⟩
  · obtain ⟨y, hy, rfl⟩ := List.mem_map.mp hx
    have hy' : y ∈ L := by simpa using hy
    obtain ⟨k1, k2⟩ := hk y.1 (List.mem_map.mpr ⟨y, hy', rfl⟩)
    exact ⟨k1, k2, vals_mem rv y hy'⟩
  · have ez : (((L.map (·.1)).map (·.1)).zip (L.map (·.2.1))).reverse = (L.reverse.map fun x => ((x.1.1, x.2.1, x.2.2.1) : Nat × Slot × V)).map fun x => (x.1, x.2.1) := by
      rw [List.zip_eq_zipWith, List.map_map, List.zipWith_map, List.zipWith_self, List.map_map, ← List.map_reverse]
      rfl
    have ez2 : (L.reverse.map fun x => ((x.1.1, x.1.2, x.2.2.1, x.2.2.2) : Nat × Str × V × Value)).map (fun x => (x.1, x.2.2.1)) = (L.reverse.map fun x => ((x.1.1, x.2.1, x.2.2.1) : Nat × Slot × V)).map fun x => (x.1, x.2.2) := by
      simp only [List.map_map]
      rfl
    rw [ez] at k
    rw [ez2]
    have nO : ∀ a, H a = none → ¬ Ow ρ1 σ a := fun a h => s1'.notOw F h
    have rs := r1.1
    have dist := r1.2
    obtain ⟨F5, o5⟩ := setAll_ok (X := X) (H0 := H) (L.reverse.map fun x => ((x.1.1, x.2.1, x.2.2.1) : Nat × Slot × V)) F1 (fun x hx => by
      obtain ⟨y, hy, rfl⟩ := List.mem_map.mp hx
      exact paired_mem rs y (by simpa using hy)) (fun a ha => .inl (nO a ha)) (by
      rw [List.pairwise_map, List.pairwise_reverse]
      rw [List.pairwise_iff_getElem]
      intro i j hi hj hij a o o' h1 h2 h3 h4
      have q := dist i j o' o a (by rw [List.getElem?_map, List.getElem?_eq_getElem hi]; exact congrArg some h2) (by rw [List.getElem?_map, List.getElem?_eq_getElem hj]; exact congrArg some h1)
        (by rw [List.getElem?_map, List.getElem?_eq_getElem hi]; exact congrArg some h4) (by rw [List.getElem?_map, List.getElem?_eq_getElem hj]; exact congrArg some h3)
      omega)
    refine k _ H1 ⟨⟨s1'.1.ext, s1'.1.keep, s1'.1.there, fun a h => (o5 a h).elim (fun z => .inl (s1'.2 a z)) .inr⟩, fun i hi => setVs_out fun z => ?_⟩ F5
    refine hp i hi ?_
    simp only [List.map_map, List.mem_map, List.mem_reverse] at z ⊢
    obtain ⟨y, hy, rfl⟩ := z
    exact ⟨y, hy, rfl⟩
end
end VL
set_option Elab.async false
set_option linter.all false
set_option maxRecDepth 100000
set_option maxHeartbeats 1000000
namespace VL
open PySem PySem.Spec L2
/-! ### a list times an int -/
section
variable {X : Cx}
theorem rep_arr (its : List Value) : ∀ (m : Nat) (acc : Array Value), (List.replicate m its.toArray).foldl (· ++ ·) acc = acc ++ ((List.replicate m its).flatten).toArray
  | 0, acc => by simp
  | m + 1, acc => by
    rw [List.replicate_succ, List.foldl_cons, rep_arr its m, List.replicate_succ, List.flatten_cons]
    apply Array.ext'
    simp
theorem Vals.repl {xs : List V} {us : List Value} (h : Vals xs us) : ∀ n : Nat, Vals (List.replicate n xs).flatten (List.replicate n us).flatten
  | 0 => .nil
  | n + 1 => by rw [List.replicate_succ, List.flatten_cons, List.replicate_succ, List.flatten_cons]; exact h.append (Vals.repl h n)
theorem on_mulL : OpR X (binaryOp .Mult) (rN2 X.K fun p q => (mulL p q).map OV.lst) := by
  intro pins s σ H x y v u Q I rx ry ⟨p, q, o, hp, hq, e, k⟩
  cases p <;> first | (simp only [mulL, Option.map_none] at e; cases e; done) | skip
  cases q <;> first | (simp only [mulL, Option.map_none] at e; cases e; done) | skip
  simp only [mulL] at e
  split at e
  · rename_i ps i cc
    simp only [Option.map_some, Option.some.injEq] at e; subst e
    obtain ⟨a, xs, rfl, h1, r1⟩ := hp.lst
    have ey := hq.int
    subst ey
    cases rx
    obtain ⟨tk, rfl⟩ := ry
    obtain ⟨zz, its, n, w1, l1, e1⟩ := Rd.lst I h1
    obtain ⟨c1, c2, c3⟩ := cc
    rw [r1.length] at c1
    have zc : its.toArray.size * i.toNat ≤ sizeLine := by simpa [← l1] using c1
    have z1 : ¬ its.toArray.size * i.toNat > (2 ^ 63 - 1) / 8 := fun z => by
      have z2 : (sizeLine : Nat) ≤ (2 ^ 63 - 1) / 8 := by decide
      omega
    have z3 : ¬ (!Builtin.List.listFitsIndex i) = true := by rw [PySem.fitsIndex_both c2 c3]; simp
    have z4 : ¬ Builtin.List.listTooLong (its.toArray.size * i.toNat) = true := by rw [notLongL zc]; simp
    have z5 : List.foldl (fun x1 x2 => x1 ++ x2) #[] (List.replicate (if its.toArray.isEmpty = true then 0 else i.toNat) its.toArray) = (List.replicate i.toNat its).flatten.toArray := by
      rw [rep_arr]
      cases its with
      | nil => simp
      | cons a r => simp
    refine wpAny_binaryOp_repeat_ref (T := "list") (U := "int") (by decide) ⟨_, e1, rfl⟩ (fun s' => typeIs_int s' i tk) PySem.noFill_list_mul PySem.F.fills_int_mul PySem.F.slot_int_rmul PySem.repeat_list PySem.F.slot_int_index.lookup ?_
    refine PySem.call_meets PySem.F.slot_int_rmul (typeIs_int s i tk) PySem.F.entry_int_rmul (PySem.F.args_int_rmul_2 _ _) (int___rmul___int_list i tk a its.toArray n) ?_
    refine ⟨e1, rfl, ⟨_, e1, rfl⟩, ?_⟩
    refine PySem.call_meets PySem.F.slot_list_mul ⟨_, e1, rfl⟩ PySem.F.entry_list_mul (PySem.F.args_list_mul_2 _ _) (AutoListH.list___mul___list_int_3 a its.toArray n i tk z3 z1 z4) ⟨e1, ?_⟩
    rw [z5]
    have sm := same_upd (o := .lst (List.replicate i.toNat xs).flatten) I.fresh
    refine ⟨.ref _, _, I.lnew (t' := s.toks) (Vals.repl w1 i.toNat) (by rw [flat_len, Nat.mul_comm]; exact c1), rfl, k _ _ _ I.fresh sm upd_same ⟨_, rfl, RepL.mono (Ext.of_same sm) _ _ (r1.rep _)⟩⟩
  · simp only [Option.map_none] at e; cases e
/-! ### isinstance with a tuple of built-in classes -/
def pyIsiT : List PV → Option PV
  | [p, .tup [.ty b, .ty c]] => if tyS.contains b ∧ tyS.contains c then (tyN p).map fun t => .bl (isT t b || isT t c) else none
  | _ => none
theorem cv_isiT : CallR X (.builtin "isinstance") (rVn X.K pyIsiT) := by
  intro pins s σ H xs us Q I rx ⟨ps, z, hp, e, k⟩
  match ps, e, hp with
  | [p, .tup [.ty b, .ty c]], e, hp =>
    simp only [pyIsiT] at e
    split at e
    rotate_left
    · cases e
    rename_i hb
    cases et : tyN p with
    | none => rw [et] at e; cases e
    | some t =>
      rw [et] at e; simp only [Option.map_some, Option.some.injEq] at e; subst e
      obtain ⟨x, y, rfl, h1, h2⟩ := hp.two
      obtain ⟨a, ys, rfl, hq, rl⟩ := RepB.tup h2
      obtain ⟨v1, r1, rfl, q1, rl⟩ := repL_cons_inv rl
      obtain ⟨v2, r2, rfl, q2, rl⟩ := repL_cons_inv rl
      rw [repL_nil_inv rl] at hq
      have e1 : v1 = .ty b := by simpa only [Rep] using q1
      have e2 : v2 = .ty c := by simpa only [Rep] using q2
      subst e1 e2
      obtain ⟨u1, u2, rfl, w1, w2⟩ := vals2 rx
      cases (show u2 = Value.ref a from w2)
      obtain ⟨its, rv, ⟨ob, ho, hc, n, hd⟩, _⟩ := I.tuple hq
      obtain ⟨i1, i2, rfl, m1, m2⟩ := vals2 rv
      cases (show i1 = Value.type b from m1)
      cases (show i2 = Value.type c from m2)
      obtain ⟨P, Z, pz, hx⟩ := kit_of I w1 (RepB.tyX h1 et)
      obtain ⟨oc, od, dt, sl⟩ := ob
      simp only at hc hd
      subst hc hd
      have k1 := kit_ty (K := X.K) (kitB_all t (tyN_mem et) b (by simpa using hb.1))
      have k2 := kit_ty (K := X.K) (kitB_all t (tyN_mem et) c (by simpa using hb.2))
      have ka : PySem.W.kitAny X.K (.type t) [.type b, .type c] = some (isT t b || isT t c) := by
        refine kitAny_cons k1 (fun h => ?_) (fun h => by rw [h]; rfl)
        rw [h, Bool.false_or]
        exact kitAny_cons k2 (fun h => by rw [h]; exact kitAny_nil) (fun h => h)
      exact PySem.W.kia_tup Z I.kIn pz ho ka hx fun tk => ⟨.bl _, H, I.tok tk, rfl, k _ H (Same.refl H) (by simp only [Rep])⟩
/-! ### what stands around -/
theorem EC.blk {W : WX} {k : Nat} (C : EC X W k) (s : Shared) (H : Hp) (scope : Scope) (cenv : Env) (fp : List Addr) : EC (X.blk s H scope cenv fp) noW k := ⟨takes0, C.room⟩
end
theorem ec_fn {P : Program} {w : World} {K : PySem.W.Frag} {mg : Str → Option Value} {base : Heap} {N : List Str} {qual : Str} {sc : Scope} {f : Addr} {cdv : Value} {A : Around} {outer : List Env} {s : Shared} {H : Hp} {E : XK} {k : Nat}
    (hr : Room k (A.deeper (PyProof.Rows.envOfC qual sc s.heap.objs.size f cdv))) : EC (cxOf (L2.CX P w) P w K mg base N qual sc f cdv A outer s H E) (fun c d _ H => E c d H) k := ⟨takes_of rfl rfl rfl rfl, hr⟩
theorem pw_fn {P : Program} {w : World} {K : PySem.W.Frag} {mg : Str → Option Value} {base : Heap} {N : List Str} {qual : Str} {sc : Scope} {f : Addr} {cdv : Value} {A : Around} {outer : List Env} {s : Shared} {H : Hp} {E : XK} :
    PassesOwn (model (cxOf (L2.CX P w) P w K mg base N qual sc f cdv A outer s H E).prog (cxOf (L2.CX P w) P w K mg base N qual sc f cdv A outer s H E).w) (cxOf (L2.CX P w) P w K mg base N qual sc f cdv A outer s H E).A (cxOf (L2.CX P w) P w K mg base N qual sc f cdv A outer s H E).env (cxOf (L2.CX P w) P w K mg base N qual sc f cdv A outer s H E).xe :=
  passes_of rfl
/-! ### built-in names -/
theorem bt_len : bootBuiltins "len" = some (.builtin "len") := by decide +kernel
theorem bt_abs : bootBuiltins "abs" = some (.builtin "abs") := by decide +kernel
theorem bt_isinstance : bootBuiltins "isinstance" = some (.builtin "isinstance") := by decide +kernel
theorem bt_all : bootBuiltins "all" = some (.builtin "all") := by decide +kernel
theorem bt_any : bootBuiltins "any" = some (.builtin "any") := by decide +kernel
theorem bt_sum : bootBuiltins "sum" = some (.builtin "sum") := by decide +kernel
theorem bt_max : bootBuiltins "max" = some (.builtin "max") := by decide +kernel
theorem bt_min : bootBuiltins "min" = some (.builtin "min") := by decide +kernel
theorem bt_sorted : bootBuiltins "sorted" = some (.builtin "sorted") := by decide +kernel
theorem bt_int : bootBuiltins "int" = some (.type "int") := by decide +kernel
theorem bt_bool : bootBuiltins "bool" = some (.type "bool") := by decide +kernel
theorem bt_str : bootBuiltins "str" = some (.type "str") := by decide +kernel
theorem bt_list : bootBuiltins "list" = some (.type "list") := by decide +kernel
theorem bt_tuple : bootBuiltins "tuple" = some (.type "tuple") := by decide +kernel
theorem bt_dict : bootBuiltins "dict" = some (.type "dict") := by decide +kernel
theorem bt_set : bootBuiltins "set" = some (.type "set") := by decide +kernel
theorem bt_range : bootBuiltins "range" = some (.type "range") := by decide +kernel
end VL
set_option Elab.async false
set_option linter.all false
set_option maxRecDepth 100000
set_option maxHeartbeats 1000000
namespace VL
open PySem PySem.Spec L2
theorem EC.units64 {X : Cx} {W : WX} {k : Nat} (C : EC X W k) : X.A.units + 64 < cLine := by have := C.units; omega
abbrev pyMulN : PV → PV → Option OV := fun p q => (mulL p q).map OV.lst
abbrev listO : List PV → Option OV := fun p => (listN p).map OV.lst
def FU : Nat := 1000000
theorem fn_stuck {P : Program} {w : World} {K : PySem.W.Frag} {mg : Str → Option Value} {base : Heap} {k : Nat} {f : Addr} {fd : FuncData} {ps : List Str} :
    FnOk P w K mg base (L2.CX P w) k f fd ps (spV K mg fun _ => .stuck) := by
  have no : ∀ vs H Q E, ¬ spV K mg (fun _ => .stuck) vs H Q E := fun vs H Q E h => by
    obtain ⟨_, _, p⟩ := h
    exact p.elim
  exact ⟨fun vs H Q E h => (no _ _ _ _ h).elim, fun A outer s H args us vs Q E _ _ _ _ h => (no _ _ _ _ h).elim⟩
/-- the targets of a parallel store are locals -/
def parK (N : List Str) (names : List (Str × NameKind)) (ks : List (Nat × Str)) : Bool := ks.all fun x => N[x.1]? == some x.2 && names.lookup x.2 == some .local
theorem par_k {N : List Str} {names : List (Str × NameKind)} {ks : List (Nat × Str)} (h : parK N names ks = true) : ∀ x ∈ ks, N[x.1]? = some x.2 ∧ names.lookup x.2 = some .local := by
  intro x hx
  have := List.all_eq_true.mp h x hx
  simpa using this
end VL
set_option Elab.async false
set_option linter.all false
set_option maxRecDepth 100000
set_option maxHeartbeats 1000000
namespace VL
open PySem PySem.Spec L2
/-! ### the program's top -/
/-- the kept objects hold no list -/
def noLists (K : PySem.W.Frag) : Bool := K.all fun x => match x.2.cls with
  | .type t => t != "list"
  | _ => true
theorem noLists.no {K : PySem.W.Frag} (h : noLists K = true) {a : Addr} {o : Obj} (e : K.lookup a = some o) (c : o.cls = .type "list") : False := by
  induction K with
  | nil => simp at e
  | cons x r ih =>
    obtain ⟨b, u⟩ := x
    simp only [noLists, List.all_cons, Bool.and_eq_true] at h
    rw [List.lookup_cons] at e
    split at e
    · cases e
      rw [c] at h
      exact absurd h.1 (by decide)
    · exact ih h.2 e
/-- a tuple of texts among them -/
def tupOf (o : Obj) (xs : List Str) : Bool := match o.cls, o.data with
  | .type t, .seq its _ => t == "tuple" && decide (its.size ≤ sizeLine) && decide (its.toList.length = xs.length) && (its.toList.zip xs).all fun y => match y.1 with
    | .str z _ => z == y.2
    | _ => false
  | _, _ => false
theorem vals_of : ∀ {us : List Value} {xs : List Str}, us.length = xs.length → ((us.zip xs).all fun y => match y.1 with
    | .str z _ => z == y.2
    | _ => false) = true → Vals (xs.map V.str) us
  | [], [], _, _ => .nil
  | u :: us, x :: xs, hl, h => by
    simp only [List.zip_cons_cons, List.all_cons, Bool.and_eq_true] at h
    have hl' : us.length = xs.length := by simpa using hl
    cases u with
    | str z t =>
      have : z = x := by simpa using h.1
      subst this
      exact .cons ⟨_, rfl⟩ (vals_of hl' h.2)
    | _ => exact absurd h.1 (by simp)
theorem tup_mk {K : PySem.W.Frag} {mg : Str → Option Value} {x : Str} {a : Addr} {o : Obj} {xs : List Str} (e : mg x = some (.ref a)) (l : K.lookup a = some o) (h : tupOf o xs = true) :
    ∃ a o its n, mg x = some (.ref a) ∧ K.lookup a = some o ∧ o.cls = .type "tuple" ∧ o.data = .seq its n ∧ its.size ≤ sizeLine ∧ Vals (xs.map V.str) its.toList := by
  obtain ⟨c, d, dt, sl⟩ := o
  simp only [tupOf] at h
  cases c <;> first | (cases h; done) | skip
  cases dt <;> first | (cases h; done) | skip
  rename_i t its n
  simp only [Bool.and_eq_true, decide_eq_true_eq, beq_iff_eq] at h
  obtain ⟨⟨⟨h1, h2⟩, h3⟩, h4⟩ := h
  subst h1
  exact ⟨a, _, its, n, e, l, rfl, rfl, h2, vals_of h3 h4⟩
theorem walkV {l : PySem.W.OpenLaw} {k : Nat} {q : Program} {loose : List Str} {XP : (Str → Option Value) → Heap → Prop} {YP : World → Heap → Prop} {d : DefRec} {K : Params → PySem.W.Frag} {D : DF}
    (hn : l.most = some 63) (hdf : d.params.defaults = []) (hr : Room k callerA)
    (hY : ∀ (w : World) (h : Heap), YP w h → (K w.params).In h)
    (F : ∀ (w : World) (mg : Str → Option Value) (fa : Addr) (h : Heap), (K w.params).In h → h.Ns mainGlobals mg → mg d.name = some (.ref fa) →
      ∃ fd : FuncData, (∀ (s : Shared) (u : Value), BindsTo s fd ⟨[u], []⟩ [("script", u)]) ∧ ∀ base : Heap, (K w.params).In base → base.Ns mainGlobals mg → FnOk l.prog w (K w.params) mg base (L2.CX l.prog w) k fa fd ["script"] (spV (K w.params) mg D))
    (N : ∀ w : World, noLists (K w.params) = true)
    (hlaw : ∀ ns : List Int, ns.length ≤ 63 → ∃ ss, D [.val (.lst (ns.map .int))] = .ok (.val (.bl true), ss)) :
    PySem.W.WalkO q loose XP YP l.row.toRowW d [] (fun f vs => PySem.call f vs) :=
  L2.walk_of (n := 63) (k := k) (x := "script") (CX := fun w => L2.CX l.prog w) (sp := fun w vs H Q E => ∃ (a : Addr) (ns : List Int), vs = [.ref a] ∧ ns.length ≤ 63 ∧ Only H ∧ SqL (K w.params) H a (ns.map V.int) ∧ ∀ H', Q (.bl true) H')
    hn (by decide) hdf hr hY
    (fun w mg fa h KX G hm => by
      obtain ⟨fd, hb, hf⟩ := F w mg fa h KX G hm
      refine ⟨fd, hb, fun base KB GB => ?_⟩
      have ok := hf base KB GB
      have imp : ∀ vs H (Q : VK) (E : XK), (∃ (a : Addr) (ns : List Int), vs = [V.ref a] ∧ ns.length ≤ 63 ∧ Only H ∧ SqL (K w.params) H a (ns.map V.int) ∧ ∀ H', Q (.bl true) H') → spV (K w.params) mg D vs H Q E := by
        rintro vs H Q E ⟨a, ns, rfl, hl, ho, hs, hq⟩
        have hz : FzL H a (ns.map V.int) := by
          rcases hs with (hs | hs) | ⟨o, its, n, e, c, _⟩
          · rcases ho a with h | ⟨o, xs, h⟩ <;> rw [h] at hs <;> cases hs
          · exact hs
          · exact (noLists.no (N w) e c).elim
        have hrep : ∀ ns : List Int, RepL (K w.params) H (ns.map .int) (ns.map V.int) := fun ns => by
          induction ns with
          | nil => exact repL_nil
          | cons i r ih => exact repL_cons (by simp only [Rep]) ih
        obtain ⟨ss, e⟩ := hlaw ns hl
        refine ⟨[.val (.lst (ns.map .int))], ⟨rfl, fun i s ov h1 h2 => ?_, fun i j o o' b h1 => ?_⟩, ?_⟩
        · cases i with
          | zero => simp at h1 h2; subst h1 h2; exact ⟨.ref a, rfl, by simp only [Rep]; exact ⟨a, _, rfl, hz, hrep ns⟩⟩
          | succ i => simp at h1
        · cases i with
          | zero => simp at h1
          | succ i => simp at h1
        · rw [e]
          intro b H' _ _ r
          have : b = .bl true := by simpa only [RRt, Rep] using r
          rw [this]; exact hq H'
      exact ⟨fun vs H Q E h => ok.len vs H Q E (imp _ _ _ _ h), fun A outer s H args us vs Q E h1 h2 h3 h4 h => ok.run A outer s H args us vs Q E h1 h2 h3 h4 (imp _ _ _ _ h)⟩)
    (fun _ _ a ns hl ho hS => ⟨a, ns, rfl, hl, ho, hS, fun _ => rfl⟩)
    fun w H s e s' ⟨_, _, _, _, _, _, _, _, _, _, _, _, z⟩ => z
theorem noLists_by {K : PySem.W.Frag} (h : noLists K = true) : noLists K = true := h
end VL
set_option Elab.async false
set_option linter.all false
set_option maxRecDepth 100000
set_option maxHeartbeats 1000000
namespace VL
open PySem PySem.Spec L2
/-! ### what a denotation answers: Q of what it gives, E of what it raises -/
def R.wpA {α : Type} (x : R α) (Q : α → Prop) (E : Ex → En → Prop) : Prop := match x with
  | .ok a => Q a
  | .exc e ρ => E e ρ
  | .stuck => False
@[irreducible] def R.wp {α : Type} (x : R α) (Q : α → Prop) (E : Ex → En → Prop) : Prop := x.wpA Q E
def noE : Ex → En → Prop := fun _ _ => False
section
variable {α β : Type} {Q : α → Prop} {E : Ex → En → Prop}
theorem wp_eq (x : R α) (Q : α → Prop) (E : Ex → En → Prop) : x.wp Q E = x.wpA Q E := by unfold R.wp; rfl
theorem wpA_bind {m : R β} {k : β → R α} : (m.bind k).wpA Q E = m.wpA (fun a => (k a).wpA Q E) E := by cases m <;> rfl
theorem wpA_ok {a : α} : R.wpA (.ok a) Q E = Q a := rfl
@[simp] theorem wp_ok {a : α} : R.wp (.ok a) Q E = Q a := by rw [wp_eq]; rfl
@[simp] theorem wp_exc {e : Ex} {ρ : En} : R.wp (.exc e ρ : R α) Q E = E e ρ := by rw [wp_eq]; rfl
@[simp] theorem wp_stuck : R.wp (.stuck : R α) Q E = False := by rw [wp_eq]; rfl
@[simp] theorem wp_bind {m : R β} {k : β → R α} : (m.bind k).wp Q E = m.wp (fun a => (k a).wp Q E) E := by cases m <;> simp
@[simp] theorem wp_ite {c : Prop} [Decidable c] {a b : R α} : (if c then a else b).wp Q E = if c then a.wp Q E else b.wp Q E := by split <;> rfl
@[simp] theorem wp_of_ite {c : Prop} [Decidable c] {a b : Option α} : (R.of (if c then a else b)).wp Q E = if c then (R.of a).wp Q E else (R.of b).wp Q E := by split <;> rfl
theorem wp_mono {x : R α} {Q' : α → Prop} {E' : Ex → En → Prop} (h : x.wp Q E) (q : ∀ a, Q a → Q' a) (e : ∀ a ρ, E a ρ → E' a ρ) : x.wp Q' E' := by
  rw [wp_eq] at h ⊢
  cases x with
  | ok a => exact q a h
  | exc a ρ => exact e a ρ h
  | stuck => exact h
theorem wpI {a : α} (h : Q a) : R.wp (.ok a) Q E := by rw [wp_ok]; exact h
theorem wp_use {x : R α} {Q' : α → Prop} (h : x.wp Q noE) (q : ∀ a, Q a → Q' a) : x.wp Q' E := wp_mono h q fun _ _ z => z.elim
theorem wp_ex {x : R α} (h : x.wp Q noE) : ∃ a, x = .ok a ∧ Q a := by
  rw [wp_eq] at h
  cases x with
  | ok a => exact ⟨a, rfl, h⟩
  | exc a ρ => exact h.elim
  | stuck => exact h.elim
theorem wp_of_eq {x : R α} {a : α} (h : x = .ok a) (q : Q a) : x.wp Q E := by rw [h, wp_ok]; exact q
end
@[simp] theorem ifF {c p : Prop} [Decidable c] : (if c then p else False) = (c ∧ p) := by by_cases h : c <;> simp [h]
@[simp] theorem dOV_c (f : DE) {s : Slot} {ρ : En} : dOV f (s :: ρ) = (f (s :: ρ)).bind fun (p, ρ') => .ok (.v p, ρ') := rfl
@[simp] theorem dO0_c {ρ : En} : dO0 ρ = .ok ([], ρ) := rfl
@[simp] theorem dOs_c (f : DO) (g : DOs) {s : Slot} {ρ : En} : dOs f g (s :: ρ) = (f (s :: ρ)).bind fun (h, ρ1) => (g ρ1).bind fun (hs, ρ2) => .ok (h :: hs, ρ2) := rfl
@[simp] theorem dTst_c (f : DE) {s : Slot} {ρ : En} : dTst f (s :: ρ) = (f (s :: ρ)).bind fun (p, ρ') => match p with
  | .bl b => .ok (b, ρ')
  | _ => .stuck := rfl
@[simp] theorem dAnd_c (t u : DT) {s : Slot} {ρ : En} : dAnd t u (s :: ρ) = (t (s :: ρ)).bind fun (b, ρ1) => if b = true then u ρ1 else .ok (false, ρ1) := rfl
@[simp] theorem dOr_c (t u : DT) {s : Slot} {ρ : En} : dOr t u (s :: ρ) = (t (s :: ρ)).bind fun (b, ρ1) => if b = true then .ok (true, ρ1) else u ρ1 := rfl
@[simp] theorem dNot_c (t : DT) {s : Slot} {ρ : En} : dNot t (s :: ρ) = (t (s :: ρ)).bind fun (b, ρ1) => .ok (!b, ρ1) := rfl
/-- a truth value -/
def blQ {α : Type} (p : PV) (k : Bool → R α) : R α := match p with
  | .bl b => k b
  | _ => .stuck
@[simp] theorem blQ_b {α : Type} {b : Bool} {k : Bool → R α} : blQ (.bl b) k = k b := rfl
@[simp] theorem dAndV_c (f g : DE) {s : Slot} {ρ : En} : dAndV f g (s :: ρ) = (f (s :: ρ)).bind fun (p, ρ1) => blQ p fun b => if b = true then g ρ1 else .ok (.bl false, ρ1) := by
  unfold dAndV
  congr 1; funext ⟨p, ρ1⟩
  cases p <;> first | rfl | skip
  rename_i b; cases b <;> rfl
@[simp] theorem dOrV_c (f g : DE) {s : Slot} {ρ : En} : dOrV f g (s :: ρ) = (f (s :: ρ)).bind fun (p, ρ1) => blQ p fun b => if b = true then .ok (.bl true, ρ1) else g ρ1 := by
  unfold dOrV
  congr 1; funext ⟨p, ρ1⟩
  cases p <;> first | rfl | skip
  rename_i b; cases b <;> rfl
@[simp] theorem dNotV_c (f : DE) {s : Slot} {ρ : En} : dNotV f (s :: ρ) = (f (s :: ρ)).bind fun (p, ρ1) => match p with
  | .bl b => .ok (.bl !b, ρ1)
  | _ => .stuck := rfl
@[simp] theorem dIfE_c {α : Type} (t : DT) (f g : En → R (α × En)) {s : Slot} {ρ : En} : dIfE t f g (s :: ρ) = (t (s :: ρ)).bind fun (b, ρ1) => if b = true then f ρ1 else g ρ1 := rfl
@[simp] theorem dChain_c (F G : PV → PV → Option PV) (f g k : DO) {s : Slot} {ρ : En} : dChain F G f g k (s :: ρ) = (f (s :: ρ)).bind fun (h1, ρ1) => (g ρ1).bind fun (h2, ρ2) =>
  (R.of ((h1.get ρ2).bind fun p => (h2.get ρ2).bind fun q => F p q)).bind fun z => blQ z fun b => if b = true then
    (k ρ2).bind fun (h3, ρ3) => (R.of ((h2.get ρ3).bind fun p => (h3.get ρ3).bind fun q => G p q)).bind fun z => .ok (z, ρ3)
    else .ok (.bl false, ρ2) := by
  unfold dChain
  congr 1; funext ⟨h1, ρ1⟩
  dsimp only
  congr 1; funext ⟨h2, ρ2⟩
  dsimp only
  congr 1; funext p
  cases p <;> first | rfl | skip
  rename_i b; cases b <;> rfl
@[simp] theorem dA0_c {ρ : En} : dA0 ρ = .ok ([], ρ) := rfl
@[simp] theorem dA_c (f : DE) (g : DA) {s : Slot} {ρ : En} : dA f g (s :: ρ) = (f (s :: ρ)).bind fun (p, ρ1) => (g ρ1).bind fun (ps, ρ2) => .ok (p :: ps, ρ2) := rfl
@[simp] theorem dTup_c (g : DA) {s : Slot} {ρ : En} : dTup g (s :: ρ) = (g (s :: ρ)).bind fun (ps, ρ1) => if ps.length ≤ 1000 then .ok (.tup ps, ρ1) else .stuck := rfl
@[simp] theorem dLst_c (g : DA) {s : Slot} {ρ : En} : dLst g (s :: ρ) = (g (s :: ρ)).bind fun (ps, ρ1) => if ps.length ≤ 1000 then .ok (.lst ps, ρ1) else .stuck := rfl
@[simp] theorem dP0_c {ρ : En} : dP0 ρ = .ok (none, ρ) := rfl
@[simp] theorem dP1_c (f : DE) {s : Slot} {ρ : En} : dP1 f (s :: ρ) = (f (s :: ρ)).bind fun (p, ρ1) => match p with
  | .int i => .ok (some i, ρ1)
  | _ => .stuck := rfl
@[simp] theorem dSl_c {α : Type} (F : PV → Option Int → Option Int → Option α) (f : DO) (l u : DP) {s : Slot} {ρ : En} : dSl F f l u (s :: ρ) = (f (s :: ρ)).bind fun (h, ρ1) => (l ρ1).bind fun (lo, ρ2) => (u ρ2).bind fun (hi, ρ3) => (R.of ((h.get ρ3).bind fun p => F p lo hi)).bind fun z => .ok (z, ρ3) := rfl
@[simp] theorem dNil_c {ρ : En} : dNil ρ = .ok (.nx, ρ) := rfl
@[simp] theorem dSeq_c (f g : DS) {s : Slot} {ρ : En} : dSeq f g (s :: ρ) = (f (s :: ρ)).bind fun (c, ρ1) => match c with
  | .nx => g ρ1
  | c => .ok (c, ρ1) := rfl
@[simp] theorem dBk_c {ρ : En} : dBk ρ = .ok (.bk, ρ) := rfl
@[simp] theorem dCt_c {ρ : En} : dCt ρ = .ok (.ct, ρ) := rfl
@[simp] theorem dDrop_c (d : DE) {s : Slot} {ρ : En} : dDrop d (s :: ρ) = (d (s :: ρ)).bind fun (_, ρ1) => .ok (.nx, ρ1) := rfl
@[simp] theorem dRet_c (d : DE) {s : Slot} {ρ : En} : dRet d (s :: ρ) = (d (s :: ρ)).bind fun (p, ρ1) => .ok (.ret (.val p), ρ1) := rfl
@[simp] theorem dRet0_c {ρ : En} : dRet0 ρ = .ok (.ret (.val .non), ρ) := rfl
@[simp] theorem dRetN_c (n : DN) {s : Slot} {ρ : En} : dRetN n (s :: ρ) = (n (s :: ρ)).bind fun (o, ρ1) => .ok (.ret (.own o), ρ1) := rfl
@[simp] theorem dRetN'_c (pin : List Nat) (n : DN) {s : Slot} {ρ : En} : dRetN' pin n (s :: ρ) = (n (s :: ρ)).bind fun (o, ρ1) => if pinsOwn pin ρ1 = true then .ok (.ret (.own o), ρ1) else .stuck := rfl
@[simp] theorem dRetO_c (pin : List Nat) (i : Nat) {s : Slot} {ρ : En} : dRetO pin i (s :: ρ) = if pinsOwn pin (s :: ρ) = true ∧ ¬ i ∈ pin then match (s :: ρ)[i]? with
  | some (.own o) => .ok (.ret (.own o), (s :: ρ))
  | _ => .stuck
  else .stuck := rfl
@[simp] theorem dIf_c (t : DT) (f g : DS) {s : Slot} {ρ : En} : dIf t f g (s :: ρ) = (t (s :: ρ)).bind fun (b, ρ1) => if b = true then f ρ1 else g ρ1 := rfl
@[simp] theorem dSet_c (i : Nat) (d : DE) {s : Slot} {ρ : En} : dSet i d (s :: ρ) = (d (s :: ρ)).bind fun (p, ρ1) => .ok (.nx, ρ1.set i (.val p)) := rfl
@[simp] theorem dSetN_c (i : Nat) (n : DN) {s : Slot} {ρ : En} : dSetN i n (s :: ρ) = (n (s :: ρ)).bind fun (o, ρ1) => .ok (.nx, ρ1.set i (.own o)) := rfl
@[simp] theorem dAsg_c (g : DG) (d : DE) {s : Slot} {ρ : En} : dAsg g d (s :: ρ) = (d (s :: ρ)).bind fun (p, ρ1) => (R.of (g p ρ1)).bind fun ρ2 => .ok (.nx, ρ2) := rfl
@[simp] theorem dSetIx_c (i : Nat) (d : DE) (x : DE) {s : Slot} {ρ : En} : dSetIx i d x (s :: ρ) = (d (s :: ρ)).bind fun (p, ρ1) => match ρ1[i]? with
  | some (.own (.lst _)) => (x ρ1).bind fun (q, ρ2) => match q, ρ2[i]? with
    | .int k, some (.own (.lst ps)) => (R.of (ixN ps.length k)).bind fun j => .ok (.nx, ρ2.set i (.own (.lst (ps.set j p))))
    | _, _ => .stuck
  | _ => .stuck := rfl
@[simp] theorem dAug_c (F : PV → PV → Option PV) (i : Nat) (d : DE) {s : Slot} {ρ : En} : dAug F i d (s :: ρ) = match (s :: ρ)[i]? with
  | some (.val p) => (d (s :: ρ)).bind fun (q, ρ1) => (R.of (F p q)).bind fun z => .ok (.nx, ρ1.set i (.val z))
  | _ => .stuck := rfl
@[simp] theorem dSeqOf_c (d : DE) {s : Slot} {ρ : En} : dSeqOf d (s :: ρ) = (d (s :: ρ)).bind fun (p, ρ1) => match p with
  | .lst ps => .ok (ps, ρ1)
  | .tup ps => .ok (ps, ρ1)
  | .str x => .ok (sgnsOf x, ρ1)
  | _ => .stuck := rfl
@[simp] theorem dFor_c (src : DA) (g : DG) (body : DS) {s : Slot} {ρ : En} : dFor src g body (s :: ρ) = (src (s :: ρ)).bind fun (ps, ρ1) => forD g body ps ρ1 := rfl
@[simp] theorem dLc_c (src : DA) (g : DG) (c : DT) (e : DE) (vs : List Nat) {s : Slot} {ρ : En} : dLc src g c e vs (s :: ρ) = (src (s :: ρ)).bind fun (ps, ρ1) => (lcD g c e vs ps [] (wipeE ρ1 vs)).bind fun (acc, ρ2) => .ok (.lst acc, restE ρ1 ρ2 vs) := rfl
@[simp] theorem dYes_c {ρ : En} : dYes ρ = .ok (true, ρ) := rfl
@[simp] theorem dSl0_c {ρ : En} : dSl0 ρ = .ok ([], ρ) := rfl
@[simp] theorem dSlV_c (f : DE) (g : DSl) {s : Slot} {ρ : En} : dSlV f g (s :: ρ) = (f (s :: ρ)).bind fun (p, ρ1) => (g ρ1).bind fun (ss, ρ2) => .ok (.val p :: ss, ρ2) := rfl
@[simp] theorem dSlN_c (f : DN) (g : DSl) {s : Slot} {ρ : En} : dSlN f g (s :: ρ) = (f (s :: ρ)).bind fun (o, ρ1) => (g ρ1).bind fun (ss, ρ2) => .ok (.own o :: ss, ρ2) := rfl
@[simp] theorem dPar_c (is : List Nat) (f : DSl) {s : Slot} {ρ : En} : dPar is f (s :: ρ) = (f (s :: ρ)).bind fun (ss, ρ1) => if ss.length = is.length then .ok (.nx, setAll (is.zip ss).reverse ρ1) else .stuck := rfl
@[simp] theorem opnd2_c {α : Type} (F : PV → PV → Option α) (f g : DO) {s : Slot} {ρ : En} : opnd2 F f g (s :: ρ) = (f (s :: ρ)).bind fun (h1, ρ1) => (g ρ1).bind fun (h2, ρ2) => (R.of ((h1.get ρ2).bind fun p => (h2.get ρ2).bind fun q => F p q)).bind fun z => .ok (z, ρ2) := rfl
@[simp] theorem opnd1_c (F : PV → Option PV) (f : DO) {s : Slot} {ρ : En} : opnd1 F f (s :: ρ) = (f (s :: ρ)).bind fun (h1, ρ1) => (R.of ((h1.get ρ1).bind F)).bind fun z => .ok (z, ρ1) := rfl
@[simp] theorem dC_c (p : PV) {ρ : En} : dC p ρ = .ok (p, ρ) := rfl
@[simp] theorem dFz_c (f : DN) {s : Slot} {ρ : En} : dFz f (s :: ρ) = (f (s :: ρ)).bind fun (o, ρ') => if canFrz o then .ok (frzOf o, ρ') else .stuck := rfl
@[simp] theorem canFrz_lst {ps : List PV} : canFrz (.lst ps) = true := rfl
@[simp] theorem frzOf_lst {ps : List PV} : frzOf (.lst ps) = .lst ps := rfl
@[simp] theorem viewO_lst {ps : List PV} : viewO (.lst ps) = .lst ps := rfl
@[simp] theorem dCB_c {α : Type} (F : List PV → Option α) (g : DOs) {s : Slot} {ρ : En} : dCB F g (s :: ρ) = (g (s :: ρ)).bind fun (hs, ρ1) => (R.of ((getAll ρ1 hs).bind F)).bind fun z => .ok (z, ρ1) := rfl
/-- what stands in a slot -/
def slN1 (ρ : En) (i : Nat) : Option Slot → R (PV × En)
  | some (.val p) => .ok (p, ρ)
  | some (.own (.lst ps)) => .ok (.lst ps, ρ.set i (.val (.lst ps)))
  | _ => .stuck
@[simp] theorem slN1_v {ρ : En} {i : Nat} {p : PV} : slN1 ρ i (some (.val p)) = .ok (p, ρ) := rfl
@[simp] theorem slN1_o {ρ : En} {i : Nat} {ps : List PV} : slN1 ρ i (some (.own (.lst ps))) = .ok (.lst ps, ρ.set i (.val (.lst ps))) := rfl
@[simp] theorem dN_c (i : Nat) {s : Slot} {ρ : En} : dN i (s :: ρ) = slN1 (s :: ρ) i (s :: ρ)[i]? := by
  unfold dN slN1; rfl
def slO1 (ρ : En) (i : Nat) : Option Slot → R (Hd × En)
  | some (.val p) => .ok (.v p, ρ)
  | some (.own _) => .ok (.b i, ρ)
  | _ => .stuck
@[simp] theorem slO1_v {ρ : En} {i : Nat} {p : PV} : slO1 ρ i (some (.val p)) = .ok (.v p, ρ) := rfl
@[simp] theorem slO1_o {ρ : En} {i : Nat} {o : OV} : slO1 ρ i (some (.own o)) = .ok (.b i, ρ) := rfl
@[simp] theorem dON_c (i : Nat) {s : Slot} {ρ : En} : dON i (s :: ρ) = slO1 (s :: ρ) i (s :: ρ)[i]? := by
  unfold dON slO1; rfl
@[simp] theorem hd_v (ρ : En) (p : PV) : (Hd.v p).get ρ = some p := rfl
def slG : Option Slot → Option PV
  | some (.own o) => some (viewO o)
  | _ => none
@[simp] theorem slG_o {o : OV} : slG (some (.own o)) = some (viewO o) := rfl
@[simp] theorem hd_b (i : Nat) {s : Slot} {ρ : En} : (Hd.b i).get (s :: ρ) = slG (s :: ρ)[i]? := rfl
def mtS (o : Option Slot) (P : List PV → Prop) : Prop := match o with
  | some (.own (.lst qs)) => P qs
  | _ => False
@[simp] theorem mtS_o {qs : List PV} {P : List PV → Prop} : mtS (some (.own (.lst qs))) P = P qs := rfl
@[simp] theorem dMt_wp {α : Type} (F : List PV → List PV → Option (α × List PV)) (i : Nat) (g : DA) {s : Slot} {ρ : En} {Q : α × En → Prop} {E : Ex → En → Prop} :
    (dMt F i g (s :: ρ)).wp Q E = mtS (s :: ρ)[i]? fun _ => (g (s :: ρ)).wp (fun x => mtS x.2[i]? fun qs => (R.of (F qs x.1)).wp (fun y => Q (y.1, x.2.set i (.own (.lst y.2)))) E) E := by
  simp only [wp_eq]
  unfold dMt
  have inner : ∀ (ρ1 : En) (ps : List PV), R.wpA (match ρ1[i]? with
      | some (.own (.lst qs)) => (R.of (F qs ps)).bind fun (z, qs') => R.ok (z, ρ1.set i (.own (.lst qs')))
      | _ => .stuck) Q E = mtS ρ1[i]? fun qs => (R.of (F qs ps)).wpA (fun y => Q (y.1, ρ1.set i (.own (.lst y.2)))) E := fun ρ1 ps => by
    cases ρ1[i]? with
    | none => rfl
    | some s => cases s with
      | own o => cases o with
        | lst qs => dsimp only [mtS]; rw [wpA_bind]; rfl
        | dK _ _ => rfl
      | _ => rfl
  cases (s :: ρ)[i]? with
  | none => rfl
  | some t => cases t with
    | own o => cases o with
      | lst qs => dsimp only [mtS]; rw [wpA_bind]; exact congrArg (fun f => R.wpA (g (s :: ρ)) f E) (funext fun x => inner x.2 x.1)
      | dK _ _ => rfl
    | _ => rfl
/-! ### calls -/
section
variable {Q : PV × En → Prop} {QN : OV × En → Prop} {E : Ex → En → Prop}
def callQ (hs : List Hd) (ρ1 : En) (Q : PV × En → Prop) : Rt × List Slot → Prop := fun x => match x.1 with
  | .val p => match back hs x.2 ρ1 with
    | some ρ2 => Q (p, ρ2)
    | none => False
  | .own _ => False
def callQN (hs : List Hd) (ρ1 : En) (Q : OV × En → Prop) : Rt × List Slot → Prop := fun x => match x.1 with
  | .own p => match back hs x.2 ρ1 with
    | some ρ2 => Q (p, ρ2)
    | none => False
  | .val _ => False
def callX (hs : List Hd) (ρ1 : En) (E : Ex → En → Prop) : Ex → List Slot → Prop := fun e ss => match back hs ss ρ1 with
    | some ρ2 => E e ρ2
    | none => False
def slotsQ (o : Option (List Slot)) (P : List Slot → Prop) : Prop := match o with
  | some ss => P ss
  | none => False
@[simp] theorem slotsQ_s {ss : List Slot} {P : List Slot → Prop} : slotsQ (some ss) P = P ss := rfl
@[simp] theorem callQ_v {hs : List Hd} {ρ1 : En} {p : PV} {ss : List Slot} : callQ hs ρ1 Q (.val p, ss) = slotsQ (back hs ss ρ1) fun ρ2 => Q (p, ρ2) := rfl
@[simp] theorem callQN_o {hs : List Hd} {ρ1 : En} {p : OV} {ss : List Slot} : callQN hs ρ1 QN (.own p, ss) = slotsQ (back hs ss ρ1) fun ρ2 => QN (p, ρ2) := rfl
theorem callX_o {hs : List Hd} {ρ1 : En} {e : Ex} {ss : List Slot} : callX hs ρ1 E e ss = slotsQ (back hs ss ρ1) fun ρ2 => E e ρ2 := rfl
@[simp] theorem dCallE_wp (F : DF) (g : DOs) {s : Slot} {ρ : En} : (dCallE F g (s :: ρ)).wp Q E = (g (s :: ρ)).wp (fun x => slotsQ (slotsOf x.2 x.1) fun ss => ndup (lends x.1) = true ∧ (F ss).wp (callQ x.1 x.2 Q) (callX x.1 x.2 E)) E := by
  simp only [wp_eq]
  unfold dCallE dCall
  rw [wpA_bind, wpA_bind]
  congr 1
  funext ⟨hs, ρ1⟩
  dsimp only
  rw [wpA_bind]
  cases slotsOf ρ1 hs with
  | none => rfl
  | some ss =>
    simp only [R.of_some, wpA_ok, slotsQ_s]
    by_cases nd : ndup (lends hs) = true
    · rw [if_pos nd, eq_true nd, true_and]
      cases F ss with
      | ok x =>
        obtain ⟨rt, outs⟩ := x
        dsimp only
        cases e : back hs outs ρ1 with
        | none => cases rt <;> simp [callQ, e, R.wpA]
        | some ρ2 => cases rt <;> simp [callQ, e, R.wpA]
      | exc a outs =>
        dsimp only
        cases e : back hs outs ρ1 <;> simp [callX, e, R.wpA]
      | stuck => rfl
    · rw [if_neg nd]; simp [nd, R.wpA]
@[simp] theorem dCallN_wp (F : DF) (g : DOs) {s : Slot} {ρ : En} : (dCallN F g (s :: ρ)).wp QN E = (g (s :: ρ)).wp (fun x => slotsQ (slotsOf x.2 x.1) fun ss => ndup (lends x.1) = true ∧ (F ss).wp (callQN x.1 x.2 QN) (callX x.1 x.2 E)) E := by
  simp only [wp_eq]
  unfold dCallN dCall
  rw [wpA_bind, wpA_bind]
  congr 1
  funext ⟨hs, ρ1⟩
  dsimp only
  rw [wpA_bind]
  cases slotsOf ρ1 hs with
  | none => rfl
  | some ss =>
    simp only [R.of_some, wpA_ok, slotsQ_s]
    by_cases nd : ndup (lends hs) = true
    · rw [if_pos nd, eq_true nd, true_and]
      cases F ss with
      | ok x =>
        obtain ⟨rt, outs⟩ := x
        dsimp only
        cases e : back hs outs ρ1 with
        | none => cases rt <;> simp [callQN, e, R.wpA]
        | some ρ2 => cases rt <;> simp [callQN, e, R.wpA]
      | exc a outs =>
        dsimp only
        cases e : back hs outs ρ1 <;> simp [callX, e, R.wpA]
      | stuck => rfl
    · rw [if_neg nd]; simp [nd, R.wpA]
end
@[simp] theorem slotsOf_nil {ρ : En} : slotsOf ρ [] = some [] := rfl
@[simp] theorem slotsOf_v {ρ : En} {p : PV} {hs : List Hd} : slotsOf ρ (.v p :: hs) = (slotsOf ρ hs).map (.val p :: ·) := rfl
def slA : Option Slot → Option (List Slot) → Option (List Slot)
  | some (.own o), r => r.map (.own o :: ·)
  | _, _ => none
@[simp] theorem slA_o {o : OV} {r : Option (List Slot)} : slA (some (.own o)) r = r.map (.own o :: ·) := rfl
@[simp] theorem slotsOf_b {ρ : En} {i : Nat} {hs : List Hd} : slotsOf ρ (.b i :: hs) = slA ρ[i]? (slotsOf ρ hs) := by
  unfold slA; rw [slotsOf]
  cases ρ[i]? with
  | none => rfl
  | some s => cases s <;> rfl
@[simp] theorem lends_nil : lends [] = [] := rfl
@[simp] theorem lends_v {p : PV} {hs : List Hd} : lends (.v p :: hs) = lends hs := rfl
@[simp] theorem lends_b {p : Nat} {hs : List Hd} : lends (.b p :: hs) = p :: lends hs := rfl
@[simp] theorem ndup_nil : ndup [] = true := rfl
@[simp] theorem ndup_c {i : Nat} {is : List Nat} : ndup (i :: is) = (!is.contains i && ndup is) := rfl
@[simp] theorem back_nil {ss : List Slot} {ρ : En} : back [] ss ρ = some ρ := by cases ss <;> rfl
@[simp] theorem back_v {p : PV} {hs : List Hd} {s : Slot} {ss : List Slot} {ρ : En} : back (.v p :: hs) (s :: ss) ρ = back hs ss ρ := rfl
@[simp] theorem back_b {i : Nat} {hs : List Hd} {o : OV} {ss : List Slot} {ρ : En} : back (.b i :: hs) (.own o :: ss) ρ = back hs ss (ρ.set i (.own o)) := rfl
@[simp] theorem getAll_nil {ρ : En} : getAll ρ [] = some [] := rfl
@[simp] theorem getAll_c {ρ : En} {h : Hd} {hs : List Hd} : getAll ρ (h :: hs) = (h.get ρ).bind fun p => (getAll ρ hs).map (p :: ·) := rfl
/-- a def -/
@[simp] theorem okA0 : okArgs [] [] = true := rfl
@[simp] theorem okA1 {bs : List Bool} {o : OV} {ss : List Slot} : okArgs (true :: bs) (.own o :: ss) = okArgs bs ss := rfl
@[simp] theorem okA2 {bs : List Bool} {p : PV} {ss : List Slot} : okArgs (false :: bs) (.val p :: ss) = okArgs bs ss := rfl
@[simp] theorem outs0 {ρ : En} : outsOf [] [] ρ = some [] := by cases ρ <;> rfl
@[simp] theorem outs1 {bs : List Bool} {s : Slot} {ss : List Slot} {o : OV} {ρ : En} : outsOf (true :: bs) (s :: ss) (.own o :: ρ) = (outsOf bs ss ρ).map (.own o :: ·) := rfl
@[simp] theorem outs2 {bs : List Bool} {s t : Slot} {ss : List Slot} {ρ : En} : outsOf (false :: bs) (s :: ss) (t :: ρ) = (outsOf bs ss ρ).map (s :: ·) := rfl
def retQ (bs : List Bool) (ss : List Slot) (Q : Rt × List Slot → Prop) : Ctl × En → Prop := fun x => match x.1 with
  | .ret rt => slotsQ (outsOf bs ss x.2) fun outs => Q (rt, outs)
  | .nx => slotsQ (outsOf bs ss x.2) fun outs => Q (.val .non, outs)
  | _ => False
@[simp] theorem retQ_r {bs : List Bool} {ss : List Slot} {Q : Rt × List Slot → Prop} {rt : Rt} {ρ : En} : retQ bs ss Q (.ret rt, ρ) = slotsQ (outsOf bs ss ρ) fun outs => Q (rt, outs) := rfl
@[simp] theorem retQ_n {bs : List Bool} {ss : List Slot} {Q : Rt × List Slot → Prop} {ρ : En} : retQ bs ss Q (.nx, ρ) = slotsQ (outsOf bs ss ρ) fun outs => Q (.val .non, outs) := rfl
def excQ (bs : List Bool) (ss : List Slot) (E : Ex → List Slot → Prop) : Ex → En → Prop := fun e ρ => slotsQ (outsOf bs ss ρ) fun outs => E e outs
theorem dFn_wp {n : Nat} {bs : List Bool} {body : DS} {ss : List Slot} {Q : Rt × List Slot → Prop} {E : Ex → List Slot → Prop} :
    (dFn n bs body ss).wp Q E = (okArgs bs ss = true ∧ (body (ss ++ List.replicate (n - ss.length) .emp)).wp (retQ bs ss Q) (excQ bs ss E)) := by
  simp only [wp_eq]
  unfold dFn
  by_cases h : okArgs bs ss = true
  · rw [if_pos h, eq_true h, true_and]
    cases body (ss ++ List.replicate (n - ss.length) .emp) with
    | ok x =>
      obtain ⟨c, ρ'⟩ := x
      cases c <;> dsimp only
      all_goals (try rw [wpA_bind])
      all_goals (try (simp only [retQ, slotsQ, wpA_ok]; cases outsOf bs ss ρ' <;> rfl))
      all_goals rfl
    | exc e ρ' =>
      dsimp only
      rw [wpA_bind]
      simp only [excQ, slotsQ, R.wpA]
      cases outsOf bs ss ρ' <;> rfl
    | stuck => rfl
  · rw [if_neg h]; simp [h, R.wpA]
/-! ### loops -/
theorem forD_wp {g : DG} {body : DS} {Q : Ctl × En → Prop} {E : Ex → En → Prop} (I : Nat → En → Prop) : ∀ (ps : List PV) (k : Nat) (ρ : En), I k ρ →
    (∀ i p ρ, ps[i]? = some p → I (k + i) ρ → ∃ ρ1, g p ρ = some ρ1 ∧ (body ρ1).wp (fun x => match x.1 with
      | .nx => I (k + i + 1) x.2
      | .ct => I (k + i + 1) x.2
      | .bk => Q (.nx, x.2)
      | .ret rt => Q (.ret rt, x.2)) E) →
    (∀ ρ, I (k + ps.length) ρ → Q (.nx, ρ)) → (forD g body ps ρ).wp Q E
  | [], k, ρ, h0, _, he => wpI (he ρ h0)
  | p :: ps, k, ρ, h0, hs, he => by
    obtain ⟨ρ1, e1, w⟩ := hs 0 p ρ rfl h0
    unfold forD
    rw [e1, R.of_some, R.bind_ok, wp_bind]
    refine wp_mono w (fun x hx => ?_) fun _ _ z => z
    obtain ⟨c, ρ2⟩ := x
    have go : I (k + 1) ρ2 → (forD g body ps ρ2).wp Q E := fun h => by
      refine forD_wp I ps (k + 1) ρ2 h (fun i q ρ hq hi => ?_) fun ρ h => he ρ ?_
      · have := hs (i + 1) q ρ (by simpa using hq) (by rw [show k + (i + 1) = k + 1 + i by omega]; exact hi)
        rw [show k + 1 + i + 1 = k + (i + 1) + 1 by omega]
        exact this
      · rw [show k + (p :: ps).length = k + 1 + ps.length by simp; omega]; exact h
    cases c with
    | nx => exact go hx
    | ct => exact go hx
    | bk => exact wpI hx
    | ret rt => exact wpI hx
/-- a comprehension: what stands behind i turns in the list is acc ++ A, with I -/
theorem lcD_wp {g : DG} {c : DT} {e : DE} {vs : List Nat} {Q : List PV × En → Prop} {E : Ex → En → Prop} (I : Nat → List PV → En → Prop) : ∀ (ps : List PV) (k : Nat) (acc : List PV) (ρ : En), I k acc ρ →
    (∀ i p acc ρ, ps[i]? = some p → I (k + i) acc ρ → ∃ ρ1, g p ρ = some ρ1 ∧ (c ρ1).wp (fun x => if x.1 = true then (e x.2).wp (fun y => I (k + i + 1) (acc ++ [y.1]) (wipeE y.2 vs)) noE else I (k + i + 1) acc (wipeE x.2 vs)) noE) →
    (∀ acc ρ, I (k + ps.length) acc ρ → Q (acc, ρ)) → (lcD g c e vs ps acc ρ).wp Q E
  | [], k, acc, ρ, h0, _, he => wpI (he acc ρ h0)
  | p :: ps, k, acc, ρ, h0, hs, he => by
    obtain ⟨ρ1, e1, w⟩ := hs 0 p acc ρ rfl h0
    obtain ⟨⟨b, ρ2⟩, e2, w2⟩ := wp_ex w
    have go : ∀ acc ρ, I (k + 1) acc ρ → (lcD g c e vs ps acc ρ).wp Q E := fun acc ρ h => by
      refine lcD_wp I ps (k + 1) acc ρ h (fun i q acc ρ hq hi => ?_) fun acc ρ h => he acc ρ ?_
      · have := hs (i + 1) q acc ρ (by simpa using hq) (by rw [show k + (i + 1) = k + 1 + i by omega]; exact hi)
        rw [show k + 1 + i + 1 = k + (i + 1) + 1 by omega]
        exact this
      · rw [show k + (p :: ps).length = k + 1 + ps.length by simp; omega]; exact h
    unfold lcD
    rw [e1, R.of_some, R.bind_ok, e2, noExc_ok, R.bind_ok]
    dsimp only at w2 ⊢
    cases b with
    | false => rw [if_neg (by decide)] at w2 ⊢; exact go _ _ w2
    | true =>
      rw [if_pos rfl] at w2 ⊢
      obtain ⟨⟨q, ρ3⟩, e3, w3⟩ := wp_ex w2
      rw [e3, noExc_ok, R.bind_ok]
      exact go _ _ w3
theorem whD_wp {t : DT} {body : DS} {Q : Ctl × En → Prop} {E : Ex → En → Prop} (I : Nat → En → Prop)
    (hs : ∀ m ρ, I m ρ → (t ρ).wp (fun x => if x.1 = true then (body x.2).wp (fun y => match y.1 with
      | .nx => ∃ m', m' < m ∧ I m' y.2
      | .ct => ∃ m', m' < m ∧ I m' y.2
      | .bk => Q (.nx, y.2)
      | .ret rt => Q (.ret rt, y.2)) E else Q (.nx, x.2)) E) : ∀ (n m : Nat) (ρ : En), m < n → I m ρ → (whD t body n ρ).wp Q E
  | 0, m, ρ, h, _ => absurd h (by omega)
  | n + 1, m, ρ, h, hi => by
    unfold whD
    rw [wp_bind]
    refine wp_mono (hs m ρ hi) (fun x hx => ?_) fun _ _ z => z
    obtain ⟨b, ρ1⟩ := x
    dsimp only at hx ⊢
    cases b with
    | false => rw [if_neg (by decide)] at hx ⊢; exact wpI hx
    | true =>
      rw [if_pos rfl] at hx ⊢
      rw [wp_bind]
      refine wp_mono hx (fun y hy => ?_) fun _ _ z => z
      obtain ⟨c, ρ2⟩ := y
      cases c with
      | nx => obtain ⟨m', h1, h2⟩ := hy; exact whD_wp I hs n m' ρ2 (by omega) h2
      | ct => obtain ⟨m', h1, h2⟩ := hy; exact whD_wp I hs n m' ρ2 (by omega) h2
      | bk => exact wpI hy
      | ret rt => exact wpI hy
@[simp] theorem szl : sizeLine = 16777216 := rfl
theorem rngL_len {lo : Int} {n : Nat} : (rngL lo n).length = n := by simp [rngL]
theorem rngL_get {lo : Int} {n i : Nat} {p : PV} (h : (rngL lo n)[i]? = some p) : i < n ∧ p = .int (lo + (i : Nat)) := by
  have hi : i < (rngL lo n).length := (List.getElem?_eq_some_iff.mp h).1
  rw [rngL_len] at hi
  simp [rngL, List.getElem?_range hi] at h
  exact ⟨hi, h.symm⟩
theorem rngL_mem {lo : Int} {n : Nat} {p : PV} (h : p ∈ rngL lo n) : ∃ i : Nat, i < n ∧ p = .int (lo + (i : Nat)) := by
  simp [rngL] at h
  obtain ⟨i, hi, rfl⟩ := h
  exact ⟨i, hi, rfl⟩
/-- a comprehension whose turns leave the frame as it was -/
theorem lcD_pure {g : DG} {c : DT} {e : DE} {vs : List Nat} {ρ : En} (C : PV → Bool) (F : PV → PV) : ∀ {ps acc : List PV} {Q : List PV × En → Prop} {E : Ex → En → Prop},
    (∀ p ∈ ps, ∃ ρ1, g p ρ = some ρ1 ∧ (c ρ1).wp (fun x => x.1 = C p ∧ if C p = true then (e x.2).wp (fun y => y.1 = F p ∧ wipeE y.2 vs = ρ) noE else wipeE x.2 vs = ρ) noE) →
    Q (acc ++ (ps.filter C).map F, ρ) → (lcD g c e vs ps acc ρ).wp Q E
  | [], acc, Q, E, _, k => by simpa [lcD] using k
  | p :: ps, acc, Q, E, h, k => by
    obtain ⟨ρ1, e1, w⟩ := h p (List.mem_cons_self)
    obtain ⟨⟨b, ρ2⟩, e2, w2, w3⟩ := wp_ex w
    have hr : ∀ p ∈ ps, _ := fun q hq => h q (List.mem_cons_of_mem _ hq)
    unfold lcD
    rw [e1, R.of_some, R.bind_ok, e2, noExc_ok, R.bind_ok]
    dsimp only at w2 w3 ⊢
    subst w2
    cases hc : C p with
    | false =>
      rw [hc, if_neg (by decide)] at w3
      rw [if_neg (by decide), w3]
      exact lcD_pure C F hr (by simpa [hc] using k)
    | true =>
      rw [hc, if_pos rfl] at w3
      rw [if_pos rfl]
      obtain ⟨⟨q, ρ3⟩, e3, e4, e5⟩ := wp_ex w3
      dsimp only at e4 e5
      subst e4
      rw [e3, noExc_ok, R.bind_ok, e5]
      exact lcD_pure C F hr (by simpa [hc] using k)
theorem lcD_map {g : DG} {e : DE} {vs : List Nat} {ρ : En} (F : PV → PV) {ps acc : List PV} {Q : List PV × En → Prop} {E : Ex → En → Prop}
    (h : ∀ p ∈ ps, ∃ ρ1, g p ρ = some ρ1 ∧ (e ρ1).wp (fun y => y.1 = F p ∧ wipeE y.2 vs = ρ) noE) (k : Q (acc ++ ps.map F, ρ)) : (lcD g dYes e vs ps acc ρ).wp Q E := by
  refine lcD_pure (fun _ => true) F (fun p hp => ?_) (by rw [List.filter_eq_self.mpr (fun _ _ => rfl)]; exact k)
  obtain ⟨ρ1, e1, w⟩ := h p hp
  exact ⟨ρ1, e1, wpI ⟨rfl, by rw [if_pos rfl]; exact w⟩⟩
def setO (ρ : En) (v : Nat) : Option Slot → En
  | some s => ρ.set v s
  | none => ρ
@[simp] theorem setO_s {ρ : En} {v : Nat} {s : Slot} : setO ρ v (some s) = ρ.set v s := rfl
@[simp] theorem restE_nil {ρ0 ρ : En} : restE ρ0 ρ [] = ρ := rfl
@[simp] theorem restE_c {ρ0 ρ : En} {v : Nat} {vs : List Nat} : restE ρ0 ρ (v :: vs) = setO (restE ρ0 ρ vs) v ρ0[v]? := by
  rw [restE]
  unfold setO
  cases ρ0[v]? <;> rfl
theorem blsOf_map {α : Type} (f : α → Bool) : ∀ xs : List α, blsOf (xs.map fun x => .bl (f x)) = some (xs.map f)
  | [] => rfl
  | x :: xs => by simp [blsOf, blsOf_map f xs]
theorem pyAll_map {α : Type} (f : α → Bool) (xs : List α) : pyAll [.lst (xs.map fun x => .bl (f x))] = some (.bl (xs.all f)) := by
  simp [pyAll, blsOf_map, Function.comp_def]
theorem pyAny_map {α : Type} (f : α → Bool) (xs : List α) : pyAny [.lst (xs.map fun x => .bl (f x))] = some (.bl (xs.any f)) := by
  simp [pyAny, blsOf_map, Function.comp_def]
@[simp] theorem in_c {c : Nat} {z : Str} : pyIn (.str ⟨#[c]⟩) (.str z) = some (.bl (z.cps.toList.contains c)) := by
  simp [pyIn, inB, inS, Str.length]
/-! ### plain operations -/
section
variable {i j : Int} {x y : Str} {a b : List PV} {p q : PV}
@[simp] theorem add_i : pyAdd (.int i) (.int j) = some (.int (i + j)) := rfl
@[simp] theorem add_l : pyAdd (.lst a) (.lst b) = if a.length + b.length ≤ sizeLine then some (.lst (a ++ b)) else none := by
  simp only [pyAdd, fI, addS, addT, addL, Option.none_or]; split <;> rfl
@[simp] theorem addN_l : pyAddN (.lst a) (.lst b) = if a.length + b.length ≤ sizeLine then some (.lst (a ++ b)) else none := by
  simp only [pyAddN, addL]; split <;> rfl
@[simp] theorem add_t : pyAdd (.tup a) (.tup b) = if a.length + b.length ≤ sizeLine then some (.tup (a ++ b)) else none := by
  simp only [pyAdd, fI, addS, addT, addL, Option.none_or]; split <;> rfl
@[simp] theorem add_s : pyAdd (.str x) (.str y) = if x.length + y.length ≤ sizeLine then some (.str (x ++ y)) else none := by
  simp only [pyAdd, fI, addS, addT, addL, Option.none_or]; split <;> rfl
@[simp] theorem sub_i : pySub (.int i) (.int j) = some (.int (i - j)) := rfl
def mulOk (i j : Int) : Prop := i.natAbs.log2 + j.natAbs.log2 < 1000000
instance : Decidable (mulOk i j) := inferInstanceAs (Decidable (_ < _))
def divOk (j : Int) : Prop := j ≠ 0 ∧ j.natAbs.log2 < 9000
instance : Decidable (divOk j) := inferInstanceAs (Decidable (_ ∧ _))
def powOk (i j : Int) : Prop := 0 ≤ j ∧ (Builtin.Int.intBits i : Int) * j ≤ 2 ^ 27
instance : Decidable (powOk i j) := inferInstanceAs (Decidable (_ ∧ _))
@[simp] theorem mul_i : pyMul (.int i) (.int j) = if mulOk i j then some (.int (i * j)) else none := by
  simp only [pyMul, mulI, fIC, mulS, mulOk]
  by_cases h : i.natAbs.log2 + j.natAbs.log2 < 1000000 <;> simp [h]
def repS (x : Str) (n : Nat) : Str := ⟨(List.replicate n x.cps.toList).flatten.toArray⟩
@[simp] theorem repS_len {n : Nat} : (repS x n).length = n * x.length := by
  simp only [repS, Str.length, List.size_toArray, List.length_flatten]
  simp
@[simp] theorem add_len : (x ++ y).length = x.length + y.length := by
  show (x.cps ++ y.cps).size = _
  rw [Array.size_append]; rfl
@[simp] theorem mul_s : pyMul (.str x) (.int i) = if x.length * i.toNat ≤ sizeLine ∧ 0 ≤ i ∧ i ≤ sizeLine then some (.str (repS x i.toNat)) else none := by
  simp only [pyMul, mulI, fIC, mulS, Option.none_or, repS]
@[simp] theorem ix_s : pyIx (.str x) (.int i) = (atI x.cps.toList i).map fun c => .str ⟨#[c]⟩ := rfl
@[simp] theorem mulN_l : pyMulN (.lst a) (.int i) = if a.length * i.toNat ≤ sizeLine ∧ -(2 ^ 63) ≤ i ∧ i < 2 ^ 63 then some (.lst (List.replicate i.toNat a).flatten) else none := by
  show (mulL _ _).map OV.lst = _
  simp only [mulL]; split <;> rfl
@[simp] theorem append_f : fAppend a [p] = if a.length < sizeLine then some (.non, a ++ [p]) else none := rfl
@[simp] theorem mod_i : pyMod (.int i) (.int j) = if j ≠ 0 then some (.int (i.fmod j)) else none := by
  simp only [pyMod, fIC, decide_eq_true_eq]
@[simp] theorem div_i : pyDiv (.int i) (.int j) = if divOk j then some (.int (i.fdiv j)) else none := by
  simp only [pyDiv, fIC, decide_eq_true_eq]; by_cases h : j ≠ 0 ∧ j.natAbs.log2 < 9000 <;> simp [h, divOk]
@[simp] theorem pow_i : pyPow (.int i) (.int j) = if powOk i j then some (.int (i ^ j.toNat)) else none := by
  simp only [pyPow, fIC, decide_eq_true_eq]; by_cases h : 0 ≤ j ∧ (Builtin.Int.intBits i : Int) * j ≤ 2 ^ 27 <;> simp only [h, powOk, if_true, if_false, and_self]
theorem lg_of {i : Int} {k : Nat} (h : i.natAbs < 2 ^ k) : i.natAbs.log2 ≤ k := by
  by_cases z : i.natAbs = 0
  · rw [z]; simp
  · exact Nat.le_of_lt ((Nat.log2_lt z).mpr h)
theorem bits_of {i : Int} {k : Nat} (h : i.natAbs < 2 ^ k) : Builtin.Int.intBits i ≤ k := by
  unfold Builtin.Int.intBits
  split
  · omega
  · rename_i z
    have z' : i.natAbs ≠ 0 := by simpa using z
    exact (Nat.log2_lt z').mpr h
theorem mulOk_of (h1 : i.natAbs < 2 ^ 250) (h2 : j.natAbs < 2 ^ 250) : mulOk i j := by
  have := lg_of h1
  have := lg_of h2
  unfold mulOk
  omega
theorem divOk_of (h1 : 0 < j) (h2 : j.natAbs < 2 ^ 250) : divOk j := by
  have := lg_of h2
  exact ⟨by omega, by omega⟩
theorem powOk_of {n : Nat} (h1 : i.natAbs < 2 ^ 250) (h2 : n ≤ 100) : powOk i (n : Nat) := by
  have := bits_of h1
  refine ⟨by omega, ?_⟩
  have : Builtin.Int.intBits i * n ≤ 250 * 100 := Nat.mul_le_mul this h2
  have : ((Builtin.Int.intBits i * n : Nat) : Int) ≤ 100000 := by omega
  rw [Int.natCast_mul] at this
  omega
@[simp] theorem lt_i : pyLt (.int i) (.int j) = some (.bl (decide (i < j))) := rfl
@[simp] theorem le_i : pyLe (.int i) (.int j) = some (.bl (decide (i ≤ j))) := rfl
@[simp] theorem gt_i : pyGt (.int i) (.int j) = some (.bl (decide (j < i))) := rfl
@[simp] theorem ge_i : pyGe (.int i) (.int j) = some (.bl (decide (j ≤ i))) := rfl
theorem eqB_of (hp : noD p = true) (hq : noD q = true) (h : dep p ≤ 64 ∨ dep q ≤ 64) : pyEqB p q = some (eqP p q) := by
  unfold pyEqB
  rw [if_pos ⟨hp, hq, by omega⟩]
@[simp] theorem eq_i : pyEq (.int i) (.int j) = some (.bl (decide (i = j))) := by
  unfold pyEq; rw [eqB_of rfl rfl (.inl (by simp [dep]))]; simp [eqP]; rfl
@[simp] theorem eq_s : pyEq (.str x) (.str y) = some (.bl (decide (x = y))) := by
  unfold pyEq; rw [eqB_of rfl rfl (.inl (by simp [dep]))]; simp [eqP]; rfl
@[simp] theorem ne_i : pyNe (.int i) (.int j) = some (.bl (decide (i ≠ j))) := by
  unfold pyNe; rw [eqB_of rfl rfl (.inl (by simp [dep]))]; simp [eqP]; rfl
@[simp] theorem ne_s : pyNe (.str x) (.str y) = some (.bl (decide (x ≠ y))) := by
  unfold pyNe; rw [eqB_of rfl rfl (.inl (by simp [dep]))]; simp [eqP]; rfl
@[simp] theorem ix_l : pyIx (.lst a) (.int i) = atI a i := rfl
@[simp] theorem ix_t : pyIx (.tup a) (.int i) = atI a i := rfl
@[simp] theorem len_l : pyLen [.lst a] = some (.int a.length) := rfl
@[simp] theorem len_t : pyLen [.tup a] = some (.int a.length) := rfl
@[simp] theorem len_s : pyLen [.str x] = some (.int x.length) := rfl
@[simp] theorem abs_i : pyAbs [.int i] = some (.int (if i < 0 then -i else i)) := rfl
@[simp] theorem int_i : pyInt [.int i] = some (.int i) := rfl
@[simp] theorem int_b {b : Bool} : pyInt [.bl b] = some (.int (if b then 1 else 0)) := rfl
@[simp] theorem max_i : pyMax2 [.int i, .int j] = some (.int (if j > i then j else i)) := rfl
@[simp] theorem min_i : pyMin2 [.int i, .int j] = some (.int (if j < i then j else i)) := rfl
@[simp] theorem rng1_i : rng1 [.int i] = if i ≤ sizeLine ∧ -(2 ^ 62) ≤ i then some (rngL 0 i.toNat) else none := rfl
@[simp] theorem isi_non_int : pyIsi [.non, .ty "int"] = some (.bl false) := rfl
@[simp] theorem isi_non_bool : pyIsi [.non, .ty "bool"] = some (.bl false) := rfl
@[simp] theorem isi_non_str : pyIsi [.non, .ty "str"] = some (.bl false) := rfl
@[simp] theorem isi_non_tuple : pyIsi [.non, .ty "tuple"] = some (.bl false) := rfl
@[simp] theorem isi_non_list : pyIsi [.non, .ty "list"] = some (.bl false) := rfl
@[simp] theorem isiT_non : pyIsiT [.non, .tup [.ty "list", .ty "tuple"]] = some (.bl false) := rfl
@[simp] theorem isN_non : isNon .non = true := rfl
@[simp] theorem isi_bl_int {t : Bool} : pyIsi [(.bl t), .ty "int"] = some (.bl true) := rfl
@[simp] theorem isi_bl_bool {t : Bool} : pyIsi [(.bl t), .ty "bool"] = some (.bl true) := rfl
@[simp] theorem isi_bl_str {t : Bool} : pyIsi [(.bl t), .ty "str"] = some (.bl false) := rfl
@[simp] theorem isi_bl_tuple {t : Bool} : pyIsi [(.bl t), .ty "tuple"] = some (.bl false) := rfl
@[simp] theorem isi_bl_list {t : Bool} : pyIsi [(.bl t), .ty "list"] = some (.bl false) := rfl
@[simp] theorem isiT_bl {t : Bool} : pyIsiT [(.bl t), .tup [.ty "list", .ty "tuple"]] = some (.bl false) := rfl
@[simp] theorem isN_bl {t : Bool} : isNon (.bl t) = false := rfl
@[simp] theorem isi_int_int : pyIsi [(.int i), .ty "int"] = some (.bl true) := rfl
@[simp] theorem isi_int_bool : pyIsi [(.int i), .ty "bool"] = some (.bl false) := rfl
@[simp] theorem isi_int_str : pyIsi [(.int i), .ty "str"] = some (.bl false) := rfl
@[simp] theorem isi_int_tuple : pyIsi [(.int i), .ty "tuple"] = some (.bl false) := rfl
@[simp] theorem isi_int_list : pyIsi [(.int i), .ty "list"] = some (.bl false) := rfl
@[simp] theorem isiT_int : pyIsiT [(.int i), .tup [.ty "list", .ty "tuple"]] = some (.bl false) := rfl
@[simp] theorem isN_int : isNon (.int i) = false := rfl
@[simp] theorem isi_str_int : pyIsi [(.str x), .ty "int"] = some (.bl false) := rfl
@[simp] theorem isi_str_bool : pyIsi [(.str x), .ty "bool"] = some (.bl false) := rfl
@[simp] theorem isi_str_str : pyIsi [(.str x), .ty "str"] = some (.bl true) := rfl
@[simp] theorem isi_str_tuple : pyIsi [(.str x), .ty "tuple"] = some (.bl false) := rfl
@[simp] theorem isi_str_list : pyIsi [(.str x), .ty "list"] = some (.bl false) := rfl
@[simp] theorem isiT_str : pyIsiT [(.str x), .tup [.ty "list", .ty "tuple"]] = some (.bl false) := rfl
@[simp] theorem isN_str : isNon (.str x) = false := rfl
@[simp] theorem isi_tup_int : pyIsi [(.tup a), .ty "int"] = some (.bl false) := rfl
@[simp] theorem isi_tup_bool : pyIsi [(.tup a), .ty "bool"] = some (.bl false) := rfl
@[simp] theorem isi_tup_str : pyIsi [(.tup a), .ty "str"] = some (.bl false) := rfl
@[simp] theorem isi_tup_tuple : pyIsi [(.tup a), .ty "tuple"] = some (.bl true) := rfl
@[simp] theorem isi_tup_list : pyIsi [(.tup a), .ty "list"] = some (.bl false) := rfl
@[simp] theorem isiT_tup : pyIsiT [(.tup a), .tup [.ty "list", .ty "tuple"]] = some (.bl true) := rfl
@[simp] theorem isN_tup : isNon (.tup a) = false := rfl
@[simp] theorem isi_lst_int : pyIsi [(.lst a), .ty "int"] = some (.bl false) := rfl
@[simp] theorem isi_lst_bool : pyIsi [(.lst a), .ty "bool"] = some (.bl false) := rfl
@[simp] theorem isi_lst_str : pyIsi [(.lst a), .ty "str"] = some (.bl false) := rfl
@[simp] theorem isi_lst_tuple : pyIsi [(.lst a), .ty "tuple"] = some (.bl false) := rfl
@[simp] theorem isi_lst_list : pyIsi [(.lst a), .ty "list"] = some (.bl true) := rfl
@[simp] theorem isiT_lst : pyIsiT [(.lst a), .tup [.ty "list", .ty "tuple"]] = some (.bl true) := rfl
@[simp] theorem isN_lst : isNon (.lst a) = false := rfl
@[simp] theorem is_n : pyIs p .non = some (.bl (isNon p)) := by cases p <;> rfl
@[simp] theorem isN_n : pyIsNot p .non = some (.bl !isNon p) := by cases p <;> rfl
theorem eqP_str : eqP p (.str x) = true ↔ p = .str x := by cases p <;> simp [eqP]
@[simp] theorem noD_str : noD (.str x) = true := rfl
@[simp] theorem noD_int : noD (.int i) = true := rfl
@[simp] theorem noD_bl {b : Bool} : noD (.bl b) = true := rfl
@[simp] theorem noD_non : noD .non = true := rfl
@[simp] theorem dep_str : dep (.str x) = 0 := by simp [dep]
@[simp] theorem dep_int : dep (.int i) = 0 := by simp [dep]
@[simp] theorem noD_tup : noD (.tup a) = noDs a := rfl
@[simp] theorem noD_lst : noD (.lst a) = noDs a := rfl
@[simp] theorem noDs_nil : noDs [] = true := rfl
@[simp] theorem noDs_cons : noDs (p :: a) = (noD p && noDs a) := rfl
@[simp] theorem eq_ps (h : noD p = true) : pyEq p (.str x) = some (.bl (eqP p (.str x))) := by
  unfold pyEq; rw [eqB_of h rfl (.inr (by simp))]; rfl
@[simp] theorem cut_t {α : Type} {xs : List α} {k : Int} (h : 0 ≤ k) : cutL xs none (some k) = xs.take k.toNat := by
  unfold cutL
  have e1 : HT.sIx xs.length 0 none = 0 := rfl
  have e2 : HT.sIx xs.length xs.length (some k) = min k.toNat xs.length := by
    show (if k < 0 then (k + (xs.length : Int)).toNat else min k.toNat xs.length) = _
    rw [if_neg (by omega)]
  rw [e1, e2, List.drop_zero, Nat.sub_zero, List.take_eq_take_iff]
  omega
@[simp] theorem cut_d {α : Type} {xs : List α} {k : Int} (h : 0 ≤ k) : cutL xs (some k) none = xs.drop k.toNat := by
  unfold cutL
  have e1 : HT.sIx xs.length xs.length none = xs.length := rfl
  have e2 : HT.sIx xs.length 0 (some k) = min k.toNat xs.length := by
    show (if k < 0 then (k + (xs.length : Int)).toNat else min k.toNat xs.length) = _
    rw [if_neg (by omega)]
  rw [e1, e2]
  by_cases c : k.toNat ≤ xs.length
  · rw [Nat.min_eq_left c, List.take_of_length_le (by simp)]
  · rw [Nat.min_eq_right (by omega), List.drop_of_length_le (by omega), List.drop_of_length_le (by omega)]; simp
@[simp] theorem cut_t1 {α : Type} {xs : List α} : cutL xs none (some 1) = xs.take 1 := cut_t (by decide)
@[simp] theorem cut_d1 {α : Type} {xs : List α} : cutL xs (some 1) none = xs.drop 1 := cut_d (by decide)
@[simp] theorem sl_l {lo hi : Option Int} : pySl (.lst a) lo hi = some (.lst (cutL a lo hi)) := rfl
@[simp] theorem sl_t {lo hi : Option Int} : pySl (.tup a) lo hi = some (.tup (cutL a lo hi)) := rfl
@[simp] theorem slN_l {lo hi : Option Int} : slN (.lst a) lo hi = some (.lst (cutL a lo hi)) := rfl
@[simp] theorem tup_l : pyTuple [.lst a] = some (.tup a) := rfl
@[simp] theorem tup_t : pyTuple [.tup a] = some (.tup a) := rfl
@[simp] theorem lstO_l : listO [.lst a] = some (.lst a) := rfl
@[simp] theorem lstO_t : listO [.tup a] = some (.lst a) := rfl
theorem noDs_strs : ∀ xs : List Str, noDs (xs.map PV.str) = true
  | [] => rfl
  | x :: xs => by simp [noDs_strs xs]
@[simp] theorem noDs_strs' {xs : List Str} : noDs (xs.map PV.str) = true := noDs_strs xs
theorem dep_strs : ∀ xs : List Str, deps (xs.map PV.str) = 0
  | [] => rfl
  | x :: xs => by simp [deps, dep_strs xs]
@[simp] theorem eq_strs0 {xs : List Str} : pyEq (.lst (xs.map PV.str)) (.lst []) = some (.bl (decide (xs = []))) := by
  unfold pyEq
  rw [eqB_of (by simp) rfl (.inr (by decide))]
  cases xs <;> simp [eqP, eqPs]
@[simp] theorem inP_nil : inP p [] = false := rfl
@[simp] theorem inP_cons : inP p (q :: a) = (eqP q p || inP p a) := rfl
@[simp] theorem eqP_ii : eqP (.int i) (.int j) = decide (i = j) := by simp [eqP]; rfl
@[simp] theorem eqP_ss : eqP (.str x) (.str y) = decide (x = y) := by simp [eqP]; rfl
@[simp] theorem notIn_it (h : noDs a = true) : pyNotIn (.int i) (.tup a) = some (.bl !inP (.int i) a) := by
  simp [pyNotIn, inB, h]
@[simp] theorem notIn_st (h : noDs a = true) : pyNotIn (.str x) (.tup a) = some (.bl !inP (.str x) a) := by
  simp [pyNotIn, inB, h]
@[simp] theorem notIn_il (h : noDs a = true) : pyNotIn (.int i) (.lst a) = some (.bl !inP (.int i) a) := by
  simp [pyNotIn, inB, h]
@[simp] theorem notIn_sl (h : noDs a = true) : pyNotIn (.str x) (.lst a) = some (.bl !inP (.str x) a) := by
  simp [pyNotIn, inB, h]
@[simp] theorem in_it (h : noDs a = true) : pyIn (.int i) (.tup a) = some (.bl (inP (.int i) a)) := by
  simp [pyIn, inB, h]
@[simp] theorem in_st (h : noDs a = true) : pyIn (.str x) (.tup a) = some (.bl (inP (.str x) a)) := by
  simp [pyIn, inB, h]
@[simp] theorem in_il (h : noDs a = true) : pyIn (.int i) (.lst a) = some (.bl (inP (.int i) a)) := by
  simp [pyIn, inB, h]
@[simp] theorem in_sl (h : noDs a = true) : pyIn (.str x) (.lst a) = some (.bl (inP (.str x) a)) := by
  simp [pyIn, inB, h]
theorem atI_nat {α : Type} {xs : List α} {k : Nat} {v : α} (h : xs[k]? = some v) : atI xs (k : Int) = some v := by
  have hk : k < xs.length := (List.getElem?_eq_some_iff.mp h).1
  unfold atI ixN
  rw [if_pos (by omega), if_pos (by omega)]
  simpa using h
@[simp] theorem atI_0 {α : Type} {x : α} {xs : List α} : atI (x :: xs) 0 = some x := atI_nat (k := 0) rfl
@[simp] theorem atI_1 {α : Type} {x y : α} {xs : List α} : atI (x :: y :: xs) 1 = some y := atI_nat (k := 1) rfl
@[simp] theorem atI_2 {α : Type} {x y z : α} {xs : List α} : atI (x :: y :: z :: xs) 2 = some z := atI_nat (k := 2) rfl
@[simp] theorem gN_c {k : Nat} {s : Slot} {ρ : En} : gN k p (s :: ρ) = some ((s :: ρ).set k (.val p)) := rfl
@[simp] theorem gT_t {gs : DGs} {ρ : En} : gT gs (.tup a) ρ = gs a ρ := rfl
@[simp] theorem gLen_n {n : Nat} {gs : DGs} {ρ : En} : gLen n gs a ρ = if a.length = n then gs a ρ else none := rfl
@[simp] theorem gS0_n {ρ : En} : gS0 [] ρ = some ρ := rfl
@[simp] theorem gS_c {g : DG} {gs : DGs} {ρ : En} : gS g gs (p :: a) ρ = (g p ρ).bind (gs a) := rfl
@[simp] theorem setAll_nil {ρ : En} : setAll [] ρ = ρ := rfl
@[simp] theorem setAll_c {k : Nat} {s : Slot} {r : List (Nat × Slot)} {ρ : En} : setAll ((k, s) :: r) ρ = setAll r (ρ.set k s) := rfl
@[simp] theorem wipeE_nil {ρ : En} : wipeE ρ [] = ρ := rfl
@[simp] theorem wipeE_c {ρ : En} {v : Nat} {vs : List Nat} : wipeE ρ (v :: vs) = (wipeE ρ vs).set v .emp := rfl
end
end VL
namespace VL
open PySem PySem.Spec L2
set_option maxHeartbeats 2000000
abbrev k_SIGNS : PV := (PV.tup [(PV.str "+"), (PV.str "-"), (PV.str "*")])
abbrev k_LETTERS : PV := (PV.str "abcdefghijklmnopqrstuvwxyz")
abbrev k_MOST_NODES : PV := (PV.int 40)
abbrev k_MOST_DEPTH : PV := (PV.int 10)
abbrev k_MOST_DEGREE : PV := (PV.int 8)
def b_is_integer : DS :=
  dRet (dAndV (dCB pyIsi (dOs (dON 0) (dOs (dOV (dC (.ty "int"))) (dO0)))) (dNotV (dCB pyIsi (dOs (dON 0) (dOs (dOV (dC (.ty "bool"))) (dO0))))))
def d_is_integer : DF := dFn 1 [false] b_is_integer
def b_is_number : DS :=
  dRet (dAndV (dCallE d_is_integer (dOs (dOV (dN 0)) (dO0))) (opnd2 pyLt (dOV (dCB pyAbs (dOs (dON 0) (dO0)))) (dOV (opnd2 pyPow (dOV (dC (.int 10))) (dOV (dC (.int 40)))))))
def d_is_number : DF := dFn 1 [false] b_is_number
def b_is_name : DS :=
  dSeq (dIf (dOr (dNot (dTst (dCB pyIsi (dOs (dON 0) (dOs (dOV (dC (.ty "str"))) (dO0)))))) (dNot (dTst (dChain pyLe pyLe (dOV (dC (.int 1))) (dOV (dCB pyLen (dOs (dON 0) (dO0)))) (dOV (dC (.int 8)))))))
    (dRet (dC (.bl false)))
    (dNil))
  (dRet (dCB pyAll (dOs (dOV (dFz (dLc (dSeqOf (dN 0)) (gN 1) (dYes) (opnd2 pyIn (dON 1) (dOV (dC k_LETTERS))) [1]))) (dO0))))
def d_is_name : DF := dFn 2 [false] b_is_name
def b_measured (self : DF) : DS :=
  dSeq (dIf (dOr (dTst (opnd2 pyEq (dON 1) (dOV (dC (.int 0))))) (dOr (dNot (dTst (dCB pyIsi (dOs (dON 0) (dOs (dOV (dC (.ty "tuple"))) (dO0)))))) (dTst (opnd2 pyNotIn (dOV (dCB pyLen (dOs (dON 0) (dO0)))) (dOV (dTup (dA (dC (.int 2)) (dA (dC (.int 3)) (dA0)))))))))
    (dRet (dC .non))
    (dNil))
  (dSeq (dIf (dTst (opnd2 pyEq (dOV (dCB pyLen (dOs (dON 0) (dO0)))) (dOV (dC (.int 2)))))
    (dSeq (dIf (dAnd (dTst (opnd2 pyEq (dOV (opnd2 pyIx (dON 0) (dOV (dC (.int 0))))) (dOV (dC (.str ("num" : Str)))))) (dTst (dCallE d_is_number (dOs (dOV (opnd2 pyIx (dON 0) (dOV (dC (.int 1))))) (dO0)))))
    (dRet (dTup (dA (dC (.int 1)) (dA (dC (.int 1)) (dA (dC (.int 0)) (dA0))))))
    (dNil))
  (dSeq (dIf (dAnd (dTst (opnd2 pyEq (dOV (opnd2 pyIx (dON 0) (dOV (dC (.int 0))))) (dOV (dC (.str ("cell" : Str)))))) (dTst (dCallE d_is_name (dOs (dOV (opnd2 pyIx (dON 0) (dOV (dC (.int 1))))) (dO0)))))
    (dRet (dTup (dA (dC (.int 1)) (dA (dC (.int 1)) (dA (dC (.int 1)) (dA0))))))
    (dNil))
  (dRet (dC .non))))
    (dNil))
  (dSeq (dIf (dTst (opnd2 pyNotIn (dOV (opnd2 pyIx (dON 0) (dOV (dC (.int 0))))) (dOV (dC k_SIGNS))))
    (dRet (dC .non))
    (dNil))
  (dSeq (dSet 2 (dCallE self (dOs (dOV (opnd2 pyIx (dON 0) (dOV (dC (.int 1))))) (dOs (dOV (opnd2 pySub (dON 1) (dOV (dC (.int 1))))) (dO0)))))
  (dSeq (dSet 3 (dCallE self (dOs (dOV (opnd2 pyIx (dON 0) (dOV (dC (.int 2))))) (dOs (dOV (opnd2 pySub (dON 1) (dOV (dC (.int 1))))) (dO0)))))
  (dSeq (dIf (dOr (dTst (opnd2 pyIs (dON 2) (dOV (dC .non)))) (dTst (opnd2 pyIs (dON 3) (dOV (dC .non)))))
    (dRet (dC .non))
    (dNil))
  (dSeq (dSet 4 (dCB pyMax2 (dOs (dOV (opnd2 pyIx (dON 2) (dOV (dC (.int 2))))) (dOs (dOV (opnd2 pyIx (dON 3) (dOV (dC (.int 2))))) (dO0)))))
  (dSeq (dIf (dTst (opnd2 pyEq (dOV (opnd2 pyIx (dON 0) (dOV (dC (.int 0))))) (dOV (dC (.str ("*" : Str))))))
    (dSet 4 (opnd2 pyAdd (dOV (opnd2 pyIx (dON 2) (dOV (dC (.int 2))))) (dOV (opnd2 pyIx (dON 3) (dOV (dC (.int 2)))))))
    (dNil))
  (dRet (dTup (dA (opnd2 pyAdd (dOV (opnd2 pyAdd (dOV (opnd2 pyIx (dON 2) (dOV (dC (.int 0))))) (dOV (opnd2 pyIx (dON 3) (dOV (dC (.int 0))))))) (dOV (dC (.int 1)))) (dA (opnd2 pyAdd (dOV (dCB pyMax2 (dOs (dOV (opnd2 pyIx (dON 2) (dOV (dC (.int 1))))) (dOs (dOV (opnd2 pyIx (dON 3) (dOV (dC (.int 1))))) (dO0))))) (dOV (dC (.int 1)))) (dA (dN 4) (dA0)))))))))))))
def d_measured : Nat → DF
  | 0 => fun _ => .stuck
  | n + 1 => dFn 5 [false, false] (b_measured (d_measured n))
def b_is_formula : DS :=
  dSeq (dSet 1 (dCallE (d_measured 12) (dOs (dOV (dN 0)) (dOs (dOV (dC k_MOST_DEPTH)) (dO0)))))
  (dRet (dAndV (opnd2 pyIsNot (dON 1) (dOV (dC .non))) (dAndV (opnd2 pyLe (dOV (opnd2 pyIx (dON 1) (dOV (dC (.int 0))))) (dOV (dC k_MOST_NODES))) (opnd2 pyLe (dOV (opnd2 pyIx (dON 1) (dOV (dC (.int 2))))) (dOV (dC k_MOST_DEGREE))))))
def d_is_formula : DF := dFn 2 [false] b_is_formula
def b__law_source : DS :=
  dSeq (dIf (dTst (opnd2 pyGe (dON 0) (dOV (opnd2 pyPow (dOV (dC (.int 10))) (dOV (dC (.int 18)))))))
    (dRetN' (pinsOf 0 [false, false]) (dLst (dA (opnd2 pySub (dON 0) (dOV (opnd2 pyPow (dOV (dC (.int 10))) (dOV (dC (.int 18)))))) (dA (opnd2 pyMod (dOV (dCB pyInt (dOs (dON 0) (dO0)))) (dOV (dC (.int 2147483579)))) (dA (dN 1) (dA0))))))
    (dNil))
  (dRetN' (pinsOf 0 [false, false]) (dLst (dA (dC (.int 0)) (dA (opnd2 pyMod (dOV (dCB pyInt (dOs (dON 0) (dO0)))) (dOV (dC (.int 2147483579)))) (dA (dN 1) (dA0))))))
def d__law_source : DF := dFn 2 [false, false] b__law_source
def b__law_draw : DS :=
  dSeq (dIf (dTst (opnd2 pyGt (dOV (opnd2 pyIx (dON 0) (dOV (dC (.int 0))))) (dOV (dC (.int 1)))))
    (dSeq (dSet 2 (opnd2 pyMod (dOV (dCB pyInt (dOs (dOV (opnd2 pyIx (dON 0) (dOV (dC (.int 0))))) (dO0)))) (dON 1)))
  (dSeq (dSetIx 0 (opnd2 pyDiv (dOV (opnd2 pyIx (dON 0) (dOV (dC (.int 0))))) (dON 1)) (dC (.int 0)))
  (dRet (dN 2))))
    (dNil))
  (dSeq (dSetIx 0 (opnd2 pyAdd (dOV (opnd2 pyIx (dON 0) (dOV (dC (.int 2))))) (dOV (dC (.int 1)))) (dC (.int 2)))
  (dSeq (dSet 3 (opnd2 pyMod (dOV (dCB pyInt (dOs (dOV (opnd2 pyPow (dOV (opnd2 pyAdd (dOV (opnd2 pyIx (dON 0) (dOV (dC (.int 1))))) (dOV (opnd2 pyMul (dOV (dC (.int 15485867))) (dOV (opnd2 pyIx (dON 0) (dOV (dC (.int 2))))))))) (dOV (dC (.int 5))))) (dO0)))) (dOV (dC (.int 2147483647)))))
  (dSeq (dSet 2 (opnd2 pyDiv (dOV (opnd2 pyMod (dOV (dCB pyInt (dOs (dOV (opnd2 pyPow (dOV (opnd2 pyAdd (dON 3) (dOV (opnd2 pyMul (dOV (dC (.int 7919))) (dOV (opnd2 pyIx (dON 0) (dOV (dC (.int 2))))))))) (dOV (dC (.int 3))))) (dO0)))) (dOV (dC (.int 2147483629))))) (dOV (dC (.int 32)))))
  (dRet (opnd2 pyMod (dOV (dCB pyInt (dOs (dON 2) (dO0)))) (dON 1))))))
def d__law_draw : DF := dFn 4 [true, false] b__law_draw
def b__law_choice : DS :=
  dRet (opnd2 pyIx (dON 1) (dOV (dCallE d__law_draw (dOs (dON 0) (dOs (dOV (dCB pyLen (dOs (dON 1) (dO0)))) (dO0))))))
def d__law_choice : DF := dFn 2 [true, false] b__law_choice
def b__law_equal (self : DF) : DS :=
  dSeq (dIf (dOr (dTst (dCB pyIsi (dOs (dON 1) (dOs (dOV (dC (.ty "bool"))) (dO0))))) (dTst (dCB pyIsi (dOs (dON 0) (dOs (dOV (dC (.ty "bool"))) (dO0))))))
    (dRet (dAndV (dCB pyIsi (dOs (dON 1) (dOs (dOV (dC (.ty "bool"))) (dO0)))) (dAndV (dCB pyIsi (dOs (dON 0) (dOs (dOV (dC (.ty "bool"))) (dO0)))) (opnd2 pyEq (dON 1) (dON 0)))))
    (dNil))
  (dSeq (dIf (dOr (dTst (opnd2 pyIs (dON 1) (dOV (dC .non)))) (dTst (opnd2 pyIs (dON 0) (dOV (dC .non)))))
    (dRet (dAndV (opnd2 pyIs (dON 1) (dOV (dC .non))) (opnd2 pyIs (dON 0) (dOV (dC .non)))))
    (dNil))
  (dSeq (dIf (dTst (dCB pyIsiT (dOs (dON 1) (dOs (dOV (dTup (dA (dC (.ty "list")) (dA (dC (.ty "tuple")) (dA0))))) (dO0)))))
    (dSeq (dIf (dOr (dNot (dTst (dCB pyIsiT (dOs (dON 0) (dOs (dOV (dTup (dA (dC (.ty "list")) (dA (dC (.ty "tuple")) (dA0))))) (dO0)))))) (dTst (opnd2 pyNe (dOV (dCB pyLen (dOs (dON 0) (dO0)))) (dOV (dCB pyLen (dOs (dON 1) (dO0)))))))
    (dRet (dC (.bl false)))
    (dNil))
  (dSeq (dIf (dTst (opnd2 pyNe (dOV (dCB pyIsi (dOs (dON 1) (dOs (dOV (dC (.ty "list"))) (dO0))))) (dOV (dCB pyIsi (dOs (dON 0) (dOs (dOV (dC (.ty "list"))) (dO0)))))))
    (dRet (dC (.bl false)))
    (dNil))
  (dRet (dCB pyAll (dOs (dOV (dFz (dLc (dCB rng1 (dOs (dOV (dCB pyLen (dOs (dON 1) (dO0)))) (dO0))) (gN 2) (dYes) (dCallE self (dOs (dOV (opnd2 pyIx (dON 0) (dON 2))) (dOs (dOV (opnd2 pyIx (dON 1) (dON 2))) (dO0)))) [2]))) (dO0))))))
    (dNil))
  (dSeq (dIf (dTst (dCB pyIsi (dOs (dON 1) (dOs (dOV (dC (.ty "str"))) (dO0)))))
    (dRet (dAndV (dCB pyIsi (dOs (dON 0) (dOs (dOV (dC (.ty "str"))) (dO0)))) (opnd2 pyEq (dON 0) (dON 1))))
    (dNil))
  (dRet (dAndV (dCB pyIsi (dOs (dON 0) (dOs (dOV (dC (.ty "int"))) (dO0)))) (opnd2 pyEq (dON 0) (dON 1)))))))
def d__law_equal : Nat → DF
  | 0 => fun _ => .stuck
  | n + 1 => dFn 3 [false, false] (b__law_equal (d__law_equal n))
def b__law_names : DS :=
  dSeq (dSet 2 (dC (.str ("abcdefghijklmnopqrstuvwxyz" : Str))))
  (dSeq (dPar [3, 4, 5] (dSlV (dCallE d__law_draw (dOs (dON 0) (dOs (dOV (dC (.int 4))) (dO0)))) (dSlV (dCallE d__law_draw (dOs (dON 0) (dOs (dOV (dC (.int 26))) (dO0)))) (dSlV (dCallE d__law_draw (dOs (dON 0) (dOs (dOV (dC (.int 8))) (dO0)))) (dSl0)))))
  (dSeq (dSet 6 (dFz (dLst (dA (dC (.str ("now" : Str))) (dA (dC (.str ("show" : Str))) (dA (dC (.str ("make" : Str))) (dA (dC (.str ("cell" : Str))) (dA (dC (.str ("num" : Str))) (dA (dC (.str ("made" : Str))) (dA (dC (.str ("input" : Str))) (dA (dC (.str ("set" : Str))) (dA0))))))))))))
  (dSeq (dSetN 7 (dLst (dA0)))
  (dSeq (dFor (dCB rng1 (dOs (dON 1) (dO0))) (gN 8)
    (dSeq (dSet 9 (opnd2 pyIx (dON 2) (dOV (opnd2 pyMod (dOV (dCB pyInt (dOs (dOV (opnd2 pyAdd (dON 4) (dOV (opnd2 pyMul (dOV (dC (.int 7))) (dON 8))))) (dO0)))) (dOV (dC (.int 26)))))))
  (dSeq (dSet 10 (dFz (dLst (dA (dN 9) (dA (opnd2 pyAdd (dOV (opnd2 pyAdd (dOV (opnd2 pyMul (dOV (dC (.str ("q" : Str)))) (dON 5))) (dON 9))) (dOV (opnd2 pyMul (dOV (dC (.str ("q" : Str)))) (dOV (opnd2 pySub (dOV (dC (.int 7))) (dON 5)))))) (dA (opnd2 pyMul (dOV (opnd2 pyIx (dON 2) (dON 4))) (dOV (opnd2 pyAdd (dOV (dC (.int 1))) (dOV (opnd2 pyMod (dOV (dCB pyInt (dOs (dOV (opnd2 pyAdd (dON 5) (dOV (opnd2 pyMul (dOV (dC (.int 3))) (dON 8))))) (dO0)))) (dOV (dC (.int 8)))))))) (dA0)))))))
  (dDrop (dMt fAppend 7 (dA (opnd2 pyIx (dOV (opnd2 pyAdd (dON 10) (dOV (dFz (dLst (dA (opnd2 pyIx (dON 6) (dOV (opnd2 pyMod (dOV (dCB pyInt (dOs (dOV (opnd2 pyAdd (dON 5) (dOV (opnd2 pyMul (dOV (dC (.int 3))) (dON 8))))) (dO0)))) (dOV (dC (.int 8)))))) (dA0))))))) (dON 3)) (dA0)))))))
  (dRet (dN 7))))))
def d__law_names : DF := dFn 11 [true, false] b__law_names
def b__law_small : DS :=
  dRet (opnd2 pySub (dOV (dCallE d__law_draw (dOs (dON 0) (dOs (dOV (dC (.int 9))) (dO0))))) (dOV (dC (.int 4))))
def d__law_small : DF := dFn 1 [true] b__law_small
def b__law_leaf : DS :=
  dSeq (dIf (dOr (dTst (opnd2 pyEq (dON 2) (dOV (dC (.int 0))))) (dOr (dTst (opnd2 pyEq (dON 1) (dOV (dFz (dLst (dA0)))))) (dTst (opnd2 pyEq (dOV (dCallE d__law_draw (dOs (dON 0) (dOs (dOV (dC (.int 4))) (dO0))))) (dOV (dC (.int 0)))))))
    (dRet (dTup (dA (dC (.str ("num" : Str))) (dA (dCallE d__law_small (dOs (dON 0) (dO0))) (dA0)))))
    (dNil))
  (dRet (dTup (dA (dC (.str ("cell" : Str))) (dA (dCallE d__law_choice (dOs (dON 0) (dOs (dOV (dN 1)) (dO0)))) (dA0)))))
def d__law_leaf : DF := dFn 3 [true, false, false] b__law_leaf
def b__law_tree (self : DF) : DS :=
  dSeq (dIf (dTst (opnd2 pyEq (dON 2) (dOV (dC (.int 0)))))
    (dRet (dCallE d__law_leaf (dOs (dON 0) (dOs (dOV (dN 1)) (dOs (dOV (dN 3)) (dO0))))))
    (dNil))
  (dSeq (dSet 4 (dCallE d__law_choice (dOs (dON 0) (dOs (dOV (dFz (dLst (dA (dC (.str ("+" : Str))) (dA (dC (.str ("-" : Str))) (dA (dC (.str ("*" : Str))) (dA0))))))) (dO0)))))
  (dSeq (dPar [5, 6] (dSlV (dN 3) (dSlV (dCallE d__law_draw (dOs (dON 0) (dOs (dOV (dN 2)) (dO0)))) (dSl0))))
  (dSeq (dIf (dTst (opnd2 pyGt (dON 2) (dOV (dC (.int 8)))))
    (dSet 6 (opnd2 pyDiv (dOV (opnd2 pySub (dON 2) (dOV (dC (.int 1))))) (dOV (dC (.int 2)))))
    (dNil))
  (dSeq (dIf (dTst (opnd2 pyEq (dON 4) (dOV (dC (.str ("*" : Str))))))
    (dSet 5 (dCallE d__law_draw (dOs (dON 0) (dOs (dOV (opnd2 pyAdd (dON 3) (dOV (dC (.int 1))))) (dO0)))))
    (dNil))
  (dSeq (dSet 7 (dIfE (dTst (opnd2 pyEq (dON 4) (dOV (dC (.str ("*" : Str)))))) (opnd2 pySub (dON 3) (dON 5)) (dN 3)))
  (dSeq (dSet 8 (dCallE self (dOs (dON 0) (dOs (dOV (dN 1)) (dOs (dOV (dN 6)) (dOs (dOV (dN 5)) (dO0)))))))
  (dRet (dTup (dA (dN 4) (dA (dN 8) (dA (dCallE self (dOs (dON 0) (dOs (dOV (dN 1)) (dOs (dOV (opnd2 pySub (dOV (opnd2 pySub (dON 2) (dOV (dC (.int 1))))) (dON 6))) (dOs (dOV (dN 7)) (dO0)))))) (dA0))))))))))))
def d__law_tree : Nat → DF
  | 0 => fun _ => .stuck
  | n + 1 => dFn 9 [true, false, false, false] (b__law_tree (d__law_tree n))
def b__law_formula : DS :=
  dSeq (dIf (dTst (opnd2 pyEq (dOV (dCallE d__law_draw (dOs (dON 0) (dOs (dOV (dC (.int 9))) (dO0))))) (dOV (dC (.int 0)))))
    (dRet (dCallE (d__law_tree 20) (dOs (dON 0) (dOs (dOV (dN 1)) (dOs (dOV (opnd2 pyAdd (dOV (dC (.int 9))) (dOV (dCallE d__law_draw (dOs (dON 0) (dOs (dOV (dC (.int 9))) (dO0))))))) (dOs (dOV (dC (.int 4))) (dO0)))))))
    (dNil))
  (dRet (dCallE (d__law_tree 20) (dOs (dON 0) (dOs (dOV (dN 1)) (dOs (dOV (dCallE d__law_draw (dOs (dON 0) (dOs (dOV (dC (.int 7))) (dO0))))) (dOs (dOV (opnd2 pyAdd (dOV (dC (.int 1))) (dOV (dCallE d__law_draw (dOs (dON 0) (dOs (dOV (dC (.int 4))) (dO0))))))) (dO0)))))))
def d__law_formula : DF := dFn 2 [true, false] b__law_formula
def b__law_places (self : DF) : DS :=
  dSeq (dSet 2 (dFz (dLst (dA (dN 1) (dA0)))))
  (dSeq (dIf (dTst (opnd2 pyEq (dOV (dCB pyLen (dOs (dON 0) (dO0)))) (dOV (dC (.int 3)))))
    (dSet 2 (opnd2 pyAdd (dOV (opnd2 pyAdd (dON 2) (dOV (dCallE self (dOs (dOV (opnd2 pyIx (dON 0) (dOV (dC (.int 1))))) (dOs (dOV (opnd2 pyAdd (dON 1) (dOV (dFz (dLst (dA (dC (.int 1)) (dA0))))))) (dO0))))))) (dOV (dCallE self (dOs (dOV (opnd2 pyIx (dON 0) (dOV (dC (.int 2))))) (dOs (dOV (opnd2 pyAdd (dON 1) (dOV (dFz (dLst (dA (dC (.int 2)) (dA0))))))) (dO0)))))))
    (dNil))
  (dRet (dN 2)))
def d__law_places : Nat → DF
  | 0 => fun _ => .stuck
  | n + 1 => dFn 3 [false, false] (b__law_places (d__law_places n))
def b__law_at : DS :=
  dSeq (dSet 2 (dN 0))
  (dSeq (dFor (dSeqOf (dN 1)) (gN 3)
    (dSet 2 (opnd2 pyIx (dON 2) (dON 3))))
  (dRet (dN 2)))
def d__law_at : DF := dFn 4 [false, false] b__law_at
def b__law_put (self : DF) : DS :=
  dSeq (dIf (dTst (opnd2 pyEq (dOV (dCB pyLen (dOs (dON 1) (dO0)))) (dOV (dC (.int 0)))))
    (dRet (dN 2))
    (dNil))
  (dSeq (dSet 3 (opnd2 pyIx (dON 1) (dOV (dC (.int 0)))))
  (dRet (opnd2 pyAdd (dOV (opnd2 pyAdd (dOV (dSl pySl (dON 0) (dP0) (dP1 (dN 3)))) (dOV (dTup (dA (dCallE self (dOs (dOV (opnd2 pyIx (dON 0) (dON 3))) (dOs (dOV (dSl pySl (dON 1) (dP1 (dC (.int 1))) (dP0))) (dOs (dOV (dN 2)) (dO0))))) (dA0)))))) (dOV (dSl pySl (dON 0) (dP1 (opnd2 pyAdd (dON 3) (dOV (dC (.int 1))))) (dP0))))))
def d__law_put : Nat → DF
  | 0 => fun _ => .stuck
  | n + 1 => dFn 4 [false, false, false] (b__law_put (d__law_put n))
def b__law_odd : DS :=
  dSeq (dSet 2 (dFz (dLst (dA (dTup (dA (dC (.str ("num" : Str))) (dA (dC (.bl true)) (dA0)))) (dA (dTup (dA (dC (.str ("num" : Str))) (dA (opnd2 pyPow (dOV (dC (.int 10))) (dOV (dC (.int 40)))) (dA0)))) (dA (dTup (dA (dC (.str ("num" : Str))) (dA (dC (.str ("3" : Str))) (dA0)))) (dA (dTup (dA (dC (.str ("num" : Str))) (dA0))) (dA (dTup (dA (dC (.str ("cell" : Str))) (dA (dC (.str ("" : Str))) (dA0)))) (dA (dTup (dA (dC (.str ("cell" : Str))) (dA (dC (.str ("A" : Str))) (dA0)))) (dA (dTup (dA (dC (.str ("cell" : Str))) (dA (dC (.int 3)) (dA0)))) (dA0)))))))))))
  (dSeq (dSet 2 (opnd2 pyAdd (dON 2) (dOV (dFz (dLst (dA (dTup (dA (dC (.str ("cell" : Str))) (dA (dC (.str ("abcdefghi" : Str))) (dA0)))) (dA (dTup (dA (dC (.str ("cell" : Str))) (dA (dC (.str ("a1" : Str))) (dA0)))) (dA (dTup (dA (dC (.str ("cell" : Str))) (dA (dC (.str ("a b" : Str))) (dA0)))) (dA (dFz (dCB listO (dOs (dON 1) (dO0)))) (dA (dTup (dA (dC (.str ("num" : Str))) (dA (dC (.int 3)) (dA (dC (.int 4)) (dA0))))) (dA (dTup (dA (dC (.str ("/" : Str))) (dA (dN 1) (dA (dN 1) (dA0))))) (dA0))))))))))))
  (dSeq (dSet 2 (opnd2 pyAdd (dON 2) (dOV (dFz (dLst (dA (dTup (dA (dC (.str ("+" : Str))) (dA (dN 1) (dA0)))) (dA (dTup (dA (dC (.str ("-" : Str))) (dA (dN 1) (dA (dN 1) (dA (dN 1) (dA0)))))) (dA (dC .non) (dA (dC (.int 5)) (dA (dC (.str ("a" : Str))) (dA (dTup (dA0)) (dA (dTup (dA (dC (.str ("made" : Str))) (dA (dC (.str ("a" : Str))) (dA0)))) (dA (dTup (dA (dC (.str ("now" : Str))) (dA (dN 1) (dA0)))) (dA (dTup (dA (dC (.str ("input" : Str))) (dA (dC (.str ("a" : Str))) (dA0)))) (dA0)))))))))))))))
  (dSeq (dSet 2 (opnd2 pyAdd (dON 2) (dOV (dFz (dLst (dA (dTup (dA (dC (.str ("*" : Str))) (dA (dN 1) (dA (dC (.int 3)) (dA0))))) (dA (dTup (dA (dC (.str ("+" : Str))) (dA (dC (.str ("a" : Str))) (dA (dN 1) (dA0))))) (dA (dTup (dA (dC (.str ("" : Str))) (dA (dN 1) (dA (dN 1) (dA0))))) (dA (dTup (dA (dC (.str ("num" : Str))) (dA (dC .non) (dA0)))) (dA (dTup (dA (dC (.str ("cell" : Str))) (dA (dTup (dA (dC (.str ("a" : Str))) (dA0))) (dA0)))) (dA (dTup (dA (dC (.int 1)) (dA (dC (.int 2)) (dA0)))) (dA (dC (.bl true)) (dA0)))))))))))))
  (dRet (dCallE d__law_choice (dOs (dON 0) (dOs (dOV (opnd2 pyAdd (dON 2) (dOV (dFz (dLst (dA (dTup (dA (dC (.str ("num" : Str))) (dA (opnd2 pySub (dOV (dC (.int 0))) (dOV (opnd2 pyPow (dOV (dC (.int 10))) (dOV (dC (.int 40)))))) (dA0)))) (dA (dTup (dA (dC (.str ("cell" : Str))) (dA (dC (.str ("a" : Str))) (dA (dC (.str ("b" : Str))) (dA0))))) (dA (dTup (dA (dC (.str ("cell" : Str))) (dA0))) (dA (dTup (dA (dC (.str ("+-" : Str))) (dA (dN 1) (dA (dN 1) (dA0))))) (dA (dFz (dLst (dA (dN 1) (dA0)))) (dA0))))))))))) (dO0))))))))
def d__law_odd : DF := dFn 3 [true, false] b__law_odd
def b__law_chain : DS :=
  dSeq (dSet 4 (dN 3))
  (dSeq (dFor (dCB rng1 (dOs (dON 1) (dO0))) (gN 5)
    (dSet 4 (dIfE (dTst (opnd2 pyEq (dOV (dCallE d__law_draw (dOs (dON 0) (dOs (dOV (dC (.int 2))) (dO0))))) (dOV (dC (.int 0))))) (dTup (dA (dN 2) (dA (dN 4) (dA (dN 3) (dA0))))) (dTup (dA (dN 2) (dA (dN 3) (dA (dN 4) (dA0))))))))
  (dRet (dN 4)))
def d__law_chain : DF := dFn 6 [true, false, false, false] b__law_chain
def b__law_row : DS :=
  dSeq (dSet 3 (dFz (opnd2 pyMulN (dOV (dFz (dLst (dA (dN 0) (dA0))))) (dON 1))))
  (dSeq (whD (dTst (opnd2 pyGt (dOV (dCB pyLen (dOs (dON 3) (dO0)))) (dOV (dC (.int 1))))) (dSet 3 (opnd2 pyAdd (dOV (dFz (dLc (dCB rng1 (dOs (dOV (opnd2 pyDiv (dOV (dCB pyLen (dOs (dON 3) (dO0)))) (dOV (dC (.int 2))))) (dO0))) (gN 4) (dYes) (dTup (dA (dN 2) (dA (opnd2 pyIx (dON 3) (dOV (opnd2 pyMul (dOV (dC (.int 2))) (dON 4)))) (dA (opnd2 pyIx (dON 3) (dOV (opnd2 pyAdd (dOV (opnd2 pyMul (dOV (dC (.int 2))) (dON 4))) (dOV (dC (.int 1)))))) (dA0))))) [4]))) (dOV (dSl pySl (dON 3) (dP1 (opnd2 pyMul (dOV (opnd2 pyDiv (dOV (dCB pyLen (dOs (dON 3) (dO0)))) (dOV (dC (.int 2))))) (dOV (dC (.int 2))))) (dP0))))) FU)
  (dRet (opnd2 pyIx (dON 3) (dOV (dC (.int 0))))))
def d__law_row : DF := dFn 5 [false, false, false] b__law_row
def b__law_bounds_right : DS :=
  dSeq (dPar [2, 3] (dSlV (dTup (dA (dC (.str ("cell" : Str))) (dA (dN 1) (dA0)))) (dSlV (dTup (dA (dC (.str ("num" : Str))) (dA (opnd2 pySub (dOV (opnd2 pyPow (dOV (dC (.int 10))) (dOV (dC (.int 40))))) (dOV (dC (.int 1)))) (dA0)))) (dSl0))))
  (dSeq (dSetN 4 (dLst (dA (dTup (dA (dCallE d__law_chain (dOs (dON 0) (dOs (dOV (dC (.int 9))) (dOs (dOV (dC (.str ("+" : Str)))) (dOs (dOV (dN 2)) (dO0)))))) (dA (dC (.bl true)) (dA0)))) (dA (dTup (dA (dCallE d__law_chain (dOs (dON 0) (dOs (dOV (dC (.int 10))) (dOs (dOV (dC (.str ("-" : Str)))) (dOs (dOV (dN 2)) (dO0)))))) (dA (dC (.bl false)) (dA0)))) (dA0)))))
  (dSeq (dSetN 4 (opnd2 pyAddN (dON 4) (dOV (dFz (dLst (dA (dTup (dA (dCallE d__law_row (dOs (dOV (dN 2)) (dOs (dOV (dC (.int 20))) (dOs (dOV (dC (.str ("-" : Str)))) (dO0))))) (dA (dC (.bl true)) (dA0)))) (dA (dTup (dA (dCallE d__law_row (dOs (dOV (dN 2)) (dOs (dOV (dC (.int 21))) (dOs (dOV (dC (.str ("+" : Str)))) (dO0))))) (dA (dC (.bl false)) (dA0)))) (dA (dTup (dA (dCallE d__law_row (dOs (dOV (dN 2)) (dOs (dOV (dC (.int 8))) (dOs (dOV (dC (.str ("*" : Str)))) (dO0))))) (dA (dC (.bl true)) (dA0)))) (dA0)))))))))
  (dSeq (dSetN 4 (opnd2 pyAddN (dON 4) (dOV (dFz (dLst (dA (dTup (dA (dCallE d__law_row (dOs (dOV (dN 2)) (dOs (dOV (dC (.int 9))) (dOs (dOV (dC (.str ("*" : Str)))) (dO0))))) (dA (dC (.bl false)) (dA0)))) (dA (dTup (dA (dCallE d__law_row (dOs (dOV (dN 3)) (dOs (dOV (dC (.int 20))) (dOs (dOV (dC (.str ("*" : Str)))) (dO0))))) (dA (dC (.bl true)) (dA0)))) (dA (dTup (dA (dTup (dA (dC (.str ("num" : Str))) (dA (opnd2 pySub (dOV (dC (.int 1))) (dOV (opnd2 pyPow (dOV (dC (.int 10))) (dOV (dC (.int 40)))))) (dA0)))) (dA (dC (.bl true)) (dA0)))) (dA0)))))))))
  (dSeq (dSetN 4 (opnd2 pyAddN (dON 4) (dOV (dFz (dLst (dA (dTup (dA (dTup (dA (dC (.str ("cell" : Str))) (dA (dC (.str ("abcdefgh" : Str))) (dA0)))) (dA (dC (.bl true)) (dA0)))) (dA (dTup (dA (dTup (dA (dC (.str ("+" : Str))) (dA (dCallE d__law_row (dOs (dOV (dN 2)) (dOs (dOV (dC (.int 8))) (dOs (dOV (dC (.str ("*" : Str)))) (dO0))))) (dA (dCallE d__law_row (dOs (dOV (dN 2)) (dOs (dOV (dC (.int 8))) (dOs (dOV (dC (.str ("*" : Str)))) (dO0))))) (dA0))))) (dA (dC (.bl true)) (dA0)))) (dA0))))))))
  (dSeq (dDrop (dMt fAppend 4 (dA (dTup (dA (dTup (dA (dC (.str ("*" : Str))) (dA (dCallE d__law_row (dOs (dOV (dN 2)) (dOs (dOV (dC (.int 8))) (dOs (dOV (dC (.str ("*" : Str)))) (dO0))))) (dA (dTup (dA (dC (.str ("+" : Str))) (dA (dN 3) (dA (dN 2) (dA0))))) (dA0))))) (dA (dC (.bl false)) (dA0)))) (dA0))))
  (dRet (dCB pyAll (dOs (dOV (dFz (dLc (dSeqOf (dN 4)) (gT (gLen 2 (gS (gN 5) (gS (gN 6) (gS0))))) (dYes) (dCallE (d__law_equal 12) (dOs (dOV (dCallE d_is_formula (dOs (dOV (dN 5)) (dO0)))) (dOs (dOV (dN 6)) (dO0)))) [5, 6]))) (dO0)))))))))
def d__law_bounds_right : DF := dFn 7 [true, false] b__law_bounds_right
def b_law : DS :=
  dSeq (dFor (dSeqOf (dSl pySl (dOV (opnd2 pyAdd (dOV (dFz (dLst (dA (dC (.int 0)) (dA0))))) (dON 0))) (dP0) (dP1 (dC (.int 13))))) (gN 1)
    (dSeq (dSetN 2 (dCallN d__law_source (dOs (dOV (dN 1)) (dOs (dOV (dC (.int 1))) (dO0)))))
  (dSeq (dSet 3 (dCallE d__law_names (dOs (dON 2) (dOs (dOV (opnd2 pyAdd (dOV (dC (.int 1))) (dOV (dCallE d__law_draw (dOs (dON 2) (dOs (dOV (dC (.int 4))) (dO0))))))) (dO0)))))
  (dSeq (dSet 4 (dCallE d__law_formula (dOs (dON 2) (dOs (dOV (dN 3)) (dO0)))))
  (dSeq (dIf (dOr (dNot (dTst (dCallE (d__law_equal 12) (dOs (dOV (dCallE d_is_formula (dOs (dOV (dN 4)) (dO0)))) (dOs (dOV (dC (.bl true))) (dO0)))))) (dNot (dTst (dCallE d__law_bounds_right (dOs (dON 2) (dOs (dOV (opnd2 pyIx (dON 3) (dOV (dC (.int 0))))) (dO0)))))))
    (dRet (dC (.bl false)))
    (dNil))
  (dFor (dCB rng1 (dOs (dOV (dC (.int 4))) (dO0))) (gN 5)
    (dSeq (dSet 6 (dCallE d__law_choice (dOs (dON 2) (dOs (dOV (dCallE (d__law_places 14) (dOs (dOV (dN 4)) (dOs (dOV (dFz (dLst (dA0)))) (dO0))))) (dO0)))))
  (dSeq (dSet 7 (dCallE (d__law_put 14) (dOs (dOV (dN 4)) (dOs (dOV (dN 6)) (dOs (dOV (dCallE d__law_odd (dOs (dON 2) (dOs (dOV (dCallE d__law_at (dOs (dOV (dN 4)) (dOs (dOV (dN 6)) (dO0))))) (dO0))))) (dO0))))))
  (dIf (dNot (dTst (dCallE (d__law_equal 12) (dOs (dOV (dCallE d_is_formula (dOs (dOV (dN 7)) (dO0)))) (dOs (dOV (dC (.bl false))) (dO0))))))
    (dRet (dC (.bl false)))
    (dNil))))))))))
  (dRet (dC (.bl true)))
def d_law : DF := dFn 8 [false] b_law
def topS (i : Nat) : Stmt := PySem.Challenge.pw_laterform_k01_formulas_recognized.main.body.getD i (.Pass ⟨0, 0, 0, 0⟩)
abbrev s_is_integer : Stmt := topS 6
abbrev N_is_integer : List Str := [("value" : Str)]
theorem sc_is_integer : FnScope N_is_integer [("value" : Str)] (defScope s_is_integer) := ⟨rfl, rfl, rfl, by decide +kernel, rfl, by decide +kernel, by decide +kernel⟩
abbrev s_is_number : Stmt := topS 7
abbrev N_is_number : List Str := [("value" : Str)]
theorem sc_is_number : FnScope N_is_number [("value" : Str)] (defScope s_is_number) := ⟨rfl, rfl, rfl, by decide +kernel, rfl, by decide +kernel, by decide +kernel⟩
abbrev s_is_name : Stmt := topS 8
abbrev N_is_name : List Str := [("value" : Str), ("sign" : Str)]
theorem sc_is_name : FnScope N_is_name [("value" : Str)] (defScope s_is_name) := ⟨rfl, rfl, rfl, by decide +kernel, rfl, by decide +kernel, by decide +kernel⟩
abbrev s_measured : Stmt := topS 9
abbrev N_measured : List Str := [("value" : Str), ("room" : Str), ("one" : Str), ("other" : Str), ("degree" : Str)]
theorem sc_measured : FnScope N_measured [("value" : Str), ("room" : Str)] (defScope s_measured) := ⟨rfl, rfl, rfl, by decide +kernel, rfl, by decide +kernel, by decide +kernel⟩
abbrev s_is_formula : Stmt := topS 10
abbrev N_is_formula : List Str := [("value" : Str), ("found" : Str)]
theorem sc_is_formula : FnScope N_is_formula [("value" : Str)] (defScope s_is_formula) := ⟨rfl, rfl, rfl, by decide +kernel, rfl, by decide +kernel, by decide +kernel⟩
abbrev s__law_source : Stmt := topS 12
abbrev N__law_source : List Str := [("cell" : Str), ("turn" : Str)]
theorem sc__law_source : FnScope N__law_source [("cell" : Str), ("turn" : Str)] (defScope s__law_source) := ⟨rfl, rfl, rfl, by decide +kernel, rfl, by decide +kernel, by decide +kernel⟩
abbrev s__law_draw : Stmt := topS 13
abbrev N__law_draw : List Str := [("source" : Str), ("size" : Str), ("drawn" : Str), ("number" : Str)]
theorem sc__law_draw : FnScope N__law_draw [("source" : Str), ("size" : Str)] (defScope s__law_draw) := ⟨rfl, rfl, rfl, by decide +kernel, rfl, by decide +kernel, by decide +kernel⟩
abbrev s__law_choice : Stmt := topS 14
abbrev N__law_choice : List Str := [("source" : Str), ("items" : Str)]
theorem sc__law_choice : FnScope N__law_choice [("source" : Str), ("items" : Str)] (defScope s__law_choice) := ⟨rfl, rfl, rfl, by decide +kernel, rfl, by decide +kernel, by decide +kernel⟩
abbrev s__law_equal : Stmt := topS 15
abbrev N__law_equal : List Str := [("found" : Str), ("due" : Str), ("k" : Str)]
theorem sc__law_equal : FnScope N__law_equal [("found" : Str), ("due" : Str)] (defScope s__law_equal) := ⟨rfl, rfl, rfl, by decide +kernel, rfl, by decide +kernel, by decide +kernel⟩
abbrev s__law_names : Stmt := topS 16
abbrev N__law_names : List Str := [("source" : Str), ("many" : Str), ("letters" : Str), ("way" : Str), ("start" : Str), ("at" : Str), ("words" : Str), ("found" : Str), ("k" : Str), ("sign" : Str), ("some" : Str)]
theorem sc__law_names : FnScope N__law_names [("source" : Str), ("many" : Str)] (defScope s__law_names) := ⟨rfl, rfl, rfl, by decide +kernel, rfl, by decide +kernel, by decide +kernel⟩
abbrev s__law_small : Stmt := topS 17
abbrev N__law_small : List Str := [("source" : Str)]
theorem sc__law_small : FnScope N__law_small [("source" : Str)] (defScope s__law_small) := ⟨rfl, rfl, rfl, by decide +kernel, rfl, by decide +kernel, by decide +kernel⟩
abbrev s__law_leaf : Stmt := topS 18
abbrev N__law_leaf : List Str := [("source" : Str), ("names" : Str), ("power" : Str)]
theorem sc__law_leaf : FnScope N__law_leaf [("source" : Str), ("names" : Str), ("power" : Str)] (defScope s__law_leaf) := ⟨rfl, rfl, rfl, by decide +kernel, rfl, by decide +kernel, by decide +kernel⟩
abbrev s__law_tree : Stmt := topS 19
abbrev N__law_tree : List Str := [("source" : Str), ("names" : Str), ("size" : Str), ("power" : Str), ("sign" : Str), ("one" : Str), ("first" : Str), ("other" : Str), ("left" : Str)]
theorem sc__law_tree : FnScope N__law_tree [("source" : Str), ("names" : Str), ("size" : Str), ("power" : Str)] (defScope s__law_tree) := ⟨rfl, rfl, rfl, by decide +kernel, rfl, by decide +kernel, by decide +kernel⟩
abbrev s__law_formula : Stmt := topS 20
abbrev N__law_formula : List Str := [("source" : Str), ("names" : Str)]
theorem sc__law_formula : FnScope N__law_formula [("source" : Str), ("names" : Str)] (defScope s__law_formula) := ⟨rfl, rfl, rfl, by decide +kernel, rfl, by decide +kernel, by decide +kernel⟩
abbrev s__law_places : Stmt := topS 21
abbrev N__law_places : List Str := [("tree" : Str), ("place" : Str), ("found" : Str)]
theorem sc__law_places : FnScope N__law_places [("tree" : Str), ("place" : Str)] (defScope s__law_places) := ⟨rfl, rfl, rfl, by decide +kernel, rfl, by decide +kernel, by decide +kernel⟩
abbrev s__law_at : Stmt := topS 22
abbrev N__law_at : List Str := [("value" : Str), ("place" : Str), ("found" : Str), ("k" : Str)]
theorem sc__law_at : FnScope N__law_at [("value" : Str), ("place" : Str)] (defScope s__law_at) := ⟨rfl, rfl, rfl, by decide +kernel, rfl, by decide +kernel, by decide +kernel⟩
abbrev s__law_put : Stmt := topS 23
abbrev N__law_put : List Str := [("value" : Str), ("place" : Str), ("other" : Str), ("k" : Str)]
theorem sc__law_put : FnScope N__law_put [("value" : Str), ("place" : Str), ("other" : Str)] (defScope s__law_put) := ⟨rfl, rfl, rfl, by decide +kernel, rfl, by decide +kernel, by decide +kernel⟩
abbrev s__law_odd : Stmt := topS 24
abbrev N__law_odd : List Str := [("source" : Str), ("node" : Str), ("found" : Str)]
theorem sc__law_odd : FnScope N__law_odd [("source" : Str), ("node" : Str)] (defScope s__law_odd) := ⟨rfl, rfl, rfl, by decide +kernel, rfl, by decide +kernel, by decide +kernel⟩
abbrev s__law_chain : Stmt := topS 25
abbrev N__law_chain : List Str := [("source" : Str), ("many" : Str), ("sign" : Str), ("leaf" : Str), ("found" : Str), ("turn" : Str)]
theorem sc__law_chain : FnScope N__law_chain [("source" : Str), ("many" : Str), ("sign" : Str), ("leaf" : Str)] (defScope s__law_chain) := ⟨rfl, rfl, rfl, by decide +kernel, rfl, by decide +kernel, by decide +kernel⟩
abbrev s__law_row : Stmt := topS 26
abbrev N__law_row : List Str := [("leaf" : Str), ("many" : Str), ("sign" : Str), ("row" : Str), ("k" : Str)]
theorem sc__law_row : FnScope N__law_row [("leaf" : Str), ("many" : Str), ("sign" : Str)] (defScope s__law_row) := ⟨rfl, rfl, rfl, by decide +kernel, rfl, by decide +kernel, by decide +kernel⟩
abbrev s__law_bounds_right : Stmt := topS 27
abbrev N__law_bounds_right : List Str := [("source" : Str), ("name" : Str), ("one" : Str), ("ten" : Str), ("asked" : Str), ("value" : Str), ("due" : Str)]
theorem sc__law_bounds_right : FnScope N__law_bounds_right [("source" : Str), ("name" : Str)] (defScope s__law_bounds_right) := ⟨rfl, rfl, rfl, by decide +kernel, rfl, by decide +kernel, by decide +kernel⟩
abbrev s_law : Stmt := topS 28
abbrev N_law : List Str := [("script" : Str), ("cell" : Str), ("source" : Str), ("names" : Str), ("tree" : Str), ("turn" : Str), ("place" : Str), ("odd" : Str)]
theorem sc_law : FnScope N_law [("script" : Str)] (defScope s_law) := ⟨rfl, rfl, rfl, by decide +kernel, rfl, by decide +kernel, by decide +kernel⟩
structure Ad where
  f_is_integer : Addr
  g_is_integer : FuncData
  f_is_number : Addr
  g_is_number : FuncData
  f_is_name : Addr
  g_is_name : FuncData
  f_measured : Addr
  g_measured : FuncData
  f_is_formula : Addr
  g_is_formula : FuncData
  f__law_source : Addr
  g__law_source : FuncData
  f__law_draw : Addr
  g__law_draw : FuncData
  f__law_choice : Addr
  g__law_choice : FuncData
  f__law_equal : Addr
  g__law_equal : FuncData
  f__law_names : Addr
  g__law_names : FuncData
  f__law_small : Addr
  g__law_small : FuncData
  f__law_leaf : Addr
  g__law_leaf : FuncData
  f__law_tree : Addr
  g__law_tree : FuncData
  f__law_formula : Addr
  g__law_formula : FuncData
  f__law_places : Addr
  g__law_places : FuncData
  f__law_at : Addr
  g__law_at : FuncData
  f__law_put : Addr
  g__law_put : FuncData
  f__law_odd : Addr
  g__law_odd : FuncData
  f__law_chain : Addr
  g__law_chain : FuncData
  f__law_row : Addr
  g__law_row : FuncData
  f__law_bounds_right : Addr
  g__law_bounds_right : FuncData
  f_law : Addr
  g_law : FuncData
structure Txt (K : PySem.W.Frag) (mg : Str → Option Value) (A : Ad) : Prop where
  u_is_integer : Fun K ("is_integer" : Str) ("is_integer" : Str) s_is_integer A.f_is_integer A.g_is_integer
  m_is_integer : mg ("is_integer" : Str) = some (.ref A.f_is_integer)
  u_is_number : Fun K ("is_number" : Str) ("is_number" : Str) s_is_number A.f_is_number A.g_is_number
  m_is_number : mg ("is_number" : Str) = some (.ref A.f_is_number)
  u_is_name : Fun K ("is_name" : Str) ("is_name" : Str) s_is_name A.f_is_name A.g_is_name
  m_is_name : mg ("is_name" : Str) = some (.ref A.f_is_name)
  u_measured : Fun K ("measured" : Str) ("measured" : Str) s_measured A.f_measured A.g_measured
  m_measured : mg ("measured" : Str) = some (.ref A.f_measured)
  u_is_formula : Fun K ("is_formula" : Str) ("is_formula" : Str) s_is_formula A.f_is_formula A.g_is_formula
  m_is_formula : mg ("is_formula" : Str) = some (.ref A.f_is_formula)
  u__law_source : Fun K ("_law_source" : Str) ("_law_source" : Str) s__law_source A.f__law_source A.g__law_source
  m__law_source : mg ("_law_source" : Str) = some (.ref A.f__law_source)
  u__law_draw : Fun K ("_law_draw" : Str) ("_law_draw" : Str) s__law_draw A.f__law_draw A.g__law_draw
  m__law_draw : mg ("_law_draw" : Str) = some (.ref A.f__law_draw)
  u__law_choice : Fun K ("_law_choice" : Str) ("_law_choice" : Str) s__law_choice A.f__law_choice A.g__law_choice
  m__law_choice : mg ("_law_choice" : Str) = some (.ref A.f__law_choice)
  u__law_equal : Fun K ("_law_equal" : Str) ("_law_equal" : Str) s__law_equal A.f__law_equal A.g__law_equal
  m__law_equal : mg ("_law_equal" : Str) = some (.ref A.f__law_equal)
  u__law_names : Fun K ("_law_names" : Str) ("_law_names" : Str) s__law_names A.f__law_names A.g__law_names
  m__law_names : mg ("_law_names" : Str) = some (.ref A.f__law_names)
  u__law_small : Fun K ("_law_small" : Str) ("_law_small" : Str) s__law_small A.f__law_small A.g__law_small
  m__law_small : mg ("_law_small" : Str) = some (.ref A.f__law_small)
  u__law_leaf : Fun K ("_law_leaf" : Str) ("_law_leaf" : Str) s__law_leaf A.f__law_leaf A.g__law_leaf
  m__law_leaf : mg ("_law_leaf" : Str) = some (.ref A.f__law_leaf)
  u__law_tree : Fun K ("_law_tree" : Str) ("_law_tree" : Str) s__law_tree A.f__law_tree A.g__law_tree
  m__law_tree : mg ("_law_tree" : Str) = some (.ref A.f__law_tree)
  u__law_formula : Fun K ("_law_formula" : Str) ("_law_formula" : Str) s__law_formula A.f__law_formula A.g__law_formula
  m__law_formula : mg ("_law_formula" : Str) = some (.ref A.f__law_formula)
  u__law_places : Fun K ("_law_places" : Str) ("_law_places" : Str) s__law_places A.f__law_places A.g__law_places
  m__law_places : mg ("_law_places" : Str) = some (.ref A.f__law_places)
  u__law_at : Fun K ("_law_at" : Str) ("_law_at" : Str) s__law_at A.f__law_at A.g__law_at
  m__law_at : mg ("_law_at" : Str) = some (.ref A.f__law_at)
  u__law_put : Fun K ("_law_put" : Str) ("_law_put" : Str) s__law_put A.f__law_put A.g__law_put
  m__law_put : mg ("_law_put" : Str) = some (.ref A.f__law_put)
  u__law_odd : Fun K ("_law_odd" : Str) ("_law_odd" : Str) s__law_odd A.f__law_odd A.g__law_odd
  m__law_odd : mg ("_law_odd" : Str) = some (.ref A.f__law_odd)
  u__law_chain : Fun K ("_law_chain" : Str) ("_law_chain" : Str) s__law_chain A.f__law_chain A.g__law_chain
  m__law_chain : mg ("_law_chain" : Str) = some (.ref A.f__law_chain)
  u__law_row : Fun K ("_law_row" : Str) ("_law_row" : Str) s__law_row A.f__law_row A.g__law_row
  m__law_row : mg ("_law_row" : Str) = some (.ref A.f__law_row)
  u__law_bounds_right : Fun K ("_law_bounds_right" : Str) ("_law_bounds_right" : Str) s__law_bounds_right A.f__law_bounds_right A.g__law_bounds_right
  m__law_bounds_right : mg ("_law_bounds_right" : Str) = some (.ref A.f__law_bounds_right)
  u_law : Fun K ("law" : Str) ("law" : Str) s_law A.f_law A.g_law
  m_law : mg ("law" : Str) = some (.ref A.f_law)
  b_abs : mg ("abs" : Str) = none
  b_all : mg ("all" : Str) = none
  b_bool : mg ("bool" : Str) = none
  b_int : mg ("int" : Str) = none
  b_isinstance : mg ("isinstance" : Str) = none
  b_len : mg ("len" : Str) = none
  b_list : mg ("list" : Str) = none
  b_max : mg ("max" : Str) = none
  b_range : mg ("range" : Str) = none
  b_str : mg ("str" : Str) = none
  b_tuple : mg ("tuple" : Str) = none
  c_SIGNS : ∃ a o its n, mg ("SIGNS" : Str) = some (.ref a) ∧ K.lookup a = some o ∧ o.cls = .type "tuple" ∧ o.data = .seq its n ∧ its.size ≤ sizeLine ∧ Vals [V.str ("+" : Str), V.str ("-" : Str), V.str ("*" : Str)] its.toList
  c_LETTERS : ∃ t, mg ("LETTERS" : Str) = some (.str ("abcdefghijklmnopqrstuvwxyz" : Str) t)
  c_MOST_NODES : ∃ t, mg ("MOST_NODES" : Str) = some (.int 40 t)
  c_MOST_DEPTH : ∃ t, mg ("MOST_DEPTH" : Str) = some (.int 10 t)
  c_MOST_DEGREE : ∃ t, mg ("MOST_DEGREE" : Str) = some (.int 8 t)
section
variable {P : Program} {w : World} {K : PySem.W.Frag} {mg : Str → Option Value} {base : Heap} {A : Ad}
theorem gl_SIGNS (T : Txt K mg A) {X : Cx} {W : WX} {pos : Pos} (hg : Gl X ("SIGNS" : Str)) (h1 : X.mg = mg) (h2 : X.K = K) : VE X W (.Name ("SIGNS" : Str) pos) (dC k_SIGNS) := by
  obtain ⟨a, o, its, n, h, e1, e2, e3, e4, e5⟩ := T.c_SIGNS
  exact ve_glob (v := .ref a) hg (by rw [h1]; exact h) rfl fun H => by
    simp only [Rep]
    exact ⟨a, _, rfl, .inr ⟨o, its, n, by rw [h2]; exact e1, e2, e3, e4, e5⟩, repL_cons (by simp only [Rep]; exact ⟨trivial, by decide +kernel⟩) (repL_cons (by simp only [Rep]; exact ⟨trivial, by decide +kernel⟩) (repL_cons (by simp only [Rep]; exact ⟨trivial, by decide +kernel⟩) (repL_nil)))⟩
theorem gl_LETTERS (T : Txt K mg A) {X : Cx} {W : WX} {pos : Pos} (hg : Gl X ("LETTERS" : Str)) (h1 : X.mg = mg) (h2 : X.K = K) : VE X W (.Name ("LETTERS" : Str) pos) (dC k_LETTERS) := by
  obtain ⟨t, h⟩ := T.c_LETTERS
  exact ve_glob (v := .str ("abcdefghijklmnopqrstuvwxyz" : Str)) hg (by rw [h1]; exact h) ⟨_, rfl⟩ fun H => by simp only [Rep]; exact ⟨trivial, by decide +kernel⟩
theorem gl_MOST_NODES (T : Txt K mg A) {X : Cx} {W : WX} {pos : Pos} (hg : Gl X ("MOST_NODES" : Str)) (h1 : X.mg = mg) (h2 : X.K = K) : VE X W (.Name ("MOST_NODES" : Str) pos) (dC k_MOST_NODES) := by
  obtain ⟨t, h⟩ := T.c_MOST_NODES
  exact ve_glob (v := .int 40) hg (by rw [h1]; exact h) ⟨_, rfl⟩ fun H => by simp only [Rep]
theorem gl_MOST_DEPTH (T : Txt K mg A) {X : Cx} {W : WX} {pos : Pos} (hg : Gl X ("MOST_DEPTH" : Str)) (h1 : X.mg = mg) (h2 : X.K = K) : VE X W (.Name ("MOST_DEPTH" : Str) pos) (dC k_MOST_DEPTH) := by
  obtain ⟨t, h⟩ := T.c_MOST_DEPTH
  exact ve_glob (v := .int 10) hg (by rw [h1]; exact h) ⟨_, rfl⟩ fun H => by simp only [Rep]
theorem gl_MOST_DEGREE (T : Txt K mg A) {X : Cx} {W : WX} {pos : Pos} (hg : Gl X ("MOST_DEGREE" : Str)) (h1 : X.mg = mg) (h2 : X.K = K) : VE X W (.Name ("MOST_DEGREE" : Str) pos) (dC k_MOST_DEGREE) := by
  obtain ⟨t, h⟩ := T.c_MOST_DEGREE
  exact ve_glob (v := .int 8) hg (by rw [h1]; exact h) ⟨_, rfl⟩ fun H => by simp only [Rep]
theorem bind_is_integer (T : Txt K mg A) : Binds K A.g_is_integer [("value" : Str)] [] := T.u_is_integer.binds (ps := [("value" : Str)]) fun _ _ _ _ _ _ us hl => match us, hl with | [_], _ => rfl
theorem ok_is_integer (T : Txt K mg A) : FnOk P w K mg base (L2.CX P w) 1 A.f_is_integer A.g_is_integer [("value" : Str)] (spV K mg d_is_integer) :=
  fn_ok (k := 0) (N := N_is_integer) (bs := [false]) (body := b_is_integer) T.u_is_integer sc_is_integer rfl (by decide) fun cdv A' outer s H E hr => by
      have C := ec_fn (P := P) (w := w) (K := K) (mg := mg) (base := base) (N := N_is_integer) (E := E) (outer := outer) (H := H) hr
      have pw := pw_fn (P := P) (w := w) (K := K) (mg := mg) (base := base) (N := N_is_integer) (qual := ("is_integer" : Str)) (sc := defScope s_is_integer) (f := A.f_is_integer) (cdv := cdv) (A := A') (E := E) (outer := outer) (s := s) (H := H)
      exact vss_one (vs_ret (ve_and (ve_callB cv_isi (by rfl) T.b_isinstance bt_isinstance (vos_cons (vo_n (pv 0)) (vos_cons (vo_e (ve_ty (by rfl) T.b_int bt_int)) (vos_nil)))) (ve_one (ve_not (ve_callB cv_isi (by rfl) T.b_isinstance bt_isinstance (vos_cons (vo_n (pv 0)) (vos_cons (vo_e (ve_ty (by rfl) T.b_bool bt_bool)) (vos_nil))))))))
theorem bind_is_number (T : Txt K mg A) : Binds K A.g_is_number [("value" : Str)] [] := T.u_is_number.binds (ps := [("value" : Str)]) fun _ _ _ _ _ _ us hl => match us, hl with | [_], _ => rfl
theorem ok_is_number (T : Txt K mg A) : FnOk P w K mg base (L2.CX P w) 2 A.f_is_number A.g_is_number [("value" : Str)] (spV K mg d_is_number) :=
  fn_ok (k := 1) (N := N_is_number) (bs := [false]) (body := b_is_number) T.u_is_number sc_is_number rfl (by decide) fun cdv A' outer s H E hr => by
      have C := ec_fn (P := P) (w := w) (K := K) (mg := mg) (base := base) (N := N_is_number) (E := E) (outer := outer) (H := H) hr
      have pw := pw_fn (P := P) (w := w) (K := K) (mg := mg) (base := base) (N := N_is_number) (qual := ("is_number" : Str)) (sc := defScope s_is_number) (f := A.f_is_number) (cdv := cdv) (A := A') (E := E) (outer := outer) (s := s) (H := H)
      exact vss_one (vs_ret (ve_and (ve_call C ⟨(ok_is_integer T), bind_is_integer T, T.u_is_integer.kp⟩ (by omega) (by rfl) T.m_is_integer (vos_cons (vo_e (ve_n (pv 0))) (vos_nil))) (ve_one (ve_cmp (opv_lt) (vo_e (ve_callB cv_abs (by rfl) T.b_abs bt_abs (vos_cons (vo_n (pv 0)) (vos_nil)))) (vo_e (ve_op opv_pow (vo_e (ve_int)) (vo_e (ve_int))))))))
theorem bind_is_name (T : Txt K mg A) : Binds K A.g_is_name [("value" : Str)] [] := T.u_is_name.binds (ps := [("value" : Str)]) fun _ _ _ _ _ _ us hl => match us, hl with | [_], _ => rfl
theorem ok_is_name (T : Txt K mg A) : FnOk P w K mg base (L2.CX P w) 1 A.f_is_name A.g_is_name [("value" : Str)] (spV K mg d_is_name) :=
  fn_ok (k := 0) (N := N_is_name) (bs := [false]) (body := b_is_name) T.u_is_name sc_is_name rfl (by decide) fun cdv A' outer s H E hr => by
      have C := ec_fn (P := P) (w := w) (K := K) (mg := mg) (base := base) (N := N_is_name) (E := E) (outer := outer) (H := H) hr
      have pw := pw_fn (P := P) (w := w) (K := K) (mg := mg) (base := base) (N := N_is_name) (qual := ("is_name" : Str)) (sc := defScope s_is_name) (f := A.f_is_name) (cdv := cdv) (A := A') (E := E) (outer := outer) (s := s) (H := H)
      exact vss_cons (vs_if (vt_w (vw_or (vt_not (vt_val (ve_callB cv_isi (by rfl) T.b_isinstance bt_isinstance (vos_cons (vo_n (pv 0)) (vos_cons (vo_e (ve_ty (by rfl) T.b_str bt_str)) (vos_nil)))))) (vw_or1 (vt_not (vt_chain (opv_le) (opv_le) (vo_e (ve_int)) (vo_e (ve_callB cv_len (by rfl) T.b_len bt_len (vos_cons (vo_n (pv 0)) (vos_nil)))) (vo_e (ve_int))))))) (vss_one (vs_ret (ve_bl))) (vss_nil)) (vss_one (vs_ret (ve_callB (cv_all rfl) (by rfl) T.b_all bt_all (vos_cons (vo_e (ve_fz (vn_lc (own := [(("sign" : Str), 1)]) rfl sc_is_name.nd (vi_seq (ve_n (pv 0))) (blkOk_by (N := N_is_name) (sc := defScope s_is_name) (by decide +kernel)) (by decide) (fun s3 H3 C3 cl3 fp3 => vg_name (i := 1) sc_is_name.nd rfl (Or.inl rfl)) (fun s3 H3 C3 cl3 fp3 => vts_nil) (fun s3 H3 C3 cl3 fp3 => ve_cmp (opv_in (EC.blk C s3 H3 _ _ fp3).units) (vo_n (pv 1)) (vo_e (gl_LETTERS T (by rfl) rfl rfl)))))) (vos_nil)))))
theorem bind_measured (T : Txt K mg A) : Binds K A.g_measured [("value" : Str), ("room" : Str)] [] := T.u_measured.binds (ps := [("value" : Str), ("room" : Str)]) fun _ _ _ _ _ _ us hl => match us, hl with | [_, _], _ => rfl
theorem ok_measured (T : Txt K mg A) : ∀ n : Nat, FnOk P w K mg base (L2.CX P w) (2 + n) A.f_measured A.g_measured [("value" : Str), ("room" : Str)] (spV K mg (d_measured n))
  | 0 => fn_stuck
  | n + 1 => fn_ok (k := 2 + n) (N := N_measured) (bs := [false, false]) (body := b_measured (d_measured n)) T.u_measured sc_measured rfl (by decide) fun cdv A' outer s H E hr => by
      have C := ec_fn (P := P) (w := w) (K := K) (mg := mg) (base := base) (N := N_measured) (E := E) (outer := outer) (H := H) hr
      have pw := pw_fn (P := P) (w := w) (K := K) (mg := mg) (base := base) (N := N_measured) (qual := ("measured" : Str)) (sc := defScope s_measured) (f := A.f_measured) (cdv := cdv) (A := A') (E := E) (outer := outer) (s := s) (H := H)
      exact vss_cons (vs_if (vt_w (vw_or (vt_cmp (opv_eq C.units64) (vo_n (pv 1)) (vo_e (ve_int))) (vw_or (vt_not (vt_val (ve_callB cv_isi (by rfl) T.b_isinstance bt_isinstance (vos_cons (vo_n (pv 0)) (vos_cons (vo_e (ve_ty (by rfl) T.b_tuple bt_tuple)) (vos_nil)))))) (vw_or1 (vt_cmp (opv_notIn C.units) (vo_e (ve_callB cv_len (by rfl) T.b_len bt_len (vos_cons (vo_n (pv 0)) (vos_nil)))) (vo_e (ve_tup (va_cons (ve_int) (va_cons (ve_int) (va_nil)))))))))) (vss_one (vs_ret (ve_non))) (vss_nil)) (vss_cons (vs_if (vt_cmp (opv_eq C.units64) (vo_e (ve_callB cv_len (by rfl) T.b_len bt_len (vos_cons (vo_n (pv 0)) (vos_nil)))) (vo_e (ve_int))) (vss_cons (vs_if (vt_w (vw_and (vt_cmp (opv_eq C.units64) (vo_e (ve_ix ixv (vo_n (pv 0)) (vo_e (ve_int)))) (vo_e (ve_str))) (vw_and1 (vt_val (ve_call C ⟨(ok_is_number T), bind_is_number T, T.u_is_number.kp⟩ (by omega) (by rfl) T.m_is_number (vos_cons (vo_e (ve_ix ixv (vo_n (pv 0)) (vo_e (ve_int)))) (vos_nil))))))) (vss_one (vs_ret (ve_tup (va_cons (ve_int) (va_cons (ve_int) (va_cons (ve_int) (va_nil))))))) (vss_nil)) (vss_cons (vs_if (vt_w (vw_and (vt_cmp (opv_eq C.units64) (vo_e (ve_ix ixv (vo_n (pv 0)) (vo_e (ve_int)))) (vo_e (ve_str))) (vw_and1 (vt_val (ve_call C ⟨(ok_is_name T), bind_is_name T, T.u_is_name.kp⟩ (by omega) (by rfl) T.m_is_name (vos_cons (vo_e (ve_ix ixv (vo_n (pv 0)) (vo_e (ve_int)))) (vos_nil))))))) (vss_one (vs_ret (ve_tup (va_cons (ve_int) (va_cons (ve_int) (va_cons (ve_int) (va_nil))))))) (vss_nil)) (vss_one (vs_ret (ve_non))))) (vss_nil)) (vss_cons (vs_if (vt_cmp (opv_notIn C.units) (vo_e (ve_ix ixv (vo_n (pv 0)) (vo_e (ve_int)))) (vo_e (gl_SIGNS T (by rfl) rfl rfl))) (vss_one (vs_ret (ve_non))) (vss_nil)) (vss_cons (vs_set (i := 2) sc_measured.nd rfl (Or.inl rfl) (by decide) (ve_call C ⟨(ok_measured T n), bind_measured T, T.u_measured.kp⟩ (by omega) (by rfl) T.m_measured (vos_cons (vo_e (ve_ix ixv (vo_n (pv 0)) (vo_e (ve_int)))) (vos_cons (vo_e (ve_op opv_sub (vo_n (pv 1)) (vo_e (ve_int)))) (vos_nil))))) (vss_cons (vs_set (i := 3) sc_measured.nd rfl (Or.inl rfl) (by decide) (ve_call C ⟨(ok_measured T n), bind_measured T, T.u_measured.kp⟩ (by omega) (by rfl) T.m_measured (vos_cons (vo_e (ve_ix ixv (vo_n (pv 0)) (vo_e (ve_int)))) (vos_cons (vo_e (ve_op opv_sub (vo_n (pv 1)) (vo_e (ve_int)))) (vos_nil))))) (vss_cons (vs_if (vt_w (vw_or (vt_cmp (opv_is) (vo_n (pv 2)) (vo_e (ve_non))) (vw_or1 (vt_cmp (opv_is) (vo_n (pv 3)) (vo_e (ve_non)))))) (vss_one (vs_ret (ve_non))) (vss_nil)) (vss_cons (vs_set (i := 4) sc_measured.nd rfl (Or.inl rfl) (by decide) (ve_callB (cv_max2 rfl) (by rfl) T.b_max bt_max (vos_cons (vo_e (ve_ix ixv (vo_n (pv 2)) (vo_e (ve_int)))) (vos_cons (vo_e (ve_ix ixv (vo_n (pv 3)) (vo_e (ve_int)))) (vos_nil))))) (vss_cons (vs_if (vt_cmp (opv_eq C.units64) (vo_e (ve_ix ixv (vo_n (pv 0)) (vo_e (ve_int)))) (vo_e (ve_str))) (vss_one (vs_set (i := 4) sc_measured.nd rfl (Or.inl rfl) (by decide) (ve_op opv_add (vo_e (ve_ix ixv (vo_n (pv 2)) (vo_e (ve_int)))) (vo_e (ve_ix ixv (vo_n (pv 3)) (vo_e (ve_int))))))) (vss_nil)) (vss_one (vs_ret (ve_tup (va_cons (ve_op opv_add (vo_e (ve_op opv_add (vo_e (ve_ix ixv (vo_n (pv 2)) (vo_e (ve_int)))) (vo_e (ve_ix ixv (vo_n (pv 3)) (vo_e (ve_int)))))) (vo_e (ve_int))) (va_cons (ve_op opv_add (vo_e (ve_callB (cv_max2 rfl) (by rfl) T.b_max bt_max (vos_cons (vo_e (ve_ix ixv (vo_n (pv 2)) (vo_e (ve_int)))) (vos_cons (vo_e (ve_ix ixv (vo_n (pv 3)) (vo_e (ve_int)))) (vos_nil))))) (vo_e (ve_int))) (va_cons (ve_n (pv 4)) (va_nil))))))))))))))
theorem bind_is_formula (T : Txt K mg A) : Binds K A.g_is_formula [("value" : Str)] [] := T.u_is_formula.binds (ps := [("value" : Str)]) fun _ _ _ _ _ _ us hl => match us, hl with | [_], _ => rfl
theorem ok_is_formula (T : Txt K mg A) : FnOk P w K mg base (L2.CX P w) 15 A.f_is_formula A.g_is_formula [("value" : Str)] (spV K mg d_is_formula) :=
  fn_ok (k := 14) (N := N_is_formula) (bs := [false]) (body := b_is_formula) T.u_is_formula sc_is_formula rfl (by decide) fun cdv A' outer s H E hr => by
      have C := ec_fn (P := P) (w := w) (K := K) (mg := mg) (base := base) (N := N_is_formula) (E := E) (outer := outer) (H := H) hr
      have pw := pw_fn (P := P) (w := w) (K := K) (mg := mg) (base := base) (N := N_is_formula) (qual := ("is_formula" : Str)) (sc := defScope s_is_formula) (f := A.f_is_formula) (cdv := cdv) (A := A') (E := E) (outer := outer) (s := s) (H := H)
      exact vss_cons (vs_set (i := 1) sc_is_formula.nd rfl (Or.inl rfl) (by decide) (ve_call C ⟨(ok_measured T 12), bind_measured T, T.u_measured.kp⟩ (by omega) (by rfl) T.m_measured (vos_cons (vo_e (ve_n (pv 0))) (vos_cons (vo_e (gl_MOST_DEPTH T (by rfl) rfl rfl)) (vos_nil))))) (vss_one (vs_ret (ve_and (ve_cmp (opv_isNot) (vo_n (pv 1)) (vo_e (ve_non))) (ve_and (ve_cmp (opv_le) (vo_e (ve_ix ixv (vo_n (pv 1)) (vo_e (ve_int)))) (vo_e (gl_MOST_NODES T (by rfl) rfl rfl))) (ve_one (ve_cmp (opv_le) (vo_e (ve_ix ixv (vo_n (pv 1)) (vo_e (ve_int)))) (vo_e (gl_MOST_DEGREE T (by rfl) rfl rfl))))))))
theorem bind__law_source (T : Txt K mg A) : Binds K A.g__law_source [("cell" : Str), ("turn" : Str)] [] := T.u__law_source.binds (ps := [("cell" : Str), ("turn" : Str)]) fun _ _ _ _ _ _ us hl => match us, hl with | [_, _], _ => rfl
theorem ok__law_source (T : Txt K mg A) : FnOk P w K mg base (L2.CX P w) 1 A.f__law_source A.g__law_source [("cell" : Str), ("turn" : Str)] (spV K mg d__law_source) :=
  fn_ok (k := 0) (N := N__law_source) (bs := [false, false]) (body := b__law_source) T.u__law_source sc__law_source rfl (by decide) fun cdv A' outer s H E hr => by
      have C := ec_fn (P := P) (w := w) (K := K) (mg := mg) (base := base) (N := N__law_source) (E := E) (outer := outer) (H := H) hr
      have pw := pw_fn (P := P) (w := w) (K := K) (mg := mg) (base := base) (N := N__law_source) (qual := ("_law_source" : Str)) (sc := defScope s__law_source) (f := A.f__law_source) (cdv := cdv) (A := A') (E := E) (outer := outer) (s := s) (H := H)
      exact vss_cons (vs_if (vt_cmp (opv_ge) (vo_n (pv 0)) (vo_e (ve_op opv_pow (vo_e (ve_int)) (vo_e (ve_int))))) (vss_one (vs_retN (vn_lst (va_cons (ve_op opv_sub (vo_n (pv 0)) (vo_e (ve_op opv_pow (vo_e (ve_int)) (vo_e (ve_int))))) (va_cons (ve_op opv_mod (vo_e (ve_callT cv_int (by rfl) T.b_int bt_int (vos_cons (vo_n (pv 0)) (vos_nil)))) (vo_e (ve_int))) (va_cons (ve_n (pv 1)) (va_nil))))))) (vss_nil)) (vss_one (vs_retN (vn_lst (va_cons (ve_int) (va_cons (ve_op opv_mod (vo_e (ve_callT cv_int (by rfl) T.b_int bt_int (vos_cons (vo_n (pv 0)) (vos_nil)))) (vo_e (ve_int))) (va_cons (ve_n (pv 1)) (va_nil)))))))
theorem bind__law_draw (T : Txt K mg A) : Binds K A.g__law_draw [("source" : Str), ("size" : Str)] [] := T.u__law_draw.binds (ps := [("source" : Str), ("size" : Str)]) fun _ _ _ _ _ _ us hl => match us, hl with | [_, _], _ => rfl
theorem ok__law_draw (T : Txt K mg A) : FnOk P w K mg base (L2.CX P w) 1 A.f__law_draw A.g__law_draw [("source" : Str), ("size" : Str)] (spV K mg d__law_draw) :=
  fn_ok (k := 0) (N := N__law_draw) (bs := [true, false]) (body := b__law_draw) T.u__law_draw sc__law_draw rfl (by decide) fun cdv A' outer s H E hr => by
      have C := ec_fn (P := P) (w := w) (K := K) (mg := mg) (base := base) (N := N__law_draw) (E := E) (outer := outer) (H := H) hr
      have pw := pw_fn (P := P) (w := w) (K := K) (mg := mg) (base := base) (N := N__law_draw) (qual := ("_law_draw" : Str)) (sc := defScope s__law_draw) (f := A.f__law_draw) (cdv := cdv) (A := A') (E := E) (outer := outer) (s := s) (H := H)
      exact vss_cons (vs_if (vt_cmp (opv_gt) (vo_e (ve_ix ixv (vo_n (pv 0)) (vo_e (ve_int)))) (vo_e (ve_int))) (vss_cons (vs_set (i := 2) sc__law_draw.nd rfl (Or.inl rfl) (by decide) (ve_op opv_mod (vo_e (ve_callT cv_int (by rfl) T.b_int bt_int (vos_cons (vo_e (ve_ix ixv (vo_n (pv 0)) (vo_e (ve_int)))) (vos_nil)))) (vo_n (pv 1)))) (vss_cons (vs_setIx (pv 0) (ve_op opv_div (vo_e (ve_ix ixv (vo_n (pv 0)) (vo_e (ve_int)))) (vo_n (pv 1))) (ve_int)) (vss_one (vs_ret (ve_n (pv 2)))))) (vss_nil)) (vss_cons (vs_setIx (pv 0) (ve_op opv_add (vo_e (ve_ix ixv (vo_n (pv 0)) (vo_e (ve_int)))) (vo_e (ve_int))) (ve_int)) (vss_cons (vs_set (i := 3) sc__law_draw.nd rfl (Or.inl rfl) (by decide) (ve_op opv_mod (vo_e (ve_callT cv_int (by rfl) T.b_int bt_int (vos_cons (vo_e (ve_op opv_pow (vo_e (ve_op opv_add (vo_e (ve_ix ixv (vo_n (pv 0)) (vo_e (ve_int)))) (vo_e (ve_op opv_mul (vo_e (ve_int)) (vo_e (ve_ix ixv (vo_n (pv 0)) (vo_e (ve_int)))))))) (vo_e (ve_int)))) (vos_nil)))) (vo_e (ve_int)))) (vss_cons (vs_set (i := 2) sc__law_draw.nd rfl (Or.inl rfl) (by decide) (ve_op opv_div (vo_e (ve_op opv_mod (vo_e (ve_callT cv_int (by rfl) T.b_int bt_int (vos_cons (vo_e (ve_op opv_pow (vo_e (ve_op opv_add (vo_n (pv 3)) (vo_e (ve_op opv_mul (vo_e (ve_int)) (vo_e (ve_ix ixv (vo_n (pv 0)) (vo_e (ve_int)))))))) (vo_e (ve_int)))) (vos_nil)))) (vo_e (ve_int)))) (vo_e (ve_int)))) (vss_one (vs_ret (ve_op opv_mod (vo_e (ve_callT cv_int (by rfl) T.b_int bt_int (vos_cons (vo_n (pv 2)) (vos_nil)))) (vo_n (pv 1))))))))
theorem bind__law_choice (T : Txt K mg A) : Binds K A.g__law_choice [("source" : Str), ("items" : Str)] [] := T.u__law_choice.binds (ps := [("source" : Str), ("items" : Str)]) fun _ _ _ _ _ _ us hl => match us, hl with | [_, _], _ => rfl
theorem ok__law_choice (T : Txt K mg A) : FnOk P w K mg base (L2.CX P w) 2 A.f__law_choice A.g__law_choice [("source" : Str), ("items" : Str)] (spV K mg d__law_choice) :=
  fn_ok (k := 1) (N := N__law_choice) (bs := [true, false]) (body := b__law_choice) T.u__law_choice sc__law_choice rfl (by decide) fun cdv A' outer s H E hr => by
      have C := ec_fn (P := P) (w := w) (K := K) (mg := mg) (base := base) (N := N__law_choice) (E := E) (outer := outer) (H := H) hr
      have pw := pw_fn (P := P) (w := w) (K := K) (mg := mg) (base := base) (N := N__law_choice) (qual := ("_law_choice" : Str)) (sc := defScope s__law_choice) (f := A.f__law_choice) (cdv := cdv) (A := A') (E := E) (outer := outer) (s := s) (H := H)
      exact vss_one (vs_ret (ve_ix ixv (vo_n (pv 1)) (vo_e (ve_call C ⟨(ok__law_draw T), bind__law_draw T, T.u__law_draw.kp⟩ (by omega) (by rfl) T.m__law_draw (vos_cons (vo_n (pv 0)) (vos_cons (vo_e (ve_callB cv_len (by rfl) T.b_len bt_len (vos_cons (vo_n (pv 1)) (vos_nil)))) (vos_nil)))))))
theorem bind__law_equal (T : Txt K mg A) : Binds K A.g__law_equal [("found" : Str), ("due" : Str)] [] := T.u__law_equal.binds (ps := [("found" : Str), ("due" : Str)]) fun _ _ _ _ _ _ us hl => match us, hl with | [_, _], _ => rfl
theorem ok__law_equal (T : Txt K mg A) : ∀ n : Nat, FnOk P w K mg base (L2.CX P w) (0 + n) A.f__law_equal A.g__law_equal [("found" : Str), ("due" : Str)] (spV K mg (d__law_equal n))
  | 0 => fn_stuck
  | n + 1 => fn_ok (k := 0 + n) (N := N__law_equal) (bs := [false, false]) (body := b__law_equal (d__law_equal n)) T.u__law_equal sc__law_equal rfl (by decide) fun cdv A' outer s H E hr => by
      have C := ec_fn (P := P) (w := w) (K := K) (mg := mg) (base := base) (N := N__law_equal) (E := E) (outer := outer) (H := H) hr
      have pw := pw_fn (P := P) (w := w) (K := K) (mg := mg) (base := base) (N := N__law_equal) (qual := ("_law_equal" : Str)) (sc := defScope s__law_equal) (f := A.f__law_equal) (cdv := cdv) (A := A') (E := E) (outer := outer) (s := s) (H := H)
      exact vss_cons (vs_if (vt_w (vw_or (vt_val (ve_callB cv_isi (by rfl) T.b_isinstance bt_isinstance (vos_cons (vo_n (pv 1)) (vos_cons (vo_e (ve_ty (by rfl) T.b_bool bt_bool)) (vos_nil))))) (vw_or1 (vt_val (ve_callB cv_isi (by rfl) T.b_isinstance bt_isinstance (vos_cons (vo_n (pv 0)) (vos_cons (vo_e (ve_ty (by rfl) T.b_bool bt_bool)) (vos_nil)))))))) (vss_one (vs_ret (ve_and (ve_callB cv_isi (by rfl) T.b_isinstance bt_isinstance (vos_cons (vo_n (pv 1)) (vos_cons (vo_e (ve_ty (by rfl) T.b_bool bt_bool)) (vos_nil)))) (ve_and (ve_callB cv_isi (by rfl) T.b_isinstance bt_isinstance (vos_cons (vo_n (pv 0)) (vos_cons (vo_e (ve_ty (by rfl) T.b_bool bt_bool)) (vos_nil)))) (ve_one (ve_cmp (opv_eq C.units64) (vo_n (pv 1)) (vo_n (pv 0)))))))) (vss_nil)) (vss_cons (vs_if (vt_w (vw_or (vt_cmp (opv_is) (vo_n (pv 1)) (vo_e (ve_non))) (vw_or1 (vt_cmp (opv_is) (vo_n (pv 0)) (vo_e (ve_non)))))) (vss_one (vs_ret (ve_and (ve_cmp (opv_is) (vo_n (pv 1)) (vo_e (ve_non))) (ve_one (ve_cmp (opv_is) (vo_n (pv 0)) (vo_e (ve_non))))))) (vss_nil)) (vss_cons (vs_if (vt_val (ve_callB cv_isiT (by rfl) T.b_isinstance bt_isinstance (vos_cons (vo_n (pv 1)) (vos_cons (vo_e (ve_tup (va_cons (ve_ty (by rfl) T.b_list bt_list) (va_cons (ve_ty (by rfl) T.b_tuple bt_tuple) (va_nil))))) (vos_nil))))) (vss_cons (vs_if (vt_w (vw_or (vt_not (vt_val (ve_callB cv_isiT (by rfl) T.b_isinstance bt_isinstance (vos_cons (vo_n (pv 0)) (vos_cons (vo_e (ve_tup (va_cons (ve_ty (by rfl) T.b_list bt_list) (va_cons (ve_ty (by rfl) T.b_tuple bt_tuple) (va_nil))))) (vos_nil)))))) (vw_or1 (vt_cmp (opv_ne C.units64) (vo_e (ve_callB cv_len (by rfl) T.b_len bt_len (vos_cons (vo_n (pv 0)) (vos_nil)))) (vo_e (ve_callB cv_len (by rfl) T.b_len bt_len (vos_cons (vo_n (pv 1)) (vos_nil)))))))) (vss_one (vs_ret (ve_bl))) (vss_nil)) (vss_cons (vs_if (vt_cmp (opv_ne C.units64) (vo_e (ve_callB cv_isi (by rfl) T.b_isinstance bt_isinstance (vos_cons (vo_n (pv 1)) (vos_cons (vo_e (ve_ty (by rfl) T.b_list bt_list)) (vos_nil))))) (vo_e (ve_callB cv_isi (by rfl) T.b_isinstance bt_isinstance (vos_cons (vo_n (pv 0)) (vos_cons (vo_e (ve_ty (by rfl) T.b_list bt_list)) (vos_nil)))))) (vss_one (vs_ret (ve_bl))) (vss_nil)) (vss_one (vs_ret (ve_callB (cv_all rfl) (by rfl) T.b_all bt_all (vos_cons (vo_e (ve_fz (vn_lc (own := [(("k" : Str), 2)]) rfl sc__law_equal.nd (vi_range1 (by rfl) T.b_range (vos_cons (vo_e (ve_callB cv_len (by rfl) T.b_len bt_len (vos_cons (vo_n (pv 1)) (vos_nil)))) (vos_nil))) (blkOk_by (N := N__law_equal) (sc := defScope s__law_equal) (by decide +kernel)) (by decide) (fun s3 H3 C3 cl3 fp3 => vg_name (i := 2) sc__law_equal.nd rfl (Or.inl rfl)) (fun s3 H3 C3 cl3 fp3 => vts_nil) (fun s3 H3 C3 cl3 fp3 => ve_call (EC.blk C s3 H3 _ _ fp3) ⟨(ok__law_equal T n), bind__law_equal T, T.u__law_equal.kp⟩ (by omega) (by rfl) T.m__law_equal (vos_cons (vo_e (ve_ix ixv (vo_n (pv 0)) (vo_n (pv 2)))) (vos_cons (vo_e (ve_ix ixv (vo_n (pv 1)) (vo_n (pv 2)))) (vos_nil))))))) (vos_nil))))))) (vss_nil)) (vss_cons (vs_if (vt_val (ve_callB cv_isi (by rfl) T.b_isinstance bt_isinstance (vos_cons (vo_n (pv 1)) (vos_cons (vo_e (ve_ty (by rfl) T.b_str bt_str)) (vos_nil))))) (vss_one (vs_ret (ve_and (ve_callB cv_isi (by rfl) T.b_isinstance bt_isinstance (vos_cons (vo_n (pv 0)) (vos_cons (vo_e (ve_ty (by rfl) T.b_str bt_str)) (vos_nil)))) (ve_one (ve_cmp (opv_eq C.units64) (vo_n (pv 0)) (vo_n (pv 1))))))) (vss_nil)) (vss_one (vs_ret (ve_and (ve_callB cv_isi (by rfl) T.b_isinstance bt_isinstance (vos_cons (vo_n (pv 0)) (vos_cons (vo_e (ve_ty (by rfl) T.b_int bt_int)) (vos_nil)))) (ve_one (ve_cmp (opv_eq C.units64) (vo_n (pv 0)) (vo_n (pv 1))))))))))
theorem bind__law_names (T : Txt K mg A) : Binds K A.g__law_names [("source" : Str), ("many" : Str)] [] := T.u__law_names.binds (ps := [("source" : Str), ("many" : Str)]) fun _ _ _ _ _ _ us hl => match us, hl with | [_, _], _ => rfl
theorem ok__law_names (T : Txt K mg A) : FnOk P w K mg base (L2.CX P w) 2 A.f__law_names A.g__law_names [("source" : Str), ("many" : Str)] (spV K mg d__law_names) :=
  fn_ok (k := 1) (N := N__law_names) (bs := [true, false]) (body := b__law_names) T.u__law_names sc__law_names rfl (by decide) fun cdv A' outer s H E hr => by
      have C := ec_fn (P := P) (w := w) (K := K) (mg := mg) (base := base) (N := N__law_names) (E := E) (outer := outer) (H := H) hr
      have pw := pw_fn (P := P) (w := w) (K := K) (mg := mg) (base := base) (N := N__law_names) (qual := ("_law_names" : Str)) (sc := defScope s__law_names) (f := A.f__law_names) (cdv := cdv) (A := A') (E := E) (outer := outer) (s := s) (H := H)
      exact vss_cons (vs_set (i := 2) sc__law_names.nd rfl (Or.inl rfl) (by decide) (ve_str)) (vss_cons (vs_par (ks := [(3, ("way" : Str)), (4, ("start" : Str)), (5, ("at" : Str))]) rfl sc__law_names.nd (by decide) (par_k rfl) (by decide) (vsl_val (ve_call C ⟨(ok__law_draw T), bind__law_draw T, T.u__law_draw.kp⟩ (by omega) (by rfl) T.m__law_draw (vos_cons (vo_n (pv 0)) (vos_cons (vo_e (ve_int)) (vos_nil)))) (vsl_val (ve_call C ⟨(ok__law_draw T), bind__law_draw T, T.u__law_draw.kp⟩ (by omega) (by rfl) T.m__law_draw (vos_cons (vo_n (pv 0)) (vos_cons (vo_e (ve_int)) (vos_nil)))) (vsl_val (ve_call C ⟨(ok__law_draw T), bind__law_draw T, T.u__law_draw.kp⟩ (by omega) (by rfl) T.m__law_draw (vos_cons (vo_n (pv 0)) (vos_cons (vo_e (ve_int)) (vos_nil)))) (vsl_nil)))) (by rfl)) (vss_cons (vs_set (i := 6) sc__law_names.nd rfl (Or.inl rfl) (by decide) (ve_fz (vn_lst (va_cons (ve_str) (va_cons (ve_str) (va_cons (ve_str) (va_cons (ve_str) (va_cons (ve_str) (va_cons (ve_str) (va_cons (ve_str) (va_cons (ve_str) (va_nil)))))))))))) (vss_cons (vs_setN (i := 7) sc__law_names.nd rfl (Or.inl rfl) (by decide) (vn_lst (va_nil))) (vss_cons (vs_for pw rfl (by decide) (vi_range1 (by rfl) T.b_range (vos_cons (vo_n (pv 1)) (vos_nil))) (vg_name (i := 8) sc__law_names.nd rfl (Or.inl rfl)) (vss_cons (vs_set (i := 9) sc__law_names.nd rfl (Or.inl rfl) (by decide) (ve_ix ixv (vo_n (pv 2)) (vo_e (ve_op opv_mod (vo_e (ve_callT cv_int (by rfl) T.b_int bt_int (vos_cons (vo_e (ve_op opv_add (vo_n (pv 4)) (vo_e (ve_op opv_mul (vo_e (ve_int)) (vo_n (pv 8)))))) (vos_nil)))) (vo_e (ve_int)))))) (vss_cons (vs_set (i := 10) sc__law_names.nd rfl (Or.inl rfl) (by decide) (ve_fz (vn_lst (va_cons (ve_n (pv 9)) (va_cons (ve_op opv_add (vo_e (ve_op opv_add (vo_e (ve_op opv_mul (vo_e (ve_str)) (vo_n (pv 5)))) (vo_n (pv 9)))) (vo_e (ve_op opv_mul (vo_e (ve_str)) (vo_e (ve_op opv_sub (vo_e (ve_int)) (vo_n (pv 5))))))) (va_cons (ve_op opv_mul (vo_e (ve_ix ixv (vo_n (pv 2)) (vo_n (pv 4)))) (vo_e (ve_op opv_add (vo_e (ve_int)) (vo_e (ve_op opv_mod (vo_e (ve_callT cv_int (by rfl) T.b_int bt_int (vos_cons (vo_e (ve_op opv_add (vo_n (pv 5)) (vo_e (ve_op opv_mul (vo_e (ve_int)) (vo_n (pv 8)))))) (vos_nil)))) (vo_e (ve_int))))))) (va_nil))))))) (vss_one (vs_expr (ve_mt PySem.F.slot_list_append PySem.F.type_list_append mtv_append (pv 7) (va_cons (ve_ix ixv (vo_e (ve_op opv_add (vo_n (pv 10)) (vo_e (ve_fz (vn_lst (va_cons (ve_ix ixv (vo_n (pv 6)) (vo_e (ve_op opv_mod (vo_e (ve_callT cv_int (by rfl) T.b_int bt_int (vos_cons (vo_e (ve_op opv_add (vo_n (pv 5)) (vo_e (ve_op opv_mul (vo_e (ve_int)) (vo_n (pv 8)))))) (vos_nil)))) (vo_e (ve_int))))) (va_nil))))))) (vo_n (pv 3))) (va_nil)))))))) (vss_one (vs_ret (ve_n (pv 7))))))))
theorem bind__law_small (T : Txt K mg A) : Binds K A.g__law_small [("source" : Str)] [] := T.u__law_small.binds (ps := [("source" : Str)]) fun _ _ _ _ _ _ us hl => match us, hl with | [_], _ => rfl
theorem ok__law_small (T : Txt K mg A) : FnOk P w K mg base (L2.CX P w) 2 A.f__law_small A.g__law_small [("source" : Str)] (spV K mg d__law_small) :=
  fn_ok (k := 1) (N := N__law_small) (bs := [true]) (body := b__law_small) T.u__law_small sc__law_small rfl (by decide) fun cdv A' outer s H E hr => by
      have C := ec_fn (P := P) (w := w) (K := K) (mg := mg) (base := base) (N := N__law_small) (E := E) (outer := outer) (H := H) hr
      have pw := pw_fn (P := P) (w := w) (K := K) (mg := mg) (base := base) (N := N__law_small) (qual := ("_law_small" : Str)) (sc := defScope s__law_small) (f := A.f__law_small) (cdv := cdv) (A := A') (E := E) (outer := outer) (s := s) (H := H)
      exact vss_one (vs_ret (ve_op opv_sub (vo_e (ve_call C ⟨(ok__law_draw T), bind__law_draw T, T.u__law_draw.kp⟩ (by omega) (by rfl) T.m__law_draw (vos_cons (vo_n (pv 0)) (vos_cons (vo_e (ve_int)) (vos_nil))))) (vo_e (ve_int))))
theorem bind__law_leaf (T : Txt K mg A) : Binds K A.g__law_leaf [("source" : Str), ("names" : Str), ("power" : Str)] [] := T.u__law_leaf.binds (ps := [("source" : Str), ("names" : Str), ("power" : Str)]) fun _ _ _ _ _ _ us hl => match us, hl with | [_, _, _], _ => rfl
theorem ok__law_leaf (T : Txt K mg A) : FnOk P w K mg base (L2.CX P w) 3 A.f__law_leaf A.g__law_leaf [("source" : Str), ("names" : Str), ("power" : Str)] (spV K mg d__law_leaf) :=
  fn_ok (k := 2) (N := N__law_leaf) (bs := [true, false, false]) (body := b__law_leaf) T.u__law_leaf sc__law_leaf rfl (by decide) fun cdv A' outer s H E hr => by
      have C := ec_fn (P := P) (w := w) (K := K) (mg := mg) (base := base) (N := N__law_leaf) (E := E) (outer := outer) (H := H) hr
      have pw := pw_fn (P := P) (w := w) (K := K) (mg := mg) (base := base) (N := N__law_leaf) (qual := ("_law_leaf" : Str)) (sc := defScope s__law_leaf) (f := A.f__law_leaf) (cdv := cdv) (A := A') (E := E) (outer := outer) (s := s) (H := H)
      exact vss_cons (vs_if (vt_w (vw_or (vt_cmp (opv_eq C.units64) (vo_n (pv 2)) (vo_e (ve_int))) (vw_or (vt_cmp (opv_eq C.units64) (vo_n (pv 1)) (vo_e (ve_fz (vn_lst (va_nil))))) (vw_or1 (vt_cmp (opv_eq C.units64) (vo_e (ve_call C ⟨(ok__law_draw T), bind__law_draw T, T.u__law_draw.kp⟩ (by omega) (by rfl) T.m__law_draw (vos_cons (vo_n (pv 0)) (vos_cons (vo_e (ve_int)) (vos_nil))))) (vo_e (ve_int))))))) (vss_one (vs_ret (ve_tup (va_cons (ve_str) (va_cons (ve_call C ⟨(ok__law_small T), bind__law_small T, T.u__law_small.kp⟩ (by omega) (by rfl) T.m__law_small (vos_cons (vo_n (pv 0)) (vos_nil))) (va_nil)))))) (vss_nil)) (vss_one (vs_ret (ve_tup (va_cons (ve_str) (va_cons (ve_call C ⟨(ok__law_choice T), bind__law_choice T, T.u__law_choice.kp⟩ (by omega) (by rfl) T.m__law_choice (vos_cons (vo_n (pv 0)) (vos_cons (vo_e (ve_n (pv 1))) (vos_nil)))) (va_nil))))))
theorem bind__law_tree (T : Txt K mg A) : Binds K A.g__law_tree [("source" : Str), ("names" : Str), ("size" : Str), ("power" : Str)] [] := T.u__law_tree.binds (ps := [("source" : Str), ("names" : Str), ("size" : Str), ("power" : Str)]) fun _ _ _ _ _ _ us hl => match us, hl with | [_, _, _, _], _ => rfl
theorem ok__law_tree (T : Txt K mg A) : ∀ n : Nat, FnOk P w K mg base (L2.CX P w) (3 + n) A.f__law_tree A.g__law_tree [("source" : Str), ("names" : Str), ("size" : Str), ("power" : Str)] (spV K mg (d__law_tree n))
  | 0 => fn_stuck
  | n + 1 => fn_ok (k := 3 + n) (N := N__law_tree) (bs := [true, false, false, false]) (body := b__law_tree (d__law_tree n)) T.u__law_tree sc__law_tree rfl (by decide) fun cdv A' outer s H E hr => by
      have C := ec_fn (P := P) (w := w) (K := K) (mg := mg) (base := base) (N := N__law_tree) (E := E) (outer := outer) (H := H) hr
      have pw := pw_fn (P := P) (w := w) (K := K) (mg := mg) (base := base) (N := N__law_tree) (qual := ("_law_tree" : Str)) (sc := defScope s__law_tree) (f := A.f__law_tree) (cdv := cdv) (A := A') (E := E) (outer := outer) (s := s) (H := H)
      exact vss_cons (vs_if (vt_cmp (opv_eq C.units64) (vo_n (pv 2)) (vo_e (ve_int))) (vss_one (vs_ret (ve_call C ⟨(ok__law_leaf T), bind__law_leaf T, T.u__law_leaf.kp⟩ (by omega) (by rfl) T.m__law_leaf (vos_cons (vo_n (pv 0)) (vos_cons (vo_e (ve_n (pv 1))) (vos_cons (vo_e (ve_n (pv 3))) (vos_nil))))))) (vss_nil)) (vss_cons (vs_set (i := 4) sc__law_tree.nd rfl (Or.inl rfl) (by decide) (ve_call C ⟨(ok__law_choice T), bind__law_choice T, T.u__law_choice.kp⟩ (by omega) (by rfl) T.m__law_choice (vos_cons (vo_n (pv 0)) (vos_cons (vo_e (ve_fz (vn_lst (va_cons (ve_str) (va_cons (ve_str) (va_cons (ve_str) (va_nil))))))) (vos_nil))))) (vss_cons (vs_par (ks := [(5, ("one" : Str)), (6, ("first" : Str))]) rfl sc__law_tree.nd (by decide) (par_k rfl) (by decide) (vsl_val (ve_n (pv 3)) (vsl_val (ve_call C ⟨(ok__law_draw T), bind__law_draw T, T.u__law_draw.kp⟩ (by omega) (by rfl) T.m__law_draw (vos_cons (vo_n (pv 0)) (vos_cons (vo_e (ve_n (pv 2))) (vos_nil)))) (vsl_nil))) (by rfl)) (vss_cons (vs_if (vt_cmp (opv_gt) (vo_n (pv 2)) (vo_e (ve_int))) (vss_one (vs_set (i := 6) sc__law_tree.nd rfl (Or.inl rfl) (by decide) (ve_op opv_div (vo_e (ve_op opv_sub (vo_n (pv 2)) (vo_e (ve_int)))) (vo_e (ve_int))))) (vss_nil)) (vss_cons (vs_if (vt_cmp (opv_eq C.units64) (vo_n (pv 4)) (vo_e (ve_str))) (vss_one (vs_set (i := 5) sc__law_tree.nd rfl (Or.inl rfl) (by decide) (ve_call C ⟨(ok__law_draw T), bind__law_draw T, T.u__law_draw.kp⟩ (by omega) (by rfl) T.m__law_draw (vos_cons (vo_n (pv 0)) (vos_cons (vo_e (ve_op opv_add (vo_n (pv 3)) (vo_e (ve_int)))) (vos_nil)))))) (vss_nil)) (vss_cons (vs_set (i := 7) sc__law_tree.nd rfl (Or.inl rfl) (by decide) (ve_if (vt_cmp (opv_eq C.units64) (vo_n (pv 4)) (vo_e (ve_str))) (ve_op opv_sub (vo_n (pv 3)) (vo_n (pv 5))) (ve_n (pv 3)))) (vss_cons (vs_set (i := 8) sc__law_tree.nd rfl (Or.inl rfl) (by decide) (ve_call C ⟨(ok__law_tree T n), bind__law_tree T, T.u__law_tree.kp⟩ (by omega) (by rfl) T.m__law_tree (vos_cons (vo_n (pv 0)) (vos_cons (vo_e (ve_n (pv 1))) (vos_cons (vo_e (ve_n (pv 6))) (vos_cons (vo_e (ve_n (pv 5))) (vos_nil))))))) (vss_one (vs_ret (ve_tup (va_cons (ve_n (pv 4)) (va_cons (ve_n (pv 8)) (va_cons (ve_call C ⟨(ok__law_tree T n), bind__law_tree T, T.u__law_tree.kp⟩ (by omega) (by rfl) T.m__law_tree (vos_cons (vo_n (pv 0)) (vos_cons (vo_e (ve_n (pv 1))) (vos_cons (vo_e (ve_op opv_sub (vo_e (ve_op opv_sub (vo_n (pv 2)) (vo_e (ve_int)))) (vo_n (pv 6)))) (vos_cons (vo_e (ve_n (pv 7))) (vos_nil)))))) (va_nil)))))))))))))
theorem bind__law_formula (T : Txt K mg A) : Binds K A.g__law_formula [("source" : Str), ("names" : Str)] [] := T.u__law_formula.binds (ps := [("source" : Str), ("names" : Str)]) fun _ _ _ _ _ _ us hl => match us, hl with | [_, _], _ => rfl
theorem ok__law_formula (T : Txt K mg A) : FnOk P w K mg base (L2.CX P w) 24 A.f__law_formula A.g__law_formula [("source" : Str), ("names" : Str)] (spV K mg d__law_formula) :=
  fn_ok (k := 23) (N := N__law_formula) (bs := [true, false]) (body := b__law_formula) T.u__law_formula sc__law_formula rfl (by decide) fun cdv A' outer s H E hr => by
      have C := ec_fn (P := P) (w := w) (K := K) (mg := mg) (base := base) (N := N__law_formula) (E := E) (outer := outer) (H := H) hr
      have pw := pw_fn (P := P) (w := w) (K := K) (mg := mg) (base := base) (N := N__law_formula) (qual := ("_law_formula" : Str)) (sc := defScope s__law_formula) (f := A.f__law_formula) (cdv := cdv) (A := A') (E := E) (outer := outer) (s := s) (H := H)
      exact vss_cons (vs_if (vt_cmp (opv_eq C.units64) (vo_e (ve_call C ⟨(ok__law_draw T), bind__law_draw T, T.u__law_draw.kp⟩ (by omega) (by rfl) T.m__law_draw (vos_cons (vo_n (pv 0)) (vos_cons (vo_e (ve_int)) (vos_nil))))) (vo_e (ve_int))) (vss_one (vs_ret (ve_call C ⟨(ok__law_tree T 20), bind__law_tree T, T.u__law_tree.kp⟩ (by omega) (by rfl) T.m__law_tree (vos_cons (vo_n (pv 0)) (vos_cons (vo_e (ve_n (pv 1))) (vos_cons (vo_e (ve_op opv_add (vo_e (ve_int)) (vo_e (ve_call C ⟨(ok__law_draw T), bind__law_draw T, T.u__law_draw.kp⟩ (by omega) (by rfl) T.m__law_draw (vos_cons (vo_n (pv 0)) (vos_cons (vo_e (ve_int)) (vos_nil))))))) (vos_cons (vo_e (ve_int)) (vos_nil)))))))) (vss_nil)) (vss_one (vs_ret (ve_call C ⟨(ok__law_tree T 20), bind__law_tree T, T.u__law_tree.kp⟩ (by omega) (by rfl) T.m__law_tree (vos_cons (vo_n (pv 0)) (vos_cons (vo_e (ve_n (pv 1))) (vos_cons (vo_e (ve_call C ⟨(ok__law_draw T), bind__law_draw T, T.u__law_draw.kp⟩ (by omega) (by rfl) T.m__law_draw (vos_cons (vo_n (pv 0)) (vos_cons (vo_e (ve_int)) (vos_nil))))) (vos_cons (vo_e (ve_op opv_add (vo_e (ve_int)) (vo_e (ve_call C ⟨(ok__law_draw T), bind__law_draw T, T.u__law_draw.kp⟩ (by omega) (by rfl) T.m__law_draw (vos_cons (vo_n (pv 0)) (vos_cons (vo_e (ve_int)) (vos_nil))))))) (vos_nil))))))))
theorem bind__law_places (T : Txt K mg A) : Binds K A.g__law_places [("tree" : Str), ("place" : Str)] [] := T.u__law_places.binds (ps := [("tree" : Str), ("place" : Str)]) fun _ _ _ _ _ _ us hl => match us, hl with | [_, _], _ => rfl
theorem ok__law_places (T : Txt K mg A) : ∀ n : Nat, FnOk P w K mg base (L2.CX P w) (0 + n) A.f__law_places A.g__law_places [("tree" : Str), ("place" : Str)] (spV K mg (d__law_places n))
  | 0 => fn_stuck
  | n + 1 => fn_ok (k := 0 + n) (N := N__law_places) (bs := [false, false]) (body := b__law_places (d__law_places n)) T.u__law_places sc__law_places rfl (by decide) fun cdv A' outer s H E hr => by
      have C := ec_fn (P := P) (w := w) (K := K) (mg := mg) (base := base) (N := N__law_places) (E := E) (outer := outer) (H := H) hr
      have pw := pw_fn (P := P) (w := w) (K := K) (mg := mg) (base := base) (N := N__law_places) (qual := ("_law_places" : Str)) (sc := defScope s__law_places) (f := A.f__law_places) (cdv := cdv) (A := A') (E := E) (outer := outer) (s := s) (H := H)
      exact vss_cons (vs_set (i := 2) sc__law_places.nd rfl (Or.inl rfl) (by decide) (ve_fz (vn_lst (va_cons (ve_n (pv 1)) (va_nil))))) (vss_cons (vs_if (vt_cmp (opv_eq C.units64) (vo_e (ve_callB cv_len (by rfl) T.b_len bt_len (vos_cons (vo_n (pv 0)) (vos_nil)))) (vo_e (ve_int))) (vss_one (vs_set (i := 2) sc__law_places.nd rfl (Or.inl rfl) (by decide) (ve_op opv_add (vo_e (ve_op opv_add (vo_n (pv 2)) (vo_e (ve_call C ⟨(ok__law_places T n), bind__law_places T, T.u__law_places.kp⟩ (by omega) (by rfl) T.m__law_places (vos_cons (vo_e (ve_ix ixv (vo_n (pv 0)) (vo_e (ve_int)))) (vos_cons (vo_e (ve_op opv_add (vo_n (pv 1)) (vo_e (ve_fz (vn_lst (va_cons (ve_int) (va_nil))))))) (vos_nil))))))) (vo_e (ve_call C ⟨(ok__law_places T n), bind__law_places T, T.u__law_places.kp⟩ (by omega) (by rfl) T.m__law_places (vos_cons (vo_e (ve_ix ixv (vo_n (pv 0)) (vo_e (ve_int)))) (vos_cons (vo_e (ve_op opv_add (vo_n (pv 1)) (vo_e (ve_fz (vn_lst (va_cons (ve_int) (va_nil))))))) (vos_nil)))))))) (vss_nil)) (vss_one (vs_ret (ve_n (pv 2)))))
theorem bind__law_at (T : Txt K mg A) : Binds K A.g__law_at [("value" : Str), ("place" : Str)] [] := T.u__law_at.binds (ps := [("value" : Str), ("place" : Str)]) fun _ _ _ _ _ _ us hl => match us, hl with | [_, _], _ => rfl
theorem ok__law_at (T : Txt K mg A) : FnOk P w K mg base (L2.CX P w) 1 A.f__law_at A.g__law_at [("value" : Str), ("place" : Str)] (spV K mg d__law_at) :=
  fn_ok (k := 0) (N := N__law_at) (bs := [false, false]) (body := b__law_at) T.u__law_at sc__law_at rfl (by decide) fun cdv A' outer s H E hr => by
      have C := ec_fn (P := P) (w := w) (K := K) (mg := mg) (base := base) (N := N__law_at) (E := E) (outer := outer) (H := H) hr
      have pw := pw_fn (P := P) (w := w) (K := K) (mg := mg) (base := base) (N := N__law_at) (qual := ("_law_at" : Str)) (sc := defScope s__law_at) (f := A.f__law_at) (cdv := cdv) (A := A') (E := E) (outer := outer) (s := s) (H := H)
      exact vss_cons (vs_set (i := 2) sc__law_at.nd rfl (Or.inl rfl) (by decide) (ve_n (pv 0))) (vss_cons (vs_for pw rfl (by decide) (vi_seq (ve_n (pv 1))) (vg_name (i := 3) sc__law_at.nd rfl (Or.inl rfl)) (vss_one (vs_set (i := 2) sc__law_at.nd rfl (Or.inl rfl) (by decide) (ve_ix ixv (vo_n (pv 2)) (vo_n (pv 3)))))) (vss_one (vs_ret (ve_n (pv 2)))))
theorem bind__law_put (T : Txt K mg A) : Binds K A.g__law_put [("value" : Str), ("place" : Str), ("other" : Str)] [] := T.u__law_put.binds (ps := [("value" : Str), ("place" : Str), ("other" : Str)]) fun _ _ _ _ _ _ us hl => match us, hl with | [_, _, _], _ => rfl
theorem ok__law_put (T : Txt K mg A) : ∀ n : Nat, FnOk P w K mg base (L2.CX P w) (0 + n) A.f__law_put A.g__law_put [("value" : Str), ("place" : Str), ("other" : Str)] (spV K mg (d__law_put n))
  | 0 => fn_stuck
  | n + 1 => fn_ok (k := 0 + n) (N := N__law_put) (bs := [false, false, false]) (body := b__law_put (d__law_put n)) T.u__law_put sc__law_put rfl (by decide) fun cdv A' outer s H E hr => by
      have C := ec_fn (P := P) (w := w) (K := K) (mg := mg) (base := base) (N := N__law_put) (E := E) (outer := outer) (H := H) hr
      have pw := pw_fn (P := P) (w := w) (K := K) (mg := mg) (base := base) (N := N__law_put) (qual := ("_law_put" : Str)) (sc := defScope s__law_put) (f := A.f__law_put) (cdv := cdv) (A := A') (E := E) (outer := outer) (s := s) (H := H)
      exact vss_cons (vs_if (vt_cmp (opv_eq C.units64) (vo_e (ve_callB cv_len (by rfl) T.b_len bt_len (vos_cons (vo_n (pv 1)) (vos_nil)))) (vo_e (ve_int))) (vss_one (vs_ret (ve_n (pv 2)))) (vss_nil)) (vss_cons (vs_set (i := 3) sc__law_put.nd rfl (Or.inl rfl) (by decide) (ve_ix ixv (vo_n (pv 1)) (vo_e (ve_int)))) (vss_one (vs_ret (ve_op opv_add (vo_e (ve_op opv_add (vo_e (ve_slice slv (vo_n (pv 0)) (vp_none) (vp_some (ve_n (pv 3))))) (vo_e (ve_tup (va_cons (ve_call C ⟨(ok__law_put T n), bind__law_put T, T.u__law_put.kp⟩ (by omega) (by rfl) T.m__law_put (vos_cons (vo_e (ve_ix ixv (vo_n (pv 0)) (vo_n (pv 3)))) (vos_cons (vo_e (ve_slice slv (vo_n (pv 1)) (vp_some (ve_int)) (vp_none))) (vos_cons (vo_e (ve_n (pv 2))) (vos_nil))))) (va_nil)))))) (vo_e (ve_slice slv (vo_n (pv 0)) (vp_some (ve_op opv_add (vo_n (pv 3)) (vo_e (ve_int)))) (vp_none)))))))
theorem bind__law_odd (T : Txt K mg A) : Binds K A.g__law_odd [("source" : Str), ("node" : Str)] [] := T.u__law_odd.binds (ps := [("source" : Str), ("node" : Str)]) fun _ _ _ _ _ _ us hl => match us, hl with | [_, _], _ => rfl
theorem ok__law_odd (T : Txt K mg A) : FnOk P w K mg base (L2.CX P w) 3 A.f__law_odd A.g__law_odd [("source" : Str), ("node" : Str)] (spV K mg d__law_odd) :=
  fn_ok (k := 2) (N := N__law_odd) (bs := [true, false]) (body := b__law_odd) T.u__law_odd sc__law_odd rfl (by decide) fun cdv A' outer s H E hr => by
      have C := ec_fn (P := P) (w := w) (K := K) (mg := mg) (base := base) (N := N__law_odd) (E := E) (outer := outer) (H := H) hr
      have pw := pw_fn (P := P) (w := w) (K := K) (mg := mg) (base := base) (N := N__law_odd) (qual := ("_law_odd" : Str)) (sc := defScope s__law_odd) (f := A.f__law_odd) (cdv := cdv) (A := A') (E := E) (outer := outer) (s := s) (H := H)
      exact vss_cons (vs_set (i := 2) sc__law_odd.nd rfl (Or.inl rfl) (by decide) (ve_fz (vn_lst (va_cons (ve_tup (va_cons (ve_str) (va_cons (ve_bl) (va_nil)))) (va_cons (ve_tup (va_cons (ve_str) (va_cons (ve_op opv_pow (vo_e (ve_int)) (vo_e (ve_int))) (va_nil)))) (va_cons (ve_tup (va_cons (ve_str) (va_cons (ve_str) (va_nil)))) (va_cons (ve_tup (va_cons (ve_str) (va_nil))) (va_cons (ve_tup (va_cons (ve_str) (va_cons (ve_str) (va_nil)))) (va_cons (ve_tup (va_cons (ve_str) (va_cons (ve_str) (va_nil)))) (va_cons (ve_tup (va_cons (ve_str) (va_cons (ve_int) (va_nil)))) (va_nil))))))))))) (vss_cons (vs_set (i := 2) sc__law_odd.nd rfl (Or.inl rfl) (by decide) (ve_op opv_add (vo_n (pv 2)) (vo_e (ve_fz (vn_lst (va_cons (ve_tup (va_cons (ve_str) (va_cons (ve_str) (va_nil)))) (va_cons (ve_tup (va_cons (ve_str) (va_cons (ve_str) (va_nil)))) (va_cons (ve_tup (va_cons (ve_str) (va_cons (ve_str) (va_nil)))) (va_cons (ve_fz (vn_callT cn_list (by rfl) T.b_list bt_list (vos_cons (vo_n (pv 1)) (vos_nil)))) (va_cons (ve_tup (va_cons (ve_str) (va_cons (ve_int) (va_cons (ve_int) (va_nil))))) (va_cons (ve_tup (va_cons (ve_str) (va_cons (ve_n (pv 1)) (va_cons (ve_n (pv 1)) (va_nil))))) (va_nil)))))))))))) (vss_cons (vs_set (i := 2) sc__law_odd.nd rfl (Or.inl rfl) (by decide) (ve_op opv_add (vo_n (pv 2)) (vo_e (ve_fz (vn_lst (va_cons (ve_tup (va_cons (ve_str) (va_cons (ve_n (pv 1)) (va_nil)))) (va_cons (ve_tup (va_cons (ve_str) (va_cons (ve_n (pv 1)) (va_cons (ve_n (pv 1)) (va_cons (ve_n (pv 1)) (va_nil)))))) (va_cons (ve_non) (va_cons (ve_int) (va_cons (ve_str) (va_cons (ve_tup (va_nil)) (va_cons (ve_tup (va_cons (ve_str) (va_cons (ve_str) (va_nil)))) (va_cons (ve_tup (va_cons (ve_str) (va_cons (ve_n (pv 1)) (va_nil)))) (va_cons (ve_tup (va_cons (ve_str) (va_cons (ve_str) (va_nil)))) (va_nil))))))))))))))) (vss_cons (vs_set (i := 2) sc__law_odd.nd rfl (Or.inl rfl) (by decide) (ve_op opv_add (vo_n (pv 2)) (vo_e (ve_fz (vn_lst (va_cons (ve_tup (va_cons (ve_str) (va_cons (ve_n (pv 1)) (va_cons (ve_int) (va_nil))))) (va_cons (ve_tup (va_cons (ve_str) (va_cons (ve_str) (va_cons (ve_n (pv 1)) (va_nil))))) (va_cons (ve_tup (va_cons (ve_str) (va_cons (ve_n (pv 1)) (va_cons (ve_n (pv 1)) (va_nil))))) (va_cons (ve_tup (va_cons (ve_str) (va_cons (ve_non) (va_nil)))) (va_cons (ve_tup (va_cons (ve_str) (va_cons (ve_tup (va_cons (ve_str) (va_nil))) (va_nil)))) (va_cons (ve_tup (va_cons (ve_int) (va_cons (ve_int) (va_nil)))) (va_cons (ve_bl) (va_nil))))))))))))) (vss_one (vs_ret (ve_call C ⟨(ok__law_choice T), bind__law_choice T, T.u__law_choice.kp⟩ (by omega) (by rfl) T.m__law_choice (vos_cons (vo_n (pv 0)) (vos_cons (vo_e (ve_op opv_add (vo_n (pv 2)) (vo_e (ve_fz (vn_lst (va_cons (ve_tup (va_cons (ve_str) (va_cons (ve_op opv_sub (vo_e (ve_int)) (vo_e (ve_op opv_pow (vo_e (ve_int)) (vo_e (ve_int))))) (va_nil)))) (va_cons (ve_tup (va_cons (ve_str) (va_cons (ve_str) (va_cons (ve_str) (va_nil))))) (va_cons (ve_tup (va_cons (ve_str) (va_nil))) (va_cons (ve_tup (va_cons (ve_str) (va_cons (ve_n (pv 1)) (va_cons (ve_n (pv 1)) (va_nil))))) (va_cons (ve_fz (vn_lst (va_cons (ve_n (pv 1)) (va_nil)))) (va_nil))))))))))) (vos_nil)))))))))
theorem bind__law_chain (T : Txt K mg A) : Binds K A.g__law_chain [("source" : Str), ("many" : Str), ("sign" : Str), ("leaf" : Str)] [] := T.u__law_chain.binds (ps := [("source" : Str), ("many" : Str), ("sign" : Str), ("leaf" : Str)]) fun _ _ _ _ _ _ us hl => match us, hl with | [_, _, _, _], _ => rfl
theorem ok__law_chain (T : Txt K mg A) : FnOk P w K mg base (L2.CX P w) 2 A.f__law_chain A.g__law_chain [("source" : Str), ("many" : Str), ("sign" : Str), ("leaf" : Str)] (spV K mg d__law_chain) :=
  fn_ok (k := 1) (N := N__law_chain) (bs := [true, false, false, false]) (body := b__law_chain) T.u__law_chain sc__law_chain rfl (by decide) fun cdv A' outer s H E hr => by
      have C := ec_fn (P := P) (w := w) (K := K) (mg := mg) (base := base) (N := N__law_chain) (E := E) (outer := outer) (H := H) hr
      have pw := pw_fn (P := P) (w := w) (K := K) (mg := mg) (base := base) (N := N__law_chain) (qual := ("_law_chain" : Str)) (sc := defScope s__law_chain) (f := A.f__law_chain) (cdv := cdv) (A := A') (E := E) (outer := outer) (s := s) (H := H)
      exact vss_cons (vs_set (i := 4) sc__law_chain.nd rfl (Or.inl rfl) (by decide) (ve_n (pv 3))) (vss_cons (vs_for pw rfl (by decide) (vi_range1 (by rfl) T.b_range (vos_cons (vo_n (pv 1)) (vos_nil))) (vg_name (i := 5) sc__law_chain.nd rfl (Or.inl rfl)) (vss_one (vs_set (i := 4) sc__law_chain.nd rfl (Or.inl rfl) (by decide) (ve_if (vt_cmp (opv_eq C.units64) (vo_e (ve_call C ⟨(ok__law_draw T), bind__law_draw T, T.u__law_draw.kp⟩ (by omega) (by rfl) T.m__law_draw (vos_cons (vo_n (pv 0)) (vos_cons (vo_e (ve_int)) (vos_nil))))) (vo_e (ve_int))) (ve_tup (va_cons (ve_n (pv 2)) (va_cons (ve_n (pv 4)) (va_cons (ve_n (pv 3)) (va_nil))))) (ve_tup (va_cons (ve_n (pv 2)) (va_cons (ve_n (pv 3)) (va_cons (ve_n (pv 4)) (va_nil))))))))) (vss_one (vs_ret (ve_n (pv 4)))))
theorem bind__law_row (T : Txt K mg A) : Binds K A.g__law_row [("leaf" : Str), ("many" : Str), ("sign" : Str)] [] := T.u__law_row.binds (ps := [("leaf" : Str), ("many" : Str), ("sign" : Str)]) fun _ _ _ _ _ _ us hl => match us, hl with | [_, _, _], _ => rfl
theorem ok__law_row (T : Txt K mg A) : FnOk P w K mg base (L2.CX P w) 1 A.f__law_row A.g__law_row [("leaf" : Str), ("many" : Str), ("sign" : Str)] (spV K mg d__law_row) :=
  fn_ok (k := 0) (N := N__law_row) (bs := [false, false, false]) (body := b__law_row) T.u__law_row sc__law_row rfl (by decide) fun cdv A' outer s H E hr => by
      have C := ec_fn (P := P) (w := w) (K := K) (mg := mg) (base := base) (N := N__law_row) (E := E) (outer := outer) (H := H) hr
      have pw := pw_fn (P := P) (w := w) (K := K) (mg := mg) (base := base) (N := N__law_row) (qual := ("_law_row" : Str)) (sc := defScope s__law_row) (f := A.f__law_row) (cdv := cdv) (A := A') (E := E) (outer := outer) (s := s) (H := H)
      exact vss_cons (vs_set (i := 3) sc__law_row.nd rfl (Or.inr rfl) (by decide) (ve_fz (vn_op on_mulL (vo_e (ve_fz (vn_lst (va_cons (ve_n (pv 0)) (va_nil))))) (vo_n (pv 1))))) (vss_cons (vs_while FU pw (vt_cmp (opv_gt) (vo_e (ve_callB cv_len (by rfl) T.b_len bt_len (vos_cons (vo_n (pv 3)) (vos_nil)))) (vo_e (ve_int))) (vss_one (vs_set (i := 3) sc__law_row.nd rfl (Or.inr rfl) (by decide) (ve_op opv_add (vo_e (ve_fz (vn_lc (own := [(("k" : Str), 4)]) rfl sc__law_row.nd (vi_range1 (by rfl) T.b_range (vos_cons (vo_e (ve_op opv_div (vo_e (ve_callB cv_len (by rfl) T.b_len bt_len (vos_cons (vo_n (pv 3)) (vos_nil)))) (vo_e (ve_int)))) (vos_nil))) (blkOk_by (N := N__law_row) (sc := defScope s__law_row) (by decide +kernel)) (by decide) (fun s3 H3 C3 cl3 fp3 => vg_name (i := 4) sc__law_row.nd rfl (Or.inl rfl)) (fun s3 H3 C3 cl3 fp3 => vts_nil) (fun s3 H3 C3 cl3 fp3 => ve_tup (va_cons (ve_n (pv 2)) (va_cons (ve_ix ixv (vo_n (pv 3)) (vo_e (ve_op opv_mul (vo_e (ve_int)) (vo_n (pv 4))))) (va_cons (ve_ix ixv (vo_n (pv 3)) (vo_e (ve_op opv_add (vo_e (ve_op opv_mul (vo_e (ve_int)) (vo_n (pv 4)))) (vo_e (ve_int))))) (va_nil)))))))) (vo_e (ve_slice slv (vo_n (pv 3)) (vp_some (ve_op opv_mul (vo_e (ve_op opv_div (vo_e (ve_callB cv_len (by rfl) T.b_len bt_len (vos_cons (vo_n (pv 3)) (vos_nil)))) (vo_e (ve_int)))) (vo_e (ve_int)))) (vp_none))))))) (vss_one (vs_ret (ve_ix ixv (vo_n (pv 3)) (vo_e (ve_int))))))
theorem bind__law_bounds_right (T : Txt K mg A) : Binds K A.g__law_bounds_right [("source" : Str), ("name" : Str)] [] := T.u__law_bounds_right.binds (ps := [("source" : Str), ("name" : Str)]) fun _ _ _ _ _ _ us hl => match us, hl with | [_, _], _ => rfl
theorem ok__law_bounds_right (T : Txt K mg A) : FnOk P w K mg base (L2.CX P w) 16 A.f__law_bounds_right A.g__law_bounds_right [("source" : Str), ("name" : Str)] (spV K mg d__law_bounds_right) :=
  fn_ok (k := 15) (N := N__law_bounds_right) (bs := [true, false]) (body := b__law_bounds_right) T.u__law_bounds_right sc__law_bounds_right rfl (by decide) fun cdv A' outer s H E hr => by
      have C := ec_fn (P := P) (w := w) (K := K) (mg := mg) (base := base) (N := N__law_bounds_right) (E := E) (outer := outer) (H := H) hr
      have pw := pw_fn (P := P) (w := w) (K := K) (mg := mg) (base := base) (N := N__law_bounds_right) (qual := ("_law_bounds_right" : Str)) (sc := defScope s__law_bounds_right) (f := A.f__law_bounds_right) (cdv := cdv) (A := A') (E := E) (outer := outer) (s := s) (H := H)
      exact vss_cons (vs_par (ks := [(2, ("one" : Str)), (3, ("ten" : Str))]) rfl sc__law_bounds_right.nd (by decide) (par_k rfl) (by decide) (vsl_val (ve_tup (va_cons (ve_str) (va_cons (ve_n (pv 1)) (va_nil)))) (vsl_val (ve_tup (va_cons (ve_str) (va_cons (ve_op opv_sub (vo_e (ve_op opv_pow (vo_e (ve_int)) (vo_e (ve_int)))) (vo_e (ve_int))) (va_nil)))) (vsl_nil))) (by rfl)) (vss_cons (vs_setN (i := 4) sc__law_bounds_right.nd rfl (Or.inl rfl) (by decide) (vn_lst (va_cons (ve_tup (va_cons (ve_call C ⟨(ok__law_chain T), bind__law_chain T, T.u__law_chain.kp⟩ (by omega) (by rfl) T.m__law_chain (vos_cons (vo_n (pv 0)) (vos_cons (vo_e (ve_int)) (vos_cons (vo_e (ve_str)) (vos_cons (vo_e (ve_n (pv 2))) (vos_nil)))))) (va_cons (ve_bl) (va_nil)))) (va_cons (ve_tup (va_cons (ve_call C ⟨(ok__law_chain T), bind__law_chain T, T.u__law_chain.kp⟩ (by omega) (by rfl) T.m__law_chain (vos_cons (vo_n (pv 0)) (vos_cons (vo_e (ve_int)) (vos_cons (vo_e (ve_str)) (vos_cons (vo_e (ve_n (pv 2))) (vos_nil)))))) (va_cons (ve_bl) (va_nil)))) (va_nil))))) (vss_cons (vs_setN (i := 4) sc__law_bounds_right.nd rfl (Or.inl rfl) (by decide) (vn_op opn_add (vo_n (pv 4)) (vo_e (ve_fz (vn_lst (va_cons (ve_tup (va_cons (ve_call C ⟨(ok__law_row T), bind__law_row T, T.u__law_row.kp⟩ (by omega) (by rfl) T.m__law_row (vos_cons (vo_e (ve_n (pv 2))) (vos_cons (vo_e (ve_int)) (vos_cons (vo_e (ve_str)) (vos_nil))))) (va_cons (ve_bl) (va_nil)))) (va_cons (ve_tup (va_cons (ve_call C ⟨(ok__law_row T), bind__law_row T, T.u__law_row.kp⟩ (by omega) (by rfl) T.m__law_row (vos_cons (vo_e (ve_n (pv 2))) (vos_cons (vo_e (ve_int)) (vos_cons (vo_e (ve_str)) (vos_nil))))) (va_cons (ve_bl) (va_nil)))) (va_cons (ve_tup (va_cons (ve_call C ⟨(ok__law_row T), bind__law_row T, T.u__law_row.kp⟩ (by omega) (by rfl) T.m__law_row (vos_cons (vo_e (ve_n (pv 2))) (vos_cons (vo_e (ve_int)) (vos_cons (vo_e (ve_str)) (vos_nil))))) (va_cons (ve_bl) (va_nil)))) (va_nil))))))))) (vss_cons (vs_setN (i := 4) sc__law_bounds_right.nd rfl (Or.inl rfl) (by decide) (vn_op opn_add (vo_n (pv 4)) (vo_e (ve_fz (vn_lst (va_cons (ve_tup (va_cons (ve_call C ⟨(ok__law_row T), bind__law_row T, T.u__law_row.kp⟩ (by omega) (by rfl) T.m__law_row (vos_cons (vo_e (ve_n (pv 2))) (vos_cons (vo_e (ve_int)) (vos_cons (vo_e (ve_str)) (vos_nil))))) (va_cons (ve_bl) (va_nil)))) (va_cons (ve_tup (va_cons (ve_call C ⟨(ok__law_row T), bind__law_row T, T.u__law_row.kp⟩ (by omega) (by rfl) T.m__law_row (vos_cons (vo_e (ve_n (pv 3))) (vos_cons (vo_e (ve_int)) (vos_cons (vo_e (ve_str)) (vos_nil))))) (va_cons (ve_bl) (va_nil)))) (va_cons (ve_tup (va_cons (ve_tup (va_cons (ve_str) (va_cons (ve_op opv_sub (vo_e (ve_int)) (vo_e (ve_op opv_pow (vo_e (ve_int)) (vo_e (ve_int))))) (va_nil)))) (va_cons (ve_bl) (va_nil)))) (va_nil))))))))) (vss_cons (vs_setN (i := 4) sc__law_bounds_right.nd rfl (Or.inl rfl) (by decide) (vn_op opn_add (vo_n (pv 4)) (vo_e (ve_fz (vn_lst (va_cons (ve_tup (va_cons (ve_tup (va_cons (ve_str) (va_cons (ve_str) (va_nil)))) (va_cons (ve_bl) (va_nil)))) (va_cons (ve_tup (va_cons (ve_tup (va_cons (ve_str) (va_cons (ve_call C ⟨(ok__law_row T), bind__law_row T, T.u__law_row.kp⟩ (by omega) (by rfl) T.m__law_row (vos_cons (vo_e (ve_n (pv 2))) (vos_cons (vo_e (ve_int)) (vos_cons (vo_e (ve_str)) (vos_nil))))) (va_cons (ve_call C ⟨(ok__law_row T), bind__law_row T, T.u__law_row.kp⟩ (by omega) (by rfl) T.m__law_row (vos_cons (vo_e (ve_n (pv 2))) (vos_cons (vo_e (ve_int)) (vos_cons (vo_e (ve_str)) (vos_nil))))) (va_nil))))) (va_cons (ve_bl) (va_nil)))) (va_nil)))))))) (vss_cons (vs_expr (ve_mt PySem.F.slot_list_append PySem.F.type_list_append mtv_append (pv 4) (va_cons (ve_tup (va_cons (ve_tup (va_cons (ve_str) (va_cons (ve_call C ⟨(ok__law_row T), bind__law_row T, T.u__law_row.kp⟩ (by omega) (by rfl) T.m__law_row (vos_cons (vo_e (ve_n (pv 2))) (vos_cons (vo_e (ve_int)) (vos_cons (vo_e (ve_str)) (vos_nil))))) (va_cons (ve_tup (va_cons (ve_str) (va_cons (ve_n (pv 3)) (va_cons (ve_n (pv 2)) (va_nil))))) (va_nil))))) (va_cons (ve_bl) (va_nil)))) (va_nil)))) (vss_one (vs_ret (ve_callB (cv_all rfl) (by rfl) T.b_all bt_all (vos_cons (vo_e (ve_fz (vn_lc (own := [(("value" : Str), 5), (("due" : Str), 6)]) rfl sc__law_bounds_right.nd (vi_seq (ve_n (pv 4))) (blkOk_by (N := N__law_bounds_right) (sc := defScope s__law_bounds_right) (by decide +kernel)) (by decide) (fun s3 H3 C3 cl3 fp3 => vg_tup rfl (vgs_cons (vg_name (i := 5) sc__law_bounds_right.nd rfl (Or.inl rfl)) (vgs_cons (vg_name (i := 6) sc__law_bounds_right.nd rfl (Or.inl rfl)) (vgs_nil)))) (fun s3 H3 C3 cl3 fp3 => vts_nil) (fun s3 H3 C3 cl3 fp3 => ve_call (EC.blk C s3 H3 _ _ fp3) ⟨(ok__law_equal T 12), bind__law_equal T, T.u__law_equal.kp⟩ (by omega) (by rfl) T.m__law_equal (vos_cons (vo_e (ve_call (EC.blk C s3 H3 _ _ fp3) ⟨(ok_is_formula T), bind_is_formula T, T.u_is_formula.kp⟩ (by omega) (by rfl) T.m_is_formula (vos_cons (vo_e (ve_n (pv 5))) (vos_nil)))) (vos_cons (vo_e (ve_n (pv 6))) (vos_nil))))))) (vos_nil))))))))))
theorem bind_law (T : Txt K mg A) : Binds K A.g_law [("script" : Str)] [] := T.u_law.binds (ps := [("script" : Str)]) fun _ _ _ _ _ _ us hl => match us, hl with | [_], _ => rfl
theorem ok_law (T : Txt K mg A) : FnOk P w K mg base (L2.CX P w) 25 A.f_law A.g_law [("script" : Str)] (spV K mg d_law) :=
  fn_ok (k := 24) (N := N_law) (bs := [false]) (body := b_law) T.u_law sc_law rfl (by decide) fun cdv A' outer s H E hr => by
      have C := ec_fn (P := P) (w := w) (K := K) (mg := mg) (base := base) (N := N_law) (E := E) (outer := outer) (H := H) hr
      have pw := pw_fn (P := P) (w := w) (K := K) (mg := mg) (base := base) (N := N_law) (qual := ("law" : Str)) (sc := defScope s_law) (f := A.f_law) (cdv := cdv) (A := A') (E := E) (outer := outer) (s := s) (H := H)
      exact vss_cons (vs_for pw rfl (by decide) (vi_seq (ve_slice slv (vo_e (ve_op opv_add (vo_e (ve_fz (vn_lst (va_cons (ve_int) (va_nil))))) (vo_n (pv 0)))) (vp_none) (vp_some (ve_int)))) (vg_name (i := 1) sc_law.nd rfl (Or.inl rfl)) (vss_cons (vs_setN (i := 2) sc_law.nd rfl (Or.inl rfl) (by decide) (vn_call C ⟨(ok__law_source T), bind__law_source T, T.u__law_source.kp⟩ (by omega) (by rfl) T.m__law_source (vos_cons (vo_e (ve_n (pv 1))) (vos_cons (vo_e (ve_int)) (vos_nil))))) (vss_cons (vs_set (i := 3) sc_law.nd rfl (Or.inl rfl) (by decide) (ve_call C ⟨(ok__law_names T), bind__law_names T, T.u__law_names.kp⟩ (by omega) (by rfl) T.m__law_names (vos_cons (vo_n (pv 2)) (vos_cons (vo_e (ve_op opv_add (vo_e (ve_int)) (vo_e (ve_call C ⟨(ok__law_draw T), bind__law_draw T, T.u__law_draw.kp⟩ (by omega) (by rfl) T.m__law_draw (vos_cons (vo_n (pv 2)) (vos_cons (vo_e (ve_int)) (vos_nil))))))) (vos_nil))))) (vss_cons (vs_set (i := 4) sc_law.nd rfl (Or.inl rfl) (by decide) (ve_call C ⟨(ok__law_formula T), bind__law_formula T, T.u__law_formula.kp⟩ (by omega) (by rfl) T.m__law_formula (vos_cons (vo_n (pv 2)) (vos_cons (vo_e (ve_n (pv 3))) (vos_nil))))) (vss_cons (vs_if (vt_w (vw_or (vt_not (vt_val (ve_call C ⟨(ok__law_equal T 12), bind__law_equal T, T.u__law_equal.kp⟩ (by omega) (by rfl) T.m__law_equal (vos_cons (vo_e (ve_call C ⟨(ok_is_formula T), bind_is_formula T, T.u_is_formula.kp⟩ (by omega) (by rfl) T.m_is_formula (vos_cons (vo_e (ve_n (pv 4))) (vos_nil)))) (vos_cons (vo_e (ve_bl)) (vos_nil)))))) (vw_or1 (vt_not (vt_val (ve_call C ⟨(ok__law_bounds_right T), bind__law_bounds_right T, T.u__law_bounds_right.kp⟩ (by omega) (by rfl) T.m__law_bounds_right (vos_cons (vo_n (pv 2)) (vos_cons (vo_e (ve_ix ixv (vo_n (pv 3)) (vo_e (ve_int)))) (vos_nil))))))))) (vss_one (vs_ret (ve_bl))) (vss_nil)) (vss_one (vs_for pw rfl (by decide) (vi_range1 (by rfl) T.b_range (vos_cons (vo_e (ve_int)) (vos_nil))) (vg_name (i := 5) sc_law.nd rfl (Or.inl rfl)) (vss_cons (vs_set (i := 6) sc_law.nd rfl (Or.inl rfl) (by decide) (ve_call C ⟨(ok__law_choice T), bind__law_choice T, T.u__law_choice.kp⟩ (by omega) (by rfl) T.m__law_choice (vos_cons (vo_n (pv 2)) (vos_cons (vo_e (ve_call C ⟨(ok__law_places T 14), bind__law_places T, T.u__law_places.kp⟩ (by omega) (by rfl) T.m__law_places (vos_cons (vo_e (ve_n (pv 4))) (vos_cons (vo_e (ve_fz (vn_lst (va_nil)))) (vos_nil))))) (vos_nil))))) (vss_cons (vs_set (i := 7) sc_law.nd rfl (Or.inl rfl) (by decide) (ve_call C ⟨(ok__law_put T 14), bind__law_put T, T.u__law_put.kp⟩ (by omega) (by rfl) T.m__law_put (vos_cons (vo_e (ve_n (pv 4))) (vos_cons (vo_e (ve_n (pv 6))) (vos_cons (vo_e (ve_call C ⟨(ok__law_odd T), bind__law_odd T, T.u__law_odd.kp⟩ (by omega) (by rfl) T.m__law_odd (vos_cons (vo_n (pv 2)) (vos_cons (vo_e (ve_call C ⟨(ok__law_at T), bind__law_at T, T.u__law_at.kp⟩ (by omega) (by rfl) T.m__law_at (vos_cons (vo_e (ve_n (pv 4))) (vos_cons (vo_e (ve_n (pv 6))) (vos_nil))))) (vos_nil))))) (vos_nil)))))) (vss_one (vs_if (vt_not (vt_val (ve_call C ⟨(ok__law_equal T 12), bind__law_equal T, T.u__law_equal.kp⟩ (by omega) (by rfl) T.m__law_equal (vos_cons (vo_e (ve_call C ⟨(ok_is_formula T), bind_is_formula T, T.u_is_formula.kp⟩ (by omega) (by rfl) T.m_is_formula (vos_cons (vo_e (ve_n (pv 7))) (vos_nil)))) (vos_cons (vo_e (ve_bl)) (vos_nil)))))) (vss_one (vs_ret (ve_bl))) (vss_nil)))))))))))) (vss_one (vs_ret (ve_bl)))
end
end VL
set_option Elab.async false
set_option linter.all false
set_option maxRecDepth 100000
set_option maxHeartbeats 2000000
namespace VL
open PySem PySem.Spec L2
/-! ### the law's draws -/
def Src (t : Nat) (o : OV) : Prop := ∃ a b c : Int, o = .lst [.int a, .int b, .int c] ∧ 0 ≤ b ∧ b < 2147483579 ∧ 0 ≤ c ∧ c ≤ t
theorem Src.mono {t t' : Nat} {o : OV} (h : Src t o) (l : t ≤ t') : Src t' o := by
  obtain ⟨a, b, c, e, h1, h2, h3, h4⟩ := h
  exact ⟨a, b, c, e, h1, h2, h3, by omega⟩
theorem draw_wp {t : Nat} {o : OV} {n : Int} {Q : Rt × List Slot → Prop} {E : Ex → List Slot → Prop} (h : Src t o) (ht : t ≤ 2 ^ 40) (hn : 0 < n) (hn2 : n < 2 ^ 60)
    (k : ∀ r o', 0 ≤ r → r < n → Src (t + 1) o' → Q (.val (.int r), [.own o', .val (.int n)])) : (d__law_draw [.own o, .val (.int n)]).wp Q E := by
  obtain ⟨a, b, c, rfl, h1, h2, h3, h4⟩ := h
  have fm : ∀ m : Int, 0 ≤ m.fmod n ∧ m.fmod n < n := fun m => ⟨Int.fmod_nonneg_of_pos m hn, Int.fmod_lt_of_pos m hn⟩
  have n0 : n ≠ 0 := by omega
  have dv : divOk n := divOk_of hn (by omega)
  unfold d__law_draw
  rw [dFn_wp]
  refine ⟨rfl, ?_⟩
  simp [b__law_draw, ixN]
  split
  · exact ⟨n0, dv, k _ _ (fm _).1 (fm _).2 ⟨_, _, _, rfl, h1, h2, h3, by omega⟩⟩
  · have q1 := Int.fmod_nonneg_of_pos ((b + 15485867 * (c + 1)) ^ 5) (b := 2147483647) (by decide)
    have q2 := Int.fmod_lt_of_pos ((b + 15485867 * (c + 1)) ^ 5) (b := 2147483647) (by decide)
    have m1 : (15485867 * (c + 1)).natAbs < 2 ^ 70 := by omega
    exact ⟨mulOk_of (by decide) (by omega), powOk_of (n := 5) (by omega) (by decide), mulOk_of (by decide) (by omega), powOk_of (n := 3) (by omega) (by decide), divOk_of (by decide) (by decide), n0, k _ _ (fm _).1 (fm _).2 ⟨_, _, _, rfl, h1, h2, by omega, by omega⟩⟩
theorem source_wp {cell : Int} {Q : Rt × List Slot → Prop} {E : Ex → List Slot → Prop} 
    (k : ∀ o, Src 1 o → Q (.own o, [.val (.int cell), .val (.int 1)])) : (d__law_source [.val (.int cell), .val (.int 1)]).wp Q E := by
  have q1 := Int.fmod_nonneg_of_pos cell (b := 2147483579) (by decide)
  have q2 := Int.fmod_lt_of_pos cell (b := 2147483579) (by decide)
  unfold d__law_source
  rw [dFn_wp]
  refine ⟨rfl, ?_⟩
  simp [b__law_source, pinsOf, pinsOwn]
  have p : powOk 10 18 := powOk_of (n := 18) (by decide) (by decide)
  split
  · exact ⟨p, p, k _ ⟨_, _, _, rfl, q1, q2, by omega, by omega⟩⟩
  · exact ⟨p, k _ ⟨_, _, _, rfl, q1, q2, by omega, by omega⟩⟩
theorem choice_wp {t : Nat} {o : OV} {ps : List PV} {Q : Rt × List Slot → Prop} {E : Ex → List Slot → Prop} (h : Src t o) (ht : t ≤ 2 ^ 40) (hn : ps ≠ []) (hl : ps.length < 2 ^ 60)
    (k : ∀ (i : Nat) p o', ps[i]? = some p → Src (t + 1) o' → Q (.val p, [.own o', .val (.lst ps)])) : (d__law_choice [.own o, .val (.lst ps)]).wp Q E := by
  unfold d__law_choice
  rw [dFn_wp]
  refine ⟨rfl, ?_⟩
  have : 0 < ps.length := List.length_pos_iff.mpr hn
  simp [b__law_choice]
  refine draw_wp h ht (by omega) (by omega) fun r o' r1 r2 h' => ?_
  obtain ⟨m, rfl⟩ := Int.eq_ofNat_of_zero_le r1
  have hm : m < ps.length := by omega
  simp [atI_nat (List.getElem?_eq_getElem hm)]
  exact k m _ o' (List.getElem?_eq_getElem hm) h'
theorem small_wp {t : Nat} {o : OV} {Q : Rt × List Slot → Prop} {E : Ex → List Slot → Prop} (h : Src t o) (ht : t ≤ 2 ^ 40)
    (k : ∀ i o', -4 ≤ i → i ≤ 4 → Src (t + 1) o' → Q (.val (.int i), [.own o'])) : (d__law_small [.own o]).wp Q E := by
  unfold d__law_small
  rw [dFn_wp]
  refine ⟨rfl, ?_⟩
  simp [b__law_small]
  refine draw_wp h ht (by omega) (by omega) fun r o' r1 r2 h' => ?_
  simp
  exact k _ o' (by omega) (by omega) h'
end VL
set_option Elab.async false
set_option linter.all false
set_option maxRecDepth 100000
set_option maxHeartbeats 2000000
namespace VL
open PySem PySem.Spec L2
/-! ### formulas as data -/
def isI : PV → Bool
  | .int _ => true
  | _ => false
def isNum : PV → Bool
  | .int i => decide (-(10 ^ 40) < i ∧ i < 10 ^ 40)
  | _ => false
def abc : List Nat := (Str.ofString "abcdefghijklmnopqrstuvwxyz").cps.toList
def nmOk (x : Str) : Bool := decide (1 ≤ x.length ∧ x.length ≤ 8) && x.cps.toList.all fun c => abc.contains c
def isNm : PV → Bool
  | .str x => nmOk x
  | _ => false
section
variable {Q : Rt × List Slot → Prop} {E : Ex → List Slot → Prop} {v : PV}
theorem integer_wp (h : noD v = true) (k : Q (.val (.bl (isI v)), [.val v])) : (d_is_integer [.val v]).wp Q E := by
  unfold d_is_integer
  rw [dFn_wp]
  refine ⟨rfl, ?_⟩
  cases v <;> first | (simp [b_is_integer, isI] at k ⊢; exact k) | (simp [noD] at h)
theorem number_wp (h : noD v = true) (k : Q (.val (.bl (isNum v)), [.val v])) : (d_is_number [.val v]).wp Q E := by
  unfold d_is_number
  rw [dFn_wp]
  refine ⟨rfl, ?_⟩
  simp [b_is_number]
  refine integer_wp h ?_
  cases v <;> first | (simp [isI, isNum] at k ⊢; exact k) | (simp [noD] at h) | skip
  rename_i i
  simp [isI, isNum] at k ⊢
  refine ⟨powOk_of (n := 40) (by decide) (by decide), ?_⟩
  have e : ((if i < 0 then -i else i) < 10000000000000000000000000000000000000000) ↔ (-10000000000000000000000000000000000000000 < i ∧ i < 10000000000000000000000000000000000000000) := by
    split <;> omega
  rw [decide_eq_decide.mpr e, Bool.decide_and]
  exact k
theorem name_wp (h : noD v = true) (k : Q (.val (.bl (isNm v)), [.val v])) : (d_is_name [.val v]).wp Q E := by
  unfold d_is_name
  rw [dFn_wp]
  refine ⟨rfl, ?_⟩
  cases v <;> first | (simp [b_is_name, isNm] at k ⊢; exact k) | (simp [noD] at h) | skip
  rename_i x
  simp [b_is_name, isNm] at k ⊢
  split
  · rename_i l1
    split
    · rename_i l2
      refine lcD_map (fun p => .bl (match p with | .str x => abc.contains (x.cps.getD 0 0) | _ => false)) (fun p hp => ?_) ?_
      · obtain ⟨c, hc, rfl⟩ := List.mem_map.mp hp
        simp [abc]
      · simp [sgnsOf, pyAll_map, Function.comp_def]
        rw [show PV.bl (nmOk x) = _ from rfl, nmOk, decide_eq_true (p := 1 ≤ x.length ∧ x.length ≤ 8) (by omega), Bool.true_and] at k
        simpa using k
    · rename_i l2
      rw [nmOk, decide_eq_false (p := 1 ≤ x.length ∧ x.length ≤ 8) (by omega), Bool.false_and] at k
      exact k
  · rename_i l2
    rw [nmOk, decide_eq_false (p := 1 ≤ x.length ∧ x.length ≤ 8) (by omega), Bool.false_and] at k
    exact k
/-- what measured tells -/
def signs : PV → Bool
  | .str x => x == "+" || x == "-" || x == "*"
  | _ => false
def mP : Nat → PV → Option (Nat × Nat × Nat)
  | 0, _ => none
  | _ + 1, .tup [a, b] => if eqP a (.str "num") && isNum b then some (1, 1, 0) else if eqP a (.str "cell") && isNm b then some (1, 1, 1) else none
  | n + 1, .tup [a, b, c] => if signs a then (mP n b).bind fun x => (mP n c).bind fun y => some (x.1 + y.1 + 1, max x.2.1 y.2.1 + 1, if eqP a (.str "*") then x.2.2 + y.2.2 else max x.2.2 y.2.2) else none
  | _ + 1, _ => none
def enc : Option (Nat × Nat × Nat) → PV
  | none => .non
  | some (a, b, c) => .tup [.int a, .int b, .int c]
theorem notIn_signs {a : PV} (h : noD a = true) : pyNotIn a k_SIGNS = some (.bl !signs a) := by
  have e : pyNotIn a k_SIGNS = some (.bl !inP a [.str "+", .str "-", .str "*"]) := by
    simp [pyNotIn, inB, h, deps]
  rw [e]
  have e2 : inP a [.str "+", .str "-", .str "*"] = signs a := by
    rw [inP_cons, inP_cons, inP_cons, inP_nil, Bool.or_false, ← Bool.or_assoc]
    cases a with
    | str x => simp only [eqP, signs]; rw [Bool.beq_comm (a := x), Bool.beq_comm (a := x), Bool.beq_comm (a := x)]
    | _ => rfl
  rw [e2]
theorem measured_wp : ∀ (fuel room : Nat) (v : PV) {Q : Rt × List Slot → Prop} {E : Ex → List Slot → Prop}, room < fuel → noD v = true → Q (.val (enc (mP room v)), [.val v, .val (.int room)]) → (d_measured fuel [.val v, .val (.int room)]).wp Q E
  | 0, room, v, Q, E, h, _, _ => absurd h (by omega)
  | fuel + 1, 0, v, Q, E, _, _, k => by
    unfold d_measured
    rw [dFn_wp]
    refine ⟨rfl, ?_⟩
    simp [b_measured]
    exact k
  | fuel + 1, room + 1, v, Q, E, h, hd, k => by
    have ih := measured_wp fuel room
    have e0 : ¬ ((room : Int) + 1 = 0) := by omega
    have e1 : (room : Int) + 1 - 1 = room := by omega
    unfold d_measured
    rw [dFn_wp]
    refine ⟨rfl, ?_⟩
    cases v <;> first | (simp [b_measured, e0]; exact k) | (simp [noD] at hd; done) | skip
    rename_i xs
    match xs, hd, k with
    | [], hd, k =>
      simp [b_measured, e0]
      exact k
    | [a], hd, k =>
      simp [b_measured, e0]
      exact k
    | [a, b], hd, k =>
      simp at hd
      simp [b_measured, e0, eq_ps hd.1]
      have num : ∀ {Q : Rt × List Slot → Prop} {E : Ex → List Slot → Prop}, Q (.val (.bl (isNum b)), [.val b]) → (d_is_number [.val b]).wp Q E := number_wp hd.2
      have nam : ∀ {Q : Rt × List Slot → Prop} {E : Ex → List Slot → Prop}, Q (.val (.bl (isNm b)), [.val b]) → (d_is_name [.val b]).wp Q E := name_wp hd.2
      simp [mP] at k
      by_cases c1 : eqP a (.str "num") = true
      · have c3 : ¬ eqP a (.str "cell") = true := by rw [eqP_str.mp c1]; decide
        rw [if_pos c1]
        refine num ?_
        simp [c1, c3] at k
        simp [c1, c3, hd.1]
        by_cases c2 : isNum b = true
        · simp [c2] at k ⊢; exact k
        · simp [c2] at k ⊢; exact k
      · rw [if_neg c1]
        simp [c1] at k ⊢
        by_cases c3 : eqP a (.str "cell") = true
        · rw [if_pos c3]
          refine nam ?_
          simp [c3] at k ⊢
          by_cases c2 : isNm b = true
          · simp [c2] at k ⊢; exact k
          · simp [c2] at k ⊢; exact k
        · rw [if_neg c3]
          simp [c3] at k ⊢
          exact k
    | [a, b, c], hd, k =>
      simp at hd
      simp [b_measured, e0, e1, eq_ps hd.1, notIn_signs hd.1]
      simp [mP] at k
      by_cases c1 : signs a = true
      · simp [c1] at k ⊢
        refine ih b (by omega) hd.2.1 ?_
        simp [e1]
        refine ih c (by omega) hd.2.2 ?_
        cases h1 : mP room b with
        | none => simp [h1, enc] at k ⊢; exact k
        | some x =>
          obtain ⟨x1, x2, x3⟩ := x
          cases h2 : mP room c with
          | none => simp [h1, h2, enc] at k ⊢; exact k
          | some y =>
            obtain ⟨y1, y2, y3⟩ := y
            simp [h1, h2, enc] at k ⊢
            have mx : ∀ a b : Nat, (if a < b then (b : Int) else (a : Int)) = ((max a b : Nat) : Int) := fun a b => by split <;> omega
            simp [hd.1, mx]
            by_cases c2 : eqP a (.str "*") = true
            · simp [c2, mx] at k ⊢; exact k
            · simp [c2, mx] at k ⊢; exact k
      · simp [c1] at k ⊢
        exact k
    | a :: b :: c :: d :: r, hd, k =>
      have e2 : ¬ (2 : Int) = r.length + 1 + 1 + 1 + 1 := by omega
      have e3 : ¬ (3 : Int) = r.length + 1 + 1 + 1 + 1 := by omega
      simp [b_measured, e0, e2, e3]
      exact k
theorem formula_wp {v : PV} {Q : Rt × List Slot → Prop} {E : Ex → List Slot → Prop} (hd : noD v = true)
    (k : Q (.val (.bl (match mP 10 v with | some x => decide (x.1 ≤ 40 ∧ x.2.2 ≤ 8) | none => false)), [.val v])) : (d_is_formula [.val v]).wp Q E := by
  unfold d_is_formula
  rw [dFn_wp]
  refine ⟨rfl, ?_⟩
  simp [b_is_formula]
  refine measured_wp 12 10 v (by omega) hd ?_
  cases h : mP 10 v with
  | none => simp [h, enc] at k ⊢; exact k
  | some x =>
    obtain ⟨x1, x2, x3⟩ := x
    simp [h, enc] at k ⊢
    by_cases c : x1 ≤ 40
    · have c' : (x1 : Int) ≤ 40 := by omega
      have e : decide ((x3 : Int) ≤ 8) = decide (x3 ≤ 8) := decide_eq_decide.mpr (by omega)
      simp [c, c', e] at k ⊢
      exact k
    · have c' : ¬ (x1 : Int) ≤ 40 := by omega
      simp [c, c'] at k ⊢
      exact k
/-! ### formulas -/
inductive Fm where
  | num (i : Int)
  | cell (x : Str)
  | op (s : Str) (a b : Fm)
namespace Fm
def pv : Fm → PV
  | .num i => .tup [.str "num", .int i]
  | .cell x => .tup [.str "cell", .str x]
  | .op s a b => .tup [.str s, a.pv, b.pv]
def nodes : Fm → Nat
  | .op _ a b => a.nodes + b.nodes + 1
  | _ => 1
def depth : Fm → Nat
  | .op _ a b => max a.depth b.depth + 1
  | _ => 1
def deg : Fm → Nat
  | .num _ => 0
  | .cell _ => 1
  | .op s a b => if s = "*" then a.deg + b.deg else max a.deg b.deg
def wf : Fm → Prop
  | .num i => -(10 ^ 40) < i ∧ i < 10 ^ 40
  | .cell x => nmOk x = true
  | .op s a b => (s = "+" ∨ s = "-" ∨ s = "*") ∧ a.wf ∧ b.wf
end Fm
theorem Fm.noD : ∀ f : Fm, VL.noD f.pv = true
  | .num _ => rfl
  | .cell _ => rfl
  | .op s a b => by simp [Fm.pv, a.noD, b.noD]
theorem mP_fm : ∀ (n : Nat) (f : Fm), f.wf → mP n f.pv = if f.depth ≤ n then some (f.nodes, f.depth, f.deg) else none
  | 0, f, _ => by
    have : ¬ f.depth ≤ 0 := by cases f <;> simp [Fm.depth]
    rw [if_neg this]; rfl
  | n + 1, .num i, h => by
    simp [Fm.wf] at h
    simp [Fm.pv, mP, Fm.depth, Fm.nodes, Fm.deg, isNum, h]
  | n + 1, .cell x, h => by
    simp [Fm.wf] at h
    have e : ¬ ((Str.ofString "cell") = (Str.ofString "num")) := by decide
    simp [Fm.pv, mP, Fm.depth, Fm.nodes, Fm.deg, isNm, h, e]
  | n + 1, .op s a b, h => by
    obtain ⟨hs, ha, hb⟩ := h
    have sg : signs (.str s) = true := by simpa [signs, or_assoc] using hs
    simp [Fm.pv, mP, sg, mP_fm n a ha, mP_fm n b hb, Fm.depth, Fm.nodes, Fm.deg]
    by_cases c1 : a.depth ≤ n
    · by_cases c2 : b.depth ≤ n
      · simp [c1, c2]; omega
      · simp [c1, c2]; omega
    · simp [c1]; omega
/-- only formulas are measured -/
theorem mP_inv : ∀ (n : Nat) (v : PV) (x : Nat × Nat × Nat), mP n v = some x → ∃ f : Fm, v = f.pv ∧ f.wf
  | n, v, x, h => by
    unfold mP at h
    split at h
    · cases h
    · rename_i a b
      split at h
      · rename_i c
        simp at c
        have e1 := eqP_str.mp c.1
        subst e1
        cases b <;> first | (simp [isNum] at c; done) | skip
        exact ⟨.num _, rfl, by simpa [isNum, Fm.wf] using c.2⟩
      · split at h
        · rename_i c
          simp at c
          have e1 := eqP_str.mp c.1
          subst e1
          cases b <;> first | (simp [isNm] at c; done) | skip
          exact ⟨.cell _, rfl, by simpa [isNm, Fm.wf] using c.2⟩
        · cases h
    · rename_i n a b c
      split at h
      · rename_i sg
        cases a <;> first | (simp [signs] at sg; done) | skip
        rename_i s
        cases h1 : mP n b with
        | none => rw [h1] at h; cases h
        | some y =>
          cases h2 : mP n c with
          | none => rw [h1, h2] at h; cases h
          | some z =>
            obtain ⟨f, rfl, wf⟩ := mP_inv n b y h1
            obtain ⟨g, rfl, wg⟩ := mP_inv n c z h2
            exact ⟨.op s f g, rfl, by simpa [signs, or_assoc] using sg, wf, wg⟩
      · cases h
    · cases h
end
end VL
set_option Elab.async false
set_option linter.all false
set_option maxRecDepth 100000
set_option maxHeartbeats 2000000
namespace VL
open PySem PySem.Spec L2
/-! ### drawn names -/
theorem abc_at : ∀ m : Nat, m < 26 → atI (Str.ofString "abcdefghijklmnopqrstuvwxyz").cps.toList (m : Int) = some (97 + m) := by decide +kernel
def nmT (a m : Nat) : Str := repS "q" a ++ ⟨#[97 + m]⟩ ++ repS "q" (7 - a)
theorem nm1 : ∀ m : Nat, m < 26 → nmOk ⟨#[97 + m]⟩ = true := by decide +kernel
theorem nm2 : ∀ a : Nat, a < 8 → ∀ m : Nat, m < 26 → nmOk (nmT a m) = true := by decide +kernel
theorem nm3 : ∀ m : Nat, m < 26 → ∀ q : Nat, q < 8 → nmOk (repS ⟨#[97 + m]⟩ (1 + q)) = true := by decide +kernel
def words : List Str := ["now", "show", "make", "cell", "num", "made", "input", "set"]
theorem nm4 : ∀ x ∈ words, nmOk x = true := by decide +kernel
theorem fm_nat {i : Int} {n : Nat} (h : 0 < n) : ∃ m : Nat, m < n ∧ i.fmod (n : Int) = (m : Int) := by
  have h1 := Int.fmod_nonneg_of_pos i (b := (n : Int)) (by omega)
  have h2 := Int.fmod_lt_of_pos i (b := (n : Int)) (by omega)
  exact ⟨(i.fmod n).toNat, by omega, by omega⟩
def AllNm (xs : List Str) : Prop := ∀ x ∈ xs, nmOk x = true
theorem names_wp {t : Nat} {o : OV} {n : Nat} {Q : Rt × List Slot → Prop} {E : Ex → List Slot → Prop} (h : Src t o) (ht : t ≤ 2 ^ 39) (hn : n < 1000)
    (k : ∀ xs o', xs.length = n → AllNm xs → Src (t + 3) o' → Q (.val (.lst (xs.map .str)), [.own o', .val (.int n)])) : (d__law_names [.own o, .val (.int n)]).wp Q E := by
  unfold d__law_names
  rw [dFn_wp]
  refine ⟨rfl, ?_⟩
  simp [b__law_names]
  refine draw_wp h (by omega) (by decide) (by decide) fun w o1 w1 w2 s1 => ?_
  simp
  refine draw_wp s1 (by omega) (by decide) (by decide) fun s o2 s1 s2 s3 => ?_
  simp
  refine draw_wp s3 (by omega) (by decide) (by decide) fun a o3 a1 a2 a3 => ?_
  simp
  obtain ⟨w, rfl⟩ := Int.eq_ofNat_of_zero_le w1
  obtain ⟨s, rfl⟩ := Int.eq_ofNat_of_zero_le s1
  obtain ⟨a, rfl⟩ := Int.eq_ofNat_of_zero_le a1
  refine ⟨by omega, ?_⟩
  refine forD_wp (fun i ρ => ∃ xs s8 s9 s10, xs.length = i ∧ AllNm xs ∧ ρ = [.own o3, .val (.int n), .val (.str "abcdefghijklmnopqrstuvwxyz"), .val (.int w), .val (.int s), .val (.int a), .val (.lst (words.map .str)), .own (.lst (xs.map .str)), s8, s9, s10]) _ 0 _ ⟨[], _, _, _, rfl, fun _ h => (by cases h), rfl⟩ ?_ ?_
  · rintro i p ρ hp ⟨xs, s8, s9, s10, hl, hx, rfl⟩
    obtain ⟨hi, rfl⟩ := rngL_get hp
    obtain ⟨m, hm, em⟩ := fm_nat (i := (s : Int) + 7 * (i : Int)) (n := 26) (by decide)
    obtain ⟨q, hq, eq⟩ := fm_nat (i := (a : Int) + 3 * (i : Int)) (n := 8) (by decide)
    have mo : mulOk 7 (i : Int) ∧ mulOk 3 (i : Int) := ⟨mulOk_of (by decide) (by omega), mulOk_of (by decide) (by omega)⟩
    have wq : (words.map PV.str)[q]? = some (.str words[q]!) := by
      rw [List.getElem?_map, List.getElem?_eq_getElem (show q < words.length from hq), List.getElem!_eq_getElem?_getD, List.getElem?_eq_getElem (show q < words.length from hq)]
      rfl
    have e1 : (1 + (q : Int)).toNat = 1 + q := by omega
    have em : ((s : Int) + 7 * (i : Int)).fmod 26 = m := em
    have eq : ((a : Int) + 3 * (i : Int)).fmod 8 = q := eq
    simp [em, eq, abc_at m hm, abc_at s (by omega), mo, atI_nat wq, e1]
    have l1 : (Str.ofString "q").length = 1 := by decide
    have l2 : ∀ c : Nat, (⟨#[c]⟩ : Str).length = 1 := fun _ => rfl
    simp only [l1, l2]
    have mem : words[q]! ∈ words := by
      rw [List.getElem!_eq_getElem?_getD, List.getElem?_eq_getElem (show q < words.length from hq)]
      exact List.getElem_mem _
    have fin : ∀ x : Str, nmOk x = true → xs.length < 16777216 ∧ ∃ xs_1 : List Str, xs_1.length = i + 1 ∧ AllNm xs_1 ∧ List.map PV.str xs ++ [PV.str x] = List.map PV.str xs_1 := fun x hx' =>
      ⟨by omega, xs ++ [x], by simp; omega, fun y hy => by
        rcases List.mem_append.mp hy with hy | hy
        · exact hx y hy
        · rw [List.mem_singleton.mp hy]; exact hx', by simp⟩
    refine ⟨⟨by omega, by omega⟩, by omega, ⟨by omega, by omega, by omega⟩, by omega, ⟨by omega, by omega, by omega⟩, ?_⟩
    have wc : w = 0 ∨ w = 1 ∨ w = 2 ∨ w = 3 := by omega
    rcases wc with rfl | rfl | rfl | rfl
    · rw [atI_nat (k := 0) rfl, R.of_some, wp_ok]; exact fin _ (nm1 m hm)
    · rw [atI_nat (k := 1) rfl, R.of_some, wp_ok]; exact fin _ (nm2 a (by omega) m hm)
    · rw [atI_nat (k := 2) rfl, R.of_some, wp_ok]; exact fin _ (nm3 s (by omega) q hq)
    · rw [atI_nat (k := 3) rfl, R.of_some, wp_ok]; exact fin _ (nm4 _ (by rw [List.getElem!_eq_getElem?_getD] at mem; exact mem))
  · rintro ρ ⟨xs, s8, s9, s10, hl, hx, rfl⟩
    simp
    exact k xs o3 (by simpa [rngL_len] using hl) hx a3
/-! ### drawn formulas -/
theorem leaf_wp {t p : Nat} {o : OV} {xs : List Str} {Q : Rt × List Slot → Prop} {E : Ex → List Slot → Prop} (h : Src t o) (ht : t ≤ 2 ^ 39) (hx : AllNm xs) (hl : xs.length < 1000)
    (k : ∀ f : Fm, ∀ o', f.wf → f.nodes = 1 → f.depth = 1 → f.deg ≤ p → Src (t + 2) o' → Q (.val f.pv, [.own o', .val (.lst (xs.map .str)), .val (.int p)])) :
    (d__law_leaf [.own o, .val (.lst (xs.map .str)), .val (.int p)]).wp Q E := by
  unfold d__law_leaf
  rw [dFn_wp]
  refine ⟨rfl, ?_⟩
  have num : ∀ {t : Nat} {o : OV} {ρ : En} {Q : PV × En → Prop} {E : Ex → En → Prop}, Src t o → t ≤ 2 ^ 40 → (∀ i o', -4 ≤ i → i ≤ 4 → Src (t + 1) o' → Q (.tup [.str "num", .int i], .own o' :: ρ)) →
      (dTup (dA (dC (.str "num")) (dA (dCallE d__law_small (dOs (dON 0) dO0)) dA0)) (.own o :: ρ)).wp Q E := fun h ht k => by
    simp
    refine small_wp h ht fun i o' h1 h2 h' => ?_
    simp
    exact k i o' h1 h2 h'
  have wn : ∀ i : Int, -4 ≤ i → i ≤ 4 → (Fm.num i).wf := fun i h1 h2 => ⟨by omega, by omega⟩
  simp [b__law_leaf]
  by_cases hp : p = 0
  · rw [if_pos hp]
    refine small_wp h (by omega) fun i o' h1 h2 h' => ?_
    simp
    exact k (.num i) o' (wn i h1 h2) rfl rfl (Nat.zero_le _) (h'.mono (by omega))
  · rw [if_neg hp]
    by_cases he : xs = []
    · rw [if_pos he]
      refine small_wp h (by omega) fun i o' h1 h2 h' => ?_
      simp
      exact k (.num i) o' (wn i h1 h2) rfl rfl (Nat.zero_le _) (h'.mono (by omega))
    · rw [if_neg he]
      refine draw_wp h (by omega) (by omega) (by omega) fun r o1 r1 r2 h1 => ?_
      simp
      by_cases hr : r = 0
      · rw [if_pos hr]
        refine small_wp h1 (by omega) fun i o' h1 h2 h' => ?_
        simp
        exact k (.num i) o' (wn i h1 h2) rfl rfl (Nat.zero_le _) h'
      · rw [if_neg hr]
        refine choice_wp h1 (by omega) (by simpa using he) (by simp; omega) fun j p o' hj h' => ?_
        simp
        rw [List.getElem?_map] at hj
        cases hx' : xs[j]? with
        | none => rw [hx'] at hj; cases hj
        | some x =>
          rw [hx'] at hj; cases hj
          exact k (.cell x) o' (hx x (List.mem_of_getElem? hx')) rfl rfl (by show 1 ≤ _; omega) h'
/-- trees: a tree of n operations has 2n+1 nodes -/
theorem tree_wp {xs : List Str} (hx : AllNm xs) (hl : xs.length < 1000) : ∀ (fuel n p t : Nat) {o : OV} {Q : Rt × List Slot → Prop} {E : Ex → List Slot → Prop}, n < fuel → n ≤ 17 → p ≤ 8 → Src t o → t + 100 * n ≤ 2 ^ 39 → 
    (∀ (f : Fm) o', f.wf → f.nodes = 2 * n + 1 → f.depth ≤ (if n ≤ 8 then n + 1 else 10) → f.deg ≤ p → Src (t + 5 * n + 2) o' → Q (.val f.pv, [.own o', .val (.lst (xs.map .str)), .val (.int n), .val (.int p)])) →
    (d__law_tree fuel [.own o, .val (.lst (xs.map .str)), .val (.int n), .val (.int p)]).wp Q E
  | 0, n, p, t, o, Q, E, h, _, _, _, _, _ => absurd h (by omega)
  | fuel + 1, n, p, t, o, Q, E, hf, hn, hp, h, ht, k => by
    have ih : ∀ (n p t : Nat) {o : OV}, n < fuel → n ≤ 17 → p ≤ 8 → Src t o → t + 100 * n ≤ 2 ^ 39 → ∃ (f : Fm) (o' : OV), d__law_tree fuel [.own o, .val (.lst (xs.map .str)), .val (.int n), .val (.int p)] = .ok (.val f.pv, [.own o', .val (.lst (xs.map .str)), .val (.int n), .val (.int p)]) ∧
        f.wf ∧ f.nodes = 2 * n + 1 ∧ f.depth ≤ (if n ≤ 8 then n + 1 else 10) ∧ f.deg ≤ p ∧ Src (t + 5 * n + 2) o' := fun n p t o h1 h2 h3 h4 h5 => by
      obtain ⟨a, e, f, o', rfl, h⟩ := wp_ex (tree_wp hx hl fuel n p t (Q := fun x => ∃ (f : Fm) (o' : OV), x = (.val f.pv, [.own o', .val (.lst (xs.map .str)), .val (.int n), .val (.int p)]) ∧
        f.wf ∧ f.nodes = 2 * n + 1 ∧ f.depth ≤ (if n ≤ 8 then n + 1 else 10) ∧ f.deg ≤ p ∧ Src (t + 5 * n + 2) o') (E := noE) h1 h2 h3 h4 h5 fun f o' a b c d e => ⟨f, o', rfl, a, b, c, d, e⟩)
      exact ⟨f, o', e, h⟩
    unfold d__law_tree
    rw [dFn_wp]
    refine ⟨rfl, ?_⟩
    simp [b__law_tree]
    by_cases n0 : n = 0
    · subst n0
      rw [if_pos rfl]
      refine leaf_wp h (by omega) hx hl fun f o' w1 w2 w3 w4 h' => ?_
      simp
      exact k f o' w1 w2 (by rw [w3]; decide) w4 (h'.mono (by omega))
    rw [if_neg n0]
    refine choice_wp h (by omega) (by simp) (by simp) fun j sg o1 hj h1 => ?_
    simp
    have hs : ∃ s : Str, sg = .str s ∧ (s = "+" ∨ s = "-" ∨ s = "*") := by
      match j, hj with
      | 0, hj => cases hj; exact ⟨_, rfl, .inl rfl⟩
      | 1, hj => cases hj; exact ⟨_, rfl, .inr (.inl rfl)⟩
      | 2, hj => cases hj; exact ⟨_, rfl, .inr (.inr rfl)⟩
    obtain ⟨s, rfl, hs⟩ := hs
    refine draw_wp h1 (by omega) (by omega) (by omega) fun r o2 r1 r2 h2 => ?_
    obtain ⟨r, rfl⟩ := Int.eq_ofNat_of_zero_le r1
    -- both sides
    have two : ∀ (f1 p1 p2 t3 : Nat) (o3 : OV), f1 < n → (8 < n → f1 ≤ 8 ∧ n - 1 - f1 ≤ 8) → p1 ≤ p → p2 ≤ p → (s = "*" → p1 + p2 = p) → Src t3 o3 → t3 ≤ t + 3 →
        ∃ (f g : Fm) (o4 o5 : OV), d__law_tree fuel [.own o3, .val (.lst (xs.map .str)), .val (.int f1), .val (.int p1)] = .ok (.val f.pv, [.own o4, .val (.lst (xs.map .str)), .val (.int f1), .val (.int p1)]) ∧
          d__law_tree fuel [.own o4, .val (.lst (xs.map .str)), .val (.int (n - 1 - f1)), .val (.int p2)] = .ok (.val g.pv, [.own o5, .val (.lst (xs.map .str)), .val (.int (n - 1 - f1)), .val (.int p2)]) ∧
          Q (.val (.tup [.str s, f.pv, g.pv]), [.own o5, .val (.lst (xs.map .str)), .val (.int n), .val (.int p)]) := fun f1 p1 p2 t3 o3 a1 a2 a3 a4 a5 a6 a7 => by
      obtain ⟨f, o4, e1, b1, b2, b3, b4, b5⟩ := ih f1 p1 t3 (by omega) (by omega) (by omega) a6 (by omega)
      obtain ⟨g, o5, e2, c1, c2, c3, c4, c5⟩ := ih (n - 1 - f1) p2 _ (by omega) (by omega) (by omega) b5 (by omega)
      have ec : (((n - 1 - f1 : Nat) : Nat) : Int) = (n : Int) - 1 - f1 := by omega
      rw [ec] at e2
      refine ⟨f, g, o4, o5, e1, e2, k (.op s f g) o5 ⟨hs, b1, c1⟩ (by simp only [Fm.nodes]; omega) ?_ ?_ (c5.mono (by omega))⟩
      · simp only [Fm.depth]
        by_cases n8 : n ≤ 8
        · rw [if_pos n8]
          rw [if_pos (by omega)] at b3 c3
          omega
        · rw [if_neg n8]
          rw [if_pos (by omega)] at b3 c3
          omega
      · simp only [Fm.deg]
        split
        · rename_i z; have := a5 z; omega
        · omega
    have hd : ∀ m : Nat, ((m : Int)).fdiv 2 = ((m / 2 : Nat) : Int) := fun m => by
      rw [Int.fdiv_eq_ediv_of_nonneg _ (by decide)]; omega
    have e0 : (n : Int) - 1 = ((n - 1 : Nat) : Int) := by omega
    -- with the power told
    have go : ∀ (f1 : Nat), f1 < n → (8 < n → f1 ≤ 8 ∧ n - 1 - f1 ≤ 8) → ∀ ρ6, ρ6 = Slot.val (.int (f1 : Nat)) → ((dSeq (dIf (dTst (opnd2 pyEq (dON 4) (dOV (dC (.str ("*" : Str))))))
    (dSet 5 (dCallE d__law_draw (dOs (dON 0) (dOs (dOV (opnd2 pyAdd (dON 3) (dOV (dC (.int 1))))) (dO0)))))
    (dNil))
  (dSeq (dSet 7 (dIfE (dTst (opnd2 pyEq (dON 4) (dOV (dC (.str ("*" : Str)))))) (opnd2 pySub (dON 3) (dON 5)) (dN 3)))
  (dSeq (dSet 8 (dCallE (d__law_tree fuel) (dOs (dON 0) (dOs (dOV (dN 1)) (dOs (dOV (dN 6)) (dOs (dOV (dN 5)) (dO0)))))))
  (dRet (dTup (dA (dN 4) (dA (dN 8) (dA (dCallE (d__law_tree fuel) (dOs (dON 0) (dOs (dOV (dN 1)) (dOs (dOV (opnd2 pySub (dOV (opnd2 pySub (dON 2) (dOV (dC (.int 1))))) (dON 6))) (dOs (dOV (dN 7)) (dO0)))))) (dA0)))))))))
      [.own o2, .val (.lst (xs.map .str)), .val (.int n), .val (.int p), .val (.str s), .val (.int p), ρ6, .emp, .emp]).wp (retQ [true, false, false, false] [.own o, .val (.lst (xs.map .str)), .val (.int n), .val (.int p)] Q) (excQ [true, false, false, false] [.own o, .val (.lst (xs.map .str)), .val (.int n), .val (.int p)] E) := by
      intro f1 hf1 hf2 ρ6 e6
      subst e6
      by_cases sm : s = "*"
      · simp [sm]
        refine draw_wp h2 (by omega) (by omega) (by omega) fun q o3 q1 q2 h3 => ?_
        obtain ⟨q, rfl⟩ := Int.eq_ofNat_of_zero_le q1
        obtain ⟨f, g, o4, o5, e1, e2, e3⟩ := two f1 q (p - q) _ o3 hf1 hf2 (by omega) (by omega) (fun _ => by omega) h3 (by omega)
        have ep : (p : Int) - (q : Int) = ((p - q : Nat) : Int) := by omega
        simp [e1, ep, e2]
        rw [sm] at e3
        exact e3
      · obtain ⟨f, g, o4, o5, e1, e2, e3⟩ := two f1 p p _ o2 hf1 hf2 (by omega) (by omega) (fun z => (sm z).elim) h2 (by omega)
        simp [sm, e1, e2]
        exact e3
    by_cases n8 : 8 < n
    · have n8' : (8 : Int) < n := by omega
      have := go ((n - 1) / 2) (by omega) (by omega) (Slot.val (.int (((n : Int) - 1).fdiv 2))) (by rw [e0, hd])
      simp [n8', divOk_of]
      simpa using this
    · have n8' : ¬ (8 : Int) < n := by omega
      have := go r (by omega) (by omega) _ rfl
      simp [n8']
      simpa using this
end VL
set_option Elab.async false
set_option linter.all false
set_option maxRecDepth 100000
set_option maxHeartbeats 2000000
namespace VL
open PySem PySem.Spec L2
theorem dform_wp {t : Nat} {o : OV} {xs : List Str} {Q : Rt × List Slot → Prop} {E : Ex → List Slot → Prop} (h : Src t o) (ht : t ≤ 2 ^ 38) (hx : AllNm xs) (hl : xs.length < 1000)
    (k : ∀ (f : Fm) o', f.wf → f.nodes ≤ 35 → f.depth ≤ 10 → f.deg ≤ 4 → Src (t + 100) o' → Q (.val f.pv, [.own o', .val (.lst (xs.map .str))])) :
    (d__law_formula [.own o, .val (.lst (xs.map .str))]).wp Q E := by
  unfold d__law_formula
  rw [dFn_wp]
  refine ⟨rfl, ?_⟩
  simp [b__law_formula]
  refine draw_wp h (by omega) (by omega) (by omega) fun r o1 r1 r2 h1 => ?_
  simp
  split
  · refine draw_wp h1 (by omega) (by omega) (by omega) fun r o2 r1 r2 h2 => ?_
    obtain ⟨r, rfl⟩ := Int.eq_ofNat_of_zero_le r1
    have e : (9 : Int) + (r : Int) = ((9 + r : Nat) : Int) := by omega
    simp
    rw [e]
    refine tree_wp hx hl 20 (9 + r) 4 _ (by omega) (by omega) (by omega) h2 (by omega) fun f o' a1 a2 a3 a4 a5 => ?_
    simp
    exact k f o' a1 (by omega) (by rw [if_neg (by omega)] at a3; exact a3) a4 (a5.mono (by omega))
  · refine draw_wp h1 (by omega) (by omega) (by omega) fun r o2 r1 r2 h2 => ?_
    obtain ⟨r, rfl⟩ := Int.eq_ofNat_of_zero_le r1
    simp
    refine draw_wp h2 (by omega) (by omega) (by omega) fun q o3 q1 q2 h3 => ?_
    obtain ⟨q, rfl⟩ := Int.eq_ofNat_of_zero_le q1
    have e : (1 : Int) + (q : Int) = ((1 + q : Nat) : Int) := by omega
    simp
    rw [e]
    refine tree_wp hx hl 20 r (1 + q) _ (by omega) (by omega) (by omega) h3 (by omega) fun f o' a1 a2 a3 a4 a5 => ?_
    simp
    exact k f o' a1 (by omega) (by rw [if_pos (by omega)] at a3; omega) (by omega) (a5.mono (by omega))
/-! ### found and due -/
theorem equal_bl {n : Nat} {a b : Bool} {Q : Rt × List Slot → Prop} {E : Ex → List Slot → Prop} (k : Q (.val (.bl (b == a)), [.val (.bl a), .val (.bl b)])) :
    (d__law_equal (n + 1) [.val (.bl a), .val (.bl b)]).wp Q E := by
  unfold d__law_equal
  rw [dFn_wp]
  refine ⟨rfl, ?_⟩
  have e : pyEq (.bl b) (.bl a) = some (.bl (b == a)) := by
    unfold pyEq
    rw [eqB_of rfl rfl (.inl (by simp [dep]))]
    simp [eqP]
  simp [b__law_equal, e]
  exact k
/-! ### places -/
namespace Fm
inductive valid : Fm → List Nat → Prop
  | here (f : Fm) : valid f []
  | left {s : Str} {a b : Fm} {r : List Nat} (h : valid a r) : valid (.op s a b) (1 :: r)
  | right {s : Str} {a b : Fm} {r : List Nat} (h : valid b r) : valid (.op s a b) (2 :: r)
def sub : Fm → List Nat → Fm
  | .op _ a _, 1 :: r => a.sub r
  | .op _ _ b, 2 :: r => b.sub r
  | f, _ => f
def putP : Fm → List Nat → PV → PV
  | _, [], w => w
  | .op s a b, 1 :: r, w => .tup [.str s, a.putP r w, b.pv]
  | .op s a b, 2 :: r, w => .tup [.str s, a.pv, b.putP r w]
  | f, _, _ => f.pv
end Fm
def plP (ns : List Nat) : PV := .lst (ns.map fun n => .int (n : Nat))
theorem places_wp : ∀ (fuel : Nat) (f : Fm) (pre : List Nat) {Q : Rt × List Slot → Prop} {E : Ex → List Slot → Prop}, f.depth < fuel → f.nodes ≤ 1000 → pre.length + f.depth ≤ 1000 →
    (∀ ps : List (List Nat), ps.length = f.nodes → (∀ p ∈ ps, ∃ r, p = pre ++ r ∧ f.valid r ∧ r.length < f.depth) → Q (.val (.lst (ps.map plP)), [.val f.pv, .val (plP pre)])) → (d__law_places fuel [.val f.pv, .val (plP pre)]).wp Q E
  | 0, f, pre, Q, E, h, _, _, _ => absurd h (by omega)
  | fuel + 1, .num i, pre, Q, E, h, hn, hl, k => by
    unfold d__law_places
    rw [dFn_wp]
    refine ⟨rfl, ?_⟩
    simp [b__law_places, Fm.pv]
    exact k [pre] rfl fun p hp => ⟨[], by rw [List.mem_singleton.mp hp]; simp, .here _, by simp [Fm.depth]⟩
  | fuel + 1, .cell i, pre, Q, E, h, hn, hl, k => by
    unfold d__law_places
    rw [dFn_wp]
    refine ⟨rfl, ?_⟩
    simp [b__law_places, Fm.pv]
    exact k [pre] rfl fun p hp => ⟨[], by rw [List.mem_singleton.mp hp]; simp, .here _, by simp [Fm.depth]⟩
  | fuel + 1, .op s a b, pre, Q, E, h, hn, hl, k => by
    simp only [Fm.depth, Fm.nodes] at h hn hl
    unfold d__law_places
    rw [dFn_wp]
    refine ⟨rfl, ?_⟩
    have ea : ∀ n : Nat, PV.lst ((pre.map fun n => PV.int (n : Nat)) ++ [.int n]) = plP (pre ++ [n]) := fun n => by simp [plP]
    simp [b__law_places, Fm.pv]
    simp [plP]
    refine ⟨by omega, ?_⟩
    rw [show (1 : Int) = ((1 : Nat) : Int) from rfl, ea]
    refine places_wp fuel a (pre ++ [1]) (by omega) (by omega) (by simp; omega) fun ps l1 h1 => ?_
    simp [plP]
    refine ⟨by omega, by omega, ?_⟩
    rw [show (2 : Int) = ((2 : Nat) : Int) from rfl, ea]
    refine places_wp fuel b (pre ++ [2]) (by omega) (by omega) (by simp; omega) fun qs l2 h2 => ?_
    simp
    refine ⟨by omega, ?_⟩
    have := k ([pre] ++ ps ++ qs) (by simp [Fm.nodes]; omega) fun p hp => by
      simp only [List.mem_append, List.mem_singleton] at hp
      rcases hp with (hp | hp) | hp
      · exact ⟨[], by simp [hp], .here _, by simp [Fm.depth]⟩
      · obtain ⟨r, e, v, l⟩ := h1 p hp
        exact ⟨1 :: r, by simp [e], .left v, by simp [Fm.depth]; omega⟩
      · obtain ⟨r, e, v, l⟩ := h2 p hp
        exact ⟨2 :: r, by simp [e], .right v, by simp [Fm.depth]; omega⟩
    simp at this
    exact this
theorem valid_sub_wf {f : Fm} {r : List Nat} (v : f.valid r) : f.wf → (f.sub r).wf := by
  induction v with
  | here f => intro h; cases f <;> exact h
  | left v ih => exact fun h => ih h.2.1
  | right v ih => exact fun h => ih h.2.2
theorem at_loop {r : List Nat} {g : Fm} (v0 v1 : PV) {Q : Ctl × En → Prop} {E : Ex → En → Prop} (v : g.valid r) : ∀ (s3 : Slot), (∀ s, Q (.nx, [.val v0, .val v1, .val (g.sub r).pv, s])) →
    (forD (gN 3) (dSet 2 (opnd2 pyIx (dON 2) (dON 3))) (r.map fun n => PV.int (n : Nat)) [.val v0, .val v1, .val g.pv, s3]).wp Q E := by
  induction v with
  | here g =>
    intro s3 k
    have : g.sub [] = g := by cases g <;> rfl
    rw [this] at k
    simp [forD]
    exact k s3
  | left v ih =>
    intro s3 k
    simp [forD, Fm.pv]
    exact ih _ k
  | right v ih =>
    intro s3 k
    simp [forD, Fm.pv]
    exact ih _ k
theorem at_wp {f : Fm} {r : List Nat} {Q : Rt × List Slot → Prop} {E : Ex → List Slot → Prop} (hv : f.valid r) (k : Q (.val (f.sub r).pv, [.val f.pv, .val (plP r)])) : (d__law_at [.val f.pv, .val (plP r)]).wp Q E := by
  unfold d__law_at
  rw [dFn_wp]
  refine ⟨rfl, ?_⟩
  simp [b__law_at, plP] at k ⊢
  refine at_loop _ _ hv _ fun s => ?_
  simp
  exact k
theorem put_wp {f : Fm} {r : List Nat} (w : PV) (v : f.valid r) : ∀ (fuel : Nat) {Q : Rt × List Slot → Prop} {E : Ex → List Slot → Prop}, r.length < fuel → r.length ≤ 1000 → Q (.val (f.putP r w), [.val f.pv, .val (plP r), .val w]) →
    (d__law_put fuel [.val f.pv, .val (plP r), .val w]).wp Q E := by
  induction v with
  | here f =>
    intro fuel Q E h hl k
    match fuel, h with
    | fuel + 1, h =>
    have e : f.putP [] w = w := by cases f <;> rfl
    rw [e] at k
    unfold d__law_put
    rw [dFn_wp]
    refine ⟨rfl, ?_⟩
    simp [b__law_put, plP] at k ⊢
    exact k
  | @left s a b r v ih =>
    intro fuel Q E h hl k
    match fuel, h with
    | fuel + 1, h =>
    unfold d__law_put
    rw [dFn_wp]
    refine ⟨rfl, ?_⟩
    have e : ¬ ((r.length : Int) + 1 = 0) := by omega
    simp [b__law_put, plP, Fm.pv, e]
    refine ih fuel (by simpa using h) (by simp at hl; omega) ?_
    simp
    exact k
  | @right s a b r v ih =>
    intro fuel Q E h hl k
    match fuel, h with
    | fuel + 1, h =>
    unfold d__law_put
    rw [dFn_wp]
    refine ⟨rfl, ?_⟩
    have e : ¬ ((r.length : Int) + 1 = 0) := by omega
    simp [b__law_put, plP, Fm.pv, e]
    refine ih fuel (by simpa using h) (by simp at hl; omega) ?_
    simp
    exact k
/-- what is put in shows -/
theorem put_fm {f : Fm} {r : List Nat} (w : PV) (v : f.valid r) : ∀ g : Fm, f.putP r w = g.pv → g.wf → ∃ h : Fm, w = h.pv ∧ h.wf := by
  induction v with
  | here f =>
    intro g e wf
    have e' : f.putP [] w = w := by cases f <;> rfl
    exact ⟨g, by rw [← e', e], wf⟩
  | left v ih =>
    intro g e wf
    cases g with
    | op s' a' b' => simp [Fm.putP, Fm.pv] at e; exact ih a' e.2.1 wf.2.1
    | _ => simp [Fm.putP, Fm.pv] at e
  | right v ih =>
    intro g e wf
    cases g with
    | op s' a' b' => simp [Fm.putP, Fm.pv] at e; exact ih b' e.2.2 wf.2.2
    | _ => simp [Fm.putP, Fm.pv] at e
theorem put_noD {f : Fm} {r : List Nat} {w : PV} (v : f.valid r) (h : noD w = true) : noD (f.putP r w) = true := by
  induction v with
  | here f =>
    have e' : f.putP [] w = w := by cases f <;> rfl
    rw [e']; exact h
  | left v ih => simp [Fm.putP, ih, Fm.noD]
  | right v ih => simp [Fm.putP, ih, Fm.noD]
/-- the shape of a formula -/
def isTup : PV → Bool
  | .tup _ => true
  | _ => false
def shp : PV → Bool
  | .tup [.str s, .int i] => s == "num" && decide (-(10 ^ 40) < i ∧ i < 10 ^ 40)
  | .tup [.str s, .str x] => s == "cell" && nmOk x
  | .tup [.str s, a, b] => (s == "+" || s == "-" || s == "*") && (isTup a && isTup b)
  | _ => false
theorem tup_pv : ∀ f : Fm, isTup f.pv = true
  | .num _ => rfl
  | .cell _ => rfl
  | .op _ _ _ => rfl
theorem shp_wf : ∀ f : Fm, f.wf → shp f.pv = true
  | .num i, h => by simpa [shp, Fm.pv, Fm.wf] using h
  | .cell x, h => by simpa [shp, Fm.pv, Fm.wf] using h
  | .op s a b, h => by
    have h1 := tup_pv a
    have h2 := tup_pv b
    have hs := h.1
    cases ha : a.pv <;> rw [ha] at h1 <;> simp [isTup] at h1
    cases hb : b.pv <;> rw [hb] at h2 <;> simp [isTup] at h2
    simp [shp, Fm.pv, ha, hb, isTup]
    simpa [or_assoc] using hs
theorem lstO_pv (f : Fm) : ∃ xs, listO [f.pv] = some (.lst xs) ∧ noDs xs = true := by
  have h := f.noD
  cases f <;> exact ⟨_, rfl, h⟩
/-- what is no formula -/
theorem odd_wp {t : Nat} {o : OV} {g : Fm} {Q : Rt × List Slot → Prop} {E : Ex → List Slot → Prop} (h : Src t o) (ht : t ≤ 2 ^ 38) 
    (k : ∀ w o', noD w = true → (∀ f : Fm, f.wf → w ≠ f.pv) → Src (t + 1) o' → Q (.val w, [.own o', .val g.pv])) : (d__law_odd [.own o, .val g.pv]).wp Q E := by
  unfold d__law_odd
  rw [dFn_wp]
  refine ⟨rfl, ?_⟩
  obtain ⟨ys, ey, ny⟩ := lstO_pv g
  have pw : powOk 10 40 := powOk_of (n := 40) (by decide) (by decide)
  simp [b__law_odd, pw, ey]
  refine choice_wp h (by omega) (by simp) (by simp) fun j p o' hj h' => ?_
  have hp := List.mem_of_getElem? hj
  simp
  have fin : noD p = true ∧ shp p = false := by
    simp only [List.mem_cons, List.not_mem_nil, or_false] at hp
    have hg := g.noD
    rcases hp with rfl | rfl | rfl | rfl | rfl | rfl | rfl | rfl | rfl | rfl | rfl | rfl | rfl | rfl | rfl | rfl | rfl | rfl | rfl | rfl | rfl | rfl | rfl | rfl | rfl | rfl | rfl | rfl | rfl | rfl | rfl | rfl | rfl | rfl
    all_goals refine ⟨by simp [hg, ny], ?_⟩
    all_goals first | rfl | (cases g <;> rfl) | (simp [shp]; done) | (simp [shp]; decide)
  exact k p o' fin.1 (fun f hf e => by have := shp_wf f hf; rw [← e, fin.2] at this; cases this) h'
end VL
set_option Elab.async false
set_option linter.all false
set_option maxRecDepth 100000
set_option maxHeartbeats 2000000
namespace VL
open PySem PySem.Spec L2
/-! ### chains and rows -/
theorem chain_wp {t m : Nat} {o : OV} {s : Str} {f0 : Fm} {Q : Rt × List Slot → Prop} {E : Ex → List Slot → Prop} (h : Src t o) (ht : t + m ≤ 2 ^ 38) (hm : m ≤ 1000) (h0 : f0.wf) (h1 : f0.nodes = 1) (h2 : f0.depth = 1) (hs : s = "+" ∨ s = "-")
    (k : ∀ (f : Fm) o', f.wf → f.nodes = 2 * m + 1 → f.depth = m + 1 → f.deg ≤ f0.deg → Src (t + m) o' → Q (.val f.pv, [.own o', .val (.int m), .val (.str s), .val f0.pv])) :
    (d__law_chain [.own o, .val (.int m), .val (.str s), .val f0.pv]).wp Q E := by
  unfold d__law_chain
  rw [dFn_wp]
  refine ⟨rfl, ?_⟩
  simp [b__law_chain]
  refine ⟨by omega, ?_⟩
  have sm : s ≠ "*" := by rcases hs with h | h <;> rw [h] <;> decide
  have hs' : s = "+" ∨ s = "-" ∨ s = "*" := by rcases hs with h | h <;> simp [h]
  refine forD_wp (fun i ρ => ∃ (f : Fm) (o1 : OV) (s5 : Slot), f.wf ∧ f.nodes = 2 * i + 1 ∧ f.depth = i + 1 ∧ f.deg ≤ f0.deg ∧ Src (t + i) o1 ∧ ρ = [.own o1, .val (.int m), .val (.str s), .val f0.pv, .val f.pv, s5]) _ 0 _ ⟨f0, o, _, h0, h1, h2, Nat.le_refl _, h, rfl⟩ ?_ ?_
  · rintro i p ρ hp ⟨f, o1, s5, a1, a2, a3, a4, a5, rfl⟩
    obtain ⟨hi, rfl⟩ := rngL_get hp
    simp
    refine draw_wp a5 (by omega) (by omega) (by omega) fun r o2 r1 r2 b1 => ?_
    simp
    split
    · exact ⟨.op s f f0, ⟨hs', a1, h0⟩, by simp only [Fm.nodes]; omega, by simp only [Fm.depth]; omega, by simp only [Fm.deg, if_neg sm]; omega, o2, b1.mono (by omega), rfl, by simp [Fm.pv]⟩
    · exact ⟨.op s f0 f, ⟨hs', h0, a1⟩, by simp only [Fm.nodes]; omega, by simp only [Fm.depth]; omega, by simp only [Fm.deg, if_neg sm]; omega, o2, b1.mono (by omega), rfl, by simp [Fm.pv]⟩
  · rintro ρ ⟨f, o1, s5, a1, a2, a3, a4, a5, rfl⟩
    simp only [rngL_len] at a2 a3 a5
    simp
    exact k f o1 a1 (by omega) (by omega) a4 (a5.mono (by omega))
def pair (s : Str) : List Fm → List Fm
  | [] => []
  | [a] => [a]
  | a :: b :: r => .op s a b :: pair s r
theorem pair_len (s : Str) : ∀ fs : List Fm, (pair s fs).length = (fs.length + 1) / 2
  | [] => by simp [pair]
  | [a] => by simp [pair]
  | a :: b :: r => by simp [pair, pair_len s r]; omega
theorem pair_nodes (s : Str) : ∀ fs : List Fm, ((pair s fs).map fun f => f.nodes + 1).sum = (fs.map fun f => f.nodes + 1).sum
  | [] => by simp [pair]
  | [a] => by simp [pair]
  | a :: b :: r => by simp [pair, pair_nodes s r, Fm.nodes]; omega
theorem pair_deg : ∀ fs : List Fm, ((pair "*" fs).map fun f => f.deg).sum = (fs.map fun f => f.deg).sum
  | [] => by simp [pair]
  | [a] => by simp [pair]
  | a :: b :: r => by simp [pair, pair_deg r, Fm.deg]; omega
theorem pair_all {s : Str} {P P' : Fm → Prop} (h1 : ∀ f, P f → P' f) (h2 : ∀ f g, P f → P g → P' (.op s f g)) : ∀ fs : List Fm, (∀ f ∈ fs, P f) → ∀ f ∈ pair s fs, P' f
  | [], _, f, hf => by cases hf
  | [a], h, f, hf => by rw [List.mem_singleton.mp hf]; exact h1 _ (h a (by simp))
  | a :: b :: r, h, f, hf => by
    rcases List.mem_cons.mp hf with hf | hf
    · rw [hf]; exact h2 _ _ (h a (by simp)) (h b (by simp))
    · exact pair_all h1 h2 r (fun g hg => h g (by simp [hg])) f hf
theorem pair_pv (s : Str) : ∀ fs : List Fm, (pair s fs).map Fm.pv = ((List.range (fs.length / 2)).map fun k => PV.tup [.str s, ((fs.map Fm.pv)[2 * k]?).getD .non, ((fs.map Fm.pv)[2 * k + 1]?).getD .non]) ++ (fs.map Fm.pv).drop (fs.length / 2 * 2)
  | [] => by simp [pair]
  | [a] => by simp [pair]
  | a :: b :: r => by
    have e : (a :: b :: r).length / 2 = r.length / 2 + 1 := by simp; omega
    rw [e, List.range_succ_eq_map, pair, List.map_cons, pair_pv s r, List.map_cons, List.map_map]
    have e2 : (r.length / 2 + 1) * 2 = r.length / 2 * 2 + 2 := by omega
    rw [e2]
    simp [Fm.pv, Function.comp_def, Nat.mul_add]
theorem row_wp {m : Nat} {s : Str} {f0 : Fm} {Q : Rt × List Slot → Prop} {E : Ex → List Slot → Prop} (hm : 1 ≤ m) (hm2 : m ≤ 32) (h0 : f0.wf) (h1 : f0.nodes = 1) (h2 : f0.depth = 1) (hs : s = "+" ∨ s = "-" ∨ s = "*")
    (k : ∀ (f : Fm), f.wf → f.nodes + 1 = 2 * m → f.depth ≤ 6 → (s = "*" → f.deg = m * f0.deg) → (s ≠ "*" → f.deg ≤ f0.deg) → Q (.val f.pv, [.val f0.pv, .val (.int m), .val (.str s)])) :
    (d__law_row [.val f0.pv, .val (.int m), .val (.str s)]).wp Q E := by
  unfold d__law_row
  rw [dFn_wp]
  refine ⟨rfl, ?_⟩
  have rep : (List.replicate m [f0.pv]).flatten = (List.replicate m f0).map Fm.pv := by
    clear hm hm2 k
    induction m with
    | zero => rfl
    | succ m ih => rw [List.replicate_succ, List.flatten_cons, ih, List.replicate_succ]; rfl
  have hfu : FU = 1000000 := rfl
  simp [b__law_row, rep]
  refine ⟨by omega, ?_⟩
  refine whD_wp (fun n ρ => ∃ (fs : List Fm) (s4 : Slot) (j : Nat), n = fs.length ∧ fs ≠ [] ∧ j ≤ 5 ∧ fs.length ≤ 2 ^ (5 - j) ∧ (∀ f ∈ fs, f.wf ∧ f.depth ≤ j + 1) ∧ (fs.map fun f => f.nodes + 1).sum = 2 * m ∧ (s = "*" → (fs.map Fm.deg).sum = m * f0.deg) ∧ (s ≠ "*" → ∀ f ∈ fs, f.deg ≤ f0.deg) ∧
      ρ = [.val f0.pv, .val (.int m), .val (.str s), .val (.lst (fs.map Fm.pv)), s4]) ?_ _ m _ (by rw [hfu]; omega) ?_
  · rintro n ρ ⟨fs, s4, j, rfl, a1, a2, a3, a4, a5, a6, a7, rfl⟩
    simp
    split
    · rename_i l1
      have l1' : 1 < fs.length := by omega
      have e2 : (fs.length : Int).fdiv 2 = ((fs.length / 2 : Nat) : Int) := by rw [Int.fdiv_eq_ediv_of_nonneg _ (by decide)]; omega
      have l32 : fs.length ≤ 32 := Nat.le_trans a3 (Nat.pow_le_pow_right (by decide) (show 5 - j ≤ 5 by omega))
      have dv : divOk 2 := divOk_of (by decide) (by decide)
      obtain ⟨h, hh⟩ : ∃ h : Nat, h = fs.length / 2 := ⟨_, rfl⟩
      rw [← hh] at e2
      have mo : mulOk (h : Int) 2 := mulOk_of (by omega) (by decide)
      simp [dv, mo, e2]
      refine ⟨by omega, ?_⟩
      refine lcD_map (fun p => match p with | .int i => .tup [.str s, ((fs.map Fm.pv)[2 * i.toNat]?).getD .non, ((fs.map Fm.pv)[2 * i.toNat + 1]?).getD .non] | _ => .non) (fun p hp => ?_) ?_
      · obtain ⟨i, hi, rfl⟩ := rngL_mem hp
        have q1 : (fs.map Fm.pv)[2 * i]? = some (fs[2 * i]'(by omega)).pv := by rw [List.getElem?_map, List.getElem?_eq_getElem (by omega)]; rfl
        have q2 : (fs.map Fm.pv)[2 * i + 1]? = some (fs[2 * i + 1]'(by omega)).pv := by rw [List.getElem?_map, List.getElem?_eq_getElem (by omega)]; rfl
        have q3 := atI_nat q1
        have q4 := atI_nat q2
        rw [show ((2 * i : Nat) : Int) = 2 * (i : Int) by omega] at q3
        rw [show ((2 * i + 1 : Nat) : Int) = 2 * (i : Int) + 1 by omega] at q4
        have mo : mulOk 2 (i : Int) := mulOk_of (by decide) (by omega)
        simp [q1, q2, q3, q4, mo]
      · simp only [dSl_c, dON_c, dOV_c] 
        simp [dv, mo, e2]
        have hj : j < 5 := by
          rcases Nat.lt_or_ge j 5 with h | h
          · exact h
          · rw [show 5 - j = 0 by omega] at a3; omega
        have pw : 2 ^ (5 - j) = 2 ^ (5 - (j + 1)) * 2 := by rw [show 5 - j = (5 - (j + 1)) + 1 by omega, Nat.pow_succ]
        have pl := pair_len s fs
        rw [cut_d (by omega), rngL_len, show ((h : Int) * 2).toNat = h * 2 by omega]
        refine ⟨by simp; omega, (pair s fs).length, by omega, pair s fs, rfl, fun z => by rw [z] at pl; simp at pl; omega, s4, j + 1, by omega, by rw [pl]; omega, ?_, by rw [pair_nodes]; exact a5, fun z => ?_, fun z => ?_, ?_, rfl⟩
        · exact pair_all (P := fun f => f.wf ∧ f.depth ≤ j + 1) (fun f h => ⟨h.1, by omega⟩) (fun f g h1 h2 => ⟨⟨hs, h1.1, h2.1⟩, by simp only [Fm.depth]; omega⟩) fs a4
        · have := a6 z
          subst z
          rw [pair_deg]; exact this
        · exact pair_all (P := fun f => f.deg ≤ f0.deg) (fun f h => h) (fun f g h1 h2 => by simp only [Fm.deg, if_neg z]; omega) fs (a7 z)
        · rw [pair_pv, ← hh]; simp [rngL, Function.comp_def]
    · rename_i l1
      have len1 : fs.length = 1 := by have := List.length_pos_iff.mpr a1; omega
      obtain ⟨f, rfl⟩ := List.length_eq_one_iff.mp len1
      have b4 := a4 f (by simp)
      have b5 : f.nodes + 1 = 2 * m := by simpa using a5
      have b6 : s = "*" → f.deg = m * f0.deg := by simpa using a6
      simp
      exact k f b4.1 b5 (by omega) b6 (fun z => a7 z f (by simp))
  · refine ⟨List.replicate m f0, _, 0, by simp, by simp; omega, by omega, by simp; omega, fun f hf => ?_, by simp [h1]; omega, fun _ => by simp, fun _ f hf => ?_, by simp; rfl⟩
    · rw [(List.mem_replicate.mp hf).2]; exact ⟨h0, by omega⟩
    · rw [(List.mem_replicate.mp hf).2]; exact Nat.le_refl _
end VL
set_option Elab.async false
set_option linter.all false
set_option maxRecDepth 100000
set_option maxHeartbeats 2000000
namespace VL
open PySem PySem.Spec L2
def okF (f : Fm) : Bool := decide (f.depth ≤ 10 ∧ f.nodes ≤ 40 ∧ f.deg ≤ 8)
theorem okForm_wp {f : Fm} {Q : Rt × List Slot → Prop} {E : Ex → List Slot → Prop} (hw : f.wf) (k : Q (.val (.bl (okF f)), [.val f.pv])) : (d_is_formula [.val f.pv]).wp Q E := by
  refine formula_wp f.noD ?_
  rw [mP_fm 10 f hw]
  by_cases c : f.depth ≤ 10
  · rw [if_pos c]
    simpa [okF, c] using k
  · rw [if_neg c]
    simpa [okF, c] using k
theorem bounds_wp {t : Nat} {o : OV} {x : Str} {Q : Rt × List Slot → Prop} {E : Ex → List Slot → Prop} (h : Src t o) (ht : t ≤ 2 ^ 37) (hx : nmOk x = true)
    (k : ∀ o', Src (t + 19) o' → Q (.val (.bl true), [.own o', .val (.str x)])) : (d__law_bounds_right [.own o, .val (.str x)]).wp Q E := by
  have pw : powOk 10 40 := powOk_of (n := 40) (by decide) (by decide)
  let one : Fm := .cell x
  let ten : Fm := .num 9999999999999999999999999999999999999999
  have w1 : one.wf := hx
  have w10 : ten.wf := ⟨by decide, by decide⟩
  unfold d__law_bounds_right
  rw [dFn_wp]
  refine ⟨rfl, ?_⟩
  simp [b__law_bounds_right, pw]
  refine chain_wp (m := 9) (f0 := one) h (by omega) (by omega) w1 rfl rfl (.inl rfl) fun f1 o1 a1 a2 a3 a4 s1 => ?_
  simp
  refine chain_wp (m := 10) (f0 := one) s1 (by omega) (by omega) w1 rfl rfl (.inr rfl) fun f2 o2 b1 b2 b3 b4 s2 => ?_
  simp
  refine row_wp (m := 20) (f0 := one) (by decide) (by decide) w1 rfl rfl (.inr (.inl rfl)) fun f3 c1 c2 c3 c4 c5 => ?_
  simp
  refine row_wp (m := 21) (f0 := one) (by decide) (by decide) w1 rfl rfl (.inl rfl) fun f4 d1 d2 d3 d4 d5 => ?_
  simp
  refine row_wp (m := 8) (f0 := one) (by decide) (by decide) w1 rfl rfl (.inr (.inr rfl)) fun f5 e1 e2 e3 e4 e5 => ?_
  simp
  refine row_wp (m := 9) (f0 := one) (by decide) (by decide) w1 rfl rfl (.inr (.inr rfl)) fun f6 g1 g2 g3 g4 g5 => ?_
  simp
  refine row_wp (m := 20) (f0 := ten) (by decide) (by decide) w10 rfl rfl (.inr (.inr rfl)) fun f7 h1 h2 h3 h4 h5 => ?_
  simp [pw]
  refine row_wp (m := 8) (f0 := one) (by decide) (by decide) w1 rfl rfl (.inr (.inr rfl)) fun f8 i1 i2 i3 i4 i5 => ?_
  simp
  refine row_wp (m := 8) (f0 := one) (by decide) (by decide) w1 rfl rfl (.inr (.inr rfl)) fun f9 j1 j2 j3 j4 j5 => ?_
  simp
  refine row_wp (m := 8) (f0 := one) (by decide) (by decide) w1 rfl rfl (.inr (.inr rfl)) fun f10 k1 k2 k3 k4 k5 => ?_
  simp
  have one1 : one.deg = 1 := rfl
  have ten0 : ten.deg = 0 := rfl
  have e45 := e4 rfl
  have g45 := g4 rfl
  have h45 := h4 rfl
  have i45 := i4 rfl
  have j45 := j4 rfl
  have k45 := k4 rfl
  have c45 := c5 (by decide)
  refine lcD_map (fun _ => .bl true) (fun p hp => ?_) ?_
  · have : ∃ f : Fm, f.wf ∧ p = .tup [f.pv, .bl (okF f)] := by
      have tr : ∀ {f : Fm}, (f.depth ≤ 10 ∧ f.nodes ≤ 40 ∧ f.deg ≤ 8) → okF f = true := fun h => decide_eq_true h
      have fa : ∀ {f : Fm}, ¬ (f.depth ≤ 10 ∧ f.nodes ≤ 40 ∧ f.deg ≤ 8) → okF f = false := fun h => decide_eq_false h
      simp only [List.mem_cons, List.not_mem_nil, or_false] at hp
      rcases hp with rfl | rfl | rfl | rfl | rfl | rfl | rfl | rfl | rfl | rfl | rfl
      · exact ⟨f1, a1, by rw [tr (by omega)]⟩
      · exact ⟨f2, b1, by rw [fa (by omega)]⟩
      · exact ⟨f3, c1, by rw [tr (by omega)]⟩
      · exact ⟨f4, d1, by rw [fa (by omega)]⟩
      · exact ⟨f5, e1, by rw [tr (by omega)]⟩
      · exact ⟨f6, g1, by rw [fa (by omega)]⟩
      · exact ⟨f7, h1, by rw [tr (by omega)]⟩
      · exact ⟨.num (-9999999999999999999999999999999999999999), ⟨by decide, by decide⟩, by rw [tr (by decide)]; rfl⟩
      · exact ⟨.cell "abcdefgh", (by decide : nmOk "abcdefgh" = true), by rw [tr (by decide)]; rfl⟩
      · exact ⟨.op "+" f8 f9, ⟨.inl rfl, i1, j1⟩, by rw [tr (by simp only [Fm.depth, Fm.nodes, Fm.deg]; rw [if_neg (by decide)]; omega)]; rfl⟩
      · refine ⟨.op "*" f10 (.op "+" ten one), ⟨.inr (.inr rfl), k1, .inl rfl, w10, w1⟩, ?_⟩
        have dg : (Fm.op "+" ten one).deg = 1 := by simp only [Fm.deg]; rw [if_neg (by decide), ten0, one1]; rfl
        have dg2 : (Fm.op "*" f10 (.op "+" ten one)).deg = 9 := by rw [Fm.deg, if_pos rfl, dg]; omega
        rw [fa (fun z => by have := z.2.2; omega)]; rfl
    obtain ⟨f, wf, rfl⟩ := this
    simp
    refine okForm_wp wf ?_
    simp
    refine equal_bl ?_
    simp
  · simp [pyAll, blsOf]
    exact k o2 (s2.mono (by omega))
end VL
set_option Elab.async false
set_option linter.all false
set_option maxRecDepth 100000
set_option maxHeartbeats 2000000
namespace VL
open PySem PySem.Spec L2
theorem the_law : ∀ ns : List Int, ns.length ≤ 63 → ∃ ss, d_law [.val (.lst (ns.map .int))] = .ok (.val (.bl true), ss) := by
  intro ns hl
  suffices h : (d_law [.val (.lst (ns.map .int))]).wp (fun x => x.1 = .val (.bl true)) noE by
    obtain ⟨⟨r, ss⟩, e, q⟩ := wp_ex h
    dsimp only at q; subst q
    exact ⟨ss, e⟩
  unfold d_law
  rw [dFn_wp]
  refine ⟨rfl, ?_⟩
  simp [b_law]
  refine ⟨by omega, ?_⟩
  refine forD_wp (fun _ ρ => ∃ s1 s2 s3 s4 s5 s6 s7 : Slot, ρ = [.val (.lst (ns.map .int)), s1, s2, s3, s4, s5, s6, s7]) _ 0 _ ⟨_, _, _, _, _, _, _, rfl⟩ ?_ ?_
  · rintro i p ρ hp ⟨s1, s2, s3, s4, s5, s6, s7, rfl⟩
    have hp' := List.mem_of_getElem? hp
    have : ∃ c : Int, p = .int c := by
      rcases List.mem_cons.mp hp' with h | h
      · exact ⟨0, h⟩
      · obtain ⟨c, _, rfl⟩ := List.mem_map.mp (List.mem_of_mem_take h); exact ⟨c, rfl⟩
    obtain ⟨c, rfl⟩ := this
    simp
    refine source_wp fun o0 h0 => ?_
    simp
    refine draw_wp h0 (by omega) (by omega) (by omega) fun r o1 r1 r2 h1 => ?_
    obtain ⟨r, rfl⟩ := Int.eq_ofNat_of_zero_le r1
    have e : (1 : Int) + (r : Int) = ((1 + r : Nat) : Int) := by omega
    simp
    rw [e]
    refine names_wp h1 (by omega) (by omega) fun xs o2 l2 n2 h2 => ?_
    simp
    refine dform_wp h2 (by omega) n2 (by omega) fun f o3 w1 w2 w3 w4 h3 => ?_
    simp
    refine okForm_wp w1 ?_
    simp
    have ok : okF f = true := decide_eq_true ⟨w3, by omega, by omega⟩
    refine equal_bl ?_
    simp [ok]
    obtain ⟨x, xs, rfl⟩ : ∃ x ys, xs = x :: ys := by
      cases xs with
      | nil => simp at l2; omega
      | cons x ys => exact ⟨x, ys, rfl⟩
    simp
    refine bounds_wp h3 (by omega) (n2 x (by simp)) fun o4 h4 => ?_
    simp
    refine forD_wp (fun i ρ => ∃ (o' : OV) (s5 s6 s7 : Slot), Src (1000 + 10 * i) o' ∧ ρ = [.val (.lst (ns.map .int)), .val (.int c), .own o', .val (.lst ((x :: xs).map .str)), .val f.pv, s5, s6, s7]) _ 0 _ ⟨o4, _, _, _, h4.mono (by omega), rfl⟩ ?_ ?_
    · rintro i p ρ hp ⟨o', s5, s6, s7, h', rfl⟩
      obtain ⟨hi, rfl⟩ := rngL_get hp
      have hi' : i < 4 := hi
      simp
      refine places_wp 14 f [] (by omega) (by omega) (by simp; omega) fun ps pl pv => ?_
      simp
      have pn : ps ≠ [] := fun z => by rw [z] at pl; cases f <;> simp [Fm.nodes] at pl
      refine choice_wp h' (by omega) (by simpa using pn) (by simp; omega) fun j q o5 hq h5 => ?_
      rw [List.getElem?_map] at hq
      cases hr : ps[j]? with
      | none => rw [hr] at hq; cases hq
      | some r =>
        rw [hr] at hq; cases hq
        obtain ⟨r', e', v, vl⟩ := pv r (List.mem_of_getElem? hr)
        have e'' : r = r' := by simpa using e'
        subst e''
        simp
        refine at_wp v ?_
        simp
        refine odd_wp h5 (by omega) fun w o6 nd nf h6 => ?_
        simp
        refine put_wp w v 14 (by omega) (by omega) ?_
        simp
        refine formula_wp (put_noD v nd) ?_
        have no : mP 10 (f.putP r w) = none := by
          cases hm : mP 10 (f.putP r w) with
          | none => rfl
          | some y =>
            obtain ⟨g, eg, wg⟩ := mP_inv 10 _ y hm
            obtain ⟨u, eu, wu⟩ := put_fm w v g eg wg
            exact (nf u wu eu).elim
        simp [no]
        refine equal_bl ?_
        simp
        exact h6.mono (by omega)
    · rintro ρ ⟨o', s5, s6, s7, h', rfl⟩
      simp
  · rintro ρ ⟨s1, s2, s3, s4, s5, s6, s7, rfl⟩
    simp
end VL
namespace VL
open PySem PySem.Spec L2
theorem all_mk {l : PySem.W.OpenLaw} {w : World} {K : PySem.W.Frag} {h : Heap} {mg : Str → Option Value} {fa : Addr} (X : K.In h) (G : h.Ns mainGlobals mg) (hfa : mg "law" = some (.ref fa))
    {f_is_integer : Addr} {od_is_integer an_is_integer : Option Addr} {sl_is_integer : Array (Option Value)} {oc_is_integer kV_is_integer dc_is_integer pm_is_integer cd_is_integer ct_is_integer : Value}
    (a_is_integer : PySem.W.nsIn K mainGlobals "is_integer" = some (some (.ref f_is_integer))) (l_is_integer : K.lookup f_is_integer = some ⟨oc_is_integer, od_is_integer, .func (PySem.W.fnOf "is_integer" "is_integer" (defArgs s_is_integer) (defBody s_is_integer) (defScope s_is_integer) .none kV_is_integer dc_is_integer pm_is_integer an_is_integer cd_is_integer ct_is_integer), sl_is_integer⟩) (c_is_integer : PySem.W.codeIn K cd_is_integer "is_integer" = true) (k_is_integer : PySem.W.keepIn K (.ref f_is_integer) = true)
    {f_is_number : Addr} {od_is_number an_is_number : Option Addr} {sl_is_number : Array (Option Value)} {oc_is_number kV_is_number dc_is_number pm_is_number cd_is_number ct_is_number : Value}
    (a_is_number : PySem.W.nsIn K mainGlobals "is_number" = some (some (.ref f_is_number))) (l_is_number : K.lookup f_is_number = some ⟨oc_is_number, od_is_number, .func (PySem.W.fnOf "is_number" "is_number" (defArgs s_is_number) (defBody s_is_number) (defScope s_is_number) .none kV_is_number dc_is_number pm_is_number an_is_number cd_is_number ct_is_number), sl_is_number⟩) (c_is_number : PySem.W.codeIn K cd_is_number "is_number" = true) (k_is_number : PySem.W.keepIn K (.ref f_is_number) = true)
    {f_is_name : Addr} {od_is_name an_is_name : Option Addr} {sl_is_name : Array (Option Value)} {oc_is_name kV_is_name dc_is_name pm_is_name cd_is_name ct_is_name : Value}
    (a_is_name : PySem.W.nsIn K mainGlobals "is_name" = some (some (.ref f_is_name))) (l_is_name : K.lookup f_is_name = some ⟨oc_is_name, od_is_name, .func (PySem.W.fnOf "is_name" "is_name" (defArgs s_is_name) (defBody s_is_name) (defScope s_is_name) .none kV_is_name dc_is_name pm_is_name an_is_name cd_is_name ct_is_name), sl_is_name⟩) (c_is_name : PySem.W.codeIn K cd_is_name "is_name" = true) (k_is_name : PySem.W.keepIn K (.ref f_is_name) = true)
    {f_measured : Addr} {od_measured an_measured : Option Addr} {sl_measured : Array (Option Value)} {oc_measured kV_measured dc_measured pm_measured cd_measured ct_measured : Value}
    (a_measured : PySem.W.nsIn K mainGlobals "measured" = some (some (.ref f_measured))) (l_measured : K.lookup f_measured = some ⟨oc_measured, od_measured, .func (PySem.W.fnOf "measured" "measured" (defArgs s_measured) (defBody s_measured) (defScope s_measured) .none kV_measured dc_measured pm_measured an_measured cd_measured ct_measured), sl_measured⟩) (c_measured : PySem.W.codeIn K cd_measured "measured" = true) (k_measured : PySem.W.keepIn K (.ref f_measured) = true)
    {f_is_formula : Addr} {od_is_formula an_is_formula : Option Addr} {sl_is_formula : Array (Option Value)} {oc_is_formula kV_is_formula dc_is_formula pm_is_formula cd_is_formula ct_is_formula : Value}
    (a_is_formula : PySem.W.nsIn K mainGlobals "is_formula" = some (some (.ref f_is_formula))) (l_is_formula : K.lookup f_is_formula = some ⟨oc_is_formula, od_is_formula, .func (PySem.W.fnOf "is_formula" "is_formula" (defArgs s_is_formula) (defBody s_is_formula) (defScope s_is_formula) .none kV_is_formula dc_is_formula pm_is_formula an_is_formula cd_is_formula ct_is_formula), sl_is_formula⟩) (c_is_formula : PySem.W.codeIn K cd_is_formula "is_formula" = true) (k_is_formula : PySem.W.keepIn K (.ref f_is_formula) = true)
    {f__law_source : Addr} {od__law_source an__law_source : Option Addr} {sl__law_source : Array (Option Value)} {oc__law_source kV__law_source dc__law_source pm__law_source cd__law_source ct__law_source : Value}
    (a__law_source : PySem.W.nsIn K mainGlobals "_law_source" = some (some (.ref f__law_source))) (l__law_source : K.lookup f__law_source = some ⟨oc__law_source, od__law_source, .func (PySem.W.fnOf "_law_source" "_law_source" (defArgs s__law_source) (defBody s__law_source) (defScope s__law_source) .none kV__law_source dc__law_source pm__law_source an__law_source cd__law_source ct__law_source), sl__law_source⟩) (c__law_source : PySem.W.codeIn K cd__law_source "_law_source" = true) (k__law_source : PySem.W.keepIn K (.ref f__law_source) = true)
    {f__law_draw : Addr} {od__law_draw an__law_draw : Option Addr} {sl__law_draw : Array (Option Value)} {oc__law_draw kV__law_draw dc__law_draw pm__law_draw cd__law_draw ct__law_draw : Value}
    (a__law_draw : PySem.W.nsIn K mainGlobals "_law_draw" = some (some (.ref f__law_draw))) (l__law_draw : K.lookup f__law_draw = some ⟨oc__law_draw, od__law_draw, .func (PySem.W.fnOf "_law_draw" "_law_draw" (defArgs s__law_draw) (defBody s__law_draw) (defScope s__law_draw) .none kV__law_draw dc__law_draw pm__law_draw an__law_draw cd__law_draw ct__law_draw), sl__law_draw⟩) (c__law_draw : PySem.W.codeIn K cd__law_draw "_law_draw" = true) (k__law_draw : PySem.W.keepIn K (.ref f__law_draw) = true)
    {f__law_choice : Addr} {od__law_choice an__law_choice : Option Addr} {sl__law_choice : Array (Option Value)} {oc__law_choice kV__law_choice dc__law_choice pm__law_choice cd__law_choice ct__law_choice : Value}
    (a__law_choice : PySem.W.nsIn K mainGlobals "_law_choice" = some (some (.ref f__law_choice))) (l__law_choice : K.lookup f__law_choice = some ⟨oc__law_choice, od__law_choice, .func (PySem.W.fnOf "_law_choice" "_law_choice" (defArgs s__law_choice) (defBody s__law_choice) (defScope s__law_choice) .none kV__law_choice dc__law_choice pm__law_choice an__law_choice cd__law_choice ct__law_choice), sl__law_choice⟩) (c__law_choice : PySem.W.codeIn K cd__law_choice "_law_choice" = true) (k__law_choice : PySem.W.keepIn K (.ref f__law_choice) = true)
    {f__law_equal : Addr} {od__law_equal an__law_equal : Option Addr} {sl__law_equal : Array (Option Value)} {oc__law_equal kV__law_equal dc__law_equal pm__law_equal cd__law_equal ct__law_equal : Value}
    (a__law_equal : PySem.W.nsIn K mainGlobals "_law_equal" = some (some (.ref f__law_equal))) (l__law_equal : K.lookup f__law_equal = some ⟨oc__law_equal, od__law_equal, .func (PySem.W.fnOf "_law_equal" "_law_equal" (defArgs s__law_equal) (defBody s__law_equal) (defScope s__law_equal) .none kV__law_equal dc__law_equal pm__law_equal an__law_equal cd__law_equal ct__law_equal), sl__law_equal⟩) (c__law_equal : PySem.W.codeIn K cd__law_equal "_law_equal" = true) (k__law_equal : PySem.W.keepIn K (.ref f__law_equal) = true)
    {f__law_names : Addr} {od__law_names an__law_names : Option Addr} {sl__law_names : Array (Option Value)} {oc__law_names kV__law_names dc__law_names pm__law_names cd__law_names ct__law_names : Value}
    (a__law_names : PySem.W.nsIn K mainGlobals "_law_names" = some (some (.ref f__law_names))) (l__law_names : K.lookup f__law_names = some ⟨oc__law_names, od__law_names, .func (PySem.W.fnOf "_law_names" "_law_names" (defArgs s__law_names) (defBody s__law_names) (defScope s__law_names) .none kV__law_names dc__law_names pm__law_names an__law_names cd__law_names ct__law_names), sl__law_names⟩) (c__law_names : PySem.W.codeIn K cd__law_names "_law_names" = true) (k__law_names : PySem.W.keepIn K (.ref f__law_names) = true)
    {f__law_small : Addr} {od__law_small an__law_small : Option Addr} {sl__law_small : Array (Option Value)} {oc__law_small kV__law_small dc__law_small pm__law_small cd__law_small ct__law_small : Value}
    (a__law_small : PySem.W.nsIn K mainGlobals "_law_small" = some (some (.ref f__law_small))) (l__law_small : K.lookup f__law_small = some ⟨oc__law_small, od__law_small, .func (PySem.W.fnOf "_law_small" "_law_small" (defArgs s__law_small) (defBody s__law_small) (defScope s__law_small) .none kV__law_small dc__law_small pm__law_small an__law_small cd__law_small ct__law_small), sl__law_small⟩) (c__law_small : PySem.W.codeIn K cd__law_small "_law_small" = true) (k__law_small : PySem.W.keepIn K (.ref f__law_small) = true)
    {f__law_leaf : Addr} {od__law_leaf an__law_leaf : Option Addr} {sl__law_leaf : Array (Option Value)} {oc__law_leaf kV__law_leaf dc__law_leaf pm__law_leaf cd__law_leaf ct__law_leaf : Value}
    (a__law_leaf : PySem.W.nsIn K mainGlobals "_law_leaf" = some (some (.ref f__law_leaf))) (l__law_leaf : K.lookup f__law_leaf = some ⟨oc__law_leaf, od__law_leaf, .func (PySem.W.fnOf "_law_leaf" "_law_leaf" (defArgs s__law_leaf) (defBody s__law_leaf) (defScope s__law_leaf) .none kV__law_leaf dc__law_leaf pm__law_leaf an__law_leaf cd__law_leaf ct__law_leaf), sl__law_leaf⟩) (c__law_leaf : PySem.W.codeIn K cd__law_leaf "_law_leaf" = true) (k__law_leaf : PySem.W.keepIn K (.ref f__law_leaf) = true)
    {f__law_tree : Addr} {od__law_tree an__law_tree : Option Addr} {sl__law_tree : Array (Option Value)} {oc__law_tree kV__law_tree dc__law_tree pm__law_tree cd__law_tree ct__law_tree : Value}
    (a__law_tree : PySem.W.nsIn K mainGlobals "_law_tree" = some (some (.ref f__law_tree))) (l__law_tree : K.lookup f__law_tree = some ⟨oc__law_tree, od__law_tree, .func (PySem.W.fnOf "_law_tree" "_law_tree" (defArgs s__law_tree) (defBody s__law_tree) (defScope s__law_tree) .none kV__law_tree dc__law_tree pm__law_tree an__law_tree cd__law_tree ct__law_tree), sl__law_tree⟩) (c__law_tree : PySem.W.codeIn K cd__law_tree "_law_tree" = true) (k__law_tree : PySem.W.keepIn K (.ref f__law_tree) = true)
    {f__law_formula : Addr} {od__law_formula an__law_formula : Option Addr} {sl__law_formula : Array (Option Value)} {oc__law_formula kV__law_formula dc__law_formula pm__law_formula cd__law_formula ct__law_formula : Value}
    (a__law_formula : PySem.W.nsIn K mainGlobals "_law_formula" = some (some (.ref f__law_formula))) (l__law_formula : K.lookup f__law_formula = some ⟨oc__law_formula, od__law_formula, .func (PySem.W.fnOf "_law_formula" "_law_formula" (defArgs s__law_formula) (defBody s__law_formula) (defScope s__law_formula) .none kV__law_formula dc__law_formula pm__law_formula an__law_formula cd__law_formula ct__law_formula), sl__law_formula⟩) (c__law_formula : PySem.W.codeIn K cd__law_formula "_law_formula" = true) (k__law_formula : PySem.W.keepIn K (.ref f__law_formula) = true)
    {f__law_places : Addr} {od__law_places an__law_places : Option Addr} {sl__law_places : Array (Option Value)} {oc__law_places kV__law_places dc__law_places pm__law_places cd__law_places ct__law_places : Value}
    (a__law_places : PySem.W.nsIn K mainGlobals "_law_places" = some (some (.ref f__law_places))) (l__law_places : K.lookup f__law_places = some ⟨oc__law_places, od__law_places, .func (PySem.W.fnOf "_law_places" "_law_places" (defArgs s__law_places) (defBody s__law_places) (defScope s__law_places) .none kV__law_places dc__law_places pm__law_places an__law_places cd__law_places ct__law_places), sl__law_places⟩) (c__law_places : PySem.W.codeIn K cd__law_places "_law_places" = true) (k__law_places : PySem.W.keepIn K (.ref f__law_places) = true)
    {f__law_at : Addr} {od__law_at an__law_at : Option Addr} {sl__law_at : Array (Option Value)} {oc__law_at kV__law_at dc__law_at pm__law_at cd__law_at ct__law_at : Value}
    (a__law_at : PySem.W.nsIn K mainGlobals "_law_at" = some (some (.ref f__law_at))) (l__law_at : K.lookup f__law_at = some ⟨oc__law_at, od__law_at, .func (PySem.W.fnOf "_law_at" "_law_at" (defArgs s__law_at) (defBody s__law_at) (defScope s__law_at) .none kV__law_at dc__law_at pm__law_at an__law_at cd__law_at ct__law_at), sl__law_at⟩) (c__law_at : PySem.W.codeIn K cd__law_at "_law_at" = true) (k__law_at : PySem.W.keepIn K (.ref f__law_at) = true)
    {f__law_put : Addr} {od__law_put an__law_put : Option Addr} {sl__law_put : Array (Option Value)} {oc__law_put kV__law_put dc__law_put pm__law_put cd__law_put ct__law_put : Value}
    (a__law_put : PySem.W.nsIn K mainGlobals "_law_put" = some (some (.ref f__law_put))) (l__law_put : K.lookup f__law_put = some ⟨oc__law_put, od__law_put, .func (PySem.W.fnOf "_law_put" "_law_put" (defArgs s__law_put) (defBody s__law_put) (defScope s__law_put) .none kV__law_put dc__law_put pm__law_put an__law_put cd__law_put ct__law_put), sl__law_put⟩) (c__law_put : PySem.W.codeIn K cd__law_put "_law_put" = true) (k__law_put : PySem.W.keepIn K (.ref f__law_put) = true)
    {f__law_odd : Addr} {od__law_odd an__law_odd : Option Addr} {sl__law_odd : Array (Option Value)} {oc__law_odd kV__law_odd dc__law_odd pm__law_odd cd__law_odd ct__law_odd : Value}
    (a__law_odd : PySem.W.nsIn K mainGlobals "_law_odd" = some (some (.ref f__law_odd))) (l__law_odd : K.lookup f__law_odd = some ⟨oc__law_odd, od__law_odd, .func (PySem.W.fnOf "_law_odd" "_law_odd" (defArgs s__law_odd) (defBody s__law_odd) (defScope s__law_odd) .none kV__law_odd dc__law_odd pm__law_odd an__law_odd cd__law_odd ct__law_odd), sl__law_odd⟩) (c__law_odd : PySem.W.codeIn K cd__law_odd "_law_odd" = true) (k__law_odd : PySem.W.keepIn K (.ref f__law_odd) = true)
    {f__law_chain : Addr} {od__law_chain an__law_chain : Option Addr} {sl__law_chain : Array (Option Value)} {oc__law_chain kV__law_chain dc__law_chain pm__law_chain cd__law_chain ct__law_chain : Value}
    (a__law_chain : PySem.W.nsIn K mainGlobals "_law_chain" = some (some (.ref f__law_chain))) (l__law_chain : K.lookup f__law_chain = some ⟨oc__law_chain, od__law_chain, .func (PySem.W.fnOf "_law_chain" "_law_chain" (defArgs s__law_chain) (defBody s__law_chain) (defScope s__law_chain) .none kV__law_chain dc__law_chain pm__law_chain an__law_chain cd__law_chain ct__law_chain), sl__law_chain⟩) (c__law_chain : PySem.W.codeIn K cd__law_chain "_law_chain" = true) (k__law_chain : PySem.W.keepIn K (.ref f__law_chain) = true)
    {f__law_row : Addr} {od__law_row an__law_row : Option Addr} {sl__law_row : Array (Option Value)} {oc__law_row kV__law_row dc__law_row pm__law_row cd__law_row ct__law_row : Value}
    (a__law_row : PySem.W.nsIn K mainGlobals "_law_row" = some (some (.ref f__law_row))) (l__law_row : K.lookup f__law_row = some ⟨oc__law_row, od__law_row, .func (PySem.W.fnOf "_law_row" "_law_row" (defArgs s__law_row) (defBody s__law_row) (defScope s__law_row) .none kV__law_row dc__law_row pm__law_row an__law_row cd__law_row ct__law_row), sl__law_row⟩) (c__law_row : PySem.W.codeIn K cd__law_row "_law_row" = true) (k__law_row : PySem.W.keepIn K (.ref f__law_row) = true)
    {f__law_bounds_right : Addr} {od__law_bounds_right an__law_bounds_right : Option Addr} {sl__law_bounds_right : Array (Option Value)} {oc__law_bounds_right kV__law_bounds_right dc__law_bounds_right pm__law_bounds_right cd__law_bounds_right ct__law_bounds_right : Value}
    (a__law_bounds_right : PySem.W.nsIn K mainGlobals "_law_bounds_right" = some (some (.ref f__law_bounds_right))) (l__law_bounds_right : K.lookup f__law_bounds_right = some ⟨oc__law_bounds_right, od__law_bounds_right, .func (PySem.W.fnOf "_law_bounds_right" "_law_bounds_right" (defArgs s__law_bounds_right) (defBody s__law_bounds_right) (defScope s__law_bounds_right) .none kV__law_bounds_right dc__law_bounds_right pm__law_bounds_right an__law_bounds_right cd__law_bounds_right ct__law_bounds_right), sl__law_bounds_right⟩) (c__law_bounds_right : PySem.W.codeIn K cd__law_bounds_right "_law_bounds_right" = true) (k__law_bounds_right : PySem.W.keepIn K (.ref f__law_bounds_right) = true)
    {f_law : Addr} {od_law an_law : Option Addr} {sl_law : Array (Option Value)} {oc_law kV_law dc_law pm_law cd_law ct_law : Value}
    (a_law : PySem.W.nsIn K mainGlobals "law" = some (some (.ref f_law))) (l_law : K.lookup f_law = some ⟨oc_law, od_law, .func (PySem.W.fnOf "law" "law" (defArgs s_law) (defBody s_law) (defScope s_law) .none kV_law dc_law pm_law an_law cd_law ct_law), sl_law⟩) (c_law : PySem.W.codeIn K cd_law "law" = true) (k_law : PySem.W.keepIn K (.ref f_law) = true)
    (z_abs : PySem.W.nsIn K mainGlobals "abs" = some none)
    (z_all : PySem.W.nsIn K mainGlobals "all" = some none)
    (z_bool : PySem.W.nsIn K mainGlobals "bool" = some none)
    (z_int : PySem.W.nsIn K mainGlobals "int" = some none)
    (z_isinstance : PySem.W.nsIn K mainGlobals "isinstance" = some none)
    (z_len : PySem.W.nsIn K mainGlobals "len" = some none)
    (z_list : PySem.W.nsIn K mainGlobals "list" = some none)
    (z_max : PySem.W.nsIn K mainGlobals "max" = some none)
    (z_range : PySem.W.nsIn K mainGlobals "range" = some none)
    (z_str : PySem.W.nsIn K mainGlobals "str" = some none)
    (z_tuple : PySem.W.nsIn K mainGlobals "tuple" = some none)
    {r_SIGNS : Addr} {o_SIGNS : Obj} (n_SIGNS : PySem.W.nsIn K mainGlobals "SIGNS" = some (some (.ref r_SIGNS))) (m_SIGNS : K.lookup r_SIGNS = some o_SIGNS) (v_SIGNS : tupOf o_SIGNS [("+" : Str), ("-" : Str), ("*" : Str)] = true)
    {t_LETTERS : _} (n_LETTERS : PySem.W.nsIn K mainGlobals "LETTERS" = some (some (.str "abcdefghijklmnopqrstuvwxyz" t_LETTERS)))
    {t_MOST_NODES : _} (n_MOST_NODES : PySem.W.nsIn K mainGlobals "MOST_NODES" = some (some (.int 40 t_MOST_NODES)))
    {t_MOST_DEPTH : _} (n_MOST_DEPTH : PySem.W.nsIn K mainGlobals "MOST_DEPTH" = some (some (.int 10 t_MOST_DEPTH)))
    {t_MOST_DEGREE : _} (n_MOST_DEGREE : PySem.W.nsIn K mainGlobals "MOST_DEGREE" = some (some (.int 8 t_MOST_DEGREE)))
    :
    ∃ fd : FuncData, (∀ (s : Shared) (v : Value), BindsTo s fd ⟨[v], []⟩ [("script", v)]) ∧ ∀ base : Heap, K.In base → base.Ns mainGlobals mg → FnOk l.prog w K mg base (L2.CX l.prog w) 25 fa fd ["script"] (spV K mg d_law) := by
  have e := hfa.symm.trans (PySem.W.mg_of X G a_law)
  cases e
  let A : Ad := ⟨f_is_integer, PySem.W.fnOf "is_integer" "is_integer" (defArgs s_is_integer) (defBody s_is_integer) (defScope s_is_integer) .none kV_is_integer dc_is_integer pm_is_integer an_is_integer cd_is_integer ct_is_integer, f_is_number, PySem.W.fnOf "is_number" "is_number" (defArgs s_is_number) (defBody s_is_number) (defScope s_is_number) .none kV_is_number dc_is_number pm_is_number an_is_number cd_is_number ct_is_number, f_is_name, PySem.W.fnOf "is_name" "is_name" (defArgs s_is_name) (defBody s_is_name) (defScope s_is_name) .none kV_is_name dc_is_name pm_is_name an_is_name cd_is_name ct_is_name, f_measured, PySem.W.fnOf "measured" "measured" (defArgs s_measured) (defBody s_measured) (defScope s_measured) .none kV_measured dc_measured pm_measured an_measured cd_measured ct_measured, f_is_formula, PySem.W.fnOf "is_formula" "is_formula" (defArgs s_is_formula) (defBody s_is_formula) (defScope s_is_formula) .none kV_is_formula dc_is_formula pm_is_formula an_is_formula cd_is_formula ct_is_formula, f__law_source, PySem.W.fnOf "_law_source" "_law_source" (defArgs s__law_source) (defBody s__law_source) (defScope s__law_source) .none kV__law_source dc__law_source pm__law_source an__law_source cd__law_source ct__law_source, f__law_draw, PySem.W.fnOf "_law_draw" "_law_draw" (defArgs s__law_draw) (defBody s__law_draw) (defScope s__law_draw) .none kV__law_draw dc__law_draw pm__law_draw an__law_draw cd__law_draw ct__law_draw, f__law_choice, PySem.W.fnOf "_law_choice" "_law_choice" (defArgs s__law_choice) (defBody s__law_choice) (defScope s__law_choice) .none kV__law_choice dc__law_choice pm__law_choice an__law_choice cd__law_choice ct__law_choice, f__law_equal, PySem.W.fnOf "_law_equal" "_law_equal" (defArgs s__law_equal) (defBody s__law_equal) (defScope s__law_equal) .none kV__law_equal dc__law_equal pm__law_equal an__law_equal cd__law_equal ct__law_equal, f__law_names, PySem.W.fnOf "_law_names" "_law_names" (defArgs s__law_names) (defBody s__law_names) (defScope s__law_names) .none kV__law_names dc__law_names pm__law_names an__law_names cd__law_names ct__law_names, f__law_small, PySem.W.fnOf "_law_small" "_law_small" (defArgs s__law_small) (defBody s__law_small) (defScope s__law_small) .none kV__law_small dc__law_small pm__law_small an__law_small cd__law_small ct__law_small, f__law_leaf, PySem.W.fnOf "_law_leaf" "_law_leaf" (defArgs s__law_leaf) (defBody s__law_leaf) (defScope s__law_leaf) .none kV__law_leaf dc__law_leaf pm__law_leaf an__law_leaf cd__law_leaf ct__law_leaf, f__law_tree, PySem.W.fnOf "_law_tree" "_law_tree" (defArgs s__law_tree) (defBody s__law_tree) (defScope s__law_tree) .none kV__law_tree dc__law_tree pm__law_tree an__law_tree cd__law_tree ct__law_tree, f__law_formula, PySem.W.fnOf "_law_formula" "_law_formula" (defArgs s__law_formula) (defBody s__law_formula) (defScope s__law_formula) .none kV__law_formula dc__law_formula pm__law_formula an__law_formula cd__law_formula ct__law_formula, f__law_places, PySem.W.fnOf "_law_places" "_law_places" (defArgs s__law_places) (defBody s__law_places) (defScope s__law_places) .none kV__law_places dc__law_places pm__law_places an__law_places cd__law_places ct__law_places, f__law_at, PySem.W.fnOf "_law_at" "_law_at" (defArgs s__law_at) (defBody s__law_at) (defScope s__law_at) .none kV__law_at dc__law_at pm__law_at an__law_at cd__law_at ct__law_at, f__law_put, PySem.W.fnOf "_law_put" "_law_put" (defArgs s__law_put) (defBody s__law_put) (defScope s__law_put) .none kV__law_put dc__law_put pm__law_put an__law_put cd__law_put ct__law_put, f__law_odd, PySem.W.fnOf "_law_odd" "_law_odd" (defArgs s__law_odd) (defBody s__law_odd) (defScope s__law_odd) .none kV__law_odd dc__law_odd pm__law_odd an__law_odd cd__law_odd ct__law_odd, f__law_chain, PySem.W.fnOf "_law_chain" "_law_chain" (defArgs s__law_chain) (defBody s__law_chain) (defScope s__law_chain) .none kV__law_chain dc__law_chain pm__law_chain an__law_chain cd__law_chain ct__law_chain, f__law_row, PySem.W.fnOf "_law_row" "_law_row" (defArgs s__law_row) (defBody s__law_row) (defScope s__law_row) .none kV__law_row dc__law_row pm__law_row an__law_row cd__law_row ct__law_row, f__law_bounds_right, PySem.W.fnOf "_law_bounds_right" "_law_bounds_right" (defArgs s__law_bounds_right) (defBody s__law_bounds_right) (defScope s__law_bounds_right) .none kV__law_bounds_right dc__law_bounds_right pm__law_bounds_right an__law_bounds_right cd__law_bounds_right ct__law_bounds_right, fa, PySem.W.fnOf "law" "law" (defArgs s_law) (defBody s_law) (defScope s_law) .none kV_law dc_law pm_law an_law cd_law ct_law⟩
  have T : Txt K mg A := ⟨fun_mk (st := s_is_integer) l_is_integer c_is_integer k_is_integer, PySem.W.mg_of X G a_is_integer, fun_mk (st := s_is_number) l_is_number c_is_number k_is_number, PySem.W.mg_of X G a_is_number, fun_mk (st := s_is_name) l_is_name c_is_name k_is_name, PySem.W.mg_of X G a_is_name, fun_mk (st := s_measured) l_measured c_measured k_measured, PySem.W.mg_of X G a_measured, fun_mk (st := s_is_formula) l_is_formula c_is_formula k_is_formula, PySem.W.mg_of X G a_is_formula, fun_mk (st := s__law_source) l__law_source c__law_source k__law_source, PySem.W.mg_of X G a__law_source, fun_mk (st := s__law_draw) l__law_draw c__law_draw k__law_draw, PySem.W.mg_of X G a__law_draw, fun_mk (st := s__law_choice) l__law_choice c__law_choice k__law_choice, PySem.W.mg_of X G a__law_choice, fun_mk (st := s__law_equal) l__law_equal c__law_equal k__law_equal, PySem.W.mg_of X G a__law_equal, fun_mk (st := s__law_names) l__law_names c__law_names k__law_names, PySem.W.mg_of X G a__law_names, fun_mk (st := s__law_small) l__law_small c__law_small k__law_small, PySem.W.mg_of X G a__law_small, fun_mk (st := s__law_leaf) l__law_leaf c__law_leaf k__law_leaf, PySem.W.mg_of X G a__law_leaf, fun_mk (st := s__law_tree) l__law_tree c__law_tree k__law_tree, PySem.W.mg_of X G a__law_tree, fun_mk (st := s__law_formula) l__law_formula c__law_formula k__law_formula, PySem.W.mg_of X G a__law_formula, fun_mk (st := s__law_places) l__law_places c__law_places k__law_places, PySem.W.mg_of X G a__law_places, fun_mk (st := s__law_at) l__law_at c__law_at k__law_at, PySem.W.mg_of X G a__law_at, fun_mk (st := s__law_put) l__law_put c__law_put k__law_put, PySem.W.mg_of X G a__law_put, fun_mk (st := s__law_odd) l__law_odd c__law_odd k__law_odd, PySem.W.mg_of X G a__law_odd, fun_mk (st := s__law_chain) l__law_chain c__law_chain k__law_chain, PySem.W.mg_of X G a__law_chain, fun_mk (st := s__law_row) l__law_row c__law_row k__law_row, PySem.W.mg_of X G a__law_row, fun_mk (st := s__law_bounds_right) l__law_bounds_right c__law_bounds_right k__law_bounds_right, PySem.W.mg_of X G a__law_bounds_right, fun_mk (st := s_law) l_law c_law k_law, PySem.W.mg_of X G a_law, PySem.W.mg_none_of X G z_abs, PySem.W.mg_none_of X G z_all, PySem.W.mg_none_of X G z_bool, PySem.W.mg_none_of X G z_int, PySem.W.mg_none_of X G z_isinstance, PySem.W.mg_none_of X G z_len, PySem.W.mg_none_of X G z_list, PySem.W.mg_none_of X G z_max, PySem.W.mg_none_of X G z_range, PySem.W.mg_none_of X G z_str, PySem.W.mg_none_of X G z_tuple, tup_mk (PySem.W.mg_of X G n_SIGNS) m_SIGNS v_SIGNS, ⟨_, PySem.W.mg_of X G n_LETTERS⟩, ⟨_, PySem.W.mg_of X G n_MOST_NODES⟩, ⟨_, PySem.W.mg_of X G n_MOST_DEPTH⟩, ⟨_, PySem.W.mg_of X G n_MOST_DEGREE⟩⟩
  exact ⟨A.g_law, fun s v => .of_eq rfl, fun base _ _ => ok_law T⟩
end VL
open PySem PySem.W PyProof.Rows VL
set_option maxRecDepth 100000 in
set_option maxHeartbeats 0 in
theorem PySem.Challenge.cw_laterform_k01_formulas_recognized_holds : PySem.Challenge.rw_laterform_k01_formulas_recognized.Holds := by
  w_on; o_law; k_head; (case hw => w_witness2)
  k_fill
  refine walkV (l := PySem.Challenge.rw_laterform_k01_formulas_recognized) (k := 25) rfl rfl ⟨rfl, by decide, by decide⟩ (fun w h Y => PySem.W.kIn_of Y) ?F ?noL the_law
  case F =>
    intro w mg fa h KX G hmg
    refine' all_mk KX G hmg ?a_is_integer ?l_is_integer ?c_is_integer ?k_is_integer ?a_is_number ?l_is_number ?c_is_number ?k_is_number ?a_is_name ?l_is_name ?c_is_name ?k_is_name ?a_measured ?l_measured ?c_measured ?k_measured ?a_is_formula ?l_is_formula ?c_is_formula ?k_is_formula ?a__law_source ?l__law_source ?c__law_source ?k__law_source ?a__law_draw ?l__law_draw ?c__law_draw ?k__law_draw ?a__law_choice ?l__law_choice ?c__law_choice ?k__law_choice ?a__law_equal ?l__law_equal ?c__law_equal ?k__law_equal ?a__law_names ?l__law_names ?c__law_names ?k__law_names ?a__law_small ?l__law_small ?c__law_small ?k__law_small ?a__law_leaf ?l__law_leaf ?c__law_leaf ?k__law_leaf ?a__law_tree ?l__law_tree ?c__law_tree ?k__law_tree ?a__law_formula ?l__law_formula ?c__law_formula ?k__law_formula ?a__law_places ?l__law_places ?c__law_places ?k__law_places ?a__law_at ?l__law_at ?c__law_at ?k__law_at ?a__law_put ?l__law_put ?c__law_put ?k__law_put ?a__law_odd ?l__law_odd ?c__law_odd ?k__law_odd ?a__law_chain ?l__law_chain ?c__law_chain ?k__law_chain ?a__law_row ?l__law_row ?c__law_row ?k__law_row ?a__law_bounds_right ?l__law_bounds_right ?c__law_bounds_right ?k__law_bounds_right ?a_law ?l_law ?c_law ?k_law ?z_abs ?z_all ?z_bool ?z_int ?z_isinstance ?z_len ?z_list ?z_max ?z_range ?z_str ?z_tuple ?n_SIGNS ?m_SIGNS ?v_SIGNS ?n_LETTERS ?n_MOST_NODES ?n_MOST_DEPTH ?n_MOST_DEGREE
    (case a_is_integer => k_is); (case l_is_integer => k_is); (case c_is_integer => k_is); (case k_is_integer => k_is)
    (case a_is_number => k_is); (case l_is_number => k_is); (case c_is_number => k_is); (case k_is_number => k_is)
    (case a_is_name => k_is); (case l_is_name => k_is); (case c_is_name => k_is); (case k_is_name => k_is)
    (case a_measured => k_is); (case l_measured => k_is); (case c_measured => k_is); (case k_measured => k_is)
    (case a_is_formula => k_is); (case l_is_formula => k_is); (case c_is_formula => k_is); (case k_is_formula => k_is)
    (case a__law_source => k_is); (case l__law_source => k_is); (case c__law_source => k_is); (case k__law_source => k_is)
    (case a__law_draw => k_is); (case l__law_draw => k_is); (case c__law_draw => k_is); (case k__law_draw => k_is)
    (case a__law_choice => k_is); (case l__law_choice => k_is); (case c__law_choice => k_is); (case k__law_choice => k_is)
    (case a__law_equal => k_is); (case l__law_equal => k_is); (case c__law_equal => k_is); (case k__law_equal => k_is)
    (case a__law_names => k_is); (case l__law_names => k_is); (case c__law_names => k_is); (case k__law_names => k_is)
    (case a__law_small => k_is); (case l__law_small => k_is); (case c__law_small => k_is); (case k__law_small => k_is)
    (case a__law_leaf => k_is); (case l__law_leaf => k_is); (case c__law_leaf => k_is); (case k__law_leaf => k_is)
    (case a__law_tree => k_is); (case l__law_tree => k_is); (case c__law_tree => k_is); (case k__law_tree => k_is)
    (case a__law_formula => k_is); (case l__law_formula => k_is); (case c__law_formula => k_is); (case k__law_formula => k_is)
    (case a__law_places => k_is); (case l__law_places => k_is); (case c__law_places => k_is); (case k__law_places => k_is)
    (case a__law_at => k_is); (case l__law_at => k_is); (case c__law_at => k_is); (case k__law_at => k_is)
    (case a__law_put => k_is); (case l__law_put => k_is); (case c__law_put => k_is); (case k__law_put => k_is)
    (case a__law_odd => k_is); (case l__law_odd => k_is); (case c__law_odd => k_is); (case k__law_odd => k_is)
    (case a__law_chain => k_is); (case l__law_chain => k_is); (case c__law_chain => k_is); (case k__law_chain => k_is)
    (case a__law_row => k_is); (case l__law_row => k_is); (case c__law_row => k_is); (case k__law_row => k_is)
    (case a__law_bounds_right => k_is); (case l__law_bounds_right => k_is); (case c__law_bounds_right => k_is); (case k__law_bounds_right => k_is)
    (case a_law => k_is); (case l_law => k_is); (case c_law => k_is); (case k_law => k_is)
    (case z_abs => k_is); (case z_all => k_is); (case z_bool => k_is); (case z_int => k_is)
    (case z_isinstance => k_is); (case z_len => k_is); (case z_list => k_is); (case z_max => k_is)
    (case z_range => k_is); (case z_str => k_is); (case z_tuple => k_is); (case n_SIGNS => k_is)
    (case m_SIGNS => k_is); (case v_SIGNS => first | rfl | decide +kernel); (case n_LETTERS => k_is); (case n_MOST_NODES => k_is)
    (case n_MOST_DEPTH => k_is); (case n_MOST_DEGREE => k_is)
  case noL => intro w; exact noLists_by (by first | rfl | decide +kernel)
#print axioms PySem.Challenge.cw_laterform_k01_formulas_recognized_holds
