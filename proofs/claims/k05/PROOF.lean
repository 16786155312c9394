import PyProof.Rows.All
import Wide.All
import OpenK.AllK
import Wide.FinOn
import HandS.ForMost
import HandS.ForExc
import HandS.Zip
import HandS.Wide
import HandS.IsInst
import HandS.CallSlots
import HandS.Head2
import HandS.HeadEnd
import HandS.HeadHook2
import HandS.Flow
import HandS.TupMul
import PySem.Challenge.RW_lotspring_k05_rows_at_seeds_and_added
set_option Elab.async false
set_option linter.all false
set_option maxRecDepth 100000
set_option maxHeartbeats 4000000
/-! Values of the law's own world: what a slot stands for, whom it belongs to. -/
namespace Ls
open PySem L2

/-- a slot's worth: settled data, a bare value, a list of the def's own -/
inductive O where
  | fz (d : PyData)
  | raw (v : V)
  | lst (xs : List O)
abbrev En := List (Option O)
/-- an exception: its class by its global name, its fields -/
structure Xn where
  cls : Str
  fs : List (Str × PyData)
inductive Out (α : Type) where
  | ok (a : α) (ρ : En)
  | exc (x : Xn) (ρ : En)
  | bad
inductive SO where
  | nx (ρ : En) | rt (o : O) (ρ : En) | bk (ρ : En) | ct (ρ : En) | exc (x : Xn) (ρ : En) | bad
inductive FO where
  | ok (o : O) (as : List O) | exc (x : Xn) (as : List O) | bad

mutual
def frz : O → Option PyData
  | .fz d => some d
  | .raw _ => none
  | .lst xs => (frzs xs).map .list
def frzs : List O → Option (List PyData)
  | [] => some []
  | x :: xs => (frz x).bind fun d => (frzs xs).map fun ds => d :: ds
end

/-- how often an address is held -/
abbrev Fp := Addr → Nat
def Fp.z : Fp := fun _ => 0
def Fp.one (a : Addr) : Fp := fun b => if b = a then 1 else 0
def Fp.add (A B : Fp) : Fp := fun b => A b + B b
instance : Add Fp := ⟨Fp.add⟩
theorem add_at (A B : Fp) (b : Addr) : (A + B) b = A b + B b := rfl
theorem z_at (b : Addr) : Fp.z b = 0 := rfl
theorem one_same (a : Addr) : Fp.one a a = 1 := if_pos rfl
theorem one_ne {a b : Addr} (h : b ≠ a) : Fp.one a b = 0 := if_neg h

section
variable (K : PySem.W.Frag) (S H : Hp)
mutual
inductive OR : V → O → Fp → Prop
  | fz {v : V} {d : PyData} {A : Fp} : Dp K S v d → (∀ b, A b = 0) → OR v (.fz d) A
  | raw {v : V} {A : Fp} : (∀ b, A b = 0) → OR v (.raw v) A
  | lst {a : Addr} {vs : List V} {xs : List O} {A B : Fp} : H a = some (.lst vs) → ORs vs xs B → (∀ b, A b = Fp.one a b + B b) → OR (.ref a) (.lst xs) A
inductive ORs : List V → List O → Fp → Prop
  | nil {A : Fp} : (∀ b, A b = 0) → ORs [] [] A
  | cons {v : V} {vs : List V} {x : O} {xs : List O} {A B C : Fp} : OR v x B → ORs vs xs C → (∀ b, A b = B b + C b) → ORs (v :: vs) (x :: xs) A
end
inductive ER : St → En → Fp → Prop
  | nil {A : Fp} : (∀ b, A b = 0) → ER [] [] A
  | non {w : Option V} {σ : St} {ρ : En} {A : Fp} : ER σ ρ A → ER (w :: σ) (none :: ρ) A
  | som {v : V} {o : O} {σ : St} {ρ : En} {A B C : Fp} : OR K S H v o B → ER σ ρ C → (∀ b, A b = B b + C b) → ER (some v :: σ) (some o :: ρ) A
end

/-- the settled part lies in the heap, what is held is held once and not settled -/
structure WF (S H : Hp) (A : Fp) : Prop where
  sub : ∀ a u, S a = some u → H a = some u
  one : ∀ b, A b ≤ 1
  dj : ∀ b, 0 < A b → S b = none
  th : ∀ b, 0 < A b → H b ≠ none
/-- one stand to another -/
structure Tr (S H : Hp) (A : Fp) (S' H' : Hp) (A' : Fp) : Prop where
  fz : ∀ a u, S a = some u → S' a = some u
  keep : ∀ a u, A a = 0 → H a = some u → H' a = some u
  new : ∀ a u, S' a = some u → S a = some u ∨ 0 < A a ∨ H a = none
  own : ∀ a, 0 < A' a → 0 < A a ∨ H a = none

theorem Tr.refl {S H : Hp} {A : Fp} : Tr S H A S H A := ⟨fun _ _ h => h, fun _ _ _ h => h, fun _ _ h => .inl h, fun _ h => .inl h⟩
theorem Tr.trans {S H S1 H1 S2 H2 : Hp} {A A1 A2 : Fp} (p : Tr S H A S1 H1 A1) (q : Tr S1 H1 A1 S2 H2 A2) : Tr S H A S2 H2 A2 := by
  have nn : ∀ a, H1 a = none → 0 < A a ∨ H a = none := fun a h => by
    by_cases z : A a = 0
    · refine .inr ?_
      cases e : H a with
      | none => rfl
      | some u => rw [p.keep a u z e] at h; cases h
    · exact .inl (by omega)
  refine ⟨fun a u h => q.fz a u (p.fz a u h), fun a u z h => q.keep a u ?_ (p.keep a u z h), fun a u h => ?_, fun a h => ?_⟩
  · by_cases y : A1 a = 0
    · exact y
    · rcases p.own a (by omega) with w | w
      · omega
      · rw [h] at w; cases w
  · rcases q.new a u h with w | w | w
    · exact p.new a u w
    · exact (p.own a w).elim (fun x => .inr (.inl x)) fun x => .inr (.inr x)
    · exact (nn a w).elim (fun x => .inr (.inl x)) fun x => .inr (.inr x)
  · rcases q.own a h with w | w
    · exact p.own a w
    · exact nn a w
/-- a frame beside: what is held there stays so -/
theorem Tr.frame {S H S' H' : Hp} {A A' B : Fp} (p : Tr S H A S' H' A') (w : WF S H (A + B)) (w' : WF S' H' A') : WF S' H' (A' + B) ∧ (∀ a, 0 < B a → H' a = H a ∧ S' a = none) := by
  have kb : ∀ a, 0 < B a → A a = 0 := fun a h => by have := w.one a; rw [add_at] at this; omega
  have hb : ∀ a, 0 < B a → H' a = H a ∧ S' a = none := fun a h => by
    have t := w.th a (by rw [add_at]; omega)
    cases e : H a with
    | none => exact absurd e t
    | some u =>
      refine ⟨p.keep a u (kb a h) e, ?_⟩
      cases q : S' a with
      | none => rfl
      | some z =>
        rcases p.new a z q with x | x | x
        · rw [w.dj a (by rw [add_at]; omega)] at x; cases x
        · have := kb a h; omega
        · rw [e] at x; cases x
  refine ⟨⟨w'.sub, fun a => ?_, fun a h => ?_, fun a h => ?_⟩, hb⟩
  · rw [add_at]
    by_cases z : B a = 0
    · have := w'.one a; omega
    · have h1 := w.one a
      rw [add_at] at h1
      by_cases y : A' a = 0
      · omega
      · have t := w.th a (by rw [add_at]; omega)
        rcases p.own a (by omega) with x | x
        · omega
        · exact absurd x t
  · rw [add_at] at h
    by_cases z : B a = 0
    · exact w'.dj a (by omega)
    · exact (hb a (by omega)).2
  · rw [add_at] at h
    by_cases z : B a = 0
    · exact w'.th a (by omega)
    · rw [(hb a (by omega)).1]
      exact w.th a (by rw [add_at]; omega)
theorem Tr.frameTr {S H S' H' : Hp} {A A' B : Fp} (p : Tr S H A S' H' A') : Tr S H (A + B) S' H' (A' + B) :=
  ⟨p.fz, fun a u z h => p.keep a u (by rw [add_at] at z; omega) h, fun a u h => (p.new a u h).elim .inl fun x => x.elim (fun y => .inr (.inl (by rw [add_at]; omega))) fun y => .inr (.inr y), fun a h => by
    rw [add_at] at h
    by_cases z : B a = 0
    · rcases p.own a (by omega) with x | x
      · exact .inl (by rw [add_at]; omega)
      · exact .inr x
    · exact .inl (by rw [add_at]; omega)⟩
theorem Tr.less {S H S' H' : Hp} {A A' B : Fp} (p : Tr S H A S' H' A') (h : ∀ a, B a ≤ A' a) : Tr S H A S' H' B := ⟨p.fz, p.keep, p.new, fun a z => p.own a (by have := h a; omega)⟩
theorem WF.less {S H : Hp} {A B : Fp} (w : WF S H A) (h : ∀ a, B a ≤ A a) : WF S H B :=
  ⟨w.sub, fun b => by have := h b; have := w.one b; omega, fun b z => w.dj b (by have := h b; omega), fun b z => w.th b (by have := h b; omega)⟩
end Ls

namespace Ls
open PySem L2
section
variable {K : PySem.W.Frag} {S S' H H' : Hp}
theorem rd_mono (h : ∀ a u, S a = some u → S' a = some u) {a : Addr} {u : HO} (r : Rd S a u) : Rd S' a u := by
  rcases r with r | ⟨o, r⟩
  · exact .inl (h _ _ r)
  · exact .inr ⟨o, h _ _ r⟩
theorem sqL_mono (h : ∀ a u, S a = some u → S' a = some u) {a : Addr} {xs : List V} (r : SqL K S a xs) : SqL K S' a xs := r.elim (fun z => .inl (rd_mono h z)) .inr
theorem sqT_mono (h : ∀ a u, S a = some u → S' a = some u) {a : Addr} {xs : List V} (r : SqT K S a xs) : SqT K S' a xs := r.elim (fun z => .inl (rd_mono h z)) .inr
mutual
theorem dp_mono (h : ∀ a u, S a = some u → S' a = some u) : ∀ {v : V} {d : PyData}, Dp K S v d → Dp K S' v d
  | _, _, .non => .non
  | _, _, .bl b => .bl b
  | _, _, .int i => .int i
  | _, _, .str x => .str x
  | _, _, .lst q r => .lst (sqL_mono h q) (dpa_mono h r)
  | _, _, .tup q r => .tup (sqT_mono h q) (dpa_mono h r)
theorem dpa_mono (h : ∀ a u, S a = some u → S' a = some u) : ∀ {vs : List V} {ds : List PyData}, DpAll K S vs ds → DpAll K S' vs ds
  | _, _, .nil => .nil
  | _, _, .cons q r => .cons (dp_mono h q) (dpa_mono h r)
end
mutual
theorem or_keep (h : ∀ a u, S a = some u → S' a = some u) : ∀ {v : V} {o : O} {A : Fp}, (∀ a, 0 < A a → H' a = H a) → OR K S H v o A → OR K S' H' v o A
  | _, _, _, _, .fz q z => .fz (dp_mono h q) z
  | _, _, _, _, .raw z => .raw z
  | _, _, A, k, .lst (a := a) (B := B) e r z => .lst ((k a (by rw [z a, one_same]; omega)).trans e) (ors_keep h (fun b hb => k b (by rw [z b]; omega)) r) z
theorem ors_keep (h : ∀ a u, S a = some u → S' a = some u) : ∀ {vs : List V} {os : List O} {A : Fp}, (∀ a, 0 < A a → H' a = H a) → ORs K S H vs os A → ORs K S' H' vs os A
  | _, _, _, _, .nil z => .nil z
  | _, _, _, k, .cons (B := B) (C := C) q r z => .cons (or_keep h (fun b hb => k b (by rw [z b]; omega)) q) (ors_keep h (fun b hb => k b (by rw [z b]; omega)) r) z
end
theorem er_keep (h : ∀ a u, S a = some u → S' a = some u) {σ : St} {ρ : En} {A : Fp} (e : ER K S H σ ρ A) : (∀ a, 0 < A a → H' a = H a) → ER K S' H' σ ρ A := by
  induction e with
  | nil z => exact fun _ => .nil z
  | non _ ih => exact fun k => .non (ih k)
  | som q _ z ih => exact fun k => .som (or_keep h (fun b hb => k b (by rw [z b]; omega)) q) (ih fun b hb => k b (by rw [z b]; omega)) z
theorem or_fp {v : V} {o : O} {A A' : Fp} (q : OR K S H v o A) (h : ∀ b, A' b = A b) : OR K S H v o A' := by
  cases q with
  | fz q z => exact .fz q fun b => (h b).trans (z b)
  | raw z => exact .raw fun b => (h b).trans (z b)
  | lst e r z => exact .lst e r fun b => (h b).trans (z b)
theorem ors_fp {vs : List V} {os : List O} {A A' : Fp} (q : ORs K S H vs os A) (h : ∀ b, A' b = A b) : ORs K S H vs os A' := by
  cases q with
  | nil z => exact .nil fun b => (h b).trans (z b)
  | cons q r z => exact .cons q r fun b => (h b).trans (z b)
theorem er_fp {σ : St} {ρ : En} {A A' : Fp} (e : ER K S H σ ρ A) : (∀ b, A' b = A b) → ER K S H σ ρ A' := by
  induction e generalizing A' with
  | nil z => exact fun h => .nil fun b => (h b).trans (z b)
  | non _ ih => exact fun h => .non (ih h)
  | som q r z => exact fun h => .som q r fun b => (h b).trans (z b)
theorem er_len {σ : St} {ρ : En} {A : Fp} (e : ER K S H σ ρ A) : σ.length = ρ.length := by
  induction e with
  | nil => rfl
  | non _ ih => simp [ih]
  | som _ _ _ ih => simp [ih]
/-- a slot taken out -/
theorem er_get {σ : St} {ρ : En} {A : Fp} (e : ER K S H σ ρ A) : ∀ {i : Nat} {o : O}, ρ[i]? = some (some o) → ∃ v B C, σ[i]? = some (some v) ∧ OR K S H v o B ∧ ER K S H σ (ρ.set i none) C ∧ ∀ b, A b = B b + C b := by
  induction e with
  | nil => intro i o h; simp at h
  | non e ih =>
    intro i o h
    cases i with
    | zero => simp at h
    | succ i =>
      obtain ⟨v, B, C, h1, h2, h3, h4⟩ := ih (i := i) (o := o) (by simpa using h)
      exact ⟨v, B, C, by simpa using h1, h2, .non h3, h4⟩
  | @som v o σ ρ A B C q e z ih =>
    intro i o' h
    cases i with
    | zero =>
      have e' : o = o' := by simpa using h
      subst e'
      exact ⟨v, B, C, rfl, q, .non e, z⟩
    | succ i =>
      obtain ⟨v', B', C', h1, h2, h3, h4⟩ := ih (i := i) (o := o') (by simpa using h)
      exact ⟨v', B', fun b => B b + C' b, by simpa using h1, h2, .som q h3 fun _ => rfl, fun b => by show A b = B' b + (B b + C' b); rw [z b, h4 b]; omega⟩
/-- an empty slot filled -/
theorem er_put {σ : St} {ρ : En} {C : Fp} (e : ER K S H σ ρ C) : ∀ {i : Nat} {v : V} {o : O} {B : Fp}, i < σ.length → OR K S H v o B → ρ[i]? = some none → ER K S H (σ.set i (some v)) (ρ.set i (some o)) (fun b => B b + C b) := by
  induction e with
  | nil => intro i v o B hi; simp at hi
  | @non w σ ρ A e ih =>
    intro i v o B hi q h
    cases i with
    | zero => exact .som q e fun _ => rfl
    | succ i => exact .non (ih (i := i) (by simpa using hi) q (by simpa using h))
  | @som v' o' σ ρ A B' C' q' e z ih =>
    intro i v o B hi q h
    cases i with
    | zero => simp at h
    | succ i => exact .som q' (ih (i := i) (by simpa using hi) q (by simpa using h)) fun b => by rw [z b]; omega
/-- a slot forgotten -/
theorem er_drop {σ : St} {ρ : En} {A : Fp} (e : ER K S H σ ρ A) : ∀ (i : Nat) (w : Option V), ∃ C, ER K S H (σ.set i w) (ρ.set i none) C ∧ ∀ b, C b ≤ A b := by
  induction e with
  | nil z => intro i w; exact ⟨Fp.z, ER.nil fun _ => rfl, fun b => Nat.zero_le _⟩
  | @non w' σ ρ A e ih =>
    intro i w
    cases i with
    | zero => exact ⟨A, .non e, fun b => Nat.le_refl _⟩
    | succ i =>
      obtain ⟨C, h1, h2⟩ := ih i w
      exact ⟨C, .non h1, h2⟩
  | @som v o σ ρ A B C q e z ih =>
    intro i w
    cases i with
    | zero => exact ⟨C, .non e, fun b => by rw [z b]; omega⟩
    | succ i =>
      obtain ⟨C', h1, h2⟩ := ih i w
      exact ⟨fun b => B b + C' b, .som q h1 fun _ => rfl, fun b => by show B b + C' b ≤ A b; rw [z b]; have := h2 b; omega⟩
/-- the value stands in its place again -/
theorem er_back {σ : St} {ρ : En} {C : Fp} {i : Nat} {v : V} {o : O} {B : Fp} (e : ER K S H σ ρ C) (hv : σ[i]? = some (some v)) (h : ρ[i]? = some none) (q : OR K S H v o B) : ER K S H σ (ρ.set i (some o)) (fun b => B b + C b) := by
  have hi : i < σ.length := (List.getElem?_eq_some_iff.mp hv).1
  have r := er_put e hi q h
  have e2 : σ.set i (some v) = σ := by
    apply List.ext_getElem?
    intro j
    by_cases hj : i = j
    · subst hj
      rw [List.getElem?_set_self hi, hv]
    · rw [List.getElem?_set_ne hj]
  rw [e2] at r
  exact r
theorem set_none_get {ρ : En} {i : Nat} {x : Option O} (h : ρ[i]? = some x) : (ρ.set i none)[i]? = some none := List.getElem?_set_self (List.getElem?_eq_some_iff.mp h).1
theorem set_set_some {ρ : En} {i : Nat} {o : O} (h : ρ[i]? = some (some o)) : (ρ.set i none).set i (some o) = ρ := by
  apply List.ext_getElem?
  intro j
  by_cases hj : i = j
  · subst hj
    rw [List.getElem?_set_self (by rw [List.length_set]; exact (List.getElem?_eq_some_iff.mp h).1), h]
  · rw [List.getElem?_set_ne hj, List.getElem?_set_ne hj]
/-! what is held is there, and settled data lies in the heap: read at this moment -/
mutual
theorem or_peek (sub : ∀ a u, S a = some u → H a = some u) : ∀ {v : V} {o : O} {A : Fp} {d : PyData}, OR K S H v o A → frz o = some d → Dp K H v d
  | _, _, _, _, .fz q _, h => by
    have e := Option.some.inj (show some _ = some _ from h)
    subst e
    exact dp_mono sub q
  | _, _, _, _, .raw _, h => by cases h
  | _, _, _, d, .lst (xs := xs) e r _, h => by
    have h' : (frzs xs).map PyData.list = some d := h
    cases q : frzs xs with
    | none => rw [q] at h'; cases h'
    | some ds =>
      rw [q] at h'
      have e2 := Option.some.inj h'
      subst e2
      exact .lst (SqL.of e) (ors_peek sub r q)
theorem ors_peek (sub : ∀ a u, S a = some u → H a = some u) : ∀ {vs : List V} {os : List O} {A : Fp} {ds : List PyData}, ORs K S H vs os A → frzs os = some ds → DpAll K H vs ds
  | _, _, _, _, .nil _, h => by
    have e := Option.some.inj (show some _ = some _ from h)
    subst e
    exact .nil
  | _, _, _, ds, .cons (x := x) (xs := xs) q r _, h => by
    have h' : ((frz x).bind fun d => (frzs xs).map fun ds => d :: ds) = some ds := h
    cases e1 : frz x with
    | none => rw [e1] at h'; cases h'
    | some d =>
      rw [e1] at h'
      cases e2 : frzs xs with
      | none => rw [e2] at h'; cases h'
      | some ds' =>
        rw [e2] at h'
        have e3 : d :: ds' = ds := Option.some.inj h'
        subst e3
        exact .cons (or_peek sub q e1) (ors_peek sub r e2)
end
/-- the settled part with what A holds -/
def settle (S H : Hp) (A : Fp) : Hp := fun b => if 0 < A b then H b else S b
theorem settle_in {A : Fp} {b : Addr} (h : 0 < A b) : settle S H A b = H b := if_pos h
theorem settle_out {A : Fp} {b : Addr} (h : ¬ 0 < A b) : settle S H A b = S b := if_neg h
mutual
theorem or_settle {T : Fp} (dj : ∀ b, 0 < T b → S b = none) : ∀ {v : V} {o : O} {A : Fp} {d : PyData}, (∀ b, A b ≤ T b) → OR K S H v o A → frz o = some d → Dp K (settle S H T) v d
  | _, _, _, _, _, .fz q _, h => by
    have e := Option.some.inj (show some _ = some _ from h)
    subst e
    refine dp_mono (fun a u x => ?_) q
    rw [settle_out (fun z => by rw [dj a z] at x; cases x)]
    exact x
  | _, _, _, _, _, .raw _, h => by cases h
  | _, _, _, d, le, .lst (a := a) (xs := xs) e r z, h => by
    have h' : (frzs xs).map PyData.list = some d := h
    cases q : frzs xs with
    | none => rw [q] at h'; cases h'
    | some ds =>
      rw [q] at h'
      have e2 := Option.some.inj h'
      subst e2
      refine .lst (SqL.of ?_) (ors_settle dj (fun b => by have := le b; rw [z b] at this; omega) r q)
      rw [settle_in (by have := le a; rw [z a, one_same] at this; omega)]
      exact e
theorem ors_settle {T : Fp} (dj : ∀ b, 0 < T b → S b = none) : ∀ {vs : List V} {os : List O} {A : Fp} {ds : List PyData}, (∀ b, A b ≤ T b) → ORs K S H vs os A → frzs os = some ds → DpAll K (settle S H T) vs ds
  | _, _, _, _, _, .nil _, h => by
    have e := Option.some.inj (show some _ = some _ from h)
    subst e
    exact .nil
  | _, _, _, ds, le, .cons (x := x) (xs := xs) q r z, h => by
    have h' : ((frz x).bind fun d => (frzs xs).map fun ds => d :: ds) = some ds := h
    cases e1 : frz x with
    | none => rw [e1] at h'; cases h'
    | some d =>
      rw [e1] at h'
      cases e2 : frzs xs with
      | none => rw [e2] at h'; cases h'
      | some ds' =>
        rw [e2] at h'
        have e3 : d :: ds' = ds := Option.some.inj h'
        subst e3
        exact .cons (or_settle dj (fun b => by have := le b; rw [z b] at this; omega) q e1) (ors_settle dj (fun b => by have := le b; rw [z b] at this; omega) r e2)
end
/-- settling: the stand behind it -/
theorem settle_wf {A B : Fp} (w : WF S H (A + B)) : WF (settle S H B) H A ∧ Tr S H (A + B) (settle S H B) H A ∧ (∀ a u, S a = some u → settle S H B a = some u) := by
  have sub : ∀ a u, S a = some u → settle S H B a = some u := fun a u h => by
    rw [settle_out (fun z => by rw [w.dj a (by rw [add_at]; omega)] at h; cases h)]
    exact h
  refine ⟨⟨fun a u h => ?_, fun b => by have := w.one b; rw [add_at] at this; omega, fun b h => ?_, fun b h => w.th b (by rw [add_at]; omega)⟩, ⟨sub, fun _ _ _ h => h, fun a u h => ?_, fun a h => .inl (by rw [add_at]; omega)⟩, sub⟩
  · by_cases z : 0 < B a
    · rw [settle_in z] at h; exact h
    · rw [settle_out z] at h; exact w.sub a u h
  · have h1 := w.one b
    rw [add_at] at h1
    rw [settle_out (by omega)]
    exact w.dj b (by rw [add_at]; omega)
  · by_cases z : 0 < B a
    · exact .inr (.inl (by rw [add_at]; omega))
    · rw [settle_out z] at h; exact .inl h
end
end Ls

namespace Ls
open PySem L2
def XR (K : PySem.W.Frag) (S : Hp) (x : Xn) (cls : Value) (d : Option Addr) : Prop :=
  cls = .ref (He.ga K x.cls) ∧ ∃ a fs, d = some a ∧ S a = some (.xd fs) ∧ ∀ f t, x.fs.lookup f = some t → ∃ v, fs.lookup f = some v ∧ Dp K S v t
/-- what is told of a value: frame, stand, its worth, what it holds -/
abbrev RR (β α : Type) := St → Hp → Hp → β → α → Fp → Prop
def PostV {β α : Type} (K : PySem.W.Frag) (R : RR β α) (σ : St) (S H : Hp) (A : Fp) (a : α) (ρ' : En) (Q : β → Hp → Prop) : Prop :=
  ∀ v S' H' A' B, WF S' H' (A' + B) → ER K S' H' σ ρ' A' → R σ S' H' v a B → Tr S H A S' H' (A' + B) → Q v H'
def PostX (K : PySem.W.Frag) (W : WX) (σ : St) (S H : Hp) (A : Fp) (x : Xn) (ρ' : En) : Prop :=
  ∀ cls d S' H' A', WF S' H' A' → ER K S' H' σ ρ' A' → XR K S' x cls d → Tr S H A S' H' A' → W cls d σ H'
def OutOk {β α : Type} (K : PySem.W.Frag) (W : WX) (R : RR β α) (t : St → Hp → (β → Hp → Prop) → Prop) (σ : St) (S H : Hp) (A : Fp) : Out α → Prop
  | .ok a ρ' => ∀ Q, PostV K R σ S H A a ρ' Q → t σ H Q
  | .exc x ρ' => ∀ Q, PostX K W σ S H A x ρ' → t σ H Q
  | .bad => True
def Snd {β α : Type} (K : PySem.W.Frag) (W : WX) (R : RR β α) (t : St → Hp → (β → Hp → Prop) → Prop) (f : En → Out α) : Prop :=
  ∀ σ ρ S H A, WF S H A → ER K S H σ ρ A → OutOk K W R t σ S H A (f ρ)
/-- it stays while others work -/
def Stays {β α : Type} (R : RR β α) : Prop := ∀ σ S H S' H' v a B, (∀ b u, S b = some u → S' b = some u) → (∀ b, 0 < B b → H' b = H b) → R σ S H v a B → R σ S' H' v a B

def Out.bind {α γ : Type} (o : Out α) (k : α → En → Out γ) : Out γ := match o with
  | .ok a ρ => k a ρ
  | .exc x ρ => .exc x ρ
  | .bad => .bad

/-- first the one, then what is made of it while it is held -/
theorem snd_bind {β α β' α' : Type} {K : PySem.W.Frag} {W : WX} {R : RR β α} {R' : RR β' α'} {t : St → Hp → (β → Hp → Prop) → Prop} {u : β → St → Hp → (β' → Hp → Prop) → Prop} {f : En → Out α} {k : α → En → Out α'} (h : Snd K W R t f)
    (hk : ∀ v a σ ρ S H A B, WF S H (A + B) → ER K S H σ ρ A → R σ S H v a B → OutOk K W R' (u v) σ S H (A + B) (k a ρ)) :
    Snd K W R' (fun σ H Q => t σ H fun v H1 => u v σ H1 Q) fun ρ => (f ρ).bind k := by
  intro σ ρ S H A w e
  have h1 := h σ ρ S H A w e
  show OutOk K W R' _ σ S H A ((f ρ).bind k)
  cases hf : f ρ with
  | bad => exact True.intro
  | exc x ρ' =>
    rw [hf] at h1
    exact fun Q q => h1 _ q
  | ok a ρ1 =>
    rw [hf] at h1
    show OutOk _ _ _ _ _ _ _ _ (k a ρ1)
    cases hk2 : k a ρ1 with
    | bad => exact True.intro
    | exc x ρ' =>
      intro Q q
      refine h1 _ fun v S1 H1 A1 B1 w1 e1 r1 t1 => ?_
      have h2 := hk v a σ ρ1 S1 H1 A1 B1 w1 e1 r1
      rw [hk2] at h2
      exact h2 Q fun cls d S2 H2 A2 w2 e2 x2 t2 => q cls d S2 H2 A2 w2 e2 x2 (t1.trans t2)
    | ok a' ρ' =>
      intro Q q
      refine h1 _ fun v S1 H1 A1 B1 w1 e1 r1 t1 => ?_
      have h2 := hk v a σ ρ1 S1 H1 A1 B1 w1 e1 r1
      rw [hk2] at h2
      exact h2 Q fun v' S2 H2 A2 B2 w2 e2 r2 t2 => q v' S2 H2 A2 B2 w2 e2 r2 (t1.trans t2)
/-- a part worked out while v is held beside -/
theorem snd_beside {β α : Type} {K : PySem.W.Frag} {W : WX} {R : RR β α} {t : St → Hp → (β → Hp → Prop) → Prop} {f : En → Out α} (h : Snd K W R t f) {σ : St} {ρ : En} {S H : Hp} {A B : Fp} (w : WF S H (A + B)) (e : ER K S H σ ρ A) :
    match f ρ with
    | .ok a ρ' => ∀ Q, (∀ v S' H' A' C, WF S' H' (A' + C + B) → ER K S' H' σ ρ' A' → R σ S' H' v a C → Tr S H (A + B) S' H' (A' + C + B) → (∀ b u, S b = some u → S' b = some u) → (∀ b, 0 < B b → H' b = H b) → Q v H') → t σ H Q
    | .exc x ρ' => ∀ Q, PostX K W σ S H (A + B) x ρ' → t σ H Q
    | .bad => True := by
  have h1 := h σ ρ S H A (w.less fun a => by rw [add_at]; omega) e
  cases hf : f ρ with
  | bad => exact True.intro
  | exc x ρ' =>
    rw [hf] at h1
    intro Q q
    refine h1 Q fun cls d S' H' A' w' e' x' t' => ?_
    have fr := t'.frame w w'
    refine q cls d S' H' A' w' e' x' ((t'.frameTr (B := B)).less fun a => by rw [add_at]; omega)
  | ok a ρ' =>
    rw [hf] at h1
    intro Q q
    refine h1 Q fun v S' H' A' C w' e' r' t' => ?_
    have fr := t'.frame w w'
    exact q v S' H' A' C fr.1 e' r' t'.frameTr t'.fz fun b hb => (fr.2 b hb).1

/-! ### operands: a slot that is looked at, or a thing of one's own -/
inductive Pk where
  | v (i : Nat) | o (o : O)
def pkO (ρ : En) : Pk → Option O
  | .v i => (ρ[i]?).bind id
  | .o o => some o
def pkD (ρ : En) (p : Pk) : Option PyData := (pkO ρ p).bind frz
inductive RPk (K : PySem.W.Frag) : RR V Pk
  | v {σ : St} {S H : Hp} {v : V} {i : Nat} {B : Fp} : σ[i]? = some (some v) → (∀ b, B b = 0) → RPk K σ S H v (.v i) B
  | o {σ : St} {S H : Hp} {v : V} {o : O} {B : Fp} : OR K S H v o B → RPk K σ S H v (.o o) B
def ROr (K : PySem.W.Frag) : RR V O := fun _ S H v o B => OR K S H v o B
def ROrs (K : PySem.W.Frag) : RR (List V) (List O) := fun _ S H vs os B => ORs K S H vs os B
def REq (α : Type) : RR α α := fun _ _ _ v a B => v = a ∧ ∀ b, B b = 0
theorem stays_pk {K : PySem.W.Frag} : Stays (RPk K) := fun σ S H S' H' v a B h k r => by
  cases r with
  | v h1 z => exact .v h1 z
  | o q => exact .o (or_keep h k q)
theorem stays_or {K : PySem.W.Frag} : Stays (ROr K) := fun σ S H S' H' v a B h k r => or_keep h k r
theorem stays_ors {K : PySem.W.Frag} : Stays (ROrs K) := fun σ S H S' H' v a B h k r => ors_keep h k r
theorem stays_eq {α : Type} : Stays (REq α) := fun σ S H S' H' v a B h k r => r
/-- what an operand stands for at this moment -/
theorem pk_peek {K : PySem.W.Frag} {σ : St} {ρ : En} {S H : Hp} {A B : Fp} {v : V} {p : Pk} {d : PyData} (sub : ∀ a u, S a = some u → H a = some u) (e : ER K S H σ ρ A) (r : RPk K σ S H v p B) (h : pkD ρ p = some d) : Dp K H v d := by
  cases r with
  | o q => exact or_peek sub q h
  | @v _ _ _ _ i _ h1 z =>
    have h : ((ρ[i]?).bind id).bind frz = some d := h
    cases hi : ρ[i]? with
    | none => rw [hi] at h; cases h
    | some x =>
      cases x with
      | none => rw [hi] at h; cases h
      | some o =>
        rw [hi] at h
        obtain ⟨v', B', C', e1, q, _, _⟩ := er_get e hi
        rw [h1] at e1
        cases e1
        exact or_peek sub q h

abbrev FE := En → Out O
abbrev FP := En → Out Pk
abbrev FT := En → Out Bool
abbrev FA := En → Out (List O)
abbrev SndE (K : PySem.W.Frag) (W : WX) (t : TE) (f : FE) : Prop := Snd K W (ROr K) t f
abbrev SndP (K : PySem.W.Frag) (W : WX) (t : TE) (f : FP) : Prop := Snd K W (RPk K) t f
abbrev SndT (K : PySem.W.Frag) (W : WX) (t : TT) (f : FT) : Prop := Snd K W (REq Bool) t f
abbrev SndA (K : PySem.W.Frag) (W : WX) (t : TA) (f : FA) : Prop := Snd K W (ROrs K) t f

section
variable {K : PySem.W.Frag} {W : WX}
/-- a result that names no object -/
def Sc (v : V) (d : PyData) : Prop := ∀ (K : PySem.W.Frag) (S : Hp), Dp K S v d
theorem Sc.int (i : Int) : Sc (.int i) (.int i) := fun _ _ => .int i
theorem Sc.bl (b : Bool) : Sc (.bl b) (.bool b) := fun _ _ => .bl b
theorem Sc.str (x : Str) : Sc (.str x) (.str x) := fun _ _ => .str x
theorem Sc.non : Sc .non .none := fun _ _ => .non

def pVar (i : Nat) : FP := fun ρ => match ρ[i]? with
  | some (some _) => .ok (.v i) ρ
  | _ => .bad
def pE (f : FE) : FP := fun ρ => (f ρ).bind fun o ρ' => .ok (.o o) ρ'
theorem sndP_var {i : Nat} : SndP K W (tVar i) (pVar i) := by
  intro σ ρ S H A w e
  unfold pVar
  cases hi : ρ[i]? with
  | none => exact True.intro
  | some x =>
    cases x with
    | none => exact True.intro
    | some o =>
      obtain ⟨v, B, C, e1, q, _, _⟩ := er_get e hi
      intro Q k
      have z : A + Fp.z = A := funext fun b => rfl
      exact ⟨v, e1, k v S H A Fp.z (by rw [z]; exact w) e (.v e1 fun _ => rfl) (by rw [z]; exact Tr.refl)⟩
theorem sndP_e {t : TE} {f : FE} (h : SndE K W t f) : SndP K W t (pE f) := by
  intro σ ρ S H A w e
  have h1 := h σ ρ S H A w e
  show OutOk K W (RPk K) _ σ S H A ((f ρ).bind _)
  cases hf : f ρ with
  | bad => exact True.intro
  | exc x ρ' => rw [hf] at h1; exact h1
  | ok a ρ' =>
    rw [hf] at h1
    exact fun Q k => h1 Q fun v S' H' A' B w' e' r' t' => k v S' H' A' B w' e' (.o r') t'

/-! ### a name as a value: what it holds is settled -/
def eVar (i : Nat) : FE := fun ρ => match ρ[i]? with
  | some (some (.fz d)) => .ok (.fz d) ρ
  | some (some (.raw v)) => .ok (.raw v) ρ
  | some (some o) => (match frz o with
    | some d => .ok (.fz d) (ρ.set i (some (.fz d)))
    | none => .bad)
  | _ => .bad
theorem addz (A : Fp) : A + Fp.z = A := funext fun b => rfl
theorem sndE_var {i : Nat} : SndE K W (tVar i) (eVar i) := by
  intro σ ρ S H A w e
  unfold eVar
  cases hi : ρ[i]? with
  | none => exact True.intro
  | some x =>
    cases x with
    | none => exact True.intro
    | some o =>
      obtain ⟨v, B, C, e1, q, e2, z⟩ := er_get e hi
      cases o with
      | fz d =>
        intro Q k
        refine ⟨v, e1, k v S H A B ?_ e q ?_⟩
        · cases q with
          | fz q z2 =>
            have : A + B = A := funext fun b => by rw [add_at, z2 b]; rfl
            rw [this]; exact w
        · cases q with
          | fz q z2 =>
            have : A + B = A := funext fun b => by rw [add_at, z2 b]; rfl
            rw [this]; exact Tr.refl
      | raw u =>
        intro Q k
        refine ⟨v, e1, k v S H A B ?_ e q ?_⟩
        · cases q with
          | raw z2 =>
            have : A + B = A := funext fun b => by rw [add_at, z2 b]; rfl
            rw [this]; exact w
        · cases q with
          | raw z2 =>
            have : A + B = A := funext fun b => by rw [add_at, z2 b]; rfl
            rw [this]; exact Tr.refl
      | lst xs =>
        show OutOk K W (ROr K) (tVar i) σ S H A (match frz (.lst xs) with
          | some d => Out.ok (.fz d) (ρ.set i (some (.fz d)))
          | none => .bad)
        cases hz : frz (.lst xs) with
        | none => exact True.intro
        | some d =>
          intro Q k
          have eA : A = C + B := funext fun b => by rw [z b, add_at]; omega
          rw [eA] at w
          obtain ⟨w2, t2, sub⟩ := settle_wf w
          have q2 : Dp K (settle S H B) v d := or_settle (fun b hb => w.dj b (by rw [add_at]; omega)) (fun b => Nat.le_refl _) q hz
          have e3 := er_back (er_keep sub e2 fun _ _ => rfl) e1 (set_none_get hi) (.fz q2 (A := Fp.z) fun _ => rfl)
          rw [List.set_set] at e3
          have ez : (fun b => Fp.z b + C b) = C := funext fun b => by rw [z_at]; omega
          rw [ez] at e3
          refine ⟨v, e1, k v _ H C Fp.z (by rw [addz]; exact w2) e3 (.fz q2 fun _ => rfl) (by rw [addz, eA]; exact t2)⟩
/-! ### a constant -/
def eC (d : PyData) : FE := fun ρ => .ok (.fz d) ρ
theorem sndE_c {v : V} {d : PyData} (h : ∀ S, Dp K S v d) : SndE K W (tC v) (eC d) := by
  intro σ ρ S H A w e Q k
  exact k v S H A Fp.z (by rw [addz]; exact w) e (.fz (h S) fun _ => rfl) (by rw [addz]; exact Tr.refl)
def eRaw (v : V) : FE := fun ρ => .ok (.raw v) ρ
theorem sndE_raw {v : V} : SndE K W (tC v) (eRaw v) := by
  intro σ ρ S H A w e Q k
  exact k v S H A Fp.z (by rw [addz]; exact w) e (.raw fun _ => rfl) (by rw [addz]; exact Tr.refl)

/-! ### operators whose worth names no object -/
def OpS (K : PySem.W.Frag) (r : R2) (g : PyData → PyData → Option PyData) : Prop :=
  ∀ x y H a b c, Dp K H x a → Dp K H y b → g a b = some c → ∀ Q : VK, (∀ v, Sc v c → Q v H) → r x y H Q
def eOp (g : PyData → PyData → Option PyData) (fa fb : FP) : FE := fun ρ => (fa ρ).bind fun a ρ1 => (fb ρ1).bind fun b ρ2 =>
  match (pkD ρ2 a).bind fun x => (pkD ρ2 b).bind fun y => g x y with
  | some c => .ok (.fz c) ρ2
  | none => .bad
theorem sndE_op {r : R2} {g : PyData → PyData → Option PyData} {ta tb : TE} {fa fb : FP} (ho : OpS K r g) (ha : SndP K W ta fa) (hb : SndP K W tb fb) : SndE K W (tOp r ta tb) (eOp g fa fb) := by
  refine snd_bind (u := fun x σ H Q => tb σ H fun y H2 => r x y H2 Q) ha fun x a σ ρ S H A B w e ra => ?_
  have h2 := snd_beside hb w e
  show OutOk K W (ROr K) _ σ S H (A + B) ((fb ρ).bind _)
  cases hf : fb ρ with
  | bad => exact True.intro
  | exc x' ρ' =>
    rw [hf] at h2
    exact fun Q k => h2 _ k
  | ok b ρ2 =>
    rw [hf] at h2
    show OutOk K W (ROr K) _ σ S H (A + B) (match (pkD ρ2 a).bind fun x => (pkD ρ2 b).bind fun y => g x y with
      | some c => Out.ok (O.fz c) ρ2
      | none => .bad)
    cases hc : (pkD ρ2 a).bind fun x => (pkD ρ2 b).bind fun y => g x y with
    | none => exact True.intro
    | some c =>
      intro Q k
      refine h2 _ fun y S' H' A' C w' e' rb t' sub kp => ?_
      obtain ⟨da, e1, hc⟩ := Option.bind_eq_some_iff.mp hc
      obtain ⟨db, e2, hc⟩ := Option.bind_eq_some_iff.mp hc
      have ra' := stays_pk σ S H S' H' x a B sub kp ra
      refine ho x y H' da db c (pk_peek w'.sub e' ra' e1) (pk_peek w'.sub e' rb e2) hc _ fun v hv => ?_
      have le : ∀ b, A' b ≤ (A' + C + B) b := fun b => by rw [add_at, add_at]; omega
      exact k v S' H' A' Fp.z (by rw [addz]; exact w'.less le) e' (.fz (hv K S') fun _ => rfl) (by rw [addz]; exact t'.less le)
end
end Ls

namespace Ls
open PySem L2
structure EV (X : Cx) (W : WX) (e : Expr) (f : FE) : Prop where
  ex : ∃ t, PE X e t ∧ SndE X.K W t f
structure PV (X : Cx) (W : WX) (e : Expr) (f : FP) : Prop where
  ex : ∃ t, PE X e t ∧ SndP X.K W t f
structure TV (X : Cx) (W : WX) (e : Expr) (f : FT) : Prop where
  ex : ∃ t, PT X e t ∧ SndT X.K W t f
/-- and, or within a test -/
structure WV (X : Cx) (W : WX) (e : Expr) (f : FT) : Prop where
  ex : ∃ t, PW X e t ∧ SndT X.K W t f

/-! ### operators on settled data -/
def dAdd : PyData → PyData → Option PyData
  | .int i, .int j => some (.int (i + j))
  | _, _ => none
def dSub : PyData → PyData → Option PyData
  | .int i, .int j => some (.int (i - j))
  | _, _ => none
def dMul : PyData → PyData → Option PyData
  | .int i, .int j => if i.natAbs.log2 + j.natAbs.log2 < 1000000 then some (.int (i * j)) else none
  | _, _ => none
def dDiv : PyData → PyData → Option PyData
  | .int i, .int j => if j ≠ 0 ∧ j.natAbs.log2 < 9000 then some (.int (i.fdiv j)) else none
  | _, _ => none
def dMod : PyData → PyData → Option PyData
  | .int i, .int j => if j ≠ 0 then some (.int (i.fmod j)) else none
  | _, _ => none
def dPow : PyData → PyData → Option PyData
  | .int i, .int j => if 0 ≤ j ∧ j ≤ 1000000 ∧ i.natAbs < 2 ^ 64 then some (.int (i ^ j.toNat)) else none
  | _, _ => none
def dLt : PyData → PyData → Option PyData
  | .int i, .int j => some (.bool (decide (i < j)))
  | _, _ => none
def dLe : PyData → PyData → Option PyData
  | .int i, .int j => some (.bool (decide (i ≤ j)))
  | _, _ => none
def dGt : PyData → PyData → Option PyData
  | .int i, .int j => some (.bool (decide (j < i)))
  | _, _ => none
def dGe : PyData → PyData → Option PyData
  | .int i, .int j => some (.bool (decide (j ≤ i)))
  | _, _ => none
def dEq (a b : PyData) : Option PyData := if SeqAt.shaped a && SeqAt.shaped b then some (.bool (PyData.eqv a b)) else none
def dNe (a b : PyData) : Option PyData := if SeqAt.shaped a && SeqAt.shaped b then some (.bool (!PyData.eqv a b)) else none
/-- is None -/
def isN : PyData → Bool
  | .none => true
  | _ => false
def dIs (a b : PyData) : Option PyData := if isN b then some (.bool (isN a)) else none
def dIsNot (a b : PyData) : Option PyData := if isN b then some (.bool (!isN a)) else none
def flat : PyData → Bool
  | .none | .bool _ | .int _ | .str _ => true
  | _ => false
def items : PyData → Option (List PyData)
  | .list xs | .tuple xs => some xs
  | _ => none
def dIn (a b : PyData) : Option PyData := (items b).bind fun xs => if flat a && xs.all flat then some (.bool (xs.any fun y => PyData.eqv y a)) else none
def dNotIn (a b : PyData) : Option PyData := (items b).bind fun xs => if flat a && xs.all flat then some (.bool (!xs.any fun y => PyData.eqv y a)) else none
section
variable {K : PySem.W.Frag}
theorem dp_int {S : Hp} {v : V} {i : Int} (h : Dp K S v (.int i)) : v = .int i := by cases h; rfl
theorem dp_bl {S : Hp} {v : V} {b : Bool} (h : Dp K S v (.bool b)) : v = .bl b := by cases h; rfl
theorem dp_non {S : Hp} {v : V} (h : Dp K S v .none) : v = .non := by cases h; rfl
theorem opS_I0 {g : Int → Int → V} {g' : PyData → PyData → Option PyData} (h : ∀ i j c, g' (.int i) (.int j) = some c → Sc (g i j) c) (hn : ∀ a b c, g' a b = some c → ∃ i j, a = .int i ∧ b = .int j) : OpS K (rI0 g) g' := by
  intro x y H a b c ha hb hc Q k
  obtain ⟨i, j, rfl, rfl⟩ := hn a b c hc
  exact ⟨i, j, dp_int ha, dp_int hb, k _ (h i j c hc)⟩
theorem opS_I {C : Int → Int → Prop} {g : Int → Int → V} {g' : PyData → PyData → Option PyData} (h : ∀ i j c, g' (.int i) (.int j) = some c → C i j ∧ Sc (g i j) c) (hn : ∀ a b c, g' a b = some c → ∃ i j, a = .int i ∧ b = .int j) : OpS K (rI C g) g' := by
  intro x y H a b c ha hb hc Q k
  obtain ⟨i, j, rfl, rfl⟩ := hn a b c hc
  exact ⟨i, j, dp_int ha, dp_int hb, (h i j c hc).1, k _ (h i j c hc).2⟩
theorem opS_add : OpS K (rI0 fun i j => .int (i + j)) dAdd := opS_I0 (fun i j c h => by cases h; exact Sc.int _) fun a b c h => by cases a <;> cases b <;> first | exact ⟨_, _, rfl, rfl⟩ | cases h
theorem opS_sub : OpS K (rI0 fun i j => .int (i - j)) dSub := opS_I0 (fun i j c h => by cases h; exact Sc.int _) fun a b c h => by cases a <;> cases b <;> first | exact ⟨_, _, rfl, rfl⟩ | cases h
theorem opS_mul : OpS K (rI CMulW fun i j => .int (i * j)) dMul := opS_I (fun i j c h => by
  by_cases z : i.natAbs.log2 + j.natAbs.log2 < 1000000
  · have h : (if i.natAbs.log2 + j.natAbs.log2 < 1000000 then some (PyData.int (i * j)) else none) = some c := h
    rw [if_pos z] at h; cases h; exact ⟨z, Sc.int _⟩
  · have h : (if i.natAbs.log2 + j.natAbs.log2 < 1000000 then some (PyData.int (i * j)) else none) = some c := h
    rw [if_neg z] at h; cases h) fun a b c h => by cases a <;> cases b <;> first | exact ⟨_, _, rfl, rfl⟩ | cases h
def CDivX (_ j : Int) : Prop := j ≠ 0 ∧ j.natAbs.log2 < 9000
theorem op_divX {X : Cx} : OpR X (binaryOp .FloorDiv) (rI CDivX fun i j => .int (i.fdiv j)) := opI fun i j _ _ _ _ _ hc q => PyProof.Rows.floordiv_int hc.1 q (.inl (PyProof.noPylong_of_log2 hc.2))
theorem opS_div : OpS K (rI CDivX fun i j => .int (i.fdiv j)) dDiv := opS_I (fun i j c h => by
  by_cases z : j ≠ 0 ∧ j.natAbs.log2 < 9000
  · have h : (if j ≠ 0 ∧ j.natAbs.log2 < 9000 then some (PyData.int (i.fdiv j)) else none) = some c := h
    rw [if_pos z] at h; cases h; exact ⟨z, Sc.int _⟩
  · have h : (if j ≠ 0 ∧ j.natAbs.log2 < 9000 then some (PyData.int (i.fdiv j)) else none) = some c := h
    rw [if_neg z] at h; cases h) fun a b c h => by cases a <;> cases b <;> first | exact ⟨_, _, rfl, rfl⟩ | cases h
theorem opS_mod : OpS K (rI (fun _ j => j ≠ 0) fun i j => .int (i.fmod j)) dMod := opS_I (fun i j c h => by
  by_cases z : j ≠ 0
  · have h : (if j ≠ 0 then some (PyData.int (i.fmod j)) else none) = some c := h
    rw [if_pos z] at h; cases h; exact ⟨z, Sc.int _⟩
  · have h : (if j ≠ 0 then some (PyData.int (i.fmod j)) else none) = some c := h
    rw [if_neg z] at h; cases h) fun a b c h => by cases a <;> cases b <;> first | exact ⟨_, _, rfl, rfl⟩ | cases h
theorem opS_pow : OpS K (rI CPow fun i j => .int (i ^ j.toNat)) dPow := opS_I (fun i j c h => by
  by_cases z : 0 ≤ j ∧ j ≤ 1000000 ∧ i.natAbs < 2 ^ 64
  · have h : (if 0 ≤ j ∧ j ≤ 1000000 ∧ i.natAbs < 2 ^ 64 then some (PyData.int (i ^ j.toNat)) else none) = some c := h
    rw [if_pos z] at h; cases h; exact ⟨z, Sc.int _⟩
  · have h : (if 0 ≤ j ∧ j ≤ 1000000 ∧ i.natAbs < 2 ^ 64 then some (PyData.int (i ^ j.toNat)) else none) = some c := h
    rw [if_neg z] at h; cases h) fun a b c h => by cases a <;> cases b <;> first | exact ⟨_, _, rfl, rfl⟩ | cases h
theorem opS_lt : OpS K (rI0 fun i j => .bl (decide (i < j))) dLt := opS_I0 (fun i j c h => by cases h; exact Sc.bl _) fun a b c h => by cases a <;> cases b <;> first | exact ⟨_, _, rfl, rfl⟩ | cases h
theorem opS_le : OpS K (rI0 fun i j => .bl (decide (i ≤ j))) dLe := opS_I0 (fun i j c h => by cases h; exact Sc.bl _) fun a b c h => by cases a <;> cases b <;> first | exact ⟨_, _, rfl, rfl⟩ | cases h
theorem opS_gt : OpS K (rI0 fun i j => .bl (decide (j < i))) dGt := opS_I0 (fun i j c h => by cases h; exact Sc.bl _) fun a b c h => by cases a <;> cases b <;> first | exact ⟨_, _, rfl, rfl⟩ | cases h
theorem opS_ge : OpS K (rI0 fun i j => .bl (decide (j ≤ i))) dGe := opS_I0 (fun i j c h => by cases h; exact Sc.bl _) fun a b c h => by cases a <;> cases b <;> first | exact ⟨_, _, rfl, rfl⟩ | cases h
theorem opS_eq : OpS K (rEqD K) dEq := by
  intro x y H a b c ha hb hc Q k
  unfold dEq at hc
  by_cases z : (SeqAt.shaped a && SeqAt.shaped b) = true
  · rw [if_pos z] at hc; cases hc
    obtain ⟨z1, z2⟩ := Bool.and_eq_true_iff.mp z
    exact ⟨a, b, ha, hb, z1, z2, k _ (Sc.bl _)⟩
  · rw [if_neg z] at hc; cases hc
theorem opS_ne : OpS K (rNeD K) dNe := by
  intro x y H a b c ha hb hc Q k
  unfold dNe at hc
  by_cases z : (SeqAt.shaped a && SeqAt.shaped b) = true
  · rw [if_pos z] at hc; cases hc
    obtain ⟨z1, z2⟩ := Bool.and_eq_true_iff.mp z
    exact ⟨a, b, ha, hb, z1, z2, k _ (Sc.bl _)⟩
  · rw [if_neg z] at hc; cases hc
theorem isN_dp {S : Hp} {v : V} {d : PyData} (h : Dp K S v d) : decide (v = .non) = isN d := by
  cases h <;> first | rfl | exact decide_eq_false (fun z => nomatch z)
abbrev rIsNo : R2 := fun x y H Q => y = .non ∧ Q (.bl (decide (x = .non))) H
abbrev rIsNotNo : R2 := fun x y H Q => y = .non ∧ Q (.bl (!decide (x = .non))) H
theorem isN_eq {b : PyData} (h : isN b = true) : b = .none := by cases b <;> first | rfl | cases h
theorem opS_is : OpS K rIsNo dIs := by
  intro x y H a b c ha hb hc Q k
  unfold dIs at hc
  by_cases z : isN b = true
  · rw [if_pos z] at hc; cases hc
    have e := isN_eq z
    subst e
    exact ⟨dp_non hb, by rw [isN_dp ha]; exact k _ (Sc.bl _)⟩
  · rw [if_neg z] at hc; cases hc
theorem opS_isNot : OpS K rIsNotNo dIsNot := by
  intro x y H a b c ha hb hc Q k
  unfold dIsNot at hc
  by_cases z : isN b = true
  · rw [if_pos z] at hc; cases hc
    have e := isN_eq z
    subst e
    exact ⟨dp_non hb, by rw [isN_dp ha]; exact k _ (Sc.bl _)⟩
  · rw [if_neg z] at hc; cases hc
theorem flat_dp {S : Hp} {v : V} {d : PyData} (h : Dp K S v d) (f : flat d = true) : flatV v = true ∧ ∀ {v' : V} {d' : PyData} {S' : Hp}, Dp K S' v' d' → flat d' = true → eqV v v' = PyData.eqv d d' := by
  cases h with
  | non => exact ⟨rfl, fun h' f' => by cases h' <;> first | rfl | cases f'⟩
  | bl b => exact ⟨rfl, fun h' f' => by cases h' <;> first | (cases b <;> rfl) | cases f'⟩
  | int i => exact ⟨rfl, fun h' f' => by
      cases h' with
      | bl b => cases b <;> rfl
      | lst _ _ => cases f'
      | tup _ _ => cases f'
      | _ => rfl⟩
  | str x => exact ⟨rfl, fun h' f' => by cases h' <;> first | rfl | cases f'⟩
  | lst _ _ => cases f
  | tup _ _ => cases f
theorem flat_all {S S' : Hp} {x : V} {a : PyData} (hx : Dp K S' x a) (fa : flat a = true) : ∀ {vs : List V} {ds : List PyData}, DpAll K S vs ds → ds.all flat = true → vs.all flatV = true ∧ vs.any (fun y => eqV y x) = ds.any fun y => PyData.eqv y a
  | _, _, .nil, _ => ⟨rfl, rfl⟩
  | _, _, .cons (v := v) (d := d) q r, h => by
    rw [List.all_cons, Bool.and_eq_true] at h
    obtain ⟨h1, h2⟩ := flat_all hx fa r h.2
    obtain ⟨f1, f2⟩ := flat_dp q h.1
    rw [List.all_cons, List.any_cons, List.any_cons, f1, h1, h2, f2 hx fa]
    exact ⟨rfl, rfl⟩
/-- a list or a tuple at hand -/
theorem dp_items {S : Hp} {v : V} {d : PyData} {ds : List PyData} (h : Dp K S v d) (e : items d = some ds) : ∃ a vs, v = .ref a ∧ (SqL K S a vs ∨ SqT K S a vs) ∧ DpAll K S vs ds := by
  cases h with
  | lst q r => cases e; exact ⟨_, _, rfl, .inl q, r⟩
  | tup q r => cases e; exact ⟨_, _, rfl, .inr q, r⟩
  | _ => cases e
theorem opS_in : OpS K (rIn K false) dIn := by
  intro x y H a b c ha hb hc Q k
  obtain ⟨ds, e, hc⟩ := Option.bind_eq_some_iff.mp hc
  obtain ⟨p, vs, ev, sq, da⟩ := dp_items hb e
  by_cases z : (flat a && ds.all flat) = true
  · rw [if_pos z] at hc; cases hc
    obtain ⟨z1, z2⟩ := Bool.and_eq_true_iff.mp z
    obtain ⟨f1, f2⟩ := flat_all ha z1 da z2
    refine ⟨p, vs, ev, sq, (flat_dp ha z1).1, f1, ?_⟩
    show Q (.bl (inV x vs)) H
    unfold inV
    rw [f2]
    exact k _ (Sc.bl _)
  · rw [if_neg z] at hc; cases hc
theorem opS_notIn : OpS K (rIn K true) dNotIn := by
  intro x y H a b c ha hb hc Q k
  obtain ⟨ds, e, hc⟩ := Option.bind_eq_some_iff.mp hc
  obtain ⟨p, vs, ev, sq, da⟩ := dp_items hb e
  by_cases z : (flat a && ds.all flat) = true
  · rw [if_pos z] at hc; cases hc
    obtain ⟨z1, z2⟩ := Bool.and_eq_true_iff.mp z
    obtain ⟨f1, f2⟩ := flat_all ha z1 da z2
    refine ⟨p, vs, ev, sq, (flat_dp ha z1).1, f1, ?_⟩
    show Q (.bl (!inV x vs)) H
    unfold inV
    rw [f2]
    exact k _ (Sc.bl _)
  · rw [if_neg z] at hc; cases hc
end
section
variable {X : Cx} {W : WX} {a b : Expr} {fa fb : FP} {pos : Pos}
theorem pv_var (i : Nat) {x : Str} {pos : Pos} (hN : X.N[i]? = some x := by rfl) (hv : Vis X.env.scope x := by first | exact Or.inl rfl | exact Or.inr (Or.inl rfl) | exact Or.inr (Or.inr rfl)) (hd : (x == ("__debug__" : Str)) = false := by decide)
    (hcd : (x == ("__classdict__" : Str)) = false := by decide) : PV X W (.Name x pos) (pVar i) := ⟨_, pe_var hN hv hd hcd, sndP_var⟩
theorem pv_e {e : Expr} {f : FE} (h : EV X W e f) : PV X W e (pE f) := let ⟨t, h1, h2⟩ := h.ex; ⟨t, h1, sndP_e h2⟩
theorem ev_var (i : Nat) {x : Str} {pos : Pos} (hN : X.N[i]? = some x := by rfl) (hv : Vis X.env.scope x := by first | exact Or.inl rfl | exact Or.inr (Or.inl rfl) | exact Or.inr (Or.inr rfl)) (hd : (x == ("__debug__" : Str)) = false := by decide)
    (hcd : (x == ("__classdict__" : Str)) = false := by decide) : EV X W (.Name x pos) (eVar i) := ⟨_, pe_var hN hv hd hcd, sndE_var⟩
theorem ev_int {i : Int} {j pos} : EV X W (.Constant (.int i) j pos) (eC (.int i)) := ⟨_, pe_int, sndE_c fun _ => .int i⟩
theorem ev_bl {b : Bool} {j pos} : EV X W (.Constant (.bool b) j pos) (eC (.bool b)) := ⟨_, pe_bl, sndE_c fun _ => .bl b⟩
theorem ev_non {j pos} : EV X W (.Constant .none j pos) (eC .none) := ⟨_, pe_non, sndE_c fun _ => .non⟩
theorem ev_str {x : Str} {j pos} : EV X W (.Constant (.str x) j pos) (eC (.str x)) := ⟨_, pe_str, sndE_c fun _ => .str x⟩
theorem ev_glob {x : Str} {v : V} {u : Value} {d : PyData} {pos : Pos} (hg : Gl X x) (hm : X.mg x = some u) (r : RelV v u) (h : ∀ S, Dp X.K S v d) (hd : (x == ("__debug__" : Str)) = false := by decide) : EV X W (.Name x pos) (eC d) := ⟨_, pe_glob hg hm r hd, sndE_c h⟩
theorem ev_bin {op : Operator} {r : R2} {g : PyData → PyData → Option PyData} (ho : OpR X (binaryOp op) r) (hs : OpS X.K r g) (ha : PV X W a fa) (hb : PV X W b fb) : EV X W (.BinOp a op b pos) (eOp g fa fb) :=
  let ⟨ta, a1, a2⟩ := ha.ex; let ⟨tb, b1, b2⟩ := hb.ex; ⟨_, pe_op ho a1 b1, sndE_op hs a2 b2⟩
theorem ev_add (ha : PV X W a fa) (hb : PV X W b fb) : EV X W (.BinOp a .Add b pos) (eOp dAdd fa fb) := ev_bin op_add opS_add ha hb
theorem ev_sub (ha : PV X W a fa) (hb : PV X W b fb) : EV X W (.BinOp a .Sub b pos) (eOp dSub fa fb) := ev_bin op_sub opS_sub ha hb
theorem ev_mul (ha : PV X W a fa) (hb : PV X W b fb) : EV X W (.BinOp a .Mult b pos) (eOp dMul fa fb) := ev_bin op_mulW opS_mul ha hb
theorem ev_div (ha : PV X W a fa) (hb : PV X W b fb) : EV X W (.BinOp a .FloorDiv b pos) (eOp dDiv fa fb) := ev_bin op_divX opS_div ha hb
theorem ev_mod (ha : PV X W a fa) (hb : PV X W b fb) : EV X W (.BinOp a .Mod b pos) (eOp dMod fa fb) := ev_bin op_modN opS_mod ha hb
theorem ev_pow (ha : PV X W a fa) (hb : PV X W b fb) : EV X W (.BinOp a .Pow b pos) (eOp dPow fa fb) := ev_bin op_pow opS_pow ha hb
theorem ev_cmp {op : CmpOp} {r : R2} {g : PyData → PyData → Option PyData} (ho : OpR X (compareOp op) r) (hs : OpS X.K r g) (ha : PV X W a fa) (hb : PV X W b fb) (hm : behindInMarks op b = false) : EV X W (.Compare a [op] [b] pos) (eOp g fa fb) :=
  let ⟨ta, a1, a2⟩ := ha.ex; let ⟨tb, b1, b2⟩ := hb.ex; ⟨_, pe_cmpR ho a1 b1 hm, sndE_op hs a2 b2⟩
/-! ### tests -/
def tOf (f : FE) : FT := fun ρ => (f ρ).bind fun o ρ' => match o with
  | .fz (.bool b) => .ok b ρ'
  | _ => .bad
theorem sndT_of {t : TE} {f : FE} {K : PySem.W.Frag} (h : SndE K W t f) : SndT K W (tTest t) (tOf f) := by
  refine snd_bind (u := fun x _ H Q => ∃ k, x = .bl k ∧ Q k H) h fun x o σ ρ S H A B w e r => ?_
  cases o with
  | fz d =>
    cases d with
    | bool b =>
      intro Q k
      cases r with
      | fz q z =>
        refine ⟨b, dp_bl q, k b S H A B w e ⟨rfl, z⟩ Tr.refl⟩
    | _ => exact True.intro
  | _ => exact True.intro
theorem tv_cmp {op : CmpOp} {r : R2} {g : PyData → PyData → Option PyData} (ho : OpR X (compareOp op) r) (hs : OpS X.K r g) (ha : PV X W a fa) (hb : PV X W b fb) (hm : behindInMarks op b = false) : TV X W (.Compare a [op] [b] pos) (tOf (eOp g fa fb)) :=
  let ⟨ta, a1, a2⟩ := ha.ex; let ⟨tb, b1, b2⟩ := hb.ex; ⟨_, pt_cmpR ho a1 b1 hm, sndT_of (sndE_op hs a2 b2)⟩
theorem tv_val {e : Expr} {f : FE} (h : EV X W e f) (he : ∀ whole, isTrue e X.env whole = (do let v ← whole; standAt e.pos; holding [v] (truthy v)) := by intro _; rfl) : TV X W e (tOf f) :=
  let ⟨t, h1, h2⟩ := h.ex; ⟨_, pt_val h1 he, sndT_of h2⟩
/-- truth of anything -/
def dTru : PyData → Option Bool
  | .none => some false
  | .bool b => some b
  | .int i => some (i != 0)
  | .str x => if x.length ≤ sizeLine then some ((x.length : Int) != 0) else none
  | .list xs => some !xs.isEmpty
  | .tuple xs => some !xs.isEmpty
  | .dict _ => none
def tTru (f : FP) : FT := fun ρ => (f ρ).bind fun p ρ' => match (pkD ρ' p).bind dTru with
  | some b => .ok b ρ'
  | none => .bad
theorem dpall_empty {K : PySem.W.Frag} {S : Hp} {vs : List V} {ds : List PyData} (h : DpAll K S vs ds) : vs.isEmpty = ds.isEmpty := by cases h <;> rfl
theorem tru_dp {K : PySem.W.Frag} {H : Hp} {v : V} {d : PyData} {b : Bool} (h : Dp K H v d) (e : dTru d = some b) : TruV K v H b := by
  cases h with
  | non => cases e; exact rfl
  | bl b => cases e; exact rfl
  | int i => cases e; exact rfl
  | str x =>
    have e : (if x.length ≤ sizeLine then some ((x.length : Int) != 0) else none) = some b := e
    by_cases z : x.length ≤ sizeLine
    · rw [if_pos z] at e; cases e; exact ⟨z, rfl⟩
    · rw [if_neg z] at e; cases e
  | lst q r => cases e; exact .inl ⟨_, q, by rw [dpall_empty r]⟩
  | tup q r => cases e; exact .inr (.inl ⟨_, q, by rw [dpall_empty r]⟩)
theorem sndT_tru {t : TE} {f : FP} {K : PySem.W.Frag} (h : SndP K W t f) : SndT K W (fun σ H Q => t σ H fun x H' => ∃ k, TruV K x H' k ∧ Q k H') (tTru f) := by
  refine snd_bind (u := fun x _ H Q => ∃ k, TruV K x H k ∧ Q k H) h fun x p σ ρ S H A B w e r => ?_
  show OutOk K W (REq Bool) _ σ S H (A + B) (match (pkD ρ p).bind dTru with
    | some b => Out.ok b ρ
    | none => .bad)
  cases hb : (pkD ρ p).bind dTru with
  | none => exact True.intro
  | some b =>
    obtain ⟨d, e1, e2⟩ := Option.bind_eq_some_iff.mp hb
    intro Q k
    refine ⟨b, tru_dp (pk_peek w.sub e r e1) e2, k b S H A Fp.z ?_ e ⟨rfl, fun _ => rfl⟩ ?_⟩
    · rw [addz]; exact w.less fun b => by rw [add_at]; omega
    · rw [addz]; exact Tr.refl.less fun b => by rw [add_at]; omega
theorem tv_tru {e : Expr} {f : FP} (h : PV X W e f) (he : ∀ whole, isTrue e X.env whole = (do let v ← whole; standAt e.pos; holding [v] (truthy v)) := by intro _; rfl) : TV X W e (tTru f) :=
  let ⟨t, h1, h2⟩ := h.ex; ⟨_, pt_truth h1 he, sndT_tru h2⟩
def tNotF (f : FT) : FT := fun ρ => (f ρ).bind fun b ρ' => .ok (!b) ρ'
def tAndF (f g : FT) : FT := fun ρ => (f ρ).bind fun b ρ' => if b then g ρ' else .ok false ρ'
def tOrF (f g : FT) : FT := fun ρ => (f ρ).bind fun b ρ' => if b then .ok true ρ' else g ρ'
theorem okEnd {K : PySem.W.Frag} {σ : St} {ρ : En} {S H : Hp} {A B : Fp} {b : Bool} {Q : Bool → Hp → Prop} (w : WF S H (A + B)) (e : ER K S H σ ρ A) (k : PostV K (REq Bool) σ S H (A + B) b ρ Q) : Q b H :=
  k b S H A Fp.z (by rw [addz]; exact w.less fun b => by rw [add_at]; omega) e ⟨rfl, fun _ => rfl⟩ (by rw [addz]; exact Tr.refl.less fun b => by rw [add_at]; omega)
/-- a part behind a test: what was held is nothing -/
theorem snd_behind {β α : Type} {K : PySem.W.Frag} {R : RR β α} {t : St → Hp → (β → Hp → Prop) → Prop} {f : En → Out α} (h : Snd K W R t f) {σ : St} {ρ : En} {S H : Hp} {A B : Fp} (w : WF S H (A + B)) (e : ER K S H σ ρ A) : OutOk K W R t σ S H (A + B) (f ρ) := by
  have le : ∀ b, A b ≤ (A + B) b := fun b => by rw [add_at]; omega
  have h1 := h σ ρ S H A (w.less le) e
  have tr : Tr S H (A + B) S H A := Tr.refl.less le
  cases hf : f ρ with
  | bad => exact True.intro
  | exc x ρ' =>
    rw [hf] at h1
    exact fun Q q => h1 Q fun cls d S' H' A' w' e' x' t' => q cls d S' H' A' w' e' x' (tr.trans t')
  | ok a ρ' =>
    rw [hf] at h1
    exact fun Q q => h1 Q fun v S' H' A' C w' e' r' t' => q v S' H' A' C w' e' r' (tr.trans t')
theorem sndT_not {K : PySem.W.Frag} {t : TT} {f : FT} (h : SndT K W t f) : SndT K W (tNot t) (tNotF f) := by
  refine snd_bind (u := fun x _ H Q => Q (!x) H) h fun x b σ ρ S H A B w e r => ?_
  obtain ⟨rfl, _⟩ := r
  exact fun Q k => okEnd w e k
theorem sndT_and {K : PySem.W.Frag} {t u : TT} {f g : FT} (h : SndT K W t f) (h2 : SndT K W u g) : SndT K W (tAnd t u) (tAndF f g) := by
  refine snd_bind (u := fun c σ H Q => if c = true then u σ H Q else Q false H) h fun x b σ ρ S H A B w e r => ?_
  obtain ⟨rfl, _⟩ := r
  cases x with
  | true => exact snd_behind h2 w e
  | false => exact fun Q k => okEnd w e k
theorem sndT_or {K : PySem.W.Frag} {t u : TT} {f g : FT} (h : SndT K W t f) (h2 : SndT K W u g) : SndT K W (tOr t u) (tOrF f g) := by
  refine snd_bind (u := fun c σ H Q => if c = true then Q true H else u σ H Q) h fun x b σ ρ S H A B w e r => ?_
  obtain ⟨rfl, _⟩ := r
  cases x with
  | true => exact fun Q k => okEnd w e k
  | false => exact snd_behind h2 w e
variable {f g : FT} {rest : List Expr}
theorem tv_not (h : TV X W a f) : TV X W (.UnaryOp .Not a pos) (tNotF f) := let ⟨t, h1, h2⟩ := h.ex; ⟨_, pt_not h1, sndT_not h2⟩
theorem wv_and1 (h : TV X W a f) : WV X W (.BoolOp .And [a] pos) f := let ⟨t, h1, h2⟩ := h.ex; ⟨_, pw_and1 h1, h2⟩
theorem wv_or1 (h : TV X W a f) : WV X W (.BoolOp .Or [a] pos) f := let ⟨t, h1, h2⟩ := h.ex; ⟨_, pw_or1 h1, h2⟩
theorem wv_and (h : TV X W a f) (r : WV X W (.BoolOp .And (b :: rest) pos) g) : WV X W (.BoolOp .And (a :: b :: rest) pos) (tAndF f g) :=
  let ⟨t, h1, h2⟩ := h.ex; let ⟨u, r1, r2⟩ := r.ex; ⟨_, pw_and h1 r1, sndT_and h2 r2⟩
theorem wv_or (h : TV X W a f) (r : WV X W (.BoolOp .Or (b :: rest) pos) g) : WV X W (.BoolOp .Or (a :: b :: rest) pos) (tOrF f g) :=
  let ⟨t, h1, h2⟩ := h.ex; let ⟨u, r1, r2⟩ := r.ex; ⟨_, pw_or h1 r1, sndT_or h2 r2⟩
theorem tv_w {e : Expr} (h : WV X W e f) : TV X W e f := let ⟨t, h1, h2⟩ := h.ex; ⟨_, h1.pt, h2⟩
end
end Ls

namespace Ls
open PySem L2
section
variable {X : Cx} {W : WX} {K : PySem.W.Frag} {a b : Expr} {pos : Pos} {rest : List Expr}
/-! ### and, or, not, if as values -/
def eAnd (f g : FE) : FE := fun ρ => (tOf f ρ).bind fun b ρ' => if b then g ρ' else .ok (.fz (.bool false)) ρ'
def eOr (f g : FE) : FE := fun ρ => (tOf f ρ).bind fun b ρ' => if b then .ok (.fz (.bool true)) ρ' else g ρ'
def eNot (f : FP) : FE := fun ρ => (tTru f ρ).bind fun b ρ' => .ok (.fz (.bool !b)) ρ'
def eIf (c : FT) (f g : FE) : FE := fun ρ => (c ρ).bind fun b ρ' => if b then f ρ' else g ρ'
/-- data that names no object, at the end -/
theorem fzEnd {σ : St} {ρ : En} {S H : Hp} {A B : Fp} {v : V} {d : PyData} {Q : VK} (w : WF S H (A + B)) (e : ER K S H σ ρ A) (hv : Dp K S v d) (k : PostV K (ROr K) σ S H (A + B) (.fz d) ρ Q) : Q v H :=
  k v S H A Fp.z (by rw [addz]; exact w.less fun b => by rw [add_at]; omega) e (.fz hv fun _ => rfl) (by rw [addz]; exact Tr.refl.less fun b => by rw [add_at]; omega)
theorem sndE_and {ta tb : TE} {f g : FE} (h : SndE K W ta f) (h2 : SndE K W tb g) : SndE K W (tAndV ta tb) (eAnd f g) := by
  have h1 : SndE K W (fun σ H Q => tTest ta σ H fun c H1 => if c = true then tb σ H1 Q else Q (.bl false) H1) (eAnd f g) := by
    refine snd_bind (u := fun c σ H Q => if c = true then tb σ H Q else Q (.bl false) H) (sndT_of h) fun x b σ ρ S H A B w e r => ?_
    obtain ⟨rfl, _⟩ := r
    cases x with
    | true => exact snd_behind h2 w e
    | false => exact fun Q k => fzEnd w e (.bl false) k
  exact h1
theorem sndE_or {ta tb : TE} {f g : FE} (h : SndE K W ta f) (h2 : SndE K W tb g) : SndE K W (tOrV ta tb) (eOr f g) := by
  have h1 : SndE K W (fun σ H Q => tTest ta σ H fun c H1 => if c = true then Q (.bl true) H1 else tb σ H1 Q) (eOr f g) := by
    refine snd_bind (u := fun c σ H Q => if c = true then Q (.bl true) H else tb σ H Q) (sndT_of h) fun x b σ ρ S H A B w e r => ?_
    obtain ⟨rfl, _⟩ := r
    cases x with
    | false => exact snd_behind h2 w e
    | true => exact fun Q k => fzEnd w e (.bl true) k
  exact h1
theorem sndE_not {ta : TE} {f : FP} (h : SndP K W ta f) : SndE K W (tNotT K ta) (eNot f) := by
  have h1 : SndE K W (fun σ H Q => (fun σ H Q => ta σ H fun x H' => ∃ k, TruV K x H' k ∧ Q k H') σ H fun k H1 => Q (.bl (!k)) H1) (eNot f) := by
    refine snd_bind (u := fun (c : Bool) (σ : St) (H : Hp) (Q : VK) => Q (V.bl (!c)) H) (sndT_tru h) fun x b σ ρ S H A B w e r => ?_
    obtain ⟨rfl, _⟩ := r
    exact fun Q k => fzEnd w e (.bl _) k
  exact h1
theorem sndE_if {c : TT} {ta tb : TE} {fc : FT} {f g : FE} (hc : SndT K W c fc) (h1 : SndE K W ta f) (h2 : SndE K W tb g) : SndE K W (tIf c ta tb) (eIf fc f g) := by
  refine snd_bind (u := fun c σ H Q => if c = true then ta σ H Q else tb σ H Q) hc fun x b σ ρ S H A B w e r => ?_
  obtain ⟨rfl, _⟩ := r
  cases x with
  | true => exact snd_behind h1 w e
  | false => exact snd_behind h2 w e
variable {f g : FE}
theorem ev_one {op} (h : EV X W a f) : EV X W (.BoolOp op [a] pos) f := let ⟨_, h1, h2⟩ := h.ex; ⟨_, pe_one h1, h2⟩
theorem ev_and (h : EV X W a f) (r : EV X W (.BoolOp .And (b :: rest) pos) g) : EV X W (.BoolOp .And (a :: b :: rest) pos) (eAnd f g) :=
  let ⟨_, h1, h2⟩ := h.ex; let ⟨_, r1, r2⟩ := r.ex; ⟨_, pe_and h1 r1, sndE_and h2 r2⟩
theorem ev_or (h : EV X W a f) (r : EV X W (.BoolOp .Or (b :: rest) pos) g) : EV X W (.BoolOp .Or (a :: b :: rest) pos) (eOr f g) :=
  let ⟨_, h1, h2⟩ := h.ex; let ⟨_, r1, r2⟩ := r.ex; ⟨_, pe_or h1 r1, sndE_or h2 r2⟩
theorem ev_not {f : FP} (h : PV X W a f) : EV X W (.UnaryOp .Not a pos) (eNot f) := let ⟨_, h1, h2⟩ := h.ex; ⟨_, pe_notT h1, sndE_not h2⟩
theorem ev_if {c : Expr} {fc : FT} (hc : TV X W c fc) (h : EV X W a f) (r : EV X W b g) : EV X W (.IfExp c a b pos) (eIf fc f g) :=
  let ⟨_, c1, c2⟩ := hc.ex; let ⟨_, h1, h2⟩ := h.ex; let ⟨_, r1, r2⟩ := r.ex; ⟨_, pe_ifExp c1 h1 r1, sndE_if c2 h2 r2⟩
/-! ### a minus -/
def eNeg (f : FP) : FE := fun ρ => (f ρ).bind fun p ρ' => match pkD ρ' p with
  | some (.int i) => .ok (.fz (.int (-i))) ρ'
  | _ => .bad
theorem sndE_neg {ta : TE} {f : FP} (h : SndP K W ta f) : SndE K W (tUn (rU fun i => .int (-i)) ta) (eNeg f) := by
  refine snd_bind (u := fun x σ H Q => rU (fun i => .int (-i)) x H Q) h fun x p σ ρ S H A B w e r => ?_
  show OutOk K W (ROr K) _ σ S H (A + B) (match pkD ρ p with
    | some (.int i) => Out.ok (.fz (.int (-i))) ρ
    | _ => .bad)
  cases hp : pkD ρ p with
  | none => exact True.intro
  | some d =>
    cases d with
    | int i => exact fun Q k => ⟨i, dp_int (pk_peek w.sub e r hp), fzEnd w e (.int _) k⟩
    | _ => exact True.intro
theorem ev_neg {f : FP} (h : PV X W a f) : EV X W (.UnaryOp .USub a pos) (eNeg f) := let ⟨_, h1, h2⟩ := h.ex; ⟨_, pe_un un_neg h1, sndE_neg h2⟩

/-! ### a < b < c -/
def eChain (g g' : PyData → PyData → Option PyData) (fa fb fc : FP) : FE := fun ρ => (fa ρ).bind fun a ρ1 => (fb ρ1).bind fun b ρ2 =>
  match (pkD ρ2 a).bind fun x => (pkD ρ2 b).bind fun y => g x y with
  | some (.bool true) => (fc ρ2).bind fun c ρ3 => (match (pkD ρ3 b).bind fun y => (pkD ρ3 c).bind fun z => g' y z with
    | some d => .ok (.fz d) ρ3
    | none => .bad)
  | some (.bool false) => .ok (.fz (.bool false)) ρ2
  | _ => .bad
theorem sndE_chain {r r' : R2} {g g' : PyData → PyData → Option PyData} {ta tb tc : TE} {fa fb fc : FP} (ho : OpS K r g) (ho' : OpS K r' g') (ha : SndP K W ta fa) (hb : SndP K W tb fb) (hc : SndP K W tc fc) : SndE K W (tChain r r' ta tb tc) (eChain g g' fa fb fc) := by
  refine snd_bind (u := fun x σ H Q => tb σ H fun y H2 => r x y H2 fun z H3 => ∃ k, z = .bl k ∧ if k = true then tc σ H3 fun z H4 => r' y z H4 Q else Q (.bl false) H3) ha fun x a σ ρ S H A B w e ra => ?_
  have h2 := snd_beside hb w e
  show OutOk K W (ROr K) _ σ S H (A + B) ((fb ρ).bind _)
  cases hf : fb ρ with
  | bad => exact True.intro
  | exc x' ρ' =>
    rw [hf] at h2
    exact fun Q k => h2 _ k
  | ok b ρ2 =>
    rw [hf] at h2
    show OutOk K W (ROr K) _ σ S H (A + B) (match (pkD ρ2 a).bind fun x => (pkD ρ2 b).bind fun y => g x y with
      | some (.bool true) => (fc ρ2).bind fun c ρ3 => (match (pkD ρ3 b).bind fun y => (pkD ρ3 c).bind fun z => g' y z with
        | some d => Out.ok (.fz d) ρ3
        | none => .bad)
      | some (.bool false) => .ok (.fz (.bool false)) ρ2
      | _ => .bad)
    cases hg : (pkD ρ2 a).bind fun x => (pkD ρ2 b).bind fun y => g x y with
    | none => exact True.intro
    | some d =>
      cases d with
      | bool k0 =>
        obtain ⟨da, e1, hg1⟩ := Option.bind_eq_some_iff.mp hg
        obtain ⟨db, e2, hg2⟩ := Option.bind_eq_some_iff.mp hg1
        cases k0 with
        | false =>
          intro Q k
          refine h2 _ fun y S' H' A' C w' e' rb t' sub kp => ?_
          have ra' := stays_pk σ S H S' H' x a B sub kp ra
          refine ho x y H' da db _ (pk_peek w'.sub e' ra' e1) (pk_peek w'.sub e' rb e2) hg2 _ fun v hv => ⟨false, dp_bl (hv K S'), ?_⟩
          have le : ∀ b, A' b ≤ (A' + C + B) b := fun b => by simp only [add_at]; omega
          exact k _ S' H' A' Fp.z (by rw [addz]; exact w'.less le) e' (.fz (.bl false) fun _ => rfl) (by rw [addz]; exact t'.less le)
        | true =>
          show OutOk K W (ROr K) _ σ S H (A + B) ((fc ρ2).bind _)
          have key : ∀ y S' H' A' C, WF S' H' (A' + C + B) → ER K S' H' σ ρ2 A' → RPk K σ S' H' y b C → Tr S H (A + B) S' H' (A' + C + B) → (∀ b u, S b = some u → S' b = some u) → (∀ b, 0 < B b → H' b = H b) → ∀ Q : VK, (∀ H3, H3 = H' → (if true = true then tc σ H3 fun z H4 => r' y z H4 Q else Q (.bl false) H3)) →
              r x y H' fun z H3 => ∃ k, z = .bl k ∧ if k = true then tc σ H3 fun z H4 => r' y z H4 Q else Q (.bl false) H3 := fun y S' H' A' C w' e' rb t' sub kp Q q => by
            have ra' := stays_pk σ S H S' H' x a B sub kp ra
            exact ho x y H' da db _ (pk_peek w'.sub e' ra' e1) (pk_peek w'.sub e' rb e2) hg2 _ fun v hv => ⟨true, dp_bl (hv K S'), q H' rfl⟩
          cases hf3 : fc ρ2 with
          | bad => exact True.intro
          | exc x3 ρ3 =>
            intro Q k
            refine h2 _ fun y S' H' A' C w' e' rb t' sub kp => key y S' H' A' C w' e' rb t' sub kp Q fun H3 eh => ?_
            subst eh
            have w2 : WF S' H3 (A' + C) := w'.less fun b => by simp only [add_at]; omega
            have h3 := snd_beside hc w2 e'
            rw [hf3] at h3
            refine h3 _ fun cls d S4 H4 A4 w4 e4 x4 t4 => k cls d S4 H4 A4 w4 e4 x4 ((t'.less fun b => by simp only [add_at]; omega).trans t4)
          | ok c ρ3 =>
            show OutOk K W (ROr K) _ σ S H (A + B) (match (pkD ρ3 b).bind fun y => (pkD ρ3 c).bind fun z => g' y z with
              | some d => Out.ok (.fz d) ρ3
              | none => .bad)
            cases hg3 : (pkD ρ3 b).bind fun y => (pkD ρ3 c).bind fun z => g' y z with
            | none => exact True.intro
            | some d =>
              obtain ⟨db3, e3, hg4⟩ := Option.bind_eq_some_iff.mp hg3
              obtain ⟨dc, e4', hg5⟩ := Option.bind_eq_some_iff.mp hg4
              intro Q k
              refine h2 _ fun y S' H' A' C w' e' rb t' sub kp => key y S' H' A' C w' e' rb t' sub kp Q fun H3 eh => ?_
              subst eh
              have w2 : WF S' H3 (A' + C) := w'.less fun b => by simp only [add_at]; omega
              have h3 := snd_beside hc w2 e'
              rw [hf3] at h3
              refine h3 _ fun z S4 H4 A4 C4 w4 e4 rc t4 sub4 kp4 => ?_
              have rb' := stays_pk σ S' H3 S4 H4 y b C sub4 kp4 rb
              refine ho' y z H4 db3 dc d (pk_peek w4.sub e4 rb' e3) (pk_peek w4.sub e4 rc e4') hg5 _ fun v hv => ?_
              have le : ∀ b, A4 b ≤ (A4 + C4 + C) b := fun b => by simp only [add_at]; omega
              exact k v S4 H4 A4 Fp.z (by rw [addz]; exact w4.less le) e4 (.fz (hv K S4) fun _ => rfl) (by rw [addz]; exact ((t'.less fun b => by simp only [add_at]; omega).trans t4).less le)
      | _ => exact True.intro
theorem ev_chain {op op' : CmpOp} {r r' : R2} {g g' : PyData → PyData → Option PyData} {c : Expr} {fa fb fc : FP} (ho : OpR X (compareOp op) r) (ho' : OpR X (compareOp op') r') (hs : OpS X.K r g) (hs' : OpS X.K r' g') (ha : PV X W a fa) (hb : PV X W b fb) (hc : PV X W c fc)
    (hm : lastMarks [op, op'] [b, c] = false := by with_unfolding_all rfl) : EV X W (.Compare a [op, op'] [b, c] pos) (eChain g g' fa fb fc) :=
  let ⟨_, a1, a2⟩ := ha.ex; let ⟨_, b1, b2⟩ := hb.ex; let ⟨_, c1, c2⟩ := hc.ex; ⟨_, pe_chain ho ho' a1 b1 c1 hm, sndE_chain hs hs' a2 b2 c2⟩
theorem tv_chain {op op' : CmpOp} {r r' : R2} {g g' : PyData → PyData → Option PyData} {c : Expr} {fa fb fc : FP} (ho : OpR X (compareOp op) r) (ho' : OpR X (compareOp op') r') (hs : OpS X.K r g) (hs' : OpS X.K r' g') (ha : PV X W a fa) (hb : PV X W b fb) (hc : PV X W c fc)
    (hm : lastMarks [op, op'] [b, c] = false := by with_unfolding_all rfl) : TV X W (.Compare a [op, op'] [b, c] pos) (tOf (eChain g g' fa fb fc)) :=
  let ⟨_, a1, a2⟩ := ha.ex; let ⟨_, b1, b2⟩ := hb.ex; let ⟨_, c1, c2⟩ := hc.ex; ⟨_, pt_chain ho ho' a1 b1 c1 hm, sndT_of (sndE_chain hs hs' a2 b2 c2)⟩
end
end Ls

namespace Ls
open PySem L2
theorem le1 {A B : Fp} : ∀ b, A b ≤ (A + B) b := fun b => by simp only [add_at]; omega
theorem le2 {A B C : Fp} : ∀ b, (A + C) b ≤ (A + C + B) b := fun b => by simp only [add_at]; omega
theorem le3 {A B C : Fp} : ∀ b, A b ≤ (A + C + B) b := fun b => by simp only [add_at]; omega
theorem le4 {A B : Fp} : ∀ b, B b ≤ (A + B) b := fun b => by simp only [add_at]; omega
theorem add_comm' (A B : Fp) : A + B = B + A := funext fun b => by simp only [add_at]; omega
theorem add_assoc' (A B C : Fp) : A + B + C = A + (B + C) := funext fun b => by simp only [add_at]; omega
section
variable {K : PySem.W.Frag} {S H : Hp} {A B : Fp} {p : Addr} {u : HO}
theorem WF.free (w : WF S H A) (h : H p = none) : S p = none ∧ A p = 0 := by
  refine ⟨?_, ?_⟩
  · cases e : S p with
    | none => rfl
    | some o => rw [w.sub p o e] at h; cases h
  · by_cases z : 0 < A p
    · exact absurd h (w.th p z)
    · omega
theorem sub_upd {T : Hp} (h : T p = none) : ∀ a o, T a = some o → upd T p u a = some o := fun a o e => by rw [upd_ne (ne_of_none e h)]; exact e
/-- a new object of one's own -/
theorem newO (w : WF S H A) (h : H p = none) : WF S (upd H p u) (Fp.one p + A) ∧ Tr S H A S (upd H p u) (Fp.one p + A) ∧ ∀ a, 0 < A a → upd H p u a = H a := by
  obtain ⟨hs, ha⟩ := w.free h
  have ne : ∀ a, 0 < A a → a ≠ p := fun a z e => by rw [e] at z; omega
  refine ⟨⟨fun a o e => sub_upd h a o (w.sub a o e), fun a => ?_, fun a z => ?_, fun a z => ?_⟩, ⟨fun _ _ e => e, fun a o z e => sub_upd h a o e, fun _ _ e => .inl e, fun a z => ?_⟩, fun a z => upd_ne (ne a z)⟩
  · have h1 := w.one a
    rw [add_at]
    by_cases e : a = p
    · subst e; rw [one_same]; omega
    · rw [one_ne e]; omega
  · rw [add_at] at z
    by_cases e : a = p
    · subst e; exact hs
    · rw [one_ne e] at z; exact w.dj a (by omega)
  · rw [add_at] at z
    by_cases e : a = p
    · subst e; rw [upd_same]; exact fun y => nomatch y
    · rw [one_ne e] at z; rw [upd_ne e]; exact w.th a (by omega)
  · rw [add_at] at z
    by_cases e : a = p
    · subst e; exact .inr h
    · rw [one_ne e] at z; exact .inl (by omega)
/-- a new settled object -/
theorem newF (w : WF S H A) (h : H p = none) : WF (upd S p u) (upd H p u) A ∧ Tr S H A (upd S p u) (upd H p u) A ∧ (∀ a, 0 < A a → upd H p u a = H a) ∧ ∀ a o, S a = some o → upd S p u a = some o := by
  obtain ⟨hs, ha⟩ := w.free h
  have ne : ∀ a, 0 < A a → a ≠ p := fun a z e => by rw [e] at z; omega
  refine ⟨⟨fun a o e => ?_, w.one, fun a z => by rw [upd_ne (ne a z)]; exact w.dj a z, fun a z => by rw [upd_ne (ne a z)]; exact w.th a z⟩, ⟨sub_upd hs, fun a o z e => sub_upd h a o e, fun a o e => ?_, fun a z => .inl z⟩, fun a z => upd_ne (ne a z), sub_upd hs⟩
  · by_cases z : a = p
    · subst z; rw [upd_same] at e ⊢; exact e
    · rw [upd_ne z] at e ⊢; exact w.sub a o e
  · by_cases z : a = p
    · subst z; exact .inr (.inr h)
    · rw [upd_ne z] at e; exact .inl e
end
/-! ### arguments -/
def ArgAt (σ : St) : List (Option Nat) → List V → Prop
  | [], _ => True
  | some i :: ls, v :: vs => σ[i]? = some (some v) ∧ ArgAt σ ls vs
  | none :: ls, _ :: vs => ArgAt σ ls vs
  | _ :: _, [] => False
def RArgs (K : PySem.W.Frag) (ls : List (Option Nat)) : RR (List V) (List O) := fun σ S H vs os B => ORs K S H vs os B ∧ ArgAt σ ls vs ∧ vs.length = ls.length
theorem stays_args {K : PySem.W.Frag} {ls : List (Option Nat)} : Stays (RArgs K ls) := fun σ S H S' H' v a B h k r => ⟨ors_keep h k r.1, r.2⟩
structure AV (X : Cx) (W : WX) (es : List Expr) (ls : List (Option Nat)) (f : FA) : Prop where
  ex : ∃ t, PA X es t ∧ Snd X.K W (RArgs X.K ls) t f
def aNil : FA := fun ρ => .ok [] ρ
def aCons (f : FE) (r : FA) : FA := fun ρ => (f ρ).bind fun o ρ1 => (r ρ1).bind fun os ρ2 => .ok (o :: os) ρ2
section
variable {K : PySem.W.Frag} {W : WX} {X : Cx} {e : Expr} {es : List Expr} {ls : List (Option Nat)}
theorem snd_anil : Snd K W (RArgs K []) tNil aNil := by
  intro σ ρ S H A w e Q k
  exact k [] S H A Fp.z (by rw [addz]; exact w) e ⟨.nil fun _ => rfl, True.intro, rfl⟩ (by rw [addz]; exact Tr.refl)
/-- one more ahead; c: whether it is the slot i that is lent -/
theorem snd_acons {te : TE} {tr : TA} {f : FE} {r : FA} {l : Option Nat} (R : RR V O) (hR : ∀ σ S H v o B, R σ S H v o B → OR K S H v o B ∧ ∀ i, l = some i → σ[i]? = some (some v)) (sR : Stays R) (h1 : Snd K W R te f) (h2 : Snd K W (RArgs K ls) tr r) : Snd K W (RArgs K (l :: ls)) (tCons te tr) (aCons f r) := by
  refine snd_bind (u := fun x σ H Q => tr σ H fun xs H2 => Q (x :: xs) H2) h1 fun x o σ ρ S H A B w e ra => ?_
  have h3 := snd_beside h2 w e
  show OutOk K W (RArgs K (l :: ls)) _ σ S H (A + B) ((r ρ).bind _)
  cases hf : r ρ with
  | bad => exact True.intro
  | exc x' ρ' =>
    rw [hf] at h3
    exact fun Q k => h3 _ k
  | ok os ρ2 =>
    rw [hf] at h3
    intro Q k
    refine h3 _ fun xs S' H' A' C w' e' rb t' sub kp => ?_
    have ra' := sR σ S H S' H' x o B sub kp ra
    obtain ⟨q1, q2⟩ := hR σ S' H' x o B ra'
    have eA : A' + C + B = A' + (B + C) := funext fun b => by simp only [add_at]; omega
    rw [eA] at w' t'
    refine k (x :: xs) S' H' A' (B + C) w' e' ⟨.cons q1 rb.1 fun b => add_at B C b, ?_, by simp [rb.2.2]⟩ t'
    cases l with
    | none => exact rb.2.1
    | some i => exact ⟨q2 i rfl, rb.2.1⟩
theorem av_nil : AV X W [] [] aNil := ⟨_, pa_nil, snd_anil⟩
theorem av_cons {f : FE} {r : FA} (h : EV X W e f) (hr : AV X W es ls r) (hs : starEach (e :: es) X.env = (false, eval e X.env) :: starEach es X.env := by rfl) : AV X W (e :: es) (none :: ls) (aCons f r) :=
  let ⟨_, h1, h2⟩ := h.ex; let ⟨_, r1, r2⟩ := hr.ex; ⟨_, pa_cons h1 r1 hs, snd_acons (l := none) (ROr X.K) (fun _ _ _ _ _ _ q => ⟨q, fun _ z => nomatch z⟩) stays_or h2 r2⟩
/-- a slot that is lent: what is its own leaves the frame -/
def eLend (i : Nat) : FE := fun ρ => match ρ[i]? with
  | some (some (.fz d)) => .ok (.fz d) ρ
  | some (some (.raw v)) => .ok (.raw v) ρ
  | some (some o) => .ok o (ρ.set i none)
  | _ => .bad
def RLend (K : PySem.W.Frag) (i : Nat) : RR V O := fun σ S H v o B => OR K S H v o B ∧ σ[i]? = some (some v)
theorem snd_lend {i : Nat} : Snd K W (RLend K i) (tVar i) (eLend i) := by
  intro σ ρ S H A w e
  unfold eLend
  cases hi : ρ[i]? with
  | none => exact True.intro
  | some x =>
    cases x with
    | none => exact True.intro
    | some o =>
      obtain ⟨v, B, C, e1, q, e2, z⟩ := er_get e hi
      have eA : A = C + B := funext fun b => by rw [z b, add_at]; omega
      have no : (∀ b, B b = 0) → A + B = A := fun z2 => funext fun b => by rw [add_at, z2 b]; rfl
      cases o with
      | fz d =>
        intro Q k
        have z2 : ∀ b, B b = 0 := by cases q with | fz q z2 => exact z2
        exact ⟨v, e1, k v S H A B (by rw [no z2]; exact w) e ⟨q, e1⟩ (by rw [no z2]; exact Tr.refl)⟩
      | raw u =>
        intro Q k
        have z2 : ∀ b, B b = 0 := by cases q with | raw z2 => exact z2
        exact ⟨v, e1, k v S H A B (by rw [no z2]; exact w) e ⟨q, e1⟩ (by rw [no z2]; exact Tr.refl)⟩
      | lst xs =>
        intro Q k
        exact ⟨v, e1, k v S H C B (by rw [← eA]; exact w) e2 ⟨q, e1⟩ (by rw [← eA]; exact Tr.refl)⟩
theorem av_lend (i : Nat) {x : Str} {pos : Pos} {r : FA} (hr : AV X W es ls r) (hN : X.N[i]? = some x := by rfl) (hv : Vis X.env.scope x := by first | exact Or.inl rfl | exact Or.inr (Or.inl rfl) | exact Or.inr (Or.inr rfl)) (hd : (x == ("__debug__" : Str)) = false := by decide)
    (hcd : (x == ("__classdict__" : Str)) = false := by decide) (hs : starEach (.Name x pos :: es) X.env = (false, eval (.Name x pos) X.env) :: starEach es X.env := by rfl) : AV X W (.Name x pos :: es) (some i :: ls) (aCons (eLend i) r) :=
  let ⟨_, r1, r2⟩ := hr.ex
  ⟨_, pa_cons (pe_var hN hv hd hcd) r1 hs, snd_acons (l := some i) (RLend X.K i) (fun _ _ _ _ _ _ q => ⟨q.1, fun j z => by cases z; exact q.2⟩) (fun σ S H S' H' v a B h k r => ⟨or_keep h k r.1, r.2⟩) snd_lend r2⟩
def backs : List (Option Nat) → List O → En → En
  | some i :: ls, o :: os, ρ => backs ls os (match ρ[i]? with
    | some none => ρ.set i (some o)
    | _ => ρ)
  | none :: ls, _ :: os, ρ => backs ls os ρ
  | _, _, ρ => ρ
theorem er_backs {S H : Hp} {σ : St} : ∀ (ls : List (Option Nat)) {vs : List V} {os : List O} {ρ : En} {A B : Fp}, ER K S H σ ρ A → ORs K S H vs os B → ArgAt σ ls vs → ∃ A', ER K S H σ (backs ls os ρ) A' ∧ ∀ b, A' b ≤ (A + B) b
  | [], _, _, ρ, A, B, e, r, h => ⟨A, by cases r <;> exact e, le1⟩
  | l :: ls, _, _, ρ, A, B, e, .nil z, h => ⟨A, by cases l <;> exact e, le1⟩
  | none :: ls, _, _, ρ, A, B, e, .cons q r z, h => by
    obtain ⟨A', h1, h2⟩ := er_backs ls e r h
    exact ⟨A', h1, fun b => by have := h2 b; simp only [add_at] at this ⊢; rw [z b]; omega⟩
  | some i :: ls, _, _, ρ, A, B, e, .cons (x := x) (xs := xs) (B := B1) (C := C1) q r z, h => by
    show ∃ A', ER K S H σ (backs ls xs (match ρ[i]? with
      | some none => ρ.set i (some x)
      | _ => ρ)) A' ∧ ∀ b, A' b ≤ (A + B) b
    cases hi : ρ[i]? with
    | none =>
      obtain ⟨A', h1, h2⟩ := er_backs ls e r h.2
      exact ⟨A', h1, fun b => by have := h2 b; simp only [add_at] at this ⊢; rw [z b]; omega⟩
    | some y =>
      cases y with
      | some y =>
        obtain ⟨A', h1, h2⟩ := er_backs ls e r h.2
        exact ⟨A', h1, fun b => by have := h2 b; simp only [add_at] at this ⊢; rw [z b]; omega⟩
      | none =>
        obtain ⟨A', h1, h2⟩ := er_backs ls (er_back e h.1 hi q) r h.2
        exact ⟨A', h1, fun b => by have := h2 b; simp only [add_at] at this ⊢; rw [z b]; omega⟩

/-! ### promises -/
def spOf (K : PySem.W.Frag) (n : Nat) (F : List O → FO) : Sp := fun vs H Q E => vs.length = n ∧ ∃ S A as, WF S H A ∧ ORs K S H vs as A ∧
  match F as with
  | .ok o as' => ∀ v S' H' A' B, WF S' H' (A' + B) → ORs K S' H' vs as' A' → OR K S' H' v o B → Tr S H A S' H' (A' + B) → Q v H'
  | .exc x as' => ∀ cls d S' H' A', WF S' H' A' → ORs K S' H' vs as' A' → XR K S' x cls d → Tr S H A S' H' A' → E cls d H'
  | .bad => False
def eCall (F : List O → FO) (ls : List (Option Nat)) (dd : List PyData) (fa : FA) : FE := fun ρ => (fa ρ).bind fun os ρ1 => match F (os ++ dd.map O.fz) with
  | .ok o as' => .ok o (backs ls as' ρ1)
  | .exc x as' => .exc x (backs ls as' ρ1)
  | .bad => .bad
theorem ors_append {S H : Hp} : ∀ {vs : List V} {os : List O} {A : Fp} {dvs : List V} {dd : List PyData}, ORs K S H vs os A → DpAll K S dvs dd → ORs K S H (vs ++ dvs) (os ++ dd.map O.fz) A
  | _, _, _, _, _, .nil z, .nil => .nil z
  | _, _, A, _, _, .nil z, .cons q r => .cons (B := Fp.z) (C := A) (.fz q fun _ => rfl) (ors_append (.nil z) r) fun b => by rw [z_at]; omega
  | _, _, _, _, _, .cons q r z, d => .cons q (ors_append r d) z
theorem argAt_more {σ : St} : ∀ {ls : List (Option Nat)} {vs ws : List V}, ArgAt σ ls vs → ArgAt σ ls (vs ++ ws)
  | [], _, _, _ => True.intro
  | some i :: ls, v :: vs, _, h => ⟨h.1, argAt_more h.2⟩
  | none :: ls, v :: vs, _, h => argAt_more (ls := ls) (vs := vs) h
  | some i :: ls, [], _, h => h.elim
  | none :: ls, [], _, h => h.elim
theorem sndE_call {n : Nat} {F : List O → FO} {ta : TA} {fa : FA} {dvs : List V} {dd : List PyData} (ha : Snd K W (RArgs K ls) ta fa) (hd : ∀ S, DpAll K S dvs dd) (hn : ls.length + dvs.length = n) :
    SndE K W (tCallSD (spOf K n F) dvs (WE W) ta) (eCall F ls dd fa) := by
  refine snd_bind (u := fun vs σ H Q => spOf K n F (vs ++ dvs) H Q (WE W σ)) ha fun vs os σ ρ S H A B w e r => ?_
  show OutOk K W (ROr K) _ σ S H (A + B) (match F (os ++ dd.map O.fz) with
    | .ok o as' => Out.ok o (backs ls as' ρ)
    | .exc x as' => .exc x (backs ls as' ρ)
    | .bad => .bad)
  have hor := ors_append r.1 (hd S)
  have w1 : WF S H B := w.less le4
  have w2 : WF S H (B + A) := by rw [add_comm']; exact w
  cases hF : F (os ++ dd.map O.fz) with
  | bad => exact True.intro
  | ok o as' =>
    intro Q k
    refine ⟨by rw [List.length_append, r.2.2]; exact hn, S, B, _, w1, hor, ?_⟩
    rw [hF]
    intro v S' H' A' C w' r' q' t'
    obtain ⟨w3, k3⟩ := t'.frame w2 w'
    have e3 := er_keep (K := K) t'.fz e fun b hb => (k3 b hb).1
    obtain ⟨A2, e4, l4⟩ := er_backs ls e3 r' (argAt_more r.2.1)
    have t4 : Tr S H (A + B) S' H' (A' + C + A) := by rw [add_comm' A B]; exact t'.frameTr
    have l5 : ∀ b, (A2 + C) b ≤ (A' + C + A) b := fun b => by have := l4 b; simp only [add_at] at this ⊢; omega
    exact k v S' H' A2 C (w3.less l5) e4 q' (t4.less l5)
  | exc x as' =>
    intro Q k
    refine ⟨by rw [List.length_append, r.2.2]; exact hn, S, B, _, w1, hor, ?_⟩
    rw [hF]
    intro cls d S' H' A' w' r' x' t'
    obtain ⟨w3, k3⟩ := t'.frame w2 w'
    have e3 := er_keep (K := K) t'.fz e fun b hb => (k3 b hb).1
    obtain ⟨A2, e4, l4⟩ := er_backs ls e3 r' (argAt_more r.2.1)
    have t4 : Tr S H (A + B) S' H' (A' + A) := by rw [add_comm' A B]; exact t'.frameTr
    have l5 : ∀ b, A2 b ≤ (A' + A) b := fun b => by have := l4 b; simp only [add_at] at this ⊢; omega
    exact k cls d S' H' A2 (w3.less l5) e4 x' (t4.less l5)
theorem ev_call {k : Nat} {f : Addr} {fd : FuncData} {ps : List Str} {n : Nat} {F : List O → FO} {ds : List Value} {dvs : List V} {dd : List PyData} {fa : FA} {x : Str} {p pos : Pos} (G : FnOk X.prog X.w X.K X.mg X.base (L2.CX X.prog X.w) k f fd ps (spOf X.K n F)) (hr : Room k X.A) (tk : Takes X W)
    (hg : Gl X x) (hm : X.mg x = some (.ref f)) (hk : PySem.W.keepIn X.K (.ref f) = true) (hb : Binds X.K fd ps ds) (hd : Vals dvs ds) (hdd : ∀ S, DpAll X.K S dvs dd) (ha : AV X W (e :: es) ls fa) (hn : ls.length + dvs.length = n := by rfl)
    (hdb : (x == ("__debug__" : Str)) = false := by decide) (he : starEach (e :: es) X.env = (false, eval e X.env) :: starEach es X.env := by rfl) (hpl : (backTo pos (starEach es X.env)).any (·.1) = false := by rfl) :
    EV X W (.Call (.Name x p) (e :: es) [] pos) (eCall F ls dd fa) :=
  let ⟨_, a1, a2⟩ := ha.ex; ⟨_, pe_callSD G hr hg hm hk hb hd (fun σ => passAt tk σ) a1 hdb he hpl, sndE_call a2 hdd hn⟩
theorem argAt_len {σ : St} {ls : List (Option Nat)} {vs : List V} {os : List O} {S H : Hp} {B : Fp} (r : ORs K S H vs os B) : vs.length = os.length := by
  have go : ∀ {vs : List V} {os : List O} {B : Fp}, ORs K S H vs os B → vs.length = os.length := by
    intro vs
    induction vs with
    | nil => intro os B h; cases h; rfl
    | cons v vs ih =>
      intro os B h
      cases h with
      | cons q r z => simp [ih r]
  exact go r
end
end Ls

namespace Ls
open PySem L2
/-! ### a list's, a tuple's settled items -/
def allFz : List O → Option (List PyData)
  | [] => some []
  | .fz d :: xs => (allFz xs).map fun ds => d :: ds
  | _ :: _ => none
def itemsO : O → Option (Bool × List PyData)
  | .fz (.list ds) => some (true, ds)
  | .fz (.tuple ds) => some (false, ds)
  | .lst xs => (allFz xs).map fun ds => (true, ds)
  | _ => none
def SqB (K : PySem.W.Frag) (H : Hp) (a : Addr) (vs : List V) : Bool → Prop
  | true => SqL K H a vs
  | false => SqT K H a vs
section
variable {K : PySem.W.Frag} {W : WX} {S H : Hp} {A B C : Fp} {σ : St} {ρ : En}
theorem ors_allFz : ∀ {vs : List V} {xs : List O} {B : Fp} {ds : List PyData}, ORs K S H vs xs B → allFz xs = some ds → DpAll K S vs ds ∧ ∀ b, B b = 0
  | _, _, _, _, .nil z, h => by cases h; exact ⟨.nil, z⟩
  | _, _, _, _, .cons (x := x) (xs := xs) q r z, h => by
    cases q with
    | fz q z1 =>
      obtain ⟨ds', e1, e2⟩ := Option.map_eq_some_iff.mp (show (allFz xs).map _ = some _ from h)
      subst e2
      obtain ⟨h1, h2⟩ := ors_allFz r e1
      exact ⟨.cons q h1, fun b => by rw [z b, z1 b, h2 b]⟩
    | raw z1 => cases h
    | lst _ _ _ => cases h
theorem or_items {v : V} {o : O} {l : Bool} {ds : List PyData} (sub : ∀ a u, S a = some u → H a = some u) (q : OR K S H v o B) (h : itemsO o = some (l, ds)) : ∃ a vs, v = .ref a ∧ SqB K H a vs l ∧ DpAll K S vs ds := by
  cases q with
  | fz q z =>
    cases q with
    | lst s r => cases h; exact ⟨_, _, rfl, sqL_mono sub s, r⟩
    | tup s r => cases h; exact ⟨_, _, rfl, sqT_mono sub s, r⟩
    | _ => cases h
  | raw z => cases h
  | lst e r z =>
    obtain ⟨ds', e1, e2⟩ := Option.map_eq_some_iff.mp (show (allFz _).map _ = some _ from h)
    cases e2
    exact ⟨_, _, rfl, SqL.of e, (ors_allFz r e1).1⟩
theorem pk_or {v : V} {p : Pk} {o : O} (e : ER K S H σ ρ A) (r : RPk K σ S H v p B) (h : pkO ρ p = some o) : ∃ B', OR K S H v o B' := by
  cases r with
  | o q => cases h; exact ⟨_, q⟩
  | @v _ _ _ _ i _ h1 z =>
    have h : (ρ[i]?).bind id = some o := h
    cases hi : ρ[i]? with
    | none => rw [hi] at h; cases h
    | some x =>
      rw [hi] at h
      cases x with
      | none => cases h
      | some o' =>
        cases h
        obtain ⟨v', B', C', e1, q, _, _⟩ := er_get e hi
        rw [h1] at e1
        cases e1
        exact ⟨B', q⟩
theorem dpall_len : ∀ {vs : List V} {ds : List PyData}, DpAll K S vs ds → vs.length = ds.length
  | _, _, .nil => rfl
  | _, _, .cons _ r => by simp [dpall_len r]
theorem dpall_get : ∀ {vs : List V} {ds : List PyData} {j : Nat} {d : PyData}, DpAll K S vs ds → ds[j]? = some d → ∃ v, vs[j]? = some v ∧ Dp K S v d
  | _, _, _, _, .nil, h => by simp at h
  | _, _, 0, _, .cons q _, h => by simp at h; subst h; exact ⟨_, rfl, q⟩
  | _, _, j + 1, d, .cons _ r, h => by
    obtain ⟨v, h1, h2⟩ := dpall_get (j := j) r (by simpa using h)
    exact ⟨v, by simpa using h1, h2⟩
theorem dpall_at {vs : List V} {ds : List PyData} {i : Int} {d : PyData} (h : DpAll K S vs ds) (e : atI ds i = some d) : ∃ v, atI vs i = some v ∧ Dp K S v d := by
  unfold atI at e ⊢
  rw [dpall_len h]
  obtain ⟨j, e1, e2⟩ := Option.bind_eq_some_iff.mp e
  obtain ⟨v, h1, h2⟩ := dpall_get h e2
  exact ⟨v, by rw [e1]; exact h1, h2⟩
/-! ### xs[i] -/
def ixO : O → Int → Option PyData
  | .fz (.str z), i => if z.length ≤ sizeLine then (atI z.cps.toList i).map fun c => .str ⟨#[c]⟩ else none
  | o, i => (itemsO o).bind fun p => atI p.2 i
theorem ixO_eq {o : O} {i : Int} (h : ∀ z, o ≠ .fz (.str z)) : ixO o i = (itemsO o).bind fun p => atI p.2 i := by
  cases o with
  | fz d => cases d <;> first | rfl | exact absurd rfl (h _)
  | _ => rfl
def eIx (fa fb : FP) : FE := fun ρ => (fa ρ).bind fun a ρ1 => (fb ρ1).bind fun b ρ2 => match pkO ρ2 a, pkD ρ2 b with
  | some o, some (.int i) => (match ixO o i with
    | some d => .ok (.fz d) ρ2
    | none => .bad)
  | _, _ => .bad
theorem ix_rule {x y : V} {o : O} {i : Int} {d : PyData} (sub : ∀ a u, S a = some u → H a = some u) (q : OR K S H x o B) (hy : y = .int i) (h : ixO o i = some d) : ∀ Q : VK, (∀ v, Dp K S v d → Q v H) → rIx K x y H Q := by
  intro Q k
  by_cases hs : ∃ z, o = .fz (.str z)
  · obtain ⟨z, rfl⟩ := hs
    have h : (if z.length ≤ sizeLine then (atI z.cps.toList i).map fun c => PyData.str ⟨#[c]⟩ else none) = some d := h
    by_cases hz : z.length ≤ sizeLine
    · rw [if_pos hz] at h
      obtain ⟨c, e1, e2⟩ := Option.map_eq_some_iff.mp h
      subst e2
      cases q with
      | fz q _ =>
        cases q
        exact .inr (.inr ⟨z, i, c, rfl, hy, hz, e1, k _ (.str _)⟩)
    · rw [if_neg hz] at h; cases h
  · rw [ixO_eq fun z e => hs ⟨z, e⟩] at h
    obtain ⟨⟨l, ds⟩, e1, e2⟩ := Option.bind_eq_some_iff.mp h
    obtain ⟨a, vs, ev, sq, da⟩ := or_items sub q e1
    obtain ⟨v, h1, h2⟩ := dpall_at da e2
    cases l with
    | true => exact .inl ⟨a, vs, i, v, ev, hy, sq, h1, k v h2⟩
    | false => exact .inr (.inl ⟨a, vs, i, v, ev, hy, sq, h1, k v h2⟩)
/-- two operands worked out, then what is made of them at that moment -/
theorem snd_two {β α : Type} {R : RR β α} {ta tb : TE} {fa fb : FP} {r : V → V → Hp → (β → Hp → Prop) → Prop} {k : Pk → Pk → En → Out α} (ha : SndP K W ta fa) (hb : SndP K W tb fb)
    (hk : ∀ x y a b σ ρ S H A B, WF S H (A + B) → ER K S H σ ρ A → (∀ o, pkO ρ a = some o → ∃ B', OR K S H x o B') → (∀ o, pkO ρ b = some o → ∃ B', OR K S H y o B') → OutOk K W R (fun _ H Q => r x y H Q) σ S H (A + B) (k a b ρ)) :
    Snd K W R (fun σ H Q => ta σ H fun x H1 => tb σ H1 fun y H2 => r x y H2 Q) fun ρ => (fa ρ).bind fun a ρ1 => (fb ρ1).bind fun b ρ2 => k a b ρ2 := by
  refine snd_bind (u := fun x σ H Q => tb σ H fun y H2 => r x y H2 Q) ha fun x a σ ρ S H A B w e ra => ?_
  have h2 := snd_beside hb w e
  show OutOk K W R _ σ S H (A + B) ((fb ρ).bind _)
  cases hf : fb ρ with
  | bad => exact True.intro
  | exc x' ρ' =>
    rw [hf] at h2
    exact fun Q k => h2 _ k
  | ok b ρ2 =>
    rw [hf] at h2
    show OutOk K W R _ σ S H (A + B) (k a b ρ2)
    cases hk2 : k a b ρ2 with
    | bad => exact True.intro
    | exc x' ρ' =>
      intro Q q
      refine h2 _ fun y S' H' A' C w' e' rb t' sub kp => ?_
      have ra' := stays_pk σ S H S' H' x a B sub kp ra
      rw [add_assoc'] at w' t'
      have h3 := hk x y a b σ ρ2 S' H' A' (C + B) w' e' (fun o ho => pk_or e' ra' ho) fun o ho => pk_or e' rb ho
      rw [hk2] at h3
      exact h3 Q fun cls d S4 H4 A4 w4 e4 x4 t4 => q cls d S4 H4 A4 w4 e4 x4 (t'.trans t4)
    | ok c ρ' =>
      intro Q q
      refine h2 _ fun y S' H' A' C w' e' rb t' sub kp => ?_
      have ra' := stays_pk σ S H S' H' x a B sub kp ra
      rw [add_assoc'] at w' t'
      have h3 := hk x y a b σ ρ2 S' H' A' (C + B) w' e' (fun o ho => pk_or e' ra' ho) fun o ho => pk_or e' rb ho
      rw [hk2] at h3
      exact h3 Q fun v S4 H4 A4 B4 w4 e4 r4 t4 => q v S4 H4 A4 B4 w4 e4 r4 (t'.trans t4)
theorem pkD_or {x : V} {p : Pk} {d : PyData} (sub : ∀ a u, S a = some u → H a = some u) (h : ∀ o, pkO ρ p = some o → ∃ B', OR K S H x o B') (e : pkD ρ p = some d) : Dp K H x d := by
  obtain ⟨o, e1, e2⟩ := Option.bind_eq_some_iff.mp e
  obtain ⟨B', q⟩ := h o e1
  exact or_peek sub q e2
theorem sndE_ix {ta tb : TE} {fa fb : FP} (ha : SndP K W ta fa) (hb : SndP K W tb fb) : SndE K W (tOp (rIx K) ta tb) (eIx fa fb) := by
  refine snd_two (r := rIx K) ha hb fun x y a b σ ρ S H A B w e ra rb => ?_
  cases h1 : pkO ρ a with
  | none => exact True.intro
  | some o =>
    cases h2 : pkD ρ b with
    | none => exact True.intro
    | some d =>
      cases d with
      | int i =>
        show OutOk K W (ROr K) _ σ S H (A + B) (match ixO o i with
          | some d => Out.ok (.fz d) ρ
          | none => .bad)
        cases h3 : ixO o i with
        | none => exact True.intro
        | some d =>
          intro Q k
          obtain ⟨B', q⟩ := ra o h1
          exact ix_rule w.sub q (dp_int (pkD_or w.sub rb h2)) h3 Q fun v hv => fzEnd w e hv k
      | _ => exact True.intro
/-! ### displays -/
def eTup (fa : FA) : FE := fun ρ => (fa ρ).bind fun os ρ1 => match frzs os with
  | some ds => .ok (.fz (.tuple ds)) ρ1
  | none => .bad
def eLst (fa : FA) : FE := fun ρ => (fa ρ).bind fun os ρ1 => .ok (.lst os) ρ1
/-- a new settled tuple of held things -/
theorem tupEnd {p : Addr} {vs : List V} {os : List O} {ds : List PyData} {Q : VK} (w : WF S H (A + B)) (e : ER K S H σ ρ A) (r : ORs K S H vs os B) (h : frzs os = some ds) (hp : H p = none) (k : PostV K (ROr K) σ S H (A + B) (.fz (.tuple ds)) ρ Q) : Q (.ref p) (upd H p (.tup vs)) := by
  obtain ⟨w1, t1, sub1⟩ := settle_wf w
  have d1 := ors_settle (fun b hb => w.dj b (by rw [add_at]; omega)) (fun b => Nat.le_refl _) r h
  obtain ⟨w2, t2, k2, sub2⟩ := newF (u := .tup vs) w1 hp
  refine k _ _ _ A Fp.z (by rw [addz]; exact w2) (er_keep sub2 (er_keep sub1 e fun _ _ => rfl) k2) (.fz (.tup (SqT.of upd_same) (dpa_mono sub2 d1)) fun _ => rfl) (by rw [addz]; exact t1.trans t2)
/-- a new list of one's own -/
theorem lstEnd {p : Addr} {vs : List V} {os : List O} {Q : VK} (w : WF S H (A + B)) (e : ER K S H σ ρ A) (r : ORs K S H vs os B) (hp : H p = none) (k : PostV K (ROr K) σ S H (A + B) (.lst os) ρ Q) : Q (.ref p) (upd H p (.lst vs)) := by
  obtain ⟨w1, t1, k1⟩ := newO (u := .lst vs) w hp
  have eA : Fp.one p + (A + B) = A + (Fp.one p + B) := funext fun b => by simp only [add_at]; omega
  rw [eA] at w1 t1
  refine k _ _ _ A (Fp.one p + B) w1 (er_keep (fun _ _ h => h) e fun a z => k1 a (by rw [add_at]; omega)) (.lst upd_same (ors_keep (fun _ _ h => h) (fun a z => k1 a (by rw [add_at]; omega)) r) fun b => add_at _ _ b) t1
/-- .. of settled items -/
theorem ors_fz : ∀ {vs : List V} {ds : List PyData}, DpAll K S vs ds → ORs K S H vs (ds.map O.fz) Fp.z
  | _, _, .nil => .nil fun _ => rfl
  | _, _, .cons q r => .cons (B := Fp.z) (C := Fp.z) (.fz q fun _ => rfl) (ors_fz r) fun _ => rfl
theorem lstFz {p : Addr} {vs : List V} {ds : List PyData} {Q : VK} (w : WF S H (A + B)) (e : ER K S H σ ρ A) (r : DpAll K S vs ds) (hp : H p = none) (k : PostV K (ROr K) σ S H (A + B) (.lst (ds.map O.fz)) ρ Q) : Q (.ref p) (upd H p (.lst vs)) := by
  have w1 : WF S H (A + Fp.z) := by rw [addz]; exact w.less le1
  refine lstEnd w1 e (ors_fz r) hp fun v S' H' A' B' w' e' r' t' => k v S' H' A' B' w' e' r' ?_
  rw [addz] at t'
  exact (Tr.refl.less le1).trans t'
theorem tupFz {p : Addr} {vs : List V} {ds : List PyData} {Q : VK} (w : WF S H (A + B)) (e : ER K S H σ ρ A) (r : DpAll K S vs ds) (hp : H p = none) (k : PostV K (ROr K) σ S H (A + B) (.fz (.tuple ds)) ρ Q) : Q (.ref p) (upd H p (.tup vs)) := by
  have w1 : WF S H (A + Fp.z) := by rw [addz]; exact w.less le1
  have hz : frzs (ds.map O.fz) = some ds := by
    clear r k
    induction ds with
    | nil => rfl
    | cons d ds ih =>
      show ((frz (O.fz d)).bind fun d => (frzs (ds.map O.fz)).map fun ds => d :: ds) = some (d :: ds)
      rw [ih]
      rfl
  refine tupEnd w1 e (ors_fz r) hz hp fun v S' H' A' B' w' e' r' t' => k v S' H' A' B' w' e' r' ?_
  rw [addz] at t'
  exact (Tr.refl.less le1).trans t'
theorem sndE_tup {ls : List (Option Nat)} {ta : TA} {fa : FA} (ha : Snd K W (RArgs K ls) ta fa) (hn : ls.length ≤ sizeLine) : SndE K W (tTup ta) (eTup fa) := by
  refine snd_bind (u := fun (vs : List V) (σ : St) (H : Hp) (Q : VK) => vs.length ≤ sizeLine ∧ ∀ p, H p = none → Q (V.ref p) (upd H p (.tup vs))) ha fun vs os σ ρ S H A B w e r => ?_
  show OutOk K W (ROr K) _ σ S H (A + B) (match frzs os with
    | some ds => Out.ok (.fz (.tuple ds)) ρ
    | none => .bad)
  cases h : frzs os with
  | none => exact True.intro
  | some ds => exact fun Q k => ⟨by rw [r.2.2]; exact hn, fun p hp => tupEnd w e r.1 h hp k⟩
theorem sndE_lst {ls : List (Option Nat)} {ta : TA} {fa : FA} (ha : Snd K W (RArgs K ls) ta fa) (hn : ls.length ≤ sizeLine) : SndE K W (tLst ta) (eLst fa) := by
  refine snd_bind (u := fun (vs : List V) (σ : St) (H : Hp) (Q : VK) => vs.length ≤ sizeLine ∧ ∀ p, H p = none → Q (V.ref p) (upd H p (.lst vs))) ha fun vs os σ ρ S H A B w e r => ?_
  exact fun Q k => ⟨by rw [r.2.2]; exact hn, fun p hp => lstEnd w e r.1 hp k⟩
end
section
variable {X : Cx} {W : WX} {a b : Expr} {fa fb : FP} {pos : Pos} {es : List Expr} {ls : List (Option Nat)} {f : FA}
theorem ev_ix (ha : PV X W a fa) (hb : PV X W b fb) (hs : PlainIx b := by exact fun _ _ => rfl) : EV X W (.Subscript a b pos) (eIx fa fb) := let ⟨_, a1, a2⟩ := ha.ex; let ⟨_, b1, b2⟩ := hb.ex; ⟨_, pe_ix ix_seq a1 b1 hs, sndE_ix a2 b2⟩
theorem ev_tup {x1} (h : AV X W es ls f) (hn : ls.length ≤ sizeLine := by decide) : EV X W (.Tuple es x1 pos) (eTup f) := let ⟨_, a1, a2⟩ := h.ex; ⟨_, pe_tup a1, sndE_tup a2 hn⟩
theorem ev_lst (h : AV X W es ls f) (hn : ls.length ≤ sizeLine := by decide) : EV X W (.List es pos) (eLst f) := let ⟨_, a1, a2⟩ := h.ex; ⟨_, pe_lst a1, sndE_lst a2 hn⟩
end
end Ls

namespace Ls
open PySem L2
section
variable {K : PySem.W.Frag} {W : WX} {S H : Hp} {A B C : Fp} {σ : St} {ρ : En}
/-- one operand worked out, then what is made of it -/
theorem snd_one {β α : Type} {R : RR β α} {ta : TE} {fa : FP} {r : V → Hp → (β → Hp → Prop) → Prop} {k : Pk → En → Out α} (ha : SndP K W ta fa)
    (hk : ∀ x a σ ρ S H A B, WF S H (A + B) → ER K S H σ ρ A → (∀ o, pkO ρ a = some o → ∃ B', OR K S H x o B') → OutOk K W R (fun _ H Q => r x H Q) σ S H (A + B) (k a ρ)) :
    Snd K W R (fun σ H Q => ta σ H fun x H1 => r x H1 Q) fun ρ => (fa ρ).bind fun a ρ1 => k a ρ1 :=
  snd_bind (u := fun x _ H Q => r x H Q) ha fun x a σ ρ S H A B w e ra => hk x a σ ρ S H A B w e fun o ho => pk_or e ra ho
/-! ### a built-in of one thing whose worth names no object -/
def BiS (K : PySem.W.Frag) (r : List V → Hp → VK → Prop) (g : O → Option PyData) : Prop :=
  ∀ x S H o B c, (∀ a u, S a = some u → H a = some u) → OR K S H x o B → g o = some c → ∀ Q : VK, (∀ v, Sc v c → Q v H) → r [x] H Q
def eB1 (g : O → Option PyData) (fa : FP) : FE := fun ρ => (fa ρ).bind fun a ρ1 => match (pkO ρ1 a).bind g with
  | some c => .ok (.fz c) ρ1
  | none => .bad
theorem sndE_b1 {r : List V → Hp → VK → Prop} {g : O → Option PyData} {ta : TE} {fa : FP} (hg : BiS K r g) (ha : SndP K W ta fa) : SndE K W (tCB r (tCons ta tNil)) (eB1 g fa) := by
  refine snd_one (r := fun x H Q => r [x] H Q) ha fun x a σ ρ S H A B w e ra => ?_
  cases h : (pkO ρ a).bind g with
  | none => exact True.intro
  | some c =>
    obtain ⟨o, h1, h2⟩ := Option.bind_eq_some_iff.mp h
    obtain ⟨B', q⟩ := ra o h1
    exact fun Q k => hg x S H o B' c w.sub q h2 Q fun v hv => fzEnd w e (hv K S) k
def lenO : O → Option PyData
  | .fz (.list xs) => some (.int xs.length)
  | .fz (.tuple xs) => some (.int xs.length)
  | .fz (.str z) => if z.length ≤ sizeLine then some (.int z.length) else none
  | .lst xs => some (.int xs.length)
  | _ => none
theorem ors_len {vs : List V} {os : List O} (r : ORs K S H vs os B) : vs.length = os.length := argAt_len (σ := []) (ls := []) r
theorem biS_len : BiS K (fun xs H Q => ∃ x n, xs = [x] ∧ LenV K x H n ∧ Q (.int n) H) lenO := by
  intro x S H o B c sub q h Q k
  cases q with
  | fz q z =>
    cases q with
    | lst s r => cases h; exact ⟨_, _, rfl, .inl ⟨_, sqL_mono sub s, (dpall_len r).symm⟩, k _ (Sc.int _)⟩
    | tup s r => cases h; exact ⟨_, _, rfl, .inr ⟨_, sqT_mono sub s, (dpall_len r).symm⟩, k _ (Sc.int _)⟩
    | str z =>
      have h : (if z.length ≤ sizeLine then some (PyData.int z.length) else none) = some c := h
      by_cases hz : z.length ≤ sizeLine
      · rw [if_pos hz] at h; cases h; exact ⟨_, _, rfl, ⟨hz, rfl⟩, k _ (Sc.int _)⟩
      · rw [if_neg hz] at h; cases h
    | _ => cases h
  | raw z => cases h
  | lst e r z => cases h; exact ⟨_, _, rfl, .inl ⟨_, SqL.of e, (ors_len r).symm⟩, k _ (Sc.int _)⟩
def intsD : List PyData → Option (List Int)
  | [] => some []
  | .int i :: ds => (intsD ds).map fun ns => i :: ns
  | _ :: _ => none
def bolsD : List PyData → Option (List Bool)
  | [] => some []
  | .bool b :: ds => (bolsD ds).map fun bs => b :: bs
  | _ :: _ => none
theorem dpall_ints : ∀ {vs : List V} {ds : List PyData} {ns : List Int}, DpAll K S vs ds → intsD ds = some ns → vs = ns.map V.int
  | _, _, _, .nil, h => by cases h; rfl
  | _, _, _, .cons q r, h => by
    cases q with
    | int i =>
      obtain ⟨ns', e1, e2⟩ := Option.map_eq_some_iff.mp (show (intsD _).map _ = some _ from h)
      subst e2
      rw [dpall_ints r e1]; rfl
    | _ => cases h
theorem dpall_bols : ∀ {vs : List V} {ds : List PyData} {ns : List Bool}, DpAll K S vs ds → bolsD ds = some ns → vs = ns.map V.bl
  | _, _, _, .nil, h => by cases h; rfl
  | _, _, _, .cons q r, h => by
    cases q with
    | bl i =>
      obtain ⟨ns', e1, e2⟩ := Option.map_eq_some_iff.mp (show (bolsD _).map _ = some _ from h)
      subst e2
      rw [dpall_bols r e1]; rfl
    | _ => cases h
def lstI (o : O) : Option (List PyData) := match itemsO o with
  | some (true, ds) => some ds
  | _ => none
theorem or_lst {x : V} {o : O} {ds : List PyData} (sub : ∀ a u, S a = some u → H a = some u) (q : OR K S H x o B) (h : lstI o = some ds) : ∃ a vs, x = .ref a ∧ SqL K H a vs ∧ DpAll K S vs ds := by
  unfold lstI at h
  cases e : itemsO o with
  | none => rw [e] at h; cases h
  | some p =>
    obtain ⟨l, ds'⟩ := p
    rw [e] at h
    cases l with
    | false => cases h
    | true => cases h; exact or_items sub q e
def sumO (o : O) : Option PyData := ((lstI o).bind intsD).map fun ns => .int ns.sum
def allO (o : O) : Option PyData := ((lstI o).bind bolsD).map fun bs => .bool (bs.all id)
def anyO (o : O) : Option PyData := ((lstI o).bind bolsD).map fun bs => .bool (bs.any id)
theorem biS_sum : BiS K (rSum K) sumO := by
  intro x S H o B c sub q h Q k
  obtain ⟨ns, e1, e2⟩ := Option.map_eq_some_iff.mp h
  obtain ⟨ds, e3, e4⟩ := Option.bind_eq_some_iff.mp e1
  obtain ⟨a, vs, ev, sq, da⟩ := or_lst sub q e3
  subst e2
  rw [dpall_ints da e4] at sq
  exact ⟨a, ns, by rw [ev], sq, k _ (Sc.int _)⟩
theorem biS_all : BiS K (rAll K) allO := by
  intro x S H o B c sub q h Q k
  obtain ⟨ns, e1, e2⟩ := Option.map_eq_some_iff.mp h
  obtain ⟨ds, e3, e4⟩ := Option.bind_eq_some_iff.mp e1
  obtain ⟨a, vs, ev, sq, da⟩ := or_lst sub q e3
  subst e2
  rw [dpall_bols da e4] at sq
  exact ⟨a, ns, by rw [ev], sq, k _ (Sc.bl _)⟩
theorem biS_any : BiS K (rAny K) anyO := by
  intro x S H o B c sub q h Q k
  obtain ⟨ns, e1, e2⟩ := Option.map_eq_some_iff.mp h
  obtain ⟨ds, e3, e4⟩ := Option.bind_eq_some_iff.mp e1
  obtain ⟨a, vs, ev, sq, da⟩ := or_lst sub q e3
  subst e2
  rw [dpall_bols da e4] at sq
  exact ⟨a, ns, by rw [ev], sq, k _ (Sc.bl _)⟩
def absO : O → Option PyData
  | .fz (.int i) => some (.int (if i < 0 then -i else i))
  | _ => none
def intO : O → Option PyData
  | .fz (.int i) => some (.int i)
  | .fz (.bool b) => some (.int (if b then 1 else 0))
  | _ => none
theorem biS_abs : BiS K (fun xs H Q => ∃ i, xs = [.int i] ∧ Q (.int (if i < 0 then -i else i)) H) absO := by
  intro x S H o B c sub q h Q k
  cases q with
  | fz q z =>
    cases q with
    | int i => cases h; exact ⟨i, rfl, k _ (Sc.int _)⟩
    | _ => cases h
  | _ => cases h
theorem biS_int : BiS K (fun xs H Q => (∃ i, xs = [.int i] ∧ Q (.int i) H) ∨ ∃ k, xs = [.bl k] ∧ Q (.int (if k then 1 else 0)) H) intO := by
  intro x S H o B c sub q h Q k
  cases q with
  | fz q z =>
    cases q with
    | int i => cases h; exact .inl ⟨i, rfl, k _ (Sc.int _)⟩
    | bl b => cases h; exact .inr ⟨b, rfl, k _ (Sc.int _)⟩
    | _ => cases h
  | _ => cases h
/-! ### isinstance(x, T) of a built-in class -/
def tyO : O → Option String
  | .fz .none => some "NoneType"
  | .fz (.bool _) => some "bool"
  | .fz (.int _) => some "int"
  | .fz (.str _) => some "str"
  | .fz (.list _) => some "list"
  | .fz (.tuple _) => some "tuple"
  | .lst _ => some "list"
  | _ => none
def isiO (n : String) (o : O) : Option PyData := ((tyO o).bind fun t => kitB t n).map PyData.bool
theorem tyx_of {x : V} {o : O} {t : String} (sub : ∀ a u, S a = some u → H a = some u) (q : OR K S H x o B) (h : tyO o = some t) : TyX K H x (.type t) := by
  cases q with
  | fz q z =>
    cases q with
    | non => cases h; exact .base .non
    | bl b => cases h; exact .base (.bl b)
    | int i => cases h; exact .base (.int i)
    | str y => cases h; exact .base (.str y)
    | lst s r =>
      cases h
      rcases s with (s | ⟨o, s⟩) | ⟨o, its, n, s, c, _⟩
      · exact .base (.lst (sub _ _ s))
      · exact .base (.frz (sub _ _ s))
      · exact .kList s c
    | tup s r =>
      cases h
      rcases s with (s | ⟨o, s⟩) | ⟨o, its, n, s, c, _⟩
      · exact .base (.tup (sub _ _ s))
      · exact .fTuple (sub _ _ s)
      · exact .kTuple s c
  | raw z => cases h
  | lst e r z => cases h; exact .base (.lst e)
def eIsi (n : String) (fa : FP) : FE := eB1 (isiO n) fa
theorem sndE_isi {n : String} {ta : TE} {fa : FP} (ha : SndP K W ta fa) : SndE K W (tCB (rIsi K) (tCons ta (tCons (tC (.ty n)) tNil))) (eIsi n fa) := by
  refine snd_one (r := fun x H Q => rIsi K [x, .ty n] H Q) ha fun x a σ ρ S H A B w e ra => ?_
  cases h : (pkO ρ a).bind (isiO n) with
  | none => exact True.intro
  | some c =>
    obtain ⟨o, h1, h2⟩ := Option.bind_eq_some_iff.mp h
    obtain ⟨B', q⟩ := ra o h1
    obtain ⟨b, h3, h4⟩ := Option.map_eq_some_iff.mp h2
    obtain ⟨t, h5, h6⟩ := Option.bind_eq_some_iff.mp h3
    subst h4
    exact fun Q k => ⟨x, .ty n, .type t, .type n, b, rfl, .ty n, tyx_of w.sub q h5, kit_ty h6, fzEnd w e (.bl b) k⟩
/-! ### list(x), tuple(x) -/
def eList (fa : FP) : FE := fun ρ => (fa ρ).bind fun a ρ1 => match (pkO ρ1 a).bind itemsO with
  | some (_, ds) => .ok (.lst (ds.map O.fz)) ρ1
  | none => .bad
theorem sqB_or {a : Addr} {vs : List V} {l : Bool} (h : SqB K H a vs l) : SqL K H a vs ∨ SqT K H a vs := by cases l; exact .inr h; exact .inl h
theorem sndE_list {ta : TE} {fa : FP} (ha : SndP K W ta fa) : SndE K W (tCB (fun xs H Q => ∃ p ys, xs = [.ref p] ∧ (SqL K H p ys ∨ SqT K H p ys) ∧ ∀ l, H l = none → Q (.ref l) (upd H l (.lst ys))) (tCons ta tNil)) (eList fa) := by
  refine snd_one (r := fun (x : V) (H : Hp) (Q : VK) => ∃ p ys, [x] = [V.ref p] ∧ (SqL K H p ys ∨ SqT K H p ys) ∧ ∀ l, H l = none → Q (.ref l) (upd H l (.lst ys))) ha fun x a σ ρ S H A B w e ra => ?_
  cases h : (pkO ρ a).bind itemsO with
  | none => exact True.intro
  | some c =>
    obtain ⟨l, ds⟩ := c
    obtain ⟨o, h1, h2⟩ := Option.bind_eq_some_iff.mp h
    obtain ⟨B', q⟩ := ra o h1
    obtain ⟨p, vs, ev, sq, da⟩ := or_items w.sub q h2
    exact fun Q k => ⟨p, vs, by rw [ev], sqB_or sq, fun l hl => lstFz w e da hl k⟩
def eTuple (fa : FP) : FE := fun ρ => (fa ρ).bind fun a ρ1 => match (pkO ρ1 a).bind itemsO with
  | some (_, ds) => .ok (.fz (.tuple ds)) ρ1
  | none => .bad
theorem items_tup {x : V} {o : O} {ds : List PyData} (q : OR K S H x o B) (h : itemsO o = some (false, ds)) : Dp K S x (.tuple ds) := by
  cases q with
  | fz q z =>
    cases q with
    | tup s r => cases h; exact .tup s r
    | _ => cases h
  | raw z => cases h
  | lst e r z =>
    obtain ⟨_, _, e2⟩ := Option.map_eq_some_iff.mp (show (allFz _).map _ = some _ from h)
    cases e2
theorem sndE_tuple {ta : TE} {fa : FP} (ha : SndP K W ta fa) : SndE K W (tCB (fun xs H Q => ∃ p ys, xs = [.ref p] ∧ ((SqL K H p ys ∧ ∀ l, H l = none → Q (.ref l) (upd H l (.tup ys))) ∨ (SqT K H p ys ∧ Q (.ref p) H))) (tCons ta tNil)) (eTuple fa) := by
  refine snd_one (r := fun (x : V) (H : Hp) (Q : VK) => ∃ p ys, [x] = [V.ref p] ∧ ((SqL K H p ys ∧ ∀ l, H l = none → Q (.ref l) (upd H l (.tup ys))) ∨ (SqT K H p ys ∧ Q (.ref p) H))) ha fun x a σ ρ S H A B w e ra => ?_
  cases h : (pkO ρ a).bind itemsO with
  | none => exact True.intro
  | some c =>
    obtain ⟨l, ds⟩ := c
    obtain ⟨o, h1, h2⟩ := Option.bind_eq_some_iff.mp h
    obtain ⟨B', q⟩ := ra o h1
    obtain ⟨p, vs, ev, sq, da⟩ := or_items w.sub q h2
    intro Q k
    refine ⟨p, vs, by rw [ev], ?_⟩
    cases l with
    | true => exact .inl ⟨sq, fun l hl => tupFz w e da hl k⟩
    | false => exact .inr ⟨sq, by rw [← ev]; exact fzEnd w e (items_tup q h2) k⟩
/-! ### xs + ys, xs * n of lists -/
def rCatS (K : PySem.W.Frag) : R2 := fun x y H Q => ∃ l b xs zs, x = .ref l ∧ y = .ref b ∧ SqL K H l xs ∧ SqL K H b zs ∧ xs.length + zs.length ≤ sizeLine ∧ ∀ p, H p = none → Q (.ref p) (upd H p (.lst (xs ++ zs)))
theorem op_catS {X : Cx} : OpR X (binaryOp .Add) (rCatS X.K) := by
  intro pins s σ H x y v u Q I rx ry h
  obtain ⟨l, b, xs, zs, rfl, rfl, h1, h2, hz, q⟩ := h
  cases rx
  cases ry
  obtain ⟨i1, r1, ⟨⟨c1, d1, t1, s1⟩, n1, e1, k1, k2, k3⟩, _⟩ := I.list h1
  obtain ⟨i2, r2, ⟨⟨c2, d2, t2, s2⟩, n2, e2, j1, j2, j3⟩, _⟩ := I.list h2
  dsimp only at k1 k2 k3 j1 j2 j3
  subst k1 k2 k3 j1 j2 j3
  have hs : i1.toArray.size + i2.toArray.size ≤ sizeLine := by
    have a := r1.length
    have b := r2.length
    rw [List.size_toArray, List.size_toArray]; omega
  refine concat_meets ⟨_, e1, rfl⟩ ⟨_, e2, rfl⟩ noFill_list_add seq_list_add PySem.F.slot_list_add PySem.F.entry_list_add (PySem.F.args_list_add_2 _ _) (PyProof.Rows.list_addW l b i1.toArray i2.toArray n1 n2 none none s1 s2 hs) ⟨e1, e2, ?_⟩
  have ea : i1.toArray ++ i2.toArray = (i1 ++ i2).toArray := by simp
  rw [ea]
  exact ⟨.ref _, _, I.lnew (t' := s.toks) (r1.append r2) (by rw [List.length_append]; exact hz), rfl, q _ I.fresh⟩
theorem dpall_app : ∀ {vs ws : List V} {ds es : List PyData}, DpAll K S vs ds → DpAll K S ws es → DpAll K S (vs ++ ws) (ds ++ es)
  | _, _, _, _, .nil, h => h
  | _, _, _, _, .cons q r, h => .cons q (dpall_app r h)
theorem dpall_rep {vs : List V} {ds : List PyData} (h : DpAll K S vs ds) : ∀ n : Nat, DpAll K S (List.replicate n vs).flatten (List.replicate n ds).flatten
  | 0 => .nil
  | n + 1 => by
    rw [List.replicate_succ, List.replicate_succ, List.flatten_cons, List.flatten_cons]
    exact dpall_app h (dpall_rep h n)
def eCat (fa fb : FP) : FE := fun ρ => (fa ρ).bind fun a ρ1 => (fb ρ1).bind fun b ρ2 => match (pkO ρ2 a).bind lstI, (pkO ρ2 b).bind lstI with
  | some ds, some es => if ds.length + es.length ≤ sizeLine then .ok (.lst ((ds ++ es).map O.fz)) ρ2 else .bad
  | _, _ => .bad
theorem sndE_cat {ta tb : TE} {fa fb : FP} (ha : SndP K W ta fa) (hb : SndP K W tb fb) : SndE K W (tOp (rCatS K) ta tb) (eCat fa fb) := by
  refine snd_two (r := rCatS K) ha hb fun x y a b σ ρ S H A B w e ra rb => ?_
  cases h1 : (pkO ρ a).bind lstI with
  | none => exact True.intro
  | some ds =>
    cases h2 : (pkO ρ b).bind lstI with
    | none => exact True.intro
    | some es =>
      show OutOk K W (ROr K) _ σ S H (A + B) (if ds.length + es.length ≤ sizeLine then Out.ok (.lst ((ds ++ es).map O.fz)) ρ else .bad)
      by_cases hz : ds.length + es.length ≤ sizeLine
      · rw [if_pos hz]
        obtain ⟨o1, a1, a2⟩ := Option.bind_eq_some_iff.mp h1
        obtain ⟨o2, b1, b2⟩ := Option.bind_eq_some_iff.mp h2
        obtain ⟨B1, q1⟩ := ra o1 a1
        obtain ⟨B2, q2⟩ := rb o2 b1
        obtain ⟨p, vs, ev, sq, da⟩ := or_lst w.sub q1 a2
        obtain ⟨p2, vs2, ev2, sq2, da2⟩ := or_lst w.sub q2 b2
        exact fun Q k => ⟨p, p2, vs, vs2, ev, ev2, sq, sq2, by rw [dpall_len da, dpall_len da2]; exact hz, fun l hl => lstFz w e (dpall_app da da2) hl k⟩
      · rw [if_neg hz]; exact True.intro
def ownL : O → Option (List PyData)
  | .lst xs => allFz xs
  | _ => none
def eRep (fa fb : FP) : FE := fun ρ => (fa ρ).bind fun a ρ1 => (fb ρ1).bind fun b ρ2 => match (pkO ρ2 a).bind ownL, pkD ρ2 b with
  | some ds, some (.int n) => if -(2 ^ 63) ≤ n ∧ n < 2 ^ 63 ∧ ds.length * n.toNat ≤ sizeLine then .ok (.lst ((List.replicate n.toNat ds).flatten.map O.fz)) ρ2 else .bad
  | _, _ => .bad
theorem sndE_rep {ta tb : TE} {fa fb : FP} (ha : SndP K W ta fa) (hb : SndP K W tb fb) : SndE K W (tOp rRep ta tb) (eRep fa fb) := by
  refine snd_two (r := rRep) ha hb fun x y a b σ ρ S H A B w e ra rb => ?_
  cases h1 : (pkO ρ a).bind ownL with
  | none => exact True.intro
  | some ds =>
    cases h2 : pkD ρ b with
    | none => exact True.intro
    | some d =>
      cases d with
      | int n =>
        show OutOk K W (ROr K) _ σ S H (A + B) (if -(2 ^ 63) ≤ n ∧ n < 2 ^ 63 ∧ ds.length * n.toNat ≤ sizeLine then Out.ok (.lst ((List.replicate n.toNat ds).flatten.map O.fz)) ρ else .bad)
        by_cases hz : -(2 ^ 63) ≤ n ∧ n < 2 ^ 63 ∧ ds.length * n.toNat ≤ sizeLine
        · rw [if_pos hz]
          obtain ⟨o1, a1, a2⟩ := Option.bind_eq_some_iff.mp h1
          obtain ⟨B1, q1⟩ := ra o1 a1
          cases q1 with
          | lst eh r z =>
            have da := (ors_allFz r a2).1
            exact fun Q k => ⟨_, n, _, rfl, dp_int (pkD_or w.sub rb h2), eh, hz.1, hz.2.1, by rw [dpall_len da]; exact hz.2.2, fun l hl => lstFz w e (dpall_rep da _) hl k⟩
          | fz _ _ => cases a2
          | raw _ => cases a2
        · rw [if_neg hz]; exact True.intro
      | _ => exact True.intro
/-! ### t * n of tuples, 1 ≤ n -/
theorem tuple_mul1 (l : Addr) (items : Array Value) (n : Nat) (dd : Option Addr) (sl : Array (Option Value)) (u : Tok) :
    Meets (Builtin.«tuple.__mul__» ⟨[.ref l, .int 1 u], []⟩) (fun _ R s => s.heap.get? l = some { cls := .type "tuple", dict := dd, data := .seq items n, slots := sl } ∧ R (.ok (.ret (Value.ref l))) s) :=
  .of_wp fun prog w A R s h => by
    obtain ⟨hp, g, d, tk, os⟩ := s
    obtain ⟨hl, h⟩ := h
    have f1 := AutoSeq1.idx_int
    have c1 : (items.isEmpty || (1 : Int) == 1) = true := by simp
    wp_walk using wpAny_loadPart' hl
    repeat (first
      | (refine wpAny_ite_true (decide_eq_true c1) ?_; wp_walk using wpAny_loadPart' hl))
    exact ⟨_, rfl, h⟩
end
end Ls

namespace Ls
open PySem L2
/-! ### t * n -/
def rRep1 (K : PySem.W.Frag) : R2 := fun x y H Q => ∃ l xs, x = .ref l ∧ y = .int 1 ∧ SqT K H l xs ∧ Q (.ref l) H
theorem op_rep1 {X : Cx} : OpR X (binaryOp .Mult) (rRep1 X.K) := by
  intro pins s σ H x y v u Q I rx ry h
  obtain ⟨l, xs, rfl, rfl, hT, q⟩ := h
  cases rx
  obtain ⟨t, rfl⟩ := ry
  obtain ⟨its, r, ⟨⟨cls, dd, data, sl⟩, ho, hc, n, hd⟩, hs⟩ := I.tuple hT
  simp only at hc hd
  subst hc hd
  refine wpAny_binaryOp_repeat_ref (T := "tuple") (U := "int") (by decide) ⟨_, ho, rfl⟩ (fun s' => typeIs_int s' 1 t) noFill_tuple_mul F.fills_int_mul F.slot_int_rmul repeat_tuple F.slot_int_index.lookup
    (call_meets F.slot_int_rmul (typeIs_int s 1 t) F.entry_int_rmul (F.args_int_rmul_2 _ _) (int_rmul_tuple 1 t l its.toArray n dd sl)
      ⟨ho, rfl, ⟨_, ho, rfl⟩, call_meets F.slot_tuple_mul ⟨_, ho, rfl⟩ F.entry_tuple_mul (F.args_tuple_mul_2 _ _) (tuple_mul1 l its.toArray n dd sl t) ⟨ho, ?_⟩⟩)
  exact ⟨.ref l, H, I, rfl, q⟩
def rRepX (K : PySem.W.Frag) : R2 := fun x y H Q => rRep1 K x y H Q ∨ rRepT K x y H Q
theorem op_repX {X : Cx} : OpR X (binaryOp .Mult) (rRepX X.K) := fun pins s σ H x y v u Q I rx ry h => h.elim (fun z => op_rep1 pins s σ H x y v u Q I rx ry z) fun z => op_repT pins s σ H x y v u Q I rx ry z
def tupI (o : O) : Option (List PyData) := match itemsO o with
  | some (false, ds) => some ds
  | _ => none
section
variable {K : PySem.W.Frag} {W : WX} {S H : Hp} {A B C : Fp} {σ : St} {ρ : En}
theorem or_tup {x : V} {o : O} {ds : List PyData} (sub : ∀ a u, S a = some u → H a = some u) (q : OR K S H x o B) (h : tupI o = some ds) : Dp K S x (.tuple ds) ∧ ∃ a vs, x = .ref a ∧ SqT K H a vs ∧ DpAll K S vs ds := by
  unfold tupI at h
  cases e : itemsO o with
  | none => rw [e] at h; cases h
  | some p =>
    obtain ⟨l, ds'⟩ := p
    rw [e] at h
    cases l with
    | true => cases h
    | false => cases h; exact ⟨items_tup q e, or_items sub q e⟩
def eRepT (fa fb : FP) : FE := fun ρ => (fa ρ).bind fun a ρ1 => (fb ρ1).bind fun b ρ2 => match (pkO ρ2 a).bind tupI, pkD ρ2 b with
  | some ds, some (.int n) => if ds ≠ [] ∧ 1 ≤ n ∧ n ≤ 1000 ∧ ds.length ≤ 1000 then .ok (.fz (.tuple (List.replicate n.toNat ds).flatten)) ρ2 else .bad
  | _, _ => .bad
theorem sndE_repT {ta tb : TE} {fa fb : FP} (ha : SndP K W ta fa) (hb : SndP K W tb fb) : SndE K W (tOp (rRepX K) ta tb) (eRepT fa fb) := by
  refine snd_two (r := rRepX K) ha hb fun x y a b σ ρ S H A B w e ra rb => ?_
  cases h1 : (pkO ρ a).bind tupI with
  | none => exact True.intro
  | some ds =>
    cases h2 : pkD ρ b with
    | none => exact True.intro
    | some d =>
      cases d with
      | int n =>
        show OutOk K W (ROr K) _ σ S H (A + B) (if ds ≠ [] ∧ 1 ≤ n ∧ n ≤ 1000 ∧ ds.length ≤ 1000 then Out.ok (.fz (.tuple (List.replicate n.toNat ds).flatten)) ρ else .bad)
        by_cases hz : ds ≠ [] ∧ 1 ≤ n ∧ n ≤ 1000 ∧ ds.length ≤ 1000
        · rw [if_pos hz]
          obtain ⟨o1, a1, a2⟩ := Option.bind_eq_some_iff.mp h1
          obtain ⟨B1, q1⟩ := ra o1 a1
          obtain ⟨hd, p, vs, ev, sq, da⟩ := or_tup w.sub q1 a2
          have hy := dp_int (pkD_or w.sub rb h2)
          intro Q k
          by_cases h1 : n = 1
          · subst h1
            refine .inl ⟨p, vs, ev, hy, sq, ?_⟩
            have e1 : (List.replicate (1 : Int).toNat ds).flatten = ds := by simp
            rw [e1] at k
            rw [← ev]
            exact fzEnd w e hd k
          · refine .inr ⟨p, n, vs, ev, hy, sq, fun z => hz.1 ?_, by omega, hz.2.2.1, by rw [dpall_len da]; exact hz.2.2.2, fun l hl => tupFz w e (dpall_rep da _) hl k⟩
            have := dpall_len da
            rw [z] at this
            exact List.eq_nil_of_length_eq_zero this.symm
        · rw [if_neg hz]; exact True.intro
      | _ => exact True.intro
/-! ### t + u of tuples, t not empty -/
def eCatT (fa fb : FP) : FE := fun ρ => (fa ρ).bind fun a ρ1 => (fb ρ1).bind fun b ρ2 => match (pkO ρ2 a).bind tupI, (pkO ρ2 b).bind tupI with
  | some ds, some es => if ds ≠ [] ∧ ds.length + es.length ≤ sizeLine then .ok (.fz (.tuple (ds ++ es))) ρ2 else .bad
  | _, _ => .bad
theorem sndE_catT {ta tb : TE} {fa fb : FP} (ha : SndP K W ta fa) (hb : SndP K W tb fb) : SndE K W (tOp (rCatT K) ta tb) (eCatT fa fb) := by
  refine snd_two (r := rCatT K) ha hb fun x y a b σ ρ S H A B w e ra rb => ?_
  cases h1 : (pkO ρ a).bind tupI with
  | none => exact True.intro
  | some ds =>
    cases h2 : (pkO ρ b).bind tupI with
    | none => exact True.intro
    | some es =>
      show OutOk K W (ROr K) _ σ S H (A + B) (if ds ≠ [] ∧ ds.length + es.length ≤ sizeLine then Out.ok (.fz (.tuple (ds ++ es))) ρ else .bad)
      by_cases hz : ds ≠ [] ∧ ds.length + es.length ≤ sizeLine
      · rw [if_pos hz]
        obtain ⟨o1, a1, a2⟩ := Option.bind_eq_some_iff.mp h1
        obtain ⟨o2, b1, b2⟩ := Option.bind_eq_some_iff.mp h2
        obtain ⟨B1, q1⟩ := ra o1 a1
        obtain ⟨B2, q2⟩ := rb o2 b1
        obtain ⟨hd, p, vs, ev, sq, da⟩ := or_tup w.sub q1 a2
        obtain ⟨hd2, p2, vs2, ev2, sq2, da2⟩ := or_tup w.sub q2 b2
        have nil : ∀ {vs : List V} {ds : List PyData}, DpAll K S vs ds → vs = [] → ds = [] := fun h z => List.eq_nil_of_length_eq_zero (by rw [← dpall_len h, z]; rfl)
        intro Q k
        refine ⟨p, p2, vs, vs2, ev, ev2, sq, sq2, fun z => hz.1 (nil da z), by rw [dpall_len da, dpall_len da2]; exact hz.2, fun z => ?_, fun _ l hl => tupFz w e (dpall_app da da2) hl k⟩
        rw [nil da2 z, List.append_nil] at k
        rw [← ev]
        exact fzEnd w e hd k
      · rw [if_neg hz]; exact True.intro
/-! ### slices -/
def cutG {α : Type} (xs : List α) (lo hi : Option Int) : List α := (xs.drop (HT.sIx xs.length 0 lo)).take (HT.sIx xs.length xs.length hi - HT.sIx xs.length 0 lo)
theorem dpall_drop : ∀ {vs : List V} {ds : List PyData} (n : Nat), DpAll K S vs ds → DpAll K S (vs.drop n) (ds.drop n)
  | _, _, 0, h => h
  | _, _, _ + 1, .nil => .nil
  | _, _, n + 1, .cons _ r => dpall_drop n r
theorem dpall_take : ∀ {vs : List V} {ds : List PyData} (n : Nat), DpAll K S vs ds → DpAll K S (vs.take n) (ds.take n)
  | _, _, 0, h => .nil
  | _, _, _ + 1, .nil => .nil
  | _, _, n + 1, .cons q r => .cons q (dpall_take n r)
theorem dpall_cut {vs : List V} {ds : List PyData} (h : DpAll K S vs ds) (lo hi : Option Int) : DpAll K S (cutV vs lo hi) (cutG ds lo hi) := by
  unfold cutV cutG
  rw [dpall_len h]
  exact dpall_take _ (dpall_drop _ h)
abbrev FN := En → Out (Option Int)
abbrev SndN (K : PySem.W.Frag) (W : WX) (t : TO) (f : FN) : Prop := Snd K W (REq (Option Int)) t f
def nNo : FN := fun ρ => .ok none ρ
def nE (f : FP) : FN := fun ρ => (f ρ).bind fun p ρ1 => match pkD ρ1 p with
  | some (.int i) => .ok (some i) ρ1
  | _ => .bad
theorem sndN_no : SndN K W tNoPart nNo := by
  intro σ ρ S H A w e Q k
  exact k none S H A Fp.z (by rw [addz]; exact w) e ⟨rfl, fun _ => rfl⟩ (by rw [addz]; exact Tr.refl)
theorem sndN_e {t : TE} {f : FP} (h : SndP K W t f) : SndN K W (tPart t) (nE f) := by
  refine snd_one (r := fun x H Q => ∃ i, x = .int i ∧ Q (some i) H) h fun x a σ ρ S H A B w e ra => ?_
  cases h1 : pkD ρ a with
  | none => exact True.intro
  | some d =>
    cases d with
    | int i => exact fun Q k => ⟨i, dp_int (pkD_or w.sub ra h1), k (some i) S H A Fp.z (by rw [addz]; exact w.less le1) e ⟨rfl, fun _ => rfl⟩ (by rw [addz]; exact Tr.refl.less le1)⟩
    | _ => exact True.intro
def slO (o : O) (lo hi : Option Int) : Option O := match o with
  | .fz (.str z) => if z.length ≤ sizeLine then some (.fz (.str (cutS z lo hi))) else none
  | o => (match itemsO o with
    | some (true, ds) => some (.lst ((cutG ds lo hi).map O.fz))
    | some (false, ds) => if HT.sIx ds.length 0 lo = 0 ∧ HT.sIx ds.length ds.length hi = ds.length then none else some (.fz (.tuple (cutG ds lo hi)))
    | none => none)
def eSl (fa : FP) (fl fh : FN) : FE := fun ρ => (fa ρ).bind fun a ρ1 => (fl ρ1).bind fun l ρ2 => (fh ρ2).bind fun h ρ3 => match (pkO ρ3 a).bind fun o => slO o l h with
  | some o => .ok o ρ3
  | none => .bad
def rSlX (K : PySem.W.Frag) : V → Option Int → Option Int → Hp → VK → Prop := fun x lo hi H Q => rSlL K x lo hi H Q ∨ (rSlT K x lo hi H Q ∨ (∃ z, x = .str z ∧ z.length ≤ sizeLine ∧ Q (.str (cutS z lo hi)) H))
theorem sl_end {x : V} {o c : O} {lo hi : Option Int} {Q : VK} (w : WF S H (A + B)) (e : ER K S H σ ρ A) (q : ∃ B', OR K S H x o B') (h : slO o lo hi = some c) (k : PostV K (ROr K) σ S H (A + B) c ρ Q) : rSlX K x lo hi H Q := by
  obtain ⟨B', q⟩ := q
  by_cases hs : ∃ z, o = .fz (.str z)
  · obtain ⟨z, rfl⟩ := hs
    have h : (if z.length ≤ sizeLine then some (O.fz (.str (cutS z lo hi))) else none) = some c := h
    by_cases hz : z.length ≤ sizeLine
    · rw [if_pos hz] at h
      cases h
      cases q with
      | fz q _ =>
        cases q
        exact .inr (.inr ⟨z, rfl, hz, fzEnd w e (.str _) k⟩)
    · rw [if_neg hz] at h; cases h
  · have h : (match itemsO o with
        | some (true, ds) => some (O.lst ((cutG ds lo hi).map O.fz))
        | some (false, ds) => if HT.sIx ds.length 0 lo = 0 ∧ HT.sIx ds.length ds.length hi = ds.length then none else some (.fz (.tuple (cutG ds lo hi)))
        | none => none) = some c := by
      rw [← h]
      cases o with
      | fz d => cases d <;> first | rfl | exact absurd ⟨_, rfl⟩ hs
      | _ => rfl
    cases hi' : itemsO o with
    | none => rw [hi'] at h; cases h
    | some p =>
      obtain ⟨l, ds⟩ := p
      obtain ⟨a, vs, ev, sq, da⟩ := or_items w.sub q hi'
      rw [hi'] at h
      cases l with
      | true =>
        cases h
        exact .inl ⟨a, vs, ev, sq, fun p hp => lstFz w e (dpall_cut da lo hi) hp k⟩
      | false =>
        have h : (if HT.sIx ds.length 0 lo = 0 ∧ HT.sIx ds.length ds.length hi = ds.length then none else some (O.fz (.tuple (cutG ds lo hi)))) = some c := h
        by_cases hz : HT.sIx ds.length 0 lo = 0 ∧ HT.sIx ds.length ds.length hi = ds.length
        · rw [if_pos hz] at h; cases h
        · rw [if_neg hz] at h
          cases h
          exact .inr (.inl ⟨a, vs, ev, sq, by rw [dpall_len da]; exact hz, fun p hp => tupFz w e (dpall_cut da lo hi) hp k⟩)
theorem sndE_sl {te : TE} {tl th : TO} {fa : FP} {fl fh : FN} (ha : SndP K W te fa) (hl : SndN K W tl fl) (hh : SndN K W th fh) : SndE K W (tSl (rSlX K) te tl th) (eSl fa fl fh) := by
  refine snd_bind (u := fun x σ H Q => tl σ H fun l H2 => th σ H2 fun u H3 => rSlX K x l u H3 Q) ha fun x a σ ρ S H A B w e ra => ?_
  have h2 := snd_beside hl w e
  show OutOk K W (ROr K) _ σ S H (A + B) ((fl ρ).bind _)
  cases hf : fl ρ with
  | bad => exact True.intro
  | exc x' ρ' =>
    rw [hf] at h2
    exact fun Q k => h2 _ k
  | ok l ρ2 =>
    rw [hf] at h2
    show OutOk K W (ROr K) _ σ S H (A + B) ((fh ρ2).bind _)
    cases hf3 : fh ρ2 with
    | bad => exact True.intro
    | exc x' ρ' =>
      intro Q k
      refine h2 _ fun l' S' H' A' C w' e' rb t' sub kp => ?_
      have w2 : WF S' H' (A' + B) := w'.less fun b => by simp only [add_at]; omega
      have h3 := snd_beside hh w2 e'
      rw [hf3] at h3
      have t2 : Tr S H (A + B) S' H' (A' + B) := t'.less fun b => by simp only [add_at]; omega
      exact h3 _ fun cls d S4 H4 A4 w4 e4 x4 t4 => k cls d S4 H4 A4 w4 e4 x4 (t2.trans t4)
    | ok u ρ3 =>
      show OutOk K W (ROr K) _ σ S H (A + B) (match (pkO ρ3 a).bind fun o => slO o l u with
        | some o => Out.ok o ρ3
        | none => .bad)
      cases h3 : (pkO ρ3 a).bind fun o => slO o l u with
      | none => exact True.intro
      | some c =>
        obtain ⟨o, h4, h5⟩ := Option.bind_eq_some_iff.mp h3
        intro Q k
        refine h2 _ fun l' S' H' A' C w' e' rb t' sub kp => ?_
        obtain ⟨rfl, _⟩ := rb
        have w2 : WF S' H' (A' + B) := w'.less fun b => by simp only [add_at]; omega
        have h3' := snd_beside hh w2 e'
        rw [hf3] at h3'
        have t2 : Tr S H (A + B) S' H' (A' + B) := t'.less fun b => by simp only [add_at]; omega
        refine h3' _ fun u' S4 H4 A4 C4 w4 e4 r4 t4 sub4 kp4 => ?_
        obtain ⟨rfl, _⟩ := r4
        have ra' := stays_pk σ S' H' S4 H4 x a B sub4 kp4 (stays_pk σ S H S' H' x a B sub kp ra)
        have w5 : WF S4 H4 (A4 + B) := w4.less fun b => by simp only [add_at]; omega
        refine sl_end w5 e4 (pk_or e4 ra' h4) h5 fun v S6 H6 A6 B6 w6 e6 r6 t6 => k v S6 H6 A6 B6 w6 e6 r6 ((t2.trans (t4.less fun b => by simp only [add_at]; omega)).trans t6)
end
section
variable {X : Cx} {W : WX} {a b : Expr} {fa fb : FP} {pos p : Pos} {x : Str}
theorem ev_cat (ha : PV X W a fa) (hb : PV X W b fb) : EV X W (.BinOp a .Add b pos) (eCat fa fb) := let ⟨_, a1, a2⟩ := ha.ex; let ⟨_, b1, b2⟩ := hb.ex; ⟨_, pe_op op_catS a1 b1, sndE_cat a2 b2⟩
theorem ev_rep (ha : PV X W a fa) (hb : PV X W b fb) : EV X W (.BinOp a .Mult b pos) (eRep fa fb) := let ⟨_, a1, a2⟩ := ha.ex; let ⟨_, b1, b2⟩ := hb.ex; ⟨_, pe_op op_rep a1 b1, sndE_rep a2 b2⟩
theorem ev_repT (ha : PV X W a fa) (hb : PV X W b fb) : EV X W (.BinOp a .Mult b pos) (eRepT fa fb) := let ⟨_, a1, a2⟩ := ha.ex; let ⟨_, b1, b2⟩ := hb.ex; ⟨_, pe_op op_repX a1 b1, sndE_repT a2 b2⟩
theorem ev_catT (ha : PV X W a fa) (hb : PV X W b fb) : EV X W (.BinOp a .Add b pos) (eCatT fa fb) := let ⟨_, a1, a2⟩ := ha.ex; let ⟨_, b1, b2⟩ := hb.ex; ⟨_, pe_op op_catT a1 b1, sndE_catT a2 b2⟩
/-- a part of a slice -/
structure NV (X : Cx) (W : WX) (e : Option Expr) (f : FN) : Prop where
  ex : ∃ t, PO X e t ∧ SndN X.K W t f
theorem nv_no : NV X W none nNo := ⟨_, po_none, sndN_no⟩
theorem nv_e (h : PV X W a fa) : NV X W (some a) (nE fa) := let ⟨_, h1, h2⟩ := h.ex; ⟨_, po_some h1, sndN_e h2⟩
theorem ev_sl {lo hi : Option Expr} {fl fh : FN} {p2 : Pos} (ha : PV X W a fa) (hl : NV X W lo fl) (hh : NV X W hi fh) : EV X W (.Subscript a (.Slice lo hi none p2) pos) (eSl fa fl fh) :=
  let ⟨_, a1, a2⟩ := ha.ex; let ⟨_, l1, l2⟩ := hl.ex; let ⟨_, h1, h2⟩ := hh.ex; ⟨_, pe_slice (sl_list.or (sl_tup.or sl_str)) a1 l1 h1, sndE_sl a2 l2 h2⟩
theorem ev_b1 {id : String} {r : List V → Hp → VK → Prop} {g : O → Option PyData} (hc : CallR X (.builtin id) r) (hg2 : BiS X.K r g) (hg : Gl X x) (hm : X.mg x = none) (hv : bootBuiltins x = some (.builtin id)) (ha : PV X W a fa) (hn : x ≠ "__name__" := by decide) (hdb : (x == ("__debug__" : Str)) = false := by decide)
    (he : starEach [a] X.env = [(false, eval a X.env)] := by rfl) : EV X W (.Call (.Name x p) [a] [] pos) (eB1 g fa) :=
  let ⟨_, a1, a2⟩ := ha.ex; ⟨_, pe_callB hc hg hm hv (pa_cons a1 pa_nil he) hn hdb he, sndE_b1 hg2 a2⟩
theorem ev_t1 {T : String} {r : List V → Hp → VK → Prop} {g : O → Option PyData} (hc : CallR X (.type T) r) (hg2 : BiS X.K r g) (hg : Gl X x) (hm : X.mg x = none) (hv : bootBuiltins x = some (.type T)) (ha : PV X W a fa) (hn : x ≠ "__name__" := by decide) (hdb : (x == ("__debug__" : Str)) = false := by decide)
    (he : starEach [a] X.env = [(false, eval a X.env)] := by rfl) : EV X W (.Call (.Name x p) [a] [] pos) (eB1 g fa) :=
  let ⟨_, a1, a2⟩ := ha.ex; ⟨_, pe_callTy hc hg hm hv (pa_cons a1 pa_nil he) hn hdb he, sndE_b1 hg2 a2⟩
theorem ev_len (hg : Gl X "len") (hm : X.mg "len" = none) (ha : PV X W a fa) (he : starEach [a] X.env = [(false, eval a X.env)] := by rfl) : EV X W (.Call (.Name "len" p) [a] [] pos) (eB1 lenO fa) := ev_b1 call_len biS_len hg hm boot_len ha (he := he)
theorem ev_sum (hc : X.calm = true) (hg : Gl X "sum") (hm : X.mg "sum" = none) (ha : PV X W a fa) (he : starEach [a] X.env = [(false, eval a X.env)] := by rfl) : EV X W (.Call (.Name "sum" p) [a] [] pos) (eB1 sumO fa) := ev_b1 (cr_sum hc) biS_sum hg hm (by decide +kernel) ha (he := he)
theorem ev_all (hc : X.calm = true) (hg : Gl X "all") (hm : X.mg "all" = none) (ha : PV X W a fa) (he : starEach [a] X.env = [(false, eval a X.env)] := by rfl) : EV X W (.Call (.Name "all" p) [a] [] pos) (eB1 allO fa) := ev_b1 (cr_all hc) biS_all hg hm (by decide +kernel) ha (he := he)
theorem ev_any (hc : X.calm = true) (hg : Gl X "any") (hm : X.mg "any" = none) (ha : PV X W a fa) (he : starEach [a] X.env = [(false, eval a X.env)] := by rfl) : EV X W (.Call (.Name "any" p) [a] [] pos) (eB1 anyO fa) := ev_b1 (cr_any hc) biS_any hg hm (by decide +kernel) ha (he := he)
theorem ev_abs (hg : Gl X "abs") (hm : X.mg "abs" = none) (ha : PV X W a fa) (he : starEach [a] X.env = [(false, eval a X.env)] := by rfl) : EV X W (.Call (.Name "abs" p) [a] [] pos) (eB1 absO fa) := ev_b1 call_abs biS_abs hg hm (by decide +kernel) ha (he := he)
theorem ev_intc (hg : Gl X "int") (hm : X.mg "int" = none) (ha : PV X W a fa) (he : starEach [a] X.env = [(false, eval a X.env)] := by rfl) : EV X W (.Call (.Name "int" p) [a] [] pos) (eB1 intO fa) := ev_t1 call_int1 biS_int hg hm (by decide +kernel) ha (he := he)
theorem ev_list (hg : Gl X "list") (hm : X.mg "list" = none) (ha : PV X W a fa) (he : starEach [a] X.env = [(false, eval a X.env)] := by rfl) : EV X W (.Call (.Name "list" p) [a] [] pos) (eList fa) :=
  let ⟨_, a1, a2⟩ := ha.ex; ⟨_, pe_callTy call_list_of hg hm (by decide +kernel) (pa_cons a1 pa_nil he) (he := he), sndE_list a2⟩
theorem ev_tuple (hg : Gl X "tuple") (hm : X.mg "tuple" = none) (ha : PV X W a fa) (he : starEach [a] X.env = [(false, eval a X.env)] := by rfl) : EV X W (.Call (.Name "tuple" p) [a] [] pos) (eTuple fa) :=
  let ⟨_, a1, a2⟩ := ha.ex; ⟨_, pe_callTy call_tuple_of hg hm (by decide +kernel) (pa_cons a1 pa_nil he) (he := he), sndE_tuple a2⟩
theorem ev_isi {T : String} {y : Str} {p2 : Pos} (hg : Gl X "isinstance") (hm : X.mg "isinstance" = none) (hy : Gl X y) (hmy : X.mg y = none) (hv : bootBuiltins y = some (.type T)) (ha : PV X W a fa) (hn : y ≠ "__name__" := by decide) (hdb : (y == ("__debug__" : Str)) = false := by decide)
    (he : starEach [a, .Name y p2] X.env = (false, eval a X.env) :: starEach [.Name y p2] X.env := by rfl) (he2 : starEach [.Name y p2] X.env = [(false, eval (.Name y p2) X.env)] := by rfl) (hpl : (backTo pos (starEach [.Name y p2] X.env)).any (·.1) = false := by rfl) : EV X W (.Call (.Name "isinstance" p) [a, .Name y p2] [] pos) (eIsi T fa) :=
  let ⟨_, a1, a2⟩ := ha.ex; ⟨_, pe_callB call_isi hg hm (by decide +kernel) (pa_cons a1 (pa_cons (pe_bltn (v := .ty T) hy hmy hv rfl hn hdb) pa_nil he2) he) (he := he) (hpl := hpl), sndE_isi a2⟩
end
end Ls

namespace Ls
open PySem L2
/-! ### what is walked: settled items, a slot's list as it stands, a range, pairs -/
inductive Sr where
  | st (l : Bool) (ds : List PyData) | sl (l : Bool) (i : Nat) | rg (lo : Int) (n : Nat) | zp (a b : Sr) | en (a : Sr)
def rgD (lo : Int) (n : Nat) : List PyData := (List.range n).map fun i => .int (lo + (i : Nat))
def enD (xs : List PyData) : List PyData := xs.zipIdx.map fun p => .tuple [.int (p.2 : Nat), p.1]
def zpD (xs ys : List PyData) : List PyData := (xs.zip ys).map fun p => .tuple [p.1, p.2]
def Sr.at (ρ : En) : Sr → Option (List PyData)
  | .st _ ds => some ds
  | .sl l i => ((ρ[i]?).bind id).bind fun o => (itemsO o).bind fun p => if p.1 = l then some p.2 else none
  | .rg lo n => some (rgD lo n)
  | .zp a b => (a.at ρ).bind fun xs => (b.at ρ).map fun ys => zpD xs ys
  | .en a => (a.at ρ).map enD
def Sr.kind : Sr → Option Bool
  | .st l _ => some l
  | .sl l _ => some l
  | _ => none
def Sr.slots : Sr → List Nat
  | .st _ _ => []
  | .sl _ i => [i]
  | .rg _ _ => []
  | .zp a b => a.slots ++ b.slots
  | .en a => a.slots
/-- the iterator yields these items while the slots and the settled part stand -/
def Src (K : PySem.W.Frag) (σ : St) (S0 : Hp) (J : It) (s : Sr) : Prop := ∀ σ' ρ S H A T j ds, (∀ i ∈ s.slots, σ'[i]? = σ[i]?) → (∀ a u, S0 a = some u → S a = some u) → WF S H T → (∀ b, A b ≤ T b) → ER K S H σ' ρ A → s.at ρ = some ds →
  (∀ d, ds[j]? = some d → J.go j H ∧ ∀ x H', J.yld j H x H' → ∃ S', WF S' H' T ∧ Tr S H T S' H' T ∧ (∀ a, 0 < T a → H' a = H a) ∧ Dp K S' x d) ∧ (ds.length ≤ j → J.stop j H)
def RSr (K : PySem.W.Frag) : RR It Sr := fun σ S H J s B => Src K σ S J s ∧ ∀ b, B b = 0
abbrev FI := En → Out Sr
abbrev SndI (K : PySem.W.Frag) (W : WX) (t : TI) (f : FI) : Prop := Snd K W (RSr K) t f
structure IV (X : Cx) (W : WX) (tg iter : Expr) (f : FI) : Prop where
  ex : ∃ t, PI X tg iter t ∧ SndI X.K W t f
section
variable {K : PySem.W.Frag} {W : WX} {S H : Hp} {A B C : Fp} {σ : St} {ρ : En}
/-- a thing of one's own that is to be walked is settled; a slot is looked at -/
def srOf (ρ : En) : Pk → Option Sr
  | .v i => (((ρ[i]?).bind id).bind itemsO).map fun p => .sl p.1 i
  | .o o => (frz o).bind fun d => match d with
    | .list ds => some (.st true ds)
    | .tuple ds => some (.st false ds)
    | _ => none
/-- at hand a list or a tuple, each turn -/
def SqW (K : PySem.W.Frag) (σ : St) (S0 : Hp) (a : Addr) (l : Bool) (s : Sr) : Prop := ∀ σ' ρ S H A T ds, (∀ i ∈ s.slots, σ'[i]? = σ[i]?) → (∀ a u, S0 a = some u → S a = some u) → WF S H T → (∀ b, A b ≤ T b) → ER K S H σ' ρ A → s.at ρ = some ds → ∃ vs, SqB K H a vs l ∧ DpAll K S vs ds
theorem seqAt_inj {a : Addr} : True := True.intro
def RSeq (K : PySem.W.Frag) : RR V Sr := fun σ S H v s B => (∀ b, B b = 0) ∧ ∃ a l, s.kind = some l ∧ v = .ref a ∧ SqW K σ S a l s
def fSeq (f : FP) : FI := fun ρ => (f ρ).bind fun p ρ1 => match srOf ρ1 p with
  | some s => .ok s ρ1
  | none => .bad
theorem srOf_at {p : Pk} {s : Sr} (h : srOf ρ p = some s) : ∃ ds, s.at ρ = some ds := by
  cases p with
  | v i =>
    obtain ⟨⟨l, ds⟩, a1, a2⟩ := Option.map_eq_some_iff.mp (show (((ρ[i]?).bind id).bind itemsO).map _ = some s from h)
    subst a2
    obtain ⟨o, b1, b2⟩ := Option.bind_eq_some_iff.mp a1
    refine ⟨ds, ?_⟩
    show ((ρ[i]?).bind id).bind (fun o => (itemsO o).bind fun p => if p.1 = l then some p.2 else none) = some ds
    rw [b1]
    show (itemsO o).bind (fun p => if p.1 = l then some p.2 else none) = some ds
    rw [b2]
    exact if_pos rfl
  | o o =>
    obtain ⟨d, a1, a2⟩ := Option.bind_eq_some_iff.mp (show (frz o).bind _ = some s from h)
    cases d <;> cases a2 <;> exact ⟨_, rfl⟩
theorem sqW_mono {S1 : Hp} {a : Addr} {l : Bool} {s : Sr} (h : SqW K σ S a l s) (m : ∀ a u, S a = some u → S1 a = some u) : SqW K σ S1 a l s := fun σ' ρ S' H A T ds h1 h2 => h σ' ρ S' H A T ds h1 fun a u z => h2 a u (m a u z)
theorem items_kind {v : V} {d : PyData} {ds : List PyData} (h : Dp K S v d) (e : items d = some ds) : ∃ a vs l, v = .ref a ∧ SqB K S a vs l ∧ DpAll K S vs ds := by
  cases h with
  | lst q r => cases e; exact ⟨_, _, true, rfl, q, r⟩
  | tup q r => cases e; exact ⟨_, _, false, rfl, q, r⟩
  | _ => cases e
theorem sqB_mono {S' : Hp} (h : ∀ a u, S a = some u → S' a = some u) {a : Addr} {vs : List V} {l : Bool} (r : SqB K S a vs l) : SqB K S' a vs l := by
  cases l
  · exact sqT_mono h r
  · exact sqL_mono h r
theorem snd_seq {t : TE} {f : FP} (h : SndP K W t f) : Snd K W (RSeq K) t (fSeq f) := by
  intro σ ρ S H A w e
  have h1 := h σ ρ S H A w e
  show OutOk K W (RSeq K) t σ S H A ((f ρ).bind _)
  cases hf : f ρ with
  | bad => exact True.intro
  | exc x ρ' => rw [hf] at h1; exact h1
  | ok p ρ1 =>
    rw [hf] at h1
    show OutOk K W (RSeq K) t σ S H A (match srOf ρ1 p with
      | some s => Out.ok s ρ1
      | none => .bad)
    cases hs : srOf ρ1 p with
    | none => exact True.intro
    | some s =>
      intro Q k
      refine h1 Q fun v S1 H1 A1 B1 w1 e1 r1 t1 => ?_
      cases r1 with
      | @v _ _ _ _ i _ g1 z =>
        obtain ⟨⟨l, ds⟩, a1, a2⟩ := Option.map_eq_some_iff.mp (show (((ρ1[i]?).bind id).bind itemsO).map _ = some s from hs)
        subst a2
        have key : ∀ σ' ρ S H A T ds, σ'[i]? = σ[i]? → WF S H T → (∀ b, A b ≤ T b) → ER K S H σ' ρ A → (Sr.sl l i).at ρ = some ds → ∃ a vs, v = .ref a ∧ SqB K H a vs l ∧ DpAll K S vs ds := by
          intro σ' ρ S H A T ds g2 w le e hd
          obtain ⟨o, a1, a2⟩ := Option.bind_eq_some_iff.mp (show ((ρ[i]?).bind id).bind _ = some ds from hd)
          obtain ⟨y, b1, b2⟩ := Option.bind_eq_some_iff.mp a1
          have b2 : y = some o := b2
          subst b2
          obtain ⟨v', B', C', e1', q, _, _⟩ := er_get e b1
          rw [g2, g1] at e1'
          cases e1'
          obtain ⟨⟨l', ds'⟩, c1, c2⟩ := Option.bind_eq_some_iff.mp a2
          have c2 : (if l' = l then some ds' else none) = some ds := c2
          by_cases hl : l' = l
          · rw [if_pos hl] at c2
            cases c2
            rw [← hl]
            exact or_items w.sub q c1
          · rw [if_neg hl] at c2; cases c2
        obtain ⟨ds, hds⟩ := srOf_at hs
        obtain ⟨a, vs, ev, sq, da⟩ := key σ ρ1 S1 H1 A1 (A1 + B1) ds rfl w1 le1 e1 hds
        subst ev
        refine k _ S1 H1 A1 B1 w1 e1 ⟨z, a, l, rfl, rfl, fun σ' ρ S H A T ds g2 sub w le e hd => ?_⟩ t1
        obtain ⟨a', vs', ev', sq', da'⟩ := key σ' ρ S H A T ds (g2 i (List.mem_singleton.mpr rfl)) w le e hd
        cases ev'
        exact ⟨vs', sq', da'⟩
      | @o _ _ _ _ o _ q =>
        obtain ⟨d, a1, a2⟩ := Option.bind_eq_some_iff.mp (show (frz o).bind _ = some s from hs)
        obtain ⟨w2, t2, sub2⟩ := settle_wf w1
        have dq := or_settle (fun b hb => w1.dj b (by rw [add_at]; omega)) (fun b => Nat.le_refl _) q a1
        obtain ⟨a, vs, l, ds, ev, sq, da, es⟩ : ∃ a vs l ds, v = .ref a ∧ SqB K (settle S1 H1 B1) a vs l ∧ DpAll K (settle S1 H1 B1) vs ds ∧ s = .st l ds := by
          cases dq with
          | lst qq rr => cases a2; exact ⟨_, _, true, _, rfl, qq, rr, rfl⟩
          | tup qq rr => cases a2; exact ⟨_, _, false, _, rfl, qq, rr, rfl⟩
          | _ => cases a2
        subst ev es
        refine k _ (settle S1 H1 B1) H1 A1 Fp.z (by rw [addz]; exact w2) (er_keep sub2 e1 fun _ _ => rfl) ⟨fun _ => rfl, a, l, rfl, rfl, fun σ' ρ S H A T ds' g2 sub w le e hd => ?_⟩ (by rw [addz]; exact t1.trans t2)
        cases hd
        exact ⟨vs, sqB_mono (fun a u z => w.sub a u (sub a u z)) sq, dpa_mono sub da⟩
def itB (K : PySem.W.Frag) (a : Addr) : Bool → It
  | true => Itl K a
  | false => Itt K a
theorem src_seq {a : Addr} {l : Bool} {s : Sr} (h : SqW K σ S a l s) : Src K σ S (itB K a l) s := by
  intro σ' ρ S' H A T j ds g2 sub w le e hd
  obtain ⟨vs, sq, da⟩ := h σ' ρ S' H A T ds g2 sub w le e hd
  cases l with
  | true =>
    refine ⟨fun d hj => ?_, fun hj => ⟨vs, sq, by rw [dpall_len da]; exact hj⟩⟩
    obtain ⟨v, h1, h2⟩ := dpall_get da hj
    refine ⟨⟨vs, v, sq, h1⟩, fun x H' y => ?_⟩
    obtain ⟨rfl, y2⟩ := y
    have e2 := y2 vs sq
    rw [h1] at e2
    cases e2
    exact ⟨S', w, Tr.refl, fun _ _ => rfl, h2⟩
  | false =>
    refine ⟨fun d hj => ?_, fun hj => ⟨vs, sq, by rw [dpall_len da]; exact hj⟩⟩
    obtain ⟨v, h1, h2⟩ := dpall_get da hj
    refine ⟨⟨vs, v, sq, h1⟩, fun x H' y => ?_⟩
    obtain ⟨rfl, y2⟩ := y
    have e2 := y2 vs sq
    rw [h1] at e2
    cases e2
    exact ⟨S', w, Tr.refl, fun _ _ => rfl, h2⟩
def iSeq (K : PySem.W.Frag) (tl : TE) : TI := fun σ H R => tl σ H fun x H1 => ∃ a l, x = .ref a ∧ (∃ xs, SqB K H1 a xs l) ∧ R (itB K a l) H1
/-- the source just made tells its items -/
theorem fSeq_at {f : FP} {s : Sr} {ρ1 : En} (h : fSeq f ρ = .ok s ρ1) : ∃ ds, s.at ρ1 = some ds := by
  have h : (f ρ).bind (fun p ρ1 => match srOf ρ1 p with
    | some s => Out.ok s ρ1
    | none => .bad) = .ok s ρ1 := h
  cases hf : f ρ with
  | bad => rw [hf] at h; cases h
  | exc x ρ' => rw [hf] at h; cases h
  | ok p ρ2 =>
    rw [hf] at h
    have h : (match srOf ρ2 p with
      | some s => Out.ok s ρ2
      | none => .bad) = .ok s ρ1 := h
    cases hs : srOf ρ2 p with
    | none => rw [hs] at h; cases h
    | some s' =>
      rw [hs] at h
      cases h
      exact srOf_at hs
theorem sndI_seq {t : TE} {f : FP} (h : SndP K W t f) : SndI K W (iSeq K t) (fSeq f) := by
  have h1 := snd_seq h
  intro σ ρ S H A w e
  have h2 := h1 σ ρ S H A w e
  cases hf : fSeq f ρ with
  | bad => exact True.intro
  | exc x ρ' =>
    rw [hf] at h2
    exact fun Q k => h2 _ k
  | ok s ρ1 =>
    rw [hf] at h2
    obtain ⟨ds, hds⟩ := fSeq_at hf
    intro Q k
    refine h2 _ fun v S1 H1 A1 B1 w1 e1 r1 t1 => ?_
    obtain ⟨z, a, l, _, ev, sw⟩ := r1
    obtain ⟨vs, sq, _⟩ := sw σ ρ1 S1 H1 A1 (A1 + B1) ds (fun _ _ => rfl) (fun _ _ h => h) w1 le1 e1 hds
    exact ⟨a, l, ev, ⟨vs, sq⟩, k _ S1 H1 A1 B1 w1 e1 ⟨src_seq sw, z⟩ t1⟩
/-! ### range -/
def fRg1 (f : FP) : FI := fun ρ => (f ρ).bind fun p ρ1 => match pkD ρ1 p with
  | some (.int j) => if -(2 ^ 62) ≤ j ∧ j < 2 ^ 62 then .ok (.rg 0 j.toNat) ρ1 else .bad
  | _ => .bad
def fRg2 (f g : FP) : FI := fun ρ => (f ρ).bind fun p ρ1 => (g ρ1).bind fun q ρ2 => match pkD ρ2 p, pkD ρ2 q with
  | some (.int i), some (.int j) => if -(2 ^ 62) ≤ i ∧ i < 2 ^ 62 ∧ -(2 ^ 62) ≤ j ∧ j < 2 ^ 62 then .ok (.rg i (j - i).toNat) ρ2 else .bad
  | _, _ => .bad
theorem src_rg {lo : Int} {n : Nat} : Src K σ S (Itr lo n) (.rg lo n) := by
  intro σ' ρ S' H A T j ds g2 sub w le e hd
  have hd : rgD lo n = ds := Option.some.inj hd
  subst hd
  have hl : (rgD lo n).length = n := by unfold rgD; rw [List.length_map, List.length_range]
  refine ⟨fun d hj => ?_, fun hj => by rw [hl] at hj; exact hj⟩
  have lt : j < n := by
    have := (List.getElem?_eq_some_iff.mp hj).1
    rw [hl] at this
    exact this
  have ed : d = .int (lo + (j : Nat)) := by
    unfold rgD at hj
    rw [List.getElem?_map, List.getElem?_range lt] at hj
    exact (Option.some.inj hj).symm
  refine ⟨lt, fun x H' y => ?_⟩
  obtain ⟨rfl, rfl⟩ := y
  subst ed
  exact ⟨S', w, Tr.refl, fun _ _ => rfl, .int _⟩
theorem sndI_rg1 {t : TE} {f : FP} (h : SndP K W t f) : SndI K W (iRng1 (tCons t tNil)) (fRg1 f) := by
  refine snd_one (r := fun x H R => ∃ j : Int, [x] = [V.int j] ∧ -(2 ^ 62) ≤ j ∧ j < 2 ^ 62 ∧ R (Itr 0 j.toNat) H) h fun x a σ ρ S H A B w e ra => ?_
  cases h1 : pkD ρ a with
  | none => exact True.intro
  | some d =>
    cases d with
    | int j =>
      show OutOk K W (RSr K) _ σ S H (A + B) (if -(2 ^ 62) ≤ j ∧ j < 2 ^ 62 then Out.ok (.rg 0 j.toNat) ρ else .bad)
      by_cases hz : -(2 ^ 62) ≤ j ∧ j < 2 ^ 62
      · rw [if_pos hz]
        exact fun Q k => ⟨j, by rw [dp_int (pkD_or w.sub ra h1)], hz.1, hz.2, k _ S H A Fp.z (by rw [addz]; exact w.less le1) e ⟨src_rg, fun _ => rfl⟩ (by rw [addz]; exact Tr.refl.less le1)⟩
      · rw [if_neg hz]; exact True.intro
    | _ => exact True.intro
theorem sndI_rg2 {t u : TE} {f g : FP} (h : SndP K W t f) (h' : SndP K W u g) : SndI K W (iRng2 (tCons t (tCons u tNil))) (fRg2 f g) := by
  refine snd_two (r := fun x y H R => ∃ i j : Int, [x, y] = [V.int i, V.int j] ∧ (-(2 ^ 62) ≤ i ∧ i < 2 ^ 62 ∧ -(2 ^ 62) ≤ j ∧ j < 2 ^ 62) ∧ R (Itr i (j - i).toNat) H) h h' fun x y a b σ ρ S H A B w e ra rb => ?_
  cases h1 : pkD ρ a with
  | none => exact True.intro
  | some d =>
    cases d with
    | int i =>
      cases h2 : pkD ρ b with
      | none => exact True.intro
      | some d2 =>
        cases d2 with
        | int j =>
          show OutOk K W (RSr K) _ σ S H (A + B) (if -(2 ^ 62) ≤ i ∧ i < 2 ^ 62 ∧ -(2 ^ 62) ≤ j ∧ j < 2 ^ 62 then Out.ok (.rg i (j - i).toNat) ρ else .bad)
          by_cases hz : -(2 ^ 62) ≤ i ∧ i < 2 ^ 62 ∧ -(2 ^ 62) ≤ j ∧ j < 2 ^ 62
          · rw [if_pos hz]
            exact fun Q k => ⟨i, j, by rw [dp_int (pkD_or w.sub ra h1), dp_int (pkD_or w.sub rb h2)], hz, k _ S H A Fp.z (by rw [addz]; exact w.less le1) e ⟨src_rg, fun _ => rfl⟩ (by rw [addz]; exact Tr.refl.less le1)⟩
          · rw [if_neg hz]; exact True.intro
        | _ => exact True.intro
    | _ => exact True.intro
/-! ### zip, enumerate -/
def itZ (K : PySem.W.Frag) (a b : Addr) : Bool → It
  | true => Itz K a b
  | false => RZ.ItzT K a b
/-- a pair just given out -/
theorem pairNew {T : Fp} {p : Addr} {x y : V} {d1 d2 : PyData} (w : WF S H T) (hp : H p = none) (h1 : Dp K S x d1) (h2 : Dp K S y d2) : ∃ S', WF S' (upd H p (.tup [x, y])) T ∧ Tr S H T S' (upd H p (.tup [x, y])) T ∧ (∀ a, 0 < T a → upd H p (.tup [x, y]) a = H a) ∧ Dp K S' (.ref p) (.tuple [d1, d2]) := by
  obtain ⟨w2, t2, k2, sub2⟩ := newF (u := .tup [x, y]) w hp
  exact ⟨_, w2, t2, k2, .tup (SqT.of upd_same) (.cons (dp_mono sub2 h1) (.cons (dp_mono sub2 h2) .nil))⟩
theorem src_zp {a b : Addr} {l : Bool} {s1 s2 : Sr} (h1 : SqW K σ S a l s1) (h2 : SqW K σ S b l s2) : Src K σ S (itZ K a b l) (.zp s1 s2) := by
  intro σ' ρ S' H A T j ds g2 sub w le e hd
  obtain ⟨xs, a1, a2⟩ := Option.bind_eq_some_iff.mp (show (s1.at ρ).bind _ = some ds from hd)
  obtain ⟨ys, b1, b2⟩ := Option.map_eq_some_iff.mp a2
  subst b2
  obtain ⟨vs, sq1, da1⟩ := h1 σ' ρ S' H A T xs (fun i hi => g2 i (List.mem_append_left _ hi)) sub w le e a1
  obtain ⟨ws, sq2, da2⟩ := h2 σ' ρ S' H A T ys (fun i hi => g2 i (List.mem_append_right _ hi)) sub w le e b1
  have split : ∀ d, (zpD xs ys)[j]? = some d → ∃ x y, xs[j]? = some x ∧ ys[j]? = some y ∧ d = .tuple [x, y] := fun d hj => by
    unfold zpD at hj
    rw [List.getElem?_map] at hj
    obtain ⟨⟨x, y⟩, c1, c2⟩ := Option.map_eq_some_iff.mp hj
    obtain ⟨c3, c4⟩ := List.getElem?_zip_eq_some.mp c1
    exact ⟨x, y, c3, c4, c2.symm⟩
  have stop : (zpD xs ys).length ≤ j → vs.length ≤ j ∨ ws.length ≤ j := fun hj => by
    unfold zpD at hj
    rw [List.length_map, List.length_zip] at hj
    rw [dpall_len da1, dpall_len da2]
    omega
  cases l with
  | true =>
    refine ⟨fun d hj => ?_, fun hj => ⟨vs, ws, sq1, sq2, stop hj⟩⟩
    obtain ⟨x, y, c1, c2, c3⟩ := split d hj
    obtain ⟨v, e1, e2⟩ := dpall_get da1 c1
    obtain ⟨u, e3, e4⟩ := dpall_get da2 c2
    refine ⟨⟨vs, ws, v, u, sq1, sq2, e1, e3⟩, fun z H' hy => ?_⟩
    obtain ⟨p, x', y', rfl, hp, rfl, y1, y2⟩ := hy
    have z1 := y1 vs sq1
    have z2 := y2 ws sq2
    rw [e1] at z1
    rw [e3] at z2
    cases z1
    cases z2
    rw [c3]
    exact pairNew w hp e2 e4
  | false =>
    refine ⟨fun d hj => ?_, fun hj => ⟨vs, ws, sq1, sq2, stop hj⟩⟩
    obtain ⟨x, y, c1, c2, c3⟩ := split d hj
    obtain ⟨v, e1, e2⟩ := dpall_get da1 c1
    obtain ⟨u, e3, e4⟩ := dpall_get da2 c2
    refine ⟨⟨vs, ws, v, u, sq1, sq2, e1, e3⟩, fun z H' hy => ?_⟩
    obtain ⟨p, x', y', rfl, hp, rfl, y1, y2⟩ := hy
    have z1 := y1 vs sq1
    have z2 := y2 ws sq2
    rw [e1] at z1
    rw [e3] at z2
    cases z1
    cases z2
    rw [c3]
    exact pairNew w hp e2 e4
theorem stays_seq : Stays (RSeq K) := fun σ S H S' H' v a B h k r => by
  obtain ⟨z, p, l, kd, ev, sw⟩ := r
  exact ⟨z, p, l, kd, ev, sqW_mono sw h⟩
def fZip (f g : FP) : FI := fun ρ => (fSeq f ρ).bind fun a ρ1 => (fSeq g ρ1).bind fun b ρ2 => match (Sr.zp a b).at ρ2 with
  | some _ => if a.kind = b.kind then .ok (.zp a b) ρ2 else .bad
  | none => .bad
theorem sndI_zip {t u : TE} {f g : FP} (h : SndP K W t f) (h' : SndP K W u g) : SndI K W (RZ.iZipA K (tCons t (tCons u tNil))) (fZip f g) := by
  refine snd_bind (u := fun x σ H R => u σ H fun y H2 => ∃ a b xs ys, [x, y] = [V.ref a, V.ref b] ∧ ((SqL K H2 a xs ∧ SqL K H2 b ys ∧ R (Itz K a b) H2) ∨ (SqT K H2 a xs ∧ SqT K H2 b ys ∧ R (RZ.ItzT K a b) H2))) (snd_seq h) fun x s1 σ ρ S H A B w e ra => ?_
  have h2 := snd_beside (snd_seq h') w e
  show OutOk K W (RSr K) _ σ S H (A + B) ((fSeq g ρ).bind _)
  cases hf : fSeq g ρ with
  | bad => exact True.intro
  | exc x' ρ' =>
    rw [hf] at h2
    exact fun Q k => h2 _ k
  | ok s2 ρ2 =>
    rw [hf] at h2
    show OutOk K W (RSr K) _ σ S H (A + B) (match (Sr.zp s1 s2).at ρ2 with
      | some _ => if s1.kind = s2.kind then Out.ok (.zp s1 s2) ρ2 else .bad
      | none => .bad)
    cases hz : (Sr.zp s1 s2).at ρ2 with
    | none => exact True.intro
    | some ds =>
      show OutOk K W (RSr K) _ σ S H (A + B) (if s1.kind = s2.kind then Out.ok (.zp s1 s2) ρ2 else .bad)
      by_cases hk : s1.kind = s2.kind
      · rw [if_pos hk]
        intro Q k
        refine h2 _ fun y S' H' A' C w' e' rb t' sub kp => ?_
        obtain ⟨z1, a, l1, k1, ev1, sw1⟩ := stays_seq σ S H S' H' x s1 B sub kp ra
        obtain ⟨z2, b, l2, k2, ev2, sw2⟩ := rb
        have el : l1 = l2 := by rw [k1, k2] at hk; exact Option.some.inj hk
        subst el
        obtain ⟨xs, a1, a2⟩ := Option.bind_eq_some_iff.mp (show (s1.at ρ2).bind _ = some ds from hz)
        obtain ⟨ys, b1, b2⟩ := Option.map_eq_some_iff.mp a2
        obtain ⟨vs, sq1, _⟩ := sw1 σ ρ2 S' H' A' (A' + C + B) xs (fun _ _ => rfl) (fun _ _ h => h) w' le3 e' a1
        obtain ⟨ws, sq2, _⟩ := sw2 σ ρ2 S' H' A' (A' + C + B) ys (fun _ _ => rfl) (fun _ _ h => h) w' le3 e' b1
        have fin := k (itZ K a b l1) S' H' A' Fp.z (by rw [addz]; exact w'.less le3) e' ⟨src_zp sw1 sw2, fun _ => rfl⟩ (by rw [addz]; exact t'.less le3)
        refine ⟨a, b, vs, ws, by rw [ev1, ev2], ?_⟩
        cases l1 with
        | true => exact .inl ⟨sq1, sq2, fin⟩
        | false => exact .inr ⟨sq1, sq2, fin⟩
      · rw [if_neg hk]; exact True.intro
theorem src_en {a : Addr} {s : Sr} (h : SqW K σ S a true s) : Src K σ S (Ite K a) (.en s) := by
  intro σ' ρ S' H A T j ds g2 sub w le e hd
  obtain ⟨xs, a1, a2⟩ := Option.map_eq_some_iff.mp (show (s.at ρ).map enD = some ds from hd)
  subst a2
  obtain ⟨vs, sq, da⟩ := h σ' ρ S' H A T xs g2 sub w le e a1
  refine ⟨fun d hj => ?_, fun hj => ⟨vs, sq, ?_⟩⟩
  · unfold enD at hj
    rw [List.getElem?_map] at hj
    obtain ⟨⟨x, n⟩, c1, c2⟩ := Option.map_eq_some_iff.mp hj
    rw [List.getElem?_zipIdx] at c1
    obtain ⟨x', c3, c4⟩ := Option.map_eq_some_iff.mp c1
    cases c4
    obtain ⟨v, e1, e2⟩ := dpall_get da c3
    refine ⟨⟨vs, v, sq, e1⟩, fun z H' hy => ?_⟩
    obtain ⟨p, x', rfl, hp, rfl, y1⟩ := hy
    have z1 := y1 vs sq
    rw [e1] at z1
    cases z1
    rw [← c2]
    have := pairNew w hp (.int ((j : Nat) : Int)) e2
    simpa using this
  · unfold enD at hj
    rw [List.length_map, List.length_zipIdx] at hj
    rw [dpall_len da]
    exact hj
def fEn (f : FP) : FI := fun ρ => (fSeq f ρ).bind fun a ρ1 => if a.kind = some true then .ok (.en a) ρ1 else .bad
theorem sndI_en {t : TE} {f : FP} (h : SndP K W t f) : SndI K W (iEnum K (tCons t tNil)) (fEn f) := by
  intro σ ρ S H A w e
  have h2 := snd_seq h σ ρ S H A w e
  show OutOk K W (RSr K) _ σ S H A ((fSeq f ρ).bind _)
  cases hf : fSeq f ρ with
  | bad => exact True.intro
  | exc x' ρ' =>
    rw [hf] at h2
    exact fun Q k => h2 _ k
  | ok s ρ1 =>
    rw [hf] at h2
    obtain ⟨ds, hds⟩ := fSeq_at hf
    show OutOk K W (RSr K) _ σ S H A (if s.kind = some true then Out.ok (.en s) ρ1 else .bad)
    by_cases hk : s.kind = some true
    · rw [if_pos hk]
      intro Q k
      refine h2 _ fun v S1 H1 A1 B1 w1 e1 r1 t1 => ?_
      obtain ⟨z, a, l, k1, ev, sw⟩ := r1
      have el : l = true := by rw [k1] at hk; exact Option.some.inj hk
      subst el
      obtain ⟨vs, sq, _⟩ := sw σ ρ1 S1 H1 A1 (A1 + B1) ds (fun _ _ => rfl) (fun _ _ h => h) w1 le1 e1 hds
      exact ⟨a, vs, by rw [ev], sq, k _ S1 H1 A1 B1 w1 e1 ⟨src_en sw, z⟩ t1⟩
    · rw [if_neg hk]; exact True.intro
end
section
variable {X : Cx} {W : WX} {tg a b : Expr} {fa fb : FP} {pos p tpos : Pos} {elts : List Expr} {kk : Nat}
theorem pi_seq {l : Expr} {tl : TE} (hl : PE X l tl) : PI X tg l (iSeq X.K tl) := by
  refine ⟨fun pins s σ H R I h => ?_⟩
  refine thn (hl.run pins s σ H _ I h) fun v s1 ⟨x, H1, I1, r1, a, l, ev, ⟨xs, sq⟩, q⟩ => ?_
  subst ev
  cases r1
  have fresh : ∀ b ∈ [s1.heap.objs.size], FpOk X pins H1 b := fun b hb => by
    have e : b = s1.heap.objs.size := List.mem_singleton.mp hb
    subst e
    exact I1.fpOk (Nat.le_refl _) (I1.hok.fresh (Nat.le_refl _))
  cases l with
  | true =>
    obtain ⟨its, rv, pl, _⟩ := I1.list sq
    exact wpAny_pyIter_list pl.isList ⟨s1.heap.objs.size, _, _, _, H1, rfl, I1.kept (t' := s1.toks) fun b o e => Heap.get?_push_of_some _ e, turn_list a _, ⟨_, Heap.get?_push_size _ rfl, rfl, rfl⟩, fresh, q⟩
  | false =>
    obtain ⟨its, rv, pt, _⟩ := I1.tuple sq
    exact wpAny_pyIter_tuple (show s1.heap.IsTuple a its.toArray from pt) ⟨s1.heap.objs.size, _, _, _, H1, rfl, I1.kept (t' := s1.toks) fun b o e => Heap.get?_push_of_some _ e, turn_tuple a _, ⟨_, Heap.get?_push_size _ rfl, rfl, rfl⟩, fresh, q⟩
theorem iv_seq (h : PV X W a fa) : IV X W tg a (fSeq fa) := let ⟨_, h1, h2⟩ := h.ex; ⟨_, pi_seq h1, sndI_seq h2⟩
theorem iv_rg1 (hg : Gl X "range") (hm : X.mg "range" = none) (h : PV X W a fa) (hs : starEach [a] X.env = [(false, eval a X.env)] := by rfl) : IV X W tg (.Call (.Name "range" p) [a] [] pos) (fRg1 fa) :=
  let ⟨_, h1, h2⟩ := h.ex; ⟨_, pi_range1 hg hm (pa_cons h1 pa_nil hs) hs, sndI_rg1 h2⟩
theorem iv_rg2 (hg : Gl X "range") (hm : X.mg "range" = none) (h : PV X W a fa) (h' : PV X W b fb) (hs : starEach [a, b] X.env = [(false, eval a X.env), (false, eval b X.env)] := by rfl) (hs2 : starEach [b] X.env = [(false, eval b X.env)] := by rfl) : IV X W tg (.Call (.Name "range" p) [a, b] [] pos) (fRg2 fa fb) :=
  let ⟨_, h1, h2⟩ := h.ex; let ⟨_, g1, g2⟩ := h'.ex; ⟨_, pi_range2 hg hm (pa_cons h1 (pa_cons g1 pa_nil hs2) (by rw [hs, hs2])) hs hs2, sndI_rg2 h2 g2⟩
theorem iv_zip (hg : Gl X "zip") (hm : X.mg "zip" = none) (h : PV X W a fa) (h' : PV X W b fb) (hs : starEach [a, b] X.env = (false, eval a X.env) :: starEach [b] X.env := by rfl) (hs2 : starEach [b] X.env = [(false, eval b X.env)] := by rfl) (hpl : (backTo pos (starEach [b] X.env)).any (·.1) = false := by rfl) : IV X W (.Tuple elts kk tpos) (.Call (.Name "zip" p) [a, b] [] pos) (fZip fa fb) :=
  let ⟨_, h1, h2⟩ := h.ex; let ⟨_, g1, g2⟩ := h'.ex; ⟨_, RZ.pi_zipA hg hm (pa_cons h1 (pa_cons g1 pa_nil hs2) hs) hs hpl, sndI_zip h2 g2⟩
theorem iv_en (hg : Gl X "enumerate") (hm : X.mg "enumerate" = none) (h : PV X W a fa) (hs : starEach [a] X.env = [(false, eval a X.env)] := by rfl) : IV X W (.Tuple elts kk tpos) (.Call (.Name "enumerate" p) [a] [] pos) (fEn fa) :=
  let ⟨_, h1, h2⟩ := h.ex; ⟨_, pi_enum hg hm (pa_cons h1 pa_nil hs) hs, sndI_en h2⟩
end
end Ls

namespace Ls
open PySem L2
/-! ### the reading that a worth gives by itself -/
def rdV {β α : Type} (K : PySem.W.Frag) (W : WX) (R : RR β α) (f : En → Out α) : St → Hp → (β → Hp → Prop) → Prop := fun σ H Q => ∃ ρ S A, WF S H A ∧ ER K S H σ ρ A ∧ (match f ρ with
  | .ok a ρ' => PostV K R σ S H A a ρ' Q
  | .exc x ρ' => PostX K W σ S H A x ρ'
  | .bad => False)
section
variable {K : PySem.W.Frag} {W : WX} {S H : Hp} {A B C : Fp} {σ : St} {ρ : En}
theorem of_rd {β α : Type} {R : RR β α} {t : St → Hp → (β → Hp → Prop) → Prop} {f : En → Out α} (h : Snd K W R t f) {Q : β → Hp → Prop} (r : rdV K W R f σ H Q) : t σ H Q := by
  obtain ⟨ρ, S, A, w, e, q⟩ := r
  have h1 := h σ ρ S H A w e
  cases hf : f ρ with
  | ok a ρ' => rw [hf] at h1 q; exact h1 Q q
  | exc x ρ' => rw [hf] at h1 q; exact h1 Q q
  | bad => rw [hf] at q; exact q.elim
theorem snd_rd {β α : Type} {R : RR β α} {f : En → Out α} : Snd K W R (rdV K W R f) f := by
  intro σ ρ S H A w e
  cases hf : f ρ with
  | ok a ρ' => exact fun Q k => ⟨ρ, S, A, w, e, by rw [hf]; exact k⟩
  | exc x ρ' => exact fun Q k => ⟨ρ, S, A, w, e, by rw [hf]; exact k⟩
  | bad => exact True.intro
theorem EV.pe {X : Cx} {e : Expr} {f : FE} (h : EV X W e f) : PE X e (rdV X.K W (ROr X.K) f) := by
  obtain ⟨t, h1, h2⟩ := h.ex
  exact ⟨fun pins s σ H Q I q => h1.run pins s σ H Q I (of_rd h2 q)⟩
theorem TV.pt {X : Cx} {e : Expr} {f : FT} (h : TV X W e f) : PT X e (rdV X.K W (REq Bool) f) := by
  obtain ⟨t, h1, h2⟩ := h.ex
  exact ⟨fun pins s σ H Q I q => h1.run pins s σ H Q I (of_rd h2 q)⟩
/-! ### targets -/
abbrev FG := PyData → En → Option En
abbrev FGs := List PyData → En → Option En
def PostG (K : PySem.W.Frag) (σ : St) (S H : Hp) (A : Fp) (vs : List Nat) (ρ' : En) (Q : St → Hp → Prop) : Prop := ∀ σ' A', ER K S H σ' ρ' A' → (∀ b, A' b ≤ A b) → σ'.length = σ.length → (∀ i, i ∉ vs → σ'[i]? = σ[i]?) → Q σ' H
def SndG (K : PySem.W.Frag) (g : TG) (gF : FG) (vs : List Nat) : Prop := ∀ v d σ ρ S H A T ρ', WF S H T → (∀ b, A b ≤ T b) → ER K S H σ ρ A → Dp K S v d → gF d ρ = some ρ' → ∀ Q, PostG K σ S H A vs ρ' Q → g v σ H Q
def SndGs (K : PySem.W.Frag) (g : TGs) (gF : FGs) (vs : List Nat) : Prop := ∀ xs ds σ ρ S H A T ρ', WF S H T → (∀ b, A b ≤ T b) → ER K S H σ ρ A → DpAll K S xs ds → gF ds ρ = some ρ' → ∀ Q, PostG K σ S H A vs ρ' Q → g xs σ H Q
structure GV (X : Cx) (tg : Expr) (vs : List Nat) (gF : FG) : Prop where
  ex : ∃ g, PG X tg g ∧ SndG X.K g gF vs
structure GsV (X : Cx) (ts : List Expr) (vs : List Nat) (gF : FGs) : Prop where
  ex : ∃ g, PGs X ts g ∧ SndGs X.K g gF vs
def gfN (i : Nat) : FG := fun d ρ => if i < ρ.length then some (ρ.set i (some (.fz d))) else none
/-- a slot stored anew -/
theorem er_store {v : V} {o : O} {i : Nat} (e : ER K S H σ ρ A) (q : OR K S H v o B) (hi : i < ρ.length) : ∃ C, ER K S H (σ.set i (some v)) (ρ.set i (some o)) (B + C) ∧ ∀ b, C b ≤ A b := by
  obtain ⟨C, e1, l1⟩ := er_drop e i none
  have hl := er_len e
  have e2 := er_put e1 (i := i) (v := v) (o := o) (B := B) (by rw [List.length_set, hl]; exact hi) q (List.getElem?_set_self hi)
  rw [List.set_set, List.set_set] at e2
  exact ⟨C, e2, l1⟩
theorem sndG_name {i : Nat} : SndG K (gName i) (gfN i) [i] := by
  intro v d σ ρ S H A T ρ' w le e hv hg Q k
  unfold gfN at hg
  by_cases hi : i < ρ.length
  · rw [if_pos hi] at hg
    cases hg
    obtain ⟨C, e1, l1⟩ := er_store e (OR.fz hv (A := Fp.z) fun _ => rfl) hi
    refine k _ _ e1 (fun b => by rw [add_at, z_at]; have := l1 b; omega) (List.length_set) fun j hj => ?_
    exact List.getElem?_set_ne fun z => hj (List.mem_singleton.mpr z.symm)
  · rw [if_neg hi] at hg; cases hg
def gsN : FGs := fun ds ρ => match ds with
  | [] => some ρ
  | _ => none
def gsC (g : FG) (gs : FGs) : FGs := fun ds ρ => match ds with
  | d :: r => (g d ρ).bind fun ρ1 => gs r ρ1
  | [] => none
theorem sndGs_nil : SndGs K gNil gsN [] := by
  intro xs ds σ ρ S H A T ρ' w le e hv hg Q k
  cases hv with
  | nil => cases hg; exact ⟨rfl, k σ A e (fun _ => Nat.le_refl _) rfl fun _ _ => rfl⟩
  | cons _ _ => cases hg
theorem sndGs_cons {g : TG} {gs : TGs} {gF : FG} {gsF : FGs} {vs ws : List Nat} (h1 : SndG K g gF vs) (h2 : SndGs K gs gsF ws) : SndGs K (gCons g gs) (gsC gF gsF) (vs ++ ws) := by
  intro xs ds σ ρ S H A T ρ' w le e hv hg Q k
  cases hv with
  | nil => cases hg
  | cons q r =>
    obtain ⟨ρ1, a1, a2⟩ := Option.bind_eq_some_iff.mp (show (gF _ ρ).bind _ = some ρ' from hg)
    refine ⟨_, _, rfl, h1 _ _ σ ρ S H A T ρ1 w le e q a1 _ fun σ1 A1 e1 l1 n1 k1 => ?_⟩
    refine h2 _ _ σ1 ρ1 S H A1 T ρ' w (fun b => Nat.le_trans (l1 b) (le b)) e1 r a2 _ fun σ2 A2 e2 l2 n2 k2 => ?_
    refine k σ2 A2 e2 (fun b => Nat.le_trans (l2 b) (l1 b)) (n2.trans n1) fun i hi => ?_
    rw [k2 i fun z => hi (List.mem_append_right _ z), k1 i fun z => hi (List.mem_append_left _ z)]
def gfT (n : Nat) (gs : FGs) : FG := fun d ρ => match d with
  | .tuple ds => if ds.length = n then gs ds ρ else none
  | _ => none
theorem sndG_tup {n : Nat} {gs : TGs} {gsF : FGs} {vs : List Nat} (h : SndGs K gs gsF vs) : SndG K (gTup K n gs) (gfT n gsF) vs := by
  intro v d σ ρ S H A T ρ' w le e hv hg Q k
  cases hv with
  | tup q r =>
    have hg : (if _ = n then gsF _ ρ else none) = some ρ' := hg
    split at hg
    · rename_i hn
      exact ⟨_, _, rfl, sqT_mono w.sub q, by rw [dpall_len r]; exact hn, h _ _ σ ρ S H A T ρ' w le e r hg Q k⟩
    · cases hg
  | _ => cases hg
/-- the reading of a target by its worth -/
def rdG (K : PySem.W.Frag) (gF : FG) (vs : List Nat) : TG := fun v σ H Q => ∃ d ρ S A T ρ', WF S H T ∧ (∀ b, A b ≤ T b) ∧ ER K S H σ ρ A ∧ Dp K S v d ∧ gF d ρ = some ρ' ∧ PostG K σ S H A vs ρ' Q
theorem GV.pg {X : Cx} {tg : Expr} {vs : List Nat} {gF : FG} (h : GV X tg vs gF) : PG X tg (rdG X.K gF vs) := by
  obtain ⟨g, h1, h2⟩ := h.ex
  exact ⟨fun pins s σ H v u Q I r ⟨d, ρ, S, A, T, ρ', w, le, e, hv, hg, k⟩ => h1.run pins s σ H v u Q I r (h2 v d σ ρ S H A T ρ' w le e hv hg Q k)⟩
/-! ### comprehensions -/
def wipeE (ρ : En) : List Nat → En
  | [] => ρ
  | v :: vs => (wipeE ρ vs).set v none
abbrev W0 : WX := fun _ _ _ _ => False
def compF (s : Sr) (gF : FG) (test : FT) (elt : FE) (vs : List Nat) : Nat → Nat → En → List O → Out (List O)
  | 0, _, _, _ => .bad
  | n + 1, j, ρ, acc => match s.at ρ with
    | none => .bad
    | some ds => (match ds[j]? with
      | none => .ok acc ρ
      | some d => (match gF d ρ with
        | none => .bad
        | some ρ1 => (match test ρ1 with
          | .ok true ρ2 => (match elt ρ2 with
            | .ok o ρ3 => if acc.length < sizeLine then compF s gF test elt vs n (j + 1) (wipeE ρ3 vs) (acc ++ [o]) else .bad
            | _ => .bad)
          | .ok false ρ2 => compF s gF test elt vs n (j + 1) (wipeE ρ2 vs) acc
          | _ => .bad)))
def eComp (fi : FI) (gF : FG) (test : FT) (elt : FE) (vs : List Nat) : FE := fun ρ => (fi ρ).bind fun s ρ1 => if s.slots.all fun i => !vs.contains i then (match s.at (wipeE ρ1 vs) with
    | some ds => (match compF s gF test elt vs (ds.length + 1) 0 (wipeE ρ1 vs) [] with
      | .ok os ρ2 => .ok (.lst os) ρ2
      | _ => .bad)
    | none => .bad) else .bad
def tYesF : FT := fun ρ => .ok true ρ
/-- slots that tell nothing may hold anything -/
theorem er_any {σ' : St} (e : ER K S H σ ρ A) (hl : σ'.length = σ.length) (h : ∀ (i : Nat) (o : O), ρ[i]? = some (some o) → σ'[i]? = σ[i]?) : ER K S H σ' ρ A := by
  induction e generalizing σ' with
  | nil z =>
    cases σ' with
    | nil => exact .nil z
    | cons _ _ => cases hl
  | non e ih =>
    cases σ' with
    | nil => cases hl
    | cons w' σ' => exact .non (ih (by simpa using hl) fun i o hi => by simpa using h (i + 1) o (by simpa using hi))
  | @som v o _ _ _ _ _ q e z ih =>
    cases σ' with
    | nil => cases hl
    | cons w' σ' =>
      have h0 := h 0 _ rfl
      have h0 : w' = some v := by simpa using h0
      subst h0
      exact .som q (ih (by simpa using hl) fun i o hi => by simpa using h (i + 1) o (by simpa using hi)) z
theorem wipeE_get (ρ : En) : ∀ (vs : List Nat) (i : Nat) (o : O), (wipeE ρ vs)[i]? = some (some o) → i ∉ vs ∧ ρ[i]? = some (some o)
  | [], i, o, h => ⟨by simp, h⟩
  | v :: vs, i, o, h => by
    unfold wipeE at h
    by_cases hi : v = i
    · subst hi
      by_cases hv : v < (wipeE ρ vs).length
      · rw [List.getElem?_set_self hv] at h; cases h
      · rw [List.getElem?_eq_none (by simpa using hv)] at h; cases h
    · rw [List.getElem?_set_ne hi] at h
      obtain ⟨h1, h2⟩ := wipeE_get ρ vs i o h
      exact ⟨by simp only [List.mem_cons, not_or]; exact ⟨fun e => hi e.symm, h1⟩, h2⟩
theorem er_wipe (e : ER K S H σ ρ A) : ∀ vs : List Nat, ∃ C, ER K S H σ (wipeE ρ vs) C ∧ ∀ b, C b ≤ A b
  | [] => ⟨A, e, fun _ => Nat.le_refl _⟩
  | v :: vs => by
    obtain ⟨C, e1, l1⟩ := er_wipe e vs
    obtain ⟨C2, e2, l2⟩ := er_drop e1 v (σ.getD v none)
    refine ⟨C2, ?_, fun b => Nat.le_trans (l2 b) (l1 b)⟩
    refine er_any e2 (by rw [List.length_set]) fun i o hi => ?_
    by_cases hv : v = i
    · subst hv
      have := (wipeE_get (wipeE ρ vs) [v] v o hi).1
      exact absurd (List.mem_singleton.mpr rfl) this
    · exact (List.getElem?_set_ne hv).symm
theorem wipe_get (σ : St) : ∀ (vs : List Nat) (i : Nat), i ∉ vs → (wipe σ vs)[i]? = σ[i]?
  | [], _, _ => rfl
  | v :: vs, i, h => by
    unfold wipe
    simp only [List.mem_cons, not_or] at h
    rw [List.getElem?_set_ne (Ne.symm h.1), wipe_get σ vs i h.2]
theorem wipe_in (σ : St) : ∀ (vs : List Nat) (i : Nat), i ∈ vs → i < σ.length → (wipe σ vs)[i]? = some none
  | v :: vs, i, h, hl => by
    unfold wipe
    by_cases hv : v = i
    · subst hv
      exact List.getElem?_set_self (by rw [wipe_length]; exact hl)
    · rw [List.getElem?_set_ne hv]
      exact wipe_in σ vs i ((List.mem_cons.mp h).resolve_left fun z => hv z.symm) hl
theorem wipe_eq {σ σ' : St} {vs : List Nat} (hl : σ'.length = σ.length) (h : ∀ i, i ∉ vs → σ'[i]? = σ[i]?) : wipe σ' vs = wipe σ vs := by
  apply List.ext_getElem?
  intro i
  by_cases hi : i ∈ vs
  · by_cases hb : i < σ.length
    · rw [wipe_in σ vs i hi hb, wipe_in σ' vs i hi (by omega)]
    · rw [List.getElem?_eq_none (by rw [wipe_length]; omega), List.getElem?_eq_none (by rw [wipe_length]; omega)]
  · rw [wipe_get σ vs i hi, wipe_get σ' vs i hi, h i hi]
theorem ors_snoc : ∀ {vs : List V} {os : List O} {A : Fp} {v : V} {o : O} {B : Fp}, ORs K S H vs os A → OR K S H v o B → ORs K S H (vs ++ [v]) (os ++ [o]) (A + B)
  | _, _, A, _, _, B, .nil z, q => .cons q (.nil (A := Fp.z) fun _ => rfl) fun b => by rw [add_at, z b, z_at]; omega
  | _, _, A, _, _, B, .cons q r z, q' => .cons q (ors_snoc r q') fun b => by simp only [add_at]; rw [z b]; omega
theorem mutO {D : Addr} {u : HO} {T : Fp} (w : WF S H T) (h : 0 < T D) : WF S (upd H D u) T ∧ Tr S H T S (upd H D u) T := by
  have hs := w.dj D h
  refine ⟨⟨fun a o e => ?_, w.one, w.dj, fun a z => ?_⟩, ⟨fun _ _ e => e, fun a o z e => ?_, fun _ _ e => .inl e, fun _ z => .inl z⟩⟩
  · rw [upd_ne (ne_of_none e hs)]; exact w.sub a o e
  · by_cases e : a = D
    · subst e; rw [upd_same]; exact fun y => nomatch y
    · rw [upd_ne e]; exact w.th a z
  · have ne : a ≠ D := fun e2 => by rw [e2] at z; omega
    rw [upd_ne ne]; exact e
theorem sndT_yes : SndT K W tYes tYesF := by
  intro σ ρ S H A w e Q k
  exact k true S H A Fp.z (by rw [addz]; exact w) e ⟨rfl, fun _ => rfl⟩ (by rw [addz]; exact Tr.refl)
theorem sndE_comp {wi : TI} {g : TG} {tt : TT} {te : TE} {fi : FI} {gF : FG} {test : FT} {elt : FE} {vs : List Nat} (hi : SndI K W wi fi) (hg : SndG K g gF vs) (ht : SndT K W0 tt test) (he : SndE K W0 te elt) : SndE K W (tLc wi g tt te vs) (eComp fi gF test elt vs) := by
  refine snd_bind (u := fun J σ H Q => ∀ D, H D = none → ∃ Wv : Nat → Nat → Hp → Prop, (∃ m, Wv 0 m (upd H D (.lst []))) ∧ ∀ i m H, Wv i m H →
    (J.stop i H ∧ Q (V.ref D) H) ∨ (J.go i H ∧ ∃ Nx : Hp → Prop, (∀ H', Nx H' → ∃ m', m' < m ∧ Wv (i + 1) m' H') ∧ ∀ x H', J.yld i H x H' → g x (wipe σ vs) H' fun σ2 H2 => wipe σ2 vs = wipe σ vs ∧ tt σ2 H2 fun b H3 =>
      if b = true then te σ2 H3 fun y H4 => ∃ acc, H4 D = some (.lst acc) ∧ acc.length < sizeLine ∧ Nx (upd H4 D (.lst (acc ++ [y]))) else Nx H3)) hi fun J s σ ρ S H A B w e r => ?_
  obtain ⟨src, _⟩ := r
  show OutOk K W (ROr K) _ σ S H (A + B) (if s.slots.all fun i => !vs.contains i then (match s.at (wipeE ρ vs) with
    | some ds => (match compF s gF test elt vs (ds.length + 1) 0 (wipeE ρ vs) [] with
      | .ok os ρ2 => Out.ok (.lst os) ρ2
      | _ => .bad)
    | none => .bad) else .bad)
  by_cases hsl : (s.slots.all fun i => !vs.contains i) = true
  · rw [if_pos hsl]
    cases hat : s.at (wipeE ρ vs) with
    | none => exact True.intro
    | some ds =>
      show OutOk K W (ROr K) _ σ S H (A + B) (match compF s gF test elt vs (ds.length + 1) 0 (wipeE ρ vs) [] with
        | .ok os ρ2 => Out.ok (.lst os) ρ2
        | _ => .bad)
      cases hc : compF s gF test elt vs (ds.length + 1) 0 (wipeE ρ vs) [] with
      | bad => exact True.intro
      | exc _ _ => exact True.intro
      | ok os ρ2 =>
        intro Q k D hD
        have slotOk : ∀ σ' : St, (∀ i, i ∉ vs → σ'[i]? = σ[i]?) → ∀ i ∈ s.slots, σ'[i]? = σ[i]? := fun σ' h i hi => h i fun z => by
          have h1 := List.all_eq_true.mp hsl i hi
          rw [List.contains_iff_mem.mpr z] at h1
          cases h1
        obtain ⟨C0, e0, l0⟩ := er_wipe e vs
        refine ⟨fun j m H' => ∃ ρ' acc va S' A' Ba, WF S' H' (A' + (Fp.one D + Ba)) ∧ ER K S' H' σ ρ' A' ∧ H' D = some (.lst va) ∧ ORs K S' H' va acc Ba ∧ Tr S H (A + B) S' H' (A' + (Fp.one D + Ba)) ∧ compF s gF test elt vs m j ρ' acc = .ok os ρ2 ∧ (∀ (i : Nat) (o : O), ρ'[i]? = some (some o) → i ∉ vs) ∧ (∀ a u, S a = some u → S' a = some u), ⟨ds.length + 1, ?_⟩, ?_⟩
        · obtain ⟨w1, t1, k1⟩ := newO (u := .lst []) w hD
          have l1 : ∀ b, (C0 + (Fp.one D + Fp.z)) b ≤ (Fp.one D + (A + B)) b := fun b => by have := l0 b; simp only [add_at, z_at]; omega
          exact ⟨wipeE ρ vs, [], [], S, C0, Fp.z, w1.less l1, er_keep (fun _ _ h => h) e0 fun a z => k1 a (by have := l0 a; rw [add_at]; omega), upd_same, .nil fun _ => rfl, t1.less l1, hc, fun i o hi => (wipeE_get ρ vs i o hi).1, fun _ _ h => h⟩
        · rintro j m H1 ⟨ρ', acc, va, S', A', Ba, w1, e1, hD1, r1, t1, hcomp, hno, sub0⟩
          cases m with
          | zero => cases hcomp
          | succ n =>
            unfold compF at hcomp
            cases hat1 : s.at ρ' with
            | none => rw [hat1] at hcomp; cases hcomp
            | some ds1 =>
              rw [hat1] at hcomp
              dsimp only at hcomp
              have hsrc := src σ ρ' S' H1 A' (A' + (Fp.one D + Ba)) j ds1 (slotOk σ fun _ _ => rfl) sub0 w1 le1 e1 hat1
              cases hj : ds1[j]? with
              | none =>
                rw [hj] at hcomp
                dsimp only at hcomp
                cases hcomp
                refine .inl ⟨hsrc.2 (List.getElem?_eq_none_iff.mp hj), ?_⟩
                exact k _ S' H1 A' (Fp.one D + Ba) w1 e1 (.lst hD1 r1 fun b => add_at _ _ b) t1
              | some d =>
                rw [hj] at hcomp
                dsimp only at hcomp
                obtain ⟨go, yl⟩ := hsrc.1 d hj
                refine .inr ⟨go, fun H' => ∃ ρ' acc va S' A' Ba, WF S' H' (A' + (Fp.one D + Ba)) ∧ ER K S' H' σ ρ' A' ∧ H' D = some (.lst va) ∧ ORs K S' H' va acc Ba ∧ Tr S H (A + B) S' H' (A' + (Fp.one D + Ba)) ∧ compF s gF test elt vs n (j + 1) ρ' acc = .ok os ρ2 ∧ (∀ (i : Nat) (o : O), ρ'[i]? = some (some o) → i ∉ vs) ∧ (∀ a u, S a = some u → S' a = some u), fun H' h => ⟨n, Nat.lt_succ_self n, h⟩, fun x H2 hy => ?_⟩
                obtain ⟨S2, w2, t2, k2, hx⟩ := yl x H2 hy
                cases hgf : gF d ρ' with
                | none => rw [hgf] at hcomp; cases hcomp
                | some ρ3 =>
                  rw [hgf] at hcomp
                  dsimp only at hcomp
                  have e2 : ER K S2 H2 σ ρ' A' := er_keep t2.fz e1 fun a z => k2 a (by rw [add_at]; omega)
                  have e2' : ER K S2 H2 (wipe σ vs) ρ' A' := er_any e2 (wipe_length σ vs) fun i o hi => wipe_get σ vs i (hno i o hi)
                  have r2 : ORs K S2 H2 va acc Ba := ors_keep t2.fz (fun a z => k2 a (by simp only [add_at]; omega)) r1
                  have hD2 : H2 D = some (.lst va) := (k2 D (by simp only [add_at, one_same]; omega)).trans hD1
                  refine hg x d (wipe σ vs) ρ' S2 H2 A' _ ρ3 w2 le1 e2' hx hgf _ fun σ3 A3 e3 l3 n3 k3 => ?_
                  have ag : ∀ i, i ∉ vs → σ3[i]? = σ[i]? := fun i hi => (k3 i hi).trans (wipe_get σ vs i hi)
                  have len3 : σ3.length = σ.length := n3.trans (wipe_length σ vs)
                  refine ⟨wipe_eq len3 ag, ?_⟩
                  have w3 : WF S2 H2 (A3 + (Fp.one D + Ba)) := w2.less fun b => by have := l3 b; simp only [add_at]; omega
                  have t3 : Tr S H (A + B) S2 H2 (A3 + (Fp.one D + Ba)) := (t1.trans t2).less fun b => by have := l3 b; simp only [add_at]; omega
                  have ht1 := snd_beside ht w3 e3
                  cases htf : test ρ3 with
                  | bad => rw [htf] at hcomp; cases hcomp
                  | exc _ _ => rw [htf] at hcomp; cases hcomp
                  | ok b ρ4 =>
                    rw [htf] at hcomp ht1
                    refine ht1 _ fun b' S4 H4 A4 C4 w4 e4 rb t4 sub4 kp4 => ?_
                    obtain ⟨rfl, _⟩ := rb
                    have l4 : ∀ b, (A4 + (Fp.one D + Ba)) b ≤ (A4 + C4 + (Fp.one D + Ba)) b := fun b => by simp only [add_at]; omega
                    have w4' := w4.less l4
                    have t4' := (t3.trans t4).less l4
                    have hD4 : H4 D = some (.lst va) := (kp4 D (by simp only [add_at, one_same]; omega)).trans hD2
                    have r4 : ORs K S4 H4 va acc Ba := ors_keep sub4 (fun a z => kp4 a (by simp only [add_at]; omega)) r2
                    have back : ∀ {S5 H5 : Hp} {ρ5 : En} {A5 : Fp}, ER K S5 H5 σ3 ρ5 A5 → ∃ C, ER K S5 H5 σ (wipeE ρ5 vs) C ∧ ∀ b, C b ≤ A5 b := fun {S5 H5 ρ5 A5} e5 => by
                      obtain ⟨C, c1, c2⟩ := er_wipe e5 vs
                      exact ⟨C, er_any c1 len3.symm fun i o hi => (ag i (wipeE_get ρ5 vs i o hi).1).symm, c2⟩
                    cases b' with
                    | false =>
                      dsimp only at hcomp
                      obtain ⟨C, c1, c2⟩ := back e4
                      have lc : ∀ b, (C + (Fp.one D + Ba)) b ≤ (A4 + (Fp.one D + Ba)) b := fun b => by have := c2 b; simp only [add_at]; omega
                      exact ⟨_, _, va, S4, C, Ba, w4'.less lc, c1, hD4, r4, t4'.less lc, hcomp, fun i o hi => (wipeE_get ρ4 vs i o hi).1, fun a u z => sub4 a u (t2.fz a u (sub0 a u z))⟩
                    | true =>
                      dsimp only at hcomp
                      have he1 := snd_beside he w4' e4
                      cases hef : elt ρ4 with
                      | bad => rw [hef] at hcomp; cases hcomp
                      | exc _ _ => rw [hef] at hcomp; cases hcomp
                      | ok o ρ5 =>
                        rw [hef] at hcomp he1
                        dsimp only at hcomp
                        by_cases hz : acc.length < sizeLine
                        · rw [if_pos hz] at hcomp
                          show te σ3 H4 _
                          refine he1 _ fun y S5 H5 A5 C5 w5 e5 ry t5 sub5 kp5 => ?_
                          have hD5 : H5 D = some (.lst va) := (kp5 D (by simp only [add_at, one_same]; omega)).trans hD4
                          have r5 : ORs K S5 H5 va acc Ba := ors_keep sub5 (fun a z => kp5 a (by simp only [add_at]; omega)) r4
                          have oneD := w5.one D
                          simp only [add_at, one_same] at oneD
                          obtain ⟨w6, t6⟩ := mutO (D := D) (u := .lst (va ++ [y])) w5 (by simp only [add_at, one_same]; omega)
                          have ne : ∀ {F : Fp}, F D = 0 → ∀ a, 0 < F a → upd H5 D (.lst (va ++ [y])) a = H5 a := fun {F} hF a z => upd_ne fun ea => by rw [ea] at z; omega
                          obtain ⟨C, c1, c2⟩ := back (er_keep (K := K) (S' := S5) (H' := upd H5 D (.lst (va ++ [y]))) (fun _ _ h => h) e5 (ne (by omega)))
                          have lc : ∀ b, (C + (Fp.one D + (Ba + C5))) b ≤ (A5 + C5 + (Fp.one D + Ba)) b := fun b => by have := c2 b; simp only [add_at]; omega
                          refine ⟨va, hD5, by rw [ors_len r5]; exact hz, _, _, va ++ [y], S5, C, Ba + C5, w6.less lc, c1, upd_same, ?_, ((t4'.trans t5).trans t6).less lc, hcomp, fun i o hi => (wipeE_get ρ5 vs i o hi).1, fun a u z => sub5 a u (sub4 a u (t2.fz a u (sub0 a u z)))⟩
                          exact ors_keep (fun _ _ h => h) (ne (by simp only [add_at]; omega)) (ors_snoc r5 ry)
                        · rw [if_neg hz] at hcomp; cases hcomp
  · rw [if_neg hsl]; exact True.intro
end
section
variable {X : Cx} {W : WX}
theorem gv_name (i : Nat) {x : Str} {pos : Pos} (hN : X.N.Nodup) (hi : X.N[i]? = some x := by rfl) (hx : Loc X.env.scope x := by first | exact Or.inl rfl | exact Or.inr rfl) (hf : X.fn x = true ∨ X.env.scope.names.lookup x = some .local := by first | exact .inl rfl | exact .inr rfl | assumption) : GV X (.Name x pos) [i] (gfN i) := ⟨_, pg_name hN hi hx hf, sndG_name⟩
theorem gs_nil : GsV X [] [] gsN := ⟨_, pgs_nil, sndGs_nil⟩
theorem gs_cons {e : Expr} {es : List Expr} {vs ws : List Nat} {g : FG} {gs : FGs} (h : GV X e vs g) (r : GsV X es ws gs) (hs : (assignEach (e :: es) X.env).map (·.2) = assign e X.env :: (assignEach es X.env).map (·.2) := by rfl) : GsV X (e :: es) (vs ++ ws) (gsC g gs) :=
  let ⟨_, h1, h2⟩ := h.ex; let ⟨_, r1, r2⟩ := r.ex; ⟨_, pgs_cons h1 r1 hs, sndGs_cons h2 r2⟩
theorem gv_tup {es : List Expr} {k n : Nat} {pos : Pos} {vs : List Nat} {gs : FGs} (hc : X.calm = true) (h : GsV X es vs gs) (hn : (assignEach es X.env).length = n := by rfl) (hst : (assignEach es X.env).findIdx? (·.1) = none := by rfl) : GV X (.Tuple es k pos) vs (gfT n gs) :=
  let ⟨_, h1, h2⟩ := h.ex; ⟨_, pg_tup hc h1 hn hst, sndG_tup h2⟩
theorem sndG_rd {K : PySem.W.Frag} {gF : FG} {vs : List Nat} : SndG K (rdG K gF vs) gF vs := fun v d σ ρ S H A T ρ' w le e hv hgf Q k => ⟨d, ρ, S, A, T, ρ', w, le, e, hv, hgf, k⟩
theorem ev_lc {elt tg iter : Expr} {scope : Scope} {own : List (Str × Nat)} {vs : List Nat} {pos : Pos} {fi : FI} {gF : FG} {f : FE} (hc : X.calm = true) (hN : X.N.Nodup) (hi : IV X W tg iter fi) (ok : BlkOk X.N X.env.scope scope own)
    (hg : ∀ (s : Shared) (H : Hp) (C : Addr) (cl : List (Str × Addr)) (fp : List Addr), GV (X.blk s H scope (compEnvC scope cl C X.env) fp) tg vs gF)
    (he : ∀ (s : Shared) (H : Hp) (C : Addr) (cl : List (Str × Addr)) (fp : List Addr), EV (X.blk s H scope (compEnvC scope cl C X.env) fp) W0 elt f) (hvs : own.map (·.2) = vs := by rfl) (hs : ∀ x, foldedSetIterable iter X.env x = pure x := by intro _; rfl) :
    EV X W (.ListComp elt [⟨tg, iter, [], 0⟩] scope pos) (eComp fi gF tYesF f vs) :=
  by
  subst hvs
  obtain ⟨_, i1, i2⟩ := hi.ex
  exact ⟨_, pe_lc (g := rdG X.K gF (own.map (·.2))) (te := rdV X.K W0 (ROr X.K) f) hc hN i1 ok (fun s H C cl fp => (hg s H C cl fp).pg) (fun _ _ _ _ _ => pts_nil) (fun s H C cl fp => (he s H C cl fp).pe) hs, sndE_comp i2 sndG_rd sndT_yes snd_rd⟩
theorem ev_lcIf {elt tg iter c : Expr} {scope : Scope} {own : List (Str × Nat)} {vs : List Nat} {pos : Pos} {fi : FI} {gF : FG} {f : FE} {test : FT} (hc : X.calm = true) (hN : X.N.Nodup) (hi : IV X W tg iter fi) (ok : BlkOk X.N X.env.scope scope own)
    (hg : ∀ (s : Shared) (H : Hp) (C : Addr) (cl : List (Str × Addr)) (fp : List Addr), GV (X.blk s H scope (compEnvC scope cl C X.env) fp) tg vs gF)
    (ht : ∀ (s : Shared) (H : Hp) (C : Addr) (cl : List (Str × Addr)) (fp : List Addr), TV (X.blk s H scope (compEnvC scope cl C X.env) fp) W0 c test)
    (he : ∀ (s : Shared) (H : Hp) (C : Addr) (cl : List (Str × Addr)) (fp : List Addr), EV (X.blk s H scope (compEnvC scope cl C X.env) fp) W0 elt f) (hvs : own.map (·.2) = vs := by rfl) (hs : ∀ x, foldedSetIterable iter X.env x = pure x := by intro _; rfl) :
    EV X W (.ListComp elt [⟨tg, iter, [c], 0⟩] scope pos) (eComp fi gF test f vs) :=
  by
  subst hvs
  obtain ⟨_, i1, i2⟩ := hi.ex
  exact ⟨_, pe_lc (g := rdG X.K gF (own.map (·.2))) (tt := rdV X.K W0 (REq Bool) test) (te := rdV X.K W0 (ROr X.K) f) hc hN i1 ok (fun s H C cl fp => (hg s H C cl fp).pg) (fun s H C cl fp => pts_one (ht s H C cl fp).pt) (fun s H C cl fp => (he s H C cl fp).pe) hs, sndE_comp i2 sndG_rd snd_rd snd_rd⟩
end
end Ls

namespace Ls
open PySem L2
/-! ### statements -/
abbrev FS := En → SO
def Kp (P : List Nat) (σ σ' : St) : Prop := σ'.length = σ.length ∧ ∀ i ∈ P, σ'[i]? = σ[i]?
theorem Kp.refl {P : List Nat} {σ : St} : Kp P σ σ := ⟨rfl, fun _ _ => rfl⟩
theorem Kp.trans {P : List Nat} {σ σ1 σ2 : St} (a : Kp P σ σ1) (b : Kp P σ1 σ2) : Kp P σ σ2 := ⟨b.1.trans a.1, fun i hi => (b.2 i hi).trans (a.2 i hi)⟩
theorem Kp.less {P P' : List Nat} {σ σ' : St} (a : Kp P σ σ') (h : ∀ i ∈ P', i ∈ P) : Kp P' σ σ' := ⟨a.1, fun i hi => a.2 i (h i hi)⟩
section
variable (K : PySem.W.Frag) (W : WX) (P : List Nat) (σ : St) (S H : Hp) (A : Fp)
def PostS (ρ' : En) (q : St → Hp → Prop) : Prop := ∀ σ' S' H' A', WF S' H' A' → ER K S' H' σ' ρ' A' → Tr S H A S' H' A' → Kp P σ σ' → q σ' H'
def PostR (o : O) (ρ' : En) (q : VK) : Prop := ∀ v σ' S' H' A' B, WF S' H' (A' + B) → ER K S' H' σ' ρ' A' → OR K S' H' v o B → Tr S H A S' H' (A' + B) → Kp P σ σ' → q v H'
def PostXS (x : Xn) (ρ' : En) : Prop := ∀ cls d σ' S' H' A', WF S' H' A' → ER K S' H' σ' ρ' A' → XR K S' x cls d → Tr S H A S' H' A' → Kp P σ σ' → W cls d σ' H'
def SOk (t : TS) : SO → Prop
  | .nx ρ' => ∀ D : Ends, PostS K P σ S H A ρ' D.nx → t D σ H
  | .rt o ρ' => ∀ D : Ends, PostR K P σ S H A o ρ' D.rt → t D σ H
  | .bk ρ' => ∀ D : Ends, PostS K P σ S H A ρ' D.bk → t D σ H
  | .ct ρ' => ∀ D : Ends, PostS K P σ S H A ρ' D.ct → t D σ H
  | .exc x ρ' => ∀ D : Ends, PostXS K W P σ S H A x ρ' → t D σ H
  | .bad => True
end
def SndS (K : PySem.W.Frag) (W : WX) (P : List Nat) (t : TS) (f : FS) : Prop := ∀ σ ρ S H A, WF S H A → ER K S H σ ρ A → SOk K W P σ S H A t (f ρ)
structure SV (X : Cx) (W : WX) (P : List Nat) (st : Stmt) (f : FS) : Prop where
  ex : ∃ t, PS X st t ∧ SndS X.K W P t f
structure BV (X : Cx) (W : WX) (P : List Nat) (sts : List Stmt) (f : FS) : Prop where
  ex : ∃ t, PSs X sts t ∧ SndS X.K W P t f
def SO.then (o : SO) (k : En → SO) : SO := match o with
  | .nx ρ => k ρ
  | o => o
def Out.toS {α : Type} (o : Out α) (k : α → En → SO) : SO := match o with
  | .ok a ρ => k a ρ
  | .exc x ρ => .exc x ρ
  | .bad => .bad
section
variable {K : PySem.W.Frag} {W : WX} {P : List Nat} {S H : Hp} {A B C : Fp} {σ : St} {ρ : En}
def sNil : FS := fun ρ => .nx ρ
def sSeq (f g : FS) : FS := fun ρ => (f ρ).then g
theorem sndS_nil : SndS K W P tNext sNil := fun σ ρ S H A w e D k => k σ S H A w e Tr.refl Kp.refl
theorem sndS_bk : SndS K W P tBreak (fun ρ => .bk ρ) := fun σ ρ S H A w e D k => k σ S H A w e Tr.refl Kp.refl
theorem sndS_ct : SndS K W P tCont (fun ρ => .ct ρ) := fun σ ρ S H A w e D k => k σ S H A w e Tr.refl Kp.refl
theorem sndS_never : SndS K W P tNever (fun _ => .bad) := fun _ _ _ _ _ _ _ => True.intro
theorem sndS_seq {t u : TS} {f g : FS} (h1 : SndS K W P t f) (h2 : SndS K W P u g) : SndS K W P (tSeq t u) (sSeq f g) := by
  intro σ ρ S H A w e
  have q := h1 σ ρ S H A w e
  show SOk K W P σ S H A _ ((f ρ).then g)
  cases hf : f ρ with
  | bad => exact True.intro
  | rt o ρ' => rw [hf] at q; exact fun D k => q _ k
  | bk ρ' => rw [hf] at q; exact fun D k => q _ k
  | ct ρ' => rw [hf] at q; exact fun D k => q _ k
  | exc x ρ' => rw [hf] at q; exact fun D k => q _ k
  | nx ρ' =>
    rw [hf] at q
    show SOk K W P σ S H A _ (g ρ')
    cases hg : g ρ' with
    | bad => exact True.intro
    | nx ρ2 =>
      exact fun D k => q { D with nx := u D } fun σ1 S1 H1 A1 w1 e1 t1 k1 => by
        have q2 := h2 σ1 ρ' S1 H1 A1 w1 e1
        rw [hg] at q2
        exact q2 D fun σ2 S2 H2 A2 w2 e2 t2 k2 => k σ2 S2 H2 A2 w2 e2 (t1.trans t2) (k1.trans k2)
    | bk ρ2 =>
      exact fun D k => q { D with nx := u D } fun σ1 S1 H1 A1 w1 e1 t1 k1 => by
        have q2 := h2 σ1 ρ' S1 H1 A1 w1 e1
        rw [hg] at q2
        exact q2 D fun σ2 S2 H2 A2 w2 e2 t2 k2 => k σ2 S2 H2 A2 w2 e2 (t1.trans t2) (k1.trans k2)
    | ct ρ2 =>
      exact fun D k => q { D with nx := u D } fun σ1 S1 H1 A1 w1 e1 t1 k1 => by
        have q2 := h2 σ1 ρ' S1 H1 A1 w1 e1
        rw [hg] at q2
        exact q2 D fun σ2 S2 H2 A2 w2 e2 t2 k2 => k σ2 S2 H2 A2 w2 e2 (t1.trans t2) (k1.trans k2)
    | rt o ρ2 =>
      exact fun D k => q { D with nx := u D } fun σ1 S1 H1 A1 w1 e1 t1 k1 => by
        have q2 := h2 σ1 ρ' S1 H1 A1 w1 e1
        rw [hg] at q2
        exact q2 D fun v σ2 S2 H2 A2 B2 w2 e2 r2 t2 k2 => k v σ2 S2 H2 A2 B2 w2 e2 r2 (t1.trans t2) (k1.trans k2)
    | exc x ρ2 =>
      exact fun D k => q { D with nx := u D } fun σ1 S1 H1 A1 w1 e1 t1 k1 => by
        have q2 := h2 σ1 ρ' S1 H1 A1 w1 e1
        rw [hg] at q2
        exact q2 D fun cls d σ2 S2 H2 A2 w2 e2 x2 t2 k2 => k cls d σ2 S2 H2 A2 w2 e2 x2 (t1.trans t2) (k1.trans k2)
/-- an expression (a test ..) first, then a statement's work with its worth -/
theorem sndS_bind {β α : Type} {R : RR β α} {t : St → Hp → (β → Hp → Prop) → Prop} {u : β → Ends → St → Hp → Prop} {f : En → Out α} {k : α → En → SO} (h : Snd K W R t f)
    (hk : ∀ v a σ ρ S H A B, WF S H (A + B) → ER K S H σ ρ A → R σ S H v a B → SOk K W P σ S H (A + B) (u v) (k a ρ)) : SndS K W P (fun D σ H => t σ H fun v H1 => u v D σ H1) fun ρ => (f ρ).toS k := by
  intro σ ρ S H A w e
  have q := h σ ρ S H A w e
  show SOk K W P σ S H A _ ((f ρ).toS k)
  cases hf : f ρ with
  | bad => exact True.intro
  | exc x ρ' =>
    rw [hf] at q
    exact fun D k => q _ fun cls d S' H' A' w' e' x' t' => k cls d σ S' H' A' w' e' x' t' Kp.refl
  | ok a ρ' =>
    rw [hf] at q
    show SOk K W P σ S H A _ (k a ρ')
    cases hk2 : k a ρ' with
    | bad => exact True.intro
    | nx ρ2 =>
      exact fun D z => q _ fun v S1 H1 A1 B1 w1 e1 r1 t1 => by
        have q2 := hk v a σ ρ' S1 H1 A1 B1 w1 e1 r1
        rw [hk2] at q2
        exact q2 D fun σ2 S2 H2 A2 w2 e2 t2 k2 => z σ2 S2 H2 A2 w2 e2 (t1.trans t2) k2
    | bk ρ2 =>
      exact fun D z => q _ fun v S1 H1 A1 B1 w1 e1 r1 t1 => by
        have q2 := hk v a σ ρ' S1 H1 A1 B1 w1 e1 r1
        rw [hk2] at q2
        exact q2 D fun σ2 S2 H2 A2 w2 e2 t2 k2 => z σ2 S2 H2 A2 w2 e2 (t1.trans t2) k2
    | ct ρ2 =>
      exact fun D z => q _ fun v S1 H1 A1 B1 w1 e1 r1 t1 => by
        have q2 := hk v a σ ρ' S1 H1 A1 B1 w1 e1 r1
        rw [hk2] at q2
        exact q2 D fun σ2 S2 H2 A2 w2 e2 t2 k2 => z σ2 S2 H2 A2 w2 e2 (t1.trans t2) k2
    | rt o ρ2 =>
      exact fun D z => q _ fun v S1 H1 A1 B1 w1 e1 r1 t1 => by
        have q2 := hk v a σ ρ' S1 H1 A1 B1 w1 e1 r1
        rw [hk2] at q2
        exact q2 D fun v2 σ2 S2 H2 A2 B2 w2 e2 r2 t2 k2 => z v2 σ2 S2 H2 A2 B2 w2 e2 r2 (t1.trans t2) k2
    | exc x ρ2 =>
      exact fun D z => q _ fun v S1 H1 A1 B1 w1 e1 r1 t1 => by
        have q2 := hk v a σ ρ' S1 H1 A1 B1 w1 e1 r1
        rw [hk2] at q2
        exact q2 D fun cls d σ2 S2 H2 A2 w2 e2 x2 t2 k2 => z cls d σ2 S2 H2 A2 w2 e2 x2 (t1.trans t2) k2
/-- a statement behind something held that is dropped -/
theorem sOk_less {t : TS} {f : FS} (h : SndS K W P t f) (w : WF S H (A + B)) (e : ER K S H σ ρ A) : SOk K W P σ S H (A + B) t (f ρ) := by
  have q := h σ ρ S H A (w.less le1) e
  have t0 : Tr S H (A + B) S H A := Tr.refl.less le1
  cases hf : f ρ with
  | bad => exact True.intro
  | nx ρ2 => rw [hf] at q; exact fun D z => q D fun σ2 S2 H2 A2 w2 e2 t2 k2 => z σ2 S2 H2 A2 w2 e2 (t0.trans t2) k2
  | bk ρ2 => rw [hf] at q; exact fun D z => q D fun σ2 S2 H2 A2 w2 e2 t2 k2 => z σ2 S2 H2 A2 w2 e2 (t0.trans t2) k2
  | ct ρ2 => rw [hf] at q; exact fun D z => q D fun σ2 S2 H2 A2 w2 e2 t2 k2 => z σ2 S2 H2 A2 w2 e2 (t0.trans t2) k2
  | rt o ρ2 => rw [hf] at q; exact fun D z => q D fun v2 σ2 S2 H2 A2 B2 w2 e2 r2 t2 k2 => z v2 σ2 S2 H2 A2 B2 w2 e2 r2 (t0.trans t2) k2
  | exc x ρ2 => rw [hf] at q; exact fun D z => q D fun cls d σ2 S2 H2 A2 w2 e2 x2 t2 k2 => z cls d σ2 S2 H2 A2 w2 e2 x2 (t0.trans t2) k2
def sIf (c : FT) (f g : FS) : FS := fun ρ => (c ρ).toS fun b ρ' => if b then f ρ' else g ρ'
theorem sndS_if {c : TT} {t u : TS} {fc : FT} {f g : FS} (hc : SndT K W c fc) (h1 : SndS K W P t f) (h2 : SndS K W P u g) : SndS K W P (tIfS c t u) (sIf fc f g) := by
  refine sndS_bind (u := fun b D σ H => if b = true then t D σ H else u D σ H) hc fun b b' σ ρ S H A B w e r => ?_
  obtain ⟨rfl, _⟩ := r
  cases b with
  | true => exact sOk_less h1 w e
  | false => exact sOk_less h2 w e
def sRet (f : FE) : FS := fun ρ => (f ρ).toS fun o ρ' => .rt o ρ'
theorem sndS_ret {t : TE} {f : FE} (h : SndE K W t f) : SndS K W P (tRet t) (sRet f) :=
  sndS_bind (u := fun v D _ H => D.rt v H) h fun v o σ ρ S H A B w e r D k => k v σ S H A B w e r Tr.refl Kp.refl
def sRetN : FS := fun ρ => .rt (.fz .none) ρ
theorem sndS_retN : SndS K W P tRetN sRetN := fun σ ρ S H A w e D k => k .non σ S H A Fp.z (by rw [addz]; exact w) e (.fz .non fun _ => rfl) (by rw [addz]; exact Tr.refl) Kp.refl
def sDrop (f : FE) : FS := fun ρ => (f ρ).toS fun _ ρ' => .nx ρ'
theorem sndS_drop {t : TE} {f : FE} (h : SndE K W t f) : SndS K W P (tDrop t) (sDrop f) :=
  sndS_bind (u := fun _ D σ H => D.nx σ H) h fun v o σ ρ S H A B w e r D k => k σ S H A (w.less le1) e (Tr.refl.less le1) Kp.refl
def sSet (i : Nat) (f : FE) : FS := fun ρ => (f ρ).toS fun o ρ' => if i < ρ'.length then .nx (ρ'.set i (some o)) else .bad
theorem kp_set {i : Nat} {w : Option V} (h : P.contains i = false) : Kp P σ (σ.set i w) := ⟨List.length_set, fun j hj => List.getElem?_set_ne fun z => by
  subst z
  rw [List.contains_iff_mem.mpr hj] at h
  cases h⟩
theorem sndS_set {i : Nat} {t : TE} {f : FE} (h : SndE K W t f) (hP : P.contains i = false) : SndS K W P (tAsg t (gName i)) (sSet i f) := by
  refine sndS_bind (u := fun v D σ H => D.nx (σ.set i (some v)) H) h fun v o σ ρ S H A B w e r => ?_
  show SOk K W P σ S H (A + B) _ (if i < ρ.length then SO.nx (ρ.set i (some o)) else .bad)
  by_cases hi : i < ρ.length
  · rw [if_pos hi]
    intro D k
    obtain ⟨C, e1, l1⟩ := er_store e r hi
    have l2 : ∀ b, (B + C) b ≤ (A + B) b := fun b => by have := l1 b; simp only [add_at]; omega
    exact k _ S H _ (w.less l2) e1 (Tr.refl.less l2) (kp_set hP)
  · rw [if_neg hi]; exact True.intro
/-- (a, b, ..) = e -/
def sAsg (gF : FG) (f : FE) : FS := fun ρ => (f ρ).toS fun o ρ' => match (frz o).bind fun d => gF d ρ' with
  | some ρ2 => .nx ρ2
  | none => .bad
theorem sndS_asg {t : TE} {g : TG} {f : FE} {gF : FG} {vs : List Nat} (h : SndE K W t f) (hg : SndG K g gF vs) (hP : vs.all (fun i => !P.contains i) = true) : SndS K W P (tAsg t g) (sAsg gF f) := by
  refine sndS_bind (u := fun v D σ H => g v σ H D.nx) h fun v o σ ρ S H A B w e r => ?_
  show SOk K W P σ S H (A + B) _ (match (frz o).bind fun d => gF d ρ with
    | some ρ2 => SO.nx ρ2
    | none => .bad)
  cases hz : (frz o).bind fun d => gF d ρ with
  | none => exact True.intro
  | some ρ2 =>
    obtain ⟨d, a1, a2⟩ := Option.bind_eq_some_iff.mp hz
    intro D k
    obtain ⟨w2, t2, sub2⟩ := settle_wf w
    have dq := or_settle (fun b hb => w.dj b (by rw [add_at]; omega)) (fun b => Nat.le_refl _) r a1
    refine hg v d σ ρ (settle S H B) H A A ρ2 w2 (fun _ => Nat.le_refl _) (er_keep sub2 e fun _ _ => rfl) dq a2 _ fun σ' A' e' l' n' k' => ?_
    refine k σ' _ H A' (w2.less l') e' (t2.less l') ⟨n', fun i hi => k' i fun z => ?_⟩
    have h1 := List.all_eq_true.mp hP i z
    rw [List.contains_iff_mem.mpr hi] at h1
    cases h1
/-- a, b = x, y -/
def sPar (i j : Nat) (fa : FA) : FS := fun ρ => (fa ρ).toS fun os ρ' => match os with
  | [a, b] => if i < ρ'.length ∧ j < ρ'.length then .nx ((ρ'.set i (some a)).set j (some b)) else .bad
  | _ => .bad
theorem sndS_par {i j : Nat} {ls : List (Option Nat)} {ta : TA} {fa : FA} (h : Snd K W (RArgs K ls) ta fa) (hP : P.contains i = false) (hP2 : P.contains j = false) : SndS K W P (tPar i j ta) (sPar i j fa) := by
  refine sndS_bind (u := fun vs D σ H => ∃ v w, vs = [v, w] ∧ D.nx ((σ.set i (some v)).set j (some w)) H) h fun vs os σ ρ S H A B w e r => ?_
  obtain ⟨r, _, _⟩ := r
  cases r with
  | nil _ => exact True.intro
  | @cons v1 vs1 x1 xs1 _ B1 C1 q1 r1 z1 =>
    cases r1 with
    | nil _ => exact True.intro
    | @cons v2 vs2 x2 xs2 _ B2 C3 q2 r2 z2 =>
      cases r2 with
      | cons _ _ _ => exact True.intro
      | nil z3 =>
        show SOk K W P σ S H (A + B) _ (if i < ρ.length ∧ j < ρ.length then SO.nx _ else .bad)
        by_cases hi : i < ρ.length ∧ j < ρ.length
        · rw [if_pos hi]
          intro D k
          obtain ⟨C, e1, l1⟩ := er_store e q1 hi.1
          obtain ⟨C2, e2, l2⟩ := er_store e1 q2 (i := j) (by rw [List.length_set]; exact hi.2)
          have l3 : ∀ b, (B2 + C2) b ≤ (A + B) b := fun b => by
            have a1 := l1 b
            have a2 := l2 b
            have a3 := z1 b
            have a4 := z2 b
            simp only [add_at] at a2 ⊢
            omega
          exact ⟨_, _, rfl, k _ S H _ (w.less l3) e2 (Tr.refl.less l3) ((kp_set hP).trans (kp_set hP2))⟩
        · rw [if_neg hi]; exact True.intro
end
section
variable {X : Cx} {W : WX} {P : List Nat} {st : Stmt} {sts : List Stmt} {f g : FS} {e : Expr} {fe : FE} {pos : Pos}
theorem bv_nil : BV X W P [] sNil := ⟨_, pss_nil, sndS_nil⟩
theorem bv_cons (h : SV X W P st f) (r : BV X W P sts g) : BV X W P (st :: sts) (sSeq f g) := let ⟨_, h1, h2⟩ := h.ex; let ⟨_, r1, r2⟩ := r.ex; ⟨_, pss_cons h1 r1, sndS_seq h2 r2⟩
theorem bv_one (h : SV X W P st f) : BV X W P [st] f := let ⟨_, h1, h2⟩ := h.ex; ⟨_, pss_one h1, h2⟩
theorem sv_never : SV X W P st (fun _ => .bad) := ⟨_, ps_never, sndS_never⟩
theorem sv_pass : SV X W P (.Pass pos) sNil := ⟨_, ps_pass, sndS_nil⟩
theorem sv_break : SV X W P (.Break pos) (fun ρ => .bk ρ) := ⟨_, ps_break, sndS_bk⟩
theorem sv_cont : SV X W P (.Continue pos) (fun ρ => .ct ρ) := ⟨_, ps_continue, sndS_ct⟩
theorem sv_ret (h : EV X W e fe) : SV X W P (.Return (some e) pos) (sRet fe) := let ⟨_, h1, h2⟩ := h.ex; ⟨_, ps_ret h1, sndS_ret h2⟩
theorem sv_retN : SV X W P (.Return none pos) sRetN := ⟨_, ps_retN, sndS_retN⟩
theorem sv_if {c : Expr} {a b : List Stmt} {fc : FT} (hc : TV X W c fc) (ha : BV X W P a f) (hb : BV X W P b g) : SV X W P (.If c a b pos) (sIf fc f g) :=
  let ⟨_, c1, c2⟩ := hc.ex; let ⟨_, a1, a2⟩ := ha.ex; let ⟨_, b1, b2⟩ := hb.ex; ⟨_, ps_if c1 a1 b1, sndS_if c2 a2 b2⟩
theorem sv_expr (h : EV X W e fe) (hs : swapsWith e none pos.line X.env = pure false := by rfl) : SV X W P (.Expr e pos) (sDrop fe) := let ⟨_, h1, h2⟩ := h.ex; ⟨_, ps_expr h1 hs, sndS_drop h2⟩
theorem sv_set (i : Nat) {x : Str} {pos' : Pos} (hN : X.N.Nodup) (h : EV X W e fe) (hP : P.contains i = false := by rfl) (hi : X.N[i]? = some x := by rfl) (hx : Loc X.env.scope x := by first | exact Or.inl rfl | exact Or.inr rfl) (hs : swapsWith e (some (.Name x pos')) pos.line X.env = pure false := by rfl) (hf : X.fn x = true ∨ X.env.scope.names.lookup x = some .local := by first | exact .inl rfl | exact .inr rfl | assumption) :
    SV X W P (.Assign [.Name x pos'] e pos) (sSet i fe) := let ⟨_, h1, h2⟩ := h.ex; ⟨_, ps_set hN hi hx h1 hs hf, sndS_set h2 hP⟩
theorem sv_asg {tg : Expr} {vs : List Nat} {gF : FG} (h : EV X W e fe) (hg : GV X tg vs gF) (hP : vs.all (fun i => !P.contains i) = true := by rfl) (hs : swapsWithSole [tg] e pos.line X.env = pure false := by rfl) (hw : swappedStores [tg] e X.env = pure none := by rfl)
    (h1 : (assignEach [tg] X.env).map (·.2) = [assign tg X.env] := by rfl) : SV X W P (.Assign [tg] e pos) (sAsg gF fe) := let ⟨_, e1, e2⟩ := h.ex; let ⟨_, g1, g2⟩ := hg.ex; ⟨_, ps_asg e1 g1 hs hw h1, sndS_asg e2 g2 hP⟩
theorem sv_par (i j : Nat) {x y : Str} {a b : Expr} {ls : List (Option Nat)} {fa : FA} {px py pt : Pos} {kt k2 pt2} (hc : X.calm = true) (hN : X.N.Nodup) (ha : AV X W [a, b] ls fa) (hP : P.contains i = false := by rfl) (hP2 : P.contains j = false := by rfl) (hi : X.N[i]? = some x := by rfl) (hj : X.N[j]? = some y := by rfl) (hij : i ≠ j := by decide)
    (hx : X.env.scope.names.lookup x = some .local := by rfl) (hy : X.env.scope.names.lookup y = some .local := by rfl) (hw : swappedStores [.Tuple [.Name x px, .Name y py] kt pt] (.Tuple [a, b] k2 pt2) X.env = pure (some [x, y]) := by rfl)
    (hs : swapsWithSole [.Tuple [.Name x px, .Name y py] kt pt] (.Tuple [a, b] k2 pt2) pos.line X.env = pure false := by rfl) : SV X W P (.Assign [.Tuple [.Name x px, .Name y py] kt pt] (.Tuple [a, b] k2 pt2) pos) (sPar i j fa) :=
  let ⟨_, a1, a2⟩ := ha.ex; ⟨_, ps_par hc hN hi hj hij hx hy a1 hw hs, sndS_par a2 hP hP2⟩
end
end Ls

namespace Ls
open PySem L2
section
variable {K : PySem.W.Frag} {W : WX} {P : List Nat} {S H : Hp} {A B C : Fp} {σ : St} {ρ : En}
/-! ### x.append(e), x[i] = e of a slot's own list -/
theorem slot_own {j : Nat} {xs : List O} (e : ER K S H σ ρ A) (hj : ρ[j]? = some (some (.lst xs))) : ∃ a vs Bx C, σ[j]? = some (some (.ref a)) ∧ H a = some (.lst vs) ∧ ORs K S H vs xs Bx ∧ ER K S H σ (ρ.set j none) C ∧ ∀ b, A b = Fp.one a b + Bx b + C b := by
  obtain ⟨v, B, C, e1, q, e2, z⟩ := er_get e hj
  cases q with
  | @lst a vs _ _ Bx eh r z2 => exact ⟨a, vs, Bx, C, e1, eh, r, e2, fun b => by rw [z b, z2 b]⟩
/-- the list at a becomes ws, worth ys -/
theorem slot_set {j : Nat} {a : Addr} {ws : List V} {ys : List O} {By T : Fp} (w : WF S H T) (h1 : σ[j]? = some (some (.ref a))) (hj : ∃ x, ρ[j]? = some x) (e : ER K S H σ (ρ.set j none) C) (r : ORs K S H ws ys By) (hT : ∀ b, Fp.one a b + By b + C b ≤ T b) :
    ∃ A', WF S (upd H a (.lst ws)) A' ∧ ER K S (upd H a (.lst ws)) σ (ρ.set j (some (.lst ys))) A' ∧ Tr S H T S (upd H a (.lst ws)) A' := by
  have ta : 0 < T a := by have := hT a; rw [one_same] at this; omega
  have t1 := w.one a
  have h2 := hT a
  rw [one_same] at h2
  obtain ⟨w2, t2⟩ := mutO (u := .lst ws) w ta
  have ne : ∀ {F : Fp}, F a = 0 → ∀ b, 0 < F b → upd H a (.lst ws) b = H b := fun {F} hF b z => upd_ne fun eb => by rw [eb] at z; omega
  have e2 := er_keep (K := K) (S' := S) (H' := upd H a (.lst ws)) (fun _ _ h => h) e (ne (by omega))
  have q2 : OR K S (upd H a (.lst ws)) (.ref a) (.lst ys) (Fp.one a + By) := .lst upd_same (ors_keep (fun _ _ h => h) (ne (by omega)) r) fun b => add_at _ _ b
  obtain ⟨x, hx⟩ := hj
  have e3 := er_back e2 h1 (set_none_get hx) q2
  rw [List.set_set] at e3
  have le : ∀ b, (fun b => (Fp.one a + By) b + C b) b ≤ T b := fun b => by have := hT b; simp only [add_at]; omega
  exact ⟨_, w2.less le, e3, t2.less le⟩
def appK (j : Nat) (o : O) (ρ1 : En) : SO := match ρ1[j]? with
  | some (some (.lst xs)) => if xs.length < sizeLine then .nx (ρ1.set j (some (.lst (xs ++ [o])))) else .bad
  | _ => .bad
def sApp (j : Nat) (f : FE) : FS := fun ρ => match ρ[j]? with
  | some (some (.lst _)) => (f ρ).toS (appK j)
  | _ => .bad
theorem sndS_app {j : Nat} {te : TE} {f : FE} (h : SndE K W te f) : SndS K W P (tDrop (tBM K "list" rAppend (tVar j) (tCons te tNil))) (sApp j f) := by
  intro σ ρ S H A w e
  have q := h σ ρ S H A w e
  unfold sApp
  cases hj : ρ[j]? with
  | none => exact True.intro
  | some x =>
    cases x with
    | none => exact True.intro
    | some o =>
      cases o with
      | fz _ => exact True.intro
      | raw _ => exact True.intro
      | lst xs0 =>
        obtain ⟨a, vs0, _, _, hs, hH, _, _, _⟩ := slot_own e hj
        show SOk K W P σ S H A _ ((f ρ).toS (appK j))
        cases hf : f ρ with
        | bad => exact True.intro
        | exc x ρ' =>
          rw [hf] at q
          exact fun D k => ⟨_, hs, Or.inl ⟨rfl, _, SqL.of hH⟩, q _ fun cls d S' H' A' w' e' x' t' => k cls d σ S' H' A' w' e' x' t' Kp.refl⟩
        | ok o ρ1 =>
          rw [hf] at q
          show SOk K W P σ S H A _ (appK j o ρ1)
          unfold appK
          cases hj1 : ρ1[j]? with
          | none => exact True.intro
          | some x =>
            cases x with
            | none => exact True.intro
            | some o' =>
              cases o' with
              | fz _ => exact True.intro
              | raw _ => exact True.intro
              | lst xs =>
                show SOk K W P σ S H A _ (if xs.length < sizeLine then SO.nx (ρ1.set j (some (.lst (xs ++ [o])))) else .bad)
                by_cases hz : xs.length < sizeLine
                · rw [if_pos hz]
                  intro D k
                  refine ⟨_, hs, Or.inl ⟨rfl, _, SqL.of hH⟩, q _ fun y S1 H1 A1 B1 w1 e1 r1 t1 => ?_⟩
                  obtain ⟨a', vs, Bx, C, hs1, hH1, rx, e2, z2⟩ := slot_own e1 hj1
                  rw [hs] at hs1
                  cases hs1
                  refine ⟨a, vs, y, rfl, rfl, hH1, by rw [ors_len rx]; exact hz, ?_⟩
                  obtain ⟨A', w3, e3, t3⟩ := slot_set w1 hs ⟨_, hj1⟩ e2 (ors_snoc rx r1) fun b => by simp only [add_at]; rw [z2 b]; omega
                  exact k σ S1 _ A' w3 e3 (t1.trans t3) Kp.refl
                · rw [if_neg hz]; exact True.intro
theorem ors_set : ∀ {vs : List V} {os : List O} {A : Fp} {v : V} {o : O} {B : Fp} (n : Nat), ORs K S H vs os A → OR K S H v o B → ∃ C, ORs K S H (vs.set n v) (os.set n o) C ∧ ∀ b, C b ≤ A b + B b
  | _, _, A, _, _, B, n, .nil z, q => ⟨A, .nil z, fun b => by omega⟩
  | _, _, A, _, _, B, 0, .cons (B := B1) (C := C1) q r z, q' => ⟨B + C1, .cons q' r fun b => add_at _ _ b, fun b => by rw [add_at, z b]; omega⟩
  | _, _, A, _, _, B, n + 1, .cons (B := B1) q r z, q' => by
    obtain ⟨C, h1, h2⟩ := ors_set n r q'
    exact ⟨B1 + C, .cons q h1 fun b => add_at _ _ b, fun b => by rw [add_at, z b]; have := h2 b; omega⟩
def ixK (j : Nat) (o : O) (p : Pk) (ρ2 : En) : SO := match ρ2[j]?, pkD ρ2 p with
  | some (some (.lst xs)), some (.int k) => (match ixN xs.length k with
    | some n => .nx (ρ2.set j (some (.lst (xs.set n o))))
    | none => .bad)
  | _, _ => .bad
def sIx (j : Nat) (fi : FP) (f : FE) : FS := fun ρ => (f ρ).toS fun o ρ1 => match ρ1[j]? with
  | some (some _) => (fi ρ1).toS (ixK j o)
  | _ => .bad
theorem sndS_ix {j : Nat} {te ti : TE} {fi : FP} {f : FE} (h : SndE K W te f) (hi : SndP K W ti fi) : SndS K W P (tAsg te (gSub (tVar j) ti rSetL)) (sIx j fi f) := by
  refine sndS_bind (u := fun v D σ H => gSub (tVar j) ti rSetL v σ H D.nx) h fun v o σ ρ S H A B w e r => ?_
  have q := snd_beside hi w e
  cases hj : ρ[j]? with
  | none => exact True.intro
  | some x =>
    cases x with
    | none => exact True.intro
    | some o0 =>
      obtain ⟨u, _, _, hs, _, _, _⟩ := er_get e hj
      show SOk K W P σ S H (A + B) _ ((fi ρ).toS (ixK j o))
      cases hf : fi ρ with
      | bad => exact True.intro
      | exc x ρ' =>
        rw [hf] at q
        exact fun D k => ⟨u, hs, q _ fun cls d S' H' A' w' e' x' t' => k cls d σ S' H' A' w' e' x' t' Kp.refl⟩
      | ok p ρ2 =>
        rw [hf] at q
        show SOk K W P σ S H (A + B) _ (ixK j o p ρ2)
        unfold ixK
        cases hj1 : ρ2[j]? with
        | none => exact True.intro
        | some x =>
          cases x with
          | none => exact True.intro
          | some o' =>
            cases o' with
            | fz _ => exact True.intro
            | raw _ => exact True.intro
            | lst xs =>
              cases hp : pkD ρ2 p with
              | none => exact True.intro
              | some d =>
                cases d with
                | int i =>
                  show SOk K W P σ S H (A + B) _ (match ixN xs.length i with
                    | some n => SO.nx (ρ2.set j (some (.lst (xs.set n o))))
                    | none => .bad)
                  cases hn : ixN xs.length i with
                  | none => exact True.intro
                  | some n =>
                    intro D k
                    refine ⟨u, hs, q _ fun y S1 H1 A1 C1 w1 e1 rp t1 sub1 kp1 => ?_⟩
                    obtain ⟨a, vs, Bx, C, hs1, hH1, rx, e2, z2⟩ := slot_own e1 hj1
                    rw [hs] at hs1
                    cases hs1
                    have r1 : OR K S1 H1 v o B := or_keep sub1 kp1 r
                    obtain ⟨By, r2, l2⟩ := ors_set n rx r1
                    have hy := dp_int (pk_peek w1.sub e1 rp hp)
                    refine ⟨a, vs, i, n, rfl, hy, hH1, by rw [ors_len rx]; exact hn, ?_⟩
                    obtain ⟨A', w3, e3, t3⟩ := slot_set w1 hs ⟨_, hj1⟩ e2 r2 fun b => by have := l2 b; simp only [add_at]; rw [z2 b]; omega
                    exact k σ S1 _ A' w3 e3 (t1.trans t3) Kp.refl
                | _ => exact True.intro
/-! ### x op= e -/
def augK (i : Nat) (a : PyData) (g : PyData → PyData → Option PyData) (p : Pk) (ρ1 : En) : SO := match (pkD ρ1 p).bind fun b => g a b with
  | some c => if i < ρ1.length then .nx (ρ1.set i (some (.fz c))) else .bad
  | none => .bad
def sAug (i : Nat) (g : PyData → PyData → Option PyData) (f : FP) : FS := fun ρ => match ρ[i]? with
  | some (some (.fz (.int n))) => (f ρ).toS (augK i (.int n) g)
  | _ => .bad
theorem sndS_aug {i : Nat} {te : TE} {f : FP} {r : R2} {g : PyData → PyData → Option PyData} (ho : OpS K r g) (h : SndP K W te f) (hP : P.contains i = false) : SndS K W P (tAug i te r) (sAug i g f) := by
  intro σ ρ S H A w e
  have q := h σ ρ S H A w e
  unfold sAug
  cases hj : ρ[i]? with
  | none => exact True.intro
  | some x =>
    cases x with
    | none => exact True.intro
    | some o =>
      cases o with
      | raw _ => exact True.intro
      | lst _ => exact True.intro
      | fz d =>
        cases d with
        | int n =>
          obtain ⟨v, _, _, hs, qv, _, _⟩ := er_get e hj
          have ev : v = .int n := by
            cases qv with
            | fz q _ => exact dp_int q
          subst ev
          show SOk K W P σ S H A _ ((f ρ).toS (augK i (.int n) g))
          cases hf : f ρ with
          | bad => exact True.intro
          | exc x ρ' =>
            rw [hf] at q
            exact fun D k => ⟨_, hs, q _ fun cls d S' H' A' w' e' x' t' => k cls d σ S' H' A' w' e' x' t' Kp.refl⟩
          | ok p ρ1 =>
            rw [hf] at q
            show SOk K W P σ S H A _ (augK i (.int n) g p ρ1)
            unfold augK
            cases hg : (pkD ρ1 p).bind fun b => g (.int n) b with
            | none => exact True.intro
            | some c =>
              obtain ⟨b, g1, g2⟩ := Option.bind_eq_some_iff.mp hg
              show SOk K W P σ S H A _ (if i < ρ1.length then SO.nx (ρ1.set i (some (.fz c))) else .bad)
              by_cases hi : i < ρ1.length
              · rw [if_pos hi]
                intro D k
                refine ⟨_, hs, q _ fun y S1 H1 A1 B1 w1 e1 rp t1 => ?_⟩
                refine ho _ y H1 _ b c (.int n) (pk_peek w1.sub e1 rp g1) g2 _ fun z hz => ?_
                obtain ⟨C, e2, l2⟩ := er_store e1 (OR.fz (hz K S1) (A := Fp.z) fun _ => rfl) hi
                have l3 : ∀ b, (Fp.z + C) b ≤ (A1 + B1) b := fun b => by have := l2 b; simp only [add_at, z_at]; omega
                exact k _ S1 H1 _ (w1.less l3) e2 (t1.less l3) (kp_set hP)
              · rw [if_neg hi]; exact True.intro
        | _ => exact True.intro
/-! ### for -/
def forF (s : Sr) (gF : FG) (body : FS) : Nat → Nat → En → SO
  | 0, _, _ => .bad
  | n + 1, j, ρ => match s.at ρ with
    | none => .bad
    | some ds => (match ds[j]? with
      | none => .nx ρ
      | some d => (match gF d ρ with
        | none => .bad
        | some ρ1 => (match body ρ1 with
          | .nx ρ2 => forF s gF body n (j + 1) ρ2
          | .ct ρ2 => forF s gF body n (j + 1) ρ2
          | .bk ρ2 => .nx ρ2
          | r => r)))
def sFor (Z : List Nat) (fi : FI) (gF : FG) (body : FS) : FS := fun ρ => (fi ρ).toS fun s ρ1 => if s.slots.all fun i => Z.contains i then (match s.at ρ1 with
    | some ds => forF s gF body (ds.length + 1) 0 ρ1
    | none => .bad) else .bad
/-- what is wanted of an outcome -/
def EndS (K : PySem.W.Frag) (W : WX) (P : List Nat) (σ : St) (S H : Hp) (A : Fp) (D : Ends) : SO → Prop
  | .nx ρ' => PostS K P σ S H A ρ' D.nx
  | .rt o ρ' => PostR K P σ S H A o ρ' D.rt
  | .bk ρ' => PostS K P σ S H A ρ' D.bk
  | .ct ρ' => PostS K P σ S H A ρ' D.ct
  | .exc x ρ' => PostXS K W P σ S H A x ρ'
  | .bad => False
theorem sOk_of {t : TS} {out : SO} (h : out ≠ .bad → ∀ D, EndS K W P σ S H A D out → t D σ H) : SOk K W P σ S H A t out := by
  cases out with
  | bad => exact True.intro
  | nx ρ' => exact fun D k => h (fun z => nomatch z) D k
  | rt o ρ' => exact fun D k => h (fun z => nomatch z) D k
  | bk ρ' => exact fun D k => h (fun z => nomatch z) D k
  | ct ρ' => exact fun D k => h (fun z => nomatch z) D k
  | exc x ρ' => exact fun D k => h (fun z => nomatch z) D k
theorem sndS_for {wi : TI} {g : TG} {tb : TS} {Z vs : List Nat} {fi : FI} {gF : FG} {body : FS} (hi : SndI K W wi fi) (hg : SndG K g gF vs) (hb : SndS K W (Z ++ P) tb body) (hv : vs.all (fun i => !(Z ++ P).contains i) = true) : SndS K W P (tFor wi g tb) (sFor Z fi gF body) := by
  refine sndS_bind (u := fun J D σ H => ∃ Wv : Nat → Nat → St → Hp → Prop, (∃ m, Wv 0 m σ H) ∧ ∀ i m σ H, Wv i m σ H →
    (J.stop i H ∧ D.nx σ H) ∨ (J.go i H ∧ ∃ Nx : St → Hp → Prop, (∀ σ' H', Nx σ' H' → ∃ m', m' < m ∧ Wv (i + 1) m' σ' H') ∧ ∀ x H', J.yld i H x H' → g x σ H' fun σ2 H2 => tb { D with nx := Nx, ct := Nx, bk := D.nx } σ2 H2)) hi fun J s σ ρ S H A B w e r => ?_
  obtain ⟨src, _⟩ := r
  show SOk K W P σ S H (A + B) _ (if s.slots.all fun i => Z.contains i then (match s.at ρ with
    | some ds => forF s gF body (ds.length + 1) 0 ρ
    | none => .bad) else .bad)
  by_cases hz : (s.slots.all fun i => Z.contains i) = true
  · rw [if_pos hz]
    cases hat : s.at ρ with
    | none => exact True.intro
    | some ds =>
      show SOk K W P σ S H (A + B) _ (forF s gF body (ds.length + 1) 0 ρ)
      refine sOk_of fun nb D k => ?_
      generalize hout : forF s gF body (ds.length + 1) 0 ρ = out at nb k
      have slotOk : ∀ σ', Kp (Z ++ P) σ σ' → ∀ i ∈ s.slots, σ'[i]? = σ[i]? := fun σ' h i hi => h.2 i (List.mem_append_left _ (List.contains_iff_mem.mp (List.all_eq_true.mp hz i hi)))
      have PL : ∀ i ∈ P, i ∈ Z ++ P := fun i hi => List.mem_append_right _ hi
      refine ⟨fun j m σ' H' => ∃ ρ' S' A', WF S' H' A' ∧ ER K S' H' σ' ρ' A' ∧ Tr S H (A + B) S' H' A' ∧ Kp (Z ++ P) σ σ' ∧ forF s gF body m j ρ' = out, ⟨ds.length + 1, ρ, S, A, w.less le1, e, Tr.refl.less le1, Kp.refl, hout⟩, ?_⟩
      rintro j m σ1 H1 ⟨ρ1, S1, A1, w1, e1, t1, k1, hfor⟩
      cases m with
      | zero => exact absurd hfor.symm nb
      | succ n =>
        unfold forF at hfor
        cases hat1 : s.at ρ1 with
        | none => rw [hat1] at hfor; exact absurd hfor.symm nb
        | some ds1 =>
          rw [hat1] at hfor
          dsimp only at hfor
          have hsrc := src σ1 ρ1 S1 H1 A1 A1 j ds1 (slotOk σ1 k1) t1.fz w1 (fun _ => Nat.le_refl _) e1 hat1
          cases hj : ds1[j]? with
          | none =>
            rw [hj] at hfor
            dsimp only at hfor
            rw [← hfor] at k
            exact .inl ⟨hsrc.2 (List.getElem?_eq_none_iff.mp hj), k σ1 S1 H1 A1 w1 e1 t1 (k1.less PL)⟩
          | some d =>
            rw [hj] at hfor
            dsimp only at hfor
            obtain ⟨go, yl⟩ := hsrc.1 d hj
            refine .inr ⟨go, fun σ' H' => ∃ ρ' S' A', WF S' H' A' ∧ ER K S' H' σ' ρ' A' ∧ Tr S H (A + B) S' H' A' ∧ Kp (Z ++ P) σ σ' ∧ forF s gF body n (j + 1) ρ' = out, fun σ' H' h => ⟨n, Nat.lt_succ_self n, h⟩, fun x H2 hy => ?_⟩
            obtain ⟨S2, w2, t2, k2, hx⟩ := yl x H2 hy
            cases hgf : gF d ρ1 with
            | none => rw [hgf] at hfor; exact absurd hfor.symm nb
            | some ρ3 =>
              rw [hgf] at hfor
              dsimp only at hfor
              refine hg x d σ1 ρ1 S2 H2 A1 A1 ρ3 w2 (fun _ => Nat.le_refl _) (er_keep t2.fz e1 k2) hx hgf _ fun σ3 A3 e3 l3 n3 k3 => ?_
              have w3 := w2.less l3
              have t3 : Tr S H (A + B) S2 H2 A3 := (t1.trans t2).less l3
              have kp3 : Kp (Z ++ P) σ1 σ3 := ⟨n3, fun i hi => k3 i fun z => by
                have h1 := List.all_eq_true.mp hv i z
                rw [List.contains_iff_mem.mpr hi] at h1
                cases h1⟩
              have q := hb σ3 ρ3 S2 H2 A3 w3 e3
              cases hbody : body ρ3 with
              | bad => rw [hbody] at hfor; exact absurd hfor.symm nb
              | nx ρ4 =>
                rw [hbody] at hfor q
                exact q _ fun σ4 S4 H4 A4 w4 e4 t4 k4 => ⟨ρ4, S4, A4, w4, e4, t3.trans t4, (k1.trans kp3).trans k4, hfor⟩
              | ct ρ4 =>
                rw [hbody] at hfor q
                exact q _ fun σ4 S4 H4 A4 w4 e4 t4 k4 => ⟨ρ4, S4, A4, w4, e4, t3.trans t4, (k1.trans kp3).trans k4, hfor⟩
              | bk ρ4 =>
                rw [hbody] at hfor q
                dsimp only at hfor
                rw [← hfor] at k
                exact q _ fun σ4 S4 H4 A4 w4 e4 t4 k4 => k σ4 S4 H4 A4 w4 e4 (t3.trans t4) (((k1.trans kp3).trans k4).less PL)
              | rt o ρ4 =>
                rw [hbody] at hfor q
                dsimp only at hfor
                rw [← hfor] at k
                exact q _ fun v σ4 S4 H4 A4 B4 w4 e4 r4 t4 k4 => k v σ4 S4 H4 A4 B4 w4 e4 r4 (t3.trans t4) (((k1.trans kp3).trans k4).less PL)
              | exc y ρ4 =>
                rw [hbody] at hfor q
                dsimp only at hfor
                rw [← hfor] at k
                exact q _ fun cls d σ4 S4 H4 A4 w4 e4 x4 t4 k4 => k cls d σ4 S4 H4 A4 w4 e4 x4 (t3.trans t4) (((k1.trans kp3).trans k4).less PL)
  · rw [if_neg hz]; exact True.intro
/-! ### while -/
def whF (c : FT) (body : FS) : Nat → En → SO
  | 0, _ => .bad
  | n + 1, ρ => (c ρ).toS fun b ρ1 => if b then (match body ρ1 with
      | .nx ρ2 => whF c body n ρ2
      | .ct ρ2 => whF c body n ρ2
      | .bk ρ2 => .nx ρ2
      | r => r) else .nx ρ1
open Classical in
noncomputable def sWh (c : FT) (body : FS) : FS := fun ρ => if h : ∃ n, whF c body n ρ ≠ .bad then whF c body (Classical.choose h) ρ else .bad
theorem whF_mono {c : FT} {body : FS} : ∀ (n : Nat) (ρ : En), whF c body n ρ ≠ .bad → whF c body (n + 1) ρ = whF c body n ρ
  | 0, _, h => absurd rfl h
  | n + 1, ρ, h => by
    have e1 : whF c body (n + 1) ρ = (c ρ).toS fun b ρ1 => if b then (match body ρ1 with
      | .nx ρ2 => whF c body n ρ2
      | .ct ρ2 => whF c body n ρ2
      | .bk ρ2 => .nx ρ2
      | r => r) else .nx ρ1 := rfl
    have e2 : whF c body (n + 1 + 1) ρ = (c ρ).toS fun b ρ1 => if b then (match body ρ1 with
      | .nx ρ2 => whF c body (n + 1) ρ2
      | .ct ρ2 => whF c body (n + 1) ρ2
      | .bk ρ2 => .nx ρ2
      | r => r) else .nx ρ1 := rfl
    rw [e1] at h
    rw [e2, e1]
    cases hc : c ρ with
    | bad => rfl
    | exc x ρ' => rfl
    | ok b ρ1 =>
      rw [hc] at h
      cases b with
      | false => rfl
      | true =>
        dsimp only [Out.toS] at h ⊢
        cases hb : body ρ1 with
        | nx ρ2 => rw [hb] at h; exact whF_mono n ρ2 h
        | ct ρ2 => rw [hb] at h; exact whF_mono n ρ2 h
        | _ => rfl
theorem whF_le {c : FT} {body : FS} {n : Nat} {ρ : En} (h : whF c body n ρ ≠ .bad) : ∀ k, whF c body (n + k) ρ = whF c body n ρ
  | 0 => rfl
  | k + 1 => by
    have i := whF_le h k
    rw [← i, ← whF_mono (n + k) ρ (by rw [i]; exact h)]
    rfl
theorem sWh_eq {c : FT} {body : FS} {n : Nat} {ρ : En} (h : whF c body n ρ ≠ .bad) : sWh c body ρ = whF c body n ρ := by
  have hx : ∃ n, whF c body n ρ ≠ .bad := ⟨n, h⟩
  unfold sWh
  rw [dif_pos hx]
  have h2 := Classical.choose_spec hx
  have a := whF_le h (Classical.choose hx)
  have b := whF_le h2 n
  rw [Nat.add_comm] at a
  rw [← b, a]
theorem sndS_wh {t : TT} {tb : TS} {c : FT} {body : FS} (hc : SndT K W t c) (hb : SndS K W P tb body) : SndS K W P (tWhile t tb) (sWh c body) := by
  intro σ ρ S H A w e
  unfold sWh
  by_cases hx : ∃ n, whF c body n ρ ≠ .bad
  · rw [dif_pos hx]
    refine sOk_of fun nb D k => ?_
    generalize hout : whF c body (Classical.choose hx) ρ = out at nb k
    refine ⟨fun m σ' H' => ∃ ρ' S' A', WF S' H' A' ∧ ER K S' H' σ' ρ' A' ∧ Tr S H A S' H' A' ∧ Kp P σ σ' ∧ whF c body m ρ' = out, ⟨_, ρ, S, A, w, e, Tr.refl, Kp.refl, hout⟩, ?_⟩
    rintro m σ1 H1 ⟨ρ1, S1, A1, w1, e1, t1, k1, hwh⟩
    cases m with
    | zero => exact absurd hwh.symm nb
    | succ n =>
      have hwh : (c ρ1).toS (fun b ρ1 => if b then (match body ρ1 with
        | .nx ρ2 => whF c body n ρ2
        | .ct ρ2 => whF c body n ρ2
        | .bk ρ2 => .nx ρ2
        | r => r) else .nx ρ1) = out := hwh
      have q := hc σ1 ρ1 S1 H1 A1 w1 e1
      cases hcf : c ρ1 with
      | bad => rw [hcf] at hwh; exact absurd hwh.symm nb
      | exc x ρ2 =>
        rw [hcf] at hwh q
        have hwh : SO.exc x ρ2 = out := hwh
        rw [← hwh] at k
        exact q _ fun cls d S' H' A' w' e' x' t' => k cls d σ1 S' H' A' w' e' x' (t1.trans t') k1
      | ok b ρ2 =>
        rw [hcf] at hwh q
        refine q _ fun b' S2 H2 A2 B2 w2 e2 r2 t2 => ?_
        obtain ⟨rfl, _⟩ := r2
        have w2' := w2.less (B := A2) le1
        have t2' : Tr S H A S2 H2 A2 := (t1.trans t2).less le1
        cases b' with
        | false =>
          have hwh : SO.nx ρ2 = out := hwh
          rw [← hwh] at k
          exact k σ1 S2 H2 A2 w2' e2 t2' k1
        | true =>
          dsimp only [Out.toS] at hwh
          refine ⟨fun σ' H' => ∃ ρ' S' A', WF S' H' A' ∧ ER K S' H' σ' ρ' A' ∧ Tr S H A S' H' A' ∧ Kp P σ σ' ∧ whF c body n ρ' = out, fun σ' H' h => ⟨n, Nat.lt_succ_self n, h⟩, ?_⟩
          have q2 := hb σ1 ρ2 S2 H2 A2 w2' e2
          cases hbody : body ρ2 with
          | bad => rw [hbody] at hwh; exact absurd hwh.symm nb
          | nx ρ4 =>
            rw [hbody] at hwh q2
            exact q2 _ fun σ4 S4 H4 A4 w4 e4 t4 k4 => ⟨ρ4, S4, A4, w4, e4, t2'.trans t4, k1.trans k4, hwh⟩
          | ct ρ4 =>
            rw [hbody] at hwh q2
            exact q2 _ fun σ4 S4 H4 A4 w4 e4 t4 k4 => ⟨ρ4, S4, A4, w4, e4, t2'.trans t4, k1.trans k4, hwh⟩
          | bk ρ4 =>
            rw [hbody] at hwh q2
            dsimp only at hwh
            rw [← hwh] at k
            exact q2 _ fun σ4 S4 H4 A4 w4 e4 t4 k4 => k σ4 S4 H4 A4 w4 e4 (t2'.trans t4) (k1.trans k4)
          | rt o ρ4 =>
            rw [hbody] at hwh q2
            dsimp only at hwh
            rw [← hwh] at k
            exact q2 _ fun v σ4 S4 H4 A4 B4 w4 e4 r4 t4 k4 => k v σ4 S4 H4 A4 B4 w4 e4 r4 (t2'.trans t4) (k1.trans k4)
          | exc y ρ4 =>
            rw [hbody] at hwh q2
            dsimp only at hwh
            rw [← hwh] at k
            exact q2 _ fun cls d σ4 S4 H4 A4 w4 e4 x4 t4 k4 => k cls d σ4 S4 H4 A4 w4 e4 x4 (t2'.trans t4) (k1.trans k4)
  · rw [dif_neg hx]; exact True.intro
end
end Ls

namespace Ls
open PySem L2
section
variable {X : Cx} {W : WX} {P : List Nat} {e i : Expr} {fe : FE} {fi : FP} {pos : Pos}
theorem bm_of {r : V → List V → Hp → VK → Prop} {id : String} (h : MtM X id r) : MtR X id r := by
  first | exact h | exact MtM.mt h | exact mt_of h
theorem sv_app (j : Nat) {x : Str} {p1 p2 cpos : Pos} (h : EV X W e fe) (hN : X.N[j]? = some x := by rfl) (hv : Vis X.env.scope x := by first | exact Or.inl rfl | exact Or.inr (Or.inl rfl) | exact Or.inr (Or.inr rfl)) (hd : (x == ("__debug__" : Str)) = false := by decide) (hcd : (x == ("__classdict__" : Str)) = false := by decide)
    (hbase : attributeBase (.Name x p1) "append" X.env (eval (.Name x p1) X.env) = eval (.Name x p1) X.env := by rfl)
    (hfew : ((backTo cpos (starEach [e] X.env)).all (fun x => !x.1) && (backToKw cpos (keywordEach [] X.env)).all (fun x => x.1.isSome)
      && decide ([e].length + ([] : List Keyword).length + (if ([] : List Keyword).isEmpty then 0 else 1) < 30)) = true := by rfl)
    (hline : (p2.endLine == cpos.line) = true := by rfl) (hs : starEach [e] X.env = (false, eval e X.env) :: starEach [] X.env := by rfl) (hplain : (backTo cpos (starEach [] X.env)).any (·.1) = false := by rfl)
    (hsw : swapsWith (.Call (.Attribute (.Name x p1) "append" p2) [e] [] cpos) none pos.line X.env = pure false := by rfl) :
    SV X W P (.Expr (.Call (.Attribute (.Name x p1) "append" p2) [e] [] cpos) pos) (sApp j fe) :=
  let ⟨_, h1, h2⟩ := h.ex
  ⟨_, ps_expr (pe_bm PySem.F.plainAttrs_list PySem.F.slot_list_append PySem.F.type_list_append mt_append (pe_var hN hv hd hcd) (pa_cons h1 pa_nil hs) hbase hfew hline hs hplain) hsw, sndS_app h2⟩
theorem sv_ix (j : Nat) {x : Str} {p1 p2 : Pos} (h : EV X W e fe) (hi : PV X W i fi) (hN : X.N[j]? = some x := by rfl) (hv : Vis X.env.scope x := by first | exact Or.inl rfl | exact Or.inr (Or.inl rfl) | exact Or.inr (Or.inr rfl)) (hd : (x == ("__debug__" : Str)) = false := by decide) (hcd : (x == ("__classdict__" : Str)) = false := by decide)
    (ha : ∀ v, assign (.Subscript (.Name x p1) i p2) X.env v = (do
      let ov ← holding [v] (eval (.Name x p1) X.env)
      let iv ← holding [v, ov] (eval i X.env)
      standAt p2
      holding [v, ov, iv] (setItem ov iv v)
      release [v, ov, iv] []) := by intro _; rfl)
    (hs : swapsWithSole [.Subscript (.Name x p1) i p2] e pos.line X.env = pure false := by rfl) (hw : swappedStores [.Subscript (.Name x p1) i p2] e X.env = pure none := by rfl)
    (h1 : (assignEach [.Subscript (.Name x p1) i p2] X.env).map (·.2) = [assign (.Subscript (.Name x p1) i p2) X.env] := by rfl) : SV X W P (.Assign [.Subscript (.Name x p1) i p2] e pos) (sIx j fi fe) :=
  let ⟨_, e1, e2⟩ := h.ex; let ⟨_, i1, i2⟩ := hi.ex
  ⟨_, ps_asg e1 (pg_sub (pe_var hN hv hd hcd) i1 set_list ha) hs hw h1, sndS_ix e2 i2⟩
theorem ip_of {op : Operator} {r : R2} (h : OpR X (inplaceOp op) r) : PIp X op r := h
theorem iop_add : OpR X (inplaceOp .Add) (rI0 fun i j => .int (i + j)) := opI0 fun _ _ _ _ _ _ _ q => PyProof.Rows.iadd_int q
theorem iop_sub : OpR X (inplaceOp .Sub) (rI0 fun i j => .int (i - j)) := opI0 fun _ _ _ _ _ _ _ q => PyProof.Rows.isub_int q
theorem iop_mul : OpR X (inplaceOp .Mult) (rI CMulW fun i j => .int (i * j)) := opI fun _ _ _ _ _ _ _ hc q => PyProof.Rows.imul_int q hc.ok
theorem iop_div : OpR X (inplaceOp .FloorDiv) (rI CDivX fun i j => .int (i.fdiv j)) := opI fun _ _ _ _ _ _ _ hc q => PyProof.Rows.ifloordiv_int hc.1 q (.inl (PyProof.noPylong_of_log2 hc.2))
theorem iop_mod : OpR X (inplaceOp .Mod) (rI (fun _ j => j ≠ 0) fun i j => .int (i.fmod j)) := opI fun _ _ _ _ _ _ _ hc q => PyProof.Rows.imod_int hc q
theorem sv_aug (j : Nat) {op : Operator} {r : R2} {g : PyData → PyData → Option PyData} {x : Str} {pos' : Pos} (hN : X.N.Nodup) (ho : OpR X (inplaceOp op) r) (hs : OpS X.K r g) (h : PV X W e fi) (hP : P.contains j = false := by rfl) (hi : X.N[j]? = some x := by rfl) (hx : Loc X.env.scope x := by first | exact Or.inl rfl | exact Or.inr rfl) (hf : X.fn x = true ∨ X.env.scope.names.lookup x = some .local := by first | exact .inl rfl | exact .inr rfl | assumption) :
    SV X W P (.AugAssign (.Name x pos') op e pos) (sAug j g fi) := let ⟨_, e1, e2⟩ := h.ex; ⟨_, ps_aug hN hi hx e1 (ip_of ho) hf, sndS_aug hs e2 hP⟩
theorem sv_for {tg iter : Expr} {body : List Stmt} {Z vs : List Nat} {f : FI} {gF : FG} {fb : FS} (hp : PassesOwn (model X.prog X.w) X.A X.env X.xe) (hc : X.calm = true) (hi : IV X W tg iter f) (hg : GV X tg vs gF) (hb : BV X W (Z ++ P) body fb) (hv : vs.all (fun i => !(Z ++ P).contains i) = true := by rfl)
    (hs : ∀ x, foldedSetIterable iter X.env x = pure x := by intro _; rfl) : SV X W P (.For tg iter body [] pos) (sFor Z f gF fb) :=
  let ⟨_, i1, i2⟩ := hi.ex; let ⟨_, g1, g2⟩ := hg.ex; let ⟨_, b1, b2⟩ := hb.ex; ⟨_, ps_for hp hc i1 g1 b1 hs, sndS_for i2 g2 b2 hv⟩
theorem sv_wh {c : Expr} {body : List Stmt} {fc : FT} {fb : FS} (hp : PassesOwn (model X.prog X.w) X.A X.env X.xe) (hc : TV X W c fc) (hb : BV X W P body fb) : SV X W P (.While c body [] pos) (sWh fc fb) :=
  let ⟨_, c1, c2⟩ := hc.ex; let ⟨_, b1, b2⟩ := hb.ex; ⟨_, ps_while hp c1 b1, sndS_wh c2 b2⟩
/-- a local that is handed out with all it holds -/
theorem ev_move (j : Nat) {x : Str} (hN : X.N[j]? = some x := by rfl) (hv : Vis X.env.scope x := by first | exact Or.inl rfl | exact Or.inr (Or.inl rfl) | exact Or.inr (Or.inr rfl)) (hd : (x == ("__debug__" : Str)) = false := by decide) (hcd : (x == ("__classdict__" : Str)) = false := by decide) : EV X W (.Name x pos) (eLend j) := by
  refine ⟨_, pe_var hN hv hd hcd, fun σ ρ S H A w e => ?_⟩
  have q := snd_lend (K := X.K) (W := W) (i := j) σ ρ S H A w e
  cases hf : eLend j ρ with
  | bad => exact True.intro
  | exc x ρ' => rw [hf] at q; exact q
  | ok o ρ' => rw [hf] at q; exact fun Q k => q Q fun v S' H' A' B w' e' r' t' => k v S' H' A' B w' e' r'.1 t'
/-- y = [e for .. in ..], on one line -/
theorem sv_setLc (j : Nat) {y : Str} {py : Pos} {elt tg iter : Expr} {scope : Scope} {own : List (Str × Nat)} {vs : List Nat} {cpos : Pos} {fi : FI} {gF : FG} {f : FE} (hc : X.calm = true) (hN : X.N.Nodup) (hi : IV X W tg iter fi) (ok : BlkOk X.N X.env.scope scope own)
    (hg : ∀ (s : Shared) (H : Hp) (C : Addr) (cl : List (Str × Addr)) (fp : List Addr), GV (X.blk s H scope (compEnvC scope cl C X.env) fp) tg vs gF)
    (he : ∀ (s : Shared) (H : Hp) (C : Addr) (cl : List (Str × Addr)) (fp : List Addr), EV (X.blk s H scope (compEnvC scope cl C X.env) fp) W0 elt f)
    (hsw : swapsWith (.ListComp elt [⟨tg, iter, [], 0⟩] scope cpos) (some (.Name y py)) pos.line X.env = pure true) (hP : P.contains j = false := by rfl) (hy : X.N[j]? = some y := by rfl) (hyl : X.env.scope.names.lookup y = some .local := by rfl) (hvs : own.map (·.2) = vs := by rfl) (hs : ∀ x, foldedSetIterable iter X.env x = pure x := by intro _; rfl) :
    SV X W P (.Assign [.Name y py] (.ListComp elt [⟨tg, iter, [], 0⟩] scope cpos) pos) (sSet j (eComp fi gF tYesF f vs)) :=
  by
  subst hvs
  obtain ⟨_, i1, i2⟩ := hi.ex
  exact ⟨_, ps_setLc (g := rdG X.K gF (own.map (·.2))) (te := rdV X.K W0 (ROr X.K) f) hc hN hy hyl hsw i1 ok (fun s H C cl fp => (hg s H C cl fp).pg) (fun _ _ _ _ _ => pts_nil) (fun s H C cl fp => (he s H C cl fp).pe) hs, sndS_set (sndE_comp i2 sndG_rd sndT_yes snd_rd) hP⟩
theorem sv_setLcIf (j : Nat) {y : Str} {py : Pos} {elt tg iter c : Expr} {scope : Scope} {own : List (Str × Nat)} {vs : List Nat} {cpos : Pos} {fi : FI} {gF : FG} {f : FE} {test : FT} (hc : X.calm = true) (hN : X.N.Nodup) (hi : IV X W tg iter fi) (ok : BlkOk X.N X.env.scope scope own)
    (hg : ∀ (s : Shared) (H : Hp) (C : Addr) (cl : List (Str × Addr)) (fp : List Addr), GV (X.blk s H scope (compEnvC scope cl C X.env) fp) tg vs gF)
    (ht : ∀ (s : Shared) (H : Hp) (C : Addr) (cl : List (Str × Addr)) (fp : List Addr), TV (X.blk s H scope (compEnvC scope cl C X.env) fp) W0 c test)
    (he : ∀ (s : Shared) (H : Hp) (C : Addr) (cl : List (Str × Addr)) (fp : List Addr), EV (X.blk s H scope (compEnvC scope cl C X.env) fp) W0 elt f)
    (hsw : swapsWith (.ListComp elt [⟨tg, iter, [c], 0⟩] scope cpos) (some (.Name y py)) pos.line X.env = pure true) (hP : P.contains j = false := by rfl) (hy : X.N[j]? = some y := by rfl) (hyl : X.env.scope.names.lookup y = some .local := by rfl) (hvs : own.map (·.2) = vs := by rfl) (hs : ∀ x, foldedSetIterable iter X.env x = pure x := by intro _; rfl) :
    SV X W P (.Assign [.Name y py] (.ListComp elt [⟨tg, iter, [c], 0⟩] scope cpos) pos) (sSet j (eComp fi gF test f vs)) :=
  by
  subst hvs
  obtain ⟨_, i1, i2⟩ := hi.ex
  exact ⟨_, ps_setLc (g := rdG X.K gF (own.map (·.2))) (tt := rdV X.K W0 (REq Bool) test) (te := rdV X.K W0 (ROr X.K) f) hc hN hy hyl hsw i1 ok (fun s H C cl fp => (hg s H C cl fp).pg) (fun s H C cl fp => pts_one (ht s H C cl fp).pt) (fun s H C cl fp => (he s H C cl fp).pe) hs, sndS_set (sndE_comp i2 sndG_rd snd_rd snd_rd) hP⟩
end
/-! ### a def -/
def isFz : O → Bool
  | .fz _ => true
  | .raw _ => true
  | .lst _ => false
def finA (prot : List Nat) (ρ' : En) : Nat → List O → Option (List O)
  | _, [] => some []
  | i, a :: as => (if prot.contains i then (ρ'[i]?).bind id else if isFz a then some a else none).bind fun o => (finA prot ρ' (i + 1) as).map fun os => o :: os
def entry (m : Nat) (as : List O) : En := as.map some ++ List.replicate (m - as.length) none
def runFn (m : Nat) (prot : List Nat) (body : FS) : List O → FO := fun as => match body (entry m as) with
  | .nx ρ' => (match finA prot ρ' 0 as with
    | some as' => .ok (.fz .none) as'
    | none => .bad)
  | .rt o ρ' => (match finA prot ρ' 0 as with
    | some as' => .ok o as'
    | none => .bad)
  | .exc x ρ' => (match finA prot ρ' 0 as with
    | some as' => .exc x as'
    | none => .bad)
  | _ => .bad
section
variable {K : PySem.W.Frag} {S H S' H' : Hp} {A : Fp}
theorem er_repl : ∀ n : Nat, ER K S H (List.replicate n none) (List.replicate n none) Fp.z
  | 0 => .nil fun _ => rfl
  | n + 1 => .non (er_repl n)
theorem er_entry : ∀ {vs : List V} {as : List O} {A : Fp} {n : Nat}, ORs K S H vs as A → ER K S H (vs.map some ++ List.replicate n none) (as.map some ++ List.replicate n none) A
  | _, _, _, n, .nil z => er_fp (er_repl n) z
  | _, _, _, n, .cons q r z => .som q (er_entry r) z
theorem or_fz {v : V} {o : O} (q : OR K S H v o A) (h : isFz o = true) (sub : ∀ a u, S a = some u → S' a = some u) : OR K S' H' v o Fp.z := by
  cases q with
  | fz q _ => exact .fz (dp_mono sub q) fun _ => rfl
  | raw _ => exact .raw fun _ => rfl
  | lst _ _ _ => cases h
theorem er_args {prot : List Nat} {σ' : St} {ρ0 : En} (sub : ∀ a u, S a = some u → S' a = some u) : ∀ {vs : List V} {as as' : List O} {A A' : Fp} {i : Nat} {ρ' : En}, ORs K S H vs as A → (∀ j v, vs[j]? = some v → (i + j) ∈ prot → σ'[i + j]? = some (some v)) → ER K S' H' σ' ρ' A' → (∀ j, i ≤ j → ρ'[j]? = ρ0[j]?) → finA prot ρ0 i as = some as' → ∃ A'', ORs K S' H' vs as' A'' ∧ ∀ b, A'' b ≤ A' b
  | _, _, as', _, A', i, ρ', .nil _, _, _, _, hf => by
    cases hf
    exact ⟨Fp.z, .nil fun _ => rfl, fun b => Nat.zero_le _⟩
  | _, _, as', _, A', i, ρ', .cons (v := v) (vs := vs) (x := a) (xs := as) q r z, hk, e, hρ, hf => by
    have hf : (if prot.contains i then (ρ0[i]?).bind id else if isFz a then some a else none).bind (fun o => (finA prot ρ0 (i + 1) as).map fun os => o :: os) = some as' := hf
    obtain ⟨o, a1, a2⟩ := Option.bind_eq_some_iff.mp hf
    obtain ⟨os, b1, b2⟩ := Option.map_eq_some_iff.mp a2
    subst b2
    have hk' : ∀ j u, vs[j]? = some u → (i + 1 + j) ∈ prot → σ'[i + 1 + j]? = some (some u) := fun j u hj hm => by
      have := hk (j + 1) u (by simpa using hj) (by rw [show i + (j + 1) = i + 1 + j by omega]; exact hm)
      rw [show i + (j + 1) = i + 1 + j by omega] at this
      exact this
    by_cases hp : prot.contains i = true
    · rw [if_pos hp] at a1
      obtain ⟨y, c1, c2⟩ := Option.bind_eq_some_iff.mp a1
      have c2 : y = some o := c2
      subst c2
      obtain ⟨v', B, C, h1, q', e', z'⟩ := er_get e (i := i) (o := o) (by rw [hρ i (Nat.le_refl _)]; exact c1)
      have h2 := hk 0 v rfl (List.contains_iff_mem.mp hp)
      rw [Nat.add_zero, h1] at h2
      cases h2
      obtain ⟨A2, r2, l2⟩ := er_args sub r hk' e' (fun j hj => by rw [List.getElem?_set_ne (by omega)]; exact hρ j (by omega)) b1
      exact ⟨B + A2, .cons q' r2 fun b => add_at _ _ b, fun b => by rw [add_at, z' b]; have := l2 b; omega⟩
    · rw [if_neg hp] at a1
      by_cases hz : isFz a = true
      · rw [if_pos hz] at a1
        cases a1
        obtain ⟨A2, r2, l2⟩ := er_args sub r hk' e (fun j hj => hρ j (by omega)) b1
        exact ⟨Fp.z + A2, .cons (or_fz q hz sub) r2 fun b => add_at _ _ b, fun b => by rw [add_at, z_at]; have := l2 b; omega⟩
      · rw [if_neg hz] at a1; cases a1
end
section
variable {P : Program} {w : World} {K : PySem.W.Frag} {mg : Str → Option Value} {base : Heap} {x qual : Str} {params : Arguments} {body : List Stmt} {scope : Scope} {dvs : List V} {kws : List (Str × V)} {f : Addr} {fd : FuncData}
abbrev WF' (E : XK) : WX := fun cls d _ H => E cls d H
theorem mkFn {N ps : List Str} {k : Nat} {prot : List Nat} {fb : FS} (F : FunD K x qual params body scope dvs kws f fd) (Sc : FnScope N ps scope) (hp : prot.all (fun i => decide (i < ps.length)) = true)
    (h : ∀ (cdv : Value) (A : Around) (outer : List Env) (s : Shared) (H : Hp) (E : XK), Room k (A.deeper (PyProof.Rows.envOfC qual scope s.heap.objs.size f cdv)) → BV (cxOf (L2.CX P w) P w K mg base N qual scope f cdv A outer s H E) (WF' E) prot body fb) :
    FnOk P w K mg base (L2.CX P w) (k + 1) f fd ps (spOf K ps.length (runFn N.length prot fb)) := by
  refine F.ok Sc (fun vs H Q E q => q.1) fun cdv A outer s H vs Q E hr q => ?_
  obtain ⟨t, h1, h2⟩ := (h cdv A outer s H E hr).ex
  refine ⟨t, h1, ?_⟩
  obtain ⟨hl, S, A0, as, w0, r0, q⟩ := q
  have la := ors_len r0
  have e0 : ER K S H (L2.start N vs) (entry N.length as) A0 := by
    unfold L2.start entry
    rw [← la]
    exact er_entry r0
  have ok := h2 _ _ S H A0 w0 e0
  have args : ∀ {σ' : St} {S' H' : Hp} {ρ' : En} {A' : Fp} {as' : List O}, Kp prot (L2.start N vs) σ' → (∀ a u, S a = some u → S' a = some u) → ER K S' H' σ' ρ' A' → finA prot ρ' 0 as = some as' → ∃ A'', ORs K S' H' vs as' A'' ∧ ∀ b, A'' b ≤ A' b := fun {σ' S' H' ρ' A' as'} kp sub e hf => by
    refine er_args sub r0 (i := 0) (fun j v hj hm => ?_) e (fun _ _ => rfl) hf
    rw [Nat.zero_add] at hm ⊢
    rw [kp.2 j hm]
    unfold L2.start
    rw [List.getElem?_append_left (by rw [List.length_map]; exact (List.getElem?_eq_some_iff.mp hj).1), List.getElem?_map, hj]
    rfl
  unfold runFn at q
  cases hb : fb (entry N.length as) with
  | bad => rw [hb] at q; exact q.elim
  | bk ρ' => rw [hb] at q; exact q.elim
  | ct ρ' => rw [hb] at q; exact q.elim
  | nx ρ' =>
    rw [hb] at q ok
    dsimp only at q
    cases hf : finA prot ρ' 0 as with
    | none => rw [hf] at q; exact q.elim
    | some as' =>
      rw [hf] at q
      refine ok _ fun σ' S' H' A' w' e' t' k' => ?_
      obtain ⟨A2, r2, l2⟩ := args k' t'.fz e' hf
      exact q .non S' H' A2 Fp.z (by rw [addz]; exact w'.less l2) r2 (.fz .non fun _ => rfl) (by rw [addz]; exact t'.less l2)
  | rt o ρ' =>
    rw [hb] at q ok
    dsimp only at q
    cases hf : finA prot ρ' 0 as with
    | none => rw [hf] at q; exact q.elim
    | some as' =>
      rw [hf] at q
      refine ok _ fun v σ' S' H' A' B w' e' r' t' k' => ?_
      obtain ⟨A2, r2, l2⟩ := args k' t'.fz e' hf
      have l3 : ∀ b, (A2 + B) b ≤ (A' + B) b := fun b => by have := l2 b; simp only [add_at]; omega
      exact q v S' H' A2 B (w'.less l3) r2 r' (t'.less l3)
  | exc y ρ' =>
    rw [hb] at q ok
    dsimp only at q
    cases hf : finA prot ρ' 0 as with
    | none => rw [hf] at q; exact q.elim
    | some as' =>
      rw [hf] at q
      refine ok _ fun cls d σ' S' H' A' w' e' x' t' k' => ?_
      obtain ⟨A2, r2, l2⟩ := args k' t'.fz e' hf
      exact q cls d S' H' A2 (w'.less l2) r2 x' (t'.less l2)
end
end Ls

namespace Ls
open PySem L2
/-! ### the head's facts, with a test of one's own -/
abbrev AlX : Type := He.AlD × Bool
def obsX (fa : List He.Fa) (fn : List He.DefD) (fx : PySem.W.Frag → Bool) (K : PySem.W.Frag) : AlX := (He.obsD fa fn K, fx K)
def obsXG (n : Nat) (fa : List He.Fa) (fn : List He.DefD) (fx : PySem.W.Frag → Bool) (g : Addr → Option Obj) : AlX := obsX fa fn fx (He.frG g (He.asD g n))
def SaysX (fa : List He.Fa) (fn : List He.DefD) (fx : PySem.W.Frag → Bool) (K : PySem.W.Frag) : Prop := obsX fa fn fx K = (He.valD fn, true)
def hookX (n : Nat) (fa : List He.Fa) (fn : List He.DefD) (fx : PySem.W.Frag → Bool) : PySem.W.Hook where
  α := AlX
  obs := fun s => obsXG n fa fn fx s.heap.get?
  val := fun _ => (He.valD fn, true)
  says := fun _ h => ∃ K : PySem.W.Frag, K.In h ∧ SaysX fa fn fx K
  of := fun _ _ e => ⟨_, He.frG_in, e⟩
  keeps := fun _ _ _ ⟨K, hK, c⟩ k => ⟨K, PySem.W.Frag.In.keeps hK k, c⟩
theorem obsXG_eq {n : Nat} {fa : List He.Fa} {fn : List He.DefD} {fx : PySem.W.Frag → Bool} {g : Addr → Option Obj} {s : Shared} (h : ∀ a, g a = s.heap.get? a) : obsXG n fa fn fx g = (hookX n fa fn fx).obs s := by
  have e : g = s.heap.get? := funext h
  rw [e]
  rfl
theorem SaysX.d {fa : List He.Fa} {fn : List He.DefD} {fx : PySem.W.Frag → Bool} {K : PySem.W.Frag} (c : SaysX fa fn fx K) : He.SaysD fa fn K := congrArg (fun z : AlX => z.1) c
theorem SaysX.x {fa : List He.Fa} {fn : List He.DefD} {fx : PySem.W.Frag → Bool} {K : PySem.W.Frag} (c : SaysX fa fn fx K) : fx K = true := congrArg (fun z : AlX => z.2) c
/-- a law's end where what a call lets out hangs on the world -/
theorem walkX {l : PySem.W.OpenLaw} {n k : Nat} {q : Program} {loose : List Str} {XP : (Str → Option Value) → Heap → Prop} {YP : World → Heap → Prop} {d : DefRec} {CX : World → CXT} {x : Str}
    (hn : l.most = some n) (hn2 : n ≤ sizeLine) (hdf : d.params.defaults = []) (hr : Room k callerA)
    (F : ∀ (w : World) (mg : Str → Option Value) (fa : Addr) (h : Heap), YP w h → h.Ns mainGlobals mg → mg d.name = some (.ref fa) →
      ∃ (K : PySem.W.Frag) (fd : FuncData) (sp : Sp), K.In h ∧ (∀ (s : Shared) (u : Value), BindsTo s fd ⟨[u], []⟩ [(x, u)]) ∧
        (∀ (H : Hp) (a : Addr) (ns : List Int), ns.length ≤ n → Only H → SqL K H a (ns.map V.int) → sp [.ref a] H (fun v _ => v = .bl true) fun _ _ _ => False) ∧
        ∀ base : Heap, K.In base → base.Ns mainGlobals mg → FnOk l.prog w K mg base (CX w) k fa fd [x] sp)
    (hCX : ∀ (w : World) (H : Hp) (s : Shared) (e : Value) (s' : Shared), CX w [] H s (fun _ _ _ => False) e s' → False) :
    PySem.W.WalkO q loose XP YP l.row.toRowW d [] (fun f vs => PySem.call f vs) := by
  refine Att.attach_call hn hdf fun w s₀ s₁ mg mb fa o pm cd doc a vs ns G Y ho hd hcd hmg hobj hints hlen hg => ?_
  obtain ⟨K, fd, sp, KX, hb, hsp, hF⟩ := F w mg fa _ Y G.T.g hmg
  exact law_call KX G.T.g G.T.b G.T.builtins G.T.nolimit hg hobj hints (Nat.le_trans hlen hn2) hr hF hb (fun H hO hS => hsp H a ns hlen hO hS) fun H e s' => hCX w H s₁ e s'
theorem cxNo (P : Program) (w : World) (H : Hp) (s : Shared) (e : Value) (s' : Shared) (h : L2.CX P w [] H s (fun _ _ _ => False) e s') : False := by
  obtain ⟨_, _, _, _, _, _, _, _, _, _, _, _, z⟩ := h
  exact z
/-- the script's promise: worth True -/
theorem lawSp {K : PySem.W.Frag} {H : Hp} {a : Addr} {ns : List Int} {F : List O → FO} (hS : SqL K H a (ns.map V.int)) (h : ∃ as', F [.fz (.list (ns.map PyData.int))] = .ok (.fz (.bool true)) as') : spOf K 1 F [.ref a] H (fun v _ => v = .bl true) fun _ _ _ => False := by
  obtain ⟨as', h⟩ := h
  have da : ∀ l : List Int, DpAll K H (l.map V.int) (l.map PyData.int) := fun l => by
    induction l with
    | nil => exact .nil
    | cons x l ih => exact .cons (.int x) ih
  refine ⟨rfl, H, Fp.z, [.fz (.list (ns.map PyData.int))], ⟨fun _ _ h => h, fun _ => Nat.zero_le _, fun b z => absurd z (Nat.lt_irrefl 0), fun b z => absurd z (Nat.lt_irrefl 0)⟩, .cons (B := Fp.z) (C := Fp.z) (.fz (.lst hS (da ns)) fun _ => rfl) (.nil fun _ => rfl) fun _ => rfl, ?_⟩
  rw [h]
  intro v S' H' A' B w' r' q' t'
  cases q' with
  | fz q _ => exact dp_bl q
/-- a def that is never reached keeps this -/
theorem fn_bad {P : Program} {w : World} {K : PySem.W.Frag} {mg : Str → Option Value} {base : Heap} {CX : CXT} {k : Nat} {f : Addr} {fd : FuncData} {ps : List Str} : FnOk P w K mg base CX k f fd ps (spOf K ps.length fun _ => .bad) :=
  ⟨fun _ _ _ _ h => h.1, fun _ _ _ _ _ _ _ _ _ _ _ _ _ h => by
    obtain ⟨_, _, _, _, _, _, z⟩ := h
    exact z.elim⟩
theorem bv_never {X : Cx} {W : WX} {P : List Nat} {sts : List Stmt} : BV X W P sts (fun _ => .bad) := ⟨_, pss_never, sndS_never⟩
/-- a tuple of the top -/
theorem dp_top {K : PySem.W.Frag} {x : Str} {vs : List He.Dv} {ds : List PyData} (h : He.tupB K x vs = true) (hd : ∀ S, DpAll K S (vs.map (He.Dv.v K)) ds) (S : Hp) : Dp K S (.ref (He.ga K x)) (.tuple ds) := .tup (He.tupB_ok h S) (hd S)
/-- what is stored into another thing is settled -/
def eZ (f : FE) : FE := fun ρ => (f ρ).bind fun o ρ' => match frz o with
  | some d => .ok (.fz d) ρ'
  | none => .bad
theorem sndE_z {K : PySem.W.Frag} {W : WX} {t : TE} {f : FE} (h : SndE K W t f) : SndE K W t (eZ f) := by
  intro σ ρ S H A w e
  have q := h σ ρ S H A w e
  show OutOk K W (ROr K) t σ S H A ((f ρ).bind _)
  cases hf : f ρ with
  | bad => exact True.intro
  | exc x ρ' => rw [hf] at q; exact q
  | ok o ρ' =>
    rw [hf] at q
    show OutOk K W (ROr K) t σ S H A (match frz o with
      | some d => Out.ok (.fz d) ρ'
      | none => .bad)
    cases hz : frz o with
    | none => exact True.intro
    | some d =>
      intro Q k
      refine q Q fun v S' H' A' B w' e' r' t' => ?_
      obtain ⟨w2, t2, sub2⟩ := settle_wf w'
      have dq := or_settle (fun b hb => w'.dj b (by rw [add_at]; omega)) (fun b => Nat.le_refl _) r' hz
      exact k v _ H' A' Fp.z (by rw [addz]; exact w2) (er_keep sub2 e' fun _ _ => rfl) (.fz dq fun _ => rfl) (by rw [addz]; exact t'.trans t2)
theorem ev_z {X : Cx} {W : WX} {e : Expr} {f : FE} (h : EV X W e f) : EV X W e (eZ f) := let ⟨_, h1, h2⟩ := h.ex; ⟨_, h1, sndE_z h2⟩
end Ls

namespace Ls
open PySem L2
section
variable {ρ ρ1 ρ2 ρ3 : En} {o o1 o2 : O} {p q : Pk} {d d1 d2 c : PyData} {f g h : FE} {fa fb fc : FP} {t u : FT} {a b : Bool} {i j : Nat} {os : List O}
theorem r_c : eC d ρ = .ok (.fz d) ρ := rfl
theorem r_pv (h : ρ[i]? = some (some o)) : pVar i ρ = .ok (.v i) ρ := by unfold pVar; rw [h]
theorem r_pe (h : f ρ = .ok o ρ1) : pE f ρ = .ok (.o o) ρ1 := by unfold pE; rw [h]; rfl
theorem r_ev (h : ρ[i]? = some (some (.fz d))) : eVar i ρ = .ok (.fz d) ρ := by unfold eVar; rw [h]
theorem r_evL {xs : List O} (h : ρ[i]? = some (some (.lst xs))) (hz : frz (.lst xs) = some d) : eVar i ρ = .ok (.fz d) (ρ.set i (some (.fz d))) := by unfold eVar; rw [h]; dsimp only; rw [hz]
theorem r_op {g : PyData → PyData → Option PyData} (h1 : fa ρ = .ok p ρ1) (h2 : fb ρ1 = .ok q ρ2) (e1 : pkD ρ2 p = some d1) (e2 : pkD ρ2 q = some d2) (hg : g d1 d2 = some c) : eOp g fa fb ρ = .ok (.fz c) ρ2 := by
  unfold eOp; rw [h1]; dsimp only [Out.bind]; rw [h2]; dsimp only [Out.bind]; rw [e1, e2]; dsimp only [Option.bind]; rw [hg]
theorem r_ix {k : Int} (h1 : fa ρ = .ok p ρ1) (h2 : fb ρ1 = .ok q ρ2) (e1 : pkO ρ2 p = some o) (e2 : pkD ρ2 q = some (.int k)) (hg : ixO o k = some c) : eIx fa fb ρ = .ok (.fz c) ρ2 := by
  unfold eIx; rw [h1]; dsimp only [Out.bind]; rw [h2]; dsimp only [Out.bind]; rw [e1, e2]; dsimp only; rw [hg]
theorem r_b1 {g : O → Option PyData} (h1 : fa ρ = .ok p ρ1) (e1 : pkO ρ1 p = some o) (hg : g o = some c) : eB1 g fa ρ = .ok (.fz c) ρ1 := by
  unfold eB1; rw [h1]; dsimp only [Out.bind]; rw [e1]; dsimp only [Option.bind]; rw [hg]
theorem r_isi {n : String} (h1 : fa ρ = .ok p ρ1) (e1 : pkO ρ1 p = some o) (hg : isiO n o = some c) : eIsi n fa ρ = .ok (.fz c) ρ1 := r_b1 h1 e1 hg
theorem r_list {l : Bool} {ds : List PyData} (h1 : fa ρ = .ok p ρ1) (e1 : pkO ρ1 p = some o) (hg : itemsO o = some (l, ds)) : eList fa ρ = .ok (.lst (ds.map O.fz)) ρ1 := by
  unfold eList; rw [h1]; dsimp only [Out.bind]; rw [e1]; dsimp only [Option.bind]; rw [hg]
theorem r_tuple {l : Bool} {ds : List PyData} (h1 : fa ρ = .ok p ρ1) (e1 : pkO ρ1 p = some o) (hg : itemsO o = some (l, ds)) : eTuple fa ρ = .ok (.fz (.tuple ds)) ρ1 := by
  unfold eTuple; rw [h1]; dsimp only [Out.bind]; rw [e1]; dsimp only [Option.bind]; rw [hg]
theorem r_z (h1 : f ρ = .ok o ρ1) (hz : frz o = some d) : eZ f ρ = .ok (.fz d) ρ1 := by
  unfold eZ; rw [h1]; simp only [Out.bind, hz]
theorem r_neg {k : Int} (h1 : fa ρ = .ok p ρ1) (e1 : pkD ρ1 p = some (.int k)) : eNeg fa ρ = .ok (.fz (.int (-k))) ρ1 := by
  unfold eNeg; rw [h1]; dsimp only [Out.bind]; rw [e1]
theorem r_anil : aNil ρ = .ok [] ρ := rfl
theorem r_acons {r : FA} (h1 : f ρ = .ok o ρ1) (h2 : r ρ1 = .ok os ρ2) : aCons f r ρ = .ok (o :: os) ρ2 := by
  unfold aCons; rw [h1]; dsimp only [Out.bind]; rw [h2]
theorem r_lendF (h : ρ[i]? = some (some (.fz d))) : eLend i ρ = .ok (.fz d) ρ := by unfold eLend; rw [h]
theorem r_lendL {xs : List O} (h : ρ[i]? = some (some (.lst xs))) : eLend i ρ = .ok (.lst xs) (ρ.set i none) := by unfold eLend; rw [h]
theorem r_lst {r : FA} (h : r ρ = .ok os ρ1) : eLst r ρ = .ok (.lst os) ρ1 := by unfold eLst; rw [h]; rfl
theorem r_tup {r : FA} {ds : List PyData} (h : r ρ = .ok os ρ1) (hz : frzs os = some ds) : eTup r ρ = .ok (.fz (.tuple ds)) ρ1 := by unfold eTup; rw [h]; dsimp only [Out.bind]; rw [hz]
theorem r_call {F : List O → FO} {ls : List (Option Nat)} {dd : List PyData} {r : FA} {as' : List O} (h : r ρ = .ok os ρ1) (hF : F (os ++ dd.map O.fz) = .ok o as') (hb : backs ls as' ρ1 = ρ2) : eCall F ls dd r ρ = .ok o ρ2 := by
  unfold eCall; rw [h]; dsimp only [Out.bind]; rw [hF]; dsimp only; rw [hb]
theorem r_cat {ds es : List PyData} (h1 : fa ρ = .ok p ρ1) (h2 : fb ρ1 = .ok q ρ2) (e1 : pkO ρ2 p = some o1) (e2 : pkO ρ2 q = some o2) (g1 : lstI o1 = some ds) (g2 : lstI o2 = some es) (hz : ds.length + es.length ≤ sizeLine) : eCat fa fb ρ = .ok (.lst ((ds ++ es).map O.fz)) ρ2 := by
  unfold eCat; rw [h1]; dsimp only [Out.bind]; rw [h2]; dsimp only [Out.bind]; rw [e1, e2]; dsimp only [Option.bind]; rw [g1, g2]; dsimp only; rw [if_pos hz]
theorem r_rep {ds : List PyData} {k : Int} (h1 : fa ρ = .ok p ρ1) (h2 : fb ρ1 = .ok q ρ2) (e1 : pkO ρ2 p = some o1) (e2 : pkD ρ2 q = some (.int k)) (g1 : ownL o1 = some ds) (hz : -(2 ^ 63) ≤ k ∧ k < 2 ^ 63 ∧ ds.length * k.toNat ≤ sizeLine) : eRep fa fb ρ = .ok (.lst ((List.replicate k.toNat ds).flatten.map O.fz)) ρ2 := by
  unfold eRep; rw [h1]; dsimp only [Out.bind]; rw [h2]; dsimp only [Out.bind]; rw [e1, e2]; dsimp only [Option.bind]; rw [g1]; dsimp only; rw [if_pos hz]
theorem r_repT {ds : List PyData} {k : Int} (h1 : fa ρ = .ok p ρ1) (h2 : fb ρ1 = .ok q ρ2) (e1 : pkO ρ2 p = some o1) (e2 : pkD ρ2 q = some (.int k)) (g1 : tupI o1 = some ds) (hz : ds ≠ [] ∧ 1 ≤ k ∧ k ≤ 1000 ∧ ds.length ≤ 1000) : eRepT fa fb ρ = .ok (.fz (.tuple (List.replicate k.toNat ds).flatten)) ρ2 := by
  unfold eRepT; rw [h1]; dsimp only [Out.bind]; rw [h2]; dsimp only [Out.bind]; rw [e1, e2]; dsimp only [Option.bind]; rw [g1]; dsimp only; rw [if_pos hz]
theorem r_nno : nNo ρ = .ok none ρ := rfl
theorem r_ne {k : Int} (h1 : fa ρ = .ok p ρ1) (e1 : pkD ρ1 p = some (.int k)) : nE fa ρ = .ok (some k) ρ1 := by
  unfold nE; rw [h1]; dsimp only [Out.bind]; rw [e1]
theorem r_sl {fl fh : FN} {l u : Option Int} (h1 : fa ρ = .ok p ρ1) (h2 : fl ρ1 = .ok l ρ2) (h3 : fh ρ2 = .ok u ρ3) (e1 : pkO ρ3 p = some o) (hg : slO o l u = some o1) : eSl fa fl fh ρ = .ok o1 ρ3 := by
  unfold eSl; rw [h1]; dsimp only [Out.bind]; rw [h2]; dsimp only [Out.bind]; rw [h3]; dsimp only [Out.bind]; rw [e1]; dsimp only [Option.bind]; rw [hg]
/-! tests -/
theorem r_tof (h1 : f ρ = .ok (.fz (.bool b)) ρ1) : tOf f ρ = .ok b ρ1 := by unfold tOf; rw [h1]; rfl
theorem r_ttru (h1 : fa ρ = .ok p ρ1) (e1 : pkD ρ1 p = some d) (e2 : dTru d = some b) : tTru fa ρ = .ok b ρ1 := by
  unfold tTru; rw [h1]; dsimp only [Out.bind]; rw [e1]; dsimp only [Option.bind]; rw [e2]
theorem r_tnot (h1 : t ρ = .ok b ρ1) : tNotF t ρ = .ok (!b) ρ1 := by unfold tNotF; rw [h1]; rfl
theorem r_tandT (h1 : t ρ = .ok a ρ1) (ha : a = true) (h2 : u ρ1 = .ok b ρ2) : tAndF t u ρ = .ok b ρ2 := by unfold tAndF; rw [h1, ha]; exact h2
theorem r_tandF (h1 : t ρ = .ok a ρ1) (ha : a = false) : tAndF t u ρ = .ok false ρ1 := by unfold tAndF; rw [h1, ha]; rfl
theorem r_torT (h1 : t ρ = .ok a ρ1) (ha : a = true) : tOrF t u ρ = .ok true ρ1 := by unfold tOrF; rw [h1, ha]; rfl
theorem r_torF (h1 : t ρ = .ok a ρ1) (ha : a = false) (h2 : u ρ1 = .ok b ρ2) : tOrF t u ρ = .ok b ρ2 := by unfold tOrF; rw [h1, ha]; exact h2
theorem r_eandT (h1 : f ρ = .ok (.fz (.bool a)) ρ1) (ha : a = true) (h2 : g ρ1 = .ok o ρ2) : eAnd f g ρ = .ok o ρ2 := by unfold eAnd; rw [r_tof h1, ha]; exact h2
theorem r_eandF (h1 : f ρ = .ok (.fz (.bool a)) ρ1) (ha : a = false) : eAnd f g ρ = .ok (.fz (.bool false)) ρ1 := by unfold eAnd; rw [r_tof h1, ha]; rfl
theorem r_eorT (h1 : f ρ = .ok (.fz (.bool a)) ρ1) (ha : a = true) : eOr f g ρ = .ok (.fz (.bool true)) ρ1 := by unfold eOr; rw [r_tof h1, ha]; rfl
theorem r_eorF (h1 : f ρ = .ok (.fz (.bool a)) ρ1) (ha : a = false) (h2 : g ρ1 = .ok o ρ2) : eOr f g ρ = .ok o ρ2 := by unfold eOr; rw [r_tof h1, ha]; exact h2
theorem r_enot (h1 : fa ρ = .ok p ρ1) (e1 : pkD ρ1 p = some d) (e2 : dTru d = some b) : eNot fa ρ = .ok (.fz (.bool !b)) ρ1 := by unfold eNot; rw [r_ttru h1 e1 e2]; rfl
theorem r_eifT (h1 : t ρ = .ok a ρ1) (ha : a = true) (h2 : f ρ1 = .ok o ρ2) : eIf t f g ρ = .ok o ρ2 := by unfold eIf; rw [h1, ha]; exact h2
theorem r_eifF (h1 : t ρ = .ok a ρ1) (ha : a = false) (h2 : g ρ1 = .ok o ρ2) : eIf t f g ρ = .ok o ρ2 := by unfold eIf; rw [h1, ha]; exact h2
theorem r_chainT {g g' : PyData → PyData → Option PyData} {r : Pk} {d3 d4 : PyData} (h1 : fa ρ = .ok p ρ1) (h2 : fb ρ1 = .ok q ρ2) (e1 : pkD ρ2 p = some d1) (e2 : pkD ρ2 q = some d2) (hg : g d1 d2 = some (.bool a)) (ha : a = true) (h3 : fc ρ2 = .ok r ρ3) (e3 : pkD ρ3 q = some d3) (e4 : pkD ρ3 r = some d4) (hg' : g' d3 d4 = some c) : eChain g g' fa fb fc ρ = .ok (.fz c) ρ3 := by
  unfold eChain; rw [h1]; dsimp only [Out.bind]; rw [h2]; dsimp only [Out.bind]; rw [e1, e2]; dsimp only [Option.bind]; rw [hg, ha]; dsimp only; rw [h3]; dsimp only; rw [e3, e4]; dsimp only; rw [hg']
theorem r_chainF {g g' : PyData → PyData → Option PyData} (h1 : fa ρ = .ok p ρ1) (h2 : fb ρ1 = .ok q ρ2) (e1 : pkD ρ2 p = some d1) (e2 : pkD ρ2 q = some d2) (hg : g d1 d2 = some (.bool a)) (ha : a = false) : eChain g g' fa fb fc ρ = .ok (.fz (.bool false)) ρ2 := by
  unfold eChain; rw [h1]; dsimp only [Out.bind]; rw [h2]; dsimp only [Out.bind]; rw [e1, e2]; dsimp only [Option.bind]; rw [hg, ha]
/-! statements -/
theorem r_nil : sNil ρ = .nx ρ := rfl
variable {s r : FS} {out : SO}
theorem r_seq (h1 : s ρ = .nx ρ1) (h2 : r ρ1 = out) : sSeq s r ρ = out := by unfold sSeq; rw [h1]; exact h2
theorem r_seqR (h1 : s ρ = .rt o ρ1) : sSeq s r ρ = .rt o ρ1 := by unfold sSeq; rw [h1]; rfl
theorem r_ifT (h1 : t ρ = .ok a ρ1) (ha : a = true) (h2 : s ρ1 = out) : sIf t s r ρ = out := by unfold sIf; rw [h1, ha]; exact h2
theorem r_ifF (h1 : t ρ = .ok a ρ1) (ha : a = false) (h2 : r ρ1 = out) : sIf t s r ρ = out := by unfold sIf; rw [h1, ha]; exact h2
theorem r_ret (h1 : f ρ = .ok o ρ1) : sRet f ρ = .rt o ρ1 := by unfold sRet; rw [h1]; rfl
theorem r_drop (h1 : f ρ = .ok o ρ1) : sDrop f ρ = .nx ρ1 := by unfold sDrop; rw [h1]; rfl
theorem r_set (h1 : f ρ = .ok o ρ1) (hi : i < ρ1.length) (h2 : ρ1.set i (some o) = ρ2) : sSet i f ρ = .nx ρ2 := by unfold sSet; rw [h1]; dsimp only [Out.toS]; rw [if_pos hi, h2]
theorem r_asg {gF : FG} (h1 : f ρ = .ok o ρ1) (hz : frz o = some d) (hg : gF d ρ1 = some ρ2) : sAsg gF f ρ = .nx ρ2 := by unfold sAsg; rw [h1]; dsimp only [Out.toS]; rw [hz]; dsimp only [Option.bind]; rw [hg]
theorem r_par {fA : FA} (h1 : fA ρ = .ok [o1, o2] ρ1) (hi : i < ρ1.length ∧ j < ρ1.length) (h2 : (ρ1.set i (some o1)).set j (some o2) = ρ2) : sPar i j fA ρ = .nx ρ2 := by unfold sPar; rw [h1]; dsimp only [Out.toS]; rw [if_pos hi, h2]
theorem r_sapp {xs ys : List O} (h0 : ρ[j]? = some (some (.lst ys))) (h1 : f ρ = .ok o ρ1) (h2 : ρ1[j]? = some (some (.lst xs))) (hz : xs.length < sizeLine) (h3 : ρ1.set j (some (.lst (xs ++ [o]))) = ρ2) : sApp j f ρ = .nx ρ2 := by
  unfold sApp; rw [h0]; dsimp only; rw [h1]; dsimp only [Out.toS]; unfold appK; rw [h2]; dsimp only; rw [if_pos hz, h3]
theorem r_six {xs : List O} {k : Int} {n : Nat} (h1 : f ρ = .ok o ρ1) (h0 : ρ1[j]? = some (some o2)) (h2 : fa ρ1 = .ok p ρ2) (h3 : ρ2[j]? = some (some (.lst xs))) (e1 : pkD ρ2 p = some (.int k)) (hn : ixN xs.length k = some n) (h4 : ρ2.set j (some (.lst (xs.set n o))) = ρ3) : sIx j fa f ρ = .nx ρ3 := by
  unfold sIx; rw [h1]; dsimp only [Out.toS]; rw [h0]; dsimp only; rw [h2]; dsimp only [Out.toS]; unfold ixK; rw [h3, e1]; dsimp only; rw [hn]; dsimp only; rw [h4]
theorem r_aug {g : PyData → PyData → Option PyData} {n : Int} (h0 : ρ[i]? = some (some (.fz (.int n)))) (h1 : fa ρ = .ok p ρ1) (e1 : pkD ρ1 p = some d) (hg : g (.int n) d = some c) (hi : i < ρ1.length) (h2 : ρ1.set i (some (.fz c)) = ρ2) : sAug i g fa ρ = .nx ρ2 := by
  unfold sAug; rw [h0]; dsimp only; rw [h1]; dsimp only [Out.toS]; unfold augK; rw [e1]; dsimp only [Option.bind]; rw [hg]; dsimp only; rw [if_pos hi, h2]
theorem r_runR {m : Nat} {prot : List Nat} {body : FS} {as as' : List O} (h1 : body (entry m as) = .rt o ρ1) (h2 : finA prot ρ1 0 as = some as') : runFn m prot body as = .ok o as' := by
  unfold runFn; rw [h1]; dsimp only; rw [h2]
theorem r_runN {m : Nat} {prot : List Nat} {body : FS} {as as' : List O} (h1 : body (entry m as) = .nx ρ1) (h2 : finA prot ρ1 0 as = some as') : runFn m prot body as = .ok (.fz .none) as' := by
  unfold runFn; rw [h1]; dsimp only; rw [h2]
/-! sources -/
theorem r_fseqV {l : Bool} {ds : List PyData} (h1 : fa ρ = .ok (.v i) ρ1) (e1 : ρ1[i]? = some (some o)) (e2 : itemsO o = some (l, ds)) : fSeq fa ρ = .ok (.sl l i) ρ1 := by
  unfold fSeq; rw [h1]; dsimp only [Out.bind]; unfold srOf; dsimp only; rw [e1]; dsimp only [Option.bind, id]; rw [e2]; rfl
theorem r_fseqL {ds : List PyData} (h1 : fa ρ = .ok (.o o) ρ1) (e1 : frz o = some (.list ds)) : fSeq fa ρ = .ok (.st true ds) ρ1 := by
  unfold fSeq; rw [h1]; dsimp only [Out.bind]; unfold srOf; dsimp only; rw [e1]; rfl
theorem r_fseqT {ds : List PyData} (h1 : fa ρ = .ok (.o o) ρ1) (e1 : frz o = some (.tuple ds)) : fSeq fa ρ = .ok (.st false ds) ρ1 := by
  unfold fSeq; rw [h1]; dsimp only [Out.bind]; unfold srOf; dsimp only; rw [e1]; rfl
theorem r_rg1 {k : Int} (h1 : fa ρ = .ok p ρ1) (e1 : pkD ρ1 p = some (.int k)) (hz : -(2 ^ 62) ≤ k ∧ k < 2 ^ 62) : fRg1 fa ρ = .ok (.rg 0 k.toNat) ρ1 := by
  unfold fRg1; rw [h1]; dsimp only [Out.bind]; rw [e1]; dsimp only; rw [if_pos hz]
theorem r_rg2 {k l : Int} (h1 : fa ρ = .ok p ρ1) (h2 : fb ρ1 = .ok q ρ2) (e1 : pkD ρ2 p = some (.int k)) (e2 : pkD ρ2 q = some (.int l)) (hz : -(2 ^ 62) ≤ k ∧ k < 2 ^ 62 ∧ -(2 ^ 62) ≤ l ∧ l < 2 ^ 62) : fRg2 fa fb ρ = .ok (.rg k (l - k).toNat) ρ2 := by
  unfold fRg2; rw [h1]; dsimp only [Out.bind]; rw [h2]; dsimp only [Out.bind]; rw [e1, e2]; dsimp only; rw [if_pos hz]
theorem r_zip {s1 s2 : Sr} {ds : List PyData} (h1 : fSeq fa ρ = .ok s1 ρ1) (h2 : fSeq fb ρ1 = .ok s2 ρ2) (e1 : (Sr.zp s1 s2).at ρ2 = some ds) (hk : s1.kind = s2.kind) : fZip fa fb ρ = .ok (.zp s1 s2) ρ2 := by
  unfold fZip; rw [h1]; dsimp only [Out.bind]; rw [h2]; dsimp only [Out.bind]; rw [e1]; dsimp only; rw [if_pos hk]
theorem r_en {s1 : Sr} (h1 : fSeq fa ρ = .ok s1 ρ1) (hk : s1.kind = some true) : fEn fa ρ = .ok (.en s1) ρ1 := by
  unfold fEn; rw [h1]; dsimp only [Out.bind]; rw [if_pos hk]
/-! loops -/
theorem r_for {Z : List Nat} {fi : FI} {gF : FG} {body : FS} {sr : Sr} {ds : List PyData} (h1 : fi ρ = .ok sr ρ1) (hz : (sr.slots.all fun i => Z.contains i) = true) (e1 : sr.at ρ1 = some ds) (h2 : forF sr gF body (ds.length + 1) 0 ρ1 = out) : sFor Z fi gF body ρ = out := by
  unfold sFor; rw [h1]; dsimp only [Out.toS]; rw [if_pos hz, e1]; exact h2
theorem r_comp {fi : FI} {gF : FG} {sr : Sr} {ds : List PyData} {vs : List Nat} (h1 : fi ρ = .ok sr ρ1) (hz : (sr.slots.all fun i => !vs.contains i) = true) (e1 : sr.at (wipeE ρ1 vs) = some ds) (h2 : compF sr gF t f vs (ds.length + 1) 0 (wipeE ρ1 vs) [] = .ok os ρ2) : eComp fi gF t f vs ρ = .ok (.lst os) ρ2 := by
  unfold eComp; rw [h1]; dsimp only [Out.bind]; rw [if_pos hz, e1]; dsimp only; rw [h2]
end
/-- a for over items that stay, by what an environment stands for -/
theorem for_fold {α : Type} {sr : Sr} {gF : FG} {body : FS} {ds : List PyData} (R : Nat → α → En → Prop) (step : α → PyData → α) (hat : ∀ j a ρ, j ≤ ds.length → R j a ρ → sr.at ρ = some ds)
    (hs : ∀ j a ρ d, ds[j]? = some d → R j a ρ → ∃ ρ1 ρ2, gF d ρ = some ρ1 ∧ (body ρ1 = .nx ρ2 ∨ body ρ1 = .ct ρ2) ∧ R (j + 1) (step a d) ρ2) :
    ∀ (n j : Nat) (a : α) (ρ : En), n + j = ds.length → R j a ρ → ∃ ρ', forF sr gF body (n + 1) j ρ = .nx ρ' ∧ R ds.length ((ds.drop j).foldl step a) ρ'
  | 0, j, a, ρ, hn, r => by
    have ej : j = ds.length := by omega
    subst ej
    refine ⟨ρ, ?_, by rw [List.drop_length]; exact r⟩
    unfold forF
    rw [hat _ a ρ (Nat.le_refl _) r]
    dsimp only
    rw [List.getElem?_eq_none (Nat.le_refl _)]
  | n + 1, j, a, ρ, hn, r => by
    have hj : j < ds.length := by omega
    have e : ds[j]? = some ds[j] := List.getElem?_eq_getElem hj
    obtain ⟨ρ1, ρ2, g1, b1, r1⟩ := hs j a ρ ds[j] e r
    obtain ⟨ρ', h1, h2⟩ := for_fold R step hat hs n (j + 1) (step a ds[j]) ρ2 (by omega) r1
    refine ⟨ρ', ?_, by rw [List.drop_eq_getElem_cons hj]; exact h2⟩
    unfold forF
    rw [hat j a ρ (by omega) r]
    dsimp only
    rw [e]
    dsimp only
    rw [g1]
    dsimp only
    rcases b1 with b1 | b1 <;> rw [b1] <;> exact h1
/-- a comprehension likewise: each element's worth beside the state -/
def accW {α : Type} (step : α → PyData → α × PyData) : α → List PyData → α × List PyData
  | a, [] => (a, [])
  | a, d :: ds => let r := step a d; let q := accW step r.1 ds; (q.1, r.2 :: q.2)
theorem comp_fold {α : Type} {sr : Sr} {gF : FG} {test : FT} {elt : FE} {vs : List Nat} {ds : List PyData} (R : α → En → Prop) (step : α → PyData → α × PyData) (hat : ∀ a ρ, R a ρ → sr.at ρ = some ds)
    (hs : ∀ a ρ (j : Nat) d, ds[j]? = some d → R a ρ → ∃ ρ1 ρ2 ρ3, gF d ρ = some ρ1 ∧ test ρ1 = .ok true ρ2 ∧ elt ρ2 = .ok (.fz (step a d).2) ρ3 ∧ R (step a d).1 (wipeE ρ3 vs)) (hz : ds.length ≤ sizeLine) :
    ∀ (n j : Nat) (a : α) (ρ : En) (acc : List O), n + j = ds.length → acc.length = j → R a ρ → ∃ ρ', compF sr gF test elt vs (n + 1) j ρ acc = .ok (acc ++ (accW step a (ds.drop j)).2.map O.fz) ρ' ∧ R (accW step a (ds.drop j)).1 ρ'
  | 0, j, a, ρ, acc, hn, hl, r => by
    have ej : j = ds.length := by omega
    subst ej
    refine ⟨ρ, ?_, by rw [List.drop_length]; exact r⟩
    unfold compF
    rw [hat a ρ r]
    dsimp only
    rw [List.getElem?_eq_none (Nat.le_refl _), List.drop_length]
    simp [accW]
  | n + 1, j, a, ρ, acc, hn, hl, r => by
    have hj : j < ds.length := by omega
    have e : ds[j]? = some ds[j] := List.getElem?_eq_getElem hj
    obtain ⟨ρ1, ρ2, ρ3, g1, t1, e1, r1⟩ := hs a ρ j ds[j] e r
    obtain ⟨ρ', h1, h2⟩ := comp_fold R step hat hs hz n (j + 1) (step a ds[j]).1 (wipeE ρ3 vs) (acc ++ [.fz (step a ds[j]).2]) (by omega) (by simp [hl]) r1
    refine ⟨ρ', ?_, by rw [List.drop_eq_getElem_cons hj]; exact h2⟩
    unfold compF
    rw [hat a ρ r]
    dsimp only
    rw [e]
    dsimp only
    rw [g1]
    dsimp only
    rw [t1]
    dsimp only
    rw [e1]
    dsimp only
    rw [if_pos (by omega), h1, List.drop_eq_getElem_cons hj]
    simp [accW]
end Ls

namespace Ls
open PySem L2
section
variable {ρ ρ1 ρ2 : En} {s r : FS} {f : FE}
theorem seqE {P : En → Prop} {G : SO → Prop} (h1 : ∃ ρ1, s ρ = .nx ρ1 ∧ P ρ1) (h2 : ∀ ρ1, P ρ1 → G (r ρ1)) : G (sSeq s r ρ) := by
  obtain ⟨ρ1, e, p⟩ := h1
  rw [r_seq e rfl]; exact h2 ρ1 p
end
theorem comp_inv {sr : Sr} {gF : FG} {test : FT} {elt : FE} {vs : List Nat} {ds : List PyData} (I : Nat → List PyData → En → Prop) (hat : ∀ j acc ρ, I j acc ρ → sr.at ρ = some ds)
    (hs : ∀ j acc ρ d, ds[j]? = some d → I j acc ρ → ∃ ρ1 ρ2 ρ3 e, gF d ρ = some ρ1 ∧ test ρ1 = .ok true ρ2 ∧ elt ρ2 = .ok (.fz e) ρ3 ∧ I (j + 1) (acc ++ [e]) (wipeE ρ3 vs)) (hz : ds.length ≤ sizeLine) :
    ∀ (n j : Nat) (ρ : En) (acc : List PyData), n + j = ds.length → acc.length = j → I j acc ρ → ∃ acc' ρ', compF sr gF test elt vs (n + 1) j ρ (acc.map O.fz) = .ok (acc'.map O.fz) ρ' ∧ acc'.length = ds.length ∧ I ds.length acc' ρ'
  | 0, j, ρ, acc, hn, hl, r => by
    have ej : j = ds.length := by omega
    refine ⟨acc, ρ, ?_, by omega, by rw [← ej]; exact r⟩
    unfold compF
    rw [hat j acc ρ r]
    dsimp only
    rw [List.getElem?_eq_none (by omega)]
  | n + 1, j, ρ, acc, hn, hl, r => by
    have hj : j < ds.length := by omega
    have e : ds[j]? = some ds[j] := List.getElem?_eq_getElem hj
    obtain ⟨ρ1, ρ2, ρ3, x, g1, t1, e1, r1⟩ := hs j acc ρ ds[j] e r
    obtain ⟨acc', ρ', h1, h2, h3⟩ := comp_inv I hat hs hz n (j + 1) (wipeE ρ3 vs) (acc ++ [x]) (by omega) (by simp [hl]) r1
    refine ⟨acc', ρ', ?_, h2, h3⟩
    unfold compF
    rw [hat j acc ρ r]
    dsimp only
    rw [e]
    dsimp only
    rw [g1]
    dsimp only
    rw [t1]
    dsimp only
    rw [e1]
    dsimp only
    rw [if_pos (by rw [List.length_map]; omega)]
    rw [List.map_append] at h1
    exact h1
/-- a comprehension whose element leaves the world as it is -/
theorem comp_map {sr : Sr} {gF : FG} {elt : FE} {vs : List Nat} {ds : List PyData} {ρ : En} (g : PyData → PyData) (hat : sr.at ρ = some ds)
    (hs : ∀ d, d ∈ ds → ∃ ρ1 ρ3, gF d ρ = some ρ1 ∧ elt ρ1 = .ok (.fz (g d)) ρ3 ∧ wipeE ρ3 vs = ρ) (hz : ds.length ≤ sizeLine) :
    compF sr gF tYesF elt vs (ds.length + 1) 0 ρ [] = .ok ((ds.map g).map O.fz) ρ := by
  obtain ⟨acc', ρ', h1, h2, h3⟩ := comp_inv (sr := sr) (gF := gF) (test := tYesF) (elt := elt) (vs := vs) (ds := ds) (fun j acc ρ' => ρ' = ρ ∧ acc = (ds.take j).map g) (fun j acc ρ' h => by rw [h.1]; exact hat) (fun j acc ρ' d hd h => by
    obtain ⟨ρ1, ρ3, a1, a2, a3⟩ := hs d (List.mem_of_getElem? hd)
    refine ⟨ρ1, ρ1, ρ3, g d, by rw [h.1]; exact a1, rfl, a2, a3, ?_⟩
    rw [h.2, List.take_add_one, hd]; simp) hz ds.length 0 ρ [] rfl rfl ⟨rfl, rfl⟩
  rw [List.map_nil] at h1
  rw [h1, h3.1, h3.2, List.take_length]
theorem for_inv {sr : Sr} {gF : FG} {body : FS} {ds : List PyData} (I : Nat → En → Prop) (hat : ∀ j ρ, j ≤ ds.length → I j ρ → sr.at ρ = some ds)
    (hs : ∀ j ρ d, ds[j]? = some d → I j ρ → ∃ ρ1 ρ2, gF d ρ = some ρ1 ∧ (body ρ1 = .nx ρ2 ∨ body ρ1 = .ct ρ2) ∧ I (j + 1) ρ2) :
    ∀ (n j : Nat) (ρ : En), n + j = ds.length → I j ρ → ∃ ρ', forF sr gF body (n + 1) j ρ = .nx ρ' ∧ I ds.length ρ'
  | 0, j, ρ, hn, r => by
    have ej : j = ds.length := by omega
    refine ⟨ρ, ?_, by rw [← ej]; exact r⟩
    unfold forF
    rw [hat _ ρ (by omega) r]
    dsimp only
    rw [List.getElem?_eq_none (by omega)]
  | n + 1, j, ρ, hn, r => by
    have hj : j < ds.length := by omega
    have e : ds[j]? = some ds[j] := List.getElem?_eq_getElem hj
    obtain ⟨ρ1, ρ2, g1, b1, r1⟩ := hs j ρ ds[j] e r
    obtain ⟨ρ', h1, h2⟩ := for_inv I hat hs n (j + 1) ρ2 (by omega) r1
    refine ⟨ρ', ?_, h2⟩
    unfold forF
    rw [hat j ρ (by omega) r]
    dsimp only
    rw [e]
    dsimp only
    rw [g1]
    dsimp only
    rcases b1 with b1 | b1 <;> rw [b1] <;> exact h1
def RT (out : SO) (P : O → En → Prop) : Prop := ∃ o ρ, out = .rt o ρ ∧ P o ρ
def NX (out : SO) (P : En → Prop) : Prop := ∃ ρ, out = .nx ρ ∧ P ρ
theorem rt_of {out : SO} {P : O → En → Prop} {o : O} {ρ : En} (h : out = .rt o ρ) (p : P o ρ) : RT out P := ⟨o, ρ, h, p⟩
theorem nx_of {out : SO} {P : En → Prop} {ρ : En} (h : out = .nx ρ) (p : P ρ) : NX out P := ⟨ρ, h, p⟩
theorem seqNX {s r : FS} {ρ : En} {P : En → Prop} {G : SO → Prop} (h1 : NX (s ρ) P) (h2 : ∀ ρ1, P ρ1 → G (r ρ1)) : G (sSeq s r ρ) := seqE h1 h2
theorem run_rt {m : Nat} {prot : List Nat} {body : FS} {as : List O} {Q : O → List O → Prop} (h : RT (body (entry m as)) fun o ρ => ∃ as', finA prot ρ 0 as = some as' ∧ Q o as') : ∃ o as', runFn m prot body as = .ok o as' ∧ Q o as' := by
  obtain ⟨o, ρ, h1, as', h2, h3⟩ := h
  exact ⟨o, as', r_runR h1 h2, h3⟩
/-! ### data -/
theorem log2_lt {n k : Nat} (h : n < 2 ^ k) (hk : 0 < k) : n.log2 < k := by
  by_cases h0 : n = 0
  · subst h0; simpa using hk
  · exact (Nat.log2_lt h0).mpr h
theorem dMul_ok {i j : Int} (hi : i.natAbs < 2 ^ 100) (hj : j.natAbs < 2 ^ 100) : dMul (.int i) (.int j) = some (.int (i * j)) := by
  have a := log2_lt hi (by decide)
  have b := log2_lt hj (by decide)
  exact if_pos (by omega)
theorem dMod_ok {i j : Int} (hj : j ≠ 0) : dMod (.int i) (.int j) = some (.int (i.fmod j)) := if_pos hj
theorem dDiv_ok {i j : Int} (hj : j ≠ 0) (hj2 : j.natAbs < 2 ^ 100) : dDiv (.int i) (.int j) = some (.int (i.fdiv j)) := if_pos ⟨hj, by have := log2_lt hj2 (by decide); omega⟩
theorem dEq_int {i j : Int} : dEq (.int i) (.int j) = some (.bool (decide (i = j))) := by
  by_cases h : i = j <;> simp [dEq, SeqAt.shaped, PyData.eqv, PyData.canLay0, PyData.depth, h]
theorem dNe_int {i j : Int} : dNe (.int i) (.int j) = some (.bool (!decide (i = j))) := by
  by_cases h : i = j <;> simp [dNe, SeqAt.shaped, PyData.eqv, PyData.canLay0, PyData.depth, h]
theorem fmodA {x k : Int} (h : 0 < k) (h2 : k < 2 ^ 100) : (x.fmod k).natAbs < 2 ^ 100 := by
  have a := Int.fmod_nonneg_of_pos x h
  have b := Int.fmod_lt_of_pos x h
  omega
theorem atN {α : Type} {xs : List α} {k : Nat} {x : α} (h : xs[k]? = some x) : atI xs (k : Int) = some x := by
  have hk : k < xs.length := (List.getElem?_eq_some_iff.mp h).1
  simp only [atI, ixN]
  rw [if_pos (by omega), if_pos (by omega)]
  simpa using h
theorem allFz_map : ∀ ds : List PyData, allFz (ds.map O.fz) = some ds
  | [] => rfl
  | d :: ds => by show (allFz (ds.map O.fz)).map _ = _; rw [allFz_map ds]; rfl
theorem items_map (ds : List PyData) : itemsO (.lst (ds.map O.fz)) = some (true, ds) := by
  show (allFz _).map _ = _; rw [allFz_map]; rfl
theorem frzs_map : ∀ ds : List PyData, frzs (ds.map O.fz) = some ds
  | [] => by simp [frzs]
  | d :: ds => by simp [frzs, frz, frzs_map ds]
theorem frz_map (ds : List PyData) : frz (.lst (ds.map O.fz)) = some (.list ds) := by simp [frz, frzs_map]
end Ls

namespace Ls
open PySem L2
def OKP (out : Out O) (P : O → En → Prop) : Prop := ∃ o ρ, out = .ok o ρ ∧ P o ρ
section
variable {ρ ρ1 ρ2 : En} {s r : FS} {f : FE} {G : SO → Prop} {P : O → En → Prop} {o : O} {i : Nat}
theorem ok_of (h : f ρ = .ok o ρ1) (p : P o ρ1) : OKP (f ρ) P := ⟨o, ρ1, h, p⟩
theorem seqS (h1 : s ρ = .nx ρ1) (h2 : G (r ρ1)) : G (sSeq s r ρ) := by rw [r_seq h1 rfl]; exact h2
theorem seqSet (h : OKP (f ρ) fun o ρ1 => i < ρ1.length ∧ G (r (ρ1.set i (some o)))) : G (sSeq (sSet i f) r ρ) := by
  obtain ⟨o, ρ1, h1, h2, h3⟩ := h
  rw [r_seq (r_set h1 h2 rfl) rfl]; exact h3
theorem nxSet {P : En → Prop} (h : OKP (f ρ) fun o ρ1 => i < ρ1.length ∧ P (ρ1.set i (some o))) : NX (sSet i f ρ) P := by
  obtain ⟨o, ρ1, h1, h2, h3⟩ := h
  exact ⟨_, r_set h1 h2 rfl, h3⟩
theorem rtRet (h : OKP (f ρ) P) : RT (sRet f ρ) P := by
  obtain ⟨o, ρ1, h1, h2⟩ := h
  exact ⟨o, ρ1, r_ret h1, h2⟩
theorem okTuple (h : OKP (f ρ) fun o ρ1 => ∃ l ds, itemsO o = some (l, ds) ∧ P (.fz (.tuple ds)) ρ1) : OKP (eTuple (pE f) ρ) P := by
  obtain ⟨o, ρ1, h1, l, ds, h2, h3⟩ := h
  exact ⟨_, _, r_tuple (r_pe h1) rfl h2, h3⟩
theorem lendO {xs : List O} (h : ρ[i]? = some (some o)) (hl : o = .lst xs) (h2 : ρ.set i none = ρ1) : eLend i ρ = .ok o ρ1 := by subst hl; rw [r_lendL h, h2]
theorem okComp {fi : FI} {gF : FG} {t : FT} {vs : List Nat} {sr : Sr} {ds : List PyData} (I : Nat → List PyData → En → Prop) (h1 : fi ρ = .ok sr ρ1) (hz : (sr.slots.all fun i => !vs.contains i) = true) (e1 : sr.at (wipeE ρ1 vs) = some ds) (h0 : I 0 [] (wipeE ρ1 vs))
    (hat : ∀ j acc ρ, I j acc ρ → sr.at ρ = some ds)
    (hs : ∀ j acc ρ d, ds[j]? = some d → I j acc ρ → ∃ ρ1 ρ2 ρ3 e, gF d ρ = some ρ1 ∧ t ρ1 = .ok true ρ2 ∧ f ρ2 = .ok (.fz e) ρ3 ∧ I (j + 1) (acc ++ [e]) (wipeE ρ3 vs)) (hl : ds.length ≤ sizeLine)
    (hP : ∀ acc ρ2, acc.length = ds.length → I ds.length acc ρ2 → P (.lst (acc.map O.fz)) ρ2) : OKP (eComp fi gF t f vs ρ) P := by
  obtain ⟨acc, ρ2, a1, a2, a3⟩ := comp_inv I hat hs hl ds.length 0 (wipeE ρ1 vs) [] rfl rfl h0
  exact ⟨_, ρ2, r_comp h1 hz e1 a1, hP acc ρ2 a2 a3⟩
theorem compMap {fi : FI} {gF : FG} {vs : List Nat} {sr : Sr} {ds : List PyData} (g : PyData → PyData) (h1 : fi ρ = .ok sr ρ1) (hz : (sr.slots.all fun i => !vs.contains i) = true) (e1 : sr.at (wipeE ρ1 vs) = some ds) 
    (hs : ∀ d, d ∈ ds → ∃ ρ2 ρ3, gF d (wipeE ρ1 vs) = some ρ2 ∧ f ρ2 = .ok (.fz (g d)) ρ3 ∧ wipeE ρ3 vs = wipeE ρ1 vs) (hl : ds.length ≤ sizeLine) : eComp fi gF tYesF f vs ρ = .ok (.lst ((ds.map g).map O.fz)) (wipeE ρ1 vs) :=
  r_comp h1 hz e1 (comp_map g e1 hs hl)
theorem compM {α : Type} {fi : FI} {gF : FG} {vs : List Nat} {sr : Sr} {ρ4 : En} (ks : List α) (q g : α → PyData) (h1 : fi ρ = .ok sr ρ1) (hz : (sr.slots.all fun i => !vs.contains i) = true) (h4 : wipeE ρ1 vs = ρ4) (e1 : sr.at ρ4 = some (ks.map q))
    (hs : ∀ k, k ∈ ks → ∃ ρ2 ρ3, gF (q k) ρ4 = some ρ2 ∧ f ρ2 = .ok (.fz (g k)) ρ3 ∧ wipeE ρ3 vs = ρ4) (hl : ks.length ≤ sizeLine) : eComp fi gF tYesF f vs ρ = .ok (.lst ((ks.map g).map O.fz)) ρ4 := by
  subst h4
  obtain ⟨acc', ρ', a1, a2, a3⟩ := comp_inv (sr := sr) (gF := gF) (test := tYesF) (elt := f) (vs := vs) (ds := ks.map q) (fun j acc ρ' => ρ' = wipeE ρ1 vs ∧ acc = (ks.take j).map g) (fun j acc ρ' h => by rw [h.1]; exact e1) (fun j acc ρ' d hd h => by
    rw [List.getElem?_map] at hd
    obtain ⟨k, b1, b2⟩ := Option.map_eq_some_iff.mp hd
    subst b2
    obtain ⟨ρ1, ρ3, a1, a2, a3⟩ := hs k (List.mem_of_getElem? b1)
    refine ⟨ρ1, ρ1, ρ3, g k, by rw [h.1]; exact a1, rfl, a2, a3, ?_⟩
    rw [h.2, List.take_add_one, b1]; simp) (by rw [List.length_map]; exact hl) (ks.map q).length 0 (wipeE ρ1 vs) [] rfl rfl ⟨rfl, rfl⟩
  rw [List.map_nil] at a1
  rw [r_comp h1 hz e1 a1, a3.1, a3.2, List.length_map, List.take_length]
theorem nxFor {Z : List Nat} {fi : FI} {gF : FG} {body : FS} {sr : Sr} {ds : List PyData} {P : En → Prop} (I : Nat → En → Prop) (h1 : fi ρ = .ok sr ρ1) (hz : (sr.slots.all fun i => Z.contains i) = true) (e1 : sr.at ρ1 = some ds) (h0 : I 0 ρ1)
    (hat : ∀ j ρ, j ≤ ds.length → I j ρ → sr.at ρ = some ds)
    (hs : ∀ j ρ d, ds[j]? = some d → I j ρ → ∃ ρ1, gF d ρ = some ρ1 ∧ NX (body ρ1) (I (j + 1))) (hP : ∀ ρ, I ds.length ρ → P ρ) : NX (sFor Z fi gF body ρ) P := by
  obtain ⟨ρ', a1, a2⟩ := for_inv (body := body) (gF := gF) I hat (fun j ρ d hd hi => by
    obtain ⟨ρ1, b1, ρ2, b2, b3⟩ := hs j ρ d hd hi
    exact ⟨ρ1, ρ2, b1, Or.inl b2, b3⟩) ds.length 0 ρ1 rfl h0
  exact ⟨ρ', r_for h1 hz e1 a1, hP _ a2⟩
end
theorem len_items {o : O} {l : Bool} {ds : List PyData} (h : itemsO o = some (l, ds)) : lenO o = some (.int ds.length) := by
  cases o with
  | fz d => cases d <;> first | (cases h; rfl) | cases h
  | raw v => cases h
  | lst xs =>
    obtain ⟨ds', e1, e2⟩ := Option.map_eq_some_iff.mp (show (allFz xs).map _ = some _ from h)
    cases e2
    show some (PyData.int xs.length) = _
    have : ∀ (xs : List O) (ds : List PyData), allFz xs = some ds → xs.length = ds.length := by
      intro xs
      induction xs with
      | nil => intro ds h; cases h; rfl
      | cons x xs ih =>
        intro ds h
        cases x with
        | fz d =>
          obtain ⟨ds', e1, e2⟩ := Option.map_eq_some_iff.mp (show (allFz xs).map _ = some _ from h)
          cases e2
          simp [ih _ e1]
        | raw v => cases h
        | lst v => cases h
    rw [this _ _ e1]
theorem ix_items {o : O} {l : Bool} {ds : List PyData} {k : Nat} {d : PyData} (h : itemsO o = some (l, ds)) (hk : ds[k]? = some d) : ixO o (k : Int) = some d := by
  rw [ixO_eq, h]
  · exact atN hk
  · intro z e; subst e; cases h
theorem ix_itemsI {o : O} {l : Bool} {ds : List PyData} {v : Int} {d : PyData} (h : itemsO o = some (l, ds)) (h0 : 0 ≤ v) (hk : ds[v.toNat]? = some d) : ixO o v = some d := by
  have := ix_items h hk
  rwa [Int.toNat_of_nonneg h0] at this
theorem mem_range {d : PyData} {n : Nat} (h : d ∈ rgD 0 n) : ∃ k : Nat, d = .int (k : Int) ∧ k < n := by
  obtain ⟨k, h1, h2⟩ := List.mem_map.mp h
  exact ⟨k, by rw [← h2]; simp, List.mem_range.mp h1⟩
theorem get_range {d : PyData} {n j : Nat} (h : (rgD 0 n)[j]? = some d) : d = .int (j : Int) ∧ j < n := by
  unfold rgD at h
  rw [List.getElem?_map] at h
  obtain ⟨k, h1, h2⟩ := Option.map_eq_some_iff.mp h
  obtain ⟨h3, h4⟩ := List.getElem?_eq_some_iff.mp h1
  rw [List.getElem_range] at h4
  subst h4
  rw [List.length_range] at h3
  exact ⟨by rw [← h2]; simp, h3⟩
theorem gN {i : Nat} {d : PyData} {ρ ρ1 : En} (h : i < ρ.length) (h2 : ρ.set i (some (.fz d)) = ρ1) : gfN i d ρ = some ρ1 := by unfold gfN; rw [if_pos h, h2]
theorem exEl {gF : FG} {f : FE} {vs : List Nat} {ρ ρ2 ρ3 ρ4 : En} {d e : PyData} (h1 : gF d ρ = some ρ2) (h2 : f ρ2 = .ok (.fz e) ρ3) (h3 : wipeE ρ3 vs = ρ4) : ∃ ρ2 ρ3, gF d ρ = some ρ2 ∧ f ρ2 = .ok (.fz e) ρ3 ∧ wipeE ρ3 vs = ρ4 := ⟨_, _, h1, h2, h3⟩
theorem exElI {gF : FG} {t : FT} {f : FE} {ρ ρ1 ρ2 ρ3 : En} {d e : PyData} {Q : PyData → En → Prop} (h1 : gF d ρ = some ρ1) (h2 : t ρ1 = .ok true ρ2) (h3 : f ρ2 = .ok (.fz e) ρ3) (h4 : Q e ρ3) : ∃ ρ1 ρ2 ρ3 e, gF d ρ = some ρ1 ∧ t ρ1 = .ok true ρ2 ∧ f ρ2 = .ok (.fz e) ρ3 ∧ Q e ρ3 := ⟨_, _, _, _, h1, h2, h3, h4⟩
theorem exFor {gF : FG} {body : FS} {ρ ρ1 : En} {d : PyData} {P : En → Prop} (h1 : gF d ρ = some ρ1) (h2 : NX (body ρ1) P) : ∃ ρ1, gF d ρ = some ρ1 ∧ NX (body ρ1) P := ⟨_, h1, h2⟩
theorem le_line {n : Nat} (h : n ≤ 1000) : n ≤ sizeLine := by unfold sizeLine; omega
theorem flat_rep {α : Type} (x : α) : ∀ n : Nat, (List.replicate n [x]).flatten = List.replicate n x
  | 0 => rfl
  | n + 1 => by rw [List.replicate_succ, List.flatten_cons, flat_rep x n]; rfl
theorem intO_bool {b : Bool} : intO (.fz (.bool b)) = some (.int (if b then 1 else 0)) := by cases b <;> rfl
theorem rg_at {ρ : En} {n : Nat} : (Sr.rg 0 (Int.toNat (n : Int))).at ρ = some ((List.range n).map fun i : Nat => PyData.int (i : Int)) := by simp [Sr.at, rgD]
theorem len_range {n : Nat} : (rgD 0 n).length = n := by simp [rgD]
end Ls

namespace Ls
open PySem L2
/-- plain data, its depth at most n -/
def Sh (n : Nat) (d : PyData) : Prop := d.canLay0 = true ∧ d.depth ≤ n
theorem sh_int {n : Nat} {i : Int} : Sh n (.int i) := ⟨rfl, by simp [PyData.depth]⟩
theorem sh_bool {n : Nat} {i : Bool} : Sh n (.bool i) := ⟨rfl, by simp [PyData.depth]⟩
theorem sh_none {n : Nat} : Sh n .none := ⟨rfl, by simp [PyData.depth]⟩
theorem canAll {ds : List PyData} (h : ∀ d ∈ ds, d.canLay0 = true) : PyData.canLayAll0 ds = true := by
  induction ds with
  | nil => simp [PyData.canLayAll0]
  | cons d ds ih =>
    simp only [PyData.canLayAll0, Bool.and_eq_true]
    exact ⟨h d (by simp), ih fun e he => h e (by simp [he])⟩
theorem canAll_mem {ds : List PyData} (h : PyData.canLayAll0 ds = true) : ∀ d ∈ ds, d.canLay0 = true := by
  induction ds with
  | nil => intro d hd; cases hd
  | cons d ds ih =>
    simp only [PyData.canLayAll0, Bool.and_eq_true] at h
    intro e he
    rcases List.mem_cons.mp he with rfl | he
    · exact h.1
    · exact ih h.2 e he
theorem depAll {n : Nat} {ds : List PyData} (h : ∀ d ∈ ds, d.depth ≤ n) : PyData.depthAll ds ≤ n := by
  induction ds with
  | nil => simp [PyData.depthAll]
  | cons d ds ih =>
    simp only [PyData.depthAll]
    exact Nat.max_le.mpr ⟨h d (by simp), ih fun e he => h e (by simp [he])⟩
theorem depAll_mem {n : Nat} {ds : List PyData} (h : PyData.depthAll ds ≤ n) : ∀ d ∈ ds, d.depth ≤ n := by
  induction ds with
  | nil => intro d hd; cases hd
  | cons d ds ih =>
    simp only [PyData.depthAll] at h
    have h := Nat.max_le.mp h
    intro e he
    rcases List.mem_cons.mp he with rfl | he
    · exact h.1
    · exact ih h.2 e he
theorem sh_list {n : Nat} {ds : List PyData} (h : ∀ d ∈ ds, Sh n d) : Sh (n + 1) (.list ds) := ⟨by simp only [PyData.canLay0]; exact canAll fun d hd => (h d hd).1, by simp only [PyData.depth]; exact Nat.succ_le_succ (depAll fun d hd => (h d hd).2)⟩
theorem sh_tuple {n : Nat} {ds : List PyData} (h : ∀ d ∈ ds, Sh n d) : Sh (n + 1) (.tuple ds) := ⟨by simp only [PyData.canLay0]; exact canAll fun d hd => (h d hd).1, by simp only [PyData.depth]; exact Nat.succ_le_succ (depAll fun d hd => (h d hd).2)⟩
theorem sh_listI {n : Nat} {ds : List PyData} (h : Sh (n + 1) (.list ds)) : ∀ d ∈ ds, Sh n d := fun d hd => ⟨canAll_mem (by simpa only [PyData.canLay0] using h.1) d hd, depAll_mem (Nat.le_of_succ_le_succ (by simpa only [PyData.depth] using h.2)) d hd⟩
theorem sh_tupleI {n : Nat} {ds : List PyData} (h : Sh (n + 1) (.tuple ds)) : ∀ d ∈ ds, Sh n d := fun d hd => ⟨canAll_mem (by simpa only [PyData.canLay0] using h.1) d hd, depAll_mem (Nat.le_of_succ_le_succ (by simpa only [PyData.depth] using h.2)) d hd⟩
theorem sh_shaped {n : Nat} {d : PyData} (h : Sh n d) (hn : n ≤ 64) : SeqAt.shaped d = true := by
  unfold SeqAt.shaped
  rw [h.1, Bool.true_and]
  exact decide_eq_true (Nat.le_trans h.2 hn)
theorem sh_mono {n m : Nat} {d : PyData} (h : Sh n d) (hn : n ≤ m) : Sh m d := ⟨h.1, Nat.le_trans h.2 hn⟩
theorem dEq_self {n : Nat} {d : PyData} (h : Sh n d) (hn : n ≤ 64) : dEq d d = some (.bool true) := by
  unfold dEq
  rw [sh_shaped h hn]
  simp [SeqAt.eqv_refl d h.1]
theorem dNe_nil {n : Nat} {ds : List PyData} (h : Sh n (.list ds)) (hn : n ≤ 64) : dNe (.list ds) (.list []) = some (.bool (!ds.isEmpty)) := by
  unfold dNe
  rw [sh_shaped h hn, sh_shaped (d := .list []) (n := 1) (sh_list fun d hd => by cases hd) (by decide)]
  cases ds with
  | nil => rfl
  | cons d ds => simp [PyData.eqv, PyData.eqvAll]
theorem dNe_bool {a b : Bool} : dNe (.bool a) (.bool b) = some (.bool (a != b)) := by
  cases a <;> cases b <;> simp [dNe, SeqAt.shaped, PyData.eqv, PyData.canLay0, PyData.depth]
theorem dEq_bool {a b : Bool} : dEq (.bool a) (.bool b) = some (.bool (a == b)) := by
  cases a <;> cases b <;> simp [dEq, SeqAt.shaped, PyData.eqv, PyData.canLay0, PyData.depth]
theorem bols_map : ∀ bs : List Bool, bolsD (bs.map PyData.bool) = some bs
  | [] => rfl
  | b :: bs => by show (bolsD (bs.map PyData.bool)).map _ = _; rw [bols_map bs]; rfl
theorem ints_map : ∀ bs : List Int, intsD (bs.map PyData.int) = some bs
  | [] => rfl
  | b :: bs => by show (intsD (bs.map PyData.int)).map _ = _; rw [ints_map bs]; rfl
theorem allO_map (bs : List Bool) : allO (.lst ((bs.map PyData.bool).map O.fz)) = some (.bool (bs.all id)) := by
  unfold allO lstI
  rw [items_map]
  simp only [Option.bind, bols_map, Option.map]
theorem sumO_map (bs : List Int) : sumO (.lst ((bs.map PyData.int).map O.fz)) = some (.int bs.sum) := by
  unfold sumO lstI
  rw [items_map]
  simp only [Option.bind, ints_map, Option.map]
section
variable {ρ ρ1 : En} {s r : FS} {t : FT} {a : Bool} {G : SO → Prop}
theorem ifTG (h1 : t ρ = .ok a ρ1) (ha : a = true) (h2 : G (s ρ1)) : G (sIf t s r ρ) := by rw [r_ifT h1 ha rfl]; exact h2
theorem ifFG (h1 : t ρ = .ok a ρ1) (ha : a = false) (h2 : G (r ρ1)) : G (sIf t s r ρ) := by rw [r_ifF h1 ha rfl]; exact h2
end
/-- an object that stands for data -/
inductive Is : O → PyData → Prop
  | fz (d : PyData) : Is (.fz d) d
  | lst (ds : List PyData) : Is (.lst (ds.map O.fz)) (.list ds)
theorem is_frz {o : O} {d : PyData} (h : Is o d) : frz o = some d := by
  cases h with
  | fz => rfl
  | lst ds => exact frz_map ds
theorem is_items {o : O} {ds : List PyData} (h : Is o (.list ds)) : itemsO o = some (true, ds) := by
  cases h with
  | fz => rfl
  | lst ds => exact items_map ds
theorem is_itemsT {o : O} {ds : List PyData} (h : Is o (.tuple ds)) : itemsO o = some (false, ds) := by
  cases h with
  | fz => rfl
end Ls

noncomputable section
namespace Lw
open PySem L2 Ls
def topS (i : Nat) : Stmt := PySem.Challenge.pw_lotspring_k05_rows_at_seeds_and_added.main.body.getD i (.Pass ⟨0, 0, 0, 0⟩)
abbrev s__law_bag : Stmt := topS 20
abbrev N__law_bag : List Str := ["_law_script"]
abbrev s__law_pull : Stmt := topS 21
abbrev N__law_pull : List Str := ["_law_bag_here", "_law_many", "_law_cell", "_law_mixed", "_law_got"]
abbrev s__law_pick : Stmt := topS 22
abbrev N__law_pick : List Str := ["_law_bag_here", "_law_some"]
abbrev s__law_prime : Stmt := topS 25
abbrev N__law_prime : List Str := ["_law_bag_here"]
abbrev s__law_mix : Stmt := topS 28
abbrev N__law_mix : List Str := ["_law_p", "_law_rows_here", "_law_weights", "_law_size", "_law_found", "_law_at", "_law_k"]
abbrev s__law_row : Stmt := topS 26
abbrev N__law_row : List Str := ["_law_bag_here", "_law_p", "_law_size", "_law_way", "_law_at", "_law_k"]
abbrev s__law_rows : Stmt := topS 29
abbrev N__law_rows : List Str := ["_law_bag_here", "_law_p", "_law_size", "_law_most", "_law_found", "_law_k", "_law_way", "_law_weights", "_law_one"]
abbrev s_need_prime : Stmt := topS 9
abbrev N_need_prime : List Str := ["prime"]
abbrev s_is_whole : Stmt := topS 5
abbrev N_is_whole : List Str := ["thing"]
abbrev s_is_within : Stmt := topS 6
abbrev N_is_within : List Str := ["thing", "low", "high"]
abbrev s_is_row_of : Stmt := topS 12
abbrev N_is_row_of : List Str := ["prime", "row", "number"]
abbrev s_need_alike : Stmt := topS 13
abbrev N_need_alike : List Str := ["prime", "rows", "row"]
abbrev s_dot : Stmt := topS 15
abbrev N_dot : List Str := ["prime", "row", "seed", "one", "other"]
abbrev s_at_seed : Stmt := topS 16
abbrev N_at_seed : List Str := ["prime", "row", "seed"]
abbrev s__law_same : Stmt := topS 23
abbrev N__law_same : List Str := ["_law_found", "_law_due", "_law_right", "_law_key", "_law_at"]
abbrev s__law_dot : Stmt := topS 27
abbrev N__law_dot : List Str := ["_law_p", "_law_row_here", "_law_seed", "_law_found", "_law_at"]
abbrev s_need_listed : Stmt := topS 14
abbrev N_need_listed : List Str := ["prime", "numbers", "many", "number"]
abbrev s_columns_of : Stmt := topS 18
abbrev N_columns_of : List Str := ["rows", "at", "row"]
abbrev s_added : Stmt := topS 17
abbrev N_added : List Str := ["prime", "rows", "weights", "column"]
abbrev s_law : Stmt := topS 30
abbrev N_law : List Str := ["_law_script", "_law_bag_here", "_law_p", "_law_size", "_law_rows_here", "_law_seed", "_law_weights", "_law_handed", "_law_found", "_law_due", "_law_sums", "_law_row_here", "_law_at"]
def d_PRIMES : PyData := (.tuple [(.int 2), (.int 3), (.int 5), (.int 7), (.int 11), (.int 13), (.int 17), (.int 19), (.int 23), (.int 29), (.int 31)])
/-! ### worths -/
def w__law_bag : FS := (sRet (eLst (aCons (eZ (eList (pE (eSl (pVar 0) nNo (nE (pE (eC (.int 63)))))))) (aCons (eC (.int 0)) (aCons (eC (.int 0)) (aCons (eC (.int 1)) aNil))))))
def F__law_bag : List O → FO := runFn 1 [0] w__law_bag
def w__law_pull : FS := (sSeq (sIf (tAndF (tOf (eOp dEq (pE (eIx (pVar 0) (pE (eC (.int 2))))) (pE (eC (.int 0))))) (tOf (eOp dLt (pE (eIx (pVar 0) (pE (eC (.int 1))))) (pE (eB1 lenO (pE (eIx (pVar 0) (pE (eC (.int 0))))))))))
    (sSeq (sSet 2 (eIx (pE (eIx (pVar 0) (pE (eC (.int 0))))) (pE (eIx (pVar 0) (pE (eC (.int 1)))))))
    (sSeq (sIx 0 (pE (eC (.int 1))) (eOp dAdd (pE (eIx (pVar 0) (pE (eC (.int 1))))) (pE (eC (.int 1)))))
    (sIf (tOf (eOp dGe (pVar 2) (pE (eOp dPow (pE (eC (.int 10))) (pE (eC (.int 18)))))))
    (sIx 0 (pE (eC (.int 2))) (eVar 2))
    (sSeq (sSet 3 (eOp dAdd (pE (eOp dAdd (pE (eOp dMul (pE (eIx (pVar 0) (pE (eC (.int 3))))) (pE (eC (.int 48271))))) (pE (eOp dMul (pE (eOp dMod (pVar 2) (pE (eC (.int 2147483629))))) (pE (eC (.int 69621))))))) (pE (eC (.int 11)))))
    (sIx 0 (pE (eC (.int 3))) (eOp dMod (pVar 3) (pE (eC (.int 2147483647)))))))))
    sNil)
    (sSeq (sIf (tOf (eOp dGt (pE (eIx (pVar 0) (pE (eC (.int 2))))) (pE (eC (.int 0)))))
    (sSeq (sSet 4 (eOp dMod (pE (eIx (pVar 0) (pE (eC (.int 2))))) (pVar 1)))
    (sSeq (sIx 0 (pE (eC (.int 2))) (eOp dDiv (pE (eIx (pVar 0) (pE (eC (.int 2))))) (pVar 1)))
    (sRet (eLend 4))))
    sNil)
    (sSeq (sSet 3 (eOp dAdd (pE (eOp dMul (pE (eOp dMod (pE (eOp dMul (pE (eIx (pVar 0) (pE (eC (.int 3))))) (pE (eIx (pVar 0) (pE (eC (.int 3))))))) (pE (eC (.int 2147483587))))) (pE (eC (.int 16807))))) (pE (eOp dMul (pE (eIx (pVar 0) (pE (eC (.int 3))))) (pE (eC (.int 48271)))))))
    (sSeq (sIx 0 (pE (eC (.int 3))) (eOp dMod (pE (eOp dAdd (pVar 3) (pE (eC (.int 12345))))) (pE (eC (.int 2147483647)))))
    (sRet (eOp dMod (pE (eOp dAdd (pE (eOp dDiv (pE (eIx (pVar 0) (pE (eC (.int 3))))) (pE (eC (.int 64))))) (pE (eOp dMul (pE (eOp dMod (pE (eIx (pVar 0) (pE (eC (.int 3))))) (pE (eC (.int 4093))))) (pE (eC (.int 31))))))) (pVar 1)))))))
def F__law_pull : List O → FO := runFn 5 [0, 1] w__law_pull
def w__law_pick : FS := (sRet (eIx (pVar 1) (pE (eCall F__law_pull [some 0, none] [] (aCons (eLend 0) (aCons (eB1 lenO (pVar 1)) aNil))))))
def F__law_pick : List O → FO := runFn 2 [0, 1] w__law_pick
def w__law_prime : FS := (sRet (eCall F__law_pick [some 0, none] [] (aCons (eLend 0) (aCons (eLst (aCons (eC (.int 2)) (aCons (eC (.int 3)) (aCons (eC (.int 5)) (aCons (eC (.int 7)) (aCons (eC (.int 11)) (aCons (eC (.int 13)) (aCons (eC (.int 17)) (aCons (eC (.int 19)) (aCons (eC (.int 23)) (aCons (eC (.int 29)) (aCons (eC (.int 31)) aNil)))))))))))) aNil))))
def F__law_prime : List O → FO := runFn 1 [0] w__law_prime
def w__law_mix : FS := (sSeq (sSet 4 (eRep (pE (eLst (aCons (eC (.int 0)) aNil))) (pVar 3)))
    (sSeq (sFor [] (fRg1 (pE (eB1 lenO (pVar 1)))) (gfN 5)
    (sSet 4 (eComp (fRg1 (pVar 3)) (gfN 6) tYesF (eOp dMod (pE (eOp dAdd (pE (eIx (pVar 4) (pVar 6))) (pE (eOp dMul (pE (eIx (pVar 2) (pVar 5))) (pE (eIx (pE (eIx (pVar 1) (pVar 5))) (pVar 6))))))) (pVar 0)) [6])))
    (sRet (eTuple (pVar 4)))))
def F__law_mix : List O → FO := runFn 7 [0, 1, 2, 3] w__law_mix
def w__law_row : FS := (sSeq (sSet 3 (eCall F__law_pull [some 0, none] [] (aCons (eLend 0) (aCons (eC (.int 6)) aNil))))
    (sSeq (sIf (tOf (eOp dEq (pVar 3) (pE (eC (.int 0)))))
    (sRet (eRepT (pE (eTup (aCons (eC (.int 0)) aNil))) (pVar 2)))
    sNil)
    (sSeq (sIf (tOf (eOp dEq (pVar 3) (pE (eC (.int 1)))))
    (sSeq (sSet 4 (eCall F__law_pull [some 0, some 2] [] (aCons (eLend 0) (aCons (eLend 2) aNil))))
    (sRet (eTuple (pE (eComp (fRg1 (pVar 2)) (gfN 5) tYesF (eB1 intO (pE (eOp dEq (pVar 5) (pVar 4)))) [5])))))
    sNil)
    (sRet (eTuple (pE (eComp (fRg1 (pVar 2)) (gfN 5) tYesF (eZ (eCall F__law_pull [some 0, some 1] [] (aCons (eLend 0) (aCons (eLend 1) aNil)))) [5])))))))
def F__law_row : List O → FO := runFn 6 [0, 1, 2] w__law_row
def w__law_rows : FS := (sSeq (sSet 4 (eLst aNil))
    (sSeq (sFor [] (fRg1 (pE (eCall F__law_pull [some 0, none] [] (aCons (eLend 0) (aCons (eOp dAdd (pVar 3) (pE (eC (.int 1)))) aNil))))) (gfN 5)
    (sSeq (sSet 6 (eCall F__law_pull [some 0, none] [] (aCons (eLend 0) (aCons (eC (.int 4)) aNil))))
    (sIf (tAndF (tOf (eOp dEq (pVar 6) (pE (eC (.int 0))))) (tOf (eOp dNe (pVar 4) (pE (eLst aNil)))))
    (sSeq (sSet 7 (eComp (fSeq (pVar 4)) (gfN 8) tYesF (eZ (eCall F__law_pull [some 0, some 1] [] (aCons (eLend 0) (aCons (eLend 1) aNil)))) [8]))
    (sApp 4 (eZ (eCall F__law_mix [some 1, some 4, some 7, some 2] [] (aCons (eLend 1) (aCons (eLend 4) (aCons (eLend 7) (aCons (eLend 2) aNil))))))))
    (sIf (tAndF (tOf (eOp dEq (pVar 6) (pE (eC (.int 1))))) (tOf (eOp dNe (pVar 4) (pE (eLst aNil)))))
    (sApp 4 (eZ (eCall F__law_pick [some 0, some 4] [] (aCons (eLend 0) (aCons (eLend 4) aNil)))))
    (sApp 4 (eZ (eCall F__law_row [some 0, some 1, some 2] [] (aCons (eLend 0) (aCons (eLend 1) (aCons (eLend 2) aNil))))))))))
    (sRet (eLend 4))))
def F__law_rows : List O → FO := runFn 9 [0, 1, 2, 3] w__law_rows
def w_need_prime : FS := (sIf (tOf (eOp dNotIn (pVar 0) (pE (eC d_PRIMES))))
    (fun _ => .bad)
    sNil)
def F_need_prime : List O → FO := runFn 1 [0] w_need_prime
def w_is_whole : FS := (sRet (eAnd (eIsi "int" (pVar 0)) (eNot (pE (eIsi "bool" (pVar 0))))))
def F_is_whole : List O → FO := runFn 1 [0] w_is_whole
def w_is_within : FS := (sRet (eAnd (eCall F_is_whole [some 0] [] (aCons (eLend 0) aNil)) (eChain dLe dLe (pVar 1) (pVar 0) (pVar 2))))
def F_is_within : List O → FO := runFn 3 [0, 1, 2] w_is_within
def w_is_row_of : FS := (sSeq (sIf (tOrF (tNotF (tOf (eIsi "tuple" (pVar 1)))) (tNotF (tOf (eChain dLe dLe (pE (eC (.int 1))) (pE (eB1 lenO (pVar 1))) (pE (eC (.int 12)))))))
    (sRet (eC (.bool false)))
    sNil)
    (sRet (eB1 allO (pE (eComp (fSeq (pVar 1)) (gfN 2) tYesF (eZ (eCall F_is_within [some 2, none, none] [] (aCons (eLend 2) (aCons (eC (.int 0)) (aCons (eOp dSub (pVar 0) (pE (eC (.int 1)))) aNil))))) [2])))))
def F_is_row_of : List O → FO := runFn 3 [0, 1] w_is_row_of
def w_need_alike : FS := (sSeq (sDrop (eCall F_need_prime [some 0] [] (aCons (eLend 0) aNil)))
    (sFor [1] (fSeq (pVar 1)) (gfN 2)
    (sIf (tOrF (tNotF (tOf (eCall F_is_row_of [some 0, some 2] [] (aCons (eLend 0) (aCons (eLend 2) aNil))))) (tOf (eOp dNe (pE (eB1 lenO (pVar 2))) (pE (eB1 lenO (pE (eIx (pVar 1) (pE (eC (.int 0))))))))))
    (fun _ => .bad)
    sNil)))
def F_need_alike : List O → FO := runFn 3 [0, 1] w_need_alike
def w_dot : FS := (sRet (eOp dMod (pE (eB1 sumO (pE (eComp (fZip (pVar 1) (pVar 2)) (gfT 2 (gsC (gfN 3) (gsC (gfN 4) gsN))) tYesF (eOp dMul (pVar 3) (pVar 4)) [3, 4])))) (pVar 0)))
def F_dot : List O → FO := runFn 5 [0, 1, 2] w_dot
def w_at_seed : FS := (sSeq (sDrop (eCall F_need_alike [some 0, none] [] (aCons (eLend 0) (aCons (eLst (aCons (eVar 1) (aCons (eVar 2) aNil))) aNil))))
    (sRet (eCall F_dot [some 0, some 1, some 2] [] (aCons (eLend 0) (aCons (eLend 1) (aCons (eLend 2) aNil))))))
def F_at_seed : List O → FO := runFn 3 [0, 1, 2] w_at_seed
def w__law_same (Fs : List O → FO) : FS := (sSeq (sIf (tOf (eIsi "dict" (pVar 1)))
    (fun _ => .bad)
    sNil)
    (sSeq (sIf (tOrF (tOf (eIsi "list" (pVar 1))) (tOf (eIsi "tuple" (pVar 1))))
    (sSeq (sIf (tAndF (tNotF (tOf (eIsi "list" (pVar 0)))) (tNotF (tOf (eIsi "tuple" (pVar 0)))))
    (sRet (eC (.bool false)))
    sNil)
    (sSeq (sIf (tOf (eOp dNe (pE (eIsi "list" (pVar 1))) (pE (eIsi "list" (pVar 0)))))
    (sRet (eC (.bool false)))
    sNil)
    (sSeq (sIf (tOf (eOp dNe (pE (eB1 lenO (pVar 0))) (pE (eB1 lenO (pVar 1)))))
    (sRet (eC (.bool false)))
    sNil)
    (sRet (eB1 allO (pE (eComp (fRg1 (pE (eB1 lenO (pVar 1)))) (gfN 4) tYesF (eZ (eCall Fs [none, none] [] (aCons (eIx (pVar 0) (pVar 4)) (aCons (eIx (pVar 1) (pVar 4)) aNil)))) [4])))))))
    sNil)
    (sSeq (sIf (tOf (eOp dIs (pVar 1) (pE (eC .none))))
    (sRet (eOp dIs (pVar 0) (pE (eC .none))))
    sNil)
    (sSeq (sIf (tOf (eOp dNe (pE (eIsi "bool" (pVar 1))) (pE (eIsi "bool" (pVar 0)))))
    (sRet (eC (.bool false)))
    sNil)
    (sRet (eAnd (eOp dEq (pE (eIsi "int" (pVar 0))) (pE (eIsi "int" (pVar 1)))) (eOp dEq (pVar 0) (pVar 1))))))))
def F__law_same : Nat → List O → FO
  | 0 => fun _ => .bad
  | n + 1 => runFn 5 [0, 1] (w__law_same (F__law_same n))
def w__law_dot : FS := (sSeq (sSet 3 (eC (.int 0)))
    (sSeq (sFor [] (fRg1 (pE (eB1 lenO (pVar 1)))) (gfN 4)
    (sSet 3 (eOp dMod (pE (eOp dAdd (pVar 3) (pE (eOp dMul (pE (eIx (pVar 1) (pVar 4))) (pE (eIx (pVar 2) (pVar 4))))))) (pVar 0))))
    (sRet (eLend 3))))
def F__law_dot : List O → FO := runFn 5 [0, 1, 2] w__law_dot
def w_need_listed : FS := (sSeq (sIf (tOrF (tNotF (tOf (eIsi "list" (pVar 1)))) (tOf (eOp dNe (pE (eB1 lenO (pVar 1))) (pVar 2))))
    (fun _ => .bad)
    sNil)
    (sIf (tNotF (tOf (eB1 allO (pE (eComp (fSeq (pVar 1)) (gfN 3) tYesF (eZ (eCall F_is_within [some 3, none, none] [] (aCons (eLend 3) (aCons (eC (.int 0)) (aCons (eOp dSub (pVar 0) (pE (eC (.int 1)))) aNil))))) [3])))))
    (fun _ => .bad)
    sNil))
def F_need_listed : List O → FO := runFn 4 [0, 1, 2] w_need_listed
def w_columns_of : FS := (sRet (eComp (fRg1 (pE (eB1 lenO (pE (eIx (pVar 0) (pE (eC (.int 0)))))))) (gfN 1) tYesF (eZ (eComp (fSeq (pVar 0)) (gfN 2) tYesF (eIx (pVar 2) (pVar 1)) [2])) [1]))
def F_columns_of : List O → FO := runFn 3 [0] w_columns_of
def w_added : FS := (sSeq (sDrop (eCall F_need_alike [some 0, some 1] [] (aCons (eLend 0) (aCons (eLend 1) aNil))))
    (sSeq (sDrop (eCall F_need_listed [some 0, some 2, none] [] (aCons (eLend 0) (aCons (eLend 2) (aCons (eB1 lenO (pVar 1)) aNil)))))
    (sRet (eTuple (pE (eComp (fSeq (pE (eCall F_columns_of [some 1] [] (aCons (eLend 1) aNil)))) (gfN 3) tYesF (eZ (eCall F_dot [some 0, some 3, some 2] [] (aCons (eLend 0) (aCons (eLend 3) (aCons (eLend 2) aNil))))) [3]))))))
def F_added : List O → FO := runFn 4 [0, 1, 2] w_added
def w_law : FS := (sSeq (sSet 1 (eCall F__law_bag [some 0] [] (aCons (eLend 0) aNil)))
    (sSeq (sSet 2 (eCall F__law_prime [some 1] [] (aCons (eLend 1) aNil)))
    (sSeq (sSet 3 (eOp dAdd (pE (eC (.int 1))) (pE (eCall F__law_pull [some 1, none] [] (aCons (eLend 1) (aCons (eC (.int 12)) aNil))))))
    (sSeq (sSet 4 (eCat (pE (eCall F__law_rows [some 1, some 2, some 3, none] [] (aCons (eLend 1) (aCons (eLend 2) (aCons (eLend 3) (aCons (eC (.int 9)) aNil)))))) (pE (eLst (aCons (eZ (eCall F__law_row [some 1, some 2, some 3] [] (aCons (eLend 1) (aCons (eLend 2) (aCons (eLend 3) aNil))))) aNil)))))
    (sSeq (sSet 5 (eCall F__law_row [some 1, some 2, some 3] [] (aCons (eLend 1) (aCons (eLend 2) (aCons (eLend 3) aNil)))))
    (sSeq (sSet 6 (eComp (fSeq (pVar 4)) (gfN 11) tYesF (eZ (eCall F__law_pull [some 1, some 2] [] (aCons (eLend 1) (aCons (eLend 2) aNil)))) [11]))
    (sSeq (sSet 7 (eLst (aCons (eZ (eList (pVar 4))) (aCons (eZ (eList (pVar 6))) aNil))))
    (sSeq (sSet 8 (eComp (fSeq (pVar 4)) (gfN 11) tYesF (eZ (eCall F_at_seed [some 2, some 11, some 5] [] (aCons (eLend 2) (aCons (eLend 11) (aCons (eLend 5) aNil))))) [11]))
    (sSeq (sIf (tNotF (tOf (eCall (F__law_same 8) [some 8, none] [] (aCons (eLend 8) (aCons (eComp (fSeq (pVar 4)) (gfN 11) tYesF (eZ (eCall F__law_dot [some 2, some 11, some 5] [] (aCons (eLend 2) (aCons (eLend 11) (aCons (eLend 5) aNil))))) [11]) aNil)))))
    (sRet (eC (.bool false)))
    sNil)
    (sSeq (sSet 9 (eCall F__law_mix [some 2, some 4, some 6, some 3] [] (aCons (eLend 2) (aCons (eLend 4) (aCons (eLend 6) (aCons (eLend 3) aNil))))))
    (sSeq (sIf (tNotF (tOf (eCall (F__law_same 8) [none, none] [] (aCons (eLst (aCons (eZ (eCall F_added [some 2, none, none] [] (aCons (eLend 2) (aCons (eIx (pVar 7) (pE (eC (.int 0)))) (aCons (eIx (pVar 7) (pE (eC (.int 1)))) aNil))))) (aCons (eVar 7) aNil))) (aCons (eLst (aCons (eVar 9) (aCons (eZ (eLst (aCons (eVar 4) (aCons (eVar 6) aNil)))) aNil))) aNil)))))
    (sRet (eC (.bool false)))
    sNil)
    (sSeq (sSet 10 (eOp dMod (pE (eB1 sumO (pE (eComp (fRg1 (pE (eB1 lenO (pVar 4)))) (gfN 12) tYesF (eOp dMul (pE (eIx (pVar 6) (pVar 12))) (pE (eIx (pVar 8) (pVar 12)))) [12])))) (pVar 2)))
    (sSeq (sIf (tNotF (tOf (eCall (F__law_same 8) [none, some 10] [] (aCons (eCall F_at_seed [some 2, some 9, some 5] [] (aCons (eLend 2) (aCons (eLend 9) (aCons (eLend 5) aNil)))) (aCons (eLend 10) aNil)))))
    (sRet (eC (.bool false)))
    sNil)
    (sRet (eCall (F__law_same 8) [none, some 9] [] (aCons (eCall F_added [some 2, some 4, some 6] [] (aCons (eLend 2) (aCons (eLend 4) (aCons (eLend 6) aNil)))) (aCons (eLend 9) aNil)))))))))))))))))
def F_law : List O → FO := runFn 13 [0] w_law
/-! ### what the top has left -/
structure Tx (K : PySem.W.Frag) (mg : Str → Option Value) where
  fd__law_bag : FuncData
  fd__law_pull : FuncData
  fd__law_pick : FuncData
  fd__law_prime : FuncData
  fd__law_mix : FuncData
  fd__law_row : FuncData
  fd__law_rows : FuncData
  fd_need_prime : FuncData
  fd_is_whole : FuncData
  fd_is_within : FuncData
  fd_is_row_of : FuncData
  fd_need_alike : FuncData
  fd_dot : FuncData
  fd_at_seed : FuncData
  fd__law_same : FuncData
  fd__law_dot : FuncData
  fd_need_listed : FuncData
  fd_columns_of : FuncData
  fd_added : FuncData
  fd_law : FuncData
  f__law_bag : FunD K "_law_bag" "_law_bag" (defArgs s__law_bag) (defBody s__law_bag) (defScope s__law_bag) [] [] (He.ga K "_law_bag") fd__law_bag
  m__law_bag : mg "_law_bag" = some (.ref (He.ga K "_law_bag"))
  f__law_pull : FunD K "_law_pull" "_law_pull" (defArgs s__law_pull) (defBody s__law_pull) (defScope s__law_pull) [] [] (He.ga K "_law_pull") fd__law_pull
  m__law_pull : mg "_law_pull" = some (.ref (He.ga K "_law_pull"))
  f__law_pick : FunD K "_law_pick" "_law_pick" (defArgs s__law_pick) (defBody s__law_pick) (defScope s__law_pick) [] [] (He.ga K "_law_pick") fd__law_pick
  m__law_pick : mg "_law_pick" = some (.ref (He.ga K "_law_pick"))
  f__law_prime : FunD K "_law_prime" "_law_prime" (defArgs s__law_prime) (defBody s__law_prime) (defScope s__law_prime) [] [] (He.ga K "_law_prime") fd__law_prime
  m__law_prime : mg "_law_prime" = some (.ref (He.ga K "_law_prime"))
  f__law_mix : FunD K "_law_mix" "_law_mix" (defArgs s__law_mix) (defBody s__law_mix) (defScope s__law_mix) [] [] (He.ga K "_law_mix") fd__law_mix
  m__law_mix : mg "_law_mix" = some (.ref (He.ga K "_law_mix"))
  f__law_row : FunD K "_law_row" "_law_row" (defArgs s__law_row) (defBody s__law_row) (defScope s__law_row) [] [] (He.ga K "_law_row") fd__law_row
  m__law_row : mg "_law_row" = some (.ref (He.ga K "_law_row"))
  f__law_rows : FunD K "_law_rows" "_law_rows" (defArgs s__law_rows) (defBody s__law_rows) (defScope s__law_rows) [] [] (He.ga K "_law_rows") fd__law_rows
  m__law_rows : mg "_law_rows" = some (.ref (He.ga K "_law_rows"))
  f_need_prime : FunD K "need_prime" "need_prime" (defArgs s_need_prime) (defBody s_need_prime) (defScope s_need_prime) [] [] (He.ga K "need_prime") fd_need_prime
  m_need_prime : mg "need_prime" = some (.ref (He.ga K "need_prime"))
  f_is_whole : FunD K "is_whole" "is_whole" (defArgs s_is_whole) (defBody s_is_whole) (defScope s_is_whole) [] [] (He.ga K "is_whole") fd_is_whole
  m_is_whole : mg "is_whole" = some (.ref (He.ga K "is_whole"))
  f_is_within : FunD K "is_within" "is_within" (defArgs s_is_within) (defBody s_is_within) (defScope s_is_within) [] [] (He.ga K "is_within") fd_is_within
  m_is_within : mg "is_within" = some (.ref (He.ga K "is_within"))
  f_is_row_of : FunD K "is_row_of" "is_row_of" (defArgs s_is_row_of) (defBody s_is_row_of) (defScope s_is_row_of) [] [] (He.ga K "is_row_of") fd_is_row_of
  m_is_row_of : mg "is_row_of" = some (.ref (He.ga K "is_row_of"))
  f_need_alike : FunD K "need_alike" "need_alike" (defArgs s_need_alike) (defBody s_need_alike) (defScope s_need_alike) [] [] (He.ga K "need_alike") fd_need_alike
  m_need_alike : mg "need_alike" = some (.ref (He.ga K "need_alike"))
  f_dot : FunD K "dot" "dot" (defArgs s_dot) (defBody s_dot) (defScope s_dot) [] [] (He.ga K "dot") fd_dot
  m_dot : mg "dot" = some (.ref (He.ga K "dot"))
  f_at_seed : FunD K "at_seed" "at_seed" (defArgs s_at_seed) (defBody s_at_seed) (defScope s_at_seed) [] [] (He.ga K "at_seed") fd_at_seed
  m_at_seed : mg "at_seed" = some (.ref (He.ga K "at_seed"))
  f__law_same : FunD K "_law_same" "_law_same" (defArgs s__law_same) (defBody s__law_same) (defScope s__law_same) [] [] (He.ga K "_law_same") fd__law_same
  m__law_same : mg "_law_same" = some (.ref (He.ga K "_law_same"))
  f__law_dot : FunD K "_law_dot" "_law_dot" (defArgs s__law_dot) (defBody s__law_dot) (defScope s__law_dot) [] [] (He.ga K "_law_dot") fd__law_dot
  m__law_dot : mg "_law_dot" = some (.ref (He.ga K "_law_dot"))
  f_need_listed : FunD K "need_listed" "need_listed" (defArgs s_need_listed) (defBody s_need_listed) (defScope s_need_listed) [] [] (He.ga K "need_listed") fd_need_listed
  m_need_listed : mg "need_listed" = some (.ref (He.ga K "need_listed"))
  f_columns_of : FunD K "columns_of" "columns_of" (defArgs s_columns_of) (defBody s_columns_of) (defScope s_columns_of) [] [] (He.ga K "columns_of") fd_columns_of
  m_columns_of : mg "columns_of" = some (.ref (He.ga K "columns_of"))
  f_added : FunD K "added" "added" (defArgs s_added) (defBody s_added) (defScope s_added) [] [] (He.ga K "added") fd_added
  m_added : mg "added" = some (.ref (He.ga K "added"))
  f_law : FunD K "law" "law" (defArgs s_law) (defBody s_law) (defScope s_law) [] [] (He.ga K "law") fd_law
  m_law : mg "law" = some (.ref (He.ga K "law"))
  n_all : mg "all" = none
  n_bool : mg "bool" = none
  n_dict : mg "dict" = none
  n_int : mg "int" = none
  n_isinstance : mg "isinstance" = none
  n_len : mg "len" = none
  n_list : mg "list" = none
  n_range : mg "range" = none
  n_sum : mg "sum" = none
  n_tuple : mg "tuple" = none
  n_zip : mg "zip" = none
  c_MOST_SIZE : ∃ t, mg "MOST_SIZE" = some (.int 12 t)
  m_PRIMES : mg "PRIMES" = some (.ref (He.ga K "PRIMES"))
  c_PRIMES : ∀ S, Dp K S (.ref (He.ga K "PRIMES")) d_PRIMES
section
variable {P : Program} {w : World} {K : PySem.W.Frag} {mg : Str → Option Value} {base : Heap}
theorem sc__law_bag : FnScope N__law_bag ["_law_script"] (defScope s__law_bag) := ⟨rfl, rfl, rfl, by decide +kernel, rfl, by decide +kernel, by decide +kernel⟩
theorem b__law_bag (T : Tx K mg) : Binds K T.fd__law_bag ["_law_script"] [] := T.f__law_bag.bindsN fun _ _ _ _ _ _ us hl => match us, hl with | [_], _ => rfl
theorem ok__law_bag (T : Tx K mg) : FnOk P w K mg base (L2.CX P w) 1 (He.ga K "_law_bag") T.fd__law_bag ["_law_script"] (spOf K 1 F__law_bag) :=
  mkFn (k := 0) T.f__law_bag sc__law_bag (by decide) fun cdv A outer s H E hr => show BV _ _ _ _ w__law_bag from
      (bv_one (sv_ret (ev_lst (av_cons (ev_z (ev_list (by rfl) T.n_list (pv_e (ev_sl (pv_var 0) nv_no (nv_e (pv_e ev_int)))))) (av_cons ev_int (av_cons ev_int (av_cons ev_int av_nil)))))))
theorem sc__law_pull : FnScope N__law_pull ["_law_bag_here", "_law_many"] (defScope s__law_pull) := ⟨rfl, rfl, rfl, by decide +kernel, rfl, by decide +kernel, by decide +kernel⟩
theorem b__law_pull (T : Tx K mg) : Binds K T.fd__law_pull ["_law_bag_here", "_law_many"] [] := T.f__law_pull.bindsN fun _ _ _ _ _ _ us hl => match us, hl with | [_, _], _ => rfl
theorem ok__law_pull (T : Tx K mg) : FnOk P w K mg base (L2.CX P w) 1 (He.ga K "_law_pull") T.fd__law_pull ["_law_bag_here", "_law_many"] (spOf K 2 F__law_pull) :=
  mkFn (k := 0) T.f__law_pull sc__law_pull (by decide) fun cdv A outer s H E hr => show BV _ _ _ _ w__law_pull from
      (bv_cons (sv_if (tv_w (wv_and (tv_cmp (op_eqD hr.units) opS_eq (pv_e (ev_ix (pv_var 0) (pv_e ev_int))) (pv_e ev_int) (nomark _)) (wv_and1 (tv_cmp op_lt opS_lt (pv_e (ev_ix (pv_var 0) (pv_e ev_int))) (pv_e (ev_len (by rfl) T.n_len (pv_e (ev_ix (pv_var 0) (pv_e ev_int))))) (nomark _)))))
      (bv_cons (sv_set 2 sc__law_pull.nd (ev_ix (pv_e (ev_ix (pv_var 0) (pv_e ev_int))) (pv_e (ev_ix (pv_var 0) (pv_e ev_int)))))
      (bv_cons (sv_ix 0 (ev_add (pv_e (ev_ix (pv_var 0) (pv_e ev_int))) (pv_e ev_int)) (pv_e ev_int))
      (bv_one (sv_if (tv_cmp op_ge opS_ge (pv_var 2) (pv_e (ev_pow (pv_e ev_int) (pv_e ev_int))) (nomark _))
      (bv_one (sv_ix 0 (ev_var 2) (pv_e ev_int)))
      (bv_cons (sv_set 3 sc__law_pull.nd (ev_add (pv_e (ev_add (pv_e (ev_mul (pv_e (ev_ix (pv_var 0) (pv_e ev_int))) (pv_e ev_int))) (pv_e (ev_mul (pv_e (ev_mod (pv_var 2) (pv_e ev_int))) (pv_e ev_int))))) (pv_e ev_int)))
      (bv_one (sv_ix 0 (ev_mod (pv_var 3) (pv_e ev_int)) (pv_e ev_int))))))))
      bv_nil)
      (bv_cons (sv_if (tv_cmp op_gt opS_gt (pv_e (ev_ix (pv_var 0) (pv_e ev_int))) (pv_e ev_int) (nomark _))
      (bv_cons (sv_set 4 sc__law_pull.nd (ev_mod (pv_e (ev_ix (pv_var 0) (pv_e ev_int))) (pv_var 1)))
      (bv_cons (sv_ix 0 (ev_div (pv_e (ev_ix (pv_var 0) (pv_e ev_int))) (pv_var 1)) (pv_e ev_int))
      (bv_one (sv_ret (ev_move 4)))))
      bv_nil)
      (bv_cons (sv_set 3 sc__law_pull.nd (ev_add (pv_e (ev_mul (pv_e (ev_mod (pv_e (ev_mul (pv_e (ev_ix (pv_var 0) (pv_e ev_int))) (pv_e (ev_ix (pv_var 0) (pv_e ev_int))))) (pv_e ev_int))) (pv_e ev_int))) (pv_e (ev_mul (pv_e (ev_ix (pv_var 0) (pv_e ev_int))) (pv_e ev_int)))))
      (bv_cons (sv_ix 0 (ev_mod (pv_e (ev_add (pv_var 3) (pv_e ev_int))) (pv_e ev_int)) (pv_e ev_int))
      (bv_one (sv_ret (ev_mod (pv_e (ev_add (pv_e (ev_div (pv_e (ev_ix (pv_var 0) (pv_e ev_int))) (pv_e ev_int))) (pv_e (ev_mul (pv_e (ev_mod (pv_e (ev_ix (pv_var 0) (pv_e ev_int))) (pv_e ev_int))) (pv_e ev_int))))) (pv_var 1))))))))
theorem sc__law_pick : FnScope N__law_pick ["_law_bag_here", "_law_some"] (defScope s__law_pick) := ⟨rfl, rfl, rfl, by decide +kernel, rfl, by decide +kernel, by decide +kernel⟩
theorem b__law_pick (T : Tx K mg) : Binds K T.fd__law_pick ["_law_bag_here", "_law_some"] [] := T.f__law_pick.bindsN fun _ _ _ _ _ _ us hl => match us, hl with | [_, _], _ => rfl
theorem ok__law_pick (T : Tx K mg) : FnOk P w K mg base (L2.CX P w) 2 (He.ga K "_law_pick") T.fd__law_pick ["_law_bag_here", "_law_some"] (spOf K 2 F__law_pick) :=
  mkFn (k := 1) T.f__law_pick sc__law_pick (by decide) fun cdv A outer s H E hr => show BV _ _ _ _ w__law_pick from
      (bv_one (sv_ret (ev_ix (pv_var 1) (pv_e (ev_call (ok__law_pull T) (hr.mono (by decide)) (takes_of rfl rfl rfl rfl) (by rfl) T.m__law_pull T.f__law_pull.kp (b__law_pull T) .nil (fun _ => .nil) (av_lend 0 (av_cons (ev_len (by rfl) T.n_len (pv_var 1)) av_nil)))))))
theorem sc__law_prime : FnScope N__law_prime ["_law_bag_here"] (defScope s__law_prime) := ⟨rfl, rfl, rfl, by decide +kernel, rfl, by decide +kernel, by decide +kernel⟩
theorem b__law_prime (T : Tx K mg) : Binds K T.fd__law_prime ["_law_bag_here"] [] := T.f__law_prime.bindsN fun _ _ _ _ _ _ us hl => match us, hl with | [_], _ => rfl
theorem ok__law_prime (T : Tx K mg) : FnOk P w K mg base (L2.CX P w) 3 (He.ga K "_law_prime") T.fd__law_prime ["_law_bag_here"] (spOf K 1 F__law_prime) :=
  mkFn (k := 2) T.f__law_prime sc__law_prime (by decide) fun cdv A outer s H E hr => show BV _ _ _ _ w__law_prime from
      (bv_one (sv_ret (ev_call (ok__law_pick T) (hr.mono (by decide)) (takes_of rfl rfl rfl rfl) (by rfl) T.m__law_pick T.f__law_pick.kp (b__law_pick T) .nil (fun _ => .nil) (av_lend 0 (av_cons (ev_lst (av_cons ev_int (av_cons ev_int (av_cons ev_int (av_cons ev_int (av_cons ev_int (av_cons ev_int (av_cons ev_int (av_cons ev_int (av_cons ev_int (av_cons ev_int (av_cons ev_int av_nil)))))))))))) av_nil)))))
theorem sc__law_mix : FnScope N__law_mix ["_law_p", "_law_rows_here", "_law_weights", "_law_size"] (defScope s__law_mix) := ⟨rfl, rfl, rfl, by decide +kernel, rfl, by decide +kernel, by decide +kernel⟩
theorem b__law_mix (T : Tx K mg) : Binds K T.fd__law_mix ["_law_p", "_law_rows_here", "_law_weights", "_law_size"] [] := T.f__law_mix.bindsN fun _ _ _ _ _ _ us hl => match us, hl with | [_, _, _, _], _ => rfl
theorem ok__law_mix (T : Tx K mg) : FnOk P w K mg base (L2.CX P w) 1 (He.ga K "_law_mix") T.fd__law_mix ["_law_p", "_law_rows_here", "_law_weights", "_law_size"] (spOf K 4 F__law_mix) :=
  mkFn (k := 0) T.f__law_mix sc__law_mix (by decide) fun cdv A outer s H E hr => show BV _ _ _ _ w__law_mix from
      (bv_cons (sv_set 4 sc__law_mix.nd (ev_rep (pv_e (ev_lst (av_cons ev_int av_nil))) (pv_var 3)))
      (bv_cons (sv_for (Z := []) (passes_of rfl) rfl (iv_rg1 (by rfl) T.n_range (pv_e (ev_len (by rfl) T.n_len (pv_var 1)))) (gv_name 5 sc__law_mix.nd)
      (bv_one (sv_set 4 sc__law_mix.nd (ev_lc rfl sc__law_mix.nd (iv_rg1 (by rfl) T.n_range (pv_var 3)) (blkOk_by (own := [("_law_k", 6)]) (N := N__law_mix) (sc := (defScope s__law_mix)) (by decide +kernel)) (fun _ _ _ _ _ => (gv_name 6 sc__law_mix.nd)) (fun _ _ _ _ _ => (ev_mod (pv_e (ev_add (pv_e (ev_ix (pv_var 4) (pv_var 6))) (pv_e (ev_mul (pv_e (ev_ix (pv_var 2) (pv_var 5))) (pv_e (ev_ix (pv_e (ev_ix (pv_var 1) (pv_var 5))) (pv_var 6))))))) (pv_var 0)))))))
      (bv_one (sv_ret (ev_tuple (by rfl) T.n_tuple (pv_var 4))))))
theorem sc__law_row : FnScope N__law_row ["_law_bag_here", "_law_p", "_law_size"] (defScope s__law_row) := ⟨rfl, rfl, rfl, by decide +kernel, rfl, by decide +kernel, by decide +kernel⟩
theorem b__law_row (T : Tx K mg) : Binds K T.fd__law_row ["_law_bag_here", "_law_p", "_law_size"] [] := T.f__law_row.bindsN fun _ _ _ _ _ _ us hl => match us, hl with | [_, _, _], _ => rfl
theorem ok__law_row (T : Tx K mg) : FnOk P w K mg base (L2.CX P w) 2 (He.ga K "_law_row") T.fd__law_row ["_law_bag_here", "_law_p", "_law_size"] (spOf K 3 F__law_row) :=
  mkFn (k := 1) T.f__law_row sc__law_row (by decide) fun cdv A outer s H E hr => show BV _ _ _ _ w__law_row from
      (bv_cons (sv_set 3 sc__law_row.nd (ev_call (ok__law_pull T) (hr.mono (by decide)) (takes_of rfl rfl rfl rfl) (by rfl) T.m__law_pull T.f__law_pull.kp (b__law_pull T) .nil (fun _ => .nil) (av_lend 0 (av_cons ev_int av_nil))))
      (bv_cons (sv_if (tv_cmp (op_eqD hr.units) opS_eq (pv_var 3) (pv_e ev_int) (nomark _))
      (bv_one (sv_ret (ev_repT (pv_e (ev_tup (av_cons ev_int av_nil))) (pv_var 2))))
      bv_nil)
      (bv_cons (sv_if (tv_cmp (op_eqD hr.units) opS_eq (pv_var 3) (pv_e ev_int) (nomark _))
      (bv_cons (sv_set 4 sc__law_row.nd (ev_call (ok__law_pull T) (hr.mono (by decide)) (takes_of rfl rfl rfl rfl) (by rfl) T.m__law_pull T.f__law_pull.kp (b__law_pull T) .nil (fun _ => .nil) (av_lend 0 (av_lend 2 av_nil))))
      (bv_one (sv_ret (ev_tuple (by rfl) T.n_tuple (pv_e (ev_lc rfl sc__law_row.nd (iv_rg1 (by rfl) T.n_range (pv_var 2)) (blkOk_by (own := [("_law_k", 5)]) (N := N__law_row) (sc := (defScope s__law_row)) (by decide +kernel)) (fun _ _ _ _ _ => (gv_name 5 sc__law_row.nd)) (fun _ _ _ _ _ => (ev_intc (by rfl) T.n_int (pv_e (ev_cmp (op_eqD hr.units) opS_eq (pv_var 5) (pv_var 4) (nomark _)))))))))))
      bv_nil)
      (bv_one (sv_ret (ev_tuple (by rfl) T.n_tuple (pv_e (ev_lc rfl sc__law_row.nd (iv_rg1 (by rfl) T.n_range (pv_var 2)) (blkOk_by (own := [("_law_k", 5)]) (N := N__law_row) (sc := (defScope s__law_row)) (by decide +kernel)) (fun _ _ _ _ _ => (gv_name 5 sc__law_row.nd)) (fun _ _ _ _ _ => (ev_z (ev_call (ok__law_pull T) (hr.mono (by decide)) takes0 (by rfl) T.m__law_pull T.f__law_pull.kp (b__law_pull T) .nil (fun _ => .nil) (av_lend 0 (av_lend 1 av_nil)))))))))))))
theorem sc__law_rows : FnScope N__law_rows ["_law_bag_here", "_law_p", "_law_size", "_law_most"] (defScope s__law_rows) := ⟨rfl, rfl, rfl, by decide +kernel, rfl, by decide +kernel, by decide +kernel⟩
theorem b__law_rows (T : Tx K mg) : Binds K T.fd__law_rows ["_law_bag_here", "_law_p", "_law_size", "_law_most"] [] := T.f__law_rows.bindsN fun _ _ _ _ _ _ us hl => match us, hl with | [_, _, _, _], _ => rfl
theorem ok__law_rows (T : Tx K mg) : FnOk P w K mg base (L2.CX P w) 3 (He.ga K "_law_rows") T.fd__law_rows ["_law_bag_here", "_law_p", "_law_size", "_law_most"] (spOf K 4 F__law_rows) :=
  mkFn (k := 2) T.f__law_rows sc__law_rows (by decide) fun cdv A outer s H E hr => show BV _ _ _ _ w__law_rows from
      (bv_cons (sv_set 4 sc__law_rows.nd (ev_lst av_nil))
      (bv_cons (sv_for (Z := []) (passes_of rfl) rfl (iv_rg1 (by rfl) T.n_range (pv_e (ev_call (ok__law_pull T) (hr.mono (by decide)) (takes_of rfl rfl rfl rfl) (by rfl) T.m__law_pull T.f__law_pull.kp (b__law_pull T) .nil (fun _ => .nil) (av_lend 0 (av_cons (ev_add (pv_var 3) (pv_e ev_int)) av_nil))))) (gv_name 5 sc__law_rows.nd)
      (bv_cons (sv_set 6 sc__law_rows.nd (ev_call (ok__law_pull T) (hr.mono (by decide)) (takes_of rfl rfl rfl rfl) (by rfl) T.m__law_pull T.f__law_pull.kp (b__law_pull T) .nil (fun _ => .nil) (av_lend 0 (av_cons ev_int av_nil))))
      (bv_one (sv_if (tv_w (wv_and (tv_cmp (op_eqD hr.units) opS_eq (pv_var 6) (pv_e ev_int) (nomark _)) (wv_and1 (tv_cmp (op_neD hr.units) opS_ne (pv_var 4) (pv_e (ev_lst av_nil)) (nomark _)))))
      (bv_cons (sv_setLc 7 rfl sc__law_rows.nd (iv_seq (pv_var 4)) (blkOk_by (own := [("_law_one", 8)]) (N := N__law_rows) (sc := (defScope s__law_rows)) (by decide +kernel)) (fun _ _ _ _ _ => (gv_name 8 sc__law_rows.nd)) (fun _ _ _ _ _ => (ev_z (ev_call (ok__law_pull T) (hr.mono (by decide)) takes0 (by rfl) T.m__law_pull T.f__law_pull.kp (b__law_pull T) .nil (fun _ => .nil) (av_lend 0 (av_lend 1 av_nil))))) (sw_true rfl rfl rfl (by decide +kernel)))
      (bv_one (sv_app 4 (ev_z (ev_call (ok__law_mix T) (hr.mono (by decide)) (takes_of rfl rfl rfl rfl) (by rfl) T.m__law_mix T.f__law_mix.kp (b__law_mix T) .nil (fun _ => .nil) (av_lend 1 (av_lend 4 (av_lend 7 (av_lend 2 av_nil)))))))))
      (bv_one (sv_if (tv_w (wv_and (tv_cmp (op_eqD hr.units) opS_eq (pv_var 6) (pv_e ev_int) (nomark _)) (wv_and1 (tv_cmp (op_neD hr.units) opS_ne (pv_var 4) (pv_e (ev_lst av_nil)) (nomark _)))))
      (bv_one (sv_app 4 (ev_z (ev_call (ok__law_pick T) (hr.mono (by decide)) (takes_of rfl rfl rfl rfl) (by rfl) T.m__law_pick T.f__law_pick.kp (b__law_pick T) .nil (fun _ => .nil) (av_lend 0 (av_lend 4 av_nil))))))
      (bv_one (sv_app 4 (ev_z (ev_call (ok__law_row T) (hr.mono (by decide)) (takes_of rfl rfl rfl rfl) (by rfl) T.m__law_row T.f__law_row.kp (b__law_row T) .nil (fun _ => .nil) (av_lend 0 (av_lend 1 (av_lend 2 av_nil)))))))))))))
      (bv_one (sv_ret (ev_move 4)))))
theorem sc_need_prime : FnScope N_need_prime ["prime"] (defScope s_need_prime) := ⟨rfl, rfl, rfl, by decide +kernel, rfl, by decide +kernel, by decide +kernel⟩
theorem b_need_prime (T : Tx K mg) : Binds K T.fd_need_prime ["prime"] [] := T.f_need_prime.bindsN fun _ _ _ _ _ _ us hl => match us, hl with | [_], _ => rfl
theorem ok_need_prime (T : Tx K mg) : FnOk P w K mg base (L2.CX P w) 1 (He.ga K "need_prime") T.fd_need_prime ["prime"] (spOf K 1 F_need_prime) :=
  mkFn (k := 0) T.f_need_prime sc_need_prime (by decide) fun cdv A outer s H E hr => show BV _ _ _ _ w_need_prime from
      (bv_one (sv_if (tv_cmp op_notIn_seq opS_notIn (pv_var 0) (pv_e (ev_glob (v := .ref (He.ga K "PRIMES")) (by rfl) T.m_PRIMES rfl T.c_PRIMES)) (by first | rfl | exact nomark _))
      (bv_one sv_never)
      bv_nil))
theorem sc_is_whole : FnScope N_is_whole ["thing"] (defScope s_is_whole) := ⟨rfl, rfl, rfl, by decide +kernel, rfl, by decide +kernel, by decide +kernel⟩
theorem b_is_whole (T : Tx K mg) : Binds K T.fd_is_whole ["thing"] [] := T.f_is_whole.bindsN fun _ _ _ _ _ _ us hl => match us, hl with | [_], _ => rfl
theorem ok_is_whole (T : Tx K mg) : FnOk P w K mg base (L2.CX P w) 1 (He.ga K "is_whole") T.fd_is_whole ["thing"] (spOf K 1 F_is_whole) :=
  mkFn (k := 0) T.f_is_whole sc_is_whole (by decide) fun cdv A outer s H E hr => show BV _ _ _ _ w_is_whole from
      (bv_one (sv_ret (ev_and (ev_isi (T := "int") (by rfl) T.n_isinstance (by rfl) T.n_int (by decide +kernel) (pv_var 0)) (ev_one (ev_not (pv_e (ev_isi (T := "bool") (by rfl) T.n_isinstance (by rfl) T.n_bool (by decide +kernel) (pv_var 0))))))))
theorem sc_is_within : FnScope N_is_within ["thing", "low", "high"] (defScope s_is_within) := ⟨rfl, rfl, rfl, by decide +kernel, rfl, by decide +kernel, by decide +kernel⟩
theorem b_is_within (T : Tx K mg) : Binds K T.fd_is_within ["thing", "low", "high"] [] := T.f_is_within.bindsN fun _ _ _ _ _ _ us hl => match us, hl with | [_, _, _], _ => rfl
theorem ok_is_within (T : Tx K mg) : FnOk P w K mg base (L2.CX P w) 2 (He.ga K "is_within") T.fd_is_within ["thing", "low", "high"] (spOf K 3 F_is_within) :=
  mkFn (k := 1) T.f_is_within sc_is_within (by decide) fun cdv A outer s H E hr => show BV _ _ _ _ w_is_within from
      (bv_one (sv_ret (ev_and (ev_call (ok_is_whole T) (hr.mono (by decide)) (takes_of rfl rfl rfl rfl) (by rfl) T.m_is_whole T.f_is_whole.kp (b_is_whole T) .nil (fun _ => .nil) (av_lend 0 av_nil)) (ev_one (ev_chain op_le op_le opS_le opS_le (pv_var 1) (pv_var 0) (pv_var 2))))))
theorem sc_is_row_of : FnScope N_is_row_of ["prime", "row"] (defScope s_is_row_of) := ⟨rfl, rfl, rfl, by decide +kernel, rfl, by decide +kernel, by decide +kernel⟩
theorem b_is_row_of (T : Tx K mg) : Binds K T.fd_is_row_of ["prime", "row"] [] := T.f_is_row_of.bindsN fun _ _ _ _ _ _ us hl => match us, hl with | [_, _], _ => rfl
theorem ok_is_row_of (T : Tx K mg) : FnOk P w K mg base (L2.CX P w) 3 (He.ga K "is_row_of") T.fd_is_row_of ["prime", "row"] (spOf K 2 F_is_row_of) :=
  mkFn (k := 2) T.f_is_row_of sc_is_row_of (by decide) fun cdv A outer s H E hr => show BV _ _ _ _ w_is_row_of from
      (bv_cons (sv_if (tv_w (wv_or (tv_not (tv_val (ev_isi (T := "tuple") (by rfl) T.n_isinstance (by rfl) T.n_tuple (by decide +kernel) (pv_var 1)))) (wv_or1 (tv_not (tv_chain op_le op_le opS_le opS_le (pv_e ev_int) (pv_e (ev_len (by rfl) T.n_len (pv_var 1))) (pv_e (T.c_MOST_SIZE.elim fun t h => ev_glob (v := .int 12) (by rfl) h ⟨t, rfl⟩ (fun _ => .int 12))))))))
      (bv_one (sv_ret ev_bl))
      bv_nil)
      (bv_one (sv_ret (ev_all rfl (by rfl) T.n_all (pv_e (ev_lc rfl sc_is_row_of.nd (iv_seq (pv_var 1)) (blkOk_by (own := [("number", 2)]) (N := N_is_row_of) (sc := (defScope s_is_row_of)) (by decide +kernel)) (fun _ _ _ _ _ => (gv_name 2 sc_is_row_of.nd)) (fun _ _ _ _ _ => (ev_z (ev_call (ok_is_within T) (hr.mono (by decide)) takes0 (by rfl) T.m_is_within T.f_is_within.kp (b_is_within T) .nil (fun _ => .nil) (av_lend 2 (av_cons ev_int (av_cons (ev_sub (pv_var 0) (pv_e ev_int)) av_nil))))))))))))
theorem sc_need_alike : FnScope N_need_alike ["prime", "rows"] (defScope s_need_alike) := ⟨rfl, rfl, rfl, by decide +kernel, rfl, by decide +kernel, by decide +kernel⟩
theorem b_need_alike (T : Tx K mg) : Binds K T.fd_need_alike ["prime", "rows"] [] := T.f_need_alike.bindsN fun _ _ _ _ _ _ us hl => match us, hl with | [_, _], _ => rfl
theorem ok_need_alike (T : Tx K mg) : FnOk P w K mg base (L2.CX P w) 4 (He.ga K "need_alike") T.fd_need_alike ["prime", "rows"] (spOf K 2 F_need_alike) :=
  mkFn (k := 3) T.f_need_alike sc_need_alike (by decide) fun cdv A outer s H E hr => show BV _ _ _ _ w_need_alike from
      (bv_cons (sv_expr (ev_call (ok_need_prime T) (hr.mono (by decide)) (takes_of rfl rfl rfl rfl) (by rfl) T.m_need_prime T.f_need_prime.kp (b_need_prime T) .nil (fun _ => .nil) (av_lend 0 av_nil)))
      (bv_one (sv_for (Z := [1]) (passes_of rfl) rfl (iv_seq (pv_var 1)) (gv_name 2 sc_need_alike.nd)
      (bv_one (sv_if (tv_w (wv_or (tv_not (tv_val (ev_call (ok_is_row_of T) (hr.mono (by decide)) (takes_of rfl rfl rfl rfl) (by rfl) T.m_is_row_of T.f_is_row_of.kp (b_is_row_of T) .nil (fun _ => .nil) (av_lend 0 (av_lend 2 av_nil))))) (wv_or1 (tv_cmp (op_neD hr.units) opS_ne (pv_e (ev_len (by rfl) T.n_len (pv_var 2))) (pv_e (ev_len (by rfl) T.n_len (pv_e (ev_ix (pv_var 1) (pv_e ev_int))))) (nomark _)))))
      (bv_one sv_never)
      bv_nil)))))
theorem sc_dot : FnScope N_dot ["prime", "row", "seed"] (defScope s_dot) := ⟨rfl, rfl, rfl, by decide +kernel, rfl, by decide +kernel, by decide +kernel⟩
theorem b_dot (T : Tx K mg) : Binds K T.fd_dot ["prime", "row", "seed"] [] := T.f_dot.bindsN fun _ _ _ _ _ _ us hl => match us, hl with | [_, _, _], _ => rfl
theorem ok_dot (T : Tx K mg) : FnOk P w K mg base (L2.CX P w) 1 (He.ga K "dot") T.fd_dot ["prime", "row", "seed"] (spOf K 3 F_dot) :=
  mkFn (k := 0) T.f_dot sc_dot (by decide) fun cdv A outer s H E hr => show BV _ _ _ _ w_dot from
      (bv_one (sv_ret (ev_mod (pv_e (ev_sum rfl (by rfl) T.n_sum (pv_e (ev_lc rfl sc_dot.nd (iv_zip (by rfl) T.n_zip (pv_var 1) (pv_var 2)) (blkOk_by (own := [("one", 3), ("other", 4)]) (N := N_dot) (sc := (defScope s_dot)) (by decide +kernel)) (fun _ _ _ _ _ => (gv_tup rfl (gs_cons (gv_name 3 sc_dot.nd) (gs_cons (gv_name 4 sc_dot.nd) gs_nil)))) (fun _ _ _ _ _ => (ev_mul (pv_var 3) (pv_var 4))))))) (pv_var 0))))
theorem sc_at_seed : FnScope N_at_seed ["prime", "row", "seed"] (defScope s_at_seed) := ⟨rfl, rfl, rfl, by decide +kernel, rfl, by decide +kernel, by decide +kernel⟩
theorem b_at_seed (T : Tx K mg) : Binds K T.fd_at_seed ["prime", "row", "seed"] [] := T.f_at_seed.bindsN fun _ _ _ _ _ _ us hl => match us, hl with | [_, _, _], _ => rfl
theorem ok_at_seed (T : Tx K mg) : FnOk P w K mg base (L2.CX P w) 5 (He.ga K "at_seed") T.fd_at_seed ["prime", "row", "seed"] (spOf K 3 F_at_seed) :=
  mkFn (k := 4) T.f_at_seed sc_at_seed (by decide) fun cdv A outer s H E hr => show BV _ _ _ _ w_at_seed from
      (bv_cons (sv_expr (ev_call (ok_need_alike T) (hr.mono (by decide)) (takes_of rfl rfl rfl rfl) (by rfl) T.m_need_alike T.f_need_alike.kp (b_need_alike T) .nil (fun _ => .nil) (av_lend 0 (av_cons (ev_lst (av_cons (ev_var 1) (av_cons (ev_var 2) av_nil))) av_nil))))
      (bv_one (sv_ret (ev_call (ok_dot T) (hr.mono (by decide)) (takes_of rfl rfl rfl rfl) (by rfl) T.m_dot T.f_dot.kp (b_dot T) .nil (fun _ => .nil) (av_lend 0 (av_lend 1 (av_lend 2 av_nil)))))))
theorem sc__law_same : FnScope N__law_same ["_law_found", "_law_due"] (defScope s__law_same) := ⟨rfl, rfl, rfl, by decide +kernel, rfl, by decide +kernel, by decide +kernel⟩
theorem b__law_same (T : Tx K mg) : Binds K T.fd__law_same ["_law_found", "_law_due"] [] := T.f__law_same.bindsN fun _ _ _ _ _ _ us hl => match us, hl with | [_, _], _ => rfl
theorem ok__law_same (T : Tx K mg) : ∀ n : Nat, FnOk P w K mg base (L2.CX P w) (1 + n) (He.ga K "_law_same") T.fd__law_same ["_law_found", "_law_due"] (spOf K 2 (F__law_same n))
  | 0 => fn_bad
  | n + 1 => by
    have ih := ok__law_same T n
    exact mkFn (k := 1 + n) T.f__law_same sc__law_same (by decide) fun cdv A outer s H E hr => show BV _ _ _ _ (w__law_same (F__law_same n)) from
      (bv_cons (sv_if (tv_val (ev_isi (T := "dict") (by rfl) T.n_isinstance (by rfl) T.n_dict (by decide +kernel) (pv_var 1)))
      bv_never
      bv_nil)
      (bv_cons (sv_if (tv_w (wv_or (tv_val (ev_isi (T := "list") (by rfl) T.n_isinstance (by rfl) T.n_list (by decide +kernel) (pv_var 1))) (wv_or1 (tv_val (ev_isi (T := "tuple") (by rfl) T.n_isinstance (by rfl) T.n_tuple (by decide +kernel) (pv_var 1))))))
      (bv_cons (sv_if (tv_w (wv_and (tv_not (tv_val (ev_isi (T := "list") (by rfl) T.n_isinstance (by rfl) T.n_list (by decide +kernel) (pv_var 0)))) (wv_and1 (tv_not (tv_val (ev_isi (T := "tuple") (by rfl) T.n_isinstance (by rfl) T.n_tuple (by decide +kernel) (pv_var 0)))))))
      (bv_one (sv_ret ev_bl))
      bv_nil)
      (bv_cons (sv_if (tv_cmp (op_neD hr.units) opS_ne (pv_e (ev_isi (T := "list") (by rfl) T.n_isinstance (by rfl) T.n_list (by decide +kernel) (pv_var 1))) (pv_e (ev_isi (T := "list") (by rfl) T.n_isinstance (by rfl) T.n_list (by decide +kernel) (pv_var 0))) (nomark _))
      (bv_one (sv_ret ev_bl))
      bv_nil)
      (bv_cons (sv_if (tv_cmp (op_neD hr.units) opS_ne (pv_e (ev_len (by rfl) T.n_len (pv_var 0))) (pv_e (ev_len (by rfl) T.n_len (pv_var 1))) (nomark _))
      (bv_one (sv_ret ev_bl))
      bv_nil)
      (bv_one (sv_ret (ev_all rfl (by rfl) T.n_all (pv_e (ev_lc rfl sc__law_same.nd (iv_rg1 (by rfl) T.n_range (pv_e (ev_len (by rfl) T.n_len (pv_var 1)))) (blkOk_by (own := [("_law_at", 4)]) (N := N__law_same) (sc := (defScope s__law_same)) (by decide +kernel)) (fun _ _ _ _ _ => (gv_name 4 sc__law_same.nd)) (fun _ _ _ _ _ => (ev_z (ev_call ih hr takes0 (by rfl) T.m__law_same T.f__law_same.kp (b__law_same T) .nil (fun _ => .nil) (av_cons (ev_ix (pv_var 0) (pv_var 4)) (av_cons (ev_ix (pv_var 1) (pv_var 4)) av_nil)))))))))))))
      bv_nil)
      (bv_cons (sv_if (tv_cmp op_isN opS_is (pv_var 1) (pv_e ev_non) (nomark _))
      (bv_one (sv_ret (ev_cmp op_isN opS_is (pv_var 0) (pv_e ev_non) (nomark _))))
      bv_nil)
      (bv_cons (sv_if (tv_cmp (op_neD hr.units) opS_ne (pv_e (ev_isi (T := "bool") (by rfl) T.n_isinstance (by rfl) T.n_bool (by decide +kernel) (pv_var 1))) (pv_e (ev_isi (T := "bool") (by rfl) T.n_isinstance (by rfl) T.n_bool (by decide +kernel) (pv_var 0))) (nomark _))
      (bv_one (sv_ret ev_bl))
      bv_nil)
      (bv_one (sv_ret (ev_and (ev_cmp (op_eqD hr.units) opS_eq (pv_e (ev_isi (T := "int") (by rfl) T.n_isinstance (by rfl) T.n_int (by decide +kernel) (pv_var 0))) (pv_e (ev_isi (T := "int") (by rfl) T.n_isinstance (by rfl) T.n_int (by decide +kernel) (pv_var 1))) (nomark _)) (ev_one (ev_cmp (op_eqD hr.units) opS_eq (pv_var 0) (pv_var 1) (nomark _))))))))))
theorem sc__law_dot : FnScope N__law_dot ["_law_p", "_law_row_here", "_law_seed"] (defScope s__law_dot) := ⟨rfl, rfl, rfl, by decide +kernel, rfl, by decide +kernel, by decide +kernel⟩
theorem b__law_dot (T : Tx K mg) : Binds K T.fd__law_dot ["_law_p", "_law_row_here", "_law_seed"] [] := T.f__law_dot.bindsN fun _ _ _ _ _ _ us hl => match us, hl with | [_, _, _], _ => rfl
theorem ok__law_dot (T : Tx K mg) : FnOk P w K mg base (L2.CX P w) 1 (He.ga K "_law_dot") T.fd__law_dot ["_law_p", "_law_row_here", "_law_seed"] (spOf K 3 F__law_dot) :=
  mkFn (k := 0) T.f__law_dot sc__law_dot (by decide) fun cdv A outer s H E hr => show BV _ _ _ _ w__law_dot from
      (bv_cons (sv_set 3 sc__law_dot.nd ev_int)
      (bv_cons (sv_for (Z := []) (passes_of rfl) rfl (iv_rg1 (by rfl) T.n_range (pv_e (ev_len (by rfl) T.n_len (pv_var 1)))) (gv_name 4 sc__law_dot.nd)
      (bv_one (sv_set 3 sc__law_dot.nd (ev_mod (pv_e (ev_add (pv_var 3) (pv_e (ev_mul (pv_e (ev_ix (pv_var 1) (pv_var 4))) (pv_e (ev_ix (pv_var 2) (pv_var 4))))))) (pv_var 0)))))
      (bv_one (sv_ret (ev_move 3)))))
theorem sc_need_listed : FnScope N_need_listed ["prime", "numbers", "many"] (defScope s_need_listed) := ⟨rfl, rfl, rfl, by decide +kernel, rfl, by decide +kernel, by decide +kernel⟩
theorem b_need_listed (T : Tx K mg) : Binds K T.fd_need_listed ["prime", "numbers", "many"] [] := T.f_need_listed.bindsN fun _ _ _ _ _ _ us hl => match us, hl with | [_, _, _], _ => rfl
theorem ok_need_listed (T : Tx K mg) : FnOk P w K mg base (L2.CX P w) 3 (He.ga K "need_listed") T.fd_need_listed ["prime", "numbers", "many"] (spOf K 3 F_need_listed) :=
  mkFn (k := 2) T.f_need_listed sc_need_listed (by decide) fun cdv A outer s H E hr => show BV _ _ _ _ w_need_listed from
      (bv_cons (sv_if (tv_w (wv_or (tv_not (tv_val (ev_isi (T := "list") (by rfl) T.n_isinstance (by rfl) T.n_list (by decide +kernel) (pv_var 1)))) (wv_or1 (tv_cmp (op_neD hr.units) opS_ne (pv_e (ev_len (by rfl) T.n_len (pv_var 1))) (pv_var 2) (nomark _)))))
      (bv_one sv_never)
      bv_nil)
      (bv_one (sv_if (tv_not (tv_val (ev_all rfl (by rfl) T.n_all (pv_e (ev_lc rfl sc_need_listed.nd (iv_seq (pv_var 1)) (blkOk_by (own := [("number", 3)]) (N := N_need_listed) (sc := (defScope s_need_listed)) (by decide +kernel)) (fun _ _ _ _ _ => (gv_name 3 sc_need_listed.nd)) (fun _ _ _ _ _ => (ev_z (ev_call (ok_is_within T) (hr.mono (by decide)) takes0 (by rfl) T.m_is_within T.f_is_within.kp (b_is_within T) .nil (fun _ => .nil) (av_lend 3 (av_cons ev_int (av_cons (ev_sub (pv_var 0) (pv_e ev_int)) av_nil)))))))))))
      (bv_one sv_never)
      bv_nil)))
theorem sc_columns_of : FnScope N_columns_of ["rows"] (defScope s_columns_of) := ⟨rfl, rfl, rfl, by decide +kernel, rfl, by decide +kernel, by decide +kernel⟩
theorem b_columns_of (T : Tx K mg) : Binds K T.fd_columns_of ["rows"] [] := T.f_columns_of.bindsN fun _ _ _ _ _ _ us hl => match us, hl with | [_], _ => rfl
theorem ok_columns_of (T : Tx K mg) : FnOk P w K mg base (L2.CX P w) 1 (He.ga K "columns_of") T.fd_columns_of ["rows"] (spOf K 1 F_columns_of) :=
  mkFn (k := 0) T.f_columns_of sc_columns_of (by decide) fun cdv A outer s H E hr => show BV _ _ _ _ w_columns_of from
      (bv_one (sv_ret (ev_lc rfl sc_columns_of.nd (iv_rg1 (by rfl) T.n_range (pv_e (ev_len (by rfl) T.n_len (pv_e (ev_ix (pv_var 0) (pv_e ev_int)))))) (blkOk_by (own := [("at", 1)]) (N := N_columns_of) (sc := (defScope s_columns_of)) (by decide +kernel)) (fun _ _ _ _ _ => (gv_name 1 sc_columns_of.nd)) (fun _ _ _ _ _ => (ev_z (ev_lc rfl sc_columns_of.nd (iv_seq (pv_var 0)) (blkOk_by (own := [("row", 2)]) (N := N_columns_of) (sc := (L2.relS _ (defScope s_columns_of))) (by decide +kernel)) (fun _ _ _ _ _ => (gv_name 2 sc_columns_of.nd)) (fun _ _ _ _ _ => (ev_ix (pv_var 2) (pv_var 1)))))))))
theorem sc_added : FnScope N_added ["prime", "rows", "weights"] (defScope s_added) := ⟨rfl, rfl, rfl, by decide +kernel, rfl, by decide +kernel, by decide +kernel⟩
theorem b_added (T : Tx K mg) : Binds K T.fd_added ["prime", "rows", "weights"] [] := T.f_added.bindsN fun _ _ _ _ _ _ us hl => match us, hl with | [_, _, _], _ => rfl
theorem ok_added (T : Tx K mg) : FnOk P w K mg base (L2.CX P w) 5 (He.ga K "added") T.fd_added ["prime", "rows", "weights"] (spOf K 3 F_added) :=
  mkFn (k := 4) T.f_added sc_added (by decide) fun cdv A outer s H E hr => show BV _ _ _ _ w_added from
      (bv_cons (sv_expr (ev_call (ok_need_alike T) (hr.mono (by decide)) (takes_of rfl rfl rfl rfl) (by rfl) T.m_need_alike T.f_need_alike.kp (b_need_alike T) .nil (fun _ => .nil) (av_lend 0 (av_lend 1 av_nil))))
      (bv_cons (sv_expr (ev_call (ok_need_listed T) (hr.mono (by decide)) (takes_of rfl rfl rfl rfl) (by rfl) T.m_need_listed T.f_need_listed.kp (b_need_listed T) .nil (fun _ => .nil) (av_lend 0 (av_lend 2 (av_cons (ev_len (by rfl) T.n_len (pv_var 1)) av_nil)))))
      (bv_one (sv_ret (ev_tuple (by rfl) T.n_tuple (pv_e (ev_lc rfl sc_added.nd (iv_seq (pv_e (ev_call (ok_columns_of T) (hr.mono (by decide)) (takes_of rfl rfl rfl rfl) (by rfl) T.m_columns_of T.f_columns_of.kp (b_columns_of T) .nil (fun _ => .nil) (av_lend 1 av_nil)))) (blkOk_by (own := [("column", 3)]) (N := N_added) (sc := (defScope s_added)) (by decide +kernel)) (fun _ _ _ _ _ => (gv_name 3 sc_added.nd)) (fun _ _ _ _ _ => (ev_z (ev_call (ok_dot T) (hr.mono (by decide)) takes0 (by rfl) T.m_dot T.f_dot.kp (b_dot T) .nil (fun _ => .nil) (av_lend 0 (av_lend 3 (av_lend 2 av_nil)))))))))))))
theorem sc_law : FnScope N_law ["_law_script"] (defScope s_law) := ⟨rfl, rfl, rfl, by decide +kernel, rfl, by decide +kernel, by decide +kernel⟩
theorem b_law (T : Tx K mg) : Binds K T.fd_law ["_law_script"] [] := T.f_law.bindsN fun _ _ _ _ _ _ us hl => match us, hl with | [_], _ => rfl
theorem ok_law (T : Tx K mg) : FnOk P w K mg base (L2.CX P w) 10 (He.ga K "law") T.fd_law ["_law_script"] (spOf K 1 F_law) :=
  mkFn (k := 9) T.f_law sc_law (by decide) fun cdv A outer s H E hr => show BV _ _ _ _ w_law from
      (bv_cons (sv_set 1 sc_law.nd (ev_call (ok__law_bag T) (hr.mono (by decide)) (takes_of rfl rfl rfl rfl) (by rfl) T.m__law_bag T.f__law_bag.kp (b__law_bag T) .nil (fun _ => .nil) (av_lend 0 av_nil)))
      (bv_cons (sv_set 2 sc_law.nd (ev_call (ok__law_prime T) (hr.mono (by decide)) (takes_of rfl rfl rfl rfl) (by rfl) T.m__law_prime T.f__law_prime.kp (b__law_prime T) .nil (fun _ => .nil) (av_lend 1 av_nil)))
      (bv_cons (sv_set 3 sc_law.nd (ev_add (pv_e ev_int) (pv_e (ev_call (ok__law_pull T) (hr.mono (by decide)) (takes_of rfl rfl rfl rfl) (by rfl) T.m__law_pull T.f__law_pull.kp (b__law_pull T) .nil (fun _ => .nil) (av_lend 1 (av_cons ev_int av_nil))))))
      (bv_cons (sv_set 4 sc_law.nd (ev_cat (pv_e (ev_call (ok__law_rows T) (hr.mono (by decide)) (takes_of rfl rfl rfl rfl) (by rfl) T.m__law_rows T.f__law_rows.kp (b__law_rows T) .nil (fun _ => .nil) (av_lend 1 (av_lend 2 (av_lend 3 (av_cons ev_int av_nil)))))) (pv_e (ev_lst (av_cons (ev_z (ev_call (ok__law_row T) (hr.mono (by decide)) (takes_of rfl rfl rfl rfl) (by rfl) T.m__law_row T.f__law_row.kp (b__law_row T) .nil (fun _ => .nil) (av_lend 1 (av_lend 2 (av_lend 3 av_nil))))) av_nil)))))
      (bv_cons (sv_set 5 sc_law.nd (ev_call (ok__law_row T) (hr.mono (by decide)) (takes_of rfl rfl rfl rfl) (by rfl) T.m__law_row T.f__law_row.kp (b__law_row T) .nil (fun _ => .nil) (av_lend 1 (av_lend 2 (av_lend 3 av_nil)))))
      (bv_cons (sv_set 6 sc_law.nd (ev_lc rfl sc_law.nd (iv_seq (pv_var 4)) (blkOk_by (own := [("_law_row_here", 11)]) (N := N_law) (sc := (defScope s_law)) (by decide +kernel)) (fun _ _ _ _ _ => (gv_name 11 sc_law.nd)) (fun _ _ _ _ _ => (ev_z (ev_call (ok__law_pull T) (hr.mono (by decide)) takes0 (by rfl) T.m__law_pull T.f__law_pull.kp (b__law_pull T) .nil (fun _ => .nil) (av_lend 1 (av_lend 2 av_nil)))))))
      (bv_cons (sv_set 7 sc_law.nd (ev_lst (av_cons (ev_z (ev_list (by rfl) T.n_list (pv_var 4))) (av_cons (ev_z (ev_list (by rfl) T.n_list (pv_var 6))) av_nil))))
      (bv_cons (sv_set 8 sc_law.nd (ev_lc rfl sc_law.nd (iv_seq (pv_var 4)) (blkOk_by (own := [("_law_row_here", 11)]) (N := N_law) (sc := (defScope s_law)) (by decide +kernel)) (fun _ _ _ _ _ => (gv_name 11 sc_law.nd)) (fun _ _ _ _ _ => (ev_z (ev_call (ok_at_seed T) (hr.mono (by decide)) takes0 (by rfl) T.m_at_seed T.f_at_seed.kp (b_at_seed T) .nil (fun _ => .nil) (av_lend 2 (av_lend 11 (av_lend 5 av_nil))))))))
      (bv_cons (sv_if (tv_not (tv_val (ev_call (ok__law_same T 8) (hr.mono (by decide)) (takes_of rfl rfl rfl rfl) (by rfl) T.m__law_same T.f__law_same.kp (b__law_same T) .nil (fun _ => .nil) (av_lend 8 (av_cons (ev_lc rfl sc_law.nd (iv_seq (pv_var 4)) (blkOk_by (own := [("_law_row_here", 11)]) (N := N_law) (sc := (defScope s_law)) (by decide +kernel)) (fun _ _ _ _ _ => (gv_name 11 sc_law.nd)) (fun _ _ _ _ _ => (ev_z (ev_call (ok__law_dot T) (hr.mono (by decide)) takes0 (by rfl) T.m__law_dot T.f__law_dot.kp (b__law_dot T) .nil (fun _ => .nil) (av_lend 2 (av_lend 11 (av_lend 5 av_nil))))))) av_nil)))))
      (bv_one (sv_ret ev_bl))
      bv_nil)
      (bv_cons (sv_set 9 sc_law.nd (ev_call (ok__law_mix T) (hr.mono (by decide)) (takes_of rfl rfl rfl rfl) (by rfl) T.m__law_mix T.f__law_mix.kp (b__law_mix T) .nil (fun _ => .nil) (av_lend 2 (av_lend 4 (av_lend 6 (av_lend 3 av_nil))))))
      (bv_cons (sv_if (tv_not (tv_val (ev_call (ok__law_same T 8) (hr.mono (by decide)) (takes_of rfl rfl rfl rfl) (by rfl) T.m__law_same T.f__law_same.kp (b__law_same T) .nil (fun _ => .nil) (av_cons (ev_lst (av_cons (ev_z (ev_call (ok_added T) (hr.mono (by decide)) (takes_of rfl rfl rfl rfl) (by rfl) T.m_added T.f_added.kp (b_added T) .nil (fun _ => .nil) (av_lend 2 (av_cons (ev_ix (pv_var 7) (pv_e ev_int)) (av_cons (ev_ix (pv_var 7) (pv_e ev_int)) av_nil))))) (av_cons (ev_var 7) av_nil))) (av_cons (ev_lst (av_cons (ev_var 9) (av_cons (ev_z (ev_lst (av_cons (ev_var 4) (av_cons (ev_var 6) av_nil)))) av_nil))) av_nil)))))
      (bv_one (sv_ret ev_bl))
      bv_nil)
      (bv_cons (sv_set 10 sc_law.nd (ev_mod (pv_e (ev_sum rfl (by rfl) T.n_sum (pv_e (ev_lc rfl sc_law.nd (iv_rg1 (by rfl) T.n_range (pv_e (ev_len (by rfl) T.n_len (pv_var 4)))) (blkOk_by (own := [("_law_at", 12)]) (N := N_law) (sc := (defScope s_law)) (by decide +kernel)) (fun _ _ _ _ _ => (gv_name 12 sc_law.nd)) (fun _ _ _ _ _ => (ev_mul (pv_e (ev_ix (pv_var 6) (pv_var 12))) (pv_e (ev_ix (pv_var 8) (pv_var 12))))))))) (pv_var 2)))
      (bv_cons (sv_if (tv_not (tv_val (ev_call (ok__law_same T 8) (hr.mono (by decide)) (takes_of rfl rfl rfl rfl) (by rfl) T.m__law_same T.f__law_same.kp (b__law_same T) .nil (fun _ => .nil) (av_cons (ev_call (ok_at_seed T) (hr.mono (by decide)) (takes_of rfl rfl rfl rfl) (by rfl) T.m_at_seed T.f_at_seed.kp (b_at_seed T) .nil (fun _ => .nil) (av_lend 2 (av_lend 9 (av_lend 5 av_nil)))) (av_lend 10 av_nil)))))
      (bv_one (sv_ret ev_bl))
      bv_nil)
      (bv_one (sv_ret (ev_call (ok__law_same T 8) (hr.mono (by decide)) (takes_of rfl rfl rfl rfl) (by rfl) T.m__law_same T.f__law_same.kp (b__law_same T) .nil (fun _ => .nil) (av_cons (ev_call (ok_added T) (hr.mono (by decide)) (takes_of rfl rfl rfl rfl) (by rfl) T.m_added T.f_added.kp (b_added T) .nil (fun _ => .nil) (av_lend 2 (av_lend 4 (av_lend 6 av_nil)))) (av_lend 9 av_nil))))))))))))))))))
end
/-! ### the head -/
def dd__law_bag : He.DefD := ⟨("_law_bag", none), "_law_bag", "_law_bag", defArgs s__law_bag, defBody s__law_bag, defScope s__law_bag, [], []⟩
def dd__law_pull : He.DefD := ⟨("_law_pull", none), "_law_pull", "_law_pull", defArgs s__law_pull, defBody s__law_pull, defScope s__law_pull, [], []⟩
def dd__law_pick : He.DefD := ⟨("_law_pick", none), "_law_pick", "_law_pick", defArgs s__law_pick, defBody s__law_pick, defScope s__law_pick, [], []⟩
def dd__law_prime : He.DefD := ⟨("_law_prime", none), "_law_prime", "_law_prime", defArgs s__law_prime, defBody s__law_prime, defScope s__law_prime, [], []⟩
def dd__law_mix : He.DefD := ⟨("_law_mix", none), "_law_mix", "_law_mix", defArgs s__law_mix, defBody s__law_mix, defScope s__law_mix, [], []⟩
def dd__law_row : He.DefD := ⟨("_law_row", none), "_law_row", "_law_row", defArgs s__law_row, defBody s__law_row, defScope s__law_row, [], []⟩
def dd__law_rows : He.DefD := ⟨("_law_rows", none), "_law_rows", "_law_rows", defArgs s__law_rows, defBody s__law_rows, defScope s__law_rows, [], []⟩
def dd_need_prime : He.DefD := ⟨("need_prime", none), "need_prime", "need_prime", defArgs s_need_prime, defBody s_need_prime, defScope s_need_prime, [], []⟩
def dd_is_whole : He.DefD := ⟨("is_whole", none), "is_whole", "is_whole", defArgs s_is_whole, defBody s_is_whole, defScope s_is_whole, [], []⟩
def dd_is_within : He.DefD := ⟨("is_within", none), "is_within", "is_within", defArgs s_is_within, defBody s_is_within, defScope s_is_within, [], []⟩
def dd_is_row_of : He.DefD := ⟨("is_row_of", none), "is_row_of", "is_row_of", defArgs s_is_row_of, defBody s_is_row_of, defScope s_is_row_of, [], []⟩
def dd_need_alike : He.DefD := ⟨("need_alike", none), "need_alike", "need_alike", defArgs s_need_alike, defBody s_need_alike, defScope s_need_alike, [], []⟩
def dd_dot : He.DefD := ⟨("dot", none), "dot", "dot", defArgs s_dot, defBody s_dot, defScope s_dot, [], []⟩
def dd_at_seed : He.DefD := ⟨("at_seed", none), "at_seed", "at_seed", defArgs s_at_seed, defBody s_at_seed, defScope s_at_seed, [], []⟩
def dd__law_same : He.DefD := ⟨("_law_same", none), "_law_same", "_law_same", defArgs s__law_same, defBody s__law_same, defScope s__law_same, [], []⟩
def dd__law_dot : He.DefD := ⟨("_law_dot", none), "_law_dot", "_law_dot", defArgs s__law_dot, defBody s__law_dot, defScope s__law_dot, [], []⟩
def dd_need_listed : He.DefD := ⟨("need_listed", none), "need_listed", "need_listed", defArgs s_need_listed, defBody s_need_listed, defScope s_need_listed, [], []⟩
def dd_columns_of : He.DefD := ⟨("columns_of", none), "columns_of", "columns_of", defArgs s_columns_of, defBody s_columns_of, defScope s_columns_of, [], []⟩
def dd_added : He.DefD := ⟨("added", none), "added", "added", defArgs s_added, defBody s_added, defScope s_added, [], []⟩
def dd_law : He.DefD := ⟨("law", none), "law", "law", defArgs s_law, defBody s_law, defScope s_law, [], []⟩
def fnL : List He.DefD := [dd__law_bag, dd__law_pull, dd__law_pick, dd__law_prime, dd__law_mix, dd__law_row, dd__law_rows, dd_need_prime, dd_is_whole, dd_is_within, dd_is_row_of, dd_need_alike, dd_dot, dd_at_seed, dd__law_same, dd__law_dot, dd_need_listed, dd_columns_of, dd_added, dd_law]
def faL : List He.Fa := [.glo "_law_bag", .glo "_law_pull", .glo "_law_pick", .glo "_law_prime", .glo "_law_mix", .glo "_law_row", .glo "_law_rows", .glo "need_prime", .glo "is_whole", .glo "is_within", .glo "is_row_of", .glo "need_alike", .glo "dot", .glo "at_seed", .glo "_law_same", .glo "_law_dot", .glo "need_listed", .glo "columns_of", .glo "added", .glo "law", .free "all", .free "bool", .free "dict", .free "int", .free "isinstance", .free "len", .free "list", .free "range", .free "sum", .free "tuple", .free "zip", .glo "PRIMES", .int "MOST_SIZE" 12]
def v_PRIMES : List He.Dv := [.int 2, .int 3, .int 5, .int 7, .int 11, .int 13, .int 17, .int 19, .int 23, .int 29, .int 31]
def fxL (K : PySem.W.Frag) : Bool := He.tupB K "PRIMES" v_PRIMES
def looseL : List PySem.Str := (["LotError", "BadPrime", "BadRow", "is_whole", "is_within", "PRIMES", "need_prime", "MOST_SIZE", "is_row_of", "need_alike", "need_listed", "dot", "at_seed", "added", "columns_of", "_law_bag", "_law_pull", "_law_pick", "_law_same", "_law_kind_of", "_law_prime", "_law_row", "_law_dot", "_law_mix", "_law_rows"] : List PySem.Str)
abbrev R : PySem.W.OpenRow := PySem.W.OpenLaw.row PySem.Challenge.rw_lotspring_k05_rows_at_seeds_and_added
abbrev hk : PySem.W.Hook := hookX 4 faL fnL fxL
def ob (s : PySem.W.SharedT) : AlX := obsXG 4 faL fnL fxL (HandSHeadRun.getT s)
theorem ob_eq (s : PySem.W.SharedT) : ob s = hk.obs s.abs := obsXG_eq (HandSHeadRun.getT_eq s)
theorem run (w : World) : HandSHeadRun.RunEq R (PySem.W.view R.prog [30]) hk ob 6000 looseL w := by
  intro os
  kernel_rfl
theorem txOf {K : PySem.W.Frag} {h : Heap} {mg : Str → Option Value} (X : K.In h) (G : h.Ns mainGlobals mg) (c : SaysX faL fnL fxL K) : Nonempty (Tx K mg) := by
  obtain ⟨fd0, F0⟩ := c.d.def_ 0 (d := dd__law_bag) rfl
  obtain ⟨fd1, F1⟩ := c.d.def_ 1 (d := dd__law_pull) rfl
  obtain ⟨fd2, F2⟩ := c.d.def_ 2 (d := dd__law_pick) rfl
  obtain ⟨fd3, F3⟩ := c.d.def_ 3 (d := dd__law_prime) rfl
  obtain ⟨fd4, F4⟩ := c.d.def_ 4 (d := dd__law_mix) rfl
  obtain ⟨fd5, F5⟩ := c.d.def_ 5 (d := dd__law_row) rfl
  obtain ⟨fd6, F6⟩ := c.d.def_ 6 (d := dd__law_rows) rfl
  obtain ⟨fd7, F7⟩ := c.d.def_ 7 (d := dd_need_prime) rfl
  obtain ⟨fd8, F8⟩ := c.d.def_ 8 (d := dd_is_whole) rfl
  obtain ⟨fd9, F9⟩ := c.d.def_ 9 (d := dd_is_within) rfl
  obtain ⟨fd10, F10⟩ := c.d.def_ 10 (d := dd_is_row_of) rfl
  obtain ⟨fd11, F11⟩ := c.d.def_ 11 (d := dd_need_alike) rfl
  obtain ⟨fd12, F12⟩ := c.d.def_ 12 (d := dd_dot) rfl
  obtain ⟨fd13, F13⟩ := c.d.def_ 13 (d := dd_at_seed) rfl
  obtain ⟨fd14, F14⟩ := c.d.def_ 14 (d := dd__law_same) rfl
  obtain ⟨fd15, F15⟩ := c.d.def_ 15 (d := dd__law_dot) rfl
  obtain ⟨fd16, F16⟩ := c.d.def_ 16 (d := dd_need_listed) rfl
  obtain ⟨fd17, F17⟩ := c.d.def_ 17 (d := dd_columns_of) rfl
  obtain ⟨fd18, F18⟩ := c.d.def_ 18 (d := dd_added) rfl
  obtain ⟨fd19, F19⟩ := c.d.def_ 19 (d := dd_law) rfl
  have hx := c.x
  unfold fxL at hx
  exact ⟨⟨fd0, fd1, fd2, fd3, fd4, fd5, fd6, fd7, fd8, fd9, fd10, fd11, fd12, fd13, fd14, fd15, fd16, fd17, fd18, fd19, F0, He.glo_ok X G (c.d.fact 0 (f := .glo "_law_bag") rfl), F1, He.glo_ok X G (c.d.fact 1 (f := .glo "_law_pull") rfl), F2, He.glo_ok X G (c.d.fact 2 (f := .glo "_law_pick") rfl), F3, He.glo_ok X G (c.d.fact 3 (f := .glo "_law_prime") rfl), F4, He.glo_ok X G (c.d.fact 4 (f := .glo "_law_mix") rfl), F5, He.glo_ok X G (c.d.fact 5 (f := .glo "_law_row") rfl), F6, He.glo_ok X G (c.d.fact 6 (f := .glo "_law_rows") rfl), F7, He.glo_ok X G (c.d.fact 7 (f := .glo "need_prime") rfl), F8, He.glo_ok X G (c.d.fact 8 (f := .glo "is_whole") rfl), F9, He.glo_ok X G (c.d.fact 9 (f := .glo "is_within") rfl), F10, He.glo_ok X G (c.d.fact 10 (f := .glo "is_row_of") rfl), F11, He.glo_ok X G (c.d.fact 11 (f := .glo "need_alike") rfl), F12, He.glo_ok X G (c.d.fact 12 (f := .glo "dot") rfl), F13, He.glo_ok X G (c.d.fact 13 (f := .glo "at_seed") rfl), F14, He.glo_ok X G (c.d.fact 14 (f := .glo "_law_same") rfl), F15, He.glo_ok X G (c.d.fact 15 (f := .glo "_law_dot") rfl), F16, He.glo_ok X G (c.d.fact 16 (f := .glo "need_listed") rfl), F17, He.glo_ok X G (c.d.fact 17 (f := .glo "columns_of") rfl), F18, He.glo_ok X G (c.d.fact 18 (f := .glo "added") rfl), F19, He.glo_ok X G (c.d.fact 19 (f := .glo "law") rfl), He.free_ok X G (c.d.fact 20 (f := .free "all") rfl), He.free_ok X G (c.d.fact 21 (f := .free "bool") rfl), He.free_ok X G (c.d.fact 22 (f := .free "dict") rfl), He.free_ok X G (c.d.fact 23 (f := .free "int") rfl), He.free_ok X G (c.d.fact 24 (f := .free "isinstance") rfl), He.free_ok X G (c.d.fact 25 (f := .free "len") rfl), He.free_ok X G (c.d.fact 26 (f := .free "list") rfl), He.free_ok X G (c.d.fact 27 (f := .free "range") rfl), He.free_ok X G (c.d.fact 28 (f := .free "sum") rfl), He.free_ok X G (c.d.fact 29 (f := .free "tuple") rfl), He.free_ok X G (c.d.fact 30 (f := .free "zip") rfl), He.int_ok X G (c.d.fact 32 (f := .int "MOST_SIZE" 12) rfl), He.glo_ok X G (c.d.fact 31 (f := .glo "PRIMES") rfl), fun S => dp_top (vs := v_PRIMES) hx (fun _ => .cons (.int 2) (.cons (.int 3) (.cons (.int 5) (.cons (.int 7) (.cons (.int 11) (.cons (.int 13) (.cons (.int 17) (.cons (.int 19) (.cons (.int 23) (.cons (.int 29) (.cons (.int 31) (.nil)))))))))))) S⟩⟩
theorem law_holds (hlaw : ∀ ns : List Int, ns.length ≤ 63 → ∃ as', F_law [.fz (.list (ns.map PyData.int))] = .ok (.fz (.bool true)) as') : PySem.Challenge.rw_lotspring_k05_rows_at_seeds_and_added.Holds := by
  open PySem PySem.W PySem.Calls PyProof.Rows in
  (w_on; o_law
   refine HandSHeadRun.head_any (r := OpenLaw.row PySem.Challenge.rw_lotspring_k05_rows_at_seeds_and_added) (q := view (OpenLaw.row PySem.Challenge.rw_lotspring_k05_rows_at_seeds_and_added).prog [30]) (H := hk) (ob := ob) (M := 6000) (loose := looseL) (d := HandSHeadRun.topDef (OpenLaw.row PySem.Challenge.rw_lotspring_k05_rows_at_seeds_and_added).prog 30) (kwd := []) ob_eq
     (by kernel_rfl) (fun s => by kernel_rfl) run (by kernel_rfl) (by kernel_rfl) (by kernel_rfl) (by rfl) (by first | assumption | decide +kernel) (by decide +kernel) ⟨rfl, rfl, rfl, rfl, rfl, by decide +kernel⟩ ?hw ?hc
   case hw => w_witness2
   case hc =>
     refine walkX (l := PySem.Challenge.rw_lotspring_k05_rows_at_seeds_and_added) (n := 63) (k := 10) (x := "_law_script") (CX := fun w => L2.CX (PySem.Challenge.rw_lotspring_k05_rows_at_seeds_and_added).prog w) rfl (by decide) (by kernel_rfl) ⟨rfl, by decide, by decide⟩ ?F (fun w H s e s' => cxNo _ w H s e s')
     intro w mg fa h Y G hmg0
     obtain ⟨K, KX, c⟩ := Y
     have hmg : mg ("law" : PySem.Str) = some (.ref fa) := by
       have e : (HandSHeadRun.topDef (OpenLaw.row PySem.Challenge.rw_lotspring_k05_rows_at_seeds_and_added).prog 30).name = ("law" : PySem.Str) := by kernel_rfl
       rw [← e]
       exact hmg0
     obtain ⟨T⟩ := txOf KX G c
     have efa := hmg.symm.trans T.m_law
     cases efa
     refine ⟨K, T.fd_law, spOf K 1 F_law, KX, fun s v => FunD.bindsA (ps := ["_law_script"]) T.f_law (fun _ _ _ _ _ _ us hl => match us, hl with | [_], _ => rfl) s [v] rfl, fun H a ns hl _ hS => lawSp hS (hlaw ns hl), fun base _ _ => ok_law T⟩)
end Lw

end
noncomputable section
namespace Lw
open PySem L2 Ls
local macro_rules
  | `(tactic| walk_at "nf") => `(tactic| (try dsimp only [backs, wipeE, finA, isFz, entry, List.map, List.length, List.replicate, Nat.sub, List.append, List.cons_append, List.nil_append, List.append_nil, List.getElem?_cons_zero, List.getElem?_cons_succ, List.set_cons_zero, List.set_cons_succ, Nat.reduceAdd, Nat.reduceSub, List.replicate_succ, List.replicate_zero]))
local macro_rules
  | `(tactic| walk_at "tt") => `(tactic| first
    | rfl
    | assumption
    | (simp only [decide_eq_true_eq, decide_eq_false_iff_not, Bool.not_eq_true', Bool.not_eq_false', Bool.not_true, Bool.not_false, decide_not, Bool.not_not, reduceCtorEq]; first | assumption | omega)
    | (simp; done))
local macro_rules
  | `(tactic| walk_at "sd") => `(tactic| first | assumption | decide | omega | exact fmodA (by decide) (by decide))
local macro_rules
  | `(tactic| walk_at "xp") => `(tactic| repeat' (first
    | (with_reducible show pkD _ _ = some _); first | with_reducible rfl | with_reducible assumption | rfl | assumption
    | (with_reducible show pkO _ _ = some _); first | with_reducible rfl | with_reducible assumption | rfl | assumption
    | (with_reducible show getElem? _ _ = some (some _)); rfl
    | (with_reducible show ixO _ _ = some _); first | with_reducible assumption | rfl | assumption
    | (with_reducible show ixN _ _ = some _); first | with_reducible assumption | rfl | assumption
    | (with_reducible show lenO _ = some _); first | with_reducible assumption | rfl | assumption
    | (with_reducible show itemsO _ = some _); first | with_reducible assumption | rfl | assumption
    | (with_reducible show dEq (.int _) (.int _) = some _); exact dEq_int
    | (with_reducible show dNe (.int _) (.int _) = some _); exact dNe_int
    | (with_reducible show dMod (.int _) (.int _) = some _); apply dMod_ok; walk_at "sd"
    | (with_reducible show dMul (.int _) (.int _) = some _); apply dMul_ok <;> walk_at "sd"
    | (with_reducible show dDiv (.int _) (.int _) = some _); apply dDiv_ok <;> walk_at "sd"
    | (with_reducible show dAdd (.int _) (.int _) = some _); rfl
    | (with_reducible show dSub (.int _) (.int _) = some _); rfl
    | (with_reducible show dLt (.int _) (.int _) = some _); rfl
    | (with_reducible show dGt (.int _) (.int _) = some _); rfl
    | (with_reducible show dLe (.int _) (.int _) = some _); rfl
    | (with_reducible show dGe (.int _) (.int _) = some _); rfl
    | (with_reducible show dPow (.int _) (.int _) = some _); rfl
    | (with_reducible show _ = FO.ok _ _); first | with_reducible assumption | assumption
    | (with_reducible show backs _ _ _ = _); walk_at "nf"; (try rfl)
    | (with_reducible show finA _ _ _ _ = _); walk_at "nf"; (try rfl)
    | (with_reducible show List.set _ _ _ = _); walk_at "nf"; (try rfl)
    | with_reducible exact r_c
    | with_reducible exact r_nil
    | with_reducible apply r_pv
    | with_reducible apply r_pe
    | with_reducible apply r_op
    | with_reducible apply r_ix
    | with_reducible apply r_b1
    | with_reducible apply r_tof
    | with_reducible apply r_ret
    | with_reducible apply r_call
    | with_reducible exact r_anil
    | with_reducible apply r_acons
    | (with_reducible show _ < List.length _); exact of_decide_eq_true rfl
    | with_reducible apply r_set
    | with_reducible apply r_six
    | (with_reducible apply r_lendF); focus rfl
    | (with_reducible apply lendO); (focus rfl); (focus rfl)
    | (with_reducible apply r_ev); focus rfl
    | with_reducible apply r_z
    | with_reducible apply r_lst
    | with_reducible apply r_list
    | with_reducible apply r_tuple
    | (with_reducible show frz _ = some _); first | with_reducible assumption | rfl | assumption
    | (with_reducible show -(2 ^ 62) ≤ _ ∧ _); walk_at "sd"
    | with_reducible apply r_rg1
    | with_reducible apply r_isi
    | with_reducible apply r_drop
    | with_reducible apply r_tnot
    | with_reducible exact (rfl : tYesF _ = Out.ok true _)
    | with_reducible apply gN
    | (with_reducible show isiO _ _ = some _); first | with_reducible assumption | rfl | assumption
    | (with_reducible show dIs _ _ = some _); rfl
    | (with_reducible show dNe (.bool _) (.bool _) = some _); exact dNe_bool
    | (with_reducible show dEq (.bool _) (.bool _) = some _); exact dEq_bool
    | (with_reducible show dEq _ _ = some _); first | with_reducible assumption | assumption
    | (with_reducible show dNe _ _ = some _); first | with_reducible assumption | assumption
    | (with_reducible show allO _ = some _); first | with_reducible assumption | exact allO_map _
    | (with_reducible show sumO _ = some _); first | with_reducible assumption | exact sumO_map _
    | (with_reducible show _ < sizeLine); walk_at "sd"
    | with_reducible apply r_sapp
    | (with_reducible apply r_eandT); (focus (walk_at "xp"; done)); (focus (walk_at "tt"; done)); (focus (walk_at "xp"; done))
    | (with_reducible apply r_eandF); (focus (walk_at "xp"; done)); (focus (walk_at "tt"; done))
    | (with_reducible show intO (.fz (.bool _)) = some _); exact intO_bool
    | (with_reducible show wipeE _ _ = _); walk_at "nf"; (try rfl)
    | (with_reducible show List.all _ _ = _); rfl
    | (with_reducible show Sr.at _ _ = some _); first | with_reducible assumption | rfl | assumption
    | (with_reducible apply r_torT); (focus (walk_at "xp"; done)); (focus (walk_at "tt"; done))
    | (with_reducible apply r_torF); (focus (walk_at "xp"; done)); (focus (walk_at "tt"; done)); (focus (walk_at "xp"; done))
    | (with_reducible apply r_ifT); (focus (walk_at "xp"; done)); (focus (walk_at "tt"; done)); (focus (walk_at "xp"; done))
    | (with_reducible apply r_ifF); (focus (walk_at "xp"; done)); (focus (walk_at "tt"; done)); (focus (walk_at "xp"; done))
    | (with_reducible apply r_tandF); (focus (walk_at "xp"; done)); (focus (walk_at "tt"; done))
    | (with_reducible apply r_tandT); (focus (walk_at "xp"; done)); (focus (walk_at "tt"; done)); (focus (walk_at "xp"; done))
    | (with_reducible apply r_seq); (focus (walk_at "xp"; done)); (focus (walk_at "xp"; done))
    | (with_reducible apply r_seqR); (focus (walk_at "xp"; done))
    ))

structure Bag where
  xs : List Int
  i : Nat
  c : Int
  m : Int
  hc : 0 ≤ c
  hm : 0 ≤ m
  hM : m < 2147483647
def Bag.o (b : Bag) : O := .lst [.fz (.list (b.xs.map PyData.int)), .fz (.int b.i), .fz (.int b.c), .fz (.int b.m)]
theorem len_int {xs : List Int} : lenO (.fz (.list (xs.map PyData.int))) = some (.int xs.length) := by simp [lenO, itemsO]
theorem ix_int {xs : List Int} {i : Nat} (h : i < xs.length) : ixO (.fz (.list (xs.map PyData.int))) i = some (.int xs[i]) := by
  refine atN ?_
  simp [h]
def P1 (n : Int) (ρ : En) : Prop := ∃ (b : Bag) (s2 s3 : Option O), ρ = [some b.o, some (.fz (.int n)), s2, s3, none]
theorem pull_ok (b : Bag) (n : Int) (hn : 0 < n) (hn2 : n < 2 ^ 64) : ∃ (v : Int) (b' : Bag), 0 ≤ v ∧ v < n ∧ F__law_pull [b.o, .fz (.int n)] = .ok (.fz (.int v)) [b'.o, .fz (.int n)] := by
  suffices h : RT (w__law_pull [some b.o, some (.fz (.int n)), none, none, none]) fun o ρ => ∃ as', finA [0, 1] ρ 0 [b.o, .fz (.int n)] = some as' ∧ ∃ (v : Int) (b' : Bag), o = .fz (.int v) ∧ 0 ≤ v ∧ v < n ∧ as' = [b'.o, .fz (.int n)] by
    obtain ⟨o, as', h1, v, b', rfl, h2, h3, rfl⟩ := run_rt (m := 5) (prot := [0, 1]) (body := w__law_pull) (as := [b.o, .fz (.int n)]) h
    exact ⟨v, b', h2, h3, h1⟩
  have hn0 : n ≠ 0 := by omega
  have hn4 : n.natAbs < 2 ^ 100 := by omega
  unfold w__law_pull
  refine seqNX (P := P1 n) (G := fun out => RT out _) ?_ ?_
  · have hl := @len_int b.xs
    by_cases h1 : b.c = 0
    · by_cases h2 : b.i < b.xs.length
      · have hx := ix_int h2
        by_cases h3 : (10 : Int) ^ 18 ≤ b.xs[b.i]
        · apply nx_of
          · walk_at "xp"
          · refine ⟨⟨b.xs, b.i + 1, b.xs[b.i], b.m, by omega, b.hm, b.hM⟩, _, _, rfl⟩
        · have q1 := b.hm
          have q2 := b.hM
          apply nx_of
          · walk_at "xp"
          · refine ⟨⟨b.xs, b.i + 1, b.c, _, b.hc, Int.fmod_nonneg_of_pos _ (by omega), Int.fmod_lt_of_pos _ (by omega)⟩, _, _, rfl⟩
      · apply nx_of
        · walk_at "xp"
        · exact ⟨b, _, _, rfl⟩
    · apply nx_of
      · walk_at "xp"
      · exact ⟨b, _, _, rfl⟩
  · rintro _ ⟨b, s2, s3, rfl⟩
    have q1 := b.hm
    have q2 := b.hM
    by_cases h1 : 0 < b.c
    · apply rt_of
      · walk_at "xp"
      · exact ⟨_, rfl, _, ⟨b.xs, b.i, b.c.fdiv n, b.m, Int.fdiv_nonneg b.hc (by omega), b.hm, b.hM⟩, rfl, Int.fmod_nonneg_of_pos _ hn, Int.fmod_lt_of_pos _ hn, rfl⟩
    · apply rt_of
      · walk_at "xp"
      · exact ⟨_, rfl, _, ⟨b.xs, b.i, b.c, _, b.hc, Int.fmod_nonneg_of_pos _ (by decide), Int.fmod_lt_of_pos _ (by decide)⟩, rfl, Int.fmod_nonneg_of_pos _ hn, Int.fmod_lt_of_pos _ hn, rfl⟩

theorem pick_ok (b : Bag) {o : O} {l : Bool} {ds : List PyData} (ho : itemsO o = some (l, ds)) (h0 : ds ≠ []) (hz : ds.length < 2 ^ 63) (hr : o = .lst (ds.map O.fz) ∨ ∃ d, o = .fz d) : ∃ (d : PyData) (b' : Bag), d ∈ ds ∧ F__law_pick [b.o, o] = .ok (.fz d) [b'.o, o] := by
  have hp : 0 < ds.length := List.length_pos_iff.mpr h0
  obtain ⟨v, b', h1, h2, h3⟩ := pull_ok b ds.length (by omega) (by omega)
  have hv : v.toNat < ds.length := by omega
  refine ⟨ds[v.toNat], b', List.getElem_mem _, ?_⟩
  have hl := len_items ho
  have hx := ix_itemsI ho h1 (List.getElem?_eq_getElem hv)
  refine r_runR (ρ1 := [some b'.o, some o]) ?_ rfl
  walk_at "nf"
  unfold w__law_pick
  walk_at "xp"
theorem cutG_map {α β : Type} (f : α → β) (xs : List α) (lo hi : Option Int) : cutG (xs.map f) lo hi = (cutG xs lo hi).map f := by
  simp [cutG, List.map_take, List.map_drop]
theorem bag_ok (ns : List Int) : ∃ b : Bag, F__law_bag [.fz (.list (ns.map PyData.int))] = .ok b.o [.fz (.list (ns.map PyData.int))] := by
  refine ⟨⟨cutG ns none (some 63), 0, 0, 1, by decide, by decide, by decide⟩, ?_⟩
  refine r_runR (ρ1 := [some (.fz (.list (ns.map PyData.int)))]) ?_ rfl
  walk_at "nf"
  unfold w__law_bag
  have h1 : slO (.fz (.list (ns.map PyData.int))) none (some 63) = some (.lst ((cutG (ns.map PyData.int) none (some 63)).map O.fz)) := rfl
  have h2 : frz (.lst ((cutG (ns.map PyData.int) none (some 63)).map O.fz)) = some (.list ((cutG ns none (some 63)).map PyData.int)) := by rw [frz_map, cutG_map]
  have h3 := items_map (cutG (ns.map PyData.int) none (some 63))
  refine r_ret (r_lst (r_acons (r_z (r_list (r_pe (r_sl (r_pv rfl) r_nno (r_ne (r_pe r_c) rfl) rfl h1)) rfl h3) h2) (r_acons r_c (r_acons r_c (r_acons r_c r_anil)))))
theorem prime_ok (b : Bag) : ∃ (p : Int) (b' : Bag), 2 ≤ p ∧ p ≤ 31 ∧ F__law_prime [b.o] = .ok (.fz (.int p)) [b'.o] ∧ p ∈ [2, 3, 5, 7, 11, 13, 17, 19, 23, 29, 31] := by
  obtain ⟨d, b', h1, h2⟩ := pick_ok b (o := .lst ([2, 3, 5, 7, 11, 13, 17, 19, 23, 29, 31].map fun i => .fz (.int i))) (ds := [2, 3, 5, 7, 11, 13, 17, 19, 23, 29, 31].map PyData.int) rfl (by simp) (by simp) (Or.inl rfl)
  obtain ⟨p, h3, h4⟩ := List.mem_map.mp h1
  subst h4
  refine ⟨p, b', ?_, ?_, ?_, h3⟩
  · simp at h3; omega
  · simp at h3; omega
  · refine r_runR (ρ1 := [some b'.o]) ?_ rfl
    walk_at "nf"
    unfold w__law_prime
    walk_at "xp"
def rowD (xs : List Int) : PyData := .tuple (xs.map PyData.int)
def Within (p : Int) (xs : List Int) : Prop := ∀ x ∈ xs, 0 ≤ x ∧ x < p
theorem row_ok (b : Bag) (p : Int) (size : Nat) (hp : 2 ≤ p) (hp2 : p ≤ 31) (hs : 1 ≤ size) (hs2 : size ≤ 12) : ∃ (xs : List Int) (b' : Bag), xs.length = size ∧ Within p xs ∧ F__law_row [b.o, .fz (.int p), .fz (.int size)] = .ok (.fz (rowD xs)) [b'.o, .fz (.int p), .fz (.int size)] := by
  suffices h : RT (w__law_row [some b.o, some (.fz (.int p)), some (.fz (.int size)), none, none, none]) fun o ρ => ∃ as', finA [0, 1, 2] ρ 0 [b.o, .fz (.int p), .fz (.int size)] = some as' ∧ ∃ (xs : List Int) (b' : Bag), o = .fz (rowD xs) ∧ xs.length = size ∧ Within p xs ∧ as' = [b'.o, .fz (.int p), .fz (.int size)] by
    obtain ⟨o, as', h1, xs, b', rfl, h2, h3, rfl⟩ := run_rt (m := 6) (prot := [0, 1, 2]) (body := w__law_row) (as := [b.o, .fz (.int p), .fz (.int size)]) h
    exact ⟨xs, b', h2, h3, h1⟩
  unfold w__law_row
  obtain ⟨way, b1, w1, w2, w3⟩ := pull_ok b 6 (by omega) (by omega)
  apply seqS (G := fun out => RT out _)
  · walk_at "xp"
  · by_cases c0 : way = 0
    · subst c0
      apply rt_of
      · apply r_seqR
        apply r_ifT
        · walk_at "xp"
        · rfl
        · apply r_ret
          apply r_repT
          · apply r_pe
            apply r_tup
            · walk_at "xp"
            · rfl
          · walk_at "xp"
          · rfl
          · rfl
          · rfl
          · exact ⟨by simp, by omega, by omega, by simp⟩
      · refine ⟨_, rfl, List.replicate size 0, b1, ?_, by simp, ?_, rfl⟩
        · unfold rowD
          have : (List.replicate (Int.toNat size) [PyData.int 0]).flatten = (List.replicate size 0).map PyData.int := by
            rw [Int.toNat_natCast, flat_rep, List.map_replicate]
          rw [this]
        · intro x hx
          have := (List.mem_replicate.mp hx).2
          omega
    · apply seqS (G := fun out => RT out _)
      · walk_at "xp"
      · by_cases c1 : way = 1
        · subst c1
          obtain ⟨at', b2, a1, a2, a3⟩ := pull_ok b1 size (by omega) (by omega)
          apply rt_of
          · apply r_seqR
            apply r_ifT
            · walk_at "xp"
            · rfl
            · apply r_seq
              · walk_at "xp"
              · apply r_ret
                apply r_tuple
                · apply r_pe
                  apply compM (List.range size) (fun k : Nat => .int k) (fun k : Nat => .int (if decide ((k : Int) = at') = true then 1 else 0))
                  · walk_at "xp"
                  · rfl
                  · rfl
                  · exact rg_at
                  · intro k hk
                    apply exEl
                    · walk_at "xp"
                    · walk_at "xp"
                    · rfl
                  · rw [List.length_range]; exact le_line (by omega)
                · rfl
                · rw [items_map]
          · refine ⟨_, rfl, (List.range size).map fun k : Nat => if decide ((k : Int) = at') = true then 1 else 0, b2, ?_, by simp, ?_, rfl⟩
            · unfold rowD; rw [List.map_map]; rfl
            · intro x hx
              obtain ⟨k, _, rfl⟩ := List.mem_map.mp hx
              split <;> omega
        · apply seqS (G := fun out => RT out _)
          · walk_at "xp"
          · apply rtRet
            apply okTuple
            apply okComp (fun j acc ρ => ∃ (b : Bag) (xs : List Int), acc = xs.map PyData.int ∧ Within p xs ∧ ρ = [some b.o, some (.fz (.int p)), some (.fz (.int size)), some (.fz (.int way)), none, none])
            · walk_at "xp"
            · rfl
            · exact rg_at
            · exact ⟨b1, [], rfl, (fun x hx => by cases hx), rfl⟩
            · exact fun _ _ _ _ => rg_at
            · rintro j acc _ d hd ⟨b, xs, rfl, hx, rfl⟩
              obtain ⟨v, b', a1, a2, a3⟩ := pull_ok b p (by omega) (by omega)
              apply exElI
              · walk_at "xp"
              · rfl
              · walk_at "xp"
              · refine ⟨b', xs ++ [v], by simp, ?_, rfl⟩
                intro x h
                rcases List.mem_append.mp h with h | h
                · exact hx x h
                · cases List.mem_singleton.mp h; exact ⟨a1, a2⟩
            · rw [List.length_map, List.length_range]; exact le_line (by omega)
            · rintro acc _ hl ⟨b, xs, rfl, hx, rfl⟩
              refine ⟨_, _, items_map _, _, rfl, xs, b, rfl, ?_, hx, rfl⟩
              simpa using hl

def gi (xs : List Int) (k : Nat) : Int := xs.getD k 0
def gr (rows : List (List Int)) (k : Nat) : List Int := rows.getD k []
def mixJ (p : Int) (rows : List (List Int)) (ws : List Int) (size : Nat) : Nat → List Int
  | 0 => List.replicate size 0
  | j + 1 => (List.range size).map fun k => (gi (mixJ p rows ws size j) k + gi ws j * gi (gr rows j) k).fmod p
theorem mixJ_len {p : Int} {rows : List (List Int)} {ws : List Int} {size : Nat} : ∀ j, (mixJ p rows ws size j).length = size
  | 0 => by simp [mixJ]
  | j + 1 => by simp [mixJ]
theorem gi_get {xs : List Int} {k : Nat} (h : k < xs.length) : xs[k]? = some (gi xs k) := by simp [gi, h]
theorem gr_get {rows : List (List Int)} {k : Nat} (h : k < rows.length) : rows[k]? = some (gr rows k) := by simp [gr, h]
theorem within_gi {p : Int} {xs : List Int} {k : Nat} (hw : Within p xs) (h : k < xs.length) : 0 ≤ gi xs k ∧ gi xs k < p := hw _ (List.mem_of_getElem? (gi_get h))
theorem ix_row {xs : List Int} {k : Nat} (h : k < xs.length) : ixO (.fz (rowD xs)) (k : Int) = some (.int (gi xs k)) := ix_items (ds := xs.map PyData.int) rfl (by rw [List.getElem?_map, gi_get h]; rfl)
theorem ix_lst {xs : List Int} {k : Nat} (h : k < xs.length) : ixO (.lst ((xs.map PyData.int).map O.fz)) (k : Int) = some (.int (gi xs k)) := ix_items (items_map _) (by rw [List.getElem?_map, gi_get h]; rfl)
theorem ix_ints {o : O} {l : Bool} {xs : List Int} {k : Nat} (ho : itemsO o = some (l, xs.map PyData.int)) (h : k < xs.length) : ixO o (k : Int) = some (.int (gi xs k)) := ix_items ho (by rw [List.getElem?_map, gi_get h]; rfl)
theorem ix_rows {o : O} {l : Bool} {xs : List (List Int)} {k : Nat} (ho : itemsO o = some (l, xs.map rowD)) (h : k < xs.length) : ixO o (k : Int) = some (rowD (gr xs k)) := ix_items ho (by rw [List.getElem?_map, gr_get h]; rfl)
theorem len_rows {o : O} {l : Bool} {xs : List (List Int)} (ho : itemsO o = some (l, xs.map rowD)) : lenO o = some (.int xs.length) := by rw [len_items ho, List.length_map]
theorem len_ints {o : O} {l : Bool} {xs : List Int} (ho : itemsO o = some (l, xs.map PyData.int)) : lenO o = some (.int xs.length) := by rw [len_items ho, List.length_map]
theorem mix_ok {p : Int} {ro wo : O} {l l' : Bool} {rows : List (List Int)} {ws : List Int} {size : Nat} (hp : 2 ≤ p) (hp2 : p ≤ 31) (hs2 : size ≤ 12) (hr : itemsO ro = some (l, rows.map rowD)) (hw : itemsO wo = some (l', ws.map PyData.int)) (hn : ws.length = rows.length) (hn2 : rows.length ≤ 12) (h1 : ∀ r ∈ rows, r.length = size ∧ Within p r) (h2 : Within p ws) :
    F__law_mix [.fz (.int p), ro, wo, .fz (.int size)] = .ok (.fz (rowD (mixJ p rows ws size rows.length))) [.fz (.int p), ro, wo, .fz (.int size)] := by
  have hp0 : p ≠ 0 := by omega
  have hl := len_rows hr
  suffices h : RT (w__law_mix [some (.fz (.int p)), some ro, some wo, some (.fz (.int size)), none, none, none]) fun o ρ => ∃ as', finA [0, 1, 2, 3] ρ 0 [.fz (.int p), ro, wo, .fz (.int size)] = some as' ∧ o = .fz (rowD (mixJ p rows ws size rows.length)) ∧ as' = [.fz (.int p), ro, wo, .fz (.int size)] by
    obtain ⟨o, as', h1, rfl, rfl⟩ := run_rt (m := 7) (prot := [0, 1, 2, 3]) (body := w__law_mix) (as := [.fz (.int p), ro, wo, .fz (.int size)]) h
    exact h1
  unfold w__law_mix
  apply seqS (G := fun out => RT out _)
  · apply r_set
    · apply r_rep
      · walk_at "xp"
      · walk_at "xp"
      · rfl
      · rfl
      · rfl
      · exact ⟨by omega, by omega, by rw [Int.toNat_natCast]; show 1 * size ≤ _; rw [Nat.one_mul]; exact le_line (by omega)⟩
    · walk_at "xp"
    · walk_at "xp"
  · refine seqNX (P := fun ρ => ∃ s5, ρ = [some (.fz (.int p)), some ro, some wo, some (.fz (.int size)), some (.lst (((mixJ p rows ws size rows.length).map PyData.int).map O.fz)), s5, none]) (G := fun out => RT out _) ?_ ?_
    · apply nxFor (fun j ρ => ∃ s5, ρ = [some (.fz (.int p)), some ro, some wo, some (.fz (.int size)), some (.lst (((mixJ p rows ws size j).map PyData.int).map O.fz)), s5, none])
      · walk_at "xp"
      · rfl
      · exact rg_at
      · refine ⟨none, ?_⟩
        rw [Int.toNat_natCast, flat_rep]
        simp [mixJ]
      · exact fun _ _ _ _ => rg_at
      · rintro j _ d hd ⟨s5, rfl⟩
        rw [List.getElem?_map] at hd
        obtain ⟨k, c1, c2⟩ := Option.map_eq_some_iff.mp hd
        subst c2
        obtain ⟨c3, c4⟩ := List.getElem?_eq_some_iff.mp c1
        rw [List.getElem_range] at c4
        subst c4
        rw [List.length_range] at c3
        have e1 := ix_ints hw (k := j) (by omega)
        have e2 := ix_rows hr c3
        have e3 := h1 (gr rows j) (List.mem_of_getElem? (gr_get c3))
        have e4 := within_gi h2 (k := j) (by omega)
        apply exFor
        · walk_at "xp"
        · apply nx_of
          · apply r_set
            · apply compM (List.range size) (fun k : Nat => .int k) (fun k : Nat => .int ((gi (mixJ p rows ws size j) k + gi ws j * gi (gr rows j) k).fmod p))
              · walk_at "xp"
              · rfl
              · walk_at "xp"
              · exact rg_at
              · intro k hk
                have hk := List.mem_range.mp hk
                have e5 := ix_lst (xs := mixJ p rows ws size j) (k := k) (by rw [mixJ_len]; exact hk)
                have e6 := ix_row (xs := gr rows j) (k := k) (by omega)
                have e7 := within_gi e3.2 (k := k) (by omega)
                apply exEl
                · walk_at "xp"
                · walk_at "xp"
                · walk_at "xp"
              · rw [List.length_range]; exact le_line (by omega)
            · walk_at "xp"
            · walk_at "xp"
          · refine ⟨some (.fz (.int j)), ?_⟩
            simp only [mixJ, List.map_map]
            rfl
      · rintro _ ⟨s5, rfl⟩
        rw [List.length_map, List.length_range]
        exact ⟨s5, rfl⟩
    · rintro _ ⟨s5, rfl⟩
      have hi := items_map ((mixJ p rows ws size rows.length).map PyData.int)
      apply rt_of
      · walk_at "xp"
      · exact ⟨_, rfl, rfl, rfl⟩

theorem same_flat (Fs : List O → FO) {d : PyData} (hd : Sh 0 d) : w__law_same Fs [some (.fz d), some (.fz d), none, none, none] = .rt (.fz (.bool true)) [some (.fz d), some (.fz d), none, none, none] := by
  have he := dEq_self hd (by omega)
  unfold w__law_same
  cases d with
  | none => walk_at "xp"
  | bool b => walk_at "xp"
  | int b => walk_at "xp"
  | str b => walk_at "xp"
  | list ds => exact absurd hd.2 (by simp [PyData.depth])
  | tuple ds => exact absurd hd.2 (by simp [PyData.depth])
  | dict ds => exact absurd hd.1 (by simp [PyData.canLay0])
theorem same_seq (Fs : List O → FO) {o1 o2 : O} {l : Bool} {ds : List PyData} (h1 : itemsO o1 = some (l, ds)) (h2 : itemsO o2 = some (l, ds)) (hz : ds.length ≤ 1000) (t1 : isiO "dict" o2 = some (.bool false)) (t2 : isiO "list" o1 = some (.bool l)) (t3 : isiO "list" o2 = some (.bool l)) (t4 : isiO "tuple" o1 = some (.bool !l)) (t5 : isiO "tuple" o2 = some (.bool !l))
    (hF : ∀ d ∈ ds, Fs [.fz d, .fz d] = .ok (.fz (.bool true)) [.fz d, .fz d]) : w__law_same Fs [some o1, some o2, none, none, none] = .rt (.fz (.bool true)) [some o1, some o2, none, none, none] := by
  have l1 := len_items h1
  have l2 := len_items h2
  have hc : (ds.length : Int) = ds.length := rfl
  have ha : ((List.range ds.length).map fun _ => true).all id = true := by simp
  unfold w__law_same
  have key : ∀ (G : Prop), (eComp (fRg1 (pE (eB1 lenO (pVar 1)))) (gfN 4) tYesF (eZ (eCall Fs [none, none] [] (aCons (eIx (pVar 0) (pVar 4)) (aCons (eIx (pVar 1) (pVar 4)) aNil)))) [4] [some o1, some o2, none, none, none] = .ok (.lst ((((List.range ds.length).map fun _ => true).map PyData.bool).map O.fz)) [some o1, some o2, none, none, none] → G) → G := by
    intro G k
    apply k
    have e : (((List.range ds.length).map fun _ => true).map PyData.bool) = (List.range ds.length).map (PyData.bool ∘ fun _ => true) := List.map_map
    rw [e]
    apply compM (List.range ds.length) (fun k : Nat => .int k) (PyData.bool ∘ fun _ => true)
    · walk_at "xp"
    · rfl
    · walk_at "xp"
    · exact rg_at
    · intro k hk
      have hk := List.mem_range.mp hk
      have x1 := ix_items h1 (List.getElem?_eq_getElem hk)
      have x2 := ix_items h2 (List.getElem?_eq_getElem hk)
      have f1 := hF ds[k] (List.getElem_mem _)
      apply exEl
      · walk_at "xp"
      · walk_at "xp"
      · walk_at "xp"
    · rw [List.length_range]; exact le_line hz
  apply key
  intro hcomp
  apply r_seq
  · walk_at "xp"
  · apply r_seqR
    cases l with
    | true =>
      apply r_ifT
      · walk_at "xp"
      · walk_at "tt"
      · apply r_seq
        · walk_at "xp"
        apply r_seq
        · walk_at "xp"
        apply r_seq
        · walk_at "xp"
        apply r_ret
        apply r_b1
        · exact r_pe hcomp
        · rfl
        · rw [allO_map, ha]
    | false =>
      apply r_ifT
      · walk_at "xp"
      · walk_at "tt"
      · apply r_seq
        · walk_at "xp"
        apply r_seq
        · walk_at "xp"
        apply r_seq
        · walk_at "xp"
        apply r_ret
        apply r_b1
        · exact r_pe hcomp
        · rfl
        · rw [allO_map, ha]
/-- lists and tuples of a thousand items at most -/
inductive Sm : PyData → Prop
  | non : Sm .none
  | bool (b : Bool) : Sm (.bool b)
  | int (i : Int) : Sm (.int i)
  | list {ds : List PyData} : ds.length ≤ 1000 → (∀ d ∈ ds, Sm d) → Sm (.list ds)
  | tuple {ds : List PyData} : ds.length ≤ 1000 → (∀ d ∈ ds, Sm d) → Sm (.tuple ds)
theorem same_ok : ∀ (n : Nat) (d : PyData) (o1 o2 : O), n ≤ 60 → Sh n d → Sm d → Is o1 d → Is o2 d → F__law_same (n + 1) [o1, o2] = .ok (.fz (.bool true)) [o1, o2] := by
  intro n
  induction n with
  | zero =>
    intro d o1 o2 hn hd hm h1 h2
    have e1 : o1 = .fz d := by
      cases h1 with
      | fz => rfl
      | lst ds => exact absurd hd.2 (by simp [PyData.depth])
    have e2 : o2 = .fz d := by
      cases h2 with
      | fz => rfl
      | lst ds => exact absurd hd.2 (by simp [PyData.depth])
    subst e1; subst e2
    exact r_runR (same_flat _ hd) rfl
  | succ n ih =>
    intro d o1 o2 hn hd hm h1 h2
    have flat : (∀ ds, d ≠ .list ds) → (∀ ds, d ≠ .tuple ds) → F__law_same (n + 1 + 1) [o1, o2] = .ok (.fz (.bool true)) [o1, o2] := by
      intro a b
      have e1 : o1 = .fz d := by
        cases h1 with
        | fz => rfl
        | lst ds => exact absurd rfl (a ds)
      have e2 : o2 = .fz d := by
        cases h2 with
        | fz => rfl
        | lst ds => exact absurd rfl (a ds)
      subst e1; subst e2
      refine r_runR (same_flat _ ⟨hd.1, ?_⟩) rfl
      cases hm with
      | list _ _ => exact absurd rfl (a _)
      | tuple _ _ => exact absurd rfl (b _)
      | _ => simp [PyData.depth]
    cases hm with
    | list hz hm =>
      have t : ∀ {o : O} {ds : List PyData}, Is o (.list ds) → isiO "dict" o = some (.bool false) ∧ isiO "list" o = some (.bool true) ∧ isiO "tuple" o = some (.bool !true) := by
        intro o ds h
        cases h with
        | fz => exact ⟨rfl, rfl, rfl⟩
        | lst ds => exact ⟨rfl, rfl, rfl⟩
      exact r_runR (same_seq _ (is_items h1) (is_items h2) hz (t h2).1 (t h1).2.1 (t h2).2.1 (t h1).2.2 (t h2).2.2 fun d hd' => ih d _ _ (by omega) (sh_listI hd d hd') (hm d hd') (.fz d) (.fz d)) rfl
    | tuple hz hm =>
      have t : ∀ {o : O} {ds : List PyData}, Is o (.tuple ds) → isiO "dict" o = some (.bool false) ∧ isiO "list" o = some (.bool false) ∧ isiO "tuple" o = some (.bool !false) := by
        intro o ds h
        cases h with
        | fz => exact ⟨rfl, rfl, rfl⟩
      exact r_runR (same_seq _ (is_itemsT h1) (is_itemsT h2) hz (t h2).1 (t h1).2.1 (t h2).2.1 (t h1).2.2 (t h2).2.2 fun d hd' => ih d _ _ (by omega) (sh_tupleI hd d hd') (hm d hd') (.fz d) (.fz d)) rfl
    | _ => exact flat (fun _ h => by cases h) (fun _ h => by cases h)

def Rws (p : Int) (size : Nat) (rows : List (List Int)) : Prop := ∀ r ∈ rows, r.length = size ∧ Within p r
theorem mixJ_within {p : Int} {rows : List (List Int)} {ws : List Int} {size : Nat} (hp : 2 ≤ p) : ∀ j, Within p (mixJ p rows ws size j)
  | 0 => by
    intro x hx
    have := (List.mem_replicate.mp hx).2
    omega
  | j + 1 => by
    intro x hx
    obtain ⟨k, _, rfl⟩ := List.mem_map.mp hx
    exact ⟨Int.fmod_nonneg_of_pos _ (by omega), Int.fmod_lt_of_pos _ (by omega)⟩
def rowsO (rows : List (List Int)) : O := .lst ((rows.map rowD).map O.fz)
def intsO (xs : List Int) : O := .lst ((xs.map PyData.int).map O.fz)
theorem sh_row {xs : List Int} : Sh 1 (rowD xs) := sh_tuple fun d hd => by
  obtain ⟨x, _, rfl⟩ := List.mem_map.mp hd
  exact sh_int
theorem sh_rows {rows : List (List Int)} : Sh 2 (.list (rows.map rowD)) := sh_list fun d hd => by
  obtain ⟨x, _, rfl⟩ := List.mem_map.mp hd
  exact sh_row
theorem app_rows {rows : List (List Int)} {r : List Int} : O.lst ((rows.map rowD).map O.fz ++ [.fz (rowD r)]) = rowsO (rows ++ [r]) := by simp [rowsO]
theorem rws_app {p : Int} {size : Nat} {rows : List (List Int)} {r : List Int} (h : Rws p size rows) (h1 : r.length = size) (h2 : Within p r) : Rws p size (rows ++ [r]) := by
  intro x hx
  rcases List.mem_append.mp hx with h' | h'
  · exact h x h'
  · cases List.mem_singleton.mp h'; exact ⟨h1, h2⟩
/-- a bag's numbers, one for each item -/
def RI (p : Int) (size : Nat) (most : Int) (j : Nat) (ρ : En) : Prop := ∃ (b : Bag) (rows : List (List Int)) (s5 s6 s7 : Option O), rows.length = j ∧ Rws p size rows ∧ ρ = [some b.o, some (.fz (.int p)), some (.fz (.int size)), some (.fz (.int most)), some (rowsO rows), s5, s6, s7, none]
theorem rows_ok (b : Bag) (p : Int) (size : Nat) (hp : 2 ≤ p) (hp2 : p ≤ 31) (hs : 1 ≤ size) (hs2 : size ≤ 12) : ∃ (rows : List (List Int)) (b' : Bag), rows.length ≤ 9 ∧ Rws p size rows ∧ F__law_rows [b.o, .fz (.int p), .fz (.int size), .fz (.int 9)] = .ok (rowsO rows) [b'.o, .fz (.int p), .fz (.int size), .fz (.int 9)] := by
  suffices h : RT (w__law_rows [some b.o, some (.fz (.int p)), some (.fz (.int size)), some (.fz (.int 9)), none, none, none, none, none]) fun o ρ => ∃ as', finA [0, 1, 2, 3] ρ 0 [b.o, .fz (.int p), .fz (.int size), .fz (.int 9)] = some as' ∧ ∃ (rows : List (List Int)) (b' : Bag), rows.length ≤ 9 ∧ Rws p size rows ∧ o = rowsO rows ∧ as' = [b'.o, .fz (.int p), .fz (.int size), .fz (.int 9)] by
    obtain ⟨o, as', h1, rows, b', h2, h3, rfl, rfl⟩ := run_rt (m := 9) (prot := [0, 1, 2, 3]) (body := w__law_rows) (as := [b.o, .fz (.int p), .fz (.int size), .fz (.int 9)]) h
    exact ⟨rows, b', h2, h3, h1⟩
  unfold w__law_rows
  apply seqS (G := fun out => RT out _)
  · walk_at "xp"
  obtain ⟨many, b1, m1, m2, m3⟩ := pull_ok b (9 + 1) (by omega) (by omega)
  obtain ⟨m, rfl⟩ : ∃ m : Nat, many = m := ⟨many.toNat, by omega⟩
  refine seqNX (P := RI p size 9 m) (G := fun out => RT out _) ?_ ?_
  · apply nxFor (RI p size 9)
    · walk_at "xp"
    · rfl
    · exact rg_at
    · exact ⟨b1, [], none, none, none, rfl, (fun _ h => by cases h), rfl⟩
    · exact fun _ _ _ _ => rg_at
    · rintro j _ d hd ⟨b, rows, s5, s6, s7, hl, hr, rfl⟩
      have hj : j < m := by
        have := (List.getElem?_eq_some_iff.mp hd).1
        simpa using this
      apply exFor
      · walk_at "xp"
      obtain ⟨way, b2, w1, w2, w3⟩ := pull_ok b 4 (by omega) (by omega)
      apply seqS (G := fun out => NX out _)
      · walk_at "xp"
      have hne : dNe (.list (rows.map rowD)) (.list []) = some (.bool !(rows.map rowD).isEmpty) := dNe_nil sh_rows (by decide)
      have hfz : frz (rowsO rows) = some (.list (rows.map rowD)) := frz_map _
      have hit : itemsO (rowsO rows) = some (true, rows.map rowD) := items_map _
      obtain ⟨r, b3, r1, r2, r3⟩ := row_ok b2 p size hp hp2 hs hs2
      have hlast : ∀ {s6 s7 : Option O}, NX (sApp 4 (eZ (eCall F__law_row [some 0, some 1, some 2] [] (aCons (eLend 0) (aCons (eLend 1) (aCons (eLend 2) aNil))))) [some b2.o, some (.fz (.int p)), some (.fz (.int size)), some (.fz (.int 9)), some (rowsO rows), some (.fz d), s6, s7, none]) (RI p size 9 (j + 1)) := by
        intro s6 s7
        apply nx_of
        · apply r_sapp
          · rfl
          · walk_at "xp"
          · rfl
          · simp; unfold sizeLine; omega
          · walk_at "xp"
        · exact ⟨b3, rows ++ [r], _, _, _, by simp [hl], rws_app hr r1 r2, by rw [← app_rows]⟩
      have hpk : pkD [some b2.o, some (.fz (.int p)), some (.fz (.int size)), some (.fz (.int 9)), some (rowsO rows), some (.fz d), some (.fz (.int way)), s7, none] (.v 4) = some (.list (rows.map rowD)) := hfz
      have hT : ∀ c : Int, tAndF (tOf (eOp dEq (pVar 6) (pE (eC (.int c))))) (tOf (eOp dNe (pVar 4) (pE (eLst aNil)))) [some b2.o, some (.fz (.int p)), some (.fz (.int size)), some (.fz (.int 9)), some (rowsO rows), some (.fz d), some (.fz (.int way)), s7, none] = .ok (decide (way = c) && !(rows.map rowD).isEmpty) [some b2.o, some (.fz (.int p)), some (.fz (.int size)), some (.fz (.int 9)), some (rowsO rows), some (.fz d), some (.fz (.int way)), s7, none] := by
        intro c
        by_cases hc : way = c
        · rw [decide_eq_true hc, Bool.true_and]
          apply r_tandT
          · walk_at "xp"
          · exact decide_eq_true hc
          · walk_at "xp"
        · rw [decide_eq_false hc, Bool.false_and]
          apply r_tandF
          · walk_at "xp"
          · exact decide_eq_false hc
      by_cases h0 : (decide (way = 0) && !(rows.map rowD).isEmpty) = true
      · refine ifTG (G := fun out => NX out _) (hT 0) h0 ?_
        apply seqSet (G := fun out => NX out _)
        apply okComp (fun j acc ρ => ∃ (b : Bag) (xs : List Int), acc = xs.map PyData.int ∧ Within p xs ∧ ρ = [some b.o, some (.fz (.int p)), some (.fz (.int size)), some (.fz (.int 9)), some (rowsO rows), some (.fz d), some (.fz (.int way)), s7, none]) (r_fseqV (o := rowsO rows) (r_pv rfl) rfl hit)
        · rfl
        · show (itemsO (rowsO rows)).bind _ = some (rows.map rowD)
          rw [hit]; rfl
        · exact ⟨b2, [], rfl, (fun x hx => by cases hx), rfl⟩
        · rintro _ _ _ ⟨b, xs, _, _, rfl⟩
          show (itemsO (rowsO rows)).bind _ = some (rows.map rowD)
          rw [hit]; rfl
        · rintro j acc _ d hd ⟨b, xs, rfl, hx, rfl⟩
          obtain ⟨v, b', a1, a2, a3⟩ := pull_ok b p (by omega) (by omega)
          apply exElI
          · walk_at "xp"
          · rfl
          · walk_at "xp"
          · refine ⟨b', xs ++ [v], by simp, ?_, rfl⟩
            intro x h
            rcases List.mem_append.mp h with h | h
            · exact hx x h
            · cases List.mem_singleton.mp h; exact ⟨a1, a2⟩
        · rw [List.length_map]; exact le_line (by omega)
        · rintro acc _ hla ⟨b, xs, rfl, hx, rfl⟩
          refine ⟨of_decide_eq_true rfl, ?_⟩
          walk_at "nf"
          have hm := mix_ok (p := p) (ro := rowsO rows) (wo := intsO xs) (rows := rows) (ws := xs) (size := size) hp hp2 hs2 hit (items_map _) (by simpa using hla) (by omega) hr hx
          apply nx_of
          · apply r_sapp
            · rfl
            · apply r_z
              · apply r_call
                · walk_at "xp"
                · exact hm
                · walk_at "xp"
              · rfl
            · rfl
            · simp; unfold sizeLine; omega
            · walk_at "xp"
          · exact ⟨b, rows ++ [_], _, _, _, by simp [hl], rws_app hr (mixJ_len _) (mixJ_within hp _), by rw [← app_rows]⟩
      · refine ifFG (G := fun out => NX out _) (hT 0) (by simpa using h0) ?_
        by_cases h1 : (decide (way = 1) && !(rows.map rowD).isEmpty) = true
        · refine ifTG (G := fun out => NX out _) (hT 1) h1 ?_
          have hnn : rows.map rowD ≠ [] := by
            intro e
            rw [e] at h1
            simp at h1
          obtain ⟨q, b4, q1, q2⟩ := pick_ok b2 hit hnn (by rw [List.length_map]; omega) (Or.inl rfl)
          obtain ⟨r, q3, rfl⟩ := List.mem_map.mp q1
          apply nx_of
          · apply r_sapp
            · rfl
            · walk_at "xp"
            · rfl
            · simp; unfold sizeLine; omega
            · walk_at "xp"
          · exact ⟨b4, rows ++ [r], _, _, _, by simp [hl], rws_app hr (hr r q3).1 (hr r q3).2, by rw [← app_rows]⟩
        · refine ifFG (G := fun out => NX out _) (hT 1) (by simpa using h1) ?_
          exact hlast
    · rw [List.length_map, List.length_range]; exact fun _ h => h
  · rintro _ ⟨b, rows, s5, s6, s7, hl, hr, rfl⟩
    apply rt_of
    · walk_at "xp"
    · exact ⟨_, rfl, rows, b, by omega, hr, rfl, rfl⟩

theorem prime_in {p : Int} (h : p ∈ [2, 3, 5, 7, 11, 13, 17, 19, 23, 29, 31]) : dNotIn (.int p) d_PRIMES = some (.bool false) := by
  simp only [List.mem_cons, List.not_mem_nil, or_false] at h
  rcases h with rfl | rfl | rfl | rfl | rfl | rfl | rfl | rfl | rfl | rfl | rfl <;> rfl
theorem need_prime_ok {p : Int} (h : p ∈ [2, 3, 5, 7, 11, 13, 17, 19, 23, 29, 31]) : F_need_prime [.fz (.int p)] = .ok (.fz .none) [.fz (.int p)] := by
  refine r_runN (ρ1 := [some (.fz (.int p))]) ?_ rfl
  show w_need_prime [some (.fz (.int p))] = _
  unfold w_need_prime
  apply r_ifF
  · apply r_tof
    apply r_op
    · walk_at "xp"
    · walk_at "xp"
    · rfl
    · rfl
    · exact prime_in h
  · rfl
  · rfl
theorem is_whole_ok {x : Int} : F_is_whole [.fz (.int x)] = .ok (.fz (.bool true)) [.fz (.int x)] := by
  refine r_runR (ρ1 := [some (.fz (.int x))]) ?_ rfl
  show w_is_whole [some (.fz (.int x))] = _
  unfold w_is_whole
  apply r_ret
  apply r_eandT
  · walk_at "xp"
  · walk_at "tt"
  · apply r_enot (b := false)
    · apply r_pe
      walk_at "xp"
    · rfl
    · rfl
theorem is_within_ok {x lo hi : Int} (h1 : lo ≤ x) (h2 : x ≤ hi) : F_is_within [.fz (.int x), .fz (.int lo), .fz (.int hi)] = .ok (.fz (.bool true)) [.fz (.int x), .fz (.int lo), .fz (.int hi)] := by
  refine r_runR (ρ1 := [some (.fz (.int x)), some (.fz (.int lo)), some (.fz (.int hi))]) ?_ rfl
  show w_is_within [some (.fz (.int x)), some (.fz (.int lo)), some (.fz (.int hi))] = _
  unfold w_is_within
  have hw := @is_whole_ok x
  apply r_ret
  apply r_eandT
  · apply r_call
    · walk_at "xp"
    · exact hw
    · walk_at "xp"
  · rfl
  · apply r_chainT
    · walk_at "xp"
    · walk_at "xp"
    · rfl
    · rfl
    · rfl
    · exact decide_eq_true h1
    · walk_at "xp"
    · rfl
    · rfl
    · exact congrArg (fun b => some (PyData.bool b)) (decide_eq_true h2)
theorem all_true {α : Type} (xs : List α) : (xs.map fun _ => true).all id = true := by simp
theorem is_row_ok {p : Int} {xs : List Int} (h0 : 1 ≤ xs.length) (h1 : xs.length ≤ 12) (hw : Within p xs) : F_is_row_of [.fz (.int p), .fz (rowD xs)] = .ok (.fz (.bool true)) [.fz (.int p), .fz (rowD xs)] := by
  refine r_runR (ρ1 := [some (.fz (.int p)), some (.fz (rowD xs)), none]) ?_ rfl
  show w_is_row_of [some (.fz (.int p)), some (.fz (rowD xs)), none] = _
  unfold w_is_row_of
  have hl : lenO (.fz (rowD xs)) = some (.int xs.length) := len_ints (l := false) rfl
  have ht : isiO "tuple" (.fz (rowD xs)) = some (.bool true) := rfl
  apply r_seq
  · apply r_ifF
    · apply r_torF
      · walk_at "xp"
      · rfl
      · apply r_tnot
        apply r_tof
        apply r_chainT
        · walk_at "xp"
        · walk_at "xp"
        · rfl
        · rfl
        · rfl
        · exact decide_eq_true (by omega)
        · walk_at "xp"
        · rfl
        · rfl
        · rfl
    · simp; omega
    · walk_at "xp"
  · apply r_ret
    apply r_b1
    · apply r_pe
      apply compM xs PyData.int (PyData.bool ∘ fun _ => true) (r_fseqV (r_pv rfl) rfl rfl)
      · rfl
      · walk_at "xp"
      · rfl
      · intro k hk
        have hi := @is_within_ok k 0 (p - 1) (hw k hk).1 (by have := (hw k hk).2; omega)
        apply exEl
        · walk_at "xp"
        · apply r_z
          · apply r_call
            · walk_at "xp"
            · exact hi
            · walk_at "xp"
          · rfl
        · rfl
      · exact le_line (by omega)
    · rfl
    · rw [← List.map_map, allO_map, all_true]
theorem need_alike_ok {p : Int} {size : Nat} {ro : O} {rows : List (List Int)} (h : p ∈ [2, 3, 5, 7, 11, 13, 17, 19, 23, 29, 31]) (hr : itemsO ro = some (true, rows.map rowD)) (h0 : 1 ≤ size) (h1 : size ≤ 12) (hw : Rws p size rows) (hro : ro = rowsO rows ∨ ∃ d, ro = .fz d) : F_need_alike [.fz (.int p), ro] = .ok (.fz .none) [.fz (.int p), ro] := by
  suffices hh : NX (w_need_alike [some (.fz (.int p)), some ro, none]) fun ρ => ∃ s2, ρ = [some (.fz (.int p)), some ro, s2] by
    obtain ⟨_, e1, s2, rfl⟩ := hh
    exact r_runN e1 rfl
  unfold w_need_alike
  have hp := need_prime_ok h
  apply seqS (G := fun out => NX out _)
  · apply r_drop
    apply r_call
    · walk_at "xp"
    · exact hp
    · walk_at "xp"
  apply nxFor (fun j ρ => ∃ s2, ρ = [some (.fz (.int p)), some ro, s2]) (r_fseqV (o := ro) (r_pv rfl) rfl hr)
  · rfl
  · show (itemsO ro).bind _ = some (rows.map rowD)
    rw [hr]; rfl
  · exact ⟨_, rfl⟩
  · rintro j _ _ ⟨s2, rfl⟩
    show (itemsO ro).bind _ = some (rows.map rowD)
    rw [hr]; rfl
  · rintro j _ d hd ⟨s2, rfl⟩
    rw [List.getElem?_map] at hd
    obtain ⟨r, c1, rfl⟩ := Option.map_eq_some_iff.mp hd
    have hm := List.mem_of_getElem? c1
    have hlr := (hw r hm).1
    have hpos : 0 < rows.length := List.length_pos_of_mem hm
    have hx0 := ix_rows hr hpos
    have hl0 := (hw _ (List.mem_of_getElem? (gr_get hpos))).1
    have hl1 : lenO (.fz (rowD r)) = some (.int r.length) := len_ints (l := false) rfl
    have hl2 : lenO (.fz (rowD (gr rows 0))) = some (.int (gr rows 0).length) := len_ints (l := false) rfl
    have hrow := is_row_ok (p := p) (xs := r) (by omega) (by omega) (hw r hm).2
    apply exFor
    · walk_at "xp"
    · apply nx_of
      · apply r_ifF
        · apply r_torF
          · apply r_tnot
            apply r_tof
            apply r_call
            · walk_at "xp"
            · exact hrow
            · walk_at "xp"
          · rfl
          · walk_at "xp"
        · simp; omega
        · walk_at "xp"
      · exact ⟨_, rfl⟩
  · exact fun _ h => h

def dotv (p : Int) (xs ys : List Int) : Int := Int.fmod ((xs.zip ys).map fun q : Int × Int => q.1 * q.2).sum p
theorem zpD_int (xs ys : List Int) : zpD (xs.map PyData.int) (ys.map PyData.int) = (xs.zip ys).map fun q : Int × Int => PyData.tuple [.int q.1, .int q.2] := by
  unfold zpD
  rw [List.zip_map, List.map_map]
  rfl
theorem dot_ok {p : Int} {o1 o2 : O} {l : Bool} {xs ys : List Int} (hp : 2 ≤ p) (hp2 : p ≤ 31) (h1 : itemsO o1 = some (l, xs.map PyData.int)) (h2 : itemsO o2 = some (l, ys.map PyData.int)) (w1 : Within p xs) (w2 : Within p ys) (hz : xs.length ≤ 1000) : F_dot [.fz (.int p), o1, o2] = .ok (.fz (.int (dotv p xs ys))) [.fz (.int p), o1, o2] := by
  refine r_runR (ρ1 := [some (.fz (.int p)), some o1, some o2, none, none]) ?_ rfl
  show w_dot [some (.fz (.int p)), some o1, some o2, none, none] = _
  unfold w_dot
  have hp0 : p ≠ 0 := by omega
  have hat : (Sr.zp (.sl l 1) (.sl l 2)).at [some (.fz (.int p)), some o1, some o2, none, none] = some ((xs.zip ys).map fun q => .tuple [.int q.1, .int q.2]) := by
    have a1 : (Sr.sl l 1).at [some (.fz (.int p)), some o1, some o2, none, none] = some (xs.map PyData.int) := by
      show (itemsO o1).bind _ = _
      rw [h1]; simp
    have a2 : (Sr.sl l 2).at [some (.fz (.int p)), some o1, some o2, none, none] = some (ys.map PyData.int) := by
      show (itemsO o2).bind _ = _
      rw [h2]; simp
    show ((Sr.sl l 1).at _).bind _ = _
    rw [a1]
    show ((Sr.sl l 2).at _).map _ = _
    rw [a2]
    show some (zpD _ _) = _
    rw [zpD_int]
  apply r_ret
  apply r_op
  · apply r_pe
    apply r_b1
    · apply r_pe
      apply compM (xs.zip ys) (fun q => .tuple [.int q.1, .int q.2]) (PyData.int ∘ fun q : Int × Int => q.1 * q.2) (r_zip (r_fseqV (r_pv rfl) rfl h1) (r_fseqV (r_pv rfl) rfl h2) hat rfl)
      · rfl
      · walk_at "xp"
      · exact hat
      · rintro ⟨x, y⟩ hk
        have m1 := w1 x (List.of_mem_zip hk).1
        have m2 := w2 y (List.of_mem_zip hk).2
        apply exEl
        · rfl
        · walk_at "xp"
        · rfl
      · exact le_line (by rw [List.length_zip]; omega)
    · rfl
    · rw [← List.map_map, sumO_map]
  · walk_at "xp"
  · rfl
  · rfl
  · exact dMod_ok hp0
def dotJ (p : Int) (xs ys : List Int) : Nat → Int
  | 0 => 0
  | j + 1 => (dotJ p xs ys j + gi xs j * gi ys j).fmod p
theorem law_dot_ok {p : Int} {xs ys : List Int} (hp : 2 ≤ p) (hp2 : p ≤ 31) (w1 : Within p xs) (w2 : Within p ys) (hn : ys.length = xs.length) (hz : xs.length ≤ 1000) : F__law_dot [.fz (.int p), .fz (rowD xs), .fz (rowD ys)] = .ok (.fz (.int (dotJ p xs ys xs.length))) [.fz (.int p), .fz (rowD xs), .fz (rowD ys)] := by
  suffices h : RT (w__law_dot [some (.fz (.int p)), some (.fz (rowD xs)), some (.fz (rowD ys)), none, none]) fun o ρ => ∃ as', finA [0, 1, 2] ρ 0 [.fz (.int p), .fz (rowD xs), .fz (rowD ys)] = some as' ∧ o = .fz (.int (dotJ p xs ys xs.length)) ∧ as' = [.fz (.int p), .fz (rowD xs), .fz (rowD ys)] by
    obtain ⟨o, as', h1, rfl, rfl⟩ := run_rt (m := 5) (prot := [0, 1, 2]) (body := w__law_dot) (as := [.fz (.int p), .fz (rowD xs), .fz (rowD ys)]) h
    exact h1
  have hp0 : p ≠ 0 := by omega
  have hl : lenO (.fz (rowD xs)) = some (.int xs.length) := len_ints (l := false) rfl
  unfold w__law_dot
  apply seqS (G := fun out => RT out _)
  · walk_at "xp"
  refine seqNX (P := fun ρ => ∃ s4, ρ = [some (.fz (.int p)), some (.fz (rowD xs)), some (.fz (rowD ys)), some (.fz (.int (dotJ p xs ys xs.length))), s4]) (G := fun out => RT out _) ?_ ?_
  · apply nxFor (fun j ρ => ∃ s4, ρ = [some (.fz (.int p)), some (.fz (rowD xs)), some (.fz (rowD ys)), some (.fz (.int (dotJ p xs ys j))), s4])
    · walk_at "xp"
    · rfl
    · exact rg_at
    · exact ⟨_, rfl⟩
    · exact fun _ _ _ _ => rg_at
    · rintro j _ d hd ⟨s4, rfl⟩
      rw [List.getElem?_map] at hd
      obtain ⟨k, c1, c2⟩ := Option.map_eq_some_iff.mp hd
      subst c2
      obtain ⟨c3, c4⟩ := List.getElem?_eq_some_iff.mp c1
      rw [List.getElem_range] at c4
      subst c4
      rw [List.length_range] at c3
      have e1 := ix_row (xs := xs) (k := j) c3
      have e2 := ix_row (xs := ys) (k := j) (by omega)
      have e3 := within_gi w1 (k := j) c3
      have e4 := within_gi w2 (k := j) (by omega)
      apply exFor
      · walk_at "xp"
      · apply nx_of
        · walk_at "xp"
        · exact ⟨_, rfl⟩
    · rw [List.length_map, List.length_range]; exact fun _ h => h
  · rintro _ ⟨s4, rfl⟩
    apply rt_of
    · walk_at "xp"
    · exact ⟨_, rfl, rfl, rfl⟩
theorem at_seed_ok {p : Int} {size : Nat} {xs ys : List Int} (h : p ∈ [2, 3, 5, 7, 11, 13, 17, 19, 23, 29, 31]) (hp : 2 ≤ p) (hp2 : p ≤ 31) (h0 : 1 ≤ size) (h1 : size ≤ 12) (l1 : xs.length = size) (l2 : ys.length = size) (w1 : Within p xs) (w2 : Within p ys) : F_at_seed [.fz (.int p), .fz (rowD xs), .fz (rowD ys)] = .ok (.fz (.int (dotv p xs ys))) [.fz (.int p), .fz (rowD xs), .fz (rowD ys)] := by
  refine r_runR (ρ1 := [some (.fz (.int p)), some (.fz (rowD xs)), some (.fz (rowD ys))]) ?_ rfl
  show w_at_seed [some (.fz (.int p)), some (.fz (rowD xs)), some (.fz (rowD ys))] = _
  unfold w_at_seed
  have hn := need_alike_ok (ro := rowsO [xs, ys]) (rows := [xs, ys]) (size := size) h (items_map _) h0 h1 (by
    intro r hr
    simp only [List.mem_cons, List.not_mem_nil, or_false] at hr
    rcases hr with rfl | rfl
    · exact ⟨l1, w1⟩
    · exact ⟨l2, w2⟩) (Or.inl rfl)
  have hd := dot_ok (p := p) (o1 := .fz (rowD xs)) (o2 := .fz (rowD ys)) (l := false) (xs := xs) (ys := ys) hp hp2 rfl rfl w1 w2 (by omega)
  apply r_seq
  · apply r_drop
    apply r_call
    · walk_at "xp"
    · exact hn
    · walk_at "xp"
  · apply r_ret
    apply r_call
    · walk_at "xp"
    · exact hd
    · walk_at "xp"
theorem need_listed_ok {p : Int} {wo : O} {ws : List Int} {n : Nat} (hi : itemsO wo = some (true, ws.map PyData.int)) (ht : isiO "list" wo = some (.bool true)) (hn : ws.length = n) (hz : n ≤ 1000) (hw : Within p ws) : F_need_listed [.fz (.int p), wo, .fz (.int n)] = .ok (.fz .none) [.fz (.int p), wo, .fz (.int n)] := by
  refine r_runN (ρ1 := [some (.fz (.int p)), some wo, some (.fz (.int n)), none]) ?_ rfl
  show w_need_listed [some (.fz (.int p)), some wo, some (.fz (.int n)), none] = _
  unfold w_need_listed
  have hl := len_ints hi
  apply r_seq
  · apply r_ifF
    · apply r_torF
      · walk_at "xp"
      · rfl
      · walk_at "xp"
    · simp; omega
    · walk_at "xp"
  · apply r_ifF
    · apply r_tnot
      apply r_tof
      apply r_b1
      · apply r_pe
        apply compM ws PyData.int (PyData.bool ∘ fun _ => true) (r_fseqV (r_pv rfl) rfl hi)
        · rfl
        · walk_at "xp"
        · show (itemsO wo).bind _ = _
          rw [hi]; rfl
        · intro k hk
          have hi := @is_within_ok k 0 (p - 1) (hw k hk).1 (by have := (hw k hk).2; omega)
          apply exEl
          · walk_at "xp"
          · apply r_z
            · apply r_call
              · walk_at "xp"
              · exact hi
              · walk_at "xp"
            · rfl
          · rfl
        · exact le_line (by omega)
      · rfl
      · rw [← List.map_map, allO_map, all_true]
    · rfl
    · rfl
def colO (rows : List (List Int)) (k : Nat) : PyData := .list ((rows.map fun r => gi r k).map PyData.int)
theorem columns_ok {p : Int} {ro : O} {rows : List (List Int)} {size : Nat} (hr : itemsO ro = some (true, rows.map rowD)) (h0 : 0 < rows.length) (hn : rows.length ≤ 1000) (hs : size ≤ 1000) (hw : Rws p size rows) : F_columns_of [ro] = .ok (.lst (((List.range size).map (colO rows)).map O.fz)) [ro] := by
  refine r_runR (ρ1 := [some ro, none, none]) ?_ rfl
  show w_columns_of [some ro, none, none] = _
  unfold w_columns_of
  have hx0 := ix_rows hr h0
  have hl0 := (hw _ (List.mem_of_getElem? (gr_get h0))).1
  have hl2 : lenO (.fz (rowD (gr rows 0))) = some (.int size) := by rw [← hl0]; exact len_ints (l := false) rfl
  apply r_ret
  apply compM (List.range size) (fun k : Nat => .int k) (colO rows)
  · walk_at "xp"
  · rfl
  · walk_at "xp"
  · exact rg_at
  · intro k hk
    have hk := List.mem_range.mp hk
    apply exEl
    · walk_at "xp"
    · apply r_z
      · apply compM rows rowD (PyData.int ∘ fun r => gi r k) (r_fseqV (r_pv rfl) rfl hr)
        · rfl
        · walk_at "xp"
        · show (itemsO ro).bind _ = _
          rw [hr]; rfl
        · intro r hm
          have e1 := ix_row (xs := r) (k := k) (by rw [(hw r hm).1]; exact hk)
          apply exEl
          · walk_at "xp"
          · walk_at "xp"
          · rfl
        · exact le_line hn
      · rw [frz_map]
        unfold colO
        rw [List.map_map]
    · rfl
  · rw [List.length_range]; exact le_line hs
def addv (p : Int) (rows : List (List Int)) (ws : List Int) (size : Nat) : List Int := (List.range size).map fun k => dotv p (rows.map fun r => gi r k) ws
theorem added_ok {p : Int} {size : Nat} {rows : List (List Int)} {ws : List Int} (h : p ∈ [2, 3, 5, 7, 11, 13, 17, 19, 23, 29, 31]) (hp : 2 ≤ p) (hp2 : p ≤ 31) (h0 : 1 ≤ size) (h1 : size ≤ 12) (hw : Rws p size rows) (hpos : 0 < rows.length) (hn : rows.length ≤ 1000)
    (hl : ws.length = rows.length) (hww : Within p ws) : F_added [.fz (.int p), .fz (.list (rows.map rowD)), .fz (.list (ws.map PyData.int))] = .ok (.fz (rowD (addv p rows ws size))) [.fz (.int p), .fz (.list (rows.map rowD)), .fz (.list (ws.map PyData.int))] := by
  have hr : itemsO (.fz (.list (rows.map rowD))) = some (true, rows.map rowD) := rfl
  have hi : itemsO (.fz (.list (ws.map PyData.int))) = some (true, ws.map PyData.int) := rfl
  have a1 := need_alike_ok h hr h0 h1 hw (Or.inr ⟨_, rfl⟩)
  have a2 := need_listed_ok hi rfl hl hn hww
  have a3 := columns_ok hr hpos hn (by omega) hw
  have a4 := len_rows hr
  refine r_runR (ρ1 := [some (.fz (.int p)), some (.fz (.list (rows.map rowD))), some (.fz (.list (ws.map PyData.int))), none]) ?_ rfl
  show w_added [some (.fz (.int p)), some (.fz (.list (rows.map rowD))), some (.fz (.list (ws.map PyData.int))), none] = _
  unfold w_added
  apply r_seq
  · apply r_drop
    apply r_call
    · walk_at "xp"
    · exact a1
    · walk_at "xp"
  apply r_seq
  · apply r_drop
    apply r_call
    · walk_at "xp"
    · exact a2
    · walk_at "xp"
  apply r_ret
  apply r_tuple
  · apply r_pe
    apply compM (List.range size) (colO rows) (PyData.int ∘ fun k => dotv p (rows.map fun r => gi r k) ws)
    · apply r_fseqL
      · apply r_pe
        apply r_call
        · walk_at "xp"
        · exact a3
        · walk_at "xp"
      · exact frz_map _
    · rfl
    · walk_at "xp"
    · rfl
    · intro k hk
      have hk := List.mem_range.mp hk
      have hd := dot_ok (p := p) (o1 := .fz (colO rows k)) (o2 := .fz (.list (ws.map PyData.int))) (l := true) (xs := rows.map fun r => gi r k) (ys := ws) hp hp2 rfl rfl (by
        intro x hx
        obtain ⟨r, hm, rfl⟩ := List.mem_map.mp hx
        exact within_gi (hw r hm).2 (by rw [(hw r hm).1]; exact hk)) hww (by rw [List.length_map]; exact hn)
      apply exEl
      · walk_at "xp"
      · apply r_z
        · apply r_call
          · walk_at "xp"
          · exact hd
          · walk_at "xp"
        · rfl
      · rfl
    · rw [List.length_range]; exact le_line (by omega)
  · rfl
  · unfold addv
    rw [items_map, ← List.map_map]

def sumR (n : Nat) (f : Nat → Int) : Int := ((List.range n).map f).sum
theorem sumR_zero (f : Nat → Int) : sumR 0 f = 0 := rfl
theorem sumR_succ (n : Nat) (f : Nat → Int) : sumR (n + 1) f = sumR n f + f n := by
  simp [sumR, List.range_succ, List.map_append, List.sum_append]
theorem sumR_congr {n : Nat} {f g : Nat → Int} (h : ∀ i, i < n → f i = g i) : sumR n f = sumR n g := by
  induction n with
  | zero => rfl
  | succ n ih => rw [sumR_succ, sumR_succ, ih fun i hi => h i (by omega), h n (by omega)]
theorem sumR_mod {n : Nat} {p : Int} {f g : Nat → Int} (h : ∀ i, i < n → f i % p = g i % p) : sumR n f % p = sumR n g % p := by
  induction n with
  | zero => rfl
  | succ n ih => rw [sumR_succ, sumR_succ, Int.add_emod, ih fun i hi => h i (by omega), h n (by omega), ← Int.add_emod]
theorem sumR_mul {n : Nat} {c : Int} {f : Nat → Int} : sumR n (fun i => c * f i) = c * sumR n f := by
  induction n with
  | zero => simp [sumR_zero]
  | succ n ih => rw [sumR_succ, sumR_succ, ih, Int.mul_add]
theorem sumR_mulr {n : Nat} {c : Int} {f : Nat → Int} : sumR n (fun i => f i * c) = sumR n f * c := by
  induction n with
  | zero => simp [sumR_zero]
  | succ n ih => rw [sumR_succ, sumR_succ, ih, Int.add_mul]
theorem sumR_add {n : Nat} {f g : Nat → Int} : sumR n (fun i => f i + g i) = sumR n f + sumR n g := by
  induction n with
  | zero => simp [sumR_zero]
  | succ n ih => rw [sumR_succ, sumR_succ, sumR_succ, ih]; omega
theorem sumR_swap {n m : Nat} {f : Nat → Nat → Int} : sumR n (fun i => sumR m fun j => f i j) = sumR m fun j => sumR n fun i => f i j := by
  induction n with
  | zero =>
    have : ∀ m, sumR m (fun _ => (0 : Int)) = 0 := by
      intro m
      induction m with
      | zero => rfl
      | succ m ih => rw [sumR_succ, ih]; rfl
    simp only [sumR_zero, this]
  | succ n ih =>
    rw [sumR_succ, ih, ← sumR_add]
    exact sumR_congr fun j _ => (sumR_succ n fun i => f i j).symm
theorem sumR_shift {n : Nat} {f : Nat → Int} : sumR (n + 1) f = f 0 + sumR n fun i => f (i + 1) := by
  induction n with
  | zero => simp [sumR_succ, sumR_zero]
  | succ n ih => rw [sumR_succ, ih, sumR_succ n fun i => f (i + 1)]; omega
theorem zip_sum : ∀ {xs ys : List Int}, ys.length = xs.length → ((xs.zip ys).map fun q : Int × Int => q.1 * q.2).sum = sumR xs.length fun i => gi xs i * gi ys i
  | [], _, _ => by simp [sumR_zero]
  | x :: xs, [], h => by simp at h
  | x :: xs, y :: ys, h => by
    rw [List.length_cons, sumR_shift, List.zip_cons_cons, List.map_cons, List.sum_cons, zip_sum (xs := xs) (ys := ys) (by simpa using h)]
    rfl
theorem fm {a p : Int} (hp : 2 ≤ p) : a.fmod p = a % p := Int.fmod_eq_emod_of_nonneg a (by omega)
theorem dotv_sum {p : Int} {xs ys : List Int} (hp : 2 ≤ p) (h : ys.length = xs.length) : dotv p xs ys = sumR xs.length (fun i => gi xs i * gi ys i) % p := by
  unfold dotv
  rw [fm hp, zip_sum h]
theorem dotJ_sum {p : Int} {xs ys : List Int} (hp : 2 ≤ p) : ∀ n, dotJ p xs ys n = sumR n (fun i => gi xs i * gi ys i) % p
  | 0 => by simp [dotJ, sumR_zero]
  | n + 1 => by rw [dotJ, fm hp, dotJ_sum hp n, sumR_succ, Int.emod_add_emod]
theorem dot_same {p : Int} {xs ys : List Int} (hp : 2 ≤ p) (h : ys.length = xs.length) : dotJ p xs ys xs.length = dotv p xs ys := by rw [dotJ_sum hp, dotv_sum hp h]
theorem gi_map {n k : Nat} {f : Nat → Int} (h : k < n) : gi ((List.range n).map f) k = f k := by
  unfold gi
  simp [h]
theorem gi_rep {n k : Nat} : gi (List.replicate n 0) k = 0 := by
  unfold gi
  rw [List.getD_eq_getElem?_getD, List.getElem?_replicate]
  split <;> rfl
theorem mix_sum {p : Int} {rows : List (List Int)} {ws : List Int} {size k : Nat} (hp : 2 ≤ p) (hk : k < size) : ∀ n, gi (mixJ p rows ws size n) k = sumR n (fun i => gi ws i * gi (gr rows i) k) % p
  | 0 => by simp [mixJ, sumR_zero, gi_rep]
  | n + 1 => by rw [mixJ, gi_map hk, fm hp, mix_sum hp hk n, sumR_succ, Int.emod_add_emod]
theorem gi_rows {rows : List (List Int)} {k i : Nat} (h : i < rows.length) : gi (rows.map fun r => gi r k) i = gi (gr rows i) k := by
  unfold gi gr
  simp [h]
theorem ext_gi {xs ys : List Int} (h : xs.length = ys.length) (h2 : ∀ k, k < xs.length → gi xs k = gi ys k) : xs = ys := by
  apply List.ext_getElem h
  intro k a b
  have := h2 k a
  unfold gi at this
  simpa [a, b] using this
theorem add_same {p : Int} {rows : List (List Int)} {ws : List Int} {size : Nat} (hp : 2 ≤ p) (hl : ws.length = rows.length) : addv p rows ws size = mixJ p rows ws size rows.length := by
  apply ext_gi
  · rw [mixJ_len]; simp [addv]
  · intro k hk
    have hk : k < size := by simpa [addv] using hk
    rw [mix_sum hp hk, addv, gi_map hk, dotv_sum hp (by rw [List.length_map]; exact hl), List.length_map]
    congr 1
    exact sumR_congr fun i hi => by rw [gi_rows hi, Int.mul_comm]
theorem sum_same {p : Int} {rows : List (List Int)} {ws seed : List Int} {size : Nat} (hp : 2 ≤ p) (hr : ∀ r ∈ rows, r.length = size) (hs : seed.length = size) :
    dotv p (mixJ p rows ws size rows.length) seed = (sumR rows.length fun i => gi ws i * dotv p (gr rows i) seed).fmod p := by
  rw [dotv_sum hp (by rw [mixJ_len]; exact hs), mixJ_len, fm hp]
  have h1 : sumR size (fun k => gi (mixJ p rows ws size rows.length) k * gi seed k) % p = sumR size (fun k => sumR rows.length fun i => gi ws i * gi (gr rows i) k * gi seed k) % p := by
    apply sumR_mod
    intro k hk
    rw [mix_sum hp hk, sumR_mulr, Int.mul_emod, Int.emod_emod, ← Int.mul_emod]
  rw [h1, sumR_swap]
  apply sumR_mod
  intro i hi
  have hl : (gr rows i).length = size := hr _ (List.mem_of_getElem? (gr_get hi))
  rw [dotv_sum hp (by rw [hl, hs]), hl]
  have h2 : sumR size (fun k => gi ws i * gi (gr rows i) k * gi seed k) = gi ws i * sumR size fun k => gi (gr rows i) k * gi seed k := by
    rw [← sumR_mul]
    exact sumR_congr fun k _ => Int.mul_assoc _ _ _
  rw [h2, Int.mul_emod, Int.mul_emod (gi ws i) (_ % p), Int.emod_emod]

theorem lstI_of {o : O} {ds : List PyData} (h : itemsO o = some (true, ds)) : lstI o = some ds := by unfold lstI; rw [h]
theorem sm_row {xs : List Int} (h : xs.length ≤ 1000) : Sm (rowD xs) := .tuple (by rw [List.length_map]; exact h) fun d hd => by
  obtain ⟨x, _, rfl⟩ := List.mem_map.mp hd
  exact .int x
theorem sm_ints {xs : List Int} (h : xs.length ≤ 1000) : Sm (.list (xs.map PyData.int)) := .list (by rw [List.length_map]; exact h) fun d hd => by
  obtain ⟨x, _, rfl⟩ := List.mem_map.mp hd
  exact .int x
theorem sh_ints {xs : List Int} : Sh 1 (.list (xs.map PyData.int)) := sh_list fun d hd => by
  obtain ⟨x, _, rfl⟩ := List.mem_map.mp hd
  exact sh_int
theorem sm_rows {rows : List (List Int)} {p : Int} {size : Nat} (h : rows.length ≤ 1000) (hs : size ≤ 12) (hw : Rws p size rows) : Sm (.list (rows.map rowD)) := .list (by rw [List.length_map]; exact h) fun d hd => by
  obtain ⟨x, hx, rfl⟩ := List.mem_map.mp hd
  exact sm_row (by rw [(hw x hx).1]; omega)
theorem law_ok (ns : List Int) : ∃ as', F_law [.fz (.list (ns.map PyData.int))] = .ok (.fz (.bool true)) as' := by
  suffices h : RT (w_law [some (.fz (.list (ns.map PyData.int))), none, none, none, none, none, none, none, none, none, none, none, none]) fun o ρ => ∃ as', finA [0] ρ 0 [.fz (.list (ns.map PyData.int))] = some as' ∧ o = .fz (.bool true) by
    obtain ⟨o, as', h1, rfl⟩ := run_rt (m := 13) (prot := [0]) (body := w_law) (as := [.fz (.list (ns.map PyData.int))]) h
    exact ⟨as', h1⟩
  unfold w_law
  generalize hscr : O.fz (.list (ns.map PyData.int)) = scr
  obtain ⟨b0, hb⟩ := bag_ok ns
  rw [hscr] at hb
  apply seqS (G := fun out => RT out _)
  · apply r_set
    · apply r_call
      · rw [← hscr]; walk_at "xp"
      · rw [hscr]; exact hb
      · rw [← hscr]; walk_at "xp"
    · walk_at "xp"
    · walk_at "xp"
  rw [hscr]
  obtain ⟨p, b1, hp, hp2, hpr, hpm⟩ := prime_ok b0
  have hp0 : p ≠ 0 := by omega
  apply seqS (G := fun out => RT out _)
  · apply r_set
    · apply r_call
      · walk_at "xp"
      · exact hpr
      · walk_at "xp"
    · walk_at "xp"
    · walk_at "xp"
  obtain ⟨v, b2, v1, v2, v3⟩ := pull_ok b1 12 (by omega) (by omega)
  apply seqS (G := fun out => RT out _)
  · walk_at "xp"
  obtain ⟨size, hsz⟩ : ∃ n : Nat, 1 + v = n := ⟨(1 + v).toNat, by omega⟩
  rw [hsz]
  have hs1 : 1 ≤ size := by omega
  have hs2 : size ≤ 12 := by omega
  obtain ⟨rows0, b3, r1, r2, r3⟩ := rows_ok b2 p size hp hp2 hs1 hs2
  obtain ⟨rl, b4, q1, q2, q3⟩ := row_ok b3 p size hp hp2 hs1 hs2
  apply seqS (G := fun out => RT out _)
  · apply r_set
    · apply r_cat
      · apply r_pe
        apply r_call
        · walk_at "xp"
        · exact r3
        · walk_at "xp"
      · apply r_pe
        apply r_lst
        apply r_acons
        · apply r_z
          · apply r_call
            · walk_at "xp"
            · exact q3
            · walk_at "xp"
          · rfl
        · exact r_anil
      · rfl
      · rfl
      · exact lstI_of (items_map _)
      · exact lstI_of (ds := [rowD rl]) rfl
      · rw [List.length_map]; exact le_line (by simp; omega)
    · walk_at "xp"
    · walk_at "xp"
  obtain ⟨rows, hrows⟩ : ∃ rows, rows = rows0 ++ [rl] := ⟨_, rfl⟩
  have hcat : O.lst ((rows0.map rowD ++ [rowD rl]).map O.fz) = rowsO rows := by rw [hrows]; simp [rowsO]
  rw [hcat]
  have hw : Rws p size rows := by rw [hrows]; exact rws_app r2 q1 q2
  have hn : rows.length ≤ 10 := by rw [hrows]; simp; omega
  have hpos : 0 < rows.length := by rw [hrows]; simp
  have hit : itemsO (rowsO rows) = some (true, rows.map rowD) := items_map _
  obtain ⟨seed, b5, s1, s2, s3⟩ := row_ok b4 p size hp hp2 hs1 hs2
  apply seqS (G := fun out => RT out _)
  · apply r_set
    · apply r_call
      · walk_at "xp"
      · exact s3
      · walk_at "xp"
    · walk_at "xp"
    · walk_at "xp"
  apply seqSet (G := fun out => RT out _)
  apply okComp (fun j acc ρ => ∃ (b : Bag) (xs : List Int), acc = xs.map PyData.int ∧ Within p xs ∧ ρ = [some scr, some b.o, some (.fz (.int p)), some (.fz (.int size)), some (rowsO rows), some (.fz (rowD seed)), none, none, none, none, none, none, none]) (r_fseqV (o := rowsO rows) (r_pv rfl) rfl hit)
  · rfl
  · show (itemsO (rowsO rows)).bind _ = some (rows.map rowD)
    rw [hit]; rfl
  · exact ⟨b5, [], rfl, (fun x hx => by cases hx), rfl⟩
  · rintro _ _ _ ⟨b, xs, _, _, rfl⟩
    show (itemsO (rowsO rows)).bind _ = some (rows.map rowD)
    rw [hit]; rfl
  · rintro j acc _ d hd ⟨b, xs, rfl, hx, rfl⟩
    obtain ⟨v, b', a1, a2, a3⟩ := pull_ok b p (by omega) (by omega)
    apply exElI
    · walk_at "xp"
    · rfl
    · walk_at "xp"
    · refine ⟨b', xs ++ [v], by simp, ?_, rfl⟩
      intro x h
      rcases List.mem_append.mp h with h | h
      · exact hx x h
      · cases List.mem_singleton.mp h; exact ⟨a1, a2⟩
  · rw [List.length_map]; exact le_line (by omega)
  rintro acc _ hla ⟨b6, ws, rfl, hww, rfl⟩
  refine ⟨of_decide_eq_true rfl, ?_⟩
  have hl : ws.length = rows.length := by simpa using hla
  have hiw : itemsO (intsO ws) = some (true, ws.map PyData.int) := items_map _
  have hz1 : frz (O.lst ((rows.map rowD).map O.fz)) = some (.list (rows.map rowD)) := frz_map _
  have hz2 : frz (O.lst ((ws.map PyData.int).map O.fz)) = some (.list (ws.map PyData.int)) := frz_map _
  walk_at "nf"
  show RT (sSeq _ _ [some scr, some b6.o, some (.fz (.int p)), some (.fz (.int size)), some (rowsO rows), some (.fz (rowD seed)), some (intsO ws), none, none, none, none, none, none]) _
  apply seqS (G := fun out => RT out _)
  · walk_at "xp"
  have hfound : ∀ r ∈ rows, F_at_seed [.fz (.int p), .fz (rowD r), .fz (rowD seed)] = .ok (.fz (.int (dotv p r seed))) [.fz (.int p), .fz (rowD r), .fz (rowD seed)] := fun r hr => at_seed_ok hpm hp hp2 hs1 hs2 (hw r hr).1 s1 (hw r hr).2 s2
  have hdot : ∀ r ∈ rows, F__law_dot [.fz (.int p), .fz (rowD r), .fz (rowD seed)] = .ok (.fz (.int (dotv p r seed))) [.fz (.int p), .fz (rowD r), .fz (rowD seed)] := fun r hr => by
    rw [← dot_same hp (by rw [s1, (hw r hr).1])]
    exact law_dot_ok hp hp2 (hw r hr).2 s2 (by rw [s1, (hw r hr).1]) (by rw [(hw r hr).1]; omega)
  obtain ⟨fnd, hfnd⟩ : ∃ f, f = rows.map fun r => dotv p r seed := ⟨_, rfl⟩
  have hfo : O.lst ((rows.map (PyData.int ∘ fun r => dotv p r seed)).map O.fz) = intsO fnd := by rw [hfnd]; simp [intsO]
  have hfl : fnd.length = rows.length := by rw [hfnd, List.length_map]
  apply seqS (G := fun out => RT out _)
  · apply r_set
    · apply compM rows rowD (PyData.int ∘ fun r => dotv p r seed) (r_fseqV (o := rowsO rows) (r_pv rfl) rfl hit)
      · rfl
      · walk_at "xp"
      · show (itemsO (rowsO rows)).bind _ = _
        rw [hit]; rfl
      · intro r hr
        have hf := hfound r hr
        apply exEl
        · walk_at "xp"
        · apply r_z
          · apply r_call
            · walk_at "xp"
            · exact hf
            · walk_at "xp"
          · rfl
        · rfl
      · exact le_line (by omega)
    · walk_at "xp"
    · walk_at "xp"
  rw [hfo]
  have hsame1 := same_ok 7 (.list (fnd.map PyData.int)) (intsO fnd) (intsO fnd) (by decide) (sh_mono sh_ints (by decide)) (sm_ints (by omega)) (.lst _) (.lst _)
  apply seqS (G := fun out => RT out _)
  · apply r_ifF
    · apply r_tnot
      apply r_tof
      apply r_call
      · apply r_acons
        · walk_at "xp"
        · apply r_acons
          · apply compM rows rowD (PyData.int ∘ fun r => dotv p r seed) (r_fseqV (o := rowsO rows) (r_pv rfl) rfl hit)
            · rfl
            · walk_at "xp"
            · show (itemsO (rowsO rows)).bind _ = _
              rw [hit]; rfl
            · intro r hr
              have hf := hdot r hr
              apply exEl
              · walk_at "xp"
              · apply r_z
                · apply r_call
                  · walk_at "xp"
                  · exact hf
                  · walk_at "xp"
                · rfl
              · rfl
            · exact le_line (by omega)
          · exact r_anil
      · rw [hfo]
        exact hsame1
      · walk_at "xp"
    · rfl
    · walk_at "xp"
  have hmix := mix_ok (p := p) (ro := rowsO rows) (wo := intsO ws) (rows := rows) (ws := ws) (size := size) hp hp2 hs2 hit hiw hl (by omega) hw hww
  obtain ⟨due, hdue⟩ : ∃ d, d = mixJ p rows ws size rows.length := ⟨_, rfl⟩
  rw [← hdue] at hmix
  have hdl : due.length = size := by rw [hdue, mixJ_len]
  have hdw : Within p due := by rw [hdue]; exact mixJ_within hp _
  apply seqS (G := fun out => RT out _)
  · apply r_set
    · apply r_call
      · walk_at "xp"
      · exact hmix
      · walk_at "xp"
    · walk_at "xp"
    · walk_at "xp"
  have hadd := added_ok (p := p) (size := size) (rows := rows) (ws := ws) hpm hp hp2 hs1 hs2 hw hpos (by omega) hl hww
  rw [add_same hp hl, ← hdue] at hadd
  have hsame2 := same_ok 7 (.list [rowD due, .list [.list (rows.map rowD), .list (ws.map PyData.int)]]) (.lst [.fz (rowD due), .fz (.list [.list (rows.map rowD), .list (ws.map PyData.int)])]) (.lst [.fz (rowD due), .fz (.list [.list (rows.map rowD), .list (ws.map PyData.int)])]) (by decide)
    (sh_mono (n := 4) (sh_list fun d hd => by
      simp only [List.mem_cons, List.not_mem_nil, or_false] at hd
      rcases hd with rfl | rfl
      · exact sh_mono sh_row (by decide)
      · exact sh_list fun d hd => by
          simp only [List.mem_cons, List.not_mem_nil, or_false] at hd
          rcases hd with rfl | rfl
          · exact sh_rows
          · exact sh_mono sh_ints (by decide)) (by decide))
    (.list (by simp) fun d hd => by
      simp only [List.mem_cons, List.not_mem_nil, or_false] at hd
      rcases hd with rfl | rfl
      · exact sm_row (by omega)
      · exact .list (by simp) fun d hd => by
          simp only [List.mem_cons, List.not_mem_nil, or_false] at hd
          rcases hd with rfl | rfl
          · exact sm_rows (by omega) hs2 hw
          · exact sm_ints (by omega))
    (.lst [rowD due, .list [.list (rows.map rowD), .list (ws.map PyData.int)]]) (.lst [rowD due, .list [.list (rows.map rowD), .list (ws.map PyData.int)]])
  apply seqS (G := fun out => RT out _)
  · apply r_ifF
    · apply r_tnot
      apply r_tof
      apply r_call
      · apply r_acons
        · apply r_lst
          apply r_acons
          · apply r_z
            · apply r_call
              · walk_at "xp"
              · exact hadd
              · walk_at "xp"
            · rfl
          · apply r_acons
            · exact r_evL rfl (frz_map [_, _])
            · exact r_anil
        · apply r_acons
          · apply r_lst
            apply r_acons
            · exact r_ev rfl
            · apply r_acons
              · apply r_z
                · apply r_lst
                  apply r_acons
                  · exact r_evL rfl hz1
                  · apply r_acons
                    · exact r_evL rfl hz2
                    · exact r_anil
                · exact frz_map [_, _]
              · exact r_anil
          · exact r_anil
      · exact hsame2
      · walk_at "xp"
    · rfl
    · walk_at "xp"
  have hlen : lenO (.fz (.list (rows.map rowD))) = some (.int rows.length) := len_rows (l := true) rfl
  apply seqS (G := fun out => RT out _)
  · apply r_set
    · apply r_op
      · apply r_pe
        apply r_b1
        · apply r_pe
          apply compM (List.range rows.length) (fun k : Nat => .int k) (PyData.int ∘ fun i => gi ws i * dotv p (gr rows i) seed)
          · walk_at "xp"
          · rfl
          · walk_at "xp"
          · exact rg_at
          · intro k hk
            have hk := List.mem_range.mp hk
            have e1 : ixO (.fz (.list (ws.map PyData.int))) (k : Int) = some (.int (gi ws k)) := ix_ints (l := true) rfl (by omega)
            have e2 : ixO (intsO fnd) (k : Int) = some (.int (dotv p (gr rows k) seed)) := by
              have : gi fnd k = dotv p (gr rows k) seed := by
                rw [hfnd]; unfold gi gr; simp [hk]
              rw [← this]
              exact ix_ints (items_map _) (by omega)
            have e3 := within_gi hww (k := k) (by omega)
            have e4 : (dotv p (gr rows k) seed).natAbs < 2 ^ 100 := fmodA (by omega) (by omega)
            apply exEl
            · walk_at "xp"
            · walk_at "xp"
            · rfl
          · rw [List.length_range]; exact le_line (by omega)
        · rfl
        · rw [← List.map_map, sumO_map]
      · walk_at "xp"
      · rfl
      · rfl
      · exact dMod_ok hp0
    · walk_at "xp"
    · walk_at "xp"
  have hseed := at_seed_ok (p := p) (size := size) (xs := due) (ys := seed) hpm hp hp2 hs1 hs2 hdl s1 hdw s2
  have hsum : dotv p due seed = Int.fmod (((List.range rows.length).map fun i => gi ws i * dotv p (gr rows i) seed).sum) p := by
    rw [hdue]; exact sum_same hp (fun r hr => (hw r hr).1) s1
  rw [hsum] at hseed
  have hsame3 := same_ok 7 (.int (Int.fmod (((List.range rows.length).map fun i => gi ws i * dotv p (gr rows i) seed).sum) p)) _ _ (by decide) sh_int (.int _) (.fz _) (.fz _)
  apply seqS (G := fun out => RT out _)
  · apply r_ifF
    · apply r_tnot
      apply r_tof
      apply r_call
      · apply r_acons
        · apply r_call
          · walk_at "xp"
          · exact hseed
          · walk_at "xp"
        · apply r_acons
          · walk_at "xp"
          · exact r_anil
      · exact hsame3
      · walk_at "xp"
    · rfl
    · walk_at "xp"
  have hsame4 := same_ok 7 (rowD due) _ _ (by decide) (sh_mono sh_row (by decide)) (sm_row (by omega)) (.fz _) (.fz _)
  apply rt_of
  · apply r_ret
    apply r_call
    · apply r_acons
      · apply r_call
        · walk_at "xp"
        · exact hadd
        · walk_at "xp"
      · apply r_acons
        · walk_at "xp"
        · exact r_anil
    · exact hsame4
    · walk_at "xp"
  · exact ⟨_, rfl, rfl⟩

end Lw
end
theorem PySem.Challenge.cw_lotspring_k05_rows_at_seeds_and_added_holds : PySem.Challenge.rw_lotspring_k05_rows_at_seeds_and_added.Holds := by
  exact Lw.law_holds fun ns _ => Lw.law_ok ns
