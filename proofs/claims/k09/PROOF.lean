import PyProof.Rows.All
import Wide.All
import OpenK.AllK
import Wide.FinOn
import HandS.ForMost
import HandS.ForExc
import HandS.Zip
import HandS.Wide
import HandS.IsInst
import HandS.CallSlots
import HandS.Head2
import HandS.HeadEnd
import HandS.HeadHook2
import HandS.Lambda
import HandS.Flow
import HandS.TupMul
import HandS.TupAny
import HandS.EndBits
import HandS.ExcInit
import HandS.ExcField
import HandS.ExcIs
import HandS.ExcOwn
import KE.KExcInit
import HandS.TryMany
import HandS.EndTab
import KE.KExcIs
import KE.KDflt
import HandS.Rev
import PySem.Challenge.RW_lotspring_k09_solved_and_gone_through
set_option Elab.async false
set_option linter.all false
set_option maxRecDepth 100000
set_option maxHeartbeats 4000000
/-! Values of the law's own world: what a slot stands for, whom it belongs to. -/
namespace Ls
open PySem L2

/-- an exception: its class by its global name, its fields -/
structure Xn where
  cls : Str
  fs : List (Str × PyData)
/-- a slot's worth: settled data, a bare value, a list of the def's own, a caught exception -/
inductive O where
  | fz (d : PyData)
  | raw (v : V)
  | lst (xs : List O)
  | exn (a : Addr) (cls : Value) (d : Option Addr) (x : Xn)
abbrev En := List (Option O)
inductive Out (α : Type) where
  | ok (a : α) (ρ : En)
  | exc (x : Xn) (ρ : En)
  | bad
inductive SO where
  | nx (ρ : En) | rt (o : O) (ρ : En) | bk (ρ : En) | ct (ρ : En) | exc (x : Xn) (ρ : En) | bad
inductive FO where
  | ok (o : O) (as : List O) | exc (x : Xn) (as : List O) | bad

mutual
def frz : O → Option PyData
  | .fz d => some d
  | .raw _ => none
  | .exn _ _ _ _ => none
  | .lst xs => (frzs xs).map .list
def frzs : List O → Option (List PyData)
  | [] => some []
  | x :: xs => (frz x).bind fun d => (frzs xs).map fun ds => d :: ds
end

/-- how often an address is held -/
abbrev Fp := Addr → Nat
def Fp.z : Fp := fun _ => 0
def Fp.one (a : Addr) : Fp := fun b => if b = a then 1 else 0
def Fp.add (A B : Fp) : Fp := fun b => A b + B b
instance : Add Fp := ⟨Fp.add⟩
theorem add_at (A B : Fp) (b : Addr) : (A + B) b = A b + B b := rfl
theorem z_at (b : Addr) : Fp.z b = 0 := rfl
theorem one_same (a : Addr) : Fp.one a a = 1 := if_pos rfl
theorem one_ne {a b : Addr} (h : b ≠ a) : Fp.one a b = 0 := if_neg h

def XR (K : PySem.W.Frag) (S : Hp) (x : Xn) (cls : Value) (d : Option Addr) : Prop :=
  cls = .ref (He.ga K x.cls) ∧ ∃ a fs, d = some a ∧ S a = some (.xd fs) ∧ ∀ f t, x.fs.lookup f = some t → ∃ v, fs.lookup f = some v ∧ Dp K S v t
section
variable (K : PySem.W.Frag) (S H : Hp)
mutual
inductive OR : V → O → Fp → Prop
  | fz {v : V} {d : PyData} {A : Fp} : Dp K S v d → (∀ b, A b = 0) → OR v (.fz d) A
  | raw {v : V} {A : Fp} : (∀ b, A b = 0) → OR v (.raw v) A
  | exn {a : Addr} {cls : Value} {d : Option Addr} {x : Xn} {A : Fp} : XR K S x cls d → (∀ b, A b = 0) → OR (.ref a) (.exn a cls d x) A
  | lst {a : Addr} {vs : List V} {xs : List O} {A B : Fp} : H a = some (.lst vs) → ORs vs xs B → (∀ b, A b = Fp.one a b + B b) → OR (.ref a) (.lst xs) A
inductive ORs : List V → List O → Fp → Prop
  | nil {A : Fp} : (∀ b, A b = 0) → ORs [] [] A
  | cons {v : V} {vs : List V} {x : O} {xs : List O} {A B C : Fp} : OR v x B → ORs vs xs C → (∀ b, A b = B b + C b) → ORs (v :: vs) (x :: xs) A
end
inductive ER : St → En → Fp → Prop
  | nil {A : Fp} : (∀ b, A b = 0) → ER [] [] A
  | non {w : Option V} {σ : St} {ρ : En} {A : Fp} : ER σ ρ A → ER (w :: σ) (none :: ρ) A
  | som {v : V} {o : O} {σ : St} {ρ : En} {A B C : Fp} : OR K S H v o B → ER σ ρ C → (∀ b, A b = B b + C b) → ER (some v :: σ) (some o :: ρ) A
end

/-- the tables of code objects, each with the name that its code bears -/
class Tb where
  t : List (Addr × Str)
instance (priority := low) tb0 : Tb := ⟨[]⟩
/-- a table, a code object -/
def Tl (H : Hp) (a : Addr) : Prop := ∃ ps, H a = some (.tbl ps)
def IsCode (u : HO) : Prop := ∃ c q, u = LamX.CodeO c q
/-- what no def makes, changes or settles -/
def Odd (u : HO) : Prop := IsCode u ∨ ∃ ps, u = .tbl ps
theorem odd_lst {xs : List V} : ¬ Odd (.lst xs) := fun h => h.elim (fun ⟨c, q, h⟩ => by unfold LamX.CodeO at h; cases h) fun ⟨_, h⟩ => by cases h
theorem odd_tup {xs : List V} : ¬ Odd (.tup xs) := fun h => h.elim (fun ⟨c, q, h⟩ => by unfold LamX.CodeO at h; cases h) fun ⟨_, h⟩ => by cases h
theorem odd_xd {fs : List (Str × V)} : ¬ Odd (.xd fs) := fun h => h.elim (fun ⟨c, q, h⟩ => by unfold LamX.CodeO at h; cases h) fun ⟨_, h⟩ => by cases h
variable [Tb]
/-- the settled part lies in the heap, what is held is held once and not settled -/
structure WF (S H : Hp) (A : Fp) : Prop where
  sub : ∀ a u, S a = some u → H a = some u
  one : ∀ b, A b ≤ 1
  dj : ∀ b, 0 < A b → S b = none
  th : ∀ b, 0 < A b → H b ≠ none
  tb : ∀ p ∈ Tb.t, LamX.TabS H p.1 p.2
  ta : ∀ b, Tl H b → A b = 0 ∧ S b = none
  co : ∀ c u, H c = some u → IsCode u → A c = 0
/-- one stand to another -/
structure Tr (S H : Hp) (A : Fp) (S' H' : Hp) (A' : Fp) : Prop where
  fz : ∀ a u, S a = some u → S' a = some u
  keep : ∀ a u, (∀ ps, u ≠ .tbl ps) → A a = 0 → H a = some u → H' a = some u
  new : ∀ a u, S' a = some u → S a = some u ∨ 0 < A a ∨ H a = none ∨ Tl H a
  own : ∀ a, 0 < A' a → 0 < A a ∨ H a = none ∨ Tl H a

theorem Tr.refl {S H : Hp} {A : Fp} : Tr S H A S H A := ⟨fun _ _ h => h, fun _ _ _ _ h => h, fun _ _ h => .inl h, fun _ h => .inl h⟩
theorem Tr.trans {S H S1 H1 S2 H2 : Hp} {A A1 A2 : Fp} (p : Tr S H A S1 H1 A1) (q : Tr S1 H1 A1 S2 H2 A2) : Tr S H A S2 H2 A2 := by
  have nn : ∀ a, H1 a = none ∨ Tl H1 a → 0 < A a ∨ H a = none ∨ Tl H a := fun a h => by
    by_cases z : A a = 0
    · refine .inr ?_
      cases e : H a with
      | none => exact .inl rfl
      | some u =>
        by_cases ht : ∃ ps, u = .tbl ps
        · obtain ⟨ps, rfl⟩ := ht
          exact .inr ⟨ps, e⟩
        · have k := p.keep a u (fun ps e => ht ⟨ps, e⟩) z e
          rcases h with h | ⟨ps, h⟩
          · rw [k] at h; cases h
          · rw [k] at h; cases h; exact absurd ⟨ps, rfl⟩ ht
    · exact .inl (by omega)
  refine ⟨fun a u h => q.fz a u (p.fz a u h), fun a u nt z h => q.keep a u nt ?_ (p.keep a u nt z h), fun a u h => ?_, fun a h => ?_⟩
  · by_cases y : A1 a = 0
    · exact y
    · rcases p.own a (by omega) with w | w | ⟨ps, w⟩
      · omega
      · rw [h] at w; cases w
      · rw [h] at w; cases w; exact absurd rfl (nt ps)
  · rcases q.new a u h with w | w | w
    · exact p.new a u w
    · exact .inr (p.own a w)
    · exact .inr (nn a w)
  · rcases q.own a h with w | w
    · exact p.own a w
    · exact nn a w
/-- a frame beside: what is held there stays so -/
theorem Tr.frame {S H S' H' : Hp} {A A' B : Fp} (p : Tr S H A S' H' A') (w : WF S H (A + B)) (w' : WF S' H' A') : WF S' H' (A' + B) ∧ (∀ a, 0 < B a → H' a = H a ∧ S' a = none) := by
  have kb : ∀ a, 0 < B a → A a = 0 := fun a h => by have := w.one a; rw [add_at] at this; omega
  have nt : ∀ a, 0 < B a → ¬ Tl H a := fun a h t => by have := (w.ta a t).1; rw [add_at] at this; omega
  have hb : ∀ a, 0 < B a → H' a = H a ∧ S' a = none := fun a h => by
    have t := w.th a (by rw [add_at]; omega)
    cases e : H a with
    | none => exact absurd e t
    | some u =>
      refine ⟨p.keep a u (fun ps e2 => nt a h ⟨ps, by rw [e, e2]⟩) (kb a h) e, ?_⟩
      cases q : S' a with
      | none => rfl
      | some z =>
        rcases p.new a z q with x | x | x | x
        · rw [w.dj a (by rw [add_at]; omega)] at x; cases x
        · have := kb a h; omega
        · rw [e] at x; cases x
        · exact absurd x (nt a h)
  refine ⟨⟨w'.sub, fun a => ?_, fun a h => ?_, fun a h => ?_, w'.tb, fun a t => ⟨?_, (w'.ta a t).2⟩, fun c u hc hu => ?_⟩, hb⟩
  · rw [add_at]
    by_cases z : B a = 0
    · have := w'.one a; omega
    · have h1 := w.one a
      rw [add_at] at h1
      by_cases y : A' a = 0
      · omega
      · have t := w.th a (by rw [add_at]; omega)
        rcases p.own a (by omega) with x | x | x
        · omega
        · exact absurd x t
        · exact absurd x (nt a (by omega))
  · rw [add_at] at h
    by_cases z : B a = 0
    · exact w'.dj a (by omega)
    · exact (hb a (by omega)).2
  · rw [add_at] at h
    by_cases z : B a = 0
    · exact w'.th a (by omega)
    · rw [(hb a (by omega)).1]
      exact w.th a (by rw [add_at]; omega)
  · have h2 := (w'.ta a t).1
    rw [add_at]
    by_cases z : B a = 0
    · omega
    · obtain ⟨ps, e⟩ := t
      rw [(hb a (by omega)).1] at e
      exact absurd ⟨ps, e⟩ (nt a (by omega))
  · have h2 := w'.co c u hc hu
    rw [add_at]
    by_cases z : B c = 0
    · omega
    · have h3 := w.co c u (by rw [← (hb c (by omega)).1]; exact hc) hu
      rw [add_at] at h3
      omega
theorem Tr.frameTr {S H S' H' : Hp} {A A' B : Fp} (p : Tr S H A S' H' A') : Tr S H (A + B) S' H' (A' + B) :=
  ⟨p.fz, fun a u nt z h => p.keep a u nt (by rw [add_at] at z; omega) h, fun a u h => (p.new a u h).elim .inl fun x => x.elim (fun y => .inr (.inl (by rw [add_at]; omega))) fun y => .inr (.inr y), fun a h => by
    rw [add_at] at h
    by_cases z : B a = 0
    · rcases p.own a (by omega) with x | x
      · exact .inl (by rw [add_at]; omega)
      · exact .inr x
    · exact .inl (by rw [add_at]; omega)⟩
theorem Tr.less {S H S' H' : Hp} {A A' B : Fp} (p : Tr S H A S' H' A') (h : ∀ a, B a ≤ A' a) : Tr S H A S' H' B := ⟨p.fz, p.keep, p.new, fun a z => p.own a (by have := h a; omega)⟩
theorem WF.less {S H : Hp} {A B : Fp} (w : WF S H A) (h : ∀ a, B a ≤ A a) : WF S H B :=
  ⟨w.sub, fun b => by have := h b; have := w.one b; omega, fun b z => w.dj b (by have := h b; omega), fun b z => w.th b (by have := h b; omega), w.tb, fun r hr => ⟨by have := h r; have := (w.ta r hr).1; omega, (w.ta r hr).2⟩, fun c u hc hu => by have := h c; have := w.co c u hc hu; omega⟩
end Ls

namespace Ls
open PySem L2
variable [Tb]
section
variable {K : PySem.W.Frag} {S S' H H' : Hp}
theorem rd_mono (h : ∀ a u, S a = some u → S' a = some u) {a : Addr} {u : HO} (r : Rd S a u) : Rd S' a u := by
  rcases r with r | ⟨o, r⟩
  · exact .inl (h _ _ r)
  · exact .inr ⟨o, h _ _ r⟩
theorem sqL_mono (h : ∀ a u, S a = some u → S' a = some u) {a : Addr} {xs : List V} (r : SqL K S a xs) : SqL K S' a xs := r.elim (fun z => .inl (rd_mono h z)) .inr
theorem sqT_mono (h : ∀ a u, S a = some u → S' a = some u) {a : Addr} {xs : List V} (r : SqT K S a xs) : SqT K S' a xs := r.elim (fun z => .inl (rd_mono h z)) .inr
mutual
theorem dp_mono (h : ∀ a u, S a = some u → S' a = some u) : ∀ {v : V} {d : PyData}, Dp K S v d → Dp K S' v d
  | _, _, .non => .non
  | _, _, .bl b => .bl b
  | _, _, .int i => .int i
  | _, _, .str x => .str x
  | _, _, .lst q r => .lst (sqL_mono h q) (dpa_mono h r)
  | _, _, .tup q r => .tup (sqT_mono h q) (dpa_mono h r)
theorem dpa_mono (h : ∀ a u, S a = some u → S' a = some u) : ∀ {vs : List V} {ds : List PyData}, DpAll K S vs ds → DpAll K S' vs ds
  | _, _, .nil => .nil
  | _, _, .cons q r => .cons (dp_mono h q) (dpa_mono h r)
end
theorem xr_mono (h : ∀ a u, S a = some u → S' a = some u) {x : Xn} {cls : Value} {d : Option Addr} (q : XR K S x cls d) : XR K S' x cls d :=
  let ⟨q1, a, fs, q2, q3, q4⟩ := q
  ⟨q1, a, fs, q2, h _ _ q3, fun f t hf => let ⟨v, h1, h2⟩ := q4 f t hf; ⟨v, h1, dp_mono h h2⟩⟩
mutual
theorem or_keep (h : ∀ a u, S a = some u → S' a = some u) : ∀ {v : V} {o : O} {A : Fp}, (∀ a, 0 < A a → H' a = H a) → OR K S H v o A → OR K S' H' v o A
  | _, _, _, _, .fz q z => .fz (dp_mono h q) z
  | _, _, _, _, .raw z => .raw z
  | _, _, _, _, .exn q z => .exn (xr_mono h q) z
  | _, _, A, k, .lst (a := a) (B := B) e r z => .lst ((k a (by rw [z a, one_same]; omega)).trans e) (ors_keep h (fun b hb => k b (by rw [z b]; omega)) r) z
theorem ors_keep (h : ∀ a u, S a = some u → S' a = some u) : ∀ {vs : List V} {os : List O} {A : Fp}, (∀ a, 0 < A a → H' a = H a) → ORs K S H vs os A → ORs K S' H' vs os A
  | _, _, _, _, .nil z => .nil z
  | _, _, _, k, .cons (B := B) (C := C) q r z => .cons (or_keep h (fun b hb => k b (by rw [z b]; omega)) q) (ors_keep h (fun b hb => k b (by rw [z b]; omega)) r) z
end
theorem er_keep (h : ∀ a u, S a = some u → S' a = some u) {σ : St} {ρ : En} {A : Fp} (e : ER K S H σ ρ A) : (∀ a, 0 < A a → H' a = H a) → ER K S' H' σ ρ A := by
  induction e with
  | nil z => exact fun _ => .nil z
  | non _ ih => exact fun k => .non (ih k)
  | som q _ z ih => exact fun k => .som (or_keep h (fun b hb => k b (by rw [z b]; omega)) q) (ih fun b hb => k b (by rw [z b]; omega)) z
theorem or_fp {v : V} {o : O} {A A' : Fp} (q : OR K S H v o A) (h : ∀ b, A' b = A b) : OR K S H v o A' := by
  cases q with
  | fz q z => exact .fz q fun b => (h b).trans (z b)
  | raw z => exact .raw fun b => (h b).trans (z b)
  | exn q z => exact .exn q fun b => (h b).trans (z b)
  | lst e r z => exact .lst e r fun b => (h b).trans (z b)
theorem ors_fp {vs : List V} {os : List O} {A A' : Fp} (q : ORs K S H vs os A) (h : ∀ b, A' b = A b) : ORs K S H vs os A' := by
  cases q with
  | nil z => exact .nil fun b => (h b).trans (z b)
  | cons q r z => exact .cons q r fun b => (h b).trans (z b)
theorem er_fp {σ : St} {ρ : En} {A A' : Fp} (e : ER K S H σ ρ A) : (∀ b, A' b = A b) → ER K S H σ ρ A' := by
  induction e generalizing A' with
  | nil z => exact fun h => .nil fun b => (h b).trans (z b)
  | non _ ih => exact fun h => .non (ih h)
  | som q r z => exact fun h => .som q r fun b => (h b).trans (z b)
theorem er_len {σ : St} {ρ : En} {A : Fp} (e : ER K S H σ ρ A) : σ.length = ρ.length := by
  induction e with
  | nil => rfl
  | non _ ih => simp [ih]
  | som _ _ _ ih => simp [ih]
/-- a slot taken out -/
theorem er_get {σ : St} {ρ : En} {A : Fp} (e : ER K S H σ ρ A) : ∀ {i : Nat} {o : O}, ρ[i]? = some (some o) → ∃ v B C, σ[i]? = some (some v) ∧ OR K S H v o B ∧ ER K S H σ (ρ.set i none) C ∧ ∀ b, A b = B b + C b := by
  induction e with
  | nil => intro i o h; simp at h
  | non e ih =>
    intro i o h
    cases i with
    | zero => simp at h
    | succ i =>
      obtain ⟨v, B, C, h1, h2, h3, h4⟩ := ih (i := i) (o := o) (by simpa using h)
      exact ⟨v, B, C, by simpa using h1, h2, .non h3, h4⟩
  | @som v o σ ρ A B C q e z ih =>
    intro i o' h
    cases i with
    | zero =>
      have e' : o = o' := by simpa using h
      subst e'
      exact ⟨v, B, C, rfl, q, .non e, z⟩
    | succ i =>
      obtain ⟨v', B', C', h1, h2, h3, h4⟩ := ih (i := i) (o := o') (by simpa using h)
      exact ⟨v', B', fun b => B b + C' b, by simpa using h1, h2, .som q h3 fun _ => rfl, fun b => by show A b = B' b + (B b + C' b); rw [z b, h4 b]; omega⟩
/-- an empty slot filled -/
theorem er_put {σ : St} {ρ : En} {C : Fp} (e : ER K S H σ ρ C) : ∀ {i : Nat} {v : V} {o : O} {B : Fp}, i < σ.length → OR K S H v o B → ρ[i]? = some none → ER K S H (σ.set i (some v)) (ρ.set i (some o)) (fun b => B b + C b) := by
  induction e with
  | nil => intro i v o B hi; simp at hi
  | @non w σ ρ A e ih =>
    intro i v o B hi q h
    cases i with
    | zero => exact .som q e fun _ => rfl
    | succ i => exact .non (ih (i := i) (by simpa using hi) q (by simpa using h))
  | @som v' o' σ ρ A B' C' q' e z ih =>
    intro i v o B hi q h
    cases i with
    | zero => simp at h
    | succ i => exact .som q' (ih (i := i) (by simpa using hi) q (by simpa using h)) fun b => by rw [z b]; omega
/-- a slot forgotten -/
theorem er_drop {σ : St} {ρ : En} {A : Fp} (e : ER K S H σ ρ A) : ∀ (i : Nat) (w : Option V), ∃ C, ER K S H (σ.set i w) (ρ.set i none) C ∧ ∀ b, C b ≤ A b := by
  induction e with
  | nil z => intro i w; exact ⟨Fp.z, ER.nil fun _ => rfl, fun b => Nat.zero_le _⟩
  | @non w' σ ρ A e ih =>
    intro i w
    cases i with
    | zero => exact ⟨A, .non e, fun b => Nat.le_refl _⟩
    | succ i =>
      obtain ⟨C, h1, h2⟩ := ih i w
      exact ⟨C, .non h1, h2⟩
  | @som v o σ ρ A B C q e z ih =>
    intro i w
    cases i with
    | zero => exact ⟨C, .non e, fun b => by rw [z b]; omega⟩
    | succ i =>
      obtain ⟨C', h1, h2⟩ := ih i w
      exact ⟨fun b => B b + C' b, .som q h1 fun _ => rfl, fun b => by show B b + C' b ≤ A b; rw [z b]; have := h2 b; omega⟩
/-- the value stands in its place again -/
theorem er_back {σ : St} {ρ : En} {C : Fp} {i : Nat} {v : V} {o : O} {B : Fp} (e : ER K S H σ ρ C) (hv : σ[i]? = some (some v)) (h : ρ[i]? = some none) (q : OR K S H v o B) : ER K S H σ (ρ.set i (some o)) (fun b => B b + C b) := by
  have hi : i < σ.length := (List.getElem?_eq_some_iff.mp hv).1
  have r := er_put e hi q h
  have e2 : σ.set i (some v) = σ := by
    apply List.ext_getElem?
    intro j
    by_cases hj : i = j
    · subst hj
      rw [List.getElem?_set_self hi, hv]
    · rw [List.getElem?_set_ne hj]
  rw [e2] at r
  exact r
theorem set_none_get {ρ : En} {i : Nat} {x : Option O} (h : ρ[i]? = some x) : (ρ.set i none)[i]? = some none := List.getElem?_set_self (List.getElem?_eq_some_iff.mp h).1
theorem set_set_some {ρ : En} {i : Nat} {o : O} (h : ρ[i]? = some (some o)) : (ρ.set i none).set i (some o) = ρ := by
  apply List.ext_getElem?
  intro j
  by_cases hj : i = j
  · subst hj
    rw [List.getElem?_set_self (by rw [List.length_set]; exact (List.getElem?_eq_some_iff.mp h).1), h]
  · rw [List.getElem?_set_ne hj, List.getElem?_set_ne hj]
/-! what is held is there, and settled data lies in the heap: read at this moment -/
mutual
theorem or_peek (sub : ∀ a u, S a = some u → H a = some u) : ∀ {v : V} {o : O} {A : Fp} {d : PyData}, OR K S H v o A → frz o = some d → Dp K H v d
  | _, _, _, _, .fz q _, h => by
    have e := Option.some.inj (show some _ = some _ from h)
    subst e
    exact dp_mono sub q
  | _, _, _, _, .raw _, h => by cases h
  | _, _, _, _, .exn _ _, h => by cases h
  | _, _, _, d, .lst (xs := xs) e r _, h => by
    have h' : (frzs xs).map PyData.list = some d := h
    cases q : frzs xs with
    | none => rw [q] at h'; cases h'
    | some ds =>
      rw [q] at h'
      have e2 := Option.some.inj h'
      subst e2
      exact .lst (SqL.of e) (ors_peek sub r q)
theorem ors_peek (sub : ∀ a u, S a = some u → H a = some u) : ∀ {vs : List V} {os : List O} {A : Fp} {ds : List PyData}, ORs K S H vs os A → frzs os = some ds → DpAll K H vs ds
  | _, _, _, _, .nil _, h => by
    have e := Option.some.inj (show some _ = some _ from h)
    subst e
    exact .nil
  | _, _, _, ds, .cons (x := x) (xs := xs) q r _, h => by
    have h' : ((frz x).bind fun d => (frzs xs).map fun ds => d :: ds) = some ds := h
    cases e1 : frz x with
    | none => rw [e1] at h'; cases h'
    | some d =>
      rw [e1] at h'
      cases e2 : frzs xs with
      | none => rw [e2] at h'; cases h'
      | some ds' =>
        rw [e2] at h'
        have e3 : d :: ds' = ds := Option.some.inj h'
        subst e3
        exact .cons (or_peek sub q e1) (ors_peek sub r e2)
end
/-- the settled part with what A holds -/
def settle (S H : Hp) (A : Fp) : Hp := fun b => if 0 < A b then H b else S b
theorem settle_in {A : Fp} {b : Addr} (h : 0 < A b) : settle S H A b = H b := if_pos h
theorem settle_out {A : Fp} {b : Addr} (h : ¬ 0 < A b) : settle S H A b = S b := if_neg h
mutual
theorem or_settle {T : Fp} (dj : ∀ b, 0 < T b → S b = none) : ∀ {v : V} {o : O} {A : Fp} {d : PyData}, (∀ b, A b ≤ T b) → OR K S H v o A → frz o = some d → Dp K (settle S H T) v d
  | _, _, _, _, _, .fz q _, h => by
    have e := Option.some.inj (show some _ = some _ from h)
    subst e
    refine dp_mono (fun a u x => ?_) q
    rw [settle_out (fun z => by rw [dj a z] at x; cases x)]
    exact x
  | _, _, _, _, _, .raw _, h => by cases h
  | _, _, _, _, _, .exn _ _, h => by cases h
  | _, _, _, d, le, .lst (a := a) (xs := xs) e r z, h => by
    have h' : (frzs xs).map PyData.list = some d := h
    cases q : frzs xs with
    | none => rw [q] at h'; cases h'
    | some ds =>
      rw [q] at h'
      have e2 := Option.some.inj h'
      subst e2
      refine .lst (SqL.of ?_) (ors_settle dj (fun b => by have := le b; rw [z b] at this; omega) r q)
      rw [settle_in (by have := le a; rw [z a, one_same] at this; omega)]
      exact e
theorem ors_settle {T : Fp} (dj : ∀ b, 0 < T b → S b = none) : ∀ {vs : List V} {os : List O} {A : Fp} {ds : List PyData}, (∀ b, A b ≤ T b) → ORs K S H vs os A → frzs os = some ds → DpAll K (settle S H T) vs ds
  | _, _, _, _, _, .nil _, h => by
    have e := Option.some.inj (show some _ = some _ from h)
    subst e
    exact .nil
  | _, _, _, ds, le, .cons (x := x) (xs := xs) q r z, h => by
    have h' : ((frz x).bind fun d => (frzs xs).map fun ds => d :: ds) = some ds := h
    cases e1 : frz x with
    | none => rw [e1] at h'; cases h'
    | some d =>
      rw [e1] at h'
      cases e2 : frzs xs with
      | none => rw [e2] at h'; cases h'
      | some ds' =>
        rw [e2] at h'
        have e3 : d :: ds' = ds := Option.some.inj h'
        subst e3
        exact .cons (or_settle dj (fun b => by have := le b; rw [z b] at this; omega) q e1) (ors_settle dj (fun b => by have := le b; rw [z b] at this; omega) r e2)
end
/-- settling: the stand behind it -/
theorem settle_wf {A B : Fp} (w : WF S H (A + B)) : WF (settle S H B) H A ∧ Tr S H (A + B) (settle S H B) H A ∧ (∀ a u, S a = some u → settle S H B a = some u) := by
  have sub : ∀ a u, S a = some u → settle S H B a = some u := fun a u h => by
    rw [settle_out (fun z => by rw [w.dj a (by rw [add_at]; omega)] at h; cases h)]
    exact h
  refine ⟨⟨fun a u h => ?_, fun b => by have := w.one b; rw [add_at] at this; omega, fun b h => ?_, fun b h => w.th b (by rw [add_at]; omega), w.tb, fun r hr => ⟨by have := (w.ta r hr).1; rw [add_at] at this; omega, by rw [settle_out (by have := (w.ta r hr).1; rw [add_at] at this; omega)]; exact (w.ta r hr).2⟩, fun c u hc hu => by have := w.co c u hc hu; rw [add_at] at this; omega⟩, ⟨sub, fun _ _ _ _ h => h, fun a u h => ?_, fun a h => .inl (by rw [add_at]; omega)⟩, sub⟩
  · by_cases z : 0 < B a
    · rw [settle_in z] at h; exact h
    · rw [settle_out z] at h; exact w.sub a u h
  · have h1 := w.one b
    rw [add_at] at h1
    rw [settle_out (by omega)]
    exact w.dj b (by rw [add_at]; omega)
  · by_cases z : 0 < B a
    · exact .inr (.inl (by rw [add_at]; omega))
    · rw [settle_out z] at h; exact .inl h
end
end Ls

namespace Ls
open PySem L2
variable [Tb]
/-- what is told of a value: frame, stand, its worth, what it holds -/
abbrev RR (β α : Type) := St → Hp → Hp → β → α → Fp → Prop
def PostV {β α : Type} (K : PySem.W.Frag) (R : RR β α) (σ : St) (S H : Hp) (A : Fp) (a : α) (ρ' : En) (Q : β → Hp → Prop) : Prop :=
  ∀ v S' H' A' B, WF S' H' (A' + B) → ER K S' H' σ ρ' A' → R σ S' H' v a B → Tr S H A S' H' (A' + B) → Q v H'
def PostX (K : PySem.W.Frag) (W : WX) (σ : St) (S H : Hp) (A : Fp) (x : Xn) (ρ' : En) : Prop :=
  ∀ cls d S' H' A', WF S' H' A' → ER K S' H' σ ρ' A' → XR K S' x cls d → Tr S H A S' H' A' → W cls d σ H'
def OutOk {β α : Type} (K : PySem.W.Frag) (W : WX) (R : RR β α) (t : St → Hp → (β → Hp → Prop) → Prop) (σ : St) (S H : Hp) (A : Fp) : Out α → Prop
  | .ok a ρ' => ∀ Q, PostV K R σ S H A a ρ' Q → t σ H Q
  | .exc x ρ' => ∀ Q, PostX K W σ S H A x ρ' → t σ H Q
  | .bad => True
def Snd {β α : Type} (K : PySem.W.Frag) (W : WX) (R : RR β α) (t : St → Hp → (β → Hp → Prop) → Prop) (f : En → Out α) : Prop :=
  ∀ σ ρ S H A, WF S H A → ER K S H σ ρ A → OutOk K W R t σ S H A (f ρ)
/-- it stays while others work -/
def Stays {β α : Type} (R : RR β α) : Prop := ∀ σ S H S' H' v a B, (∀ b u, S b = some u → S' b = some u) → (∀ b, 0 < B b → H' b = H b) → R σ S H v a B → R σ S' H' v a B

def Out.bind {α γ : Type} (o : Out α) (k : α → En → Out γ) : Out γ := match o with
  | .ok a ρ => k a ρ
  | .exc x ρ => .exc x ρ
  | .bad => .bad

/-- first the one, then what is made of it while it is held -/
theorem snd_bind {β α β' α' : Type} {K : PySem.W.Frag} {W : WX} {R : RR β α} {R' : RR β' α'} {t : St → Hp → (β → Hp → Prop) → Prop} {u : β → St → Hp → (β' → Hp → Prop) → Prop} {f : En → Out α} {k : α → En → Out α'} (h : Snd K W R t f)
    (hk : ∀ v a σ ρ S H A B, WF S H (A + B) → ER K S H σ ρ A → R σ S H v a B → OutOk K W R' (u v) σ S H (A + B) (k a ρ)) :
    Snd K W R' (fun σ H Q => t σ H fun v H1 => u v σ H1 Q) fun ρ => (f ρ).bind k := by
  intro σ ρ S H A w e
  have h1 := h σ ρ S H A w e
  show OutOk K W R' _ σ S H A ((f ρ).bind k)
  cases hf : f ρ with
  | bad => exact True.intro
  | exc x ρ' =>
    rw [hf] at h1
    exact fun Q q => h1 _ q
  | ok a ρ1 =>
    rw [hf] at h1
    show OutOk _ _ _ _ _ _ _ _ (k a ρ1)
    cases hk2 : k a ρ1 with
    | bad => exact True.intro
    | exc x ρ' =>
      intro Q q
      refine h1 _ fun v S1 H1 A1 B1 w1 e1 r1 t1 => ?_
      have h2 := hk v a σ ρ1 S1 H1 A1 B1 w1 e1 r1
      rw [hk2] at h2
      exact h2 Q fun cls d S2 H2 A2 w2 e2 x2 t2 => q cls d S2 H2 A2 w2 e2 x2 (t1.trans t2)
    | ok a' ρ' =>
      intro Q q
      refine h1 _ fun v S1 H1 A1 B1 w1 e1 r1 t1 => ?_
      have h2 := hk v a σ ρ1 S1 H1 A1 B1 w1 e1 r1
      rw [hk2] at h2
      exact h2 Q fun v' S2 H2 A2 B2 w2 e2 r2 t2 => q v' S2 H2 A2 B2 w2 e2 r2 (t1.trans t2)
/-- a part worked out while v is held beside -/
theorem snd_beside {β α : Type} {K : PySem.W.Frag} {W : WX} {R : RR β α} {t : St → Hp → (β → Hp → Prop) → Prop} {f : En → Out α} (h : Snd K W R t f) {σ : St} {ρ : En} {S H : Hp} {A B : Fp} (w : WF S H (A + B)) (e : ER K S H σ ρ A) :
    match f ρ with
    | .ok a ρ' => ∀ Q, (∀ v S' H' A' C, WF S' H' (A' + C + B) → ER K S' H' σ ρ' A' → R σ S' H' v a C → Tr S H (A + B) S' H' (A' + C + B) → (∀ b u, S b = some u → S' b = some u) → (∀ b, 0 < B b → H' b = H b) → Q v H') → t σ H Q
    | .exc x ρ' => ∀ Q, PostX K W σ S H (A + B) x ρ' → t σ H Q
    | .bad => True := by
  have h1 := h σ ρ S H A (w.less fun a => by rw [add_at]; omega) e
  cases hf : f ρ with
  | bad => exact True.intro
  | exc x ρ' =>
    rw [hf] at h1
    intro Q q
    refine h1 Q fun cls d S' H' A' w' e' x' t' => ?_
    have fr := t'.frame w w'
    refine q cls d S' H' A' w' e' x' ((t'.frameTr (B := B)).less fun a => by rw [add_at]; omega)
  | ok a ρ' =>
    rw [hf] at h1
    intro Q q
    refine h1 Q fun v S' H' A' C w' e' r' t' => ?_
    have fr := t'.frame w w'
    exact q v S' H' A' C fr.1 e' r' t'.frameTr t'.fz fun b hb => (fr.2 b hb).1

/-! ### operands: a slot that is looked at, or a thing of one's own -/
inductive Pk where
  | v (i : Nat) | o (o : O)
def pkO (ρ : En) : Pk → Option O
  | .v i => (ρ[i]?).bind id
  | .o o => some o
def pkD (ρ : En) (p : Pk) : Option PyData := (pkO ρ p).bind frz
inductive RPk (K : PySem.W.Frag) : RR V Pk
  | v {σ : St} {S H : Hp} {v : V} {i : Nat} {B : Fp} : σ[i]? = some (some v) → (∀ b, B b = 0) → RPk K σ S H v (.v i) B
  | o {σ : St} {S H : Hp} {v : V} {o : O} {B : Fp} : OR K S H v o B → RPk K σ S H v (.o o) B
def ROr (K : PySem.W.Frag) : RR V O := fun _ S H v o B => OR K S H v o B
def ROrs (K : PySem.W.Frag) : RR (List V) (List O) := fun _ S H vs os B => ORs K S H vs os B
def REq (α : Type) : RR α α := fun _ _ _ v a B => v = a ∧ ∀ b, B b = 0
theorem stays_pk {K : PySem.W.Frag} : Stays (RPk K) := fun σ S H S' H' v a B h k r => by
  cases r with
  | v h1 z => exact .v h1 z
  | o q => exact .o (or_keep h k q)
theorem stays_or {K : PySem.W.Frag} : Stays (ROr K) := fun σ S H S' H' v a B h k r => or_keep h k r
theorem stays_ors {K : PySem.W.Frag} : Stays (ROrs K) := fun σ S H S' H' v a B h k r => ors_keep h k r
theorem stays_eq {α : Type} : Stays (REq α) := fun σ S H S' H' v a B h k r => r
/-- what an operand stands for at this moment -/
theorem pk_peek {K : PySem.W.Frag} {σ : St} {ρ : En} {S H : Hp} {A B : Fp} {v : V} {p : Pk} {d : PyData} (sub : ∀ a u, S a = some u → H a = some u) (e : ER K S H σ ρ A) (r : RPk K σ S H v p B) (h : pkD ρ p = some d) : Dp K H v d := by
  cases r with
  | o q => exact or_peek sub q h
  | @v _ _ _ _ i _ h1 z =>
    have h : ((ρ[i]?).bind id).bind frz = some d := h
    cases hi : ρ[i]? with
    | none => rw [hi] at h; cases h
    | some x =>
      cases x with
      | none => rw [hi] at h; cases h
      | some o =>
        rw [hi] at h
        obtain ⟨v', B', C', e1, q, _, _⟩ := er_get e hi
        rw [h1] at e1
        cases e1
        exact or_peek sub q h

abbrev FE := En → Out O
abbrev FP := En → Out Pk
abbrev FT := En → Out Bool
abbrev FA := En → Out (List O)
abbrev SndE (K : PySem.W.Frag) (W : WX) (t : TE) (f : FE) : Prop := Snd K W (ROr K) t f
abbrev SndP (K : PySem.W.Frag) (W : WX) (t : TE) (f : FP) : Prop := Snd K W (RPk K) t f
abbrev SndT (K : PySem.W.Frag) (W : WX) (t : TT) (f : FT) : Prop := Snd K W (REq Bool) t f
abbrev SndA (K : PySem.W.Frag) (W : WX) (t : TA) (f : FA) : Prop := Snd K W (ROrs K) t f

section
variable {K : PySem.W.Frag} {W : WX}
/-- a result that names no object -/
def Sc (v : V) (d : PyData) : Prop := ∀ (K : PySem.W.Frag) (S : Hp), Dp K S v d
theorem Sc.int (i : Int) : Sc (.int i) (.int i) := fun _ _ => .int i
theorem Sc.bl (b : Bool) : Sc (.bl b) (.bool b) := fun _ _ => .bl b
theorem Sc.str (x : Str) : Sc (.str x) (.str x) := fun _ _ => .str x
theorem Sc.non : Sc .non .none := fun _ _ => .non

def pVar (i : Nat) : FP := fun ρ => match ρ[i]? with
  | some (some _) => .ok (.v i) ρ
  | _ => .bad
def pE (f : FE) : FP := fun ρ => (f ρ).bind fun o ρ' => .ok (.o o) ρ'
theorem sndP_var {i : Nat} : SndP K W (tVar i) (pVar i) := by
  intro σ ρ S H A w e
  unfold pVar
  cases hi : ρ[i]? with
  | none => exact True.intro
  | some x =>
    cases x with
    | none => exact True.intro
    | some o =>
      obtain ⟨v, B, C, e1, q, _, _⟩ := er_get e hi
      intro Q k
      have z : A + Fp.z = A := funext fun b => rfl
      exact ⟨v, e1, k v S H A Fp.z (by rw [z]; exact w) e (.v e1 fun _ => rfl) (by rw [z]; exact Tr.refl)⟩
theorem sndP_e {t : TE} {f : FE} (h : SndE K W t f) : SndP K W t (pE f) := by
  intro σ ρ S H A w e
  have h1 := h σ ρ S H A w e
  show OutOk K W (RPk K) _ σ S H A ((f ρ).bind _)
  cases hf : f ρ with
  | bad => exact True.intro
  | exc x ρ' => rw [hf] at h1; exact h1
  | ok a ρ' =>
    rw [hf] at h1
    exact fun Q k => h1 Q fun v S' H' A' B w' e' r' t' => k v S' H' A' B w' e' (.o r') t'

/-! ### a name as a value: what it holds is settled -/
def eVar (i : Nat) : FE := fun ρ => match ρ[i]? with
  | some (some (.fz d)) => .ok (.fz d) ρ
  | some (some (.raw v)) => .ok (.raw v) ρ
  | some (some o) => (match frz o with
    | some d => .ok (.fz d) (ρ.set i (some (.fz d)))
    | none => .bad)
  | _ => .bad
theorem addz (A : Fp) : A + Fp.z = A := funext fun b => rfl
theorem sndE_var {i : Nat} : SndE K W (tVar i) (eVar i) := by
  intro σ ρ S H A w e
  unfold eVar
  cases hi : ρ[i]? with
  | none => exact True.intro
  | some x =>
    cases x with
    | none => exact True.intro
    | some o =>
      obtain ⟨v, B, C, e1, q, e2, z⟩ := er_get e hi
      cases o with
      | fz d =>
        intro Q k
        refine ⟨v, e1, k v S H A B ?_ e q ?_⟩
        · cases q with
          | fz q z2 =>
            have : A + B = A := funext fun b => by rw [add_at, z2 b]; rfl
            rw [this]; exact w
        · cases q with
          | fz q z2 =>
            have : A + B = A := funext fun b => by rw [add_at, z2 b]; rfl
            rw [this]; exact Tr.refl
      | raw u =>
        intro Q k
        refine ⟨v, e1, k v S H A B ?_ e q ?_⟩
        · cases q with
          | raw z2 =>
            have : A + B = A := funext fun b => by rw [add_at, z2 b]; rfl
            rw [this]; exact w
        · cases q with
          | raw z2 =>
            have : A + B = A := funext fun b => by rw [add_at, z2 b]; rfl
            rw [this]; exact Tr.refl
      | exn a c d y => exact True.intro
      | lst xs =>
        show OutOk K W (ROr K) (tVar i) σ S H A (match frz (.lst xs) with
          | some d => Out.ok (.fz d) (ρ.set i (some (.fz d)))
          | none => .bad)
        cases hz : frz (.lst xs) with
        | none => exact True.intro
        | some d =>
          intro Q k
          have eA : A = C + B := funext fun b => by rw [z b, add_at]; omega
          rw [eA] at w
          obtain ⟨w2, t2, sub⟩ := settle_wf w
          have q2 : Dp K (settle S H B) v d := or_settle (fun b hb => w.dj b (by rw [add_at]; omega)) (fun b => Nat.le_refl _) q hz
          have e3 := er_back (er_keep sub e2 fun _ _ => rfl) e1 (set_none_get hi) (.fz q2 (A := Fp.z) fun _ => rfl)
          rw [List.set_set] at e3
          have ez : (fun b => Fp.z b + C b) = C := funext fun b => by rw [z_at]; omega
          rw [ez] at e3
          refine ⟨v, e1, k v _ H C Fp.z (by rw [addz]; exact w2) e3 (.fz q2 fun _ => rfl) (by rw [addz, eA]; exact t2)⟩
/-! ### a constant -/
def eC (d : PyData) : FE := fun ρ => .ok (.fz d) ρ
theorem sndE_c {v : V} {d : PyData} (h : ∀ S, Dp K S v d) : SndE K W (tC v) (eC d) := by
  intro σ ρ S H A w e Q k
  exact k v S H A Fp.z (by rw [addz]; exact w) e (.fz (h S) fun _ => rfl) (by rw [addz]; exact Tr.refl)
def eRaw (v : V) : FE := fun ρ => .ok (.raw v) ρ
theorem sndE_raw {v : V} : SndE K W (tC v) (eRaw v) := by
  intro σ ρ S H A w e Q k
  exact k v S H A Fp.z (by rw [addz]; exact w) e (.raw fun _ => rfl) (by rw [addz]; exact Tr.refl)

/-! ### operators whose worth names no object -/
def OpS (K : PySem.W.Frag) (r : R2) (g : PyData → PyData → Option PyData) : Prop :=
  ∀ x y H a b c, Dp K H x a → Dp K H y b → g a b = some c → ∀ Q : VK, (∀ v, Sc v c → Q v H) → r x y H Q
def eOp (g : PyData → PyData → Option PyData) (fa fb : FP) : FE := fun ρ => (fa ρ).bind fun a ρ1 => (fb ρ1).bind fun b ρ2 =>
  match (pkD ρ2 a).bind fun x => (pkD ρ2 b).bind fun y => g x y with
  | some c => .ok (.fz c) ρ2
  | none => .bad
theorem sndE_op {r : R2} {g : PyData → PyData → Option PyData} {ta tb : TE} {fa fb : FP} (ho : OpS K r g) (ha : SndP K W ta fa) (hb : SndP K W tb fb) : SndE K W (tOp r ta tb) (eOp g fa fb) := by
  refine snd_bind (u := fun x σ H Q => tb σ H fun y H2 => r x y H2 Q) ha fun x a σ ρ S H A B w e ra => ?_
  have h2 := snd_beside hb w e
  show OutOk K W (ROr K) _ σ S H (A + B) ((fb ρ).bind _)
  cases hf : fb ρ with
  | bad => exact True.intro
  | exc x' ρ' =>
    rw [hf] at h2
    exact fun Q k => h2 _ k
  | ok b ρ2 =>
    rw [hf] at h2
    show OutOk K W (ROr K) _ σ S H (A + B) (match (pkD ρ2 a).bind fun x => (pkD ρ2 b).bind fun y => g x y with
      | some c => Out.ok (O.fz c) ρ2
      | none => .bad)
    cases hc : (pkD ρ2 a).bind fun x => (pkD ρ2 b).bind fun y => g x y with
    | none => exact True.intro
    | some c =>
      intro Q k
      refine h2 _ fun y S' H' A' C w' e' rb t' sub kp => ?_
      obtain ⟨da, e1, hc⟩ := Option.bind_eq_some_iff.mp hc
      obtain ⟨db, e2, hc⟩ := Option.bind_eq_some_iff.mp hc
      have ra' := stays_pk σ S H S' H' x a B sub kp ra
      refine ho x y H' da db c (pk_peek w'.sub e' ra' e1) (pk_peek w'.sub e' rb e2) hc _ fun v hv => ?_
      have le : ∀ b, A' b ≤ (A' + C + B) b := fun b => by rw [add_at, add_at]; omega
      exact k v S' H' A' Fp.z (by rw [addz]; exact w'.less le) e' (.fz (hv K S') fun _ => rfl) (by rw [addz]; exact t'.less le)
end
end Ls

namespace Ls
open PySem L2
variable [Tb]
structure EV (X : Cx) (W : WX) (e : Expr) (f : FE) : Prop where
  ex : ∃ t, PE X e t ∧ SndE X.K W t f
structure PV (X : Cx) (W : WX) (e : Expr) (f : FP) : Prop where
  ex : ∃ t, PE X e t ∧ SndP X.K W t f
structure TV (X : Cx) (W : WX) (e : Expr) (f : FT) : Prop where
  ex : ∃ t, PT X e t ∧ SndT X.K W t f
/-- and, or within a test -/
structure WV (X : Cx) (W : WX) (e : Expr) (f : FT) : Prop where
  ex : ∃ t, PW X e t ∧ SndT X.K W t f

/-! ### operators on settled data -/
def dAdd : PyData → PyData → Option PyData
  | .int i, .int j => some (.int (i + j))
  | _, _ => none
def dSub : PyData → PyData → Option PyData
  | .int i, .int j => some (.int (i - j))
  | _, _ => none
/-- * of two factors of together less than a hundred million bits -/
def CMulG (i j : Int) : Prop := i.natAbs.log2 + j.natAbs.log2 < 100000000
theorem CMulG.ok {i j : Int} (h : CMulG i j) : IntMulOk i j := by
  have b : ∀ x : Int, Builtin.Int.intBits x ≤ x.natAbs.log2 + 1 := fun x => by
    unfold Builtin.Int.intBits; split <;> omega
  have h1 := b i
  have h2 := b j
  have h3 : i.natAbs.log2 + j.natAbs.log2 < 100000000 := h
  have e : bitsLine = 134217728 := by decide
  unfold IntMulOk
  intro z
  have z2 := (Bool.and_eq_true _ _ ▸ z).2
  unfold Builtin.Int.intTooBig at z2
  have z3 := of_decide_eq_true z2
  rw [e] at z3; omega
theorem op_mulG {X : Cx} : OpR X (binaryOp .Mult) (rI CMulG fun i j => .int (i * j)) := opI fun _ _ _ _ _ _ _ hc q => PyProof.Rows.mul_int q hc.ok
def dMul : PyData → PyData → Option PyData
  | .int i, .int j => if i.natAbs.log2 + j.natAbs.log2 < 100000000 then some (.int (i * j)) else none
  | _, _ => none
def dDiv : PyData → PyData → Option PyData
  | .int i, .int j => if j ≠ 0 ∧ j.natAbs.log2 < 9000 then some (.int (i.fdiv j)) else none
  | _, _ => none
def dMod : PyData → PyData → Option PyData
  | .int i, .int j => if j ≠ 0 then some (.int (i.fmod j)) else none
  | _, _ => none
def dPow : PyData → PyData → Option PyData
  | .int i, .int j => if 0 ≤ j ∧ j ≤ 1000000 ∧ i.natAbs < 2 ^ 64 then some (.int (i ^ j.toNat)) else none
  | _, _ => none
def dLt : PyData → PyData → Option PyData
  | .int i, .int j => some (.bool (decide (i < j)))
  | _, _ => none
def dLe : PyData → PyData → Option PyData
  | .int i, .int j => some (.bool (decide (i ≤ j)))
  | _, _ => none
def dGt : PyData → PyData → Option PyData
  | .int i, .int j => some (.bool (decide (j < i)))
  | _, _ => none
def dGe : PyData → PyData → Option PyData
  | .int i, .int j => some (.bool (decide (j ≤ i)))
  | _, _ => none
def dEq (a b : PyData) : Option PyData := if SeqAt.shaped a && SeqAt.shaped b then some (.bool (PyData.eqv a b)) else none
def dNe (a b : PyData) : Option PyData := if SeqAt.shaped a && SeqAt.shaped b then some (.bool (!PyData.eqv a b)) else none
/-- is None -/
def isN : PyData → Bool
  | .none => true
  | _ => false
def dIs (a b : PyData) : Option PyData := if isN b then some (.bool (isN a)) else none
def dIsNot (a b : PyData) : Option PyData := if isN b then some (.bool (!isN a)) else none
def flat : PyData → Bool
  | .none | .bool _ | .int _ | .str _ => true
  | _ => false
def items : PyData → Option (List PyData)
  | .list xs | .tuple xs => some xs
  | _ => none
def dIn (a b : PyData) : Option PyData := (items b).bind fun xs => if flat a && xs.all flat then some (.bool (xs.any fun y => PyData.eqv y a)) else none
def dNotIn (a b : PyData) : Option PyData := (items b).bind fun xs => if flat a && xs.all flat then some (.bool (!xs.any fun y => PyData.eqv y a)) else none
section
variable {K : PySem.W.Frag}
theorem dp_int {S : Hp} {v : V} {i : Int} (h : Dp K S v (.int i)) : v = .int i := by cases h; rfl
theorem dp_bl {S : Hp} {v : V} {b : Bool} (h : Dp K S v (.bool b)) : v = .bl b := by cases h; rfl
theorem dp_non {S : Hp} {v : V} (h : Dp K S v .none) : v = .non := by cases h; rfl
theorem opS_I0 {g : Int → Int → V} {g' : PyData → PyData → Option PyData} (h : ∀ i j c, g' (.int i) (.int j) = some c → Sc (g i j) c) (hn : ∀ a b c, g' a b = some c → ∃ i j, a = .int i ∧ b = .int j) : OpS K (rI0 g) g' := by
  intro x y H a b c ha hb hc Q k
  obtain ⟨i, j, rfl, rfl⟩ := hn a b c hc
  exact ⟨i, j, dp_int ha, dp_int hb, k _ (h i j c hc)⟩
theorem opS_I {C : Int → Int → Prop} {g : Int → Int → V} {g' : PyData → PyData → Option PyData} (h : ∀ i j c, g' (.int i) (.int j) = some c → C i j ∧ Sc (g i j) c) (hn : ∀ a b c, g' a b = some c → ∃ i j, a = .int i ∧ b = .int j) : OpS K (rI C g) g' := by
  intro x y H a b c ha hb hc Q k
  obtain ⟨i, j, rfl, rfl⟩ := hn a b c hc
  exact ⟨i, j, dp_int ha, dp_int hb, (h i j c hc).1, k _ (h i j c hc).2⟩
theorem opS_add : OpS K (rI0 fun i j => .int (i + j)) dAdd := opS_I0 (fun i j c h => by cases h; exact Sc.int _) fun a b c h => by cases a <;> cases b <;> first | exact ⟨_, _, rfl, rfl⟩ | cases h
theorem opS_sub : OpS K (rI0 fun i j => .int (i - j)) dSub := opS_I0 (fun i j c h => by cases h; exact Sc.int _) fun a b c h => by cases a <;> cases b <;> first | exact ⟨_, _, rfl, rfl⟩ | cases h
theorem opS_mul : OpS K (rI CMulG fun i j => .int (i * j)) dMul := opS_I (fun i j c h => by
  by_cases z : i.natAbs.log2 + j.natAbs.log2 < 100000000
  · have h : (if i.natAbs.log2 + j.natAbs.log2 < 100000000 then some (PyData.int (i * j)) else none) = some c := h
    rw [if_pos z] at h; cases h; exact ⟨z, Sc.int _⟩
  · have h : (if i.natAbs.log2 + j.natAbs.log2 < 100000000 then some (PyData.int (i * j)) else none) = some c := h
    rw [if_neg z] at h; cases h) fun a b c h => by cases a <;> cases b <;> first | exact ⟨_, _, rfl, rfl⟩ | cases h
def CDivX (_ j : Int) : Prop := j ≠ 0 ∧ j.natAbs.log2 < 9000
theorem op_divX {X : Cx} : OpR X (binaryOp .FloorDiv) (rI CDivX fun i j => .int (i.fdiv j)) := opI fun i j _ _ _ _ _ hc q => PyProof.Rows.floordiv_int hc.1 q (.inl (PyProof.noPylong_of_log2 hc.2))
theorem opS_div : OpS K (rI CDivX fun i j => .int (i.fdiv j)) dDiv := opS_I (fun i j c h => by
  by_cases z : j ≠ 0 ∧ j.natAbs.log2 < 9000
  · have h : (if j ≠ 0 ∧ j.natAbs.log2 < 9000 then some (PyData.int (i.fdiv j)) else none) = some c := h
    rw [if_pos z] at h; cases h; exact ⟨z, Sc.int _⟩
  · have h : (if j ≠ 0 ∧ j.natAbs.log2 < 9000 then some (PyData.int (i.fdiv j)) else none) = some c := h
    rw [if_neg z] at h; cases h) fun a b c h => by cases a <;> cases b <;> first | exact ⟨_, _, rfl, rfl⟩ | cases h
theorem opS_mod : OpS K (rI (fun _ j => j ≠ 0) fun i j => .int (i.fmod j)) dMod := opS_I (fun i j c h => by
  by_cases z : j ≠ 0
  · have h : (if j ≠ 0 then some (PyData.int (i.fmod j)) else none) = some c := h
    rw [if_pos z] at h; cases h; exact ⟨z, Sc.int _⟩
  · have h : (if j ≠ 0 then some (PyData.int (i.fmod j)) else none) = some c := h
    rw [if_neg z] at h; cases h) fun a b c h => by cases a <;> cases b <;> first | exact ⟨_, _, rfl, rfl⟩ | cases h
theorem opS_pow : OpS K (rI CPow fun i j => .int (i ^ j.toNat)) dPow := opS_I (fun i j c h => by
  by_cases z : 0 ≤ j ∧ j ≤ 1000000 ∧ i.natAbs < 2 ^ 64
  · have h : (if 0 ≤ j ∧ j ≤ 1000000 ∧ i.natAbs < 2 ^ 64 then some (PyData.int (i ^ j.toNat)) else none) = some c := h
    rw [if_pos z] at h; cases h; exact ⟨z, Sc.int _⟩
  · have h : (if 0 ≤ j ∧ j ≤ 1000000 ∧ i.natAbs < 2 ^ 64 then some (PyData.int (i ^ j.toNat)) else none) = some c := h
    rw [if_neg z] at h; cases h) fun a b c h => by cases a <;> cases b <;> first | exact ⟨_, _, rfl, rfl⟩ | cases h
theorem opS_lt : OpS K (rI0 fun i j => .bl (decide (i < j))) dLt := opS_I0 (fun i j c h => by cases h; exact Sc.bl _) fun a b c h => by cases a <;> cases b <;> first | exact ⟨_, _, rfl, rfl⟩ | cases h
theorem opS_le : OpS K (rI0 fun i j => .bl (decide (i ≤ j))) dLe := opS_I0 (fun i j c h => by cases h; exact Sc.bl _) fun a b c h => by cases a <;> cases b <;> first | exact ⟨_, _, rfl, rfl⟩ | cases h
theorem opS_gt : OpS K (rI0 fun i j => .bl (decide (j < i))) dGt := opS_I0 (fun i j c h => by cases h; exact Sc.bl _) fun a b c h => by cases a <;> cases b <;> first | exact ⟨_, _, rfl, rfl⟩ | cases h
theorem opS_ge : OpS K (rI0 fun i j => .bl (decide (j ≤ i))) dGe := opS_I0 (fun i j c h => by cases h; exact Sc.bl _) fun a b c h => by cases a <;> cases b <;> first | exact ⟨_, _, rfl, rfl⟩ | cases h
theorem opS_eq : OpS K (rEqD K) dEq := by
  intro x y H a b c ha hb hc Q k
  unfold dEq at hc
  by_cases z : (SeqAt.shaped a && SeqAt.shaped b) = true
  · rw [if_pos z] at hc; cases hc
    obtain ⟨z1, z2⟩ := Bool.and_eq_true_iff.mp z
    exact ⟨a, b, ha, hb, z1, z2, k _ (Sc.bl _)⟩
  · rw [if_neg z] at hc; cases hc
theorem opS_ne : OpS K (rNeD K) dNe := by
  intro x y H a b c ha hb hc Q k
  unfold dNe at hc
  by_cases z : (SeqAt.shaped a && SeqAt.shaped b) = true
  · rw [if_pos z] at hc; cases hc
    obtain ⟨z1, z2⟩ := Bool.and_eq_true_iff.mp z
    exact ⟨a, b, ha, hb, z1, z2, k _ (Sc.bl _)⟩
  · rw [if_neg z] at hc; cases hc
theorem isN_dp {S : Hp} {v : V} {d : PyData} (h : Dp K S v d) : decide (v = .non) = isN d := by
  cases h <;> first | rfl | exact decide_eq_false (fun z => nomatch z)
abbrev rIsNo : R2 := fun x y H Q => y = .non ∧ Q (.bl (decide (x = .non))) H
abbrev rIsNotNo : R2 := fun x y H Q => y = .non ∧ Q (.bl (!decide (x = .non))) H
theorem isN_eq {b : PyData} (h : isN b = true) : b = .none := by cases b <;> first | rfl | cases h
theorem opS_is : OpS K rIsNo dIs := by
  intro x y H a b c ha hb hc Q k
  unfold dIs at hc
  by_cases z : isN b = true
  · rw [if_pos z] at hc; cases hc
    have e := isN_eq z
    subst e
    exact ⟨dp_non hb, by rw [isN_dp ha]; exact k _ (Sc.bl _)⟩
  · rw [if_neg z] at hc; cases hc
theorem opS_isNot : OpS K rIsNotNo dIsNot := by
  intro x y H a b c ha hb hc Q k
  unfold dIsNot at hc
  by_cases z : isN b = true
  · rw [if_pos z] at hc; cases hc
    have e := isN_eq z
    subst e
    exact ⟨dp_non hb, by rw [isN_dp ha]; exact k _ (Sc.bl _)⟩
  · rw [if_neg z] at hc; cases hc
theorem flat_dp {S : Hp} {v : V} {d : PyData} (h : Dp K S v d) (f : flat d = true) : flatV v = true ∧ ∀ {v' : V} {d' : PyData} {S' : Hp}, Dp K S' v' d' → flat d' = true → eqV v v' = PyData.eqv d d' := by
  cases h with
  | non => exact ⟨rfl, fun h' f' => by cases h' <;> first | rfl | cases f'⟩
  | bl b => exact ⟨rfl, fun h' f' => by cases h' <;> first | (cases b <;> rfl) | cases f'⟩
  | int i => exact ⟨rfl, fun h' f' => by
      cases h' with
      | bl b => cases b <;> rfl
      | lst _ _ => cases f'
      | tup _ _ => cases f'
      | _ => rfl⟩
  | str x => exact ⟨rfl, fun h' f' => by cases h' <;> first | rfl | cases f'⟩
  | lst _ _ => cases f
  | tup _ _ => cases f
theorem flat_all {S S' : Hp} {x : V} {a : PyData} (hx : Dp K S' x a) (fa : flat a = true) : ∀ {vs : List V} {ds : List PyData}, DpAll K S vs ds → ds.all flat = true → vs.all flatV = true ∧ vs.any (fun y => eqV y x) = ds.any fun y => PyData.eqv y a
  | _, _, .nil, _ => ⟨rfl, rfl⟩
  | _, _, .cons (v := v) (d := d) q r, h => by
    rw [List.all_cons, Bool.and_eq_true] at h
    obtain ⟨h1, h2⟩ := flat_all hx fa r h.2
    obtain ⟨f1, f2⟩ := flat_dp q h.1
    rw [List.all_cons, List.any_cons, List.any_cons, f1, h1, h2, f2 hx fa]
    exact ⟨rfl, rfl⟩
/-- a list or a tuple at hand -/
theorem dp_items {S : Hp} {v : V} {d : PyData} {ds : List PyData} (h : Dp K S v d) (e : items d = some ds) : ∃ a vs, v = .ref a ∧ (SqL K S a vs ∨ SqT K S a vs) ∧ DpAll K S vs ds := by
  cases h with
  | lst q r => cases e; exact ⟨_, _, rfl, .inl q, r⟩
  | tup q r => cases e; exact ⟨_, _, rfl, .inr q, r⟩
  | _ => cases e
theorem opS_in : OpS K (rIn K false) dIn := by
  intro x y H a b c ha hb hc Q k
  obtain ⟨ds, e, hc⟩ := Option.bind_eq_some_iff.mp hc
  obtain ⟨p, vs, ev, sq, da⟩ := dp_items hb e
  by_cases z : (flat a && ds.all flat) = true
  · rw [if_pos z] at hc; cases hc
    obtain ⟨z1, z2⟩ := Bool.and_eq_true_iff.mp z
    obtain ⟨f1, f2⟩ := flat_all ha z1 da z2
    refine ⟨p, vs, ev, sq, (flat_dp ha z1).1, f1, ?_⟩
    show Q (.bl (inV x vs)) H
    unfold inV
    rw [f2]
    exact k _ (Sc.bl _)
  · rw [if_neg z] at hc; cases hc
theorem opS_notIn : OpS K (rIn K true) dNotIn := by
  intro x y H a b c ha hb hc Q k
  obtain ⟨ds, e, hc⟩ := Option.bind_eq_some_iff.mp hc
  obtain ⟨p, vs, ev, sq, da⟩ := dp_items hb e
  by_cases z : (flat a && ds.all flat) = true
  · rw [if_pos z] at hc; cases hc
    obtain ⟨z1, z2⟩ := Bool.and_eq_true_iff.mp z
    obtain ⟨f1, f2⟩ := flat_all ha z1 da z2
    refine ⟨p, vs, ev, sq, (flat_dp ha z1).1, f1, ?_⟩
    show Q (.bl (!inV x vs)) H
    unfold inV
    rw [f2]
    exact k _ (Sc.bl _)
  · rw [if_neg z] at hc; cases hc
end
section
variable {X : Cx} {W : WX} {a b : Expr} {fa fb : FP} {pos : Pos}
theorem pv_var (i : Nat) {x : Str} {pos : Pos} (hN : X.N[i]? = some x := by rfl) (hv : Vis X.env.scope x := by first | exact Or.inl rfl | exact Or.inr (Or.inl rfl) | exact Or.inr (Or.inr rfl)) (hd : (x == ("__debug__" : Str)) = false := by decide)
    (hcd : (x == ("__classdict__" : Str)) = false := by decide) : PV X W (.Name x pos) (pVar i) := ⟨_, pe_var hN hv hd hcd, sndP_var⟩
theorem pv_e {e : Expr} {f : FE} (h : EV X W e f) : PV X W e (pE f) := let ⟨t, h1, h2⟩ := h.ex; ⟨t, h1, sndP_e h2⟩
theorem ev_var (i : Nat) {x : Str} {pos : Pos} (hN : X.N[i]? = some x := by rfl) (hv : Vis X.env.scope x := by first | exact Or.inl rfl | exact Or.inr (Or.inl rfl) | exact Or.inr (Or.inr rfl)) (hd : (x == ("__debug__" : Str)) = false := by decide)
    (hcd : (x == ("__classdict__" : Str)) = false := by decide) : EV X W (.Name x pos) (eVar i) := ⟨_, pe_var hN hv hd hcd, sndE_var⟩
theorem ev_int {i : Int} {j pos} : EV X W (.Constant (.int i) j pos) (eC (.int i)) := ⟨_, pe_int, sndE_c fun _ => .int i⟩
theorem ev_bl {b : Bool} {j pos} : EV X W (.Constant (.bool b) j pos) (eC (.bool b)) := ⟨_, pe_bl, sndE_c fun _ => .bl b⟩
theorem ev_non {j pos} : EV X W (.Constant .none j pos) (eC .none) := ⟨_, pe_non, sndE_c fun _ => .non⟩
theorem ev_str {x : Str} {j pos} : EV X W (.Constant (.str x) j pos) (eC (.str x)) := ⟨_, pe_str, sndE_c fun _ => .str x⟩
theorem ev_glob {x : Str} {v : V} {u : Value} {d : PyData} {pos : Pos} (hg : Gl X x) (hm : X.mg x = some u) (r : RelV v u) (h : ∀ S, Dp X.K S v d) (hd : (x == ("__debug__" : Str)) = false := by decide) : EV X W (.Name x pos) (eC d) := ⟨_, pe_glob hg hm r hd, sndE_c h⟩
theorem ev_bin {op : Operator} {r : R2} {g : PyData → PyData → Option PyData} (ho : OpR X (binaryOp op) r) (hs : OpS X.K r g) (ha : PV X W a fa) (hb : PV X W b fb) : EV X W (.BinOp a op b pos) (eOp g fa fb) :=
  let ⟨ta, a1, a2⟩ := ha.ex; let ⟨tb, b1, b2⟩ := hb.ex; ⟨_, pe_op ho a1 b1, sndE_op hs a2 b2⟩
theorem ev_add (ha : PV X W a fa) (hb : PV X W b fb) : EV X W (.BinOp a .Add b pos) (eOp dAdd fa fb) := ev_bin op_add opS_add ha hb
theorem ev_sub (ha : PV X W a fa) (hb : PV X W b fb) : EV X W (.BinOp a .Sub b pos) (eOp dSub fa fb) := ev_bin op_sub opS_sub ha hb
theorem ev_mul (ha : PV X W a fa) (hb : PV X W b fb) : EV X W (.BinOp a .Mult b pos) (eOp dMul fa fb) := ev_bin op_mulG opS_mul ha hb
theorem ev_div (ha : PV X W a fa) (hb : PV X W b fb) : EV X W (.BinOp a .FloorDiv b pos) (eOp dDiv fa fb) := ev_bin op_divX opS_div ha hb
theorem ev_mod (ha : PV X W a fa) (hb : PV X W b fb) : EV X W (.BinOp a .Mod b pos) (eOp dMod fa fb) := ev_bin op_modN opS_mod ha hb
theorem ev_pow (ha : PV X W a fa) (hb : PV X W b fb) : EV X W (.BinOp a .Pow b pos) (eOp dPow fa fb) := ev_bin op_pow opS_pow ha hb
theorem ev_cmp {op : CmpOp} {r : R2} {g : PyData → PyData → Option PyData} (ho : OpR X (compareOp op) r) (hs : OpS X.K r g) (ha : PV X W a fa) (hb : PV X W b fb) (hm : behindInMarks op b = false) : EV X W (.Compare a [op] [b] pos) (eOp g fa fb) :=
  let ⟨ta, a1, a2⟩ := ha.ex; let ⟨tb, b1, b2⟩ := hb.ex; ⟨_, pe_cmpR ho a1 b1 hm, sndE_op hs a2 b2⟩
/-! ### tests -/
def tOf (f : FE) : FT := fun ρ => (f ρ).bind fun o ρ' => match o with
  | .fz (.bool b) => .ok b ρ'
  | _ => .bad
theorem sndT_of {t : TE} {f : FE} {K : PySem.W.Frag} (h : SndE K W t f) : SndT K W (tTest t) (tOf f) := by
  refine snd_bind (u := fun x _ H Q => ∃ k, x = .bl k ∧ Q k H) h fun x o σ ρ S H A B w e r => ?_
  cases o with
  | fz d =>
    cases d with
    | bool b =>
      intro Q k
      cases r with
      | fz q z =>
        refine ⟨b, dp_bl q, k b S H A B w e ⟨rfl, z⟩ Tr.refl⟩
    | _ => exact True.intro
  | _ => exact True.intro
theorem tv_cmp {op : CmpOp} {r : R2} {g : PyData → PyData → Option PyData} (ho : OpR X (compareOp op) r) (hs : OpS X.K r g) (ha : PV X W a fa) (hb : PV X W b fb) (hm : behindInMarks op b = false) : TV X W (.Compare a [op] [b] pos) (tOf (eOp g fa fb)) :=
  let ⟨ta, a1, a2⟩ := ha.ex; let ⟨tb, b1, b2⟩ := hb.ex; ⟨_, pt_cmpR ho a1 b1 hm, sndT_of (sndE_op hs a2 b2)⟩
theorem tv_val {e : Expr} {f : FE} (h : EV X W e f) (he : ∀ whole, isTrue e X.env whole = (do let v ← whole; standAt e.pos; holding [v] (truthy v)) := by intro _; rfl) : TV X W e (tOf f) :=
  let ⟨t, h1, h2⟩ := h.ex; ⟨_, pt_val h1 he, sndT_of h2⟩
/-- truth of anything -/
def dTru : PyData → Option Bool
  | .none => some false
  | .bool b => some b
  | .int i => some (i != 0)
  | .str x => if x.length ≤ sizeLine then some ((x.length : Int) != 0) else none
  | .list xs => some !xs.isEmpty
  | .tuple xs => some !xs.isEmpty
  | .dict _ => none
def tTru (f : FP) : FT := fun ρ => (f ρ).bind fun p ρ' => match (pkD ρ' p).bind dTru with
  | some b => .ok b ρ'
  | none => .bad
theorem dpall_empty {K : PySem.W.Frag} {S : Hp} {vs : List V} {ds : List PyData} (h : DpAll K S vs ds) : vs.isEmpty = ds.isEmpty := by cases h <;> rfl
theorem tru_dp {K : PySem.W.Frag} {H : Hp} {v : V} {d : PyData} {b : Bool} (h : Dp K H v d) (e : dTru d = some b) : TruV K v H b := by
  cases h with
  | non => cases e; exact rfl
  | bl b => cases e; exact rfl
  | int i => cases e; exact rfl
  | str x =>
    have e : (if x.length ≤ sizeLine then some ((x.length : Int) != 0) else none) = some b := e
    by_cases z : x.length ≤ sizeLine
    · rw [if_pos z] at e; cases e; exact ⟨z, rfl⟩
    · rw [if_neg z] at e; cases e
  | lst q r => cases e; exact .inl ⟨_, q, by rw [dpall_empty r]⟩
  | tup q r => cases e; exact .inr (.inl ⟨_, q, by rw [dpall_empty r]⟩)
theorem sndT_tru {t : TE} {f : FP} {K : PySem.W.Frag} (h : SndP K W t f) : SndT K W (fun σ H Q => t σ H fun x H' => ∃ k, TruV K x H' k ∧ Q k H') (tTru f) := by
  refine snd_bind (u := fun x _ H Q => ∃ k, TruV K x H k ∧ Q k H) h fun x p σ ρ S H A B w e r => ?_
  show OutOk K W (REq Bool) _ σ S H (A + B) (match (pkD ρ p).bind dTru with
    | some b => Out.ok b ρ
    | none => .bad)
  cases hb : (pkD ρ p).bind dTru with
  | none => exact True.intro
  | some b =>
    obtain ⟨d, e1, e2⟩ := Option.bind_eq_some_iff.mp hb
    intro Q k
    refine ⟨b, tru_dp (pk_peek w.sub e r e1) e2, k b S H A Fp.z ?_ e ⟨rfl, fun _ => rfl⟩ ?_⟩
    · rw [addz]; exact w.less fun b => by rw [add_at]; omega
    · rw [addz]; exact Tr.refl.less fun b => by rw [add_at]; omega
theorem tv_tru {e : Expr} {f : FP} (h : PV X W e f) (he : ∀ whole, isTrue e X.env whole = (do let v ← whole; standAt e.pos; holding [v] (truthy v)) := by intro _; rfl) : TV X W e (tTru f) :=
  let ⟨t, h1, h2⟩ := h.ex; ⟨_, pt_truth h1 he, sndT_tru h2⟩
def tNotF (f : FT) : FT := fun ρ => (f ρ).bind fun b ρ' => .ok (!b) ρ'
def tAndF (f g : FT) : FT := fun ρ => (f ρ).bind fun b ρ' => if b then g ρ' else .ok false ρ'
def tOrF (f g : FT) : FT := fun ρ => (f ρ).bind fun b ρ' => if b then .ok true ρ' else g ρ'
theorem okEnd {K : PySem.W.Frag} {σ : St} {ρ : En} {S H : Hp} {A B : Fp} {b : Bool} {Q : Bool → Hp → Prop} (w : WF S H (A + B)) (e : ER K S H σ ρ A) (k : PostV K (REq Bool) σ S H (A + B) b ρ Q) : Q b H :=
  k b S H A Fp.z (by rw [addz]; exact w.less fun b => by rw [add_at]; omega) e ⟨rfl, fun _ => rfl⟩ (by rw [addz]; exact Tr.refl.less fun b => by rw [add_at]; omega)
/-- a part behind a test: what was held is nothing -/
theorem snd_behind {β α : Type} {K : PySem.W.Frag} {R : RR β α} {t : St → Hp → (β → Hp → Prop) → Prop} {f : En → Out α} (h : Snd K W R t f) {σ : St} {ρ : En} {S H : Hp} {A B : Fp} (w : WF S H (A + B)) (e : ER K S H σ ρ A) : OutOk K W R t σ S H (A + B) (f ρ) := by
  have le : ∀ b, A b ≤ (A + B) b := fun b => by rw [add_at]; omega
  have h1 := h σ ρ S H A (w.less le) e
  have tr : Tr S H (A + B) S H A := Tr.refl.less le
  cases hf : f ρ with
  | bad => exact True.intro
  | exc x ρ' =>
    rw [hf] at h1
    exact fun Q q => h1 Q fun cls d S' H' A' w' e' x' t' => q cls d S' H' A' w' e' x' (tr.trans t')
  | ok a ρ' =>
    rw [hf] at h1
    exact fun Q q => h1 Q fun v S' H' A' C w' e' r' t' => q v S' H' A' C w' e' r' (tr.trans t')
theorem sndT_not {K : PySem.W.Frag} {t : TT} {f : FT} (h : SndT K W t f) : SndT K W (tNot t) (tNotF f) := by
  refine snd_bind (u := fun x _ H Q => Q (!x) H) h fun x b σ ρ S H A B w e r => ?_
  obtain ⟨rfl, _⟩ := r
  exact fun Q k => okEnd w e k
theorem sndT_and {K : PySem.W.Frag} {t u : TT} {f g : FT} (h : SndT K W t f) (h2 : SndT K W u g) : SndT K W (tAnd t u) (tAndF f g) := by
  refine snd_bind (u := fun c σ H Q => if c = true then u σ H Q else Q false H) h fun x b σ ρ S H A B w e r => ?_
  obtain ⟨rfl, _⟩ := r
  cases x with
  | true => exact snd_behind h2 w e
  | false => exact fun Q k => okEnd w e k
theorem sndT_or {K : PySem.W.Frag} {t u : TT} {f g : FT} (h : SndT K W t f) (h2 : SndT K W u g) : SndT K W (tOr t u) (tOrF f g) := by
  refine snd_bind (u := fun c σ H Q => if c = true then Q true H else u σ H Q) h fun x b σ ρ S H A B w e r => ?_
  obtain ⟨rfl, _⟩ := r
  cases x with
  | true => exact fun Q k => okEnd w e k
  | false => exact snd_behind h2 w e
variable {f g : FT} {rest : List Expr}
theorem tv_not (h : TV X W a f) : TV X W (.UnaryOp .Not a pos) (tNotF f) := let ⟨t, h1, h2⟩ := h.ex; ⟨_, pt_not h1, sndT_not h2⟩
theorem wv_and1 (h : TV X W a f) : WV X W (.BoolOp .And [a] pos) f := let ⟨t, h1, h2⟩ := h.ex; ⟨_, pw_and1 h1, h2⟩
theorem wv_or1 (h : TV X W a f) : WV X W (.BoolOp .Or [a] pos) f := let ⟨t, h1, h2⟩ := h.ex; ⟨_, pw_or1 h1, h2⟩
theorem wv_and (h : TV X W a f) (r : WV X W (.BoolOp .And (b :: rest) pos) g) : WV X W (.BoolOp .And (a :: b :: rest) pos) (tAndF f g) :=
  let ⟨t, h1, h2⟩ := h.ex; let ⟨u, r1, r2⟩ := r.ex; ⟨_, pw_and h1 r1, sndT_and h2 r2⟩
theorem wv_or (h : TV X W a f) (r : WV X W (.BoolOp .Or (b :: rest) pos) g) : WV X W (.BoolOp .Or (a :: b :: rest) pos) (tOrF f g) :=
  let ⟨t, h1, h2⟩ := h.ex; let ⟨u, r1, r2⟩ := r.ex; ⟨_, pw_or h1 r1, sndT_or h2 r2⟩
theorem tv_w {e : Expr} (h : WV X W e f) : TV X W e f := let ⟨t, h1, h2⟩ := h.ex; ⟨_, h1.pt, h2⟩
end
end Ls

namespace Ls
open PySem L2
variable [Tb]
section
variable {X : Cx} {W : WX} {K : PySem.W.Frag} {a b : Expr} {pos : Pos} {rest : List Expr}
/-! ### and, or, not, if as values -/
def eAnd (f g : FE) : FE := fun ρ => (tOf f ρ).bind fun b ρ' => if b then g ρ' else .ok (.fz (.bool false)) ρ'
def eOr (f g : FE) : FE := fun ρ => (tOf f ρ).bind fun b ρ' => if b then .ok (.fz (.bool true)) ρ' else g ρ'
def eNot (f : FP) : FE := fun ρ => (tTru f ρ).bind fun b ρ' => .ok (.fz (.bool !b)) ρ'
def eIf (c : FT) (f g : FE) : FE := fun ρ => (c ρ).bind fun b ρ' => if b then f ρ' else g ρ'
/-- data that names no object, at the end -/
theorem fzEnd {σ : St} {ρ : En} {S H : Hp} {A B : Fp} {v : V} {d : PyData} {Q : VK} (w : WF S H (A + B)) (e : ER K S H σ ρ A) (hv : Dp K S v d) (k : PostV K (ROr K) σ S H (A + B) (.fz d) ρ Q) : Q v H :=
  k v S H A Fp.z (by rw [addz]; exact w.less fun b => by rw [add_at]; omega) e (.fz hv fun _ => rfl) (by rw [addz]; exact Tr.refl.less fun b => by rw [add_at]; omega)
theorem sndE_and {ta tb : TE} {f g : FE} (h : SndE K W ta f) (h2 : SndE K W tb g) : SndE K W (tAndV ta tb) (eAnd f g) := by
  have h1 : SndE K W (fun σ H Q => tTest ta σ H fun c H1 => if c = true then tb σ H1 Q else Q (.bl false) H1) (eAnd f g) := by
    refine snd_bind (u := fun c σ H Q => if c = true then tb σ H Q else Q (.bl false) H) (sndT_of h) fun x b σ ρ S H A B w e r => ?_
    obtain ⟨rfl, _⟩ := r
    cases x with
    | true => exact snd_behind h2 w e
    | false => exact fun Q k => fzEnd w e (.bl false) k
  exact h1
theorem sndE_or {ta tb : TE} {f g : FE} (h : SndE K W ta f) (h2 : SndE K W tb g) : SndE K W (tOrV ta tb) (eOr f g) := by
  have h1 : SndE K W (fun σ H Q => tTest ta σ H fun c H1 => if c = true then Q (.bl true) H1 else tb σ H1 Q) (eOr f g) := by
    refine snd_bind (u := fun c σ H Q => if c = true then Q (.bl true) H else tb σ H Q) (sndT_of h) fun x b σ ρ S H A B w e r => ?_
    obtain ⟨rfl, _⟩ := r
    cases x with
    | false => exact snd_behind h2 w e
    | true => exact fun Q k => fzEnd w e (.bl true) k
  exact h1
theorem sndE_not {ta : TE} {f : FP} (h : SndP K W ta f) : SndE K W (tNotT K ta) (eNot f) := by
  have h1 : SndE K W (fun σ H Q => (fun σ H Q => ta σ H fun x H' => ∃ k, TruV K x H' k ∧ Q k H') σ H fun k H1 => Q (.bl (!k)) H1) (eNot f) := by
    refine snd_bind (u := fun (c : Bool) (σ : St) (H : Hp) (Q : VK) => Q (V.bl (!c)) H) (sndT_tru h) fun x b σ ρ S H A B w e r => ?_
    obtain ⟨rfl, _⟩ := r
    exact fun Q k => fzEnd w e (.bl _) k
  exact h1
theorem sndE_if {c : TT} {ta tb : TE} {fc : FT} {f g : FE} (hc : SndT K W c fc) (h1 : SndE K W ta f) (h2 : SndE K W tb g) : SndE K W (tIf c ta tb) (eIf fc f g) := by
  refine snd_bind (u := fun c σ H Q => if c = true then ta σ H Q else tb σ H Q) hc fun x b σ ρ S H A B w e r => ?_
  obtain ⟨rfl, _⟩ := r
  cases x with
  | true => exact snd_behind h1 w e
  | false => exact snd_behind h2 w e
variable {f g : FE}
theorem ev_one {op} (h : EV X W a f) : EV X W (.BoolOp op [a] pos) f := let ⟨_, h1, h2⟩ := h.ex; ⟨_, pe_one h1, h2⟩
theorem ev_and (h : EV X W a f) (r : EV X W (.BoolOp .And (b :: rest) pos) g) : EV X W (.BoolOp .And (a :: b :: rest) pos) (eAnd f g) :=
  let ⟨_, h1, h2⟩ := h.ex; let ⟨_, r1, r2⟩ := r.ex; ⟨_, pe_and h1 r1, sndE_and h2 r2⟩
theorem ev_or (h : EV X W a f) (r : EV X W (.BoolOp .Or (b :: rest) pos) g) : EV X W (.BoolOp .Or (a :: b :: rest) pos) (eOr f g) :=
  let ⟨_, h1, h2⟩ := h.ex; let ⟨_, r1, r2⟩ := r.ex; ⟨_, pe_or h1 r1, sndE_or h2 r2⟩
theorem ev_not {f : FP} (h : PV X W a f) : EV X W (.UnaryOp .Not a pos) (eNot f) := let ⟨_, h1, h2⟩ := h.ex; ⟨_, pe_notT h1, sndE_not h2⟩
theorem ev_if {c : Expr} {fc : FT} (hc : TV X W c fc) (h : EV X W a f) (r : EV X W b g) : EV X W (.IfExp c a b pos) (eIf fc f g) :=
  let ⟨_, c1, c2⟩ := hc.ex; let ⟨_, h1, h2⟩ := h.ex; let ⟨_, r1, r2⟩ := r.ex; ⟨_, pe_ifExp c1 h1 r1, sndE_if c2 h2 r2⟩
/-! ### a minus -/
def eNeg (f : FP) : FE := fun ρ => (f ρ).bind fun p ρ' => match pkD ρ' p with
  | some (.int i) => .ok (.fz (.int (-i))) ρ'
  | _ => .bad
theorem sndE_neg {ta : TE} {f : FP} (h : SndP K W ta f) : SndE K W (tUn (rU fun i => .int (-i)) ta) (eNeg f) := by
  refine snd_bind (u := fun x σ H Q => rU (fun i => .int (-i)) x H Q) h fun x p σ ρ S H A B w e r => ?_
  show OutOk K W (ROr K) _ σ S H (A + B) (match pkD ρ p with
    | some (.int i) => Out.ok (.fz (.int (-i))) ρ
    | _ => .bad)
  cases hp : pkD ρ p with
  | none => exact True.intro
  | some d =>
    cases d with
    | int i => exact fun Q k => ⟨i, dp_int (pk_peek w.sub e r hp), fzEnd w e (.int _) k⟩
    | _ => exact True.intro
theorem ev_neg {f : FP} (h : PV X W a f) : EV X W (.UnaryOp .USub a pos) (eNeg f) := let ⟨_, h1, h2⟩ := h.ex; ⟨_, pe_un un_neg h1, sndE_neg h2⟩

/-! ### a < b < c -/
def eChain (g g' : PyData → PyData → Option PyData) (fa fb fc : FP) : FE := fun ρ => (fa ρ).bind fun a ρ1 => (fb ρ1).bind fun b ρ2 =>
  match (pkD ρ2 a).bind fun x => (pkD ρ2 b).bind fun y => g x y with
  | some (.bool true) => (fc ρ2).bind fun c ρ3 => (match (pkD ρ3 b).bind fun y => (pkD ρ3 c).bind fun z => g' y z with
    | some d => .ok (.fz d) ρ3
    | none => .bad)
  | some (.bool false) => .ok (.fz (.bool false)) ρ2
  | _ => .bad
theorem sndE_chain {r r' : R2} {g g' : PyData → PyData → Option PyData} {ta tb tc : TE} {fa fb fc : FP} (ho : OpS K r g) (ho' : OpS K r' g') (ha : SndP K W ta fa) (hb : SndP K W tb fb) (hc : SndP K W tc fc) : SndE K W (tChain r r' ta tb tc) (eChain g g' fa fb fc) := by
  refine snd_bind (u := fun x σ H Q => tb σ H fun y H2 => r x y H2 fun z H3 => ∃ k, z = .bl k ∧ if k = true then tc σ H3 fun z H4 => r' y z H4 Q else Q (.bl false) H3) ha fun x a σ ρ S H A B w e ra => ?_
  have h2 := snd_beside hb w e
  show OutOk K W (ROr K) _ σ S H (A + B) ((fb ρ).bind _)
  cases hf : fb ρ with
  | bad => exact True.intro
  | exc x' ρ' =>
    rw [hf] at h2
    exact fun Q k => h2 _ k
  | ok b ρ2 =>
    rw [hf] at h2
    show OutOk K W (ROr K) _ σ S H (A + B) (match (pkD ρ2 a).bind fun x => (pkD ρ2 b).bind fun y => g x y with
      | some (.bool true) => (fc ρ2).bind fun c ρ3 => (match (pkD ρ3 b).bind fun y => (pkD ρ3 c).bind fun z => g' y z with
        | some d => Out.ok (.fz d) ρ3
        | none => .bad)
      | some (.bool false) => .ok (.fz (.bool false)) ρ2
      | _ => .bad)
    cases hg : (pkD ρ2 a).bind fun x => (pkD ρ2 b).bind fun y => g x y with
    | none => exact True.intro
    | some d =>
      cases d with
      | bool k0 =>
        obtain ⟨da, e1, hg1⟩ := Option.bind_eq_some_iff.mp hg
        obtain ⟨db, e2, hg2⟩ := Option.bind_eq_some_iff.mp hg1
        cases k0 with
        | false =>
          intro Q k
          refine h2 _ fun y S' H' A' C w' e' rb t' sub kp => ?_
          have ra' := stays_pk σ S H S' H' x a B sub kp ra
          refine ho x y H' da db _ (pk_peek w'.sub e' ra' e1) (pk_peek w'.sub e' rb e2) hg2 _ fun v hv => ⟨false, dp_bl (hv K S'), ?_⟩
          have le : ∀ b, A' b ≤ (A' + C + B) b := fun b => by simp only [add_at]; omega
          exact k _ S' H' A' Fp.z (by rw [addz]; exact w'.less le) e' (.fz (.bl false) fun _ => rfl) (by rw [addz]; exact t'.less le)
        | true =>
          show OutOk K W (ROr K) _ σ S H (A + B) ((fc ρ2).bind _)
          have key : ∀ y S' H' A' C, WF S' H' (A' + C + B) → ER K S' H' σ ρ2 A' → RPk K σ S' H' y b C → Tr S H (A + B) S' H' (A' + C + B) → (∀ b u, S b = some u → S' b = some u) → (∀ b, 0 < B b → H' b = H b) → ∀ Q : VK, (∀ H3, H3 = H' → (if true = true then tc σ H3 fun z H4 => r' y z H4 Q else Q (.bl false) H3)) →
              r x y H' fun z H3 => ∃ k, z = .bl k ∧ if k = true then tc σ H3 fun z H4 => r' y z H4 Q else Q (.bl false) H3 := fun y S' H' A' C w' e' rb t' sub kp Q q => by
            have ra' := stays_pk σ S H S' H' x a B sub kp ra
            exact ho x y H' da db _ (pk_peek w'.sub e' ra' e1) (pk_peek w'.sub e' rb e2) hg2 _ fun v hv => ⟨true, dp_bl (hv K S'), q H' rfl⟩
          cases hf3 : fc ρ2 with
          | bad => exact True.intro
          | exc x3 ρ3 =>
            intro Q k
            refine h2 _ fun y S' H' A' C w' e' rb t' sub kp => key y S' H' A' C w' e' rb t' sub kp Q fun H3 eh => ?_
            subst eh
            have w2 : WF S' H3 (A' + C) := w'.less fun b => by simp only [add_at]; omega
            have h3 := snd_beside hc w2 e'
            rw [hf3] at h3
            refine h3 _ fun cls d S4 H4 A4 w4 e4 x4 t4 => k cls d S4 H4 A4 w4 e4 x4 ((t'.less fun b => by simp only [add_at]; omega).trans t4)
          | ok c ρ3 =>
            show OutOk K W (ROr K) _ σ S H (A + B) (match (pkD ρ3 b).bind fun y => (pkD ρ3 c).bind fun z => g' y z with
              | some d => Out.ok (.fz d) ρ3
              | none => .bad)
            cases hg3 : (pkD ρ3 b).bind fun y => (pkD ρ3 c).bind fun z => g' y z with
            | none => exact True.intro
            | some d =>
              obtain ⟨db3, e3, hg4⟩ := Option.bind_eq_some_iff.mp hg3
              obtain ⟨dc, e4', hg5⟩ := Option.bind_eq_some_iff.mp hg4
              intro Q k
              refine h2 _ fun y S' H' A' C w' e' rb t' sub kp => key y S' H' A' C w' e' rb t' sub kp Q fun H3 eh => ?_
              subst eh
              have w2 : WF S' H3 (A' + C) := w'.less fun b => by simp only [add_at]; omega
              have h3 := snd_beside hc w2 e'
              rw [hf3] at h3
              refine h3 _ fun z S4 H4 A4 C4 w4 e4 rc t4 sub4 kp4 => ?_
              have rb' := stays_pk σ S' H3 S4 H4 y b C sub4 kp4 rb
              refine ho' y z H4 db3 dc d (pk_peek w4.sub e4 rb' e3) (pk_peek w4.sub e4 rc e4') hg5 _ fun v hv => ?_
              have le : ∀ b, A4 b ≤ (A4 + C4 + C) b := fun b => by simp only [add_at]; omega
              exact k v S4 H4 A4 Fp.z (by rw [addz]; exact w4.less le) e4 (.fz (hv K S4) fun _ => rfl) (by rw [addz]; exact ((t'.less fun b => by simp only [add_at]; omega).trans t4).less le)
      | _ => exact True.intro
theorem ev_chain {op op' : CmpOp} {r r' : R2} {g g' : PyData → PyData → Option PyData} {c : Expr} {fa fb fc : FP} (ho : OpR X (compareOp op) r) (ho' : OpR X (compareOp op') r') (hs : OpS X.K r g) (hs' : OpS X.K r' g') (ha : PV X W a fa) (hb : PV X W b fb) (hc : PV X W c fc)
    (hm : lastMarks [op, op'] [b, c] = false := by with_unfolding_all rfl) : EV X W (.Compare a [op, op'] [b, c] pos) (eChain g g' fa fb fc) :=
  let ⟨_, a1, a2⟩ := ha.ex; let ⟨_, b1, b2⟩ := hb.ex; let ⟨_, c1, c2⟩ := hc.ex; ⟨_, pe_chain ho ho' a1 b1 c1 hm, sndE_chain hs hs' a2 b2 c2⟩
theorem tv_chain {op op' : CmpOp} {r r' : R2} {g g' : PyData → PyData → Option PyData} {c : Expr} {fa fb fc : FP} (ho : OpR X (compareOp op) r) (ho' : OpR X (compareOp op') r') (hs : OpS X.K r g) (hs' : OpS X.K r' g') (ha : PV X W a fa) (hb : PV X W b fb) (hc : PV X W c fc)
    (hm : lastMarks [op, op'] [b, c] = false := by with_unfolding_all rfl) : TV X W (.Compare a [op, op'] [b, c] pos) (tOf (eChain g g' fa fb fc)) :=
  let ⟨_, a1, a2⟩ := ha.ex; let ⟨_, b1, b2⟩ := hb.ex; let ⟨_, c1, c2⟩ := hc.ex; ⟨_, pt_chain ho ho' a1 b1 c1 hm, sndT_of (sndE_chain hs hs' a2 b2 c2)⟩
end
end Ls

namespace Ls
open PySem L2
variable [Tb]
theorem le1 {A B : Fp} : ∀ b, A b ≤ (A + B) b := fun b => by simp only [add_at]; omega
theorem le2 {A B C : Fp} : ∀ b, (A + C) b ≤ (A + C + B) b := fun b => by simp only [add_at]; omega
theorem le3 {A B C : Fp} : ∀ b, A b ≤ (A + C + B) b := fun b => by simp only [add_at]; omega
theorem le4 {A B : Fp} : ∀ b, B b ≤ (A + B) b := fun b => by simp only [add_at]; omega
theorem add_comm' (A B : Fp) : A + B = B + A := funext fun b => by simp only [add_at]; omega
theorem add_assoc' (A B C : Fp) : A + B + C = A + (B + C) := funext fun b => by simp only [add_at]; omega
section
variable {K : PySem.W.Frag} {S H : Hp} {A B : Fp} {p : Addr} {u : HO}
theorem WF.free (w : WF S H A) (h : H p = none) : S p = none ∧ A p = 0 := by
  refine ⟨?_, ?_⟩
  · cases e : S p with
    | none => rfl
    | some o => rw [w.sub p o e] at h; cases h
  · by_cases z : 0 < A p
    · exact absurd h (w.th p z)
    · omega
theorem sub_upd {T : Hp} (h : T p = none) : ∀ a o, T a = some o → upd T p u a = some o := fun a o e => by rw [upd_ne (ne_of_none e h)]; exact e
/-- a new object of one's own -/
theorem newO (w : WF S H A) (h : H p = none) (hu : ¬ Odd u := by first | exact odd_lst | exact odd_tup | exact odd_xd) : WF S (upd H p u) (Fp.one p + A) ∧ Tr S H A S (upd H p u) (Fp.one p + A) ∧ ∀ a, 0 < A a → upd H p u a = H a := by
  obtain ⟨hs, ha⟩ := w.free h
  have ne : ∀ a, 0 < A a → a ≠ p := fun a z e => by rw [e] at z; omega
  refine ⟨⟨fun a o e => sub_upd h a o (w.sub a o e), fun a => ?_, fun a z => ?_, fun a z => ?_, fun r hr => (w.tb r hr).ext (sub_upd h), fun a t => ?_, fun c o hc ho => ?_⟩, ⟨fun _ _ e => e, fun a o _ z e => sub_upd h a o e, fun _ _ e => .inl e, fun a z => ?_⟩, fun a z => upd_ne (ne a z)⟩
  · have h1 := w.one a
    rw [add_at]
    by_cases e : a = p
    · subst e; rw [one_same]; omega
    · rw [one_ne e]; omega
  · rw [add_at] at z
    by_cases e : a = p
    · subst e; exact hs
    · rw [one_ne e] at z; exact w.dj a (by omega)
  · rw [add_at] at z
    by_cases e : a = p
    · subst e; rw [upd_same]; exact fun y => nomatch y
    · rw [one_ne e] at z; rw [upd_ne e]; exact w.th a (by omega)
  · obtain ⟨ps, t⟩ := t
    by_cases e : a = p
    · subst e; rw [upd_same] at t; cases t; exact absurd (.inr ⟨ps, rfl⟩) hu
    · rw [upd_ne e] at t; exact ⟨by rw [add_at, one_ne e, (w.ta a ⟨ps, t⟩).1], (w.ta a ⟨ps, t⟩).2⟩
  · by_cases e : c = p
    · subst e; rw [upd_same] at hc; cases hc; exact absurd (.inl ho) hu
    · rw [upd_ne e] at hc; rw [add_at, one_ne e, w.co c o hc ho]
  · rw [add_at] at z
    by_cases e : a = p
    · subst e; exact .inr (.inl h)
    · rw [one_ne e] at z; exact .inl (by omega)
/-- a new settled object -/
theorem newF (w : WF S H A) (h : H p = none) (hu : ¬ Odd u := by first | exact odd_lst | exact odd_tup | exact odd_xd) : WF (upd S p u) (upd H p u) A ∧ Tr S H A (upd S p u) (upd H p u) A ∧ (∀ a, 0 < A a → upd H p u a = H a) ∧ ∀ a o, S a = some o → upd S p u a = some o := by
  obtain ⟨hs, ha⟩ := w.free h
  have ne : ∀ a, 0 < A a → a ≠ p := fun a z e => by rw [e] at z; omega
  refine ⟨⟨fun a o e => ?_, w.one, fun a z => by rw [upd_ne (ne a z)]; exact w.dj a z, fun a z => by rw [upd_ne (ne a z)]; exact w.th a z, fun r hr => (w.tb r hr).ext (sub_upd h), fun a t => ?_, fun c o hc ho => ?_⟩, ⟨sub_upd hs, fun a o _ z e => sub_upd h a o e, fun a o e => ?_, fun a z => .inl z⟩, fun a z => upd_ne (ne a z), sub_upd hs⟩
  · by_cases z : a = p
    · subst z; rw [upd_same] at e ⊢; exact e
    · rw [upd_ne z] at e ⊢; exact w.sub a o e
  · obtain ⟨ps, t⟩ := t
    by_cases e : a = p
    · subst e; rw [upd_same] at t; cases t; exact absurd (.inr ⟨ps, rfl⟩) hu
    · rw [upd_ne e] at t ⊢; exact w.ta a ⟨ps, t⟩
  · by_cases e : c = p
    · subst e; exact ha
    · rw [upd_ne e] at hc; exact w.co c o hc ho
  · by_cases z : a = p
    · subst z; exact .inr (.inr (.inl h))
    · rw [upd_ne z] at e; exact .inl e
end
/-! ### arguments -/
def ArgAt (σ : St) : List (Option Nat) → List V → Prop
  | [], _ => True
  | some i :: ls, v :: vs => σ[i]? = some (some v) ∧ ArgAt σ ls vs
  | none :: ls, _ :: vs => ArgAt σ ls vs
  | _ :: _, [] => False
def RArgs (K : PySem.W.Frag) (ls : List (Option Nat)) : RR (List V) (List O) := fun σ S H vs os B => ORs K S H vs os B ∧ ArgAt σ ls vs ∧ vs.length = ls.length
theorem stays_args {K : PySem.W.Frag} {ls : List (Option Nat)} : Stays (RArgs K ls) := fun σ S H S' H' v a B h k r => ⟨ors_keep h k r.1, r.2⟩
structure AV (X : Cx) (W : WX) (es : List Expr) (ls : List (Option Nat)) (f : FA) : Prop where
  ex : ∃ t, PA X es t ∧ Snd X.K W (RArgs X.K ls) t f
def aNil : FA := fun ρ => .ok [] ρ
def aCons (f : FE) (r : FA) : FA := fun ρ => (f ρ).bind fun o ρ1 => (r ρ1).bind fun os ρ2 => .ok (o :: os) ρ2
section
variable {K : PySem.W.Frag} {W : WX} {X : Cx} {e : Expr} {es : List Expr} {ls : List (Option Nat)}
theorem snd_anil : Snd K W (RArgs K []) tNil aNil := by
  intro σ ρ S H A w e Q k
  exact k [] S H A Fp.z (by rw [addz]; exact w) e ⟨.nil fun _ => rfl, True.intro, rfl⟩ (by rw [addz]; exact Tr.refl)
/-- one more ahead; c: whether it is the slot i that is lent -/
theorem snd_acons {te : TE} {tr : TA} {f : FE} {r : FA} {l : Option Nat} (R : RR V O) (hR : ∀ σ S H v o B, R σ S H v o B → OR K S H v o B ∧ ∀ i, l = some i → σ[i]? = some (some v)) (sR : Stays R) (h1 : Snd K W R te f) (h2 : Snd K W (RArgs K ls) tr r) : Snd K W (RArgs K (l :: ls)) (tCons te tr) (aCons f r) := by
  refine snd_bind (u := fun x σ H Q => tr σ H fun xs H2 => Q (x :: xs) H2) h1 fun x o σ ρ S H A B w e ra => ?_
  have h3 := snd_beside h2 w e
  show OutOk K W (RArgs K (l :: ls)) _ σ S H (A + B) ((r ρ).bind _)
  cases hf : r ρ with
  | bad => exact True.intro
  | exc x' ρ' =>
    rw [hf] at h3
    exact fun Q k => h3 _ k
  | ok os ρ2 =>
    rw [hf] at h3
    intro Q k
    refine h3 _ fun xs S' H' A' C w' e' rb t' sub kp => ?_
    have ra' := sR σ S H S' H' x o B sub kp ra
    obtain ⟨q1, q2⟩ := hR σ S' H' x o B ra'
    have eA : A' + C + B = A' + (B + C) := funext fun b => by simp only [add_at]; omega
    rw [eA] at w' t'
    refine k (x :: xs) S' H' A' (B + C) w' e' ⟨.cons q1 rb.1 fun b => add_at B C b, ?_, by simp [rb.2.2]⟩ t'
    cases l with
    | none => exact rb.2.1
    | some i => exact ⟨q2 i rfl, rb.2.1⟩
theorem av_nil : AV X W [] [] aNil := ⟨_, pa_nil, snd_anil⟩
theorem av_cons {f : FE} {r : FA} (h : EV X W e f) (hr : AV X W es ls r) (hs : starEach (e :: es) X.env = (false, eval e X.env) :: starEach es X.env := by rfl) : AV X W (e :: es) (none :: ls) (aCons f r) :=
  let ⟨_, h1, h2⟩ := h.ex; let ⟨_, r1, r2⟩ := hr.ex; ⟨_, pa_cons h1 r1 hs, snd_acons (l := none) (ROr X.K) (fun _ _ _ _ _ _ q => ⟨q, fun _ z => nomatch z⟩) stays_or h2 r2⟩
/-- a slot that is lent: what is its own leaves the frame -/
def eLend (i : Nat) : FE := fun ρ => match ρ[i]? with
  | some (some (.fz d)) => .ok (.fz d) ρ
  | some (some (.raw v)) => .ok (.raw v) ρ
  | some (some (.exn _ _ _ _)) => .bad
  | some (some o) => .ok o (ρ.set i none)
  | _ => .bad
def RLend (K : PySem.W.Frag) (i : Nat) : RR V O := fun σ S H v o B => OR K S H v o B ∧ σ[i]? = some (some v)
theorem snd_lend {i : Nat} : Snd K W (RLend K i) (tVar i) (eLend i) := by
  intro σ ρ S H A w e
  unfold eLend
  cases hi : ρ[i]? with
  | none => exact True.intro
  | some x =>
    cases x with
    | none => exact True.intro
    | some o =>
      obtain ⟨v, B, C, e1, q, e2, z⟩ := er_get e hi
      have eA : A = C + B := funext fun b => by rw [z b, add_at]; omega
      have no : (∀ b, B b = 0) → A + B = A := fun z2 => funext fun b => by rw [add_at, z2 b]; rfl
      cases o with
      | fz d =>
        intro Q k
        have z2 : ∀ b, B b = 0 := by cases q with | fz q z2 => exact z2
        exact ⟨v, e1, k v S H A B (by rw [no z2]; exact w) e ⟨q, e1⟩ (by rw [no z2]; exact Tr.refl)⟩
      | exn a c d y => exact True.intro
      | raw u =>
        intro Q k
        have z2 : ∀ b, B b = 0 := by cases q with | raw z2 => exact z2
        exact ⟨v, e1, k v S H A B (by rw [no z2]; exact w) e ⟨q, e1⟩ (by rw [no z2]; exact Tr.refl)⟩
      | lst xs =>
        intro Q k
        exact ⟨v, e1, k v S H C B (by rw [← eA]; exact w) e2 ⟨q, e1⟩ (by rw [← eA]; exact Tr.refl)⟩
theorem av_lend (i : Nat) {x : Str} {pos : Pos} {r : FA} (hr : AV X W es ls r) (hN : X.N[i]? = some x := by rfl) (hv : Vis X.env.scope x := by first | exact Or.inl rfl | exact Or.inr (Or.inl rfl) | exact Or.inr (Or.inr rfl)) (hd : (x == ("__debug__" : Str)) = false := by decide)
    (hcd : (x == ("__classdict__" : Str)) = false := by decide) (hs : starEach (.Name x pos :: es) X.env = (false, eval (.Name x pos) X.env) :: starEach es X.env := by rfl) : AV X W (.Name x pos :: es) (some i :: ls) (aCons (eLend i) r) :=
  let ⟨_, r1, r2⟩ := hr.ex
  ⟨_, pa_cons (pe_var hN hv hd hcd) r1 hs, snd_acons (l := some i) (RLend X.K i) (fun _ _ _ _ _ _ q => ⟨q.1, fun j z => by cases z; exact q.2⟩) (fun σ S H S' H' v a B h k r => ⟨or_keep h k r.1, r.2⟩) snd_lend r2⟩
def backs : List (Option Nat) → List O → En → En
  | some i :: ls, o :: os, ρ => backs ls os (match ρ[i]? with
    | some none => ρ.set i (some o)
    | _ => ρ)
  | none :: ls, _ :: os, ρ => backs ls os ρ
  | _, _, ρ => ρ
theorem er_backs {S H : Hp} {σ : St} : ∀ (ls : List (Option Nat)) {vs : List V} {os : List O} {ρ : En} {A B : Fp}, ER K S H σ ρ A → ORs K S H vs os B → ArgAt σ ls vs → ∃ A', ER K S H σ (backs ls os ρ) A' ∧ ∀ b, A' b ≤ (A + B) b
  | [], _, _, ρ, A, B, e, r, h => ⟨A, by cases r <;> exact e, le1⟩
  | l :: ls, _, _, ρ, A, B, e, .nil z, h => ⟨A, by cases l <;> exact e, le1⟩
  | none :: ls, _, _, ρ, A, B, e, .cons q r z, h => by
    obtain ⟨A', h1, h2⟩ := er_backs ls e r h
    exact ⟨A', h1, fun b => by have := h2 b; simp only [add_at] at this ⊢; rw [z b]; omega⟩
  | some i :: ls, _, _, ρ, A, B, e, .cons (x := x) (xs := xs) (B := B1) (C := C1) q r z, h => by
    show ∃ A', ER K S H σ (backs ls xs (match ρ[i]? with
      | some none => ρ.set i (some x)
      | _ => ρ)) A' ∧ ∀ b, A' b ≤ (A + B) b
    cases hi : ρ[i]? with
    | none =>
      obtain ⟨A', h1, h2⟩ := er_backs ls e r h.2
      exact ⟨A', h1, fun b => by have := h2 b; simp only [add_at] at this ⊢; rw [z b]; omega⟩
    | some y =>
      cases y with
      | some y =>
        obtain ⟨A', h1, h2⟩ := er_backs ls e r h.2
        exact ⟨A', h1, fun b => by have := h2 b; simp only [add_at] at this ⊢; rw [z b]; omega⟩
      | none =>
        obtain ⟨A', h1, h2⟩ := er_backs ls (er_back e h.1 hi q) r h.2
        exact ⟨A', h1, fun b => by have := h2 b; simp only [add_at] at this ⊢; rw [z b]; omega⟩

/-! ### promises -/
def spOf (K : PySem.W.Frag) (n : Nat) (F : List O → FO) : Sp := fun vs H Q E => vs.length = n ∧ ∃ S A as, WF S H A ∧ ORs K S H vs as A ∧
  match F as with
  | .ok o as' => ∀ v S' H' A' B, WF S' H' (A' + B) → ORs K S' H' vs as' A' → OR K S' H' v o B → Tr S H A S' H' (A' + B) → Q v H'
  | .exc x as' => ∀ cls d S' H' A', WF S' H' A' → ORs K S' H' vs as' A' → XR K S' x cls d → Tr S H A S' H' A' → E cls d H'
  | .bad => False
def eCall (F : List O → FO) (ls : List (Option Nat)) (dd : List PyData) (fa : FA) : FE := fun ρ => (fa ρ).bind fun os ρ1 => match F (os ++ dd.map O.fz) with
  | .ok o as' => .ok o (backs ls as' ρ1)
  | .exc x as' => .exc x (backs ls as' ρ1)
  | .bad => .bad
theorem ors_append {S H : Hp} : ∀ {vs : List V} {os : List O} {A : Fp} {dvs : List V} {dd : List PyData}, ORs K S H vs os A → DpAll K S dvs dd → ORs K S H (vs ++ dvs) (os ++ dd.map O.fz) A
  | _, _, _, _, _, .nil z, .nil => .nil z
  | _, _, A, _, _, .nil z, .cons q r => .cons (B := Fp.z) (C := A) (.fz q fun _ => rfl) (ors_append (.nil z) r) fun b => by rw [z_at]; omega
  | _, _, _, _, _, .cons q r z, d => .cons q (ors_append r d) z
theorem argAt_more {σ : St} : ∀ {ls : List (Option Nat)} {vs ws : List V}, ArgAt σ ls vs → ArgAt σ ls (vs ++ ws)
  | [], _, _, _ => True.intro
  | some i :: ls, v :: vs, _, h => ⟨h.1, argAt_more h.2⟩
  | none :: ls, v :: vs, _, h => argAt_more (ls := ls) (vs := vs) h
  | some i :: ls, [], _, h => h.elim
  | none :: ls, [], _, h => h.elim
theorem sndE_call {n : Nat} {F : List O → FO} {ta : TA} {fa : FA} {dvs : List V} {dd : List PyData} (ha : Snd K W (RArgs K ls) ta fa) (hd : ∀ S, DpAll K S dvs dd) (hn : ls.length + dvs.length = n) :
    SndE K W (tCallSD (spOf K n F) dvs (WE W) ta) (eCall F ls dd fa) := by
  refine snd_bind (u := fun vs σ H Q => spOf K n F (vs ++ dvs) H Q (WE W σ)) ha fun vs os σ ρ S H A B w e r => ?_
  show OutOk K W (ROr K) _ σ S H (A + B) (match F (os ++ dd.map O.fz) with
    | .ok o as' => Out.ok o (backs ls as' ρ)
    | .exc x as' => .exc x (backs ls as' ρ)
    | .bad => .bad)
  have hor := ors_append r.1 (hd S)
  have w1 : WF S H B := w.less le4
  have w2 : WF S H (B + A) := by rw [add_comm']; exact w
  cases hF : F (os ++ dd.map O.fz) with
  | bad => exact True.intro
  | ok o as' =>
    intro Q k
    refine ⟨by rw [List.length_append, r.2.2]; exact hn, S, B, _, w1, hor, ?_⟩
    rw [hF]
    intro v S' H' A' C w' r' q' t'
    obtain ⟨w3, k3⟩ := t'.frame w2 w'
    have e3 := er_keep (K := K) t'.fz e fun b hb => (k3 b hb).1
    obtain ⟨A2, e4, l4⟩ := er_backs ls e3 r' (argAt_more r.2.1)
    have t4 : Tr S H (A + B) S' H' (A' + C + A) := by rw [add_comm' A B]; exact t'.frameTr
    have l5 : ∀ b, (A2 + C) b ≤ (A' + C + A) b := fun b => by have := l4 b; simp only [add_at] at this ⊢; omega
    exact k v S' H' A2 C (w3.less l5) e4 q' (t4.less l5)
  | exc x as' =>
    intro Q k
    refine ⟨by rw [List.length_append, r.2.2]; exact hn, S, B, _, w1, hor, ?_⟩
    rw [hF]
    intro cls d S' H' A' w' r' x' t'
    obtain ⟨w3, k3⟩ := t'.frame w2 w'
    have e3 := er_keep (K := K) t'.fz e fun b hb => (k3 b hb).1
    obtain ⟨A2, e4, l4⟩ := er_backs ls e3 r' (argAt_more r.2.1)
    have t4 : Tr S H (A + B) S' H' (A' + A) := by rw [add_comm' A B]; exact t'.frameTr
    have l5 : ∀ b, A2 b ≤ (A' + A) b := fun b => by have := l4 b; simp only [add_at] at this ⊢; omega
    exact k cls d S' H' A2 (w3.less l5) e4 x' (t4.less l5)
theorem ev_call {k : Nat} {f : Addr} {fd : FuncData} {ps : List Str} {n : Nat} {F : List O → FO} {ds : List Value} {dvs : List V} {dd : List PyData} {fa : FA} {x : Str} {p pos : Pos} (G : FnOk X.prog X.w X.K X.mg X.base (L2.CX X.prog X.w) k f fd ps (spOf X.K n F)) (hr : Room k X.A) (tk : Takes X W)
    (hg : Gl X x) (hm : X.mg x = some (.ref f)) (hk : PySem.W.keepIn X.K (.ref f) = true) (hb : Binds X.K fd ps ds) (hd : Vals dvs ds) (hdd : ∀ S, DpAll X.K S dvs dd) (ha : AV X W (e :: es) ls fa) (hn : ls.length + dvs.length = n := by rfl)
    (hdb : (x == ("__debug__" : Str)) = false := by decide) (he : starEach (e :: es) X.env = (false, eval e X.env) :: starEach es X.env := by rfl) (hpl : (backTo pos (starEach es X.env)).any (·.1) = false := by rfl) :
    EV X W (.Call (.Name x p) (e :: es) [] pos) (eCall F ls dd fa) :=
  let ⟨_, a1, a2⟩ := ha.ex; ⟨_, pe_callSD G hr hg hm hk hb hd (fun σ => passAt tk σ) a1 hdb he hpl, sndE_call a2 hdd hn⟩
theorem argAt_len {σ : St} {ls : List (Option Nat)} {vs : List V} {os : List O} {S H : Hp} {B : Fp} (r : ORs K S H vs os B) : vs.length = os.length := by
  have go : ∀ {vs : List V} {os : List O} {B : Fp}, ORs K S H vs os B → vs.length = os.length := by
    intro vs
    induction vs with
    | nil => intro os B h; cases h; rfl
    | cons v vs ih =>
      intro os B h
      cases h with
      | cons q r z => simp [ih r]
  exact go r
end
end Ls

namespace Ls
open PySem L2
variable [Tb]
/-! ### a list's, a tuple's settled items -/
def allFz : List O → Option (List PyData)
  | [] => some []
  | .fz d :: xs => (allFz xs).map fun ds => d :: ds
  | _ :: _ => none
def itemsO : O → Option (Bool × List PyData)
  | .fz (.list ds) => some (true, ds)
  | .fz (.tuple ds) => some (false, ds)
  | .lst xs => (allFz xs).map fun ds => (true, ds)
  | _ => none
def SqB (K : PySem.W.Frag) (H : Hp) (a : Addr) (vs : List V) : Bool → Prop
  | true => SqL K H a vs
  | false => SqT K H a vs
section
variable {K : PySem.W.Frag} {W : WX} {S H : Hp} {A B C : Fp} {σ : St} {ρ : En}
theorem ors_allFz : ∀ {vs : List V} {xs : List O} {B : Fp} {ds : List PyData}, ORs K S H vs xs B → allFz xs = some ds → DpAll K S vs ds ∧ ∀ b, B b = 0
  | _, _, _, _, .nil z, h => by cases h; exact ⟨.nil, z⟩
  | _, _, _, _, .cons (x := x) (xs := xs) q r z, h => by
    cases q with
    | fz q z1 =>
      obtain ⟨ds', e1, e2⟩ := Option.map_eq_some_iff.mp (show (allFz xs).map _ = some _ from h)
      subst e2
      obtain ⟨h1, h2⟩ := ors_allFz r e1
      exact ⟨.cons q h1, fun b => by rw [z b, z1 b, h2 b]⟩
    | raw z1 => cases h
    | exn _ z1 => cases h
    | lst _ _ _ => cases h
theorem or_items {v : V} {o : O} {l : Bool} {ds : List PyData} (sub : ∀ a u, S a = some u → H a = some u) (q : OR K S H v o B) (h : itemsO o = some (l, ds)) : ∃ a vs, v = .ref a ∧ SqB K H a vs l ∧ DpAll K S vs ds := by
  cases q with
  | fz q z =>
    cases q with
    | lst s r => cases h; exact ⟨_, _, rfl, sqL_mono sub s, r⟩
    | tup s r => cases h; exact ⟨_, _, rfl, sqT_mono sub s, r⟩
    | _ => cases h
  | raw z => cases h
  | exn _ z => cases h
  | lst e r z =>
    obtain ⟨ds', e1, e2⟩ := Option.map_eq_some_iff.mp (show (allFz _).map _ = some _ from h)
    cases e2
    exact ⟨_, _, rfl, SqL.of e, (ors_allFz r e1).1⟩
theorem pk_or {v : V} {p : Pk} {o : O} (e : ER K S H σ ρ A) (r : RPk K σ S H v p B) (h : pkO ρ p = some o) : ∃ B', OR K S H v o B' := by
  cases r with
  | o q => cases h; exact ⟨_, q⟩
  | @v _ _ _ _ i _ h1 z =>
    have h : (ρ[i]?).bind id = some o := h
    cases hi : ρ[i]? with
    | none => rw [hi] at h; cases h
    | some x =>
      rw [hi] at h
      cases x with
      | none => cases h
      | some o' =>
        cases h
        obtain ⟨v', B', C', e1, q, _, _⟩ := er_get e hi
        rw [h1] at e1
        cases e1
        exact ⟨B', q⟩
theorem dpall_len : ∀ {vs : List V} {ds : List PyData}, DpAll K S vs ds → vs.length = ds.length
  | _, _, .nil => rfl
  | _, _, .cons _ r => by simp [dpall_len r]
theorem dpall_get : ∀ {vs : List V} {ds : List PyData} {j : Nat} {d : PyData}, DpAll K S vs ds → ds[j]? = some d → ∃ v, vs[j]? = some v ∧ Dp K S v d
  | _, _, _, _, .nil, h => by simp at h
  | _, _, 0, _, .cons q _, h => by simp at h; subst h; exact ⟨_, rfl, q⟩
  | _, _, j + 1, d, .cons _ r, h => by
    obtain ⟨v, h1, h2⟩ := dpall_get (j := j) r (by simpa using h)
    exact ⟨v, by simpa using h1, h2⟩
theorem dpall_at {vs : List V} {ds : List PyData} {i : Int} {d : PyData} (h : DpAll K S vs ds) (e : atI ds i = some d) : ∃ v, atI vs i = some v ∧ Dp K S v d := by
  unfold atI at e ⊢
  rw [dpall_len h]
  obtain ⟨j, e1, e2⟩ := Option.bind_eq_some_iff.mp e
  obtain ⟨v, h1, h2⟩ := dpall_get h e2
  exact ⟨v, by rw [e1]; exact h1, h2⟩
/-! ### xs[i] -/
def ixO : O → Int → Option PyData
  | .fz (.str z), i => if z.length ≤ sizeLine then (atI z.cps.toList i).map fun c => .str ⟨#[c]⟩ else none
  | o, i => (itemsO o).bind fun p => atI p.2 i
theorem ixO_eq {o : O} {i : Int} (h : ∀ z, o ≠ .fz (.str z)) : ixO o i = (itemsO o).bind fun p => atI p.2 i := by
  cases o with
  | fz d => cases d <;> first | rfl | exact absurd rfl (h _)
  | _ => rfl
def eIx (fa fb : FP) : FE := fun ρ => (fa ρ).bind fun a ρ1 => (fb ρ1).bind fun b ρ2 => match pkO ρ2 a, pkD ρ2 b with
  | some o, some (.int i) => (match ixO o i with
    | some d => .ok (.fz d) ρ2
    | none => .bad)
  | _, _ => .bad
theorem ix_rule {x y : V} {o : O} {i : Int} {d : PyData} (sub : ∀ a u, S a = some u → H a = some u) (q : OR K S H x o B) (hy : y = .int i) (h : ixO o i = some d) : ∀ Q : VK, (∀ v, Dp K S v d → Q v H) → rIx K x y H Q := by
  intro Q k
  by_cases hs : ∃ z, o = .fz (.str z)
  · obtain ⟨z, rfl⟩ := hs
    have h : (if z.length ≤ sizeLine then (atI z.cps.toList i).map fun c => PyData.str ⟨#[c]⟩ else none) = some d := h
    by_cases hz : z.length ≤ sizeLine
    · rw [if_pos hz] at h
      obtain ⟨c, e1, e2⟩ := Option.map_eq_some_iff.mp h
      subst e2
      cases q with
      | fz q _ =>
        cases q
        exact .inr (.inr ⟨z, i, c, rfl, hy, hz, e1, k _ (.str _)⟩)
    · rw [if_neg hz] at h; cases h
  · rw [ixO_eq fun z e => hs ⟨z, e⟩] at h
    obtain ⟨⟨l, ds⟩, e1, e2⟩ := Option.bind_eq_some_iff.mp h
    obtain ⟨a, vs, ev, sq, da⟩ := or_items sub q e1
    obtain ⟨v, h1, h2⟩ := dpall_at da e2
    cases l with
    | true => exact .inl ⟨a, vs, i, v, ev, hy, sq, h1, k v h2⟩
    | false => exact .inr (.inl ⟨a, vs, i, v, ev, hy, sq, h1, k v h2⟩)
/-- two operands worked out, then what is made of them at that moment -/
theorem snd_two {β α : Type} {R : RR β α} {ta tb : TE} {fa fb : FP} {r : V → V → Hp → (β → Hp → Prop) → Prop} {k : Pk → Pk → En → Out α} (ha : SndP K W ta fa) (hb : SndP K W tb fb)
    (hk : ∀ x y a b σ ρ S H A B, WF S H (A + B) → ER K S H σ ρ A → (∀ o, pkO ρ a = some o → ∃ B', OR K S H x o B') → (∀ o, pkO ρ b = some o → ∃ B', OR K S H y o B') → OutOk K W R (fun _ H Q => r x y H Q) σ S H (A + B) (k a b ρ)) :
    Snd K W R (fun σ H Q => ta σ H fun x H1 => tb σ H1 fun y H2 => r x y H2 Q) fun ρ => (fa ρ).bind fun a ρ1 => (fb ρ1).bind fun b ρ2 => k a b ρ2 := by
  refine snd_bind (u := fun x σ H Q => tb σ H fun y H2 => r x y H2 Q) ha fun x a σ ρ S H A B w e ra => ?_
  have h2 := snd_beside hb w e
  show OutOk K W R _ σ S H (A + B) ((fb ρ).bind _)
  cases hf : fb ρ with
  | bad => exact True.intro
  | exc x' ρ' =>
    rw [hf] at h2
    exact fun Q k => h2 _ k
  | ok b ρ2 =>
    rw [hf] at h2
    show OutOk K W R _ σ S H (A + B) (k a b ρ2)
    cases hk2 : k a b ρ2 with
    | bad => exact True.intro
    | exc x' ρ' =>
      intro Q q
      refine h2 _ fun y S' H' A' C w' e' rb t' sub kp => ?_
      have ra' := stays_pk σ S H S' H' x a B sub kp ra
      rw [add_assoc'] at w' t'
      have h3 := hk x y a b σ ρ2 S' H' A' (C + B) w' e' (fun o ho => pk_or e' ra' ho) fun o ho => pk_or e' rb ho
      rw [hk2] at h3
      exact h3 Q fun cls d S4 H4 A4 w4 e4 x4 t4 => q cls d S4 H4 A4 w4 e4 x4 (t'.trans t4)
    | ok c ρ' =>
      intro Q q
      refine h2 _ fun y S' H' A' C w' e' rb t' sub kp => ?_
      have ra' := stays_pk σ S H S' H' x a B sub kp ra
      rw [add_assoc'] at w' t'
      have h3 := hk x y a b σ ρ2 S' H' A' (C + B) w' e' (fun o ho => pk_or e' ra' ho) fun o ho => pk_or e' rb ho
      rw [hk2] at h3
      exact h3 Q fun v S4 H4 A4 B4 w4 e4 r4 t4 => q v S4 H4 A4 B4 w4 e4 r4 (t'.trans t4)
theorem pkD_or {x : V} {p : Pk} {d : PyData} (sub : ∀ a u, S a = some u → H a = some u) (h : ∀ o, pkO ρ p = some o → ∃ B', OR K S H x o B') (e : pkD ρ p = some d) : Dp K H x d := by
  obtain ⟨o, e1, e2⟩ := Option.bind_eq_some_iff.mp e
  obtain ⟨B', q⟩ := h o e1
  exact or_peek sub q e2
theorem sndE_ix {ta tb : TE} {fa fb : FP} (ha : SndP K W ta fa) (hb : SndP K W tb fb) : SndE K W (tOp (rIx K) ta tb) (eIx fa fb) := by
  refine snd_two (r := rIx K) ha hb fun x y a b σ ρ S H A B w e ra rb => ?_
  cases h1 : pkO ρ a with
  | none => exact True.intro
  | some o =>
    cases h2 : pkD ρ b with
    | none => exact True.intro
    | some d =>
      cases d with
      | int i =>
        show OutOk K W (ROr K) _ σ S H (A + B) (match ixO o i with
          | some d => Out.ok (.fz d) ρ
          | none => .bad)
        cases h3 : ixO o i with
        | none => exact True.intro
        | some d =>
          intro Q k
          obtain ⟨B', q⟩ := ra o h1
          exact ix_rule w.sub q (dp_int (pkD_or w.sub rb h2)) h3 Q fun v hv => fzEnd w e hv k
      | _ => exact True.intro
/-! ### displays -/
def eTup (fa : FA) : FE := fun ρ => (fa ρ).bind fun os ρ1 => match frzs os with
  | some ds => .ok (.fz (.tuple ds)) ρ1
  | none => .bad
def eLst (fa : FA) : FE := fun ρ => (fa ρ).bind fun os ρ1 => .ok (.lst os) ρ1
/-- a new settled tuple of held things -/
theorem tupEnd {p : Addr} {vs : List V} {os : List O} {ds : List PyData} {Q : VK} (w : WF S H (A + B)) (e : ER K S H σ ρ A) (r : ORs K S H vs os B) (h : frzs os = some ds) (hp : H p = none) (k : PostV K (ROr K) σ S H (A + B) (.fz (.tuple ds)) ρ Q) : Q (.ref p) (upd H p (.tup vs)) := by
  obtain ⟨w1, t1, sub1⟩ := settle_wf w
  have d1 := ors_settle (fun b hb => w.dj b (by rw [add_at]; omega)) (fun b => Nat.le_refl _) r h
  obtain ⟨w2, t2, k2, sub2⟩ := newF (u := .tup vs) w1 hp
  refine k _ _ _ A Fp.z (by rw [addz]; exact w2) (er_keep sub2 (er_keep sub1 e fun _ _ => rfl) k2) (.fz (.tup (SqT.of upd_same) (dpa_mono sub2 d1)) fun _ => rfl) (by rw [addz]; exact t1.trans t2)
/-- a new list of one's own -/
theorem lstEnd {p : Addr} {vs : List V} {os : List O} {Q : VK} (w : WF S H (A + B)) (e : ER K S H σ ρ A) (r : ORs K S H vs os B) (hp : H p = none) (k : PostV K (ROr K) σ S H (A + B) (.lst os) ρ Q) : Q (.ref p) (upd H p (.lst vs)) := by
  obtain ⟨w1, t1, k1⟩ := newO (u := .lst vs) w hp
  have eA : Fp.one p + (A + B) = A + (Fp.one p + B) := funext fun b => by simp only [add_at]; omega
  rw [eA] at w1 t1
  refine k _ _ _ A (Fp.one p + B) w1 (er_keep (fun _ _ h => h) e fun a z => k1 a (by rw [add_at]; omega)) (.lst upd_same (ors_keep (fun _ _ h => h) (fun a z => k1 a (by rw [add_at]; omega)) r) fun b => add_at _ _ b) t1
/-- .. of settled items -/
theorem ors_fz : ∀ {vs : List V} {ds : List PyData}, DpAll K S vs ds → ORs K S H vs (ds.map O.fz) Fp.z
  | _, _, .nil => .nil fun _ => rfl
  | _, _, .cons q r => .cons (B := Fp.z) (C := Fp.z) (.fz q fun _ => rfl) (ors_fz r) fun _ => rfl
theorem lstFz {p : Addr} {vs : List V} {ds : List PyData} {Q : VK} (w : WF S H (A + B)) (e : ER K S H σ ρ A) (r : DpAll K S vs ds) (hp : H p = none) (k : PostV K (ROr K) σ S H (A + B) (.lst (ds.map O.fz)) ρ Q) : Q (.ref p) (upd H p (.lst vs)) := by
  have w1 : WF S H (A + Fp.z) := by rw [addz]; exact w.less le1
  refine lstEnd w1 e (ors_fz r) hp fun v S' H' A' B' w' e' r' t' => k v S' H' A' B' w' e' r' ?_
  rw [addz] at t'
  exact (Tr.refl.less le1).trans t'
theorem tupFz {p : Addr} {vs : List V} {ds : List PyData} {Q : VK} (w : WF S H (A + B)) (e : ER K S H σ ρ A) (r : DpAll K S vs ds) (hp : H p = none) (k : PostV K (ROr K) σ S H (A + B) (.fz (.tuple ds)) ρ Q) : Q (.ref p) (upd H p (.tup vs)) := by
  have w1 : WF S H (A + Fp.z) := by rw [addz]; exact w.less le1
  have hz : frzs (ds.map O.fz) = some ds := by
    clear r k
    induction ds with
    | nil => rfl
    | cons d ds ih =>
      show ((frz (O.fz d)).bind fun d => (frzs (ds.map O.fz)).map fun ds => d :: ds) = some (d :: ds)
      rw [ih]
      rfl
  refine tupEnd w1 e (ors_fz r) hz hp fun v S' H' A' B' w' e' r' t' => k v S' H' A' B' w' e' r' ?_
  rw [addz] at t'
  exact (Tr.refl.less le1).trans t'
theorem sndE_tup {ls : List (Option Nat)} {ta : TA} {fa : FA} (ha : Snd K W (RArgs K ls) ta fa) (hn : ls.length ≤ sizeLine) : SndE K W (tTup ta) (eTup fa) := by
  refine snd_bind (u := fun (vs : List V) (σ : St) (H : Hp) (Q : VK) => vs.length ≤ sizeLine ∧ ∀ p, H p = none → Q (V.ref p) (upd H p (.tup vs))) ha fun vs os σ ρ S H A B w e r => ?_
  show OutOk K W (ROr K) _ σ S H (A + B) (match frzs os with
    | some ds => Out.ok (.fz (.tuple ds)) ρ
    | none => .bad)
  cases h : frzs os with
  | none => exact True.intro
  | some ds => exact fun Q k => ⟨by rw [r.2.2]; exact hn, fun p hp => tupEnd w e r.1 h hp k⟩
theorem sndE_lst {ls : List (Option Nat)} {ta : TA} {fa : FA} (ha : Snd K W (RArgs K ls) ta fa) (hn : ls.length ≤ sizeLine) : SndE K W (tLst ta) (eLst fa) := by
  refine snd_bind (u := fun (vs : List V) (σ : St) (H : Hp) (Q : VK) => vs.length ≤ sizeLine ∧ ∀ p, H p = none → Q (V.ref p) (upd H p (.lst vs))) ha fun vs os σ ρ S H A B w e r => ?_
  exact fun Q k => ⟨by rw [r.2.2]; exact hn, fun p hp => lstEnd w e r.1 hp k⟩
end
section
variable {X : Cx} {W : WX} {a b : Expr} {fa fb : FP} {pos : Pos} {es : List Expr} {ls : List (Option Nat)} {f : FA}
theorem ev_ix (ha : PV X W a fa) (hb : PV X W b fb) (hs : PlainIx b := by exact fun _ _ => rfl) : EV X W (.Subscript a b pos) (eIx fa fb) := let ⟨_, a1, a2⟩ := ha.ex; let ⟨_, b1, b2⟩ := hb.ex; ⟨_, pe_ix ix_seq a1 b1 hs, sndE_ix a2 b2⟩
theorem ev_tup {x1} (h : AV X W es ls f) (hn : ls.length ≤ sizeLine := by decide) : EV X W (.Tuple es x1 pos) (eTup f) := let ⟨_, a1, a2⟩ := h.ex; ⟨_, pe_tup a1, sndE_tup a2 hn⟩
theorem ev_lst (h : AV X W es ls f) (hn : ls.length ≤ sizeLine := by decide) : EV X W (.List es pos) (eLst f) := let ⟨_, a1, a2⟩ := h.ex; ⟨_, pe_lst a1, sndE_lst a2 hn⟩
end
end Ls

namespace Ls
open PySem L2
variable [Tb]
section
variable {K : PySem.W.Frag} {W : WX} {S H : Hp} {A B C : Fp} {σ : St} {ρ : En}
/-- one operand worked out, then what is made of it -/
theorem snd_one {β α : Type} {R : RR β α} {ta : TE} {fa : FP} {r : V → Hp → (β → Hp → Prop) → Prop} {k : Pk → En → Out α} (ha : SndP K W ta fa)
    (hk : ∀ x a σ ρ S H A B, WF S H (A + B) → ER K S H σ ρ A → (∀ o, pkO ρ a = some o → ∃ B', OR K S H x o B') → OutOk K W R (fun _ H Q => r x H Q) σ S H (A + B) (k a ρ)) :
    Snd K W R (fun σ H Q => ta σ H fun x H1 => r x H1 Q) fun ρ => (fa ρ).bind fun a ρ1 => k a ρ1 :=
  snd_bind (u := fun x _ H Q => r x H Q) ha fun x a σ ρ S H A B w e ra => hk x a σ ρ S H A B w e fun o ho => pk_or e ra ho
/-! ### a built-in of one thing whose worth names no object -/
def BiS (K : PySem.W.Frag) (r : List V → Hp → VK → Prop) (g : O → Option PyData) : Prop :=
  ∀ x S H o B c, (∀ a u, S a = some u → H a = some u) → OR K S H x o B → g o = some c → ∀ Q : VK, (∀ v, Sc v c → Q v H) → r [x] H Q
def eB1 (g : O → Option PyData) (fa : FP) : FE := fun ρ => (fa ρ).bind fun a ρ1 => match (pkO ρ1 a).bind g with
  | some c => .ok (.fz c) ρ1
  | none => .bad
theorem sndE_b1 {r : List V → Hp → VK → Prop} {g : O → Option PyData} {ta : TE} {fa : FP} (hg : BiS K r g) (ha : SndP K W ta fa) : SndE K W (tCB r (tCons ta tNil)) (eB1 g fa) := by
  refine snd_one (r := fun x H Q => r [x] H Q) ha fun x a σ ρ S H A B w e ra => ?_
  cases h : (pkO ρ a).bind g with
  | none => exact True.intro
  | some c =>
    obtain ⟨o, h1, h2⟩ := Option.bind_eq_some_iff.mp h
    obtain ⟨B', q⟩ := ra o h1
    exact fun Q k => hg x S H o B' c w.sub q h2 Q fun v hv => fzEnd w e (hv K S) k
def lenO : O → Option PyData
  | .fz (.list xs) => some (.int xs.length)
  | .fz (.tuple xs) => some (.int xs.length)
  | .fz (.str z) => if z.length ≤ sizeLine then some (.int z.length) else none
  | .lst xs => some (.int xs.length)
  | _ => none
theorem ors_len {vs : List V} {os : List O} (r : ORs K S H vs os B) : vs.length = os.length := argAt_len (σ := []) (ls := []) r
theorem biS_len : BiS K (fun xs H Q => ∃ x n, xs = [x] ∧ LenV K x H n ∧ Q (.int n) H) lenO := by
  intro x S H o B c sub q h Q k
  cases q with
  | fz q z =>
    cases q with
    | lst s r => cases h; exact ⟨_, _, rfl, .inl ⟨_, sqL_mono sub s, (dpall_len r).symm⟩, k _ (Sc.int _)⟩
    | tup s r => cases h; exact ⟨_, _, rfl, .inr ⟨_, sqT_mono sub s, (dpall_len r).symm⟩, k _ (Sc.int _)⟩
    | str z =>
      have h : (if z.length ≤ sizeLine then some (PyData.int z.length) else none) = some c := h
      by_cases hz : z.length ≤ sizeLine
      · rw [if_pos hz] at h; cases h; exact ⟨_, _, rfl, ⟨hz, rfl⟩, k _ (Sc.int _)⟩
      · rw [if_neg hz] at h; cases h
    | _ => cases h
  | raw z => cases h
  | exn _ z => cases h
  | lst e r z => cases h; exact ⟨_, _, rfl, .inl ⟨_, SqL.of e, (ors_len r).symm⟩, k _ (Sc.int _)⟩
def intsD : List PyData → Option (List Int)
  | [] => some []
  | .int i :: ds => (intsD ds).map fun ns => i :: ns
  | _ :: _ => none
def bolsD : List PyData → Option (List Bool)
  | [] => some []
  | .bool b :: ds => (bolsD ds).map fun bs => b :: bs
  | _ :: _ => none
theorem dpall_ints : ∀ {vs : List V} {ds : List PyData} {ns : List Int}, DpAll K S vs ds → intsD ds = some ns → vs = ns.map V.int
  | _, _, _, .nil, h => by cases h; rfl
  | _, _, _, .cons q r, h => by
    cases q with
    | int i =>
      obtain ⟨ns', e1, e2⟩ := Option.map_eq_some_iff.mp (show (intsD _).map _ = some _ from h)
      subst e2
      rw [dpall_ints r e1]; rfl
    | _ => cases h
theorem dpall_bols : ∀ {vs : List V} {ds : List PyData} {ns : List Bool}, DpAll K S vs ds → bolsD ds = some ns → vs = ns.map V.bl
  | _, _, _, .nil, h => by cases h; rfl
  | _, _, _, .cons q r, h => by
    cases q with
    | bl i =>
      obtain ⟨ns', e1, e2⟩ := Option.map_eq_some_iff.mp (show (bolsD _).map _ = some _ from h)
      subst e2
      rw [dpall_bols r e1]; rfl
    | _ => cases h
def lstI (o : O) : Option (List PyData) := match itemsO o with
  | some (true, ds) => some ds
  | _ => none
theorem or_lst {x : V} {o : O} {ds : List PyData} (sub : ∀ a u, S a = some u → H a = some u) (q : OR K S H x o B) (h : lstI o = some ds) : ∃ a vs, x = .ref a ∧ SqL K H a vs ∧ DpAll K S vs ds := by
  unfold lstI at h
  cases e : itemsO o with
  | none => rw [e] at h; cases h
  | some p =>
    obtain ⟨l, ds'⟩ := p
    rw [e] at h
    cases l with
    | false => cases h
    | true => cases h; exact or_items sub q e
def sumO (o : O) : Option PyData := ((lstI o).bind intsD).map fun ns => .int ns.sum
def allO (o : O) : Option PyData := ((lstI o).bind bolsD).map fun bs => .bool (bs.all id)
def anyO (o : O) : Option PyData := ((lstI o).bind bolsD).map fun bs => .bool (bs.any id)
theorem biS_sum : BiS K (rSum K) sumO := by
  intro x S H o B c sub q h Q k
  obtain ⟨ns, e1, e2⟩ := Option.map_eq_some_iff.mp h
  obtain ⟨ds, e3, e4⟩ := Option.bind_eq_some_iff.mp e1
  obtain ⟨a, vs, ev, sq, da⟩ := or_lst sub q e3
  subst e2
  rw [dpall_ints da e4] at sq
  exact ⟨a, ns, by rw [ev], sq, k _ (Sc.int _)⟩
theorem biS_all : BiS K (rAll K) allO := by
  intro x S H o B c sub q h Q k
  obtain ⟨ns, e1, e2⟩ := Option.map_eq_some_iff.mp h
  obtain ⟨ds, e3, e4⟩ := Option.bind_eq_some_iff.mp e1
  obtain ⟨a, vs, ev, sq, da⟩ := or_lst sub q e3
  subst e2
  rw [dpall_bols da e4] at sq
  exact ⟨a, ns, by rw [ev], sq, k _ (Sc.bl _)⟩
theorem biS_any : BiS K (rAny K) anyO := by
  intro x S H o B c sub q h Q k
  obtain ⟨ns, e1, e2⟩ := Option.map_eq_some_iff.mp h
  obtain ⟨ds, e3, e4⟩ := Option.bind_eq_some_iff.mp e1
  obtain ⟨a, vs, ev, sq, da⟩ := or_lst sub q e3
  subst e2
  rw [dpall_bols da e4] at sq
  exact ⟨a, ns, by rw [ev], sq, k _ (Sc.bl _)⟩
def absO : O → Option PyData
  | .fz (.int i) => some (.int (if i < 0 then -i else i))
  | _ => none
def intO : O → Option PyData
  | .fz (.int i) => some (.int i)
  | .fz (.bool b) => some (.int (if b then 1 else 0))
  | _ => none
theorem biS_abs : BiS K (fun xs H Q => ∃ i, xs = [.int i] ∧ Q (.int (if i < 0 then -i else i)) H) absO := by
  intro x S H o B c sub q h Q k
  cases q with
  | fz q z =>
    cases q with
    | int i => cases h; exact ⟨i, rfl, k _ (Sc.int _)⟩
    | _ => cases h
  | _ => cases h
theorem biS_int : BiS K (fun xs H Q => (∃ i, xs = [.int i] ∧ Q (.int i) H) ∨ ∃ k, xs = [.bl k] ∧ Q (.int (if k then 1 else 0)) H) intO := by
  intro x S H o B c sub q h Q k
  cases q with
  | fz q z =>
    cases q with
    | int i => cases h; exact .inl ⟨i, rfl, k _ (Sc.int _)⟩
    | bl b => cases h; exact .inr ⟨b, rfl, k _ (Sc.int _)⟩
    | _ => cases h
  | _ => cases h
/-! ### isinstance(x, T) of a built-in class -/
def tyO : O → Option String
  | .fz .none => some "NoneType"
  | .fz (.bool _) => some "bool"
  | .fz (.int _) => some "int"
  | .fz (.str _) => some "str"
  | .fz (.list _) => some "list"
  | .fz (.tuple _) => some "tuple"
  | .lst _ => some "list"
  | _ => none
def isiO (n : String) (o : O) : Option PyData := ((tyO o).bind fun t => kitB t n).map PyData.bool
theorem tyx_of {x : V} {o : O} {t : String} (sub : ∀ a u, S a = some u → H a = some u) (q : OR K S H x o B) (h : tyO o = some t) : TyX K H x (.type t) := by
  cases q with
  | fz q z =>
    cases q with
    | non => cases h; exact .base .non
    | bl b => cases h; exact .base (.bl b)
    | int i => cases h; exact .base (.int i)
    | str y => cases h; exact .base (.str y)
    | lst s r =>
      cases h
      rcases s with (s | ⟨o, s⟩) | ⟨o, its, n, s, c, _⟩
      · exact .base (.lst (sub _ _ s))
      · exact .base (.frz (sub _ _ s))
      · exact .kList s c
    | tup s r =>
      cases h
      rcases s with (s | ⟨o, s⟩) | ⟨o, its, n, s, c, _⟩
      · exact .base (.tup (sub _ _ s))
      · exact .fTuple (sub _ _ s)
      · exact .kTuple s c
  | raw z => cases h
  | exn _ z => cases h
  | lst e r z => cases h; exact .base (.lst e)
def eIsi (n : String) (fa : FP) : FE := eB1 (isiO n) fa
theorem sndE_isi {n : String} {ta : TE} {fa : FP} (ha : SndP K W ta fa) : SndE K W (tCB (rIsi K) (tCons ta (tCons (tC (.ty n)) tNil))) (eIsi n fa) := by
  refine snd_one (r := fun x H Q => rIsi K [x, .ty n] H Q) ha fun x a σ ρ S H A B w e ra => ?_
  cases h : (pkO ρ a).bind (isiO n) with
  | none => exact True.intro
  | some c =>
    obtain ⟨o, h1, h2⟩ := Option.bind_eq_some_iff.mp h
    obtain ⟨B', q⟩ := ra o h1
    obtain ⟨b, h3, h4⟩ := Option.map_eq_some_iff.mp h2
    obtain ⟨t, h5, h6⟩ := Option.bind_eq_some_iff.mp h3
    subst h4
    exact fun Q k => ⟨x, .ty n, .type t, .type n, b, rfl, .ty n, tyx_of w.sub q h5, kit_ty h6, fzEnd w e (.bl b) k⟩
/-! ### list(x), tuple(x) -/
def eList (fa : FP) : FE := fun ρ => (fa ρ).bind fun a ρ1 => match (pkO ρ1 a).bind itemsO with
  | some (_, ds) => .ok (.lst (ds.map O.fz)) ρ1
  | none => .bad
theorem sqB_or {a : Addr} {vs : List V} {l : Bool} (h : SqB K H a vs l) : SqL K H a vs ∨ SqT K H a vs := by cases l; exact .inr h; exact .inl h
theorem sndE_list {ta : TE} {fa : FP} (ha : SndP K W ta fa) : SndE K W (tCB (fun xs H Q => ∃ p ys, xs = [.ref p] ∧ (SqL K H p ys ∨ SqT K H p ys) ∧ ∀ l, H l = none → Q (.ref l) (upd H l (.lst ys))) (tCons ta tNil)) (eList fa) := by
  refine snd_one (r := fun (x : V) (H : Hp) (Q : VK) => ∃ p ys, [x] = [V.ref p] ∧ (SqL K H p ys ∨ SqT K H p ys) ∧ ∀ l, H l = none → Q (.ref l) (upd H l (.lst ys))) ha fun x a σ ρ S H A B w e ra => ?_
  cases h : (pkO ρ a).bind itemsO with
  | none => exact True.intro
  | some c =>
    obtain ⟨l, ds⟩ := c
    obtain ⟨o, h1, h2⟩ := Option.bind_eq_some_iff.mp h
    obtain ⟨B', q⟩ := ra o h1
    obtain ⟨p, vs, ev, sq, da⟩ := or_items w.sub q h2
    exact fun Q k => ⟨p, vs, by rw [ev], sqB_or sq, fun l hl => lstFz w e da hl k⟩
def eTuple (fa : FP) : FE := fun ρ => (fa ρ).bind fun a ρ1 => match (pkO ρ1 a).bind itemsO with
  | some (_, ds) => .ok (.fz (.tuple ds)) ρ1
  | none => .bad
theorem items_tup {x : V} {o : O} {ds : List PyData} (q : OR K S H x o B) (h : itemsO o = some (false, ds)) : Dp K S x (.tuple ds) := by
  cases q with
  | fz q z =>
    cases q with
    | tup s r => cases h; exact .tup s r
    | _ => cases h
  | raw z => cases h
  | exn _ z => cases h
  | lst e r z =>
    obtain ⟨_, _, e2⟩ := Option.map_eq_some_iff.mp (show (allFz _).map _ = some _ from h)
    cases e2
theorem sndE_tuple {ta : TE} {fa : FP} (ha : SndP K W ta fa) : SndE K W (tCB (fun xs H Q => ∃ p ys, xs = [.ref p] ∧ ((SqL K H p ys ∧ ∀ l, H l = none → Q (.ref l) (upd H l (.tup ys))) ∨ (SqT K H p ys ∧ Q (.ref p) H))) (tCons ta tNil)) (eTuple fa) := by
  refine snd_one (r := fun (x : V) (H : Hp) (Q : VK) => ∃ p ys, [x] = [V.ref p] ∧ ((SqL K H p ys ∧ ∀ l, H l = none → Q (.ref l) (upd H l (.tup ys))) ∨ (SqT K H p ys ∧ Q (.ref p) H))) ha fun x a σ ρ S H A B w e ra => ?_
  cases h : (pkO ρ a).bind itemsO with
  | none => exact True.intro
  | some c =>
    obtain ⟨l, ds⟩ := c
    obtain ⟨o, h1, h2⟩ := Option.bind_eq_some_iff.mp h
    obtain ⟨B', q⟩ := ra o h1
    obtain ⟨p, vs, ev, sq, da⟩ := or_items w.sub q h2
    intro Q k
    refine ⟨p, vs, by rw [ev], ?_⟩
    cases l with
    | true => exact .inl ⟨sq, fun l hl => tupFz w e da hl k⟩
    | false => exact .inr ⟨sq, by rw [← ev]; exact fzEnd w e (items_tup q h2) k⟩
/-! ### xs + ys, xs * n of lists -/
def rCatS (K : PySem.W.Frag) : R2 := fun x y H Q => ∃ l b xs zs, x = .ref l ∧ y = .ref b ∧ SqL K H l xs ∧ SqL K H b zs ∧ xs.length + zs.length ≤ sizeLine ∧ ∀ p, H p = none → Q (.ref p) (upd H p (.lst (xs ++ zs)))
theorem op_catS {X : Cx} : OpR X (binaryOp .Add) (rCatS X.K) := by
  intro pins s σ H x y v u Q I rx ry h
  obtain ⟨l, b, xs, zs, rfl, rfl, h1, h2, hz, q⟩ := h
  cases rx
  cases ry
  obtain ⟨i1, r1, ⟨⟨c1, d1, t1, s1⟩, n1, e1, k1, k2, k3⟩, _⟩ := I.list h1
  obtain ⟨i2, r2, ⟨⟨c2, d2, t2, s2⟩, n2, e2, j1, j2, j3⟩, _⟩ := I.list h2
  dsimp only at k1 k2 k3 j1 j2 j3
  subst k1 k2 k3 j1 j2 j3
  have hs : i1.toArray.size + i2.toArray.size ≤ sizeLine := by
    have a := r1.length
    have b := r2.length
    rw [List.size_toArray, List.size_toArray]; omega
  refine concat_meets ⟨_, e1, rfl⟩ ⟨_, e2, rfl⟩ noFill_list_add seq_list_add PySem.F.slot_list_add PySem.F.entry_list_add (PySem.F.args_list_add_2 _ _) (PyProof.Rows.list_addW l b i1.toArray i2.toArray n1 n2 none none s1 s2 hs) ⟨e1, e2, ?_⟩
  have ea : i1.toArray ++ i2.toArray = (i1 ++ i2).toArray := by simp
  rw [ea]
  exact ⟨.ref _, _, I.lnew (t' := s.toks) (r1.append r2) (by rw [List.length_append]; exact hz), rfl, q _ I.fresh⟩
theorem dpall_app : ∀ {vs ws : List V} {ds es : List PyData}, DpAll K S vs ds → DpAll K S ws es → DpAll K S (vs ++ ws) (ds ++ es)
  | _, _, _, _, .nil, h => h
  | _, _, _, _, .cons q r, h => .cons q (dpall_app r h)
theorem dpall_rep {vs : List V} {ds : List PyData} (h : DpAll K S vs ds) : ∀ n : Nat, DpAll K S (List.replicate n vs).flatten (List.replicate n ds).flatten
  | 0 => .nil
  | n + 1 => by
    rw [List.replicate_succ, List.replicate_succ, List.flatten_cons, List.flatten_cons]
    exact dpall_app h (dpall_rep h n)
def eCat (fa fb : FP) : FE := fun ρ => (fa ρ).bind fun a ρ1 => (fb ρ1).bind fun b ρ2 => match (pkO ρ2 a).bind lstI, (pkO ρ2 b).bind lstI with
  | some ds, some es => if ds.length + es.length ≤ sizeLine then .ok (.lst ((ds ++ es).map O.fz)) ρ2 else .bad
  | _, _ => .bad
theorem sndE_cat {ta tb : TE} {fa fb : FP} (ha : SndP K W ta fa) (hb : SndP K W tb fb) : SndE K W (tOp (rCatS K) ta tb) (eCat fa fb) := by
  refine snd_two (r := rCatS K) ha hb fun x y a b σ ρ S H A B w e ra rb => ?_
  cases h1 : (pkO ρ a).bind lstI with
  | none => exact True.intro
  | some ds =>
    cases h2 : (pkO ρ b).bind lstI with
    | none => exact True.intro
    | some es =>
      show OutOk K W (ROr K) _ σ S H (A + B) (if ds.length + es.length ≤ sizeLine then Out.ok (.lst ((ds ++ es).map O.fz)) ρ else .bad)
      by_cases hz : ds.length + es.length ≤ sizeLine
      · rw [if_pos hz]
        obtain ⟨o1, a1, a2⟩ := Option.bind_eq_some_iff.mp h1
        obtain ⟨o2, b1, b2⟩ := Option.bind_eq_some_iff.mp h2
        obtain ⟨B1, q1⟩ := ra o1 a1
        obtain ⟨B2, q2⟩ := rb o2 b1
        obtain ⟨p, vs, ev, sq, da⟩ := or_lst w.sub q1 a2
        obtain ⟨p2, vs2, ev2, sq2, da2⟩ := or_lst w.sub q2 b2
        exact fun Q k => ⟨p, p2, vs, vs2, ev, ev2, sq, sq2, by rw [dpall_len da, dpall_len da2]; exact hz, fun l hl => lstFz w e (dpall_app da da2) hl k⟩
      · rw [if_neg hz]; exact True.intro
theorem mulW (l : Addr) (vs : Array Value) (n : Nat) (sl : Array (Option Value)) (x : Int) (u : Tok) (g0 : ¬(!Builtin.List.listFitsIndex x) = true) (g1 : ¬vs.size * x.toNat > (2 ^ 63 - 1) / 8) (g2 : ¬Builtin.List.listTooLong (vs.size * x.toNat) = true) :
    Meets (Builtin.«list.__mul__» ⟨[.ref l, .int x u], []⟩) (fun _ R s => s.heap.get? l = some { cls := .type "list", dict := none, data := .seq vs n, slots := sl } ∧ R (.ok (.ret (Value.ref s.heap.objs.size))) { s with heap := s.heap.push { cls := Value.type "list", data := Data.seq (List.foldl (fun p q => p ++ q) #[] (List.replicate (if vs.isEmpty = true then 0 else x.toNat) vs)) }, toks := s.toks }) :=
  .of_wp fun prog w A R s h => by
    obtain ⟨hp, g, d, tk, os⟩ := s
    obtain ⟨hl, h⟩ := h
    have f1 := AutoSeq1.idx_int
    have big := AutoListH.joined_fits g2
    wp_walk using wpAny_loadPart' hl
    refine wpAny_ite_false (decide_eq_false (Nat.not_lt.mpr big)) ?_
    wp_walk using wpAny_loadPart' hl
    exact ⟨_, rfl, h⟩
theorem rmulW (a : Int) (t : Tok) (l : Addr) (vs : Array Value) (n : Nat) (sl : Array (Option Value)) :
    Meets (Builtin.«int.__rmul__» ⟨[.int a t, .ref l], []⟩) (fun _ R s => s.heap.get? l = some { cls := .type "list", dict := none, data := .seq vs n, slots := sl } ∧ R (.ok (.ret Value.notImplemented)) s) :=
  .of_wp fun prog w A R s h => by
    obtain ⟨hp, g, d, tk, os⟩ := s
    obtain ⟨hl, h⟩ := h
    wp_walk using wpAny_loadPart' hl
    exact ⟨_, rfl, h⟩
theorem fold_rep (vs : List Value) : ∀ (m : Nat) (acc : List Value), List.foldl (fun p q => p ++ q) acc.toArray (List.replicate m vs.toArray) = (acc ++ (List.replicate m vs).flatten).toArray
  | 0, acc => by simp
  | m + 1, acc => by
    rw [List.replicate_succ, List.foldl_cons, show acc.toArray ++ vs.toArray = (acc ++ vs).toArray by simp, fold_rep vs m, List.replicate_succ, List.flatten_cons, List.append_assoc]
theorem fold_rep0 (vs : List Value) (m : Nat) : List.foldl (fun p q => p ++ q) #[] (List.replicate (if vs.toArray.isEmpty = true then 0 else m) vs.toArray) = (List.replicate m vs).flatten.toArray := by
  have h : ∀ m, List.foldl (fun p q => p ++ q) #[] (List.replicate m vs.toArray) = (List.replicate m vs).flatten.toArray := fun m => by
    have := fold_rep vs m []
    rw [List.nil_append] at this
    exact this
  rw [h]
  cases vs with
  | nil => simp
  | cons a r => rw [if_neg (by simp)]
def rRepS (K : PySem.W.Frag) : R2 := fun x y H Q => ∃ l n xs, x = .ref l ∧ y = .int n ∧ SqL K H l xs ∧ (-(2 ^ 63) ≤ n ∧ n < 2 ^ 63 ∧ xs.length * n.toNat ≤ sizeLine) ∧ ∀ p, H p = none → Q (.ref p) (upd H p (.lst (List.replicate n.toNat xs).flatten))
theorem op_repS {X : Cx} : OpR X (binaryOp .Mult) (rRepS X.K) := by
  intro pins s σ H x y v u Q I rx ry h
  obtain ⟨l, n, xs, rfl, rfl, hs, ⟨n1, n2, hz⟩, q⟩ := h
  cases rx
  obtain ⟨t, rfl⟩ := ry
  obtain ⟨i1, r1, ⟨⟨c1, d1, t1, s1⟩, m1, e1, k1, k2, k3⟩, _⟩ := I.list hs
  dsimp only at k1 k2 k3
  subst k1 k2 k3
  have hl := r1.length
  have hsz : i1.toArray.size * n.toNat ≤ sizeLine := by rw [List.size_toArray, ← hl]; exact hz
  have g0 : ¬ (!Builtin.List.listFitsIndex n) = true := by rw [fitsIndex_both n1 n2]; decide
  have g1 : ¬ i1.toArray.size * n.toNat > (2 ^ 63 - 1) / 8 := by
    have : (sizeLine : Nat) ≤ (2 ^ 63 - 1) / 8 := by decide
    omega
  have g2 : ¬ Builtin.List.listTooLong (i1.toArray.size * n.toNat) = true := by rw [notLongL hsz]; decide
  have st : s.TypeIs (.ref l) "list" := ⟨_, e1, rfl⟩
  refine wpAny_binaryOp_repeat_ref (T := "list") (U := "int") (by decide) st (fun z => typeIs_int z n t) noFill_list_mul F.fills_int_mul F.slot_int_rmul repeat_list F.slot_int_index.lookup ?_
  refine call_meets F.slot_int_rmul (typeIs_int s n t) F.entry_int_rmul (F.args_int_rmul_2 _ _) (rmulW n t l i1.toArray m1 s1) ⟨e1, rfl, st, ?_⟩
  refine call_meets F.slot_list_mul st F.entry_list_mul (F.args_list_mul_2 _ _) (mulW l i1.toArray m1 s1 n t g0 g1 g2) ⟨e1, ?_⟩
  rw [fold_rep0]
  refine ⟨.ref _, _, I.lnew (t' := s.toks) (r1.rep n.toNat) ?_, rfl, q _ I.fresh⟩
  rw [PyProof.Rows.lm_len_rep_flat, Nat.mul_comm]
  exact hz
def ownL : O → Option (List PyData)
  | .lst xs => allFz xs
  | _ => none
def eRep (fa fb : FP) : FE := fun ρ => (fa ρ).bind fun a ρ1 => (fb ρ1).bind fun b ρ2 => match (pkO ρ2 a).bind lstI, pkD ρ2 b with
  | some ds, some (.int n) => if -(2 ^ 63) ≤ n ∧ n < 2 ^ 63 ∧ ds.length * n.toNat ≤ sizeLine then .ok (.lst ((List.replicate n.toNat ds).flatten.map O.fz)) ρ2 else .bad
  | _, _ => .bad
theorem sndE_rep {ta tb : TE} {fa fb : FP} (ha : SndP K W ta fa) (hb : SndP K W tb fb) : SndE K W (tOp (rRepS K) ta tb) (eRep fa fb) := by
  refine snd_two (r := rRepS K) ha hb fun x y a b σ ρ S H A B w e ra rb => ?_
  cases h1 : (pkO ρ a).bind lstI with
  | none => exact True.intro
  | some ds =>
    cases h2 : pkD ρ b with
    | none => exact True.intro
    | some d =>
      cases d with
      | int n =>
        show OutOk K W (ROr K) _ σ S H (A + B) (if -(2 ^ 63) ≤ n ∧ n < 2 ^ 63 ∧ ds.length * n.toNat ≤ sizeLine then Out.ok (.lst ((List.replicate n.toNat ds).flatten.map O.fz)) ρ else .bad)
        by_cases hz : -(2 ^ 63) ≤ n ∧ n < 2 ^ 63 ∧ ds.length * n.toNat ≤ sizeLine
        · rw [if_pos hz]
          obtain ⟨o1, a1, a2⟩ := Option.bind_eq_some_iff.mp h1
          obtain ⟨B1, q1⟩ := ra o1 a1
          obtain ⟨p, vs, ev, sq, da⟩ := or_lst w.sub q1 a2
          exact fun Q k => ⟨p, n, vs, ev, dp_int (pkD_or w.sub rb h2), sq, ⟨hz.1, hz.2.1, by rw [dpall_len da]; exact hz.2.2⟩, fun l hl => lstFz w e (dpall_rep da _) hl k⟩
        · rw [if_neg hz]; exact True.intro
      | _ => exact True.intro
/-! ### t * n of tuples, 1 ≤ n -/
theorem tuple_mul1 (l : Addr) (items : Array Value) (n : Nat) (dd : Option Addr) (sl : Array (Option Value)) (u : Tok) :
    Meets (Builtin.«tuple.__mul__» ⟨[.ref l, .int 1 u], []⟩) (fun _ R s => s.heap.get? l = some { cls := .type "tuple", dict := dd, data := .seq items n, slots := sl } ∧ R (.ok (.ret (Value.ref l))) s) :=
  .of_wp fun prog w A R s h => by
    obtain ⟨hp, g, d, tk, os⟩ := s
    obtain ⟨hl, h⟩ := h
    have f1 := AutoSeq1.idx_int
    have c1 : (items.isEmpty || (1 : Int) == 1) = true := by simp
    wp_walk using wpAny_loadPart' hl
    repeat (first
      | (refine wpAny_ite_true (decide_eq_true c1) ?_; wp_walk using wpAny_loadPart' hl))
    exact ⟨_, rfl, h⟩
end
end Ls

namespace Ls
open PySem L2
variable [Tb]
/-! ### t * n -/
def rRep1 (K : PySem.W.Frag) : R2 := fun x y H Q => ∃ l xs, x = .ref l ∧ y = .int 1 ∧ SqT K H l xs ∧ Q (.ref l) H
theorem op_rep1 {X : Cx} : OpR X (binaryOp .Mult) (rRep1 X.K) := by
  intro pins s σ H x y v u Q I rx ry h
  obtain ⟨l, xs, rfl, rfl, hT, q⟩ := h
  cases rx
  obtain ⟨t, rfl⟩ := ry
  obtain ⟨its, r, ⟨⟨cls, dd, data, sl⟩, ho, hc, n, hd⟩, hs⟩ := I.tuple hT
  simp only at hc hd
  subst hc hd
  refine wpAny_binaryOp_repeat_ref (T := "tuple") (U := "int") (by decide) ⟨_, ho, rfl⟩ (fun s' => typeIs_int s' 1 t) noFill_tuple_mul F.fills_int_mul F.slot_int_rmul repeat_tuple F.slot_int_index.lookup
    (call_meets F.slot_int_rmul (typeIs_int s 1 t) F.entry_int_rmul (F.args_int_rmul_2 _ _) (int_rmul_tuple 1 t l its.toArray n dd sl)
      ⟨ho, rfl, ⟨_, ho, rfl⟩, call_meets F.slot_tuple_mul ⟨_, ho, rfl⟩ F.entry_tuple_mul (F.args_tuple_mul_2 _ _) (tuple_mul1 l its.toArray n dd sl t) ⟨ho, ?_⟩⟩)
  exact ⟨.ref l, H, I, rfl, q⟩
def rRepX (K : PySem.W.Frag) : R2 := fun x y H Q => rRep1 K x y H Q ∨ rRepT K x y H Q
theorem op_repX {X : Cx} : OpR X (binaryOp .Mult) (rRepX X.K) := fun pins s σ H x y v u Q I rx ry h => h.elim (fun z => op_rep1 pins s σ H x y v u Q I rx ry z) fun z => op_repT pins s σ H x y v u Q I rx ry z
def tupI (o : O) : Option (List PyData) := match itemsO o with
  | some (false, ds) => some ds
  | _ => none
section
variable {K : PySem.W.Frag} {W : WX} {S H : Hp} {A B C : Fp} {σ : St} {ρ : En}
theorem or_tup {x : V} {o : O} {ds : List PyData} (sub : ∀ a u, S a = some u → H a = some u) (q : OR K S H x o B) (h : tupI o = some ds) : Dp K S x (.tuple ds) ∧ ∃ a vs, x = .ref a ∧ SqT K H a vs ∧ DpAll K S vs ds := by
  unfold tupI at h
  cases e : itemsO o with
  | none => rw [e] at h; cases h
  | some p =>
    obtain ⟨l, ds'⟩ := p
    rw [e] at h
    cases l with
    | true => cases h
    | false => cases h; exact ⟨items_tup q e, or_items sub q e⟩
def eRepT (fa fb : FP) : FE := fun ρ => (fa ρ).bind fun a ρ1 => (fb ρ1).bind fun b ρ2 => match (pkO ρ2 a).bind tupI, pkD ρ2 b with
  | some ds, some (.int n) => if ds ≠ [] ∧ 1 ≤ n ∧ n ≤ 1000 ∧ ds.length ≤ 1000 then .ok (.fz (.tuple (List.replicate n.toNat ds).flatten)) ρ2 else .bad
  | _, _ => .bad
theorem sndE_repT {ta tb : TE} {fa fb : FP} (ha : SndP K W ta fa) (hb : SndP K W tb fb) : SndE K W (tOp (rRepX K) ta tb) (eRepT fa fb) := by
  refine snd_two (r := rRepX K) ha hb fun x y a b σ ρ S H A B w e ra rb => ?_
  cases h1 : (pkO ρ a).bind tupI with
  | none => exact True.intro
  | some ds =>
    cases h2 : pkD ρ b with
    | none => exact True.intro
    | some d =>
      cases d with
      | int n =>
        show OutOk K W (ROr K) _ σ S H (A + B) (if ds ≠ [] ∧ 1 ≤ n ∧ n ≤ 1000 ∧ ds.length ≤ 1000 then Out.ok (.fz (.tuple (List.replicate n.toNat ds).flatten)) ρ else .bad)
        by_cases hz : ds ≠ [] ∧ 1 ≤ n ∧ n ≤ 1000 ∧ ds.length ≤ 1000
        · rw [if_pos hz]
          obtain ⟨o1, a1, a2⟩ := Option.bind_eq_some_iff.mp h1
          obtain ⟨B1, q1⟩ := ra o1 a1
          obtain ⟨hd, p, vs, ev, sq, da⟩ := or_tup w.sub q1 a2
          have hy := dp_int (pkD_or w.sub rb h2)
          intro Q k
          by_cases h1 : n = 1
          · subst h1
            refine .inl ⟨p, vs, ev, hy, sq, ?_⟩
            have e1 : (List.replicate (1 : Int).toNat ds).flatten = ds := by simp
            rw [e1] at k
            rw [← ev]
            exact fzEnd w e hd k
          · refine .inr ⟨p, n, vs, ev, hy, sq, fun z => hz.1 ?_, by omega, hz.2.2.1, by rw [dpall_len da]; exact hz.2.2.2, fun l hl => tupFz w e (dpall_rep da _) hl k⟩
            have := dpall_len da
            rw [z] at this
            exact List.eq_nil_of_length_eq_zero this.symm
        · rw [if_neg hz]; exact True.intro
      | _ => exact True.intro
/-! ### t + u of tuples -/
def eCatT (fa fb : FP) : FE := fun ρ => (fa ρ).bind fun a ρ1 => (fb ρ1).bind fun b ρ2 => match (pkO ρ2 a).bind tupI, (pkO ρ2 b).bind tupI with
  | some ds, some es => if ds.length + es.length ≤ sizeLine then .ok (.fz (.tuple (ds ++ es))) ρ2 else .bad
  | _, _ => .bad
theorem sndE_catT {ta tb : TE} {fa fb : FP} (ha : SndP K W ta fa) (hb : SndP K W tb fb) : SndE K W (tOp (rCatA K) ta tb) (eCatT fa fb) := by
  refine snd_two (r := rCatA K) ha hb fun x y a b σ ρ S H A B w e ra rb => ?_
  cases h1 : (pkO ρ a).bind tupI with
  | none => exact True.intro
  | some ds =>
    cases h2 : (pkO ρ b).bind tupI with
    | none => exact True.intro
    | some es =>
      show OutOk K W (ROr K) _ σ S H (A + B) (if ds.length + es.length ≤ sizeLine then Out.ok (.fz (.tuple (ds ++ es))) ρ else .bad)
      by_cases hz : ds.length + es.length ≤ sizeLine
      · rw [if_pos hz]
        obtain ⟨o1, a1, a2⟩ := Option.bind_eq_some_iff.mp h1
        obtain ⟨o2, b1, b2⟩ := Option.bind_eq_some_iff.mp h2
        obtain ⟨B1, q1⟩ := ra o1 a1
        obtain ⟨B2, q2⟩ := rb o2 b1
        obtain ⟨hd, p, vs, ev, sq, da⟩ := or_tup w.sub q1 a2
        obtain ⟨hd2, p2, vs2, ev2, sq2, da2⟩ := or_tup w.sub q2 b2
        have nil : ∀ {vs : List V} {ds : List PyData}, DpAll K S vs ds → vs = [] → ds = [] := fun h z => List.eq_nil_of_length_eq_zero (by rw [← dpall_len h, z]; rfl)
        intro Q k
        refine ⟨p, p2, vs, vs2, ev, ev2, sq, sq2, by rw [dpall_len da, dpall_len da2]; exact hz, fun z => ?_, fun _ z => ?_, fun _ _ l hl => tupFz w e (dpall_app da da2) hl k⟩
        · rw [nil da z, List.nil_append] at k
          rw [← ev2]
          exact fzEnd w e hd2 k
        · rw [nil da2 z, List.append_nil] at k
          rw [← ev]
          exact fzEnd w e hd k
      · rw [if_neg hz]; exact True.intro
/-! ### slices -/
def cutG {α : Type} (xs : List α) (lo hi : Option Int) : List α := (xs.drop (HT.sIx xs.length 0 lo)).take (HT.sIx xs.length xs.length hi - HT.sIx xs.length 0 lo)
theorem dpall_drop : ∀ {vs : List V} {ds : List PyData} (n : Nat), DpAll K S vs ds → DpAll K S (vs.drop n) (ds.drop n)
  | _, _, 0, h => h
  | _, _, _ + 1, .nil => .nil
  | _, _, n + 1, .cons _ r => dpall_drop n r
theorem dpall_take : ∀ {vs : List V} {ds : List PyData} (n : Nat), DpAll K S vs ds → DpAll K S (vs.take n) (ds.take n)
  | _, _, 0, h => .nil
  | _, _, _ + 1, .nil => .nil
  | _, _, n + 1, .cons q r => .cons q (dpall_take n r)
theorem dpall_cut {vs : List V} {ds : List PyData} (h : DpAll K S vs ds) (lo hi : Option Int) : DpAll K S (cutV vs lo hi) (cutG ds lo hi) := by
  unfold cutV cutG
  rw [dpall_len h]
  exact dpall_take _ (dpall_drop _ h)
abbrev FN := En → Out (Option Int)
abbrev SndN (K : PySem.W.Frag) (W : WX) (t : TO) (f : FN) : Prop := Snd K W (REq (Option Int)) t f
def nNo : FN := fun ρ => .ok none ρ
def nE (f : FP) : FN := fun ρ => (f ρ).bind fun p ρ1 => match pkD ρ1 p with
  | some (.int i) => .ok (some i) ρ1
  | _ => .bad
theorem sndN_no : SndN K W tNoPart nNo := by
  intro σ ρ S H A w e Q k
  exact k none S H A Fp.z (by rw [addz]; exact w) e ⟨rfl, fun _ => rfl⟩ (by rw [addz]; exact Tr.refl)
theorem sndN_e {t : TE} {f : FP} (h : SndP K W t f) : SndN K W (tPart t) (nE f) := by
  refine snd_one (r := fun x H Q => ∃ i, x = .int i ∧ Q (some i) H) h fun x a σ ρ S H A B w e ra => ?_
  cases h1 : pkD ρ a with
  | none => exact True.intro
  | some d =>
    cases d with
    | int i => exact fun Q k => ⟨i, dp_int (pkD_or w.sub ra h1), k (some i) S H A Fp.z (by rw [addz]; exact w.less le1) e ⟨rfl, fun _ => rfl⟩ (by rw [addz]; exact Tr.refl.less le1)⟩
    | _ => exact True.intro
def slO (o : O) (lo hi : Option Int) : Option O := match o with
  | .fz (.str z) => if z.length ≤ sizeLine then some (.fz (.str (cutS z lo hi))) else none
  | o => (match itemsO o with
    | some (true, ds) => some (.lst ((cutG ds lo hi).map O.fz))
    | some (false, ds) => if HT.sIx ds.length 0 lo = 0 ∧ HT.sIx ds.length ds.length hi = ds.length then none else some (.fz (.tuple (cutG ds lo hi)))
    | none => none)
def eSl (fa : FP) (fl fh : FN) : FE := fun ρ => (fa ρ).bind fun a ρ1 => (fl ρ1).bind fun l ρ2 => (fh ρ2).bind fun h ρ3 => match (pkO ρ3 a).bind fun o => slO o l h with
  | some o => .ok o ρ3
  | none => .bad
def rSlX (K : PySem.W.Frag) : V → Option Int → Option Int → Hp → VK → Prop := fun x lo hi H Q => rSlL K x lo hi H Q ∨ (rSlT K x lo hi H Q ∨ (∃ z, x = .str z ∧ z.length ≤ sizeLine ∧ Q (.str (cutS z lo hi)) H))
theorem sl_end {x : V} {o c : O} {lo hi : Option Int} {Q : VK} (w : WF S H (A + B)) (e : ER K S H σ ρ A) (q : ∃ B', OR K S H x o B') (h : slO o lo hi = some c) (k : PostV K (ROr K) σ S H (A + B) c ρ Q) : rSlX K x lo hi H Q := by
  obtain ⟨B', q⟩ := q
  by_cases hs : ∃ z, o = .fz (.str z)
  · obtain ⟨z, rfl⟩ := hs
    have h : (if z.length ≤ sizeLine then some (O.fz (.str (cutS z lo hi))) else none) = some c := h
    by_cases hz : z.length ≤ sizeLine
    · rw [if_pos hz] at h
      cases h
      cases q with
      | fz q _ =>
        cases q
        exact .inr (.inr ⟨z, rfl, hz, fzEnd w e (.str _) k⟩)
    · rw [if_neg hz] at h; cases h
  · have h : (match itemsO o with
        | some (true, ds) => some (O.lst ((cutG ds lo hi).map O.fz))
        | some (false, ds) => if HT.sIx ds.length 0 lo = 0 ∧ HT.sIx ds.length ds.length hi = ds.length then none else some (.fz (.tuple (cutG ds lo hi)))
        | none => none) = some c := by
      rw [← h]
      cases o with
      | fz d => cases d <;> first | rfl | exact absurd ⟨_, rfl⟩ hs
      | _ => rfl
    cases hi' : itemsO o with
    | none => rw [hi'] at h; cases h
    | some p =>
      obtain ⟨l, ds⟩ := p
      obtain ⟨a, vs, ev, sq, da⟩ := or_items w.sub q hi'
      rw [hi'] at h
      cases l with
      | true =>
        cases h
        exact .inl ⟨a, vs, ev, sq, fun p hp => lstFz w e (dpall_cut da lo hi) hp k⟩
      | false =>
        have h : (if HT.sIx ds.length 0 lo = 0 ∧ HT.sIx ds.length ds.length hi = ds.length then none else some (O.fz (.tuple (cutG ds lo hi)))) = some c := h
        by_cases hz : HT.sIx ds.length 0 lo = 0 ∧ HT.sIx ds.length ds.length hi = ds.length
        · rw [if_pos hz] at h; cases h
        · rw [if_neg hz] at h
          cases h
          exact .inr (.inl ⟨a, vs, ev, sq, by rw [dpall_len da]; exact hz, fun p hp => tupFz w e (dpall_cut da lo hi) hp k⟩)
theorem sndE_sl {te : TE} {tl th : TO} {fa : FP} {fl fh : FN} (ha : SndP K W te fa) (hl : SndN K W tl fl) (hh : SndN K W th fh) : SndE K W (tSl (rSlX K) te tl th) (eSl fa fl fh) := by
  refine snd_bind (u := fun x σ H Q => tl σ H fun l H2 => th σ H2 fun u H3 => rSlX K x l u H3 Q) ha fun x a σ ρ S H A B w e ra => ?_
  have h2 := snd_beside hl w e
  show OutOk K W (ROr K) _ σ S H (A + B) ((fl ρ).bind _)
  cases hf : fl ρ with
  | bad => exact True.intro
  | exc x' ρ' =>
    rw [hf] at h2
    exact fun Q k => h2 _ k
  | ok l ρ2 =>
    rw [hf] at h2
    show OutOk K W (ROr K) _ σ S H (A + B) ((fh ρ2).bind _)
    cases hf3 : fh ρ2 with
    | bad => exact True.intro
    | exc x' ρ' =>
      intro Q k
      refine h2 _ fun l' S' H' A' C w' e' rb t' sub kp => ?_
      have w2 : WF S' H' (A' + B) := w'.less fun b => by simp only [add_at]; omega
      have h3 := snd_beside hh w2 e'
      rw [hf3] at h3
      have t2 : Tr S H (A + B) S' H' (A' + B) := t'.less fun b => by simp only [add_at]; omega
      exact h3 _ fun cls d S4 H4 A4 w4 e4 x4 t4 => k cls d S4 H4 A4 w4 e4 x4 (t2.trans t4)
    | ok u ρ3 =>
      show OutOk K W (ROr K) _ σ S H (A + B) (match (pkO ρ3 a).bind fun o => slO o l u with
        | some o => Out.ok o ρ3
        | none => .bad)
      cases h3 : (pkO ρ3 a).bind fun o => slO o l u with
      | none => exact True.intro
      | some c =>
        obtain ⟨o, h4, h5⟩ := Option.bind_eq_some_iff.mp h3
        intro Q k
        refine h2 _ fun l' S' H' A' C w' e' rb t' sub kp => ?_
        obtain ⟨rfl, _⟩ := rb
        have w2 : WF S' H' (A' + B) := w'.less fun b => by simp only [add_at]; omega
        have h3' := snd_beside hh w2 e'
        rw [hf3] at h3'
        have t2 : Tr S H (A + B) S' H' (A' + B) := t'.less fun b => by simp only [add_at]; omega
        refine h3' _ fun u' S4 H4 A4 C4 w4 e4 r4 t4 sub4 kp4 => ?_
        obtain ⟨rfl, _⟩ := r4
        have ra' := stays_pk σ S' H' S4 H4 x a B sub4 kp4 (stays_pk σ S H S' H' x a B sub kp ra)
        have w5 : WF S4 H4 (A4 + B) := w4.less fun b => by simp only [add_at]; omega
        refine sl_end w5 e4 (pk_or e4 ra' h4) h5 fun v S6 H6 A6 B6 w6 e6 r6 t6 => k v S6 H6 A6 B6 w6 e6 r6 ((t2.trans (t4.less fun b => by simp only [add_at]; omega)).trans t6)
end
section
variable {X : Cx} {W : WX} {a b : Expr} {fa fb : FP} {pos p : Pos} {x : Str}
theorem ev_cat (ha : PV X W a fa) (hb : PV X W b fb) : EV X W (.BinOp a .Add b pos) (eCat fa fb) := let ⟨_, a1, a2⟩ := ha.ex; let ⟨_, b1, b2⟩ := hb.ex; ⟨_, pe_op op_catS a1 b1, sndE_cat a2 b2⟩
theorem ev_rep (ha : PV X W a fa) (hb : PV X W b fb) : EV X W (.BinOp a .Mult b pos) (eRep fa fb) := let ⟨_, a1, a2⟩ := ha.ex; let ⟨_, b1, b2⟩ := hb.ex; ⟨_, pe_op op_repS a1 b1, sndE_rep a2 b2⟩
theorem ev_repT (ha : PV X W a fa) (hb : PV X W b fb) : EV X W (.BinOp a .Mult b pos) (eRepT fa fb) := let ⟨_, a1, a2⟩ := ha.ex; let ⟨_, b1, b2⟩ := hb.ex; ⟨_, pe_op op_repX a1 b1, sndE_repT a2 b2⟩
theorem ev_catT (ha : PV X W a fa) (hb : PV X W b fb) : EV X W (.BinOp a .Add b pos) (eCatT fa fb) := let ⟨_, a1, a2⟩ := ha.ex; let ⟨_, b1, b2⟩ := hb.ex; ⟨_, pe_op op_catA a1 b1, sndE_catT a2 b2⟩
/-- a part of a slice -/
structure NV (X : Cx) (W : WX) (e : Option Expr) (f : FN) : Prop where
  ex : ∃ t, PO X e t ∧ SndN X.K W t f
theorem nv_no : NV X W none nNo := ⟨_, po_none, sndN_no⟩
theorem nv_e (h : PV X W a fa) : NV X W (some a) (nE fa) := let ⟨_, h1, h2⟩ := h.ex; ⟨_, po_some h1, sndN_e h2⟩
theorem ev_sl {lo hi : Option Expr} {fl fh : FN} {p2 : Pos} (ha : PV X W a fa) (hl : NV X W lo fl) (hh : NV X W hi fh) : EV X W (.Subscript a (.Slice lo hi none p2) pos) (eSl fa fl fh) :=
  let ⟨_, a1, a2⟩ := ha.ex; let ⟨_, l1, l2⟩ := hl.ex; let ⟨_, h1, h2⟩ := hh.ex; ⟨_, pe_slice (sl_list.or (sl_tup.or sl_str)) a1 l1 h1, sndE_sl a2 l2 h2⟩
theorem ev_b1 {id : String} {r : List V → Hp → VK → Prop} {g : O → Option PyData} (hc : CallR X (.builtin id) r) (hg2 : BiS X.K r g) (hg : Gl X x) (hm : X.mg x = none) (hv : bootBuiltins x = some (.builtin id)) (ha : PV X W a fa) (hn : x ≠ "__name__" := by decide) (hdb : (x == ("__debug__" : Str)) = false := by decide)
    (he : starEach [a] X.env = [(false, eval a X.env)] := by rfl) : EV X W (.Call (.Name x p) [a] [] pos) (eB1 g fa) :=
  let ⟨_, a1, a2⟩ := ha.ex; ⟨_, pe_callB hc hg hm hv (pa_cons a1 pa_nil he) hn hdb he, sndE_b1 hg2 a2⟩
theorem ev_t1 {T : String} {r : List V → Hp → VK → Prop} {g : O → Option PyData} (hc : CallR X (.type T) r) (hg2 : BiS X.K r g) (hg : Gl X x) (hm : X.mg x = none) (hv : bootBuiltins x = some (.type T)) (ha : PV X W a fa) (hn : x ≠ "__name__" := by decide) (hdb : (x == ("__debug__" : Str)) = false := by decide)
    (he : starEach [a] X.env = [(false, eval a X.env)] := by rfl) : EV X W (.Call (.Name x p) [a] [] pos) (eB1 g fa) :=
  let ⟨_, a1, a2⟩ := ha.ex; ⟨_, pe_callTy hc hg hm hv (pa_cons a1 pa_nil he) hn hdb he, sndE_b1 hg2 a2⟩
theorem ev_len (hg : Gl X "len") (hm : X.mg "len" = none) (ha : PV X W a fa) (he : starEach [a] X.env = [(false, eval a X.env)] := by rfl) : EV X W (.Call (.Name "len" p) [a] [] pos) (eB1 lenO fa) := ev_b1 call_len biS_len hg hm boot_len ha (he := he)
theorem ev_sum (hc : X.calm = true) (hg : Gl X "sum") (hm : X.mg "sum" = none) (ha : PV X W a fa) (he : starEach [a] X.env = [(false, eval a X.env)] := by rfl) : EV X W (.Call (.Name "sum" p) [a] [] pos) (eB1 sumO fa) := ev_b1 (cr_sum hc) biS_sum hg hm (by decide +kernel) ha (he := he)
theorem ev_all (hc : X.calm = true) (hg : Gl X "all") (hm : X.mg "all" = none) (ha : PV X W a fa) (he : starEach [a] X.env = [(false, eval a X.env)] := by rfl) : EV X W (.Call (.Name "all" p) [a] [] pos) (eB1 allO fa) := ev_b1 (cr_all hc) biS_all hg hm (by decide +kernel) ha (he := he)
theorem ev_any (hc : X.calm = true) (hg : Gl X "any") (hm : X.mg "any" = none) (ha : PV X W a fa) (he : starEach [a] X.env = [(false, eval a X.env)] := by rfl) : EV X W (.Call (.Name "any" p) [a] [] pos) (eB1 anyO fa) := ev_b1 (cr_any hc) biS_any hg hm (by decide +kernel) ha (he := he)
theorem ev_abs (hg : Gl X "abs") (hm : X.mg "abs" = none) (ha : PV X W a fa) (he : starEach [a] X.env = [(false, eval a X.env)] := by rfl) : EV X W (.Call (.Name "abs" p) [a] [] pos) (eB1 absO fa) := ev_b1 call_abs biS_abs hg hm (by decide +kernel) ha (he := he)
theorem ev_intc (hg : Gl X "int") (hm : X.mg "int" = none) (ha : PV X W a fa) (he : starEach [a] X.env = [(false, eval a X.env)] := by rfl) : EV X W (.Call (.Name "int" p) [a] [] pos) (eB1 intO fa) := ev_t1 call_int1 biS_int hg hm (by decide +kernel) ha (he := he)
theorem ev_list (hg : Gl X "list") (hm : X.mg "list" = none) (ha : PV X W a fa) (he : starEach [a] X.env = [(false, eval a X.env)] := by rfl) : EV X W (.Call (.Name "list" p) [a] [] pos) (eList fa) :=
  let ⟨_, a1, a2⟩ := ha.ex; ⟨_, pe_callTy call_list_of hg hm (by decide +kernel) (pa_cons a1 pa_nil he) (he := he), sndE_list a2⟩
theorem ev_tuple (hg : Gl X "tuple") (hm : X.mg "tuple" = none) (ha : PV X W a fa) (he : starEach [a] X.env = [(false, eval a X.env)] := by rfl) : EV X W (.Call (.Name "tuple" p) [a] [] pos) (eTuple fa) :=
  let ⟨_, a1, a2⟩ := ha.ex; ⟨_, pe_callTy call_tuple_of hg hm (by decide +kernel) (pa_cons a1 pa_nil he) (he := he), sndE_tuple a2⟩
theorem ev_isi {T : String} {y : Str} {p2 : Pos} (hg : Gl X "isinstance") (hm : X.mg "isinstance" = none) (hy : Gl X y) (hmy : X.mg y = none) (hv : bootBuiltins y = some (.type T)) (ha : PV X W a fa) (hn : y ≠ "__name__" := by decide) (hdb : (y == ("__debug__" : Str)) = false := by decide)
    (he : starEach [a, .Name y p2] X.env = (false, eval a X.env) :: starEach [.Name y p2] X.env := by rfl) (he2 : starEach [.Name y p2] X.env = [(false, eval (.Name y p2) X.env)] := by rfl) (hpl : (backTo pos (starEach [.Name y p2] X.env)).any (·.1) = false := by rfl) : EV X W (.Call (.Name "isinstance" p) [a, .Name y p2] [] pos) (eIsi T fa) :=
  let ⟨_, a1, a2⟩ := ha.ex; ⟨_, pe_callB call_isi hg hm (by decide +kernel) (pa_cons a1 (pa_cons (pe_bltn (v := .ty T) hy hmy hv rfl hn hdb) pa_nil he2) he) (he := he) (hpl := hpl), sndE_isi a2⟩
end
end Ls

namespace Ls
open PySem L2
variable [Tb]
/-! ### what is walked: settled items, a slot's list as it stands, a range, pairs -/
inductive Sr where
  | st (l : Bool) (ds : List PyData) | sl (l : Bool) (i : Nat) | rg (lo : Int) (n : Nat) | zp (a b : Sr) | en (a : Sr)
def rgD (lo : Int) (n : Nat) : List PyData := (List.range n).map fun i => .int (lo + (i : Nat))
def enD (xs : List PyData) : List PyData := xs.zipIdx.map fun p => .tuple [.int (p.2 : Nat), p.1]
def zpD (xs ys : List PyData) : List PyData := (xs.zip ys).map fun p => .tuple [p.1, p.2]
def Sr.at (ρ : En) : Sr → Option (List PyData)
  | .st _ ds => some ds
  | .sl l i => ((ρ[i]?).bind id).bind fun o => (itemsO o).bind fun p => if p.1 = l then some p.2 else none
  | .rg lo n => some (rgD lo n)
  | .zp a b => (a.at ρ).bind fun xs => (b.at ρ).map fun ys => zpD xs ys
  | .en a => (a.at ρ).map enD
def Sr.kind : Sr → Option Bool
  | .st l _ => some l
  | .sl l _ => some l
  | _ => none
def Sr.slots : Sr → List Nat
  | .st _ _ => []
  | .sl _ i => [i]
  | .rg _ _ => []
  | .zp a b => a.slots ++ b.slots
  | .en a => a.slots
/-- the iterator yields these items while the slots and the settled part stand -/
def Src (K : PySem.W.Frag) (σ : St) (S0 : Hp) (J : It) (s : Sr) : Prop := ∀ σ' ρ S H A T j ds, (∀ i ∈ s.slots, σ'[i]? = σ[i]?) → (∀ a u, S0 a = some u → S a = some u) → WF S H T → (∀ b, A b ≤ T b) → ER K S H σ' ρ A → s.at ρ = some ds →
  (∀ d, ds[j]? = some d → J.go j H ∧ ∀ x H', J.yld j H x H' → ∃ S', WF S' H' T ∧ Tr S H T S' H' T ∧ (∀ a, 0 < T a → H' a = H a) ∧ Dp K S' x d) ∧ (ds.length ≤ j → J.stop j H)
def RSr (K : PySem.W.Frag) : RR It Sr := fun σ S H J s B => Src K σ S J s ∧ ∀ b, B b = 0
abbrev FI := En → Out Sr
abbrev SndI (K : PySem.W.Frag) (W : WX) (t : TI) (f : FI) : Prop := Snd K W (RSr K) t f
structure IV (X : Cx) (W : WX) (tg iter : Expr) (f : FI) : Prop where
  ex : ∃ t, PI X tg iter t ∧ SndI X.K W t f
section
variable {K : PySem.W.Frag} {W : WX} {S H : Hp} {A B C : Fp} {σ : St} {ρ : En}
/-- a thing of one's own that is to be walked is settled; a slot is looked at -/
def srOf (ρ : En) : Pk → Option Sr
  | .v i => (((ρ[i]?).bind id).bind itemsO).map fun p => .sl p.1 i
  | .o o => (frz o).bind fun d => match d with
    | .list ds => some (.st true ds)
    | .tuple ds => some (.st false ds)
    | _ => none
/-- at hand a list or a tuple, each turn -/
def SqW (K : PySem.W.Frag) (σ : St) (S0 : Hp) (a : Addr) (l : Bool) (s : Sr) : Prop := ∀ σ' ρ S H A T ds, (∀ i ∈ s.slots, σ'[i]? = σ[i]?) → (∀ a u, S0 a = some u → S a = some u) → WF S H T → (∀ b, A b ≤ T b) → ER K S H σ' ρ A → s.at ρ = some ds → ∃ vs, SqB K H a vs l ∧ DpAll K S vs ds
theorem seqAt_inj {a : Addr} : True := True.intro
def RSeq (K : PySem.W.Frag) : RR V Sr := fun σ S H v s B => (∀ b, B b = 0) ∧ ∃ a l, s.kind = some l ∧ v = .ref a ∧ SqW K σ S a l s
def fSeq (f : FP) : FI := fun ρ => (f ρ).bind fun p ρ1 => match srOf ρ1 p with
  | some s => .ok s ρ1
  | none => .bad
theorem srOf_at {p : Pk} {s : Sr} (h : srOf ρ p = some s) : ∃ ds, s.at ρ = some ds := by
  cases p with
  | v i =>
    obtain ⟨⟨l, ds⟩, a1, a2⟩ := Option.map_eq_some_iff.mp (show (((ρ[i]?).bind id).bind itemsO).map _ = some s from h)
    subst a2
    obtain ⟨o, b1, b2⟩ := Option.bind_eq_some_iff.mp a1
    refine ⟨ds, ?_⟩
    show ((ρ[i]?).bind id).bind (fun o => (itemsO o).bind fun p => if p.1 = l then some p.2 else none) = some ds
    rw [b1]
    show (itemsO o).bind (fun p => if p.1 = l then some p.2 else none) = some ds
    rw [b2]
    exact if_pos rfl
  | o o =>
    obtain ⟨d, a1, a2⟩ := Option.bind_eq_some_iff.mp (show (frz o).bind _ = some s from h)
    cases d <;> cases a2 <;> exact ⟨_, rfl⟩
theorem sqW_mono {S1 : Hp} {a : Addr} {l : Bool} {s : Sr} (h : SqW K σ S a l s) (m : ∀ a u, S a = some u → S1 a = some u) : SqW K σ S1 a l s := fun σ' ρ S' H A T ds h1 h2 => h σ' ρ S' H A T ds h1 fun a u z => h2 a u (m a u z)
theorem items_kind {v : V} {d : PyData} {ds : List PyData} (h : Dp K S v d) (e : items d = some ds) : ∃ a vs l, v = .ref a ∧ SqB K S a vs l ∧ DpAll K S vs ds := by
  cases h with
  | lst q r => cases e; exact ⟨_, _, true, rfl, q, r⟩
  | tup q r => cases e; exact ⟨_, _, false, rfl, q, r⟩
  | _ => cases e
theorem sqB_mono {S' : Hp} (h : ∀ a u, S a = some u → S' a = some u) {a : Addr} {vs : List V} {l : Bool} (r : SqB K S a vs l) : SqB K S' a vs l := by
  cases l
  · exact sqT_mono h r
  · exact sqL_mono h r
theorem snd_seq {t : TE} {f : FP} (h : SndP K W t f) : Snd K W (RSeq K) t (fSeq f) := by
  intro σ ρ S H A w e
  have h1 := h σ ρ S H A w e
  show OutOk K W (RSeq K) t σ S H A ((f ρ).bind _)
  cases hf : f ρ with
  | bad => exact True.intro
  | exc x ρ' => rw [hf] at h1; exact h1
  | ok p ρ1 =>
    rw [hf] at h1
    show OutOk K W (RSeq K) t σ S H A (match srOf ρ1 p with
      | some s => Out.ok s ρ1
      | none => .bad)
    cases hs : srOf ρ1 p with
    | none => exact True.intro
    | some s =>
      intro Q k
      refine h1 Q fun v S1 H1 A1 B1 w1 e1 r1 t1 => ?_
      cases r1 with
      | @v _ _ _ _ i _ g1 z =>
        obtain ⟨⟨l, ds⟩, a1, a2⟩ := Option.map_eq_some_iff.mp (show (((ρ1[i]?).bind id).bind itemsO).map _ = some s from hs)
        subst a2
        have key : ∀ σ' ρ S H A T ds, σ'[i]? = σ[i]? → WF S H T → (∀ b, A b ≤ T b) → ER K S H σ' ρ A → (Sr.sl l i).at ρ = some ds → ∃ a vs, v = .ref a ∧ SqB K H a vs l ∧ DpAll K S vs ds := by
          intro σ' ρ S H A T ds g2 w le e hd
          obtain ⟨o, a1, a2⟩ := Option.bind_eq_some_iff.mp (show ((ρ[i]?).bind id).bind _ = some ds from hd)
          obtain ⟨y, b1, b2⟩ := Option.bind_eq_some_iff.mp a1
          have b2 : y = some o := b2
          subst b2
          obtain ⟨v', B', C', e1', q, _, _⟩ := er_get e b1
          rw [g2, g1] at e1'
          cases e1'
          obtain ⟨⟨l', ds'⟩, c1, c2⟩ := Option.bind_eq_some_iff.mp a2
          have c2 : (if l' = l then some ds' else none) = some ds := c2
          by_cases hl : l' = l
          · rw [if_pos hl] at c2
            cases c2
            rw [← hl]
            exact or_items w.sub q c1
          · rw [if_neg hl] at c2; cases c2
        obtain ⟨ds, hds⟩ := srOf_at hs
        obtain ⟨a, vs, ev, sq, da⟩ := key σ ρ1 S1 H1 A1 (A1 + B1) ds rfl w1 le1 e1 hds
        subst ev
        refine k _ S1 H1 A1 B1 w1 e1 ⟨z, a, l, rfl, rfl, fun σ' ρ S H A T ds g2 sub w le e hd => ?_⟩ t1
        obtain ⟨a', vs', ev', sq', da'⟩ := key σ' ρ S H A T ds (g2 i (List.mem_singleton.mpr rfl)) w le e hd
        cases ev'
        exact ⟨vs', sq', da'⟩
      | @o _ _ _ _ o _ q =>
        obtain ⟨d, a1, a2⟩ := Option.bind_eq_some_iff.mp (show (frz o).bind _ = some s from hs)
        obtain ⟨w2, t2, sub2⟩ := settle_wf w1
        have dq := or_settle (fun b hb => w1.dj b (by rw [add_at]; omega)) (fun b => Nat.le_refl _) q a1
        obtain ⟨a, vs, l, ds, ev, sq, da, es⟩ : ∃ a vs l ds, v = .ref a ∧ SqB K (settle S1 H1 B1) a vs l ∧ DpAll K (settle S1 H1 B1) vs ds ∧ s = .st l ds := by
          cases dq with
          | lst qq rr => cases a2; exact ⟨_, _, true, _, rfl, qq, rr, rfl⟩
          | tup qq rr => cases a2; exact ⟨_, _, false, _, rfl, qq, rr, rfl⟩
          | _ => cases a2
        subst ev es
        refine k _ (settle S1 H1 B1) H1 A1 Fp.z (by rw [addz]; exact w2) (er_keep sub2 e1 fun _ _ => rfl) ⟨fun _ => rfl, a, l, rfl, rfl, fun σ' ρ S H A T ds' g2 sub w le e hd => ?_⟩ (by rw [addz]; exact t1.trans t2)
        cases hd
        exact ⟨vs, sqB_mono (fun a u z => w.sub a u (sub a u z)) sq, dpa_mono sub da⟩
def itB (K : PySem.W.Frag) (a : Addr) : Bool → It
  | true => Itl K a
  | false => Itt K a
theorem src_seq {a : Addr} {l : Bool} {s : Sr} (h : SqW K σ S a l s) : Src K σ S (itB K a l) s := by
  intro σ' ρ S' H A T j ds g2 sub w le e hd
  obtain ⟨vs, sq, da⟩ := h σ' ρ S' H A T ds g2 sub w le e hd
  cases l with
  | true =>
    refine ⟨fun d hj => ?_, fun hj => ⟨vs, sq, by rw [dpall_len da]; exact hj⟩⟩
    obtain ⟨v, h1, h2⟩ := dpall_get da hj
    refine ⟨⟨vs, v, sq, h1⟩, fun x H' y => ?_⟩
    obtain ⟨rfl, y2⟩ := y
    have e2 := y2 vs sq
    rw [h1] at e2
    cases e2
    exact ⟨S', w, Tr.refl, fun _ _ => rfl, h2⟩
  | false =>
    refine ⟨fun d hj => ?_, fun hj => ⟨vs, sq, by rw [dpall_len da]; exact hj⟩⟩
    obtain ⟨v, h1, h2⟩ := dpall_get da hj
    refine ⟨⟨vs, v, sq, h1⟩, fun x H' y => ?_⟩
    obtain ⟨rfl, y2⟩ := y
    have e2 := y2 vs sq
    rw [h1] at e2
    cases e2
    exact ⟨S', w, Tr.refl, fun _ _ => rfl, h2⟩
def iSeq (K : PySem.W.Frag) (tl : TE) : TI := fun σ H R => tl σ H fun x H1 => ∃ a l, x = .ref a ∧ (∃ xs, SqB K H1 a xs l) ∧ R (itB K a l) H1
/-- the source just made tells its items -/
theorem fSeq_at {f : FP} {s : Sr} {ρ1 : En} (h : fSeq f ρ = .ok s ρ1) : ∃ ds, s.at ρ1 = some ds := by
  have h : (f ρ).bind (fun p ρ1 => match srOf ρ1 p with
    | some s => Out.ok s ρ1
    | none => .bad) = .ok s ρ1 := h
  cases hf : f ρ with
  | bad => rw [hf] at h; cases h
  | exc x ρ' => rw [hf] at h; cases h
  | ok p ρ2 =>
    rw [hf] at h
    have h : (match srOf ρ2 p with
      | some s => Out.ok s ρ2
      | none => .bad) = .ok s ρ1 := h
    cases hs : srOf ρ2 p with
    | none => rw [hs] at h; cases h
    | some s' =>
      rw [hs] at h
      cases h
      exact srOf_at hs
theorem sndI_seq {t : TE} {f : FP} (h : SndP K W t f) : SndI K W (iSeq K t) (fSeq f) := by
  have h1 := snd_seq h
  intro σ ρ S H A w e
  have h2 := h1 σ ρ S H A w e
  cases hf : fSeq f ρ with
  | bad => exact True.intro
  | exc x ρ' =>
    rw [hf] at h2
    exact fun Q k => h2 _ k
  | ok s ρ1 =>
    rw [hf] at h2
    obtain ⟨ds, hds⟩ := fSeq_at hf
    intro Q k
    refine h2 _ fun v S1 H1 A1 B1 w1 e1 r1 t1 => ?_
    obtain ⟨z, a, l, _, ev, sw⟩ := r1
    obtain ⟨vs, sq, _⟩ := sw σ ρ1 S1 H1 A1 (A1 + B1) ds (fun _ _ => rfl) (fun _ _ h => h) w1 le1 e1 hds
    exact ⟨a, l, ev, ⟨vs, sq⟩, k _ S1 H1 A1 B1 w1 e1 ⟨src_seq sw, z⟩ t1⟩
/-! ### range -/
def fRg1 (f : FP) : FI := fun ρ => (f ρ).bind fun p ρ1 => match pkD ρ1 p with
  | some (.int j) => if -(2 ^ 62) ≤ j ∧ j < 2 ^ 62 then .ok (.rg 0 j.toNat) ρ1 else .bad
  | _ => .bad
def fRg2 (f g : FP) : FI := fun ρ => (f ρ).bind fun p ρ1 => (g ρ1).bind fun q ρ2 => match pkD ρ2 p, pkD ρ2 q with
  | some (.int i), some (.int j) => if -(2 ^ 62) ≤ i ∧ i < 2 ^ 62 ∧ -(2 ^ 62) ≤ j ∧ j < 2 ^ 62 then .ok (.rg i (j - i).toNat) ρ2 else .bad
  | _, _ => .bad
theorem src_rg {lo : Int} {n : Nat} : Src K σ S (Itr lo n) (.rg lo n) := by
  intro σ' ρ S' H A T j ds g2 sub w le e hd
  have hd : rgD lo n = ds := Option.some.inj hd
  subst hd
  have hl : (rgD lo n).length = n := by unfold rgD; rw [List.length_map, List.length_range]
  refine ⟨fun d hj => ?_, fun hj => by rw [hl] at hj; exact hj⟩
  have lt : j < n := by
    have := (List.getElem?_eq_some_iff.mp hj).1
    rw [hl] at this
    exact this
  have ed : d = .int (lo + (j : Nat)) := by
    unfold rgD at hj
    rw [List.getElem?_map, List.getElem?_range lt] at hj
    exact (Option.some.inj hj).symm
  refine ⟨lt, fun x H' y => ?_⟩
  obtain ⟨rfl, rfl⟩ := y
  subst ed
  exact ⟨S', w, Tr.refl, fun _ _ => rfl, .int _⟩
theorem sndI_rg1 {t : TE} {f : FP} (h : SndP K W t f) : SndI K W (iRng1 (tCons t tNil)) (fRg1 f) := by
  refine snd_one (r := fun x H R => ∃ j : Int, [x] = [V.int j] ∧ -(2 ^ 62) ≤ j ∧ j < 2 ^ 62 ∧ R (Itr 0 j.toNat) H) h fun x a σ ρ S H A B w e ra => ?_
  cases h1 : pkD ρ a with
  | none => exact True.intro
  | some d =>
    cases d with
    | int j =>
      show OutOk K W (RSr K) _ σ S H (A + B) (if -(2 ^ 62) ≤ j ∧ j < 2 ^ 62 then Out.ok (.rg 0 j.toNat) ρ else .bad)
      by_cases hz : -(2 ^ 62) ≤ j ∧ j < 2 ^ 62
      · rw [if_pos hz]
        exact fun Q k => ⟨j, by rw [dp_int (pkD_or w.sub ra h1)], hz.1, hz.2, k _ S H A Fp.z (by rw [addz]; exact w.less le1) e ⟨src_rg, fun _ => rfl⟩ (by rw [addz]; exact Tr.refl.less le1)⟩
      · rw [if_neg hz]; exact True.intro
    | _ => exact True.intro
theorem sndI_rg2 {t u : TE} {f g : FP} (h : SndP K W t f) (h' : SndP K W u g) : SndI K W (iRng2 (tCons t (tCons u tNil))) (fRg2 f g) := by
  refine snd_two (r := fun x y H R => ∃ i j : Int, [x, y] = [V.int i, V.int j] ∧ (-(2 ^ 62) ≤ i ∧ i < 2 ^ 62 ∧ -(2 ^ 62) ≤ j ∧ j < 2 ^ 62) ∧ R (Itr i (j - i).toNat) H) h h' fun x y a b σ ρ S H A B w e ra rb => ?_
  cases h1 : pkD ρ a with
  | none => exact True.intro
  | some d =>
    cases d with
    | int i =>
      cases h2 : pkD ρ b with
      | none => exact True.intro
      | some d2 =>
        cases d2 with
        | int j =>
          show OutOk K W (RSr K) _ σ S H (A + B) (if -(2 ^ 62) ≤ i ∧ i < 2 ^ 62 ∧ -(2 ^ 62) ≤ j ∧ j < 2 ^ 62 then Out.ok (.rg i (j - i).toNat) ρ else .bad)
          by_cases hz : -(2 ^ 62) ≤ i ∧ i < 2 ^ 62 ∧ -(2 ^ 62) ≤ j ∧ j < 2 ^ 62
          · rw [if_pos hz]
            exact fun Q k => ⟨i, j, by rw [dp_int (pkD_or w.sub ra h1), dp_int (pkD_or w.sub rb h2)], hz, k _ S H A Fp.z (by rw [addz]; exact w.less le1) e ⟨src_rg, fun _ => rfl⟩ (by rw [addz]; exact Tr.refl.less le1)⟩
          · rw [if_neg hz]; exact True.intro
        | _ => exact True.intro
    | _ => exact True.intro
/-! ### zip, enumerate -/
def itZ (K : PySem.W.Frag) (a b : Addr) : Bool → It
  | true => Itz K a b
  | false => RZ.ItzT K a b
/-- a pair just given out -/
theorem pairNew {T : Fp} {p : Addr} {x y : V} {d1 d2 : PyData} (w : WF S H T) (hp : H p = none) (h1 : Dp K S x d1) (h2 : Dp K S y d2) : ∃ S', WF S' (upd H p (.tup [x, y])) T ∧ Tr S H T S' (upd H p (.tup [x, y])) T ∧ (∀ a, 0 < T a → upd H p (.tup [x, y]) a = H a) ∧ Dp K S' (.ref p) (.tuple [d1, d2]) := by
  obtain ⟨w2, t2, k2, sub2⟩ := newF (u := .tup [x, y]) w hp
  exact ⟨_, w2, t2, k2, .tup (SqT.of upd_same) (.cons (dp_mono sub2 h1) (.cons (dp_mono sub2 h2) .nil))⟩
theorem src_zp {a b : Addr} {l : Bool} {s1 s2 : Sr} (h1 : SqW K σ S a l s1) (h2 : SqW K σ S b l s2) : Src K σ S (itZ K a b l) (.zp s1 s2) := by
  intro σ' ρ S' H A T j ds g2 sub w le e hd
  obtain ⟨xs, a1, a2⟩ := Option.bind_eq_some_iff.mp (show (s1.at ρ).bind _ = some ds from hd)
  obtain ⟨ys, b1, b2⟩ := Option.map_eq_some_iff.mp a2
  subst b2
  obtain ⟨vs, sq1, da1⟩ := h1 σ' ρ S' H A T xs (fun i hi => g2 i (List.mem_append_left _ hi)) sub w le e a1
  obtain ⟨ws, sq2, da2⟩ := h2 σ' ρ S' H A T ys (fun i hi => g2 i (List.mem_append_right _ hi)) sub w le e b1
  have split : ∀ d, (zpD xs ys)[j]? = some d → ∃ x y, xs[j]? = some x ∧ ys[j]? = some y ∧ d = .tuple [x, y] := fun d hj => by
    unfold zpD at hj
    rw [List.getElem?_map] at hj
    obtain ⟨⟨x, y⟩, c1, c2⟩ := Option.map_eq_some_iff.mp hj
    obtain ⟨c3, c4⟩ := List.getElem?_zip_eq_some.mp c1
    exact ⟨x, y, c3, c4, c2.symm⟩
  have stop : (zpD xs ys).length ≤ j → vs.length ≤ j ∨ ws.length ≤ j := fun hj => by
    unfold zpD at hj
    rw [List.length_map, List.length_zip] at hj
    rw [dpall_len da1, dpall_len da2]
    omega
  cases l with
  | true =>
    refine ⟨fun d hj => ?_, fun hj => ⟨vs, ws, sq1, sq2, stop hj⟩⟩
    obtain ⟨x, y, c1, c2, c3⟩ := split d hj
    obtain ⟨v, e1, e2⟩ := dpall_get da1 c1
    obtain ⟨u, e3, e4⟩ := dpall_get da2 c2
    refine ⟨⟨vs, ws, v, u, sq1, sq2, e1, e3⟩, fun z H' hy => ?_⟩
    obtain ⟨p, x', y', rfl, hp, rfl, y1, y2⟩ := hy
    have z1 := y1 vs sq1
    have z2 := y2 ws sq2
    rw [e1] at z1
    rw [e3] at z2
    cases z1
    cases z2
    rw [c3]
    exact pairNew w hp e2 e4
  | false =>
    refine ⟨fun d hj => ?_, fun hj => ⟨vs, ws, sq1, sq2, stop hj⟩⟩
    obtain ⟨x, y, c1, c2, c3⟩ := split d hj
    obtain ⟨v, e1, e2⟩ := dpall_get da1 c1
    obtain ⟨u, e3, e4⟩ := dpall_get da2 c2
    refine ⟨⟨vs, ws, v, u, sq1, sq2, e1, e3⟩, fun z H' hy => ?_⟩
    obtain ⟨p, x', y', rfl, hp, rfl, y1, y2⟩ := hy
    have z1 := y1 vs sq1
    have z2 := y2 ws sq2
    rw [e1] at z1
    rw [e3] at z2
    cases z1
    cases z2
    rw [c3]
    exact pairNew w hp e2 e4
theorem stays_seq : Stays (RSeq K) := fun σ S H S' H' v a B h k r => by
  obtain ⟨z, p, l, kd, ev, sw⟩ := r
  exact ⟨z, p, l, kd, ev, sqW_mono sw h⟩
def fZip (f g : FP) : FI := fun ρ => (fSeq f ρ).bind fun a ρ1 => (fSeq g ρ1).bind fun b ρ2 => match (Sr.zp a b).at ρ2 with
  | some _ => if a.kind = b.kind then .ok (.zp a b) ρ2 else .bad
  | none => .bad
theorem sndI_zip {t u : TE} {f g : FP} (h : SndP K W t f) (h' : SndP K W u g) : SndI K W (RZ.iZipA K (tCons t (tCons u tNil))) (fZip f g) := by
  refine snd_bind (u := fun x σ H R => u σ H fun y H2 => ∃ a b xs ys, [x, y] = [V.ref a, V.ref b] ∧ ((SqL K H2 a xs ∧ SqL K H2 b ys ∧ R (Itz K a b) H2) ∨ (SqT K H2 a xs ∧ SqT K H2 b ys ∧ R (RZ.ItzT K a b) H2))) (snd_seq h) fun x s1 σ ρ S H A B w e ra => ?_
  have h2 := snd_beside (snd_seq h') w e
  show OutOk K W (RSr K) _ σ S H (A + B) ((fSeq g ρ).bind _)
  cases hf : fSeq g ρ with
  | bad => exact True.intro
  | exc x' ρ' =>
    rw [hf] at h2
    exact fun Q k => h2 _ k
  | ok s2 ρ2 =>
    rw [hf] at h2
    show OutOk K W (RSr K) _ σ S H (A + B) (match (Sr.zp s1 s2).at ρ2 with
      | some _ => if s1.kind = s2.kind then Out.ok (.zp s1 s2) ρ2 else .bad
      | none => .bad)
    cases hz : (Sr.zp s1 s2).at ρ2 with
    | none => exact True.intro
    | some ds =>
      show OutOk K W (RSr K) _ σ S H (A + B) (if s1.kind = s2.kind then Out.ok (.zp s1 s2) ρ2 else .bad)
      by_cases hk : s1.kind = s2.kind
      · rw [if_pos hk]
        intro Q k
        refine h2 _ fun y S' H' A' C w' e' rb t' sub kp => ?_
        obtain ⟨z1, a, l1, k1, ev1, sw1⟩ := stays_seq σ S H S' H' x s1 B sub kp ra
        obtain ⟨z2, b, l2, k2, ev2, sw2⟩ := rb
        have el : l1 = l2 := by rw [k1, k2] at hk; exact Option.some.inj hk
        subst el
        obtain ⟨xs, a1, a2⟩ := Option.bind_eq_some_iff.mp (show (s1.at ρ2).bind _ = some ds from hz)
        obtain ⟨ys, b1, b2⟩ := Option.map_eq_some_iff.mp a2
        obtain ⟨vs, sq1, _⟩ := sw1 σ ρ2 S' H' A' (A' + C + B) xs (fun _ _ => rfl) (fun _ _ h => h) w' le3 e' a1
        obtain ⟨ws, sq2, _⟩ := sw2 σ ρ2 S' H' A' (A' + C + B) ys (fun _ _ => rfl) (fun _ _ h => h) w' le3 e' b1
        have fin := k (itZ K a b l1) S' H' A' Fp.z (by rw [addz]; exact w'.less le3) e' ⟨src_zp sw1 sw2, fun _ => rfl⟩ (by rw [addz]; exact t'.less le3)
        refine ⟨a, b, vs, ws, by rw [ev1, ev2], ?_⟩
        cases l1 with
        | true => exact .inl ⟨sq1, sq2, fin⟩
        | false => exact .inr ⟨sq1, sq2, fin⟩
      · rw [if_neg hk]; exact True.intro
theorem src_en {a : Addr} {s : Sr} (h : SqW K σ S a true s) : Src K σ S (Ite K a) (.en s) := by
  intro σ' ρ S' H A T j ds g2 sub w le e hd
  obtain ⟨xs, a1, a2⟩ := Option.map_eq_some_iff.mp (show (s.at ρ).map enD = some ds from hd)
  subst a2
  obtain ⟨vs, sq, da⟩ := h σ' ρ S' H A T xs g2 sub w le e a1
  refine ⟨fun d hj => ?_, fun hj => ⟨vs, sq, ?_⟩⟩
  · unfold enD at hj
    rw [List.getElem?_map] at hj
    obtain ⟨⟨x, n⟩, c1, c2⟩ := Option.map_eq_some_iff.mp hj
    rw [List.getElem?_zipIdx] at c1
    obtain ⟨x', c3, c4⟩ := Option.map_eq_some_iff.mp c1
    cases c4
    obtain ⟨v, e1, e2⟩ := dpall_get da c3
    refine ⟨⟨vs, v, sq, e1⟩, fun z H' hy => ?_⟩
    obtain ⟨p, x', rfl, hp, rfl, y1⟩ := hy
    have z1 := y1 vs sq
    rw [e1] at z1
    cases z1
    rw [← c2]
    have := pairNew w hp (.int ((j : Nat) : Int)) e2
    simpa using this
  · unfold enD at hj
    rw [List.length_map, List.length_zipIdx] at hj
    rw [dpall_len da]
    exact hj
def fEn (f : FP) : FI := fun ρ => (fSeq f ρ).bind fun a ρ1 => if a.kind = some true then .ok (.en a) ρ1 else .bad
theorem sndI_en {t : TE} {f : FP} (h : SndP K W t f) : SndI K W (iEnum K (tCons t tNil)) (fEn f) := by
  intro σ ρ S H A w e
  have h2 := snd_seq h σ ρ S H A w e
  show OutOk K W (RSr K) _ σ S H A ((fSeq f ρ).bind _)
  cases hf : fSeq f ρ with
  | bad => exact True.intro
  | exc x' ρ' =>
    rw [hf] at h2
    exact fun Q k => h2 _ k
  | ok s ρ1 =>
    rw [hf] at h2
    obtain ⟨ds, hds⟩ := fSeq_at hf
    show OutOk K W (RSr K) _ σ S H A (if s.kind = some true then Out.ok (.en s) ρ1 else .bad)
    by_cases hk : s.kind = some true
    · rw [if_pos hk]
      intro Q k
      refine h2 _ fun v S1 H1 A1 B1 w1 e1 r1 t1 => ?_
      obtain ⟨z, a, l, k1, ev, sw⟩ := r1
      have el : l = true := by rw [k1] at hk; exact Option.some.inj hk
      subst el
      obtain ⟨vs, sq, _⟩ := sw σ ρ1 S1 H1 A1 (A1 + B1) ds (fun _ _ => rfl) (fun _ _ h => h) w1 le1 e1 hds
      exact ⟨a, vs, by rw [ev], sq, k _ S1 H1 A1 B1 w1 e1 ⟨src_en sw, z⟩ t1⟩
    · rw [if_neg hk]; exact True.intro
end
section
variable {X : Cx} {W : WX} {tg a b : Expr} {fa fb : FP} {pos p tpos : Pos} {elts : List Expr} {kk : Nat}
theorem pi_seq {l : Expr} {tl : TE} (hl : PE X l tl) : PI X tg l (iSeq X.K tl) := by
  refine ⟨fun pins s σ H R I h => ?_⟩
  refine thn (hl.run pins s σ H _ I h) fun v s1 ⟨x, H1, I1, r1, a, l, ev, ⟨xs, sq⟩, q⟩ => ?_
  subst ev
  cases r1
  have fresh : ∀ b ∈ [s1.heap.objs.size], FpOk X pins H1 b := fun b hb => by
    have e : b = s1.heap.objs.size := List.mem_singleton.mp hb
    subst e
    exact I1.fpOk (Nat.le_refl _) (I1.hok.fresh (Nat.le_refl _))
  cases l with
  | true =>
    obtain ⟨its, rv, pl, _⟩ := I1.list sq
    exact wpAny_pyIter_list pl.isList ⟨s1.heap.objs.size, _, _, _, H1, rfl, I1.kept (t' := s1.toks) fun b o e => Heap.get?_push_of_some _ e, turn_list a _, ⟨_, Heap.get?_push_size _ rfl, rfl, rfl⟩, fresh, q⟩
  | false =>
    obtain ⟨its, rv, pt, _⟩ := I1.tuple sq
    exact wpAny_pyIter_tuple (show s1.heap.IsTuple a its.toArray from pt) ⟨s1.heap.objs.size, _, _, _, H1, rfl, I1.kept (t' := s1.toks) fun b o e => Heap.get?_push_of_some _ e, turn_tuple a _, ⟨_, Heap.get?_push_size _ rfl, rfl, rfl⟩, fresh, q⟩
theorem iv_seq (h : PV X W a fa) : IV X W tg a (fSeq fa) := let ⟨_, h1, h2⟩ := h.ex; ⟨_, pi_seq h1, sndI_seq h2⟩
theorem iv_rg1 (hg : Gl X "range") (hm : X.mg "range" = none) (h : PV X W a fa) (hs : starEach [a] X.env = [(false, eval a X.env)] := by rfl) : IV X W tg (.Call (.Name "range" p) [a] [] pos) (fRg1 fa) :=
  let ⟨_, h1, h2⟩ := h.ex; ⟨_, pi_range1 hg hm (pa_cons h1 pa_nil hs) hs, sndI_rg1 h2⟩
theorem iv_rg2 (hg : Gl X "range") (hm : X.mg "range" = none) (h : PV X W a fa) (h' : PV X W b fb) (hs : starEach [a, b] X.env = [(false, eval a X.env), (false, eval b X.env)] := by rfl) (hs2 : starEach [b] X.env = [(false, eval b X.env)] := by rfl) : IV X W tg (.Call (.Name "range" p) [a, b] [] pos) (fRg2 fa fb) :=
  let ⟨_, h1, h2⟩ := h.ex; let ⟨_, g1, g2⟩ := h'.ex; ⟨_, pi_range2 hg hm (pa_cons h1 (pa_cons g1 pa_nil hs2) (by rw [hs, hs2])) hs hs2, sndI_rg2 h2 g2⟩
theorem iv_zip (hg : Gl X "zip") (hm : X.mg "zip" = none) (h : PV X W a fa) (h' : PV X W b fb) (hs : starEach [a, b] X.env = (false, eval a X.env) :: starEach [b] X.env := by rfl) (hs2 : starEach [b] X.env = [(false, eval b X.env)] := by rfl) (hpl : (backTo pos (starEach [b] X.env)).any (·.1) = false := by rfl) : IV X W (.Tuple elts kk tpos) (.Call (.Name "zip" p) [a, b] [] pos) (fZip fa fb) :=
  let ⟨_, h1, h2⟩ := h.ex; let ⟨_, g1, g2⟩ := h'.ex; ⟨_, RZ.pi_zipA hg hm (pa_cons h1 (pa_cons g1 pa_nil hs2) hs) hs hpl, sndI_zip h2 g2⟩
theorem iv_en (hg : Gl X "enumerate") (hm : X.mg "enumerate" = none) (h : PV X W a fa) (hs : starEach [a] X.env = [(false, eval a X.env)] := by rfl) : IV X W (.Tuple elts kk tpos) (.Call (.Name "enumerate" p) [a] [] pos) (fEn fa) :=
  let ⟨_, h1, h2⟩ := h.ex; ⟨_, pi_enum hg hm (pa_cons h1 pa_nil hs) hs, sndI_en h2⟩
end
end Ls

namespace Ls
open PySem L2
variable [Tb]
/-! ### the reading that a worth gives by itself -/
def rdV {β α : Type} (K : PySem.W.Frag) (W : WX) (R : RR β α) (f : En → Out α) : St → Hp → (β → Hp → Prop) → Prop := fun σ H Q => ∃ ρ S A, WF S H A ∧ ER K S H σ ρ A ∧ (match f ρ with
  | .ok a ρ' => PostV K R σ S H A a ρ' Q
  | .exc x ρ' => PostX K W σ S H A x ρ'
  | .bad => False)
section
variable {K : PySem.W.Frag} {W : WX} {S H : Hp} {A B C : Fp} {σ : St} {ρ : En}
theorem of_rd {β α : Type} {R : RR β α} {t : St → Hp → (β → Hp → Prop) → Prop} {f : En → Out α} (h : Snd K W R t f) {Q : β → Hp → Prop} (r : rdV K W R f σ H Q) : t σ H Q := by
  obtain ⟨ρ, S, A, w, e, q⟩ := r
  have h1 := h σ ρ S H A w e
  cases hf : f ρ with
  | ok a ρ' => rw [hf] at h1 q; exact h1 Q q
  | exc x ρ' => rw [hf] at h1 q; exact h1 Q q
  | bad => rw [hf] at q; exact q.elim
theorem snd_rd {β α : Type} {R : RR β α} {f : En → Out α} : Snd K W R (rdV K W R f) f := by
  intro σ ρ S H A w e
  cases hf : f ρ with
  | ok a ρ' => exact fun Q k => ⟨ρ, S, A, w, e, by rw [hf]; exact k⟩
  | exc x ρ' => exact fun Q k => ⟨ρ, S, A, w, e, by rw [hf]; exact k⟩
  | bad => exact True.intro
theorem EV.pe {X : Cx} {e : Expr} {f : FE} (h : EV X W e f) : PE X e (rdV X.K W (ROr X.K) f) := by
  obtain ⟨t, h1, h2⟩ := h.ex
  exact ⟨fun pins s σ H Q I q => h1.run pins s σ H Q I (of_rd h2 q)⟩
theorem TV.pt {X : Cx} {e : Expr} {f : FT} (h : TV X W e f) : PT X e (rdV X.K W (REq Bool) f) := by
  obtain ⟨t, h1, h2⟩ := h.ex
  exact ⟨fun pins s σ H Q I q => h1.run pins s σ H Q I (of_rd h2 q)⟩
/-! ### targets -/
abbrev FG := PyData → En → Option En
abbrev FGs := List PyData → En → Option En
def PostG (K : PySem.W.Frag) (σ : St) (S H : Hp) (A : Fp) (vs : List Nat) (ρ' : En) (Q : St → Hp → Prop) : Prop := ∀ σ' A', ER K S H σ' ρ' A' → (∀ b, A' b ≤ A b) → σ'.length = σ.length → (∀ i, i ∉ vs → σ'[i]? = σ[i]?) → Q σ' H
def SndG (K : PySem.W.Frag) (g : TG) (gF : FG) (vs : List Nat) : Prop := ∀ v d σ ρ S H A T ρ', WF S H T → (∀ b, A b ≤ T b) → ER K S H σ ρ A → Dp K S v d → gF d ρ = some ρ' → ∀ Q, PostG K σ S H A vs ρ' Q → g v σ H Q
def SndGs (K : PySem.W.Frag) (g : TGs) (gF : FGs) (vs : List Nat) : Prop := ∀ xs ds σ ρ S H A T ρ', WF S H T → (∀ b, A b ≤ T b) → ER K S H σ ρ A → DpAll K S xs ds → gF ds ρ = some ρ' → ∀ Q, PostG K σ S H A vs ρ' Q → g xs σ H Q
structure GV (X : Cx) (tg : Expr) (vs : List Nat) (gF : FG) : Prop where
  ex : ∃ g, PG X tg g ∧ SndG X.K g gF vs
structure GsV (X : Cx) (ts : List Expr) (vs : List Nat) (gF : FGs) : Prop where
  ex : ∃ g, PGs X ts g ∧ SndGs X.K g gF vs
def gfN (i : Nat) : FG := fun d ρ => if i < ρ.length then some (ρ.set i (some (.fz d))) else none
/-- a slot stored anew -/
theorem er_store {v : V} {o : O} {i : Nat} (e : ER K S H σ ρ A) (q : OR K S H v o B) (hi : i < ρ.length) : ∃ C, ER K S H (σ.set i (some v)) (ρ.set i (some o)) (B + C) ∧ ∀ b, C b ≤ A b := by
  obtain ⟨C, e1, l1⟩ := er_drop e i none
  have hl := er_len e
  have e2 := er_put e1 (i := i) (v := v) (o := o) (B := B) (by rw [List.length_set, hl]; exact hi) q (List.getElem?_set_self hi)
  rw [List.set_set, List.set_set] at e2
  exact ⟨C, e2, l1⟩
theorem sndG_name {i : Nat} : SndG K (gName i) (gfN i) [i] := by
  intro v d σ ρ S H A T ρ' w le e hv hg Q k
  unfold gfN at hg
  by_cases hi : i < ρ.length
  · rw [if_pos hi] at hg
    cases hg
    obtain ⟨C, e1, l1⟩ := er_store e (OR.fz hv (A := Fp.z) fun _ => rfl) hi
    refine k _ _ e1 (fun b => by rw [add_at, z_at]; have := l1 b; omega) (List.length_set) fun j hj => ?_
    exact List.getElem?_set_ne fun z => hj (List.mem_singleton.mpr z.symm)
  · rw [if_neg hi] at hg; cases hg
def gsN : FGs := fun ds ρ => match ds with
  | [] => some ρ
  | _ => none
def gsC (g : FG) (gs : FGs) : FGs := fun ds ρ => match ds with
  | d :: r => (g d ρ).bind fun ρ1 => gs r ρ1
  | [] => none
theorem sndGs_nil : SndGs K gNil gsN [] := by
  intro xs ds σ ρ S H A T ρ' w le e hv hg Q k
  cases hv with
  | nil => cases hg; exact ⟨rfl, k σ A e (fun _ => Nat.le_refl _) rfl fun _ _ => rfl⟩
  | cons _ _ => cases hg
theorem sndGs_cons {g : TG} {gs : TGs} {gF : FG} {gsF : FGs} {vs ws : List Nat} (h1 : SndG K g gF vs) (h2 : SndGs K gs gsF ws) : SndGs K (gCons g gs) (gsC gF gsF) (vs ++ ws) := by
  intro xs ds σ ρ S H A T ρ' w le e hv hg Q k
  cases hv with
  | nil => cases hg
  | cons q r =>
    obtain ⟨ρ1, a1, a2⟩ := Option.bind_eq_some_iff.mp (show (gF _ ρ).bind _ = some ρ' from hg)
    refine ⟨_, _, rfl, h1 _ _ σ ρ S H A T ρ1 w le e q a1 _ fun σ1 A1 e1 l1 n1 k1 => ?_⟩
    refine h2 _ _ σ1 ρ1 S H A1 T ρ' w (fun b => Nat.le_trans (l1 b) (le b)) e1 r a2 _ fun σ2 A2 e2 l2 n2 k2 => ?_
    refine k σ2 A2 e2 (fun b => Nat.le_trans (l2 b) (l1 b)) (n2.trans n1) fun i hi => ?_
    rw [k2 i fun z => hi (List.mem_append_right _ z), k1 i fun z => hi (List.mem_append_left _ z)]
def gfT (n : Nat) (gs : FGs) : FG := fun d ρ => match d with
  | .tuple ds => if ds.length = n then gs ds ρ else none
  | _ => none
theorem sndG_tup {n : Nat} {gs : TGs} {gsF : FGs} {vs : List Nat} (h : SndGs K gs gsF vs) : SndG K (gTup K n gs) (gfT n gsF) vs := by
  intro v d σ ρ S H A T ρ' w le e hv hg Q k
  cases hv with
  | tup q r =>
    have hg : (if _ = n then gsF _ ρ else none) = some ρ' := hg
    split at hg
    · rename_i hn
      exact ⟨_, _, rfl, sqT_mono w.sub q, by rw [dpall_len r]; exact hn, h _ _ σ ρ S H A T ρ' w le e r hg Q k⟩
    · cases hg
  | _ => cases hg
/-- the reading of a target by its worth -/
def rdG (K : PySem.W.Frag) (gF : FG) (vs : List Nat) : TG := fun v σ H Q => ∃ d ρ S A T ρ', WF S H T ∧ (∀ b, A b ≤ T b) ∧ ER K S H σ ρ A ∧ Dp K S v d ∧ gF d ρ = some ρ' ∧ PostG K σ S H A vs ρ' Q
theorem GV.pg {X : Cx} {tg : Expr} {vs : List Nat} {gF : FG} (h : GV X tg vs gF) : PG X tg (rdG X.K gF vs) := by
  obtain ⟨g, h1, h2⟩ := h.ex
  exact ⟨fun pins s σ H v u Q I r ⟨d, ρ, S, A, T, ρ', w, le, e, hv, hg, k⟩ => h1.run pins s σ H v u Q I r (h2 v d σ ρ S H A T ρ' w le e hv hg Q k)⟩
/-! ### comprehensions -/
def wipeE (ρ : En) : List Nat → En
  | [] => ρ
  | v :: vs => (wipeE ρ vs).set v none
abbrev W0 : WX := fun _ _ _ _ => False
def compF (s : Sr) (gF : FG) (test : FT) (elt : FE) (vs : List Nat) : Nat → Nat → En → List O → Out (List O)
  | 0, _, _, _ => .bad
  | n + 1, j, ρ, acc => match s.at ρ with
    | none => .bad
    | some ds => (match ds[j]? with
      | none => .ok acc ρ
      | some d => (match gF d ρ with
        | none => .bad
        | some ρ1 => (match test ρ1 with
          | .ok true ρ2 => (match elt ρ2 with
            | .ok o ρ3 => if acc.length < sizeLine then compF s gF test elt vs n (j + 1) (wipeE ρ3 vs) (acc ++ [o]) else .bad
            | _ => .bad)
          | .ok false ρ2 => compF s gF test elt vs n (j + 1) (wipeE ρ2 vs) acc
          | _ => .bad)))
def eComp (fi : FI) (gF : FG) (test : FT) (elt : FE) (vs : List Nat) : FE := fun ρ => (fi ρ).bind fun s ρ1 => if s.slots.all fun i => !vs.contains i then (match s.at (wipeE ρ1 vs) with
    | some ds => (match compF s gF test elt vs (ds.length + 1) 0 (wipeE ρ1 vs) [] with
      | .ok os ρ2 => .ok (.lst os) ρ2
      | _ => .bad)
    | none => .bad) else .bad
def tYesF : FT := fun ρ => .ok true ρ
/-- slots that tell nothing may hold anything -/
theorem er_any {σ' : St} (e : ER K S H σ ρ A) (hl : σ'.length = σ.length) (h : ∀ (i : Nat) (o : O), ρ[i]? = some (some o) → σ'[i]? = σ[i]?) : ER K S H σ' ρ A := by
  induction e generalizing σ' with
  | nil z =>
    cases σ' with
    | nil => exact .nil z
    | cons _ _ => cases hl
  | non e ih =>
    cases σ' with
    | nil => cases hl
    | cons w' σ' => exact .non (ih (by simpa using hl) fun i o hi => by simpa using h (i + 1) o (by simpa using hi))
  | @som v o _ _ _ _ _ q e z ih =>
    cases σ' with
    | nil => cases hl
    | cons w' σ' =>
      have h0 := h 0 _ rfl
      have h0 : w' = some v := by simpa using h0
      subst h0
      exact .som q (ih (by simpa using hl) fun i o hi => by simpa using h (i + 1) o (by simpa using hi)) z
theorem wipeE_get (ρ : En) : ∀ (vs : List Nat) (i : Nat) (o : O), (wipeE ρ vs)[i]? = some (some o) → i ∉ vs ∧ ρ[i]? = some (some o)
  | [], i, o, h => ⟨by simp, h⟩
  | v :: vs, i, o, h => by
    unfold wipeE at h
    by_cases hi : v = i
    · subst hi
      by_cases hv : v < (wipeE ρ vs).length
      · rw [List.getElem?_set_self hv] at h; cases h
      · rw [List.getElem?_eq_none (by simpa using hv)] at h; cases h
    · rw [List.getElem?_set_ne hi] at h
      obtain ⟨h1, h2⟩ := wipeE_get ρ vs i o h
      exact ⟨by simp only [List.mem_cons, not_or]; exact ⟨fun e => hi e.symm, h1⟩, h2⟩
theorem er_wipe (e : ER K S H σ ρ A) : ∀ vs : List Nat, ∃ C, ER K S H σ (wipeE ρ vs) C ∧ ∀ b, C b ≤ A b
  | [] => ⟨A, e, fun _ => Nat.le_refl _⟩
  | v :: vs => by
    obtain ⟨C, e1, l1⟩ := er_wipe e vs
    obtain ⟨C2, e2, l2⟩ := er_drop e1 v (σ.getD v none)
    refine ⟨C2, ?_, fun b => Nat.le_trans (l2 b) (l1 b)⟩
    refine er_any e2 (by rw [List.length_set]) fun i o hi => ?_
    by_cases hv : v = i
    · subst hv
      have := (wipeE_get (wipeE ρ vs) [v] v o hi).1
      exact absurd (List.mem_singleton.mpr rfl) this
    · exact (List.getElem?_set_ne hv).symm
theorem wipe_get (σ : St) : ∀ (vs : List Nat) (i : Nat), i ∉ vs → (wipe σ vs)[i]? = σ[i]?
  | [], _, _ => rfl
  | v :: vs, i, h => by
    unfold wipe
    simp only [List.mem_cons, not_or] at h
    rw [List.getElem?_set_ne (Ne.symm h.1), wipe_get σ vs i h.2]
theorem wipe_in (σ : St) : ∀ (vs : List Nat) (i : Nat), i ∈ vs → i < σ.length → (wipe σ vs)[i]? = some none
  | v :: vs, i, h, hl => by
    unfold wipe
    by_cases hv : v = i
    · subst hv
      exact List.getElem?_set_self (by rw [wipe_length]; exact hl)
    · rw [List.getElem?_set_ne hv]
      exact wipe_in σ vs i ((List.mem_cons.mp h).resolve_left fun z => hv z.symm) hl
theorem wipe_eq {σ σ' : St} {vs : List Nat} (hl : σ'.length = σ.length) (h : ∀ i, i ∉ vs → σ'[i]? = σ[i]?) : wipe σ' vs = wipe σ vs := by
  apply List.ext_getElem?
  intro i
  by_cases hi : i ∈ vs
  · by_cases hb : i < σ.length
    · rw [wipe_in σ vs i hi hb, wipe_in σ' vs i hi (by omega)]
    · rw [List.getElem?_eq_none (by rw [wipe_length]; omega), List.getElem?_eq_none (by rw [wipe_length]; omega)]
  · rw [wipe_get σ vs i hi, wipe_get σ' vs i hi, h i hi]
theorem ors_snoc : ∀ {vs : List V} {os : List O} {A : Fp} {v : V} {o : O} {B : Fp}, ORs K S H vs os A → OR K S H v o B → ORs K S H (vs ++ [v]) (os ++ [o]) (A + B)
  | _, _, A, _, _, B, .nil z, q => .cons q (.nil (A := Fp.z) fun _ => rfl) fun b => by rw [add_at, z b, z_at]; omega
  | _, _, A, _, _, B, .cons q r z, q' => .cons q (ors_snoc r q') fun b => by simp only [add_at]; rw [z b]; omega
theorem mutO {D : Addr} {u : HO} {T : Fp} (w : WF S H T) (h : 0 < T D) (hu : ¬ Odd u := by first | exact odd_lst | exact odd_tup | exact odd_xd) : WF S (upd H D u) T ∧ Tr S H T S (upd H D u) T := by
  have hs := w.dj D h
  have nt : ∀ a, Tl H a → a ≠ D := fun a t e => by have := (w.ta a t).1; rw [e] at this; omega
  refine ⟨⟨fun a o e => ?_, w.one, w.dj, fun a z => ?_, fun r hr => ?_, fun a t => ?_, fun c o hc ho => ?_⟩, ⟨fun _ _ e => e, fun a o _ z e => ?_, fun _ _ e => .inl e, fun _ z => .inl z⟩⟩
  · rw [upd_ne (ne_of_none e hs)]; exact w.sub a o e
  · by_cases e : a = D
    · subst e; rw [upd_same]; exact fun y => nomatch y
    · rw [upd_ne e]; exact w.th a z
  · obtain ⟨ps, h1, h2, h3⟩ := w.tb r hr
    refine ⟨ps, by rw [upd_ne (nt _ ⟨ps, h1⟩)]; exact h1, h2, fun pos cv hc => ?_⟩
    obtain ⟨c, e1, e2⟩ := h3 pos cv hc
    exact ⟨c, e1, by rw [upd_ne (fun e => by have := w.co c _ e2 ⟨_, _, rfl⟩; rw [e] at this; omega)]; exact e2⟩
  · obtain ⟨ps, t⟩ := t
    by_cases e : a = D
    · subst e; rw [upd_same] at t; cases t; exact absurd (.inr ⟨ps, rfl⟩) hu
    · rw [upd_ne e] at t; exact w.ta a ⟨ps, t⟩
  · by_cases e : c = D
    · subst e; rw [upd_same] at hc; cases hc; exact absurd (.inl ho) hu
    · rw [upd_ne e] at hc; exact w.co c o hc ho
  · have ne : a ≠ D := fun e2 => by rw [e2] at z; omega
    rw [upd_ne ne]; exact e
theorem sndT_yes : SndT K W tYes tYesF := by
  intro σ ρ S H A w e Q k
  exact k true S H A Fp.z (by rw [addz]; exact w) e ⟨rfl, fun _ => rfl⟩ (by rw [addz]; exact Tr.refl)
theorem sndE_comp {wi : TI} {g : TG} {tt : TT} {te : TE} {fi : FI} {gF : FG} {test : FT} {elt : FE} {vs : List Nat} (hi : SndI K W wi fi) (hg : SndG K g gF vs) (ht : SndT K W0 tt test) (he : SndE K W0 te elt) : SndE K W (tLc wi g tt te vs) (eComp fi gF test elt vs) := by
  refine snd_bind (u := fun J σ H Q => ∀ D, H D = none → ∃ Wv : Nat → Nat → Hp → Prop, (∃ m, Wv 0 m (upd H D (.lst []))) ∧ ∀ i m H, Wv i m H →
    (J.stop i H ∧ Q (V.ref D) H) ∨ (J.go i H ∧ ∃ Nx : Hp → Prop, (∀ H', Nx H' → ∃ m', m' < m ∧ Wv (i + 1) m' H') ∧ ∀ x H', J.yld i H x H' → g x (wipe σ vs) H' fun σ2 H2 => wipe σ2 vs = wipe σ vs ∧ tt σ2 H2 fun b H3 =>
      if b = true then te σ2 H3 fun y H4 => ∃ acc, H4 D = some (.lst acc) ∧ acc.length < sizeLine ∧ Nx (upd H4 D (.lst (acc ++ [y]))) else Nx H3)) hi fun J s σ ρ S H A B w e r => ?_
  obtain ⟨src, _⟩ := r
  show OutOk K W (ROr K) _ σ S H (A + B) (if s.slots.all fun i => !vs.contains i then (match s.at (wipeE ρ vs) with
    | some ds => (match compF s gF test elt vs (ds.length + 1) 0 (wipeE ρ vs) [] with
      | .ok os ρ2 => Out.ok (.lst os) ρ2
      | _ => .bad)
    | none => .bad) else .bad)
  by_cases hsl : (s.slots.all fun i => !vs.contains i) = true
  · rw [if_pos hsl]
    cases hat : s.at (wipeE ρ vs) with
    | none => exact True.intro
    | some ds =>
      show OutOk K W (ROr K) _ σ S H (A + B) (match compF s gF test elt vs (ds.length + 1) 0 (wipeE ρ vs) [] with
        | .ok os ρ2 => Out.ok (.lst os) ρ2
        | _ => .bad)
      cases hc : compF s gF test elt vs (ds.length + 1) 0 (wipeE ρ vs) [] with
      | bad => exact True.intro
      | exc _ _ => exact True.intro
      | ok os ρ2 =>
        intro Q k D hD
        have slotOk : ∀ σ' : St, (∀ i, i ∉ vs → σ'[i]? = σ[i]?) → ∀ i ∈ s.slots, σ'[i]? = σ[i]? := fun σ' h i hi => h i fun z => by
          have h1 := List.all_eq_true.mp hsl i hi
          rw [List.contains_iff_mem.mpr z] at h1
          cases h1
        obtain ⟨C0, e0, l0⟩ := er_wipe e vs
        refine ⟨fun j m H' => ∃ ρ' acc va S' A' Ba, WF S' H' (A' + (Fp.one D + Ba)) ∧ ER K S' H' σ ρ' A' ∧ H' D = some (.lst va) ∧ ORs K S' H' va acc Ba ∧ Tr S H (A + B) S' H' (A' + (Fp.one D + Ba)) ∧ compF s gF test elt vs m j ρ' acc = .ok os ρ2 ∧ (∀ (i : Nat) (o : O), ρ'[i]? = some (some o) → i ∉ vs) ∧ (∀ a u, S a = some u → S' a = some u), ⟨ds.length + 1, ?_⟩, ?_⟩
        · obtain ⟨w1, t1, k1⟩ := newO (u := .lst []) w hD
          have l1 : ∀ b, (C0 + (Fp.one D + Fp.z)) b ≤ (Fp.one D + (A + B)) b := fun b => by have := l0 b; simp only [add_at, z_at]; omega
          exact ⟨wipeE ρ vs, [], [], S, C0, Fp.z, w1.less l1, er_keep (fun _ _ h => h) e0 fun a z => k1 a (by have := l0 a; rw [add_at]; omega), upd_same, .nil fun _ => rfl, t1.less l1, hc, fun i o hi => (wipeE_get ρ vs i o hi).1, fun _ _ h => h⟩
        · rintro j m H1 ⟨ρ', acc, va, S', A', Ba, w1, e1, hD1, r1, t1, hcomp, hno, sub0⟩
          cases m with
          | zero => cases hcomp
          | succ n =>
            unfold compF at hcomp
            cases hat1 : s.at ρ' with
            | none => rw [hat1] at hcomp; cases hcomp
            | some ds1 =>
              rw [hat1] at hcomp
              dsimp only at hcomp
              have hsrc := src σ ρ' S' H1 A' (A' + (Fp.one D + Ba)) j ds1 (slotOk σ fun _ _ => rfl) sub0 w1 le1 e1 hat1
              cases hj : ds1[j]? with
              | none =>
                rw [hj] at hcomp
                dsimp only at hcomp
                cases hcomp
                refine .inl ⟨hsrc.2 (List.getElem?_eq_none_iff.mp hj), ?_⟩
                exact k _ S' H1 A' (Fp.one D + Ba) w1 e1 (.lst hD1 r1 fun b => add_at _ _ b) t1
              | some d =>
                rw [hj] at hcomp
                dsimp only at hcomp
                obtain ⟨go, yl⟩ := hsrc.1 d hj
                refine .inr ⟨go, fun H' => ∃ ρ' acc va S' A' Ba, WF S' H' (A' + (Fp.one D + Ba)) ∧ ER K S' H' σ ρ' A' ∧ H' D = some (.lst va) ∧ ORs K S' H' va acc Ba ∧ Tr S H (A + B) S' H' (A' + (Fp.one D + Ba)) ∧ compF s gF test elt vs n (j + 1) ρ' acc = .ok os ρ2 ∧ (∀ (i : Nat) (o : O), ρ'[i]? = some (some o) → i ∉ vs) ∧ (∀ a u, S a = some u → S' a = some u), fun H' h => ⟨n, Nat.lt_succ_self n, h⟩, fun x H2 hy => ?_⟩
                obtain ⟨S2, w2, t2, k2, hx⟩ := yl x H2 hy
                cases hgf : gF d ρ' with
                | none => rw [hgf] at hcomp; cases hcomp
                | some ρ3 =>
                  rw [hgf] at hcomp
                  dsimp only at hcomp
                  have e2 : ER K S2 H2 σ ρ' A' := er_keep t2.fz e1 fun a z => k2 a (by rw [add_at]; omega)
                  have e2' : ER K S2 H2 (wipe σ vs) ρ' A' := er_any e2 (wipe_length σ vs) fun i o hi => wipe_get σ vs i (hno i o hi)
                  have r2 : ORs K S2 H2 va acc Ba := ors_keep t2.fz (fun a z => k2 a (by simp only [add_at]; omega)) r1
                  have hD2 : H2 D = some (.lst va) := (k2 D (by simp only [add_at, one_same]; omega)).trans hD1
                  refine hg x d (wipe σ vs) ρ' S2 H2 A' _ ρ3 w2 le1 e2' hx hgf _ fun σ3 A3 e3 l3 n3 k3 => ?_
                  have ag : ∀ i, i ∉ vs → σ3[i]? = σ[i]? := fun i hi => (k3 i hi).trans (wipe_get σ vs i hi)
                  have len3 : σ3.length = σ.length := n3.trans (wipe_length σ vs)
                  refine ⟨wipe_eq len3 ag, ?_⟩
                  have w3 : WF S2 H2 (A3 + (Fp.one D + Ba)) := w2.less fun b => by have := l3 b; simp only [add_at]; omega
                  have t3 : Tr S H (A + B) S2 H2 (A3 + (Fp.one D + Ba)) := (t1.trans t2).less fun b => by have := l3 b; simp only [add_at]; omega
                  have ht1 := snd_beside ht w3 e3
                  cases htf : test ρ3 with
                  | bad => rw [htf] at hcomp; cases hcomp
                  | exc _ _ => rw [htf] at hcomp; cases hcomp
                  | ok b ρ4 =>
                    rw [htf] at hcomp ht1
                    refine ht1 _ fun b' S4 H4 A4 C4 w4 e4 rb t4 sub4 kp4 => ?_
                    obtain ⟨rfl, _⟩ := rb
                    have l4 : ∀ b, (A4 + (Fp.one D + Ba)) b ≤ (A4 + C4 + (Fp.one D + Ba)) b := fun b => by simp only [add_at]; omega
                    have w4' := w4.less l4
                    have t4' := (t3.trans t4).less l4
                    have hD4 : H4 D = some (.lst va) := (kp4 D (by simp only [add_at, one_same]; omega)).trans hD2
                    have r4 : ORs K S4 H4 va acc Ba := ors_keep sub4 (fun a z => kp4 a (by simp only [add_at]; omega)) r2
                    have back : ∀ {S5 H5 : Hp} {ρ5 : En} {A5 : Fp}, ER K S5 H5 σ3 ρ5 A5 → ∃ C, ER K S5 H5 σ (wipeE ρ5 vs) C ∧ ∀ b, C b ≤ A5 b := fun {S5 H5 ρ5 A5} e5 => by
                      obtain ⟨C, c1, c2⟩ := er_wipe e5 vs
                      exact ⟨C, er_any c1 len3.symm fun i o hi => (ag i (wipeE_get ρ5 vs i o hi).1).symm, c2⟩
                    cases b' with
                    | false =>
                      dsimp only at hcomp
                      obtain ⟨C, c1, c2⟩ := back e4
                      have lc : ∀ b, (C + (Fp.one D + Ba)) b ≤ (A4 + (Fp.one D + Ba)) b := fun b => by have := c2 b; simp only [add_at]; omega
                      exact ⟨_, _, va, S4, C, Ba, w4'.less lc, c1, hD4, r4, t4'.less lc, hcomp, fun i o hi => (wipeE_get ρ4 vs i o hi).1, fun a u z => sub4 a u (t2.fz a u (sub0 a u z))⟩
                    | true =>
                      dsimp only at hcomp
                      have he1 := snd_beside he w4' e4
                      cases hef : elt ρ4 with
                      | bad => rw [hef] at hcomp; cases hcomp
                      | exc _ _ => rw [hef] at hcomp; cases hcomp
                      | ok o ρ5 =>
                        rw [hef] at hcomp he1
                        dsimp only at hcomp
                        by_cases hz : acc.length < sizeLine
                        · rw [if_pos hz] at hcomp
                          show te σ3 H4 _
                          refine he1 _ fun y S5 H5 A5 C5 w5 e5 ry t5 sub5 kp5 => ?_
                          have hD5 : H5 D = some (.lst va) := (kp5 D (by simp only [add_at, one_same]; omega)).trans hD4
                          have r5 : ORs K S5 H5 va acc Ba := ors_keep sub5 (fun a z => kp5 a (by simp only [add_at]; omega)) r4
                          have oneD := w5.one D
                          simp only [add_at, one_same] at oneD
                          obtain ⟨w6, t6⟩ := mutO (D := D) (u := .lst (va ++ [y])) w5 (by simp only [add_at, one_same]; omega)
                          have ne : ∀ {F : Fp}, F D = 0 → ∀ a, 0 < F a → upd H5 D (.lst (va ++ [y])) a = H5 a := fun {F} hF a z => upd_ne fun ea => by rw [ea] at z; omega
                          obtain ⟨C, c1, c2⟩ := back (er_keep (K := K) (S' := S5) (H' := upd H5 D (.lst (va ++ [y]))) (fun _ _ h => h) e5 (ne (by omega)))
                          have lc : ∀ b, (C + (Fp.one D + (Ba + C5))) b ≤ (A5 + C5 + (Fp.one D + Ba)) b := fun b => by have := c2 b; simp only [add_at]; omega
                          refine ⟨va, hD5, by rw [ors_len r5]; exact hz, _, _, va ++ [y], S5, C, Ba + C5, w6.less lc, c1, upd_same, ?_, ((t4'.trans t5).trans t6).less lc, hcomp, fun i o hi => (wipeE_get ρ5 vs i o hi).1, fun a u z => sub5 a u (sub4 a u (t2.fz a u (sub0 a u z)))⟩
                          exact ors_keep (fun _ _ h => h) (ne (by simp only [add_at]; omega)) (ors_snoc r5 ry)
                        · rw [if_neg hz] at hcomp; cases hcomp
  · rw [if_neg hsl]; exact True.intro
end
section
variable {X : Cx} {W : WX}
theorem gv_name (i : Nat) {x : Str} {pos : Pos} (hN : X.N.Nodup) (hi : X.N[i]? = some x := by rfl) (hx : Loc X.env.scope x := by first | exact Or.inl rfl | exact Or.inr rfl) (hf : X.fn x = true ∨ X.env.scope.names.lookup x = some .local := by first | exact .inl rfl | exact .inr rfl | assumption) : GV X (.Name x pos) [i] (gfN i) := ⟨_, pg_name hN hi hx hf, sndG_name⟩
theorem gs_nil : GsV X [] [] gsN := ⟨_, pgs_nil, sndGs_nil⟩
theorem gs_cons {e : Expr} {es : List Expr} {vs ws : List Nat} {g : FG} {gs : FGs} (h : GV X e vs g) (r : GsV X es ws gs) (hs : (assignEach (e :: es) X.env).map (·.2) = assign e X.env :: (assignEach es X.env).map (·.2) := by rfl) : GsV X (e :: es) (vs ++ ws) (gsC g gs) :=
  let ⟨_, h1, h2⟩ := h.ex; let ⟨_, r1, r2⟩ := r.ex; ⟨_, pgs_cons h1 r1 hs, sndGs_cons h2 r2⟩
theorem gv_tup {es : List Expr} {k n : Nat} {pos : Pos} {vs : List Nat} {gs : FGs} (hc : X.calm = true) (h : GsV X es vs gs) (hn : (assignEach es X.env).length = n := by rfl) (hst : (assignEach es X.env).findIdx? (·.1) = none := by rfl) : GV X (.Tuple es k pos) vs (gfT n gs) :=
  let ⟨_, h1, h2⟩ := h.ex; ⟨_, pg_tup hc h1 hn hst, sndG_tup h2⟩
theorem sndG_rd {K : PySem.W.Frag} {gF : FG} {vs : List Nat} : SndG K (rdG K gF vs) gF vs := fun v d σ ρ S H A T ρ' w le e hv hgf Q k => ⟨d, ρ, S, A, T, ρ', w, le, e, hv, hgf, k⟩
theorem ev_lc {elt tg iter : Expr} {scope : Scope} {own : List (Str × Nat)} {vs : List Nat} {pos : Pos} {fi : FI} {gF : FG} {f : FE} (hc : X.calm = true) (hN : X.N.Nodup) (hi : IV X W tg iter fi) (ok : BlkOk X.N X.env.scope scope own)
    (hg : ∀ (s : Shared) (H : Hp) (C : Addr) (cl : List (Str × Addr)) (fp : List Addr), GV (X.blk s H scope (compEnvC scope cl C X.env) fp) tg vs gF)
    (he : ∀ (s : Shared) (H : Hp) (C : Addr) (cl : List (Str × Addr)) (fp : List Addr), EV (X.blk s H scope (compEnvC scope cl C X.env) fp) W0 elt f) (hvs : own.map (·.2) = vs := by rfl) (hs : ∀ x, foldedSetIterable iter X.env x = pure x := by intro _; rfl) :
    EV X W (.ListComp elt [⟨tg, iter, [], 0⟩] scope pos) (eComp fi gF tYesF f vs) :=
  by
  subst hvs
  obtain ⟨_, i1, i2⟩ := hi.ex
  exact ⟨_, pe_lc (g := rdG X.K gF (own.map (·.2))) (te := rdV X.K W0 (ROr X.K) f) hc hN i1 ok (fun s H C cl fp => (hg s H C cl fp).pg) (fun _ _ _ _ _ => pts_nil) (fun s H C cl fp => (he s H C cl fp).pe) hs, sndE_comp i2 sndG_rd sndT_yes snd_rd⟩
theorem ev_lcIf {elt tg iter c : Expr} {scope : Scope} {own : List (Str × Nat)} {vs : List Nat} {pos : Pos} {fi : FI} {gF : FG} {f : FE} {test : FT} (hc : X.calm = true) (hN : X.N.Nodup) (hi : IV X W tg iter fi) (ok : BlkOk X.N X.env.scope scope own)
    (hg : ∀ (s : Shared) (H : Hp) (C : Addr) (cl : List (Str × Addr)) (fp : List Addr), GV (X.blk s H scope (compEnvC scope cl C X.env) fp) tg vs gF)
    (ht : ∀ (s : Shared) (H : Hp) (C : Addr) (cl : List (Str × Addr)) (fp : List Addr), TV (X.blk s H scope (compEnvC scope cl C X.env) fp) W0 c test)
    (he : ∀ (s : Shared) (H : Hp) (C : Addr) (cl : List (Str × Addr)) (fp : List Addr), EV (X.blk s H scope (compEnvC scope cl C X.env) fp) W0 elt f) (hvs : own.map (·.2) = vs := by rfl) (hs : ∀ x, foldedSetIterable iter X.env x = pure x := by intro _; rfl) :
    EV X W (.ListComp elt [⟨tg, iter, [c], 0⟩] scope pos) (eComp fi gF test f vs) :=
  by
  subst hvs
  obtain ⟨_, i1, i2⟩ := hi.ex
  exact ⟨_, pe_lc (g := rdG X.K gF (own.map (·.2))) (tt := rdV X.K W0 (REq Bool) test) (te := rdV X.K W0 (ROr X.K) f) hc hN i1 ok (fun s H C cl fp => (hg s H C cl fp).pg) (fun s H C cl fp => pts_one (ht s H C cl fp).pt) (fun s H C cl fp => (he s H C cl fp).pe) hs, sndE_comp i2 sndG_rd snd_rd snd_rd⟩
end
end Ls

namespace Ls
open PySem L2
variable [Tb]
/-! ### statements -/
abbrev FS := En → SO
def Kp (P : List Nat) (σ σ' : St) : Prop := σ'.length = σ.length ∧ ∀ i ∈ P, σ'[i]? = σ[i]?
theorem Kp.refl {P : List Nat} {σ : St} : Kp P σ σ := ⟨rfl, fun _ _ => rfl⟩
theorem Kp.trans {P : List Nat} {σ σ1 σ2 : St} (a : Kp P σ σ1) (b : Kp P σ1 σ2) : Kp P σ σ2 := ⟨b.1.trans a.1, fun i hi => (b.2 i hi).trans (a.2 i hi)⟩
theorem Kp.less {P P' : List Nat} {σ σ' : St} (a : Kp P σ σ') (h : ∀ i ∈ P', i ∈ P) : Kp P' σ σ' := ⟨a.1, fun i hi => a.2 i (h i hi)⟩
section
variable (K : PySem.W.Frag) (W : WX) (P : List Nat) (σ : St) (S H : Hp) (A : Fp)
def PostS (ρ' : En) (q : St → Hp → Prop) : Prop := ∀ σ' S' H' A', WF S' H' A' → ER K S' H' σ' ρ' A' → Tr S H A S' H' A' → Kp P σ σ' → q σ' H'
def PostR (o : O) (ρ' : En) (q : VK) : Prop := ∀ v σ' S' H' A' B, WF S' H' (A' + B) → ER K S' H' σ' ρ' A' → OR K S' H' v o B → Tr S H A S' H' (A' + B) → Kp P σ σ' → q v H'
def PostXS (x : Xn) (ρ' : En) : Prop := ∀ cls d σ' S' H' A', WF S' H' A' → ER K S' H' σ' ρ' A' → XR K S' x cls d → Tr S H A S' H' A' → Kp P σ σ' → W cls d σ' H'
def SOk (t : TS) : SO → Prop
  | .nx ρ' => ∀ D : Ends, PostS K P σ S H A ρ' D.nx → t D σ H
  | .rt o ρ' => ∀ D : Ends, PostR K P σ S H A o ρ' D.rt → t D σ H
  | .bk ρ' => ∀ D : Ends, PostS K P σ S H A ρ' D.bk → t D σ H
  | .ct ρ' => ∀ D : Ends, PostS K P σ S H A ρ' D.ct → t D σ H
  | .exc x ρ' => ∀ D : Ends, PostXS K W P σ S H A x ρ' → t D σ H
  | .bad => True
end
def SndS (K : PySem.W.Frag) (W : WX) (P : List Nat) (t : TS) (f : FS) : Prop := ∀ σ ρ S H A, WF S H A → ER K S H σ ρ A → SOk K W P σ S H A t (f ρ)
structure SV (X : Cx) (W : WX) (P : List Nat) (st : Stmt) (f : FS) : Prop where
  ex : ∃ t, PS X st t ∧ SndS X.K W P t f
structure BV (X : Cx) (W : WX) (P : List Nat) (sts : List Stmt) (f : FS) : Prop where
  ex : ∃ t, PSs X sts t ∧ SndS X.K W P t f
def SO.then (o : SO) (k : En → SO) : SO := match o with
  | .nx ρ => k ρ
  | o => o
def Out.toS {α : Type} (o : Out α) (k : α → En → SO) : SO := match o with
  | .ok a ρ => k a ρ
  | .exc x ρ => .exc x ρ
  | .bad => .bad
section
variable {K : PySem.W.Frag} {W : WX} {P : List Nat} {S H : Hp} {A B C : Fp} {σ : St} {ρ : En}
def sNil : FS := fun ρ => .nx ρ
def sSeq (f g : FS) : FS := fun ρ => (f ρ).then g
theorem sndS_nil : SndS K W P tNext sNil := fun σ ρ S H A w e D k => k σ S H A w e Tr.refl Kp.refl
theorem sndS_bk : SndS K W P tBreak (fun ρ => .bk ρ) := fun σ ρ S H A w e D k => k σ S H A w e Tr.refl Kp.refl
theorem sndS_ct : SndS K W P tCont (fun ρ => .ct ρ) := fun σ ρ S H A w e D k => k σ S H A w e Tr.refl Kp.refl
theorem sndS_never : SndS K W P tNever (fun _ => .bad) := fun _ _ _ _ _ _ _ => True.intro
theorem sndS_seq {t u : TS} {f g : FS} (h1 : SndS K W P t f) (h2 : SndS K W P u g) : SndS K W P (tSeq t u) (sSeq f g) := by
  intro σ ρ S H A w e
  have q := h1 σ ρ S H A w e
  show SOk K W P σ S H A _ ((f ρ).then g)
  cases hf : f ρ with
  | bad => exact True.intro
  | rt o ρ' => rw [hf] at q; exact fun D k => q _ k
  | bk ρ' => rw [hf] at q; exact fun D k => q _ k
  | ct ρ' => rw [hf] at q; exact fun D k => q _ k
  | exc x ρ' => rw [hf] at q; exact fun D k => q _ k
  | nx ρ' =>
    rw [hf] at q
    show SOk K W P σ S H A _ (g ρ')
    cases hg : g ρ' with
    | bad => exact True.intro
    | nx ρ2 =>
      exact fun D k => q { D with nx := u D } fun σ1 S1 H1 A1 w1 e1 t1 k1 => by
        have q2 := h2 σ1 ρ' S1 H1 A1 w1 e1
        rw [hg] at q2
        exact q2 D fun σ2 S2 H2 A2 w2 e2 t2 k2 => k σ2 S2 H2 A2 w2 e2 (t1.trans t2) (k1.trans k2)
    | bk ρ2 =>
      exact fun D k => q { D with nx := u D } fun σ1 S1 H1 A1 w1 e1 t1 k1 => by
        have q2 := h2 σ1 ρ' S1 H1 A1 w1 e1
        rw [hg] at q2
        exact q2 D fun σ2 S2 H2 A2 w2 e2 t2 k2 => k σ2 S2 H2 A2 w2 e2 (t1.trans t2) (k1.trans k2)
    | ct ρ2 =>
      exact fun D k => q { D with nx := u D } fun σ1 S1 H1 A1 w1 e1 t1 k1 => by
        have q2 := h2 σ1 ρ' S1 H1 A1 w1 e1
        rw [hg] at q2
        exact q2 D fun σ2 S2 H2 A2 w2 e2 t2 k2 => k σ2 S2 H2 A2 w2 e2 (t1.trans t2) (k1.trans k2)
    | rt o ρ2 =>
      exact fun D k => q { D with nx := u D } fun σ1 S1 H1 A1 w1 e1 t1 k1 => by
        have q2 := h2 σ1 ρ' S1 H1 A1 w1 e1
        rw [hg] at q2
        exact q2 D fun v σ2 S2 H2 A2 B2 w2 e2 r2 t2 k2 => k v σ2 S2 H2 A2 B2 w2 e2 r2 (t1.trans t2) (k1.trans k2)
    | exc x ρ2 =>
      exact fun D k => q { D with nx := u D } fun σ1 S1 H1 A1 w1 e1 t1 k1 => by
        have q2 := h2 σ1 ρ' S1 H1 A1 w1 e1
        rw [hg] at q2
        exact q2 D fun cls d σ2 S2 H2 A2 w2 e2 x2 t2 k2 => k cls d σ2 S2 H2 A2 w2 e2 x2 (t1.trans t2) (k1.trans k2)
/-- an expression (a test ..) first, then a statement's work with its worth -/
theorem sndS_bind {β α : Type} {R : RR β α} {t : St → Hp → (β → Hp → Prop) → Prop} {u : β → Ends → St → Hp → Prop} {f : En → Out α} {k : α → En → SO} (h : Snd K W R t f)
    (hk : ∀ v a σ ρ S H A B, WF S H (A + B) → ER K S H σ ρ A → R σ S H v a B → SOk K W P σ S H (A + B) (u v) (k a ρ)) : SndS K W P (fun D σ H => t σ H fun v H1 => u v D σ H1) fun ρ => (f ρ).toS k := by
  intro σ ρ S H A w e
  have q := h σ ρ S H A w e
  show SOk K W P σ S H A _ ((f ρ).toS k)
  cases hf : f ρ with
  | bad => exact True.intro
  | exc x ρ' =>
    rw [hf] at q
    exact fun D k => q _ fun cls d S' H' A' w' e' x' t' => k cls d σ S' H' A' w' e' x' t' Kp.refl
  | ok a ρ' =>
    rw [hf] at q
    show SOk K W P σ S H A _ (k a ρ')
    cases hk2 : k a ρ' with
    | bad => exact True.intro
    | nx ρ2 =>
      exact fun D z => q _ fun v S1 H1 A1 B1 w1 e1 r1 t1 => by
        have q2 := hk v a σ ρ' S1 H1 A1 B1 w1 e1 r1
        rw [hk2] at q2
        exact q2 D fun σ2 S2 H2 A2 w2 e2 t2 k2 => z σ2 S2 H2 A2 w2 e2 (t1.trans t2) k2
    | bk ρ2 =>
      exact fun D z => q _ fun v S1 H1 A1 B1 w1 e1 r1 t1 => by
        have q2 := hk v a σ ρ' S1 H1 A1 B1 w1 e1 r1
        rw [hk2] at q2
        exact q2 D fun σ2 S2 H2 A2 w2 e2 t2 k2 => z σ2 S2 H2 A2 w2 e2 (t1.trans t2) k2
    | ct ρ2 =>
      exact fun D z => q _ fun v S1 H1 A1 B1 w1 e1 r1 t1 => by
        have q2 := hk v a σ ρ' S1 H1 A1 B1 w1 e1 r1
        rw [hk2] at q2
        exact q2 D fun σ2 S2 H2 A2 w2 e2 t2 k2 => z σ2 S2 H2 A2 w2 e2 (t1.trans t2) k2
    | rt o ρ2 =>
      exact fun D z => q _ fun v S1 H1 A1 B1 w1 e1 r1 t1 => by
        have q2 := hk v a σ ρ' S1 H1 A1 B1 w1 e1 r1
        rw [hk2] at q2
        exact q2 D fun v2 σ2 S2 H2 A2 B2 w2 e2 r2 t2 k2 => z v2 σ2 S2 H2 A2 B2 w2 e2 r2 (t1.trans t2) k2
    | exc x ρ2 =>
      exact fun D z => q _ fun v S1 H1 A1 B1 w1 e1 r1 t1 => by
        have q2 := hk v a σ ρ' S1 H1 A1 B1 w1 e1 r1
        rw [hk2] at q2
        exact q2 D fun cls d σ2 S2 H2 A2 w2 e2 x2 t2 k2 => z cls d σ2 S2 H2 A2 w2 e2 x2 (t1.trans t2) k2
/-- a statement behind something held that is dropped -/
theorem sOk_less {t : TS} {f : FS} (h : SndS K W P t f) (w : WF S H (A + B)) (e : ER K S H σ ρ A) : SOk K W P σ S H (A + B) t (f ρ) := by
  have q := h σ ρ S H A (w.less le1) e
  have t0 : Tr S H (A + B) S H A := Tr.refl.less le1
  cases hf : f ρ with
  | bad => exact True.intro
  | nx ρ2 => rw [hf] at q; exact fun D z => q D fun σ2 S2 H2 A2 w2 e2 t2 k2 => z σ2 S2 H2 A2 w2 e2 (t0.trans t2) k2
  | bk ρ2 => rw [hf] at q; exact fun D z => q D fun σ2 S2 H2 A2 w2 e2 t2 k2 => z σ2 S2 H2 A2 w2 e2 (t0.trans t2) k2
  | ct ρ2 => rw [hf] at q; exact fun D z => q D fun σ2 S2 H2 A2 w2 e2 t2 k2 => z σ2 S2 H2 A2 w2 e2 (t0.trans t2) k2
  | rt o ρ2 => rw [hf] at q; exact fun D z => q D fun v2 σ2 S2 H2 A2 B2 w2 e2 r2 t2 k2 => z v2 σ2 S2 H2 A2 B2 w2 e2 r2 (t0.trans t2) k2
  | exc x ρ2 => rw [hf] at q; exact fun D z => q D fun cls d σ2 S2 H2 A2 w2 e2 x2 t2 k2 => z cls d σ2 S2 H2 A2 w2 e2 x2 (t0.trans t2) k2
def sIf (c : FT) (f g : FS) : FS := fun ρ => (c ρ).toS fun b ρ' => if b then f ρ' else g ρ'
theorem sndS_if {c : TT} {t u : TS} {fc : FT} {f g : FS} (hc : SndT K W c fc) (h1 : SndS K W P t f) (h2 : SndS K W P u g) : SndS K W P (tIfS c t u) (sIf fc f g) := by
  refine sndS_bind (u := fun b D σ H => if b = true then t D σ H else u D σ H) hc fun b b' σ ρ S H A B w e r => ?_
  obtain ⟨rfl, _⟩ := r
  cases b with
  | true => exact sOk_less h1 w e
  | false => exact sOk_less h2 w e
def sRet (f : FE) : FS := fun ρ => (f ρ).toS fun o ρ' => .rt o ρ'
theorem sndS_ret {t : TE} {f : FE} (h : SndE K W t f) : SndS K W P (tRet t) (sRet f) :=
  sndS_bind (u := fun v D _ H => D.rt v H) h fun v o σ ρ S H A B w e r D k => k v σ S H A B w e r Tr.refl Kp.refl
def sRetN : FS := fun ρ => .rt (.fz .none) ρ
theorem sndS_retN : SndS K W P tRetN sRetN := fun σ ρ S H A w e D k => k .non σ S H A Fp.z (by rw [addz]; exact w) e (.fz .non fun _ => rfl) (by rw [addz]; exact Tr.refl) Kp.refl
def sDrop (f : FE) : FS := fun ρ => (f ρ).toS fun _ ρ' => .nx ρ'
theorem sndS_drop {t : TE} {f : FE} (h : SndE K W t f) : SndS K W P (tDrop t) (sDrop f) :=
  sndS_bind (u := fun _ D σ H => D.nx σ H) h fun v o σ ρ S H A B w e r D k => k σ S H A (w.less le1) e (Tr.refl.less le1) Kp.refl
def sSet (i : Nat) (f : FE) : FS := fun ρ => (f ρ).toS fun o ρ' => if i < ρ'.length then .nx (ρ'.set i (some o)) else .bad
theorem kp_set {i : Nat} {w : Option V} (h : P.contains i = false) : Kp P σ (σ.set i w) := ⟨List.length_set, fun j hj => List.getElem?_set_ne fun z => by
  subst z
  rw [List.contains_iff_mem.mpr hj] at h
  cases h⟩
theorem sndS_set {i : Nat} {t : TE} {f : FE} (h : SndE K W t f) (hP : P.contains i = false) : SndS K W P (tAsg t (gName i)) (sSet i f) := by
  refine sndS_bind (u := fun v D σ H => D.nx (σ.set i (some v)) H) h fun v o σ ρ S H A B w e r => ?_
  show SOk K W P σ S H (A + B) _ (if i < ρ.length then SO.nx (ρ.set i (some o)) else .bad)
  by_cases hi : i < ρ.length
  · rw [if_pos hi]
    intro D k
    obtain ⟨C, e1, l1⟩ := er_store e r hi
    have l2 : ∀ b, (B + C) b ≤ (A + B) b := fun b => by have := l1 b; simp only [add_at]; omega
    exact k _ S H _ (w.less l2) e1 (Tr.refl.less l2) (kp_set hP)
  · rw [if_neg hi]; exact True.intro
/-- (a, b, ..) = e -/
def sAsg (gF : FG) (f : FE) : FS := fun ρ => (f ρ).toS fun o ρ' => match (frz o).bind fun d => gF d ρ' with
  | some ρ2 => .nx ρ2
  | none => .bad
theorem sndS_asg {t : TE} {g : TG} {f : FE} {gF : FG} {vs : List Nat} (h : SndE K W t f) (hg : SndG K g gF vs) (hP : vs.all (fun i => !P.contains i) = true) : SndS K W P (tAsg t g) (sAsg gF f) := by
  refine sndS_bind (u := fun v D σ H => g v σ H D.nx) h fun v o σ ρ S H A B w e r => ?_
  show SOk K W P σ S H (A + B) _ (match (frz o).bind fun d => gF d ρ with
    | some ρ2 => SO.nx ρ2
    | none => .bad)
  cases hz : (frz o).bind fun d => gF d ρ with
  | none => exact True.intro
  | some ρ2 =>
    obtain ⟨d, a1, a2⟩ := Option.bind_eq_some_iff.mp hz
    intro D k
    obtain ⟨w2, t2, sub2⟩ := settle_wf w
    have dq := or_settle (fun b hb => w.dj b (by rw [add_at]; omega)) (fun b => Nat.le_refl _) r a1
    refine hg v d σ ρ (settle S H B) H A A ρ2 w2 (fun _ => Nat.le_refl _) (er_keep sub2 e fun _ _ => rfl) dq a2 _ fun σ' A' e' l' n' k' => ?_
    refine k σ' _ H A' (w2.less l') e' (t2.less l') ⟨n', fun i hi => k' i fun z => ?_⟩
    have h1 := List.all_eq_true.mp hP i z
    rw [List.contains_iff_mem.mpr hi] at h1
    cases h1
/-- a, b = x, y -/
def sPar (i j : Nat) (fa : FA) : FS := fun ρ => (fa ρ).toS fun os ρ' => match os with
  | [a, b] => if i < ρ'.length ∧ j < ρ'.length then .nx ((ρ'.set i (some a)).set j (some b)) else .bad
  | _ => .bad
theorem sndS_par {i j : Nat} {ls : List (Option Nat)} {ta : TA} {fa : FA} (h : Snd K W (RArgs K ls) ta fa) (hP : P.contains i = false) (hP2 : P.contains j = false) : SndS K W P (tPar i j ta) (sPar i j fa) := by
  refine sndS_bind (u := fun vs D σ H => ∃ v w, vs = [v, w] ∧ D.nx ((σ.set i (some v)).set j (some w)) H) h fun vs os σ ρ S H A B w e r => ?_
  obtain ⟨r, _, _⟩ := r
  cases r with
  | nil _ => exact True.intro
  | @cons v1 vs1 x1 xs1 _ B1 C1 q1 r1 z1 =>
    cases r1 with
    | nil _ => exact True.intro
    | @cons v2 vs2 x2 xs2 _ B2 C3 q2 r2 z2 =>
      cases r2 with
      | cons _ _ _ => exact True.intro
      | nil z3 =>
        show SOk K W P σ S H (A + B) _ (if i < ρ.length ∧ j < ρ.length then SO.nx _ else .bad)
        by_cases hi : i < ρ.length ∧ j < ρ.length
        · rw [if_pos hi]
          intro D k
          obtain ⟨C, e1, l1⟩ := er_store e q1 hi.1
          obtain ⟨C2, e2, l2⟩ := er_store e1 q2 (i := j) (by rw [List.length_set]; exact hi.2)
          have l3 : ∀ b, (B2 + C2) b ≤ (A + B) b := fun b => by
            have a1 := l1 b
            have a2 := l2 b
            have a3 := z1 b
            have a4 := z2 b
            simp only [add_at] at a2 ⊢
            omega
          exact ⟨_, _, rfl, k _ S H _ (w.less l3) e2 (Tr.refl.less l3) ((kp_set hP).trans (kp_set hP2))⟩
        · rw [if_neg hi]; exact True.intro
end
section
variable {X : Cx} {W : WX} {P : List Nat} {st : Stmt} {sts : List Stmt} {f g : FS} {e : Expr} {fe : FE} {pos : Pos}
theorem bv_nil : BV X W P [] sNil := ⟨_, pss_nil, sndS_nil⟩
theorem bv_cons (h : SV X W P st f) (r : BV X W P sts g) : BV X W P (st :: sts) (sSeq f g) := let ⟨_, h1, h2⟩ := h.ex; let ⟨_, r1, r2⟩ := r.ex; ⟨_, pss_cons h1 r1, sndS_seq h2 r2⟩
theorem bv_one (h : SV X W P st f) : BV X W P [st] f := let ⟨_, h1, h2⟩ := h.ex; ⟨_, pss_one h1, h2⟩
theorem sv_never : SV X W P st (fun _ => .bad) := ⟨_, ps_never, sndS_never⟩
theorem sv_pass : SV X W P (.Pass pos) sNil := ⟨_, ps_pass, sndS_nil⟩
theorem sv_break : SV X W P (.Break pos) (fun ρ => .bk ρ) := ⟨_, ps_break, sndS_bk⟩
theorem sv_cont : SV X W P (.Continue pos) (fun ρ => .ct ρ) := ⟨_, ps_continue, sndS_ct⟩
theorem sv_ret (h : EV X W e fe) : SV X W P (.Return (some e) pos) (sRet fe) := let ⟨_, h1, h2⟩ := h.ex; ⟨_, ps_ret h1, sndS_ret h2⟩
theorem sv_retN : SV X W P (.Return none pos) sRetN := ⟨_, ps_retN, sndS_retN⟩
theorem sv_if {c : Expr} {a b : List Stmt} {fc : FT} (hc : TV X W c fc) (ha : BV X W P a f) (hb : BV X W P b g) : SV X W P (.If c a b pos) (sIf fc f g) :=
  let ⟨_, c1, c2⟩ := hc.ex; let ⟨_, a1, a2⟩ := ha.ex; let ⟨_, b1, b2⟩ := hb.ex; ⟨_, ps_if c1 a1 b1, sndS_if c2 a2 b2⟩
theorem sv_expr (h : EV X W e fe) (hs : swapsWith e none pos.line X.env = pure false := by rfl) : SV X W P (.Expr e pos) (sDrop fe) := let ⟨_, h1, h2⟩ := h.ex; ⟨_, ps_expr h1 hs, sndS_drop h2⟩
theorem sv_set (i : Nat) {x : Str} {pos' : Pos} (hN : X.N.Nodup) (h : EV X W e fe) (hP : P.contains i = false := by rfl) (hi : X.N[i]? = some x := by rfl) (hx : Loc X.env.scope x := by first | exact Or.inl rfl | exact Or.inr rfl) (hs : swapsWith e (some (.Name x pos')) pos.line X.env = pure false := by rfl) (hf : X.fn x = true ∨ X.env.scope.names.lookup x = some .local := by first | exact .inl rfl | exact .inr rfl | assumption) :
    SV X W P (.Assign [.Name x pos'] e pos) (sSet i fe) := let ⟨_, h1, h2⟩ := h.ex; ⟨_, ps_set hN hi hx h1 hs hf, sndS_set h2 hP⟩
theorem sv_asg {tg : Expr} {vs : List Nat} {gF : FG} (h : EV X W e fe) (hg : GV X tg vs gF) (hP : vs.all (fun i => !P.contains i) = true := by rfl) (hs : swapsWithSole [tg] e pos.line X.env = pure false := by rfl) (hw : swappedStores [tg] e X.env = pure none := by rfl)
    (h1 : (assignEach [tg] X.env).map (·.2) = [assign tg X.env] := by rfl) : SV X W P (.Assign [tg] e pos) (sAsg gF fe) := let ⟨_, e1, e2⟩ := h.ex; let ⟨_, g1, g2⟩ := hg.ex; ⟨_, ps_asg e1 g1 hs hw h1, sndS_asg e2 g2 hP⟩
theorem sv_par (i j : Nat) {x y : Str} {a b : Expr} {ls : List (Option Nat)} {fa : FA} {px py pt : Pos} {kt k2 pt2} (hc : X.calm = true) (hN : X.N.Nodup) (ha : AV X W [a, b] ls fa) (hP : P.contains i = false := by rfl) (hP2 : P.contains j = false := by rfl) (hi : X.N[i]? = some x := by rfl) (hj : X.N[j]? = some y := by rfl) (hij : i ≠ j := by decide)
    (hx : X.env.scope.names.lookup x = some .local := by rfl) (hy : X.env.scope.names.lookup y = some .local := by rfl) (hw : swappedStores [.Tuple [.Name x px, .Name y py] kt pt] (.Tuple [a, b] k2 pt2) X.env = pure (some [x, y]) := by rfl)
    (hs : swapsWithSole [.Tuple [.Name x px, .Name y py] kt pt] (.Tuple [a, b] k2 pt2) pos.line X.env = pure false := by rfl) : SV X W P (.Assign [.Tuple [.Name x px, .Name y py] kt pt] (.Tuple [a, b] k2 pt2) pos) (sPar i j fa) :=
  let ⟨_, a1, a2⟩ := ha.ex; ⟨_, ps_par hc hN hi hj hij hx hy a1 hw hs, sndS_par a2 hP hP2⟩
end
end Ls

namespace Ls
open PySem L2
variable [Tb]
section
variable {K : PySem.W.Frag} {W : WX} {P : List Nat} {S H : Hp} {A B C : Fp} {σ : St} {ρ : En}
/-! ### x.append(e), x[i] = e of a slot's own list -/
theorem slot_own {j : Nat} {xs : List O} (e : ER K S H σ ρ A) (hj : ρ[j]? = some (some (.lst xs))) : ∃ a vs Bx C, σ[j]? = some (some (.ref a)) ∧ H a = some (.lst vs) ∧ ORs K S H vs xs Bx ∧ ER K S H σ (ρ.set j none) C ∧ ∀ b, A b = Fp.one a b + Bx b + C b := by
  obtain ⟨v, B, C, e1, q, e2, z⟩ := er_get e hj
  cases q with
  | @lst a vs _ _ Bx eh r z2 => exact ⟨a, vs, Bx, C, e1, eh, r, e2, fun b => by rw [z b, z2 b]⟩
/-- the list at a becomes ws, worth ys -/
theorem slot_set {j : Nat} {a : Addr} {ws : List V} {ys : List O} {By T : Fp} (w : WF S H T) (h1 : σ[j]? = some (some (.ref a))) (hj : ∃ x, ρ[j]? = some x) (e : ER K S H σ (ρ.set j none) C) (r : ORs K S H ws ys By) (hT : ∀ b, Fp.one a b + By b + C b ≤ T b) :
    ∃ A', WF S (upd H a (.lst ws)) A' ∧ ER K S (upd H a (.lst ws)) σ (ρ.set j (some (.lst ys))) A' ∧ Tr S H T S (upd H a (.lst ws)) A' := by
  have ta : 0 < T a := by have := hT a; rw [one_same] at this; omega
  have t1 := w.one a
  have h2 := hT a
  rw [one_same] at h2
  obtain ⟨w2, t2⟩ := mutO (u := .lst ws) w ta
  have ne : ∀ {F : Fp}, F a = 0 → ∀ b, 0 < F b → upd H a (.lst ws) b = H b := fun {F} hF b z => upd_ne fun eb => by rw [eb] at z; omega
  have e2 := er_keep (K := K) (S' := S) (H' := upd H a (.lst ws)) (fun _ _ h => h) e (ne (by omega))
  have q2 : OR K S (upd H a (.lst ws)) (.ref a) (.lst ys) (Fp.one a + By) := .lst upd_same (ors_keep (fun _ _ h => h) (ne (by omega)) r) fun b => add_at _ _ b
  obtain ⟨x, hx⟩ := hj
  have e3 := er_back e2 h1 (set_none_get hx) q2
  rw [List.set_set] at e3
  have le : ∀ b, (fun b => (Fp.one a + By) b + C b) b ≤ T b := fun b => by have := hT b; simp only [add_at]; omega
  exact ⟨_, w2.less le, e3, t2.less le⟩
def appK (j : Nat) (o : O) (ρ1 : En) : SO := match ρ1[j]? with
  | some (some (.lst xs)) => if xs.length < sizeLine then .nx (ρ1.set j (some (.lst (xs ++ [o])))) else .bad
  | _ => .bad
def sApp (j : Nat) (f : FE) : FS := fun ρ => match ρ[j]? with
  | some (some (.lst _)) => (f ρ).toS (appK j)
  | _ => .bad
theorem sndS_app {j : Nat} {te : TE} {f : FE} (h : SndE K W te f) : SndS K W P (tDrop (tBM K "list" rAppend (tVar j) (tCons te tNil))) (sApp j f) := by
  intro σ ρ S H A w e
  have q := h σ ρ S H A w e
  unfold sApp
  cases hj : ρ[j]? with
  | none => exact True.intro
  | some x =>
    cases x with
    | none => exact True.intro
    | some o =>
      cases o with
      | fz _ => exact True.intro
      | raw _ => exact True.intro
      | exn _ _ _ _ => exact True.intro
      | lst xs0 =>
        obtain ⟨a, vs0, _, _, hs, hH, _, _, _⟩ := slot_own e hj
        show SOk K W P σ S H A _ ((f ρ).toS (appK j))
        cases hf : f ρ with
        | bad => exact True.intro
        | exc x ρ' =>
          rw [hf] at q
          exact fun D k => ⟨_, hs, Or.inl ⟨rfl, _, SqL.of hH⟩, q _ fun cls d S' H' A' w' e' x' t' => k cls d σ S' H' A' w' e' x' t' Kp.refl⟩
        | ok o ρ1 =>
          rw [hf] at q
          show SOk K W P σ S H A _ (appK j o ρ1)
          unfold appK
          cases hj1 : ρ1[j]? with
          | none => exact True.intro
          | some x =>
            cases x with
            | none => exact True.intro
            | some o' =>
              cases o' with
              | fz _ => exact True.intro
              | raw _ => exact True.intro
              | exn _ _ _ _ => exact True.intro
              | lst xs =>
                show SOk K W P σ S H A _ (if xs.length < sizeLine then SO.nx (ρ1.set j (some (.lst (xs ++ [o])))) else .bad)
                by_cases hz : xs.length < sizeLine
                · rw [if_pos hz]
                  intro D k
                  refine ⟨_, hs, Or.inl ⟨rfl, _, SqL.of hH⟩, q _ fun y S1 H1 A1 B1 w1 e1 r1 t1 => ?_⟩
                  obtain ⟨a', vs, Bx, C, hs1, hH1, rx, e2, z2⟩ := slot_own e1 hj1
                  rw [hs] at hs1
                  cases hs1
                  refine ⟨a, vs, y, rfl, rfl, hH1, by rw [ors_len rx]; exact hz, ?_⟩
                  obtain ⟨A', w3, e3, t3⟩ := slot_set w1 hs ⟨_, hj1⟩ e2 (ors_snoc rx r1) fun b => by simp only [add_at]; rw [z2 b]; omega
                  exact k σ S1 _ A' w3 e3 (t1.trans t3) Kp.refl
                · rw [if_neg hz]; exact True.intro
theorem ors_set : ∀ {vs : List V} {os : List O} {A : Fp} {v : V} {o : O} {B : Fp} (n : Nat), ORs K S H vs os A → OR K S H v o B → ∃ C, ORs K S H (vs.set n v) (os.set n o) C ∧ ∀ b, C b ≤ A b + B b
  | _, _, A, _, _, B, n, .nil z, q => ⟨A, .nil z, fun b => by omega⟩
  | _, _, A, _, _, B, 0, .cons (B := B1) (C := C1) q r z, q' => ⟨B + C1, .cons q' r fun b => add_at _ _ b, fun b => by rw [add_at, z b]; omega⟩
  | _, _, A, _, _, B, n + 1, .cons (B := B1) q r z, q' => by
    obtain ⟨C, h1, h2⟩ := ors_set n r q'
    exact ⟨B1 + C, .cons q h1 fun b => add_at _ _ b, fun b => by rw [add_at, z b]; have := h2 b; omega⟩
def ixK (j : Nat) (o : O) (p : Pk) (ρ2 : En) : SO := match ρ2[j]?, pkD ρ2 p with
  | some (some (.lst xs)), some (.int k) => (match ixN xs.length k with
    | some n => .nx (ρ2.set j (some (.lst (xs.set n o))))
    | none => .bad)
  | _, _ => .bad
def sIx (j : Nat) (fi : FP) (f : FE) : FS := fun ρ => (f ρ).toS fun o ρ1 => match ρ1[j]? with
  | some (some _) => (fi ρ1).toS (ixK j o)
  | _ => .bad
theorem sndS_ix {j : Nat} {te ti : TE} {fi : FP} {f : FE} (h : SndE K W te f) (hi : SndP K W ti fi) : SndS K W P (tAsg te (gSub (tVar j) ti rSetL)) (sIx j fi f) := by
  refine sndS_bind (u := fun v D σ H => gSub (tVar j) ti rSetL v σ H D.nx) h fun v o σ ρ S H A B w e r => ?_
  have q := snd_beside hi w e
  cases hj : ρ[j]? with
  | none => exact True.intro
  | some x =>
    cases x with
    | none => exact True.intro
    | some o0 =>
      obtain ⟨u, _, _, hs, _, _, _⟩ := er_get e hj
      show SOk K W P σ S H (A + B) _ ((fi ρ).toS (ixK j o))
      cases hf : fi ρ with
      | bad => exact True.intro
      | exc x ρ' =>
        rw [hf] at q
        exact fun D k => ⟨u, hs, q _ fun cls d S' H' A' w' e' x' t' => k cls d σ S' H' A' w' e' x' t' Kp.refl⟩
      | ok p ρ2 =>
        rw [hf] at q
        show SOk K W P σ S H (A + B) _ (ixK j o p ρ2)
        unfold ixK
        cases hj1 : ρ2[j]? with
        | none => exact True.intro
        | some x =>
          cases x with
          | none => exact True.intro
          | some o' =>
            cases o' with
            | fz _ => exact True.intro
            | raw _ => exact True.intro
            | exn _ _ _ _ => exact True.intro
            | lst xs =>
              cases hp : pkD ρ2 p with
              | none => exact True.intro
              | some d =>
                cases d with
                | int i =>
                  show SOk K W P σ S H (A + B) _ (match ixN xs.length i with
                    | some n => SO.nx (ρ2.set j (some (.lst (xs.set n o))))
                    | none => .bad)
                  cases hn : ixN xs.length i with
                  | none => exact True.intro
                  | some n =>
                    intro D k
                    refine ⟨u, hs, q _ fun y S1 H1 A1 C1 w1 e1 rp t1 sub1 kp1 => ?_⟩
                    obtain ⟨a, vs, Bx, C, hs1, hH1, rx, e2, z2⟩ := slot_own e1 hj1
                    rw [hs] at hs1
                    cases hs1
                    have r1 : OR K S1 H1 v o B := or_keep sub1 kp1 r
                    obtain ⟨By, r2, l2⟩ := ors_set n rx r1
                    have hy := dp_int (pk_peek w1.sub e1 rp hp)
                    refine ⟨a, vs, i, n, rfl, hy, hH1, by rw [ors_len rx]; exact hn, ?_⟩
                    obtain ⟨A', w3, e3, t3⟩ := slot_set w1 hs ⟨_, hj1⟩ e2 r2 fun b => by have := l2 b; simp only [add_at]; rw [z2 b]; omega
                    exact k σ S1 _ A' w3 e3 (t1.trans t3) Kp.refl
                | _ => exact True.intro
/-! ### x op= e -/
def augK (i : Nat) (a : PyData) (g : PyData → PyData → Option PyData) (p : Pk) (ρ1 : En) : SO := match (pkD ρ1 p).bind fun b => g a b with
  | some c => if i < ρ1.length then .nx (ρ1.set i (some (.fz c))) else .bad
  | none => .bad
def sAug (i : Nat) (g : PyData → PyData → Option PyData) (f : FP) : FS := fun ρ => match ρ[i]? with
  | some (some (.fz (.int n))) => (f ρ).toS (augK i (.int n) g)
  | _ => .bad
theorem sndS_aug {i : Nat} {te : TE} {f : FP} {r : R2} {g : PyData → PyData → Option PyData} (ho : OpS K r g) (h : SndP K W te f) (hP : P.contains i = false) : SndS K W P (tAug i te r) (sAug i g f) := by
  intro σ ρ S H A w e
  have q := h σ ρ S H A w e
  unfold sAug
  cases hj : ρ[i]? with
  | none => exact True.intro
  | some x =>
    cases x with
    | none => exact True.intro
    | some o =>
      cases o with
      | raw _ => exact True.intro
      | exn _ _ _ _ => exact True.intro
      | lst _ => exact True.intro
      | fz d =>
        cases d with
        | int n =>
          obtain ⟨v, _, _, hs, qv, _, _⟩ := er_get e hj
          have ev : v = .int n := by
            cases qv with
            | fz q _ => exact dp_int q
          subst ev
          show SOk K W P σ S H A _ ((f ρ).toS (augK i (.int n) g))
          cases hf : f ρ with
          | bad => exact True.intro
          | exc x ρ' =>
            rw [hf] at q
            exact fun D k => ⟨_, hs, q _ fun cls d S' H' A' w' e' x' t' => k cls d σ S' H' A' w' e' x' t' Kp.refl⟩
          | ok p ρ1 =>
            rw [hf] at q
            show SOk K W P σ S H A _ (augK i (.int n) g p ρ1)
            unfold augK
            cases hg : (pkD ρ1 p).bind fun b => g (.int n) b with
            | none => exact True.intro
            | some c =>
              obtain ⟨b, g1, g2⟩ := Option.bind_eq_some_iff.mp hg
              show SOk K W P σ S H A _ (if i < ρ1.length then SO.nx (ρ1.set i (some (.fz c))) else .bad)
              by_cases hi : i < ρ1.length
              · rw [if_pos hi]
                intro D k
                refine ⟨_, hs, q _ fun y S1 H1 A1 B1 w1 e1 rp t1 => ?_⟩
                refine ho _ y H1 _ b c (.int n) (pk_peek w1.sub e1 rp g1) g2 _ fun z hz => ?_
                obtain ⟨C, e2, l2⟩ := er_store e1 (OR.fz (hz K S1) (A := Fp.z) fun _ => rfl) hi
                have l3 : ∀ b, (Fp.z + C) b ≤ (A1 + B1) b := fun b => by have := l2 b; simp only [add_at, z_at]; omega
                exact k _ S1 H1 _ (w1.less l3) e2 (t1.less l3) (kp_set hP)
              · rw [if_neg hi]; exact True.intro
        | _ => exact True.intro
/-! ### for -/
def forF (s : Sr) (gF : FG) (body : FS) : Nat → Nat → En → SO
  | 0, _, _ => .bad
  | n + 1, j, ρ => match s.at ρ with
    | none => .bad
    | some ds => (match ds[j]? with
      | none => .nx ρ
      | some d => (match gF d ρ with
        | none => .bad
        | some ρ1 => (match body ρ1 with
          | .nx ρ2 => forF s gF body n (j + 1) ρ2
          | .ct ρ2 => forF s gF body n (j + 1) ρ2
          | .bk ρ2 => .nx ρ2
          | r => r)))
def sFor (Z : List Nat) (fi : FI) (gF : FG) (body : FS) : FS := fun ρ => (fi ρ).toS fun s ρ1 => if s.slots.all fun i => Z.contains i then (match s.at ρ1 with
    | some ds => forF s gF body (ds.length + 1) 0 ρ1
    | none => .bad) else .bad
/-- what is wanted of an outcome -/
def EndS (K : PySem.W.Frag) (W : WX) (P : List Nat) (σ : St) (S H : Hp) (A : Fp) (D : Ends) : SO → Prop
  | .nx ρ' => PostS K P σ S H A ρ' D.nx
  | .rt o ρ' => PostR K P σ S H A o ρ' D.rt
  | .bk ρ' => PostS K P σ S H A ρ' D.bk
  | .ct ρ' => PostS K P σ S H A ρ' D.ct
  | .exc x ρ' => PostXS K W P σ S H A x ρ'
  | .bad => False
theorem sOk_of {t : TS} {out : SO} (h : out ≠ .bad → ∀ D, EndS K W P σ S H A D out → t D σ H) : SOk K W P σ S H A t out := by
  cases out with
  | bad => exact True.intro
  | nx ρ' => exact fun D k => h (fun z => nomatch z) D k
  | rt o ρ' => exact fun D k => h (fun z => nomatch z) D k
  | bk ρ' => exact fun D k => h (fun z => nomatch z) D k
  | ct ρ' => exact fun D k => h (fun z => nomatch z) D k
  | exc x ρ' => exact fun D k => h (fun z => nomatch z) D k
theorem sndS_for {wi : TI} {g : TG} {tb : TS} {Z vs : List Nat} {fi : FI} {gF : FG} {body : FS} (hi : SndI K W wi fi) (hg : SndG K g gF vs) (hb : SndS K W (Z ++ P) tb body) (hv : vs.all (fun i => !(Z ++ P).contains i) = true) : SndS K W P (tFor wi g tb) (sFor Z fi gF body) := by
  refine sndS_bind (u := fun J D σ H => ∃ Wv : Nat → Nat → St → Hp → Prop, (∃ m, Wv 0 m σ H) ∧ ∀ i m σ H, Wv i m σ H →
    (J.stop i H ∧ D.nx σ H) ∨ (J.go i H ∧ ∃ Nx : St → Hp → Prop, (∀ σ' H', Nx σ' H' → ∃ m', m' < m ∧ Wv (i + 1) m' σ' H') ∧ ∀ x H', J.yld i H x H' → g x σ H' fun σ2 H2 => tb { D with nx := Nx, ct := Nx, bk := D.nx } σ2 H2)) hi fun J s σ ρ S H A B w e r => ?_
  obtain ⟨src, _⟩ := r
  show SOk K W P σ S H (A + B) _ (if s.slots.all fun i => Z.contains i then (match s.at ρ with
    | some ds => forF s gF body (ds.length + 1) 0 ρ
    | none => .bad) else .bad)
  by_cases hz : (s.slots.all fun i => Z.contains i) = true
  · rw [if_pos hz]
    cases hat : s.at ρ with
    | none => exact True.intro
    | some ds =>
      show SOk K W P σ S H (A + B) _ (forF s gF body (ds.length + 1) 0 ρ)
      refine sOk_of fun nb D k => ?_
      generalize hout : forF s gF body (ds.length + 1) 0 ρ = out at nb k
      have slotOk : ∀ σ', Kp (Z ++ P) σ σ' → ∀ i ∈ s.slots, σ'[i]? = σ[i]? := fun σ' h i hi => h.2 i (List.mem_append_left _ (List.contains_iff_mem.mp (List.all_eq_true.mp hz i hi)))
      have PL : ∀ i ∈ P, i ∈ Z ++ P := fun i hi => List.mem_append_right _ hi
      refine ⟨fun j m σ' H' => ∃ ρ' S' A', WF S' H' A' ∧ ER K S' H' σ' ρ' A' ∧ Tr S H (A + B) S' H' A' ∧ Kp (Z ++ P) σ σ' ∧ forF s gF body m j ρ' = out, ⟨ds.length + 1, ρ, S, A, w.less le1, e, Tr.refl.less le1, Kp.refl, hout⟩, ?_⟩
      rintro j m σ1 H1 ⟨ρ1, S1, A1, w1, e1, t1, k1, hfor⟩
      cases m with
      | zero => exact absurd hfor.symm nb
      | succ n =>
        unfold forF at hfor
        cases hat1 : s.at ρ1 with
        | none => rw [hat1] at hfor; exact absurd hfor.symm nb
        | some ds1 =>
          rw [hat1] at hfor
          dsimp only at hfor
          have hsrc := src σ1 ρ1 S1 H1 A1 A1 j ds1 (slotOk σ1 k1) t1.fz w1 (fun _ => Nat.le_refl _) e1 hat1
          cases hj : ds1[j]? with
          | none =>
            rw [hj] at hfor
            dsimp only at hfor
            rw [← hfor] at k
            exact .inl ⟨hsrc.2 (List.getElem?_eq_none_iff.mp hj), k σ1 S1 H1 A1 w1 e1 t1 (k1.less PL)⟩
          | some d =>
            rw [hj] at hfor
            dsimp only at hfor
            obtain ⟨go, yl⟩ := hsrc.1 d hj
            refine .inr ⟨go, fun σ' H' => ∃ ρ' S' A', WF S' H' A' ∧ ER K S' H' σ' ρ' A' ∧ Tr S H (A + B) S' H' A' ∧ Kp (Z ++ P) σ σ' ∧ forF s gF body n (j + 1) ρ' = out, fun σ' H' h => ⟨n, Nat.lt_succ_self n, h⟩, fun x H2 hy => ?_⟩
            obtain ⟨S2, w2, t2, k2, hx⟩ := yl x H2 hy
            cases hgf : gF d ρ1 with
            | none => rw [hgf] at hfor; exact absurd hfor.symm nb
            | some ρ3 =>
              rw [hgf] at hfor
              dsimp only at hfor
              refine hg x d σ1 ρ1 S2 H2 A1 A1 ρ3 w2 (fun _ => Nat.le_refl _) (er_keep t2.fz e1 k2) hx hgf _ fun σ3 A3 e3 l3 n3 k3 => ?_
              have w3 := w2.less l3
              have t3 : Tr S H (A + B) S2 H2 A3 := (t1.trans t2).less l3
              have kp3 : Kp (Z ++ P) σ1 σ3 := ⟨n3, fun i hi => k3 i fun z => by
                have h1 := List.all_eq_true.mp hv i z
                rw [List.contains_iff_mem.mpr hi] at h1
                cases h1⟩
              have q := hb σ3 ρ3 S2 H2 A3 w3 e3
              cases hbody : body ρ3 with
              | bad => rw [hbody] at hfor; exact absurd hfor.symm nb
              | nx ρ4 =>
                rw [hbody] at hfor q
                exact q _ fun σ4 S4 H4 A4 w4 e4 t4 k4 => ⟨ρ4, S4, A4, w4, e4, t3.trans t4, (k1.trans kp3).trans k4, hfor⟩
              | ct ρ4 =>
                rw [hbody] at hfor q
                exact q _ fun σ4 S4 H4 A4 w4 e4 t4 k4 => ⟨ρ4, S4, A4, w4, e4, t3.trans t4, (k1.trans kp3).trans k4, hfor⟩
              | bk ρ4 =>
                rw [hbody] at hfor q
                dsimp only at hfor
                rw [← hfor] at k
                exact q _ fun σ4 S4 H4 A4 w4 e4 t4 k4 => k σ4 S4 H4 A4 w4 e4 (t3.trans t4) (((k1.trans kp3).trans k4).less PL)
              | rt o ρ4 =>
                rw [hbody] at hfor q
                dsimp only at hfor
                rw [← hfor] at k
                exact q _ fun v σ4 S4 H4 A4 B4 w4 e4 r4 t4 k4 => k v σ4 S4 H4 A4 B4 w4 e4 r4 (t3.trans t4) (((k1.trans kp3).trans k4).less PL)
              | exc y ρ4 =>
                rw [hbody] at hfor q
                dsimp only at hfor
                rw [← hfor] at k
                exact q _ fun cls d σ4 S4 H4 A4 w4 e4 x4 t4 k4 => k cls d σ4 S4 H4 A4 w4 e4 x4 (t3.trans t4) (((k1.trans kp3).trans k4).less PL)
  · rw [if_neg hz]; exact True.intro
/-! ### while -/
def whF (c : FT) (body : FS) : Nat → En → SO
  | 0, _ => .bad
  | n + 1, ρ => (c ρ).toS fun b ρ1 => if b then (match body ρ1 with
      | .nx ρ2 => whF c body n ρ2
      | .ct ρ2 => whF c body n ρ2
      | .bk ρ2 => .nx ρ2
      | r => r) else .nx ρ1
open Classical in
noncomputable def sWh (c : FT) (body : FS) : FS := fun ρ => if h : ∃ n, whF c body n ρ ≠ .bad then whF c body (Classical.choose h) ρ else .bad
theorem whF_mono {c : FT} {body : FS} : ∀ (n : Nat) (ρ : En), whF c body n ρ ≠ .bad → whF c body (n + 1) ρ = whF c body n ρ
  | 0, _, h => absurd rfl h
  | n + 1, ρ, h => by
    have e1 : whF c body (n + 1) ρ = (c ρ).toS fun b ρ1 => if b then (match body ρ1 with
      | .nx ρ2 => whF c body n ρ2
      | .ct ρ2 => whF c body n ρ2
      | .bk ρ2 => .nx ρ2
      | r => r) else .nx ρ1 := rfl
    have e2 : whF c body (n + 1 + 1) ρ = (c ρ).toS fun b ρ1 => if b then (match body ρ1 with
      | .nx ρ2 => whF c body (n + 1) ρ2
      | .ct ρ2 => whF c body (n + 1) ρ2
      | .bk ρ2 => .nx ρ2
      | r => r) else .nx ρ1 := rfl
    rw [e1] at h
    rw [e2, e1]
    cases hc : c ρ with
    | bad => rfl
    | exc x ρ' => rfl
    | ok b ρ1 =>
      rw [hc] at h
      cases b with
      | false => rfl
      | true =>
        dsimp only [Out.toS] at h ⊢
        cases hb : body ρ1 with
        | nx ρ2 => rw [hb] at h; exact whF_mono n ρ2 h
        | ct ρ2 => rw [hb] at h; exact whF_mono n ρ2 h
        | _ => rfl
theorem whF_le {c : FT} {body : FS} {n : Nat} {ρ : En} (h : whF c body n ρ ≠ .bad) : ∀ k, whF c body (n + k) ρ = whF c body n ρ
  | 0 => rfl
  | k + 1 => by
    have i := whF_le h k
    rw [← i, ← whF_mono (n + k) ρ (by rw [i]; exact h)]
    rfl
theorem sWh_eq {c : FT} {body : FS} {n : Nat} {ρ : En} (h : whF c body n ρ ≠ .bad) : sWh c body ρ = whF c body n ρ := by
  have hx : ∃ n, whF c body n ρ ≠ .bad := ⟨n, h⟩
  unfold sWh
  rw [dif_pos hx]
  have h2 := Classical.choose_spec hx
  have a := whF_le h (Classical.choose hx)
  have b := whF_le h2 n
  rw [Nat.add_comm] at a
  rw [← b, a]
theorem sndS_wh {t : TT} {tb : TS} {c : FT} {body : FS} (hc : SndT K W t c) (hb : SndS K W P tb body) : SndS K W P (tWhile t tb) (sWh c body) := by
  intro σ ρ S H A w e
  unfold sWh
  by_cases hx : ∃ n, whF c body n ρ ≠ .bad
  · rw [dif_pos hx]
    refine sOk_of fun nb D k => ?_
    generalize hout : whF c body (Classical.choose hx) ρ = out at nb k
    refine ⟨fun m σ' H' => ∃ ρ' S' A', WF S' H' A' ∧ ER K S' H' σ' ρ' A' ∧ Tr S H A S' H' A' ∧ Kp P σ σ' ∧ whF c body m ρ' = out, ⟨_, ρ, S, A, w, e, Tr.refl, Kp.refl, hout⟩, ?_⟩
    rintro m σ1 H1 ⟨ρ1, S1, A1, w1, e1, t1, k1, hwh⟩
    cases m with
    | zero => exact absurd hwh.symm nb
    | succ n =>
      have hwh : (c ρ1).toS (fun b ρ1 => if b then (match body ρ1 with
        | .nx ρ2 => whF c body n ρ2
        | .ct ρ2 => whF c body n ρ2
        | .bk ρ2 => .nx ρ2
        | r => r) else .nx ρ1) = out := hwh
      have q := hc σ1 ρ1 S1 H1 A1 w1 e1
      cases hcf : c ρ1 with
      | bad => rw [hcf] at hwh; exact absurd hwh.symm nb
      | exc x ρ2 =>
        rw [hcf] at hwh q
        have hwh : SO.exc x ρ2 = out := hwh
        rw [← hwh] at k
        exact q _ fun cls d S' H' A' w' e' x' t' => k cls d σ1 S' H' A' w' e' x' (t1.trans t') k1
      | ok b ρ2 =>
        rw [hcf] at hwh q
        refine q _ fun b' S2 H2 A2 B2 w2 e2 r2 t2 => ?_
        obtain ⟨rfl, _⟩ := r2
        have w2' := w2.less (B := A2) le1
        have t2' : Tr S H A S2 H2 A2 := (t1.trans t2).less le1
        cases b' with
        | false =>
          have hwh : SO.nx ρ2 = out := hwh
          rw [← hwh] at k
          exact k σ1 S2 H2 A2 w2' e2 t2' k1
        | true =>
          dsimp only [Out.toS] at hwh
          refine ⟨fun σ' H' => ∃ ρ' S' A', WF S' H' A' ∧ ER K S' H' σ' ρ' A' ∧ Tr S H A S' H' A' ∧ Kp P σ σ' ∧ whF c body n ρ' = out, fun σ' H' h => ⟨n, Nat.lt_succ_self n, h⟩, ?_⟩
          have q2 := hb σ1 ρ2 S2 H2 A2 w2' e2
          cases hbody : body ρ2 with
          | bad => rw [hbody] at hwh; exact absurd hwh.symm nb
          | nx ρ4 =>
            rw [hbody] at hwh q2
            exact q2 _ fun σ4 S4 H4 A4 w4 e4 t4 k4 => ⟨ρ4, S4, A4, w4, e4, t2'.trans t4, k1.trans k4, hwh⟩
          | ct ρ4 =>
            rw [hbody] at hwh q2
            exact q2 _ fun σ4 S4 H4 A4 w4 e4 t4 k4 => ⟨ρ4, S4, A4, w4, e4, t2'.trans t4, k1.trans k4, hwh⟩
          | bk ρ4 =>
            rw [hbody] at hwh q2
            dsimp only at hwh
            rw [← hwh] at k
            exact q2 _ fun σ4 S4 H4 A4 w4 e4 t4 k4 => k σ4 S4 H4 A4 w4 e4 (t2'.trans t4) (k1.trans k4)
          | rt o ρ4 =>
            rw [hbody] at hwh q2
            dsimp only at hwh
            rw [← hwh] at k
            exact q2 _ fun v σ4 S4 H4 A4 B4 w4 e4 r4 t4 k4 => k v σ4 S4 H4 A4 B4 w4 e4 r4 (t2'.trans t4) (k1.trans k4)
          | exc y ρ4 =>
            rw [hbody] at hwh q2
            dsimp only at hwh
            rw [← hwh] at k
            exact q2 _ fun cls d σ4 S4 H4 A4 w4 e4 x4 t4 k4 => k cls d σ4 S4 H4 A4 w4 e4 x4 (t2'.trans t4) (k1.trans k4)
  · rw [dif_neg hx]; exact True.intro
end
end Ls

namespace Ls
open PySem L2
variable [Tb]
section
variable {X : Cx} {W : WX} {P : List Nat} {e i : Expr} {fe : FE} {fi : FP} {pos : Pos}
theorem bm_of {r : V → List V → Hp → VK → Prop} {id : String} (h : MtM X id r) : MtR X id r := by
  first | exact h | exact MtM.mt h | exact mt_of h
theorem sv_app (j : Nat) {x : Str} {p1 p2 cpos : Pos} (h : EV X W e fe) (hN : X.N[j]? = some x := by rfl) (hv : Vis X.env.scope x := by first | exact Or.inl rfl | exact Or.inr (Or.inl rfl) | exact Or.inr (Or.inr rfl)) (hd : (x == ("__debug__" : Str)) = false := by decide) (hcd : (x == ("__classdict__" : Str)) = false := by decide)
    (hbase : attributeBase (.Name x p1) "append" X.env (eval (.Name x p1) X.env) = eval (.Name x p1) X.env := by rfl)
    (hfew : ((backTo cpos (starEach [e] X.env)).all (fun x => !x.1) && (backToKw cpos (keywordEach [] X.env)).all (fun x => x.1.isSome)
      && decide ([e].length + ([] : List Keyword).length + (if ([] : List Keyword).isEmpty then 0 else 1) < 30)) = true := by rfl)
    (hline : (p2.endLine == cpos.line) = true := by rfl) (hs : starEach [e] X.env = (false, eval e X.env) :: starEach [] X.env := by rfl) (hplain : (backTo cpos (starEach [] X.env)).any (·.1) = false := by rfl)
    (hsw : swapsWith (.Call (.Attribute (.Name x p1) "append" p2) [e] [] cpos) none pos.line X.env = pure false := by rfl) :
    SV X W P (.Expr (.Call (.Attribute (.Name x p1) "append" p2) [e] [] cpos) pos) (sApp j fe) :=
  let ⟨_, h1, h2⟩ := h.ex
  ⟨_, ps_expr (pe_bm PySem.F.plainAttrs_list PySem.F.slot_list_append PySem.F.type_list_append mt_append (pe_var hN hv hd hcd) (pa_cons h1 pa_nil hs) hbase hfew hline hs hplain) hsw, sndS_app h2⟩
theorem sv_ix (j : Nat) {x : Str} {p1 p2 : Pos} (h : EV X W e fe) (hi : PV X W i fi) (hN : X.N[j]? = some x := by rfl) (hv : Vis X.env.scope x := by first | exact Or.inl rfl | exact Or.inr (Or.inl rfl) | exact Or.inr (Or.inr rfl)) (hd : (x == ("__debug__" : Str)) = false := by decide) (hcd : (x == ("__classdict__" : Str)) = false := by decide)
    (ha : ∀ v, assign (.Subscript (.Name x p1) i p2) X.env v = (do
      let ov ← holding [v] (eval (.Name x p1) X.env)
      let iv ← holding [v, ov] (eval i X.env)
      standAt p2
      holding [v, ov, iv] (setItem ov iv v)
      release [v, ov, iv] []) := by intro _; rfl)
    (hs : swapsWithSole [.Subscript (.Name x p1) i p2] e pos.line X.env = pure false := by rfl) (hw : swappedStores [.Subscript (.Name x p1) i p2] e X.env = pure none := by rfl)
    (h1 : (assignEach [.Subscript (.Name x p1) i p2] X.env).map (·.2) = [assign (.Subscript (.Name x p1) i p2) X.env] := by rfl) : SV X W P (.Assign [.Subscript (.Name x p1) i p2] e pos) (sIx j fi fe) :=
  let ⟨_, e1, e2⟩ := h.ex; let ⟨_, i1, i2⟩ := hi.ex
  ⟨_, ps_asg e1 (pg_sub (pe_var hN hv hd hcd) i1 set_list ha) hs hw h1, sndS_ix e2 i2⟩
theorem ip_of {op : Operator} {r : R2} (h : OpR X (inplaceOp op) r) : PIp X op r := h
theorem iop_add : OpR X (inplaceOp .Add) (rI0 fun i j => .int (i + j)) := opI0 fun _ _ _ _ _ _ _ q => PyProof.Rows.iadd_int q
theorem iop_sub : OpR X (inplaceOp .Sub) (rI0 fun i j => .int (i - j)) := opI0 fun _ _ _ _ _ _ _ q => PyProof.Rows.isub_int q
theorem iop_mul : OpR X (inplaceOp .Mult) (rI CMulG fun i j => .int (i * j)) := opI fun _ _ _ _ _ _ _ hc q => PyProof.Rows.imul_int q hc.ok
theorem iop_div : OpR X (inplaceOp .FloorDiv) (rI CDivX fun i j => .int (i.fdiv j)) := opI fun _ _ _ _ _ _ _ hc q => PyProof.Rows.ifloordiv_int hc.1 q (.inl (PyProof.noPylong_of_log2 hc.2))
theorem iop_mod : OpR X (inplaceOp .Mod) (rI (fun _ j => j ≠ 0) fun i j => .int (i.fmod j)) := opI fun _ _ _ _ _ _ _ hc q => PyProof.Rows.imod_int hc q
theorem sv_aug (j : Nat) {op : Operator} {r : R2} {g : PyData → PyData → Option PyData} {x : Str} {pos' : Pos} (hN : X.N.Nodup) (ho : OpR X (inplaceOp op) r) (hs : OpS X.K r g) (h : PV X W e fi) (hP : P.contains j = false := by rfl) (hi : X.N[j]? = some x := by rfl) (hx : Loc X.env.scope x := by first | exact Or.inl rfl | exact Or.inr rfl) (hf : X.fn x = true ∨ X.env.scope.names.lookup x = some .local := by first | exact .inl rfl | exact .inr rfl | assumption) :
    SV X W P (.AugAssign (.Name x pos') op e pos) (sAug j g fi) := let ⟨_, e1, e2⟩ := h.ex; ⟨_, ps_aug hN hi hx e1 (ip_of ho) hf, sndS_aug hs e2 hP⟩
theorem sv_for {tg iter : Expr} {body : List Stmt} {Z vs : List Nat} {f : FI} {gF : FG} {fb : FS} (hp : PassesOwn (model X.prog X.w) X.A X.env X.xe) (hc : X.calm = true) (hi : IV X W tg iter f) (hg : GV X tg vs gF) (hb : BV X W (Z ++ P) body fb) (hv : vs.all (fun i => !(Z ++ P).contains i) = true := by rfl)
    (hs : ∀ x, foldedSetIterable iter X.env x = pure x := by intro _; rfl) : SV X W P (.For tg iter body [] pos) (sFor Z f gF fb) :=
  let ⟨_, i1, i2⟩ := hi.ex; let ⟨_, g1, g2⟩ := hg.ex; let ⟨_, b1, b2⟩ := hb.ex; ⟨_, ps_for hp hc i1 g1 b1 hs, sndS_for i2 g2 b2 hv⟩
theorem sv_wh {c : Expr} {body : List Stmt} {fc : FT} {fb : FS} (hp : PassesOwn (model X.prog X.w) X.A X.env X.xe) (hc : TV X W c fc) (hb : BV X W P body fb) : SV X W P (.While c body [] pos) (sWh fc fb) :=
  let ⟨_, c1, c2⟩ := hc.ex; let ⟨_, b1, b2⟩ := hb.ex; ⟨_, ps_while hp c1 b1, sndS_wh c2 b2⟩
/-- a local that is handed out with all it holds -/
theorem ev_move (j : Nat) {x : Str} (hN : X.N[j]? = some x := by rfl) (hv : Vis X.env.scope x := by first | exact Or.inl rfl | exact Or.inr (Or.inl rfl) | exact Or.inr (Or.inr rfl)) (hd : (x == ("__debug__" : Str)) = false := by decide) (hcd : (x == ("__classdict__" : Str)) = false := by decide) : EV X W (.Name x pos) (eLend j) := by
  refine ⟨_, pe_var hN hv hd hcd, fun σ ρ S H A w e => ?_⟩
  have q := snd_lend (K := X.K) (W := W) (i := j) σ ρ S H A w e
  cases hf : eLend j ρ with
  | bad => exact True.intro
  | exc x ρ' => rw [hf] at q; exact q
  | ok o ρ' => rw [hf] at q; exact fun Q k => q Q fun v S' H' A' B w' e' r' t' => k v S' H' A' B w' e' r'.1 t'
/-- y = [e for .. in ..], on one line -/
theorem sv_setLc (j : Nat) {y : Str} {py : Pos} {elt tg iter : Expr} {scope : Scope} {own : List (Str × Nat)} {vs : List Nat} {cpos : Pos} {fi : FI} {gF : FG} {f : FE} (hc : X.calm = true) (hN : X.N.Nodup) (hi : IV X W tg iter fi) (ok : BlkOk X.N X.env.scope scope own)
    (hg : ∀ (s : Shared) (H : Hp) (C : Addr) (cl : List (Str × Addr)) (fp : List Addr), GV (X.blk s H scope (compEnvC scope cl C X.env) fp) tg vs gF)
    (he : ∀ (s : Shared) (H : Hp) (C : Addr) (cl : List (Str × Addr)) (fp : List Addr), EV (X.blk s H scope (compEnvC scope cl C X.env) fp) W0 elt f)
    (hsw : swapsWith (.ListComp elt [⟨tg, iter, [], 0⟩] scope cpos) (some (.Name y py)) pos.line X.env = pure true) (hP : P.contains j = false := by rfl) (hy : X.N[j]? = some y := by rfl) (hyl : X.env.scope.names.lookup y = some .local := by rfl) (hvs : own.map (·.2) = vs := by rfl) (hs : ∀ x, foldedSetIterable iter X.env x = pure x := by intro _; rfl) :
    SV X W P (.Assign [.Name y py] (.ListComp elt [⟨tg, iter, [], 0⟩] scope cpos) pos) (sSet j (eComp fi gF tYesF f vs)) :=
  by
  subst hvs
  obtain ⟨_, i1, i2⟩ := hi.ex
  exact ⟨_, ps_setLc (g := rdG X.K gF (own.map (·.2))) (te := rdV X.K W0 (ROr X.K) f) hc hN hy hyl hsw i1 ok (fun s H C cl fp => (hg s H C cl fp).pg) (fun _ _ _ _ _ => pts_nil) (fun s H C cl fp => (he s H C cl fp).pe) hs, sndS_set (sndE_comp i2 sndG_rd sndT_yes snd_rd) hP⟩
theorem sv_setLcIf (j : Nat) {y : Str} {py : Pos} {elt tg iter c : Expr} {scope : Scope} {own : List (Str × Nat)} {vs : List Nat} {cpos : Pos} {fi : FI} {gF : FG} {f : FE} {test : FT} (hc : X.calm = true) (hN : X.N.Nodup) (hi : IV X W tg iter fi) (ok : BlkOk X.N X.env.scope scope own)
    (hg : ∀ (s : Shared) (H : Hp) (C : Addr) (cl : List (Str × Addr)) (fp : List Addr), GV (X.blk s H scope (compEnvC scope cl C X.env) fp) tg vs gF)
    (ht : ∀ (s : Shared) (H : Hp) (C : Addr) (cl : List (Str × Addr)) (fp : List Addr), TV (X.blk s H scope (compEnvC scope cl C X.env) fp) W0 c test)
    (he : ∀ (s : Shared) (H : Hp) (C : Addr) (cl : List (Str × Addr)) (fp : List Addr), EV (X.blk s H scope (compEnvC scope cl C X.env) fp) W0 elt f)
    (hsw : swapsWith (.ListComp elt [⟨tg, iter, [c], 0⟩] scope cpos) (some (.Name y py)) pos.line X.env = pure true) (hP : P.contains j = false := by rfl) (hy : X.N[j]? = some y := by rfl) (hyl : X.env.scope.names.lookup y = some .local := by rfl) (hvs : own.map (·.2) = vs := by rfl) (hs : ∀ x, foldedSetIterable iter X.env x = pure x := by intro _; rfl) :
    SV X W P (.Assign [.Name y py] (.ListComp elt [⟨tg, iter, [c], 0⟩] scope cpos) pos) (sSet j (eComp fi gF test f vs)) :=
  by
  subst hvs
  obtain ⟨_, i1, i2⟩ := hi.ex
  exact ⟨_, ps_setLc (g := rdG X.K gF (own.map (·.2))) (tt := rdV X.K W0 (REq Bool) test) (te := rdV X.K W0 (ROr X.K) f) hc hN hy hyl hsw i1 ok (fun s H C cl fp => (hg s H C cl fp).pg) (fun s H C cl fp => pts_one (ht s H C cl fp).pt) (fun s H C cl fp => (he s H C cl fp).pe) hs, sndS_set (sndE_comp i2 sndG_rd snd_rd snd_rd) hP⟩
end
/-! ### a def -/
def isFz : O → Bool
  | .fz _ => true
  | .raw _ => true
  | .exn _ _ _ _ => false
  | .lst _ => false
def finA (prot : List Nat) (ρ' : En) : Nat → List O → Option (List O)
  | _, [] => some []
  | i, a :: as => (if prot.contains i then (ρ'[i]?).bind id else if isFz a then some a else none).bind fun o => (finA prot ρ' (i + 1) as).map fun os => o :: os
def entry (m : Nat) (as : List O) : En := as.map some ++ List.replicate (m - as.length) none
def runFn (m : Nat) (prot : List Nat) (body : FS) : List O → FO := fun as => match body (entry m as) with
  | .nx ρ' => (match finA prot ρ' 0 as with
    | some as' => .ok (.fz .none) as'
    | none => .bad)
  | .rt o ρ' => (match finA prot ρ' 0 as with
    | some as' => .ok o as'
    | none => .bad)
  | .exc x ρ' => (match finA prot ρ' 0 as with
    | some as' => .exc x as'
    | none => .bad)
  | _ => .bad
section
variable {K : PySem.W.Frag} {S H S' H' : Hp} {A : Fp}
theorem er_repl : ∀ n : Nat, ER K S H (List.replicate n none) (List.replicate n none) Fp.z
  | 0 => .nil fun _ => rfl
  | n + 1 => .non (er_repl n)
theorem er_entry : ∀ {vs : List V} {as : List O} {A : Fp} {n : Nat}, ORs K S H vs as A → ER K S H (vs.map some ++ List.replicate n none) (as.map some ++ List.replicate n none) A
  | _, _, _, n, .nil z => er_fp (er_repl n) z
  | _, _, _, n, .cons q r z => .som q (er_entry r) z
theorem or_fz {v : V} {o : O} (q : OR K S H v o A) (h : isFz o = true) (sub : ∀ a u, S a = some u → S' a = some u) : OR K S' H' v o Fp.z := by
  cases q with
  | fz q _ => exact .fz (dp_mono sub q) fun _ => rfl
  | raw _ => exact .raw fun _ => rfl
  | exn _ _ => cases h
  | lst _ _ _ => cases h
theorem er_args {prot : List Nat} {σ' : St} {ρ0 : En} (sub : ∀ a u, S a = some u → S' a = some u) : ∀ {vs : List V} {as as' : List O} {A A' : Fp} {i : Nat} {ρ' : En}, ORs K S H vs as A → (∀ j v, vs[j]? = some v → (i + j) ∈ prot → σ'[i + j]? = some (some v)) → ER K S' H' σ' ρ' A' → (∀ j, i ≤ j → ρ'[j]? = ρ0[j]?) → finA prot ρ0 i as = some as' → ∃ A'', ORs K S' H' vs as' A'' ∧ ∀ b, A'' b ≤ A' b
  | _, _, as', _, A', i, ρ', .nil _, _, _, _, hf => by
    cases hf
    exact ⟨Fp.z, .nil fun _ => rfl, fun b => Nat.zero_le _⟩
  | _, _, as', _, A', i, ρ', .cons (v := v) (vs := vs) (x := a) (xs := as) q r z, hk, e, hρ, hf => by
    have hf : (if prot.contains i then (ρ0[i]?).bind id else if isFz a then some a else none).bind (fun o => (finA prot ρ0 (i + 1) as).map fun os => o :: os) = some as' := hf
    obtain ⟨o, a1, a2⟩ := Option.bind_eq_some_iff.mp hf
    obtain ⟨os, b1, b2⟩ := Option.map_eq_some_iff.mp a2
    subst b2
    have hk' : ∀ j u, vs[j]? = some u → (i + 1 + j) ∈ prot → σ'[i + 1 + j]? = some (some u) := fun j u hj hm => by
      have := hk (j + 1) u (by simpa using hj) (by rw [show i + (j + 1) = i + 1 + j by omega]; exact hm)
      rw [show i + (j + 1) = i + 1 + j by omega] at this
      exact this
    by_cases hp : prot.contains i = true
    · rw [if_pos hp] at a1
      obtain ⟨y, c1, c2⟩ := Option.bind_eq_some_iff.mp a1
      have c2 : y = some o := c2
      subst c2
      obtain ⟨v', B, C, h1, q', e', z'⟩ := er_get e (i := i) (o := o) (by rw [hρ i (Nat.le_refl _)]; exact c1)
      have h2 := hk 0 v rfl (List.contains_iff_mem.mp hp)
      rw [Nat.add_zero, h1] at h2
      cases h2
      obtain ⟨A2, r2, l2⟩ := er_args sub r hk' e' (fun j hj => by rw [List.getElem?_set_ne (by omega)]; exact hρ j (by omega)) b1
      exact ⟨B + A2, .cons q' r2 fun b => add_at _ _ b, fun b => by rw [add_at, z' b]; have := l2 b; omega⟩
    · rw [if_neg hp] at a1
      by_cases hz : isFz a = true
      · rw [if_pos hz] at a1
        cases a1
        obtain ⟨A2, r2, l2⟩ := er_args sub r hk' e (fun j hj => hρ j (by omega)) b1
        exact ⟨Fp.z + A2, .cons (or_fz q hz sub) r2 fun b => add_at _ _ b, fun b => by rw [add_at, z_at]; have := l2 b; omega⟩
      · rw [if_neg hz] at a1; cases a1
end
section
variable {P : Program} {w : World} {K : PySem.W.Frag} {mg : Str → Option Value} {base : Heap} {x qual : Str} {params : Arguments} {body : List Stmt} {scope : Scope} {dvs : List V} {kws : List (Str × V)} {f : Addr} {fd : FuncData}
abbrev WF' (E : XK) : WX := fun cls d _ H => E cls d H
theorem mkFnC {N ps : List Str} {k : Nat} {prot : List Nat} {fb : FS} (F : FunD K x qual params body scope dvs kws f fd) (Sc : FnScope N ps scope) (hp : prot.all (fun i => decide (i < ps.length)) = true)
    (h : ∀ (cdv : Value), cdv = fd.code → ∀ (A : Around) (outer : List Env) (s : Shared) (H : Hp) (E : XK), Room k (A.deeper (PyProof.Rows.envOfC qual scope s.heap.objs.size f cdv)) → BV (cxOf (L2.CX P w) P w K mg base N qual scope f cdv A outer s H E) (WF' E) prot body fb) :
    FnOk P w K mg base (L2.CX P w) (k + 1) f fd ps (spOf K ps.length (runFn N.length prot fb)) := by
  obtain ⟨oc, od, dV, kV, doc, pm, an, cdv, ct, osl, rfl, lk, hcd, _, _⟩ := F.ex
  refine fn_of lk hcd Sc (fun vs H Q E q => q.1) fun A outer s H vs Q E hr q => ?_
  have h := fun A outer s H E hr => h cdv rfl A outer s H E hr
  obtain ⟨t, h1, h2⟩ := (h A outer s H E hr).ex
  refine ⟨t, h1, ?_⟩
  obtain ⟨hl, S, A0, as, w0, r0, q⟩ := q
  have la := ors_len r0
  have e0 : ER K S H (L2.start N vs) (entry N.length as) A0 := by
    unfold L2.start entry
    rw [← la]
    exact er_entry r0
  have ok := h2 _ _ S H A0 w0 e0
  have args : ∀ {σ' : St} {S' H' : Hp} {ρ' : En} {A' : Fp} {as' : List O}, Kp prot (L2.start N vs) σ' → (∀ a u, S a = some u → S' a = some u) → ER K S' H' σ' ρ' A' → finA prot ρ' 0 as = some as' → ∃ A'', ORs K S' H' vs as' A'' ∧ ∀ b, A'' b ≤ A' b := fun {σ' S' H' ρ' A' as'} kp sub e hf => by
    refine er_args sub r0 (i := 0) (fun j v hj hm => ?_) e (fun _ _ => rfl) hf
    rw [Nat.zero_add] at hm ⊢
    rw [kp.2 j hm]
    unfold L2.start
    rw [List.getElem?_append_left (by rw [List.length_map]; exact (List.getElem?_eq_some_iff.mp hj).1), List.getElem?_map, hj]
    rfl
  unfold runFn at q
  cases hb : fb (entry N.length as) with
  | bad => rw [hb] at q; exact q.elim
  | bk ρ' => rw [hb] at q; exact q.elim
  | ct ρ' => rw [hb] at q; exact q.elim
  | nx ρ' =>
    rw [hb] at q ok
    dsimp only at q
    cases hf : finA prot ρ' 0 as with
    | none => rw [hf] at q; exact q.elim
    | some as' =>
      rw [hf] at q
      refine ok _ fun σ' S' H' A' w' e' t' k' => ?_
      obtain ⟨A2, r2, l2⟩ := args k' t'.fz e' hf
      exact q .non S' H' A2 Fp.z (by rw [addz]; exact w'.less l2) r2 (.fz .non fun _ => rfl) (by rw [addz]; exact t'.less l2)
  | rt o ρ' =>
    rw [hb] at q ok
    dsimp only at q
    cases hf : finA prot ρ' 0 as with
    | none => rw [hf] at q; exact q.elim
    | some as' =>
      rw [hf] at q
      refine ok _ fun v σ' S' H' A' B w' e' r' t' k' => ?_
      obtain ⟨A2, r2, l2⟩ := args k' t'.fz e' hf
      have l3 : ∀ b, (A2 + B) b ≤ (A' + B) b := fun b => by have := l2 b; simp only [add_at]; omega
      exact q v S' H' A2 B (w'.less l3) r2 r' (t'.less l3)
  | exc y ρ' =>
    rw [hb] at q ok
    dsimp only at q
    cases hf : finA prot ρ' 0 as with
    | none => rw [hf] at q; exact q.elim
    | some as' =>
      rw [hf] at q
      refine ok _ fun cls d σ' S' H' A' w' e' x' t' k' => ?_
      obtain ⟨A2, r2, l2⟩ := args k' t'.fz e' hf
      exact q cls d S' H' A2 (w'.less l2) r2 x' (t'.less l2)
theorem mkFn {N ps : List Str} {k : Nat} {prot : List Nat} {fb : FS} (F : FunD K x qual params body scope dvs kws f fd) (Sc : FnScope N ps scope) (hp : prot.all (fun i => decide (i < ps.length)) = true)
    (h : ∀ (cdv : Value) (A : Around) (outer : List Env) (s : Shared) (H : Hp) (E : XK), Room k (A.deeper (PyProof.Rows.envOfC qual scope s.heap.objs.size f cdv)) → BV (cxOf (L2.CX P w) P w K mg base N qual scope f cdv A outer s H E) (WF' E) prot body fb) :
    FnOk P w K mg base (L2.CX P w) (k + 1) f fd ps (spOf K ps.length (runFn N.length prot fb)) := mkFnC F Sc hp fun cdv _ => h cdv
end
end Ls

namespace Ls
open PySem L2
variable [Tb]
/-! ### the head's facts, with a test of one's own -/
abbrev AlX : Type := He.AlD × Bool
def obsX (fa : List He.Fa) (fn : List He.DefD) (fx : PySem.W.Frag → Bool) (K : PySem.W.Frag) : AlX := (He.obsD fa fn K, fx K)
def obsXG (n : Nat) (fa : List He.Fa) (fn : List He.DefD) (fx : PySem.W.Frag → Bool) (g : Addr → Option Obj) : AlX := obsX fa fn fx (He.frG g (cStatics :: He.asD g n))
def SaysX (fa : List He.Fa) (fn : List He.DefD) (fx : PySem.W.Frag → Bool) (K : PySem.W.Frag) : Prop := obsX fa fn fx K = (He.valD fn, true)
def hookX (n : Nat) (fa : List He.Fa) (fn : List He.DefD) (fx : PySem.W.Frag → Bool) : PySem.W.Hook where
  α := AlX
  obs := fun s => obsXG n fa fn fx s.heap.get?
  val := fun _ => (He.valD fn, true)
  says := fun _ h => ∃ K : PySem.W.Frag, K.In h ∧ SaysX fa fn fx K
  of := fun _ _ e => ⟨_, He.frG_in, e⟩
  keeps := fun _ _ _ ⟨K, hK, c⟩ k => ⟨K, PySem.W.Frag.In.keeps hK k, c⟩
theorem obsXG_eq {n : Nat} {fa : List He.Fa} {fn : List He.DefD} {fx : PySem.W.Frag → Bool} {g : Addr → Option Obj} {s : Shared} (h : ∀ a, g a = s.heap.get? a) : obsXG n fa fn fx g = (hookX n fa fn fx).obs s := by
  have e : g = s.heap.get? := funext h
  rw [e]
  rfl
theorem SaysX.d {fa : List He.Fa} {fn : List He.DefD} {fx : PySem.W.Frag → Bool} {K : PySem.W.Frag} (c : SaysX fa fn fx K) : He.SaysD fa fn K := congrArg (fun z : AlX => z.1) c
theorem SaysX.x {fa : List He.Fa} {fn : List He.DefD} {fx : PySem.W.Frag → Bool} {K : PySem.W.Frag} (c : SaysX fa fn fx K) : fx K = true := congrArg (fun z : AlX => z.2) c
/-- a law's end where what a call lets out hangs on the world -/
theorem bits_log {ns : List Int} (h : ∀ n ∈ ns, Builtin.Int.intBits n ≤ 1048576) : ∀ k ∈ ns, k.natAbs.log2 ≤ 1048576 := fun k hk => by
  have := h k hk
  unfold Builtin.Int.intBits at this
  split at this
  · rename_i e
    rw [show k = 0 by simpa using e]; decide
  · omega
theorem walkX {l : PySem.W.OpenLaw} {n k : Nat} {q : Program} {loose : List Str} {XP : (Str → Option Value) → Heap → Prop} {YP : World → Heap → Prop} {d : DefRec} {CX : World → CXT} {x : Str}
    (hn : l.most = some n) (hn2 : n ≤ sizeLine) (hdf : d.params.defaults = []) (hr : Room k callerA)
    (F : ∀ (w : World) (mg : Str → Option Value) (fa : Addr) (h : Heap), YP w h → h.Ns mainGlobals mg → mg d.name = some (.ref fa) →
      ∃ (K : PySem.W.Frag) (fd : FuncData) (sp : Sp), K.In h ∧ (∀ (s : Shared) (u : Value), BindsTo s fd ⟨[u], []⟩ [(x, u)]) ∧
        (∀ (H : Hp) (a : Addr) (ns : List Int), ns.length ≤ n → (∀ k ∈ ns, k.natAbs.log2 ≤ 1048576) → Only H → SqL K H a (ns.map V.int) → sp [.ref a] H (fun v _ => v = .bl true) fun _ _ _ => False) ∧
        ∀ base : Heap, K.In base → base.Ns mainGlobals mg → FnOk l.prog w K mg base (CX w) k fa fd [x] sp)
    (hCX : ∀ (w : World) (H : Hp) (s : Shared) (e : Value) (s' : Shared), CX w [] H s (fun _ _ _ => False) e s' → False) :
    PySem.W.WalkO q loose XP YP l.row.toRowW d [] (fun f vs => PySem.call f vs) := by
  refine Att.attach_callB hn hdf fun w s₀ s₁ mg mb fa o pm cd doc a vs ns G Y ho hd hcd hmg hobj hints hlen hbits hg => ?_
  obtain ⟨K, fd, sp, KX, hb, hsp, hF⟩ := F w mg fa _ Y G.T.g hmg
  exact law_call KX G.T.g G.T.b G.T.builtins G.T.nolimit hg hobj hints (Nat.le_trans hlen hn2) hr hF hb (fun H hO hS => hsp H a ns hlen (bits_log hbits) hO hS) fun H e s' => hCX w H s₁ e s'
theorem cxNo (P : Program) (w : World) (H : Hp) (s : Shared) (e : Value) (s' : Shared) (h : L2.CX P w [] H s (fun _ _ _ => False) e s') : False := by
  obtain ⟨_, _, _, _, _, _, _, _, _, _, _, _, z⟩ := h
  exact z
/-- the script's promise: worth True -/
theorem lawSpT {K : PySem.W.Frag} {H : Hp} {a : Addr} {ns : List Int} {F : List O → FO} (hT : ∀ p ∈ Tb.t, H p.1 = some (.tbl #[])) (hS : SqL K H a (ns.map V.int)) (h : ∃ as', F [.fz (.list (ns.map PyData.int))] = .ok (.fz (.bool true)) as') : spOf K 1 F [.ref a] H (fun v _ => v = .bl true) fun _ _ _ => False := by
  obtain ⟨as', h⟩ := h
  have da : ∀ (S : Hp) (l : List Int), DpAll K S (l.map V.int) (l.map PyData.int) := fun S l => by
    induction l with
    | nil => exact .nil
    | cons x l ih => exact .cons (.int x) ih
  let S : Hp := fun b => match H b with
    | some (.tbl _) => none
    | u => u
  have sin : ∀ b, Tl H b → S b = none := fun b ⟨ps, e⟩ => by show (match H b with | some (.tbl _) => none | u => u) = none; rw [e]
  have sout : ∀ b u, H b = some u → (∀ ps, u ≠ .tbl ps) → S b = some u := fun b u e n => by
    show (match H b with | some (.tbl _) => none | u => u) = some u
    rw [e]
    cases u <;> first | rfl | exact absurd rfl (n _)
  have hS' : SqL K S a (ns.map V.int) := by
    rcases hS with (r | ⟨o, r⟩) | r
    · exact .inl (.inl (sout a _ r fun ps z => by cases z))
    · exact .inl (.inr ⟨o, sout a _ r fun ps z => by cases z⟩)
    · exact .inr r
  have sub : ∀ b u, S b = some u → H b = some u := fun b u e => by
    cases hb : H b with
    | none =>
      have e2 : (match H b with | some (.tbl _) => none | u => u) = some u := e
      rw [hb] at e2; cases e2
    | some z =>
      by_cases ht : ∃ ps, z = .tbl ps
      · obtain ⟨ps, rfl⟩ := ht
        rw [sin b ⟨ps, hb⟩] at e; cases e
      · rw [sout b z hb fun ps e => ht ⟨ps, e⟩] at e; exact e
  refine ⟨rfl, S, Fp.z, [.fz (.list (ns.map PyData.int))], ⟨sub, fun _ => Nat.zero_le _, fun b z => absurd z (Nat.lt_irrefl 0), fun b z => absurd z (Nat.lt_irrefl 0), fun p hp => LamX.TabS.nil (hT p hp), fun b t => ⟨rfl, sin b t⟩, fun _ _ _ _ => rfl⟩, .cons (B := Fp.z) (C := Fp.z) (.fz (.lst hS' (da S ns)) fun _ => rfl) (.nil fun _ => rfl) fun _ => rfl, ?_⟩
  rw [h]
  intro v S' H' A' B w' r' q' t'
  cases q' with
  | fz q _ => exact dp_bl q
omit [Tb] in
theorem lawSp {K : PySem.W.Frag} {H : Hp} {a : Addr} {ns : List Int} {F : List O → FO} (hS : SqL K H a (ns.map V.int)) (h : ∃ as', F [.fz (.list (ns.map PyData.int))] = .ok (.fz (.bool true)) as') : @spOf tb0 K 1 F [.ref a] H (fun v _ => v = .bl true) fun _ _ _ => False := @lawSpT tb0 K H a ns F (fun p hp => nomatch hp) hS h
/-- a def that is never reached keeps this -/
theorem fn_bad {P : Program} {w : World} {K : PySem.W.Frag} {mg : Str → Option Value} {base : Heap} {CX : CXT} {k : Nat} {f : Addr} {fd : FuncData} {ps : List Str} : FnOk P w K mg base CX k f fd ps (spOf K ps.length fun _ => .bad) :=
  ⟨fun _ _ _ _ h => h.1, fun _ _ _ _ _ _ _ _ _ _ _ _ _ h => by
    obtain ⟨_, _, _, _, _, _, z⟩ := h
    exact z.elim⟩
theorem bv_never {X : Cx} {W : WX} {P : List Nat} {sts : List Stmt} : BV X W P sts (fun _ => .bad) := ⟨_, pss_never, sndS_never⟩
/-- a tuple of the top -/
theorem dp_top {K : PySem.W.Frag} {x : Str} {vs : List He.Dv} {ds : List PyData} (h : He.tupB K x vs = true) (hd : ∀ S, DpAll K S (vs.map (He.Dv.v K)) ds) (S : Hp) : Dp K S (.ref (He.ga K x)) (.tuple ds) := .tup (He.tupB_ok h S) (hd S)
/-- what is stored into another thing is settled -/
def eZ (f : FE) : FE := fun ρ => (f ρ).bind fun o ρ' => match frz o with
  | some d => .ok (.fz d) ρ'
  | none => .bad
theorem sndE_z {K : PySem.W.Frag} {W : WX} {t : TE} {f : FE} (h : SndE K W t f) : SndE K W t (eZ f) := by
  intro σ ρ S H A w e
  have q := h σ ρ S H A w e
  show OutOk K W (ROr K) t σ S H A ((f ρ).bind _)
  cases hf : f ρ with
  | bad => exact True.intro
  | exc x ρ' => rw [hf] at q; exact q
  | ok o ρ' =>
    rw [hf] at q
    show OutOk K W (ROr K) t σ S H A (match frz o with
      | some d => Out.ok (.fz d) ρ'
      | none => .bad)
    cases hz : frz o with
    | none => exact True.intro
    | some d =>
      intro Q k
      refine q Q fun v S' H' A' B w' e' r' t' => ?_
      obtain ⟨w2, t2, sub2⟩ := settle_wf w'
      have dq := or_settle (fun b hb => w'.dj b (by rw [add_at]; omega)) (fun b => Nat.le_refl _) r' hz
      exact k v _ H' A' Fp.z (by rw [addz]; exact w2) (er_keep sub2 e' fun _ _ => rfl) (.fz dq fun _ => rfl) (by rw [addz]; exact t'.trans t2)
theorem ev_z {X : Cx} {W : WX} {e : Expr} {f : FE} (h : EV X W e f) : EV X W e (eZ f) := let ⟨_, h1, h2⟩ := h.ex; ⟨_, h1, sndE_z h2⟩
end Ls

namespace Ls
open PySem L2
section
variable {ρ ρ1 ρ2 ρ3 : En} {o o1 o2 : O} {p q : Pk} {d d1 d2 c : PyData} {f g h : FE} {fa fb fc : FP} {t u : FT} {a b : Bool} {i j : Nat} {os : List O}
theorem r_c : eC d ρ = .ok (.fz d) ρ := rfl
theorem r_pv (h : ρ[i]? = some (some o)) : pVar i ρ = .ok (.v i) ρ := by unfold pVar; rw [h]
theorem r_pe (h : f ρ = .ok o ρ1) : pE f ρ = .ok (.o o) ρ1 := by unfold pE; rw [h]; rfl
theorem r_ev (h : ρ[i]? = some (some (.fz d))) : eVar i ρ = .ok (.fz d) ρ := by unfold eVar; rw [h]
theorem r_evL {xs : List O} (h : ρ[i]? = some (some (.lst xs))) (hz : frz (.lst xs) = some d) : eVar i ρ = .ok (.fz d) (ρ.set i (some (.fz d))) := by unfold eVar; rw [h]; dsimp only; rw [hz]
theorem r_op {g : PyData → PyData → Option PyData} (h1 : fa ρ = .ok p ρ1) (h2 : fb ρ1 = .ok q ρ2) (e1 : pkD ρ2 p = some d1) (e2 : pkD ρ2 q = some d2) (hg : g d1 d2 = some c) : eOp g fa fb ρ = .ok (.fz c) ρ2 := by
  unfold eOp; rw [h1]; dsimp only [Out.bind]; rw [h2]; dsimp only [Out.bind]; rw [e1, e2]; dsimp only [Option.bind]; rw [hg]
theorem r_ix {k : Int} (h1 : fa ρ = .ok p ρ1) (h2 : fb ρ1 = .ok q ρ2) (e1 : pkO ρ2 p = some o) (e2 : pkD ρ2 q = some (.int k)) (hg : ixO o k = some c) : eIx fa fb ρ = .ok (.fz c) ρ2 := by
  unfold eIx; rw [h1]; dsimp only [Out.bind]; rw [h2]; dsimp only [Out.bind]; rw [e1, e2]; dsimp only; rw [hg]
theorem r_b1 {g : O → Option PyData} (h1 : fa ρ = .ok p ρ1) (e1 : pkO ρ1 p = some o) (hg : g o = some c) : eB1 g fa ρ = .ok (.fz c) ρ1 := by
  unfold eB1; rw [h1]; dsimp only [Out.bind]; rw [e1]; dsimp only [Option.bind]; rw [hg]
theorem r_isi {n : String} (h1 : fa ρ = .ok p ρ1) (e1 : pkO ρ1 p = some o) (hg : isiO n o = some c) : eIsi n fa ρ = .ok (.fz c) ρ1 := r_b1 h1 e1 hg
theorem r_list {l : Bool} {ds : List PyData} (h1 : fa ρ = .ok p ρ1) (e1 : pkO ρ1 p = some o) (hg : itemsO o = some (l, ds)) : eList fa ρ = .ok (.lst (ds.map O.fz)) ρ1 := by
  unfold eList; rw [h1]; dsimp only [Out.bind]; rw [e1]; dsimp only [Option.bind]; rw [hg]
theorem r_tuple {l : Bool} {ds : List PyData} (h1 : fa ρ = .ok p ρ1) (e1 : pkO ρ1 p = some o) (hg : itemsO o = some (l, ds)) : eTuple fa ρ = .ok (.fz (.tuple ds)) ρ1 := by
  unfold eTuple; rw [h1]; dsimp only [Out.bind]; rw [e1]; dsimp only [Option.bind]; rw [hg]
theorem r_z (h1 : f ρ = .ok o ρ1) (hz : frz o = some d) : eZ f ρ = .ok (.fz d) ρ1 := by
  unfold eZ; rw [h1]; simp only [Out.bind, hz]
theorem r_neg {k : Int} (h1 : fa ρ = .ok p ρ1) (e1 : pkD ρ1 p = some (.int k)) : eNeg fa ρ = .ok (.fz (.int (-k))) ρ1 := by
  unfold eNeg; rw [h1]; dsimp only [Out.bind]; rw [e1]
theorem r_anil : aNil ρ = .ok [] ρ := rfl
theorem r_acons {r : FA} (h1 : f ρ = .ok o ρ1) (h2 : r ρ1 = .ok os ρ2) : aCons f r ρ = .ok (o :: os) ρ2 := by
  unfold aCons; rw [h1]; dsimp only [Out.bind]; rw [h2]
theorem r_lendF (h : ρ[i]? = some (some (.fz d))) : eLend i ρ = .ok (.fz d) ρ := by unfold eLend; rw [h]
theorem r_lendL {xs : List O} (h : ρ[i]? = some (some (.lst xs))) : eLend i ρ = .ok (.lst xs) (ρ.set i none) := by unfold eLend; rw [h]
theorem r_lst {r : FA} (h : r ρ = .ok os ρ1) : eLst r ρ = .ok (.lst os) ρ1 := by unfold eLst; rw [h]; rfl
theorem r_tup {r : FA} {ds : List PyData} (h : r ρ = .ok os ρ1) (hz : frzs os = some ds) : eTup r ρ = .ok (.fz (.tuple ds)) ρ1 := by unfold eTup; rw [h]; dsimp only [Out.bind]; rw [hz]
theorem r_call {F : List O → FO} {ls : List (Option Nat)} {dd : List PyData} {r : FA} {as' : List O} (h : r ρ = .ok os ρ1) (hF : F (os ++ dd.map O.fz) = .ok o as') (hb : backs ls as' ρ1 = ρ2) : eCall F ls dd r ρ = .ok o ρ2 := by
  unfold eCall; rw [h]; dsimp only [Out.bind]; rw [hF]; dsimp only; rw [hb]
theorem r_cat {ds es : List PyData} (h1 : fa ρ = .ok p ρ1) (h2 : fb ρ1 = .ok q ρ2) (e1 : pkO ρ2 p = some o1) (e2 : pkO ρ2 q = some o2) (g1 : lstI o1 = some ds) (g2 : lstI o2 = some es) (hz : ds.length + es.length ≤ sizeLine) : eCat fa fb ρ = .ok (.lst ((ds ++ es).map O.fz)) ρ2 := by
  unfold eCat; rw [h1]; dsimp only [Out.bind]; rw [h2]; dsimp only [Out.bind]; rw [e1, e2]; dsimp only [Option.bind]; rw [g1, g2]; dsimp only; rw [if_pos hz]
theorem r_rep {ds : List PyData} {k : Int} (h1 : fa ρ = .ok p ρ1) (h2 : fb ρ1 = .ok q ρ2) (e1 : pkO ρ2 p = some o1) (e2 : pkD ρ2 q = some (.int k)) (g1 : lstI o1 = some ds) (hz : -(2 ^ 63) ≤ k ∧ k < 2 ^ 63 ∧ ds.length * k.toNat ≤ sizeLine) : eRep fa fb ρ = .ok (.lst ((List.replicate k.toNat ds).flatten.map O.fz)) ρ2 := by
  unfold eRep; rw [h1]; dsimp only [Out.bind]; rw [h2]; dsimp only [Out.bind]; rw [e1, e2]; dsimp only [Option.bind]; rw [g1]; dsimp only; rw [if_pos hz]
theorem r_repT {ds : List PyData} {k : Int} (h1 : fa ρ = .ok p ρ1) (h2 : fb ρ1 = .ok q ρ2) (e1 : pkO ρ2 p = some o1) (e2 : pkD ρ2 q = some (.int k)) (g1 : tupI o1 = some ds) (hz : ds ≠ [] ∧ 1 ≤ k ∧ k ≤ 1000 ∧ ds.length ≤ 1000) : eRepT fa fb ρ = .ok (.fz (.tuple (List.replicate k.toNat ds).flatten)) ρ2 := by
  unfold eRepT; rw [h1]; dsimp only [Out.bind]; rw [h2]; dsimp only [Out.bind]; rw [e1, e2]; dsimp only [Option.bind]; rw [g1]; dsimp only; rw [if_pos hz]
theorem r_nno : nNo ρ = .ok none ρ := rfl
theorem r_ne {k : Int} (h1 : fa ρ = .ok p ρ1) (e1 : pkD ρ1 p = some (.int k)) : nE fa ρ = .ok (some k) ρ1 := by
  unfold nE; rw [h1]; dsimp only [Out.bind]; rw [e1]
theorem r_sl {fl fh : FN} {l u : Option Int} (h1 : fa ρ = .ok p ρ1) (h2 : fl ρ1 = .ok l ρ2) (h3 : fh ρ2 = .ok u ρ3) (e1 : pkO ρ3 p = some o) (hg : slO o l u = some o1) : eSl fa fl fh ρ = .ok o1 ρ3 := by
  unfold eSl; rw [h1]; dsimp only [Out.bind]; rw [h2]; dsimp only [Out.bind]; rw [h3]; dsimp only [Out.bind]; rw [e1]; dsimp only [Option.bind]; rw [hg]
/-! tests -/
theorem r_tof (h1 : f ρ = .ok (.fz (.bool b)) ρ1) : tOf f ρ = .ok b ρ1 := by unfold tOf; rw [h1]; rfl
theorem r_ttru (h1 : fa ρ = .ok p ρ1) (e1 : pkD ρ1 p = some d) (e2 : dTru d = some b) : tTru fa ρ = .ok b ρ1 := by
  unfold tTru; rw [h1]; dsimp only [Out.bind]; rw [e1]; dsimp only [Option.bind]; rw [e2]
theorem r_tnot (h1 : t ρ = .ok b ρ1) : tNotF t ρ = .ok (!b) ρ1 := by unfold tNotF; rw [h1]; rfl
theorem r_tandT (h1 : t ρ = .ok a ρ1) (ha : a = true) (h2 : u ρ1 = .ok b ρ2) : tAndF t u ρ = .ok b ρ2 := by unfold tAndF; rw [h1, ha]; exact h2
theorem r_tandF (h1 : t ρ = .ok a ρ1) (ha : a = false) : tAndF t u ρ = .ok false ρ1 := by unfold tAndF; rw [h1, ha]; rfl
theorem r_torT (h1 : t ρ = .ok a ρ1) (ha : a = true) : tOrF t u ρ = .ok true ρ1 := by unfold tOrF; rw [h1, ha]; rfl
theorem r_torF (h1 : t ρ = .ok a ρ1) (ha : a = false) (h2 : u ρ1 = .ok b ρ2) : tOrF t u ρ = .ok b ρ2 := by unfold tOrF; rw [h1, ha]; exact h2
theorem r_eandT (h1 : f ρ = .ok (.fz (.bool a)) ρ1) (ha : a = true) (h2 : g ρ1 = .ok o ρ2) : eAnd f g ρ = .ok o ρ2 := by unfold eAnd; rw [r_tof h1, ha]; exact h2
theorem r_eandF (h1 : f ρ = .ok (.fz (.bool a)) ρ1) (ha : a = false) : eAnd f g ρ = .ok (.fz (.bool false)) ρ1 := by unfold eAnd; rw [r_tof h1, ha]; rfl
theorem r_eorT (h1 : f ρ = .ok (.fz (.bool a)) ρ1) (ha : a = true) : eOr f g ρ = .ok (.fz (.bool true)) ρ1 := by unfold eOr; rw [r_tof h1, ha]; rfl
theorem r_eorF (h1 : f ρ = .ok (.fz (.bool a)) ρ1) (ha : a = false) (h2 : g ρ1 = .ok o ρ2) : eOr f g ρ = .ok o ρ2 := by unfold eOr; rw [r_tof h1, ha]; exact h2
theorem r_enot (h1 : fa ρ = .ok p ρ1) (e1 : pkD ρ1 p = some d) (e2 : dTru d = some b) : eNot fa ρ = .ok (.fz (.bool !b)) ρ1 := by unfold eNot; rw [r_ttru h1 e1 e2]; rfl
theorem r_eifT (h1 : t ρ = .ok a ρ1) (ha : a = true) (h2 : f ρ1 = .ok o ρ2) : eIf t f g ρ = .ok o ρ2 := by unfold eIf; rw [h1, ha]; exact h2
theorem r_eifF (h1 : t ρ = .ok a ρ1) (ha : a = false) (h2 : g ρ1 = .ok o ρ2) : eIf t f g ρ = .ok o ρ2 := by unfold eIf; rw [h1, ha]; exact h2
theorem r_chainT {g g' : PyData → PyData → Option PyData} {r : Pk} {d3 d4 : PyData} (h1 : fa ρ = .ok p ρ1) (h2 : fb ρ1 = .ok q ρ2) (e1 : pkD ρ2 p = some d1) (e2 : pkD ρ2 q = some d2) (hg : g d1 d2 = some (.bool a)) (ha : a = true) (h3 : fc ρ2 = .ok r ρ3) (e3 : pkD ρ3 q = some d3) (e4 : pkD ρ3 r = some d4) (hg' : g' d3 d4 = some c) : eChain g g' fa fb fc ρ = .ok (.fz c) ρ3 := by
  unfold eChain; rw [h1]; dsimp only [Out.bind]; rw [h2]; dsimp only [Out.bind]; rw [e1, e2]; dsimp only [Option.bind]; rw [hg, ha]; dsimp only; rw [h3]; dsimp only; rw [e3, e4]; dsimp only; rw [hg']
theorem r_chainF {g g' : PyData → PyData → Option PyData} (h1 : fa ρ = .ok p ρ1) (h2 : fb ρ1 = .ok q ρ2) (e1 : pkD ρ2 p = some d1) (e2 : pkD ρ2 q = some d2) (hg : g d1 d2 = some (.bool a)) (ha : a = false) : eChain g g' fa fb fc ρ = .ok (.fz (.bool false)) ρ2 := by
  unfold eChain; rw [h1]; dsimp only [Out.bind]; rw [h2]; dsimp only [Out.bind]; rw [e1, e2]; dsimp only [Option.bind]; rw [hg, ha]
/-! statements -/
theorem r_nil : sNil ρ = .nx ρ := rfl
variable {s r : FS} {out : SO}
theorem r_seq (h1 : s ρ = .nx ρ1) (h2 : r ρ1 = out) : sSeq s r ρ = out := by unfold sSeq; rw [h1]; exact h2
theorem r_seqR (h1 : s ρ = .rt o ρ1) : sSeq s r ρ = .rt o ρ1 := by unfold sSeq; rw [h1]; rfl
theorem r_ifT (h1 : t ρ = .ok a ρ1) (ha : a = true) (h2 : s ρ1 = out) : sIf t s r ρ = out := by unfold sIf; rw [h1, ha]; exact h2
theorem r_ifF (h1 : t ρ = .ok a ρ1) (ha : a = false) (h2 : r ρ1 = out) : sIf t s r ρ = out := by unfold sIf; rw [h1, ha]; exact h2
theorem r_ret (h1 : f ρ = .ok o ρ1) : sRet f ρ = .rt o ρ1 := by unfold sRet; rw [h1]; rfl
theorem r_drop (h1 : f ρ = .ok o ρ1) : sDrop f ρ = .nx ρ1 := by unfold sDrop; rw [h1]; rfl
theorem r_set (h1 : f ρ = .ok o ρ1) (hi : i < ρ1.length) (h2 : ρ1.set i (some o) = ρ2) : sSet i f ρ = .nx ρ2 := by unfold sSet; rw [h1]; dsimp only [Out.toS]; rw [if_pos hi, h2]
theorem r_asg {gF : FG} (h1 : f ρ = .ok o ρ1) (hz : frz o = some d) (hg : gF d ρ1 = some ρ2) : sAsg gF f ρ = .nx ρ2 := by unfold sAsg; rw [h1]; dsimp only [Out.toS]; rw [hz]; dsimp only [Option.bind]; rw [hg]
theorem r_par {fA : FA} (h1 : fA ρ = .ok [o1, o2] ρ1) (hi : i < ρ1.length ∧ j < ρ1.length) (h2 : (ρ1.set i (some o1)).set j (some o2) = ρ2) : sPar i j fA ρ = .nx ρ2 := by unfold sPar; rw [h1]; dsimp only [Out.toS]; rw [if_pos hi, h2]
theorem r_sapp {xs ys : List O} (h0 : ρ[j]? = some (some (.lst ys))) (h1 : f ρ = .ok o ρ1) (h2 : ρ1[j]? = some (some (.lst xs))) (hz : xs.length < sizeLine) (h3 : ρ1.set j (some (.lst (xs ++ [o]))) = ρ2) : sApp j f ρ = .nx ρ2 := by
  unfold sApp; rw [h0]; dsimp only; rw [h1]; dsimp only [Out.toS]; unfold appK; rw [h2]; dsimp only; rw [if_pos hz, h3]
theorem r_six {xs : List O} {k : Int} {n : Nat} (h1 : f ρ = .ok o ρ1) (h0 : ρ1[j]? = some (some o2)) (h2 : fa ρ1 = .ok p ρ2) (h3 : ρ2[j]? = some (some (.lst xs))) (e1 : pkD ρ2 p = some (.int k)) (hn : ixN xs.length k = some n) (h4 : ρ2.set j (some (.lst (xs.set n o))) = ρ3) : sIx j fa f ρ = .nx ρ3 := by
  unfold sIx; rw [h1]; dsimp only [Out.toS]; rw [h0]; dsimp only; rw [h2]; dsimp only [Out.toS]; unfold ixK; rw [h3, e1]; dsimp only; rw [hn]; dsimp only; rw [h4]
theorem r_aug {g : PyData → PyData → Option PyData} {n : Int} (h0 : ρ[i]? = some (some (.fz (.int n)))) (h1 : fa ρ = .ok p ρ1) (e1 : pkD ρ1 p = some d) (hg : g (.int n) d = some c) (hi : i < ρ1.length) (h2 : ρ1.set i (some (.fz c)) = ρ2) : sAug i g fa ρ = .nx ρ2 := by
  unfold sAug; rw [h0]; dsimp only; rw [h1]; dsimp only [Out.toS]; unfold augK; rw [e1]; dsimp only [Option.bind]; rw [hg]; dsimp only; rw [if_pos hi, h2]
theorem r_runR {m : Nat} {prot : List Nat} {body : FS} {as as' : List O} (h1 : body (entry m as) = .rt o ρ1) (h2 : finA prot ρ1 0 as = some as') : runFn m prot body as = .ok o as' := by
  unfold runFn; rw [h1]; dsimp only; rw [h2]
theorem r_runN {m : Nat} {prot : List Nat} {body : FS} {as as' : List O} (h1 : body (entry m as) = .nx ρ1) (h2 : finA prot ρ1 0 as = some as') : runFn m prot body as = .ok (.fz .none) as' := by
  unfold runFn; rw [h1]; dsimp only; rw [h2]
/-! sources -/
theorem r_fseqV {l : Bool} {ds : List PyData} (h1 : fa ρ = .ok (.v i) ρ1) (e1 : ρ1[i]? = some (some o)) (e2 : itemsO o = some (l, ds)) : fSeq fa ρ = .ok (.sl l i) ρ1 := by
  unfold fSeq; rw [h1]; dsimp only [Out.bind]; unfold srOf; dsimp only; rw [e1]; dsimp only [Option.bind, id]; rw [e2]; rfl
theorem r_fseqL {ds : List PyData} (h1 : fa ρ = .ok (.o o) ρ1) (e1 : frz o = some (.list ds)) : fSeq fa ρ = .ok (.st true ds) ρ1 := by
  unfold fSeq; rw [h1]; dsimp only [Out.bind]; unfold srOf; dsimp only; rw [e1]; rfl
theorem r_fseqT {ds : List PyData} (h1 : fa ρ = .ok (.o o) ρ1) (e1 : frz o = some (.tuple ds)) : fSeq fa ρ = .ok (.st false ds) ρ1 := by
  unfold fSeq; rw [h1]; dsimp only [Out.bind]; unfold srOf; dsimp only; rw [e1]; rfl
theorem r_rg1 {k : Int} (h1 : fa ρ = .ok p ρ1) (e1 : pkD ρ1 p = some (.int k)) (hz : -(2 ^ 62) ≤ k ∧ k < 2 ^ 62) : fRg1 fa ρ = .ok (.rg 0 k.toNat) ρ1 := by
  unfold fRg1; rw [h1]; dsimp only [Out.bind]; rw [e1]; dsimp only; rw [if_pos hz]
theorem r_rg2 {k l : Int} (h1 : fa ρ = .ok p ρ1) (h2 : fb ρ1 = .ok q ρ2) (e1 : pkD ρ2 p = some (.int k)) (e2 : pkD ρ2 q = some (.int l)) (hz : -(2 ^ 62) ≤ k ∧ k < 2 ^ 62 ∧ -(2 ^ 62) ≤ l ∧ l < 2 ^ 62) : fRg2 fa fb ρ = .ok (.rg k (l - k).toNat) ρ2 := by
  unfold fRg2; rw [h1]; dsimp only [Out.bind]; rw [h2]; dsimp only [Out.bind]; rw [e1, e2]; dsimp only; rw [if_pos hz]
theorem r_zip {s1 s2 : Sr} {ds : List PyData} (h1 : fSeq fa ρ = .ok s1 ρ1) (h2 : fSeq fb ρ1 = .ok s2 ρ2) (e1 : (Sr.zp s1 s2).at ρ2 = some ds) (hk : s1.kind = s2.kind) : fZip fa fb ρ = .ok (.zp s1 s2) ρ2 := by
  unfold fZip; rw [h1]; dsimp only [Out.bind]; rw [h2]; dsimp only [Out.bind]; rw [e1]; dsimp only; rw [if_pos hk]
theorem r_en {s1 : Sr} (h1 : fSeq fa ρ = .ok s1 ρ1) (hk : s1.kind = some true) : fEn fa ρ = .ok (.en s1) ρ1 := by
  unfold fEn; rw [h1]; dsimp only [Out.bind]; rw [if_pos hk]
/-! loops -/
theorem r_for {Z : List Nat} {fi : FI} {gF : FG} {body : FS} {sr : Sr} {ds : List PyData} (h1 : fi ρ = .ok sr ρ1) (hz : (sr.slots.all fun i => Z.contains i) = true) (e1 : sr.at ρ1 = some ds) (h2 : forF sr gF body (ds.length + 1) 0 ρ1 = out) : sFor Z fi gF body ρ = out := by
  unfold sFor; rw [h1]; dsimp only [Out.toS]; rw [if_pos hz, e1]; exact h2
theorem r_comp {fi : FI} {gF : FG} {sr : Sr} {ds : List PyData} {vs : List Nat} (h1 : fi ρ = .ok sr ρ1) (hz : (sr.slots.all fun i => !vs.contains i) = true) (e1 : sr.at (wipeE ρ1 vs) = some ds) (h2 : compF sr gF t f vs (ds.length + 1) 0 (wipeE ρ1 vs) [] = .ok os ρ2) : eComp fi gF t f vs ρ = .ok (.lst os) ρ2 := by
  unfold eComp; rw [h1]; dsimp only [Out.bind]; rw [if_pos hz, e1]; dsimp only; rw [h2]
end
/-- a for over items that stay, by what an environment stands for -/
theorem for_fold {α : Type} {sr : Sr} {gF : FG} {body : FS} {ds : List PyData} (R : Nat → α → En → Prop) (step : α → PyData → α) (hat : ∀ j a ρ, j ≤ ds.length → R j a ρ → sr.at ρ = some ds)
    (hs : ∀ j a ρ d, ds[j]? = some d → R j a ρ → ∃ ρ1 ρ2, gF d ρ = some ρ1 ∧ (body ρ1 = .nx ρ2 ∨ body ρ1 = .ct ρ2) ∧ R (j + 1) (step a d) ρ2) :
    ∀ (n j : Nat) (a : α) (ρ : En), n + j = ds.length → R j a ρ → ∃ ρ', forF sr gF body (n + 1) j ρ = .nx ρ' ∧ R ds.length ((ds.drop j).foldl step a) ρ'
  | 0, j, a, ρ, hn, r => by
    have ej : j = ds.length := by omega
    subst ej
    refine ⟨ρ, ?_, by rw [List.drop_length]; exact r⟩
    unfold forF
    rw [hat _ a ρ (Nat.le_refl _) r]
    dsimp only
    rw [List.getElem?_eq_none (Nat.le_refl _)]
  | n + 1, j, a, ρ, hn, r => by
    have hj : j < ds.length := by omega
    have e : ds[j]? = some ds[j] := List.getElem?_eq_getElem hj
    obtain ⟨ρ1, ρ2, g1, b1, r1⟩ := hs j a ρ ds[j] e r
    obtain ⟨ρ', h1, h2⟩ := for_fold R step hat hs n (j + 1) (step a ds[j]) ρ2 (by omega) r1
    refine ⟨ρ', ?_, by rw [List.drop_eq_getElem_cons hj]; exact h2⟩
    unfold forF
    rw [hat j a ρ (by omega) r]
    dsimp only
    rw [e]
    dsimp only
    rw [g1]
    dsimp only
    rcases b1 with b1 | b1 <;> rw [b1] <;> exact h1
/-- a comprehension likewise: each element's worth beside the state -/
def accW {α : Type} (step : α → PyData → α × PyData) : α → List PyData → α × List PyData
  | a, [] => (a, [])
  | a, d :: ds => let r := step a d; let q := accW step r.1 ds; (q.1, r.2 :: q.2)
theorem comp_fold {α : Type} {sr : Sr} {gF : FG} {test : FT} {elt : FE} {vs : List Nat} {ds : List PyData} (R : α → En → Prop) (step : α → PyData → α × PyData) (hat : ∀ a ρ, R a ρ → sr.at ρ = some ds)
    (hs : ∀ a ρ (j : Nat) d, ds[j]? = some d → R a ρ → ∃ ρ1 ρ2 ρ3, gF d ρ = some ρ1 ∧ test ρ1 = .ok true ρ2 ∧ elt ρ2 = .ok (.fz (step a d).2) ρ3 ∧ R (step a d).1 (wipeE ρ3 vs)) (hz : ds.length ≤ sizeLine) :
    ∀ (n j : Nat) (a : α) (ρ : En) (acc : List O), n + j = ds.length → acc.length = j → R a ρ → ∃ ρ', compF sr gF test elt vs (n + 1) j ρ acc = .ok (acc ++ (accW step a (ds.drop j)).2.map O.fz) ρ' ∧ R (accW step a (ds.drop j)).1 ρ'
  | 0, j, a, ρ, acc, hn, hl, r => by
    have ej : j = ds.length := by omega
    subst ej
    refine ⟨ρ, ?_, by rw [List.drop_length]; exact r⟩
    unfold compF
    rw [hat a ρ r]
    dsimp only
    rw [List.getElem?_eq_none (Nat.le_refl _), List.drop_length]
    simp [accW]
  | n + 1, j, a, ρ, acc, hn, hl, r => by
    have hj : j < ds.length := by omega
    have e : ds[j]? = some ds[j] := List.getElem?_eq_getElem hj
    obtain ⟨ρ1, ρ2, ρ3, g1, t1, e1, r1⟩ := hs a ρ j ds[j] e r
    obtain ⟨ρ', h1, h2⟩ := comp_fold R step hat hs hz n (j + 1) (step a ds[j]).1 (wipeE ρ3 vs) (acc ++ [.fz (step a ds[j]).2]) (by omega) (by simp [hl]) r1
    refine ⟨ρ', ?_, by rw [List.drop_eq_getElem_cons hj]; exact h2⟩
    unfold compF
    rw [hat a ρ r]
    dsimp only
    rw [e]
    dsimp only
    rw [g1]
    dsimp only
    rw [t1]
    dsimp only
    rw [e1]
    dsimp only
    rw [if_pos (by omega), h1, List.drop_eq_getElem_cons hj]
    simp [accW]
end Ls

namespace Ls
open PySem L2
section
variable {ρ ρ1 ρ2 : En} {s r : FS} {f : FE}
theorem seqE {P : En → Prop} {G : SO → Prop} (h1 : ∃ ρ1, s ρ = .nx ρ1 ∧ P ρ1) (h2 : ∀ ρ1, P ρ1 → G (r ρ1)) : G (sSeq s r ρ) := by
  obtain ⟨ρ1, e, p⟩ := h1
  rw [r_seq e rfl]; exact h2 ρ1 p
end
theorem comp_inv {sr : Sr} {gF : FG} {test : FT} {elt : FE} {vs : List Nat} {ds : List PyData} (I : Nat → List PyData → En → Prop) (hat : ∀ j acc ρ, I j acc ρ → sr.at ρ = some ds)
    (hs : ∀ j acc ρ d, ds[j]? = some d → I j acc ρ → ∃ ρ1 ρ2 ρ3 e, gF d ρ = some ρ1 ∧ test ρ1 = .ok true ρ2 ∧ elt ρ2 = .ok (.fz e) ρ3 ∧ I (j + 1) (acc ++ [e]) (wipeE ρ3 vs)) (hz : ds.length ≤ sizeLine) :
    ∀ (n j : Nat) (ρ : En) (acc : List PyData), n + j = ds.length → acc.length = j → I j acc ρ → ∃ acc' ρ', compF sr gF test elt vs (n + 1) j ρ (acc.map O.fz) = .ok (acc'.map O.fz) ρ' ∧ acc'.length = ds.length ∧ I ds.length acc' ρ'
  | 0, j, ρ, acc, hn, hl, r => by
    have ej : j = ds.length := by omega
    refine ⟨acc, ρ, ?_, by omega, by rw [← ej]; exact r⟩
    unfold compF
    rw [hat j acc ρ r]
    dsimp only
    rw [List.getElem?_eq_none (by omega)]
  | n + 1, j, ρ, acc, hn, hl, r => by
    have hj : j < ds.length := by omega
    have e : ds[j]? = some ds[j] := List.getElem?_eq_getElem hj
    obtain ⟨ρ1, ρ2, ρ3, x, g1, t1, e1, r1⟩ := hs j acc ρ ds[j] e r
    obtain ⟨acc', ρ', h1, h2, h3⟩ := comp_inv I hat hs hz n (j + 1) (wipeE ρ3 vs) (acc ++ [x]) (by omega) (by simp [hl]) r1
    refine ⟨acc', ρ', ?_, h2, h3⟩
    unfold compF
    rw [hat j acc ρ r]
    dsimp only
    rw [e]
    dsimp only
    rw [g1]
    dsimp only
    rw [t1]
    dsimp only
    rw [e1]
    dsimp only
    rw [if_pos (by rw [List.length_map]; omega)]
    rw [List.map_append] at h1
    exact h1
/-- a comprehension whose element leaves the world as it is -/
theorem comp_map {sr : Sr} {gF : FG} {elt : FE} {vs : List Nat} {ds : List PyData} {ρ : En} (g : PyData → PyData) (hat : sr.at ρ = some ds)
    (hs : ∀ d, d ∈ ds → ∃ ρ1 ρ3, gF d ρ = some ρ1 ∧ elt ρ1 = .ok (.fz (g d)) ρ3 ∧ wipeE ρ3 vs = ρ) (hz : ds.length ≤ sizeLine) :
    compF sr gF tYesF elt vs (ds.length + 1) 0 ρ [] = .ok ((ds.map g).map O.fz) ρ := by
  obtain ⟨acc', ρ', h1, h2, h3⟩ := comp_inv (sr := sr) (gF := gF) (test := tYesF) (elt := elt) (vs := vs) (ds := ds) (fun j acc ρ' => ρ' = ρ ∧ acc = (ds.take j).map g) (fun j acc ρ' h => by rw [h.1]; exact hat) (fun j acc ρ' d hd h => by
    obtain ⟨ρ1, ρ3, a1, a2, a3⟩ := hs d (List.mem_of_getElem? hd)
    refine ⟨ρ1, ρ1, ρ3, g d, by rw [h.1]; exact a1, rfl, a2, a3, ?_⟩
    rw [h.2, List.take_add_one, hd]; simp) hz ds.length 0 ρ [] rfl rfl ⟨rfl, rfl⟩
  rw [List.map_nil] at h1
  rw [h1, h3.1, h3.2, List.take_length]
theorem for_inv {sr : Sr} {gF : FG} {body : FS} {ds : List PyData} (I : Nat → En → Prop) (hat : ∀ j ρ, j ≤ ds.length → I j ρ → sr.at ρ = some ds)
    (hs : ∀ j ρ d, ds[j]? = some d → I j ρ → ∃ ρ1 ρ2, gF d ρ = some ρ1 ∧ (body ρ1 = .nx ρ2 ∨ body ρ1 = .ct ρ2) ∧ I (j + 1) ρ2) :
    ∀ (n j : Nat) (ρ : En), n + j = ds.length → I j ρ → ∃ ρ', forF sr gF body (n + 1) j ρ = .nx ρ' ∧ I ds.length ρ'
  | 0, j, ρ, hn, r => by
    have ej : j = ds.length := by omega
    refine ⟨ρ, ?_, by rw [← ej]; exact r⟩
    unfold forF
    rw [hat _ ρ (by omega) r]
    dsimp only
    rw [List.getElem?_eq_none (by omega)]
  | n + 1, j, ρ, hn, r => by
    have hj : j < ds.length := by omega
    have e : ds[j]? = some ds[j] := List.getElem?_eq_getElem hj
    obtain ⟨ρ1, ρ2, g1, b1, r1⟩ := hs j ρ ds[j] e r
    obtain ⟨ρ', h1, h2⟩ := for_inv I hat hs n (j + 1) ρ2 (by omega) r1
    refine ⟨ρ', ?_, h2⟩
    unfold forF
    rw [hat j ρ (by omega) r]
    dsimp only
    rw [e]
    dsimp only
    rw [g1]
    dsimp only
    rcases b1 with b1 | b1 <;> rw [b1] <;> exact h1
def RT (out : SO) (P : O → En → Prop) : Prop := ∃ o ρ, out = .rt o ρ ∧ P o ρ
def NX (out : SO) (P : En → Prop) : Prop := ∃ ρ, out = .nx ρ ∧ P ρ
theorem rt_of {out : SO} {P : O → En → Prop} {o : O} {ρ : En} (h : out = .rt o ρ) (p : P o ρ) : RT out P := ⟨o, ρ, h, p⟩
theorem nx_of {out : SO} {P : En → Prop} {ρ : En} (h : out = .nx ρ) (p : P ρ) : NX out P := ⟨ρ, h, p⟩
theorem seqNX {s r : FS} {ρ : En} {P : En → Prop} {G : SO → Prop} (h1 : NX (s ρ) P) (h2 : ∀ ρ1, P ρ1 → G (r ρ1)) : G (sSeq s r ρ) := seqE h1 h2
theorem run_rt {m : Nat} {prot : List Nat} {body : FS} {as : List O} {Q : O → List O → Prop} (h : RT (body (entry m as)) fun o ρ => ∃ as', finA prot ρ 0 as = some as' ∧ Q o as') : ∃ o as', runFn m prot body as = .ok o as' ∧ Q o as' := by
  obtain ⟨o, ρ, h1, as', h2, h3⟩ := h
  exact ⟨o, as', r_runR h1 h2, h3⟩
/-! ### data -/
theorem log2_lt {n k : Nat} (h : n < 2 ^ k) (hk : 0 < k) : n.log2 < k := by
  by_cases h0 : n = 0
  · subst h0; simpa using hk
  · exact (Nat.log2_lt h0).mpr h
theorem dMul_ok {i j : Int} (hi : i.natAbs < 2 ^ 100) (hj : j.natAbs < 2 ^ 100) : dMul (.int i) (.int j) = some (.int (i * j)) := by
  have a := log2_lt hi (by decide)
  have b := log2_lt hj (by decide)
  exact if_pos (by omega)
theorem dMod_ok {i j : Int} (hj : j ≠ 0) : dMod (.int i) (.int j) = some (.int (i.fmod j)) := if_pos hj
theorem dDiv_ok {i j : Int} (hj : j ≠ 0) (hj2 : j.natAbs < 2 ^ 100) : dDiv (.int i) (.int j) = some (.int (i.fdiv j)) := if_pos ⟨hj, by have := log2_lt hj2 (by decide); omega⟩
theorem dEq_int {i j : Int} : dEq (.int i) (.int j) = some (.bool (decide (i = j))) := by
  by_cases h : i = j <;> simp [dEq, SeqAt.shaped, PyData.eqv, PyData.canLay0, PyData.depth, h]
theorem dNe_int {i j : Int} : dNe (.int i) (.int j) = some (.bool (!decide (i = j))) := by
  by_cases h : i = j <;> simp [dNe, SeqAt.shaped, PyData.eqv, PyData.canLay0, PyData.depth, h]
theorem fmodA {x k : Int} (h : 0 < k) (h2 : k < 2 ^ 100) : (x.fmod k).natAbs < 2 ^ 100 := by
  have a := Int.fmod_nonneg_of_pos x h
  have b := Int.fmod_lt_of_pos x h
  omega
theorem atN {α : Type} {xs : List α} {k : Nat} {x : α} (h : xs[k]? = some x) : atI xs (k : Int) = some x := by
  have hk : k < xs.length := (List.getElem?_eq_some_iff.mp h).1
  simp only [atI, ixN]
  rw [if_pos (by omega), if_pos (by omega)]
  simpa using h
theorem allFz_map : ∀ ds : List PyData, allFz (ds.map O.fz) = some ds
  | [] => rfl
  | d :: ds => by show (allFz (ds.map O.fz)).map _ = _; rw [allFz_map ds]; rfl
theorem items_map (ds : List PyData) : itemsO (.lst (ds.map O.fz)) = some (true, ds) := by
  show (allFz _).map _ = _; rw [allFz_map]; rfl
theorem frzs_map : ∀ ds : List PyData, frzs (ds.map O.fz) = some ds
  | [] => by simp [frzs]
  | d :: ds => by simp [frzs, frz, frzs_map ds]
theorem frz_map (ds : List PyData) : frz (.lst (ds.map O.fz)) = some (.list ds) := by simp [frz, frzs_map]
end Ls

namespace Ls
open PySem L2
def OKP (out : Out O) (P : O → En → Prop) : Prop := ∃ o ρ, out = .ok o ρ ∧ P o ρ
section
variable {ρ ρ1 ρ2 : En} {s r : FS} {f : FE} {G : SO → Prop} {P : O → En → Prop} {o : O} {i : Nat}
theorem ok_of (h : f ρ = .ok o ρ1) (p : P o ρ1) : OKP (f ρ) P := ⟨o, ρ1, h, p⟩
theorem seqS (h1 : s ρ = .nx ρ1) (h2 : G (r ρ1)) : G (sSeq s r ρ) := by rw [r_seq h1 rfl]; exact h2
theorem seqSet (h : OKP (f ρ) fun o ρ1 => i < ρ1.length ∧ G (r (ρ1.set i (some o)))) : G (sSeq (sSet i f) r ρ) := by
  obtain ⟨o, ρ1, h1, h2, h3⟩ := h
  rw [r_seq (r_set h1 h2 rfl) rfl]; exact h3
theorem nxSet {P : En → Prop} (h : OKP (f ρ) fun o ρ1 => i < ρ1.length ∧ P (ρ1.set i (some o))) : NX (sSet i f ρ) P := by
  obtain ⟨o, ρ1, h1, h2, h3⟩ := h
  exact ⟨_, r_set h1 h2 rfl, h3⟩
theorem rtRet (h : OKP (f ρ) P) : RT (sRet f ρ) P := by
  obtain ⟨o, ρ1, h1, h2⟩ := h
  exact ⟨o, ρ1, r_ret h1, h2⟩
theorem okTuple (h : OKP (f ρ) fun o ρ1 => ∃ l ds, itemsO o = some (l, ds) ∧ P (.fz (.tuple ds)) ρ1) : OKP (eTuple (pE f) ρ) P := by
  obtain ⟨o, ρ1, h1, l, ds, h2, h3⟩ := h
  exact ⟨_, _, r_tuple (r_pe h1) rfl h2, h3⟩
theorem lendO {xs : List O} (h : ρ[i]? = some (some o)) (hl : o = .lst xs) (h2 : ρ.set i none = ρ1) : eLend i ρ = .ok o ρ1 := by subst hl; rw [r_lendL h, h2]
theorem okComp {fi : FI} {gF : FG} {t : FT} {vs : List Nat} {sr : Sr} {ds : List PyData} (I : Nat → List PyData → En → Prop) (h1 : fi ρ = .ok sr ρ1) (hz : (sr.slots.all fun i => !vs.contains i) = true) (e1 : sr.at (wipeE ρ1 vs) = some ds) (h0 : I 0 [] (wipeE ρ1 vs))
    (hat : ∀ j acc ρ, I j acc ρ → sr.at ρ = some ds)
    (hs : ∀ j acc ρ d, ds[j]? = some d → I j acc ρ → ∃ ρ1 ρ2 ρ3 e, gF d ρ = some ρ1 ∧ t ρ1 = .ok true ρ2 ∧ f ρ2 = .ok (.fz e) ρ3 ∧ I (j + 1) (acc ++ [e]) (wipeE ρ3 vs)) (hl : ds.length ≤ sizeLine)
    (hP : ∀ acc ρ2, acc.length = ds.length → I ds.length acc ρ2 → P (.lst (acc.map O.fz)) ρ2) : OKP (eComp fi gF t f vs ρ) P := by
  obtain ⟨acc, ρ2, a1, a2, a3⟩ := comp_inv I hat hs hl ds.length 0 (wipeE ρ1 vs) [] rfl rfl h0
  exact ⟨_, ρ2, r_comp h1 hz e1 a1, hP acc ρ2 a2 a3⟩
theorem compMap {fi : FI} {gF : FG} {vs : List Nat} {sr : Sr} {ds : List PyData} (g : PyData → PyData) (h1 : fi ρ = .ok sr ρ1) (hz : (sr.slots.all fun i => !vs.contains i) = true) (e1 : sr.at (wipeE ρ1 vs) = some ds) 
    (hs : ∀ d, d ∈ ds → ∃ ρ2 ρ3, gF d (wipeE ρ1 vs) = some ρ2 ∧ f ρ2 = .ok (.fz (g d)) ρ3 ∧ wipeE ρ3 vs = wipeE ρ1 vs) (hl : ds.length ≤ sizeLine) : eComp fi gF tYesF f vs ρ = .ok (.lst ((ds.map g).map O.fz)) (wipeE ρ1 vs) :=
  r_comp h1 hz e1 (comp_map g e1 hs hl)
theorem compM {α : Type} {fi : FI} {gF : FG} {vs : List Nat} {sr : Sr} {ρ4 : En} (ks : List α) (q g : α → PyData) (h1 : fi ρ = .ok sr ρ1) (hz : (sr.slots.all fun i => !vs.contains i) = true) (h4 : wipeE ρ1 vs = ρ4) (e1 : sr.at ρ4 = some (ks.map q))
    (hs : ∀ k, k ∈ ks → ∃ ρ2 ρ3, gF (q k) ρ4 = some ρ2 ∧ f ρ2 = .ok (.fz (g k)) ρ3 ∧ wipeE ρ3 vs = ρ4) (hl : ks.length ≤ sizeLine) : eComp fi gF tYesF f vs ρ = .ok (.lst ((ks.map g).map O.fz)) ρ4 := by
  subst h4
  obtain ⟨acc', ρ', a1, a2, a3⟩ := comp_inv (sr := sr) (gF := gF) (test := tYesF) (elt := f) (vs := vs) (ds := ks.map q) (fun j acc ρ' => ρ' = wipeE ρ1 vs ∧ acc = (ks.take j).map g) (fun j acc ρ' h => by rw [h.1]; exact e1) (fun j acc ρ' d hd h => by
    rw [List.getElem?_map] at hd
    obtain ⟨k, b1, b2⟩ := Option.map_eq_some_iff.mp hd
    subst b2
    obtain ⟨ρ1, ρ3, a1, a2, a3⟩ := hs k (List.mem_of_getElem? b1)
    refine ⟨ρ1, ρ1, ρ3, g k, by rw [h.1]; exact a1, rfl, a2, a3, ?_⟩
    rw [h.2, List.take_add_one, b1]; simp) (by rw [List.length_map]; exact hl) (ks.map q).length 0 (wipeE ρ1 vs) [] rfl rfl ⟨rfl, rfl⟩
  rw [List.map_nil] at a1
  rw [r_comp h1 hz e1 a1, a3.1, a3.2, List.length_map, List.take_length]
theorem nxFor {Z : List Nat} {fi : FI} {gF : FG} {body : FS} {sr : Sr} {ds : List PyData} {P : En → Prop} (I : Nat → En → Prop) (h1 : fi ρ = .ok sr ρ1) (hz : (sr.slots.all fun i => Z.contains i) = true) (e1 : sr.at ρ1 = some ds) (h0 : I 0 ρ1)
    (hat : ∀ j ρ, j ≤ ds.length → I j ρ → sr.at ρ = some ds)
    (hs : ∀ j ρ d, ds[j]? = some d → I j ρ → ∃ ρ1, gF d ρ = some ρ1 ∧ NX (body ρ1) (I (j + 1))) (hP : ∀ ρ, I ds.length ρ → P ρ) : NX (sFor Z fi gF body ρ) P := by
  obtain ⟨ρ', a1, a2⟩ := for_inv (body := body) (gF := gF) I hat (fun j ρ d hd hi => by
    obtain ⟨ρ1, b1, ρ2, b2, b3⟩ := hs j ρ d hd hi
    exact ⟨ρ1, ρ2, b1, Or.inl b2, b3⟩) ds.length 0 ρ1 rfl h0
  exact ⟨ρ', r_for h1 hz e1 a1, hP _ a2⟩
end
theorem len_items {o : O} {l : Bool} {ds : List PyData} (h : itemsO o = some (l, ds)) : lenO o = some (.int ds.length) := by
  cases o with
  | fz d => cases d <;> first | (cases h; rfl) | cases h
  | raw v => cases h
  | exn _ _ _ _ => cases h
  | lst xs =>
    obtain ⟨ds', e1, e2⟩ := Option.map_eq_some_iff.mp (show (allFz xs).map _ = some _ from h)
    cases e2
    show some (PyData.int xs.length) = _
    have : ∀ (xs : List O) (ds : List PyData), allFz xs = some ds → xs.length = ds.length := by
      intro xs
      induction xs with
      | nil => intro ds h; cases h; rfl
      | cons x xs ih =>
        intro ds h
        cases x with
        | fz d =>
          obtain ⟨ds', e1, e2⟩ := Option.map_eq_some_iff.mp (show (allFz xs).map _ = some _ from h)
          cases e2
          simp [ih _ e1]
        | raw v => cases h
        | exn _ _ _ _ => cases h
        | lst v => cases h
    rw [this _ _ e1]
theorem ix_items {o : O} {l : Bool} {ds : List PyData} {k : Nat} {d : PyData} (h : itemsO o = some (l, ds)) (hk : ds[k]? = some d) : ixO o (k : Int) = some d := by
  rw [ixO_eq, h]
  · exact atN hk
  · intro z e; subst e; cases h
theorem ix_itemsI {o : O} {l : Bool} {ds : List PyData} {v : Int} {d : PyData} (h : itemsO o = some (l, ds)) (h0 : 0 ≤ v) (hk : ds[v.toNat]? = some d) : ixO o v = some d := by
  have := ix_items h hk
  rwa [Int.toNat_of_nonneg h0] at this
theorem mem_range {d : PyData} {n : Nat} (h : d ∈ rgD 0 n) : ∃ k : Nat, d = .int (k : Int) ∧ k < n := by
  obtain ⟨k, h1, h2⟩ := List.mem_map.mp h
  exact ⟨k, by rw [← h2]; simp, List.mem_range.mp h1⟩
theorem get_range {d : PyData} {n j : Nat} (h : (rgD 0 n)[j]? = some d) : d = .int (j : Int) ∧ j < n := by
  unfold rgD at h
  rw [List.getElem?_map] at h
  obtain ⟨k, h1, h2⟩ := Option.map_eq_some_iff.mp h
  obtain ⟨h3, h4⟩ := List.getElem?_eq_some_iff.mp h1
  rw [List.getElem_range] at h4
  subst h4
  rw [List.length_range] at h3
  exact ⟨by rw [← h2]; simp, h3⟩
theorem gN {i : Nat} {d : PyData} {ρ ρ1 : En} (h : i < ρ.length) (h2 : ρ.set i (some (.fz d)) = ρ1) : gfN i d ρ = some ρ1 := by unfold gfN; rw [if_pos h, h2]
theorem exEl {gF : FG} {f : FE} {vs : List Nat} {ρ ρ2 ρ3 ρ4 : En} {d e : PyData} (h1 : gF d ρ = some ρ2) (h2 : f ρ2 = .ok (.fz e) ρ3) (h3 : wipeE ρ3 vs = ρ4) : ∃ ρ2 ρ3, gF d ρ = some ρ2 ∧ f ρ2 = .ok (.fz e) ρ3 ∧ wipeE ρ3 vs = ρ4 := ⟨_, _, h1, h2, h3⟩
theorem exElI {gF : FG} {t : FT} {f : FE} {ρ ρ1 ρ2 ρ3 : En} {d e : PyData} {Q : PyData → En → Prop} (h1 : gF d ρ = some ρ1) (h2 : t ρ1 = .ok true ρ2) (h3 : f ρ2 = .ok (.fz e) ρ3) (h4 : Q e ρ3) : ∃ ρ1 ρ2 ρ3 e, gF d ρ = some ρ1 ∧ t ρ1 = .ok true ρ2 ∧ f ρ2 = .ok (.fz e) ρ3 ∧ Q e ρ3 := ⟨_, _, _, _, h1, h2, h3, h4⟩
theorem exFor {gF : FG} {body : FS} {ρ ρ1 : En} {d : PyData} {P : En → Prop} (h1 : gF d ρ = some ρ1) (h2 : NX (body ρ1) P) : ∃ ρ1, gF d ρ = some ρ1 ∧ NX (body ρ1) P := ⟨_, h1, h2⟩
theorem le_line {n : Nat} (h : n ≤ 1000) : n ≤ sizeLine := by unfold sizeLine; omega
theorem flat_rep {α : Type} (x : α) : ∀ n : Nat, (List.replicate n [x]).flatten = List.replicate n x
  | 0 => rfl
  | n + 1 => by rw [List.replicate_succ, List.flatten_cons, flat_rep x n]; rfl
theorem intO_bool {b : Bool} : intO (.fz (.bool b)) = some (.int (if b then 1 else 0)) := by cases b <;> rfl
theorem rg_at {ρ : En} {n : Nat} : (Sr.rg 0 (Int.toNat (n : Int))).at ρ = some ((List.range n).map fun i : Nat => PyData.int (i : Int)) := by simp [Sr.at, rgD]
theorem len_range {n : Nat} : (rgD 0 n).length = n := by simp [rgD]
end Ls

namespace Ls
open PySem L2
/-- plain data, its depth at most n -/
def Sh (n : Nat) (d : PyData) : Prop := d.canLay0 = true ∧ d.depth ≤ n
theorem sh_int {n : Nat} {i : Int} : Sh n (.int i) := ⟨rfl, by simp [PyData.depth]⟩
theorem sh_bool {n : Nat} {i : Bool} : Sh n (.bool i) := ⟨rfl, by simp [PyData.depth]⟩
theorem sh_none {n : Nat} : Sh n .none := ⟨rfl, by simp [PyData.depth]⟩
theorem canAll {ds : List PyData} (h : ∀ d ∈ ds, d.canLay0 = true) : PyData.canLayAll0 ds = true := by
  induction ds with
  | nil => simp [PyData.canLayAll0]
  | cons d ds ih =>
    simp only [PyData.canLayAll0, Bool.and_eq_true]
    exact ⟨h d (by simp), ih fun e he => h e (by simp [he])⟩
theorem canAll_mem {ds : List PyData} (h : PyData.canLayAll0 ds = true) : ∀ d ∈ ds, d.canLay0 = true := by
  induction ds with
  | nil => intro d hd; cases hd
  | cons d ds ih =>
    simp only [PyData.canLayAll0, Bool.and_eq_true] at h
    intro e he
    rcases List.mem_cons.mp he with rfl | he
    · exact h.1
    · exact ih h.2 e he
theorem depAll {n : Nat} {ds : List PyData} (h : ∀ d ∈ ds, d.depth ≤ n) : PyData.depthAll ds ≤ n := by
  induction ds with
  | nil => simp [PyData.depthAll]
  | cons d ds ih =>
    simp only [PyData.depthAll]
    exact Nat.max_le.mpr ⟨h d (by simp), ih fun e he => h e (by simp [he])⟩
theorem depAll_mem {n : Nat} {ds : List PyData} (h : PyData.depthAll ds ≤ n) : ∀ d ∈ ds, d.depth ≤ n := by
  induction ds with
  | nil => intro d hd; cases hd
  | cons d ds ih =>
    simp only [PyData.depthAll] at h
    have h := Nat.max_le.mp h
    intro e he
    rcases List.mem_cons.mp he with rfl | he
    · exact h.1
    · exact ih h.2 e he
theorem sh_list {n : Nat} {ds : List PyData} (h : ∀ d ∈ ds, Sh n d) : Sh (n + 1) (.list ds) := ⟨by simp only [PyData.canLay0]; exact canAll fun d hd => (h d hd).1, by simp only [PyData.depth]; exact Nat.succ_le_succ (depAll fun d hd => (h d hd).2)⟩
theorem sh_tuple {n : Nat} {ds : List PyData} (h : ∀ d ∈ ds, Sh n d) : Sh (n + 1) (.tuple ds) := ⟨by simp only [PyData.canLay0]; exact canAll fun d hd => (h d hd).1, by simp only [PyData.depth]; exact Nat.succ_le_succ (depAll fun d hd => (h d hd).2)⟩
theorem sh_listI {n : Nat} {ds : List PyData} (h : Sh (n + 1) (.list ds)) : ∀ d ∈ ds, Sh n d := fun d hd => ⟨canAll_mem (by simpa only [PyData.canLay0] using h.1) d hd, depAll_mem (Nat.le_of_succ_le_succ (by simpa only [PyData.depth] using h.2)) d hd⟩
theorem sh_tupleI {n : Nat} {ds : List PyData} (h : Sh (n + 1) (.tuple ds)) : ∀ d ∈ ds, Sh n d := fun d hd => ⟨canAll_mem (by simpa only [PyData.canLay0] using h.1) d hd, depAll_mem (Nat.le_of_succ_le_succ (by simpa only [PyData.depth] using h.2)) d hd⟩
theorem sh_shaped {n : Nat} {d : PyData} (h : Sh n d) (hn : n ≤ 64) : SeqAt.shaped d = true := by
  unfold SeqAt.shaped
  rw [h.1, Bool.true_and]
  exact decide_eq_true (Nat.le_trans h.2 hn)
theorem sh_mono {n m : Nat} {d : PyData} (h : Sh n d) (hn : n ≤ m) : Sh m d := ⟨h.1, Nat.le_trans h.2 hn⟩
theorem dEq_self {n : Nat} {d : PyData} (h : Sh n d) (hn : n ≤ 64) : dEq d d = some (.bool true) := by
  unfold dEq
  rw [sh_shaped h hn]
  simp [SeqAt.eqv_refl d h.1]
theorem dNe_nil {n : Nat} {ds : List PyData} (h : Sh n (.list ds)) (hn : n ≤ 64) : dNe (.list ds) (.list []) = some (.bool (!ds.isEmpty)) := by
  unfold dNe
  rw [sh_shaped h hn, sh_shaped (d := .list []) (n := 1) (sh_list fun d hd => by cases hd) (by decide)]
  cases ds with
  | nil => rfl
  | cons d ds => simp [PyData.eqv, PyData.eqvAll]
theorem dNe_bool {a b : Bool} : dNe (.bool a) (.bool b) = some (.bool (a != b)) := by
  cases a <;> cases b <;> simp [dNe, SeqAt.shaped, PyData.eqv, PyData.canLay0, PyData.depth]
theorem dEq_bool {a b : Bool} : dEq (.bool a) (.bool b) = some (.bool (a == b)) := by
  cases a <;> cases b <;> simp [dEq, SeqAt.shaped, PyData.eqv, PyData.canLay0, PyData.depth]
theorem bols_map : ∀ bs : List Bool, bolsD (bs.map PyData.bool) = some bs
  | [] => rfl
  | b :: bs => by show (bolsD (bs.map PyData.bool)).map _ = _; rw [bols_map bs]; rfl
theorem ints_map : ∀ bs : List Int, intsD (bs.map PyData.int) = some bs
  | [] => rfl
  | b :: bs => by show (intsD (bs.map PyData.int)).map _ = _; rw [ints_map bs]; rfl
theorem allO_map (bs : List Bool) : allO (.lst ((bs.map PyData.bool).map O.fz)) = some (.bool (bs.all id)) := by
  unfold allO lstI
  rw [items_map]
  simp only [Option.bind, bols_map, Option.map]
theorem sumO_map (bs : List Int) : sumO (.lst ((bs.map PyData.int).map O.fz)) = some (.int bs.sum) := by
  unfold sumO lstI
  rw [items_map]
  simp only [Option.bind, ints_map, Option.map]
section
variable {ρ ρ1 : En} {s r : FS} {t : FT} {a : Bool} {G : SO → Prop}
theorem ifTG (h1 : t ρ = .ok a ρ1) (ha : a = true) (h2 : G (s ρ1)) : G (sIf t s r ρ) := by rw [r_ifT h1 ha rfl]; exact h2
theorem ifFG (h1 : t ρ = .ok a ρ1) (ha : a = false) (h2 : G (r ρ1)) : G (sIf t s r ρ) := by rw [r_ifF h1 ha rfl]; exact h2
end
/-- an object that stands for data -/
inductive Is : O → PyData → Prop
  | fz (d : PyData) : Is (.fz d) d
  | lst (ds : List PyData) : Is (.lst (ds.map O.fz)) (.list ds)
theorem is_frz {o : O} {d : PyData} (h : Is o d) : frz o = some d := by
  cases h with
  | fz => rfl
  | lst ds => exact frz_map ds
theorem is_items {o : O} {ds : List PyData} (h : Is o (.list ds)) : itemsO o = some (true, ds) := by
  cases h with
  | fz => rfl
  | lst ds => exact items_map ds
theorem is_itemsT {o : O} {ds : List PyData} (h : Is o (.tuple ds)) : itemsO o = some (false, ds) := by
  cases h with
  | fz => rfl
end Ls

/-! exceptions of classes of one's own, over any built-in one -/
namespace Ls
open PySem PySem.Spec PyProof.Rows L2
variable [Tb]
section
open Builtin Builtin.ObjectAttr PySem.W PySem.Calls PySem.HandSPX
/-- the classes of one's own ahead of the built-in ones -/
def cutR : List Value → List Value
  | .ref _ :: r => cutR r
  | l => l
theorem cut_has (X : String) : ∀ l : List Value, l.contains (.type X) = (cutR l).contains (.type X)
  | [] => rfl
  | .ref c :: r => by
    rw [List.contains_cons, cut_has X r]
    rfl
  | .none :: _ => rfl
  | .ellipsis :: _ => rfl
  | .notImplemented :: _ => rfl
  | .bool _ :: _ => rfl
  | .int _ _ :: _ => rfl
  | .float _ _ :: _ => rfl
  | .str _ _ :: _ => rfl
  | .bytes _ _ :: _ => rfl
  | .type _ :: _ => rfl
  | .builtin _ :: _ => rfl
theorem cut_pass (self : Value) (n : String) : ∀ l : List Value, refuseLoop self n l = refuseLoop self n (cutR l)
  | [] => rfl
  | .ref c :: r => by
    rw [refuseLoop_ref, cut_pass self n r]
    rfl
  | .none :: _ => rfl
  | .ellipsis :: _ => rfl
  | .notImplemented :: _ => rfl
  | .bool _ :: _ => rfl
  | .int _ _ :: _ => rfl
  | .float _ _ :: _ => rfl
  | .str _ _ :: _ => rfl
  | .bytes _ _ :: _ => rfl
  | .type _ :: _ => rfl
  | .builtin _ :: _ => rfl
/-- what is asked of a built-in exception class -/
structure BaseX (B newId initId : String) (tl : List Value) : Prop where
  ef : ExcBaseFacts B newId initId tl
  pass : ∀ self, refuseLoop self "__setattr__" tl = pure ()
  ob : tl.contains (.type "object") = true
  ty : typeOf (.type B) = pure (.type "type")
  st : Manifest.isStub B = false
  hd : handedIn (.builtin initId) = true
  boot : bootBuiltins B = some (.type B)
variable {prog : Program} {w : World} {A : Around} {E : Value → Shared → Prop} {R : Result → Shared → Prop} {hp : Heap} {g : Array GenState} {d : Drawn} {t : Nat} {os : OsState} {tl : List Value}
theorem osaNew {K : W.Frag} {f : Str} {tk : Tok} {v : Value} {x C : Addr} {fv : Array Value} {cd : ClassData} (hpa : ∀ self, refuseLoop self "__setattr__" tl = pure ()) (hto : tl.contains (.type "object") = true) (X : K.In hp)
    (hx : hp.get? x = some { cls := .ref C, data := .fields fv }) (hcd : W.clsIn K C = some cd) (hm : cutR cd.mro = tl) (hh : cd.hasDict = true) (ha : W.findIn K (.ref C) f = some none)
    (hq : ∀ h' tk' dx, (∀ b o, b ≠ x → hp.get? b = some o → h'.get? b = some o) → hp.objs.size ≤ dx → dx ≠ x → h'.get? x = some { cls := .ref C, dict := some dx, data := .fields fv } → h'.Ns1 dx (fun y => if y = f then some v else none) → R (.ok (.ret .none)) ⟨h', g, d, tk', os⟩) :
    codeAny (model prog w) A (.call (.builtin "object.__setattr__") ⟨[.ref x, .str f tk, v], []⟩) R ⟨hp, g, d, t, os⟩ := by
  have I : W.InstAt hp x { cls := .ref C, data := .fields fv } C none := ⟨hx, rfl, rfl, True.intro⟩
  have so := F.store_object
  have hob : cd.mro.contains (.type "object") = true := by rw [cut_has, hm]; exact hto
  have hne : cd.mro.isEmpty = false := by cases q : cd.mro with | nil => rw [q] at hob; cases hob | cons _ _ => rfl
  have hxs : x ≠ hp.objs.size := Nat.ne_of_lt (Heap.lt_size hx)
  have isO : W.Looks (model prog w) hp (isInstance (.ref x) (.type "object")) true := I.type.andThen (W.looks_mroIn X (by unfold W.mroIn; rw [hcd, Option.bind_some, if_neg (by rw [hne]; decide), hob]))
  refine codeAny_call_builtin so.slot.plain so.entry (@W.check_slot (model prog w) _ _ ⟨hp, g, d, t, os⟩ "object.__setattr__" "object" "__setattr__" (.ref x) [.str f tk, v] [] _ so.kind so.split isO (so.args (.ref x) (.str f tk) v) ?_)
  have lm : W.Looks (model prog w) hp (mroOf (.ref C)) cd.mro := (W.looks_clsIn X hcd).andThen .now
  have ls : W.Looks (model prog w) hp (storeTaker? none) none := .now
  have lc : W.Looks (model prog w) hp (classData C) cd := W.looks_clsIn X hcd
  rw [W.osa_eq, refuse_eq]
  refine wpAny_bind (wpAny_bind (I.type.at (wpAny_bind (lm.at ?_))))
  rw [cut_pass, hm, hpa]
  refine wpAny_pure (wpAny_bind (I.type.at (wpAny_bind ((W.looks_findIn X ha).at (wpAny_bind (ls.at ?_))))))
  show wpAny _ _ (storeInOwnDict (.ref x) (.ref C) (.str f tk) f v false) _ _ _
  obtain ⟨c1, c2, c3, c4, c5, c6, c7, c8, c9, c10, c11⟩ := cd
  dsimp only at hh; subst hh; unfold storeInOwnDict ownDictForStores
  repeat (first | with_reducible refine store_in_new ?_ ?_ | with_reducible refine wpAny_loadPart_at hx ?_ | with_reducible refine lc.at ?_ | wp_step)
  · exact ⟨_, #[], _, (Heap.get?_update_ne _ _ _ _ (Ne.symm hxs)).trans (Heap.get?_push_at rfl rfl), rfl, fun _ he => absurd he (by simp), fun _ => rfl⟩
  · intro h' tk' hn' hs
    have hx1 : (hp.push { cls := .type "dict", data := .dict #[] }).get? x = some { cls := .ref C, data := .fields fv } := Heap.get?_push_of_some _ hx
    exact hq h' tk' hp.objs.size (fun b o hb ho => (hs.2 b (Nat.ne_of_lt (Heap.lt_size ho))).trans ((Heap.get?_update_ne _ _ _ _ hb).trans (Heap.get?_push_of_some _ ho))) (Nat.le_refl _) hxs.symm ((hs.2 x hxs).trans (Heap.get?_update_self _ hx1 rfl)) hn'
theorem osaOld {K : W.Frag} {f : Str} {tk : Tok} {v : Value} {x C dx : Addr} {fv : Array Value} {cd : ClassData} {m0 : Str → Option Value} {nl : List Str} (hpa : ∀ self, refuseLoop self "__setattr__" tl = pure ()) (hto : tl.contains (.type "object") = true) (X : K.In hp)
    (hx : hp.get? x = some { cls := .ref C, dict := some dx, data := .fields fv }) (hns : hp.Ns1 dx m0) (hw : Within m0 nl) (hz : nl.length ≤ 1000) (hcd : W.clsIn K C = some cd) (hm : cutR cd.mro = tl) (hh : cd.hasDict = true) (ha : W.findIn K (.ref C) f = some none)
    (hq : ∀ h' tk', (∀ b o, b ≠ dx → hp.get? b = some o → h'.get? b = some o) → h'.Ns1 dx (fun y => if y = f then some v else m0 y) → R (.ok (.ret .none)) ⟨h', g, d, tk', os⟩) :
    codeAny (model prog w) A (.call (.builtin "object.__setattr__") ⟨[.ref x, .str f tk, v], []⟩) R ⟨hp, g, d, t, os⟩ := by
  obtain ⟨oD, _, _, hoD, _, _⟩ := hns.count hw
  have I : W.InstAt hp x { cls := .ref C, dict := some dx, data := .fields fv } C (some oD) := ⟨hx, rfl, rfl, hoD⟩
  have so := F.store_object
  have hob : cd.mro.contains (.type "object") = true := by rw [cut_has, hm]; exact hto
  have hne : cd.mro.isEmpty = false := by cases q : cd.mro with | nil => rw [q] at hob; cases hob | cons _ _ => rfl
  have isO : W.Looks (model prog w) hp (isInstance (.ref x) (.type "object")) true := I.type.andThen (W.looks_mroIn X (by unfold W.mroIn; rw [hcd, Option.bind_some, if_neg (by rw [hne]; decide), hob]))
  refine codeAny_call_builtin so.slot.plain so.entry (@W.check_slot (model prog w) _ _ ⟨hp, g, d, t, os⟩ "object.__setattr__" "object" "__setattr__" (.ref x) [.str f tk, v] [] _ so.kind so.split isO (so.args (.ref x) (.str f tk) v) ?_)
  have lm : W.Looks (model prog w) hp (mroOf (.ref C)) cd.mro := (W.looks_clsIn X hcd).andThen .now
  have ls : W.Looks (model prog w) hp (storeTaker? none) none := .now
  have lc : W.Looks (model prog w) hp (classData C) cd := W.looks_clsIn X hcd
  rw [W.osa_eq, refuse_eq]
  refine wpAny_bind (wpAny_bind (I.type.at (wpAny_bind (lm.at ?_))))
  rw [cut_pass, hm, hpa]
  refine wpAny_pure (wpAny_bind (I.type.at (wpAny_bind ((W.looks_findIn X ha).at (wpAny_bind (ls.at ?_))))))
  show wpAny _ _ (storeInOwnDict (.ref x) (.ref C) (.str f tk) f v false) _ _ _
  obtain ⟨c1, c2, c3, c4, c5, c6, c7, c8, c9, c10, c11⟩ := cd
  dsimp only at hh; subst hh; unfold storeInOwnDict ownDictForStores
  repeat (first | with_reducible refine PySem.OEX.store_in_old hns hw hz ?_ | with_reducible refine wpAny_loadPart_at hx ?_ | with_reducible refine lc.at ?_ | wp_step)
  exact fun h' tk' hn' hs => hq h' tk' (fun b o hb ho => (hs.2 b hb).trans ho) hn'
end
/-- what the written part says of such a class -/
structure OX (K : PySem.W.Frag) (C : Addr) (newId : String) (tl : List Value) : Prop where
  cls : ∃ nm q N bs bm sn sub ab col dd k0 k1 k2 k3 k5, K.lookup C = some (excClassObj nm q C N bs bm true sn sub ab col dd k0 k1 k2 k3 k5 newId) ∧ cutR bm = tl
  sa : PySem.W.findIn K (.ref C) "__setattr__" = some (some (.builtin "object.__setattr__"))
  exC : PySem.W.subIn K (.ref C) (.type "BaseException") = some true
  tyC : PySem.W.typeIn K (.ref C) = some (.type "type")
  kC : PySem.W.keepIn K (.ref C) = true
section
variable {X : Cx} {pins : List (Addr × Obj)} {σ : L2.St} {H : Hp} {s : Shared} {a C dx : Addr} {f : Str} {y : V} {u : Value} {fs : List (Str × V)} {Q : Unit → Shared → Prop} {E : Value → Shared → Prop} {A : Around} {B newId initId : String} {tl : List Value}
theorem ostN (F : BaseX B newId initId tl) (T : OX X.K C newId tl) (I : Inv X pins σ H s) (e : H a = some (exo a C none)) (hno : PySem.W.findIn X.K (.ref C) f = some none) (ry : RelV y u)
    (h : ∀ dx s', H dx = none → dx ≠ a → Inv X pins σ (upd (upd H dx (exd dx [(f, y)])) a (exo a C (some dx))) s' → Q () s') : wpAny (model X.prog X.w) A (setAttr (.ref a) f u) Q E s := by
  obtain ⟨c1, c2, c3, c4, bm, c5, c6, c7, c8, c9, j0, j1, j2, j3, j5, hC, hbm⟩ := T.cls
  have hcl : PySem.W.clsIn X.K C = some { name := c1, bases := c4, mro := .ref C :: bm, ns := c3, qualname := c2, hasDict := true, slotNames := c5, subclasses := c6, abstract := c7, collection := c8, hasDel := false } := by unfold PySem.W.clsIn; rw [hC] <;> rfl
  obtain ⟨t1, ho⟩ := exo_at I.hok e
  obtain ⟨hp, gg, dd, t, os⟩ := s
  refine PySem.W.set_plain I.kIn (od := none) (ox := { cls := .ref C, dict := none, data := .fields #[.ref t1, .none, .none, .none, .bool false, .none] }) ⟨ho, rfl, rfl, True.intro⟩ T.sa ?_
  refine osaNew F.pass F.ob I.kIn ho hcl (show cutR (.ref C :: bm) = tl from hbm) rfl hno fun h' tk' dx k dn dne hx hn => ?_
  have hnd : H dx = none := I.hok.fresh dn
  have nd : ∀ {b : Addr} {o : Obj}, hp.get? b = some o → b ≠ dx := fun q => Nat.ne_of_lt (Nat.lt_of_lt_of_le (Heap.lt_size q) dn)
  have na : ∀ {b : Addr}, H b = none → b ≠ a := fun n z => by rw [z, e] at n; cases n
  have U : Un X.fs [] H (upd (upd H dx (exd dx [(f, y)])) a (exo a C (some dx))) hp h' :=
    ⟨fun b o q n _ _ => k b o (na n) q, fun b o q n _ _ => ⟨o.slots, k b o (na n) q⟩, fun b o q n _ => by rw [upd_ne (na n), upd_ne (nd q)]; exact n,
      fun b o q _ => (Classical.em (b = a)).elim (fun hb => ⟨_, (congrArg h'.get? hb).trans hx⟩) fun hb => ⟨o, k b o hb q⟩,
      fun b xs q => by rw [upd_ne (at_ne e q exo_tup), upd_ne (ne_of_none q hnd)]; exact q,
      fun b o v q => by rw [upd_ne (at_ne e q exo_frz), upd_ne (ne_of_none q hnd)]; exact q,
      fun b ps q => ⟨#[], by rw [upd_ne (at_ne e q exo_tbl), upd_ne (ne_of_none q hnd), q]; simp⟩⟩
  refine h dx _ hnd dne (I.un (t' := tk') U fun b o q => ?_)
  by_cases hb : b = a
  · subst hb; rw [upd_same] at q; cases q; exact exo_ok hx
  · rw [upd_ne hb] at q
    by_cases hd : b = dx
    · subst hd; rw [upd_same] at q; cases q; exact exd_ok hn (relO_put (fs := []) ry fun _ => True.intro)
    · rw [upd_ne hd] at q
      exact (I.hok b o q).stay (fun c v hc z => k c v (hc.elim (fun hc => by rw [hc]; exact hb) fun hc => at_ne e hc exo_own) z)
        (fun c hc => by rw [upd_ne (at_ne e hc exo_own), upd_ne (ne_of_none hc hnd)]; exact hc) fun c xs hc => by rw [upd_ne (at_ne e hc exo_tup), upd_ne (ne_of_none hc hnd)]; exact hc
theorem ostO (F : BaseX B newId initId tl) (T : OX X.K C newId tl) (I : Inv X pins σ H s) (e : H a = some (exo a C (some dx))) (ed : H dx = some (exd dx fs)) (hl : fs.length ≤ 900) (hno : PySem.W.findIn X.K (.ref C) f = some none) (ry : RelV y u)
    (h : ∀ s', Inv X pins σ (upd H dx (exd dx ((f, y) :: fs))) s' → Q () s') : wpAny (model X.prog X.w) A (setAttr (.ref a) f u) Q E s := by
  obtain ⟨c1, c2, c3, c4, bm, c5, c6, c7, c8, c9, j0, j1, j2, j3, j5, hC, hbm⟩ := T.cls
  have hcl : PySem.W.clsIn X.K C = some { name := c1, bases := c4, mro := .ref C :: bm, ns := c3, qualname := c2, hasDict := true, slotNames := c5, subclasses := c6, abstract := c7, collection := c8, hasDel := false } := by unfold PySem.W.clsIn; rw [hC] <;> rfl
  obtain ⟨t1, ho⟩ := exo_at I.hok e
  obtain ⟨mA, hns, rel⟩ := exd_at I.hok ed
  obtain ⟨hp, gg, dd, t, os⟩ := s
  obtain ⟨oD, _, _, hoD, _, _⟩ := hns.count (within_of rel)
  refine PySem.W.set_plain I.kIn (od := some oD) (ox := { cls := .ref C, dict := some dx, data := .fields #[.ref t1, .none, .none, .none, .bool false, .none] }) ⟨ho, rfl, rfl, hoD⟩ T.sa ?_
  refine osaOld F.pass F.ob I.kIn ho hns (within_of rel) (by rw [List.length_map]; omega) hcl (show cutR (.ref C :: bm) = tl from hbm) rfl hno fun h' tk' k hn => ?_
  exact h _ (I.write (t' := tk') (x := dx) (e := dx) (o := exd dx ((f, y) :: fs)) (by rw [ed]; exact True.intro) (.inl rfl) k (let ⟨o, _, _, e', _⟩ := hn; ⟨o, e'⟩) (exd_ok hn (relO_put ry rel)))
theorem oinitG {us : List Value} {Q : Value → Shared → Prop} (F : BaseX B newId initId tl) (T : OX X.K C newId tl) (I : Inv X pins σ H s) (e : H a = some (exo a C none)) (hl : us.length ≤ sizeLine) (h : ∀ s', Inv X pins σ H s' → Q .none s') :
    wpAny (model X.prog X.w) A (call (.builtin initId) (.ref a :: us)) Q E s := by
  obtain ⟨c1, c2, c3, c4, bm, c5, c6, c7, c8, c9, j0, j1, j2, j3, j5, hC, hbm⟩ := T.cls
  obtain ⟨t1, ho⟩ := exo_at I.hok e
  obtain ⟨hp, gg, dd, t, os⟩ := s
  refine wpAny_call (PySem.HandSPX.init_base F.ef (fun Y => by rw [cut_has Y bm, hbm]) (I.kIn _ _ hC) ho hl fun h' t2 k hx => ?_)
  have J := I.write (t' := t) (x := a) (e := a) (o := exo a C none) (by rw [e]; exact True.intro) (.inl rfl) k ⟨_, hx⟩ (exo_ok hx)
  have eu : upd H a (exo a C none) = H := funext fun b => if hb : b = a then by rw [hb, upd_same, e] else by rw [upd_ne hb]
  rw [eu] at J; exact h _ J
end
/-! ### readings -/
/-- B.__init__(self, ..) of a built-in B -/
def tBI (K : PySem.W.Frag) (newId : String) (tl : List Value) (ta : TA) : TE := fun σ H Q => ta σ H fun vs H1 => ∃ (a C : Addr) (ws : List V), vs = .ref a :: ws ∧ ws.length ≤ 1000 ∧ OX K C newId tl ∧ H1 a = some (exo a C none) ∧ Q .non H1
/-- self.f = e -/
def tST (K : PySem.W.Frag) (newId : String) (tl : List Value) (f : Str) (to te : TE) : TS := fun D σ H => te σ H fun y H1 => to σ H1 fun x H2 => ∃ a C : Addr, x = .ref a ∧ OX K C newId tl ∧ PySem.W.findIn K (.ref C) f = some none ∧
  ((H2 a = some (exo a C none) ∧ ∀ dx, H2 dx = none → dx ≠ a → D.nx σ (upd (upd H2 dx (exd dx [(f, y)])) a (exo a C (some dx)))) ∨ ∃ (dx : Addr) (fs : List (Str × V)), H2 a = some (exo a C (some dx)) ∧ H2 dx = some (exd dx fs) ∧ fs.length ≤ 900 ∧ D.nx σ (upd H2 dx (exd dx ((f, y) :: fs))))
section
variable {X : Cx} {o e : Expr} {es : List Expr} {to te : TE} {ta : TA} {f : Str} {p p' p1 p2 pos : Pos} {B newId initId : String} {tl : List Value}
theorem pe_binit {pl : Sem Bool} {x : Str} (F : BaseX B newId initId tl) (hx : x = (B : Str)) (hg : Gl X x) (hm : X.mg x = none) (hb : bootBuiltins x = some (.type B)) (vV : PySem.W.findCls X.K (.type B) (.type "type") "__init__" = some (.val (.builtin initId))) (ha : PA X (e :: es) ta)
    (hc : eval (.Call (.Attribute (.Name x p1) "__init__" p2) (e :: es) [] pos) X.env = (do
      let ov ← eval (.Name x p1) X.env
      standAt p2.atName
      let (f, first) ← holding [ov] (getMethod ov "__init__" pl)
      callWith pos f first (backTo pos (starEach (e :: es) X.env)) (backToKw pos (keywordEach [] X.env))) := by rfl)
    (hn : x ≠ "__name__" := by decide) (hdb : (x == ("__debug__" : Str)) = false := by decide) (he : starEach (e :: es) X.env = (false, eval e X.env) :: starEach es X.env := by rfl) (hpl : (backTo pos (starEach es X.env)).any (·.1) = false := by rfl) :
    PE X (.Call (.Attribute (.Name x p1) "__init__" p2) (e :: es) [] pos) (tBI X.K newId tl ta) := by
  refine ⟨fun pins s σ H Q I h => PySem.W.methodCall_KW (ld_blt I hg hm hb ?_ hn hdb) hc⟩
  obtain ⟨m, fr⟩ := I.fr
  refine PySem.W.method_type fr I.ok.mod.kin F.ty F.st vV F.hd ?_
  show wpAny _ _ (callWith pos (Value.builtin initId) [] (backTo pos (starEach (e :: es) X.env)) []) _ _ _
  refine PyProof.Rows.callWith_method1 (thn (ha.run pos pins _ σ H _ (I.tok _) h) fun us s1 ⟨vs, H1, I1, r1, a, C, ws, ev, hl, T, ea, q⟩ => ?_) he hpl
  subst ev
  cases r1 with
  | @cons _ u0 _ ur ra rw' =>
    obtain rfl : u0 = Value.ref a := ra
    exact oinitG F T I1 ea (by rw [← Paired.length rw', sizeLine_eq]; omega) fun s' J => ⟨.non, H1, J, rfl, q⟩
theorem ps_st (F : BaseX B newId initId tl) (ho : PE X o to) (he : PE X e te) (hs : swapsWith e (some (.Attribute o f p')) pos.line X.env = pure false := by rfl) : PS X (.Assign [.Attribute o f p'] e pos) (tST X.K newId tl f to te) := by
  refine ⟨fun pins s σ H D I h => plainObj_wpAny_Assign_Attribute (thn (he.run pins s σ H _ I h) fun v s1 ⟨y, H1, I1, r1, q1⟩ => thn (ho.run pins s1 σ H1 _ I1 q1) fun u s2 ⟨x, H2, I2, r2, a, C, ex, T, hno, q⟩ => ?_) hs⟩
  subst ex
  obtain rfl : u = Value.ref a := r2
  rcases q with ⟨ea, q⟩ | ⟨dx, fs, ea, ed, hl, q⟩
  · exact ostN F T I2 ea hno r1 fun dx s' n ne J => ⟨σ, _, J, q dx n ne⟩
  · exact ostO F T I2 ea ed hl hno r1 fun s' J => ⟨σ, _, J, q⟩
/-- what is asked of a class of one's own whose __init__ is called by the class's name -/
structure OI (K : PySem.W.Frag) (C fI : Addr) : Prop where
  rd : PySem.W.readsIn K C (.type "type") = true
  ga : PySem.W.specialIn K (.ref C) "__getattribute__" = some (some (.builtin "type.__getattribute__"))
  at_ : PySem.W.findCls K (.ref C) (.type "type") "__init__" = some (.val (.ref fI))
  hd : PySem.W.handedIn (.ref fI) = true
  kp : PySem.W.keepIn K (.ref fI) = true
theorem pe_oinit {CX : CXT} {pl : Sem Bool} {x : Str} {C fI : Addr} {k : Nat} {fd : FuncData} {ps : List Str} {sp : Sp} {E : L2.St → XK} (T : OI X.K C fI) (G : FnOk X.prog X.w X.K X.mg X.base CX k fI fd ps sp) (hr : Room k X.A) (hg : Gl X x) (hm : X.mg x = some (.ref C)) (hb : Binds X.K fd ps []) (hx : ∀ σ, PassesAt CX X σ (E σ)) (ha : PA X (e :: es) ta)
    (hc : eval (.Call (.Attribute (.Name x p1) "__init__" p2) (e :: es) [] pos) X.env = (do
      let ov ← eval (.Name x p1) X.env
      standAt p2.atName
      let (f, first) ← holding [ov] (getMethod ov "__init__" pl)
      callWith pos f first (backTo pos (starEach (e :: es) X.env)) (backToKw pos (keywordEach [] X.env))) := by rfl)
    (hdb : (x == ("__debug__" : Str)) = false := by decide) (he : starEach (e :: es) X.env = (false, eval e X.env) :: starEach es X.env := by rfl) (hpl : (backTo pos (starEach es X.env)).any (·.1) = false := by rfl) :
    PE X (.Call (.Attribute (.Name x p1) "__init__" p2) (e :: es) [] pos) (tCallS sp E ta) := by
  refine ⟨fun pins s σ H Q I h => PySem.W.methodCall_KW (ld_glob I hg hm ?_ hdb) hc⟩
  refine PySem.W.method_cls I.kIn T.ga (PySem.W.cls_value I.kIn T.rd T.at_ T.hd ?_)
  show wpAny _ _ (callWith pos (Value.ref fI) [] (backTo pos (starEach (e :: es) X.env)) []) _ _ _
  refine PySem.W.callWith_K (h₀ := X.base) I.ok.mod.kin T.kp (thn (ha.run pos pins _ σ H _ (I.tok _) h) fun us s1 ⟨vs, H1, I1, r, q⟩ => ⟨I1.kIn, ?_⟩) he hpl
  exact run_fnS G hr hb (hx σ) I1 r q
end
end Ls

namespace Ls
open PySem PySem.Spec PyProof.Rows L2
variable [Tb]
/-! ### arguments of an __init__: its own parameters, texts -/
abbrev VE := L2.St → Option V
abbrev VL := L2.St → Option (List V)
structure VV (X : Cx) (e : Expr) (g : VE) : Prop where
  ex : ∃ te, PE X e te ∧ ∀ σ H (Q : VK) y, g σ = some y → Q y H → te σ H Q
structure VA (X : Cx) (es : List Expr) (g : VL) : Prop where
  ex : ∃ ta, PA X es ta ∧ ∀ σ H (Q : List V → Hp → Prop) ys, g σ = some ys → Q ys H → ta σ H Q
def gV (i : Nat) : VE := fun σ => (σ[i]?).bind id
def gS (z : Str) : VE := fun _ => some (.str z)
def gNil : VL := fun _ => some []
def gCons (g : VE) (r : VL) : VL := fun σ => (g σ).bind fun y => (r σ).map fun ys => y :: ys
section
variable {X : Cx} {e : Expr} {es : List Expr} {g : VE} {r : VL} {pos : Pos}
theorem vv_var (i : Nat) {x : Str} (hN : X.N[i]? = some x := by rfl) (hv : Vis X.env.scope x := by first | exact Or.inl rfl | exact Or.inr (Or.inl rfl) | exact Or.inr (Or.inr rfl)) (hd : (x == ("__debug__" : Str)) = false := by decide)
    (hcd : (x == ("__classdict__" : Str)) = false := by decide) : VV X (.Name x pos) (gV i) :=
  ⟨_, pe_var hN hv hd hcd, fun σ H Q y h q => by
    unfold gV at h
    cases hi : σ[i]? with
    | none => rw [hi] at h; cases h
    | some o => rw [hi] at h; have h : o = some y := h; subst h; exact ⟨y, hi, q⟩⟩
theorem vv_str {z : Str} {j : Nat} : VV X (.Constant (.str z) j pos) (gS z) := ⟨_, pe_str, fun σ H Q y h q => by cases h; exact q⟩
theorem va_nil : VA X [] gNil := ⟨_, pa_nil, fun σ H Q y h q => by cases h; exact q⟩
theorem va_cons (h : VV X e g) (hr : VA X es r) (hs : starEach (e :: es) X.env = (false, eval e X.env) :: starEach es X.env := by rfl) : VA X (e :: es) (gCons g r) := by
  obtain ⟨te, h1, h2⟩ := h.ex
  obtain ⟨ta, r1, r2⟩ := hr.ex
  refine ⟨_, pa_cons h1 r1 hs, fun σ H Q ys q k => ?_⟩
  obtain ⟨y, q1, q2⟩ := Option.bind_eq_some_iff.mp q
  obtain ⟨zs, q3, q4⟩ := Option.map_eq_some_iff.mp q2
  subst q4
  exact h2 σ H _ y q1 (r2 σ H _ zs q3 k)
end
/-! ### what an __init__ promises: the fields it gives -/
def iSp (K : PySem.W.Frag) (newId : String) (tl : List Value) (n : Nat) (mk : List V → Option (List (Str × V))) : Sp := fun vs H Q _ => ∃ a C ws fs, vs = .ref a :: ws ∧ ws.length = n ∧ OX K C newId tl ∧ (∀ p ∈ fs, PySem.W.findIn K (.ref C) p.1 = some none) ∧ fs.length ≤ 100 ∧
  H a = some (exo a C none) ∧ mk ws = some fs ∧ ∀ dx, H dx = none → dx ≠ a → Q .non (upd (upd H dx (exd dx fs)) a (exo a C (some dx)))
/-- further fields -/
structure AO (X : Cx) (newId : String) (tl : List Value) (b : List Stmt) (l : L2.St → Option (List (Str × V))) : Prop where
  ex : ∃ t, PSs X b t ∧ ∀ σ H (D : Ends) a C dx fs new, σ[0]? = some (some (.ref a)) → OX X.K C newId tl → H a = some (exo a C (some dx)) → H dx = some (exd dx fs) → a ≠ dx → fs.length + new.length ≤ 900 → l σ = some new → (∀ p ∈ new, PySem.W.findIn X.K (.ref C) p.1 = some none) →
    D.nx σ (upd H dx (exd dx (new ++ fs))) → t D σ H
def lNil : L2.St → Option (List (Str × V)) := fun _ => some []
def lCons (f : Str) (g : VE) (r : L2.St → Option (List (Str × V))) : L2.St → Option (List (Str × V)) := fun σ => (g σ).bind fun y => (r σ).map fun new => new ++ [(f, y)]
theorem upd_at {H : Hp} {a : Addr} {o : HO} (h : H a = some o) : upd H a o = H := funext fun b => if hb : b = a then by rw [hb, upd_same, h] else by rw [upd_ne hb]
theorem upd_upd {H : Hp} {a : Addr} {o u : HO} : upd (upd H a o) a u = upd H a u := funext fun b => if hb : b = a then by rw [hb, upd_same, upd_same] else by rw [upd_ne hb, upd_ne hb, upd_ne hb]
section
variable {X : Cx} {B newId initId : String} {tl : List Value} {o e : Expr} {g : VE} {l : L2.St → Option (List (Str × V))} {f : Str} {b : List Stmt} {p' pos : Pos}
theorem ao_nil : AO X newId tl [] lNil := ⟨_, pss_nil, fun σ H D a C dx fs new _ _ ea ed _ _ h _ q => by
  cases h
  rw [List.nil_append, upd_at ed] at q
  exact q⟩
theorem ao_cons (F : BaseX B newId initId tl) (ho : VV X o (gV 0)) (he : VV X e g) (hr : AO X newId tl b l) (hs : swapsWith e (some (.Attribute o f p')) pos.line X.env = pure false := by rfl) : AO X newId tl (.Assign [.Attribute o f p'] e pos :: b) (lCons f g l) := by
  obtain ⟨to, o1, o2⟩ := ho.ex
  obtain ⟨te, e1, e2⟩ := he.ex
  obtain ⟨t, t1, t2⟩ := hr.ex
  refine ⟨_, pss_cons (ps_st F o1 e1 hs) t1, fun σ H D a C dx fs new h0 T ea ed ne hl h hno q => ?_⟩
  obtain ⟨y, q1, q2⟩ := Option.bind_eq_some_iff.mp h
  obtain ⟨rest, q3, q4⟩ := Option.map_eq_some_iff.mp q2
  subst q4
  rw [List.length_append, List.length_singleton] at hl
  refine e2 σ H _ y q1 (o2 σ H _ (.ref a) (by unfold gV; rw [h0]; rfl) ⟨a, C, rfl, T, hno (f, y) (by simp), .inr ⟨dx, fs, ea, ed, by omega, ?_⟩⟩)
  refine t2 σ _ D a C dx ((f, y) :: fs) rest h0 T (by rw [upd_ne ne]; exact ea) upd_same ne (by rw [List.length_cons]; omega) q3 (fun p hp => hno p (by simp [hp])) ?_
  rw [upd_upd, show rest ++ (f, y) :: fs = rest ++ [(f, y)] ++ fs by simp]
  exact q
end
section
variable {P : Program} {w : World} {K : PySem.W.Frag} {mg : Str → Option Value} {base : Heap} {x qual : Str} {params : Arguments} {scope : Scope} {kws : List (Str × V)} {dvs : List V} {f : Addr} {fd : FuncData} {B newId initId : String} {tl : List Value}
theorem start0 {N : List Str} {v : V} {vs : List V} : (L2.start N (v :: vs))[0]? = some (some v) := rfl
/-- B.__init__(self, ..), B built in; self.f = ..; .. -/
theorem ok_bi {N ps : List Str} {k n : Nat} {mk : List V → Option (List (Str × V))} {l : L2.St → Option (List (Str × V))} {g : VE} {gs : VL} {fld : Str} {y : Str} {body : List Stmt} (F : FunD K x qual params body scope dvs kws f fd) (Sc : FnScope N ps scope) (FB : BaseX B newId initId tl) (hn : n + 1 = ps.length)
    (hmk : ∀ a ws fs, mk ws = some fs → ∃ us u new, gs (L2.start N (.ref a :: ws)) = some us ∧ us.length ≤ 1000 ∧ g (L2.start N (.ref a :: ws)) = some u ∧ l (L2.start N (.ref a :: ws)) = some new ∧ fs = new ++ [(fld, u)])
    (h : ∀ (cdv : Value) (A : Around) (outer : List Env) (s : Shared) (H : Hp) (E : XK), ∃ (o e0 e : Expr) (es : List Expr) (p p1 p2 p' pos q : Pos) (b : List Stmt), body = .Expr (.Call (.Attribute (.Name y p1) "__init__" p2) (e0 :: es) [] p) q :: .Assign [.Attribute o fld p'] e pos :: b ∧
      let X := cxOf (L2.CX P w) P w K mg base N qual scope f cdv A outer s H E
      (∃ ta, PE X (.Call (.Attribute (.Name y p1) "__init__" p2) (e0 :: es) [] p) (tBI X.K newId tl ta) ∧ ∀ σ H (Q : List V → Hp → Prop) ys, (gCons (gV 0) gs) σ = some ys → Q ys H → ta σ H Q) ∧ swapsWith (.Call (.Attribute (.Name y p1) "__init__" p2) (e0 :: es) [] p) none q.line X.env = pure false ∧
      VV X o (gV 0) ∧ VV X e g ∧ swapsWith e (some (.Attribute o fld p')) pos.line X.env = pure false ∧ AO X newId tl b l) :
    FnOk P w K mg base (L2.CX P w) (k + 1) f fd ps (iSp K newId tl n mk) := by
  refine F.ok Sc (fun vs H Q E ⟨a, C, ws, fs, e1, e2, _⟩ => by rw [e1, List.length_cons, e2, hn]) fun cdv A outer s H vs Q E hr q => ?_
  obtain ⟨o, e0, e, es, p, p1, p2, p', pos, q', b, hbd, ⟨ta, c1, c2⟩, hsw, ho, he, hs, hb⟩ := h cdv A outer s H E
  obtain ⟨a, C, ws, fs, rfl, _, T, hno, hlen, ea, hm, k1⟩ := q
  obtain ⟨to, o1, o2⟩ := ho.ex
  obtain ⟨te, e1, e2⟩ := he.ex
  obtain ⟨t, t1, t2⟩ := hb.ex
  obtain ⟨us, u, new, m1, m2, m3, m4, rfl⟩ := hmk a ws fs hm
  subst hbd
  refine ⟨_, pss_cons (ps_expr c1 hsw) (pss_cons (ps_st FB o1 e1 hs) t1), ?_⟩
  refine c2 _ H _ (.ref a :: us) (by unfold gCons gV; rw [start0, m1]; rfl) ⟨a, C, us, rfl, m2, T, ea, ?_⟩
  refine e2 _ H _ u m3 (o2 _ H _ (.ref a) (by unfold gV; rw [start0]; rfl) ⟨a, C, rfl, T, hno (fld, u) (by simp), .inl ⟨ea, fun dx hd ne => ?_⟩⟩)
  have hl2 : new.length + 1 ≤ 100 := by simpa using hlen
  refine t2 _ _ _ a C dx [(fld, u)] new start0 T upd_same (by rw [upd_ne ne, upd_same]) (Ne.symm ne) (by simp; omega) m4 (fun p hp => hno p (by simp [hp])) ?_
  have eu : upd (upd (upd H dx (exd dx [(fld, u)])) a (exo a C (some dx))) dx (exd dx (new ++ [(fld, u)])) = upd (upd H dx (exd dx (new ++ [(fld, u)]))) a (exo a C (some dx)) := funext fun b => by
    by_cases h1 : b = dx
    · rw [h1, upd_same, upd_ne ne, upd_same]
    · rw [upd_ne h1]
      by_cases h2 : b = a
      · rw [h2, upd_same, upd_same]
      · rw [upd_ne h2, upd_ne h1, upd_ne h2, upd_ne h1]
  rw [eu]
  exact k1 dx hd ne
/-- B.__init__(self, ..), B one's own; self.f = ..; .. -/
theorem ok_oi {N ps : List Str} {k n : Nat} {mk mkB : List V → Option (List (Str × V))} {nB : Nat} {l : L2.St → Option (List (Str × V))} {gs : VL} {body : List Stmt} (F : FunD K x qual params body scope dvs kws f fd) (Sc : FnScope N ps scope) (hn : n + 1 = ps.length)
    (hmk : ∀ a ws fs, mk ws = some fs → ∃ us new fs0, gs (L2.start N (.ref a :: ws)) = some us ∧ us.length = nB ∧ mkB us = some fs0 ∧ l (L2.start N (.ref a :: ws)) = some new ∧ fs = new ++ fs0)
    (h : ∀ (cdv : Value) (A : Around) (outer : List Env) (s : Shared) (H : Hp) (E : XK), Room k (A.deeper (PyProof.Rows.envOfC qual scope s.heap.objs.size f cdv)) → ∃ (c : Expr) (q : Pos) (b : List Stmt), body = .Expr c q :: b ∧
      let X := cxOf (L2.CX P w) P w K mg base N qual scope f cdv A outer s H E
      (∃ ta E', PE X c (tCallS (iSp K newId tl nB mkB) E' ta) ∧ ∀ σ H (Q : List V → Hp → Prop) ys, (gCons (gV 0) gs) σ = some ys → Q ys H → ta σ H Q) ∧ swapsWith c none q.line X.env = pure false ∧ AO X newId tl b l) :
    FnOk P w K mg base (L2.CX P w) (k + 1) f fd ps (iSp K newId tl n mk) := by
  refine F.ok Sc (fun vs H Q E ⟨a, C, ws, fs, e1, e2, _⟩ => by rw [e1, List.length_cons, e2, hn]) fun cdv A outer s H vs Q E hr q => ?_
  obtain ⟨c, q', b, hbd, ⟨ta, E', c1, c2⟩, hsw, hb⟩ := h cdv A outer s H E hr
  obtain ⟨a, C, ws, fs, rfl, _, T, hno, hlen, ea, hm, k1⟩ := q
  obtain ⟨t, t1, t2⟩ := hb.ex
  obtain ⟨us, new, fs0, m1, m2, m3, m4, rfl⟩ := hmk a ws fs hm
  subst hbd
  refine ⟨_, pss_cons (ps_expr c1 hsw) t1, ?_⟩
  have hl2 : new.length + fs0.length ≤ 100 := by simpa using hlen
  refine c2 _ H _ (.ref a :: us) (by unfold gCons gV; rw [start0, m1]; rfl) ⟨a, C, us, fs0, rfl, m2, T, fun p hp => hno p (by simp [hp]), by omega, ea, m3, fun dx hd ne => ?_⟩
  refine t2 _ _ _ a C dx fs0 new start0 T upd_same (by rw [upd_ne ne, upd_same]) (Ne.symm ne) (by omega) m4 (fun p hp => hno p (by simp [hp])) ?_
  have eu : upd (upd (upd H dx (exd dx fs0)) a (exo a C (some dx))) dx (exd dx (new ++ fs0)) = upd (upd H dx (exd dx (new ++ fs0))) a (exo a C (some dx)) := funext fun b => by
    by_cases h1 : b = dx
    · rw [h1, upd_same, upd_ne ne, upd_same]
    · rw [upd_ne h1]
      by_cases h2 : b = a
      · rw [h2, upd_same, upd_same]
      · rw [upd_ne h2, upd_ne h1, upd_ne h2, upd_ne h1]
  rw [eu]
  exact k1 dx hd ne
end
end Ls

namespace Ls
open PySem PySem.Spec PyProof.Rows L2
variable [Tb]
/-! ### C(..), raised -/
def tNewX (C : Addr) (mk : List V → Option (List (Str × V))) (ta : TA) : L2.St → Hp → XK → Prop := fun σ H Q => ta σ H fun vs H1 => vs.length ≤ 1000 ∧ ∃ fs, mk vs = some fs ∧ ∀ d, H1 d = none → Q (.ref C) (some d) (upd H1 d (.xd fs))
/-- all that is asked of a class of one's own, to raise it -/
structure RX (X : Cx) (CX : CXT) (C : Addr) (mk : List V → Option (List (Str × V))) : Prop where
  ex : ∃ B newId initId tl fI k fd ps n, BaseX B newId initId tl ∧ OX X.K C newId tl ∧ PySem.W.findIn X.K (.ref C) "__init__" = some (some (.ref fI)) ∧ PySem.W.typeIn X.K (.ref fI) = some (.type "function") ∧
    FnOk X.prog X.w X.K X.mg X.base CX k fI fd ps (iSp X.K newId tl n mk) ∧ Room (k + 1) X.A ∧ Binds X.K fd ps [] ∧ (∀ ws fs, mk ws = some fs → ws.length = n ∧ fs.length ≤ 100 ∧ ∀ p ∈ fs, PySem.W.findIn X.K (.ref C) p.1 = some none)
section
variable {X : Cx} {CX : CXT} {C : Addr} {mk : List V → Option (List (Str × V))} {x : Str} {e : Expr} {es : List Expr} {ta : TA} {p pos : Pos}
theorem mkCore {pins : List (Addr × Obj)} {s : Shared} {σ : L2.St} {H : Hp} {Q : XK} {vs : List V} {us : List Value} {fs : List (Str × V)} (T : RX X CX C mk) (hx : Passes CX X (fun _ _ _ => False)) (I : Inv X pins σ H s) (r1 : Vals vs us) (hz : vs.length ≤ 1000) (hm : mk vs = some fs)
    (q : ∀ d, H d = none → Q (.ref C) (some d) (upd H d (.xd fs))) : wpAny (model X.prog X.w) X.A (call (.ref C) us) (MkP X pins σ Q) X.xe s := by
  obtain ⟨B, newId, initId, tl, fI, k, fd, ps, n, FB, TC, iC, tI, F1, hr, hb, hfs⟩ := T.ex
  obtain ⟨c1, c2, c3, c4, bm, c5, c6, c7, c8, c9, j0, j1, j2, j3, j5, hC, hbm⟩ := TC.cls
  obtain ⟨hp, g, dr, tk, os⟩ := s
  have hsz : hp.objs.size ≤ hp.objs.size + 1 := Nat.le_succ _
  have hn : H (hp.objs.size + 1) = none := I.hok.fresh hsz
  obtain ⟨f1, f2, f3⟩ := hfs vs fs hm
  have hq : iSp X.K newId tl n mk (.ref (hp.objs.size + 1) :: vs) (upd H (hp.objs.size + 1) (exo (hp.objs.size + 1) C none)) (fun v H2 => v = .non ∧ ∃ (d : Addr) (fs : List (Str × V)), H2 (hp.objs.size + 1) = some (exo (hp.objs.size + 1) C (some d)) ∧ H2 d = some (exd d fs) ∧ H d = none ∧ Q (.ref C) (some d) (upd (del H2 (hp.objs.size + 1)) d (.xd fs))) (fun _ _ _ => False) := by
    refine ⟨_, C, vs, fs, rfl, f1, TC, f3, f2, upd_same, hm, fun dx hd ne => ⟨rfl, dx, fs, upd_same, by rw [upd_ne ne, upd_same], by rw [upd_ne ne] at hd; exact hd, ?_⟩⟩
    rw [upd_ne ne] at hd
    have eu : upd (del (upd (upd (upd H (hp.objs.size + 1) (exo (hp.objs.size + 1) C none)) dx (exd dx fs)) (hp.objs.size + 1) (exo (hp.objs.size + 1) C (some dx))) (hp.objs.size + 1)) dx (.xd fs) = upd H dx (.xd fs) := funext fun b => by
      by_cases h1 : b = dx
      · rw [h1, upd_same, upd_same]
      · rw [upd_ne h1, upd_ne h1]
        by_cases h2 : b = hp.objs.size + 1
        · rw [h2, del_same, hn]
        · rw [del_ne h2, upd_ne h2, upd_ne h1, upd_ne h2]
    rw [eu]; exact q dx hd
  have kk : ∀ b o, hp.get? b = some o → ((hp.push (PySem.W.kdv_tup us)).push (PySem.HandSPX.excO C hp.objs.size)).get? b = some o := fun _ _ z => Heap.get?_push_of_some _ (Heap.get?_push_of_some _ z)
  have hget : ((hp.push (PySem.W.kdv_tup us)).push (PySem.HandSPX.excO C hp.objs.size)).get? (hp.objs.size + 1) = some (PySem.HandSPX.excO C hp.objs.size) := by first | heap_get | skip
  have I2 : Inv X pins σ (upd H (hp.objs.size + 1) (exo (hp.objs.size + 1) C none)) ⟨(hp.push (PySem.W.kdv_tup us)).push (PySem.HandSPX.excO C hp.objs.size), g, dr, tk, os⟩ := I.laid (o := exo (hp.objs.size + 1) C none) (a := hp.objs.size + 1) (t' := tk) (h' := (hp.push (PySem.W.kdv_tup us)).push (PySem.HandSPX.excO C hp.objs.size)) kk hsz (exo_ok hget)
  have r2 : Vals (V.ref (hp.objs.size + 1) :: vs) (Value.ref (hp.objs.size + 1) :: us) := .cons rfl r1
  have hl : (Value.ref (hp.objs.size + 1) :: us ++ []).length = ps.length := by rw [List.append_nil, ← r2.length, F1.len _ _ _ _ hq]
  have hb2 := hb _ (Value.ref (hp.objs.size + 1) :: us) I2.kIn hl
  rw [List.append_nil] at hb2
  have hus : us.length ≤ sizeLine := by rw [← Paired.length r1, sizeLine_eq]; omega
  refine wpAny_call (PySem.HandSPX.call_own FB.ef (fun Y => by rw [cut_has Y bm, hbm]) (I.kIn _ _ hC) (PySem.W.looks_findIn I.kIn iC) (fun self => PySem.W.bind_fn I.kIn self tI) hus
    (codeAny_mono (F1.run _ X.stack _ _ ⟨Value.ref (hp.objs.size + 1) :: us, []⟩ (Value.ref (hp.objs.size + 1) :: us) _ _ (fun _ _ _ => False) (hr.make C us []) (I2.env0.make C us []) hb2 r2 hq) fun rr s' hq' => ?_))
  cases rr with
  | error er => exact hx pins σ _ _ er s' I2 hq'
  | ok fl =>
    cases fl with
    | ret u =>
      obtain ⟨v, H2, os2, bare2, un2, hok2, rv, ev, d, fs2, ea, ed, hd1, q2⟩ := hq'
      subst ev
      obtain ⟨h2, g2, d2, t2, os'⟩ := s'
      exact ⟨rv, mk_end (raises_own TC.exC TC.tyC) I hsz kk un2 hok2 os2 bare2 ea ed hd1 q2⟩
    | next => exact hq'.elim
    | brk => exact hq'.elim
    | cont => exact hq'.elim
theorem kC_of (T : RX X CX C mk) : PySem.W.keepIn X.K (.ref C) = true := by
  obtain ⟨B, newId, initId, tl, fI, k, fd, ps, n, FB, TC, _⟩ := T.ex
  exact TC.kC
theorem pmk_x (T : RX X CX C mk) (hx : Passes CX X (fun _ _ _ => False)) (hg : Gl X x) (hm : X.mg x = some (.ref C)) (ha : PA X (e :: es) ta) (hdb : (x == ("__debug__" : Str)) = false := by decide)
    (he : starEach (e :: es) X.env = (false, eval e X.env) :: starEach es X.env := by rfl) (hpl : (backTo pos (starEach es X.env)).any (·.1) = false := by rfl) : PMk X (.Call (.Name x p) (e :: es) [] pos) (tNewX C mk ta) := by
  intro pins s σ H Q I h
  exact wpAny_Call_Name_kw (ld_glob I hg hm (PySem.W.callWith_K (h₀ := X.base) I.ok.mod.kin (kC_of T) (thn (ha.run pos pins s σ H _ I h) fun us s1 ⟨vs, H1, I1, r1, hz, fs, hmk, q⟩ => ⟨I1.kIn, mkCore T hx I1 r1 hz hmk q⟩) he hpl) hdb)
theorem pmk_x0 (T : RX X CX C mk) (hx : Passes CX X (fun _ _ _ => False)) (hg : Gl X x) (hm : X.mg x = some (.ref C)) (hdb : (x == ("__debug__" : Str)) = false := by decide) : PMk X (.Call (.Name x p) [] [] pos) (tNewX C mk tNil) := by
  intro pins s σ H Q I h
  obtain ⟨hz, fs, hmk, q⟩ := h
  exact wpAny_Call_Name_kw (ld_glob I hg hm (PySem.W.callWith_K0 I.kIn (kC_of T) (mkCore T hx I .nil hz hmk q)) hdb)
end
/-! ### the statement -/
def sRaise (c : Str) (mk : List PyData → Option (List (Str × PyData))) (fa : FA) : FS := fun ρ => (fa ρ).toS fun os ρ1 => match (frzs os).bind mk with
  | some fs => .exc ⟨c, fs⟩ ρ1
  | none => .bad
/-- the fields by data and by values -/
def MkR (K : PySem.W.Frag) (mk : List V → Option (List (Str × V))) (mkD : List PyData → Option (List (Str × PyData))) : Prop := ∀ S vs ds fs, DpAll K S vs ds → mkD ds = some fs → ∃ fv, mk vs = some fv ∧ ∀ f t, fs.lookup f = some t → ∃ v, fv.lookup f = some v ∧ Dp K S v t
section
variable {K : PySem.W.Frag} {W : WX} {P : List Nat}
theorem sndS_raise {ls : List (Option Nat)} {c : Str} {mk : List V → Option (List (Str × V))} {mkD : List PyData → Option (List (Str × PyData))} {ta : TA} {fa : FA} (h : Snd K W (RArgs K ls) ta fa) (hl : ls.length ≤ 1000) (hmk : MkR K mk mkD) :
    SndS K W P (fun _ σ H => tNewX (He.ga K c) mk ta σ H fun cls d H' => W cls d σ H') (sRaise c mkD fa) := by
  refine sndS_bind (u := fun vs _ σ H => vs.length ≤ 1000 ∧ ∃ fs, mk vs = some fs ∧ ∀ d, H d = none → W (.ref (He.ga K c)) (some d) σ (upd H d (.xd fs))) h fun vs os σ ρ S H A B w e r => ?_
  show SOk K W P σ S H (A + B) _ (match (frzs os).bind mkD with
    | some fs => .exc ⟨c, fs⟩ ρ
    | none => .bad)
  cases hf : (frzs os).bind mkD with
  | none => exact True.intro
  | some fs =>
    obtain ⟨ds, f1, f2⟩ := Option.bind_eq_some_iff.mp hf
    intro D k
    obtain ⟨w2, t2, sub⟩ := settle_wf w
    have hd := ors_settle (fun b hb => w.dj b (by rw [add_at]; omega)) (fun b => Nat.le_refl _) r.1 f1
    obtain ⟨fv, g1, g2⟩ := hmk _ vs ds fs hd f2
    refine ⟨by rw [r.2.2]; exact hl, fv, g1, fun d hn => ?_⟩
    obtain ⟨w3, t3, k3, s3⟩ := newF (u := .xd fv) w2 hn
    exact k (.ref (He.ga K c)) (some d) σ _ _ A w3 (er_keep s3 (er_keep sub e fun _ _ => rfl) k3) ⟨rfl, d, fv, rfl, upd_same, fun f t q => let ⟨v, q1, q2⟩ := g2 f t q; ⟨v, q1, dp_mono s3 q2⟩⟩ (t2.trans t3) Kp.refl
end
section
variable {X : Cx} {W : WX} {P : List Nat} {mk : List V → Option (List (Str × V))} {mkD : List PyData → Option (List (Str × PyData))} {x : Str} {e : Expr} {es : List Expr} {ls : List (Option Nat)} {fa : FA} {p pos pos' : Pos}
theorem sv_raise (hc : X.calm = true) (tk : Takes X W) (T : RX X (L2.CX X.prog X.w) (He.ga X.K x) mk) (hx : Passes (L2.CX X.prog X.w) X (fun _ _ _ => False)) (hg : Gl X x) (hm : X.mg x = some (.ref (He.ga X.K x))) (hmk : MkR X.K mk mkD) (ha : AV X W (e :: es) ls fa) (hl : ls.length ≤ 1000 := by decide) (hdb : (x == ("__debug__" : Str)) = false := by decide)
    (he : starEach (e :: es) X.env = (false, eval e X.env) :: starEach es X.env := by rfl) (hpl : (backTo pos (starEach es X.env)).any (·.1) = false := by rfl) : SV X W P (.Raise (some (.Call (.Name x p) (e :: es) [] pos)) none pos') (sRaise x mkD fa) :=
  let ⟨_, a1, a2⟩ := ha.ex; ⟨_, ps_raise hc tk (pmk_x T hx hg hm a1 hdb he hpl), sndS_raise a2 hl hmk⟩
theorem sv_raise0 (hc : X.calm = true) (tk : Takes X W) (T : RX X (L2.CX X.prog X.w) (He.ga X.K x) mk) (hx : Passes (L2.CX X.prog X.w) X (fun _ _ _ => False)) (hg : Gl X x) (hm : X.mg x = some (.ref (He.ga X.K x))) (hmk : MkR X.K mk mkD) (hdb : (x == ("__debug__" : Str)) = false := by decide) : SV X W P (.Raise (some (.Call (.Name x p) [] [] pos)) none pos') (sRaise x mkD aNil) :=
  ⟨_, ps_raise hc tk (pmk_x0 T hx hg hm hdb), sndS_raise (ls := []) snd_anil (by decide) hmk⟩
end
end Ls

namespace Ls
open PySem PySem.Spec PyProof.Rows L2
variable [Tb]
/-! ### try with clauses that name the exception, or don't -/
abbrev Cl := (Value → Option Bool) × Option Nat × (Addr → Value → Option Addr → TS)
/-- the ends of a suite whose name is dropped behind it -/
def dropE (D : Ends) : Option Nat → Ends
  | none => D
  | some i => ⟨fun σ H => D.nx (σ.set i none) H, D.rt, fun σ H => D.bk (σ.set i none) H, fun σ H => D.ct (σ.set i none) H⟩
def nameS (a : Addr) (σ : L2.St) : Option Nat → L2.St
  | none => σ
  | some i => σ.set i (some (.ref a))
def wCl (K : PySem.W.Frag) (W : WX) (D : Ends) : List Cl → WX
  | [] => W
  | (m, i, ts) :: r => fun cls d σ H => ∃ b, m cls = some b ∧ (b = true → ∀ a, H a = none → ts a cls d (dropE D i) (nameS a σ i) H) ∧ (b = false → wCl K W D r cls d σ H)
/-- a clause's test: what it says of an exception's class -/
def TestOk (X : Cx) (t : Expr) (m : Value → Option Bool) : Prop :=
  ∀ (a : Addr) (oe : Obj) (pn : List (Addr × Obj)) (σ : L2.St) (H : Hp) (s : Shared) (cls : Value) (b : Bool) (Q : Bool → Shared → Prop) (E E2 : Value → Shared → Prop),
    Inv (X.suite a ((a, oe) :: pn)) [] σ H s → PySem.W.Looks (model X.prog X.w) s.heap (typeOf (.ref a)) cls → m cls = some b →
    (∀ h2, (∀ q o, s.heap.get? q = some o → h2.get? q = some o) → Q b { s with heap := h2 }) →
    wpAny (model X.prog X.w) (X.A.mark (some (.ref a))) (eval t X.env) (fun c s1 => wpAny (model X.prog X.w) (X.A.mark (some (.ref a))) (excMatches (.ref a) c) Q E s1) E2 s
theorem test_name {X : Cx} {x : Str} {c : Value} {np : Pos} (hc : Names X x c) : TestOk X (.Name x np) (fun cls => PySem.W.exmOne X.K cls c) := by
  intro a oe pn σ H s cls b Q E E2 I LT hm q
  have fin : wpAny (model X.prog X.w) (X.A.mark (some (.ref a))) (excMatches (.ref a) c) Q E s := (PySem.W.exm_one (M := model X.prog X.w) I.kIn LT hm).here (q s.heap fun _ _ z => z)
  obtain ⟨hg, hdbg, hm | ⟨hm, hv, hnn⟩⟩ := hc
  · exact ld_glob (X := X.suite a ((a, oe) :: pn)) I hg hm fin hdbg
  · exact ld_blt (X := X.suite a ((a, oe) :: pn)) I hg hm hv fin hnn hdbg
/-! several classes, as a tuple -/
inductive NamesL (X : Cx) : List Expr → List Value → Prop
  | nil : NamesL X [] []
  | cons {x : Str} {c : Value} {np : Pos} {es : List Expr} {cs : List Value} : Names X x c → NamesL X es cs → NamesL X (.Name x np :: es) (c :: cs)
section
variable {M : Model} {K : PySem.W.Frag} {h : Heap}
theorem exc_all {A : Around} {E : Value → Shared → Prop} {Q : PUnit → Shared → Prop} {s : Shared} {f : Value → PUnit → Sem (ForInStep PUnit)} : ∀ {cs : List Value}, (∀ c ∈ cs, PySem.W.Looks M s.heap (f c ⟨⟩) (.yield ⟨⟩)) → Q ⟨⟩ s → wpAny M A (forIn cs PUnit.unit f) Q E s
  | [], _, q => by rw [List.forIn_nil]; exact wpAny_pure q
  | c :: cs, hc, q => by
    rw [List.forIn_cons]
    refine wpAny_bind ((hc c List.mem_cons_self).here ?_)
    exact exc_all (fun d hd => hc d (List.mem_cons_of_mem _ hd)) q
theorem exmAny_each {cls : Value} : ∀ {cs : List Value} {b : Bool}, PySem.W.exmAny K cls cs = some b → ∀ c ∈ cs, ∃ b1, PySem.W.exmOne K cls c = some b1
  | [], _, _, c, hc => nomatch hc
  | c0 :: cs, b, hx, c, hc => by
    obtain ⟨b1, d1, x1, y1, z1⟩ := PySem.W.exmAny_cons hx
    rcases List.mem_cons.mp hc with rfl | hc
    · exact ⟨b1, x1⟩
    · exact exmAny_each y1 c hc
abbrev ExR := Option Bool × PUnit
theorem exc_some {A : Around} {E : Value → Shared → Prop} {Q : ExR → Shared → Prop} {s : Shared} {cls : Value} {f : Value → ExR → Sem (ForInStep ExR)} (X : K.In s.heap)
    (hf : ∀ c b1, PySem.W.exmOne K cls c = some b1 → PySem.W.Looks M s.heap (f c (none, ⟨⟩)) (if b1 = true then .done (some true, ⟨⟩) else .yield (none, ⟨⟩))) : ∀ {cs : List Value} {b : Bool}, PySem.W.exmAny K cls cs = some b → Q (if b = true then some true else none, ⟨⟩) s → wpAny M A (forIn cs ((none, ⟨⟩) : ExR) f) Q E s
  | [], b, hx, q => by
    have w : some false = some b := hx
    cases w
    rw [List.forIn_nil]; exact wpAny_pure q
  | c :: cs, b, hx, q => by
    obtain ⟨b1, d1, x1, y1, z1⟩ := PySem.W.exmAny_cons hx
    rw [List.forIn_cons]
    refine wpAny_bind ((hf c b1 x1).here ?_)
    cases b1 with
    | true =>
      cases z1
      exact wpAny_pure q
    | false =>
      have e : b = d1 := z1
      subst e
      exact exc_some X hf y1 q
end
theorem exm_tupN {M : Model} {K : PySem.W.Frag} {cls : Value} {tp e : Addr} {b : Bool} {h : Heap} {cs : List Value} (X : K.In h) (LT : PySem.W.Looks M h (typeOf (.ref e)) cls) (hp : h.get? tp = some { cls := .type "tuple", data := .seq cs.toArray }) (hx : PySem.W.exmAny K cls cs = some b) :
    PySem.W.Looks M h (excMatches (.ref e) (.ref tp)) b := by
  intro A Q E s k q
  have LT0 : PySem.W.Looks M h (isInstance (.ref tp) (.type "tuple")) true := ((PySem.W.Looks.ld hp).andThen .now).andThen (PySem.W.Looks.of_pure PySem.isSubtype_tuple_tuple)
  have X2 : K.In s.heap := X.keeps k
  unfold excMatches
  refine wpAny_bind ((LT0.keeps k).here ?_)
  dsimp only
  rw [if_pos rfl]
  refine wpAny_bind ?_
  first
    | refine wpAny_seqItems (k _ _ hp) rfl ?_
    | refine wpAny_bind (wpAny_seqItems (k _ _ hp) rfl (wpAny_pure ?_))
  dsimp only [Option.getD_some, Option.getD]
  refine wpAny_bind (wpAny_pure ?_)
  refine wpAny_bind (exc_all (fun c hc => ?_) ?_)
  · obtain ⟨b1, x1⟩ := exmAny_each hx c (by simpa using hc)
    obtain ⟨e1, _⟩ := PySem.W.exm_cls (M := M) X2 x1
    refine e1.andThen ?_
    simp only [Bool.not_true, Bool.false_eq_true, if_false]
    exact .now
  refine wpAny_bind ((LT.keeps k).here ?_)
  refine wpAny_bind (exc_some X2 (fun c b1 x1 => ?_) hx ?_)
  · obtain ⟨_, e2⟩ := PySem.W.exm_cls (M := M) X2 x1
    refine e2.andThen ?_
    cases b1 <;> exact .now
  · cases b <;> exact wpAny_pure q
theorem test_tup {X : Cx} {es : List Expr} {cs : List Value} {kk : Nat} {pos : Pos} (hc : NamesL X es cs) (hl : cs.length ≤ 100) : TestOk X (.Tuple es kk pos) (fun cls => PySem.W.exmAny X.K cls cs) := by
  intro a oe pn σ H s cls b Q E E2 I LT hm q
  refine wpAny_Tuple ?_
  have go : ∀ {es : List Expr} {cs : List Value}, NamesL X es cs → ∀ {R : List Value → Shared → Prop}, R cs s → wpAny (model X.prog X.w) (X.A.mark (some (.ref a))) (spliced (backTo pos (starEach es X.env))) R E2 s := by
    intro es cs hc
    induction hc with
    | nil => exact fun r => wpAny_items_nil r
    | cons hn _ ih =>
      intro R r
      refine wpAny_items_cons ?_
      have fin := ih (R := fun vs s2 => R (_ :: vs) s2) r
      obtain ⟨hg, hdbg, hm | ⟨hm, hv, hnn⟩⟩ := hn
      · exact ld_glob (X := X.suite a ((a, oe) :: pn)) I hg hm fin hdbg
      · exact ld_blt (X := X.suite a ((a, oe) :: pn)) I hg hm hv fin hnn hdbg
  refine go hc ⟨Nat.le_trans hl (by decide), ?_⟩
  have kp : ∀ q o, s.heap.get? q = some o → (s.heap.push { cls := .type "tuple", data := .seq cs.toArray }).get? q = some o := fun _ _ z => Heap.get?_push_of_some _ z
  exact (exm_tupN (PySem.W.Frag.In.keeps I.kIn kp) (LT.keeps kp) (Heap.get?_push_size s.heap rfl) hm).here (q _ kp)
theorem fly_keep {B : Heap} {l : List Env} {e : Addr} {Z : Obj → Prop} {h h2 : Heap} (R : HandSPX.FlyingZ B l e Z h) (k : ∀ b o, h.get? b = some o → h2.get? b = some o) : HandSPX.FlyingZ B l e Z h2 := by
  obtain ⟨f1, f2, f3, oe, ws, T, oT, ts, he, hz, hd, h1, hn, hne, hT, hdT, h3⟩ := R
  exact ⟨fun b o q => k b o (f1 b o q), f2, f3.of_keeps fun b o q _ => ⟨o, k b o q, rfl⟩, oe, ws, T, oT, ts, k _ _ he, hz, hd, h1, hn, hne, k _ _ hT, hdT, h3⟩
inductive ClOk (X : Cx) : List ExceptHandler → List Cl → Prop
  | nil : ClOk X [] []
  | bare {t : Expr} {m : Value → Option Bool} {ts : Addr → Value → Option Addr → TS} {b₀ : Stmt} {b : List Stmt} {q : Pos} {hs : List ExceptHandler} {l : List Cl} : TestOk X t m →
      (∀ (a : Addr) (oe : Obj) (cls : Value) (d : Option Addr) (pn : List (Addr × Obj)), Zc cls d oe → (∃ vs, oe.data = .fields vs) → PSs (X.suite a ((a, oe) :: pn)) (b₀ :: b) (ts a cls d)) → ClOk X hs l → ClOk X (.ExceptHandler (some t) none (b₀ :: b) q :: hs) ((m, none, ts) :: l)
  | named {t : Expr} {n : Str} {i : Nat} {m : Value → Option Bool} {ts : Addr → Value → Option Addr → TS} {b₀ : Stmt} {b : List Stmt} {q : Pos} {hs : List ExceptHandler} {l : List Cl} : TestOk X t m → X.N[i]? = some n → X.env.kindOf n = some .local →
      (∀ (a : Addr) (oe : Obj) (cls : Value) (d : Option Addr) (pn : List (Addr × Obj)), Zc cls d oe → (∃ vs, oe.data = .fields vs) → PSs (X.suite a ((a, oe) :: pn)) (b₀ :: b) (ts a cls d)) → ClOk X hs l → ClOk X (.ExceptHandler (some t) (some n) (b₀ :: b) q :: hs) ((m, some i, ts) :: l)
section
variable {X : Cx} {body : List Stmt} {h₀ : ExceptHandler} {hds : List ExceptHandler} {l : List Cl} {pos : Pos} {tb : WX → TS} {W : WX}
theorem ps_tryN (hs : X.stack = X.env :: X.outer) (hf : X.env.frame = some X.env.locals) (hN : X.N.Nodup) (tk : Takes X W)
    (hb : ∀ (W' : WX) (pn : List (Addr × Obj)) (xe : Value → Shared → Prop), Takes (X.tr pn xe) W' → PassesOwn (model X.prog X.w) X.A X.env xe → PSs (X.tr pn xe) body (tb W')) (hh : ClOk X (h₀ :: hds) l) :
    PS X (.Try body (h₀ :: hds) [] [] pos) (fun D σ H => tb (wCl X.K W D l) D σ H) := by
  refine ⟨fun pins s σ H D I h => ?_⟩
  have ok := I.ok
  have hfr : X.A.frames = some (X.env :: X.outer) := by rw [ok.frames, hs]
  refine wpAny_Try_except (wpAny_mono ((hb (wCl X.K W D l) (X.pn ++ pins) (fun e s₁ => wpAny (model X.prog X.w) X.A (noteFrame e X.env) (fun _ s₂ => wpAny (model X.prog X.w) X.A (setFlight e none) (fun _ s₃ => wpAny (model X.prog X.w) X.A (handleBy e X.env (h₀ :: hds)) (SP X pins D) X.xe s₃) X.xe s₂) X.xe s₁)
    (fun u s' xx => ?_) PassesOwn.looking).run [] s σ H D (I.toTry _) h) (fun f s1 hsp => ?_) (fun e s1 he => he))
  · obtain ⟨a, B, sI, pins', σ', H', cls, d, rfl, J', nb, up, sky, na, os, ag, w⟩ := xx
    have J : Inv X pins σ' H' sI := J'.ofTry ok
    have sky2 : Sky B (X.env :: X.outer) a (Zc cls d) X.env.locals s'.heap := by rw [← hs]; exact sky
    show wpAny (model X.prog X.w) X.A (noteFrame (.ref a) X.env) _ _ _
    refine Sky.land Zc.steady hfr hf sky2 fun h3 fl3 up3 => ?_
    have J3 : Inv X pins σ' H' { s' with heap := h3 } := J.landed nb fl3.1 (up.trans up3) os ag
    have nfr : ∀ {h3 : Heap}, HandSPX.FlyingZ B (X.env :: X.outer) a (Zc cls d) h3 → a ∉ frs (X.env :: X.outer) := fun {h3} fl3 hm => by
      obtain ⟨oe3, vs3, he3, hz3, hd3⟩ := fl3.there
      obtain ⟨_, o', e', hnf⟩ := fl3.2.2.1.mem hm
      rw [he3] at e'; cases e'; exact hnf _ hd3
    have nL : a ≠ X.env.locals := fun z => nfr fl3 (List.mem_filterMap.mpr ⟨X.env, List.mem_cons_self, by rw [hf, z]⟩)
    have nF : a ∉ X.fs := fun hm => by
      obtain ⟨e, he, q⟩ := List.mem_filterMap.mp hm
      exact nfr fl3 (List.mem_filterMap.mpr ⟨e, List.mem_cons_of_mem _ he, q⟩)
    have test : ∀ {h3 : Heap} {t : Expr} {m : Value → Option Bool} {b : Bool} {Q : Bool → Shared → Prop} {E E2 : Value → Shared → Prop}, HandSPX.FlyingZ B (X.env :: X.outer) a (Zc cls d) h3 → s'.heap.UpToSlots h3 → TestOk X t m → m cls = some b →
        (∀ h4, HandSPX.FlyingZ B (X.env :: X.outer) a (Zc cls d) h4 → s'.heap.UpToSlots h4 → Q b { s' with heap := h4 }) → wpAny (model X.prog X.w) (X.A.mark (some (.ref a))) (eval t X.env) (fun c s1 => wpAny (model X.prog X.w) (X.A.mark (some (.ref a))) (excMatches (.ref a) c) Q E s1) E2 { s' with heap := h3 } := fun {h3 t m b Q E E2} fl3 up3 ht hm q => by
      have J3 : Inv X pins σ' H' { s' with heap := h3 } := J.landed nb fl3.1 (up.trans up3) os ag
      obtain ⟨oe3, vs3, he3, hz3, hd3⟩ := fl3.there
      have LT : PySem.W.Looks (model X.prog X.w) h3 (typeOf (.ref a)) cls := fun A Q E s k q => wpAny_typeOf_ref (k _ _ he3) (by rw [hz3.1]; exact q)
      exact ht a oe3 (X.pn ++ pins) σ' H' { s' with heap := h3 } cls b Q E E2 (J3.suite he3 hd3 na nL nF) LT hm fun h4 k4 => q h4 (fly_keep fl3 k4) (up3.trans (Heap.UpToSlots.of_keeps k4))
    have go : ∀ {hs' : List ExceptHandler} {l' : List Cl}, ClOk X hs' l' → wCl X.K W D l' cls d σ' H' → ∀ h3, HandSPX.FlyingZ B (X.env :: X.outer) a (Zc cls d) h3 → s'.heap.UpToSlots h3 → wpAny (model X.prog X.w) X.A (handleBy (.ref a) X.env hs') (SP X pins D) X.xe { s' with heap := h3 } := by
      intro hs' l' hk
      induction hk with
      | nil =>
        intro w h3 fl3 up3
        refine wpAny_handleBy_nil ?_
        obtain ⟨k1, k2, k3, oe, vs, T, oT, ts', he, hz, hd, h1, hr⟩ := id fl3
        unfold PySem.passOn; refine wpAny_bind (wpAny_field he hd h1 ?_)
        rw [if_neg (show ¬ ((Value.ref T == Value.none) = true) by simp)]
        have fin : wpAny (model X.prog X.w) X.A (setFlight (.ref a) X.env.frame) (fun _ s4 => wpAny (model X.prog X.w) X.A (throw (.ref a) : Sem Flow) (SP X pins D) X.xe s4) X.xe { s' with heap := h3 } := by
          rw [hf]; exact HandSPX.setFlight_upZ fl3 fun h4 hh4 up4 => wpAny_throw (tk _ _ ⟨a, B, sI, pins, σ', H', cls, d, rfl, J, nb, (up.trans up3).trans up4, .inr (.inr (by rw [hs]; exact hh4)), na, os, ag, w⟩)
        first | exact wpAny_bind (wpAny_pure (wpAny_bind fin)) | exact wpAny_bind fin
      | @bare t m ts b₀ b q hs2 l2 hc hsu r ih =>
        rintro ⟨bb, hb1, hyes, hno⟩ h3 fl3 up3
        refine wpAny_handleBy_cons (codeAny_handlers_test (test fl3 up3 hc hb1 fun h5 fl5 up5 => ?_)) (by intro q; cases q)
        cases bb with
        | false => exact ih (hno rfl) h5 fl5 up5
        | true =>
          refine codeAny_handlers_suite (HandSPX.lands_againZ fl5 fun h4 fl4 up4 => ?_)
          have J4 : Inv X pins σ' H' { s' with heap := h4 } := J.landed nb fl4.1 ((up.trans up5).trans up4) os ag
          obtain ⟨oe4, vs4, he4, hz4, hd4⟩ := fl4.there
          refine wpAny_mono ((hsu a oe4 cls d (X.pn ++ pins) hz4 ⟨_, hd4⟩).run [] _ _ H' _ (J4.suite he4 hd4 na nL nF) (hyes rfl a na)) (fun f s6 hsp => ?_) (fun _ _ z => False.elim z)
          cases f with
          | next => obtain ⟨σ6, H6, S6, q6⟩ := hsp; exact ⟨_, _, S6.unsuite ok, q6⟩
          | brk => obtain ⟨σ6, H6, S6, q6⟩ := hsp; exact ⟨_, _, S6.unsuite ok, q6⟩
          | cont => obtain ⟨σ6, H6, S6, q6⟩ := hsp; exact ⟨_, _, S6.unsuite ok, q6⟩
          | ret u => obtain ⟨v6, σ6, H6, S6, r6, q6⟩ := hsp; exact ⟨_, _, _, S6.unsuite ok, r6, q6⟩
      | @named t n i m ts b₀ b q hs2 l2 hc hi hln hsu r ih =>
        rintro ⟨bb, hb1, hyes, hno⟩ h3 fl3 up3
        refine wpAny_handleBy_cons (codeAny_handlers_test (test fl3 up3 hc hb1 fun h5 fl5 up5 => ?_)) (by intro q; cases q)
        cases bb with
        | false => exact ih (hno rfl) h5 fl5 up5
        | true =>
          refine codeAny_handlers_suite_as (HandSPX.lands_againZ fl5 fun h4 fl4 up4 => ?_)
          have J4 : Inv X pins σ' H' { s' with heap := h4 } := J.landed nb fl4.1 ((up.trans up5).trans up4) os ag
          obtain ⟨oe4, vs4, he4, hz4, hd4⟩ := fl4.there
          refine store_ok (X := X.suite a ((a, oe4) :: (X.pn ++ pins))) (v := .ref a) (J4.suite he4 hd4 na nL nF) hN hi (.inl hln) rfl (fun s5 S5 => ?_) (.inr hln)
          refine wpAny_mono ((hsu a oe4 cls d (X.pn ++ pins) hz4 ⟨_, hd4⟩).run [] s5 _ H' _ S5 (hyes rfl a na)) (fun f s6 hsp => ?_) (fun _ _ z => False.elim z)
          have fin : ∀ {σ6 : L2.St} {H6 : Hp} {Q : Shared → Prop}, Inv (X.suite a ((a, oe4) :: (X.pn ++ pins))) [] σ6 H6 s6 → (∀ s7, Inv X pins (σ6.set i none) H6 s7 → Q s7) →
              wpAny (model X.prog X.w) X.A (do bindName X.env n .none; unbindBehindTheSuite X.env n q) (fun _ s7 => Q s7) X.xe s6 := fun S6 hq => gone_ok (S6.unsuite ok) hN hi hln hq
          cases f with
          | next => obtain ⟨σ6, H6, S6, q6⟩ := hsp; exact fin S6 fun s7 J7 => ⟨_, _, J7, q6⟩
          | brk => obtain ⟨σ6, H6, S6, q6⟩ := hsp; exact fin S6 fun s7 J7 => ⟨_, _, J7, q6⟩
          | cont => obtain ⟨σ6, H6, S6, q6⟩ := hsp; exact fin S6 fun s7 J7 => ⟨_, _, J7, q6⟩
          | ret u => obtain ⟨v6, σ6, H6, S6, r6, q6⟩ := hsp; exact fin S6 fun s7 J7 => ⟨_, _, _, J7, r6, q6⟩
    exact go hh w h3 fl3 up3
  · cases f with
    | next => obtain ⟨σ2, H2, J2, q⟩ := hsp; exact wpAny_execs_nil ⟨σ2, H2, J2.ofTry ok, q⟩
    | brk => obtain ⟨σ2, H2, J2, q⟩ := hsp; exact ⟨σ2, H2, J2.ofTry ok, q⟩
    | cont => obtain ⟨σ2, H2, J2, q⟩ := hsp; exact ⟨σ2, H2, J2.ofTry ok, q⟩
    | ret u => obtain ⟨v, σ2, H2, J2, r, q⟩ := hsp; exact ⟨v, σ2, H2, J2.ofTry ok, r, q⟩
end
end Ls

namespace Ls
open PySem L2
variable [Tb]
/-! ### a statement's reading by its worth alone -/
def rdS (K : PySem.W.Frag) (W : WX) (P : List Nat) (f : FS) : TS := fun D σ H => ∃ ρ S A, WF S H A ∧ ER K S H σ ρ A ∧ (match f ρ with
  | .nx ρ' => PostS K P σ S H A ρ' D.nx
  | .rt o ρ' => PostR K P σ S H A o ρ' D.rt
  | .bk ρ' => PostS K P σ S H A ρ' D.bk
  | .ct ρ' => PostS K P σ S H A ρ' D.ct
  | .exc x ρ' => PostXS K W P σ S H A x ρ'
  | .bad => False)
section
variable {K : PySem.W.Frag} {W : WX} {P : List Nat} {S H : Hp} {A B C : Fp} {σ : St} {ρ : En}
theorem of_rdS {t : TS} {f : FS} (h : SndS K W P t f) {D : Ends} (r : rdS K W P f D σ H) : t D σ H := by
  obtain ⟨ρ, S, A, w, e, q⟩ := r
  have h1 := h σ ρ S H A w e
  cases hf : f ρ with
  | bad => rw [hf] at q; exact q.elim
  | nx ρ' => rw [hf] at h1 q; exact h1 D q
  | rt o ρ' => rw [hf] at h1 q; exact h1 D q
  | bk ρ' => rw [hf] at h1 q; exact h1 D q
  | ct ρ' => rw [hf] at h1 q; exact h1 D q
  | exc x ρ' => rw [hf] at h1 q; exact h1 D q
theorem sndS_rd {f : FS} : SndS K W P (rdS K W P f) f := by
  intro σ ρ S H A w e
  cases hf : f ρ with
  | bad => exact True.intro
  | nx ρ' => exact fun D k => ⟨ρ, S, A, w, e, by rw [hf]; exact k⟩
  | rt o ρ' => exact fun D k => ⟨ρ, S, A, w, e, by rw [hf]; exact k⟩
  | bk ρ' => exact fun D k => ⟨ρ, S, A, w, e, by rw [hf]; exact k⟩
  | ct ρ' => exact fun D k => ⟨ρ, S, A, w, e, by rw [hf]; exact k⟩
  | exc x ρ' => exact fun D k => ⟨ρ, S, A, w, e, by rw [hf]; exact k⟩
theorem BV.pss {X : Cx} {b : List Stmt} {f : FS} (h : BV X W P b f) : PSs X b (rdS X.K W P f) := by
  obtain ⟨t, h1, h2⟩ := h.ex
  exact ⟨fun pins s σ H D I q => h1.run pins s σ H D I (of_rdS h2 q)⟩
/-! ### the clauses -/
abbrev Su := Addr → Value → Option Addr → FS
structure Hd where
  m : Str → Option Bool
  i : Option Nat
  su : Su
def setX (a : Addr) (cls : Value) (d : Option Addr) (x : Xn) (ρ : En) : Option Nat → En
  | none => ρ
  | some i => ρ.set i (some (.exn a cls d x))
def offX (ρ : En) : Option Nat → En
  | none => ρ
  | some i => ρ.set i none
def cleanX (i : Option Nat) : SO → SO
  | .nx ρ => .nx (offX ρ i)
  | .rt o ρ => .rt o (offX ρ i)
  | .bk ρ => .bk (offX ρ i)
  | .ct ρ => .ct (offX ρ i)
  | _ => .bad
def fitsX (ρ : En) : Option Nat → Bool
  | none => true
  | some j => decide (j < ρ.length)
open Classical in
noncomputable def runCl (i : Option Nat) (su : Su) (x : Xn) (ρ : En) : SO := if h : fitsX ρ i = true ∧ ∃ out, ∀ a cls d, cleanX i (su a cls d (setX a cls d x ρ i)) = out then Classical.choose h.2 else .bad
theorem runCl_eq {i : Option Nat} {su : Su} {x : Xn} {ρ : En} {out : SO} (h : ∀ a cls d, cleanX i (su a cls d (setX a cls d x ρ i)) = out) (hi : fitsX ρ i = true) : runCl i su x ρ = out := by
  have hx : fitsX ρ i = true ∧ ∃ out, ∀ a cls d, cleanX i (su a cls d (setX a cls d x ρ i)) = out := ⟨hi, out, h⟩
  unfold runCl
  rw [dif_pos hx, ← Classical.choose_spec hx.2 0 .none none, h]
noncomputable def catchF : List Hd → Xn → En → SO
  | [], x, ρ => .exc x ρ
  | h :: r, x, ρ => match h.m x.cls with
    | some true => runCl h.i h.su x ρ
    | some false => catchF r x ρ
    | none => .bad
noncomputable def sTry (fb : FS) (hs : List Hd) : FS := fun ρ => match fb ρ with
  | .exc x ρ1 => catchF hs x ρ1
  | r => r
theorem er_setX {a : Addr} {cls : Value} {d : Option Addr} {x : Xn} {i : Option Nat} (e : ER K S H σ ρ A) (q : XR K S x cls d) (hi : ∀ j, i = some j → j < ρ.length) : ∃ C, ER K S H (nameS a σ i) (setX a cls d x ρ i) C ∧ ∀ b, C b ≤ A b := by
  cases i with
  | none => exact ⟨A, e, fun _ => Nat.le_refl _⟩
  | some j =>
    obtain ⟨C, e1, l1⟩ := er_store (o := .exn a cls d x) (v := .ref a) (B := Fp.z) e (.exn q fun _ => rfl) (hi j rfl)
    exact ⟨Fp.z + C, e1, fun b => by rw [add_at, z_at]; have := l1 b; omega⟩
theorem er_offX {i : Option Nat} (e : ER K S H σ ρ A) : ∃ C, ER K S H (match i with | none => σ | some j => σ.set j none) (offX ρ i) C ∧ ∀ b, C b ≤ A b := by
  cases i with
  | none => exact ⟨A, e, fun _ => Nat.le_refl _⟩
  | some j => exact er_drop e j none
/-- a clause: what it matches, what its suite does -/
inductive HdsS (K : PySem.W.Frag) (P : List Nat) : List Hd → List Cl → Prop
  | nil : HdsS K P [] []
  | cons {h : Hd} {mm : Value → Option Bool} {ts : Addr → Value → Option Addr → TS} {hs : List Hd} {l : List Cl} : (∀ n b, h.m n = some b → mm (.ref (He.ga K n)) = some b) → (∀ j, h.i = some j → P.contains j = false) → (∀ a cls d, SndS K W0 P (ts a cls d) (h.su a cls d)) → HdsS K P hs l → HdsS K P (h :: hs) ((mm, h.i, ts) :: l)
theorem kp_name {i : Option Nat} {a : Addr} (h : ∀ j, i = some j → P.contains j = false) : Kp P σ (nameS a σ i) := by
  cases i with
  | none => exact Kp.refl
  | some j => exact kp_set (h j rfl)
theorem catch_ok {hs : List Hd} {l : List Cl} {x : Xn} {D : Ends} {S0 H0 : Hp} {A0 : Fp} {σ0 : St} (hh : HdsS K P hs l) {cls : Value} {d : Option Addr} (w : WF S H A) (e : ER K S H σ ρ A) (hx : XR K S x cls d) (t0 : Tr S0 H0 A0 S H A) (k0 : Kp P σ0 σ)
    (hk : match catchF hs x ρ with
      | .nx ρ' => PostS K P σ0 S0 H0 A0 ρ' D.nx
      | .rt o ρ' => PostR K P σ0 S0 H0 A0 o ρ' D.rt
      | .bk ρ' => PostS K P σ0 S0 H0 A0 ρ' D.bk
      | .ct ρ' => PostS K P σ0 S0 H0 A0 ρ' D.ct
      | .exc x ρ' => PostXS K W P σ0 S0 H0 A0 x ρ'
      | .bad => False) : wCl K W D l cls d σ H := by
  induction hh with
  | nil => exact hk cls d σ S H A w e hx t0 k0
  | @cons h mm ts hs l hm hi hsu r ih =>
    unfold catchF at hk
    cases em : h.m x.cls with
    | none => rw [em] at hk; exact hk.elim
    | some b =>
      rw [em] at hk
      refine ⟨b, by rw [hx.1]; exact hm _ _ em, fun hb a ha => ?_, fun hb => ?_⟩
      · subst hb
        dsimp only at hk
        unfold runCl at hk
        by_cases hex : fitsX ρ h.i = true ∧ ∃ out, ∀ a cls d, cleanX h.i (h.su a cls d (setX a cls d x ρ h.i)) = out
        · rw [dif_pos hex, ← Classical.choose_spec hex.2 a cls d] at hk
          have hlt : ∀ j, h.i = some j → j < ρ.length := fun j ej => by
            have z := hex.1
            rw [ej] at z
            exact of_decide_eq_true z
          obtain ⟨C1, e1, l1⟩ := er_setX (a := a) (i := h.i) e hx hlt
          have ok := hsu a cls d (nameS a σ h.i) _ S H C1 (w.less l1) e1
          have t1 : Tr S0 H0 A0 S H C1 := t0.less l1
          have k1 : Kp P σ0 (nameS a σ h.i) := k0.trans (kp_name hi)
          have off : ∀ {q : St → Hp → Prop} {ρ' : En}, PostS K P σ0 S0 H0 A0 (offX ρ' h.i) q → PostS K P (nameS a σ h.i) S H C1 ρ' fun σ2 H2 => q (match h.i with | none => σ2 | some j => σ2.set j none) H2 := by
            intro q ρ' k σ2 S2 H2 A2 w2 e2 t2 kp2
            obtain ⟨C2, e3, l3⟩ := er_offX (i := h.i) e2
            refine k _ S2 H2 C2 (w2.less l3) e3 ((t1.trans t2).less l3) ((k1.trans kp2).trans ?_)
            cases hi2 : h.i with
            | none => exact Kp.refl
            | some j => exact kp_set (hi j hi2)
          have dnx : ∀ σ2 H2, D.nx (match h.i with | none => σ2 | some j => σ2.set j none) H2 → (dropE D h.i).nx σ2 H2 := by intro σ2 H2 z; cases hi2 : h.i <;> (rw [hi2] at z; exact z)
          have dbk : ∀ σ2 H2, D.bk (match h.i with | none => σ2 | some j => σ2.set j none) H2 → (dropE D h.i).bk σ2 H2 := by intro σ2 H2 z; cases hi2 : h.i <;> (rw [hi2] at z; exact z)
          have dct : ∀ σ2 H2, D.ct (match h.i with | none => σ2 | some j => σ2.set j none) H2 → (dropE D h.i).ct σ2 H2 := by intro σ2 H2 z; cases hi2 : h.i <;> (rw [hi2] at z; exact z)
          have drt : (dropE D h.i).rt = D.rt := by cases h.i <;> rfl
          cases ho : h.su a cls d (setX a cls d x ρ h.i) with
          | bad => rw [ho] at hk; exact hk.elim
          | exc y ρ' => rw [ho] at hk; exact hk.elim
          | nx ρ' =>
            rw [ho] at hk ok
            exact ok _ fun σ2 S2 H2 A2 w2 e2 t2 kp2 => dnx _ _ (off hk σ2 S2 H2 A2 w2 e2 t2 kp2)
          | bk ρ' =>
            rw [ho] at hk ok
            exact ok _ fun σ2 S2 H2 A2 w2 e2 t2 kp2 => dbk _ _ (off hk σ2 S2 H2 A2 w2 e2 t2 kp2)
          | ct ρ' =>
            rw [ho] at hk ok
            exact ok _ fun σ2 S2 H2 A2 w2 e2 t2 kp2 => dct _ _ (off hk σ2 S2 H2 A2 w2 e2 t2 kp2)
          | rt o ρ' =>
            rw [ho] at hk ok
            refine ok _ fun v σ2 S2 H2 A2 B2 w2 e2 r2 t2 kp2 => ?_
            rw [drt]
            obtain ⟨C2, e3, l3⟩ := er_offX (i := h.i) e2
            have l4 : ∀ b, (C2 + B2) b ≤ (A2 + B2) b := fun b => by have := l3 b; simp only [add_at]; omega
            refine hk v _ S2 H2 C2 B2 (w2.less l4) e3 r2 ((t1.trans t2).less l4) ((k1.trans kp2).trans ?_)
            cases hi2 : h.i with
            | none => exact Kp.refl
            | some j => exact kp_set (hi j hi2)
        · rw [dif_neg hex] at hk; exact hk.elim
      · subst hb
        exact ih hk
theorem sndS_try {fb : FS} {hs : List Hd} {l : List Cl} (hh : HdsS K P hs l) : SndS K W P (fun D σ H => rdS K (wCl K W D l) P fb D σ H) (sTry fb hs) := by
  intro σ ρ S H A w e
  unfold sTry
  cases hf : fb ρ with
  | bad => exact True.intro
  | nx ρ' => exact fun D k => ⟨ρ, S, A, w, e, by rw [hf]; exact k⟩
  | rt o ρ' => exact fun D k => ⟨ρ, S, A, w, e, by rw [hf]; exact k⟩
  | bk ρ' => exact fun D k => ⟨ρ, S, A, w, e, by rw [hf]; exact k⟩
  | ct ρ' => exact fun D k => ⟨ρ, S, A, w, e, by rw [hf]; exact k⟩
  | exc x ρ' =>
    dsimp only
    have key : ∀ D, (match catchF hs x ρ' with
      | .nx ρ' => PostS K P σ S H A ρ' D.nx
      | .rt o ρ' => PostR K P σ S H A o ρ' D.rt
      | .bk ρ' => PostS K P σ S H A ρ' D.bk
      | .ct ρ' => PostS K P σ S H A ρ' D.ct
      | .exc x ρ' => PostXS K W P σ S H A x ρ'
      | .bad => False) → rdS K (wCl K W D l) P fb D σ H := fun D hk =>
      ⟨ρ, S, A, w, e, by rw [hf]; exact fun cls d σ' S' H' A' w' e' x' t' k' => catch_ok hh w' e' x' t' k' hk⟩
    cases hc : catchF hs x ρ' with
    | bad => exact True.intro
    | nx ρ2 => exact fun D k => key D (by rw [hc]; exact k)
    | rt o ρ2 => exact fun D k => key D (by rw [hc]; exact k)
    | bk ρ2 => exact fun D k => key D (by rw [hc]; exact k)
    | ct ρ2 => exact fun D k => key D (by rw [hc]; exact k)
    | exc y ρ2 => exact fun D k => key D (by rw [hc]; exact k)
end
end Ls

namespace Ls
open PySem PySem.Spec PyProof.Rows L2
variable [Tb]
/-! ### e.f of a caught exception -/
open Classical in
noncomputable def eXf (known : Str → Bool) (a : Addr) (cls : Value) (d : Option Addr) (i : Nat) (f : Str) : FE := fun ρ => match ρ[i]? with
  | some (some (.exn a' cls' d' x)) => if a' = a ∧ cls' = cls ∧ d' = d ∧ known x.cls = true then (match x.fs.lookup f with
      | some t => .ok (.fz t) ρ
      | none => .bad) else .bad
  | _ => .bad
theorem eXf_eq {known : Str → Bool} {a : Addr} {cls : Value} {d : Option Addr} {i : Nat} {f : Str} {ρ : En} {x : Xn} {t : PyData} (h : ρ[i]? = some (some (.exn a cls d x))) (hk : known x.cls = true) (hf : x.fs.lookup f = some t) : eXf known a cls d i f ρ = .ok (.fz t) ρ := by
  unfold eXf
  rw [h]
  dsimp only
  rw [if_pos ⟨rfl, rfl, rfl, hk⟩, hf]
section
variable {K : PySem.W.Frag} {W : WX}
theorem sndE_xf {known : Str → Bool} {a C : Addr} {cls : Value} {d : Option Addr} {i : Nat} {f : Str} (hc : cls = .ref C) : SndE K W (tXf a cls d C f (tVar i)) (eXf known a cls d i f) := by
  intro σ ρ S H A w e
  unfold eXf
  cases hi : ρ[i]? with
  | none => exact True.intro
  | some o =>
    cases o with
    | none => exact True.intro
    | some o =>
      cases o with
      | fz _ => exact True.intro
      | raw _ => exact True.intro
      | lst _ => exact True.intro
      | exn a' cls' d' x =>
        dsimp only
        by_cases hq : a' = a ∧ cls' = cls ∧ d' = d ∧ known x.cls = true
        · rw [if_pos hq]
          obtain ⟨rfl, rfl, rfl, hk⟩ := hq
          cases hl : x.fs.lookup f with
          | none => exact True.intro
          | some t =>
            intro Q k
            obtain ⟨v, B, C2, e1, q, e2, z⟩ := er_get e hi
            cases q with
            | exn q z1 =>
              obtain ⟨_, dd, fs, q2, q3, q4⟩ := q
              obtain ⟨y, y1, y2⟩ := q4 f t hl
              exact ⟨_, e1, rfl, hc, dd, fs, y, q2, w.sub _ _ q3, y1, k y S H A Fp.z (by rw [addz]; exact w) e (.fz y2 fun _ => rfl) (by rw [addz]; exact Tr.refl)⟩
        · rw [if_neg hq]; exact True.intro
theorem sndE_xf0 {known : Str → Bool} {a : Addr} {cls : Value} {d : Option Addr} {i : Nat} {f : Str} (h : ∀ n, known n = true → cls ≠ .ref (He.ga K n)) : SndE K W (fun _ _ _ => False) (eXf known a cls d i f) := by
  intro σ ρ S H A w e
  unfold eXf
  cases hi : ρ[i]? with
  | none => exact True.intro
  | some o =>
    cases o with
    | none => exact True.intro
    | some o =>
      cases o with
      | fz _ => exact True.intro
      | raw _ => exact True.intro
      | lst _ => exact True.intro
      | exn a' cls' d' x =>
        dsimp only
        by_cases hq : a' = a ∧ cls' = cls ∧ d' = d ∧ known x.cls = true
        · obtain ⟨rfl, rfl, rfl, hk⟩ := hq
          obtain ⟨v, B, C2, e1, q, e2, z⟩ := er_get e hi
          cases q with
          | exn q z1 => exact absurd q.1 (h _ hk)
        · rw [if_neg hq]; exact True.intro
end
theorem ev_xf {X : Cx} {W : WX} {known : Str → Bool} {a : Addr} {oe : Obj} {cls : Value} {d : Option Addr} {pn : List (Addr × Obj)} (i : Nat) {x f : Str} {p pos : Pos} (hz : Zc cls d oe) (hf : ∃ vs, oe.data = .fields vs) (hk : ∀ n, known n = true → XfC X.K (He.ga X.K n) ∧ PySem.W.findIn X.K (.ref (He.ga X.K n)) f = some none)
    (hN : X.N[i]? = some x := by rfl) (hv : Vis X.env.scope x := by first | exact Or.inl rfl | exact Or.inr (Or.inl rfl) | exact Or.inr (Or.inr rfl)) (hd : (x == ("__debug__" : Str)) = false := by decide) (hcd : (x == ("__classdict__" : Str)) = false := by decide)
    (hb : attributeBase (.Name x p) f X.env (eval (.Name x p) X.env) = eval (.Name x p) X.env := by rfl) : EV (X.suite a ((a, oe) :: pn)) W (.Attribute (.Name x p) f pos) (eXf known a cls d i f) := by
  by_cases h : ∃ n, known n = true ∧ cls = .ref (He.ga X.K n)
  · obtain ⟨n, h1, h2⟩ := h
    exact ⟨_, pe_xf (hk n h1).1 (hk n h1).2 hz hf (pe_var hN hv hd hcd) hb, sndE_xf h2⟩
  · exact ⟨_, ⟨fun _ _ _ _ _ _ z => z.elim⟩, sndE_xf0 fun n hn z => h ⟨n, hn, z⟩⟩
/-! ### the rule -/
inductive ClV (X : Cx) (P : List Nat) : List ExceptHandler → List Hd → Prop
  | nil : ClV X P [] []
  | bare {t : Expr} {mm : Value → Option Bool} {m : Str → Option Bool} {su : Su} {b₀ : Stmt} {b : List Stmt} {q : Pos} {hs : List ExceptHandler} {l : List Hd} : TestOk X t mm → (∀ n b, m n = some b → mm (.ref (He.ga X.K n)) = some b) →
      (∀ (a : Addr) (oe : Obj) (cls : Value) (d : Option Addr) (pn : List (Addr × Obj)), Zc cls d oe → (∃ vs, oe.data = .fields vs) → BV (X.suite a ((a, oe) :: pn)) W0 P (b₀ :: b) (su a cls d)) → ClV X P hs l → ClV X P (.ExceptHandler (some t) none (b₀ :: b) q :: hs) (⟨m, none, su⟩ :: l)
  | named {t : Expr} {n : Str} {i : Nat} {mm : Value → Option Bool} {m : Str → Option Bool} {su : Su} {b₀ : Stmt} {b : List Stmt} {q : Pos} {hs : List ExceptHandler} {l : List Hd} : TestOk X t mm → (∀ n b, m n = some b → mm (.ref (He.ga X.K n)) = some b) → X.N[i]? = some n → X.env.kindOf n = some .local → P.contains i = false →
      (∀ (a : Addr) (oe : Obj) (cls : Value) (d : Option Addr) (pn : List (Addr × Obj)), Zc cls d oe → (∃ vs, oe.data = .fields vs) → BV (X.suite a ((a, oe) :: pn)) W0 P (b₀ :: b) (su a cls d)) → ClV X P hs l → ClV X P (.ExceptHandler (some t) (some n) (b₀ :: b) q :: hs) (⟨m, some i, su⟩ :: l)
section
variable {X : Cx} {W : WX} {P : List Nat}
theorem clv {hs : List ExceptHandler} {l : List Hd} (h : ClV X P hs l) : ∃ cl, ClOk X hs cl ∧ HdsS X.K P l cl := by
  induction h with
  | nil => exact ⟨[], .nil, .nil⟩
  | bare h1 h2 h3 _ ih =>
    obtain ⟨cl, i1, i2⟩ := ih
    exact ⟨_, .bare h1 (fun a oe cls d pn z f => (h3 a oe cls d pn z f).pss) i1, .cons h2 (fun _ z => nomatch z) (fun _ _ _ => sndS_rd) i2⟩
  | named h1 h2 h3 h4 h5 h6 _ ih =>
    obtain ⟨cl, i1, i2⟩ := ih
    exact ⟨_, .named h1 h3 h4 (fun a oe cls d pn z f => (h6 a oe cls d pn z f).pss) i1, .cons h2 (fun j z => by cases z; exact h5) (fun _ _ _ => sndS_rd) i2⟩
theorem sv_try {body : List Stmt} {h₀ : ExceptHandler} {hds : List ExceptHandler} {l : List Hd} {fb : FS} {pos : Pos} (hs : X.stack = X.env :: X.outer) (hf : X.env.frame = some X.env.locals) (hN : X.N.Nodup) (tk : Takes X W)
    (hb : ∀ (W' : WX) (pn : List (Addr × Obj)) (xe : Value → Shared → Prop), Takes (X.tr pn xe) W' → PassesOwn (model X.prog X.w) X.A X.env xe → BV (X.tr pn xe) W' P body fb) (hh : ClV X P (h₀ :: hds) l) : SV X W P (.Try body (h₀ :: hds) [] [] pos) (sTry fb l) := by
  obtain ⟨cl, c1, c2⟩ := clv hh
  exact ⟨_, ps_tryN hs hf hN tk (tb := fun W' => rdS X.K W' P fb) (fun W' pn xe t o => (hb W' pn xe t o).pss) c1, sndS_try c2⟩
end
/-! ### runs -/
theorem r_try {fb : FS} {hs : List Hd} {ρ : En} {out : SO} (h : fb ρ = out) (hn : ∀ x ρ', out ≠ .exc x ρ') : sTry fb hs ρ = out := by
  unfold sTry
  rw [h]
  cases out with
  | exc x ρ' => exact absurd rfl (hn x ρ')
  | _ => rfl
theorem r_tryX {fb : FS} {hs : List Hd} {ρ ρ1 : En} {x : Xn} {out : SO} (h : fb ρ = .exc x ρ1) (hc : catchF hs x ρ1 = out) : sTry fb hs ρ = out := by
  unfold sTry
  rw [h]
  exact hc
theorem r_catchT {h : Hd} {hs : List Hd} {ρ : En} {x : Xn} {out : SO} (hm : h.m x.cls = some true) (hi : fitsX ρ h.i = true) (hr : ∀ a cls d, cleanX h.i (h.su a cls d (setX a cls d x ρ h.i)) = out) : catchF (h :: hs) x ρ = out := by
  unfold catchF
  rw [hm]
  exact runCl_eq hr hi
theorem r_catchF {h : Hd} {hs : List Hd} {ρ : En} {x : Xn} {out : SO} (hm : h.m x.cls = some false) (hr : catchF hs x ρ = out) : catchF (h :: hs) x ρ = out := by
  unfold catchF
  rw [hm]
  exact hr
end Ls

namespace Ls
open PySem PySem.Spec PyProof.Rows L2
variable [Tb]
/-! ### what the head tells of exception classes, as tests -/
def oxC (K : PySem.W.Frag) (C : Addr) (newId : String) (tl : List Value) : Bool := match K.lookup C with
  | some ⟨.type ty, _, .cls cd, sl⟩ => (match cd.mro, sl.toList with
    | .ref C2 :: bm, [_, _, _, _, some (.builtin n), _] => decide (ty = "type") && (decide (C2 = C) && (decide (n = newId) && (!cd.hasDel && (cd.hasDict && cutR bm == tl))))
    | _, _ => false)
  | _ => false
theorem oxC_ok {K : PySem.W.Frag} {C : Addr} {newId : String} {tl : List Value} (h : oxC K C newId tl = true) : ∃ nm q N bs bm sn sub ab col dd k0 k1 k2 k3 k5, K.lookup C = some (excClassObj nm q C N bs bm true sn sub ab col dd k0 k1 k2 k3 k5 newId) ∧ cutR bm = tl := by
  unfold oxC at h
  split at h
  · rename_i ty dd cd sl ho
    split at h
    · rename_i C2 bm k0 k1 k2 k3 n k5 hm hs
      simp only [Bool.and_eq_true, decide_eq_true_eq, Bool.not_eq_true', beq_iff_eq] at h
      obtain ⟨rfl, rfl, rfl, hdel, hdict, hc⟩ := h
      obtain ⟨nm, bs, mro, ns, qn, hd, sn, sub, ab, col, del⟩ := cd
      dsimp only at hm hdel hdict
      subst hm hdel hdict
      have hsl : sl = #[k0, k1, k2, k3, some (.builtin n), k5] := by
        obtain ⟨l⟩ := sl
        simp only at hs
        rw [hs]
      subst hsl
      exact ⟨nm, qn, ns, bs, bm, sn, sub, ab, col, dd, k0, k1, k2, k3, k5, ho, hc⟩
    · cases h
  · cases h
def oxB (K : PySem.W.Frag) (x : Str) (newId : String) (tl : List Value) : Bool := oxC K (He.ga K x) newId tl && (decide (PySem.W.findIn K (.ref (He.ga K x)) "__setattr__" = some (some (.builtin "object.__setattr__"))) && (decide (PySem.W.subIn K (.ref (He.ga K x)) (.type "BaseException") = some true) &&
  (decide (PySem.W.typeIn K (.ref (He.ga K x)) = some (.type "type")) && PySem.W.keepIn K (.ref (He.ga K x)))))
theorem oxB_ok {K : PySem.W.Frag} {x : Str} {newId : String} {tl : List Value} (h : oxB K x newId tl = true) : OX K (He.ga K x) newId tl := by
  unfold oxB at h
  simp only [Bool.and_eq_true, decide_eq_true_eq] at h
  exact ⟨oxC_ok h.1, h.2.1, h.2.2.1, h.2.2.2.1, h.2.2.2.2⟩
/-- C's own __init__ -/
def initA (K : PySem.W.Frag) (x : Str) : Addr := He.ma K (He.ga K x) "__init__"
def oiB (K : PySem.W.Frag) (x : Str) : Bool := PySem.W.readsIn K (He.ga K x) (.type "type") && (decide (PySem.W.specialIn K (.ref (He.ga K x)) "__getattribute__" = some (some (.builtin "type.__getattribute__"))) &&
  ((match PySem.W.findCls K (.ref (He.ga K x)) (.type "type") "__init__" with
    | some (.val v) => v == .ref (initA K x)
    | _ => false) && (PySem.W.handedIn (.ref (initA K x)) && PySem.W.keepIn K (.ref (initA K x)))))
theorem oiB_ok {K : PySem.W.Frag} {x : Str} (h : oiB K x = true) : OI K (He.ga K x) (initA K x) := by
  unfold oiB at h
  simp only [Bool.and_eq_true, decide_eq_true_eq] at h
  obtain ⟨h1, h2, h3, h4, h5⟩ := h
  refine ⟨h1, h2, ?_, h4, h5⟩
  split at h3
  · rename_i v e
    rw [e, beq_iff_eq.mp h3]
  · cases h3
/-- how it is made, its fields unknown to the class -/
def inB (K : PySem.W.Frag) (x : Str) (fs : List Str) : Bool := decide (PySem.W.findIn K (.ref (He.ga K x)) "__init__" = some (some (.ref (initA K x)))) && (decide (PySem.W.typeIn K (.ref (initA K x)) = some (.type "function")) && fs.all fun f => decide (PySem.W.findIn K (.ref (He.ga K x)) f = some none))
theorem inB_ok {K : PySem.W.Frag} {x : Str} {fs : List Str} (h : inB K x fs = true) : PySem.W.findIn K (.ref (He.ga K x)) "__init__" = some (some (.ref (initA K x))) ∧ PySem.W.typeIn K (.ref (initA K x)) = some (.type "function") ∧ ∀ f ∈ fs, PySem.W.findIn K (.ref (He.ga K x)) f = some none := by
  unfold inB at h
  simp only [Bool.and_eq_true, decide_eq_true_eq] at h
  exact ⟨h.1, h.2.1, fun f hf => of_decide_eq_true (List.all_eq_true.mp h.2.2 f hf)⟩
def exB (K : PySem.W.Frag) (n c : Str) (b : Bool) : Bool := decide (PySem.W.exmOne K (.ref (He.ga K n)) (.ref (He.ga K c)) = some b)
theorem exB_ok {K : PySem.W.Frag} {n c : Str} {b : Bool} (h : exB K n c b = true) : PySem.W.exmOne K (.ref (He.ga K n)) (.ref (He.ga K c)) = some b := of_decide_eq_true h
/-! ### the built-in bases -/
def tlV : List Value := [.type "ValueError", .type "Exception", .type "BaseException", .type "object"]
def tlZ : List Value := [.type "ZeroDivisionError", .type "ArithmeticError", .type "Exception", .type "BaseException", .type "object"]
def tlI : List Value := [.type "IndexError", .type "LookupError", .type "Exception", .type "BaseException", .type "object"]
theorem baseV : BaseX "ValueError" "ValueError.__new__" "ValueError.__init__" tlV := ⟨PySem.F.excBase_ValueError, fun self => PySem.F.store_ValueError.passes self, by decide +kernel, by kernel_rfl, by decide +kernel, by decide +kernel, PyProof.Rows.Boot.«ValueError»⟩
theorem baseZ : BaseX "ZeroDivisionError" "ZeroDivisionError.__new__" "ZeroDivisionError.__init__" tlZ := ⟨PySem.F.excBase_ZeroDivisionError, fun self => PySem.F.store_ZeroDivisionError.passes self, by decide +kernel, by kernel_rfl, by decide +kernel, by decide +kernel, PyProof.Rows.Boot.«ZeroDivisionError»⟩
theorem baseI : BaseX "IndexError" "IndexError.__new__" "IndexError.__init__" tlI := ⟨PySem.F.excBase_IndexError, fun self => PySem.F.store_IndexError.passes self, by decide +kernel, by kernel_rfl, by decide +kernel, by decide +kernel, PyProof.Rows.Boot.«IndexError»⟩
theorem vvV (K : PySem.W.Frag) : PySem.W.findCls K (.type "ValueError") (.type "type") "__init__" = some (.val (.builtin "ValueError.__init__")) := (show PySem.W.findCls [] (.type "ValueError") (.type "type") "__init__" = some (.val (.builtin "ValueError.__init__")) by kernel_rfl)
theorem vvZ (K : PySem.W.Frag) : PySem.W.findCls K (.type "ZeroDivisionError") (.type "type") "__init__" = some (.val (.builtin "ZeroDivisionError.__init__")) := (show PySem.W.findCls [] (.type "ZeroDivisionError") (.type "type") "__init__" = some (.val (.builtin "ZeroDivisionError.__init__")) by kernel_rfl)
theorem vvI (K : PySem.W.Frag) : PySem.W.findCls K (.type "IndexError") (.type "type") "__init__" = some (.val (.builtin "IndexError.__init__")) := (show PySem.W.findCls [] (.type "IndexError") (.type "type") "__init__" = some (.val (.builtin "IndexError.__init__")) by kernel_rfl)
theorem passes0 {X : Cx} {W : WX} (tk : Takes X W) : Passes (L2.CX X.prog X.w) X (fun _ _ _ => False) := fun _ _ _ _ e s' I c => tk e s' (XE.of_call I (fun _ _ _ h => h.elim) c)
/-- fields that go with fields -/
inductive FR (K : PySem.W.Frag) (S : Hp) : List (Str × PyData) → List (Str × V) → Prop
  | nil : FR K S [] []
  | cons {f : Str} {t : PyData} {v : V} {fs : List (Str × PyData)} {fv : List (Str × V)} : Dp K S v t → FR K S fs fv → FR K S ((f, t) :: fs) ((f, v) :: fv)
theorem fr_look {K : PySem.W.Frag} {S : Hp} {fs : List (Str × PyData)} {fv : List (Str × V)} (h : FR K S fs fv) : ∀ f t, fs.lookup f = some t → ∃ v, fv.lookup f = some v ∧ Dp K S v t := by
  induction h with
  | nil => intro f t h; cases h
  | @cons g u v fs fv q _ ih =>
    intro f t h
    by_cases e : f = g
    · subst e
      simp only [List.lookup, beq_self_eq_true] at h ⊢
      cases h
      exact ⟨v, rfl, q⟩
    · have e' : (f == g) = false := by simpa using e
      simp only [List.lookup, e'] at h ⊢
      exact ih f t h
def clsS (s : Stmt) (j : Nat) : Stmt := match s with
  | .ClassDef _ _ _ b _ _ _ _ _ _ _ => b.getD j (.Pass ⟨0, 0, 0, 0⟩)
  | s => s
theorem mtab_ok {K : PySem.W.Frag} {c : Value} {l : List (Str × Bool)} (h : ∀ p ∈ l, PySem.W.exmOne K (.ref (He.ga K p.1)) c = some p.2) : ∀ n b, l.lookup n = some b → PySem.W.exmOne K (.ref (He.ga K n)) c = some b := by
  induction l with
  | nil => intro n b q; cases q
  | cons p l ih =>
    obtain ⟨f, x⟩ := p
    intro n b q
    by_cases e : n = f
    · subst e
      simp only [List.lookup, beq_self_eq_true] at q
      cases q
      exact h (n, x) (by simp)
    · have e' : (n == f) = false := by simpa using e
      simp only [List.lookup, e'] at q
      exact ih (fun p hp => h p (by simp [hp])) n b q
section
variable {X : Cx} {e : Expr} {es : List Expr} {gs : VL} {p1 p2 pos : Pos} {B newId initId : String} {tl : List Value}
theorem bI {pl : Sem Bool} {x : Str} (F : BaseX B newId initId tl) (hx : x = (B : Str)) (vV : PySem.W.findCls X.K (.type B) (.type "type") "__init__" = some (.val (.builtin initId))) (hm : X.mg x = none) (hb : bootBuiltins x = some (.type B)) (ha : VA X (e :: es) (gCons (gV 0) gs)) (hg : Gl X x := by rfl)
    (hc : eval (.Call (.Attribute (.Name x p1) "__init__" p2) (e :: es) [] pos) X.env = (do
      let ov ← eval (.Name x p1) X.env
      standAt p2.atName
      let (f, first) ← holding [ov] (getMethod ov "__init__" pl)
      callWith pos f first (backTo pos (starEach (e :: es) X.env)) (backToKw pos (keywordEach [] X.env))) := by rfl)
    (hn : x ≠ "__name__" := by decide) (hdb : (x == ("__debug__" : Str)) = false := by decide) (he : starEach (e :: es) X.env = (false, eval e X.env) :: starEach es X.env := by rfl) (hpl : (backTo pos (starEach es X.env)).any (·.1) = false := by rfl) :
    ∃ ta, PE X (.Call (.Attribute (.Name x p1) "__init__" p2) (e :: es) [] pos) (tBI X.K newId tl ta) ∧ ∀ σ H (Q : List V → Hp → Prop) ys, (gCons (gV 0) gs) σ = some ys → Q ys H → ta σ H Q :=
  let ⟨_, v1, v2⟩ := ha.ex; ⟨_, pe_binit F hx hg hm hb vV v1 hc hn hdb he hpl, v2⟩
theorem oI {W : WX} {pl : Sem Bool} {x : Str} {C fI : Addr} {k nB : Nat} {fd : FuncData} {ps : List Str} {mkB : List V → Option (List (Str × V))} (T : OI X.K C fI) (G : FnOk X.prog X.w X.K X.mg X.base (L2.CX X.prog X.w) k fI fd ps (iSp X.K newId tl nB mkB)) (hr : Room k X.A) (tk : Takes X W) (hm : X.mg x = some (.ref C)) (hb : Binds X.K fd ps []) (ha : VA X (e :: es) (gCons (gV 0) gs)) (hg : Gl X x := by rfl)
    (hc : eval (.Call (.Attribute (.Name x p1) "__init__" p2) (e :: es) [] pos) X.env = (do
      let ov ← eval (.Name x p1) X.env
      standAt p2.atName
      let (f, first) ← holding [ov] (getMethod ov "__init__" pl)
      callWith pos f first (backTo pos (starEach (e :: es) X.env)) (backToKw pos (keywordEach [] X.env))) := by rfl)
    (hdb : (x == ("__debug__" : Str)) = false := by decide) (he : starEach (e :: es) X.env = (false, eval e X.env) :: starEach es X.env := by rfl) (hpl : (backTo pos (starEach es X.env)).any (·.1) = false := by rfl) :
    ∃ ta E', PE X (.Call (.Attribute (.Name x p1) "__init__" p2) (e :: es) [] pos) (tCallS (iSp X.K newId tl nB mkB) E' ta) ∧ ∀ σ H (Q : List V → Hp → Prop) ys, (gCons (gV 0) gs) σ = some ys → Q ys H → ta σ H Q :=
  let ⟨_, v1, v2⟩ := ha.ex; ⟨_, WE W, pe_oinit T G hr hg hm hb (fun σ => passAt tk σ) v1 hc hdb he hpl, v2⟩
end
theorem kn_of {K : PySem.W.Frag} {L : List Str} {f : Str} (h : (L.all fun n => xfB K (He.ga K n) && decide (PySem.W.findIn K (.ref (He.ga K n)) f = some none)) = true) : ∀ n, L.contains n = true → XfC K (He.ga K n) ∧ PySem.W.findIn K (.ref (He.ga K n)) f = some none := fun n hn => by
  have h1 := List.all_eq_true.mp h n (List.contains_iff_mem.mp hn)
  obtain ⟨a, b⟩ := Bool.and_eq_true_iff.mp h1
  exact ⟨xfB_ok a, of_decide_eq_true b⟩
end Ls

namespace Ls
open PySem PySem.Spec PyProof.Rows L2
variable [Tb]
/-! ### calls with keywords, given in the parameters' order -/
structure KV (X : Cx) (W : WX) (kws : List Keyword) (ls : List (Option Nat)) (f : FA) : Prop where
  ex : ∃ t, PK X kws t ∧ Snd X.K W (RArgs X.K ls) t f
/-- two lists of arguments, one behind the other -/
def RA2 (K : PySem.W.Frag) (ls ms : List (Option Nat)) : RR (List V × List V) (List O) := fun σ S H p os B => p.1.length = ls.length ∧ p.2.length = ms.length ∧ ORs K S H (p.1 ++ p.2) os B ∧ ArgAt σ (ls ++ ms) (p.1 ++ p.2)
def aApp (f g : FA) : FA := fun ρ => (f ρ).bind fun os ρ1 => (g ρ1).bind fun us ρ2 => .ok (os ++ us) ρ2
section
variable {K : PySem.W.Frag} {W : WX} {S H : Hp}
theorem ors_app : ∀ {vs ws : List V} {os us : List O} {A B : Fp}, ORs K S H vs os A → ORs K S H ws us B → ORs K S H (vs ++ ws) (os ++ us) (A + B)
  | _, _, _, _, A, B, .nil z, r => ors_fp r fun b => by rw [add_at, z b]; omega
  | _, _, _, _, A, B, .cons q r z, r2 => .cons q (ors_app r r2) fun b => by rw [add_at, add_at, z b]; omega
theorem arg_app {σ : L2.St} : ∀ {ls ms : List (Option Nat)} {vs ws : List V}, vs.length = ls.length → ArgAt σ ls vs → ArgAt σ ms ws → ArgAt σ (ls ++ ms) (vs ++ ws)
  | [], _, [], _, _, _, h => h
  | none :: ls, ms, v :: vs, ws, hl, h, h2 => by
    have h : ArgAt σ ls vs := h
    show ArgAt σ (ls ++ ms) (vs ++ ws)
    exact arg_app (ls := ls) (ms := ms) (vs := vs) (ws := ws) (by simpa using hl) h h2
  | some i :: ls, _, v :: vs, _, hl, h, h2 => ⟨h.1, arg_app (by simpa using hl) h.2 h2⟩
theorem snd_app {ls ms : List (Option Nat)} {t tk : TA} {f g : FA} (h1 : Snd K W (RArgs K ls) t f) (h2 : Snd K W (RArgs K ms) tk g) : Snd K W (RA2 K ls ms) (fun σ H Q => t σ H fun vs H1 => tk σ H1 fun zs H2 => Q (vs, zs) H2) (aApp f g) := by
  refine snd_bind (u := fun vs σ H Q => tk σ H fun zs H2 => Q (vs, zs) H2) h1 fun vs os σ ρ S H A B w e ra => ?_
  have h3 := snd_beside h2 w e
  show OutOk K W (RA2 K ls ms) _ σ S H (A + B) ((g ρ).bind _)
  cases hf : g ρ with
  | bad => exact True.intro
  | exc x' ρ' => rw [hf] at h3; exact fun Q k => h3 _ k
  | ok us ρ2 =>
    rw [hf] at h3
    intro Q k
    refine h3 _ fun zs S' H' A' C w' e' rb t' sub kp => ?_
    have eA : A' + C + B = A' + (B + C) := funext fun b => by simp only [add_at]; omega
    rw [eA] at w' t'
    exact k (vs, zs) S' H' A' (B + C) w' e' ⟨ra.2.2, rb.2.2, ors_app (ors_keep sub kp ra.1) rb.1, arg_app ra.2.2 ra.2.1 rb.2.1⟩ t'
theorem sndE_callK {n : Nat} {F : List O → FO} {ls ms : List (Option Nat)} {t tk : TA} {f g : FA} {dvs : List V} {dd : List PyData} (h1 : Snd K W (RArgs K ls) t f) (h2 : Snd K W (RArgs K ms) tk g) (hd : ∀ S, DpAll K S dvs dd) (hn : ls.length + ms.length + dvs.length = n) :
    SndE K W (fun σ H Q => t σ H fun vs H1 => tk σ H1 fun zs H2 => vs.length = ls.length ∧ zs.length = ms.length ∧ spOf K n F (vs ++ zs ++ dvs) H2 Q (WE W σ)) (eCall F (ls ++ ms) dd (aApp f g)) := by
  refine snd_bind (u := fun (p : List V × List V) σ H Q => p.1.length = ls.length ∧ p.2.length = ms.length ∧ spOf K n F (p.1 ++ p.2 ++ dvs) H Q (WE W σ)) (snd_app h1 h2) fun p os σ ρ S H A B w e r => ?_
  show OutOk K W (ROr K) _ σ S H (A + B) (match F (os ++ dd.map O.fz) with
    | .ok o as' => Out.ok o (backs (ls ++ ms) as' ρ)
    | .exc x as' => .exc x (backs (ls ++ ms) as' ρ)
    | .bad => .bad)
  have hl : (p.1 ++ p.2).length = (ls ++ ms).length := by rw [List.length_append, List.length_append, r.1, r.2.1]
  have hor := ors_append r.2.2.1 (hd S)
  have w1 : WF S H B := w.less le4
  have w2 : WF S H (B + A) := by rw [add_comm']; exact w
  have hz : (p.1 ++ p.2 ++ dvs).length = n := by rw [List.length_append, hl, List.length_append]; exact hn
  cases hF : F (os ++ dd.map O.fz) with
  | bad => exact True.intro
  | ok o as' =>
    intro Q k
    refine ⟨r.1, r.2.1, hz, S, B, _, w1, hor, ?_⟩
    rw [hF]
    intro v S' H' A' C w' r' q' t'
    obtain ⟨w3, k3⟩ := t'.frame w2 w'
    obtain ⟨A2, e4, l4⟩ := er_backs (ls ++ ms) (er_keep (K := K) t'.fz e fun b hb => (k3 b hb).1) r' (argAt_more r.2.2.2)
    have t4 : Tr S H (A + B) S' H' (A' + C + A) := by rw [add_comm' A B]; exact t'.frameTr
    have l5 : ∀ b, (A2 + C) b ≤ (A' + C + A) b := fun b => by have := l4 b; simp only [add_at] at this ⊢; omega
    exact k v S' H' A2 C (w3.less l5) e4 q' (t4.less l5)
  | exc x as' =>
    intro Q k
    refine ⟨r.1, r.2.1, hz, S, B, _, w1, hor, ?_⟩
    rw [hF]
    intro cls d S' H' A' w' r' x' t'
    obtain ⟨w3, k3⟩ := t'.frame w2 w'
    obtain ⟨A2, e4, l4⟩ := er_backs (ls ++ ms) (er_keep (K := K) t'.fz e fun b hb => (k3 b hb).1) r' (argAt_more r.2.2.2)
    have t4 : Tr S H (A + B) S' H' (A' + A) := by rw [add_comm' A B]; exact t'.frameTr
    have l5 : ∀ b, A2 b ≤ (A' + A) b := fun b => by have := l4 b; simp only [add_at] at this ⊢; omega
    exact k cls d S' H' A2 (w3.less l5) e4 x' (t4.less l5)
end
section
variable {X : Cx} {W : WX} {e : Expr} {es : List Expr} {kws : List Keyword} {ls ms : List (Option Nat)} {f : FE} {r g : FA} {nm : Option Str} {kpos pos : Pos}
theorem kv_nil : KV X W [] [] aNil := ⟨_, pk_nil, snd_anil⟩
theorem kv_cons (h : EV X W e f) (hr : KV X W kws ls r) : KV X W (⟨nm, e, kpos⟩ :: kws) (none :: ls) (aCons f r) :=
  let ⟨_, h1, h2⟩ := h.ex; let ⟨_, r1, r2⟩ := hr.ex; ⟨_, pk_cons h1 r1, snd_acons (l := none) (ROr X.K) (fun _ _ _ _ _ _ q => ⟨q, fun _ z => nomatch z⟩) stays_or h2 r2⟩
theorem kv_lend (i : Nat) {x : Str} (hr : KV X W kws ls r) (hN : X.N[i]? = some x := by rfl) (hv : Vis X.env.scope x := by first | exact Or.inl rfl | exact Or.inr (Or.inl rfl) | exact Or.inr (Or.inr rfl)) (hd : (x == ("__debug__" : Str)) = false := by decide)
    (hcd : (x == ("__classdict__" : Str)) = false := by decide) : KV X W (⟨nm, .Name x pos, kpos⟩ :: kws) (some i :: ls) (aCons (eLend i) r) :=
  let ⟨_, r1, r2⟩ := hr.ex
  ⟨_, pk_cons (pe_var hN hv hd hcd) r1, snd_acons (l := some i) (RLend X.K i) (fun _ _ _ _ _ _ q => ⟨q.1, fun j z => by cases z; exact q.2⟩) (fun σ S H S' H' v a B h k r => ⟨or_keep h k r.1, r.2⟩) snd_lend r2⟩
/-- how such a call binds: n values by place, m by name, the rest by default -/
def KwB (K : PySem.W.Frag) (fd : FuncData) (ps ks : List Str) (n m : Nat) (ds : List Value) : Prop := ∀ (s : Shared) (us ws : List Value), K.In s.heap → us.length = n → ws.length = m → BindsTo s fd ⟨us, ks.zip ws⟩ (ps.zip (us ++ ws ++ ds))
theorem ev_callK {k : Nat} {f : Addr} {fd : FuncData} {ps ks : List Str} {n : Nat} {F : List O → FO} {ds : List Value} {dvs : List V} {dd : List PyData} {fa fk : FA} {x : Str} {p : Pos} (G : FnOk X.prog X.w X.K X.mg X.base (L2.CX X.prog X.w) k f fd ps (spOf X.K n F)) (hr : Room k X.A) (tk : Takes X W)
    (hg : Gl X x) (hm : X.mg x = some (.ref f)) (hk : PySem.W.keepIn X.K (.ref f) = true) (hb : KwB X.K fd ps ks ls.length ms.length ds) (hd : Vals dvs ds) (hdd : ∀ S, DpAll X.K S dvs dd) (ha : AV X W (e :: es) ls fa) (hw : KV X W kws ms fk) (hn : ls.length + ms.length + dvs.length = n := by rfl)
    (hall : (backToKw pos (keywordEach kws X.env)).all (·.1.isSome) = true := by rfl) (hks : (backToKw pos (keywordEach kws X.env)).filterMap (·.1) = ks := by rfl)
    (hdb : (x == ("__debug__" : Str)) = false := by decide) (he : starEach (e :: es) X.env = (false, eval e X.env) :: starEach es X.env := by rfl) (hpl : ((backTo pos (starEach (e :: es) X.env)).any (·.1) || (backToKw pos (keywordEach kws X.env)).any (·.1.isNone)) = false := by rfl) :
    EV X W (.Call (.Name x p) (e :: es) kws pos) (eCall F (ls ++ ms) dd (aApp fa fk)) := by
  obtain ⟨t, a1, a2⟩ := ha.ex
  obtain ⟨tw, b1, b2⟩ := hw.ex
  refine ⟨_, ⟨fun pins s σ H Q I h => wpAny_Call_Name_kw (ld_glob I hg hm (PySem.W.callWith_KW (h₀ := X.base) I.ok.mod.kin hk hall (thn (a1.run pos pins s σ H _ I h) fun us s1 ⟨vs, H1, I1, r, q⟩ => thn (b1.run pos pins s1 σ H1 _ I1 q) fun ws s2 ⟨zs, H2, I2, rz, l1, l2, q2⟩ => ⟨I2.kIn, ?_⟩) hpl he) hdb)⟩, sndE_callK a2 b2 hdd hn⟩
  rw [hks]
  have r2 : Vals (vs ++ zs ++ dvs) (us ++ ws ++ ds) := (r.append rz).append hd
  refine wpAny_call (codeAny_mono (G.run X.A X.stack s2 H2 ⟨us, ks.zip ws⟩ (us ++ ws ++ ds) (vs ++ zs ++ dvs) Q (WE W σ) hr I2.env0 (hb s2 us ws I2.kIn (r.length.symm.trans l1) (rz.length.symm.trans l2)) r2 q2) fun rr s' hq => ?_)
  cases rr with
  | error er => exact passAt tk σ pins H2 s2 er s' I2 hq
  | ok fl =>
    cases fl with
    | ret u => exact I2.after hq
    | next => exact hq.elim
    | brk => exact hq.elim
    | cont => exact hq.elim
end
theorem bindsK {K : PySem.W.Frag} {x qual : Str} {params : Arguments} {body : List Stmt} {scope : Scope} {kws : List (Str × V)} {f : Addr} {fd : FuncData} {ps ks : List Str} {n m : Nat} (F : FunD K x qual params body scope [] kws f fd)
    (h : ∀ (kV doc pm : Value) (an : Option Addr) (cdv ct : Value) (us ws : List Value), us.length = n → ws.length = m → bindArgs (PySem.W.fnOf x qual params body scope .none kV doc pm an cdv ct) ⟨us, ks.zip ws⟩ = pure (ps.zip (us ++ ws))) : KwB K fd ps ks n m [] := by
  obtain ⟨z1, z2, dV, kV, z3, z4, z5, z6, z7, z8, rfl, z9, z10, hD, z11⟩ := F.ex
  rcases hD with ⟨_, rfl⟩ | ⟨e, _⟩
  · intro s us ws _ l1 l2
    rw [List.append_nil]
    exact .of_eq (h kV z3 z4 z5 z6 z7 us ws l1 l2)
  · exact absurd rfl e
end Ls

namespace Ls
open PySem PySem.Spec PyProof.Rows L2
variable [Tb]
/-! ### xs[::-1] -/
theorem bounds_rev (n : Nat) : sliceBounds none none (some (-1)) n = ((n : Int) - 1, -1, -1) := rfl
theorem range_rev (n : Nat) : sliceRange ((n : Int) - 1) (-1) (-1) = (List.range n).map fun k => n - 1 - k := by
  unfold sliceRange
  have hc : (if (-1 : Int) > 0 then (if (n : Int) - 1 < -1 then (-1 - ((n : Int) - 1) + -1 - 1) / -1 else 0) else (if (n : Int) - 1 > -1 then ((n : Int) - 1 - -1 - -1 - 1) / (- -1) else 0)) = (n : Int) := by
    rw [if_neg (by decide)]
    by_cases h : (n : Int) - 1 > -1
    · rw [if_pos h]; simp
    · rw [if_neg h]; omega
  dsimp only
  rw [hc, Int.toNat_natCast]
  apply List.map_congr_left
  intro k hk
  have := List.mem_range.mp hk
  omega
theorem pick_all {α : Type} (l : List α) : (List.range l.length).filterMap (fun k => l[k]?) = l := by
  induction l with
  | nil => rfl
  | cons x l ih =>
    rw [List.length_cons, List.range_succ_eq_map, List.filterMap_cons]
    simp only [List.getElem?_cons_zero, List.filterMap_map]
    congr 1
theorem fm_congr {α β : Type} {f g : α → Option β} : ∀ {l : List α}, (∀ k ∈ l, f k = g k) → l.filterMap f = l.filterMap g
  | [], _ => rfl
  | x :: l, h => by rw [List.filterMap_cons, List.filterMap_cons, h x (by simp), fm_congr fun k hk => h k (by simp [hk])]
theorem pick_rev (its : List Value) : slicePick its.toArray none none (some (-1)) = its.reverse.toArray := by
  unfold slicePick
  rw [bounds_rev]
  dsimp only
  rw [List.size_toArray, range_rev, List.filterMap_map]
  congr 1
  have e : its.reverse = (List.range its.reverse.length).filterMap (fun k => its.reverse[k]?) := (pick_all _).symm
  rw [e, List.length_reverse]
  apply fm_congr
  intro k hk
  have := List.mem_range.mp hk
  simp [List.getElem?_reverse this]
/-- xs[::-1] of a list: a new list -/
def tRev (K : PySem.W.Frag) (te : TE) : TE := fun σ H Q => te σ H fun x H1 => ∃ a xs, x = .ref a ∧ SqL K H1 a xs ∧ ∀ p, H1 p = none → Q (.ref p) (upd H1 p (.lst xs.reverse))
theorem pe_rev {X : Cx} {e m : Expr} {te : TE} {pos p2 : Pos} (he : PE X e te) (hm : ∀ (H : Hp) σ (Q : VK), Q (.int (-1)) H → ∃ tm, PE X m tm ∧ tm σ H Q) (hop : ∀ v i, subscripted (.Slice none none (some m) p2) false v i = operate [v, i] (getItem v i)) : PE X (.Subscript e (.Slice none none (some m) p2) pos) (tRev X.K te) := by
  refine ⟨fun pins s σ H Q I h => Subscript_ (thn (he.run pins s σ H _ I h) fun v s1 ⟨x, H1, I1, r1, a, xs, ex, hx, q⟩ => ?_)⟩
  subst ex
  cases r1
  refine wpAny_Slice ?_
  rw [evalPart_none]
  refine wpAny_pure (wpAny_pure ?_)
  rw [evalPart_some]
  obtain ⟨tm, m1, m2⟩ := hm H1 σ (fun x H2 => x = .int (-1) ∧ H2 = H1) ⟨rfl, rfl⟩
  refine thn (m1.run pins s1 σ H1 _ I1 m2) fun u s2 ⟨y, H2, I2, r2, ey, eH⟩ => ?_
  subst ey; subst eH
  obtain ⟨t, rfl⟩ := r2
  have I4 : Inv X pins σ H2 { s2 with heap := s2.heap.push { cls := .type "slice", data := .fields #[.none, .none, .int (-1) t] } } := I2.kept (t' := s2.toks) fun b ob q => Heap.get?_push_of_some _ q
  obtain ⟨its, r, ht, hz⟩ := I4.list hx
  have hlen := r.length
  show wpAny (model X.prog X.w) X.A (subscriptTail e (.Slice none none (some m) p2) (.ref a) (.ref s2.heap.objs.size)) (EP X pins σ Q) X.xe { s2 with heap := s2.heap.push { cls := .type "slice", data := .fields #[.none, .none, .int (-1) t] } }
  refine tail_any (ops := [.ref a, .ref s2.heap.objs.size]) ht.isList.typeIs slot_list_getitem.lookup ?_ (hop _ _)
  refine wpAny_getItem_list_slice ht.isList (Heap.IsSliceOf.new ..) .none .none (.int (-1) t) (by simp) ?_ (by rw [List.size_toArray]; omega)
  rw [pick_rev]
  exact ⟨.ref _, _, I4.laid (t' := s2.toks) (o := .lst xs.reverse) (fun b ob q => Heap.get?_push_of_some _ q) (Nat.le_refl _) ⟨by rw [List.length_reverse]; exact hz, _, 0, r.reverse, Heap.get?_push_size _ rfl⟩, rfl, q _ (I4.hok.fresh (Nat.le_refl _))⟩
def eRev (fa : FP) : FE := fun ρ => (fa ρ).bind fun a ρ1 => match (pkO ρ1 a).bind itemsO with
  | some (true, ds) => .ok (.lst (ds.reverse.map O.fz)) ρ1
  | _ => .bad
theorem dpall_rev {K : PySem.W.Frag} {S : Hp} : ∀ {vs : List V} {ds : List PyData}, DpAll K S vs ds → DpAll K S vs.reverse ds.reverse
  | _, _, .nil => .nil
  | _, _, .cons (v := v) (d := d) q r => by
    rw [List.reverse_cons, List.reverse_cons]
    have app : ∀ {vs : List V} {ds : List PyData}, DpAll K S vs ds → DpAll K S (vs ++ [v]) (ds ++ [d]) := by
      intro vs
      induction vs with
      | nil => intro ds h; cases h; exact .cons q .nil
      | cons x vs ih => intro ds h; cases h with | cons a b => exact .cons a (ih b)
    exact app (dpall_rev r)
theorem sndE_rev {K : PySem.W.Frag} {W : WX} {ta : TE} {fa : FP} (ha : SndP K W ta fa) : SndE K W (tRev K ta) (eRev fa) := by
  refine snd_one (r := fun (x : V) (H : Hp) (Q : VK) => ∃ a xs, x = .ref a ∧ SqL K H a xs ∧ ∀ p, H p = none → Q (.ref p) (upd H p (.lst xs.reverse))) ha fun x a σ ρ S H A B w e ra => ?_
  cases h : (pkO ρ a).bind itemsO with
  | none => exact True.intro
  | some c =>
    obtain ⟨l, ds⟩ := c
    cases l with
    | false => exact True.intro
    | true =>
      obtain ⟨o, h1, h2⟩ := Option.bind_eq_some_iff.mp h
      obtain ⟨B', q⟩ := ra o h1
      obtain ⟨p, vs, ev, sq, da⟩ := or_items w.sub q h2
      exact fun Q k => ⟨p, vs, ev, sq, fun l hl => lstFz w e (dpall_rev da) hl k⟩
theorem ev_rev {X : Cx} {W : WX} {e : Expr} {fa : FP} {j : Nat} {p2 pos q1 q2 : Pos} (h : PV X W e fa) (hop : ∀ v i, subscripted (.Slice none none (some (.UnaryOp .USub (.Constant (.int 1) j q1) q2)) p2) false v i = operate [v, i] (getItem v i) := by intros; rfl) :
    EV X W (.Subscript e (.Slice none none (some (.UnaryOp .USub (.Constant (.int 1) j q1) q2)) p2) pos) (eRev fa) := by
  obtain ⟨t, h1, h2⟩ := h.ex
  exact ⟨_, pe_rev h1 (fun H σ Q q => ⟨_, pe_un un_neg pe_int, ⟨1, rfl, q⟩⟩) hop, sndE_rev h2⟩
end Ls

/-! running: each worth by first-order steps, as rows of one simp set -/
namespace Ls
open PySem L2
section
variable {ρ ρ1 ρ2 : En} {o o1 o2 : O} {p q : Pk} {d d1 d2 c : PyData} {f g h : FE} {fa fb fc : FP} {t u : FT} {a b : Bool} {i j : Nat} {os : List O} {x : Xn} {α : Type}
def sel (b : Bool) (f g : En → α) (ρ : En) : α := if b then f ρ else g ρ
theorem x_selT {f g : En → α} : sel true f g ρ = f ρ := rfl
theorem x_selF {f g : En → α} : sel false f g ρ = g ρ := rfl
theorem x_selN {f g : En → α} : sel (!b) f g ρ = sel b g f ρ := by cases b <;> rfl
theorem x_selDT {f g : En → α} {P : Prop} [Decidable P] (h : P) : sel (decide P) f g ρ = f ρ := by unfold sel; rw [if_pos (decide_eq_true h)]
theorem x_selDF {f g : En → α} {P : Prop} [Decidable P] (h : ¬ P) : sel (decide P) f g ρ = g ρ := by unfold sel; rw [decide_eq_false h]; rfl
theorem sel_cases {f g : En → α} {Q : α → Prop} {P : Prop} [Decidable P] (h1 : P → Q (f ρ)) (h2 : ¬ P → Q (g ρ)) : Q (sel (decide P) f g ρ) := by
  by_cases h : P
  · rw [x_selDT h]; exact h1 h
  · rw [x_selDF h]; exact h2 h
def rYes : FT := fun ρ => .ok true ρ
def rNo : FT := fun ρ => .ok false ρ
def rYesE : FE := fun ρ => .ok (.fz (.bool true)) ρ
def rNoE : FE := fun ρ => .ok (.fz (.bool false)) ρ
theorem x_rYes : rYes ρ = .ok true ρ := rfl
theorem x_rNo : rNo ρ = .ok false ρ := rfl
theorem x_rYesE : rYesE ρ = .ok (.fz (.bool true)) ρ := rfl
theorem x_rNoE : rNoE ρ = .ok (.fz (.bool false)) ρ := rfl
theorem x_yes : tYesF ρ = .ok true ρ := rfl
theorem x_bne {i j : Int} : (i != j) = !decide (i = j) := by by_cases h : i = j <;> simp [h]
theorem x_beq {i j : Int} : (i == j) = decide (i = j) := by by_cases h : i = j <;> simp [h]
theorem x1 : (some (some o)).bind id = some o := rfl
theorem x2 : pkO ρ (.v i) = (ρ[i]?).bind id := rfl
theorem x3 : pkO ρ (.o o) = some o := rfl
theorem x4 : pkD ρ p = (pkO ρ p).bind frz := rfl
theorem x_obind {α β : Type} {x : α} {f : α → Option β} : (some x).bind f = f x := rfl
theorem x_omap {α β : Type} {x : α} {f : α → β} : (some x).map f = some (f x) := rfl
theorem x_id {α : Type} {x : α} : id x = x := rfl
theorem x5 : frz (.fz d) = some d := rfl
theorem x6 : frz (.lst os) = (frzs os).map .list := rfl
theorem x_frzs0 : frzs [] = some [] := by simp [frzs]
theorem x_frzs1 : frzs (.fz d :: os) = (frzs os).map fun ds => d :: ds := by simp [frzs, frz]
theorem x_frzs2 {ds : List PyData} : frzs (ds.map O.fz) = some ds := frzs_map ds
theorem x_frzs3 {us : List O} : frzs (.lst us :: os) = (frz (.lst us)).bind fun d => (frzs os).map fun ds => d :: ds := by simp [frzs]
theorem x_get0 {y : Option O} {l : En} : (y :: l)[0]? = some y := rfl
theorem x_getS {y : Option O} {l : En} {n : Nat} : (y :: l)[n + 1]? = l[n]? := rfl
theorem x_set0 {y z : Option O} {l : En} : List.set (y :: l) 0 z = z :: l := rfl
theorem x_setS {y z : Option O} {l : En} {n : Nat} : List.set (y :: l) (n + 1) z = y :: List.set l n z := rfl
theorem x_len0 : List.length ([] : En) = 0 := rfl
theorem x_lenS {y : Option O} {l : En} : List.length (y :: l) = List.length l + 1 := rfl
theorem x_app0 {l : List O} : ([] ++ l) = l := rfl
theorem x_appS {y : O} {k l : List O} : ((y :: k) ++ l) = y :: (k ++ l) := rfl
theorem x_appN {l : List O} : (l ++ []) = l := List.append_nil l
theorem x_lapp0 {l : List (Option Nat)} : ([] ++ l) = l := rfl
theorem x_lappS {y : Option Nat} {k l : List (Option Nat)} : ((y :: k) ++ l) = y :: (k ++ l) := rfl
theorem x_map0 : List.map O.fz [] = [] := rfl
theorem x_mapS {ds : List PyData} : List.map O.fz (d :: ds) = .fz d :: List.map O.fz ds := rfl
def putE : En → Nat → O → Option En
  | [], _, _ => none
  | _ :: l, 0, o => some (some o :: l)
  | y :: l, n + 1, o => (putE l n o).map fun l => y :: l
theorem putE_eq : ∀ (ρ : En) (i : Nat) (o : O), putE ρ i o = if i < ρ.length then some (ρ.set i (some o)) else none
  | [], _, _ => rfl
  | _ :: l, 0, o => by simp [putE]
  | y :: l, n + 1, o => by
    unfold putE
    rw [putE_eq l n o]
    by_cases h : n < l.length <;> simp [h]
theorem x_put0 {y : Option O} {l : En} : putE (y :: l) 0 o = some (some o :: l) := rfl
theorem x_putS {y : Option O} {l : En} {n : Nat} : putE (y :: l) (n + 1) o = (putE l n o).map fun l => y :: l := rfl
theorem x7 : eC d ρ = .ok (.fz d) ρ := rfl
def kPV (z : Option (Option O)) (i : Nat) (ρ : En) : Out Pk := match z with
  | some (some _) => .ok (.v i) ρ
  | _ => .bad
theorem x8 : pVar i ρ = kPV ρ[i]? i ρ := rfl
theorem x9 : kPV (some (some o)) i ρ = .ok (.v i) ρ := rfl
def kPE (z : Out O) : Out Pk := match z with
  | .ok o ρ => .ok (.o o) ρ
  | .exc x ρ => .exc x ρ
  | .bad => .bad
theorem x10 : pE f ρ = kPE (f ρ) := by unfold pE kPE; cases f ρ <;> rfl
theorem x11 : kPE (.ok o ρ) = .ok (.o o) ρ := rfl
theorem x12 : kPE (.exc x ρ) = .exc x ρ := rfl
def kEV (z : Option (Option O)) (i : Nat) (ρ : En) : Out O := match z with
  | some (some (.fz d)) => .ok (.fz d) ρ
  | some (some (.raw v)) => .ok (.raw v) ρ
  | some (some o) => (match frz o with
    | some d => .ok (.fz d) (ρ.set i (some (.fz d)))
    | none => .bad)
  | _ => .bad
theorem x13 : eVar i ρ = kEV ρ[i]? i ρ := rfl
theorem x14 : kEV (some (some (.fz d))) i ρ = .ok (.fz d) ρ := rfl
def kEV2 (z : Option PyData) (i : Nat) (ρ : En) : Out O := match z with
  | some d => .ok (.fz d) (ρ.set i (some (.fz d)))
  | none => .bad
theorem x15 : kEV (some (some (.lst os))) i ρ = kEV2 (frz (.lst os)) i ρ := rfl
theorem x16 : kEV2 (some d) i ρ = .ok (.fz d) (ρ.set i (some (.fz d))) := rfl
def kLend (z : Option (Option O)) (i : Nat) (ρ : En) : Out O := match z with
  | some (some (.fz d)) => .ok (.fz d) ρ
  | some (some (.raw v)) => .ok (.raw v) ρ
  | some (some (.exn _ _ _ _)) => .bad
  | some (some o) => .ok o (ρ.set i none)
  | _ => .bad
theorem x17 : eLend i ρ = kLend ρ[i]? i ρ := rfl
theorem x18 : kLend (some (some (.fz d))) i ρ = .ok (.fz d) ρ := rfl
theorem x19 : kLend (some (some (.lst os))) i ρ = .ok (.lst os) (ρ.set i none) := rfl
variable {op op' : PyData → PyData → Option PyData}
def kOp1 (op : PyData → PyData → Option PyData) (fb : FP) (z : Out Pk) : Out O := z.bind fun a ρ1 => (fb ρ1).bind fun b ρ2 => match (pkD ρ2 a).bind fun x => (pkD ρ2 b).bind fun y => op x y with
  | some c => .ok (.fz c) ρ2
  | none => .bad
theorem x20 : eOp op fa fb ρ = kOp1 op fb (fa ρ) := rfl
def kOp2 (op : PyData → PyData → Option PyData) (a : Pk) (z : Out Pk) : Out O := z.bind fun b ρ2 => match (pkD ρ2 a).bind fun x => (pkD ρ2 b).bind fun y => op x y with
  | some c => .ok (.fz c) ρ2
  | none => .bad
theorem x21 : kOp1 op fb (.ok p ρ) = kOp2 op p (fb ρ) := rfl
theorem x22 : kOp1 op fb (.exc x ρ) = .exc x ρ := rfl
def kOp3 (op : PyData → PyData → Option PyData) (a b : Option PyData) (ρ : En) : Out O := match a.bind fun x => b.bind fun y => op x y with
  | some c => .ok (.fz c) ρ
  | none => .bad
theorem x23 : kOp2 op p (.ok q ρ) = kOp3 op (pkD ρ p) (pkD ρ q) ρ := rfl
theorem x24 : kOp2 op p (.exc x ρ) = .exc x ρ := rfl
def kD (z : Option PyData) (ρ : En) : Out O := match z with
  | some c => .ok (.fz c) ρ
  | none => .bad
theorem x25 : kOp3 op (some d) (some c) ρ = kD (op d c) ρ := rfl
theorem x26 : kD (some c) ρ = .ok (.fz c) ρ := rfl
def kO (z : Option O) (ρ : En) : Out O := match z with
  | some c => .ok c ρ
  | none => .bad
theorem x27 : kO (some o) ρ = .ok o ρ := rfl
def kTof (z : Out O) : Out Bool := z.bind fun o ρ' => match o with
  | .fz (.bool b) => .ok b ρ'
  | _ => .bad
theorem x28 : tOf f ρ = kTof (f ρ) := rfl
theorem x29 : kTof (.ok (.fz (.bool b)) ρ) = .ok b ρ := rfl
theorem x30 : kTof (.exc x ρ) = .exc x ρ := rfl
def kTru (z : Out Pk) : Out Bool := z.bind fun p ρ' => match (pkD ρ' p).bind dTru with
  | some b => .ok b ρ'
  | none => .bad
theorem x31 : tTru fa ρ = kTru (fa ρ) := rfl
theorem x32 : kTru (.exc x ρ) = .exc x ρ := rfl
def kB (z : Option Bool) (ρ : En) : Out Bool := match z with
  | some b => .ok b ρ
  | none => .bad
theorem x33 : kTru (.ok p ρ) = kB ((pkD ρ p).bind dTru) ρ := rfl
theorem x34 : kB (some b) ρ = .ok b ρ := rfl
def kNot (z : Out Bool) : Out Bool := z.bind fun b ρ' => .ok (!b) ρ'
theorem x35 : tNotF t ρ = kNot (t ρ) := rfl
theorem x36 : kNot (.ok b ρ) = .ok (!b) ρ := rfl
theorem x37 : kNot (.exc x ρ) = .exc x ρ := rfl
def kSel {α : Type} (f g : En → Out α) (z : Out Bool) : Out α := z.bind fun b ρ' => sel b f g ρ'
theorem x38 {f g : En → Out α} : kSel f g (.ok b ρ) = sel b f g ρ := rfl
theorem x39 {f g : En → Out α} : kSel f g (.exc x ρ) = .exc x ρ := rfl
theorem x40 : tAndF t u ρ = kSel u rNo (t ρ) := rfl
theorem x41 : tOrF t u ρ = kSel rYes u (t ρ) := rfl
theorem x42 : eAnd f g ρ = kSel g rNoE (tOf f ρ) := rfl
theorem x43 : eOr f g ρ = kSel rYesE g (tOf f ρ) := rfl
theorem x44 : eIf t f g ρ = kSel f g (t ρ) := rfl
def kNotE (z : Out Bool) : Out O := z.bind fun b ρ' => .ok (.fz (.bool !b)) ρ'
theorem x45 : eNot fa ρ = kNotE (tTru fa ρ) := rfl
theorem x46 : kNotE (.ok b ρ) = .ok (.fz (.bool !b)) ρ := rfl
theorem x47 : kNotE (.exc x ρ) = .exc x ρ := rfl
def kNeg (z : Out Pk) : Out O := z.bind fun p ρ' => match pkD ρ' p with
  | some (.int i) => .ok (.fz (.int (-i))) ρ'
  | _ => .bad
theorem x48 : eNeg fa ρ = kNeg (fa ρ) := rfl
theorem x49 : kNeg (.exc x ρ) = .exc x ρ := rfl
def kNeg2 (z : Option PyData) (ρ : En) : Out O := match z with
  | some (.int i) => .ok (.fz (.int (-i))) ρ
  | _ => .bad
theorem x50 : kNeg (.ok p ρ) = kNeg2 (pkD ρ p) ρ := rfl
theorem x51 {k : Int} : kNeg2 (some (.int k)) ρ = .ok (.fz (.int (-k))) ρ := rfl
def kCh0 (op op' : PyData → PyData → Option PyData) (b : Pk) (fc : FP) (z : Option PyData) (ρ2 : En) : Out O := match z with
  | some (.bool true) => (fc ρ2).bind fun c ρ3 => (match (pkD ρ3 b).bind fun y => (pkD ρ3 c).bind fun z => op' y z with
    | some d => .ok (.fz d) ρ3
    | none => .bad)
  | some (.bool false) => .ok (.fz (.bool false)) ρ2
  | _ => .bad
def kChB (op' : PyData → PyData → Option PyData) (b : Pk) (fc : FP) (ρ : En) : Out O := kOp2 op' b (fc ρ)
theorem x52 : kChB op' p fc ρ = kOp2 op' p (fc ρ) := rfl
theorem x53 : kCh0 op op' p fc (some (.bool b)) ρ = sel b (kChB op' p fc) rNoE ρ := by cases b <;> rfl
def kCh1 (op op' : PyData → PyData → Option PyData) (fb fc : FP) (z : Out Pk) : Out O := z.bind fun a ρ1 => (fb ρ1).bind fun b ρ2 => kCh0 op op' b fc ((pkD ρ2 a).bind fun x => (pkD ρ2 b).bind fun y => op x y) ρ2
theorem x54 : eChain op op' fa fb fc ρ = kCh1 op op' fb fc (fa ρ) := rfl
theorem x55 : kCh1 op op' fb fc (.exc x ρ) = .exc x ρ := rfl
def kCh2 (op op' : PyData → PyData → Option PyData) (fc : FP) (a : Pk) (z : Out Pk) : Out O := z.bind fun b ρ2 => kCh0 op op' b fc ((pkD ρ2 a).bind fun x => (pkD ρ2 b).bind fun y => op x y) ρ2
theorem x56 : kCh1 op op' fb fc (.ok p ρ) = kCh2 op op' fc p (fb ρ) := rfl
theorem x57 : kCh2 op op' fc p (.exc x ρ) = .exc x ρ := rfl
theorem x58 : kCh2 op op' fc p (.ok q ρ) = kCh0 op op' q fc ((pkD ρ p).bind fun x => (pkD ρ q).bind fun y => op x y) ρ := rfl
variable {r s : FA}
theorem x59 : aNil ρ = .ok [] ρ := rfl
def kA1 (r : FA) (z : Out O) : Out (List O) := z.bind fun o ρ1 => (r ρ1).bind fun os ρ2 => .ok (o :: os) ρ2
theorem x60 : aCons f r ρ = kA1 r (f ρ) := rfl
theorem x61 : kA1 r (.exc x ρ) = .exc x ρ := rfl
def kA2 (o : O) (z : Out (List O)) : Out (List O) := z.bind fun os ρ2 => .ok (o :: os) ρ2
theorem x62 : kA1 r (.ok o ρ) = kA2 o (r ρ) := rfl
theorem x63 : kA2 o (.ok os ρ) = .ok (o :: os) ρ := rfl
theorem x64 : kA2 o (.exc x ρ) = .exc x ρ := rfl
def kApp1 (s : FA) (z : Out (List O)) : Out (List O) := z.bind fun os ρ1 => (s ρ1).bind fun us ρ2 => .ok (os ++ us) ρ2
theorem x65 : aApp r s ρ = kApp1 s (r ρ) := rfl
theorem x66 : kApp1 s (.exc x ρ) = .exc x ρ := rfl
def kApp2 (os : List O) (z : Out (List O)) : Out (List O) := z.bind fun us ρ2 => .ok (os ++ us) ρ2
theorem x67 : kApp1 s (.ok os ρ) = kApp2 os (s ρ) := rfl
theorem x68 {us : List O} : kApp2 os (.ok us ρ) = .ok (os ++ us) ρ := rfl
theorem x69 : kApp2 os (.exc x ρ) = .exc x ρ := rfl
variable {ls : List (Option Nat)}
def kBk (z : Option (Option O)) (i : Nat) (o : O) (ρ : En) : En := match z with
  | some none => ρ.set i (some o)
  | _ => ρ
theorem x70 : backs (some i :: ls) (o :: os) ρ = backs ls os (kBk ρ[i]? i o ρ) := rfl
theorem x71 : backs (none :: ls) (o :: os) ρ = backs ls os ρ := rfl
theorem x72 : backs [] os ρ = ρ := rfl
theorem x73 : backs ls [] ρ = ρ := by cases ls <;> simp [backs]
theorem x74 : kBk (some none) i o ρ = ρ.set i (some o) := rfl
theorem x75 : kBk (some (some o1)) i o ρ = ρ := rfl
variable {F : List O → FO} {dd : List PyData}
def kC1 (F : List O → FO) (ls : List (Option Nat)) (dd : List PyData) (z : Out (List O)) : Out O := z.bind fun os ρ1 => match F (os ++ dd.map O.fz) with
  | .ok o as' => .ok o (backs ls as' ρ1)
  | .exc x as' => .exc x (backs ls as' ρ1)
  | .bad => .bad
theorem x76 : eCall F ls dd r ρ = kC1 F ls dd (r ρ) := rfl
theorem x77 : kC1 F ls dd (.exc x ρ) = .exc x ρ := rfl
def kC2 (ls : List (Option Nat)) (z : FO) (ρ1 : En) : Out O := match z with
  | .ok o as' => .ok o (backs ls as' ρ1)
  | .exc x as' => .exc x (backs ls as' ρ1)
  | .bad => .bad
theorem x78 : kC1 F ls dd (.ok os ρ) = kC2 ls (F (os ++ dd.map O.fz)) ρ := rfl
theorem x79 : kC2 ls (.ok o os) ρ = .ok o (backs ls os ρ) := rfl
theorem x80 : kC2 ls (.exc x os) ρ = .exc x (backs ls os ρ) := rfl
def kIx1 (fb : FP) (z : Out Pk) : Out O := z.bind fun a ρ1 => (fb ρ1).bind fun b ρ2 => match pkO ρ2 a, pkD ρ2 b with
  | some o, some (.int i) => (match ixO o i with
    | some d => .ok (.fz d) ρ2
    | none => .bad)
  | _, _ => .bad
theorem x81 : eIx fa fb ρ = kIx1 fb (fa ρ) := rfl
theorem x82 : kIx1 fb (.exc x ρ) = .exc x ρ := rfl
def kIx2 (a : Pk) (z : Out Pk) : Out O := z.bind fun b ρ2 => match pkO ρ2 a, pkD ρ2 b with
  | some o, some (.int i) => (match ixO o i with
    | some d => .ok (.fz d) ρ2
    | none => .bad)
  | _, _ => .bad
theorem x83 : kIx1 fb (.ok p ρ) = kIx2 p (fb ρ) := rfl
theorem x84 : kIx2 p (.exc x ρ) = .exc x ρ := rfl
def kIx3 (z : Option O) (y : Option PyData) (ρ2 : En) : Out O := match z, y with
  | some o, some (.int i) => (match ixO o i with
    | some d => .ok (.fz d) ρ2
    | none => .bad)
  | _, _ => .bad
theorem x85 : kIx2 p (.ok q ρ) = kIx3 (pkO ρ p) (pkD ρ q) ρ := rfl
theorem x86 {k : Int} : kIx3 (some o) (some (.int k)) ρ = kD (ixO o k) ρ := rfl
def kTup (z : Out (List O)) : Out O := z.bind fun os ρ1 => match frzs os with
  | some ds => .ok (.fz (.tuple ds)) ρ1
  | none => .bad
theorem x87 : eTup r ρ = kTup (r ρ) := rfl
theorem x88 : kTup (.exc x ρ) = .exc x ρ := rfl
def kTup2 (z : Option (List PyData)) (ρ : En) : Out O := match z with
  | some ds => .ok (.fz (.tuple ds)) ρ
  | none => .bad
theorem x89 : kTup (.ok os ρ) = kTup2 (frzs os) ρ := rfl
theorem x90 {ds : List PyData} : kTup2 (some ds) ρ = .ok (.fz (.tuple ds)) ρ := rfl
def kLst (z : Out (List O)) : Out O := z.bind fun os ρ1 => .ok (.lst os) ρ1
theorem x91 : eLst r ρ = kLst (r ρ) := rfl
theorem x92 : kLst (.ok os ρ) = .ok (.lst os) ρ := rfl
theorem x93 : kLst (.exc x ρ) = .exc x ρ := rfl
variable {gB : O → Option PyData} {nm : String}
def kB1 (gB : O → Option PyData) (z : Out Pk) : Out O := z.bind fun a ρ1 => match (pkO ρ1 a).bind gB with
  | some c => .ok (.fz c) ρ1
  | none => .bad
theorem x94 : eB1 gB fa ρ = kB1 gB (fa ρ) := rfl
theorem x95 : eIsi nm fa ρ = kB1 (isiO nm) (fa ρ) := rfl
theorem x96 : kB1 gB (.ok p ρ) = kD ((pkO ρ p).bind gB) ρ := rfl
theorem x97 : kB1 gB (.exc x ρ) = .exc x ρ := rfl
def kLs (z : Out Pk) : Out O := z.bind fun a ρ1 => match (pkO ρ1 a).bind itemsO with
  | some (_, ds) => .ok (.lst (ds.map O.fz)) ρ1
  | none => .bad
theorem x98 : eList fa ρ = kLs (fa ρ) := rfl
theorem x99 : kLs (.exc x ρ) = .exc x ρ := rfl
def kLs2 (z : Option (Bool × List PyData)) (ρ1 : En) : Out O := match z with
  | some (_, ds) => .ok (.lst (ds.map O.fz)) ρ1
  | none => .bad
theorem x100 : kLs (.ok p ρ) = kLs2 ((pkO ρ p).bind itemsO) ρ := rfl
theorem x101 {ds : List PyData} : kLs2 (some (b, ds)) ρ = .ok (.lst (ds.map O.fz)) ρ := rfl
def kTp (z : Out Pk) : Out O := z.bind fun a ρ1 => match (pkO ρ1 a).bind itemsO with
  | some (_, ds) => .ok (.fz (.tuple ds)) ρ1
  | none => .bad
theorem x102 : eTuple fa ρ = kTp (fa ρ) := rfl
theorem x103 : kTp (.exc x ρ) = .exc x ρ := rfl
def kTp2 (z : Option (Bool × List PyData)) (ρ1 : En) : Out O := match z with
  | some (_, ds) => .ok (.fz (.tuple ds)) ρ1
  | none => .bad
theorem x104 : kTp (.ok p ρ) = kTp2 ((pkO ρ p).bind itemsO) ρ := rfl
theorem x105 {ds : List PyData} : kTp2 (some (b, ds)) ρ = .ok (.fz (.tuple ds)) ρ := rfl
def kRev (z : Out Pk) : Out O := z.bind fun a ρ1 => match (pkO ρ1 a).bind itemsO with
  | some (true, ds) => .ok (.lst (ds.reverse.map O.fz)) ρ1
  | _ => .bad
theorem x106 : eRev fa ρ = kRev (fa ρ) := rfl
theorem x107 : kRev (.exc x ρ) = .exc x ρ := rfl
def kRev2 (z : Option (Bool × List PyData)) (ρ1 : En) : Out O := match z with
  | some (true, ds) => .ok (.lst (ds.reverse.map O.fz)) ρ1
  | _ => .bad
theorem x108 : kRev (.ok p ρ) = kRev2 ((pkO ρ p).bind itemsO) ρ := rfl
theorem x109 {ds : List PyData} : kRev2 (some (true, ds)) ρ = .ok (.lst (ds.reverse.map O.fz)) ρ := rfl
def kCat1 (fb : FP) (z : Out Pk) : Out O := z.bind fun a ρ1 => (fb ρ1).bind fun b ρ2 => match (pkO ρ2 a).bind lstI, (pkO ρ2 b).bind lstI with
  | some ds, some es => if ds.length + es.length ≤ sizeLine then .ok (.lst ((ds ++ es).map O.fz)) ρ2 else .bad
  | _, _ => .bad
theorem x110 : eCat fa fb ρ = kCat1 fb (fa ρ) := rfl
theorem x111 : kCat1 fb (.exc x ρ) = .exc x ρ := rfl
def kCat2 (a : Pk) (z : Out Pk) : Out O := z.bind fun b ρ2 => match (pkO ρ2 a).bind lstI, (pkO ρ2 b).bind lstI with
  | some ds, some es => if ds.length + es.length ≤ sizeLine then .ok (.lst ((ds ++ es).map O.fz)) ρ2 else .bad
  | _, _ => .bad
theorem x112 : kCat1 fb (.ok p ρ) = kCat2 p (fb ρ) := rfl
theorem x113 : kCat2 p (.exc x ρ) = .exc x ρ := rfl
def kCat3 (z : Option (List PyData)) (y : Option (List PyData)) (ρ : En) : Out O := match z, y with
  | some ds, some es => if ds.length + es.length ≤ sizeLine then .ok (.lst ((ds ++ es).map O.fz)) ρ else .bad
  | _, _ => .bad
theorem x114 : kCat2 p (.ok q ρ) = kCat3 ((pkO ρ p).bind lstI) ((pkO ρ q).bind lstI) ρ := rfl
theorem x115 {ds es : List PyData} (h : ds.length + es.length ≤ sizeLine) : kCat3 (some ds) (some es) ρ = .ok (.lst ((ds ++ es).map O.fz)) ρ := by unfold kCat3; exact if_pos h
def kCatT1 (fb : FP) (z : Out Pk) : Out O := z.bind fun a ρ1 => (fb ρ1).bind fun b ρ2 => match (pkO ρ2 a).bind tupI, (pkO ρ2 b).bind tupI with
  | some ds, some es => if ds.length + es.length ≤ sizeLine then .ok (.fz (.tuple (ds ++ es))) ρ2 else .bad
  | _, _ => .bad
theorem x116 : eCatT fa fb ρ = kCatT1 fb (fa ρ) := rfl
theorem x117 : kCatT1 fb (.exc x ρ) = .exc x ρ := rfl
def kCatT2 (a : Pk) (z : Out Pk) : Out O := z.bind fun b ρ2 => match (pkO ρ2 a).bind tupI, (pkO ρ2 b).bind tupI with
  | some ds, some es => if ds.length + es.length ≤ sizeLine then .ok (.fz (.tuple (ds ++ es))) ρ2 else .bad
  | _, _ => .bad
theorem x118 : kCatT1 fb (.ok p ρ) = kCatT2 p (fb ρ) := rfl
theorem x119 : kCatT2 p (.exc x ρ) = .exc x ρ := rfl
def kCatT3 (z : Option (List PyData)) (y : Option (List PyData)) (ρ : En) : Out O := match z, y with
  | some ds, some es => if ds.length + es.length ≤ sizeLine then .ok (.fz (.tuple (ds ++ es))) ρ else .bad
  | _, _ => .bad
theorem x120 : kCatT2 p (.ok q ρ) = kCatT3 ((pkO ρ p).bind tupI) ((pkO ρ q).bind tupI) ρ := rfl
theorem x121 {ds es : List PyData} (h : ds.length + es.length ≤ sizeLine) : kCatT3 (some ds) (some es) ρ = .ok (.fz (.tuple (ds ++ es))) ρ := by unfold kCatT3; exact if_pos h
def kRep1 (fb : FP) (z : Out Pk) : Out O := z.bind fun a ρ1 => (fb ρ1).bind fun b ρ2 => match (pkO ρ2 a).bind lstI, pkD ρ2 b with
  | some ds, some (.int n) => if -(2 ^ 63) ≤ n ∧ n < 2 ^ 63 ∧ ds.length * n.toNat ≤ sizeLine then .ok (.lst ((List.replicate n.toNat ds).flatten.map O.fz)) ρ2 else .bad
  | _, _ => .bad
theorem x122 : eRep fa fb ρ = kRep1 fb (fa ρ) := rfl
theorem x123 : kRep1 fb (.exc x ρ) = .exc x ρ := rfl
def kRep2 (a : Pk) (z : Out Pk) : Out O := z.bind fun b ρ2 => match (pkO ρ2 a).bind lstI, pkD ρ2 b with
  | some ds, some (.int n) => if -(2 ^ 63) ≤ n ∧ n < 2 ^ 63 ∧ ds.length * n.toNat ≤ sizeLine then .ok (.lst ((List.replicate n.toNat ds).flatten.map O.fz)) ρ2 else .bad
  | _, _ => .bad
theorem x124 : kRep1 fb (.ok p ρ) = kRep2 p (fb ρ) := rfl
theorem x125 : kRep2 p (.exc x ρ) = .exc x ρ := rfl
def kRep3 (z : Option (List PyData)) (y : Option PyData) (ρ : En) : Out O := match z, y with
  | some ds, some (.int n) => if -(2 ^ 63) ≤ n ∧ n < 2 ^ 63 ∧ ds.length * n.toNat ≤ sizeLine then .ok (.lst ((List.replicate n.toNat ds).flatten.map O.fz)) ρ else .bad
  | _, _ => .bad
theorem x126 : kRep2 p (.ok q ρ) = kRep3 ((pkO ρ p).bind lstI) (pkD ρ q) ρ := rfl
theorem x127 {ds : List PyData} {n : Int} (h : -(2 ^ 63) ≤ n ∧ n < 2 ^ 63 ∧ ds.length * n.toNat ≤ sizeLine) : kRep3 (some ds) (some (.int n)) ρ = .ok (.lst ((List.replicate n.toNat ds).flatten.map O.fz)) ρ := by unfold kRep3; exact if_pos h
def kRepT1 (fb : FP) (z : Out Pk) : Out O := z.bind fun a ρ1 => (fb ρ1).bind fun b ρ2 => match (pkO ρ2 a).bind tupI, pkD ρ2 b with
  | some ds, some (.int n) => if ds ≠ [] ∧ 1 ≤ n ∧ n ≤ 1000 ∧ ds.length ≤ 1000 then .ok (.fz (.tuple (List.replicate n.toNat ds).flatten)) ρ2 else .bad
  | _, _ => .bad
theorem x128 : eRepT fa fb ρ = kRepT1 fb (fa ρ) := rfl
theorem x129 : kRepT1 fb (.exc x ρ) = .exc x ρ := rfl
def kRepT2 (a : Pk) (z : Out Pk) : Out O := z.bind fun b ρ2 => match (pkO ρ2 a).bind tupI, pkD ρ2 b with
  | some ds, some (.int n) => if ds ≠ [] ∧ 1 ≤ n ∧ n ≤ 1000 ∧ ds.length ≤ 1000 then .ok (.fz (.tuple (List.replicate n.toNat ds).flatten)) ρ2 else .bad
  | _, _ => .bad
theorem x130 : kRepT1 fb (.ok p ρ) = kRepT2 p (fb ρ) := rfl
theorem x131 : kRepT2 p (.exc x ρ) = .exc x ρ := rfl
def kRepT3 (z : Option (List PyData)) (y : Option PyData) (ρ : En) : Out O := match z, y with
  | some ds, some (.int n) => if ds ≠ [] ∧ 1 ≤ n ∧ n ≤ 1000 ∧ ds.length ≤ 1000 then .ok (.fz (.tuple (List.replicate n.toNat ds).flatten)) ρ else .bad
  | _, _ => .bad
theorem x132 : kRepT2 p (.ok q ρ) = kRepT3 ((pkO ρ p).bind tupI) (pkD ρ q) ρ := rfl
theorem x133 {ds : List PyData} {n : Int} (h : ds ≠ [] ∧ 1 ≤ n ∧ n ≤ 1000 ∧ ds.length ≤ 1000) : kRepT3 (some ds) (some (.int n)) ρ = .ok (.fz (.tuple (List.replicate n.toNat ds).flatten)) ρ := by unfold kRepT3; exact if_pos h
theorem x134 : nNo ρ = .ok none ρ := rfl
def kN (z : Out Pk) : Out (Option Int) := z.bind fun p ρ1 => match pkD ρ1 p with
  | some (.int i) => .ok (some i) ρ1
  | _ => .bad
theorem x135 : nE fa ρ = kN (fa ρ) := rfl
theorem x136 : kN (.exc x ρ) = .exc x ρ := rfl
def kN2 (z : Option PyData) (ρ1 : En) : Out (Option Int) := match z with
  | some (.int i) => .ok (some i) ρ1
  | _ => .bad
theorem x137 : kN (.ok p ρ) = kN2 (pkD ρ p) ρ := rfl
theorem x138 {k : Int} : kN2 (some (.int k)) ρ = .ok (some k) ρ := rfl
variable {fl fh : FN} {lo hi : Option Int}
def kSl1 (fl fh : FN) (z : Out Pk) : Out O := z.bind fun a ρ1 => (fl ρ1).bind fun l ρ2 => (fh ρ2).bind fun h ρ3 => match (pkO ρ3 a).bind fun o => slO o l h with
  | some o => .ok o ρ3
  | none => .bad
theorem x139 : eSl fa fl fh ρ = kSl1 fl fh (fa ρ) := rfl
theorem x140 : kSl1 fl fh (.exc x ρ) = .exc x ρ := rfl
def kSl2 (fh : FN) (a : Pk) (z : Out (Option Int)) : Out O := z.bind fun l ρ2 => (fh ρ2).bind fun h ρ3 => match (pkO ρ3 a).bind fun o => slO o l h with
  | some o => .ok o ρ3
  | none => .bad
theorem x141 : kSl1 fl fh (.ok p ρ) = kSl2 fh p (fl ρ) := rfl
def kSl3 (a : Pk) (l : Option Int) (z : Out (Option Int)) : Out O := z.bind fun h ρ3 => match (pkO ρ3 a).bind fun o => slO o l h with
  | some o => .ok o ρ3
  | none => .bad
theorem x142 : kSl2 fh p (.ok lo ρ) = kSl3 p lo (fh ρ) := rfl
theorem x143 : kSl3 p lo (.ok hi ρ) = kO ((pkO ρ p).bind fun o => slO o lo hi) ρ := rfl
def kZ (z : Out O) : Out O := z.bind fun o ρ' => match frz o with
  | some d => .ok (.fz d) ρ'
  | none => .bad
theorem x144 : eZ f ρ = kZ (f ρ) := rfl
theorem x145 : kZ (.ok o ρ) = kD (frz o) ρ := rfl
theorem x146 : kZ (.exc x ρ) = .exc x ρ := rfl
variable {sr sr2 : Sr}
def kSq (z : Out Pk) : Out Sr := z.bind fun p ρ1 => match srOf ρ1 p with
  | some s => .ok s ρ1
  | none => .bad
theorem x147 : fSeq fa ρ = kSq (fa ρ) := rfl
theorem x148 : kSq (.exc x ρ) = .exc x ρ := rfl
def kSq2 (z : Option Sr) (ρ : En) : Out Sr := match z with
  | some s => .ok s ρ
  | none => .bad
theorem x149 : kSq (.ok p ρ) = kSq2 (srOf ρ p) ρ := rfl
theorem x150 : kSq2 (some sr) ρ = .ok sr ρ := rfl
theorem x151 : srOf ρ (.v i) = (((ρ[i]?).bind id).bind itemsO).map fun p => .sl p.1 i := rfl
def kSq3 (z : Option PyData) : Option Sr := z.bind fun d => match d with
    | .list ds => some (.st true ds)
    | .tuple ds => some (.st false ds)
    | _ => none
theorem x152 : srOf ρ (.o o) = kSq3 (frz o) := rfl
theorem x153 {ds : List PyData} : kSq3 (some (.list ds)) = some (.st true ds) := rfl
theorem x154 {ds : List PyData} : kSq3 (some (.tuple ds)) = some (.st false ds) := rfl
def kRg (z : Out Pk) : Out Sr := z.bind fun p ρ1 => match pkD ρ1 p with
  | some (.int j) => if -(2 ^ 62) ≤ j ∧ j < 2 ^ 62 then .ok (.rg 0 j.toNat) ρ1 else .bad
  | _ => .bad
theorem x155 : fRg1 fa ρ = kRg (fa ρ) := rfl
theorem x156 : kRg (.exc x ρ) = .exc x ρ := rfl
def kRg2 (z : Option PyData) (ρ1 : En) : Out Sr := match z with
  | some (.int j) => if -(2 ^ 62) ≤ j ∧ j < 2 ^ 62 then .ok (.rg 0 j.toNat) ρ1 else .bad
  | _ => .bad
theorem x157 : kRg (.ok p ρ) = kRg2 (pkD ρ p) ρ := rfl
theorem x158 {k : Int} (h : -(2 ^ 62) ≤ k ∧ k < 2 ^ 62) : kRg2 (some (.int k)) ρ = .ok (.rg 0 k.toNat) ρ := by unfold kRg2; exact if_pos h
def kRh1 (fb : FP) (z : Out Pk) : Out Sr := z.bind fun p ρ1 => (fb ρ1).bind fun q ρ2 => match pkD ρ2 p, pkD ρ2 q with
  | some (.int i), some (.int j) => if -(2 ^ 62) ≤ i ∧ i < 2 ^ 62 ∧ -(2 ^ 62) ≤ j ∧ j < 2 ^ 62 then .ok (.rg i (j - i).toNat) ρ2 else .bad
  | _, _ => .bad
theorem x159 : fRg2 fa fb ρ = kRh1 fb (fa ρ) := rfl
theorem x160 : kRh1 fb (.exc x ρ) = .exc x ρ := rfl
def kRh2 (p : Pk) (z : Out Pk) : Out Sr := z.bind fun q ρ2 => match pkD ρ2 p, pkD ρ2 q with
  | some (.int i), some (.int j) => if -(2 ^ 62) ≤ i ∧ i < 2 ^ 62 ∧ -(2 ^ 62) ≤ j ∧ j < 2 ^ 62 then .ok (.rg i (j - i).toNat) ρ2 else .bad
  | _, _ => .bad
theorem x161 : kRh1 fb (.ok p ρ) = kRh2 p (fb ρ) := rfl
theorem x162 : kRh2 p (.exc x ρ) = .exc x ρ := rfl
def kRh3 (z y : Option PyData) (ρ2 : En) : Out Sr := match z, y with
  | some (.int i), some (.int j) => if -(2 ^ 62) ≤ i ∧ i < 2 ^ 62 ∧ -(2 ^ 62) ≤ j ∧ j < 2 ^ 62 then .ok (.rg i (j - i).toNat) ρ2 else .bad
  | _, _ => .bad
theorem x163 : kRh2 p (.ok q ρ) = kRh3 (pkD ρ p) (pkD ρ q) ρ := rfl
theorem x164 {k l : Int} (h : -(2 ^ 62) ≤ k ∧ k < 2 ^ 62 ∧ -(2 ^ 62) ≤ l ∧ l < 2 ^ 62) : kRh3 (some (.int k)) (some (.int l)) ρ = .ok (.rg k (l - k).toNat) ρ := by unfold kRh3; exact if_pos h
def kZp1 (fb : FP) (z : Out Sr) : Out Sr := z.bind fun a ρ1 => (fSeq fb ρ1).bind fun b ρ2 => match (Sr.zp a b).at ρ2 with
  | some _ => if a.kind = b.kind then .ok (.zp a b) ρ2 else .bad
  | none => .bad
theorem x165 : fZip fa fb ρ = kZp1 fb (fSeq fa ρ) := rfl
theorem x166 : kZp1 fb (.exc x ρ) = .exc x ρ := rfl
def kZp2 (a : Sr) (z : Out Sr) : Out Sr := z.bind fun b ρ2 => match (Sr.zp a b).at ρ2 with
  | some _ => if a.kind = b.kind then .ok (.zp a b) ρ2 else .bad
  | none => .bad
theorem x167 : kZp1 fb (.ok sr ρ) = kZp2 sr (fSeq fb ρ) := rfl
def kZp3 (a b : Sr) (z : Option (List PyData)) (ρ2 : En) : Out Sr := match z with
  | some _ => if a.kind = b.kind then .ok (.zp a b) ρ2 else .bad
  | none => .bad
theorem x168 : kZp2 sr (.ok sr2 ρ) = kZp3 sr sr2 ((Sr.zp sr sr2).at ρ) ρ := rfl
theorem x169 {ds : List PyData} (h : sr.kind = sr2.kind) : kZp3 sr sr2 (some ds) ρ = .ok (.zp sr sr2) ρ := by unfold kZp3; exact if_pos h
def kEn (z : Out Sr) : Out Sr := z.bind fun a ρ1 => if a.kind = some true then .ok (.en a) ρ1 else .bad
theorem x170 : fEn fa ρ = kEn (fSeq fa ρ) := rfl
theorem x171 : kEn (.exc x ρ) = .exc x ρ := rfl
theorem x172 (h : sr.kind = some true) : kEn (.ok sr ρ) = .ok (.en sr) ρ := by unfold kEn; exact if_pos h
theorem x173 {l : Bool} {ds : List PyData} : Sr.at ρ (.st l ds) = some ds := rfl
theorem x174 {lo : Int} {n : Nat} : Sr.at ρ (.rg lo n) = some (rgD lo n) := rfl
theorem x175 {l : Bool} : Sr.at ρ (.sl l i) = ((ρ[i]?).bind id).bind fun o => (itemsO o).bind fun p => if p.1 = l then some p.2 else none := rfl
theorem x176 : Sr.at ρ (.zp sr sr2) = (sr.at ρ).bind fun xs => (sr2.at ρ).map fun ys => zpD xs ys := rfl
theorem x177 : Sr.at ρ (.en sr) = (sr.at ρ).map enD := rfl
theorem x_ifb {l : Bool} {ds : List PyData} : (if l = l then some ds else none) = some ds := if_pos rfl
theorem x178 {l : Bool} {ds : List PyData} : Sr.kind (.st l ds) = some l := rfl
theorem x179 {l : Bool} : Sr.kind (.sl l i) = some l := rfl
theorem x180 {l : Bool} {ds : List PyData} : Sr.slots (.st l ds) = [] := rfl
theorem x181 {l : Bool} : Sr.slots (.sl l i) = [i] := rfl
theorem x182 {lo : Int} {n : Nat} : Sr.slots (.rg lo n) = [] := rfl
theorem x183 : Sr.slots (.zp sr sr2) = sr.slots ++ sr2.slots := rfl
theorem x184 : Sr.slots (.en sr) = sr.slots := rfl
variable {gF : FG} {gs : FGs}
theorem x185 : gfN i d ρ = putE ρ i (.fz d) := by unfold gfN; rw [putE_eq]
theorem x186 : gsN [] ρ = some ρ := rfl
theorem x187 {ds : List PyData} : gsC gF gs (d :: ds) ρ = (gF d ρ).bind fun ρ1 => gs ds ρ1 := rfl
theorem x188 {ds : List PyData} {n : Nat} (h : ds.length = n) : gfT n gs (.tuple ds) ρ = gs ds ρ := by unfold gfT; exact if_pos h
theorem x189 : wipeE ρ [] = ρ := rfl
theorem x190 {v : Nat} {vs : List Nat} : wipeE ρ (v :: vs) = (wipeE ρ vs).set v none := rfl
variable {st st2 body : FS} {out : SO}
theorem x191 : sNil ρ = .nx ρ := rfl
def kSeq (z : SO) (g : FS) : SO := z.then g
theorem x192 : sSeq st st2 ρ = kSeq (st ρ) st2 := rfl
theorem x193 : kSeq (.nx ρ) st = st ρ := rfl
theorem x194 : kSeq (.rt o ρ) st = .rt o ρ := rfl
theorem x195 : kSeq (.bk ρ) st = .bk ρ := rfl
theorem x196 : kSeq (.ct ρ) st = .ct ρ := rfl
theorem x197 : kSeq (.exc x ρ) st = .exc x ρ := rfl
def kIf (z : Out Bool) (f g : FS) : SO := z.toS fun b ρ' => sel b f g ρ'
theorem x198 : sIf t st st2 ρ = kIf (t ρ) st st2 := rfl
theorem x199 : kIf (.ok b ρ) st st2 = sel b st st2 ρ := rfl
theorem x200 : kIf (.exc x ρ) st st2 = .exc x ρ := rfl
def kRt (z : Out O) : SO := z.toS fun o ρ' => .rt o ρ'
theorem x201 : sRet f ρ = kRt (f ρ) := rfl
theorem x202 : kRt (.ok o ρ) = .rt o ρ := rfl
theorem x203 : kRt (.exc x ρ) = .exc x ρ := rfl
theorem x204 : sRetN ρ = .rt (.fz .none) ρ := rfl
def kDr (z : Out O) : SO := z.toS fun _ ρ' => .nx ρ'
theorem x205 : sDrop f ρ = kDr (f ρ) := rfl
theorem x206 : kDr (.ok o ρ) = .nx ρ := rfl
theorem x207 : kDr (.exc x ρ) = .exc x ρ := rfl
def kNx (z : Option En) : SO := match z with
  | some ρ => .nx ρ
  | none => .bad
theorem x208 : kNx (some ρ) = .nx ρ := rfl
def kSt (i : Nat) (z : Out O) : SO := z.toS fun o ρ' => kNx (putE ρ' i o)
theorem x209 : sSet i f ρ = kSt i (f ρ) := by
  unfold sSet kSt
  cases f ρ with
  | ok o ρ1 => show (if i < ρ1.length then SO.nx _ else .bad) = kNx (putE ρ1 i o); rw [putE_eq]; by_cases h : i < ρ1.length <;> simp [h, kNx]
  | exc x ρ1 => rfl
  | bad => rfl
theorem x210 : kSt i (.ok o ρ) = kNx (putE ρ i o) := rfl
theorem x211 : kSt i (.exc x ρ) = .exc x ρ := rfl
def kAs (gF : FG) (z : Out O) : SO := z.toS fun o ρ' => match (frz o).bind fun d => gF d ρ' with
  | some ρ2 => .nx ρ2
  | none => .bad
theorem x212 : sAsg gF f ρ = kAs gF (f ρ) := rfl
theorem x213 : kAs gF (.ok o ρ) = kNx ((frz o).bind fun d => gF d ρ) := rfl
theorem x214 : kAs gF (.exc x ρ) = .exc x ρ := rfl
def kPr (i j : Nat) (z : Out (List O)) : SO := z.toS fun os ρ' => match os with
  | [a, b] => if i < ρ'.length ∧ j < ρ'.length then .nx ((ρ'.set i (some a)).set j (some b)) else .bad
  | _ => .bad
theorem x215 : sPar i j r ρ = kPr i j (r ρ) := rfl
theorem x216 : kPr i j (.exc x ρ) = .exc x ρ := rfl
theorem x217 : kPr i j (.ok [o1, o2] ρ) = kNx ((putE ρ i o1).bind fun ρ1 => putE ρ1 j o2) := by
  show (if i < ρ.length ∧ j < ρ.length then SO.nx ((ρ.set i (some o1)).set j (some o2)) else .bad) = _
  rw [putE_eq]
  by_cases h : i < ρ.length
  · rw [if_pos h]
    show _ = kNx (putE (ρ.set i (some o1)) j o2)
    rw [putE_eq, List.length_set]
    by_cases h2 : j < ρ.length <;> simp [h, h2, kNx]
  · simp [h, kNx]
def kAp0 (z : Option (Option O)) (j : Nat) (f : FE) (ρ : En) : SO := match z with
  | some (some (.lst _)) => (f ρ).toS (appK j)
  | _ => .bad
theorem x218 : sApp j f ρ = kAp0 ρ[j]? j f ρ := rfl
def kAp1 (j : Nat) (z : Out O) : SO := z.toS (appK j)
theorem x219 : kAp0 (some (some (.lst os))) j f ρ = kAp1 j (f ρ) := rfl
theorem x220 : kAp1 j (.exc x ρ) = .exc x ρ := rfl
def kAp2 (z : Option (Option O)) (j : Nat) (o : O) (ρ1 : En) : SO := match z with
  | some (some (.lst xs)) => if xs.length < sizeLine then .nx (ρ1.set j (some (.lst (xs ++ [o])))) else .bad
  | _ => .bad
theorem x221 : kAp1 j (.ok o ρ) = kAp2 ρ[j]? j o ρ := rfl
theorem x222 (h : os.length < sizeLine) : kAp2 (some (some (.lst os))) j o ρ = .nx (ρ.set j (some (.lst (os ++ [o])))) := by unfold kAp2; exact if_pos h
def kSx0 (j : Nat) (fa : FP) (z : Out O) : SO := z.toS fun o ρ1 => match ρ1[j]? with
  | some (some _) => (fa ρ1).toS (ixK j o)
  | _ => .bad
theorem x223 : sIx j fa f ρ = kSx0 j fa (f ρ) := rfl
theorem x224 : kSx0 j fa (.exc x ρ) = .exc x ρ := rfl
def kSx1 (y : Option (Option O)) (j : Nat) (o : O) (fa : FP) (ρ1 : En) : SO := match y with
  | some (some _) => (fa ρ1).toS (ixK j o)
  | _ => .bad
theorem x225 : kSx0 j fa (.ok o ρ) = kSx1 ρ[j]? j o fa ρ := rfl
def kSx2 (j : Nat) (o : O) (z : Out Pk) : SO := z.toS (ixK j o)
theorem x226 : kSx1 (some (some o1)) j o fa ρ = kSx2 j o (fa ρ) := rfl
theorem x227 : kSx2 j o (.exc x ρ) = .exc x ρ := rfl
def kSx3 (y : Option (Option O)) (z : Option PyData) (j : Nat) (o : O) (ρ2 : En) : SO := match y, z with
  | some (some (.lst xs)), some (.int k) => (match ixN xs.length k with
    | some n => .nx (ρ2.set j (some (.lst (xs.set n o))))
    | none => .bad)
  | _, _ => .bad
theorem x228 : kSx2 j o (.ok p ρ) = kSx3 ρ[j]? (pkD ρ p) j o ρ := rfl
def kSx4 (z : Option Nat) (xs : List O) (j : Nat) (o : O) (ρ2 : En) : SO := match z with
    | some n => .nx (ρ2.set j (some (.lst (xs.set n o))))
    | none => .bad
theorem x229 {k : Int} : kSx3 (some (some (.lst os))) (some (.int k)) j o ρ = kSx4 (ixN os.length k) os j o ρ := rfl
theorem x230 {n : Nat} : kSx4 (some n) os j o ρ = .nx (ρ.set j (some (.lst (os.set n o)))) := rfl
def kAu0 (z : Option (Option O)) (i : Nat) (op : PyData → PyData → Option PyData) (fa : FP) (ρ : En) : SO := match z with
  | some (some (.fz (.int n))) => (fa ρ).toS (augK i (.int n) op)
  | _ => .bad
theorem x231 : sAug i op fa ρ = kAu0 ρ[i]? i op fa ρ := rfl
def kAu1 (i : Nat) (n : Int) (op : PyData → PyData → Option PyData) (z : Out Pk) : SO := z.toS (augK i (.int n) op)
theorem x232 {n : Int} : kAu0 (some (some (.fz (.int n)))) i op fa ρ = kAu1 i n op (fa ρ) := rfl
theorem x233 {n : Int} : kAu1 i n op (.exc x ρ) = .exc x ρ := rfl
def kAu2 (z : Option PyData) (i : Nat) (ρ : En) : SO := match z with
  | some c => kNx (putE ρ i (.fz c))
  | none => .bad
theorem x234 {n : Int} : kAu1 i n op (.ok p ρ) = kAu2 ((pkD ρ p).bind fun b => op (.int n) b) i ρ := by
  show augK i (.int n) op p ρ = _
  unfold augK kAu2
  cases (pkD ρ p).bind fun b => op (.int n) b with
  | none => rfl
  | some c => show (if i < ρ.length then SO.nx _ else .bad) = kNx (putE ρ i (.fz c)); rw [putE_eq]; by_cases h : i < ρ.length <;> simp [h, kNx]
theorem x235 : kAu2 (some c) i ρ = kNx (putE ρ i (.fz c)) := rfl
variable {cn : Str} {mk : List PyData → Option (List (Str × PyData))} {hd : Hd} {hs : List Hd}
def kRs (c : Str) (mk : List PyData → Option (List (Str × PyData))) (z : Out (List O)) : SO := z.toS fun os ρ1 => match (frzs os).bind mk with
  | some fs => .exc ⟨c, fs⟩ ρ1
  | none => .bad
theorem x236 : sRaise cn mk r ρ = kRs cn mk (r ρ) := rfl
theorem x237 : kRs cn mk (.exc x ρ) = .exc x ρ := rfl
def kRs2 (c : Str) (z : Option (List (Str × PyData))) (ρ1 : En) : SO := match z with
  | some fs => .exc ⟨c, fs⟩ ρ1
  | none => .bad
theorem x238 : kRs cn mk (.ok os ρ) = kRs2 cn ((frzs os).bind mk) ρ := rfl
theorem x239 {fs : List (Str × PyData)} : kRs2 cn (some fs) ρ = .exc ⟨cn, fs⟩ ρ := rfl
noncomputable def kTry (hs : List Hd) (z : SO) : SO := match z with
  | .exc x ρ1 => catchF hs x ρ1
  | r => r
theorem x240 : sTry st hs ρ = kTry hs (st ρ) := rfl
theorem x241 : kTry hs (.nx ρ) = .nx ρ := rfl
theorem x242 : kTry hs (.rt o ρ) = .rt o ρ := rfl
theorem x243 : kTry hs (.bk ρ) = .bk ρ := rfl
theorem x244 : kTry hs (.ct ρ) = .ct ρ := rfl
theorem x245 : kTry hs (.exc x ρ) = catchF hs x ρ := rfl
theorem x246 : catchF [] x ρ = .exc x ρ := rfl
noncomputable def kCa (z : Option Bool) (h : Hd) (hs : List Hd) (x : Xn) (ρ : En) : SO := match z with
    | some true => runCl h.i h.su x ρ
    | some false => catchF hs x ρ
    | none => .bad
theorem x247 : catchF (hd :: hs) x ρ = kCa (hd.m x.cls) hd hs x ρ := rfl
theorem x248 : kCa (some false) hd hs x ρ = catchF hs x ρ := rfl
theorem x249 : kCa (some true) hd hs x ρ = runCl hd.i hd.su x ρ := rfl
variable {m : Nat} {prot : List Nat} {as as2 : List O}
def kRun (z : SO) (prot : List Nat) (as : List O) : FO := match z with
  | .nx ρ' => (match finA prot ρ' 0 as with
    | some as' => .ok (.fz .none) as'
    | none => .bad)
  | .rt o ρ' => (match finA prot ρ' 0 as with
    | some as' => .ok o as'
    | none => .bad)
  | .exc x ρ' => (match finA prot ρ' 0 as with
    | some as' => .exc x as'
    | none => .bad)
  | _ => .bad
theorem x250 : runFn m prot st as = kRun (st (entry m as)) prot as := rfl
def kFin (z : Option (List O)) (o : O) : FO := match z with
    | some as' => .ok o as'
    | none => .bad
theorem x251 : kRun (.rt o ρ) prot as = kFin (finA prot ρ 0 as) o := rfl
theorem x252 : kRun (.nx ρ) prot as = kFin (finA prot ρ 0 as) (.fz .none) := rfl
theorem x253 : kFin (some as) o = .ok o as := rfl
def kFinX (z : Option (List O)) (x : Xn) : FO := match z with
    | some as' => .exc x as'
    | none => .bad
theorem x254 : kRun (.exc x ρ) prot as = kFinX (finA prot ρ 0 as) x := rfl
theorem x255 : kFinX (some as) x = .exc x as := rfl
theorem x256 : finA prot ρ i [] = some [] := rfl
def kFa (c : Bool) (z : Option (Option O)) (o : O) : Option O := if c then z.bind id else if isFz o then some o else none
theorem x257 : finA prot ρ i (o :: as) = (kFa (prot.contains i) ρ[i]? o).bind fun o => (finA prot ρ (i + 1) as).map fun os => o :: os := rfl
theorem x258 {z : Option (Option O)} : kFa true z o = z.bind id := rfl
theorem x259 {z : Option (Option O)} : kFa false z (.fz d) = some (.fz d) := rfl
theorem x_ent : entry m as = as.map some ++ List.replicate (m - as.length) none := rfl
theorem x_enm0 : List.map some ([] : List O) = [] := rfl
theorem x_enmS : List.map some (o :: os) = some o :: List.map some os := rfl
theorem x_ena0 {l : En} : ([] ++ l) = l := rfl
theorem x_enaS {y : Option O} {k l : En} : ((y :: k) ++ l) = y :: (k ++ l) := rfl
theorem x_olen0 : List.length ([] : List O) = 0 := rfl
theorem x_olenS : List.length (o :: os) = List.length os + 1 := rfl
theorem x_rep0 : List.replicate 0 (none : Option O) = [] := rfl
theorem x_repS {n : Nat} : List.replicate (n + 1) (none : Option O) = none :: List.replicate n none := rfl
variable {k l : Int} {ds es : List PyData}
theorem x260 : dAdd (.int k) (.int l) = some (.int (k + l)) := rfl
theorem x261 : dSub (.int k) (.int l) = some (.int (k - l)) := rfl
theorem x262 : dLt (.int k) (.int l) = some (.bool (decide (k < l))) := rfl
theorem x263 : dLe (.int k) (.int l) = some (.bool (decide (k ≤ l))) := rfl
theorem x264 : dGt (.int k) (.int l) = some (.bool (decide (l < k))) := rfl
theorem x265 : dGe (.int k) (.int l) = some (.bool (decide (l ≤ k))) := rfl
theorem x_mod (h : l ≠ 0) : dMod (.int k) (.int l) = some (.int (k.fmod l)) := dMod_ok h
theorem x_deq : dEq (.int k) (.int l) = some (.bool (decide (k = l))) := dEq_int
theorem x_dne : dNe (.int k) (.int l) = some (.bool (!decide (k = l))) := dNe_int
theorem x_deqb : dEq (.bool a) (.bool b) = some (.bool (a == b)) := by cases a <;> cases b <;> rfl
theorem x_dneb : dNe (.bool a) (.bool b) = some (.bool (a != b)) := by cases a <;> cases b <;> rfl
theorem x266 : dIs .none .none = some (.bool true) := rfl
theorem x267 : dIsNot .none .none = some (.bool false) := rfl
theorem x268 : dIs (.bool b) .none = some (.bool false) := rfl
theorem x269 : dIsNot (.bool b) .none = some (.bool true) := rfl
theorem x270 : dIs (.int k) .none = some (.bool false) := rfl
theorem x271 : dIsNot (.int k) .none = some (.bool true) := rfl
theorem x272 : dIs (.tuple ds) .none = some (.bool false) := rfl
theorem x273 : dIsNot (.tuple ds) .none = some (.bool true) := rfl
theorem x274 : dIs (.list ds) .none = some (.bool false) := rfl
theorem x275 : dIsNot (.list ds) .none = some (.bool true) := rfl
theorem x276 {z : Str} : dIs (.str z) .none = some (.bool false) := rfl
theorem x277 {z : Str} : dIsNot (.str z) .none = some (.bool true) := rfl
theorem x278 : dTru .none = some false := rfl
theorem x279 : dTru (.bool b) = some b := rfl
theorem x280 : dTru (.int k) = some (k != 0) := rfl
theorem x281 : dTru (.list ds) = some !ds.isEmpty := rfl
theorem x282 : dTru (.tuple ds) = some !ds.isEmpty := rfl
theorem x283 : itemsO (.fz (.list ds)) = some (true, ds) := rfl
theorem x284 : itemsO (.fz (.tuple ds)) = some (false, ds) := rfl
theorem x285 : itemsO (.lst os) = (allFz os).map fun ds => (true, ds) := rfl
theorem x286 : allFz [] = some [] := rfl
theorem x287 : allFz (.fz d :: os) = (allFz os).map fun ds => d :: ds := rfl
theorem x288 : allFz (ds.map O.fz) = some ds := allFz_map ds
theorem x289 : lstI (.fz (.list ds)) = some ds := rfl
theorem x290 : lstI (.lst os) = allFz os := by unfold lstI; rw [show itemsO (.lst os) = (allFz os).map fun ds => (true, ds) from rfl]; cases allFz os <;> rfl
theorem x291 : tupI (.fz (.tuple ds)) = some ds := rfl
theorem x292 : ownL (.lst os) = allFz os := rfl
def kIo (z : Option (List PyData)) (k : Int) : Option PyData := z.bind fun ds => atI ds k
theorem x_ixt : ixO (.fz (.tuple ds)) k = atI ds k := rfl
theorem x_ixl : ixO (.fz (.list ds)) k = atI ds k := rfl
theorem x_ixo : ixO (.lst os) k = kIo (allFz os) k := by
  show ((allFz os).map fun ds => (true, ds)).bind (fun p => atI p.2 k) = _
  cases allFz os <;> rfl
theorem x_kio : kIo (some ds) k = atI ds k := rfl
theorem atI_0 {y : PyData} : atI (y :: ds) 0 = some y := by simp [atI, ixN]
theorem atI_1 {y z : PyData} : atI (y :: z :: ds) 1 = some z := by
  unfold atI ixN
  rw [if_pos (by omega), if_pos (by simp only [List.length_cons]; omega)]
  rfl
theorem atI_2 {y z w : PyData} : atI (y :: z :: w :: ds) 2 = some w := by
  unfold atI ixN
  rw [if_pos (by omega), if_pos (by simp only [List.length_cons]; omega)]
  rfl
theorem atI_3 {y z w v : PyData} : atI (y :: z :: w :: v :: ds) 3 = some v := by
  unfold atI ixN
  rw [if_pos (by omega), if_pos (by simp only [List.length_cons]; omega)]
  rfl
theorem x_at0 {y : PyData} : atI (y :: ds) 0 = some y := atI_0
theorem x_at1 {y z : PyData} : atI (y :: z :: ds) 1 = some z := atI_1
theorem x_at2 {y z w : PyData} : atI (y :: z :: w :: ds) 2 = some w := atI_2
theorem x_at3 {y z w v : PyData} : atI (y :: z :: w :: v :: ds) 3 = some v := atI_3
theorem x_len_l : lenO (.fz (.list ds)) = some (.int ds.length) := rfl
theorem x_len_t : lenO (.fz (.tuple ds)) = some (.int ds.length) := rfl
theorem x_len_o : lenO (.lst os) = some (.int os.length) := rfl
theorem x_div (h : l ≠ 0) (h2 : l.natAbs < 2 ^ 400) : dDiv (.int k) (.int l) = some (.int (k.fdiv l)) := if_pos ⟨h, by have := log2_lt h2 (by decide); omega⟩
theorem x_mul (h : k.natAbs < 2 ^ 400) (h2 : l.natAbs < 2 ^ 400) : dMul (.int k) (.int l) = some (.int (k * l)) := if_pos (by have := log2_lt h2 (by decide); have := log2_lt h (by decide); omega)
theorem x_abs : absO (.fz (.int k)) = some (.int (if k < 0 then -k else k)) := rfl
end
end Ls

/-! loops and comprehensions over items that stay; ends -/
namespace Ls
open PySem L2
def stepF (gF : FG) (body : FS) (d : PyData) (ρ : En) : SO := match gF d ρ with
  | some ρ1 => body ρ1
  | none => .bad
def loopF (gF : FG) (body : FS) : List PyData → En → SO
  | [], ρ => .nx ρ
  | d :: ds, ρ => match stepF gF body d ρ with
    | .nx ρ2 => loopF gF body ds ρ2
    | .ct ρ2 => loopF gF body ds ρ2
    | .bk ρ2 => .nx ρ2
    | r => r
def kStp (z : Option En) (body : FS) : SO := match z with
  | some ρ1 => body ρ1
  | none => .bad
section
variable {ρ ρ1 ρ2 : En} {gF : FG} {body : FS} {d : PyData} {ds : List PyData} {sr : Sr} {o : O} {x : Xn} {Z : List Nat} {l : Bool} {lo : Int} {n i : Nat} {t : FT} {f : FE} {vs : List Nat} {os us : List O}
theorem x_stp : stepF gF body d ρ = kStp (gF d ρ) body := rfl
theorem x_stp1 : kStp (some ρ) body = body ρ := rfl
theorem for_loop (J : En → Prop) (hat : ∀ ρ, J ρ → sr.at ρ = some ds) (hs : ∀ d ρ ρ2, J ρ → (stepF gF body d ρ = .nx ρ2 ∨ stepF gF body d ρ = .ct ρ2) → J ρ2) : ∀ (n j : Nat) (ρ : En), n + j = ds.length → J ρ → forF sr gF body (n + 1) j ρ = loopF gF body (ds.drop j) ρ
  | 0, j, ρ, hn, hj => by
    unfold forF
    rw [hat ρ hj]
    dsimp only
    rw [List.getElem?_eq_none (by omega), List.drop_eq_nil_of_le (by omega)]
    rfl
  | n + 1, j, ρ, hn, hj => by
    have hlt : j < ds.length := by omega
    unfold forF
    rw [hat ρ hj]
    dsimp only
    rw [List.getElem?_eq_getElem hlt, List.drop_eq_getElem_cons hlt]
    dsimp only
    unfold loopF
    have hst : stepF gF body ds[j] ρ = match gF ds[j] ρ with
      | some ρ1 => body ρ1
      | none => .bad := rfl
    cases hg : gF ds[j] ρ with
    | none =>
      rw [hg] at hst
      rw [hst]
    | some ρ1 =>
      rw [hg] at hst
      dsimp only at hst ⊢
      rw [hst]
      cases hb : body ρ1 with
      | nx ρ2 => exact for_loop J hat hs n (j + 1) ρ2 (by omega) (hs ds[j] ρ ρ2 hj (.inl (hst.trans hb)))
      | ct ρ2 => exact for_loop J hat hs n (j + 1) ρ2 (by omega) (hs ds[j] ρ ρ2 hj (.inr (hst.trans hb)))
      | _ => rfl
theorem x_forSt : forF (.st l ds) gF body (ds.length + 1) 0 ρ = loopF gF body ds ρ := for_loop (fun _ => True) (fun _ _ => rfl) (fun _ _ _ _ _ => trivial) ds.length 0 ρ (by omega) trivial
theorem x_forRg : forF (.rg lo n) gF body ((rgD lo n).length + 1) 0 ρ = loopF gF body (rgD lo n) ρ := for_loop (sr := .rg lo n) (ds := rgD lo n) (fun _ => True) (fun _ _ => rfl) (fun _ _ _ _ _ => trivial) (rgD lo n).length 0 ρ (Nat.add_zero _) trivial
def kFor (Z : List Nat) (gF : FG) (body : FS) (z : Out Sr) : SO := z.toS fun s ρ1 => if s.slots.all fun i => Z.contains i then (match s.at ρ1 with
    | some ds => forF s gF body (ds.length + 1) 0 ρ1
    | none => .bad) else .bad
variable {fi : FI}
theorem x_for : sFor Z fi gF body ρ = kFor Z gF body (fi ρ) := rfl
theorem x_forX : kFor Z gF body (.exc x ρ) = .exc x ρ := rfl
theorem x_for1 : kFor Z gF body (.ok (.st l ds) ρ) = loopF gF body ds ρ := x_forSt
theorem x_for2 : kFor Z gF body (.ok (.rg lo n) ρ) = loopF gF body (rgD lo n) ρ := x_forRg
theorem forSl (J : En → Prop) (h0 : J ρ) (hz : Z.contains i = true) (hat : ∀ ρ, J ρ → (Sr.sl l i).at ρ = some ds) (hs : ∀ d ρ ρ2, J ρ → (stepF gF body d ρ = .nx ρ2 ∨ stepF gF body d ρ = .ct ρ2) → J ρ2) : kFor Z gF body (.ok (.sl l i) ρ) = loopF gF body ds ρ := by
  show (if ([i].all fun i => Z.contains i) = true then _ else _) = _
  rw [if_pos (by simp [List.contains_iff_mem.mp hz]), hat ρ h0]
  exact for_loop J hat hs ds.length 0 ρ (by omega) h0
/-- any source that stays -/
theorem forAny (J : En → Prop) (h0 : J ρ) (hz : (sr.slots.all fun i => Z.contains i) = true) (hat : ∀ ρ, J ρ → sr.at ρ = some ds) (hs : ∀ d ρ ρ2, J ρ → (stepF gF body d ρ = .nx ρ2 ∨ stepF gF body d ρ = .ct ρ2) → J ρ2) : kFor Z gF body (.ok sr ρ) = loopF gF body ds ρ := by
  show (if (sr.slots.all fun i => Z.contains i) = true then _ else _) = _
  rw [if_pos hz, hat ρ h0]
  exact for_loop J hat hs ds.length 0 ρ (by omega) h0
theorem x_loop0 : loopF gF body [] ρ = .nx ρ := rfl
def NC (out : SO) (P : En → Prop) : Prop := ∃ ρ, (out = .nx ρ ∨ out = .ct ρ) ∧ P ρ
theorem nc_nx {P : En → Prop} (h : P ρ) : NC (.nx ρ) P := ⟨ρ, .inl rfl, h⟩
theorem nc_ct {P : En → Prop} (h : P ρ) : NC (.ct ρ) P := ⟨ρ, .inr rfl, h⟩
theorem nx_mk {P : En → Prop} (h : P ρ) : NX (.nx ρ) P := ⟨ρ, rfl, h⟩
theorem rt_mk {P : O → En → Prop} (h : P o ρ) : RT (.rt o ρ) P := ⟨o, ρ, rfl, h⟩
theorem ok_mk {P : O → En → Prop} (h : P o ρ) : OKP (.ok o ρ) P := ⟨o, ρ, rfl, h⟩
theorem loop_inv (I : Nat → En → Prop) (hs : ∀ j d ρ, ds[j]? = some d → I j ρ → NC (stepF gF body d ρ) (I (j + 1))) (h0 : I 0 ρ) : NX (loopF gF body ds ρ) (I ds.length) := by
  have go : ∀ (n j : Nat) (ρ : En), n + j = ds.length → I j ρ → NX (loopF gF body (ds.drop j) ρ) (I ds.length) := by
    intro n
    induction n with
    | zero =>
      intro j ρ hn hi
      rw [List.drop_eq_nil_of_le (by omega)]
      have : j = ds.length := by omega
      subst this
      exact ⟨ρ, rfl, hi⟩
    | succ n ih =>
      intro j ρ hn hi
      have hlt : j < ds.length := by omega
      obtain ⟨ρ2, h2, i2⟩ := hs j ds[j] ρ (List.getElem?_eq_getElem hlt) hi
      rw [List.drop_eq_getElem_cons hlt]
      unfold loopF
      rcases h2 with h2 | h2 <;> rw [h2] <;> exact ih (j + 1) ρ2 (by omega) i2
  exact go ds.length 0 ρ (by omega) h0
/-- a loop that may end with an answer -/
theorem loop_ret (I : Nat → En → Prop) {Q : SO → Prop} (hs : ∀ j d ρ, ds[j]? = some d → I j ρ → NC (stepF gF body d ρ) (I (j + 1)) ∨ (∃ o ρ', stepF gF body d ρ = .rt o ρ' ∧ Q (.rt o ρ'))) (h0 : I 0 ρ) (hQ : ∀ ρ, I ds.length ρ → Q (.nx ρ)) : Q (loopF gF body ds ρ) := by
  have go : ∀ (n j : Nat) (ρ : En), n + j = ds.length → I j ρ → Q (loopF gF body (ds.drop j) ρ) := by
    intro n
    induction n with
    | zero =>
      intro j ρ hn hi
      rw [List.drop_eq_nil_of_le (by omega)]
      have : j = ds.length := by omega
      subst this
      exact hQ ρ hi
    | succ n ih =>
      intro j ρ hn hi
      have hlt : j < ds.length := by omega
      rw [List.drop_eq_getElem_cons hlt]
      unfold loopF
      rcases hs j ds[j] ρ (List.getElem?_eq_getElem hlt) hi with ⟨ρ2, h2, i2⟩ | ⟨o, ρ', h2, q⟩
      · rcases h2 with h2 | h2 <;> rw [h2] <;> exact ih (j + 1) ρ2 (by omega) i2
      · rw [h2]; exact q
  exact go ds.length 0 ρ (by omega) h0
/-! comprehensions -/
def stepC (gF : FG) (t : FT) (f : FE) (vs : List Nat) (d : PyData) (ρ : En) : Out (Option O) := match gF d ρ with
  | none => .bad
  | some ρ1 => (match t ρ1 with
    | .ok true ρ2 => (match f ρ2 with
      | .ok o ρ3 => .ok (some o) (wipeE ρ3 vs)
      | _ => .bad)
    | .ok false ρ2 => .ok none (wipeE ρ2 vs)
    | _ => .bad)
def loopC (gF : FG) (t : FT) (f : FE) (vs : List Nat) : List PyData → En → List O → Out (List O)
  | [], ρ, acc => .ok acc ρ
  | d :: ds, ρ, acc => match stepC gF t f vs d ρ with
    | .ok (some o) ρ1 => if acc.length < sizeLine then loopC gF t f vs ds ρ1 (acc ++ [o]) else .bad
    | .ok none ρ1 => loopC gF t f vs ds ρ1 acc
    | _ => .bad
theorem comp_loop (J : En → Prop) (hat : ∀ ρ, J ρ → sr.at ρ = some ds) (hs : ∀ d ρ u ρ2, J ρ → stepC gF t f vs d ρ = .ok u ρ2 → J ρ2) : ∀ (n j : Nat) (ρ : En) (acc : List O), n + j = ds.length → J ρ → compF sr gF t f vs (n + 1) j ρ acc = loopC gF t f vs (ds.drop j) ρ acc
  | 0, j, ρ, acc, hn, hj => by
    unfold compF
    rw [hat ρ hj]
    dsimp only
    rw [List.getElem?_eq_none (by omega), List.drop_eq_nil_of_le (by omega)]
    rfl
  | n + 1, j, ρ, acc, hn, hj => by
    have hlt : j < ds.length := by omega
    unfold compF
    rw [hat ρ hj]
    dsimp only
    rw [List.getElem?_eq_getElem hlt, List.drop_eq_getElem_cons hlt]
    dsimp only
    unfold loopC
    have hst : stepC gF t f vs ds[j] ρ = match gF ds[j] ρ with
      | none => .bad
      | some ρ1 => (match t ρ1 with
        | .ok true ρ2 => (match f ρ2 with
          | .ok o ρ3 => .ok (some o) (wipeE ρ3 vs)
          | _ => .bad)
        | .ok false ρ2 => .ok none (wipeE ρ2 vs)
        | _ => .bad) := rfl
    cases hg : gF ds[j] ρ with
    | none => rw [hg] at hst; rw [hst]
    | some ρ1 =>
      rw [hg] at hst
      dsimp only at hst ⊢
      cases ht : t ρ1 with
      | bad => rw [ht] at hst; rw [hst]
      | exc x ρ2 => rw [ht] at hst; rw [hst]
      | ok b ρ2 =>
        rw [ht] at hst
        cases b with
        | false =>
          dsimp only at hst ⊢
          rw [hst]
          exact comp_loop J hat hs n (j + 1) _ acc (by omega) (hs ds[j] ρ _ _ hj hst)
        | true =>
          dsimp only at hst ⊢
          cases hf : f ρ2 with
          | bad => rw [hf] at hst; rw [hst]
          | exc x ρ3 => rw [hf] at hst; rw [hst]
          | ok o ρ3 =>
            rw [hf] at hst
            dsimp only at hst ⊢
            rw [hst]
            dsimp only
            rw [comp_loop J hat hs n (j + 1) _ (acc ++ [o]) (by omega) (hs ds[j] ρ _ _ hj hst)]
def kComp (gF : FG) (t : FT) (f : FE) (vs : List Nat) (z : Out Sr) : Out O := z.bind fun s ρ1 => if s.slots.all fun i => !vs.contains i then (match s.at (wipeE ρ1 vs) with
    | some ds => (match compF s gF t f vs (ds.length + 1) 0 (wipeE ρ1 vs) [] with
      | .ok os ρ2 => .ok (.lst os) ρ2
      | _ => .bad)
    | none => .bad) else .bad
def kLc (z : Out (List O)) : Out O := match z with
  | .ok os ρ2 => .ok (.lst os) ρ2
  | _ => .bad
theorem x_comp : eComp fi gF t f vs ρ = kComp gF t f vs (fi ρ) := rfl
theorem x_compX : kComp gF t f vs (.exc x ρ) = .exc x ρ := rfl
theorem x_lc : kLc (.ok os ρ) = .ok (.lst os) ρ := rfl
theorem compAny (J : En → Prop) (h0 : J (wipeE ρ vs)) (hz : (sr.slots.all fun i => !vs.contains i) = true) (hat : ∀ ρ, J ρ → sr.at ρ = some ds) (hs : ∀ d ρ u ρ2, J ρ → stepC gF t f vs d ρ = .ok u ρ2 → J ρ2) : kComp gF t f vs (.ok sr ρ) = kLc (loopC gF t f vs ds (wipeE ρ vs) []) := by
  show (if (sr.slots.all fun i => !vs.contains i) = true then _ else _) = _
  rw [if_pos hz, hat _ h0]
  dsimp only
  rw [comp_loop J hat hs ds.length 0 _ [] (by omega) h0]
  rfl
theorem x_comp1 : kComp gF t f vs (.ok (.st l ds) ρ) = kLc (loopC gF t f vs ds (wipeE ρ vs) []) := compAny (fun _ => True) trivial rfl (fun _ _ => rfl) fun _ _ _ _ _ _ => trivial
theorem x_comp2 : kComp gF t f vs (.ok (.rg lo n) ρ) = kLc (loopC gF t f vs (rgD lo n) (wipeE ρ vs) []) := compAny (fun _ => True) trivial rfl (fun _ _ => rfl) fun _ _ _ _ _ _ => trivial
def kSc (vs : List Nat) (t : FT) (f : FE) (z : Option En) : Out (Option O) := match z with
  | none => .bad
  | some ρ1 => (match t ρ1 with
    | .ok true ρ2 => (match f ρ2 with
      | .ok o ρ3 => .ok (some o) (wipeE ρ3 vs)
      | _ => .bad)
    | .ok false ρ2 => .ok none (wipeE ρ2 vs)
    | _ => .bad)
def kSc2 (vs : List Nat) (f : FE) (z : Out Bool) : Out (Option O) := match z with
    | .ok true ρ2 => (match f ρ2 with
      | .ok o ρ3 => .ok (some o) (wipeE ρ3 vs)
      | _ => .bad)
    | .ok false ρ2 => .ok none (wipeE ρ2 vs)
    | _ => .bad
def kSc3 (vs : List Nat) (z : Out O) : Out (Option O) := match z with
      | .ok o ρ3 => .ok (some o) (wipeE ρ3 vs)
      | _ => .bad
def ySc (vs : List Nat) (f : FE) : En → Out (Option O) := fun ρ => kSc3 vs (f ρ)
def nSc (vs : List Nat) : En → Out (Option O) := fun ρ => .ok none (wipeE ρ vs)
theorem x_sc : stepC gF t f vs d ρ = kSc vs t f (gF d ρ) := rfl
theorem x_sc1 : kSc vs t f (some ρ) = kSc2 vs f (t ρ) := rfl
theorem x_sc2 {b : Bool} : kSc2 vs f (.ok b ρ) = sel b (ySc vs f) (nSc vs) ρ := by cases b <;> rfl
theorem x_sc3 : kSc3 vs (.ok o ρ) = .ok (some o) (wipeE ρ vs) := rfl
theorem x_sc4 : ySc vs f ρ = kSc3 vs (f ρ) := rfl
theorem x_sc5 : nSc vs ρ = .ok none (wipeE ρ vs) := rfl
theorem x_lc0 : loopC gF t f vs [] ρ os = .ok os ρ := rfl
def CO {α : Type} (out : Out α) (P : α → En → Prop) : Prop := ∃ a ρ, out = .ok a ρ ∧ P a ρ
theorem co_mk {α : Type} {a : α} {P : α → En → Prop} (h : P a ρ) : CO (.ok a ρ) P := ⟨a, ρ, rfl, h⟩
/-- a comprehension, its elements told with the world -/
theorem lc_inv (I : Nat → List PyData → En → Prop) (hz : ds.length ≤ sizeLine) (hs : ∀ j acc d ρ, ds[j]? = some d → acc.length ≤ j → I j acc ρ → CO (stepC gF t f vs d ρ) fun u ρ' => (u = none ∧ I (j + 1) acc ρ') ∨ ∃ e, u = some (.fz e) ∧ I (j + 1) (acc ++ [e]) ρ') (h0 : I 0 [] ρ) : CO (loopC gF t f vs ds ρ []) fun os ρ' => ∃ acc, os = acc.map O.fz ∧ acc.length ≤ ds.length ∧ I ds.length acc ρ' := by
  have go : ∀ (n j : Nat) (acc : List PyData) (ρ : En), n + j = ds.length → acc.length ≤ j → I j acc ρ → CO (loopC gF t f vs (ds.drop j) ρ (acc.map O.fz)) fun os ρ' => ∃ acc, os = acc.map O.fz ∧ acc.length ≤ ds.length ∧ I ds.length acc ρ' := by
    intro n
    induction n with
    | zero =>
      intro j acc ρ hn hl hi
      rw [List.drop_eq_nil_of_le (by omega)]
      have : j = ds.length := by omega
      subst this
      exact ⟨_, ρ, rfl, acc, rfl, hl, hi⟩
    | succ n ih =>
      intro j acc ρ hn hl hi
      have hlt : j < ds.length := by omega
      obtain ⟨u, ρ2, h2, q⟩ := hs j acc ds[j] ρ (List.getElem?_eq_getElem hlt) hl hi
      rw [List.drop_eq_getElem_cons hlt]
      unfold loopC
      rw [h2]
      rcases q with ⟨rfl, q⟩ | ⟨e, rfl, q⟩
      · exact ih (j + 1) acc ρ2 (by omega) (by omega) q
      · dsimp only
        rw [if_pos (by rw [List.length_map]; omega)]
        have := ih (j + 1) (acc ++ [e]) ρ2 (by omega) (by simp; omega) q
        rw [List.map_append] at this
        exact this
  exact go ds.length 0 [] ρ (by omega) (Nat.le_refl _) h0
/-- a comprehension whose element leaves the world as it is -/
theorem lc_map {α : Type} (ks : List α) (q g : α → PyData) (hz : ks.length ≤ sizeLine) (hs : ∀ k, k ∈ ks → stepC gF t f vs (q k) ρ = .ok (some (.fz (g k))) ρ) : loopC gF t f vs (ks.map q) ρ [] = .ok ((ks.map g).map O.fz) ρ := by
  have go : ∀ (ks : List α) (acc : List O), acc.length + ks.length ≤ sizeLine → (∀ k, k ∈ ks → stepC gF t f vs (q k) ρ = .ok (some (.fz (g k))) ρ) → loopC gF t f vs (ks.map q) ρ acc = .ok (acc ++ (ks.map g).map O.fz) ρ := by
    intro ks
    induction ks with
    | nil => intro acc _ _; simp [loopC]
    | cons k ks ih =>
      intro acc hl hs
      rw [List.map_cons]
      unfold loopC
      rw [hs k (by simp)]
      dsimp only
      rw [if_pos (by simp only [List.length_cons] at hl; omega), ih (acc ++ [O.fz (g k)]) (by simp only [List.length_append, List.length_cons, List.length_nil] at hl ⊢; omega) fun k hk => hs k (by simp [hk])]
      simp
  have := go ks [] (by simpa using hz) hs
  simpa using this
theorem lc_filter {α : Type} (ks : List α) (q g : α → PyData) (c : α → Bool) (hz : ks.length ≤ sizeLine) (hs : ∀ k, k ∈ ks → stepC gF t f vs (q k) ρ = .ok (if c k then some (.fz (g k)) else none) ρ) : loopC gF t f vs (ks.map q) ρ [] = .ok (((ks.filter c).map g).map O.fz) ρ := by
  have go : ∀ (ks : List α) (acc : List O), acc.length + ks.length ≤ sizeLine → (∀ k, k ∈ ks → stepC gF t f vs (q k) ρ = .ok (if c k then some (.fz (g k)) else none) ρ) → loopC gF t f vs (ks.map q) ρ acc = .ok (acc ++ ((ks.filter c).map g).map O.fz) ρ := by
    intro ks
    induction ks with
    | nil => intro acc _ _; simp [loopC]
    | cons k ks ih =>
      intro acc hl hs
      rw [List.map_cons]
      unfold loopC
      rw [hs k (by simp)]
      cases hc : c k with
      | true =>
        simp only [if_true]
        rw [if_pos (by simp only [List.length_cons] at hl; omega), ih (acc ++ [O.fz (g k)]) (by simp only [List.length_append, List.length_cons, List.length_nil] at hl ⊢; omega) fun k hk => hs k (by simp [hk])]
        simp [hc]
      | false =>
        simp only [Bool.false_eq_true, if_false]
        rw [ih acc (by simp only [List.length_cons] at hl; omega) fun k hk => hs k (by simp [hk])]
        simp [hc]
  have := go ks [] (by simpa using hz) hs
  simpa using this
/-! while -/
theorem whEnd {c : FT} (h : c ρ = .ok false ρ1) : sWh c body ρ = .nx ρ1 := by
  have e : whF c body 1 ρ = .nx ρ1 := by unfold whF; rw [h]; rfl
  rw [sWh_eq (n := 1) (by rw [e]; exact fun z => nomatch z), e]
theorem whF_of {c : FT} (h : sWh c body ρ ≠ .bad) : ∃ n, whF c body n ρ = sWh c body ρ ∧ whF c body n ρ ≠ .bad := by
  unfold sWh at h ⊢
  split at h
  · rename_i hh
    rw [dif_pos hh]
    exact ⟨_, rfl, Classical.choose_spec hh⟩
  · exact absurd rfl h
theorem whGo {c : FT} (h : c ρ = .ok true ρ1) (hb : body ρ1 = .nx ρ2) (hr : sWh c body ρ2 ≠ .bad) : sWh c body ρ = sWh c body ρ2 := by
  obtain ⟨n, e1, e2⟩ := whF_of hr
  have e : whF c body (n + 1) ρ = whF c body n ρ2 := by
    unfold whF
    rw [h]
    simp only [Out.toS, if_true]
    rw [hb]
    cases n <;> rfl
  rw [sWh_eq (n := n + 1) (by rw [e]; exact e2), e, e1]
/-- a while by a measure -/
theorem wh_inv {c : FT} (I : En → Prop) (m : En → Nat) (R : En → Prop) (hs : ∀ ρ, I ρ → (∃ ρ1, c ρ = .ok false ρ1 ∧ R ρ1) ∨ ∃ ρ1 ρ2, c ρ = .ok true ρ1 ∧ body ρ1 = .nx ρ2 ∧ I ρ2 ∧ m ρ2 < m ρ) (h0 : I ρ) : NX (sWh c body ρ) R := by
  have go : ∀ (n : Nat) (ρ : En), m ρ ≤ n → I ρ → NX (sWh c body ρ) R := by
    intro n
    induction n with
    | zero =>
      intro ρ hn hi
      rcases hs ρ hi with ⟨ρ1, h1, h2⟩ | ⟨ρ1, ρ2, h1, h2, h3, h4⟩
      · exact ⟨ρ1, whEnd h1, h2⟩
      · omega
    | succ n ih =>
      intro ρ hn hi
      rcases hs ρ hi with ⟨ρ1, h1, h2⟩ | ⟨ρ1, ρ2, h1, h2, h3, h4⟩
      · exact ⟨ρ1, whEnd h1, h2⟩
      · obtain ⟨ρ3, e3, r3⟩ := ih ρ2 (by omega) h3
        exact ⟨ρ3, by rw [whGo h1 h2 (by rw [e3]; exact fun z => nomatch z), e3], r3⟩
  exact go (m ρ) ρ (Nat.le_refl _) h0
/-! loops within a goal -/
theorem loopG {G : SO → Prop} (I : Nat → En → Prop) (hs : ∀ j d ρ, ds[j]? = some d → I j ρ → NC (stepF gF body d ρ) (I (j + 1))) (h0 : I 0 ρ) (hG : ∀ ρ, I ds.length ρ → G (.nx ρ)) : G (loopF gF body ds ρ) := by
  obtain ⟨ρ', e, i⟩ := loop_inv I hs h0
  rw [e]; exact hG ρ' i
theorem rgD_get {lo : Int} {n j : Nat} {d : PyData} (h : (rgD lo n)[j]? = some d) : j < n ∧ d = .int (lo + (j : Int)) := by
  unfold rgD at h
  rw [List.getElem?_map] at h
  obtain ⟨k, h1, h2⟩ := Option.map_eq_some_iff.mp h
  obtain ⟨h3, h4⟩ := List.getElem?_eq_some_iff.mp h1
  rw [List.getElem_range] at h4
  subst h4
  rw [List.length_range] at h3
  exact ⟨h3, h2.symm⟩
theorem rgD_len {lo : Int} {n : Nat} : (rgD lo n).length = n := by simp [rgD]
theorem loopR {G : SO → Prop} (I : Nat → En → Prop) (hs : ∀ (j : Nat) ρ, j < n → I j ρ → NC (stepF gF body (.int (j : Int)) ρ) (I (j + 1))) (h0 : I 0 ρ) (hG : ∀ ρ, I n ρ → G (.nx ρ)) : G (loopF gF body (rgD 0 n) ρ) :=
  loopG I (fun j d ρ hd hi => by
    obtain ⟨h1, rfl⟩ := rgD_get hd
    rw [Int.zero_add]
    exact hs j ρ h1 hi) h0 fun ρ h => hG ρ (by rw [rgD_len] at h; exact h)
theorem loopRl {G : SO → Prop} (I : Nat → En → Prop) (hs : ∀ (j : Nat) ρ, j < n → I j ρ → NC (stepF gF body (.int (lo + (j : Int))) ρ) (I (j + 1))) (h0 : I 0 ρ) (hG : ∀ ρ, I n ρ → G (.nx ρ)) : G (loopF gF body (rgD lo n) ρ) :=
  loopG I (fun j d ρ hd hi => by
    obtain ⟨h1, rfl⟩ := rgD_get hd
    exact hs j ρ h1 hi) h0 fun ρ h => hG ρ (by rw [rgD_len] at h; exact h)
theorem loopM {α : Type} {xs : List α} {q : α → PyData} {G : SO → Prop} (I : Nat → En → Prop) (hs : ∀ (j : Nat) ρ (h : j < xs.length), I j ρ → NC (stepF gF body (q xs[j]) ρ) (I (j + 1))) (h0 : I 0 ρ) (hG : ∀ ρ, I xs.length ρ → G (.nx ρ)) : G (loopF gF body (xs.map q) ρ) :=
  loopG I (fun j d ρ hd hi => by
    rw [List.getElem?_map] at hd
    obtain ⟨y, h1, h2⟩ := Option.map_eq_some_iff.mp hd
    obtain ⟨h3, h4⟩ := List.getElem?_eq_some_iff.mp h1
    subst h4; subst h2
    exact hs j ρ h3 hi) h0 fun ρ h => hG ρ (by rw [List.length_map] at h; exact h)
theorem lcG {G : Out (List O) → Prop} (I : Nat → List PyData → En → Prop) (hz : ds.length ≤ sizeLine) (hs : ∀ j acc d ρ, ds[j]? = some d → acc.length ≤ j → I j acc ρ → CO (stepC gF t f vs d ρ) fun u ρ' => (u = none ∧ I (j + 1) acc ρ') ∨ ∃ e, u = some (.fz e) ∧ I (j + 1) (acc ++ [e]) ρ') (h0 : I 0 [] ρ)
    (hG : ∀ acc ρ', acc.length ≤ ds.length → I ds.length acc ρ' → G (.ok (acc.map O.fz) ρ')) : G (loopC gF t f vs ds ρ []) := by
  obtain ⟨os, ρ', e, acc, rfl, hl, hi⟩ := lc_inv I hz hs h0
  rw [e]; exact hG acc ρ' hl hi
/-- each element told: over a range -/
theorem lcR {G : Out (List O) → Prop} (I : Nat → List PyData → En → Prop) (hz : n ≤ sizeLine) (hs : ∀ (j : Nat) acc ρ, j < n → acc.length = j → I j acc ρ → CO (stepC gF t f vs (.int (j : Int)) ρ) fun u ρ' => ∃ e, u = some (.fz e) ∧ I (j + 1) (acc ++ [e]) ρ') (h0 : I 0 [] ρ)
    (hG : ∀ acc ρ', acc.length = n → I n acc ρ' → G (.ok (acc.map O.fz) ρ')) : G (loopC gF t f vs (rgD 0 n) ρ []) := by
  refine lcG (fun j acc ρ => acc.length = j ∧ I j acc ρ) (by rw [rgD_len]; exact hz) (fun j acc d ρ hd hl hi => ?_) ⟨rfl, h0⟩ fun acc ρ' hl hi => ?_
  · obtain ⟨h1, rfl⟩ := rgD_get hd
    rw [Int.zero_add]
    obtain ⟨u, ρ', e, x, rfl, hx⟩ := hs j acc ρ h1 hi.1 hi.2
    exact ⟨_, ρ', e, .inr ⟨x, rfl, by simp [hi.1], hx⟩⟩
  · rw [rgD_len] at hi; exact hG acc ρ' hi.1 hi.2
theorem lcM {α : Type} {xs : List α} {q : α → PyData} {G : Out (List O) → Prop} (I : Nat → List PyData → En → Prop) (hz : xs.length ≤ sizeLine) (hs : ∀ (j : Nat) acc ρ (h : j < xs.length), acc.length = j → I j acc ρ → CO (stepC gF t f vs (q xs[j]) ρ) fun u ρ' => ∃ e, u = some (.fz e) ∧ I (j + 1) (acc ++ [e]) ρ') (h0 : I 0 [] ρ)
    (hG : ∀ acc ρ', acc.length = xs.length → I xs.length acc ρ' → G (.ok (acc.map O.fz) ρ')) : G (loopC gF t f vs (xs.map q) ρ []) := by
  refine lcG (fun j acc ρ => acc.length = j ∧ I j acc ρ) (by rw [List.length_map]; exact hz) (fun j acc d ρ hd hl hi => ?_) ⟨rfl, h0⟩ fun acc ρ' hl hi => ?_
  · rw [List.getElem?_map] at hd
    obtain ⟨y, h1, h2⟩ := Option.map_eq_some_iff.mp hd
    obtain ⟨h3, h4⟩ := List.getElem?_eq_some_iff.mp h1
    subst h4; subst h2
    obtain ⟨u, ρ', e, x, rfl, hx⟩ := hs j acc ρ h3 hi.1 hi.2
    exact ⟨_, ρ', e, .inr ⟨x, rfl, by simp [hi.1], hx⟩⟩
  · rw [List.length_map] at hi; exact hG acc ρ' hi.1 hi.2
theorem lc_rg (g : Nat → PyData) (hz : n ≤ sizeLine) (hs : ∀ k : Nat, k < n → stepC gF t f vs (.int (k : Int)) ρ = .ok (some (.fz (g k))) ρ) : loopC gF t f vs (rgD 0 n) ρ [] = .ok (((List.range n).map g).map O.fz) ρ := by
  have e : rgD 0 n = (List.range n).map fun k : Nat => PyData.int (k : Int) := by simp [rgD]
  rw [e]
  exact lc_map (List.range n) _ g (by rw [List.length_range]; exact hz) fun k hk => hs k (List.mem_range.mp hk)
theorem nat_line {n : Nat} (h : n ≤ 100000) : n ≤ sizeLine := by unfold sizeLine; omega
theorem lt_line {n : Nat} (h : n < 100000) : n < sizeLine := by unfold sizeLine; omega
end
end Ls

/-! clauses, loops over what a slot holds -/
namespace Ls
open PySem L2
section
variable {ρ ρ1 ρ2 : En} {gF : FG} {body : FS} {d : PyData} {ds : List PyData} {sr : Sr} {o : O} {x : Xn} {Z : List Nat} {l : Bool} {lo : Int} {n i : Nat} {t : FT} {f : FE} {vs : List Nat} {os us : List O}
theorem x_ift {α : Type} {a b : α} : (if True then a else b) = a := if_pos trivial
theorem x_iff {α : Type} {a b : α} : (if False then a else b) = b := if_neg not_false
def kW (z : Option PyData) (ρ : En) : SO := match z with
  | some t => .rt (.fz t) ρ
  | none => .bad
theorem x_kW {t : PyData} : kW (some t) ρ = .rt (.fz t) ρ := rfl
theorem x_clW {known : Str → Bool} {fl : Str} (hi : i < ρ.length) (hk : known x.cls = true) : runCl (some i) (fun a cls d => sRet (eXf known a cls d i fl)) x ρ = kW (x.fs.lookup fl) (ρ.set i none) := by
  refine runCl_eq (fun a cls d => ?_) (decide_eq_true hi)
  have h1 : (setX a cls d x ρ (some i))[i]? = some (some (.exn a cls d x)) := List.getElem?_set_self hi
  cases hf : x.fs.lookup fl with
  | some t =>
    show cleanX (some i) ((eXf known a cls d i fl (setX a cls d x ρ (some i))).toS _) = _
    rw [eXf_eq h1 hk hf]
    show SO.rt (.fz t) ((ρ.set i _).set i none) = _
    rw [List.set_set]; rfl
  | none =>
    show cleanX (some i) ((eXf known a cls d i fl (setX a cls d x ρ (some i))).toS _) = _
    unfold eXf
    rw [h1]
    dsimp only
    rw [if_pos ⟨rfl, rfl, rfl, hk⟩, hf]
    rfl
/-- a clause without a name whose suite returns a constant -/
theorem x_clC {c : PyData} : runCl none (fun _ _ _ => sRet (eC c)) x ρ = .rt (.fz c) ρ := runCl_eq (fun _ _ _ => rfl) rfl
theorem forG {G : SO → Prop} (I : Nat → En → Prop) (hz : (sr.slots.all fun i => Z.contains i) = true) (hat : ∀ j ρ, I j ρ → sr.at ρ = some ds) (hs : ∀ j d ρ, ds[j]? = some d → I j ρ → NC (stepF gF body d ρ) (I (j + 1))) (h0 : I 0 ρ) (hG : ∀ ρ, I ds.length ρ → G (.nx ρ)) : G (kFor Z gF body (.ok sr ρ)) := by
  have e : kFor Z gF body (.ok sr ρ) = forF sr gF body (ds.length + 1) 0 ρ := by
    show (if (sr.slots.all fun i => Z.contains i) = true then _ else _) = _
    rw [if_pos hz, hat 0 ρ h0]
  rw [e]
  obtain ⟨ρ', h1, h2⟩ := for_inv (sr := sr) (gF := gF) (body := body) (ds := ds) I (fun j ρ _ h => hat j ρ h) (fun j ρ d hd hi => by
    obtain ⟨ρ2, h3, h4⟩ := hs j d ρ hd hi
    cases hg : gF d ρ with
    | none => unfold stepF at h3; rw [hg] at h3; rcases h3 with h3 | h3 <;> cases h3
    | some ρ1 => unfold stepF at h3; rw [hg] at h3; exact ⟨ρ1, ρ2, rfl, h3, h4⟩) ds.length 0 ρ (by omega) h0
  rw [h1]; exact hG ρ' h2
theorem forM {α : Type} {xs : List α} {q : α → PyData} {G : SO → Prop} (I : Nat → En → Prop) (hz : (sr.slots.all fun i => Z.contains i) = true) (hat : ∀ j ρ, I j ρ → sr.at ρ = some (xs.map q)) (hs : ∀ (j : Nat) ρ (h : j < xs.length), I j ρ → NC (stepF gF body (q xs[j]) ρ) (I (j + 1))) (h0 : I 0 ρ) (hG : ∀ ρ, I xs.length ρ → G (.nx ρ)) : G (kFor Z gF body (.ok sr ρ)) :=
  forG I hz hat (fun j d ρ hd hi => by
    rw [List.getElem?_map] at hd
    obtain ⟨y, h1, h2⟩ := Option.map_eq_some_iff.mp hd
    obtain ⟨h3, h4⟩ := List.getElem?_eq_some_iff.mp h1
    subst h4; subst h2
    exact hs j ρ h3 hi) h0 fun ρ h => hG ρ (by rw [List.length_map] at h; exact h)
/-- a comprehension over what a slot holds: the world stays -/
theorem compS {α : Type} (ks : List α) (q g : α → PyData) (h4 : wipeE ρ vs = ρ1) (hz : (sr.slots.all fun i => !vs.contains i) = true) (hat : sr.at ρ1 = some (ks.map q)) (hl : ks.length ≤ sizeLine) (hs : ∀ k, k ∈ ks → stepC gF t f vs (q k) ρ1 = .ok (some (.fz (g k))) ρ1) : kComp gF t f vs (.ok sr ρ) = .ok (.lst ((ks.map g).map O.fz)) ρ1 := by
  subst h4
  have go : ∀ (n j : Nat) (acc : List PyData), n + j = ks.length → acc = (ks.take j).map g → compF sr gF t f vs (n + 1) j (wipeE ρ vs) (acc.map O.fz) = .ok ((ks.map g).map O.fz) (wipeE ρ vs) := by
    intro n
    induction n with
    | zero =>
      intro j acc hn ha
      unfold compF
      rw [hat]
      dsimp only
      rw [List.getElem?_eq_none (by rw [List.length_map]; omega), ha, List.take_of_length_le (by omega)]
    | succ n ih =>
      intro j acc hn ha
      have hj : j < ks.length := by omega
      have hk := hs ks[j] (List.getElem_mem hj)
      unfold compF
      rw [hat]
      dsimp only
      rw [List.getElem?_map, List.getElem?_eq_getElem hj]
      simp only [Option.map]
      have hst : stepC gF t f vs (q ks[j]) (wipeE ρ vs) = match gF (q ks[j]) (wipeE ρ vs) with
        | none => .bad
        | some ρ1 => (match t ρ1 with
          | .ok true ρ2 => (match f ρ2 with
            | .ok o ρ3 => .ok (some o) (wipeE ρ3 vs)
            | _ => .bad)
          | .ok false ρ2 => .ok none (wipeE ρ2 vs)
          | _ => .bad) := rfl
      rw [hk] at hst
      cases hg : gF (q ks[j]) (wipeE ρ vs) with
      | none => rw [hg] at hst; cases hst
      | some ρ2 =>
        rw [hg] at hst
        dsimp only at hst ⊢
        cases ht : t ρ2 with
        | bad => rw [ht] at hst; cases hst
        | exc x r => rw [ht] at hst; cases hst
        | ok b ρ3 =>
          rw [ht] at hst
          cases b with
          | false => cases hst
          | true =>
            dsimp only at hst ⊢
            cases hf : f ρ3 with
            | bad => rw [hf] at hst; cases hst
            | exc x r => rw [hf] at hst; cases hst
            | ok o ρ4 =>
              rw [hf] at hst
              dsimp only at hst ⊢
              injection hst with e1 e2
              injection e1 with e1
              subst e1
              rw [← e2, if_pos (by rw [List.length_map, ha, List.length_map, List.length_take]; omega)]
              have := ih (j + 1) (acc ++ [g ks[j]]) (by omega) (by rw [ha, List.take_add_one, List.getElem?_eq_getElem hj, List.map_append]; rfl)
              rw [List.map_append] at this
              exact this
  show (if (sr.slots.all fun i => !vs.contains i) = true then _ else _) = _
  rw [if_pos hz, hat]
  dsimp only
  rw [List.length_map]
  have := go ks.length 0 [] rfl rfl
  rw [List.map_nil] at this
  rw [this]
/-- a comprehension over what a slot holds: the world told -/
theorem compG {α : Type} {xs : List α} {q : α → PyData} {G : Out O → Prop} (I : Nat → List PyData → En → Prop) (hz : (sr.slots.all fun i => !vs.contains i) = true) (hat : ∀ j acc ρ, I j acc ρ → sr.at ρ = some (xs.map q)) (hl : xs.length ≤ sizeLine)
    (hs : ∀ (j : Nat) acc ρ (h : j < xs.length), acc.length = j → I j acc ρ → CO (stepC gF tYesF f vs (q xs[j]) ρ) fun u ρ' => ∃ e, u = some (.fz e) ∧ I (j + 1) (acc ++ [e]) ρ') (h0 : I 0 [] (wipeE ρ vs)) (hG : ∀ acc ρ', acc.length = xs.length → I xs.length acc ρ' → G (.ok (.lst (acc.map O.fz)) ρ')) : G (kComp gF tYesF f vs (.ok sr ρ)) := by
  have key : ∃ acc ρ', compF sr gF tYesF f vs ((xs.map q).length + 1) 0 (wipeE ρ vs) (([] : List PyData).map O.fz) = .ok (acc.map O.fz) ρ' ∧ acc.length = (xs.map q).length ∧ (acc.length = (xs.map q).length ∧ I (xs.map q).length acc ρ') := by
    refine comp_inv (fun j acc ρ => acc.length = j ∧ I j acc ρ) (fun j acc ρ h => hat j acc ρ h.2) (fun j acc ρ d hd hi => ?_) (by rw [List.length_map]; exact hl) (xs.map q).length 0 (wipeE ρ vs) [] rfl rfl ⟨rfl, h0⟩
    rw [List.getElem?_map] at hd
    obtain ⟨y, h1, h2⟩ := Option.map_eq_some_iff.mp hd
    obtain ⟨h3, h4⟩ := List.getElem?_eq_some_iff.mp h1
    subst h4; subst h2
    obtain ⟨u, ρ', e, x, rfl, hx⟩ := hs j acc ρ h3 hi.1 hi.2
    unfold stepC at e
    cases hg : gF (q xs[j]) ρ with
    | none => rw [hg] at e; cases e
    | some ρ1 =>
      rw [hg] at e
      dsimp only [tYesF] at e
      cases hf : f ρ1 with
      | bad => rw [hf] at e; cases e
      | exc x r => rw [hf] at e; cases e
      | ok o ρ3 =>
        rw [hf] at e
        injection e with e1 e2
        injection e1 with e1
        subst e1
        exact ⟨ρ1, ρ1, ρ3, x, rfl, rfl, hf, by simp [hi.1], by rw [e2]; exact hx⟩
  obtain ⟨acc, ρ', k1, k2, k3⟩ := key
  have e : kComp gF tYesF f vs (.ok sr ρ) = .ok (.lst (acc.map O.fz)) ρ' := by
    show (if (sr.slots.all fun i => !vs.contains i) = true then _ else _) = _
    rw [if_pos hz, hat 0 [] _ h0]
    dsimp only
    rw [List.map_nil] at k1
    rw [k1]
  rw [e]
  rw [List.length_map] at k3
  exact hG acc ρ' k3.1 k3.2
end
end Ls

/-! a slot that is lent behind the working out of the arguments after it -/
namespace Ls
open PySem L2
variable [Tb]
def aLate (i : Nat) (r : FA) : FA := fun ρ => match ρ[i]? with
  | some (some _) => (r ρ).bind fun os ρ2 => (eLend i ρ2).bind fun o ρ3 => .ok (o :: os) ρ3
  | _ => .bad
section
variable {K : PySem.W.Frag} {W : WX} {X : Cx} {e : Expr} {es : List Expr} {ls : List (Option Nat)}
theorem lend_at {S H : Hp} {σ : L2.St} {ρ ρ3 : En} {A : Fp} {i : Nat} {o2 : O} (e : ER K S H σ ρ A) (hl : eLend i ρ = .ok o2 ρ3) : ∃ v B A2, σ[i]? = some (some v) ∧ OR K S H v o2 B ∧ ER K S H σ ρ3 A2 ∧ ∀ b, A b = A2 b + B b := by
  unfold eLend at hl
  cases hi : ρ[i]? with
  | none => rw [hi] at hl; cases hl
  | some x =>
    rw [hi] at hl
    cases x with
    | none => cases hl
    | some o =>
      obtain ⟨v, B, C, e1, q, e2, z⟩ := er_get e hi
      cases o with
      | fz d =>
        injection hl with h1 h2
        subst h1; subst h2
        have z2 : ∀ b, B b = 0 := by cases q with | fz q z2 => exact z2
        exact ⟨v, B, A, e1, q, e, fun b => by rw [z2 b]; rfl⟩
      | raw u =>
        injection hl with h1 h2
        subst h1; subst h2
        have z2 : ∀ b, B b = 0 := by cases q with | raw z2 => exact z2
        exact ⟨v, B, A, e1, q, e, fun b => by rw [z2 b]; rfl⟩
      | exn a c d y => cases hl
      | lst xs =>
        injection hl with h1 h2
        subst h1; subst h2
        exact ⟨v, B, C, e1, q, e2, fun b => by rw [z b]; omega⟩
theorem snd_late {i : Nat} {tr : TA} {r : FA} (h2 : Snd K W (RArgs K ls) tr r) : Snd K W (RArgs K (some i :: ls)) (tCons (tVar i) tr) (aLate i r) := by
  intro σ ρ S H A w e
  unfold aLate
  cases hi : ρ[i]? with
  | none => exact True.intro
  | some x =>
    cases x with
    | none => exact True.intro
    | some o =>
      obtain ⟨v, B, C, e1, q, e2, z⟩ := er_get e hi
      have h3 := h2 σ ρ S H A w e
      show OutOk K W (RArgs K (some i :: ls)) _ σ S H A ((r ρ).bind _)
      cases hf : r ρ with
      | bad => exact True.intro
      | exc x' ρ' =>
        rw [hf] at h3
        exact fun Q k => ⟨v, e1, h3 _ k⟩
      | ok os ρ2 =>
        rw [hf] at h3
        show OutOk K W (RArgs K (some i :: ls)) _ σ S H A ((eLend i ρ2).bind _)
        cases hl : eLend i ρ2 with
        | bad => exact True.intro
        | exc x' ρ' =>
          exfalso
          unfold eLend at hl
          split at hl <;> cases hl
        | ok o2 ρ3 =>
          intro Q k
          refine ⟨v, e1, h3 _ fun xs S' H' A' D w' e' rb t' => ?_⟩
          obtain ⟨v3, B3, A3, e5, q5, e6, z6⟩ := lend_at e' hl
          rw [e1] at e5
          cases e5
          have eA : A' + D = A3 + (B3 + D) := funext fun b => by simp only [add_at]; rw [z6 b]; omega
          rw [eA] at w' t'
          exact k (v :: xs) S' H' A3 (B3 + D) w' e6 ⟨.cons q5 rb.1 fun b => add_at _ _ b, ⟨e1, rb.2.1⟩, by simp [rb.2.2]⟩ t'
theorem av_late (i : Nat) {x : Str} {pos : Pos} {r : FA} (hr : AV X W es ls r) (hN : X.N[i]? = some x := by rfl) (hv : Vis X.env.scope x := by first | exact Or.inl rfl | exact Or.inr (Or.inl rfl) | exact Or.inr (Or.inr rfl)) (hd : (x == ("__debug__" : Str)) = false := by decide)
    (hcd : (x == ("__classdict__" : Str)) = false := by decide) (hs : starEach (.Name x pos :: es) X.env = (false, eval (.Name x pos) X.env) :: starEach es X.env := by rfl) : AV X W (.Name x pos :: es) (some i :: ls) (aLate i r) :=
  let ⟨_, r1, r2⟩ := hr.ex
  ⟨_, pa_cons (pe_var hN hv hd hcd) r1 hs, snd_late r2⟩
variable {ρ : En} {i : Nat} {o : O} {os : List O} {x : Xn} {r : FA}
def kLa0 (z : Option (Option O)) (i : Nat) (r : FA) (ρ : En) : Out (List O) := match z with
  | some (some _) => (r ρ).bind fun os ρ2 => (eLend i ρ2).bind fun o ρ3 => .ok (o :: os) ρ3
  | _ => .bad
def kLa1 (i : Nat) (z : Out (List O)) : Out (List O) := z.bind fun os ρ2 => (eLend i ρ2).bind fun o ρ3 => .ok (o :: os) ρ3
def kLa2 (os : List O) (z : Out O) : Out (List O) := z.bind fun o ρ3 => .ok (o :: os) ρ3
theorem x_la : aLate i r ρ = kLa0 ρ[i]? i r ρ := rfl
theorem x_la0 : kLa0 (some (some o)) i r ρ = kLa1 i (r ρ) := rfl
theorem x_la1 : kLa1 i (.ok os ρ) = kLa2 os (eLend i ρ) := rfl
theorem x_la1x : kLa1 i (.exc x ρ) = .exc x ρ := rfl
theorem x_la2 : kLa2 os (.ok o ρ) = .ok (o :: os) ρ := rfl
theorem loopI {gF : FG} {body : FS} {ds : List PyData} {G : SO → Prop} (I : En → Prop) (hs : ∀ d ∈ ds, ∀ ρ, I ρ → NC (stepF gF body d ρ) I) (h0 : I ρ) (hG : ∀ ρ, I ρ → G (.nx ρ)) : G (loopF gF body ds ρ) :=
  loopG (fun _ => I) (fun j d ρ hd hi => hs d (List.mem_of_getElem? hd) ρ hi) h0 hG
end
end Ls

/-! x(lambda: e), x a def that asks it once within a try -/
namespace Ls
open PySem PySem.Spec PyProof.Rows L2
variable [Tb]
section
variable {K : PySem.W.Frag} {W : WX} {S H H1 : Hp} {A : Fp} {σ : L2.St} {ρ : En}
theorem takes_len {X : Cx} (tk : Takes X W) : Takes X (fun cls d σ H => σ.length = X.N.length → W cls d σ H) := fun u s' ⟨a, B, sI, pins, σ, H, cls, d, e, I, nb, up, sky, na, os, ag, w⟩ =>
  tk u s' ⟨a, B, sI, pins, σ, H, cls, d, e, I, nb, up, sky, na, os, ag, w I.len⟩
theorem er_none : ∀ (σ : L2.St), ER K S H σ (List.replicate σ.length none) Fp.z
  | [] => .nil fun _ => rfl
  | w :: σ => .non (er_none σ)
/-- the tables have grown, all else stays -/
theorem wf_tab (w : WF S H A) (eN : LamX.ExtN H H1) (hT : LamX.Tabs Tb.t H1) : WF S H1 A ∧ Tr S H A S H1 A ∧ (∀ a, 0 < A a → H1 a = H a) := by
  have k : ∀ b u, H b = some u → ¬ Tl H b → H1 b = some u := fun b u e n => eN b u e fun ps e2 => n ⟨ps, by rw [e, e2]⟩
  have kA : ∀ a, 0 < A a → H1 a = H a := fun a h => by
    cases e : H a with
    | none => exact absurd e (w.th a h)
    | some u => exact k a u e fun t => by have := (w.ta a t).1; omega
  have old : ∀ b, H b = none → A b = 0 ∧ S b = none := fun b e => (w.free e).symm
  refine ⟨⟨fun a u e => k a u (w.sub a u e) fun t => (by rw [(w.ta a t).2] at e; cases e), w.one, w.dj, fun b h => (by rw [kA b h]; exact w.th b h), fun p hp => hT p hp, fun b t => ?_, fun c u hc hu => ?_⟩, ⟨fun _ _ h => h, fun a u n _ e => eN a u e n, fun _ _ h => .inl h, fun _ h => .inl h⟩, kA⟩
  · by_cases ht : Tl H b
    · exact w.ta b ht
    · cases e : H b with
      | none => exact old b e
      | some u =>
        obtain ⟨ps, t⟩ := t
        rw [k b u e ht] at t; cases t
        exact absurd ⟨ps, e⟩ ht
  · by_cases ht : Tl H c
    · exact (w.ta c ht).1
    · cases e : H c with
      | none => exact (old c e).1
      | some z =>
        rw [k c z e ht] at hc; cases hc
        exact w.co c _ e hu
def askE (Q : VK) : Ends := { nx := fun _ H' => Q .non H', rt := Q }
def askT (K : PySem.W.Frag) (rest : FS) (Q : VK) : Ends := { nx := fun σ H => rdS K W0 [] rest (askE Q) σ H, rt := Q }
def TAsk (K : PySem.W.Frag) (n : Nat) (hs : List Hd) (rest : FS) : (XK → Hp → VK → Prop) → Hp → VK → Prop := fun tl H Q =>
  ∃ E : XK, (∀ σ : L2.St, σ.length = n → tl E H fun _ H1 => rdS K W0 [] rest (askE Q) σ H1) ∧ ∀ cl cls d H1 σ, σ.length = n → HdsS K [] hs cl → E cls d H1 → wCl K W0 (askT K rest Q) cl cls d σ H1
end
theorem ask_gives {X : Cx} {Ng : List Str} {x a q : Str} {sg : Scope} {g : Addr} {cdg : Value} {h₀ : ExceptHandler} {hds : List ExceptHandler} {rest : List Stmt} {hs : List Hd} {fr : FS} {p1 p2 p3 p4 : Pos} (hN : Ng.Nodup) (hl : ∀ f : Addr, (L2.start Ng [V.ref f])[0]? = some (some (V.ref f))) (hlen : ∀ f : Addr, (L2.start Ng [V.ref f]).length = Ng.length)
    (hh : ∀ (s : Shared) (H : Hp), ClV (cxOf C8.CX0 X.prog X.w X.K X.mg X.base Ng x sg g cdg X.A X.stack s H C8.E0).nox [] (h₀ :: hds) hs) (hr : ∀ (s : Shared) (H : Hp), BV (cxOf C8.CX0 X.prog X.w X.K X.mg X.base Ng x sg g cdg X.A X.stack s H C8.E0).nox W0 [] rest fr)
    (hsw : ∀ (s : Shared) (H : Hp), swapsWith (.Call (.Name a p1) [] [] p2) none p3.line (cxOf C8.CX0 X.prog X.w X.K X.mg X.base Ng x sg g cdg X.A X.stack s H C8.E0).nox.env = pure false := by intros; rfl) :
    LamX.GivesTo X Ng x sg g cdg (.Try [.Expr (.Call (.Name a p1) [] [] p2) p3] (h₀ :: hds) [] [] p4 :: rest) a q (TAsk X.K Ng.length hs fr) := by
  intro f c' s H Q tl act hc h
  obtain ⟨E, h1, h3⟩ := h
  obtain ⟨cl, k1, k2⟩ := clv (hh s H)
  refine ⟨_, pss_cons (ps_tryN (X := (cxOf C8.CX0 X.prog X.w X.K X.mg X.base Ng x sg g cdg X.A X.stack s H C8.E0).nox) (W := W0)
    (tb := fun W' D σ H => ∃ Ech : XK, (∀ cls d σ' H', Ech cls d H' → σ'.length = Ng.length → W' cls d σ' H') ∧ σ[0]? = some (some (.ref f)) ∧ H c' = some (LamX.CodeO c' q) ∧ tl Ech H fun _ H2 => D.nx σ H2) rfl rfl hN LamX.takes0 (fun W' pn xe tk _ => ?_) k1) (hr s H).pss, ?_⟩
  · refine ⟨fun pins s' σ H' D I h' => ?_⟩
    obtain ⟨Ech, hW, e1, e2, e3⟩ := h'
    have hp := act _ pn xe Ech p1 p2 (takes_len tk) hW
    exact (pss_one (ps_expr (pos := p3) hp (hsw s H))).run pins s' σ H' D I ⟨e1, e2, e3⟩
  · refine ⟨E, fun cls d σ' H' he hlen' => h3 cl cls d H' σ' hlen' k2 he, hl f, hc, h1 _ (hlen f)⟩
/-- what the def makes of what it was told -/
def askK (out : SO) (ρ : En) : Out O := match out with
  | .rt o _ => .ok o ρ
  | _ => .bad
noncomputable def eAsk (n : Nat) (hs : List Hd) (rest : FS) (th : FE) : FE := fun ρ => match th ρ with
  | .ok _ ρ1 => askK (rest (List.replicate n none)) ρ1
  | .exc x ρ1 => askK ((catchF hs x (List.replicate n none)).then rest) ρ1
  | .bad => .bad
section
variable {K : PySem.W.Frag} {W : WX} {n : Nat} {hs : List Hd} {rest : FS} {th : FE} {t : XK → TE}
theorem sndE_ask (ht : ∀ E : XK, SndE K (fun cls d _ H => E cls d H) (t E) th) : SndE K W (LamX.tLam Tb.t (TAsk K n hs rest) t) (eAsk n hs rest th) := by
  intro σ ρ S H A w e
  unfold eAsk
  -- behind the asking: the def's own run beside the caller's frame
  have fin : ∀ {S2 H2 : Hp} {A2 : Fp} {σ' : L2.St} {ρ1 ρ' : En} {o : O} {Q : VK}, WF S2 H2 A2 → ER K S2 H2 σ ρ1 A2 → Tr S H A S2 H2 A2 → PostV K (ROr K) σ S H A o ρ1 Q → PostR K [] σ' S2 H2 Fp.z o ρ' Q := by
    intro S2 H2 A2 σ' ρ1 ρ' o Q w2 e2 t2 k v σ3 S3 H3 A3 B3 w3 e3 r3 t3 _
    have w2' : WF S2 H2 (Fp.z + A2) := by rw [add_comm', addz]; exact w2
    obtain ⟨w4, k4⟩ := t3.frame w2' w3
    have e4 := er_keep (K := K) t3.fz e2 fun b hb => (k4 b hb).1
    have l4 : ∀ b, (A2 + B3) b ≤ (A3 + B3 + A2) b := fun b => by simp only [add_at]; omega
    have t4 : Tr S2 H2 A2 S3 H3 (A3 + B3 + A2) := by
      have := t3.frameTr (B := A2)
      rwa [add_comm' Fp.z A2, addz] at this
    exact k v S3 H3 A2 B3 (w4.less l4) e4 r3 ((t2.trans t4).less l4)
  cases hth : th ρ with
  | bad => exact True.intro
  | ok o1 ρ1 =>
    show OutOk K W (ROr K) _ σ S H A (askK (rest (List.replicate n none)) ρ1)
    cases hr : rest (List.replicate n none) with
    | rt o ρ' =>
      intro Q k
      refine ⟨w.tb, fun H1 eN T1 => ?_⟩
      obtain ⟨w1, t1, kA⟩ := wf_tab w eN T1
      have h1 := ht (fun _ _ _ => False) σ ρ S H1 A w1 (er_keep (fun _ _ h => h) e kA)
      rw [hth] at h1
      refine ⟨fun _ _ _ => False, fun σ' hl => h1 _ fun v S2 H2 A2 B2 w2 e2 r2 t2 => ?_, fun _ _ _ _ _ _ _ z => z.elim⟩
      have w3 := w2.less (B := A2) le1
      refine ⟨List.replicate n none, S2, Fp.z, w3.less fun b => Nat.zero_le _, hl ▸ er_none σ', ?_⟩
      rw [hr]
      exact fin w3 e2 (t1.trans (t2.less le1)) k
    | _ => exact True.intro
  | exc x ρ1 =>
    show OutOk K W (ROr K) _ σ S H A (askK ((catchF hs x (List.replicate n none)).then rest) ρ1)
    cases hc : catchF hs x (List.replicate n none) with
    | rt o ρ' =>
      intro Q k
      refine ⟨w.tb, fun H1 eN T1 => ?_⟩
      obtain ⟨w1, t1, kA⟩ := wf_tab w eN T1
      have h1 := ht (fun cls d H2 => ∃ S2 A2, WF S2 H2 A2 ∧ ER K S2 H2 σ ρ1 A2 ∧ XR K S2 x cls d ∧ Tr S H A S2 H2 A2) σ ρ S H1 A w1 (er_keep (fun _ _ h => h) e kA)
      rw [hth] at h1
      refine ⟨_, fun σ' hl => h1 _ fun cls d S2 H2 A2 w2 e2 x2 t2 => ⟨S2, A2, w2, e2, x2, t1.trans t2⟩, fun cl cls d H2 σ' hl hd hE => ?_⟩
      obtain ⟨S2, A2, w2, e2, x2, t2⟩ := hE
      refine catch_ok (S0 := S2) (H0 := H2) (A0 := Fp.z) (σ0 := σ') hd (w2.less fun b => Nat.zero_le _) (hl ▸ er_none σ') x2 Tr.refl Kp.refl ?_
      rw [hc]
      exact fin w2 e2 t2 k
    | nx ρ2 =>
      show OutOk K W (ROr K) _ σ S H A (askK (rest ρ2) ρ1)
      cases hr : rest ρ2 with
      | rt o ρ' =>
        intro Q k
        refine ⟨w.tb, fun H1 eN T1 => ?_⟩
        obtain ⟨w1, t1, kA⟩ := wf_tab w eN T1
        have h1 := ht (fun cls d H2 => ∃ S2 A2, WF S2 H2 A2 ∧ ER K S2 H2 σ ρ1 A2 ∧ XR K S2 x cls d ∧ Tr S H A S2 H2 A2) σ ρ S H1 A w1 (er_keep (fun _ _ h => h) e kA)
        rw [hth] at h1
        refine ⟨_, fun σ' hl => h1 _ fun cls d S2 H2 A2 w2 e2 x2 t2 => ⟨S2, A2, w2, e2, x2, t1.trans t2⟩, fun cl cls d H2 σ' hl hd hE => ?_⟩
        obtain ⟨S2, A2, w2, e2, x2, t2⟩ := hE
        refine catch_ok (S0 := S2) (H0 := H2) (A0 := Fp.z) (σ0 := σ') hd (w2.less fun b => Nat.zero_le _) (hl ▸ er_none σ') x2 Tr.refl Kp.refl ?_
        rw [hc]
        intro σ3 S3 H3 A3 w3 e3 t3 k3
        refine ⟨ρ2, S3, A3, w3, e3, ?_⟩
        rw [hr]
        intro v σ4 S4 H4 A4 B4 w4 e4 r4 t4 kp
        exact fin (σ' := σ') (ρ' := ρ') w2 e2 t2 k v σ4 S4 H4 A4 B4 w4 e4 r4 (t3.trans t4) (k3.trans kp)
      | _ => exact True.intro
    | _ => exact True.intro
end
section
variable {X : Cx} {W : WX}
theorem ev_ask {x a : Str} {g c P : Addr} {fd : FuncData} {pg : Arguments} {bg : List Stmt} {sg : Scope} {Ng : List Str} {k : Nat} {params : Arguments} {body : Expr} {scope : Scope} {th : FE} {h₀ : ExceptHandler} {hds : List ExceptHandler} {rest : List Stmt} {hs : List Hd} {fr : FS} {p1 p2 p3 p4 p lpos pos : Pos}
    (F : FunD X.K x x pg bg sg [] [] g fd) (hb : Binds X.K fd [a] []) (Sg : FnScope Ng [a] sg) (TB : LamX.TabB X.base X.mg c P) (hcode : X.env.code = .ref c) (hmT : (P, X.env.qual ++ "<lambda>") ∈ Tb.t) (hu : ∀ p ∈ Tb.t, p.1 = P → p.2 = X.env.qual ++ "<lambda>") (hr : Room (k + 2) X.A) (hg : Gl X x) (hm : X.mg x = some (.ref g))
    (L : LamX.LamS X.env.scope scope)
    (hh : ∀ (cdg : Value) (s : Shared) (H : Hp), ClV (cxOf C8.CX0 X.prog X.w X.K X.mg X.base Ng x sg g cdg X.A X.stack s H C8.E0).nox [] (h₀ :: hds) hs) (hrest : ∀ (cdg : Value) (s : Shared) (H : Hp), BV (cxOf C8.CX0 X.prog X.w X.K X.mg X.base Ng x sg g cdg X.A X.stack s H C8.E0).nox W0 [] rest fr)
    (hbody : ∀ (A : Around) (outer : List Env) (s : Shared) (H : Hp) (E : XK) (f c' : Addr), Room k (A.deeper (LamX.lamEnv X scope s.heap.objs.size f c')) → EV (LamX.lamCx X A outer s H E scope f c') (WF' E) body th)
    (hbg : bg = .Try [.Expr (.Call (.Name a p1) [] [] p2) p3] (h₀ :: hds) [] [] p4 :: rest := by rfl) (hNg : Ng[0]? = some a := by rfl) (hva : Vis sg a := by first | exact Or.inl rfl | exact Or.inr (Or.inl rfl) | exact Or.inr (Or.inr rfl))
    (hdef : defaultsOf params X.env = ([], []) := by rfl)
    (hbind : ∀ (q : Str) (cl : List (Str × Addr)) (pm cv ctv : Value), bindArgs (PySem.W.kla_fn "<lambda>" q params body scope cl pm cv ctv) ⟨[], []⟩ = pure [] := by intros; rfl)
    (hdb : (x == ("__debug__" : Str)) = false := by decide) (hd : (a == ("__debug__" : Str)) = false := by decide) (hcd : (a == ("__classdict__" : Str)) = false := by decide) :
    EV X W (.Call (.Name x p) [.Lambda params body scope lpos] [] pos) (eAsk Ng.length hs fr th) := by
  have hk := F.kp
  obtain ⟨oc, od, dV, kV, doc, pm, an, cdv, ct, osl, rfl, lk, hcg, _, _⟩ := F.ex
  subst hbg
  have h1 : 0 < Ng.length := by
    cases Ng with
    | nil => cases hNg
    | cons y l => simp
  refine ⟨_, LamX.pe_lamcall (T := Tb.t) (TT := TAsk X.K Ng.length hs fr) (t := fun E => rdV X.K (WF' E) (ROr X.K) th) hg hm hk lk hcg hb Sg hNg hva (ask_gives Sg.nd (fun f => rfl) (fun f => ?_) (fun s H => hh cdv s H) (fun s H => hrest cdv s H)) TB hcode hmT hu hr L hdef hbind (fun A outer s H E f c' hr2 => (hbody A outer s H E f c' hr2).pe) hdb hd hcd, sndE_ask fun E => snd_rd⟩
  unfold L2.start
  simp
  omega
end
def tryHs : List Stmt → List ExceptHandler
  | .Try _ hs _ _ _ :: _ => hs
  | _ => []
/-! ### the head's facts of tables -/
omit [Tb]
def dropT (K : PySem.W.Frag) (ps : List Addr) : PySem.W.Frag := K.filter fun e => !ps.contains e.1
theorem dropT_at {ps : List Addr} {a : Addr} {o : Obj} : ∀ {K : PySem.W.Frag}, (dropT K ps).lookup a = some o → K.lookup a = some o ∧ a ∉ ps
  | [], h => nomatch (show (none : Option Obj) = some o from h)
  | (b, u) :: K, h => by
    unfold dropT at h
    rw [List.filter_cons] at h
    by_cases hb : ps.contains b = true
    · rw [if_neg (by simp [List.contains_iff_mem.mp hb])] at h
      obtain ⟨h1, h2⟩ := dropT_at (K := K) h
      refine ⟨?_, h2⟩
      rw [List.lookup_cons]
      have : (a == b) = false := by
        rw [beq_eq_false_iff_ne]
        rintro rfl
        exact h2 (List.contains_iff_mem.mp hb)
      rw [this]; exact h1
    · have hn : b ∉ ps := fun z => hb (List.contains_iff_mem.mpr z)
      rw [if_pos (by simp [hn])] at h
      rw [List.lookup_cons] at h ⊢
      cases hab : a == b with
      | true =>
        rw [hab] at h
        exact ⟨h, by rw [beq_iff_eq.mp hab]; exact hn⟩
      | false =>
        rw [hab] at h
        exact dropT_at (K := K) h
theorem dropT_in {K : PySem.W.Frag} {ps : List Addr} {h : Heap} (X : K.In h) : (dropT K ps).In h := fun a o e => X a o (dropT_at e).1
theorem dropT_no {K : PySem.W.Frag} {ps : List Addr} {p : Addr} (hp : p ∈ ps) : (dropT K ps).lookup p = none := by
  cases e : (dropT K ps).lookup p with
  | none => rfl
  | some o => exact absurd hp (dropT_at e).2
/-- a def's code object, its table -/
def codeOf (K : PySem.W.Frag) (f : Addr) : Value := match K.lookup f with
  | some ⟨_, _, .func fd, _⟩ => fd.code
  | _ => .none
def tabOf (K : PySem.W.Frag) (x : Str) : Addr × Addr := match codeOf K (He.ga K x) with
  | .ref c => (c, match K.lookup c with
    | some ⟨_, _, .fields vs, _⟩ => (match (vs[11]? : Option Value) with
      | some (.ref P) => P
      | _ => 0)
    | _ => 0)
  | _ => (0, 0)
def codeHdB (K : PySem.W.Frag) (c P : Addr) : Bool := match K.lookup c with
  | some ⟨.type ty, _, .fields vs, _⟩ => decide (ty = "code") && ((match (vs[11]? : Option Value) with | some (.ref b) => decide (b = P) | _ => false) && ((match vs.getD 18 .none with | .str _ _ => true | _ => false) && ((match vs.getD 7 .none with | .int _ _ => true | _ => false) &&
      ((match vs.getD 9 .none with | .bool _ => true | _ => false) && ((match vs.getD 10 .none with | .int _ _ => true | _ => false) && decide (c ≠ P))))))
  | _ => false
theorem codeHdB_ok {K : PySem.W.Frag} {c P : Addr} {h : Heap} (X : K.In h) (e : codeHdB K c P = true) : PySem.W.CodeHd h c P := by
  unfold codeHdB at e
  split at e
  · rename_i ty od vs sl hl
    simp only [Bool.and_eq_true, decide_eq_true_eq] at e
    obtain ⟨e1, e2, e3, e4, e5, e6, e7⟩ := e
    split at e2
    · rename_i b hb
      have eb := of_decide_eq_true e2
      subst eb
      split at e3
      · rename_i file tf h3
        split at e4
        · rename_i flags tg h4
          split at e5
          · rename_i inF h5
            split at e6
            · rename_i text tt h6
              refine ⟨_, vs, file, tf, flags, tg, inF, text, tt, X _ _ hl, by rw [e1], rfl, hb, ?_, h3, h4, h5, h6, e7⟩
              rw [Array.getD_eq_getD_getElem?, hb]; rfl
            · cases e6
          · cases e5
        · cases e4
      · cases e3
    · cases e2
  · cases e
def tabEmptyB (K : PySem.W.Frag) (P : Addr) : Bool := match K.lookup P with
  | some ⟨.none, none, .fields a, sl⟩ => decide (a.size = 0) && decide (sl.size = 0)
  | _ => false
theorem tabEmptyB_ok {K : PySem.W.Frag} {P : Addr} {h : Heap} (X : K.In h) (e : tabEmptyB K P = true) : h.get? P = some { cls := .none, data := .fields #[] } := by
  unfold tabEmptyB at e
  split at e
  · rename_i a sl hl
    simp only [Bool.and_eq_true, decide_eq_true_eq] at e
    have e1 : a = #[] := Array.eq_empty_of_size_eq_zero e.1
    have e2 : sl = #[] := Array.eq_empty_of_size_eq_zero e.2
    subst e1; subst e2
    exact X _ _ hl
  · cases e
def tabsB (K0 K : PySem.W.Frag) (ls : List Str) (cs : List (Addr × Addr)) : Bool := (cs.all fun p => codeHdB K0 p.1 p.2 && tabEmptyB K0 p.2) && (decide (cs.map (·.2)).Nodup && decide (ls.map (fun x => codeOf K (He.ga K x)) = cs.map fun p => Value.ref p.1))
def csOf (K0 : PySem.W.Frag) (ls : List Str) : List (Addr × Addr) := ls.map (tabOf K0)
def obsT (fa : List He.Fa) (fn : List He.DefD) (fx : PySem.W.Frag → Bool) (ls : List Str) (K0 : PySem.W.Frag) : AlX × Bool :=
  (obsX fa fn fx (dropT K0 ((csOf K0 ls).map (·.2))), tabsB K0 (dropT K0 ((csOf K0 ls).map (·.2))) ls (csOf K0 ls))
def obsTG (n : Nat) (fa : List He.Fa) (fn : List He.DefD) (fx : PySem.W.Frag → Bool) (ls : List Str) (g : Addr → Option Obj) : AlX × Bool := obsT fa fn fx ls (He.frG g (cStatics :: He.asD g n))
structure TabsAt (h : Heap) (K : PySem.W.Frag) (ls : List Str) (cs : List (Addr × Addr)) : Prop where
  em : ∀ p ∈ cs, h.get? p.2 = some { cls := .none, data := .fields #[] }
  no : ∀ p ∈ cs, K.lookup p.2 = none
  hd : ∀ p ∈ cs, PySem.W.CodeHd h p.1 p.2
  nd : (cs.map (·.2)).Nodup
  cd : ls.map (fun x => codeOf K (He.ga K x)) = cs.map fun p => Value.ref p.1
def hookT (n : Nat) (fa : List He.Fa) (fn : List He.DefD) (fx : PySem.W.Frag → Bool) (ls : List Str) : PySem.W.Hook where
  α := AlX × Bool
  obs := fun s => obsTG n fa fn fx ls s.heap.get?
  val := fun _ => ((He.valD fn, true), true)
  says := fun _ h => ∃ (K : PySem.W.Frag) (cs : List (Addr × Addr)), K.In h ∧ SaysX fa fn fx K ∧ TabsAt h K ls cs
  of := fun _ s e => by
    have e1 : obsX fa fn fx (dropT (He.frG s.heap.get? (cStatics :: He.asD s.heap.get? n)) ((csOf (He.frG s.heap.get? (cStatics :: He.asD s.heap.get? n)) ls).map (·.2))) = (He.valD fn, true) := congrArg (fun z : AlX × Bool => z.1) e
    have e2 : tabsB (He.frG s.heap.get? (cStatics :: He.asD s.heap.get? n)) (dropT (He.frG s.heap.get? (cStatics :: He.asD s.heap.get? n)) ((csOf (He.frG s.heap.get? (cStatics :: He.asD s.heap.get? n)) ls).map (·.2))) ls (csOf (He.frG s.heap.get? (cStatics :: He.asD s.heap.get? n)) ls) = true := congrArg (fun z : AlX × Bool => z.2) e
    have X0 : (He.frG s.heap.get? (cStatics :: He.asD s.heap.get? n)).In s.heap := He.frG_in
    generalize He.frG s.heap.get? (cStatics :: He.asD s.heap.get? n) = K0 at e1 e2 X0
    unfold tabsB at e2
    simp only [Bool.and_eq_true, decide_eq_true_eq] at e2
    refine ⟨_, csOf K0 ls, dropT_in X0, e1, ⟨fun p hp => ?_, fun p hp => dropT_no (List.mem_map.mpr ⟨p, hp, rfl⟩), fun p hp => ?_, e2.2.1, e2.2.2⟩⟩
    · exact tabEmptyB_ok X0 (Bool.and_eq_true_iff.mp (List.all_eq_true.mp e2.1 p hp)).2
    · exact codeHdB_ok X0 (Bool.and_eq_true_iff.mp (List.all_eq_true.mp e2.1 p hp)).1
  keeps := fun _ _ _ ⟨K, cs, hK, c, t⟩ k => ⟨K, cs, PySem.W.Frag.In.keeps hK k, c, ⟨fun p hp => k _ _ (t.em p hp), t.no, fun p hp => (t.hd p hp).keeps k, t.nd, t.cd⟩⟩
theorem obsTG_eq {n : Nat} {fa : List He.Fa} {fn : List He.DefD} {fx : PySem.W.Frag → Bool} {ls : List Str} {g : Addr → Option Obj} {s : Shared} (h : ∀ a, g a = s.heap.get? a) : obsTG n fa fn fx ls g = (hookT n fa fn fx ls).obs s := by
  have e : g = s.heap.get? := funext h
  rw [e]
  rfl
theorem codeOf_fd {K : PySem.W.Frag} {x qual : Str} {params : Arguments} {body : List Stmt} {scope : Scope} {dvs : List V} {kws : List (Str × V)} {f : Addr} {fd : FuncData} (F : FunD K x qual params body scope dvs kws f fd) : codeOf K f = fd.code := by
  obtain ⟨oc, od, dV, kV, doc, pm, an, cdv, ct, osl, e, lk, _⟩ := F.ex
  unfold codeOf
  rw [lk]
theorem walkXT {l : PySem.W.OpenLaw} {n k : Nat} {q : Program} {loose : List Str} {XP : (Str → Option Value) → Heap → Prop} {YP : World → Heap → Prop} {d : DefRec} {CX : World → CXT} {x : Str}
    (hn : l.most = some n) (hn2 : n ≤ sizeLine) (hdf : d.params.defaults = []) (hr : Room k callerA)
    (F : ∀ (w : World) (mg : Str → Option Value) (fa : Addr) (h : Heap), YP w h → h.Ns mainGlobals mg → mg d.name = some (.ref fa) →
      ∃ (K : PySem.W.Frag) (fd : FuncData) (cs : List (Addr × Addr)) (sp : Sp), K.In h ∧ (∀ p ∈ cs, h.get? p.2 = some { cls := .none, data := .fields #[] }) ∧ (∀ p ∈ cs, K.lookup p.2 = none) ∧ (∀ p ∈ cs, PySem.W.CodeHd h p.1 p.2) ∧ (∀ (s : Shared) (u : Value), BindsTo s fd ⟨[u], []⟩ [(x, u)]) ∧
        (∀ (H : Hp) (a : Addr) (ns : List Int), ns.length ≤ n → (∀ k ∈ ns, k.natAbs.log2 ≤ 1048576) → (∀ p ∈ cs, H p.2 = some (.tbl #[])) → SqL K H a (ns.map V.int) → sp [.ref a] H (fun v _ => v = .bl true) fun _ _ _ => False) ∧
        ∀ base : Heap, K.In base → base.Ns mainGlobals mg → (∀ p ∈ cs, LamX.TabB base mg p.1 p.2) → FnOk l.prog w K mg base (CX w) k fa fd [x] sp)
    (hCX : ∀ (w : World) (H : Hp) (s : Shared) (e : Value) (s' : Shared), CX w [] H s (fun _ _ _ => False) e s' → False) :
    PySem.W.WalkO q loose XP YP l.row.toRowW d [] (fun f vs => PySem.call f vs) := by
  refine Att.attach_callB hn hdf fun w s₀ s₁ mg mb fa o pm cd doc a vs ns G Y ho hd hcd hmg hobj hints hlen hbits hg => ?_
  obtain ⟨K, fd, cs, sp, KX, hT, nT, C, hb, hsp, hF⟩ := F w mg fa _ Y G.T.g hmg
  exact LamX.law_callTs KX G.T.g G.T.b G.T.builtins G.T.nolimit hg hT nT C G.T.bmain hobj hints (Nat.le_trans hlen hn2) hr hF hb (fun H hH hS => hsp H a ns hlen (bits_log hbits) hH hS) fun H e s' => hCX w H s₁ e s'
end Ls

/-! isinstance(e, C) of a caught exception -/
namespace Ls
open PySem PySem.Spec PyProof.Rows L2
variable [Tb]
/-- what a class of one's own must say, so that isinstance asks its instances rightly -/
def xiB (K : PySem.W.Frag) (D : Addr) : Bool := [(PySem.W.clsIn K D).isSome, decide (PySem.W.findIn K (.ref D) "__getattribute__" = some (some (.builtin "BaseException.__getattribute__"))), decide (PySem.W.findIn K (.ref D) "__getattr__" = some none), decide (PySem.W.subIn K (.ref D) (.type "BaseException") = some true),
  decide (PySem.W.findIn K (.ref D) "__class__" = some (some (.builtin "object.__class__"))), decide (PySem.W.specialIn K (.builtin "object.__class__") "__get__" = some (some (.builtin "getset_descriptor.__get__"))), decide (PySem.W.takesIn K (.builtin "object.__class__") = some true), decide (PySem.W.mroIn K D (.type "object") = some true)].all id
def rIsX (K : PySem.W.Frag) (D a : Addr) (d : Option Addr) : List V → Hp → VK → Prop := fun xs H Q => ∃ (c : V) (cv : Value) (b : Bool) (dd : Addr) (fs : List (Str × V)), xs = [.ref a, c] ∧ (∀ u, RelV c u → u = cv) ∧ PySem.W.kitOne K (.ref D) cv = some b ∧ d = some dd ∧ H dd = some (.xd fs) ∧ Q (.bl b) H
omit [Tb] in
theorem call_isX {X : Cx} {a D : Addr} {oe : Obj} {d : Option Addr} {pn : List (Addr × Obj)} (C : xiB X.K D = true) (hz : Zc (.ref D) d oe) (hf : ∃ vs, oe.data = .fields vs) : CallR (X.suite a ((a, oe) :: pn)) (.builtin "isinstance") (rIsX X.K D a d) := by
  intro pins s σ H xs us Q I r h
  obtain ⟨c, cv, b, dd, fs, rfl, hcv, e, ed, eH, q⟩ := h
  unfold xiB at C
  simp only [List.all_cons, List.all_nil, Bool.and_true, Bool.and_eq_true, id, decide_eq_true_eq] at C
  obtain ⟨c1, c2, c3, c4, c5, c6, c7, c8⟩ := C
  match us, r with
  | [_, u], .cons rx (.cons rt .nil) =>
    cases rx
    have ec := hcv _ rt
    subst ec
    obtain ⟨hget, _⟩ := I.pin (a, oe) (List.mem_append.mpr (.inl List.mem_cons_self))
    obtain ⟨vs, hv⟩ := hf
    obtain ⟨mA, hns, hr⟩ := (show ObjOk X.prog X.w H s.heap dd (.xd fs) from I.hok dd _ eH)
    obtain ⟨od, ho, hl⟩ := lookIn_ns hns
    have J : PySem.W.InstAt s.heap a oe D (some od) := ⟨hget, hz.1, by unfold PySem.W.notCls; rw [hv], by rw [hz.2, ed]; exact ho⟩
    exact PySem.W.kia_one (PySem.W.kitx_exc c1 c2 c3 c4 c5 c6 c7 c8) I.kIn J e (fun z => nomatch z) fun tk => ⟨.bl b, H, I.kept (t' := tk) fun _ _ z => z, rfl, q⟩
open Classical in
noncomputable def eXi (m : Str → Option Bool) (a : Addr) (cls : Value) (d : Option Addr) (i : Nat) : FE := fun ρ => match ρ[i]? with
  | some (some (.exn a' cls' d' x)) => if a' = a ∧ cls' = cls ∧ d' = d then (match m x.cls with
      | some b => .ok (.fz (.bool b)) ρ
      | none => .bad) else .bad
  | _ => .bad
section
variable {K : PySem.W.Frag} {W : WX}
theorem sndE_xi {m : Str → Option Bool} {a D : Addr} {cls : Value} {d : Option Addr} {i : Nat} {c : V} {cv : Value} (hc : cls = .ref D) (hcv : ∀ u, RelV c u → u = cv) (hm : ∀ n b, m n = some b → PySem.W.kitOne K (.ref (He.ga K n)) cv = some b) : SndE K W (tCB (rIsX K D a d) (tCons (tVar i) (tCons (tC c) tNil))) (eXi m a cls d i) := by
  intro σ ρ S H A w e
  unfold eXi
  cases hi : ρ[i]? with
  | none => exact True.intro
  | some o =>
    cases o with
    | none => exact True.intro
    | some o =>
      cases o with
      | fz _ => exact True.intro
      | raw _ => exact True.intro
      | lst _ => exact True.intro
      | exn a' cls' d' x =>
        dsimp only
        by_cases hq : a' = a ∧ cls' = cls ∧ d' = d
        · rw [if_pos hq]
          obtain ⟨rfl, rfl, rfl⟩ := hq
          cases hl : m x.cls with
          | none => exact True.intro
          | some b =>
            intro Q k
            obtain ⟨v, B, C2, e1, q, e2, z⟩ := er_get e hi
            cases q with
            | exn q z1 =>
              obtain ⟨q1, dd, fs, q2, q3, q4⟩ := q
              have hD : K.lookup 0 = K.lookup 0 := rfl
              have eD : PySem.W.kitOne K (.ref D) cv = some b := by
                rw [← hc, q1]; exact hm _ _ hl
              exact ⟨_, e1, c, cv, b, dd, fs, rfl, hcv, eD, q2, w.sub _ _ q3, k _ S H A Fp.z (by rw [addz]; exact w) e (.fz (.bl b) fun _ => rfl) (by rw [addz]; exact Tr.refl)⟩
        · rw [if_neg hq]; exact True.intro
theorem sndE_xi0 {m : Str → Option Bool} {a : Addr} {cls : Value} {d : Option Addr} {i : Nat} (h : ∀ n b, m n = some b → cls ≠ .ref (He.ga K n)) : SndE K W (fun _ _ _ => False) (eXi m a cls d i) := by
  intro σ ρ S H A w e
  unfold eXi
  cases hi : ρ[i]? with
  | none => exact True.intro
  | some o =>
    cases o with
    | none => exact True.intro
    | some o =>
      cases o with
      | fz _ => exact True.intro
      | raw _ => exact True.intro
      | lst _ => exact True.intro
      | exn a' cls' d' x =>
        dsimp only
        by_cases hq : a' = a ∧ cls' = cls ∧ d' = d
        · rw [if_pos hq]
          obtain ⟨rfl, rfl, rfl⟩ := hq
          cases hl : m x.cls with
          | none => exact True.intro
          | some b =>
            obtain ⟨v, B, C2, e1, q, e2, z⟩ := er_get e hi
            cases q with
            | exn q z1 => exact absurd q.1 (h _ _ hl)
        · rw [if_neg hq]; exact True.intro
end
section
variable {X : Cx} {W : WX} {m : Str → Option Bool} {a : Addr} {oe : Obj} {cls : Value} {d : Option Addr} {pn : List (Addr × Obj)} {x y : Str} {p p1 p2 pos : Pos}
/-- C one's own -/
theorem ev_xi (i : Nat) (hz : Zc cls d oe) (hf : ∃ vs, oe.data = .fields vs) {C : Addr} (hk : ∀ n b, m n = some b → xiB X.K (He.ga X.K n) = true ∧ PySem.W.kitOne X.K (.ref (He.ga X.K n)) (.ref C) = some b) (hg : Gl X "isinstance") (hm : X.mg "isinstance" = none) (hy : Gl X y) (hmy : X.mg y = some (.ref C))
    (hN : X.N[i]? = some x := by rfl) (hv : Vis X.env.scope x := by first | exact Or.inl rfl | exact Or.inr (Or.inl rfl) | exact Or.inr (Or.inr rfl)) (hd : (x == ("__debug__" : Str)) = false := by decide) (hcd : (x == ("__classdict__" : Str)) = false := by decide) (hdb : (y == ("__debug__" : Str)) = false := by decide)
    (he : starEach [.Name x p1, .Name y p2] X.env = (false, eval (.Name x p1) X.env) :: starEach [.Name y p2] X.env := by rfl) (he2 : starEach [.Name y p2] X.env = [(false, eval (.Name y p2) X.env)] := by rfl) (hpl : (backTo pos (starEach [.Name y p2] X.env)).any (·.1) = false := by rfl) :
    EV (X.suite a ((a, oe) :: pn)) W (.Call (.Name "isinstance" p) [.Name x p1, .Name y p2] [] pos) (eXi m a cls d i) := by
  by_cases h : ∃ n b, m n = some b ∧ cls = .ref (He.ga X.K n)
  · obtain ⟨n, b, h1, h2⟩ := h
    subst h2
    exact ⟨_, pe_callB (call_isX (hk n b h1).1 hz hf) hg hm (by decide +kernel) (pa_cons (pe_var hN hv hd hcd) (pa_cons (pe_glob (v := .ref C) hy hmy rfl hdb) pa_nil he2) he) (he := he) (hpl := hpl), sndE_xi (cv := .ref C) rfl (fun u r => by cases r; rfl) fun n b h => (hk n b h).2⟩
  · exact ⟨_, ⟨fun _ _ _ _ _ _ z => z.elim⟩, sndE_xi0 fun n b hn z => h ⟨n, b, hn, z⟩⟩
/-- C built in -/
theorem ev_xib (i : Nat) (hz : Zc cls d oe) (hf : ∃ vs, oe.data = .fields vs) {T : String} (hk : ∀ n b, m n = some b → xiB X.K (He.ga X.K n) = true ∧ PySem.W.kitOne X.K (.ref (He.ga X.K n)) (.type T) = some b) (hg : Gl X "isinstance") (hm : X.mg "isinstance" = none) (hy : Gl X y) (hmy : X.mg y = none) (hvy : bootBuiltins y = some (.type T))
    (hN : X.N[i]? = some x := by rfl) (hv : Vis X.env.scope x := by first | exact Or.inl rfl | exact Or.inr (Or.inl rfl) | exact Or.inr (Or.inr rfl)) (hd : (x == ("__debug__" : Str)) = false := by decide) (hcd : (x == ("__classdict__" : Str)) = false := by decide) (hn : y ≠ "__name__" := by decide) (hdb : (y == ("__debug__" : Str)) = false := by decide)
    (he : starEach [.Name x p1, .Name y p2] X.env = (false, eval (.Name x p1) X.env) :: starEach [.Name y p2] X.env := by rfl) (he2 : starEach [.Name y p2] X.env = [(false, eval (.Name y p2) X.env)] := by rfl) (hpl : (backTo pos (starEach [.Name y p2] X.env)).any (·.1) = false := by rfl) :
    EV (X.suite a ((a, oe) :: pn)) W (.Call (.Name "isinstance" p) [.Name x p1, .Name y p2] [] pos) (eXi m a cls d i) := by
  by_cases h : ∃ n b, m n = some b ∧ cls = .ref (He.ga X.K n)
  · obtain ⟨n, b, h1, h2⟩ := h
    subst h2
    exact ⟨_, pe_callB (call_isX (hk n b h1).1 hz hf) hg hm (by decide +kernel) (pa_cons (pe_var hN hv hd hcd) (pa_cons (pe_bltn (v := .ty T) hy hmy hvy rfl hn hdb) pa_nil he2) he) (he := he) (hpl := hpl), sndE_xi (cv := .type T) rfl (fun u r => by cases r; rfl) fun n b h => (hk n b h).2⟩
  · exact ⟨_, ⟨fun _ _ _ _ _ _ z => z.elim⟩, sndE_xi0 fun n b hn z => h ⟨n, b, hn, z⟩⟩
end
omit [Tb]
def xisB (K : PySem.W.Frag) (l : List (Str × Bool)) (cv : Value) : Bool := l.all fun p => xiB K (He.ga K p.1) && decide (PySem.W.kitOne K (.ref (He.ga K p.1)) cv = some p.2)
theorem xisB_ok {K : PySem.W.Frag} {l : List (Str × Bool)} {cv : Value} (h : xisB K l cv = true) : ∀ n b, l.lookup n = some b → xiB K (He.ga K n) = true ∧ PySem.W.kitOne K (.ref (He.ga K n)) cv = some b := by
  intro n b e
  unfold xisB at h
  induction l with
  | nil => cases e
  | cons p l ih =>
    rw [List.all_cons, Bool.and_eq_true, Bool.and_eq_true, decide_eq_true_eq] at h
    rw [List.lookup_cons] at e
    cases hp : n == p.1 with
    | true =>
      rw [hp] at e
      cases e
      rw [beq_iff_eq.mp hp]
      exact h.1
    | false =>
      rw [hp] at e
      exact ih h.2 e
end Ls

/-! running: askings, what is asked of a caught exception, a while by a state -/
namespace Ls
open PySem L2
section
variable {ρ ρ1 : En} {o : O} {x : Xn} {n i : Nat} {hs : List Hd} {rest : FS} {th : FE} {a : Addr} {cls : Value} {d : Option Addr} {fl : Str} {known : Str → Bool} {m : Str → Option Bool} {b : Bool} {t : PyData}
noncomputable def kAsk (n : Nat) (hs : List Hd) (rest : FS) (z : Out O) : Out O := match z with
  | .ok _ ρ1 => askK (rest (List.replicate n none)) ρ1
  | .exc x ρ1 => askK ((catchF hs x (List.replicate n none)).then rest) ρ1
  | .bad => .bad
theorem x_ask : eAsk n hs rest th ρ = kAsk n hs rest (th ρ) := rfl
theorem x_ask1 : kAsk n hs rest (.ok o ρ) = askK (rest (List.replicate n none)) ρ := rfl
theorem x_ask2 : kAsk n hs rest (.exc x ρ) = askK (kSeq (catchF hs x (List.replicate n none)) rest) ρ := rfl
theorem x_ask3 : askK (.rt o ρ1) ρ = .ok o ρ := rfl
noncomputable def kXf (z : Option (Option O)) (known : Str → Bool) (a : Addr) (cls : Value) (d : Option Addr) (fl : Str) (i : Nat) (ρ : En) : Out O := eXf known a cls d i fl ρ
def kXf2 (k : Bool) (z : Option PyData) (ρ : En) : Out O := match k, z with
  | true, some t => .ok (.fz t) ρ
  | _, _ => .bad
theorem xf_run (h : ρ[i]? = some (some (.exn a cls d x))) : eXf known a cls d i fl ρ = kXf2 (known x.cls) (x.fs.lookup fl) ρ := by
  unfold eXf
  rw [h]
  dsimp only
  cases hk : known x.cls with
  | true =>
    rw [if_pos ⟨rfl, rfl, rfl, rfl⟩]
    cases x.fs.lookup fl <;> rfl
  | false => rw [if_neg (fun z => nomatch z.2.2.2)]; rfl
def kXi2 (z : Option Bool) (ρ : En) : Out O := match z with
  | some b => .ok (.fz (.bool b)) ρ
  | none => .bad
theorem xi_run (h : ρ[i]? = some (some (.exn a cls d x))) : eXi m a cls d i ρ = kXi2 (m x.cls) ρ := by
  unfold eXi
  rw [h]
  dsimp only
  rw [if_pos ⟨rfl, rfl, rfl⟩]
  rfl
theorem x_xf2 : kXf2 true (some t) ρ = .ok (.fz t) ρ := rfl
theorem x_xi2 : kXi2 (some b) ρ = .ok (.fz (.bool b)) ρ := rfl
theorem x_setX : setX a cls d x ρ (some i) = ρ.set i (some (.exn a cls d x)) := rfl
theorem x_cleanR : cleanX (some i) (.rt o ρ) = .rt o (ρ.set i none) := rfl
theorem x_cleanN : cleanX (some i) (.nx ρ) = .nx (ρ.set i none) := rfl
/-- the exception stands in the first, second .. slot -/
theorem x_xf0 {l : En} : eXf known a cls d 0 fl (some (.exn a cls d x) :: l) = kXf2 (known x.cls) (x.fs.lookup fl) (some (.exn a cls d x) :: l) := xf_run rfl
theorem x_xfS1 {y : Option O} {l : En} : eXf known a cls d 1 fl (y :: some (.exn a cls d x) :: l) = kXf2 (known x.cls) (x.fs.lookup fl) (y :: some (.exn a cls d x) :: l) := xf_run rfl
theorem x_xi0 {l : En} : eXi m a cls d 0 (some (.exn a cls d x) :: l) = kXi2 (m x.cls) (some (.exn a cls d x) :: l) := xi_run rfl
theorem x_xiS1 {y : Option O} {l : En} : eXi m a cls d 1 (y :: some (.exn a cls d x) :: l) = kXi2 (m x.cls) (y :: some (.exn a cls d x) :: l) := xi_run rfl
theorem seqK {G : SO → Prop} {z : SO} {rest : FS} (P : En → Prop) (h1 : NX z P) (h2 : ∀ ρ, P ρ → G (rest ρ)) : G (kSeq z rest) := by
  obtain ⟨ρ, e, h⟩ := h1
  rw [e]; exact h2 ρ h
/-- a while by a state that falls -/
theorem whS {α : Type} {c : FT} {body : FS} {G : SO → Prop} (I : α → En) (f : α → Nat) (P : α → Prop) (hs : ∀ s, P s → (c (I s) = .ok false (I s) ∧ G (.nx (I s))) ∨ ∃ s', c (I s) = .ok true (I s) ∧ body (I s) = .nx (I s') ∧ P s' ∧ f s' < f s) (s : α) (h0 : P s) : G (sWh c body (I s)) := by
  have go : ∀ (n : Nat) (s : α), f s ≤ n → P s → G (sWh c body (I s)) ∧ sWh c body (I s) ≠ .bad := by
    intro n
    induction n with
    | zero =>
      intro s hn hp
      rcases hs s hp with ⟨h1, h2⟩ | ⟨s', h1, h2, h3, h4⟩
      · rw [whEnd h1]; exact ⟨h2, fun z => nomatch z⟩
      · omega
    | succ n ih =>
      intro s hn hp
      rcases hs s hp with ⟨h1, h2⟩ | ⟨s', h1, h2, h3, h4⟩
      · rw [whEnd h1]; exact ⟨h2, fun z => nomatch z⟩
      · obtain ⟨g1, g2⟩ := ih s' (by omega) h3
        rw [whGo h1 h2 g2]
        exact ⟨g1, g2⟩
  exact (go (f s) s (Nat.le_refl _) h0).1
end
end Ls

/-! x(lambda: e), x a def that tells: try: return (w, ask()) except .. ; max and min of two; clauses of several classes -/
namespace Ls
open PySem PySem.Spec PyProof.Rows L2
variable [Tb]
theorem nat2 : 2 ≤ sizeLine := by decide
def saidK (w : Str) (Q : VK) : VK := fun v H1 => ([V.str w, v] : List V).length ≤ sizeLine ∧ ∀ p, H1 p = none → Q (.ref p) (upd H1 p (.tup [.str w, v]))
def TSaid (K : PySem.W.Frag) (n : Nat) (hs : List Hd) (w : Str) : (XK → Hp → VK → Prop) → Hp → VK → Prop := fun tl H Q =>
  ∃ E : XK, tl E H (saidK w Q) ∧ ∀ cl cls d H1 σ, σ.length = n → HdsS K [] hs cl → E cls d H1 → wCl K W0 (askE Q) cl cls d σ H1
theorem said_gives {X : Cx} {Ng : List Str} {x a q w : Str} {sg : Scope} {g : Addr} {cdg : Value} {h₀ : ExceptHandler} {hds : List ExceptHandler} {hs : List Hd} {kk : Nat} {x1} {p1 p2 p3 p4 p5 p6 : Pos} (hN : Ng.Nodup) (hl : ∀ f : Addr, (L2.start Ng [V.ref f])[0]? = some (some (V.ref f))) (hlen : ∀ f : Addr, (L2.start Ng [V.ref f]).length = Ng.length)
    (hh : ∀ (s : Shared) (H : Hp), ClV (cxOf C8.CX0 X.prog X.w X.K X.mg X.base Ng x sg g cdg X.A X.stack s H C8.E0).nox [] (h₀ :: hds) hs)
    : LamX.GivesTo X Ng x sg g cdg [.Try [.Return (some (.Tuple [.Constant (.str w) kk p5, .Call (.Name a p1) [] [] p2] x1 p6)) p3] (h₀ :: hds) [] [] p4] a q (TSaid X.K Ng.length hs w) := by
  intro f c' s H Q tl act hc h
  obtain ⟨E, h1, h3⟩ := h
  obtain ⟨cl, k1, k2⟩ := clv (hh s H)
  refine ⟨_, pss_one (ps_tryN (X := (cxOf C8.CX0 X.prog X.w X.K X.mg X.base Ng x sg g cdg X.A X.stack s H C8.E0).nox) (W := W0)
    (tb := fun W2 D σ H => ∃ Ech : XK, (∀ cls d σ2 H2, Ech cls d H2 → σ2.length = Ng.length → W2 cls d σ2 H2) ∧ σ[0]? = some (some (.ref f)) ∧ H c' = some (LamX.CodeO c' q) ∧ tl Ech H (saidK w D.rt)) rfl rfl hN LamX.takes0 (fun W2 pn xe tk _ => ?_) k1), ?_⟩
  · refine ⟨fun pins s2 σ H2 D I h2 => ?_⟩
    obtain ⟨Ech, hW, e1, e2, e3⟩ := h2
    have hp := act _ pn xe Ech p1 p2 (takes_len tk) hW
    exact (pss_one (ps_ret (pos := p3) (pe_tup (pos := p6) (x1 := x1) (pa_cons (pe_str (pos := p5) (j := kk)) (pa_cons hp pa_nil))))).run pins s2 σ H2 D I ⟨e1, e2, e3⟩
  · exact ⟨E, fun cls d σ2 H2 he hlen2 => h3 cl cls d H2 σ2 hlen2 k2 he, hl f, hc, h1⟩
noncomputable def eSaid (n : Nat) (hs : List Hd) (w : Str) (th : FE) : FE := fun ρ => match th ρ with
  | .ok o ρ1 => (match frz o with
    | some d => .ok (.fz (.tuple [.str w, d])) ρ1
    | none => .bad)
  | .exc x ρ1 => askK (catchF hs x (List.replicate n none)) ρ1
  | .bad => .bad
section
variable {K : PySem.W.Frag} {W : WX} {n : Nat} {hs : List Hd} {w : Str} {th : FE} {t : XK → TE}
theorem sndE_said (ht : ∀ E : XK, SndE K (fun cls d _ H => E cls d H) (t E) th) : SndE K W (LamX.tLam Tb.t (TSaid K n hs w) t) (eSaid n hs w th) := by
  intro σ ρ S H A wf e
  unfold eSaid
  cases hth : th ρ with
  | bad => exact True.intro
  | ok o ρ1 =>
    dsimp only
    cases hz : frz o with
    | none => exact True.intro
    | some d =>
      intro Q k
      refine ⟨wf.tb, fun H1 eN T1 => ?_⟩
      obtain ⟨w1, t1, kA⟩ := wf_tab wf eN T1
      have h1 := ht (fun _ _ _ => False) σ ρ S H1 A w1 (er_keep (fun _ _ h => h) e kA)
      rw [hth] at h1
      refine ⟨fun _ _ _ => False, h1 _ fun v S2 H2 A2 B2 w2 e2 r2 t2 => ⟨nat2 , fun p hp => ?_⟩, fun _ _ _ _ _ _ _ z => z.elim⟩
      refine tupEnd (vs := [.str w, v]) (os := [.fz (.str w), o]) w2 e2 (.cons (B := Fp.z) (C := B2) (.fz (.str w) fun _ => rfl) (.cons (B := B2) (C := Fp.z) r2 (.nil fun _ => rfl) fun b => rfl) fun b => ?_) ?_ hp fun v3 S3 H3 A3 B3 w3 e3 r3 t3 => k v3 S3 H3 A3 B3 w3 e3 r3 ((t1.trans t2).trans t3)
      · show B2 b = Fp.z b + B2 b
        rw [z_at]; omega
      · simp [frzs, frz, hz]
  | exc x ρ1 =>
    show OutOk K W (ROr K) _ σ S H A (askK (catchF hs x (List.replicate n none)) ρ1)
    cases hc : catchF hs x (List.replicate n none) with
    | rt o ρ2 =>
      intro Q k
      refine ⟨wf.tb, fun H1 eN T1 => ?_⟩
      obtain ⟨w1, t1, kA⟩ := wf_tab wf eN T1
      have h1 := ht (fun cls d H2 => ∃ S2 A2, WF S2 H2 A2 ∧ ER K S2 H2 σ ρ1 A2 ∧ XR K S2 x cls d ∧ Tr S H A S2 H2 A2) σ ρ S H1 A w1 (er_keep (fun _ _ h => h) e kA)
      rw [hth] at h1
      refine ⟨_, h1 _ fun cls d S2 H2 A2 w2 e2 x2 t2 => ⟨S2, A2, w2, e2, x2, t1.trans t2⟩, fun cl cls d H2 σ2 hl hd hE => ?_⟩
      obtain ⟨S2, A2, w2, e2, x2, t2⟩ := hE
      refine catch_ok (S0 := S2) (H0 := H2) (A0 := Fp.z) (σ0 := σ2) hd (w2.less fun b => Nat.zero_le _) (hl ▸ er_none σ2) x2 Tr.refl Kp.refl ?_
      rw [hc]
      intro v σ3 S3 H3 A3 B3 w3 e3 r3 t3 _
      have w2' : WF S2 H2 (Fp.z + A2) := by rw [add_comm', addz]; exact w2
      obtain ⟨w4, k4⟩ := t3.frame w2' w3
      have e4 := er_keep (K := K) t3.fz e2 fun b hb => (k4 b hb).1
      have l4 : ∀ b, (A2 + B3) b ≤ (A3 + B3 + A2) b := fun b => by simp only [add_at]; omega
      have t4 : Tr S2 H2 A2 S3 H3 (A3 + B3 + A2) := by
        have := t3.frameTr (B := A2)
        rwa [add_comm' Fp.z A2, addz] at this
      exact k v S3 H3 A2 B3 (w4.less l4) e4 r3 ((t2.trans t4).less l4)
    | _ => exact True.intro
end
section
variable {X : Cx} {W : WX}
theorem ev_said {x a w : Str} {g c P : Addr} {fd : FuncData} {pg : Arguments} {bg : List Stmt} {sg : Scope} {Ng : List Str} {k : Nat} {params : Arguments} {body : Expr} {scope : Scope} {th : FE} {h₀ : ExceptHandler} {hds : List ExceptHandler} {hs : List Hd} {kk : Nat} {x1} {p1 p2 p3 p4 p5 p6 p lpos pos : Pos}
    (F : FunD X.K x x pg bg sg [] [] g fd) (hb : Binds X.K fd [a] []) (Sg : FnScope Ng [a] sg) (TB : LamX.TabB X.base X.mg c P) (hcode : X.env.code = .ref c) (hmT : (P, X.env.qual ++ "<lambda>") ∈ Tb.t) (hu : ∀ p ∈ Tb.t, p.1 = P → p.2 = X.env.qual ++ "<lambda>") (hr : Room (k + 2) X.A) (hg : Gl X x) (hm : X.mg x = some (.ref g))
    (L : LamX.LamS X.env.scope scope)
    (hh : ∀ (cdg : Value) (s : Shared) (H : Hp), ClV (cxOf C8.CX0 X.prog X.w X.K X.mg X.base Ng x sg g cdg X.A X.stack s H C8.E0).nox [] (h₀ :: hds) hs)
    (hbody : ∀ (A : Around) (outer : List Env) (s : Shared) (H : Hp) (E : XK) (f c' : Addr), Room k (A.deeper (LamX.lamEnv X scope s.heap.objs.size f c')) → EV (LamX.lamCx X A outer s H E scope f c') (WF' E) body th)
    (hbg : bg = [.Try [.Return (some (.Tuple [.Constant (.str w) kk p5, .Call (.Name a p1) [] [] p2] x1 p6)) p3] (h₀ :: hds) [] [] p4] := by rfl) (hNg : Ng[0]? = some a := by rfl) (hva : Vis sg a := by first | exact Or.inl rfl | exact Or.inr (Or.inl rfl) | exact Or.inr (Or.inr rfl))
    (hdef : defaultsOf params X.env = ([], []) := by rfl)
    (hbind : ∀ (q : Str) (cl : List (Str × Addr)) (pm cv ctv : Value), bindArgs (PySem.W.kla_fn "<lambda>" q params body scope cl pm cv ctv) ⟨[], []⟩ = pure [] := by intros; rfl)
    (hdb : (x == ("__debug__" : Str)) = false := by decide) (hd : (a == ("__debug__" : Str)) = false := by decide) (hcd : (a == ("__classdict__" : Str)) = false := by decide) :
    EV X W (.Call (.Name x p) [.Lambda params body scope lpos] [] pos) (eSaid Ng.length hs w th) := by
  have hk := F.kp
  obtain ⟨oc, od, dV, kV, doc, pm, an, cdv, ct, osl, rfl, lk, hcg, _, _⟩ := F.ex
  subst hbg
  have h1 : 0 < Ng.length := by
    cases Ng with
    | nil => cases hNg
    | cons y l => simp
  refine ⟨_, LamX.pe_lamcall (T := Tb.t) (TT := TSaid X.K Ng.length hs w) (t := fun E => rdV X.K (WF' E) (ROr X.K) th) hg hm hk lk hcg hb Sg hNg hva (said_gives Sg.nd (fun f => rfl) (fun f => ?_) (fun s H => hh cdv s H)) TB hcode hmT hu hr L hdef hbind (fun A outer s H E f c' hr2 => (hbody A outer s H E f c' hr2).pe) hdb hd hcd, sndE_said fun E => snd_rd⟩
  unfold L2.start
  simp
  omega
end
/-! ### max, min of two whole numbers -/
def dMax2 : PyData → PyData → Option PyData
  | .int i, .int j => some (.int (if j > i then j else i))
  | _, _ => none
def dMin2 : PyData → PyData → Option PyData
  | .int i, .int j => some (.int (if j < i then j else i))
  | _, _ => none
section
variable {X : Cx} {W : WX} {a b : Expr} {fa fb : FP} {p pos : Pos} {K : PySem.W.Frag}
theorem opS_max2 : OpS K (fun x y H Q => ∃ i j, [x, y] = [V.int i, V.int j] ∧ Q (.int (if j > i then j else i)) H) dMax2 := by
  intro x y H a b c hx hy h Q k
  unfold dMax2 at h
  split at h
  · cases h
    cases hx; cases hy
    exact ⟨_, _, rfl, k _ (Sc.int _)⟩
  · cases h
theorem opS_min2 : OpS K (fun x y H Q => ∃ i j, [x, y] = [V.int i, V.int j] ∧ Q (.int (if j < i then j else i)) H) dMin2 := by
  intro x y H a b c hx hy h Q k
  unfold dMin2 at h
  split at h
  · cases h
    cases hx; cases hy
    exact ⟨_, _, rfl, k _ (Sc.int _)⟩
  · cases h
theorem ev_max2 (hc : X.calm = true) (hg : Gl X "max") (hm : X.mg "max" = none) (ha : PV X W a fa) (hb : PV X W b fb) (he : starEach [a, b] X.env = (false, eval a X.env) :: starEach [b] X.env := by rfl) (he2 : starEach [b] X.env = [(false, eval b X.env)] := by rfl) (hp : (backTo pos (starEach [b] X.env)).any (·.1) = false := by rfl) : EV X W (.Call (.Name "max" p) [a, b] [] pos) (eOp dMax2 fa fb) :=
  let ⟨_, a1, a2⟩ := ha.ex; let ⟨_, b1, b2⟩ := hb.ex
  ⟨_, pe_callB (call_max2 hc) hg hm (by decide +kernel) (pa_cons a1 (pa_cons b1 pa_nil he2) he) (he := he) (hpl := hp), sndE_op opS_max2 a2 b2⟩
theorem ev_min2 (hc : X.calm = true) (hg : Gl X "min") (hm : X.mg "min" = none) (ha : PV X W a fa) (hb : PV X W b fb) (he : starEach [a, b] X.env = (false, eval a X.env) :: starEach [b] X.env := by rfl) (he2 : starEach [b] X.env = [(false, eval b X.env)] := by rfl) (hp : (backTo pos (starEach [b] X.env)).any (·.1) = false := by rfl) : EV X W (.Call (.Name "min" p) [a, b] [] pos) (eOp dMin2 fa fb) :=
  let ⟨_, a1, a2⟩ := ha.ex; let ⟨_, b1, b2⟩ := hb.ex
  ⟨_, pe_callB (call_min2 hc) hg hm (by decide +kernel) (pa_cons a1 (pa_cons b1 pa_nil he2) he) (he := he) (hpl := hp), sndE_op opS_min2 a2 b2⟩
end
/-! ### clauses of several classes -/
def anyM : List (Str → Option Bool) → Str → Option Bool
  | [], _ => some false
  | m :: r, n => (m n).bind fun b => (anyM r n).map fun d => b || d
theorem anyM_nil {K : PySem.W.Frag} : ∀ n b, anyM [] n = some b → PySem.W.exmAny K (.ref (He.ga K n)) [] = some b := fun n b h => h
theorem anyM_cons {K : PySem.W.Frag} {m : Str → Option Bool} {ms : List (Str → Option Bool)} {c : Value} {cs : List Value} (h1 : ∀ n b, m n = some b → PySem.W.exmOne K (.ref (He.ga K n)) c = some b) (h2 : ∀ n b, anyM ms n = some b → PySem.W.exmAny K (.ref (He.ga K n)) cs = some b) : ∀ n b, anyM (m :: ms) n = some b → PySem.W.exmAny K (.ref (He.ga K n)) (c :: cs) = some b := by
  intro n b h
  obtain ⟨b1, e1, h⟩ := Option.bind_eq_some_iff.mp (show (m n).bind _ = some b from h)
  obtain ⟨d1, e2, h⟩ := Option.map_eq_some_iff.mp h
  subst h
  unfold PySem.W.exmAny
  rw [h1 n b1 e1, h2 n d1 e2]
end Ls

/-! x(lambda k=0: e): a lambda with one default that its body never reads -/
namespace LamD
open PySem PySem.Spec PyProof.Rows L2 LamX
/-- one parameter k, no other name of its own -/
structure LamS1 (sc scope : Scope) (k : Str) : Prop where
  kind : scope.kind = .function
  co : scope.isCoroutine = false
  gen : scope.isGenerator = false
  own : ∀ y ∈ scope.names, (y.2 = .local → y.1 = k) ∧ y.2 ≠ .cell
  par : scope.names.lookup k = some .local
  free : ∀ y ∈ scope.names, y.2 = .free → sc.names.lookup y.1 = some .cell ∨ sc.names.lookup y.1 = some .free
def lamS1B (sc scope : Scope) (k : Str) : Bool :=
  [decide (scope.kind = .function), !scope.isCoroutine, !scope.isGenerator, scope.names.all (fun y => (!decide (y.2 = .local) || decide (y.1 = k)) && !decide (y.2 = .cell)), decide (scope.names.lookup k = some .local),
    scope.names.all (fun y => !decide (y.2 = .free) || (decide (sc.names.lookup y.1 = some .cell) || decide (sc.names.lookup y.1 = some .free)))].all id
theorem lamS1_by {sc scope : Scope} {k : Str} (h : lamS1B sc scope k = true) : LamS1 sc scope k := by
  unfold lamS1B at h
  simp only [List.all_cons, List.all_nil, Bool.and_true, Bool.and_eq_true, id, Bool.not_eq_true', decide_eq_true_eq] at h
  obtain ⟨h1, h2, h3, h4, h5, h6⟩ := h
  refine ⟨h1, h2, h3, fun y hy => ?_, h5, fun y hy e => ?_⟩
  · have z := List.all_eq_true.mp h4 y hy
    simp only [Bool.and_eq_true, Bool.or_eq_true, Bool.not_eq_true', decide_eq_true_eq, decide_eq_false_iff_not] at z
    exact ⟨fun e => z.1.elim (fun n => absurd e n) id, z.2⟩
  · have z := List.all_eq_true.mp h6 y hy
    simp only [Bool.or_eq_true, Bool.not_eq_true', decide_eq_true_eq, decide_eq_false_iff_not] at z
    exact z.elim (fun n => absurd e n) id
theorem LamS1.has {X : Cx} {scope : Scope} {k : Str} (L : LamS1 X.env.scope scope k) (ok : X.Ok) : ∀ y ∈ scope.names, y.2 = .free → ∃ c, X.env.cells.lookup y.1 = some c :=
  fun y hy e => (L.free y hy e).elim (fun z => ok.has _ (.inl z)) fun z => ok.has _ (.inr z)
section
variable {X : Cx} {pins : List (Addr × Obj)} {σ : L2.St} {H HZ : Hp} {s s1 : Shared}
abbrev dObj (q : Str) (params : Arguments) (body : Expr) (scope : Scope) (cl : List (Str × Addr)) (t : Addr) (doc pm : Value) (c' : Addr) (ctv : Value) : Obj := PySem.W.kdv_obj "<lambda>" q params (.expr body) scope cl (.ref t) doc pm c' ctv
theorem lam_makeD {T : List (Addr × Str)} {c P : Addr} {params : Arguments} {body : Expr} {scope : Scope} {i : Int} {jj dpos pos : _} {E : Value → Shared → Prop} {Q : Value → Shared → Prop} (I : Inv X pins σ H s) (TB : TabB X.base X.mg c P) (hcode : X.env.code = .ref c)
    (hm : (P, X.env.qual ++ "<lambda>") ∈ T) (hu : ∀ p ∈ T, p.1 = P → p.2 = X.env.qual ++ "<lambda>") (hT : Tabs T H) (hdf : params.defaults = [.Constant (.int i) jj dpos]) (hkd : params.kw_defaults = []) (hfree : ∀ y ∈ scope.names, y.2 = .free → ∃ c, X.env.cells.lookup y.1 = some c)
    (h : ∀ (f t c' : Addr) (doc pm ctv : Value) (u : Tok) (H1 : Hp) (s2 : Shared), Inv X pins σ H1 s2 → ExtN H H1 → Tabs T H1 →
      s2.heap.get? f = some (dObj (X.env.qual ++ "<lambda>") params body scope (cloFrom X.env.cells scope.names []) t doc pm c' ctv) → s2.heap.get? t = some (PySem.W.kdv_tup [.int i u]) → H1 f = none → H1 t = none → f ∉ frs X.stack → t ∉ frs X.stack → H1 c' = some (CodeO c' (X.env.qual ++ "<lambda>")) → Q (.ref f) s2) :
    wpAny (model X.prog X.w) X.A (eval (.Lambda params body scope pos) X.env) Q E s := by
  obtain ⟨ps, hP, ht, ha⟩ := hT _ hm
  refine PySem.W.kdv_lam (by rw [hdf]; rfl) hkd ?_
  rw [hdf]
  refine PySem.W.kdv_all1 (wpAny_Constant_int ?_)
  refine PySem.W.kdv_all0 ?_
  rw [makeFunction_eq]
  simp only [List.zip_nil_right, List.filterMap_nil, List.isEmpty_nil, List.isEmpty_cons, if_true, pure_bind, Bool.false_eq_true, if_false]
  refine wpAny_bind (wpAny_newTextTuple ?_)
  have kp : ∀ b o, s.heap.get? b = some o → (s.heap.push (PySem.W.kdv_tup [.int i s.toks])).get? b = some o := fun b o e => Heap.get?_push_of_some _ e
  have J : Inv X pins σ H { s with heap := s.heap.push (PySem.W.kdv_tup [.int i s.toks]), toks := s.toks + 1 } := I.kept kp
  have tN : H s.heap.objs.size = none := I.hok.fresh (Nat.le_refl _)
  have tG : (s.heap.push (PySem.W.kdv_tup [.int i s.toks])).get? s.heap.objs.size = some (PySem.W.kdv_tup [.int i s.toks]) := Heap.get?_push_size _ rfl
  have nofr : ∀ f, s.heap.objs.size ≤ f → f ∉ frs X.stack := fun f hf z => by
    rcases List.mem_cons.mp (I.stkSub _ z) with e | e
    · have h1 := I.lt
      rw [← e] at h1; exact absurd (Nat.lt_of_lt_of_le h1 hf) (Nat.lt_irrefl _)
    · exact I.nofs hf e
  have szp : s.heap.objs.size < (s.heap.push (PySem.W.kdv_tup [.int i s.toks])).objs.size := Heap.lt_size tG
  generalize hh : s.heap.push (PySem.W.kdv_tup [.int i s.toks]) = hp at *
  have bP : hp.BuiltinsAt X.mg P := TB.bm.keeps J.bk
  have hP2 : hp.get? P = some { cls := .none, data := .fields ps } := J.hok P _ hP
  cases hc : codeAmong pos ps.toList with
  | none =>
    refine PySem.W.kdv_makeTail (mg := X.mg) (c := c) (P := P) (ps := ps) (closure_ok hfree) I.ok.glob (J.mod.glob.keeps J.bk) hcode (TB.code.keeps J.bk) hP2 ht hc TB.gP bP fun c' ctv doc h2 tk hx hge hlt hrec htb => ?_
    obtain ⟨c2, oc, vs, t, e2, hoc, hd, hv⟩ := hrec
    cases e2
    have hsz : hp.objs.size ≤ h2.objs.size := Nat.le_trans hge (Nat.le_of_lt hlt)
    have nC : H c' = none := J.hok.fresh hge
    have I1 := inv_table (t' := tk) (more := #[rawInt pos.line, rawInt pos.col, .ref c']) (h' := h2.push (dObj (X.env.qual ++ "<lambda>") params body scope (cloFrom X.env.cells scope.names []) s.heap.objs.size doc ((X.mg "__name__").getD .none) c' ctv)) J hP
      (fun b o hb e => Heap.get?_push_of_some _ (hx b o hb e)) (Heap.get?_push_of_some _ htb) hge ⟨oc, vs, t, Heap.get?_push_of_some _ hoc, hd, hv⟩
    have hE : ExtN H (upd (upd H P (.tbl (ps ++ #[rawInt pos.line, rawInt pos.col, .ref c']))) c' (CodeO c' (X.env.qual ++ "<lambda>"))) := fun b o e n => by
      rw [upd_ne (ne_of_none e nC), upd_ne (fun z : b = P => n ps (Option.some.inj (e.symm.trans (by rw [z]; exact hP))))]; exact e
    have eL : (ps ++ #[rawInt pos.line, rawInt pos.col, .ref c']).toList = ps.toList ++ [rawInt pos.line, rawInt pos.col, .ref c'] := by simp
    have tP : s.heap.objs.size ≠ P := fun z => by rw [z, hP] at tN; cases tN
    have tC : s.heap.objs.size ≠ c' := Nat.ne_of_lt (Nat.lt_of_lt_of_le szp hge)
    refine h h2.objs.size s.heap.objs.size c' doc ((X.mg "__name__").getD .none) ctv s.toks _ _ I1 hE (fun p hp => ?_) (Heap.get?_push_size _ rfl) (Heap.get?_push_of_some _ (hx _ _ tP tG)) ?_ (by rw [upd_ne tC, upd_ne tP]; exact tN) (nofr _ (Nat.le_trans (Nat.le_of_lt szp) hsz)) (nofr _ (Nat.le_refl _)) upd_same
    · by_cases hb : p.1 = P
      · rw [hu p hp hb, hb]
        refine ⟨_, (by rw [upd_ne (ne_of_none hP nC), upd_same]), (by rw [eL]; exact PySem.TriplesOk_snoc _ _ _ _ ht), fun p2 cv hcv => ?_⟩
        rw [eL] at hcv
        rcases among_app _ ht hcv with z | z
        · obtain ⟨c0, e1, e2⟩ := ha p2 cv z
          exact ⟨c0, e1, hE _ _ e2 (fun q => codeO_ne q)⟩
        · exact ⟨c', z, upd_same⟩
      · obtain ⟨ps2, a1, a2, a3⟩ := hT p hp
        refine ⟨ps2, (by rw [upd_ne (ne_of_none a1 nC), upd_ne hb]; exact a1), a2, fun p2 cv hcv => ?_⟩
        obtain ⟨c0, e1, e2⟩ := a3 p2 cv hcv
        exact ⟨c0, e1, hE _ _ e2 (fun q => codeO_ne q)⟩
    · have n1 : h2.objs.size ≠ c' := Nat.ne_of_gt hlt
      have n2 : h2.objs.size ≠ P := Nat.ne_of_gt (Nat.lt_of_lt_of_le (Heap.lt_size hP2) hsz)
      rw [upd_ne n1, upd_ne n2]; exact J.hok.fresh hsz
  | some cv =>
    obtain ⟨c', e, hco⟩ := ha pos cv hc
    subst e
    refine PySem.W.kdv_makeTailHit (mg := X.mg) (c := c) (P := P) (ps := ps) (closure_ok hfree) I.ok.glob (J.mod.glob.keeps J.bk) hcode (TB.code.keeps J.bk) hP2 ht hc bP fun ctv doc h2 tk hx hsz => ?_
    have I1 : Inv X pins σ H { s with heap := h2.push (dObj (X.env.qual ++ "<lambda>") params body scope (cloFrom X.env.cells scope.names []) s.heap.objs.size doc ((X.mg "__name__").getD .none) c' ctv), toks := tk } := J.kept fun b o e => Heap.get?_push_of_some _ (hx b o e)
    exact h h2.objs.size s.heap.objs.size c' doc ((X.mg "__name__").getD .none) ctv s.toks H _ I1 (ExtN.refl H) hT (Heap.get?_push_size _ rfl) (Heap.get?_push_of_some _ (hx _ _ tG)) (J.hok.fresh hsz) tN (nofr _ (Nat.le_trans (Nat.le_of_lt szp) hsz)) (nofr _ (Nat.le_refl _)) hco
/-- the body's start: the parameter is no name that the frame knows -/
theorem lam_startD {A : Around} {outer : List Env} {E : XK} {scope : Scope} {f c' : Addr} {h₁ : Heap} {tk : Nat} {k : Str} {kv : Value} (I : Inv X pins σ H s) (L : LamS1 X.env.scope scope k) (nk : k ∉ X.N) (e0 : Env0 X.prog X.w X.K X.mg X.base A outer s1 HZ) (hd : A.handled = none)
    (un : Un (frs X.stack) [] H HZ s.heap s1.heap) (hns : h₁.Ns s1.heap.objs.size fun y => [(k, kv)].reverse.lookup y) (kp : ∀ b o, s1.heap.get? b = some o → h₁.get? b = some o) :
    Inv (lamCx X A outer s1 HZ E scope f c') [] σ HZ { s1 with heap := h₁, toks := tk } := by
  have hfree := L.has I.ok
  have cm : ∀ {y c}, (cloFrom X.env.cells scope.names []).lookup y = some c → X.env.cells.lookup y = some c := fun {y c} e => by
    rcases cloFrom_mem (PySem.mem_of_lookup e) with hm | ⟨h1, h2⟩
    · cases hm
    · obtain ⟨c1, hc⟩ := hfree _ h1 rfl
      have hc : X.env.cells.lookup y = some c1 := hc
      have e2 : c = c1 := by rw [h2, hc] <;> rfl
      rw [e2]; exact hc
  have look : ∀ {y}, scope.names.lookup y = some .free → ∃ c, (cloFrom X.env.cells scope.names []).lookup y = some c := fun {y} hl =>
    mem_lookup (cloFrom_has (cells := X.env.cells) (acc := []) (PySem.mem_of_lookup hl))
  have cellK : ∀ {c : Addr} {v : Option Value}, H c = none → s.heap.IsCell c v → h₁.IsCell c v := fun {c v} n ⟨o, ho, hd⟩ =>
    let ⟨sl, q⟩ := un.any ho n (by simp); ⟨_, kp _ _ q, hd⟩
  have noA : ∀ b : Addr, b ∉ (lamCx X A outer s1 HZ E scope f c').ex := fun b z => nomatch (show b ∈ ([] : List Addr) from z)
  refine ⟨⟨e0.mod, L.kind, rfl, rfl, Nat.le_refl _, fun y z c e1 e2 => I.ok.inj y z c (cm e1) (cm e2), fun y hy => ?_, fun y c z _ => ?_, fun _ => hd, Around.frames_deeper e0.frames, .inr ⟨rfl, rfl⟩, fun b z => absurd z (noA b), e0.bs, e0.bsz, fun b _ _ => noA b,
      fun b z => absurd z (noA b), e0.funs, e0.frf⟩, rfl, e0.bare, Un.kept kp, ⟨_, hns, fun i y v e1 e2 e3 => ?_⟩, fun y c e => ?_, e0.hok.fresh (Nat.le_refl _), fun y c e => ?_, fun q hq => (nomatch (show q ∈ ([] : List (Addr × Obj)) ++ [] from hq)), e0.hok.kept kp, I.len⟩
  · have hy : scope.names.lookup y = some .cell ∨ scope.names.lookup y = some .free := hy
    rcases hy with hy | hy
    · exact absurd rfl (L.own _ (PySem.mem_of_lookup hy)).2
    · exact look hy
  · have z : false = true := z
    cases z
  · have e3 : Vis scope y := e3
    rcases e3 with q | q | q
    · have ey : y = k := (L.own _ (PySem.mem_of_lookup q)).1 rfl
      exact absurd (List.mem_of_getElem? (show X.N[i]? = some k from ey ▸ e1)) nk
    · exact absurd rfl (L.own _ (PySem.mem_of_lookup q)).2
    · obtain ⟨m, hn, hl⟩ := I.loc
      have hvis : Vis X.env.scope y := (L.free _ (PySem.mem_of_lookup q) rfl).elim (fun z => .inr (.inl z)) fun z => .inr (.inr z)
      obtain ⟨w2, r, q2⟩ := hl i y v e1 e2 hvis
      obtain ⟨c2, h2⟩ := look q
      refine ⟨w2, r, .inr ⟨.inr q, c2, h2, ?_⟩⟩
      have c1 := cm h2
      rcases q2 with ⟨k', _⟩ | ⟨_, c3, e', z⟩
      · have k' : X.env.scope.names.lookup y = some .local := k'
        rcases L.free _ (PySem.mem_of_lookup q) rfl with k2 | k2 <;> (rw [show X.env.scope.names.lookup y = _ from k2] at k'; cases k')
      · rw [c1] at e'
        cases e'; exact cellK (I.freeC y _ c1) z
  · obtain ⟨w2, z⟩ := I.cell y c (cm e); exact ⟨w2, cellK (I.freeC y c (cm e)) z⟩
  · obtain ⟨v, o, ho, hd⟩ := I.cell y c (cm e); exact un.free c o ho (I.freeC y c (cm e)) (by simp)
/-- the call, in the def that got the lambda -/
theorem pe_actD {CXg : CXT} {Eg : XK} {Ng : List Str} {qg k : Str} {sg : Scope} {g f t c' : Addr} {cdg doc pm ctv : Value} {u : Tok} {i : Int} {params : Arguments} {body : Expr} {scope : Scope} {n j : Nat} {a : Str} {pn : List (Addr × Obj)} {xe : Value → Shared → Prop} {W : WX} {E : XK} {tb : TE} {p1 p2 : Pos}
    (I : Inv X pins σ H s) (L : LamS1 X.env.scope scope k) (nk : k ∉ X.N) (hf : s.heap.get? f = some (dObj (X.env.qual ++ "<lambda>") params body scope (cloFrom X.env.cells scope.names []) t doc pm c' ctv)) (ht : s.heap.get? t = some (PySem.W.kdv_tup [.int i u])) (hfn : H f = none) (htn : H t = none) (hfr : f ∉ frs X.stack) (htr : t ∉ frs X.stack)
    (hbind : ∃ kk, bindArgs (PySem.W.kdv_fn "<lambda>" (X.env.qual ++ "<lambda>") params (.expr body) scope (cloFrom X.env.cells scope.names []) (.ref t) doc pm (.ref c') ctv) ⟨[], []⟩ = seqItems? (.ref t) >>= kk ∧ kk (some #[.int i u]) = pure [(k, .int i u)])
    (tk : Takes ((cxOf CXg X.prog X.w X.K X.mg X.base Ng qg sg g cdg X.A X.stack s H Eg).tr pn xe) W) (hW : ∀ cls d σ' H', E cls d H' → W cls d σ' H') (hr : Room (n + 1) (X.A.deeper (envOfC qg sg s.heap.objs.size g cdg)))
    (hbody : ∀ (A : Around) (outer : List Env) (s : Shared) (H : Hp), Room n (A.deeper (lamEnv X scope s.heap.objs.size f c')) → PE (lamCx X A outer s H E scope f c') body tb)
    (hN : Ng[j]? = some a) (hv : Vis sg a) (hd : (a == ("__debug__" : Str)) = false) (hcd : (a == ("__classdict__" : Str)) = false) :
    PE ((cxOf CXg X.prog X.w X.K X.mg X.base Ng qg sg g cdg X.A X.stack s H Eg).tr pn xe) (.Call (.Name a p1) [] [] p2)
      (fun σZ HZ Q => σZ[j]? = some (some (.ref f)) ∧ HZ c' = some (CodeO c' (X.env.qual ++ "<lambda>")) ∧ tb σ HZ Q) := by
  refine ⟨fun pinsZ sZ σZ HZ Q IZ ⟨hs, hc, htb⟩ => ?_⟩
  refine wpAny_Call_Name_kw (thn ((pe_var (pos := p1) (i := j) hN hv hd hcd).run pinsZ sZ σZ HZ (fun v H1 => v = .ref f ∧ H1 = HZ) IZ ⟨.ref f, hs, rfl, rfl⟩) fun w s1 ⟨v, H1, I1, r1, ev, eH⟩ => ?_)
  subst ev
  rw [eH] at I1
  obtain rfl : w = Value.ref f := r1
  have none0 : ∀ b : Addr, b ∉ ([] : List Addr) := fun b z => nomatch z
  have of1 := I1.base.keep f _ hf hfn hfr (none0 f)
  have ot1 := I1.base.keep t _ ht htn htr (none0 t)
  refine PySem.W.callWith_F0 ⟨_, _, _, _, of1⟩ ?_
  have un : Un (frs X.stack) [] H HZ s.heap s1.heap := I1.base
  obtain ⟨⟨oc, vs, t2, hoc, hdc, hvc⟩, _, _⟩ := I1.hok c' _ hc
  obtain ⟨kk, b1, b2⟩ := hbind
  have rc : codeAny (model X.prog X.w) (X.A.deeper (envOfC qg sg s.heap.objs.size g cdg)) (.call (.ref f) ⟨[], []⟩) (CR (L2.CX X.prog X.w) (envOfC qg sg s.heap.objs.size g cdg :: X.stack) X.prog X.w HZ s1 Q E) s1 := by
    refine PySem.W.kla_callFunE hr.depth of1 rfl L.co L.gen rfl ⟨c', oc, vs, t2, rfl, hoc, hdc, hvc⟩ (BindsTo.of_defaults rfl ot1 rfl b1 b2 _ _ _ _ ?_)
    refine wpAny_newFunctionEnv (fun y hy => (L.own y hy).2) (fun y hy => ?_) (fun h₁ hns hsb => ⟨I1.nolimit.fresh _ hsb, ?_⟩) L.kind
    · cases List.mem_singleton.mp hy; exact L.par
    show codeAny _ _ (.expr body (lamEnv X scope s1.heap.objs.size f c')) _ _
    have kp : ∀ b o, s1.heap.get? b = some o → h₁.get? b = some o := fun b o e => hsb.extBut b o (Nat.ne_of_lt (Heap.lt_size e)) (Heap.get?_push_of_some _ e)
    have J := lam_startD (E := E) (f := f) (c' := c') (tk := s1.toks + 1) I L nk I1.env0 hr.hd un hns kp
    refine PySem.W.kla_codeExpr (wpAny_mono ((hbody _ _ s1 HZ (hr.deeper _)).run [] _ _ HZ Q J htb) (fun v s2 ⟨w2, H2, J2, rv, q⟩ => ⟨w2, H2, J2.os, J2.bare, J2.base, J2.hok, rv, q⟩) fun e s2 hq => hq)
  have hx : Passes (L2.CX X.prog X.w) ((cxOf CXg X.prog X.w X.K X.mg X.base Ng qg sg g cdg X.A X.stack s H Eg).tr pn xe) E := passes_call tk hW
  refine wpAny_call (codeAny_mono rc fun r s2 hq => ?_)
  cases r with
  | error e => exact hx pinsZ σZ HZ s1 e s2 I1 hq
  | ok fl =>
    cases fl with
    | ret w => exact I1.after hq
    | _ => exact hq.elim
end
/-- x(lambda k=i: body) -/
theorem pe_lamcallD {X : Cx} {T : List (Addr × Str)} {TT : (XK → Hp → VK → Prop) → Hp → VK → Prop} {x a k : Str} {g c P : Addr} {n : Nat} {i : Int} {jj : Nat} {dpos : Pos} {pg : Arguments} {bg : List Stmt} {sg : Scope} {dV kV doc pm cdv ct oc : Value} {an od : Option Addr} {osl : Array (Option Value)} {Ng : List Str}
    {params : Arguments} {body : Expr} {scope : Scope} {t : XK → TE} {p lpos pos : Pos} (hg : Gl X x) (hm : X.mg x = some (.ref g)) (hk : PySem.W.keepIn X.K (.ref g) = true)
    (lk : X.K.lookup g = some ⟨oc, od, .func (PySem.W.fnOf x x pg bg sg dV kV doc pm an cdv ct), osl⟩) (hcg : PySem.W.codeIn X.K cdv x = true) (hb : L2.Binds X.K (PySem.W.fnOf x x pg bg sg dV kV doc pm an cdv ct) [a] []) (Sg : FnScope Ng [a] sg) (hNg : Ng[0]? = some a) (hva : Vis sg a)
    (hG : GivesTo X Ng x sg g cdv bg a (X.env.qual ++ "<lambda>") TT) (TB : TabB X.base X.mg c P) (hcode : X.env.code = .ref c) (hmT : (P, X.env.qual ++ "<lambda>") ∈ T) (hu : ∀ p ∈ T, p.1 = P → p.2 = X.env.qual ++ "<lambda>") (hr : Room (n + 2) X.A)
    (L : LamS1 X.env.scope scope k) (nk : k ∉ X.N) (hdf : params.defaults = [.Constant (.int i) jj dpos]) (hkd : params.kw_defaults = [])
    (hbind : ∀ (q : Str) (cl : List (Str × Addr)) (tt : Addr) (doc pm cv ctv : Value) (u : Tok), ∃ kk, bindArgs (PySem.W.kdv_fn "<lambda>" q params (.expr body) scope cl (.ref tt) doc pm cv ctv) ⟨[], []⟩ = seqItems? (.ref tt) >>= kk ∧ kk (some #[.int i u]) = pure [(k, .int i u)])
    (hbody : ∀ (A : Around) (outer : List Env) (s : Shared) (H : Hp) (E : XK) (f c' : Addr), Room n (A.deeper (lamEnv X scope s.heap.objs.size f c')) → PE (lamCx X A outer s H E scope f c') body (t E))
    (hdb : (x == ("__debug__" : Str)) = false) (hd : (a == ("__debug__" : Str)) = false) (hcd : (a == ("__classdict__" : Str)) = false) :
    PE X (.Call (.Name x p) [.Lambda params body scope lpos] [] pos) (tLam T TT t) := by
  refine ⟨fun pins s σ H Q I ⟨hT, h⟩ => ?_⟩
  refine wpAny_Call_Name_kw (ld_glob I hg hm ?_ hdb)
  refine PySem.W.callWith_K (h₀ := X.base) I.ok.mod.kin hk ?_ (by rfl) (by rfl)
  show wpAny _ _ (spliced ((false, eval (.Lambda params body scope lpos) X.env) :: backTo pos (starEach [] X.env))) _ _ s
  refine Calls.spliced_cons (lam_makeD I TB hcode hmT hu hT hdf hkd (L.has I.ok) fun f t' c' doc2 pm2 ctv u H1 s2 I1 eN T1 hf ht hfn htn hfr htr hco => ?_)
  refine Calls.spliced_nil ⟨I1.kIn, ?_⟩
  have rc : codeAny (model X.prog X.w) X.A (.call (.ref g) ⟨[.ref f], []⟩) (CR C8.CX0 X.stack X.prog X.w H1 s2 Q C8.E0) s2 := by
    refine run_ofS (N := Ng) (ps := [a]) (us := [.ref f]) (vs := [.ref f]) lk hcg Sg hr I1.env0 (hb s2 [.ref f] I1.kIn rfl) (.cons rfl .nil) rfl fun hr2 => ?_
    obtain ⟨t3, ht3, hq3⟩ := hG f c' s2 H1 Q (fun E H2 Q2 => t E σ H2 Q2) (fun W pn xe E p1 p2 tk hW => pe_actD (j := 0) I1 L nk hf ht hfn htn hfr htr (hbind _ _ _ _ _ _ _ _) tk hW hr2 (fun A outer s H hr3 => hbody A outer s H E f c' hr3) hNg hva hd hcd) hco (h H1 eN T1)
    exact ⟨t3, ht3.nox, hq3⟩
  refine wpAny_call (codeAny_mono rc fun r s3 hq => ?_)
  cases r with
  | error e => exact (show False from hq).elim
  | ok fl =>
    cases fl with
    | ret w => exact I1.after hq
    | _ => exact hq.elim
end LamD
namespace Ls
open PySem PySem.Spec PyProof.Rows L2
variable [Tb]
theorem ev_saidD {X : Cx} {W : WX} (i : Int) (k0 : Str) {x a w : Str} {g c P : Addr} {fd : FuncData} {pg : Arguments} {bg : List Stmt} {sg : Scope} {Ng : List Str} {k jj : Nat} {dpos : Pos} {params : Arguments} {body : Expr} {scope : Scope} {th : FE} {h₀ : ExceptHandler} {hds : List ExceptHandler} {hs : List Hd} {kk : Nat} {x1} {p1 p2 p3 p4 p5 p6 p lpos pos : Pos}
    (F : FunD X.K x x pg bg sg [] [] g fd) (hb : Binds X.K fd [a] []) (Sg : FnScope Ng [a] sg) (TB : LamX.TabB X.base X.mg c P) (hcode : X.env.code = .ref c) (hmT : (P, X.env.qual ++ "<lambda>") ∈ Tb.t) (hu : ∀ p ∈ Tb.t, p.1 = P → p.2 = X.env.qual ++ "<lambda>") (hr : Room (k + 2) X.A) (hg : Gl X x) (hm : X.mg x = some (.ref g))
    (L : LamD.LamS1 X.env.scope scope k0)
    (hh : ∀ (cdg : Value) (s : Shared) (H : Hp), ClV (cxOf C8.CX0 X.prog X.w X.K X.mg X.base Ng x sg g cdg X.A X.stack s H C8.E0).nox [] (h₀ :: hds) hs)
    (hbody : ∀ (A : Around) (outer : List Env) (s : Shared) (H : Hp) (E : XK) (f c' : Addr), Room k (A.deeper (LamX.lamEnv X scope s.heap.objs.size f c')) → EV (LamX.lamCx X A outer s H E scope f c') (WF' E) body th)
    (nk : k0 ∉ X.N := by decide) (hdf : params.defaults = [.Constant (.int i) jj dpos] := by rfl) (hkd : params.kw_defaults = [] := by rfl)
    (hbind : ∀ (q : Str) (cl : List (Str × Addr)) (tt : Addr) (doc pm cv ctv : Value) (u : Tok), ∃ kk, bindArgs (PySem.W.kdv_fn "<lambda>" q params (.expr body) scope cl (.ref tt) doc pm cv ctv) ⟨[], []⟩ = seqItems? (.ref tt) >>= kk ∧ kk (some #[.int i u]) = pure [(k0, .int i u)] := by exact fun _ _ _ _ _ _ _ _ => ⟨_, rfl, rfl⟩)
    (hbg : bg = [.Try [.Return (some (.Tuple [.Constant (.str w) kk p5, .Call (.Name a p1) [] [] p2] x1 p6)) p3] (h₀ :: hds) [] [] p4] := by rfl) (hNg : Ng[0]? = some a := by rfl) (hva : Vis sg a := by first | exact Or.inl rfl | exact Or.inr (Or.inl rfl) | exact Or.inr (Or.inr rfl))
    (hdb : (x == ("__debug__" : Str)) = false := by decide) (hd : (a == ("__debug__" : Str)) = false := by decide) (hcd : (a == ("__classdict__" : Str)) = false := by decide) :
    EV X W (.Call (.Name x p) [.Lambda params body scope lpos] [] pos) (eSaid Ng.length hs w th) := by
  have hk := F.kp
  obtain ⟨oc, od, dV, kV, doc, pm, an, cdv, ct, osl, rfl, lk, hcg, _, _⟩ := F.ex
  subst hbg
  have h1 : 0 < Ng.length := by
    cases Ng with
    | nil => cases hNg
    | cons y l => simp
  refine ⟨_, LamD.pe_lamcallD (T := Tb.t) (TT := TSaid X.K Ng.length hs w) (t := fun E => rdV X.K (WF' E) (ROr X.K) th) hg hm hk lk hcg hb Sg hNg hva (said_gives Sg.nd (fun f => rfl) (fun f => ?_) (fun s H => hh cdv s H)) TB hcode hmT hu hr L nk hdf hkd hbind (fun A outer s H E f c' hr2 => (hbody A outer s H E f c' hr2).pe) hdb hd hcd, sndE_said fun E => snd_rd⟩
  unfold L2.start
  simp
  omega
/-! ### running: a clause that returns fields of the caught exception as a tuple -/
section
omit [Tb]
variable {ρ ρ1 : En} {x : Xn} {i : Nat} {known : Str → Bool} {f g : Str} {hs : List Hd} {h : Hd} {o : O} {t u : PyData}
theorem retT {r : FA} {os : List O} {ds : List PyData} (h1 : r ρ = .ok os ρ) (h2 : frzs os = some ds) : sRet (eTup r) ρ = .rt (.fz (.tuple ds)) ρ := by
  have e : eTup r ρ = .ok (.fz (.tuple ds)) ρ := by
    unfold eTup; rw [h1]
    show (match frzs os with
      | some ds => Out.ok (O.fz (.tuple ds)) ρ
      | none => Out.bad) = _
    rw [h2]
  unfold sRet; rw [e]; rfl
theorem consZ {e : FE} {r : FA} {os : List O} (h1 : e ρ = .ok (.fz t) ρ) (h2 : r ρ = .ok os ρ) : aCons (eZ e) r ρ = .ok (.fz t :: os) ρ := by
  have e2 : eZ e ρ = .ok (.fz t) ρ := by unfold eZ; rw [h1]; rfl
  unfold aCons; rw [e2]
  show (r ρ).bind _ = _
  rw [h2]; rfl
theorem clT1 (hi : i < ρ.length) (hk : known x.cls = true) (h1 : x.fs.lookup f = some t) : runCl (some i) (fun a cls d => sRet (eTup (aCons (eZ (eXf known a cls d i f)) aNil))) x ρ = .rt (.fz (.tuple [t])) (ρ.set i none) := by
  refine runCl_eq (fun a cls d => ?_) (decide_eq_true hi)
  have e0 : (setX a cls d x ρ (some i))[i]? = some (some (.exn a cls d x)) := List.getElem?_set_self hi
  rw [retT (consZ (eXf_eq e0 hk h1) (show aNil _ = .ok [] _ from rfl)) rfl]
  show SO.rt _ ((ρ.set i _).set i none) = _
  rw [List.set_set]
theorem clT2 (hi : i < ρ.length) (hk : known x.cls = true) (h1 : x.fs.lookup f = some t) (h2 : x.fs.lookup g = some u) : runCl (some i) (fun a cls d => sRet (eTup (aCons (eZ (eXf known a cls d i f)) (aCons (eZ (eXf known a cls d i g)) aNil)))) x ρ = .rt (.fz (.tuple [t, u])) (ρ.set i none) := by
  refine runCl_eq (fun a cls d => ?_) (decide_eq_true hi)
  have e0 : (setX a cls d x ρ (some i))[i]? = some (some (.exn a cls d x)) := List.getElem?_set_self hi
  rw [retT (consZ (eXf_eq e0 hk h1) (consZ (eXf_eq e0 hk h2) (show aNil _ = .ok [] _ from rfl))) rfl]
  show SO.rt _ ((ρ.set i _).set i none) = _
  rw [List.set_set]
theorem caF (hm : h.m x.cls = some false) (hr : catchF hs x ρ = .rt o ρ1) : catchF (h :: hs) x ρ = .rt o ρ1 := r_catchF hm hr
theorem caT (hm : h.m x.cls = some true) (hr : runCl h.i h.su x ρ = .rt o ρ1) : catchF (h :: hs) x ρ = .rt o ρ1 := by
  unfold catchF; rw [hm]; exact hr
theorem askE_of (h : catchF hs x ρ1 = .rt o ρ1) : askK (catchF hs x ρ1) ρ = .ok o ρ := by rw [h]; rfl
end
end Ls

/-! for .. in reversed(e); x.clear() -/
namespace Ls
open PySem PySem.Spec PyProof.Rows L2
variable [Tb]
section
variable {K : PySem.W.Frag} {W : WX} {P : List Nat} {S H : Hp} {A B C : Fp} {σ : L2.St} {ρ : En}
def fRev (f : FE) : FI := fun ρ => (f ρ).bind fun o ρ1 => match frz o with
  | some (.list ds) => .ok (.st true ds.reverse) ρ1
  | _ => .bad
theorem rev_at {α : Type} {xs : List α} {j : Nat} (h : j < xs.length) : xs.reverse[j]? = xs[xs.length - 1 - j]? := by
  rw [List.getElem?_reverse h]
theorem src_rev {a : Addr} {vs : List V} {ds : List PyData} (sq : SqL K S a vs) (da : DpAll K S vs ds) : Src K σ S (Itv K a vs.length) (.st true ds.reverse) := by
  intro σ2 ρ S2 H A T j ds2 g2 sub w le e hd
  cases hd
  have sqH : SqL K H a vs := sqL_mono (fun a u z => w.sub a u (sub a u z)) sq
  have da2 := dpa_mono sub da
  refine ⟨fun d hj => ?_, fun hj => by rw [List.length_reverse, ← dpall_len da] at hj; exact hj⟩
  have hlt : j < ds.length := by have := (List.getElem?_eq_some_iff.mp hj).1; rwa [List.length_reverse] at this
  obtain ⟨v, h1, h2⟩ := dpall_get (dpall_rev da2) hj
  have hv : j < vs.length := by rw [dpall_len da]; exact hlt
  rw [rev_at hv] at h1
  refine ⟨⟨hv, vs, v, sqH, h1⟩, fun x H2 y => ?_⟩
  obtain ⟨rfl, y2⟩ := y
  have e2 := y2 vs sqH
  rw [h1] at e2
  cases e2
  exact ⟨S2, w, Tr.refl, fun _ _ => rfl, h2⟩
theorem sndI_rev {t : TE} {f : FE} (h : SndE K W t f) : SndI K W (RT.iRevA K t) (fRev f) := by
  intro σ ρ S H A w e
  have h1 := h σ ρ S H A w e
  show OutOk K W (RSr K) _ σ S H A ((f ρ).bind _)
  cases hf : f ρ with
  | bad => exact True.intro
  | exc x ρ2 =>
    rw [hf] at h1
    exact fun Q k => h1 _ k
  | ok o ρ1 =>
    rw [hf] at h1
    show OutOk K W (RSr K) _ σ S H A (match frz o with
      | some (.list ds) => Out.ok (.st true ds.reverse) ρ1
      | _ => .bad)
    cases hz : frz o with
    | none => exact True.intro
    | some d =>
      cases d with
      | list ds =>
        intro Q k
        refine h1 _ fun v S1 H1 A1 B1 w1 e1 r1 t1 => ?_
        obtain ⟨w2, t2, sub2⟩ := settle_wf w1
        have dq := or_settle (fun b hb => w1.dj b (by rw [add_at]; omega)) (fun b => Nat.le_refl _) r1 hz
        cases dq with
        | @lst a vs _ sq da =>
          refine ⟨a, vs, rfl, .inl ⟨sqL_mono w2.sub sq, k _ (settle S1 H1 B1) H1 A1 Fp.z (by rw [addz]; exact w2) (er_keep sub2 e1 fun _ _ => rfl) ⟨src_rev sq da, fun _ => rfl⟩ (by rw [addz]; exact t1.trans t2)⟩⟩
      | _ => exact True.intro
/-! ### x.clear() of a slot's own list -/
def sClr (j : Nat) : FS := fun ρ => match ρ[j]? with
  | some (some (.lst _)) => .nx (ρ.set j (some (.lst [])))
  | _ => .bad
theorem sndS_clr {j : Nat} : SndS K W P (tDrop (tBM0 K "list" rClear (tVar j))) (sClr j) := by
  intro σ ρ S H A w e
  unfold sClr
  cases hj : ρ[j]? with
  | none => exact True.intro
  | some x =>
    cases x with
    | none => exact True.intro
    | some o =>
      cases o with
      | lst xs =>
        obtain ⟨a, vs, Bx, C, hs, hH, rx, e2, z2⟩ := slot_own e hj
        intro D k
        refine ⟨_, hs, Or.inl ⟨rfl, _, SqL.of hH⟩, a, vs, rfl, rfl, hH, ?_⟩
        obtain ⟨A2, w3, e3, t3⟩ := slot_set (By := Fp.z) w hs ⟨_, hj⟩ e2 (.nil fun _ => rfl) fun b => by rw [z2 b, z_at]; omega
        exact k σ S _ A2 w3 e3 t3 Kp.refl
      | _ => exact True.intro
end
section
variable {X : Cx} {W : WX} {P : List Nat} {tg a : Expr} {fe : FE} {pos p : Pos}
theorem iv_rev (hg : Gl X "reversed") (hm : X.mg "reversed" = none) (h : EV X W a fe) (hs : starEach [a] X.env = (false, eval a X.env) :: starEach [] X.env := by rfl) : IV X W tg (.Call (.Name "reversed" p) [a] [] pos) (fRev fe) :=
  let ⟨_, h1, h2⟩ := h.ex; ⟨_, RT.pi_revA hg hm h1 hs, sndI_rev h2⟩
theorem sv_clr (j : Nat) {x : Str} {p1 p2 cpos : Pos} (hN : X.N[j]? = some x := by rfl) (hv : Vis X.env.scope x := by first | exact Or.inl rfl | exact Or.inr (Or.inl rfl) | exact Or.inr (Or.inr rfl)) (hd : (x == ("__debug__" : Str)) = false := by decide) (hcd : (x == ("__classdict__" : Str)) = false := by decide)
    (hbase : attributeBase (.Name x p1) "clear" X.env (eval (.Name x p1) X.env) = eval (.Name x p1) X.env := by rfl) (hline : (p2.endLine == cpos.line) = true := by rfl)
    (hsw : swapsWith (.Call (.Attribute (.Name x p1) "clear" p2) [] [] cpos) none pos.line X.env = pure false := by rfl) :
    SV X W P (.Expr (.Call (.Attribute (.Name x p1) "clear" p2) [] [] cpos) pos) (sClr j) :=
  ⟨_, ps_expr (pe_bm0 PySem.F.plainAttrs_list PySem.F.slot_list_clear PySem.F.type_list_clear (bm_of mt_clear) (pe_var hN hv hd hcd) hbase hline) hsw, sndS_clr⟩
end
end Ls

/-! running: telling askings, stores into lists, max and min -/
namespace Ls
open PySem L2
section
variable {ρ ρ1 : En} {o y : O} {os : List O} {x : Xn} {n i : Nat} {hs : List Hd} {w : Str} {th : FE} {d : PyData} {k l : Int}
theorem x_oset0 : List.set (o :: os) 0 y = y :: os := rfl
theorem x_osetS : List.set (o :: os) (n + 1) y = o :: List.set os n y := rfl
theorem x_max2 : dMax2 (.int k) (.int l) = some (.int (if l > k then l else k)) := rfl
theorem x_min2 : dMin2 (.int k) (.int l) = some (.int (if l < k then l else k)) := rfl
def kSaid2 (w : Str) (z : Option PyData) (ρ : En) : Out O := match z with
  | some d => .ok (.fz (.tuple [.str w, d])) ρ
  | none => .bad
noncomputable def kSaid (n : Nat) (hs : List Hd) (w : Str) (z : Out O) : Out O := match z with
  | .ok o ρ1 => kSaid2 w (frz o) ρ1
  | .exc x ρ1 => askK (catchF hs x (List.replicate n none)) ρ1
  | .bad => .bad
theorem x_said : eSaid n hs w th ρ = kSaid n hs w (th ρ) := by
  unfold eSaid kSaid
  cases th ρ with
  | ok o ρ1 => dsimp only; cases frz o <;> rfl
  | _ => rfl
theorem x_said1 : kSaid n hs w (.ok o ρ) = kSaid2 w (frz o) ρ := rfl
theorem x_said2 : kSaid2 w (some d) ρ = .ok (.fz (.tuple [.str w, d])) ρ := rfl
theorem x_said3 : kSaid n hs w (.exc x ρ) = askK (catchF hs x (List.replicate n none)) ρ := rfl
theorem x_bnes {b : Bool} : (b != b) = false := by cases b <;> rfl
theorem x_beqs {b : Bool} : (b == b) = true := by cases b <;> rfl
theorem x_ix4a : ixN 4 1 = some 1 := rfl
theorem x_ix4b : ixN 4 2 = some 2 := rfl
theorem x_ix4c : ixN 4 3 = some 3 := rfl
def kFRev2 (z : Option PyData) (ρ : En) : Out Sr := match z with
  | some (.list ds) => .ok (.st true ds.reverse) ρ
  | _ => .bad
def kFRev (z : Out O) : Out Sr := z.bind fun o ρ1 => kFRev2 (frz o) ρ1
theorem x_frev {f : FE} : fRev f ρ = kFRev (f ρ) := by
  unfold fRev kFRev
  cases f ρ with
  | ok o ρ1 => show (match frz o with | some (.list ds) => Out.ok (Sr.st true ds.reverse) ρ1 | _ => .bad) = kFRev2 (frz o) ρ1; unfold kFRev2; rfl
  | _ => rfl
theorem x_frev1 : kFRev (.ok o ρ) = kFRev2 (frz o) ρ := rfl
theorem x_frev2 {ds : List PyData} : kFRev2 (some (.list ds)) ρ = .ok (.st true ds.reverse) ρ := rfl
def kClr (z : Option (Option O)) (i : Nat) (ρ : En) : SO := match z with
  | some (some (.lst _)) => .nx (ρ.set i (some (.lst [])))
  | _ => .bad
theorem x_clr : sClr i ρ = kClr ρ[i]? i ρ := by
  unfold sClr kClr
  cases ρ[i]? with
  | none => rfl
  | some y => cases y with
    | none => rfl
    | some o => cases o <;> rfl
theorem x_clr1 : kClr (some (some (.lst os))) i ρ = .nx (ρ.set i (some (.lst []))) := rfl
theorem x_emp : ([] : List PyData).isEmpty = true := rfl
theorem x_empS {ds : List PyData} : (d :: ds).isEmpty = false := rfl
end
end Ls

noncomputable section
namespace Lw
open PySem L2 Ls
def topS (i : Nat) : Stmt := PySem.Challenge.pw_lotspring_k09_solved_and_gone_through.main.body.getD i (.Pass ⟨0, 0, 0, 0⟩)
abbrev s__law_bag : Stmt := topS 29
abbrev N__law_bag : List Str := ["_law_script"]
abbrev s__law_pull : Stmt := topS 30
abbrev N__law_pull : List Str := ["_law_bag_here", "_law_many", "_law_cell", "_law_mixed", "_law_got"]
abbrev s__law_pick : Stmt := topS 31
abbrev N__law_pick : List Str := ["_law_bag_here", "_law_some"]
abbrev s__law_prime : Stmt := topS 34
abbrev N__law_prime : List Str := ["_law_bag_here"]
abbrev s__law_row : Stmt := topS 36
abbrev N__law_row : List Str := ["_law_bag_here", "_law_p", "_law_size", "_law_way", "_law_at", "_law_k"]
abbrev s__law_mix : Stmt := topS 38
abbrev N__law_mix : List Str := ["_law_p", "_law_rows_here", "_law_weights", "_law_size", "_law_found", "_law_at", "_law_k"]
abbrev s__law_rows : Stmt := topS 39
abbrev N__law_rows : List Str := ["_law_bag_here", "_law_p", "_law_size", "_law_most", "_law_found", "_law_k", "_law_way", "_law_weights", "_law_one"]
abbrev s__law_dot : Stmt := topS 37
abbrev N__law_dot : List Str := ["_law_p", "_law_row_here", "_law_seed", "_law_found", "_law_at"]
abbrev s_need_prime : Stmt := topS 13
abbrev N_need_prime : List Str := ["prime"]
abbrev s_is_whole : Stmt := topS 8
abbrev N_is_whole : List Str := ["thing"]
abbrev s_is_within : Stmt := topS 9
abbrev N_is_within : List Str := ["thing", "low", "high"]
abbrev s_is_row_of : Stmt := topS 20
abbrev N_is_row_of : List Str := ["prime", "row", "number"]
abbrev s_need_alike : Stmt := topS 21
abbrev N_need_alike : List Str := ["prime", "rows", "row"]
abbrev s_need_listed : Stmt := topS 22
abbrev N_need_listed : List Str := ["prime", "numbers", "many", "number"]
abbrev s_led_off : Stmt := topS 26
abbrev N_led_off : List Str := ["prime", "row", "worth", "steps", "left", "rest", "at", "step", "worth_there", "by", "one", "other"]
abbrev s_raised : Stmt := topS 15
abbrev N_raised : List Str := ["number", "many", "prime", "found", "by", "left"]
abbrev s_turned : Stmt := topS 14
abbrev N_turned : List Str := ["number", "prime"]
abbrev s_dot : Stmt := topS 23
abbrev N_dot : List Str := ["prime", "row", "seed", "one", "other"]
abbrev s_solve : Stmt := topS 25
abbrev N_solve : List Str := ["prime", "rows", "worths", "steps", "row", "worth", "left", "rest", "heads", "by", "seed", "at", "step", "number"]
abbrev s__law_same : Stmt := topS 32
abbrev N__law_same : List Str := ["_law_found", "_law_due", "_law_right", "_law_key", "_law_at"]
abbrev s__law_left : Stmt := topS 41
abbrev N__law_left : List Str := ["_law_p", "_law_steps", "_law_row_here", "_law_left_here", "_law_head", "_law_step", "_law_by", "_law_k"]
abbrev s__law_inverse : Stmt := topS 40
abbrev N__law_inverse : List Str := ["_law_p", "_law_number", "_law_k"]
abbrev s__law_stepped : Stmt := topS 42
abbrev N__law_stepped : List Str := ["_law_p", "_law_steps", "_law_row_here", "_law_left_here", "_law_heads", "_law_by", "_law_k", "_law_one"]
abbrev s__law_fresh : Stmt := topS 43
abbrev N__law_fresh : List Str := ["_law_p", "_law_rows_here", "_law_steps", "_law_found", "_law_at", "_law_later"]
abbrev s__law_worths_fit : Stmt := topS 45
abbrev N__law_worths_fit : List Str := ["_law_p", "_law_rows_here", "_law_worths", "_law_wide", "_law_row_here", "_law_worth"]
abbrev s_at_seed : Stmt := topS 24
abbrev N_at_seed : List Str := ["prime", "row", "seed"]
abbrev s__law_all_seeds : Stmt := topS 44
abbrev N__law_all_seeds : List Str := ["_law_p", "_law_size", "_law_found", "_law_k", "_law_later", "_law_seed", "_law_one"]
abbrev s__law_all_due : Stmt := topS 47
abbrev N__law_all_due : List Str := ["_law_p", "_law_size", "_law_many", "_law_k"]
abbrev s_raised_to : Stmt := topS 10
abbrev N_raised_to : List Str := ["number", "many", "found", "k"]
abbrev s_digits : Stmt := topS 16
abbrev N_digits : List Str := ["number", "many", "prime", "found", "left", "k"]
abbrev s_each_seed : Stmt := topS 27
abbrev N_each_seed : List Str := ["prime", "size", "many", "number"]
abbrev s__law_all_told : Stmt := topS 46
abbrev N__law_all_told : List Str := ["_law_p", "_law_size", "e"]
abbrev s__law_told_anew : Stmt := topS 48
abbrev N__law_told_anew : List Str := ["_law_p", "_law_held", "_law_k"]
abbrev s__law_strange_prime : Stmt := topS 35
abbrev N__law_strange_prime : List Str := ["_law_bag_here"]
abbrev s_law : Stmt := topS 49
abbrev N_law : List Str := ["_law_script", "_law_bag_here", "_law_p", "_law_size", "_law_rows_here", "_law_worths", "_law_seed", "_law_handed", "_law_found", "_law_row_here", "_law_one"]
def d_PRIMES : PyData := (.tuple [(.int 2), (.int 3), (.int 5), (.int 7), (.int 11), (.int 13), (.int 17), (.int 19), (.int 23), (.int 29), (.int 31)])
abbrev i_LotError : Stmt := clsS (topS 1) 0
abbrev Ni_LotError : List Str := ["self", "word"]
def mk_LotError : List V → Option (List (Str × V))
  | [w0] => some [("word", w0)]
  | _ => none
def mkD_LotError : List PyData → Option (List (Str × PyData))
  | [w0] => some [("word", w0)]
  | _ => none
theorem mkr_LotError {K : PySem.W.Frag} : MkR K mk_LotError mkD_LotError := by
  intro S vs ds fs h hm
  unfold mkD_LotError at hm
  split at hm
  · exact match vs, h with
      | [_], .cons h0 .nil => by cases hm; exact ⟨_, rfl, fr_look (.cons h0 (.nil))⟩
  · cases hm
abbrev i_BadRow : Stmt := clsS (topS 4) 0
abbrev Ni_BadRow : List Str := ["self"]
def mk_BadRow : List V → Option (List (Str × V))
  | [] => some [("word", .str "BadRow")]
  | _ => none
def mkD_BadRow : List PyData → Option (List (Str × PyData))
  | [] => some [("word", .str "BadRow")]
  | _ => none
theorem mkr_BadRow {K : PySem.W.Frag} : MkR K mk_BadRow mkD_BadRow := by
  intro S vs ds fs h hm
  unfold mkD_BadRow at hm
  split at hm
  · exact match vs, h with
      | [], .nil => by cases hm; exact ⟨_, rfl, fr_look (.cons (.str "BadRow") (.nil))⟩
  · cases hm
abbrev i_BadPrime : Stmt := clsS (topS 3) 0
abbrev Ni_BadPrime : List Str := ["self"]
def mk_BadPrime : List V → Option (List (Str × V))
  | [] => some [("word", .str "BadPrime")]
  | _ => none
def mkD_BadPrime : List PyData → Option (List (Str × PyData))
  | [] => some [("word", .str "BadPrime")]
  | _ => none
theorem mkr_BadPrime {K : PySem.W.Frag} : MkR K mk_BadPrime mkD_BadPrime := by
  intro S vs ds fs h hm
  unfold mkD_BadPrime at hm
  split at hm
  · exact match vs, h with
      | [], .nil => by cases hm; exact ⟨_, rfl, fr_look (.cons (.str "BadPrime") (.nil))⟩
  · cases hm
abbrev i_NoShare : Stmt := clsS (topS 6) 0
abbrev Ni_NoShare : List Str := ["self"]
def mk_NoShare : List V → Option (List (Str × V))
  | [] => some [("word", .str "NoShare")]
  | _ => none
def mkD_NoShare : List PyData → Option (List (Str × PyData))
  | [] => some [("word", .str "NoShare")]
  | _ => none
theorem mkr_NoShare {K : PySem.W.Frag} : MkR K mk_NoShare mkD_NoShare := by
  intro S vs ds fs h hm
  unfold mkD_NoShare at hm
  split at hm
  · exact match vs, h with
      | [], .nil => by cases hm; exact ⟨_, rfl, fr_look (.cons (.str "NoShare") (.nil))⟩
  · cases hm
abbrev i_BadNumber : Stmt := clsS (topS 2) 0
abbrev Ni_BadNumber : List Str := ["self"]
def mk_BadNumber : List V → Option (List (Str × V))
  | [] => some [("word", .str "BadNumber")]
  | _ => none
def mkD_BadNumber : List PyData → Option (List (Str × PyData))
  | [] => some [("word", .str "BadNumber")]
  | _ => none
theorem mkr_BadNumber {K : PySem.W.Frag} : MkR K mk_BadNumber mkD_BadNumber := by
  intro S vs ds fs h hm
  unfold mkD_BadNumber at hm
  split at hm
  · exact match vs, h with
      | [], .nil => by cases hm; exact ⟨_, rfl, fr_look (.cons (.str "BadNumber") (.nil))⟩
  · cases hm
abbrev i_TooWide : Stmt := clsS (topS 5) 0
abbrev Ni_TooWide : List Str := ["self", "ways"]
def mk_TooWide : List V → Option (List (Str × V))
  | [w0] => some [("ways", w0), ("word", .str "TooWide")]
  | _ => none
def mkD_TooWide : List PyData → Option (List (Str × PyData))
  | [w0] => some [("ways", w0), ("word", .str "TooWide")]
  | _ => none
theorem mkr_TooWide {K : PySem.W.Frag} : MkR K mk_TooWide mkD_TooWide := by
  intro S vs ds fs h hm
  unfold mkD_TooWide at hm
  split at hm
  · exact match vs, h with
      | [_], .cons h0 .nil => by cases hm; exact ⟨_, rfl, fr_look (.cons h0 (.cons (.str "TooWide") (.nil)))⟩
  · cases hm
def excL : List Str := ["LotError", "BadRow", "BadPrime", "NoShare", "BadNumber", "TooWide"]
def mtab_BadNumber : List (Str × Bool) := [("LotError", false), ("BadRow", false), ("BadPrime", false), ("NoShare", false), ("BadNumber", true), ("TooWide", false)]
def mtab_BadPrime : List (Str × Bool) := [("LotError", false), ("BadRow", false), ("BadPrime", true), ("NoShare", false), ("BadNumber", false), ("TooWide", false)]
def mtab_TooWide : List (Str × Bool) := [("LotError", false), ("BadRow", false), ("BadPrime", false), ("NoShare", false), ("BadNumber", false), ("TooWide", true)]
/-! ### worths -/
def w__law_bag : FS := (sRet (eLst (aCons (eZ (eList (pE (eSl (pVar 0) nNo (nE (pE (eC (.int 63)))))))) (aCons (eC (.int 0)) (aCons (eC (.int 0)) (aCons (eC (.int 1)) aNil))))))
def F__law_bag : List O → FO := runFn 1 [0] w__law_bag
def w__law_pull : FS := (sSeq (sIf (tAndF (tOf (eOp dEq (pE (eIx (pVar 0) (pE (eC (.int 2))))) (pE (eC (.int 0))))) (tOf (eOp dLt (pE (eIx (pVar 0) (pE (eC (.int 1))))) (pE (eB1 lenO (pE (eIx (pVar 0) (pE (eC (.int 0))))))))))
    (sSeq (sSet 2 (eIx (pE (eIx (pVar 0) (pE (eC (.int 0))))) (pE (eIx (pVar 0) (pE (eC (.int 1)))))))
    (sSeq (sIx 0 (pE (eC (.int 1))) (eOp dAdd (pE (eIx (pVar 0) (pE (eC (.int 1))))) (pE (eC (.int 1)))))
    (sIf (tOf (eOp dGe (pVar 2) (pE (eOp dPow (pE (eC (.int 10))) (pE (eC (.int 18)))))))
    (sIx 0 (pE (eC (.int 2))) (eVar 2))
    (sSeq (sSet 3 (eOp dAdd (pE (eOp dAdd (pE (eOp dMul (pE (eIx (pVar 0) (pE (eC (.int 3))))) (pE (eC (.int 48271))))) (pE (eOp dMul (pE (eOp dMod (pVar 2) (pE (eC (.int 2147483629))))) (pE (eC (.int 69621))))))) (pE (eC (.int 11)))))
    (sIx 0 (pE (eC (.int 3))) (eOp dMod (pVar 3) (pE (eC (.int 2147483647)))))))))
    sNil)
    (sSeq (sIf (tOf (eOp dGt (pE (eIx (pVar 0) (pE (eC (.int 2))))) (pE (eC (.int 0)))))
    (sSeq (sSet 4 (eOp dMod (pE (eIx (pVar 0) (pE (eC (.int 2))))) (pVar 1)))
    (sSeq (sIx 0 (pE (eC (.int 2))) (eOp dDiv (pE (eIx (pVar 0) (pE (eC (.int 2))))) (pVar 1)))
    (sRet (eLend 4))))
    sNil)
    (sSeq (sSet 3 (eOp dAdd (pE (eOp dMul (pE (eOp dMod (pE (eOp dMul (pE (eIx (pVar 0) (pE (eC (.int 3))))) (pE (eIx (pVar 0) (pE (eC (.int 3))))))) (pE (eC (.int 2147483587))))) (pE (eC (.int 16807))))) (pE (eOp dMul (pE (eIx (pVar 0) (pE (eC (.int 3))))) (pE (eC (.int 48271)))))))
    (sSeq (sIx 0 (pE (eC (.int 3))) (eOp dMod (pE (eOp dAdd (pVar 3) (pE (eC (.int 12345))))) (pE (eC (.int 2147483647)))))
    (sRet (eOp dMod (pE (eOp dAdd (pE (eOp dDiv (pE (eIx (pVar 0) (pE (eC (.int 3))))) (pE (eC (.int 64))))) (pE (eOp dMul (pE (eOp dMod (pE (eIx (pVar 0) (pE (eC (.int 3))))) (pE (eC (.int 4093))))) (pE (eC (.int 31))))))) (pVar 1)))))))
def F__law_pull : List O → FO := runFn 5 [0, 1] w__law_pull
def w__law_pick : FS := (sRet (eIx (pVar 1) (pE (eCall F__law_pull [some 0, none] [] (aCons (eLend 0) (aCons (eB1 lenO (pVar 1)) aNil))))))
def F__law_pick : List O → FO := runFn 2 [0, 1] w__law_pick
def w__law_prime : FS := (sRet (eCall F__law_pick [some 0, none] [] (aCons (eLend 0) (aCons (eLst (aCons (eC (.int 2)) (aCons (eC (.int 3)) (aCons (eC (.int 5)) (aCons (eC (.int 7)) (aCons (eC (.int 11)) (aCons (eC (.int 13)) (aCons (eC (.int 17)) (aCons (eC (.int 19)) (aCons (eC (.int 23)) (aCons (eC (.int 29)) (aCons (eC (.int 31)) aNil)))))))))))) aNil))))
def F__law_prime : List O → FO := runFn 1 [0] w__law_prime
def w__law_row : FS := (sSeq (sSet 3 (eCall F__law_pull [some 0, none] [] (aCons (eLend 0) (aCons (eC (.int 6)) aNil))))
    (sSeq (sIf (tOf (eOp dEq (pVar 3) (pE (eC (.int 0)))))
    (sRet (eRepT (pE (eTup (aCons (eC (.int 0)) aNil))) (pVar 2)))
    sNil)
    (sSeq (sIf (tOf (eOp dEq (pVar 3) (pE (eC (.int 1)))))
    (sSeq (sSet 4 (eCall F__law_pull [some 0, some 2] [] (aCons (eLend 0) (aCons (eLend 2) aNil))))
    (sRet (eTuple (pE (eComp (fRg1 (pVar 2)) (gfN 5) tYesF (eB1 intO (pE (eOp dEq (pVar 5) (pVar 4)))) [5])))))
    sNil)
    (sRet (eTuple (pE (eComp (fRg1 (pVar 2)) (gfN 5) tYesF (eZ (eCall F__law_pull [some 0, some 1] [] (aCons (eLend 0) (aCons (eLend 1) aNil)))) [5])))))))
def F__law_row : List O → FO := runFn 6 [0, 1, 2] w__law_row
def w__law_mix : FS := (sSeq (sSet 4 (eRep (pE (eLst (aCons (eC (.int 0)) aNil))) (pVar 3)))
    (sSeq (sFor [] (fRg1 (pE (eB1 lenO (pVar 1)))) (gfN 5)
    (sSet 4 (eComp (fRg1 (pVar 3)) (gfN 6) tYesF (eOp dMod (pE (eOp dAdd (pE (eIx (pVar 4) (pVar 6))) (pE (eOp dMul (pE (eIx (pVar 2) (pVar 5))) (pE (eIx (pE (eIx (pVar 1) (pVar 5))) (pVar 6))))))) (pVar 0)) [6])))
    (sRet (eTuple (pVar 4)))))
def F__law_mix : List O → FO := runFn 7 [0, 1, 2, 3] w__law_mix
def w__law_rows : FS := (sSeq (sSet 4 (eLst aNil))
    (sSeq (sFor [] (fRg1 (pE (eCall F__law_pull [some 0, none] [] (aCons (eLend 0) (aCons (eOp dAdd (pVar 3) (pE (eC (.int 1)))) aNil))))) (gfN 5)
    (sSeq (sSet 6 (eCall F__law_pull [some 0, none] [] (aCons (eLend 0) (aCons (eC (.int 4)) aNil))))
    (sIf (tAndF (tOf (eOp dEq (pVar 6) (pE (eC (.int 0))))) (tOf (eOp dNe (pVar 4) (pE (eLst aNil)))))
    (sSeq (sSet 7 (eComp (fSeq (pVar 4)) (gfN 8) tYesF (eZ (eCall F__law_pull [some 0, some 1] [] (aCons (eLend 0) (aCons (eLend 1) aNil)))) [8]))
    (sApp 4 (eZ (eCall F__law_mix [some 1, some 4, some 7, some 2] [] (aCons (eLend 1) (aCons (eLend 4) (aCons (eLend 7) (aCons (eLend 2) aNil))))))))
    (sIf (tAndF (tOf (eOp dEq (pVar 6) (pE (eC (.int 1))))) (tOf (eOp dNe (pVar 4) (pE (eLst aNil)))))
    (sApp 4 (eZ (eCall F__law_pick [some 0, some 4] [] (aCons (eLend 0) (aCons (eLend 4) aNil)))))
    (sApp 4 (eZ (eCall F__law_row [some 0, some 1, some 2] [] (aCons (eLend 0) (aCons (eLend 1) (aCons (eLend 2) aNil))))))))))
    (sRet (eLend 4))))
def F__law_rows : List O → FO := runFn 9 [0, 1, 2, 3] w__law_rows
def w__law_dot : FS := (sSeq (sSet 3 (eC (.int 0)))
    (sSeq (sFor [] (fRg1 (pE (eB1 lenO (pVar 1)))) (gfN 4)
    (sSet 3 (eOp dMod (pE (eOp dAdd (pVar 3) (pE (eOp dMul (pE (eIx (pVar 1) (pVar 4))) (pE (eIx (pVar 2) (pVar 4))))))) (pVar 0))))
    (sRet (eLend 3))))
def F__law_dot : List O → FO := runFn 5 [0, 1, 2] w__law_dot
def w_need_prime : FS := (sIf (tOf (eOp dNotIn (pVar 0) (pE (eC d_PRIMES))))
    (sRaise "BadPrime" mkD_BadPrime aNil)
    sNil)
def F_need_prime : List O → FO := runFn 1 [0] w_need_prime
def w_is_whole : FS := (sRet (eAnd (eIsi "int" (pVar 0)) (eNot (pE (eIsi "bool" (pVar 0))))))
def F_is_whole : List O → FO := runFn 1 [0] w_is_whole
def w_is_within : FS := (sRet (eAnd (eCall F_is_whole [some 0] [] (aCons (eLend 0) aNil)) (eChain dLe dLe (pVar 1) (pVar 0) (pVar 2))))
def F_is_within : List O → FO := runFn 3 [0, 1, 2] w_is_within
def w_is_row_of : FS := (sSeq (sIf (tOrF (tNotF (tOf (eIsi "tuple" (pVar 1)))) (tNotF (tOf (eChain dLe dLe (pE (eC (.int 1))) (pE (eB1 lenO (pVar 1))) (pE (eC (.int 12)))))))
    (sRet (eC (.bool false)))
    sNil)
    (sRet (eB1 allO (pE (eComp (fSeq (pVar 1)) (gfN 2) tYesF (eZ (eCall F_is_within [some 2, none, none] [] (aCons (eLend 2) (aCons (eC (.int 0)) (aCons (eOp dSub (pVar 0) (pE (eC (.int 1)))) aNil))))) [2])))))
def F_is_row_of : List O → FO := runFn 3 [0, 1] w_is_row_of
def w_need_alike : FS := (sSeq (sDrop (eCall F_need_prime [some 0] [] (aCons (eLend 0) aNil)))
    (sFor [1] (fSeq (pVar 1)) (gfN 2)
    (sIf (tOrF (tNotF (tOf (eCall F_is_row_of [some 0, some 2] [] (aCons (eLend 0) (aCons (eLend 2) aNil))))) (tOf (eOp dNe (pE (eB1 lenO (pVar 2))) (pE (eB1 lenO (pE (eIx (pVar 1) (pE (eC (.int 0))))))))))
    (sRaise "BadRow" mkD_BadRow aNil)
    sNil)))
def F_need_alike : List O → FO := runFn 3 [0, 1] w_need_alike
def w_need_listed : FS := (sSeq (sIf (tOrF (tNotF (tOf (eIsi "list" (pVar 1)))) (tOf (eOp dNe (pE (eB1 lenO (pVar 1))) (pVar 2))))
    (sRaise "BadRow" mkD_BadRow aNil)
    sNil)
    (sIf (tNotF (tOf (eB1 allO (pE (eComp (fSeq (pVar 1)) (gfN 3) tYesF (eZ (eCall F_is_within [some 3, none, none] [] (aCons (eLend 3) (aCons (eC (.int 0)) (aCons (eOp dSub (pVar 0) (pE (eC (.int 1)))) aNil))))) [3])))))
    (sRaise "BadRow" mkD_BadRow aNil)
    sNil))
def F_need_listed : List O → FO := runFn 4 [0, 1, 2] w_need_listed
def w_led_off : FS := (sSeq (sSet 4 (eList (pVar 1)))
    (sSeq (sSet 5 (eVar 2))
    (sSeq (sFor [3] (fSeq (pVar 3)) (gfT 3 (gsC (gfN 6) (gsC (gfN 7) (gsC (gfN 8) gsN))))
    (sSeq (sSet 9 (eIx (pVar 4) (pVar 6)))
    (sSeq (sSet 4 (eComp (fZip (pVar 4) (pVar 7)) (gfT 2 (gsC (gfN 10) (gsC (gfN 11) gsN))) tYesF (eOp dMod (pE (eOp dSub (pVar 10) (pE (eOp dMul (pVar 9) (pVar 11))))) (pVar 0)) [10, 11]))
    (sSet 5 (eOp dMod (pE (eOp dSub (pVar 5) (pE (eOp dMul (pVar 9) (pVar 8))))) (pVar 0))))))
    (sRet (eTup (aCons (eVar 4) (aCons (eVar 5) aNil)))))))
def F_led_off : List O → FO := runFn 12 [0, 1, 2, 3] w_led_off
def w_raised : FS := (sSeq (sDrop (eCall F_need_prime [some 2] [] (aCons (eLend 2) aNil)))
    (sSeq (sSet 3 (eC (.int 1)))
    (sSeq (sSet 4 (eOp dMod (pVar 0) (pVar 2)))
    (sSeq (sSet 5 (eVar 1))
    (sSeq (sWh (tOf (eOp dGt (pVar 5) (pE (eC (.int 0)))))
    (sSeq (sIf (tOf (eOp dEq (pE (eOp dMod (pVar 5) (pE (eC (.int 2))))) (pE (eC (.int 1)))))
    (sSet 3 (eOp dMod (pE (eOp dMul (pVar 3) (pVar 4))) (pVar 2)))
    sNil)
    (sSeq (sSet 4 (eOp dMod (pE (eOp dMul (pVar 4) (pVar 4))) (pVar 2)))
    (sAug 5 dDiv (pE (eC (.int 2)))))))
    (sRet (eLend 3)))))))
def F_raised : List O → FO := runFn 6 [0, 1, 2] w_raised
def w_turned : FS := (sSeq (sDrop (eCall F_need_prime [some 1] [] (aCons (eLend 1) aNil)))
    (sSeq (sIf (tOf (eOp dEq (pE (eOp dMod (pVar 0) (pVar 1))) (pE (eC (.int 0)))))
    (sRaise "NoShare" mkD_NoShare aNil)
    sNil)
    (sRet (eCall F_raised ([some 0, none] ++ [some 1]) [] (aApp (aCons (eLend 0) (aCons (eOp dSub (pVar 1) (pE (eC (.int 2)))) aNil)) (aCons (eLend 1) aNil))))))
def F_turned : List O → FO := runFn 2 [0, 1] w_turned
def w_dot : FS := (sRet (eOp dMod (pE (eB1 sumO (pE (eComp (fZip (pVar 1) (pVar 2)) (gfT 2 (gsC (gfN 3) (gsC (gfN 4) gsN))) tYesF (eOp dMul (pVar 3) (pVar 4)) [3, 4])))) (pVar 0)))
def F_dot : List O → FO := runFn 5 [0, 1, 2] w_dot
def w_solve : FS := (sSeq (sDrop (eCall F_need_alike [some 0, some 1] [] (aCons (eLend 0) (aCons (eLend 1) aNil))))
    (sSeq (sDrop (eCall F_need_listed [some 0, some 2, none] [] (aCons (eLend 0) (aCons (eLend 2) (aCons (eB1 lenO (pVar 1)) aNil)))))
    (sSeq (sSet 3 (eLst aNil))
    (sSeq (sFor [1, 2] (fZip (pVar 1) (pVar 2)) (gfT 2 (gsC (gfN 4) (gsC (gfN 5) gsN)))
    (sSeq (sAsg (gfT 2 (gsC (gfN 6) (gsC (gfN 7) gsN))) (eCall F_led_off [some 0, some 4, some 5, some 3] [] (aCons (eLend 0) (aCons (eLend 4) (aCons (eLend 5) (aCons (eLend 3) aNil))))))
    (sSeq (sSet 8 (eComp (fEn (pVar 6)) (gfT 2 (gsC (gfN 11) (gsC (gfN 13) gsN))) (tTru (pVar 13)) (eVar 11) [11, 13]))
    (sIf (tTru (pVar 8))
    (sSeq (sSet 9 (eCall F_turned [none, some 0] [] (aCons (eIx (pVar 6) (pE (eIx (pVar 8) (pE (eC (.int 0)))))) (aCons (eLend 0) aNil))))
    (sApp 3 (eTup (aCons (eIx (pVar 8) (pE (eC (.int 0)))) (aCons (eZ (eComp (fSeq (pVar 6)) (gfN 13) tYesF (eOp dMod (pE (eOp dMul (pVar 13) (pVar 9))) (pVar 0)) [13])) (aCons (eOp dMod (pE (eOp dMul (pVar 7) (pVar 9))) (pVar 0)) aNil))))))
    (sIf (tTru (pVar 7))
    (sRet (eC .none))
    sNil)))))
    (sSeq (sSet 10 (eRep (pE (eLst (aCons (eC (.int 0)) aNil))) (pE (eB1 lenO (pE (eIx (pVar 1) (pE (eC (.int 0)))))))))
    (sSeq (sFor [] (fRev (eVar 3)) (gfT 3 (gsC (gfN 11) (gsC (gfN 12) (gsC (gfN 7) gsN))))
    (sIx 10 (pVar 11) (eOp dMod (pE (eOp dSub (pVar 7) (pE (eCall F_dot [some 0, some 12, some 10] [] (aCons (eLend 0) (aCons (eLend 12) (aCons (eLend 10) aNil))))))) (pVar 0))))
    (sRet (eTuple (pVar 10)))))))))
def F_solve : List O → FO := runFn 14 [0, 1, 2] w_solve
def w__law_same (Fs : List O → FO) : FS := (sSeq (sIf (tOf (eIsi "dict" (pVar 1)))
    (fun _ => .bad)
    sNil)
    (sSeq (sIf (tOrF (tOf (eIsi "list" (pVar 1))) (tOf (eIsi "tuple" (pVar 1))))
    (sSeq (sIf (tAndF (tNotF (tOf (eIsi "list" (pVar 0)))) (tNotF (tOf (eIsi "tuple" (pVar 0)))))
    (sRet (eC (.bool false)))
    sNil)
    (sSeq (sIf (tOf (eOp dNe (pE (eIsi "list" (pVar 1))) (pE (eIsi "list" (pVar 0)))))
    (sRet (eC (.bool false)))
    sNil)
    (sSeq (sIf (tOf (eOp dNe (pE (eB1 lenO (pVar 0))) (pE (eB1 lenO (pVar 1)))))
    (sRet (eC (.bool false)))
    sNil)
    (sRet (eB1 allO (pE (eComp (fRg1 (pE (eB1 lenO (pVar 1)))) (gfN 4) tYesF (eZ (eCall Fs [none, none] [] (aCons (eIx (pVar 0) (pVar 4)) (aCons (eIx (pVar 1) (pVar 4)) aNil)))) [4])))))))
    sNil)
    (sSeq (sIf (tOf (eOp dIs (pVar 1) (pE (eC .none))))
    (sRet (eOp dIs (pVar 0) (pE (eC .none))))
    sNil)
    (sSeq (sIf (tOf (eOp dNe (pE (eIsi "bool" (pVar 1))) (pE (eIsi "bool" (pVar 0)))))
    (sRet (eC (.bool false)))
    sNil)
    (sRet (eAnd (eOp dEq (pE (eIsi "int" (pVar 0))) (pE (eIsi "int" (pVar 1)))) (eOp dEq (pVar 0) (pVar 1))))))))
def F__law_same : Nat → List O → FO
  | 0 => fun _ => .bad
  | n + 1 => runFn 5 [0, 1] (w__law_same (F__law_same n))
def w__law_left : FS := (sSeq (sSet 3 (eList (pVar 2)))
    (sSeq (sFor [1] (fSeq (pVar 1)) (gfT 2 (gsC (gfN 4) (gsC (gfN 5) gsN)))
    (sSeq (sSet 6 (eIx (pVar 3) (pVar 4)))
    (sSet 3 (eComp (fRg1 (pE (eB1 lenO (pVar 3)))) (gfN 7) tYesF (eOp dMod (pE (eOp dSub (pE (eIx (pVar 3) (pVar 7))) (pE (eOp dMul (pVar 6) (pE (eIx (pVar 5) (pVar 7))))))) (pVar 0)) [7]))))
    (sRet (eLend 3))))
def F__law_left : List O → FO := runFn 8 [0, 1, 2] w__law_left
def w__law_inverse : FS := (sSeq (sFor [] (fRg2 (pE (eC (.int 1))) (pVar 0)) (gfN 2)
    (sIf (tOf (eOp dEq (pE (eOp dMod (pE (eOp dMul (pVar 2) (pVar 1))) (pVar 0))) (pE (eC (.int 1)))))
    (sRet (eLend 2))
    sNil))
    (sRet (eC (.int 0))))
def F__law_inverse : List O → FO := runFn 3 [0, 1] w__law_inverse
def w__law_stepped : FS := (sSeq (sSet 3 (eCall F__law_left [some 0, some 1, some 2] [] (aCons (eLend 0) (aCons (eLend 1) (aCons (eLend 2) aNil)))))
    (sSeq (sSet 4 (eComp (fRg1 (pE (eB1 lenO (pVar 3)))) (gfN 6) (tOf (eOp dNe (pE (eIx (pVar 3) (pVar 6))) (pE (eC (.int 0))))) (eVar 6) [6]))
    (sSeq (sIf (tOf (eOp dEq (pVar 4) (pE (eLst aNil))))
    (sRet (eVar 1))
    sNil)
    (sSeq (sSet 5 (eCall F__law_inverse [some 0, none] [] (aCons (eLend 0) (aCons (eIx (pVar 3) (pE (eIx (pVar 4) (pE (eC (.int 0)))))) aNil))))
    (sRet (eCat (pVar 1) (pE (eLst (aCons (eTup (aCons (eIx (pVar 4) (pE (eC (.int 0)))) (aCons (eZ (eComp (fSeq (pVar 3)) (gfN 7) tYesF (eOp dMod (pE (eOp dMul (pVar 7) (pVar 5))) (pVar 0)) [7])) aNil))) aNil)))))))))
def F__law_stepped : List O → FO := runFn 8 [0, 1, 2] w__law_stepped
def w__law_fresh : FS := (sSeq (sSet 2 (eLst aNil))
    (sSeq (sSet 3 (eLst aNil))
    (sSeq (sFor [] (fRg1 (pE (eB1 lenO (pVar 1)))) (gfN 4)
    (sSeq (sSet 5 (eCall F__law_stepped [some 0, some 2, none] [] (aCons (eLend 0) (aCons (eLend 2) (aCons (eIx (pVar 1) (pVar 4)) aNil)))))
    (sSeq (sIf (tOf (eOp dGt (pE (eB1 lenO (pVar 5))) (pE (eB1 lenO (pVar 2)))))
    (sApp 3 (eVar 4))
    sNil)
    (sSet 2 (eVar 5)))))
    (sRet (eLend 3)))))
def F__law_fresh : List O → FO := runFn 6 [0, 1] w__law_fresh
def w__law_worths_fit : FS := (sSeq (sSet 3 (eComp (fZip (pVar 1) (pVar 2)) (gfT 2 (gsC (gfN 4) (gsC (gfN 5) gsN))) tYesF (eZ (eCatT (pVar 4) (pE (eTup (aCons (eVar 5) aNil))))) [4, 5]))
    (sRet (eOp dEq (pE (eB1 lenO (pE (eCall F__law_fresh [some 0, some 3] [] (aCons (eLend 0) (aCons (eLend 3) aNil)))))) (pE (eB1 lenO (pE (eCall F__law_fresh [some 0, some 1] [] (aCons (eLend 0) (aCons (eLend 1) aNil)))))))))
def F__law_worths_fit : List O → FO := runFn 6 [0, 1, 2] w__law_worths_fit
def w_at_seed : FS := (sSeq (sDrop (eCall F_need_alike [some 0, none] [] (aCons (eLend 0) (aCons (eLst (aCons (eVar 1) (aCons (eVar 2) aNil))) aNil))))
    (sRet (eCall F_dot [some 0, some 1, some 2] [] (aCons (eLend 0) (aCons (eLend 1) (aCons (eLend 2) aNil))))))
def F_at_seed : List O → FO := runFn 3 [0, 1, 2] w_at_seed
def w__law_all_seeds : FS := (sSeq (sSet 2 (eLst (aCons (eTup aNil) aNil)))
    (sSeq (sFor [] (fRg1 (pVar 1)) (gfN 3)
    (sSeq (sSet 4 (eLst aNil))
    (sSeq (sFor [2] (fSeq (pVar 2)) (gfN 5)
    (sSet 4 (eCat (pVar 4) (pE (eComp (fRg1 (pVar 0)) (gfN 6) tYesF (eZ (eCatT (pVar 5) (pE (eTup (aCons (eVar 6) aNil))))) [6])))))
    (sSet 2 (eVar 4)))))
    (sRet (eLend 2))))
def F__law_all_seeds : List O → FO := runFn 7 [0, 1] w__law_all_seeds
def w__law_all_due : FS := (sSeq (sIf (tNotF (tOf (eChain dLe dLe (pE (eC (.int 1))) (pVar 1) (pE (eC (.int 12))))))
    (sRet (eC (.str "BadNumber")))
    sNil)
    (sSeq (sSet 2 (eC (.int 1)))
    (sSeq (sFor [] (fRg1 (pVar 1)) (gfN 3)
    (sSet 2 (eOp dMul (pVar 2) (pVar 0))))
    (sRet (eIf (tOf (eOp dGt (pVar 2) (pE (eC (.int 4096))))) (eTup (aCons (eC (.str "TooWide")) (aCons (eVar 2) aNil))) (eCall F__law_all_seeds [some 0, some 1] [] (aCons (eLend 0) (aCons (eLend 1) aNil))))))))
def F__law_all_due : List O → FO := runFn 4 [0, 1] w__law_all_due
def w_raised_to : FS := (sSeq (sSet 2 (eC (.int 1)))
    (sSeq (sFor [] (fRg1 (pVar 1)) (gfN 3)
    (sAug 2 dMul (pVar 0)))
    (sRet (eLend 2))))
def F_raised_to : List O → FO := runFn 4 [0, 1] w_raised_to
def w_digits : FS := (sSeq (sDrop (eCall F_need_prime [some 2] [] (aCons (eLend 2) aNil)))
    (sSeq (sSet 3 (eLst aNil))
    (sSeq (sSet 4 (eVar 0))
    (sSeq (sFor [] (fRg1 (pVar 1)) (gfN 5)
    (sSeq (sApp 3 (eOp dMod (pVar 4) (pVar 2)))
    (sAug 4 dDiv (pVar 2))))
    (sSeq (sIf (tOrF (tOf (eOp dLt (pVar 0) (pE (eC (.int 0))))) (tOf (eOp dGt (pVar 4) (pE (eC (.int 0))))))
    (sRaise "BadNumber" mkD_BadNumber aNil)
    sNil)
    (sRet (eRev (pVar 3))))))))
def F_digits : List O → FO := runFn 6 [0, 1, 2] w_digits
def w_each_seed : FS := (sSeq (sDrop (eCall F_need_prime [some 0] [] (aCons (eLend 0) aNil)))
    (sSeq (sIf (tNotF (tOf (eCall F_is_within [some 1, none, none] [] (aCons (eLend 1) (aCons (eC (.int 1)) (aCons (eC (.int 12)) aNil))))))
    (sRaise "BadNumber" mkD_BadNumber aNil)
    sNil)
    (sSeq (sSet 2 (eCall F_raised_to [some 0, some 1] [] (aCons (eLend 0) (aCons (eLend 1) aNil))))
    (sSeq (sIf (tOf (eOp dGt (pVar 2) (pE (eC (.int 4096)))))
    (sRaise "TooWide" mkD_TooWide (aCons (eVar 2) aNil))
    sNil)
    (sRet (eComp (fRg1 (pVar 2)) (gfN 3) tYesF (eTuple (pE (eCall F_digits ([some 3, some 1] ++ [some 0]) [] (aApp (aCons (eLend 3) (aCons (eLend 1) aNil)) (aCons (eLend 0) aNil))))) [3]))))))
def F_each_seed : List O → FO := runFn 4 [0, 1] w_each_seed
def w__law_all_told : FS := (sTry (sRet (eCall F_each_seed [some 0, some 1] [] (aCons (eLend 0) (aCons (eLend 1) aNil))))
    [⟨fun n => mtab_TooWide.lookup n, some 2, fun a cls d => (sRet (eTup (aCons (eC (.str "TooWide")) (aCons (eZ (eXf (fun n => excL.contains n) a cls d 2 "ways")) aNil))))⟩,
    ⟨fun n => mtab_BadNumber.lookup n, some 2, fun a cls d => (sRet (eXf (fun n => excL.contains n) a cls d 2 "word"))⟩,
    ⟨fun n => mtab_BadPrime.lookup n, some 2, fun a cls d => (sRet (eXf (fun n => excL.contains n) a cls d 2 "word"))⟩])
def F__law_all_told : List O → FO := runFn 3 [0, 1] w__law_all_told
def w__law_told_anew : FS := (sSeq (sSet 1 (eCall F_each_seed [some 0, none] [] (aCons (eLend 0) (aCons (eC (.int 1)) aNil))))
    (sSeq (sApp 1 (eC (.int 0)))
    (sSeq (sClr 1)
    (sRet (eCall (F__law_same 4) [none, none] [] (aCons (eLst (aCons (eZ (eCall F_each_seed [some 0, none] [] (aCons (eLend 0) (aCons (eC (.int 1)) aNil)))) (aCons (eZ (eCall F__law_all_told [some 0, none] [] (aCons (eLend 0) (aCons (eC (.bool true)) aNil)))) aNil))) (aCons (eLst (aCons (eZ (eComp (fRg1 (pVar 0)) (gfN 2) tYesF (eTup (aCons (eVar 2) aNil)) [2])) (aCons (eC (.str "BadNumber")) aNil))) aNil)))))))
def F__law_told_anew : List O → FO := runFn 3 [0] w__law_told_anew
def w__law_strange_prime : FS := (sRet (eCall F__law_pick [some 0, none] [] (aLate 0 (aCons (eLst (aCons (eC (.int 0)) (aCons (eC (.int 1)) (aCons (eC (.int 4)) (aCons (eC (.int 6)) (aCons (eC (.int 9)) (aCons (eC (.int 25)) (aCons (eC (.int 37)) (aCons (eC (.int 41)) (aCons (eNeg (pE (eC (.int 7)))) (aCons (eNeg (pE (eC (.int 2)))) (aCons (eC (.int 33)) (aCons (eOp dAdd (pE (eC (.int 2))) (pE (eOp dMul (pE (eC (.int 30))) (pE (eOp dAdd (pE (eC (.int 2))) (pE (eCall F__law_pull [some 0, none] [] (aCons (eLend 0) (aCons (eOp dPow (pE (eC (.int 10))) (pE (eC (.int 9)))) aNil))))))))) aNil))))))))))))) aNil))))
def F__law_strange_prime : List O → FO := runFn 1 [0] w__law_strange_prime
def w_law : FS := (sSeq (sSet 1 (eCall F__law_bag [some 0] [] (aCons (eLend 0) aNil)))
    (sSeq (sSet 2 (eCall F__law_prime [some 1] [] (aCons (eLend 1) aNil)))
    (sSeq (sSet 3 (eOp dAdd (pE (eC (.int 1))) (pE (eCall F__law_pull [some 1, none] [] (aCons (eLend 1) (aCons (eC (.int 11)) aNil))))))
    (sSeq (sSet 4 (eCat (pE (eLst (aCons (eZ (eCall F__law_row [some 1, some 2, some 3] [] (aCons (eLend 1) (aCons (eLend 2) (aCons (eLend 3) aNil))))) aNil))) (pE (eCall F__law_rows [some 1, some 2, some 3, none] [] (aCons (eLend 1) (aCons (eLend 2) (aCons (eLend 3) (aCons (eC (.int 13)) aNil))))))))
    (sSeq (sSet 5 (eComp (fSeq (pVar 4)) (gfN 9) tYesF (eZ (eCall F__law_pull [some 1, some 2] [] (aCons (eLend 1) (aCons (eLend 2) aNil)))) [9]))
    (sSeq (sIf (tOf (eOp dEq (pE (eCall F__law_pull [some 1, none] [] (aCons (eLend 1) (aCons (eC (.int 2)) aNil)))) (pE (eC (.int 0)))))
    (sSeq (sSet 6 (eCall F__law_row [some 1, some 2, some 3] [] (aCons (eLend 1) (aCons (eLend 2) (aCons (eLend 3) aNil)))))
    (sSet 5 (eComp (fSeq (pVar 4)) (gfN 9) tYesF (eZ (eCall F__law_dot [some 2, some 9, some 6] [] (aCons (eLend 2) (aCons (eLend 9) (aCons (eLend 6) aNil))))) [9])))
    sNil)
    (sSeq (sSet 7 (eLst (aCons (eZ (eList (pVar 4))) (aCons (eZ (eList (pVar 5))) aNil))))
    (sSeq (sSet 8 (eCall F_solve [some 2, none, none] [] (aCons (eLend 2) (aCons (eIx (pVar 7) (pE (eC (.int 0)))) (aCons (eIx (pVar 7) (pE (eC (.int 1)))) aNil)))))
    (sSeq (sIf (tNotF (tOf (eCall (F__law_same 4) [some 7, none] [] (aCons (eLend 7) (aCons (eLst (aCons (eVar 4) (aCons (eVar 5) aNil))) aNil)))))
    (sRet (eC (.bool false)))
    sNil)
    (sSeq (sIf (tNotF (tOf (eCall F__law_worths_fit [some 2, some 4, some 5] [] (aCons (eLend 2) (aCons (eLend 4) (aCons (eLend 5) aNil))))))
    (sIf (tOf (eOp dIsNot (pVar 8) (pE (eC .none))))
    (sRet (eC (.bool false)))
    sNil)
    (sSeq (sIf (tOrF (tNotF (tOf (eIsi "tuple" (pVar 8)))) (tOf (eOp dNe (pE (eB1 lenO (pVar 8))) (pVar 3))))
    (sRet (eC (.bool false)))
    sNil)
    (sSeq (sIf (tOf (eB1 anyO (pE (eComp (fSeq (pVar 8)) (gfN 10) tYesF (eNot (pE (eChain dLe dLt (pE (eC (.int 0))) (pVar 10) (pVar 2)))) [10]))))
    (sRet (eC (.bool false)))
    sNil)
    (sSeq (sIf (tNotF (tOf (eCall (F__law_same 4) [none, some 5] [] (aCons (eComp (fSeq (pVar 4)) (gfN 9) tYesF (eZ (eCall F_at_seed [some 2, some 9, some 8] [] (aCons (eLend 2) (aCons (eLend 9) (aCons (eLend 8) aNil))))) [9]) (aCons (eLend 5) aNil)))))
    (sRet (eC (.bool false)))
    sNil)
    (sIf (tOf (eOp dNe (pE (eComp (fSeq (pVar 4)) (gfN 9) tYesF (eZ (eCall F__law_dot [some 2, some 9, some 8] [] (aCons (eLend 2) (aCons (eLend 9) (aCons (eLend 8) aNil))))) [9])) (pVar 5)))
    (sRet (eC (.bool false)))
    sNil)))))
    (sSeq (sSet 2 (eCall F__law_pick [some 1, none] [] (aCons (eLend 1) (aCons (eLst (aCons (eC (.int 2)) (aCons (eC (.int 3)) (aCons (eC (.int 5)) (aCons (eC (.int 7)) (aCons (eC (.int 13)) (aCons (eC (.int 31)) aNil))))))) aNil))))
    (sSeq (sSet 3 (eIx (pE (eLst (aCons (eZ (eCall F__law_pull [some 1, none] [] (aCons (eLend 1) (aCons (eC (.int 14)) aNil)))) (aCons (eOp dAdd (pE (eC (.int 1))) (pE (eCall F__law_pull [some 1, none] [] (aCons (eLend 1) (aCons (eC (.int 4)) aNil))))) aNil)))) (pE (eCall F__law_pull [some 1, none] [] (aCons (eLend 1) (aCons (eC (.int 2)) aNil))))))
    (sSeq (sIf (tOf (eOp dEq (pE (eCall F__law_pull [some 1, none] [] (aCons (eLend 1) (aCons (eC (.int 6)) aNil)))) (pE (eC (.int 0)))))
    (sAsg (gfT 2 (gsC (gfN 2) (gsC (gfN 3) gsN))) (eCall F__law_pick [some 1, none] [] (aCons (eLend 1) (aCons (eLst (aCons (eTup (aCons (eC (.int 2)) (aCons (eC (.int 12)) aNil))) (aCons (eTup (aCons (eC (.int 2)) (aCons (eC (.int 12)) aNil))) (aCons (eTup (aCons (eC (.int 3)) (aCons (eC (.int 7)) aNil))) (aCons (eTup (aCons (eC (.int 3)) (aCons (eC (.int 8)) aNil))) (aCons (eTup (aCons (eC (.int 5)) (aCons (eC (.int 6)) aNil))) (aCons (eTup (aCons (eC (.int 7)) (aCons (eC (.int 4)) aNil))) aNil))))))) aNil))))
    sNil)
    (sSeq (sIf (tOrF (tNotF (tOf (eCall (F__law_same 4) [none, none] [] (aCons (eCall F__law_all_told [some 2, some 3] [] (aCons (eLend 2) (aCons (eLend 3) aNil))) (aCons (eCall F__law_all_due [some 2, some 3] [] (aCons (eLend 2) (aCons (eLend 3) aNil))) aNil))))) (tNotF (tOf (eCall F__law_told_anew [some 2] [] (aCons (eLend 2) aNil)))))
    (sRet (eC (.bool false)))
    sNil)
    (sRet (eCall (F__law_same 4) [none, none] [] (aCons (eCall F__law_all_told [none, none] [] (aCons (eCall F__law_strange_prime [some 1] [] (aCons (eLend 1) aNil)) (aCons (eC (.int 99)) aNil))) (aCons (eC (.str "BadPrime")) aNil))))))))))))))))))
def F_law : List O → FO := runFn 11 [0] w_law
/-! ### what the top has left -/
structure Tx (K : PySem.W.Frag) (mg : Str → Option Value) where
  fd__law_bag : FuncData
  fd__law_pull : FuncData
  fd__law_pick : FuncData
  fd__law_prime : FuncData
  fd__law_row : FuncData
  fd__law_mix : FuncData
  fd__law_rows : FuncData
  fd__law_dot : FuncData
  fd_need_prime : FuncData
  fd_is_whole : FuncData
  fd_is_within : FuncData
  fd_is_row_of : FuncData
  fd_need_alike : FuncData
  fd_need_listed : FuncData
  fd_led_off : FuncData
  fd_raised : FuncData
  fd_turned : FuncData
  fd_dot : FuncData
  fd_solve : FuncData
  fd__law_same : FuncData
  fd__law_left : FuncData
  fd__law_inverse : FuncData
  fd__law_stepped : FuncData
  fd__law_fresh : FuncData
  fd__law_worths_fit : FuncData
  fd_at_seed : FuncData
  fd__law_all_seeds : FuncData
  fd__law_all_due : FuncData
  fd_raised_to : FuncData
  fd_digits : FuncData
  fd_each_seed : FuncData
  fd__law_all_told : FuncData
  fd__law_told_anew : FuncData
  fd__law_strange_prime : FuncData
  fd_law : FuncData
  fi_LotError : FuncData
  fi_BadRow : FuncData
  fi_BadPrime : FuncData
  fi_NoShare : FuncData
  fi_BadNumber : FuncData
  fi_TooWide : FuncData
  f__law_bag : FunD K "_law_bag" "_law_bag" (defArgs s__law_bag) (defBody s__law_bag) (defScope s__law_bag) [] [] (He.ga K "_law_bag") fd__law_bag
  m__law_bag : mg "_law_bag" = some (.ref (He.ga K "_law_bag"))
  f__law_pull : FunD K "_law_pull" "_law_pull" (defArgs s__law_pull) (defBody s__law_pull) (defScope s__law_pull) [] [] (He.ga K "_law_pull") fd__law_pull
  m__law_pull : mg "_law_pull" = some (.ref (He.ga K "_law_pull"))
  f__law_pick : FunD K "_law_pick" "_law_pick" (defArgs s__law_pick) (defBody s__law_pick) (defScope s__law_pick) [] [] (He.ga K "_law_pick") fd__law_pick
  m__law_pick : mg "_law_pick" = some (.ref (He.ga K "_law_pick"))
  f__law_prime : FunD K "_law_prime" "_law_prime" (defArgs s__law_prime) (defBody s__law_prime) (defScope s__law_prime) [] [] (He.ga K "_law_prime") fd__law_prime
  m__law_prime : mg "_law_prime" = some (.ref (He.ga K "_law_prime"))
  f__law_row : FunD K "_law_row" "_law_row" (defArgs s__law_row) (defBody s__law_row) (defScope s__law_row) [] [] (He.ga K "_law_row") fd__law_row
  m__law_row : mg "_law_row" = some (.ref (He.ga K "_law_row"))
  f__law_mix : FunD K "_law_mix" "_law_mix" (defArgs s__law_mix) (defBody s__law_mix) (defScope s__law_mix) [] [] (He.ga K "_law_mix") fd__law_mix
  m__law_mix : mg "_law_mix" = some (.ref (He.ga K "_law_mix"))
  f__law_rows : FunD K "_law_rows" "_law_rows" (defArgs s__law_rows) (defBody s__law_rows) (defScope s__law_rows) [] [] (He.ga K "_law_rows") fd__law_rows
  m__law_rows : mg "_law_rows" = some (.ref (He.ga K "_law_rows"))
  f__law_dot : FunD K "_law_dot" "_law_dot" (defArgs s__law_dot) (defBody s__law_dot) (defScope s__law_dot) [] [] (He.ga K "_law_dot") fd__law_dot
  m__law_dot : mg "_law_dot" = some (.ref (He.ga K "_law_dot"))
  f_need_prime : FunD K "need_prime" "need_prime" (defArgs s_need_prime) (defBody s_need_prime) (defScope s_need_prime) [] [] (He.ga K "need_prime") fd_need_prime
  m_need_prime : mg "need_prime" = some (.ref (He.ga K "need_prime"))
  f_is_whole : FunD K "is_whole" "is_whole" (defArgs s_is_whole) (defBody s_is_whole) (defScope s_is_whole) [] [] (He.ga K "is_whole") fd_is_whole
  m_is_whole : mg "is_whole" = some (.ref (He.ga K "is_whole"))
  f_is_within : FunD K "is_within" "is_within" (defArgs s_is_within) (defBody s_is_within) (defScope s_is_within) [] [] (He.ga K "is_within") fd_is_within
  m_is_within : mg "is_within" = some (.ref (He.ga K "is_within"))
  f_is_row_of : FunD K "is_row_of" "is_row_of" (defArgs s_is_row_of) (defBody s_is_row_of) (defScope s_is_row_of) [] [] (He.ga K "is_row_of") fd_is_row_of
  m_is_row_of : mg "is_row_of" = some (.ref (He.ga K "is_row_of"))
  f_need_alike : FunD K "need_alike" "need_alike" (defArgs s_need_alike) (defBody s_need_alike) (defScope s_need_alike) [] [] (He.ga K "need_alike") fd_need_alike
  m_need_alike : mg "need_alike" = some (.ref (He.ga K "need_alike"))
  f_need_listed : FunD K "need_listed" "need_listed" (defArgs s_need_listed) (defBody s_need_listed) (defScope s_need_listed) [] [] (He.ga K "need_listed") fd_need_listed
  m_need_listed : mg "need_listed" = some (.ref (He.ga K "need_listed"))
  f_led_off : FunD K "led_off" "led_off" (defArgs s_led_off) (defBody s_led_off) (defScope s_led_off) [] [] (He.ga K "led_off") fd_led_off
  m_led_off : mg "led_off" = some (.ref (He.ga K "led_off"))
  f_raised : FunD K "raised" "raised" (defArgs s_raised) (defBody s_raised) (defScope s_raised) [] [] (He.ga K "raised") fd_raised
  m_raised : mg "raised" = some (.ref (He.ga K "raised"))
  f_turned : FunD K "turned" "turned" (defArgs s_turned) (defBody s_turned) (defScope s_turned) [] [] (He.ga K "turned") fd_turned
  m_turned : mg "turned" = some (.ref (He.ga K "turned"))
  f_dot : FunD K "dot" "dot" (defArgs s_dot) (defBody s_dot) (defScope s_dot) [] [] (He.ga K "dot") fd_dot
  m_dot : mg "dot" = some (.ref (He.ga K "dot"))
  f_solve : FunD K "solve" "solve" (defArgs s_solve) (defBody s_solve) (defScope s_solve) [] [] (He.ga K "solve") fd_solve
  m_solve : mg "solve" = some (.ref (He.ga K "solve"))
  f__law_same : FunD K "_law_same" "_law_same" (defArgs s__law_same) (defBody s__law_same) (defScope s__law_same) [] [] (He.ga K "_law_same") fd__law_same
  m__law_same : mg "_law_same" = some (.ref (He.ga K "_law_same"))
  f__law_left : FunD K "_law_left" "_law_left" (defArgs s__law_left) (defBody s__law_left) (defScope s__law_left) [] [] (He.ga K "_law_left") fd__law_left
  m__law_left : mg "_law_left" = some (.ref (He.ga K "_law_left"))
  f__law_inverse : FunD K "_law_inverse" "_law_inverse" (defArgs s__law_inverse) (defBody s__law_inverse) (defScope s__law_inverse) [] [] (He.ga K "_law_inverse") fd__law_inverse
  m__law_inverse : mg "_law_inverse" = some (.ref (He.ga K "_law_inverse"))
  f__law_stepped : FunD K "_law_stepped" "_law_stepped" (defArgs s__law_stepped) (defBody s__law_stepped) (defScope s__law_stepped) [] [] (He.ga K "_law_stepped") fd__law_stepped
  m__law_stepped : mg "_law_stepped" = some (.ref (He.ga K "_law_stepped"))
  f__law_fresh : FunD K "_law_fresh" "_law_fresh" (defArgs s__law_fresh) (defBody s__law_fresh) (defScope s__law_fresh) [] [] (He.ga K "_law_fresh") fd__law_fresh
  m__law_fresh : mg "_law_fresh" = some (.ref (He.ga K "_law_fresh"))
  f__law_worths_fit : FunD K "_law_worths_fit" "_law_worths_fit" (defArgs s__law_worths_fit) (defBody s__law_worths_fit) (defScope s__law_worths_fit) [] [] (He.ga K "_law_worths_fit") fd__law_worths_fit
  m__law_worths_fit : mg "_law_worths_fit" = some (.ref (He.ga K "_law_worths_fit"))
  f_at_seed : FunD K "at_seed" "at_seed" (defArgs s_at_seed) (defBody s_at_seed) (defScope s_at_seed) [] [] (He.ga K "at_seed") fd_at_seed
  m_at_seed : mg "at_seed" = some (.ref (He.ga K "at_seed"))
  f__law_all_seeds : FunD K "_law_all_seeds" "_law_all_seeds" (defArgs s__law_all_seeds) (defBody s__law_all_seeds) (defScope s__law_all_seeds) [] [] (He.ga K "_law_all_seeds") fd__law_all_seeds
  m__law_all_seeds : mg "_law_all_seeds" = some (.ref (He.ga K "_law_all_seeds"))
  f__law_all_due : FunD K "_law_all_due" "_law_all_due" (defArgs s__law_all_due) (defBody s__law_all_due) (defScope s__law_all_due) [] [] (He.ga K "_law_all_due") fd__law_all_due
  m__law_all_due : mg "_law_all_due" = some (.ref (He.ga K "_law_all_due"))
  f_raised_to : FunD K "raised_to" "raised_to" (defArgs s_raised_to) (defBody s_raised_to) (defScope s_raised_to) [] [] (He.ga K "raised_to") fd_raised_to
  m_raised_to : mg "raised_to" = some (.ref (He.ga K "raised_to"))
  f_digits : FunD K "digits" "digits" (defArgs s_digits) (defBody s_digits) (defScope s_digits) [] [] (He.ga K "digits") fd_digits
  m_digits : mg "digits" = some (.ref (He.ga K "digits"))
  f_each_seed : FunD K "each_seed" "each_seed" (defArgs s_each_seed) (defBody s_each_seed) (defScope s_each_seed) [] [] (He.ga K "each_seed") fd_each_seed
  m_each_seed : mg "each_seed" = some (.ref (He.ga K "each_seed"))
  f__law_all_told : FunD K "_law_all_told" "_law_all_told" (defArgs s__law_all_told) (defBody s__law_all_told) (defScope s__law_all_told) [] [] (He.ga K "_law_all_told") fd__law_all_told
  m__law_all_told : mg "_law_all_told" = some (.ref (He.ga K "_law_all_told"))
  f__law_told_anew : FunD K "_law_told_anew" "_law_told_anew" (defArgs s__law_told_anew) (defBody s__law_told_anew) (defScope s__law_told_anew) [] [] (He.ga K "_law_told_anew") fd__law_told_anew
  m__law_told_anew : mg "_law_told_anew" = some (.ref (He.ga K "_law_told_anew"))
  f__law_strange_prime : FunD K "_law_strange_prime" "_law_strange_prime" (defArgs s__law_strange_prime) (defBody s__law_strange_prime) (defScope s__law_strange_prime) [] [] (He.ga K "_law_strange_prime") fd__law_strange_prime
  m__law_strange_prime : mg "_law_strange_prime" = some (.ref (He.ga K "_law_strange_prime"))
  f_law : FunD K "law" "law" (defArgs s_law) (defBody s_law) (defScope s_law) [] [] (He.ga K "law") fd_law
  m_law : mg "law" = some (.ref (He.ga K "law"))
  fI_LotError : FunD K "__init__" "LotError.__init__" (defArgs i_LotError) (defBody i_LotError) (defScope i_LotError) [] [] (initA K "LotError") fi_LotError
  m_LotError : mg "LotError" = some (.ref (He.ga K "LotError"))
  ox_LotError : OX K (He.ga K "LotError") "ValueError.__new__" tlV
  oi_LotError : OI K (He.ga K "LotError") (initA K "LotError")
  in_LotError : PySem.W.findIn K (.ref (He.ga K "LotError")) "__init__" = some (some (.ref (initA K "LotError"))) ∧ PySem.W.typeIn K (.ref (initA K "LotError")) = some (.type "function") ∧ ∀ f ∈ [("word" : Str)], PySem.W.findIn K (.ref (He.ga K "LotError")) f = some none
  fI_BadRow : FunD K "__init__" "BadRow.__init__" (defArgs i_BadRow) (defBody i_BadRow) (defScope i_BadRow) [] [] (initA K "BadRow") fi_BadRow
  m_BadRow : mg "BadRow" = some (.ref (He.ga K "BadRow"))
  ox_BadRow : OX K (He.ga K "BadRow") "ValueError.__new__" tlV
  oi_BadRow : OI K (He.ga K "BadRow") (initA K "BadRow")
  in_BadRow : PySem.W.findIn K (.ref (He.ga K "BadRow")) "__init__" = some (some (.ref (initA K "BadRow"))) ∧ PySem.W.typeIn K (.ref (initA K "BadRow")) = some (.type "function") ∧ ∀ f ∈ [("word" : Str)], PySem.W.findIn K (.ref (He.ga K "BadRow")) f = some none
  fI_BadPrime : FunD K "__init__" "BadPrime.__init__" (defArgs i_BadPrime) (defBody i_BadPrime) (defScope i_BadPrime) [] [] (initA K "BadPrime") fi_BadPrime
  m_BadPrime : mg "BadPrime" = some (.ref (He.ga K "BadPrime"))
  ox_BadPrime : OX K (He.ga K "BadPrime") "ValueError.__new__" tlV
  oi_BadPrime : OI K (He.ga K "BadPrime") (initA K "BadPrime")
  in_BadPrime : PySem.W.findIn K (.ref (He.ga K "BadPrime")) "__init__" = some (some (.ref (initA K "BadPrime"))) ∧ PySem.W.typeIn K (.ref (initA K "BadPrime")) = some (.type "function") ∧ ∀ f ∈ [("word" : Str)], PySem.W.findIn K (.ref (He.ga K "BadPrime")) f = some none
  fI_NoShare : FunD K "__init__" "NoShare.__init__" (defArgs i_NoShare) (defBody i_NoShare) (defScope i_NoShare) [] [] (initA K "NoShare") fi_NoShare
  m_NoShare : mg "NoShare" = some (.ref (He.ga K "NoShare"))
  ox_NoShare : OX K (He.ga K "NoShare") "ZeroDivisionError.__new__" tlZ
  oi_NoShare : OI K (He.ga K "NoShare") (initA K "NoShare")
  in_NoShare : PySem.W.findIn K (.ref (He.ga K "NoShare")) "__init__" = some (some (.ref (initA K "NoShare"))) ∧ PySem.W.typeIn K (.ref (initA K "NoShare")) = some (.type "function") ∧ ∀ f ∈ [("word" : Str)], PySem.W.findIn K (.ref (He.ga K "NoShare")) f = some none
  fI_BadNumber : FunD K "__init__" "BadNumber.__init__" (defArgs i_BadNumber) (defBody i_BadNumber) (defScope i_BadNumber) [] [] (initA K "BadNumber") fi_BadNumber
  m_BadNumber : mg "BadNumber" = some (.ref (He.ga K "BadNumber"))
  ox_BadNumber : OX K (He.ga K "BadNumber") "ValueError.__new__" tlV
  oi_BadNumber : OI K (He.ga K "BadNumber") (initA K "BadNumber")
  in_BadNumber : PySem.W.findIn K (.ref (He.ga K "BadNumber")) "__init__" = some (some (.ref (initA K "BadNumber"))) ∧ PySem.W.typeIn K (.ref (initA K "BadNumber")) = some (.type "function") ∧ ∀ f ∈ [("word" : Str)], PySem.W.findIn K (.ref (He.ga K "BadNumber")) f = some none
  fI_TooWide : FunD K "__init__" "TooWide.__init__" (defArgs i_TooWide) (defBody i_TooWide) (defScope i_TooWide) [] [] (initA K "TooWide") fi_TooWide
  m_TooWide : mg "TooWide" = some (.ref (He.ga K "TooWide"))
  ox_TooWide : OX K (He.ga K "TooWide") "ValueError.__new__" tlV
  oi_TooWide : OI K (He.ga K "TooWide") (initA K "TooWide")
  in_TooWide : PySem.W.findIn K (.ref (He.ga K "TooWide")) "__init__" = some (some (.ref (initA K "TooWide"))) ∧ PySem.W.typeIn K (.ref (initA K "TooWide")) = some (.type "function") ∧ ∀ f ∈ [("ways" : Str), ("word" : Str)], PySem.W.findIn K (.ref (He.ga K "TooWide")) f = some none
  mt_BadNumber : ∀ p ∈ mtab_BadNumber, PySem.W.exmOne K (.ref (He.ga K p.1)) (.ref (He.ga K "BadNumber")) = some p.2
  mt_BadPrime : ∀ p ∈ mtab_BadPrime, PySem.W.exmOne K (.ref (He.ga K p.1)) (.ref (He.ga K "BadPrime")) = some p.2
  mt_TooWide : ∀ p ∈ mtab_TooWide, PySem.W.exmOne K (.ref (He.ga K p.1)) (.ref (He.ga K "TooWide")) = some p.2
  kn_ways : ∀ n, excL.contains n = true → XfC K (He.ga K n) ∧ PySem.W.findIn K (.ref (He.ga K n)) "ways" = some none
  kn_word : ∀ n, excL.contains n = true → XfC K (He.ga K n) ∧ PySem.W.findIn K (.ref (He.ga K n)) "word" = some none
  n_ValueError : mg "ValueError" = none
  n_ZeroDivisionError : mg "ZeroDivisionError" = none
  n_all : mg "all" = none
  n_any : mg "any" = none
  n_bool : mg "bool" = none
  n_dict : mg "dict" = none
  n_enumerate : mg "enumerate" = none
  n_int : mg "int" = none
  n_isinstance : mg "isinstance" = none
  n_len : mg "len" = none
  n_list : mg "list" = none
  n_range : mg "range" = none
  n_reversed : mg "reversed" = none
  n_sum : mg "sum" = none
  n_tuple : mg "tuple" = none
  n_zip : mg "zip" = none
  c_MOST_ALL : ∃ t, mg "MOST_ALL" = some (.int 4096 t)
  c_MOST_SIZE : ∃ t, mg "MOST_SIZE" = some (.int 12 t)
  m_PRIMES : mg "PRIMES" = some (.ref (He.ga K "PRIMES"))
  c_PRIMES : ∀ S, Dp K S (.ref (He.ga K "PRIMES")) d_PRIMES
section
variable {P : Program} {w : World} {K : PySem.W.Frag} {mg : Str → Option Value} {base : Heap} [Tb]
theorem sci_LotError : FnScope Ni_LotError ["self", "word"] (defScope i_LotError) := ⟨rfl, rfl, rfl, by decide +kernel, rfl, by decide +kernel, by decide +kernel⟩
theorem bi_LotError (T : Tx K mg) : Binds K T.fi_LotError ["self", "word"] [] := T.fI_LotError.bindsN fun _ _ _ _ _ _ us hl => match us, hl with | [_, _], _ => rfl
theorem ini_LotError (T : Tx K mg) : FnOk P w K mg base (L2.CX P w) 1 (initA K "LotError") T.fi_LotError ["self", "word"] (iSp K "ValueError.__new__" tlV 1 mk_LotError) :=
  ok_bi (k := 0) T.fI_LotError sci_LotError baseV rfl (fun a ws fs h => match ws, h with | [w0], h => ⟨_, _, _, rfl, Nat.le_of_ble_eq_true rfl, rfl, rfl, (Option.some.inj h).symm⟩) fun cdv A outer s H E => ⟨_, _, _, _, _, _, _, _, _, _, _, rfl, bI baseV rfl (vvV _) T.n_ValueError baseV.boot (va_cons (vv_var 0) (va_cons (vv_var 1) va_nil)), rfl, vv_var 0, (vv_var 1), rfl, ao_nil⟩
theorem hfs_LotError (T : Tx K mg) : ∀ ws fs, mk_LotError ws = some fs → ws.length = 1 ∧ fs.length ≤ 100 ∧ ∀ p ∈ fs, PySem.W.findIn K (.ref (He.ga K "LotError")) p.1 = some none := fun ws fs h => match ws, h with
  | [w0], h => by
    cases h
    refine ⟨rfl, Nat.le_of_ble_eq_true rfl, fun p hp => ?_⟩
    simp only [List.mem_cons, List.not_mem_nil, or_false] at hp
    rcases hp with rfl <;> exact T.in_LotError.2.2 _ (by simp)
theorem rx_LotError (T : Tx K mg) {X : Cx} (hr : Room 2 X.A) (e1 : X.K = K := by rfl) (e2 : X.mg = mg := by rfl) : RX X (L2.CX X.prog X.w) (He.ga X.K "LotError") mk_LotError := by
  subst e1; subst e2
  exact ⟨_, _, _, _, _, _, _, _, _, baseV, T.ox_LotError, T.in_LotError.1, T.in_LotError.2.1, ini_LotError T, hr, bi_LotError T, hfs_LotError T⟩
theorem sci_BadRow : FnScope Ni_BadRow ["self"] (defScope i_BadRow) := ⟨rfl, rfl, rfl, by decide +kernel, rfl, by decide +kernel, by decide +kernel⟩
theorem bi_BadRow (T : Tx K mg) : Binds K T.fi_BadRow ["self"] [] := T.fI_BadRow.bindsN fun _ _ _ _ _ _ us hl => match us, hl with | [_], _ => rfl
theorem ini_BadRow (T : Tx K mg) : FnOk P w K mg base (L2.CX P w) 2 (initA K "BadRow") T.fi_BadRow ["self"] (iSp K "ValueError.__new__" tlV 0 mk_BadRow) :=
  ok_oi (k := 1) T.fI_BadRow sci_BadRow rfl (fun a ws fs h => match ws, h with | [], h => ⟨_, _, _, rfl, rfl, rfl, rfl, (Option.some.inj h).symm⟩) fun cdv A outer s H E hr => ⟨_, _, _, rfl, oI T.oi_LotError (ini_LotError T) hr (takes_of rfl rfl rfl rfl) T.m_LotError (bi_LotError T) (va_cons (vv_var 0) (va_cons vv_str va_nil)), rfl, ao_nil⟩
theorem hfs_BadRow (T : Tx K mg) : ∀ ws fs, mk_BadRow ws = some fs → ws.length = 0 ∧ fs.length ≤ 100 ∧ ∀ p ∈ fs, PySem.W.findIn K (.ref (He.ga K "BadRow")) p.1 = some none := fun ws fs h => match ws, h with
  | [], h => by
    cases h
    refine ⟨rfl, Nat.le_of_ble_eq_true rfl, fun p hp => ?_⟩
    simp only [List.mem_cons, List.not_mem_nil, or_false] at hp
    rcases hp with rfl <;> exact T.in_BadRow.2.2 _ (by simp)
theorem rx_BadRow (T : Tx K mg) {X : Cx} (hr : Room 3 X.A) (e1 : X.K = K := by rfl) (e2 : X.mg = mg := by rfl) : RX X (L2.CX X.prog X.w) (He.ga X.K "BadRow") mk_BadRow := by
  subst e1; subst e2
  exact ⟨_, _, _, _, _, _, _, _, _, baseV, T.ox_BadRow, T.in_BadRow.1, T.in_BadRow.2.1, ini_BadRow T, hr, bi_BadRow T, hfs_BadRow T⟩
theorem sci_BadPrime : FnScope Ni_BadPrime ["self"] (defScope i_BadPrime) := ⟨rfl, rfl, rfl, by decide +kernel, rfl, by decide +kernel, by decide +kernel⟩
theorem bi_BadPrime (T : Tx K mg) : Binds K T.fi_BadPrime ["self"] [] := T.fI_BadPrime.bindsN fun _ _ _ _ _ _ us hl => match us, hl with | [_], _ => rfl
theorem ini_BadPrime (T : Tx K mg) : FnOk P w K mg base (L2.CX P w) 2 (initA K "BadPrime") T.fi_BadPrime ["self"] (iSp K "ValueError.__new__" tlV 0 mk_BadPrime) :=
  ok_oi (k := 1) T.fI_BadPrime sci_BadPrime rfl (fun a ws fs h => match ws, h with | [], h => ⟨_, _, _, rfl, rfl, rfl, rfl, (Option.some.inj h).symm⟩) fun cdv A outer s H E hr => ⟨_, _, _, rfl, oI T.oi_LotError (ini_LotError T) hr (takes_of rfl rfl rfl rfl) T.m_LotError (bi_LotError T) (va_cons (vv_var 0) (va_cons vv_str va_nil)), rfl, ao_nil⟩
theorem hfs_BadPrime (T : Tx K mg) : ∀ ws fs, mk_BadPrime ws = some fs → ws.length = 0 ∧ fs.length ≤ 100 ∧ ∀ p ∈ fs, PySem.W.findIn K (.ref (He.ga K "BadPrime")) p.1 = some none := fun ws fs h => match ws, h with
  | [], h => by
    cases h
    refine ⟨rfl, Nat.le_of_ble_eq_true rfl, fun p hp => ?_⟩
    simp only [List.mem_cons, List.not_mem_nil, or_false] at hp
    rcases hp with rfl <;> exact T.in_BadPrime.2.2 _ (by simp)
theorem rx_BadPrime (T : Tx K mg) {X : Cx} (hr : Room 3 X.A) (e1 : X.K = K := by rfl) (e2 : X.mg = mg := by rfl) : RX X (L2.CX X.prog X.w) (He.ga X.K "BadPrime") mk_BadPrime := by
  subst e1; subst e2
  exact ⟨_, _, _, _, _, _, _, _, _, baseV, T.ox_BadPrime, T.in_BadPrime.1, T.in_BadPrime.2.1, ini_BadPrime T, hr, bi_BadPrime T, hfs_BadPrime T⟩
theorem sci_NoShare : FnScope Ni_NoShare ["self"] (defScope i_NoShare) := ⟨rfl, rfl, rfl, by decide +kernel, rfl, by decide +kernel, by decide +kernel⟩
theorem bi_NoShare (T : Tx K mg) : Binds K T.fi_NoShare ["self"] [] := T.fI_NoShare.bindsN fun _ _ _ _ _ _ us hl => match us, hl with | [_], _ => rfl
theorem ini_NoShare (T : Tx K mg) : FnOk P w K mg base (L2.CX P w) 1 (initA K "NoShare") T.fi_NoShare ["self"] (iSp K "ZeroDivisionError.__new__" tlZ 0 mk_NoShare) :=
  ok_bi (k := 0) T.fI_NoShare sci_NoShare baseZ rfl (fun a ws fs h => match ws, h with | [], h => ⟨_, _, _, rfl, Nat.le_of_ble_eq_true rfl, rfl, rfl, (Option.some.inj h).symm⟩) fun cdv A outer s H E => ⟨_, _, _, _, _, _, _, _, _, _, _, rfl, bI baseZ rfl (vvZ _) T.n_ZeroDivisionError baseZ.boot (va_cons (vv_var 0) (va_cons vv_str va_nil)), rfl, vv_var 0, vv_str, rfl, ao_nil⟩
theorem hfs_NoShare (T : Tx K mg) : ∀ ws fs, mk_NoShare ws = some fs → ws.length = 0 ∧ fs.length ≤ 100 ∧ ∀ p ∈ fs, PySem.W.findIn K (.ref (He.ga K "NoShare")) p.1 = some none := fun ws fs h => match ws, h with
  | [], h => by
    cases h
    refine ⟨rfl, Nat.le_of_ble_eq_true rfl, fun p hp => ?_⟩
    simp only [List.mem_cons, List.not_mem_nil, or_false] at hp
    rcases hp with rfl <;> exact T.in_NoShare.2.2 _ (by simp)
theorem rx_NoShare (T : Tx K mg) {X : Cx} (hr : Room 2 X.A) (e1 : X.K = K := by rfl) (e2 : X.mg = mg := by rfl) : RX X (L2.CX X.prog X.w) (He.ga X.K "NoShare") mk_NoShare := by
  subst e1; subst e2
  exact ⟨_, _, _, _, _, _, _, _, _, baseZ, T.ox_NoShare, T.in_NoShare.1, T.in_NoShare.2.1, ini_NoShare T, hr, bi_NoShare T, hfs_NoShare T⟩
theorem sci_BadNumber : FnScope Ni_BadNumber ["self"] (defScope i_BadNumber) := ⟨rfl, rfl, rfl, by decide +kernel, rfl, by decide +kernel, by decide +kernel⟩
theorem bi_BadNumber (T : Tx K mg) : Binds K T.fi_BadNumber ["self"] [] := T.fI_BadNumber.bindsN fun _ _ _ _ _ _ us hl => match us, hl with | [_], _ => rfl
theorem ini_BadNumber (T : Tx K mg) : FnOk P w K mg base (L2.CX P w) 2 (initA K "BadNumber") T.fi_BadNumber ["self"] (iSp K "ValueError.__new__" tlV 0 mk_BadNumber) :=
  ok_oi (k := 1) T.fI_BadNumber sci_BadNumber rfl (fun a ws fs h => match ws, h with | [], h => ⟨_, _, _, rfl, rfl, rfl, rfl, (Option.some.inj h).symm⟩) fun cdv A outer s H E hr => ⟨_, _, _, rfl, oI T.oi_LotError (ini_LotError T) hr (takes_of rfl rfl rfl rfl) T.m_LotError (bi_LotError T) (va_cons (vv_var 0) (va_cons vv_str va_nil)), rfl, ao_nil⟩
theorem hfs_BadNumber (T : Tx K mg) : ∀ ws fs, mk_BadNumber ws = some fs → ws.length = 0 ∧ fs.length ≤ 100 ∧ ∀ p ∈ fs, PySem.W.findIn K (.ref (He.ga K "BadNumber")) p.1 = some none := fun ws fs h => match ws, h with
  | [], h => by
    cases h
    refine ⟨rfl, Nat.le_of_ble_eq_true rfl, fun p hp => ?_⟩
    simp only [List.mem_cons, List.not_mem_nil, or_false] at hp
    rcases hp with rfl <;> exact T.in_BadNumber.2.2 _ (by simp)
theorem rx_BadNumber (T : Tx K mg) {X : Cx} (hr : Room 3 X.A) (e1 : X.K = K := by rfl) (e2 : X.mg = mg := by rfl) : RX X (L2.CX X.prog X.w) (He.ga X.K "BadNumber") mk_BadNumber := by
  subst e1; subst e2
  exact ⟨_, _, _, _, _, _, _, _, _, baseV, T.ox_BadNumber, T.in_BadNumber.1, T.in_BadNumber.2.1, ini_BadNumber T, hr, bi_BadNumber T, hfs_BadNumber T⟩
theorem sci_TooWide : FnScope Ni_TooWide ["self", "ways"] (defScope i_TooWide) := ⟨rfl, rfl, rfl, by decide +kernel, rfl, by decide +kernel, by decide +kernel⟩
theorem bi_TooWide (T : Tx K mg) : Binds K T.fi_TooWide ["self", "ways"] [] := T.fI_TooWide.bindsN fun _ _ _ _ _ _ us hl => match us, hl with | [_, _], _ => rfl
theorem ini_TooWide (T : Tx K mg) : FnOk P w K mg base (L2.CX P w) 2 (initA K "TooWide") T.fi_TooWide ["self", "ways"] (iSp K "ValueError.__new__" tlV 1 mk_TooWide) :=
  ok_oi (k := 1) T.fI_TooWide sci_TooWide rfl (fun a ws fs h => match ws, h with | [w0], h => ⟨_, _, _, rfl, rfl, rfl, rfl, (Option.some.inj h).symm⟩) fun cdv A outer s H E hr => ⟨_, _, _, rfl, oI T.oi_LotError (ini_LotError T) hr (takes_of rfl rfl rfl rfl) T.m_LotError (bi_LotError T) (va_cons (vv_var 0) (va_cons vv_str va_nil)), rfl, (ao_cons baseV (vv_var 0) (vv_var 1) ao_nil)⟩
theorem hfs_TooWide (T : Tx K mg) : ∀ ws fs, mk_TooWide ws = some fs → ws.length = 1 ∧ fs.length ≤ 100 ∧ ∀ p ∈ fs, PySem.W.findIn K (.ref (He.ga K "TooWide")) p.1 = some none := fun ws fs h => match ws, h with
  | [w0], h => by
    cases h
    refine ⟨rfl, Nat.le_of_ble_eq_true rfl, fun p hp => ?_⟩
    simp only [List.mem_cons, List.not_mem_nil, or_false] at hp
    rcases hp with rfl | rfl <;> exact T.in_TooWide.2.2 _ (by simp)
theorem rx_TooWide (T : Tx K mg) {X : Cx} (hr : Room 3 X.A) (e1 : X.K = K := by rfl) (e2 : X.mg = mg := by rfl) : RX X (L2.CX X.prog X.w) (He.ga X.K "TooWide") mk_TooWide := by
  subst e1; subst e2
  exact ⟨_, _, _, _, _, _, _, _, _, baseV, T.ox_TooWide, T.in_TooWide.1, T.in_TooWide.2.1, ini_TooWide T, hr, bi_TooWide T, hfs_TooWide T⟩
theorem sc__law_bag : FnScope N__law_bag ["_law_script"] (defScope s__law_bag) := ⟨rfl, rfl, rfl, by decide +kernel, rfl, by decide +kernel, by decide +kernel⟩
theorem b__law_bag (T : Tx K mg) : Binds K T.fd__law_bag ["_law_script"] [] := T.f__law_bag.bindsN fun _ _ _ _ _ _ us hl => match us, hl with | [_], _ => rfl
theorem ok__law_bag (T : Tx K mg) : FnOk P w K mg base (L2.CX P w) 1 (He.ga K "_law_bag") T.fd__law_bag ["_law_script"] (spOf K 1 F__law_bag) :=
  mkFn (k := 0) T.f__law_bag sc__law_bag (by decide) fun cdv A outer s H E hr => show BV _ _ _ _ w__law_bag from
      (bv_one (sv_ret (ev_lst (av_cons (ev_z (ev_list (by rfl) T.n_list (pv_e (ev_sl (pv_var 0) nv_no (nv_e (pv_e ev_int)))))) (av_cons ev_int (av_cons ev_int (av_cons ev_int av_nil)))))))
theorem sc__law_pull : FnScope N__law_pull ["_law_bag_here", "_law_many"] (defScope s__law_pull) := ⟨rfl, rfl, rfl, by decide +kernel, rfl, by decide +kernel, by decide +kernel⟩
theorem b__law_pull (T : Tx K mg) : Binds K T.fd__law_pull ["_law_bag_here", "_law_many"] [] := T.f__law_pull.bindsN fun _ _ _ _ _ _ us hl => match us, hl with | [_, _], _ => rfl
theorem ok__law_pull (T : Tx K mg) : FnOk P w K mg base (L2.CX P w) 1 (He.ga K "_law_pull") T.fd__law_pull ["_law_bag_here", "_law_many"] (spOf K 2 F__law_pull) :=
  mkFn (k := 0) T.f__law_pull sc__law_pull (by decide) fun cdv A outer s H E hr => show BV _ _ _ _ w__law_pull from
      (bv_cons (sv_if (tv_w (wv_and (tv_cmp (op_eqD hr.units) opS_eq (pv_e (ev_ix (pv_var 0) (pv_e ev_int))) (pv_e ev_int) (nomark _)) (wv_and1 (tv_cmp op_lt opS_lt (pv_e (ev_ix (pv_var 0) (pv_e ev_int))) (pv_e (ev_len (by rfl) T.n_len (pv_e (ev_ix (pv_var 0) (pv_e ev_int))))) (nomark _)))))
      (bv_cons (sv_set 2 sc__law_pull.nd (ev_ix (pv_e (ev_ix (pv_var 0) (pv_e ev_int))) (pv_e (ev_ix (pv_var 0) (pv_e ev_int)))))
      (bv_cons (sv_ix 0 (ev_add (pv_e (ev_ix (pv_var 0) (pv_e ev_int))) (pv_e ev_int)) (pv_e ev_int))
      (bv_one (sv_if (tv_cmp op_ge opS_ge (pv_var 2) (pv_e (ev_pow (pv_e ev_int) (pv_e ev_int))) (nomark _))
      (bv_one (sv_ix 0 (ev_var 2) (pv_e ev_int)))
      (bv_cons (sv_set 3 sc__law_pull.nd (ev_add (pv_e (ev_add (pv_e (ev_mul (pv_e (ev_ix (pv_var 0) (pv_e ev_int))) (pv_e ev_int))) (pv_e (ev_mul (pv_e (ev_mod (pv_var 2) (pv_e ev_int))) (pv_e ev_int))))) (pv_e ev_int)))
      (bv_one (sv_ix 0 (ev_mod (pv_var 3) (pv_e ev_int)) (pv_e ev_int))))))))
      bv_nil)
      (bv_cons (sv_if (tv_cmp op_gt opS_gt (pv_e (ev_ix (pv_var 0) (pv_e ev_int))) (pv_e ev_int) (nomark _))
      (bv_cons (sv_set 4 sc__law_pull.nd (ev_mod (pv_e (ev_ix (pv_var 0) (pv_e ev_int))) (pv_var 1)))
      (bv_cons (sv_ix 0 (ev_div (pv_e (ev_ix (pv_var 0) (pv_e ev_int))) (pv_var 1)) (pv_e ev_int))
      (bv_one (sv_ret (ev_move 4)))))
      bv_nil)
      (bv_cons (sv_set 3 sc__law_pull.nd (ev_add (pv_e (ev_mul (pv_e (ev_mod (pv_e (ev_mul (pv_e (ev_ix (pv_var 0) (pv_e ev_int))) (pv_e (ev_ix (pv_var 0) (pv_e ev_int))))) (pv_e ev_int))) (pv_e ev_int))) (pv_e (ev_mul (pv_e (ev_ix (pv_var 0) (pv_e ev_int))) (pv_e ev_int)))))
      (bv_cons (sv_ix 0 (ev_mod (pv_e (ev_add (pv_var 3) (pv_e ev_int))) (pv_e ev_int)) (pv_e ev_int))
      (bv_one (sv_ret (ev_mod (pv_e (ev_add (pv_e (ev_div (pv_e (ev_ix (pv_var 0) (pv_e ev_int))) (pv_e ev_int))) (pv_e (ev_mul (pv_e (ev_mod (pv_e (ev_ix (pv_var 0) (pv_e ev_int))) (pv_e ev_int))) (pv_e ev_int))))) (pv_var 1))))))))
theorem sc__law_pick : FnScope N__law_pick ["_law_bag_here", "_law_some"] (defScope s__law_pick) := ⟨rfl, rfl, rfl, by decide +kernel, rfl, by decide +kernel, by decide +kernel⟩
theorem b__law_pick (T : Tx K mg) : Binds K T.fd__law_pick ["_law_bag_here", "_law_some"] [] := T.f__law_pick.bindsN fun _ _ _ _ _ _ us hl => match us, hl with | [_, _], _ => rfl
theorem ok__law_pick (T : Tx K mg) : FnOk P w K mg base (L2.CX P w) 2 (He.ga K "_law_pick") T.fd__law_pick ["_law_bag_here", "_law_some"] (spOf K 2 F__law_pick) :=
  mkFn (k := 1) T.f__law_pick sc__law_pick (by decide) fun cdv A outer s H E hr => show BV _ _ _ _ w__law_pick from
      (bv_one (sv_ret (ev_ix (pv_var 1) (pv_e (ev_call (ok__law_pull T) (hr.mono (by decide)) (takes_of rfl rfl rfl rfl) (by rfl) T.m__law_pull T.f__law_pull.kp (b__law_pull T) .nil (fun _ => .nil) (av_lend 0 (av_cons (ev_len (by rfl) T.n_len (pv_var 1)) av_nil)))))))
theorem sc__law_prime : FnScope N__law_prime ["_law_bag_here"] (defScope s__law_prime) := ⟨rfl, rfl, rfl, by decide +kernel, rfl, by decide +kernel, by decide +kernel⟩
theorem b__law_prime (T : Tx K mg) : Binds K T.fd__law_prime ["_law_bag_here"] [] := T.f__law_prime.bindsN fun _ _ _ _ _ _ us hl => match us, hl with | [_], _ => rfl
theorem ok__law_prime (T : Tx K mg) : FnOk P w K mg base (L2.CX P w) 3 (He.ga K "_law_prime") T.fd__law_prime ["_law_bag_here"] (spOf K 1 F__law_prime) :=
  mkFn (k := 2) T.f__law_prime sc__law_prime (by decide) fun cdv A outer s H E hr => show BV _ _ _ _ w__law_prime from
      (bv_one (sv_ret (ev_call (ok__law_pick T) (hr.mono (by decide)) (takes_of rfl rfl rfl rfl) (by rfl) T.m__law_pick T.f__law_pick.kp (b__law_pick T) .nil (fun _ => .nil) (av_lend 0 (av_cons (ev_lst (av_cons ev_int (av_cons ev_int (av_cons ev_int (av_cons ev_int (av_cons ev_int (av_cons ev_int (av_cons ev_int (av_cons ev_int (av_cons ev_int (av_cons ev_int (av_cons ev_int av_nil)))))))))))) av_nil)))))
theorem sc__law_row : FnScope N__law_row ["_law_bag_here", "_law_p", "_law_size"] (defScope s__law_row) := ⟨rfl, rfl, rfl, by decide +kernel, rfl, by decide +kernel, by decide +kernel⟩
theorem b__law_row (T : Tx K mg) : Binds K T.fd__law_row ["_law_bag_here", "_law_p", "_law_size"] [] := T.f__law_row.bindsN fun _ _ _ _ _ _ us hl => match us, hl with | [_, _, _], _ => rfl
theorem ok__law_row (T : Tx K mg) : FnOk P w K mg base (L2.CX P w) 2 (He.ga K "_law_row") T.fd__law_row ["_law_bag_here", "_law_p", "_law_size"] (spOf K 3 F__law_row) :=
  mkFn (k := 1) T.f__law_row sc__law_row (by decide) fun cdv A outer s H E hr => show BV _ _ _ _ w__law_row from
      (bv_cons (sv_set 3 sc__law_row.nd (ev_call (ok__law_pull T) (hr.mono (by decide)) (takes_of rfl rfl rfl rfl) (by rfl) T.m__law_pull T.f__law_pull.kp (b__law_pull T) .nil (fun _ => .nil) (av_lend 0 (av_cons ev_int av_nil))))
      (bv_cons (sv_if (tv_cmp (op_eqD hr.units) opS_eq (pv_var 3) (pv_e ev_int) (nomark _))
      (bv_one (sv_ret (ev_repT (pv_e (ev_tup (av_cons ev_int av_nil))) (pv_var 2))))
      bv_nil)
      (bv_cons (sv_if (tv_cmp (op_eqD hr.units) opS_eq (pv_var 3) (pv_e ev_int) (nomark _))
      (bv_cons (sv_set 4 sc__law_row.nd (ev_call (ok__law_pull T) (hr.mono (by decide)) (takes_of rfl rfl rfl rfl) (by rfl) T.m__law_pull T.f__law_pull.kp (b__law_pull T) .nil (fun _ => .nil) (av_lend 0 (av_lend 2 av_nil))))
      (bv_one (sv_ret (ev_tuple (by rfl) T.n_tuple (pv_e (ev_lc rfl sc__law_row.nd (iv_rg1 (by rfl) T.n_range (pv_var 2)) (blkOk_by (own := [("_law_k", 5)]) (N := N__law_row) (sc := (defScope s__law_row)) (by decide +kernel)) (fun _ _ _ _ _ => (gv_name 5 sc__law_row.nd)) (fun _ _ _ _ _ => (ev_intc (by rfl) T.n_int (pv_e (ev_cmp (op_eqD hr.units) opS_eq (pv_var 5) (pv_var 4) (nomark _)))))))))))
      bv_nil)
      (bv_one (sv_ret (ev_tuple (by rfl) T.n_tuple (pv_e (ev_lc rfl sc__law_row.nd (iv_rg1 (by rfl) T.n_range (pv_var 2)) (blkOk_by (own := [("_law_k", 5)]) (N := N__law_row) (sc := (defScope s__law_row)) (by decide +kernel)) (fun _ _ _ _ _ => (gv_name 5 sc__law_row.nd)) (fun _ _ _ _ _ => (ev_z (ev_call (ok__law_pull T) (hr.mono (by decide)) takes0 (by rfl) T.m__law_pull T.f__law_pull.kp (b__law_pull T) .nil (fun _ => .nil) (av_lend 0 (av_lend 1 av_nil)))))))))))))
theorem sc__law_mix : FnScope N__law_mix ["_law_p", "_law_rows_here", "_law_weights", "_law_size"] (defScope s__law_mix) := ⟨rfl, rfl, rfl, by decide +kernel, rfl, by decide +kernel, by decide +kernel⟩
theorem b__law_mix (T : Tx K mg) : Binds K T.fd__law_mix ["_law_p", "_law_rows_here", "_law_weights", "_law_size"] [] := T.f__law_mix.bindsN fun _ _ _ _ _ _ us hl => match us, hl with | [_, _, _, _], _ => rfl
theorem ok__law_mix (T : Tx K mg) : FnOk P w K mg base (L2.CX P w) 1 (He.ga K "_law_mix") T.fd__law_mix ["_law_p", "_law_rows_here", "_law_weights", "_law_size"] (spOf K 4 F__law_mix) :=
  mkFn (k := 0) T.f__law_mix sc__law_mix (by decide) fun cdv A outer s H E hr => show BV _ _ _ _ w__law_mix from
      (bv_cons (sv_set 4 sc__law_mix.nd (ev_rep (pv_e (ev_lst (av_cons ev_int av_nil))) (pv_var 3)))
      (bv_cons (sv_for (Z := []) (passes_of rfl) rfl (iv_rg1 (by rfl) T.n_range (pv_e (ev_len (by rfl) T.n_len (pv_var 1)))) (gv_name 5 sc__law_mix.nd)
      (bv_one (sv_set 4 sc__law_mix.nd (ev_lc rfl sc__law_mix.nd (iv_rg1 (by rfl) T.n_range (pv_var 3)) (blkOk_by (own := [("_law_k", 6)]) (N := N__law_mix) (sc := (defScope s__law_mix)) (by decide +kernel)) (fun _ _ _ _ _ => (gv_name 6 sc__law_mix.nd)) (fun _ _ _ _ _ => (ev_mod (pv_e (ev_add (pv_e (ev_ix (pv_var 4) (pv_var 6))) (pv_e (ev_mul (pv_e (ev_ix (pv_var 2) (pv_var 5))) (pv_e (ev_ix (pv_e (ev_ix (pv_var 1) (pv_var 5))) (pv_var 6))))))) (pv_var 0)))))))
      (bv_one (sv_ret (ev_tuple (by rfl) T.n_tuple (pv_var 4))))))
theorem sc__law_rows : FnScope N__law_rows ["_law_bag_here", "_law_p", "_law_size", "_law_most"] (defScope s__law_rows) := ⟨rfl, rfl, rfl, by decide +kernel, rfl, by decide +kernel, by decide +kernel⟩
theorem b__law_rows (T : Tx K mg) : Binds K T.fd__law_rows ["_law_bag_here", "_law_p", "_law_size", "_law_most"] [] := T.f__law_rows.bindsN fun _ _ _ _ _ _ us hl => match us, hl with | [_, _, _, _], _ => rfl
theorem ok__law_rows (T : Tx K mg) : FnOk P w K mg base (L2.CX P w) 3 (He.ga K "_law_rows") T.fd__law_rows ["_law_bag_here", "_law_p", "_law_size", "_law_most"] (spOf K 4 F__law_rows) :=
  mkFn (k := 2) T.f__law_rows sc__law_rows (by decide) fun cdv A outer s H E hr => show BV _ _ _ _ w__law_rows from
      (bv_cons (sv_set 4 sc__law_rows.nd (ev_lst av_nil))
      (bv_cons (sv_for (Z := []) (passes_of rfl) rfl (iv_rg1 (by rfl) T.n_range (pv_e (ev_call (ok__law_pull T) (hr.mono (by decide)) (takes_of rfl rfl rfl rfl) (by rfl) T.m__law_pull T.f__law_pull.kp (b__law_pull T) .nil (fun _ => .nil) (av_lend 0 (av_cons (ev_add (pv_var 3) (pv_e ev_int)) av_nil))))) (gv_name 5 sc__law_rows.nd)
      (bv_cons (sv_set 6 sc__law_rows.nd (ev_call (ok__law_pull T) (hr.mono (by decide)) (takes_of rfl rfl rfl rfl) (by rfl) T.m__law_pull T.f__law_pull.kp (b__law_pull T) .nil (fun _ => .nil) (av_lend 0 (av_cons ev_int av_nil))))
      (bv_one (sv_if (tv_w (wv_and (tv_cmp (op_eqD hr.units) opS_eq (pv_var 6) (pv_e ev_int) (nomark _)) (wv_and1 (tv_cmp (op_neD hr.units) opS_ne (pv_var 4) (pv_e (ev_lst av_nil)) (nomark _)))))
      (bv_cons (sv_setLc 7 rfl sc__law_rows.nd (iv_seq (pv_var 4)) (blkOk_by (own := [("_law_one", 8)]) (N := N__law_rows) (sc := (defScope s__law_rows)) (by decide +kernel)) (fun _ _ _ _ _ => (gv_name 8 sc__law_rows.nd)) (fun _ _ _ _ _ => (ev_z (ev_call (ok__law_pull T) (hr.mono (by decide)) takes0 (by rfl) T.m__law_pull T.f__law_pull.kp (b__law_pull T) .nil (fun _ => .nil) (av_lend 0 (av_lend 1 av_nil))))) (sw_true rfl rfl rfl (by decide +kernel)))
      (bv_one (sv_app 4 (ev_z (ev_call (ok__law_mix T) (hr.mono (by decide)) (takes_of rfl rfl rfl rfl) (by rfl) T.m__law_mix T.f__law_mix.kp (b__law_mix T) .nil (fun _ => .nil) (av_lend 1 (av_lend 4 (av_lend 7 (av_lend 2 av_nil)))))))))
      (bv_one (sv_if (tv_w (wv_and (tv_cmp (op_eqD hr.units) opS_eq (pv_var 6) (pv_e ev_int) (nomark _)) (wv_and1 (tv_cmp (op_neD hr.units) opS_ne (pv_var 4) (pv_e (ev_lst av_nil)) (nomark _)))))
      (bv_one (sv_app 4 (ev_z (ev_call (ok__law_pick T) (hr.mono (by decide)) (takes_of rfl rfl rfl rfl) (by rfl) T.m__law_pick T.f__law_pick.kp (b__law_pick T) .nil (fun _ => .nil) (av_lend 0 (av_lend 4 av_nil))))))
      (bv_one (sv_app 4 (ev_z (ev_call (ok__law_row T) (hr.mono (by decide)) (takes_of rfl rfl rfl rfl) (by rfl) T.m__law_row T.f__law_row.kp (b__law_row T) .nil (fun _ => .nil) (av_lend 0 (av_lend 1 (av_lend 2 av_nil)))))))))))))
      (bv_one (sv_ret (ev_move 4)))))
theorem sc__law_dot : FnScope N__law_dot ["_law_p", "_law_row_here", "_law_seed"] (defScope s__law_dot) := ⟨rfl, rfl, rfl, by decide +kernel, rfl, by decide +kernel, by decide +kernel⟩
theorem b__law_dot (T : Tx K mg) : Binds K T.fd__law_dot ["_law_p", "_law_row_here", "_law_seed"] [] := T.f__law_dot.bindsN fun _ _ _ _ _ _ us hl => match us, hl with | [_, _, _], _ => rfl
theorem ok__law_dot (T : Tx K mg) : FnOk P w K mg base (L2.CX P w) 1 (He.ga K "_law_dot") T.fd__law_dot ["_law_p", "_law_row_here", "_law_seed"] (spOf K 3 F__law_dot) :=
  mkFn (k := 0) T.f__law_dot sc__law_dot (by decide) fun cdv A outer s H E hr => show BV _ _ _ _ w__law_dot from
      (bv_cons (sv_set 3 sc__law_dot.nd ev_int)
      (bv_cons (sv_for (Z := []) (passes_of rfl) rfl (iv_rg1 (by rfl) T.n_range (pv_e (ev_len (by rfl) T.n_len (pv_var 1)))) (gv_name 4 sc__law_dot.nd)
      (bv_one (sv_set 3 sc__law_dot.nd (ev_mod (pv_e (ev_add (pv_var 3) (pv_e (ev_mul (pv_e (ev_ix (pv_var 1) (pv_var 4))) (pv_e (ev_ix (pv_var 2) (pv_var 4))))))) (pv_var 0)))))
      (bv_one (sv_ret (ev_move 3)))))
theorem sc_need_prime : FnScope N_need_prime ["prime"] (defScope s_need_prime) := ⟨rfl, rfl, rfl, by decide +kernel, rfl, by decide +kernel, by decide +kernel⟩
theorem b_need_prime (T : Tx K mg) : Binds K T.fd_need_prime ["prime"] [] := T.f_need_prime.bindsN fun _ _ _ _ _ _ us hl => match us, hl with | [_], _ => rfl
theorem ok_need_prime (T : Tx K mg) : FnOk P w K mg base (L2.CX P w) 4 (He.ga K "need_prime") T.fd_need_prime ["prime"] (spOf K 1 F_need_prime) :=
  mkFn (k := 3) T.f_need_prime sc_need_prime (by decide) fun cdv A outer s H E hr => show BV _ _ _ _ w_need_prime from
      (bv_one (sv_if (tv_cmp op_notIn_seq opS_notIn (pv_var 0) (pv_e (ev_glob (v := .ref (He.ga K "PRIMES")) (by rfl) T.m_PRIMES rfl T.c_PRIMES)) (by first | rfl | exact nomark _))
      (bv_one (sv_raise0 rfl (takes_of rfl rfl rfl rfl) (rx_BadPrime T (hr.mono (by decide))) (passes0 (takes_of rfl rfl rfl rfl)) (by rfl) T.m_BadPrime mkr_BadPrime))
      bv_nil))
theorem sc_is_whole : FnScope N_is_whole ["thing"] (defScope s_is_whole) := ⟨rfl, rfl, rfl, by decide +kernel, rfl, by decide +kernel, by decide +kernel⟩
theorem b_is_whole (T : Tx K mg) : Binds K T.fd_is_whole ["thing"] [] := T.f_is_whole.bindsN fun _ _ _ _ _ _ us hl => match us, hl with | [_], _ => rfl
theorem ok_is_whole (T : Tx K mg) : FnOk P w K mg base (L2.CX P w) 1 (He.ga K "is_whole") T.fd_is_whole ["thing"] (spOf K 1 F_is_whole) :=
  mkFn (k := 0) T.f_is_whole sc_is_whole (by decide) fun cdv A outer s H E hr => show BV _ _ _ _ w_is_whole from
      (bv_one (sv_ret (ev_and (ev_isi (T := "int") (by rfl) T.n_isinstance (by rfl) T.n_int (by decide +kernel) (pv_var 0)) (ev_one (ev_not (pv_e (ev_isi (T := "bool") (by rfl) T.n_isinstance (by rfl) T.n_bool (by decide +kernel) (pv_var 0))))))))
theorem sc_is_within : FnScope N_is_within ["thing", "low", "high"] (defScope s_is_within) := ⟨rfl, rfl, rfl, by decide +kernel, rfl, by decide +kernel, by decide +kernel⟩
theorem b_is_within (T : Tx K mg) : Binds K T.fd_is_within ["thing", "low", "high"] [] := T.f_is_within.bindsN fun _ _ _ _ _ _ us hl => match us, hl with | [_, _, _], _ => rfl
theorem ok_is_within (T : Tx K mg) : FnOk P w K mg base (L2.CX P w) 2 (He.ga K "is_within") T.fd_is_within ["thing", "low", "high"] (spOf K 3 F_is_within) :=
  mkFn (k := 1) T.f_is_within sc_is_within (by decide) fun cdv A outer s H E hr => show BV _ _ _ _ w_is_within from
      (bv_one (sv_ret (ev_and (ev_call (ok_is_whole T) (hr.mono (by decide)) (takes_of rfl rfl rfl rfl) (by rfl) T.m_is_whole T.f_is_whole.kp (b_is_whole T) .nil (fun _ => .nil) (av_lend 0 av_nil)) (ev_one (ev_chain op_le op_le opS_le opS_le (pv_var 1) (pv_var 0) (pv_var 2))))))
theorem sc_is_row_of : FnScope N_is_row_of ["prime", "row"] (defScope s_is_row_of) := ⟨rfl, rfl, rfl, by decide +kernel, rfl, by decide +kernel, by decide +kernel⟩
theorem b_is_row_of (T : Tx K mg) : Binds K T.fd_is_row_of ["prime", "row"] [] := T.f_is_row_of.bindsN fun _ _ _ _ _ _ us hl => match us, hl with | [_, _], _ => rfl
theorem ok_is_row_of (T : Tx K mg) : FnOk P w K mg base (L2.CX P w) 3 (He.ga K "is_row_of") T.fd_is_row_of ["prime", "row"] (spOf K 2 F_is_row_of) :=
  mkFn (k := 2) T.f_is_row_of sc_is_row_of (by decide) fun cdv A outer s H E hr => show BV _ _ _ _ w_is_row_of from
      (bv_cons (sv_if (tv_w (wv_or (tv_not (tv_val (ev_isi (T := "tuple") (by rfl) T.n_isinstance (by rfl) T.n_tuple (by decide +kernel) (pv_var 1)))) (wv_or1 (tv_not (tv_chain op_le op_le opS_le opS_le (pv_e ev_int) (pv_e (ev_len (by rfl) T.n_len (pv_var 1))) (pv_e (T.c_MOST_SIZE.elim fun t h => ev_glob (v := .int 12) (by rfl) h ⟨t, rfl⟩ (fun _ => .int 12))))))))
      (bv_one (sv_ret ev_bl))
      bv_nil)
      (bv_one (sv_ret (ev_all rfl (by rfl) T.n_all (pv_e (ev_lc rfl sc_is_row_of.nd (iv_seq (pv_var 1)) (blkOk_by (own := [("number", 2)]) (N := N_is_row_of) (sc := (defScope s_is_row_of)) (by decide +kernel)) (fun _ _ _ _ _ => (gv_name 2 sc_is_row_of.nd)) (fun _ _ _ _ _ => (ev_z (ev_call (ok_is_within T) (hr.mono (by decide)) takes0 (by rfl) T.m_is_within T.f_is_within.kp (b_is_within T) .nil (fun _ => .nil) (av_lend 2 (av_cons ev_int (av_cons (ev_sub (pv_var 0) (pv_e ev_int)) av_nil))))))))))))
theorem sc_need_alike : FnScope N_need_alike ["prime", "rows"] (defScope s_need_alike) := ⟨rfl, rfl, rfl, by decide +kernel, rfl, by decide +kernel, by decide +kernel⟩
theorem b_need_alike (T : Tx K mg) : Binds K T.fd_need_alike ["prime", "rows"] [] := T.f_need_alike.bindsN fun _ _ _ _ _ _ us hl => match us, hl with | [_, _], _ => rfl
theorem ok_need_alike (T : Tx K mg) : FnOk P w K mg base (L2.CX P w) 5 (He.ga K "need_alike") T.fd_need_alike ["prime", "rows"] (spOf K 2 F_need_alike) :=
  mkFn (k := 4) T.f_need_alike sc_need_alike (by decide) fun cdv A outer s H E hr => show BV _ _ _ _ w_need_alike from
      (bv_cons (sv_expr (ev_call (ok_need_prime T) (hr.mono (by decide)) (takes_of rfl rfl rfl rfl) (by rfl) T.m_need_prime T.f_need_prime.kp (b_need_prime T) .nil (fun _ => .nil) (av_lend 0 av_nil)))
      (bv_one (sv_for (Z := [1]) (passes_of rfl) rfl (iv_seq (pv_var 1)) (gv_name 2 sc_need_alike.nd)
      (bv_one (sv_if (tv_w (wv_or (tv_not (tv_val (ev_call (ok_is_row_of T) (hr.mono (by decide)) (takes_of rfl rfl rfl rfl) (by rfl) T.m_is_row_of T.f_is_row_of.kp (b_is_row_of T) .nil (fun _ => .nil) (av_lend 0 (av_lend 2 av_nil))))) (wv_or1 (tv_cmp (op_neD hr.units) opS_ne (pv_e (ev_len (by rfl) T.n_len (pv_var 2))) (pv_e (ev_len (by rfl) T.n_len (pv_e (ev_ix (pv_var 1) (pv_e ev_int))))) (nomark _)))))
      (bv_one (sv_raise0 rfl (takes_of rfl rfl rfl rfl) (rx_BadRow T (hr.mono (by decide))) (passes0 (takes_of rfl rfl rfl rfl)) (by rfl) T.m_BadRow mkr_BadRow))
      bv_nil)))))
theorem sc_need_listed : FnScope N_need_listed ["prime", "numbers", "many"] (defScope s_need_listed) := ⟨rfl, rfl, rfl, by decide +kernel, rfl, by decide +kernel, by decide +kernel⟩
theorem b_need_listed (T : Tx K mg) : Binds K T.fd_need_listed ["prime", "numbers", "many"] [] := T.f_need_listed.bindsN fun _ _ _ _ _ _ us hl => match us, hl with | [_, _, _], _ => rfl
theorem ok_need_listed (T : Tx K mg) : FnOk P w K mg base (L2.CX P w) 4 (He.ga K "need_listed") T.fd_need_listed ["prime", "numbers", "many"] (spOf K 3 F_need_listed) :=
  mkFn (k := 3) T.f_need_listed sc_need_listed (by decide) fun cdv A outer s H E hr => show BV _ _ _ _ w_need_listed from
      (bv_cons (sv_if (tv_w (wv_or (tv_not (tv_val (ev_isi (T := "list") (by rfl) T.n_isinstance (by rfl) T.n_list (by decide +kernel) (pv_var 1)))) (wv_or1 (tv_cmp (op_neD hr.units) opS_ne (pv_e (ev_len (by rfl) T.n_len (pv_var 1))) (pv_var 2) (nomark _)))))
      (bv_one (sv_raise0 rfl (takes_of rfl rfl rfl rfl) (rx_BadRow T (hr.mono (by decide))) (passes0 (takes_of rfl rfl rfl rfl)) (by rfl) T.m_BadRow mkr_BadRow))
      bv_nil)
      (bv_one (sv_if (tv_not (tv_val (ev_all rfl (by rfl) T.n_all (pv_e (ev_lc rfl sc_need_listed.nd (iv_seq (pv_var 1)) (blkOk_by (own := [("number", 3)]) (N := N_need_listed) (sc := (defScope s_need_listed)) (by decide +kernel)) (fun _ _ _ _ _ => (gv_name 3 sc_need_listed.nd)) (fun _ _ _ _ _ => (ev_z (ev_call (ok_is_within T) (hr.mono (by decide)) takes0 (by rfl) T.m_is_within T.f_is_within.kp (b_is_within T) .nil (fun _ => .nil) (av_lend 3 (av_cons ev_int (av_cons (ev_sub (pv_var 0) (pv_e ev_int)) av_nil)))))))))))
      (bv_one (sv_raise0 rfl (takes_of rfl rfl rfl rfl) (rx_BadRow T (hr.mono (by decide))) (passes0 (takes_of rfl rfl rfl rfl)) (by rfl) T.m_BadRow mkr_BadRow))
      bv_nil)))
theorem sc_led_off : FnScope N_led_off ["prime", "row", "worth", "steps"] (defScope s_led_off) := ⟨rfl, rfl, rfl, by decide +kernel, rfl, by decide +kernel, by decide +kernel⟩
theorem b_led_off (T : Tx K mg) : Binds K T.fd_led_off ["prime", "row", "worth", "steps"] [] := T.f_led_off.bindsN fun _ _ _ _ _ _ us hl => match us, hl with | [_, _, _, _], _ => rfl
theorem ok_led_off (T : Tx K mg) : FnOk P w K mg base (L2.CX P w) 1 (He.ga K "led_off") T.fd_led_off ["prime", "row", "worth", "steps"] (spOf K 4 F_led_off) :=
  mkFn (k := 0) T.f_led_off sc_led_off (by decide) fun cdv A outer s H E hr => show BV _ _ _ _ w_led_off from
      (bv_cons (sv_set 4 sc_led_off.nd (ev_list (by rfl) T.n_list (pv_var 1)))
      (bv_cons (sv_set 5 sc_led_off.nd (ev_var 2))
      (bv_cons (sv_for (Z := [3]) (passes_of rfl) rfl (iv_seq (pv_var 3)) (gv_tup rfl (gs_cons (gv_name 6 sc_led_off.nd) (gs_cons (gv_name 7 sc_led_off.nd) (gs_cons (gv_name 8 sc_led_off.nd) gs_nil))))
      (bv_cons (sv_set 9 sc_led_off.nd (ev_ix (pv_var 4) (pv_var 6)))
      (bv_cons (sv_setLc 4 rfl sc_led_off.nd (iv_zip (by rfl) T.n_zip (pv_var 4) (pv_var 7)) (blkOk_by (own := [("one", 10), ("other", 11)]) (N := N_led_off) (sc := (defScope s_led_off)) (by decide +kernel)) (fun _ _ _ _ _ => (gv_tup rfl (gs_cons (gv_name 10 sc_led_off.nd) (gs_cons (gv_name 11 sc_led_off.nd) gs_nil)))) (fun _ _ _ _ _ => (ev_mod (pv_e (ev_sub (pv_var 10) (pv_e (ev_mul (pv_var 9) (pv_var 11))))) (pv_var 0))) (sw_true rfl rfl rfl (by decide +kernel)))
      (bv_one (sv_set 5 sc_led_off.nd (ev_mod (pv_e (ev_sub (pv_var 5) (pv_e (ev_mul (pv_var 9) (pv_var 8))))) (pv_var 0)))))))
      (bv_one (sv_ret (ev_tup (av_cons (ev_var 4) (av_cons (ev_var 5) av_nil))))))))
theorem sc_raised : FnScope N_raised ["number", "many", "prime"] (defScope s_raised) := ⟨rfl, rfl, rfl, by decide +kernel, rfl, by decide +kernel, by decide +kernel⟩
theorem kb_raised_2 (T : Tx K mg) : KwB K T.fd_raised ["number", "many", "prime"] ["prime"] 2 1 [] := bindsK T.f_raised fun _ _ _ _ _ _ us ws h1 h2 => match us, ws, h1, h2 with | [_, _], [_], _, _ => rfl
theorem ok_raised (T : Tx K mg) : FnOk P w K mg base (L2.CX P w) 5 (He.ga K "raised") T.fd_raised ["number", "many", "prime"] (spOf K 3 F_raised) :=
  mkFn (k := 4) T.f_raised sc_raised (by decide) fun cdv A outer s H E hr => show BV _ _ _ _ w_raised from
      (bv_cons (sv_expr (ev_call (ok_need_prime T) (hr.mono (by decide)) (takes_of rfl rfl rfl rfl) (by rfl) T.m_need_prime T.f_need_prime.kp (b_need_prime T) .nil (fun _ => .nil) (av_lend 2 av_nil)))
      (bv_cons (sv_set 3 sc_raised.nd ev_int)
      (bv_cons (sv_set 4 sc_raised.nd (ev_mod (pv_var 0) (pv_var 2)))
      (bv_cons (sv_set 5 sc_raised.nd (ev_var 1))
      (bv_cons (sv_wh (passes_of rfl) (tv_cmp op_gt opS_gt (pv_var 5) (pv_e ev_int) (nomark _))
      (bv_cons (sv_if (tv_cmp (op_eqD hr.units) opS_eq (pv_e (ev_mod (pv_var 5) (pv_e ev_int))) (pv_e ev_int) (nomark _))
      (bv_one (sv_set 3 sc_raised.nd (ev_mod (pv_e (ev_mul (pv_var 3) (pv_var 4))) (pv_var 2))))
      bv_nil)
      (bv_cons (sv_set 4 sc_raised.nd (ev_mod (pv_e (ev_mul (pv_var 4) (pv_var 4))) (pv_var 2)))
      (bv_one (sv_aug 5 sc_raised.nd Ls.iop_div opS_div (pv_e ev_int))))))
      (bv_one (sv_ret (ev_move 3))))))))
theorem sc_turned : FnScope N_turned ["number", "prime"] (defScope s_turned) := ⟨rfl, rfl, rfl, by decide +kernel, rfl, by decide +kernel, by decide +kernel⟩
theorem b_turned (T : Tx K mg) : Binds K T.fd_turned ["number", "prime"] [] := T.f_turned.bindsN fun _ _ _ _ _ _ us hl => match us, hl with | [_, _], _ => rfl
theorem ok_turned (T : Tx K mg) : FnOk P w K mg base (L2.CX P w) 6 (He.ga K "turned") T.fd_turned ["number", "prime"] (spOf K 2 F_turned) :=
  mkFn (k := 5) T.f_turned sc_turned (by decide) fun cdv A outer s H E hr => show BV _ _ _ _ w_turned from
      (bv_cons (sv_expr (ev_call (ok_need_prime T) (hr.mono (by decide)) (takes_of rfl rfl rfl rfl) (by rfl) T.m_need_prime T.f_need_prime.kp (b_need_prime T) .nil (fun _ => .nil) (av_lend 1 av_nil)))
      (bv_cons (sv_if (tv_cmp (op_eqD hr.units) opS_eq (pv_e (ev_mod (pv_var 0) (pv_var 1))) (pv_e ev_int) (nomark _))
      (bv_one (sv_raise0 rfl (takes_of rfl rfl rfl rfl) (rx_NoShare T (hr.mono (by decide))) (passes0 (takes_of rfl rfl rfl rfl)) (by rfl) T.m_NoShare mkr_NoShare))
      bv_nil)
      (bv_one (sv_ret (ev_callK (ok_raised T) (hr.mono (by decide)) (takes_of rfl rfl rfl rfl) (by rfl) T.m_raised T.f_raised.kp (kb_raised_2 T) .nil (fun _ => .nil) (av_lend 0 (av_cons (ev_sub (pv_var 1) (pv_e ev_int)) av_nil)) (kv_lend 1 kv_nil))))))
theorem sc_dot : FnScope N_dot ["prime", "row", "seed"] (defScope s_dot) := ⟨rfl, rfl, rfl, by decide +kernel, rfl, by decide +kernel, by decide +kernel⟩
theorem b_dot (T : Tx K mg) : Binds K T.fd_dot ["prime", "row", "seed"] [] := T.f_dot.bindsN fun _ _ _ _ _ _ us hl => match us, hl with | [_, _, _], _ => rfl
theorem ok_dot (T : Tx K mg) : FnOk P w K mg base (L2.CX P w) 1 (He.ga K "dot") T.fd_dot ["prime", "row", "seed"] (spOf K 3 F_dot) :=
  mkFn (k := 0) T.f_dot sc_dot (by decide) fun cdv A outer s H E hr => show BV _ _ _ _ w_dot from
      (bv_one (sv_ret (ev_mod (pv_e (ev_sum rfl (by rfl) T.n_sum (pv_e (ev_lc rfl sc_dot.nd (iv_zip (by rfl) T.n_zip (pv_var 1) (pv_var 2)) (blkOk_by (own := [("one", 3), ("other", 4)]) (N := N_dot) (sc := (defScope s_dot)) (by decide +kernel)) (fun _ _ _ _ _ => (gv_tup rfl (gs_cons (gv_name 3 sc_dot.nd) (gs_cons (gv_name 4 sc_dot.nd) gs_nil)))) (fun _ _ _ _ _ => (ev_mul (pv_var 3) (pv_var 4))))))) (pv_var 0))))
theorem sc_solve : FnScope N_solve ["prime", "rows", "worths"] (defScope s_solve) := ⟨rfl, rfl, rfl, by decide +kernel, rfl, by decide +kernel, by decide +kernel⟩
theorem b_solve (T : Tx K mg) : Binds K T.fd_solve ["prime", "rows", "worths"] [] := T.f_solve.bindsN fun _ _ _ _ _ _ us hl => match us, hl with | [_, _, _], _ => rfl
theorem ok_solve (T : Tx K mg) : FnOk P w K mg base (L2.CX P w) 7 (He.ga K "solve") T.fd_solve ["prime", "rows", "worths"] (spOf K 3 F_solve) :=
  mkFn (k := 6) T.f_solve sc_solve (by decide) fun cdv A outer s H E hr => show BV _ _ _ _ w_solve from
      (bv_cons (sv_expr (ev_call (ok_need_alike T) (hr.mono (by decide)) (takes_of rfl rfl rfl rfl) (by rfl) T.m_need_alike T.f_need_alike.kp (b_need_alike T) .nil (fun _ => .nil) (av_lend 0 (av_lend 1 av_nil))))
      (bv_cons (sv_expr (ev_call (ok_need_listed T) (hr.mono (by decide)) (takes_of rfl rfl rfl rfl) (by rfl) T.m_need_listed T.f_need_listed.kp (b_need_listed T) .nil (fun _ => .nil) (av_lend 0 (av_lend 2 (av_cons (ev_len (by rfl) T.n_len (pv_var 1)) av_nil)))))
      (bv_cons (sv_set 3 sc_solve.nd (ev_lst av_nil))
      (bv_cons (sv_for (Z := [1, 2]) (passes_of rfl) rfl (iv_zip (by rfl) T.n_zip (pv_var 1) (pv_var 2)) (gv_tup rfl (gs_cons (gv_name 4 sc_solve.nd) (gs_cons (gv_name 5 sc_solve.nd) gs_nil)))
      (bv_cons (sv_asg (ev_call (ok_led_off T) (hr.mono (by decide)) (takes_of rfl rfl rfl rfl) (by rfl) T.m_led_off T.f_led_off.kp (b_led_off T) .nil (fun _ => .nil) (av_lend 0 (av_lend 4 (av_lend 5 (av_lend 3 av_nil))))) (gv_tup rfl (gs_cons (gv_name 6 sc_solve.nd) (gs_cons (gv_name 7 sc_solve.nd) gs_nil))))
      (bv_cons (sv_setLcIf 8 rfl sc_solve.nd (iv_en (by rfl) T.n_enumerate (pv_var 6)) (blkOk_by (own := [("at", 11), ("number", 13)]) (N := N_solve) (sc := (defScope s_solve)) (by decide +kernel)) (fun _ _ _ _ _ => (gv_tup rfl (gs_cons (gv_name 11 sc_solve.nd) (gs_cons (gv_name 13 sc_solve.nd) gs_nil)))) (fun _ _ _ _ _ => (tv_tru (pv_var 13))) (fun _ _ _ _ _ => (ev_var 11)) (sw_true rfl rfl rfl (by decide +kernel)))
      (bv_one (sv_if (tv_tru (pv_var 8))
      (bv_cons (sv_set 9 sc_solve.nd (ev_call (ok_turned T) (hr.mono (by decide)) (takes_of rfl rfl rfl rfl) (by rfl) T.m_turned T.f_turned.kp (b_turned T) .nil (fun _ => .nil) (av_cons (ev_ix (pv_var 6) (pv_e (ev_ix (pv_var 8) (pv_e ev_int)))) (av_lend 0 av_nil))))
      (bv_one (sv_app 3 (ev_tup (av_cons (ev_ix (pv_var 8) (pv_e ev_int)) (av_cons (ev_z (ev_lc rfl sc_solve.nd (iv_seq (pv_var 6)) (blkOk_by (own := [("number", 13)]) (N := N_solve) (sc := (defScope s_solve)) (by decide +kernel)) (fun _ _ _ _ _ => (gv_name 13 sc_solve.nd)) (fun _ _ _ _ _ => (ev_mod (pv_e (ev_mul (pv_var 13) (pv_var 9))) (pv_var 0))))) (av_cons (ev_mod (pv_e (ev_mul (pv_var 7) (pv_var 9))) (pv_var 0)) av_nil)))))))
      (bv_one (sv_if (tv_tru (pv_var 7))
      (bv_one (sv_ret ev_non))
      bv_nil)))))))
      (bv_cons (sv_set 10 sc_solve.nd (ev_rep (pv_e (ev_lst (av_cons ev_int av_nil))) (pv_e (ev_len (by rfl) T.n_len (pv_e (ev_ix (pv_var 1) (pv_e ev_int)))))))
      (bv_cons (sv_for (Z := []) (passes_of rfl) rfl (iv_rev (by rfl) T.n_reversed (ev_var 3)) (gv_tup rfl (gs_cons (gv_name 11 sc_solve.nd) (gs_cons (gv_name 12 sc_solve.nd) (gs_cons (gv_name 7 sc_solve.nd) gs_nil))))
      (bv_one (sv_ix 10 (ev_mod (pv_e (ev_sub (pv_var 7) (pv_e (ev_call (ok_dot T) (hr.mono (by decide)) (takes_of rfl rfl rfl rfl) (by rfl) T.m_dot T.f_dot.kp (b_dot T) .nil (fun _ => .nil) (av_lend 0 (av_lend 12 (av_lend 10 av_nil))))))) (pv_var 0)) (pv_var 11))))
      (bv_one (sv_ret (ev_tuple (by rfl) T.n_tuple (pv_var 10))))))))))
theorem sc__law_same : FnScope N__law_same ["_law_found", "_law_due"] (defScope s__law_same) := ⟨rfl, rfl, rfl, by decide +kernel, rfl, by decide +kernel, by decide +kernel⟩
theorem b__law_same (T : Tx K mg) : Binds K T.fd__law_same ["_law_found", "_law_due"] [] := T.f__law_same.bindsN fun _ _ _ _ _ _ us hl => match us, hl with | [_, _], _ => rfl
theorem ok__law_same (T : Tx K mg) : ∀ n : Nat, FnOk P w K mg base (L2.CX P w) (1 + n) (He.ga K "_law_same") T.fd__law_same ["_law_found", "_law_due"] (spOf K 2 (F__law_same n))
  | 0 => fn_bad
  | n + 1 => by
    have ih := ok__law_same T n
    exact mkFn (k := 1 + n) T.f__law_same sc__law_same (by decide) fun cdv A outer s H E hr => show BV _ _ _ _ (w__law_same (F__law_same n)) from
      (bv_cons (sv_if (tv_val (ev_isi (T := "dict") (by rfl) T.n_isinstance (by rfl) T.n_dict (by decide +kernel) (pv_var 1)))
      bv_never
      bv_nil)
      (bv_cons (sv_if (tv_w (wv_or (tv_val (ev_isi (T := "list") (by rfl) T.n_isinstance (by rfl) T.n_list (by decide +kernel) (pv_var 1))) (wv_or1 (tv_val (ev_isi (T := "tuple") (by rfl) T.n_isinstance (by rfl) T.n_tuple (by decide +kernel) (pv_var 1))))))
      (bv_cons (sv_if (tv_w (wv_and (tv_not (tv_val (ev_isi (T := "list") (by rfl) T.n_isinstance (by rfl) T.n_list (by decide +kernel) (pv_var 0)))) (wv_and1 (tv_not (tv_val (ev_isi (T := "tuple") (by rfl) T.n_isinstance (by rfl) T.n_tuple (by decide +kernel) (pv_var 0)))))))
      (bv_one (sv_ret ev_bl))
      bv_nil)
      (bv_cons (sv_if (tv_cmp (op_neD hr.units) opS_ne (pv_e (ev_isi (T := "list") (by rfl) T.n_isinstance (by rfl) T.n_list (by decide +kernel) (pv_var 1))) (pv_e (ev_isi (T := "list") (by rfl) T.n_isinstance (by rfl) T.n_list (by decide +kernel) (pv_var 0))) (nomark _))
      (bv_one (sv_ret ev_bl))
      bv_nil)
      (bv_cons (sv_if (tv_cmp (op_neD hr.units) opS_ne (pv_e (ev_len (by rfl) T.n_len (pv_var 0))) (pv_e (ev_len (by rfl) T.n_len (pv_var 1))) (nomark _))
      (bv_one (sv_ret ev_bl))
      bv_nil)
      (bv_one (sv_ret (ev_all rfl (by rfl) T.n_all (pv_e (ev_lc rfl sc__law_same.nd (iv_rg1 (by rfl) T.n_range (pv_e (ev_len (by rfl) T.n_len (pv_var 1)))) (blkOk_by (own := [("_law_at", 4)]) (N := N__law_same) (sc := (defScope s__law_same)) (by decide +kernel)) (fun _ _ _ _ _ => (gv_name 4 sc__law_same.nd)) (fun _ _ _ _ _ => (ev_z (ev_call ih hr takes0 (by rfl) T.m__law_same T.f__law_same.kp (b__law_same T) .nil (fun _ => .nil) (av_cons (ev_ix (pv_var 0) (pv_var 4)) (av_cons (ev_ix (pv_var 1) (pv_var 4)) av_nil)))))))))))))
      bv_nil)
      (bv_cons (sv_if (tv_cmp op_isN opS_is (pv_var 1) (pv_e ev_non) (nomark _))
      (bv_one (sv_ret (ev_cmp op_isN opS_is (pv_var 0) (pv_e ev_non) (nomark _))))
      bv_nil)
      (bv_cons (sv_if (tv_cmp (op_neD hr.units) opS_ne (pv_e (ev_isi (T := "bool") (by rfl) T.n_isinstance (by rfl) T.n_bool (by decide +kernel) (pv_var 1))) (pv_e (ev_isi (T := "bool") (by rfl) T.n_isinstance (by rfl) T.n_bool (by decide +kernel) (pv_var 0))) (nomark _))
      (bv_one (sv_ret ev_bl))
      bv_nil)
      (bv_one (sv_ret (ev_and (ev_cmp (op_eqD hr.units) opS_eq (pv_e (ev_isi (T := "int") (by rfl) T.n_isinstance (by rfl) T.n_int (by decide +kernel) (pv_var 0))) (pv_e (ev_isi (T := "int") (by rfl) T.n_isinstance (by rfl) T.n_int (by decide +kernel) (pv_var 1))) (nomark _)) (ev_one (ev_cmp (op_eqD hr.units) opS_eq (pv_var 0) (pv_var 1) (nomark _))))))))))
theorem sc__law_left : FnScope N__law_left ["_law_p", "_law_steps", "_law_row_here"] (defScope s__law_left) := ⟨rfl, rfl, rfl, by decide +kernel, rfl, by decide +kernel, by decide +kernel⟩
theorem b__law_left (T : Tx K mg) : Binds K T.fd__law_left ["_law_p", "_law_steps", "_law_row_here"] [] := T.f__law_left.bindsN fun _ _ _ _ _ _ us hl => match us, hl with | [_, _, _], _ => rfl
theorem ok__law_left (T : Tx K mg) : FnOk P w K mg base (L2.CX P w) 1 (He.ga K "_law_left") T.fd__law_left ["_law_p", "_law_steps", "_law_row_here"] (spOf K 3 F__law_left) :=
  mkFn (k := 0) T.f__law_left sc__law_left (by decide) fun cdv A outer s H E hr => show BV _ _ _ _ w__law_left from
      (bv_cons (sv_set 3 sc__law_left.nd (ev_list (by rfl) T.n_list (pv_var 2)))
      (bv_cons (sv_for (Z := [1]) (passes_of rfl) rfl (iv_seq (pv_var 1)) (gv_tup rfl (gs_cons (gv_name 4 sc__law_left.nd) (gs_cons (gv_name 5 sc__law_left.nd) gs_nil)))
      (bv_cons (sv_set 6 sc__law_left.nd (ev_ix (pv_var 3) (pv_var 4)))
      (bv_one (sv_set 3 sc__law_left.nd (ev_lc rfl sc__law_left.nd (iv_rg1 (by rfl) T.n_range (pv_e (ev_len (by rfl) T.n_len (pv_var 3)))) (blkOk_by (own := [("_law_k", 7)]) (N := N__law_left) (sc := (defScope s__law_left)) (by decide +kernel)) (fun _ _ _ _ _ => (gv_name 7 sc__law_left.nd)) (fun _ _ _ _ _ => (ev_mod (pv_e (ev_sub (pv_e (ev_ix (pv_var 3) (pv_var 7))) (pv_e (ev_mul (pv_var 6) (pv_e (ev_ix (pv_var 5) (pv_var 7))))))) (pv_var 0))))))))
      (bv_one (sv_ret (ev_move 3)))))
theorem sc__law_inverse : FnScope N__law_inverse ["_law_p", "_law_number"] (defScope s__law_inverse) := ⟨rfl, rfl, rfl, by decide +kernel, rfl, by decide +kernel, by decide +kernel⟩
theorem b__law_inverse (T : Tx K mg) : Binds K T.fd__law_inverse ["_law_p", "_law_number"] [] := T.f__law_inverse.bindsN fun _ _ _ _ _ _ us hl => match us, hl with | [_, _], _ => rfl
theorem ok__law_inverse (T : Tx K mg) : FnOk P w K mg base (L2.CX P w) 1 (He.ga K "_law_inverse") T.fd__law_inverse ["_law_p", "_law_number"] (spOf K 2 F__law_inverse) :=
  mkFn (k := 0) T.f__law_inverse sc__law_inverse (by decide) fun cdv A outer s H E hr => show BV _ _ _ _ w__law_inverse from
      (bv_cons (sv_for (Z := []) (passes_of rfl) rfl (iv_rg2 (by rfl) T.n_range (pv_e ev_int) (pv_var 0)) (gv_name 2 sc__law_inverse.nd)
      (bv_one (sv_if (tv_cmp (op_eqD hr.units) opS_eq (pv_e (ev_mod (pv_e (ev_mul (pv_var 2) (pv_var 1))) (pv_var 0))) (pv_e ev_int) (nomark _))
      (bv_one (sv_ret (ev_move 2)))
      bv_nil)))
      (bv_one (sv_ret ev_int)))
theorem sc__law_stepped : FnScope N__law_stepped ["_law_p", "_law_steps", "_law_row_here"] (defScope s__law_stepped) := ⟨rfl, rfl, rfl, by decide +kernel, rfl, by decide +kernel, by decide +kernel⟩
theorem b__law_stepped (T : Tx K mg) : Binds K T.fd__law_stepped ["_law_p", "_law_steps", "_law_row_here"] [] := T.f__law_stepped.bindsN fun _ _ _ _ _ _ us hl => match us, hl with | [_, _, _], _ => rfl
theorem ok__law_stepped (T : Tx K mg) : FnOk P w K mg base (L2.CX P w) 2 (He.ga K "_law_stepped") T.fd__law_stepped ["_law_p", "_law_steps", "_law_row_here"] (spOf K 3 F__law_stepped) :=
  mkFn (k := 1) T.f__law_stepped sc__law_stepped (by decide) fun cdv A outer s H E hr => show BV _ _ _ _ w__law_stepped from
      (bv_cons (sv_set 3 sc__law_stepped.nd (ev_call (ok__law_left T) (hr.mono (by decide)) (takes_of rfl rfl rfl rfl) (by rfl) T.m__law_left T.f__law_left.kp (b__law_left T) .nil (fun _ => .nil) (av_lend 0 (av_lend 1 (av_lend 2 av_nil)))))
      (bv_cons (sv_setLcIf 4 rfl sc__law_stepped.nd (iv_rg1 (by rfl) T.n_range (pv_e (ev_len (by rfl) T.n_len (pv_var 3)))) (blkOk_by (own := [("_law_k", 6)]) (N := N__law_stepped) (sc := (defScope s__law_stepped)) (by decide +kernel)) (fun _ _ _ _ _ => (gv_name 6 sc__law_stepped.nd)) (fun _ _ _ _ _ => (tv_cmp (op_neD hr.units) opS_ne (pv_e (ev_ix (pv_var 3) (pv_var 6))) (pv_e ev_int) (nomark _))) (fun _ _ _ _ _ => (ev_var 6)) (sw_true rfl rfl rfl (by decide +kernel)))
      (bv_cons (sv_if (tv_cmp (op_eqD hr.units) opS_eq (pv_var 4) (pv_e (ev_lst av_nil)) (nomark _))
      (bv_one (sv_ret (ev_var 1)))
      bv_nil)
      (bv_cons (sv_set 5 sc__law_stepped.nd (ev_call (ok__law_inverse T) (hr.mono (by decide)) (takes_of rfl rfl rfl rfl) (by rfl) T.m__law_inverse T.f__law_inverse.kp (b__law_inverse T) .nil (fun _ => .nil) (av_lend 0 (av_cons (ev_ix (pv_var 3) (pv_e (ev_ix (pv_var 4) (pv_e ev_int)))) av_nil))))
      (bv_one (sv_ret (ev_cat (pv_var 1) (pv_e (ev_lst (av_cons (ev_tup (av_cons (ev_ix (pv_var 4) (pv_e ev_int)) (av_cons (ev_z (ev_lc rfl sc__law_stepped.nd (iv_seq (pv_var 3)) (blkOk_by (own := [("_law_one", 7)]) (N := N__law_stepped) (sc := (defScope s__law_stepped)) (by decide +kernel)) (fun _ _ _ _ _ => (gv_name 7 sc__law_stepped.nd)) (fun _ _ _ _ _ => (ev_mod (pv_e (ev_mul (pv_var 7) (pv_var 5))) (pv_var 0))))) av_nil))) av_nil))))))))))
theorem sc__law_fresh : FnScope N__law_fresh ["_law_p", "_law_rows_here"] (defScope s__law_fresh) := ⟨rfl, rfl, rfl, by decide +kernel, rfl, by decide +kernel, by decide +kernel⟩
theorem b__law_fresh (T : Tx K mg) : Binds K T.fd__law_fresh ["_law_p", "_law_rows_here"] [] := T.f__law_fresh.bindsN fun _ _ _ _ _ _ us hl => match us, hl with | [_, _], _ => rfl
theorem ok__law_fresh (T : Tx K mg) : FnOk P w K mg base (L2.CX P w) 3 (He.ga K "_law_fresh") T.fd__law_fresh ["_law_p", "_law_rows_here"] (spOf K 2 F__law_fresh) :=
  mkFn (k := 2) T.f__law_fresh sc__law_fresh (by decide) fun cdv A outer s H E hr => show BV _ _ _ _ w__law_fresh from
      (bv_cons (sv_set 2 sc__law_fresh.nd (ev_lst av_nil))
      (bv_cons (sv_set 3 sc__law_fresh.nd (ev_lst av_nil))
      (bv_cons (sv_for (Z := []) (passes_of rfl) rfl (iv_rg1 (by rfl) T.n_range (pv_e (ev_len (by rfl) T.n_len (pv_var 1)))) (gv_name 4 sc__law_fresh.nd)
      (bv_cons (sv_set 5 sc__law_fresh.nd (ev_call (ok__law_stepped T) (hr.mono (by decide)) (takes_of rfl rfl rfl rfl) (by rfl) T.m__law_stepped T.f__law_stepped.kp (b__law_stepped T) .nil (fun _ => .nil) (av_lend 0 (av_lend 2 (av_cons (ev_ix (pv_var 1) (pv_var 4)) av_nil)))))
      (bv_cons (sv_if (tv_cmp op_gt opS_gt (pv_e (ev_len (by rfl) T.n_len (pv_var 5))) (pv_e (ev_len (by rfl) T.n_len (pv_var 2))) (nomark _))
      (bv_one (sv_app 3 (ev_var 4)))
      bv_nil)
      (bv_one (sv_set 2 sc__law_fresh.nd (ev_var 5))))))
      (bv_one (sv_ret (ev_move 3))))))
theorem sc__law_worths_fit : FnScope N__law_worths_fit ["_law_p", "_law_rows_here", "_law_worths"] (defScope s__law_worths_fit) := ⟨rfl, rfl, rfl, by decide +kernel, rfl, by decide +kernel, by decide +kernel⟩
theorem b__law_worths_fit (T : Tx K mg) : Binds K T.fd__law_worths_fit ["_law_p", "_law_rows_here", "_law_worths"] [] := T.f__law_worths_fit.bindsN fun _ _ _ _ _ _ us hl => match us, hl with | [_, _, _], _ => rfl
theorem ok__law_worths_fit (T : Tx K mg) : FnOk P w K mg base (L2.CX P w) 4 (He.ga K "_law_worths_fit") T.fd__law_worths_fit ["_law_p", "_law_rows_here", "_law_worths"] (spOf K 3 F__law_worths_fit) :=
  mkFn (k := 3) T.f__law_worths_fit sc__law_worths_fit (by decide) fun cdv A outer s H E hr => show BV _ _ _ _ w__law_worths_fit from
      (bv_cons (sv_setLc 3 rfl sc__law_worths_fit.nd (iv_zip (by rfl) T.n_zip (pv_var 1) (pv_var 2)) (blkOk_by (own := [("_law_row_here", 4), ("_law_worth", 5)]) (N := N__law_worths_fit) (sc := (defScope s__law_worths_fit)) (by decide +kernel)) (fun _ _ _ _ _ => (gv_tup rfl (gs_cons (gv_name 4 sc__law_worths_fit.nd) (gs_cons (gv_name 5 sc__law_worths_fit.nd) gs_nil)))) (fun _ _ _ _ _ => (ev_z (ev_catT (pv_var 4) (pv_e (ev_tup (av_cons (ev_var 5) av_nil)))))) (sw_true rfl rfl rfl (by decide +kernel)))
      (bv_one (sv_ret (ev_cmp (op_eqD hr.units) opS_eq (pv_e (ev_len (by rfl) T.n_len (pv_e (ev_call (ok__law_fresh T) (hr.mono (by decide)) (takes_of rfl rfl rfl rfl) (by rfl) T.m__law_fresh T.f__law_fresh.kp (b__law_fresh T) .nil (fun _ => .nil) (av_lend 0 (av_lend 3 av_nil)))))) (pv_e (ev_len (by rfl) T.n_len (pv_e (ev_call (ok__law_fresh T) (hr.mono (by decide)) (takes_of rfl rfl rfl rfl) (by rfl) T.m__law_fresh T.f__law_fresh.kp (b__law_fresh T) .nil (fun _ => .nil) (av_lend 0 (av_lend 1 av_nil)))))) (nomark _)))))
theorem sc_at_seed : FnScope N_at_seed ["prime", "row", "seed"] (defScope s_at_seed) := ⟨rfl, rfl, rfl, by decide +kernel, rfl, by decide +kernel, by decide +kernel⟩
theorem b_at_seed (T : Tx K mg) : Binds K T.fd_at_seed ["prime", "row", "seed"] [] := T.f_at_seed.bindsN fun _ _ _ _ _ _ us hl => match us, hl with | [_, _, _], _ => rfl
theorem ok_at_seed (T : Tx K mg) : FnOk P w K mg base (L2.CX P w) 6 (He.ga K "at_seed") T.fd_at_seed ["prime", "row", "seed"] (spOf K 3 F_at_seed) :=
  mkFn (k := 5) T.f_at_seed sc_at_seed (by decide) fun cdv A outer s H E hr => show BV _ _ _ _ w_at_seed from
      (bv_cons (sv_expr (ev_call (ok_need_alike T) (hr.mono (by decide)) (takes_of rfl rfl rfl rfl) (by rfl) T.m_need_alike T.f_need_alike.kp (b_need_alike T) .nil (fun _ => .nil) (av_lend 0 (av_cons (ev_lst (av_cons (ev_var 1) (av_cons (ev_var 2) av_nil))) av_nil))))
      (bv_one (sv_ret (ev_call (ok_dot T) (hr.mono (by decide)) (takes_of rfl rfl rfl rfl) (by rfl) T.m_dot T.f_dot.kp (b_dot T) .nil (fun _ => .nil) (av_lend 0 (av_lend 1 (av_lend 2 av_nil)))))))
theorem sc__law_all_seeds : FnScope N__law_all_seeds ["_law_p", "_law_size"] (defScope s__law_all_seeds) := ⟨rfl, rfl, rfl, by decide +kernel, rfl, by decide +kernel, by decide +kernel⟩
theorem b__law_all_seeds (T : Tx K mg) : Binds K T.fd__law_all_seeds ["_law_p", "_law_size"] [] := T.f__law_all_seeds.bindsN fun _ _ _ _ _ _ us hl => match us, hl with | [_, _], _ => rfl
theorem ok__law_all_seeds (T : Tx K mg) : FnOk P w K mg base (L2.CX P w) 1 (He.ga K "_law_all_seeds") T.fd__law_all_seeds ["_law_p", "_law_size"] (spOf K 2 F__law_all_seeds) :=
  mkFn (k := 0) T.f__law_all_seeds sc__law_all_seeds (by decide) fun cdv A outer s H E hr => show BV _ _ _ _ w__law_all_seeds from
      (bv_cons (sv_set 2 sc__law_all_seeds.nd (ev_lst (av_cons (ev_tup av_nil) av_nil)))
      (bv_cons (sv_for (Z := []) (passes_of rfl) rfl (iv_rg1 (by rfl) T.n_range (pv_var 1)) (gv_name 3 sc__law_all_seeds.nd)
      (bv_cons (sv_set 4 sc__law_all_seeds.nd (ev_lst av_nil))
      (bv_cons (sv_for (Z := [2]) (passes_of rfl) rfl (iv_seq (pv_var 2)) (gv_name 5 sc__law_all_seeds.nd)
      (bv_one (sv_set 4 sc__law_all_seeds.nd (ev_cat (pv_var 4) (pv_e (ev_lc rfl sc__law_all_seeds.nd (iv_rg1 (by rfl) T.n_range (pv_var 0)) (blkOk_by (own := [("_law_one", 6)]) (N := N__law_all_seeds) (sc := (defScope s__law_all_seeds)) (by decide +kernel)) (fun _ _ _ _ _ => (gv_name 6 sc__law_all_seeds.nd)) (fun _ _ _ _ _ => (ev_z (ev_catT (pv_var 5) (pv_e (ev_tup (av_cons (ev_var 6) av_nil))))))))))))
      (bv_one (sv_set 2 sc__law_all_seeds.nd (ev_var 4))))))
      (bv_one (sv_ret (ev_move 2)))))
theorem sc__law_all_due : FnScope N__law_all_due ["_law_p", "_law_size"] (defScope s__law_all_due) := ⟨rfl, rfl, rfl, by decide +kernel, rfl, by decide +kernel, by decide +kernel⟩
theorem b__law_all_due (T : Tx K mg) : Binds K T.fd__law_all_due ["_law_p", "_law_size"] [] := T.f__law_all_due.bindsN fun _ _ _ _ _ _ us hl => match us, hl with | [_, _], _ => rfl
theorem ok__law_all_due (T : Tx K mg) : FnOk P w K mg base (L2.CX P w) 2 (He.ga K "_law_all_due") T.fd__law_all_due ["_law_p", "_law_size"] (spOf K 2 F__law_all_due) :=
  mkFn (k := 1) T.f__law_all_due sc__law_all_due (by decide) fun cdv A outer s H E hr => show BV _ _ _ _ w__law_all_due from
      (bv_cons (sv_if (tv_not (tv_chain op_le op_le opS_le opS_le (pv_e ev_int) (pv_var 1) (pv_e ev_int)))
      (bv_one (sv_ret ev_str))
      bv_nil)
      (bv_cons (sv_set 2 sc__law_all_due.nd ev_int)
      (bv_cons (sv_for (Z := []) (passes_of rfl) rfl (iv_rg1 (by rfl) T.n_range (pv_var 1)) (gv_name 3 sc__law_all_due.nd)
      (bv_one (sv_set 2 sc__law_all_due.nd (ev_mul (pv_var 2) (pv_var 0)))))
      (bv_one (sv_ret (ev_if (tv_cmp op_gt opS_gt (pv_var 2) (pv_e ev_int) (nomark _)) (ev_tup (av_cons ev_str (av_cons (ev_var 2) av_nil))) (ev_call (ok__law_all_seeds T) (hr.mono (by decide)) (takes_of rfl rfl rfl rfl) (by rfl) T.m__law_all_seeds T.f__law_all_seeds.kp (b__law_all_seeds T) .nil (fun _ => .nil) (av_lend 0 (av_lend 1 av_nil)))))))))
theorem sc_raised_to : FnScope N_raised_to ["number", "many"] (defScope s_raised_to) := ⟨rfl, rfl, rfl, by decide +kernel, rfl, by decide +kernel, by decide +kernel⟩
theorem b_raised_to (T : Tx K mg) : Binds K T.fd_raised_to ["number", "many"] [] := T.f_raised_to.bindsN fun _ _ _ _ _ _ us hl => match us, hl with | [_, _], _ => rfl
theorem ok_raised_to (T : Tx K mg) : FnOk P w K mg base (L2.CX P w) 1 (He.ga K "raised_to") T.fd_raised_to ["number", "many"] (spOf K 2 F_raised_to) :=
  mkFn (k := 0) T.f_raised_to sc_raised_to (by decide) fun cdv A outer s H E hr => show BV _ _ _ _ w_raised_to from
      (bv_cons (sv_set 2 sc_raised_to.nd ev_int)
      (bv_cons (sv_for (Z := []) (passes_of rfl) rfl (iv_rg1 (by rfl) T.n_range (pv_var 1)) (gv_name 3 sc_raised_to.nd)
      (bv_one (sv_aug 2 sc_raised_to.nd Ls.iop_mul opS_mul (pv_var 0))))
      (bv_one (sv_ret (ev_move 2)))))
theorem sc_digits : FnScope N_digits ["number", "many", "prime"] (defScope s_digits) := ⟨rfl, rfl, rfl, by decide +kernel, rfl, by decide +kernel, by decide +kernel⟩
theorem kb_digits_2 (T : Tx K mg) : KwB K T.fd_digits ["number", "many", "prime"] ["prime"] 2 1 [] := bindsK T.f_digits fun _ _ _ _ _ _ us ws h1 h2 => match us, ws, h1, h2 with | [_, _], [_], _, _ => rfl
theorem ok_digits (T : Tx K mg) : FnOk P w K mg base (L2.CX P w) 5 (He.ga K "digits") T.fd_digits ["number", "many", "prime"] (spOf K 3 F_digits) :=
  mkFn (k := 4) T.f_digits sc_digits (by decide) fun cdv A outer s H E hr => show BV _ _ _ _ w_digits from
      (bv_cons (sv_expr (ev_call (ok_need_prime T) (hr.mono (by decide)) (takes_of rfl rfl rfl rfl) (by rfl) T.m_need_prime T.f_need_prime.kp (b_need_prime T) .nil (fun _ => .nil) (av_lend 2 av_nil)))
      (bv_cons (sv_set 3 sc_digits.nd (ev_lst av_nil))
      (bv_cons (sv_set 4 sc_digits.nd (ev_var 0))
      (bv_cons (sv_for (Z := []) (passes_of rfl) rfl (iv_rg1 (by rfl) T.n_range (pv_var 1)) (gv_name 5 sc_digits.nd)
      (bv_cons (sv_app 3 (ev_mod (pv_var 4) (pv_var 2)))
      (bv_one (sv_aug 4 sc_digits.nd Ls.iop_div opS_div (pv_var 2)))))
      (bv_cons (sv_if (tv_w (wv_or (tv_cmp op_lt opS_lt (pv_var 0) (pv_e ev_int) (nomark _)) (wv_or1 (tv_cmp op_gt opS_gt (pv_var 4) (pv_e ev_int) (nomark _)))))
      (bv_one (sv_raise0 rfl (takes_of rfl rfl rfl rfl) (rx_BadNumber T (hr.mono (by decide))) (passes0 (takes_of rfl rfl rfl rfl)) (by rfl) T.m_BadNumber mkr_BadNumber))
      bv_nil)
      (bv_one (sv_ret (ev_rev (pv_var 3)))))))))
theorem sc_each_seed : FnScope N_each_seed ["prime", "size"] (defScope s_each_seed) := ⟨rfl, rfl, rfl, by decide +kernel, rfl, by decide +kernel, by decide +kernel⟩
theorem b_each_seed (T : Tx K mg) : Binds K T.fd_each_seed ["prime", "size"] [] := T.f_each_seed.bindsN fun _ _ _ _ _ _ us hl => match us, hl with | [_, _], _ => rfl
theorem ok_each_seed (T : Tx K mg) : FnOk P w K mg base (L2.CX P w) 6 (He.ga K "each_seed") T.fd_each_seed ["prime", "size"] (spOf K 2 F_each_seed) :=
  mkFn (k := 5) T.f_each_seed sc_each_seed (by decide) fun cdv A outer s H E hr => show BV _ _ _ _ w_each_seed from
      (bv_cons (sv_expr (ev_call (ok_need_prime T) (hr.mono (by decide)) (takes_of rfl rfl rfl rfl) (by rfl) T.m_need_prime T.f_need_prime.kp (b_need_prime T) .nil (fun _ => .nil) (av_lend 0 av_nil)))
      (bv_cons (sv_if (tv_not (tv_val (ev_call (ok_is_within T) (hr.mono (by decide)) (takes_of rfl rfl rfl rfl) (by rfl) T.m_is_within T.f_is_within.kp (b_is_within T) .nil (fun _ => .nil) (av_lend 1 (av_cons ev_int (av_cons (T.c_MOST_SIZE.elim fun t h => ev_glob (v := .int 12) (by rfl) h ⟨t, rfl⟩ (fun _ => .int 12)) av_nil))))))
      (bv_one (sv_raise0 rfl (takes_of rfl rfl rfl rfl) (rx_BadNumber T (hr.mono (by decide))) (passes0 (takes_of rfl rfl rfl rfl)) (by rfl) T.m_BadNumber mkr_BadNumber))
      bv_nil)
      (bv_cons (sv_set 2 sc_each_seed.nd (ev_call (ok_raised_to T) (hr.mono (by decide)) (takes_of rfl rfl rfl rfl) (by rfl) T.m_raised_to T.f_raised_to.kp (b_raised_to T) .nil (fun _ => .nil) (av_lend 0 (av_lend 1 av_nil))))
      (bv_cons (sv_if (tv_cmp op_gt opS_gt (pv_var 2) (pv_e (T.c_MOST_ALL.elim fun t h => ev_glob (v := .int 4096) (by rfl) h ⟨t, rfl⟩ (fun _ => .int 4096))) (nomark _))
      (bv_one (sv_raise rfl (takes_of rfl rfl rfl rfl) (rx_TooWide T (hr.mono (by decide))) (passes0 (takes_of rfl rfl rfl rfl)) (by rfl) T.m_TooWide mkr_TooWide (av_cons (ev_var 2) av_nil)))
      bv_nil)
      (bv_one (sv_ret (ev_lc rfl sc_each_seed.nd (iv_rg1 (by rfl) T.n_range (pv_var 2)) (blkOk_by (own := [("number", 3)]) (N := N_each_seed) (sc := (defScope s_each_seed)) (by decide +kernel)) (fun _ _ _ _ _ => (gv_name 3 sc_each_seed.nd)) (fun _ _ _ _ _ => (ev_tuple (by rfl) T.n_tuple (pv_e (ev_callK (ok_digits T) (hr.mono (by decide)) takes0 (by rfl) T.m_digits T.f_digits.kp (kb_digits_2 T) .nil (fun _ => .nil) (av_lend 3 (av_lend 1 av_nil)) (kv_lend 0 kv_nil))))))))))))
theorem sc__law_all_told : FnScope N__law_all_told ["_law_p", "_law_size"] (defScope s__law_all_told) := ⟨rfl, rfl, rfl, by decide +kernel, rfl, by decide +kernel, by decide +kernel⟩
theorem b__law_all_told (T : Tx K mg) : Binds K T.fd__law_all_told ["_law_p", "_law_size"] [] := T.f__law_all_told.bindsN fun _ _ _ _ _ _ us hl => match us, hl with | [_, _], _ => rfl
theorem ok__law_all_told (T : Tx K mg) : FnOk P w K mg base (L2.CX P w) 7 (He.ga K "_law_all_told") T.fd__law_all_told ["_law_p", "_law_size"] (spOf K 2 F__law_all_told) :=
  mkFn (k := 6) T.f__law_all_told sc__law_all_told (by decide) fun cdv A outer s H E hr => show BV _ _ _ _ w__law_all_told from
      (bv_one (sv_try rfl rfl sc__law_all_told.nd (takes_of rfl rfl rfl rfl) (fun W2 pn xe tk po =>
      (bv_one (sv_ret (ev_call (ok_each_seed T) (hr.mono (by decide)) tk (by rfl) T.m_each_seed T.f_each_seed.kp (b_each_seed T) .nil (fun _ => .nil) (av_lend 0 (av_lend 1 av_nil))))))
      (.named (test_name ⟨by rfl, by decide, .inl T.m_TooWide⟩) (mtab_ok T.mt_TooWide) rfl rfl (by decide) (fun a oe cls d pn hz hf => (bv_one (sv_ret (ev_tup (av_cons ev_str (av_cons (ev_z (ev_xf 2 hz hf T.kn_ways)) av_nil))))))
      (.named (test_name ⟨by rfl, by decide, .inl T.m_BadNumber⟩) (mtab_ok T.mt_BadNumber) rfl rfl (by decide) (fun a oe cls d pn hz hf => (bv_one (sv_ret (ev_xf 2 hz hf T.kn_word))))
      (.named (test_name ⟨by rfl, by decide, .inl T.m_BadPrime⟩) (mtab_ok T.mt_BadPrime) rfl rfl (by decide) (fun a oe cls d pn hz hf => (bv_one (sv_ret (ev_xf 2 hz hf T.kn_word))))
      .nil)))))
theorem sc__law_told_anew : FnScope N__law_told_anew ["_law_p"] (defScope s__law_told_anew) := ⟨rfl, rfl, rfl, by decide +kernel, rfl, by decide +kernel, by decide +kernel⟩
theorem b__law_told_anew (T : Tx K mg) : Binds K T.fd__law_told_anew ["_law_p"] [] := T.f__law_told_anew.bindsN fun _ _ _ _ _ _ us hl => match us, hl with | [_], _ => rfl
theorem ok__law_told_anew (T : Tx K mg) : FnOk P w K mg base (L2.CX P w) 8 (He.ga K "_law_told_anew") T.fd__law_told_anew ["_law_p"] (spOf K 1 F__law_told_anew) :=
  mkFn (k := 7) T.f__law_told_anew sc__law_told_anew (by decide) fun cdv A outer s H E hr => show BV _ _ _ _ w__law_told_anew from
      (bv_cons (sv_set 1 sc__law_told_anew.nd (ev_call (ok_each_seed T) (hr.mono (by decide)) (takes_of rfl rfl rfl rfl) (by rfl) T.m_each_seed T.f_each_seed.kp (b_each_seed T) .nil (fun _ => .nil) (av_lend 0 (av_cons ev_int av_nil))))
      (bv_cons (sv_app 1 ev_int)
      (bv_cons (sv_clr 1)
      (bv_one (sv_ret (ev_call (ok__law_same T 4) (hr.mono (by decide)) (takes_of rfl rfl rfl rfl) (by rfl) T.m__law_same T.f__law_same.kp (b__law_same T) .nil (fun _ => .nil) (av_cons (ev_lst (av_cons (ev_z (ev_call (ok_each_seed T) (hr.mono (by decide)) (takes_of rfl rfl rfl rfl) (by rfl) T.m_each_seed T.f_each_seed.kp (b_each_seed T) .nil (fun _ => .nil) (av_lend 0 (av_cons ev_int av_nil)))) (av_cons (ev_z (ev_call (ok__law_all_told T) (hr.mono (by decide)) (takes_of rfl rfl rfl rfl) (by rfl) T.m__law_all_told T.f__law_all_told.kp (b__law_all_told T) .nil (fun _ => .nil) (av_lend 0 (av_cons ev_bl av_nil)))) av_nil))) (av_cons (ev_lst (av_cons (ev_z (ev_lc rfl sc__law_told_anew.nd (iv_rg1 (by rfl) T.n_range (pv_var 0)) (blkOk_by (own := [("_law_k", 2)]) (N := N__law_told_anew) (sc := (defScope s__law_told_anew)) (by decide +kernel)) (fun _ _ _ _ _ => (gv_name 2 sc__law_told_anew.nd)) (fun _ _ _ _ _ => (ev_tup (av_cons (ev_var 2) av_nil))))) (av_cons ev_str av_nil))) av_nil))))))))
theorem sc__law_strange_prime : FnScope N__law_strange_prime ["_law_bag_here"] (defScope s__law_strange_prime) := ⟨rfl, rfl, rfl, by decide +kernel, rfl, by decide +kernel, by decide +kernel⟩
theorem b__law_strange_prime (T : Tx K mg) : Binds K T.fd__law_strange_prime ["_law_bag_here"] [] := T.f__law_strange_prime.bindsN fun _ _ _ _ _ _ us hl => match us, hl with | [_], _ => rfl
theorem ok__law_strange_prime (T : Tx K mg) : FnOk P w K mg base (L2.CX P w) 3 (He.ga K "_law_strange_prime") T.fd__law_strange_prime ["_law_bag_here"] (spOf K 1 F__law_strange_prime) :=
  mkFn (k := 2) T.f__law_strange_prime sc__law_strange_prime (by decide) fun cdv A outer s H E hr => show BV _ _ _ _ w__law_strange_prime from
      (bv_one (sv_ret (ev_call (ok__law_pick T) (hr.mono (by decide)) (takes_of rfl rfl rfl rfl) (by rfl) T.m__law_pick T.f__law_pick.kp (b__law_pick T) .nil (fun _ => .nil) (av_late 0 (av_cons (ev_lst (av_cons ev_int (av_cons ev_int (av_cons ev_int (av_cons ev_int (av_cons ev_int (av_cons ev_int (av_cons ev_int (av_cons ev_int (av_cons (ev_neg (pv_e ev_int)) (av_cons (ev_neg (pv_e ev_int)) (av_cons ev_int (av_cons (ev_add (pv_e ev_int) (pv_e (ev_mul (pv_e ev_int) (pv_e (ev_add (pv_e ev_int) (pv_e (ev_call (ok__law_pull T) (hr.mono (by decide)) (takes_of rfl rfl rfl rfl) (by rfl) T.m__law_pull T.f__law_pull.kp (b__law_pull T) .nil (fun _ => .nil) (av_lend 0 (av_cons (ev_pow (pv_e ev_int) (pv_e ev_int)) av_nil))))))))) av_nil))))))))))))) av_nil)))))
theorem sc_law : FnScope N_law ["_law_script"] (defScope s_law) := ⟨rfl, rfl, rfl, by decide +kernel, rfl, by decide +kernel, by decide +kernel⟩
theorem b_law (T : Tx K mg) : Binds K T.fd_law ["_law_script"] [] := T.f_law.bindsN fun _ _ _ _ _ _ us hl => match us, hl with | [_], _ => rfl
theorem ok_law (T : Tx K mg) : FnOk P w K mg base (L2.CX P w) 9 (He.ga K "law") T.fd_law ["_law_script"] (spOf K 1 F_law) :=
  mkFn (k := 8) T.f_law sc_law (by decide) fun cdv A outer s H E hr => show BV _ _ _ _ w_law from
      (bv_cons (sv_set 1 sc_law.nd (ev_call (ok__law_bag T) (hr.mono (by decide)) (takes_of rfl rfl rfl rfl) (by rfl) T.m__law_bag T.f__law_bag.kp (b__law_bag T) .nil (fun _ => .nil) (av_lend 0 av_nil)))
      (bv_cons (sv_set 2 sc_law.nd (ev_call (ok__law_prime T) (hr.mono (by decide)) (takes_of rfl rfl rfl rfl) (by rfl) T.m__law_prime T.f__law_prime.kp (b__law_prime T) .nil (fun _ => .nil) (av_lend 1 av_nil)))
      (bv_cons (sv_set 3 sc_law.nd (ev_add (pv_e ev_int) (pv_e (ev_call (ok__law_pull T) (hr.mono (by decide)) (takes_of rfl rfl rfl rfl) (by rfl) T.m__law_pull T.f__law_pull.kp (b__law_pull T) .nil (fun _ => .nil) (av_lend 1 (av_cons ev_int av_nil))))))
      (bv_cons (sv_set 4 sc_law.nd (ev_cat (pv_e (ev_lst (av_cons (ev_z (ev_call (ok__law_row T) (hr.mono (by decide)) (takes_of rfl rfl rfl rfl) (by rfl) T.m__law_row T.f__law_row.kp (b__law_row T) .nil (fun _ => .nil) (av_lend 1 (av_lend 2 (av_lend 3 av_nil))))) av_nil))) (pv_e (ev_call (ok__law_rows T) (hr.mono (by decide)) (takes_of rfl rfl rfl rfl) (by rfl) T.m__law_rows T.f__law_rows.kp (b__law_rows T) .nil (fun _ => .nil) (av_lend 1 (av_lend 2 (av_lend 3 (av_cons ev_int av_nil))))))))
      (bv_cons (sv_setLc 5 rfl sc_law.nd (iv_seq (pv_var 4)) (blkOk_by (own := [("_law_row_here", 9)]) (N := N_law) (sc := (defScope s_law)) (by decide +kernel)) (fun _ _ _ _ _ => (gv_name 9 sc_law.nd)) (fun _ _ _ _ _ => (ev_z (ev_call (ok__law_pull T) (hr.mono (by decide)) takes0 (by rfl) T.m__law_pull T.f__law_pull.kp (b__law_pull T) .nil (fun _ => .nil) (av_lend 1 (av_lend 2 av_nil))))) (sw_true rfl rfl rfl (by decide +kernel)))
      (bv_cons (sv_if (tv_cmp (op_eqD hr.units) opS_eq (pv_e (ev_call (ok__law_pull T) (hr.mono (by decide)) (takes_of rfl rfl rfl rfl) (by rfl) T.m__law_pull T.f__law_pull.kp (b__law_pull T) .nil (fun _ => .nil) (av_lend 1 (av_cons ev_int av_nil)))) (pv_e ev_int) (nomark _))
      (bv_cons (sv_set 6 sc_law.nd (ev_call (ok__law_row T) (hr.mono (by decide)) (takes_of rfl rfl rfl rfl) (by rfl) T.m__law_row T.f__law_row.kp (b__law_row T) .nil (fun _ => .nil) (av_lend 1 (av_lend 2 (av_lend 3 av_nil)))))
      (bv_one (sv_setLc 5 rfl sc_law.nd (iv_seq (pv_var 4)) (blkOk_by (own := [("_law_row_here", 9)]) (N := N_law) (sc := (defScope s_law)) (by decide +kernel)) (fun _ _ _ _ _ => (gv_name 9 sc_law.nd)) (fun _ _ _ _ _ => (ev_z (ev_call (ok__law_dot T) (hr.mono (by decide)) takes0 (by rfl) T.m__law_dot T.f__law_dot.kp (b__law_dot T) .nil (fun _ => .nil) (av_lend 2 (av_lend 9 (av_lend 6 av_nil)))))) (sw_true rfl rfl rfl (by decide +kernel)))))
      bv_nil)
      (bv_cons (sv_set 7 sc_law.nd (ev_lst (av_cons (ev_z (ev_list (by rfl) T.n_list (pv_var 4))) (av_cons (ev_z (ev_list (by rfl) T.n_list (pv_var 5))) av_nil))))
      (bv_cons (sv_set 8 sc_law.nd (ev_call (ok_solve T) (hr.mono (by decide)) (takes_of rfl rfl rfl rfl) (by rfl) T.m_solve T.f_solve.kp (b_solve T) .nil (fun _ => .nil) (av_lend 2 (av_cons (ev_ix (pv_var 7) (pv_e ev_int)) (av_cons (ev_ix (pv_var 7) (pv_e ev_int)) av_nil)))))
      (bv_cons (sv_if (tv_not (tv_val (ev_call (ok__law_same T 4) (hr.mono (by decide)) (takes_of rfl rfl rfl rfl) (by rfl) T.m__law_same T.f__law_same.kp (b__law_same T) .nil (fun _ => .nil) (av_lend 7 (av_cons (ev_lst (av_cons (ev_var 4) (av_cons (ev_var 5) av_nil))) av_nil)))))
      (bv_one (sv_ret ev_bl))
      bv_nil)
      (bv_cons (sv_if (tv_not (tv_val (ev_call (ok__law_worths_fit T) (hr.mono (by decide)) (takes_of rfl rfl rfl rfl) (by rfl) T.m__law_worths_fit T.f__law_worths_fit.kp (b__law_worths_fit T) .nil (fun _ => .nil) (av_lend 2 (av_lend 4 (av_lend 5 av_nil))))))
      (bv_one (sv_if (tv_cmp op_notN opS_isNot (pv_var 8) (pv_e ev_non) (nomark _))
      (bv_one (sv_ret ev_bl))
      bv_nil))
      (bv_cons (sv_if (tv_w (wv_or (tv_not (tv_val (ev_isi (T := "tuple") (by rfl) T.n_isinstance (by rfl) T.n_tuple (by decide +kernel) (pv_var 8)))) (wv_or1 (tv_cmp (op_neD hr.units) opS_ne (pv_e (ev_len (by rfl) T.n_len (pv_var 8))) (pv_var 3) (nomark _)))))
      (bv_one (sv_ret ev_bl))
      bv_nil)
      (bv_cons (sv_if (tv_val (ev_any rfl (by rfl) T.n_any (pv_e (ev_lc rfl sc_law.nd (iv_seq (pv_var 8)) (blkOk_by (own := [("_law_one", 10)]) (N := N_law) (sc := (defScope s_law)) (by decide +kernel)) (fun _ _ _ _ _ => (gv_name 10 sc_law.nd)) (fun _ _ _ _ _ => (ev_not (pv_e (ev_chain op_le op_lt opS_le opS_lt (pv_e ev_int) (pv_var 10) (pv_var 2)))))))))
      (bv_one (sv_ret ev_bl))
      bv_nil)
      (bv_cons (sv_if (tv_not (tv_val (ev_call (ok__law_same T 4) (hr.mono (by decide)) (takes_of rfl rfl rfl rfl) (by rfl) T.m__law_same T.f__law_same.kp (b__law_same T) .nil (fun _ => .nil) (av_cons (ev_lc rfl sc_law.nd (iv_seq (pv_var 4)) (blkOk_by (own := [("_law_row_here", 9)]) (N := N_law) (sc := (defScope s_law)) (by decide +kernel)) (fun _ _ _ _ _ => (gv_name 9 sc_law.nd)) (fun _ _ _ _ _ => (ev_z (ev_call (ok_at_seed T) (hr.mono (by decide)) takes0 (by rfl) T.m_at_seed T.f_at_seed.kp (b_at_seed T) .nil (fun _ => .nil) (av_lend 2 (av_lend 9 (av_lend 8 av_nil))))))) (av_lend 5 av_nil)))))
      (bv_one (sv_ret ev_bl))
      bv_nil)
      (bv_one (sv_if (tv_cmp (op_neD hr.units) opS_ne (pv_e (ev_lc rfl sc_law.nd (iv_seq (pv_var 4)) (blkOk_by (own := [("_law_row_here", 9)]) (N := N_law) (sc := (defScope s_law)) (by decide +kernel)) (fun _ _ _ _ _ => (gv_name 9 sc_law.nd)) (fun _ _ _ _ _ => (ev_z (ev_call (ok__law_dot T) (hr.mono (by decide)) takes0 (by rfl) T.m__law_dot T.f__law_dot.kp (b__law_dot T) .nil (fun _ => .nil) (av_lend 2 (av_lend 9 (av_lend 8 av_nil)))))))) (pv_var 5) (nomark _))
      (bv_one (sv_ret ev_bl))
      bv_nil))))))
      (bv_cons (sv_set 2 sc_law.nd (ev_call (ok__law_pick T) (hr.mono (by decide)) (takes_of rfl rfl rfl rfl) (by rfl) T.m__law_pick T.f__law_pick.kp (b__law_pick T) .nil (fun _ => .nil) (av_lend 1 (av_cons (ev_lst (av_cons ev_int (av_cons ev_int (av_cons ev_int (av_cons ev_int (av_cons ev_int (av_cons ev_int av_nil))))))) av_nil))))
      (bv_cons (sv_set 3 sc_law.nd (ev_ix (pv_e (ev_lst (av_cons (ev_z (ev_call (ok__law_pull T) (hr.mono (by decide)) (takes_of rfl rfl rfl rfl) (by rfl) T.m__law_pull T.f__law_pull.kp (b__law_pull T) .nil (fun _ => .nil) (av_lend 1 (av_cons ev_int av_nil)))) (av_cons (ev_add (pv_e ev_int) (pv_e (ev_call (ok__law_pull T) (hr.mono (by decide)) (takes_of rfl rfl rfl rfl) (by rfl) T.m__law_pull T.f__law_pull.kp (b__law_pull T) .nil (fun _ => .nil) (av_lend 1 (av_cons ev_int av_nil))))) av_nil)))) (pv_e (ev_call (ok__law_pull T) (hr.mono (by decide)) (takes_of rfl rfl rfl rfl) (by rfl) T.m__law_pull T.f__law_pull.kp (b__law_pull T) .nil (fun _ => .nil) (av_lend 1 (av_cons ev_int av_nil))))))
      (bv_cons (sv_if (tv_cmp (op_eqD hr.units) opS_eq (pv_e (ev_call (ok__law_pull T) (hr.mono (by decide)) (takes_of rfl rfl rfl rfl) (by rfl) T.m__law_pull T.f__law_pull.kp (b__law_pull T) .nil (fun _ => .nil) (av_lend 1 (av_cons ev_int av_nil)))) (pv_e ev_int) (nomark _))
      (bv_one (sv_asg (ev_call (ok__law_pick T) (hr.mono (by decide)) (takes_of rfl rfl rfl rfl) (by rfl) T.m__law_pick T.f__law_pick.kp (b__law_pick T) .nil (fun _ => .nil) (av_lend 1 (av_cons (ev_lst (av_cons (ev_tup (av_cons ev_int (av_cons ev_int av_nil))) (av_cons (ev_tup (av_cons ev_int (av_cons ev_int av_nil))) (av_cons (ev_tup (av_cons ev_int (av_cons ev_int av_nil))) (av_cons (ev_tup (av_cons ev_int (av_cons ev_int av_nil))) (av_cons (ev_tup (av_cons ev_int (av_cons ev_int av_nil))) (av_cons (ev_tup (av_cons ev_int (av_cons ev_int av_nil))) av_nil))))))) av_nil))) (gv_tup rfl (gs_cons (gv_name 2 sc_law.nd) (gs_cons (gv_name 3 sc_law.nd) gs_nil)))))
      bv_nil)
      (bv_cons (sv_if (tv_w (wv_or (tv_not (tv_val (ev_call (ok__law_same T 4) (hr.mono (by decide)) (takes_of rfl rfl rfl rfl) (by rfl) T.m__law_same T.f__law_same.kp (b__law_same T) .nil (fun _ => .nil) (av_cons (ev_call (ok__law_all_told T) (hr.mono (by decide)) (takes_of rfl rfl rfl rfl) (by rfl) T.m__law_all_told T.f__law_all_told.kp (b__law_all_told T) .nil (fun _ => .nil) (av_lend 2 (av_lend 3 av_nil))) (av_cons (ev_call (ok__law_all_due T) (hr.mono (by decide)) (takes_of rfl rfl rfl rfl) (by rfl) T.m__law_all_due T.f__law_all_due.kp (b__law_all_due T) .nil (fun _ => .nil) (av_lend 2 (av_lend 3 av_nil))) av_nil))))) (wv_or1 (tv_not (tv_val (ev_call (ok__law_told_anew T) (hr.mono (by decide)) (takes_of rfl rfl rfl rfl) (by rfl) T.m__law_told_anew T.f__law_told_anew.kp (b__law_told_anew T) .nil (fun _ => .nil) (av_lend 2 av_nil)))))))
      (bv_one (sv_ret ev_bl))
      bv_nil)
      (bv_one (sv_ret (ev_call (ok__law_same T 4) (hr.mono (by decide)) (takes_of rfl rfl rfl rfl) (by rfl) T.m__law_same T.f__law_same.kp (b__law_same T) .nil (fun _ => .nil) (av_cons (ev_call (ok__law_all_told T) (hr.mono (by decide)) (takes_of rfl rfl rfl rfl) (by rfl) T.m__law_all_told T.f__law_all_told.kp (b__law_all_told T) .nil (fun _ => .nil) (av_cons (ev_call (ok__law_strange_prime T) (hr.mono (by decide)) (takes_of rfl rfl rfl rfl) (by rfl) T.m__law_strange_prime T.f__law_strange_prime.kp (b__law_strange_prime T) .nil (fun _ => .nil) (av_lend 1 av_nil)) (av_cons ev_int av_nil))) (av_cons ev_str av_nil)))))))))))))))))))
end
/-! ### the head -/
def dd__law_bag : He.DefD := ⟨("_law_bag", none), "_law_bag", "_law_bag", defArgs s__law_bag, defBody s__law_bag, defScope s__law_bag, [], []⟩
def dd__law_pull : He.DefD := ⟨("_law_pull", none), "_law_pull", "_law_pull", defArgs s__law_pull, defBody s__law_pull, defScope s__law_pull, [], []⟩
def dd__law_pick : He.DefD := ⟨("_law_pick", none), "_law_pick", "_law_pick", defArgs s__law_pick, defBody s__law_pick, defScope s__law_pick, [], []⟩
def dd__law_prime : He.DefD := ⟨("_law_prime", none), "_law_prime", "_law_prime", defArgs s__law_prime, defBody s__law_prime, defScope s__law_prime, [], []⟩
def dd__law_row : He.DefD := ⟨("_law_row", none), "_law_row", "_law_row", defArgs s__law_row, defBody s__law_row, defScope s__law_row, [], []⟩
def dd__law_mix : He.DefD := ⟨("_law_mix", none), "_law_mix", "_law_mix", defArgs s__law_mix, defBody s__law_mix, defScope s__law_mix, [], []⟩
def dd__law_rows : He.DefD := ⟨("_law_rows", none), "_law_rows", "_law_rows", defArgs s__law_rows, defBody s__law_rows, defScope s__law_rows, [], []⟩
def dd__law_dot : He.DefD := ⟨("_law_dot", none), "_law_dot", "_law_dot", defArgs s__law_dot, defBody s__law_dot, defScope s__law_dot, [], []⟩
def dd_need_prime : He.DefD := ⟨("need_prime", none), "need_prime", "need_prime", defArgs s_need_prime, defBody s_need_prime, defScope s_need_prime, [], []⟩
def dd_is_whole : He.DefD := ⟨("is_whole", none), "is_whole", "is_whole", defArgs s_is_whole, defBody s_is_whole, defScope s_is_whole, [], []⟩
def dd_is_within : He.DefD := ⟨("is_within", none), "is_within", "is_within", defArgs s_is_within, defBody s_is_within, defScope s_is_within, [], []⟩
def dd_is_row_of : He.DefD := ⟨("is_row_of", none), "is_row_of", "is_row_of", defArgs s_is_row_of, defBody s_is_row_of, defScope s_is_row_of, [], []⟩
def dd_need_alike : He.DefD := ⟨("need_alike", none), "need_alike", "need_alike", defArgs s_need_alike, defBody s_need_alike, defScope s_need_alike, [], []⟩
def dd_need_listed : He.DefD := ⟨("need_listed", none), "need_listed", "need_listed", defArgs s_need_listed, defBody s_need_listed, defScope s_need_listed, [], []⟩
def dd_led_off : He.DefD := ⟨("led_off", none), "led_off", "led_off", defArgs s_led_off, defBody s_led_off, defScope s_led_off, [], []⟩
def dd_raised : He.DefD := ⟨("raised", none), "raised", "raised", defArgs s_raised, defBody s_raised, defScope s_raised, [], []⟩
def dd_turned : He.DefD := ⟨("turned", none), "turned", "turned", defArgs s_turned, defBody s_turned, defScope s_turned, [], []⟩
def dd_dot : He.DefD := ⟨("dot", none), "dot", "dot", defArgs s_dot, defBody s_dot, defScope s_dot, [], []⟩
def dd_solve : He.DefD := ⟨("solve", none), "solve", "solve", defArgs s_solve, defBody s_solve, defScope s_solve, [], []⟩
def dd__law_same : He.DefD := ⟨("_law_same", none), "_law_same", "_law_same", defArgs s__law_same, defBody s__law_same, defScope s__law_same, [], []⟩
def dd__law_left : He.DefD := ⟨("_law_left", none), "_law_left", "_law_left", defArgs s__law_left, defBody s__law_left, defScope s__law_left, [], []⟩
def dd__law_inverse : He.DefD := ⟨("_law_inverse", none), "_law_inverse", "_law_inverse", defArgs s__law_inverse, defBody s__law_inverse, defScope s__law_inverse, [], []⟩
def dd__law_stepped : He.DefD := ⟨("_law_stepped", none), "_law_stepped", "_law_stepped", defArgs s__law_stepped, defBody s__law_stepped, defScope s__law_stepped, [], []⟩
def dd__law_fresh : He.DefD := ⟨("_law_fresh", none), "_law_fresh", "_law_fresh", defArgs s__law_fresh, defBody s__law_fresh, defScope s__law_fresh, [], []⟩
def dd__law_worths_fit : He.DefD := ⟨("_law_worths_fit", none), "_law_worths_fit", "_law_worths_fit", defArgs s__law_worths_fit, defBody s__law_worths_fit, defScope s__law_worths_fit, [], []⟩
def dd_at_seed : He.DefD := ⟨("at_seed", none), "at_seed", "at_seed", defArgs s_at_seed, defBody s_at_seed, defScope s_at_seed, [], []⟩
def dd__law_all_seeds : He.DefD := ⟨("_law_all_seeds", none), "_law_all_seeds", "_law_all_seeds", defArgs s__law_all_seeds, defBody s__law_all_seeds, defScope s__law_all_seeds, [], []⟩
def dd__law_all_due : He.DefD := ⟨("_law_all_due", none), "_law_all_due", "_law_all_due", defArgs s__law_all_due, defBody s__law_all_due, defScope s__law_all_due, [], []⟩
def dd_raised_to : He.DefD := ⟨("raised_to", none), "raised_to", "raised_to", defArgs s_raised_to, defBody s_raised_to, defScope s_raised_to, [], []⟩
def dd_digits : He.DefD := ⟨("digits", none), "digits", "digits", defArgs s_digits, defBody s_digits, defScope s_digits, [], []⟩
def dd_each_seed : He.DefD := ⟨("each_seed", none), "each_seed", "each_seed", defArgs s_each_seed, defBody s_each_seed, defScope s_each_seed, [], []⟩
def dd__law_all_told : He.DefD := ⟨("_law_all_told", none), "_law_all_told", "_law_all_told", defArgs s__law_all_told, defBody s__law_all_told, defScope s__law_all_told, [], []⟩
def dd__law_told_anew : He.DefD := ⟨("_law_told_anew", none), "_law_told_anew", "_law_told_anew", defArgs s__law_told_anew, defBody s__law_told_anew, defScope s__law_told_anew, [], []⟩
def dd__law_strange_prime : He.DefD := ⟨("_law_strange_prime", none), "_law_strange_prime", "_law_strange_prime", defArgs s__law_strange_prime, defBody s__law_strange_prime, defScope s__law_strange_prime, [], []⟩
def dd_law : He.DefD := ⟨("law", none), "law", "law", defArgs s_law, defBody s_law, defScope s_law, [], []⟩
def di_LotError : He.DefD := ⟨("LotError", some "__init__"), "__init__", "LotError.__init__", defArgs i_LotError, defBody i_LotError, defScope i_LotError, [], []⟩
def di_BadRow : He.DefD := ⟨("BadRow", some "__init__"), "__init__", "BadRow.__init__", defArgs i_BadRow, defBody i_BadRow, defScope i_BadRow, [], []⟩
def di_BadPrime : He.DefD := ⟨("BadPrime", some "__init__"), "__init__", "BadPrime.__init__", defArgs i_BadPrime, defBody i_BadPrime, defScope i_BadPrime, [], []⟩
def di_NoShare : He.DefD := ⟨("NoShare", some "__init__"), "__init__", "NoShare.__init__", defArgs i_NoShare, defBody i_NoShare, defScope i_NoShare, [], []⟩
def di_BadNumber : He.DefD := ⟨("BadNumber", some "__init__"), "__init__", "BadNumber.__init__", defArgs i_BadNumber, defBody i_BadNumber, defScope i_BadNumber, [], []⟩
def di_TooWide : He.DefD := ⟨("TooWide", some "__init__"), "__init__", "TooWide.__init__", defArgs i_TooWide, defBody i_TooWide, defScope i_TooWide, [], []⟩
def fnL : List He.DefD := [dd__law_bag, dd__law_pull, dd__law_pick, dd__law_prime, dd__law_row, dd__law_mix, dd__law_rows, dd__law_dot, dd_need_prime, dd_is_whole, dd_is_within, dd_is_row_of, dd_need_alike, dd_need_listed, dd_led_off, dd_raised, dd_turned, dd_dot, dd_solve, dd__law_same, dd__law_left, dd__law_inverse, dd__law_stepped, dd__law_fresh, dd__law_worths_fit, dd_at_seed, dd__law_all_seeds, dd__law_all_due, dd_raised_to, dd_digits, dd_each_seed, dd__law_all_told, dd__law_told_anew, dd__law_strange_prime, dd_law, di_LotError, di_BadRow, di_BadPrime, di_NoShare, di_BadNumber, di_TooWide]
def faL : List He.Fa := [.glo "_law_bag", .glo "_law_pull", .glo "_law_pick", .glo "_law_prime", .glo "_law_row", .glo "_law_mix", .glo "_law_rows", .glo "_law_dot", .glo "need_prime", .glo "is_whole", .glo "is_within", .glo "is_row_of", .glo "need_alike", .glo "need_listed", .glo "led_off", .glo "raised", .glo "turned", .glo "dot", .glo "solve", .glo "_law_same", .glo "_law_left", .glo "_law_inverse", .glo "_law_stepped", .glo "_law_fresh", .glo "_law_worths_fit", .glo "at_seed", .glo "_law_all_seeds", .glo "_law_all_due", .glo "raised_to", .glo "digits", .glo "each_seed", .glo "_law_all_told", .glo "_law_told_anew", .glo "_law_strange_prime", .glo "law", .glo "LotError", .glo "BadRow", .glo "BadPrime", .glo "NoShare", .glo "BadNumber", .glo "TooWide", .free "ValueError", .free "ZeroDivisionError", .free "all", .free "any", .free "bool", .free "dict", .free "enumerate", .free "int", .free "isinstance", .free "len", .free "list", .free "range", .free "reversed", .free "sum", .free "tuple", .free "zip", .glo "PRIMES", .int "MOST_ALL" 4096, .int "MOST_SIZE" 12]
def v_PRIMES : List He.Dv := [.int 2, .int 3, .int 5, .int 7, .int 11, .int 13, .int 17, .int 19, .int 23, .int 29, .int 31]
def fxs (K : PySem.W.Frag) : List Bool := [He.tupB K "PRIMES" v_PRIMES, oxB K "LotError" "ValueError.__new__" tlV, oiB K "LotError", inB K "LotError" ["word"], oxB K "BadRow" "ValueError.__new__" tlV, oiB K "BadRow", inB K "BadRow" ["word"], oxB K "BadPrime" "ValueError.__new__" tlV, oiB K "BadPrime", inB K "BadPrime" ["word"], oxB K "NoShare" "ZeroDivisionError.__new__" tlZ, oiB K "NoShare", inB K "NoShare" ["word"], oxB K "BadNumber" "ValueError.__new__" tlV, oiB K "BadNumber", inB K "BadNumber" ["word"], oxB K "TooWide" "ValueError.__new__" tlV, oiB K "TooWide", inB K "TooWide" ["ways", "word"], (mtab_BadNumber.all fun p => exB K p.1 "BadNumber" p.2), (mtab_BadPrime.all fun p => exB K p.1 "BadPrime" p.2), (mtab_TooWide.all fun p => exB K p.1 "TooWide" p.2), (excL.all fun n => xfB K (He.ga K n) && decide (PySem.W.findIn K (.ref (He.ga K n)) "ways" = some none)), (excL.all fun n => xfB K (He.ga K n) && decide (PySem.W.findIn K (.ref (He.ga K n)) "word" = some none))]
def fxL (K : PySem.W.Frag) : Bool := (fxs K).all id
def looseL : List PySem.Str := (["LotError", "BadNumber", "BadPrime", "BadRow", "TooWide", "NoShare", "is_whole", "is_within", "raised_to", "PRIMES", "need_prime", "turned", "raised", "digits", "MOST_SIZE", "MOST_ALL", "is_row_of", "need_alike", "need_listed", "dot", "at_seed", "solve", "led_off", "each_seed", "_law_bag", "_law_pull", "_law_pick", "_law_same", "_law_kind_of", "_law_prime"] : List PySem.Str) ++ (["_law_strange_prime", "_law_row", "_law_dot", "_law_mix", "_law_rows", "_law_inverse", "_law_left", "_law_stepped", "_law_fresh", "_law_all_seeds", "_law_worths_fit", "_law_all_told", "_law_all_due", "_law_told_anew"] : List PySem.Str)
abbrev R : PySem.W.OpenRow := PySem.W.OpenLaw.row PySem.Challenge.rw_lotspring_k09_solved_and_gone_through
abbrev hk : PySem.W.Hook := hookX 4 faL fnL fxL
def ob (s : PySem.W.SharedT) : AlX := obsXG 4 faL fnL fxL (HandSHeadRun.getT s)
theorem ob_eq (s : PySem.W.SharedT) : ob s = hk.obs s.abs := obsXG_eq (HandSHeadRun.getT_eq s)
theorem run (w : World) : HandSHeadRun.RunEq R (PySem.W.view R.prog [49]) hk ob 6000 looseL w := by
  intro os
  kernel_rfl
theorem txOf {K : PySem.W.Frag} {h : Heap} {mg : Str → Option Value} (X : K.In h) (G : h.Ns mainGlobals mg) (c : SaysX faL fnL fxL K) : Nonempty (Tx K mg) := by
  obtain ⟨fd0, F0⟩ := c.d.def_ 0 (d := dd__law_bag) rfl
  obtain ⟨fd1, F1⟩ := c.d.def_ 1 (d := dd__law_pull) rfl
  obtain ⟨fd2, F2⟩ := c.d.def_ 2 (d := dd__law_pick) rfl
  obtain ⟨fd3, F3⟩ := c.d.def_ 3 (d := dd__law_prime) rfl
  obtain ⟨fd4, F4⟩ := c.d.def_ 4 (d := dd__law_row) rfl
  obtain ⟨fd5, F5⟩ := c.d.def_ 5 (d := dd__law_mix) rfl
  obtain ⟨fd6, F6⟩ := c.d.def_ 6 (d := dd__law_rows) rfl
  obtain ⟨fd7, F7⟩ := c.d.def_ 7 (d := dd__law_dot) rfl
  obtain ⟨fd8, F8⟩ := c.d.def_ 8 (d := dd_need_prime) rfl
  obtain ⟨fd9, F9⟩ := c.d.def_ 9 (d := dd_is_whole) rfl
  obtain ⟨fd10, F10⟩ := c.d.def_ 10 (d := dd_is_within) rfl
  obtain ⟨fd11, F11⟩ := c.d.def_ 11 (d := dd_is_row_of) rfl
  obtain ⟨fd12, F12⟩ := c.d.def_ 12 (d := dd_need_alike) rfl
  obtain ⟨fd13, F13⟩ := c.d.def_ 13 (d := dd_need_listed) rfl
  obtain ⟨fd14, F14⟩ := c.d.def_ 14 (d := dd_led_off) rfl
  obtain ⟨fd15, F15⟩ := c.d.def_ 15 (d := dd_raised) rfl
  obtain ⟨fd16, F16⟩ := c.d.def_ 16 (d := dd_turned) rfl
  obtain ⟨fd17, F17⟩ := c.d.def_ 17 (d := dd_dot) rfl
  obtain ⟨fd18, F18⟩ := c.d.def_ 18 (d := dd_solve) rfl
  obtain ⟨fd19, F19⟩ := c.d.def_ 19 (d := dd__law_same) rfl
  obtain ⟨fd20, F20⟩ := c.d.def_ 20 (d := dd__law_left) rfl
  obtain ⟨fd21, F21⟩ := c.d.def_ 21 (d := dd__law_inverse) rfl
  obtain ⟨fd22, F22⟩ := c.d.def_ 22 (d := dd__law_stepped) rfl
  obtain ⟨fd23, F23⟩ := c.d.def_ 23 (d := dd__law_fresh) rfl
  obtain ⟨fd24, F24⟩ := c.d.def_ 24 (d := dd__law_worths_fit) rfl
  obtain ⟨fd25, F25⟩ := c.d.def_ 25 (d := dd_at_seed) rfl
  obtain ⟨fd26, F26⟩ := c.d.def_ 26 (d := dd__law_all_seeds) rfl
  obtain ⟨fd27, F27⟩ := c.d.def_ 27 (d := dd__law_all_due) rfl
  obtain ⟨fd28, F28⟩ := c.d.def_ 28 (d := dd_raised_to) rfl
  obtain ⟨fd29, F29⟩ := c.d.def_ 29 (d := dd_digits) rfl
  obtain ⟨fd30, F30⟩ := c.d.def_ 30 (d := dd_each_seed) rfl
  obtain ⟨fd31, F31⟩ := c.d.def_ 31 (d := dd__law_all_told) rfl
  obtain ⟨fd32, F32⟩ := c.d.def_ 32 (d := dd__law_told_anew) rfl
  obtain ⟨fd33, F33⟩ := c.d.def_ 33 (d := dd__law_strange_prime) rfl
  obtain ⟨fd34, F34⟩ := c.d.def_ 34 (d := dd_law) rfl
  obtain ⟨fi0, G0⟩ := c.d.def_ 35 (d := di_LotError) rfl
  obtain ⟨fi1, G1⟩ := c.d.def_ 36 (d := di_BadRow) rfl
  obtain ⟨fi2, G2⟩ := c.d.def_ 37 (d := di_BadPrime) rfl
  obtain ⟨fi3, G3⟩ := c.d.def_ 38 (d := di_NoShare) rfl
  obtain ⟨fi4, G4⟩ := c.d.def_ 39 (d := di_BadNumber) rfl
  obtain ⟨fi5, G5⟩ := c.d.def_ 40 (d := di_TooWide) rfl
  have hx : ∀ b ∈ fxs K, b = true := List.all_eq_true.mp c.x
  exact ⟨⟨fd0, fd1, fd2, fd3, fd4, fd5, fd6, fd7, fd8, fd9, fd10, fd11, fd12, fd13, fd14, fd15, fd16, fd17, fd18, fd19, fd20, fd21, fd22, fd23, fd24, fd25, fd26, fd27, fd28, fd29, fd30, fd31, fd32, fd33, fd34, fi0, fi1, fi2, fi3, fi4, fi5, F0, He.glo_ok X G (c.d.fact 0 (f := .glo "_law_bag") rfl), F1, He.glo_ok X G (c.d.fact 1 (f := .glo "_law_pull") rfl), F2, He.glo_ok X G (c.d.fact 2 (f := .glo "_law_pick") rfl), F3, He.glo_ok X G (c.d.fact 3 (f := .glo "_law_prime") rfl), F4, He.glo_ok X G (c.d.fact 4 (f := .glo "_law_row") rfl), F5, He.glo_ok X G (c.d.fact 5 (f := .glo "_law_mix") rfl), F6, He.glo_ok X G (c.d.fact 6 (f := .glo "_law_rows") rfl), F7, He.glo_ok X G (c.d.fact 7 (f := .glo "_law_dot") rfl), F8, He.glo_ok X G (c.d.fact 8 (f := .glo "need_prime") rfl), F9, He.glo_ok X G (c.d.fact 9 (f := .glo "is_whole") rfl), F10, He.glo_ok X G (c.d.fact 10 (f := .glo "is_within") rfl), F11, He.glo_ok X G (c.d.fact 11 (f := .glo "is_row_of") rfl), F12, He.glo_ok X G (c.d.fact 12 (f := .glo "need_alike") rfl), F13, He.glo_ok X G (c.d.fact 13 (f := .glo "need_listed") rfl), F14, He.glo_ok X G (c.d.fact 14 (f := .glo "led_off") rfl), F15, He.glo_ok X G (c.d.fact 15 (f := .glo "raised") rfl), F16, He.glo_ok X G (c.d.fact 16 (f := .glo "turned") rfl), F17, He.glo_ok X G (c.d.fact 17 (f := .glo "dot") rfl), F18, He.glo_ok X G (c.d.fact 18 (f := .glo "solve") rfl), F19, He.glo_ok X G (c.d.fact 19 (f := .glo "_law_same") rfl), F20, He.glo_ok X G (c.d.fact 20 (f := .glo "_law_left") rfl), F21, He.glo_ok X G (c.d.fact 21 (f := .glo "_law_inverse") rfl), F22, He.glo_ok X G (c.d.fact 22 (f := .glo "_law_stepped") rfl), F23, He.glo_ok X G (c.d.fact 23 (f := .glo "_law_fresh") rfl), F24, He.glo_ok X G (c.d.fact 24 (f := .glo "_law_worths_fit") rfl), F25, He.glo_ok X G (c.d.fact 25 (f := .glo "at_seed") rfl), F26, He.glo_ok X G (c.d.fact 26 (f := .glo "_law_all_seeds") rfl), F27, He.glo_ok X G (c.d.fact 27 (f := .glo "_law_all_due") rfl), F28, He.glo_ok X G (c.d.fact 28 (f := .glo "raised_to") rfl), F29, He.glo_ok X G (c.d.fact 29 (f := .glo "digits") rfl), F30, He.glo_ok X G (c.d.fact 30 (f := .glo "each_seed") rfl), F31, He.glo_ok X G (c.d.fact 31 (f := .glo "_law_all_told") rfl), F32, He.glo_ok X G (c.d.fact 32 (f := .glo "_law_told_anew") rfl), F33, He.glo_ok X G (c.d.fact 33 (f := .glo "_law_strange_prime") rfl), F34, He.glo_ok X G (c.d.fact 34 (f := .glo "law") rfl), G0, He.glo_ok X G (c.d.fact 35 (f := .glo "LotError") rfl), oxB_ok (hx _ (List.mem_of_getElem? (i := 1) rfl)), oiB_ok (hx _ (List.mem_of_getElem? (i := 2) rfl)), inB_ok (hx _ (List.mem_of_getElem? (i := 3) rfl)), G1, He.glo_ok X G (c.d.fact 36 (f := .glo "BadRow") rfl), oxB_ok (hx _ (List.mem_of_getElem? (i := 4) rfl)), oiB_ok (hx _ (List.mem_of_getElem? (i := 5) rfl)), inB_ok (hx _ (List.mem_of_getElem? (i := 6) rfl)), G2, He.glo_ok X G (c.d.fact 37 (f := .glo "BadPrime") rfl), oxB_ok (hx _ (List.mem_of_getElem? (i := 7) rfl)), oiB_ok (hx _ (List.mem_of_getElem? (i := 8) rfl)), inB_ok (hx _ (List.mem_of_getElem? (i := 9) rfl)), G3, He.glo_ok X G (c.d.fact 38 (f := .glo "NoShare") rfl), oxB_ok (hx _ (List.mem_of_getElem? (i := 10) rfl)), oiB_ok (hx _ (List.mem_of_getElem? (i := 11) rfl)), inB_ok (hx _ (List.mem_of_getElem? (i := 12) rfl)), G4, He.glo_ok X G (c.d.fact 39 (f := .glo "BadNumber") rfl), oxB_ok (hx _ (List.mem_of_getElem? (i := 13) rfl)), oiB_ok (hx _ (List.mem_of_getElem? (i := 14) rfl)), inB_ok (hx _ (List.mem_of_getElem? (i := 15) rfl)), G5, He.glo_ok X G (c.d.fact 40 (f := .glo "TooWide") rfl), oxB_ok (hx _ (List.mem_of_getElem? (i := 16) rfl)), oiB_ok (hx _ (List.mem_of_getElem? (i := 17) rfl)), inB_ok (hx _ (List.mem_of_getElem? (i := 18) rfl)), fun p hp => exB_ok (List.all_eq_true.mp (hx _ (List.mem_of_getElem? (i := 19) rfl)) p hp), fun p hp => exB_ok (List.all_eq_true.mp (hx _ (List.mem_of_getElem? (i := 20) rfl)) p hp), fun p hp => exB_ok (List.all_eq_true.mp (hx _ (List.mem_of_getElem? (i := 21) rfl)) p hp), fun n hn => kn_of (hx _ (List.mem_of_getElem? (i := 22) rfl)) n hn, fun n hn => kn_of (hx _ (List.mem_of_getElem? (i := 23) rfl)) n hn, He.free_ok X G (c.d.fact 41 (f := .free "ValueError") rfl), He.free_ok X G (c.d.fact 42 (f := .free "ZeroDivisionError") rfl), He.free_ok X G (c.d.fact 43 (f := .free "all") rfl), He.free_ok X G (c.d.fact 44 (f := .free "any") rfl), He.free_ok X G (c.d.fact 45 (f := .free "bool") rfl), He.free_ok X G (c.d.fact 46 (f := .free "dict") rfl), He.free_ok X G (c.d.fact 47 (f := .free "enumerate") rfl), He.free_ok X G (c.d.fact 48 (f := .free "int") rfl), He.free_ok X G (c.d.fact 49 (f := .free "isinstance") rfl), He.free_ok X G (c.d.fact 50 (f := .free "len") rfl), He.free_ok X G (c.d.fact 51 (f := .free "list") rfl), He.free_ok X G (c.d.fact 52 (f := .free "range") rfl), He.free_ok X G (c.d.fact 53 (f := .free "reversed") rfl), He.free_ok X G (c.d.fact 54 (f := .free "sum") rfl), He.free_ok X G (c.d.fact 55 (f := .free "tuple") rfl), He.free_ok X G (c.d.fact 56 (f := .free "zip") rfl), He.int_ok X G (c.d.fact 58 (f := .int "MOST_ALL" 4096) rfl), He.int_ok X G (c.d.fact 59 (f := .int "MOST_SIZE" 12) rfl), He.glo_ok X G (c.d.fact 57 (f := .glo "PRIMES") rfl), fun S => dp_top (vs := v_PRIMES) (hx _ (List.mem_of_getElem? (i := 0) rfl)) (fun _ => .cons (.int 2) (.cons (.int 3) (.cons (.int 5) (.cons (.int 7) (.cons (.int 11) (.cons (.int 13) (.cons (.int 17) (.cons (.int 19) (.cons (.int 23) (.cons (.int 29) (.cons (.int 31) (.nil)))))))))))) S⟩⟩
theorem law_holds (hlaw : ∀ ns : List Int, ns.length ≤ 63 → (∀ k ∈ ns, k.natAbs.log2 ≤ 1048576) → ∃ as', F_law [.fz (.list (ns.map PyData.int))] = .ok (.fz (.bool true)) as') : PySem.Challenge.rw_lotspring_k09_solved_and_gone_through.Holds := by
  open PySem PySem.W PySem.Calls PyProof.Rows in
  (w_on; o_law
   refine HandSHeadRun.head_any (r := OpenLaw.row PySem.Challenge.rw_lotspring_k09_solved_and_gone_through) (q := view (OpenLaw.row PySem.Challenge.rw_lotspring_k09_solved_and_gone_through).prog [49]) (H := hk) (ob := ob) (M := 6000) (loose := looseL) (d := HandSHeadRun.topDef (OpenLaw.row PySem.Challenge.rw_lotspring_k09_solved_and_gone_through).prog 49) (kwd := []) ob_eq
     (by kernel_rfl) (fun s => by kernel_rfl) run (by kernel_rfl) (by kernel_rfl) (by kernel_rfl) (by rfl) (by first | assumption | decide +kernel) (by decide +kernel) ⟨rfl, rfl, rfl, rfl, rfl, by decide +kernel⟩ ?hw ?hc
   case hw => w_witness2
   case hc =>
     refine walkX (l := PySem.Challenge.rw_lotspring_k09_solved_and_gone_through) (n := 63) (k := 9) (x := "_law_script") (CX := fun w => L2.CX (PySem.Challenge.rw_lotspring_k09_solved_and_gone_through).prog w) rfl (by decide) (by kernel_rfl) ⟨rfl, by decide, by decide⟩ ?F (fun w H s e s' => cxNo _ w H s e s')
     intro w mg fa h Y G hmg0
     obtain ⟨K, KX, c⟩ := Y
     have hmg : mg ("law" : PySem.Str) = some (.ref fa) := by
       have e : (HandSHeadRun.topDef (OpenLaw.row PySem.Challenge.rw_lotspring_k09_solved_and_gone_through).prog 49).name = ("law" : PySem.Str) := by kernel_rfl
       rw [← e]
       exact hmg0
     obtain ⟨T⟩ := txOf KX G c
     have efa := hmg.symm.trans T.m_law
     cases efa
     refine ⟨K, T.fd_law, spOf K 1 F_law, KX, fun s v => FunD.bindsA (ps := ["_law_script"]) T.f_law (fun _ _ _ _ _ _ us hl => match us, hl with | [_], _ => rfl) s [v] rfl, fun H a ns hl hbt _ hS => lawSp hS (hlaw ns hl hbt), fun base _ _ => ok_law T⟩)
end Lw

end
noncomputable section
namespace Lw
open PySem L2 Ls
local macro_rules
  | `(tactic| walk_at "nf") => `(tactic| (try dsimp only [backs, wipeE, finA, isFz, entry, List.map, List.length, List.replicate, Nat.sub, List.append, List.cons_append, List.nil_append, List.append_nil, List.getElem?_cons_zero, List.getElem?_cons_succ, List.set_cons_zero, List.set_cons_succ, Nat.reduceAdd, Nat.reduceSub, List.replicate_succ, List.replicate_zero]))
local macro_rules
  | `(tactic| walk_at "tt") => `(tactic| first
    | rfl
    | assumption
    | (simp only [decide_eq_true_eq, decide_eq_false_iff_not, Bool.not_eq_true', Bool.not_eq_false', Bool.not_true, Bool.not_false, decide_not, Bool.not_not, reduceCtorEq]; first | assumption | omega)
    | (simp; done))
local macro_rules
  | `(tactic| walk_at "sd") => `(tactic| first | assumption | decide | omega | exact fmodA (by decide) (by decide))
local macro_rules
  | `(tactic| walk_at "xp") => `(tactic| repeat' (first
    | (with_reducible show pkD _ _ = some _); first | with_reducible rfl | with_reducible assumption | rfl | assumption
    | (with_reducible show pkO _ _ = some _); first | with_reducible rfl | with_reducible assumption | rfl | assumption
    | (with_reducible show getElem? _ _ = some (some _)); rfl
    | (with_reducible show ixO _ _ = some _); first | with_reducible assumption | rfl | assumption
    | (with_reducible show ixN _ _ = some _); first | with_reducible assumption | rfl | assumption
    | (with_reducible show lenO _ = some _); first | with_reducible assumption | rfl | assumption
    | (with_reducible show itemsO _ = some _); first | with_reducible assumption | rfl | assumption
    | (with_reducible show dEq (.int _) (.int _) = some _); exact dEq_int
    | (with_reducible show dNe (.int _) (.int _) = some _); exact dNe_int
    | (with_reducible show dMod (.int _) (.int _) = some _); apply dMod_ok; walk_at "sd"
    | (with_reducible show dMul (.int _) (.int _) = some _); apply dMul_ok <;> walk_at "sd"
    | (with_reducible show dDiv (.int _) (.int _) = some _); apply dDiv_ok <;> walk_at "sd"
    | (with_reducible show dAdd (.int _) (.int _) = some _); rfl
    | (with_reducible show dSub (.int _) (.int _) = some _); rfl
    | (with_reducible show dLt (.int _) (.int _) = some _); rfl
    | (with_reducible show dGt (.int _) (.int _) = some _); rfl
    | (with_reducible show dLe (.int _) (.int _) = some _); rfl
    | (with_reducible show dGe (.int _) (.int _) = some _); rfl
    | (with_reducible show dPow (.int _) (.int _) = some _); rfl
    | (with_reducible show _ = FO.ok _ _); first | with_reducible assumption | assumption
    | (with_reducible show backs _ _ _ = _); walk_at "nf"; (try rfl)
    | (with_reducible show finA _ _ _ _ = _); walk_at "nf"; (try rfl)
    | (with_reducible show List.set _ _ _ = _); walk_at "nf"; (try rfl)
    | with_reducible exact r_c
    | with_reducible exact r_nil
    | with_reducible apply r_pv
    | with_reducible apply r_pe
    | with_reducible apply r_op
    | with_reducible apply r_ix
    | with_reducible apply r_b1
    | with_reducible apply r_tof
    | with_reducible apply r_ret
    | with_reducible apply r_call
    | with_reducible exact r_anil
    | with_reducible apply r_acons
    | (with_reducible show _ < List.length _); exact of_decide_eq_true rfl
    | with_reducible apply r_set
    | with_reducible apply r_six
    | (with_reducible apply r_lendF); focus rfl
    | (with_reducible apply lendO); (focus rfl); (focus rfl)
    | (with_reducible apply r_ev); focus rfl
    | with_reducible apply r_z
    | with_reducible apply r_lst
    | with_reducible apply r_list
    | with_reducible apply r_tuple
    | (with_reducible show frz _ = some _); first | with_reducible assumption | rfl | assumption
    | (with_reducible show -(2 ^ 62) ≤ _ ∧ _); walk_at "sd"
    | with_reducible apply r_rg1
    | with_reducible apply r_isi
    | with_reducible apply r_drop
    | with_reducible apply r_tnot
    | with_reducible exact (rfl : tYesF _ = Out.ok true _)
    | with_reducible apply gN
    | (with_reducible show isiO _ _ = some _); first | with_reducible assumption | rfl | assumption
    | (with_reducible show dIs _ _ = some _); rfl
    | (with_reducible show dNe (.bool _) (.bool _) = some _); exact dNe_bool
    | (with_reducible show dEq (.bool _) (.bool _) = some _); exact dEq_bool
    | (with_reducible show dEq _ _ = some _); first | with_reducible assumption | assumption
    | (with_reducible show dNe _ _ = some _); first | with_reducible assumption | assumption
    | (with_reducible show allO _ = some _); first | with_reducible assumption | exact allO_map _
    | (with_reducible show sumO _ = some _); first | with_reducible assumption | exact sumO_map _
    | (with_reducible show _ < sizeLine); walk_at "sd"
    | with_reducible apply r_sapp
    | (with_reducible apply r_eandT); (focus (walk_at "xp"; done)); (focus (walk_at "tt"; done)); (focus (walk_at "xp"; done))
    | (with_reducible apply r_eandF); (focus (walk_at "xp"; done)); (focus (walk_at "tt"; done))
    | (with_reducible show intO (.fz (.bool _)) = some _); exact intO_bool
    | (with_reducible show wipeE _ _ = _); walk_at "nf"; (try rfl)
    | (with_reducible show List.all _ _ = _); rfl
    | (with_reducible show Sr.at _ _ = some _); first | with_reducible assumption | rfl | assumption
    | (with_reducible apply r_torT); (focus (walk_at "xp"; done)); (focus (walk_at "tt"; done))
    | (with_reducible apply r_torF); (focus (walk_at "xp"; done)); (focus (walk_at "tt"; done)); (focus (walk_at "xp"; done))
    | (with_reducible apply r_ifT); (focus (walk_at "xp"; done)); (focus (walk_at "tt"; done)); (focus (walk_at "xp"; done))
    | (with_reducible apply r_ifF); (focus (walk_at "xp"; done)); (focus (walk_at "tt"; done)); (focus (walk_at "xp"; done))
    | (with_reducible apply r_tandF); (focus (walk_at "xp"; done)); (focus (walk_at "tt"; done))
    | (with_reducible apply r_tandT); (focus (walk_at "xp"; done)); (focus (walk_at "tt"; done)); (focus (walk_at "xp"; done))
    | (with_reducible apply r_seq); (focus (walk_at "xp"; done)); (focus (walk_at "xp"; done))
    | (with_reducible apply r_seqR); (focus (walk_at "xp"; done))
    ))

structure Bag where
  xs : List Int
  i : Nat
  c : Int
  m : Int
  hc : 0 ≤ c
  hm : 0 ≤ m
  hM : m < 2147483647
def Bag.o (b : Bag) : O := .lst [.fz (.list (b.xs.map PyData.int)), .fz (.int b.i), .fz (.int b.c), .fz (.int b.m)]
theorem len_int {xs : List Int} : lenO (.fz (.list (xs.map PyData.int))) = some (.int xs.length) := by simp [lenO, itemsO]
theorem ix_int {xs : List Int} {i : Nat} (h : i < xs.length) : ixO (.fz (.list (xs.map PyData.int))) i = some (.int xs[i]) := by
  refine atN ?_
  simp [h]
def P1 (n : Int) (ρ : En) : Prop := ∃ (b : Bag) (s2 s3 : Option O), ρ = [some b.o, some (.fz (.int n)), s2, s3, none]
theorem pull_ok (b : Bag) (n : Int) (hn : 0 < n) (hn2 : n < 2 ^ 100) : ∃ (v : Int) (b' : Bag), 0 ≤ v ∧ v < n ∧ F__law_pull [b.o, .fz (.int n)] = .ok (.fz (.int v)) [b'.o, .fz (.int n)] := by
  suffices h : RT (w__law_pull [some b.o, some (.fz (.int n)), none, none, none]) fun o ρ => ∃ as', finA [0, 1] ρ 0 [b.o, .fz (.int n)] = some as' ∧ ∃ (v : Int) (b' : Bag), o = .fz (.int v) ∧ 0 ≤ v ∧ v < n ∧ as' = [b'.o, .fz (.int n)] by
    obtain ⟨o, as', h1, v, b', rfl, h2, h3, rfl⟩ := run_rt (m := 5) (prot := [0, 1]) (body := w__law_pull) (as := [b.o, .fz (.int n)]) h
    exact ⟨v, b', h2, h3, h1⟩
  have hn0 : n ≠ 0 := by omega
  have hn4 : n.natAbs < 2 ^ 100 := by omega
  unfold w__law_pull
  refine seqNX (P := P1 n) (G := fun out => RT out _) ?_ ?_
  · have hl := @len_int b.xs
    by_cases h1 : b.c = 0
    · by_cases h2 : b.i < b.xs.length
      · have hx := ix_int h2
        by_cases h3 : (10 : Int) ^ 18 ≤ b.xs[b.i]
        · apply nx_of
          · walk_at "xp"
          · refine ⟨⟨b.xs, b.i + 1, b.xs[b.i], b.m, by omega, b.hm, b.hM⟩, _, _, rfl⟩
        · have q1 := b.hm
          have q2 := b.hM
          apply nx_of
          · walk_at "xp"
          · refine ⟨⟨b.xs, b.i + 1, b.c, _, b.hc, Int.fmod_nonneg_of_pos _ (by omega), Int.fmod_lt_of_pos _ (by omega)⟩, _, _, rfl⟩
      · apply nx_of
        · walk_at "xp"
        · exact ⟨b, _, _, rfl⟩
    · apply nx_of
      · walk_at "xp"
      · exact ⟨b, _, _, rfl⟩
  · rintro _ ⟨b, s2, s3, rfl⟩
    have q1 := b.hm
    have q2 := b.hM
    by_cases h1 : 0 < b.c
    · apply rt_of
      · walk_at "xp"
      · exact ⟨_, rfl, _, ⟨b.xs, b.i, b.c.fdiv n, b.m, Int.fdiv_nonneg b.hc (by omega), b.hm, b.hM⟩, rfl, Int.fmod_nonneg_of_pos _ hn, Int.fmod_lt_of_pos _ hn, rfl⟩
    · apply rt_of
      · walk_at "xp"
      · exact ⟨_, rfl, _, ⟨b.xs, b.i, b.c, _, b.hc, Int.fmod_nonneg_of_pos _ (by decide), Int.fmod_lt_of_pos _ (by decide)⟩, rfl, Int.fmod_nonneg_of_pos _ hn, Int.fmod_lt_of_pos _ hn, rfl⟩
theorem cutG_map {α β : Type} (f : α → β) (xs : List α) (lo hi : Option Int) : cutG (xs.map f) lo hi = (cutG xs lo hi).map f := by
  simp [cutG, List.map_take, List.map_drop]
theorem bag_ok (ns : List Int) : ∃ b : Bag, F__law_bag [.fz (.list (ns.map PyData.int))] = .ok b.o [.fz (.list (ns.map PyData.int))] := by
  refine ⟨⟨cutG ns none (some 63), 0, 0, 1, by decide, by decide, by decide⟩, ?_⟩
  refine r_runR (ρ1 := [some (.fz (.list (ns.map PyData.int)))]) ?_ rfl
  walk_at "nf"
  unfold w__law_bag
  have h1 : slO (.fz (.list (ns.map PyData.int))) none (some 63) = some (.lst ((cutG (ns.map PyData.int) none (some 63)).map O.fz)) := rfl
  have h2 : frz (.lst ((cutG (ns.map PyData.int) none (some 63)).map O.fz)) = some (.list ((cutG ns none (some 63)).map PyData.int)) := by rw [frz_map, cutG_map]
  have h3 := items_map (cutG (ns.map PyData.int) none (some 63))
  refine r_ret (r_lst (r_acons (r_z (r_list (r_pe (r_sl (r_pv rfl) r_nno (r_ne (r_pe r_c) rfl) rfl h1)) rfl h3) h2) (r_acons r_c (r_acons r_c (r_acons r_c r_anil)))))
theorem lendBag {b : Bag} {i : Nat} {ρ : En} : kLend (some (some b.o)) i ρ = .ok b.o (ρ.set i none) := rfl

local macro_rules
  | `(tactic| walk_at "sd") => `(tactic| first | assumption | omega | decide | ((with_reducible show List.length _ = _); with_unfolding_all rfl) | ((with_reducible show _ < List.length _); exact of_decide_eq_true rfl) | (apply And.intro <;> walk_at "sd"))
local macro_rules
  | `(tactic| walk_at "run") => `(tactic| simp -implicitDefEqProofs (disch := walk_at "sd") only [x_selT, x_selF, x_selN, x_selDT, x_selDF, x_rYes, x_rNo, x_rYesE, x_rNoE, x_yes, x_bne, x_beq, x1, x2, x3, x4, x_obind, x_omap, x_id, x5, x6, x_frzs0, x_frzs1, x_frzs2, x_frzs3, x_get0, x_getS, x_set0, x_setS, x_len0, x_lenS, x_app0, x_appS, x_appN, x_lapp0, x_lappS, x_map0, x_mapS, x_put0, x_putS, x7, x8, x9, x10, x11, x12, x13, x14, x15, x16, x17, x18, x19, x20, x21, x22, x23, x24, x25, x26, x27, x28, x29, x30, x31, x32, x33, x34, x35, x36, x37, x38, x39, x40, x41, x42, x43, x44, x45, x46, x47, x48, x49, x50, x51, x52, x53, x54, x55, x56, x57, x58, x59, x60, x61, x62, x63, x64, x65, x66, x67, x68, x69, x70, x71, x72, x73, x74, x75, x76, x77, x78, x79, x80, x81, x82, x83, x84, x85, x86, x87, x88, x89, x90, x91, x92, x93, x94, x95, x96, x97, x98, x99, x100, x101, x102, x103, x104, x105, x106, x107, x108, x109, x110, x111, x112, x113, x114, x115, x116, x117, x118, x119, x120, x121, x122, x123, x124, x125, x126, x127, x128, x129, x130, x131, x132, x133, x134, x135, x136, x137, x138, x139, x140, x141, x142, x143, x144, x145, x146, x147, x148, x149, x150, x151, x152, x153, x154, x155, x156, x157, x158, x159, x160, x161, x162, x163, x164, x165, x166, x167, x168, x169, x170, x171, x172, x173, x174, x175, x176, x177, x_ifb, x178, x179, x180, x181, x182, x183, x184, x185, x186, x187, x188, x189, x190, x191, x192, x193, x194, x195, x196, x197, x198, x199, x200, x201, x202, x203, x204, x205, x206, x207, x208, x209, x210, x211, x212, x213, x214, x215, x216, x217, x218, x219, x220, x221, x222, x223, x224, x225, x226, x227, x228, x229, x230, x231, x232, x233, x234, x235, x236, x237, x238, x239, x240, x241, x242, x243, x244, x245, x246, x247, x248, x249, x250, x251, x252, x253, x254, x255, x256, x257, x258, x259, x_ent, x_enm0, x_enmS, x_ena0, x_enaS, x_olen0, x_olenS, x_rep0, x_repS, x260, x261, x262, x263, x264, x265, x_mod, x_deq, x_dne, x_deqb, x_dneb, x266, x267, x268, x269, x270, x271, x272, x273, x274, x275, x276, x277, x278, x279, x280, x281, x282, x283, x284, x285, x286, x287, x288, x289, x290, x291, x292, x_ixt, x_ixl, x_ixo, x_kio, x_at0, x_at1, x_at2, x_at3, x_len_l, x_len_t, x_len_o, x_div, x_mul, x_abs, x_stp, x_stp1, x_forSt, x_forRg, x_for, x_forX, x_for1, x_for2, x_loop0, x_comp, x_compX, x_lc, x_comp1, x_comp2, x_sc, x_sc1, x_sc2, x_sc3, x_sc4, x_sc5, x_lc0, x_ift, x_iff, x_kW, x_clW, x_clC, x_la, x_la0, x_la1, x_la1x, x_la2, x_ask, x_ask1, x_ask2, x_ask3, xf_run, xi_run, x_xf2, x_xi2, x_setX, x_cleanR, x_cleanN, x_xf0, x_xfS1, x_xi0, x_xiS1, x_oset0, x_osetS, x_max2, x_min2, x_said, x_said1, x_said2, x_said3, x_bnes, x_beqs, x_ix4a, x_ix4b, x_ix4c, x_frev, x_frev1, x_frev2, x_clr, x_clr1, x_emp, x_empS, Nat.reduceAdd, Nat.reduceSub, List.contains_cons, List.contains_nil, Nat.reduceBEq, Bool.or_false, Bool.or_true, Bool.true_or, Bool.false_or, beq_self_eq_true, Int.toNat_natCast, decide_true, decide_false, Bool.not_true, Bool.not_false, lendBag, *])
local macro_rules
  | `(tactic| walk_at "go") => `(tactic| simp -implicitDefEqProofs (disch := walk_at "sd") only [x_selT, x_selF, x_selN, x_selDT, x_selDF, x_rYes, x_rNo, x_rYesE, x_rNoE, x_yes, x_bne, x_beq, x1, x2, x3, x4, x_obind, x_omap, x_id, x5, x6, x_frzs0, x_frzs1, x_frzs2, x_frzs3, x_get0, x_getS, x_set0, x_setS, x_len0, x_lenS, x_app0, x_appS, x_appN, x_lapp0, x_lappS, x_map0, x_mapS, x_put0, x_putS, x7, x8, x9, x10, x11, x12, x13, x14, x15, x16, x17, x18, x19, x20, x21, x22, x23, x24, x25, x26, x27, x28, x29, x30, x31, x32, x33, x34, x35, x36, x37, x38, x39, x40, x41, x42, x43, x44, x45, x46, x47, x48, x49, x50, x51, x52, x53, x54, x55, x56, x57, x58, x59, x60, x61, x62, x63, x64, x65, x66, x67, x68, x69, x70, x71, x72, x73, x74, x75, x76, x77, x78, x79, x80, x81, x82, x83, x84, x85, x86, x87, x88, x89, x90, x91, x92, x93, x94, x95, x96, x97, x98, x99, x100, x101, x102, x103, x104, x105, x106, x107, x108, x109, x110, x111, x112, x113, x114, x115, x116, x117, x118, x119, x120, x121, x122, x123, x124, x125, x126, x127, x128, x129, x130, x131, x132, x133, x134, x135, x136, x137, x138, x139, x140, x141, x142, x143, x144, x145, x146, x147, x148, x149, x150, x151, x152, x153, x154, x155, x156, x157, x158, x159, x160, x161, x162, x163, x164, x165, x166, x167, x168, x169, x170, x171, x172, x173, x174, x175, x176, x177, x_ifb, x178, x179, x180, x181, x182, x183, x184, x185, x186, x187, x188, x189, x190, x191, x192, x193, x194, x195, x196, x197, x198, x199, x200, x201, x202, x203, x204, x205, x206, x207, x208, x209, x210, x211, x212, x213, x214, x215, x216, x217, x218, x219, x220, x221, x222, x223, x224, x225, x226, x227, x228, x229, x230, x231, x232, x233, x234, x235, x236, x237, x238, x239, x240, x241, x242, x243, x244, x245, x246, x247, x248, x249, x250, x251, x252, x253, x254, x255, x256, x257, x258, x259, x_ent, x_enm0, x_enmS, x_ena0, x_enaS, x_olen0, x_olenS, x_rep0, x_repS, x260, x261, x262, x263, x264, x265, x_mod, x_deq, x_dne, x_deqb, x_dneb, x266, x267, x268, x269, x270, x271, x272, x273, x274, x275, x276, x277, x278, x279, x280, x281, x282, x283, x284, x285, x286, x287, x288, x289, x290, x291, x292, x_ixt, x_ixl, x_ixo, x_kio, x_at0, x_at1, x_at2, x_at3, x_len_l, x_len_t, x_len_o, x_div, x_mul, x_abs, x_stp, x_stp1, x_forSt, x_forRg, x_for, x_forX, x_for1, x_for2, x_loop0, x_comp, x_compX, x_lc, x_comp1, x_comp2, x_sc, x_sc1, x_sc2, x_sc3, x_sc4, x_sc5, x_lc0, x_ift, x_iff, x_kW, x_clW, x_clC, x_la, x_la0, x_la1, x_la1x, x_la2, x_ask, x_ask1, x_ask2, x_ask3, xf_run, xi_run, x_xf2, x_xi2, x_setX, x_cleanR, x_cleanN, x_xf0, x_xfS1, x_xi0, x_xiS1, x_oset0, x_osetS, x_max2, x_min2, x_said, x_said1, x_said2, x_said3, x_bnes, x_beqs, x_ix4a, x_ix4b, x_ix4c, x_frev, x_frev1, x_frev2, x_clr, x_clr1, x_emp, x_empS, Nat.reduceAdd, Nat.reduceSub, List.contains_cons, List.contains_nil, Nat.reduceBEq, Bool.or_false, Bool.or_true, Bool.true_or, Bool.false_or, beq_self_eq_true, Int.toNat_natCast, decide_true, decide_false, Bool.not_true, Bool.not_false, lendBag])

theorem pick_ok (b : Bag) {o : O} {l : Bool} {ds : List PyData} (ho : itemsO o = some (l, ds)) (h0 : ds ≠ []) (hz : ds.length < 2 ^ 63) (hr : o = .lst (ds.map O.fz) ∨ ∃ d, o = .fz d) : ∃ (d : PyData) (b' : Bag), d ∈ ds ∧ F__law_pick [b.o, o] = .ok (.fz d) [b'.o, o] := by
  have hp : 0 < ds.length := List.length_pos_iff.mpr h0
  obtain ⟨v, b', h1, h2, h3⟩ := pull_ok b ds.length (by omega) (by omega)
  have hv : v.toNat < ds.length := by omega
  refine ⟨ds[v.toNat], b', List.getElem_mem _, ?_⟩
  have hl := len_items ho
  have hx := ix_itemsI ho h1 (List.getElem?_eq_getElem hv)
  refine r_runR (ρ1 := [some b'.o, some o]) ?_ rfl
  walk_at "nf"
  unfold w__law_pick
  walk_at "xp"

theorem prime_ok (b : Bag) : ∃ (p : Int) (b' : Bag), 2 ≤ p ∧ p ≤ 31 ∧ F__law_prime [b.o] = .ok (.fz (.int p)) [b'.o] ∧ p ∈ [2, 3, 5, 7, 11, 13, 17, 19, 23, 29, 31] := by
  obtain ⟨d, b', h1, h2⟩ := pick_ok b (o := .lst ([2, 3, 5, 7, 11, 13, 17, 19, 23, 29, 31].map fun i => .fz (.int i))) (ds := [2, 3, 5, 7, 11, 13, 17, 19, 23, 29, 31].map PyData.int) rfl (by simp) (by simp) (Or.inl rfl)
  obtain ⟨p, h3, h4⟩ := List.mem_map.mp h1
  subst h4
  refine ⟨p, b', ?_, ?_, ?_, h3⟩
  · simp at h3; omega
  · simp at h3; omega
  · refine r_runR (ρ1 := [some b'.o]) ?_ rfl
    walk_at "nf"
    unfold w__law_prime
    walk_at "xp"

def rowD (xs : List Int) : PyData := .tuple (xs.map PyData.int)
def Within (p : Int) (xs : List Int) : Prop := ∀ x ∈ xs, 0 ≤ x ∧ x < p
theorem row_ok (b : Bag) (p : Int) (size : Nat) (hp : 2 ≤ p) (hp2 : p ≤ 31) (hs : 1 ≤ size) (hs2 : size ≤ 12) : ∃ (xs : List Int) (b' : Bag), xs.length = size ∧ Within p xs ∧ F__law_row [b.o, .fz (.int p), .fz (.int size)] = .ok (.fz (rowD xs)) [b'.o, .fz (.int p), .fz (.int size)] := by
  suffices h : RT (w__law_row [some b.o, some (.fz (.int p)), some (.fz (.int size)), none, none, none]) fun o ρ => ∃ as', finA [0, 1, 2] ρ 0 [b.o, .fz (.int p), .fz (.int size)] = some as' ∧ ∃ (xs : List Int) (b' : Bag), o = .fz (rowD xs) ∧ xs.length = size ∧ Within p xs ∧ as' = [b'.o, .fz (.int p), .fz (.int size)] by
    obtain ⟨o, as', h1, xs, b', rfl, h2, h3, rfl⟩ := run_rt (m := 6) (prot := [0, 1, 2]) (body := w__law_row) (as := [b.o, .fz (.int p), .fz (.int size)]) h
    exact ⟨xs, b', h2, h3, h1⟩
  unfold w__law_row
  obtain ⟨way, b1, w1, w2, w3⟩ := pull_ok b 6 (by omega) (by omega)
  apply seqS (G := fun out => RT out _)
  · walk_at "xp"
  · by_cases c0 : way = 0
    · subst c0
      apply rt_of
      · apply r_seqR
        apply r_ifT
        · walk_at "xp"
        · rfl
        · apply r_ret
          apply r_repT
          · apply r_pe
            apply r_tup
            · walk_at "xp"
            · rfl
          · walk_at "xp"
          · rfl
          · rfl
          · rfl
          · exact ⟨by simp, by omega, by omega, by simp⟩
      · refine ⟨_, rfl, List.replicate size 0, b1, ?_, by simp, ?_, rfl⟩
        · unfold rowD
          have : (List.replicate (Int.toNat size) [PyData.int 0]).flatten = (List.replicate size 0).map PyData.int := by
            rw [Int.toNat_natCast, flat_rep, List.map_replicate]
          rw [this]
        · intro x hx
          have := (List.mem_replicate.mp hx).2
          omega
    · apply seqS (G := fun out => RT out _)
      · walk_at "xp"
      · by_cases c1 : way = 1
        · subst c1
          obtain ⟨at', b2, a1, a2, a3⟩ := pull_ok b1 size (by omega) (by omega)
          apply rt_of
          · apply r_seqR
            apply r_ifT
            · walk_at "xp"
            · rfl
            · apply r_seq
              · walk_at "xp"
              · apply r_ret
                apply r_tuple
                · apply r_pe
                  apply compM (List.range size) (fun k : Nat => .int k) (fun k : Nat => .int (if decide ((k : Int) = at') = true then 1 else 0))
                  · walk_at "xp"
                  · rfl
                  · rfl
                  · exact rg_at
                  · intro k hk
                    apply exEl
                    · walk_at "xp"
                    · walk_at "xp"
                    · rfl
                  · rw [List.length_range]; exact le_line (by omega)
                · rfl
                · rw [items_map]
          · refine ⟨_, rfl, (List.range size).map fun k : Nat => if decide ((k : Int) = at') = true then 1 else 0, b2, ?_, by simp, ?_, rfl⟩
            · unfold rowD; rw [List.map_map]; rfl
            · intro x hx
              obtain ⟨k, _, rfl⟩ := List.mem_map.mp hx
              split <;> omega
        · apply seqS (G := fun out => RT out _)
          · walk_at "xp"
          · apply rtRet
            apply okTuple
            apply okComp (fun j acc ρ => ∃ (b : Bag) (xs : List Int), acc = xs.map PyData.int ∧ Within p xs ∧ ρ = [some b.o, some (.fz (.int p)), some (.fz (.int size)), some (.fz (.int way)), none, none])
            · walk_at "xp"
            · rfl
            · exact rg_at
            · exact ⟨b1, [], rfl, (fun x hx => by cases hx), rfl⟩
            · exact fun _ _ _ _ => rg_at
            · rintro j acc _ d hd ⟨b, xs, rfl, hx, rfl⟩
              obtain ⟨v, b', a1, a2, a3⟩ := pull_ok b p (by omega) (by omega)
              apply exElI
              · walk_at "xp"
              · rfl
              · walk_at "xp"
              · refine ⟨b', xs ++ [v], by simp, ?_, rfl⟩
                intro x h
                rcases List.mem_append.mp h with h | h
                · exact hx x h
                · cases List.mem_singleton.mp h; exact ⟨a1, a2⟩
            · rw [List.length_map, List.length_range]; exact le_line (by omega)
            · rintro acc _ hl ⟨b, xs, rfl, hx, rfl⟩
              refine ⟨_, _, items_map _, _, rfl, xs, b, rfl, ?_, hx, rfl⟩
              simpa using hl

def gi (xs : List Int) (k : Nat) : Int := xs.getD k 0
def gr (rows : List (List Int)) (k : Nat) : List Int := rows.getD k []
def mixJ (p : Int) (rows : List (List Int)) (ws : List Int) (size : Nat) : Nat → List Int
  | 0 => List.replicate size 0
  | j + 1 => (List.range size).map fun k => (gi (mixJ p rows ws size j) k + gi ws j * gi (gr rows j) k).fmod p
theorem mixJ_len {p : Int} {rows : List (List Int)} {ws : List Int} {size : Nat} : ∀ j, (mixJ p rows ws size j).length = size
  | 0 => by simp [mixJ]
  | j + 1 => by simp [mixJ]
theorem gi_get {xs : List Int} {k : Nat} (h : k < xs.length) : xs[k]? = some (gi xs k) := by simp [gi, h]
theorem gr_get {rows : List (List Int)} {k : Nat} (h : k < rows.length) : rows[k]? = some (gr rows k) := by simp [gr, h]
theorem within_gi {p : Int} {xs : List Int} {k : Nat} (hw : Within p xs) (h : k < xs.length) : 0 ≤ gi xs k ∧ gi xs k < p := hw _ (List.mem_of_getElem? (gi_get h))
theorem ix_row {xs : List Int} {k : Nat} (h : k < xs.length) : ixO (.fz (rowD xs)) (k : Int) = some (.int (gi xs k)) := ix_items (ds := xs.map PyData.int) rfl (by rw [List.getElem?_map, gi_get h]; rfl)
theorem ix_lst {xs : List Int} {k : Nat} (h : k < xs.length) : ixO (.lst ((xs.map PyData.int).map O.fz)) (k : Int) = some (.int (gi xs k)) := ix_items (items_map _) (by rw [List.getElem?_map, gi_get h]; rfl)
theorem ix_ints {o : O} {l : Bool} {xs : List Int} {k : Nat} (ho : itemsO o = some (l, xs.map PyData.int)) (h : k < xs.length) : ixO o (k : Int) = some (.int (gi xs k)) := ix_items ho (by rw [List.getElem?_map, gi_get h]; rfl)
theorem ix_rows {o : O} {l : Bool} {xs : List (List Int)} {k : Nat} (ho : itemsO o = some (l, xs.map rowD)) (h : k < xs.length) : ixO o (k : Int) = some (rowD (gr xs k)) := ix_items ho (by rw [List.getElem?_map, gr_get h]; rfl)
theorem len_rows {o : O} {l : Bool} {xs : List (List Int)} (ho : itemsO o = some (l, xs.map rowD)) : lenO o = some (.int xs.length) := by rw [len_items ho, List.length_map]
theorem len_ints {o : O} {l : Bool} {xs : List Int} (ho : itemsO o = some (l, xs.map PyData.int)) : lenO o = some (.int xs.length) := by rw [len_items ho, List.length_map]
theorem mix_ok {p : Int} {ro wo : O} {l l' : Bool} {rows : List (List Int)} {ws : List Int} {size : Nat} (hp : 2 ≤ p) (hp2 : p ≤ 31) (hs2 : size ≤ 12) (hr : itemsO ro = some (l, rows.map rowD)) (hw : itemsO wo = some (l', ws.map PyData.int)) (hn : ws.length = rows.length) (hn2 : rows.length ≤ 1000) (h1 : ∀ r ∈ rows, r.length = size ∧ Within p r) (h2 : Within p ws) :
    F__law_mix [.fz (.int p), ro, wo, .fz (.int size)] = .ok (.fz (rowD (mixJ p rows ws size rows.length))) [.fz (.int p), ro, wo, .fz (.int size)] := by
  have hp0 : p ≠ 0 := by omega
  have hl := len_rows hr
  suffices h : RT (w__law_mix [some (.fz (.int p)), some ro, some wo, some (.fz (.int size)), none, none, none]) fun o ρ => ∃ as', finA [0, 1, 2, 3] ρ 0 [.fz (.int p), ro, wo, .fz (.int size)] = some as' ∧ o = .fz (rowD (mixJ p rows ws size rows.length)) ∧ as' = [.fz (.int p), ro, wo, .fz (.int size)] by
    obtain ⟨o, as', h1, rfl, rfl⟩ := run_rt (m := 7) (prot := [0, 1, 2, 3]) (body := w__law_mix) (as := [.fz (.int p), ro, wo, .fz (.int size)]) h
    exact h1
  unfold w__law_mix
  apply seqS (G := fun out => RT out _)
  · apply r_set
    · apply r_rep
      · walk_at "xp"
      · walk_at "xp"
      · rfl
      · rfl
      · rfl
      · exact ⟨by omega, by omega, by rw [Int.toNat_natCast]; show 1 * size ≤ _; rw [Nat.one_mul]; exact le_line (by omega)⟩
    · walk_at "xp"
    · walk_at "xp"
  · refine seqNX (P := fun ρ => ∃ s5, ρ = [some (.fz (.int p)), some ro, some wo, some (.fz (.int size)), some (.lst (((mixJ p rows ws size rows.length).map PyData.int).map O.fz)), s5, none]) (G := fun out => RT out _) ?_ ?_
    · apply nxFor (fun j ρ => ∃ s5, ρ = [some (.fz (.int p)), some ro, some wo, some (.fz (.int size)), some (.lst (((mixJ p rows ws size j).map PyData.int).map O.fz)), s5, none])
      · walk_at "xp"
      · rfl
      · exact rg_at
      · refine ⟨none, ?_⟩
        rw [Int.toNat_natCast, flat_rep]
        simp [mixJ]
      · exact fun _ _ _ _ => rg_at
      · rintro j _ d hd ⟨s5, rfl⟩
        rw [List.getElem?_map] at hd
        obtain ⟨k, c1, c2⟩ := Option.map_eq_some_iff.mp hd
        subst c2
        obtain ⟨c3, c4⟩ := List.getElem?_eq_some_iff.mp c1
        rw [List.getElem_range] at c4
        subst c4
        rw [List.length_range] at c3
        have e1 := ix_ints hw (k := j) (by omega)
        have e2 := ix_rows hr c3
        have e3 := h1 (gr rows j) (List.mem_of_getElem? (gr_get c3))
        have e4 := within_gi h2 (k := j) (by omega)
        apply exFor
        · walk_at "xp"
        · apply nx_of
          · apply r_set
            · apply compM (List.range size) (fun k : Nat => .int k) (fun k : Nat => .int ((gi (mixJ p rows ws size j) k + gi ws j * gi (gr rows j) k).fmod p))
              · walk_at "xp"
              · rfl
              · walk_at "xp"
              · exact rg_at
              · intro k hk
                have hk := List.mem_range.mp hk
                have e5 := ix_lst (xs := mixJ p rows ws size j) (k := k) (by rw [mixJ_len]; exact hk)
                have e6 := ix_row (xs := gr rows j) (k := k) (by omega)
                have e7 := within_gi e3.2 (k := k) (by omega)
                apply exEl
                · walk_at "xp"
                · walk_at "xp"
                · walk_at "xp"
              · rw [List.length_range]; exact le_line (by omega)
            · walk_at "xp"
            · walk_at "xp"
          · refine ⟨some (.fz (.int j)), ?_⟩
            simp only [mixJ, List.map_map]
            rfl
      · rintro _ ⟨s5, rfl⟩
        rw [List.length_map, List.length_range]
        exact ⟨s5, rfl⟩
    · rintro _ ⟨s5, rfl⟩
      have hi := items_map ((mixJ p rows ws size rows.length).map PyData.int)
      apply rt_of
      · walk_at "xp"
      · exact ⟨_, rfl, rfl, rfl⟩

/-! _law_same of the laws with a bag: equal data are the same -/
theorem same_flat (Fs : List O → FO) {d : PyData} (hd : Sh 0 d) : kRun (w__law_same Fs [some (.fz d), some (.fz d), none, none, none]) [0, 1] [.fz d, .fz d] = .ok (.fz (.bool true)) [.fz d, .fz d] := by
  have he := dEq_self hd (by omega)
  unfold w__law_same
  cases d with
  | none =>
    have t1 : isiO "dict" (.fz .none) = some (.bool false) := rfl
    have t2 : isiO "list" (.fz .none) = some (.bool false) := rfl
    have t3 : isiO "tuple" (.fz .none) = some (.bool false) := rfl
    walk_at "run"
  | bool b =>
    have t1 : isiO "dict" (.fz (.bool b)) = some (.bool false) := rfl
    have t2 : isiO "list" (.fz (.bool b)) = some (.bool false) := rfl
    have t3 : isiO "tuple" (.fz (.bool b)) = some (.bool false) := rfl
    have t4 : isiO "bool" (.fz (.bool b)) = some (.bool true) := rfl
    have t5 : isiO "int" (.fz (.bool b)) = some (.bool true) := rfl
    walk_at "run"
  | int b =>
    have t1 : isiO "dict" (.fz (.int b)) = some (.bool false) := rfl
    have t2 : isiO "list" (.fz (.int b)) = some (.bool false) := rfl
    have t3 : isiO "tuple" (.fz (.int b)) = some (.bool false) := rfl
    have t4 : isiO "bool" (.fz (.int b)) = some (.bool false) := rfl
    have t5 : isiO "int" (.fz (.int b)) = some (.bool true) := rfl
    walk_at "run"
  | str b =>
    have t1 : isiO "dict" (.fz (.str b)) = some (.bool false) := rfl
    have t2 : isiO "list" (.fz (.str b)) = some (.bool false) := rfl
    have t3 : isiO "tuple" (.fz (.str b)) = some (.bool false) := rfl
    have t4 : isiO "bool" (.fz (.str b)) = some (.bool false) := rfl
    have t5 : isiO "int" (.fz (.str b)) = some (.bool false) := rfl
    walk_at "run"
  | list ds => exact absurd hd.2 (by simp [PyData.depth])
  | tuple ds => exact absurd hd.2 (by simp [PyData.depth])
  | dict ds => exact absurd hd.1 (by simp [PyData.canLay0])
/-- a thing that is a list or a tuple of settled items -/
structure SqO (o : O) (l : Bool) (ds : List PyData) : Prop where
  items : itemsO o = some (l, ds)
  i1 : isiO "bool" o = some (.bool false)
  i2 : isiO "int" o = some (.bool false)
  i3 : isiO "str" o = some (.bool false)
  i4 : isiO "dict" o = some (.bool false)
  i5 : isiO "list" o = some (.bool l)
  i6 : isiO "tuple" o = some (.bool !l)
  fz : ∃ d, frz o = some d ∧ dIs d .none = some (.bool false)
theorem SqO.fzl (ds : List PyData) : SqO (.fz (.list ds)) true ds := ⟨rfl, rfl, rfl, rfl, rfl, rfl, rfl, _, rfl, rfl⟩
theorem SqO.fzt (ds : List PyData) : SqO (.fz (.tuple ds)) false ds := ⟨rfl, rfl, rfl, rfl, rfl, rfl, rfl, _, rfl, rfl⟩
theorem SqO.lst (ds : List PyData) : SqO (.lst (ds.map O.fz)) true ds := ⟨items_map _, rfl, rfl, rfl, rfl, rfl, rfl, _, frz_map _, rfl⟩
theorem same_seq (Fs : List O → FO) {o1 o2 : O} {l : Bool} {ds : List PyData} (h1 : SqO o1 l ds) (h2 : SqO o2 l ds) (hz : ds.length ≤ 100000)
    (hF : ∀ d ∈ ds, Fs [.fz d, .fz d] = .ok (.fz (.bool true)) [.fz d, .fz d]) : kRun (w__law_same Fs [some o1, some o2, none, none, none]) [0, 1] [o1, o2] = .ok (.fz (.bool true)) [o1, o2] := by
  have l1 := len_items h1.items
  have l2 := len_items h2.items
  have a4 := h1.i4; have a5 := h1.i5; have a6 := h1.i6
  have b4 := h2.i4; have b5 := h2.i5; have b6 := h2.i6
  have hcomp : loopC (gfN 4) tYesF (eZ (eCall Fs [none, none] [] (aCons (eIx (pVar 0) (pVar 4)) (aCons (eIx (pVar 1) (pVar 4)) aNil)))) [4] (rgD 0 ds.length) [some o1, some o2, none, none, none] [] = .ok (((List.range ds.length).map (PyData.bool ∘ fun _ => true)).map O.fz) [some o1, some o2, none, none, none] := by
    refine lc_rg (PyData.bool ∘ fun _ => true) (nat_line hz) fun k hk => ?_
    have x1 := ix_items h1.items (List.getElem?_eq_getElem hk)
    have x2 := ix_items h2.items (List.getElem?_eq_getElem hk)
    have f1 := hF ds[k] (List.getElem_mem _)
    clear h1 h2 hF l1 l2 a4 a5 a6 b4 b5 b6
    walk_at "run"
    rfl
  have hall : allO (.lst (((List.range ds.length).map (PyData.bool ∘ fun _ => true)).map O.fz)) = some (.bool true) := by
    rw [← List.map_map, allO_map]; simp
  have hln : (ds.length : Int) ≤ 100000 := by omega
  unfold w__law_same
  cases l
  · clear h1 h2 hF
    simp only [Bool.not_false, Bool.not_true] at a6 b6
    walk_at "run"
  · clear h1 h2 hF
    simp only [Bool.not_false, Bool.not_true] at a6 b6
    walk_at "run"
/-- lists and tuples of a thousand items at most -/
inductive Sm : PyData → Prop
  | non : Sm .none
  | bool (b : Bool) : Sm (.bool b)
  | int (i : Int) : Sm (.int i)
  | str (z : Str) : Sm (.str z)
  | list {ds : List PyData} : ds.length ≤ 100000 → (∀ d ∈ ds, Sm d) → Sm (.list ds)
  | tuple {ds : List PyData} : ds.length ≤ 100000 → (∀ d ∈ ds, Sm d) → Sm (.tuple ds)
theorem same_run {n : Nat} {o1 o2 : O} {r : FO} (h : kRun (w__law_same (F__law_same n) [some o1, some o2, none, none, none]) [0, 1] [o1, o2] = r) : F__law_same (n + 1) [o1, o2] = r := by
  rw [← h]; rfl
theorem same_ok : ∀ (n : Nat) (d : PyData) (o1 o2 : O), n ≤ 60 → Sh n d → Sm d → Is o1 d → Is o2 d → F__law_same (n + 1) [o1, o2] = .ok (.fz (.bool true)) [o1, o2] := by
  have flat : ∀ (n : Nat) (d : PyData) (o1 o2 : O), Sh 0 d → Is o1 d → Is o2 d → F__law_same (n + 1) [o1, o2] = .ok (.fz (.bool true)) [o1, o2] := by
    intro n d o1 o2 hd h1 h2
    have e1 : o1 = .fz d := by
      cases h1 with
      | fz => rfl
      | lst ds => exact absurd hd.2 (by simp [PyData.depth])
    have e2 : o2 = .fz d := by
      cases h2 with
      | fz => rfl
      | lst ds => exact absurd hd.2 (by simp [PyData.depth])
    subst e1; subst e2
    exact same_run (same_flat _ hd)
  intro n
  induction n with
  | zero => exact fun d o1 o2 _ hd _ h1 h2 => flat 0 d o1 o2 hd h1 h2
  | succ n ih =>
    intro d o1 o2 hn hd hm h1 h2
    cases hm with
    | list hz hm =>
      have t : ∀ {o : O} {ds : List PyData}, Is o (.list ds) → SqO o true ds := by
        intro o ds h
        cases h with
        | fz => exact .fzl _
        | lst ds => exact .lst _
      exact same_run (same_seq _ (t h1) (t h2) hz fun d hd' => ih d _ _ (by omega) (sh_listI hd d hd') (hm d hd') (.fz d) (.fz d))
    | tuple hz hm =>
      have t : ∀ {o : O} {ds : List PyData}, Is o (.tuple ds) → SqO o false ds := by
        intro o ds h
        cases h with
        | fz => exact .fzt _
      exact same_run (same_seq _ (t h1) (t h2) hz fun d hd' => ih d _ _ (by omega) (sh_tupleI hd d hd') (hm d hd') (.fz d) (.fz d))
    | _ => exact flat _ _ _ _ ⟨hd.1, by simp [PyData.depth]⟩ h1 h2

def Rws (p : Int) (size : Nat) (rows : List (List Int)) : Prop := ∀ r ∈ rows, r.length = size ∧ Within p r
theorem mixJ_within {p : Int} {rows : List (List Int)} {ws : List Int} {size : Nat} (hp : 2 ≤ p) : ∀ j, Within p (mixJ p rows ws size j)
  | 0 => by
    intro x hx
    have := (List.mem_replicate.mp hx).2
    omega
  | j + 1 => by
    intro x hx
    obtain ⟨k, _, rfl⟩ := List.mem_map.mp hx
    exact ⟨Int.fmod_nonneg_of_pos _ (by omega), Int.fmod_lt_of_pos _ (by omega)⟩
def rowsO (rows : List (List Int)) : O := .lst ((rows.map rowD).map O.fz)
def intsO (xs : List Int) : O := .lst ((xs.map PyData.int).map O.fz)
theorem sh_row {xs : List Int} : Sh 1 (rowD xs) := sh_tuple fun d hd => by
  obtain ⟨x, _, rfl⟩ := List.mem_map.mp hd
  exact sh_int
theorem sh_rows {rows : List (List Int)} : Sh 2 (.list (rows.map rowD)) := sh_list fun d hd => by
  obtain ⟨x, _, rfl⟩ := List.mem_map.mp hd
  exact sh_row
theorem app_rows {rows : List (List Int)} {r : List Int} : O.lst ((rows.map rowD).map O.fz ++ [.fz (rowD r)]) = rowsO (rows ++ [r]) := by simp [rowsO]
theorem rws_app {p : Int} {size : Nat} {rows : List (List Int)} {r : List Int} (h : Rws p size rows) (h1 : r.length = size) (h2 : Within p r) : Rws p size (rows ++ [r]) := by
  intro x hx
  rcases List.mem_append.mp hx with h' | h'
  · exact h x h'
  · cases List.mem_singleton.mp h'; exact ⟨h1, h2⟩

abbrev RowI (p : Int) (size most : Nat) (j : Nat) (ρ : En) : Prop := ∃ (b : Bag) (rows : List (List Int)) (s5 s6 s7 : Option O), rows.length = j ∧ Rws p size rows ∧ ρ = [some b.o, some (.fz (.int p)), some (.fz (.int size)), some (.fz (.int most)), some (rowsO rows), s5, s6, s7, none]
theorem rows_ok (b : Bag) (p : Int) (size most : Nat) (hp : 2 ≤ p) (hp2 : p ≤ 31) (hs : 1 ≤ size) (hs2 : size ≤ 12) (hm : most ≤ 100) : ∃ (rows : List (List Int)) (b' : Bag), rows.length ≤ most ∧ Rws p size rows ∧ F__law_rows [b.o, .fz (.int p), .fz (.int size), .fz (.int most)] = .ok (rowsO rows) [b'.o, .fz (.int p), .fz (.int size), .fz (.int most)] := by
  obtain ⟨v, b1, v1, v2, v3⟩ := pull_ok b ((most : Int) + 1) (by omega) (by omega)
  obtain ⟨n, rfl⟩ : ∃ n : Nat, v = n := ⟨v.toNat, by omega⟩
  suffices h : ∃ (rows : List (List Int)) (b' : Bag), rows.length = n ∧ Rws p size rows ∧ F__law_rows [b.o, .fz (.int p), .fz (.int size), .fz (.int most)] = .ok (rowsO rows) [b'.o, .fz (.int p), .fz (.int size), .fz (.int most)] by
    obtain ⟨rows, b', a1, a2, a3⟩ := h
    exact ⟨rows, b', by omega, a2, a3⟩
  unfold F__law_rows w__law_rows
  walk_at "run"
  clear v3
  refine loopR (G := fun z => ∃ (rows : List (List Int)) (b' : Bag), rows.length = n ∧ Rws p size rows ∧ kRun (kSeq z _) _ _ = .ok (rowsO rows) [b'.o, .fz (.int p), .fz (.int size), .fz (.int most)]) (RowI p size most) ?_ ⟨b1, [], none, none, none, rfl, (fun _ h => nomatch h), rfl⟩ ?_
  · rintro j _ hj ⟨b2, rows, s5, s6, s7, hl, hw, rfl⟩
    obtain ⟨way, b3, w1, w2, w3⟩ := pull_ok b2 4 (by decide) (by decide)
    have hi : itemsO (rowsO rows) = some (true, rows.map rowD) := items_map _
    have hfz : frz (rowsO rows) = some (.list (rows.map rowD)) := frz_map _
    have hne : dNe (.list (rows.map rowD)) (.list []) = some (.bool (!decide (rows = []))) := by
      cases rows with
      | nil => rfl
      | cons r rs =>
        have := sh_shaped (sh_rows (rows := r :: rs)) (by decide)
        unfold dNe
        rw [this]
        simp [SeqAt.shaped, PyData.canLay0, PyData.canLayAll0, PyData.depth, PyData.depthAll, PyData.eqv, PyData.eqvAll]
    have hz : ((rows.map rowD).map O.fz).length < sizeLine := by rw [List.length_map, List.length_map]; exact nat_line (n := rows.length + 1) (by omega)
    have eap : ∀ r : List Int, (rows.map rowD).map O.fz ++ [.fz (rowD r)] = ((rows ++ [r]).map rowD).map O.fz := fun r => by simp
    unfold rowsO at hi hfz ⊢
    obtain ⟨xs, b4, x1, x2, x3⟩ := row_ok b3 p size hp hp2 hs hs2
    have fin : ∀ (b : Bag) (r : List Int) (s5 s6 s7 : Option O), r.length = size → Within p r → NC (SO.nx [some b.o, some (.fz (.int p)), some (.fz (.int size)), some (.fz (.int most)), some (.lst (((rows ++ [r]).map rowD).map O.fz)), s5, s6, s7, none]) (RowI p size most (j + 1)) := fun b r s5 s6 s7 q1 q2 => nc_nx ⟨b, rows ++ [r], s5, s6, s7, by simp [hl], rws_app hw q1 q2, rfl⟩
    by_cases c : rows = []
    · have c1 : (!decide (rows = [])) = false := by simp [c]
      rw [c1] at hne
      have e := eap xs
      clear c c1 eap hi
      by_cases c0 : way = 0
      · subst c0
        walk_at "run"
        all_goals exact fin _ _ _ _ _ x1 x2
      · by_cases c2 : way = 1
        · subst c2
          walk_at "run"
          all_goals exact fin _ _ _ _ _ x1 x2
        · walk_at "run"
          all_goals exact fin _ _ _ _ _ x1 x2
    · have c1 : (!decide (rows = [])) = true := by simp [c]
      rw [c1] at hne
      by_cases c0 : way = 0
      · subst c0
        clear x3
        walk_at "run"
        refine compG (G := fun z => NC (kSeq (kSt _ z) _) _) (xs := rows) (q := rowD) (fun k acc ρ => ∃ (b : Bag) (ws : List Int), acc = ws.map PyData.int ∧ Within p ws ∧ ρ = [some b.o, some (.fz (.int p)), some (.fz (.int size)), some (.fz (.int most)), some (.lst ((rows.map rowD).map O.fz)), some (.fz (.int j)), some (.fz (.int 0)), s7, none]) rfl ?_ (nat_line (by omega)) ?_ ⟨b3, [], rfl, (fun _ h => nomatch h), rfl⟩ ?_
        · rintro k acc _ ⟨b, ws, rfl, hws, rfl⟩
          walk_at "run"
        · rintro k _ _ hk hlk ⟨b, ws, rfl, hws, rfl⟩
          obtain ⟨y, b5, y1, y2, y3⟩ := pull_ok b p (by omega) (by omega)
          clear hne hi hfz hz eap fin
          walk_at "run"
          refine co_mk ⟨_, rfl, b5, ws ++ [y], by simp, fun x h => ?_, rfl⟩
          rcases List.mem_append.mp h with h | h
          · exact hws x h
          · cases List.mem_singleton.mp h; exact ⟨y1, y2⟩
        rintro _ _ hlk ⟨b5, ws, rfl, hws, rfl⟩
        rw [List.length_map] at hlk
        have hmx := mix_ok (size := size) hp hp2 hs2 hi (items_map (ws.map PyData.int)) hlk (by omega) hw hws
        have e := eap (mixJ p rows ws size rows.length)
        have q1 := mixJ_len (p := p) (rows := rows) (ws := ws) (size := size) rows.length
        have q2 := mixJ_within (rows := rows) (ws := ws) (size := size) (p := p) hp rows.length
        generalize mixJ p rows ws size rows.length = mx at *
        clear eap hi hne
        walk_at "run"
        all_goals exact fin _ _ _ _ _ q1 q2
      · by_cases c2 : way = 1
        · subst c2
          obtain ⟨d, b5, d1, d2⟩ := pick_ok b3 (o := .lst ((rows.map rowD).map O.fz)) hi (by simp [c]) (by simp; omega) (.inl rfl)
          obtain ⟨r, r1, rfl⟩ := List.mem_map.mp d1
          have e := eap r
          obtain ⟨q1, q2⟩ := hw r r1
          clear eap hi x3 d1
          walk_at "run"
          all_goals exact fin _ _ _ _ _ q1 q2
        · have e := eap xs
          clear eap hi
          walk_at "run"
          all_goals exact fin _ _ _ _ _ x1 x2
  · rintro _ ⟨b2, rows, s5, s6, s7, hl, hw, rfl⟩
    refine ⟨rows, b2, hl, hw, ?_⟩
    have e : ∀ i ρ, kLend (some (some (rowsO rows))) i ρ = .ok (rowsO rows) (ρ.set i none) := fun _ _ => rfl
    walk_at "run"

def primesL : List Int := [2, 3, 5, 7, 11, 13, 17, 19, 23, 29, 31]
theorem primes_le {p : Int} (h : p ∈ primesL) : 2 ≤ p ∧ p ≤ 31 := by
  simp only [primesL, List.mem_cons, List.not_mem_nil, or_false] at h
  omega
theorem any_eqv (q : Int) : ∀ l : List Int, ((l.map PyData.int).any fun y => PyData.eqv y (.int q)) = decide (q ∈ l)
  | [] => by simp
  | a :: l => by
    rw [List.map_cons, List.any_cons, any_eqv q l]
    have e : PyData.eqv (.int a) (.int q) = decide (q = a) := by
      by_cases h : a = q
      · subst h; simp [PyData.eqv]
      · have h2 : ¬ q = a := fun z => h z.symm
        simp [PyData.eqv, h, h2]
    rw [e]
    by_cases h : q = a <;> simp [h]
theorem notin_primes (q : Int) : dNotIn (.int q) d_PRIMES = some (.bool (!decide (q ∈ primesL))) := by
  have e : dNotIn (.int q) d_PRIMES = some (.bool (!((primesL.map PyData.int).any fun y => PyData.eqv y (.int q)))) := rfl
  rw [e, any_eqv]
def badPrime : Xn := ⟨"BadPrime", [("word", PyData.str "BadPrime")]⟩
theorem need_prime_ok {p : Int} (h : p ∈ primesL) : F_need_prime [.fz (.int p)] = .ok (.fz .none) [.fz (.int p)] := by
  have h1 := notin_primes p
  unfold F_need_prime w_need_prime
  walk_at "run"
theorem need_prime_bad {p : Int} (h : p ∉ primesL) : F_need_prime [.fz (.int p)] = .exc badPrime [.fz (.int p)] := by
  have h1 := notin_primes p
  have h2 : mkD_BadPrime [] = some badPrime.fs := rfl
  unfold F_need_prime w_need_prime
  walk_at "run"
  rfl

theorem mod_mul {p a a' b b' : Int} (h1 : a % p = a' % p) (h2 : b % p = b' % p) : (a * b) % p = (a' * b') % p := by
  rw [Int.mul_emod, h1, h2, ← Int.mul_emod]
theorem mod_mod' (a p : Int) : (a % p) % p = a % p := Int.emod_emod_of_dvd a (Int.dvd_refl p)
theorem mod_pow {p a a' : Int} (h : a % p = a' % p) : ∀ k : Nat, (a ^ k) % p = (a' ^ k) % p
  | 0 => by rw [Int.pow_zero, Int.pow_zero]
  | k + 1 => by rw [Int.pow_succ, Int.pow_succ]; exact mod_mul (mod_pow h k) h
theorem fm {p : Int} (h : 0 ≤ p) (a : Int) : a.fmod p = a % p := Int.fmod_eq_emod_of_nonneg a h
theorem fd {p : Int} (h : 0 ≤ p) (a : Int) : a.fdiv p = a / p := Int.fdiv_eq_ediv_of_nonneg a h
structure RS where
  fo : Int
  by_ : Int
  l : Int
theorem raised_ok {p n : Int} {many : Int} (hp : p ∈ primesL) (hm : 0 ≤ many) : F_raised [.fz (.int n), .fz (.int many), .fz (.int p)] = .ok (.fz (.int (n ^ many.toNat % p))) [.fz (.int n), .fz (.int many), .fz (.int p)] := by
  have hp2 := primes_le hp
  have hn := need_prime_ok hp
  have hp0 : p ≠ 0 := by omega
  unfold F_raised w_raised
  walk_at "run"
  refine whS (G := fun z => kRun (kSeq z _) _ _ = _) (fun s : RS => [some (.fz (.int n)), some (.fz (.int many)), some (.fz (.int p)), some (.fz (.int s.fo)), some (.fz (.int s.by_)), some (.fz (.int s.l))]) (fun s => s.l.toNat) (fun s => 0 ≤ s.fo ∧ s.fo < p ∧ 0 ≤ s.by_ ∧ s.by_ < p ∧ 0 ≤ s.l ∧ (s.fo * s.by_ ^ s.l.toNat) % p = n ^ many.toNat % p) ?_ ⟨1, n.fmod p, many⟩ ?_
  · rintro ⟨fo, b, l⟩ ⟨h1, h2, h3, h4, h5, h6⟩
    dsimp only at h1 h2 h3 h4 h5 h6 ⊢
    by_cases c : 0 < l
    · right
      have e2 := fm (p := 2) (by decide) l
      have e3 := fd (p := 2) (by decide) l
      by_cases o : l.fmod 2 = 1
      · refine ⟨⟨(fo * b).fmod p, (b * b).fmod p, l.fdiv 2⟩, ?_, ?_, ?_, ?_⟩
        · walk_at "run"
        · walk_at "run"
        · dsimp only
          rw [fm (by omega), fm (by omega), e3]
          refine ⟨Int.emod_nonneg _ hp0, Int.emod_lt_of_pos _ (by omega), Int.emod_nonneg _ hp0, Int.emod_lt_of_pos _ (by omega), by omega, ?_⟩
          rw [← h6, show l.toNat = (l / 2).toNat + (l / 2).toNat + 1 by omega, Int.pow_succ, Int.pow_add]
          refine (mod_mul (mod_mod' _ _) (mod_pow (mod_mod' _ _) _)).trans ?_
          rw [Int.mul_pow]
          congr 1
          ac_rfl
        · dsimp only
          rw [e3]; omega
      · refine ⟨⟨fo, (b * b).fmod p, l.fdiv 2⟩, ?_, ?_, ?_, ?_⟩
        · walk_at "run"
        · walk_at "run"
        · dsimp only
          rw [fm (by omega), e3]
          refine ⟨h1, h2, Int.emod_nonneg _ hp0, Int.emod_lt_of_pos _ (by omega), by omega, ?_⟩
          rw [← h6, show l.toNat = (l / 2).toNat + (l / 2).toNat by omega, Int.pow_add]
          refine (mod_mul rfl (mod_pow (mod_mod' _ _) _)).trans ?_
          rw [Int.mul_pow]
        · dsimp only
          rw [e3]; omega
    · left
      have l0 : l = 0 := by omega
      subst l0
      refine ⟨?_, ?_⟩
      · walk_at "run"
      · walk_at "run"
        have e : fo = n ^ many.toNat % p := by
          rw [← h6]
          simp
          rw [Int.emod_eq_of_lt h1 h2]
        rw [e]
  · dsimp only
    rw [fm (by omega)]
    refine ⟨by decide, by omega, Int.emod_nonneg _ hp0, Int.emod_lt_of_pos _ (by omega), hm, ?_⟩
    rw [Int.one_mul]
    exact mod_pow (mod_mod' _ _) _
theorem raised_bad {p n many : Int} (hp : p ∉ primesL) : F_raised [.fz (.int n), .fz (.int many), .fz (.int p)] = .exc badPrime [.fz (.int n), .fz (.int many), .fz (.int p)] := by
  have hn := need_prime_bad hp
  unfold F_raised w_raised
  walk_at "run"
def noShare : Xn := ⟨"NoShare", [("word", PyData.str "NoShare")]⟩
theorem turned_ok {p n : Int} (hp : p ∈ primesL) : F_turned [.fz (.int n), .fz (.int p)] = if n % p = 0 then .exc noShare [.fz (.int n), .fz (.int p)] else .ok (.fz (.int (n ^ (p - 2).toNat % p))) [.fz (.int n), .fz (.int p)] := by
  have hp2 := primes_le hp
  have hn := need_prime_ok hp
  have hp0 : p ≠ 0 := by omega
  have e := fm (p := p) (by omega) n
  have hr := @raised_ok p n (p - 2) hp (by omega)
  have h2 : mkD_NoShare [] = some noShare.fs := rfl
  unfold F_turned w_turned
  by_cases c : n % p = 0
  · rw [if_pos c]
    walk_at "run"
    rfl
  · rw [if_neg c]
    walk_at "run"
theorem turned_bad {p n : Int} (hp : p ∉ primesL) : F_turned [.fz (.int n), .fz (.int p)] = .exc badPrime [.fz (.int n), .fz (.int p)] := by
  have hn := need_prime_bad hp
  unfold F_turned w_turned
  walk_at "run"

theorem inverse_ok {p x : Int} (hp2 : 2 ≤ p ∧ p ≤ 31) (hx : 0 ≤ x) (hx2 : x < p) : ∃ v : Int, F__law_inverse [.fz (.int p), .fz (.int x)] = .ok (.fz (.int v)) [.fz (.int p), .fz (.int x)] ∧ ((1 ≤ v ∧ v < p ∧ v * x % p = 1) ∨ (v = 0 ∧ ∀ k : Int, 1 ≤ k → k < p → k * x % p ≠ 1)) := by
  have hp0 : p ≠ 0 := by omega
  unfold F__law_inverse w__law_inverse
  walk_at "run"
  refine loop_ret (gF := gfN 2) (Q := fun z => ∃ v : Int, kRun (kSeq z (sRet (eC (.int 0)))) [0, 1] [.fz (.int p), .fz (.int x)] = .ok (.fz (.int v)) [.fz (.int p), .fz (.int x)] ∧ ((1 ≤ v ∧ v < p ∧ v * x % p = 1) ∨ (v = 0 ∧ ∀ k : Int, 1 ≤ k → k < p → k * x % p ≠ 1))) (fun j ρ => (∀ i : Nat, i < j → (1 + (i : Int)) * x % p ≠ 1) ∧ ∃ s, ρ = [some (.fz (.int p)), some (.fz (.int x)), s]) ?_ ⟨fun _ h => absurd h (by omega), _, rfl⟩ ?_
  · rintro j d _ hd ⟨h1, s, rfl⟩
    obtain ⟨hj, rfl⟩ := rgD_get hd
    have e := fm (p := p) (by omega) ((1 + (j : Int)) * x)
    by_cases c : ((1 + (j : Int)) * x).fmod p = 1
    · right
      refine ⟨.fz (.int (1 + j)), [some (.fz (.int p)), some (.fz (.int x)), some (.fz (.int (1 + j)))], ?_, 1 + j, ?_, .inl ⟨by omega, by omega, by rw [← e]; exact c⟩⟩
      · walk_at "run"
      · walk_at "run"
    · left
      walk_at "run"
      refine nc_nx ⟨fun i hi => ?_, _, rfl⟩
      by_cases hij : i = j
      · subst hij; rw [← e]; exact c
      · exact h1 i (by omega)
  · rintro _ ⟨h1, s, rfl⟩
    rw [rgD_len] at h1
    refine ⟨0, ?_, .inr ⟨rfl, fun k hk1 hk2 => ?_⟩⟩
    · walk_at "run"
    · have := h1 (k - 1).toNat (by omega)
      rwa [show 1 + (((k - 1).toNat : Nat) : Int) = k by omega] at this
/-- by trying all of them -/
def primesN : List Nat := [2, 3, 5, 7, 11, 13, 17, 19, 23, 29, 31]
theorem tried : (primesN.all fun p => (List.range p).all fun r => (r ^ p % p == r % p) && (r == 0 || ((r ^ (p - 2) % p) * r % p == 1)) && (List.range p).all fun v => !(v * r % p == 1) || v == r ^ (p - 2) % p) = true := by decide +kernel
theorem tried_at {p : Int} (hp : p ∈ primesL) {r : Int} (h0 : 0 ≤ r) (h1 : r < p) : r ^ p.toNat % p = r ∧ (r ≠ 0 → (r ^ (p - 2).toNat % p) * r % p = 1) ∧ (∀ v : Int, 0 ≤ v → v < p → v * r % p = 1 → v = r ^ (p - 2).toNat % p) := by
  have hp2 := primes_le hp
  obtain ⟨q, rfl⟩ : ∃ q : Nat, p = q := ⟨p.toNat, by omega⟩
  obtain ⟨s, rfl⟩ : ∃ s : Nat, r = s := ⟨r.toNat, by omega⟩
  have hq : q ∈ primesN := by
    simp only [primesL, primesN, List.mem_cons, List.not_mem_nil, or_false] at hp ⊢
    omega
  have h := List.all_eq_true.mp (List.all_eq_true.mp tried q hq) s (List.mem_range.mpr (by omega))
  simp only [Bool.and_eq_true, Bool.or_eq_true, beq_iff_eq] at h
  obtain ⟨⟨a1, a2⟩, a3⟩ := h
  have e2 : ((q : Int) - 2).toNat = q - 2 := by omega
  rw [e2, Int.toNat_natCast]
  refine ⟨?_, fun hs => ?_, fun v v0 v1 hv => ?_⟩
  · have : ((s ^ q % q : Nat) : Int) = ((s % q : Nat) : Int) := by rw [a1]
    rw [Nat.mod_eq_of_lt (show s < q by omega)] at this
    exact_mod_cast this
  · rcases a2 with a2 | a2
    · exact absurd (by omega) hs
    · exact_mod_cast a2
  · obtain ⟨u, rfl⟩ : ∃ u : Nat, v = u := ⟨v.toNat, by omega⟩
    have hu := List.all_eq_true.mp a3 u (List.mem_range.mpr (by omega))
    have hv' : u * s % q = 1 := by exact_mod_cast hv
    rw [hv'] at hu
    simp at hu
    exact_mod_cast hu
theorem red_pow {p n : Int} (k : Nat) : n ^ k % p = (n % p) ^ k % p := mod_pow (mod_mod' n p).symm k
theorem turn_due {p n v : Int} (hp : p ∈ primesL) (h : (1 ≤ v ∧ v < p ∧ v * (n % p) % p = 1) ∨ (v = 0 ∧ ∀ k : Int, 1 ≤ k → k < p → k * (n % p) % p ≠ 1)) : (n % p = 0 ∧ v = 0) ∨ (n % p ≠ 0 ∧ 0 < v ∧ v = n ^ (p - 2).toNat % p) := by
  have hp2 := primes_le hp
  have r0 := Int.emod_nonneg n (show p ≠ 0 by omega)
  have r1 := Int.emod_lt_of_pos n (show 0 < p by omega)
  obtain ⟨t1, t2, t3⟩ := tried_at hp r0 r1
  by_cases c : n % p = 0
  · left
    refine ⟨c, ?_⟩
    rcases h with ⟨_, _, h⟩ | ⟨h, _⟩
    · rw [c] at h; simp at h
    · exact h
  · right
    rcases h with ⟨h1, h2, h3⟩ | ⟨_, h⟩
    · exact ⟨c, by omega, by rw [red_pow]; exact t3 v (by omega) h2 h3⟩
    · exfalso
      have w0 := Int.emod_nonneg ((n % p) ^ (p - 2).toNat) (show p ≠ 0 by omega)
      have w1 := Int.emod_lt_of_pos ((n % p) ^ (p - 2).toNat) (show 0 < p by omega)
      refine h _ ?_ w1 (t2 c)
      by_cases z : (n % p) ^ (p - 2).toNat % p = 0
      · have := t2 c
        rw [z] at this
        simp at this
      · omega

theorem strange_ok (b : Bag) : ∃ (q : Int) (b' : Bag), F__law_strange_prime [b.o] = .ok (.fz (.int q)) [b'.o] ∧ q ∉ primesL := by
  obtain ⟨v, b1, v1, v2, v3⟩ := pull_ok b (10 ^ 9) (by decide) (by decide)
  have hv : v.natAbs < 2 ^ 400 := by omega
  let ql : List Int := [0, 1, 4, 6, 9, 25, 37, 41, -7, -2, 33, 2 + 30 * (2 + v)]
  obtain ⟨d, b', h1, h2⟩ := pick_ok b1 (o := .lst (ql.map fun i => .fz (.int i))) (ds := ql.map PyData.int) rfl (by simp [ql]) (by simp [ql]) (Or.inl rfl)
  obtain ⟨q, h3, rfl⟩ := List.mem_map.mp h1
  refine ⟨q, b', ?_, ?_⟩
  · unfold F__law_strange_prime w__law_strange_prime
    have h10 : dPow (.int 10) (.int 9) = some (.int (10 ^ 9)) := rfl
    have h12 : O.lst (ql.map fun i => .fz (.int i)) = .lst [.fz (.int 0), .fz (.int 1), .fz (.int 4), .fz (.int 6), .fz (.int 9), .fz (.int 25), .fz (.int 37), .fz (.int 41), .fz (.int (-7)), .fz (.int (-2)), .fz (.int 33), .fz (.int (2 + 30 * (2 + v)))] := rfl
    rw [h12] at h2
    clear h12 h1 h3
    walk_at "run"
  · simp only [ql, primesL, List.mem_cons, List.not_mem_nil, or_false] at h3 ⊢
    omega

theorem is_whole_ok {x : Int} : F_is_whole [.fz (.int x)] = .ok (.fz (.bool true)) [.fz (.int x)] := by
  refine r_runR (ρ1 := [some (.fz (.int x))]) ?_ rfl
  show w_is_whole [some (.fz (.int x))] = _
  unfold w_is_whole
  apply r_ret
  apply r_eandT
  · walk_at "xp"
  · walk_at "tt"
  · apply r_enot (b := false)
    · apply r_pe
      walk_at "xp"
    · rfl
    · rfl
theorem is_within_ok {x lo hi : Int} (h1 : lo ≤ x) (h2 : x ≤ hi) : F_is_within [.fz (.int x), .fz (.int lo), .fz (.int hi)] = .ok (.fz (.bool true)) [.fz (.int x), .fz (.int lo), .fz (.int hi)] := by
  refine r_runR (ρ1 := [some (.fz (.int x)), some (.fz (.int lo)), some (.fz (.int hi))]) ?_ rfl
  show w_is_within [some (.fz (.int x)), some (.fz (.int lo)), some (.fz (.int hi))] = _
  unfold w_is_within
  have hw := @is_whole_ok x
  apply r_ret
  apply r_eandT
  · apply r_call
    · walk_at "xp"
    · exact hw
    · walk_at "xp"
  · rfl
  · apply r_chainT
    · walk_at "xp"
    · walk_at "xp"
    · rfl
    · rfl
    · rfl
    · exact decide_eq_true h1
    · walk_at "xp"
    · rfl
    · rfl
    · exact congrArg (fun b => some (PyData.bool b)) (decide_eq_true h2)
theorem all_true {α : Type} (xs : List α) : (xs.map fun _ => true).all id = true := by simp
theorem is_row_ok {p : Int} {xs : List Int} (h0 : 1 ≤ xs.length) (h1 : xs.length ≤ 12) (hw : Within p xs) : F_is_row_of [.fz (.int p), .fz (rowD xs)] = .ok (.fz (.bool true)) [.fz (.int p), .fz (rowD xs)] := by
  refine r_runR (ρ1 := [some (.fz (.int p)), some (.fz (rowD xs)), none]) ?_ rfl
  show w_is_row_of [some (.fz (.int p)), some (.fz (rowD xs)), none] = _
  unfold w_is_row_of
  have hl : lenO (.fz (rowD xs)) = some (.int xs.length) := len_ints (l := false) rfl
  have ht : isiO "tuple" (.fz (rowD xs)) = some (.bool true) := rfl
  apply r_seq
  · apply r_ifF
    · apply r_torF
      · walk_at "xp"
      · rfl
      · apply r_tnot
        apply r_tof
        apply r_chainT
        · walk_at "xp"
        · walk_at "xp"
        · rfl
        · rfl
        · rfl
        · exact decide_eq_true (by omega)
        · walk_at "xp"
        · rfl
        · rfl
        · rfl
    · simp; omega
    · walk_at "xp"
  · apply r_ret
    apply r_b1
    · apply r_pe
      apply compM xs PyData.int (PyData.bool ∘ fun _ => true) (r_fseqV (r_pv rfl) rfl rfl)
      · rfl
      · walk_at "xp"
      · rfl
      · intro k hk
        have hi := @is_within_ok k 0 (p - 1) (hw k hk).1 (by have := (hw k hk).2; omega)
        apply exEl
        · walk_at "xp"
        · apply r_z
          · apply r_call
            · walk_at "xp"
            · exact hi
            · walk_at "xp"
          · rfl
        · rfl
      · exact le_line (by omega)
    · rfl
    · rw [← List.map_map, allO_map, all_true]
theorem need_alike_ok {p : Int} {size : Nat} {ro : O} {rows : List (List Int)} (h : p ∈ [2, 3, 5, 7, 11, 13, 17, 19, 23, 29, 31]) (hr : itemsO ro = some (true, rows.map rowD)) (h0 : 1 ≤ size) (h1 : size ≤ 12) (hw : Rws p size rows) (hro : ro = rowsO rows ∨ ∃ d, ro = .fz d) : F_need_alike [.fz (.int p), ro] = .ok (.fz .none) [.fz (.int p), ro] := by
  suffices hh : NX (w_need_alike [some (.fz (.int p)), some ro, none]) fun ρ => ∃ s2, ρ = [some (.fz (.int p)), some ro, s2] by
    obtain ⟨_, e1, s2, rfl⟩ := hh
    exact r_runN e1 rfl
  unfold w_need_alike
  have hp := need_prime_ok h
  apply seqS (G := fun out => NX out _)
  · apply r_drop
    apply r_call
    · walk_at "xp"
    · exact hp
    · walk_at "xp"
  apply nxFor (fun j ρ => ∃ s2, ρ = [some (.fz (.int p)), some ro, s2]) (r_fseqV (o := ro) (r_pv rfl) rfl hr)
  · rfl
  · show (itemsO ro).bind _ = some (rows.map rowD)
    rw [hr]; rfl
  · exact ⟨_, rfl⟩
  · rintro j _ _ ⟨s2, rfl⟩
    show (itemsO ro).bind _ = some (rows.map rowD)
    rw [hr]; rfl
  · rintro j _ d hd ⟨s2, rfl⟩
    rw [List.getElem?_map] at hd
    obtain ⟨r, c1, rfl⟩ := Option.map_eq_some_iff.mp hd
    have hm := List.mem_of_getElem? c1
    have hlr := (hw r hm).1
    have hpos : 0 < rows.length := List.length_pos_of_mem hm
    have hx0 := ix_rows hr hpos
    have hl0 := (hw _ (List.mem_of_getElem? (gr_get hpos))).1
    have hl1 : lenO (.fz (rowD r)) = some (.int r.length) := len_ints (l := false) rfl
    have hl2 : lenO (.fz (rowD (gr rows 0))) = some (.int (gr rows 0).length) := len_ints (l := false) rfl
    have hrow := is_row_ok (p := p) (xs := r) (by omega) (by omega) (hw r hm).2
    apply exFor
    · walk_at "xp"
    · apply nx_of
      · apply r_ifF
        · apply r_torF
          · apply r_tnot
            apply r_tof
            apply r_call
            · walk_at "xp"
            · exact hrow
            · walk_at "xp"
          · rfl
          · walk_at "xp"
        · simp; omega
        · walk_at "xp"
      · exact ⟨_, rfl⟩
  · exact fun _ h => h

def dotv (p : Int) (xs ys : List Int) : Int := Int.fmod ((xs.zip ys).map fun q : Int × Int => q.1 * q.2).sum p
theorem zpD_int (xs ys : List Int) : zpD (xs.map PyData.int) (ys.map PyData.int) = (xs.zip ys).map fun q : Int × Int => PyData.tuple [.int q.1, .int q.2] := by
  unfold zpD
  rw [List.zip_map, List.map_map]
  rfl
theorem dot_ok {p : Int} {o1 o2 : O} {l : Bool} {xs ys : List Int} (hp : 2 ≤ p) (hp2 : p ≤ 31) (h1 : itemsO o1 = some (l, xs.map PyData.int)) (h2 : itemsO o2 = some (l, ys.map PyData.int)) (w1 : Within p xs) (w2 : Within p ys) (hz : xs.length ≤ 1000) : F_dot [.fz (.int p), o1, o2] = .ok (.fz (.int (dotv p xs ys))) [.fz (.int p), o1, o2] := by
  refine r_runR (ρ1 := [some (.fz (.int p)), some o1, some o2, none, none]) ?_ rfl
  show w_dot [some (.fz (.int p)), some o1, some o2, none, none] = _
  unfold w_dot
  have hp0 : p ≠ 0 := by omega
  have hat : (Sr.zp (.sl l 1) (.sl l 2)).at [some (.fz (.int p)), some o1, some o2, none, none] = some ((xs.zip ys).map fun q => .tuple [.int q.1, .int q.2]) := by
    have a1 : (Sr.sl l 1).at [some (.fz (.int p)), some o1, some o2, none, none] = some (xs.map PyData.int) := by
      show (itemsO o1).bind _ = _
      rw [h1]; simp
    have a2 : (Sr.sl l 2).at [some (.fz (.int p)), some o1, some o2, none, none] = some (ys.map PyData.int) := by
      show (itemsO o2).bind _ = _
      rw [h2]; simp
    show ((Sr.sl l 1).at _).bind _ = _
    rw [a1]
    show ((Sr.sl l 2).at _).map _ = _
    rw [a2]
    show some (zpD _ _) = _
    rw [zpD_int]
  apply r_ret
  apply r_op
  · apply r_pe
    apply r_b1
    · apply r_pe
      apply compM (xs.zip ys) (fun q => .tuple [.int q.1, .int q.2]) (PyData.int ∘ fun q : Int × Int => q.1 * q.2) (r_zip (r_fseqV (r_pv rfl) rfl h1) (r_fseqV (r_pv rfl) rfl h2) hat rfl)
      · rfl
      · walk_at "xp"
      · exact hat
      · rintro ⟨x, y⟩ hk
        have m1 := w1 x (List.of_mem_zip hk).1
        have m2 := w2 y (List.of_mem_zip hk).2
        apply exEl
        · rfl
        · walk_at "xp"
        · rfl
      · exact le_line (by rw [List.length_zip]; omega)
    · rfl
    · rw [← List.map_map, sumO_map]
  · walk_at "xp"
  · rfl
  · rfl
  · exact dMod_ok hp0
def dotJ (p : Int) (xs ys : List Int) : Nat → Int
  | 0 => 0
  | j + 1 => (dotJ p xs ys j + gi xs j * gi ys j).fmod p
theorem law_dot_ok {p : Int} {xs ys : List Int} (hp : 2 ≤ p) (hp2 : p ≤ 31) (w1 : Within p xs) (w2 : Within p ys) (hn : ys.length = xs.length) (hz : xs.length ≤ 1000) : F__law_dot [.fz (.int p), .fz (rowD xs), .fz (rowD ys)] = .ok (.fz (.int (dotJ p xs ys xs.length))) [.fz (.int p), .fz (rowD xs), .fz (rowD ys)] := by
  suffices h : RT (w__law_dot [some (.fz (.int p)), some (.fz (rowD xs)), some (.fz (rowD ys)), none, none]) fun o ρ => ∃ as', finA [0, 1, 2] ρ 0 [.fz (.int p), .fz (rowD xs), .fz (rowD ys)] = some as' ∧ o = .fz (.int (dotJ p xs ys xs.length)) ∧ as' = [.fz (.int p), .fz (rowD xs), .fz (rowD ys)] by
    obtain ⟨o, as', h1, rfl, rfl⟩ := run_rt (m := 5) (prot := [0, 1, 2]) (body := w__law_dot) (as := [.fz (.int p), .fz (rowD xs), .fz (rowD ys)]) h
    exact h1
  have hp0 : p ≠ 0 := by omega
  have hl : lenO (.fz (rowD xs)) = some (.int xs.length) := len_ints (l := false) rfl
  unfold w__law_dot
  apply seqS (G := fun out => RT out _)
  · walk_at "xp"
  refine seqNX (P := fun ρ => ∃ s4, ρ = [some (.fz (.int p)), some (.fz (rowD xs)), some (.fz (rowD ys)), some (.fz (.int (dotJ p xs ys xs.length))), s4]) (G := fun out => RT out _) ?_ ?_
  · apply nxFor (fun j ρ => ∃ s4, ρ = [some (.fz (.int p)), some (.fz (rowD xs)), some (.fz (rowD ys)), some (.fz (.int (dotJ p xs ys j))), s4])
    · walk_at "xp"
    · rfl
    · exact rg_at
    · exact ⟨_, rfl⟩
    · exact fun _ _ _ _ => rg_at
    · rintro j _ d hd ⟨s4, rfl⟩
      rw [List.getElem?_map] at hd
      obtain ⟨k, c1, c2⟩ := Option.map_eq_some_iff.mp hd
      subst c2
      obtain ⟨c3, c4⟩ := List.getElem?_eq_some_iff.mp c1
      rw [List.getElem_range] at c4
      subst c4
      rw [List.length_range] at c3
      have e1 := ix_row (xs := xs) (k := j) c3
      have e2 := ix_row (xs := ys) (k := j) (by omega)
      have e3 := within_gi w1 (k := j) c3
      have e4 := within_gi w2 (k := j) (by omega)
      apply exFor
      · walk_at "xp"
      · apply nx_of
        · walk_at "xp"
        · exact ⟨_, rfl⟩
    · rw [List.length_map, List.length_range]; exact fun _ h => h
  · rintro _ ⟨s4, rfl⟩
    apply rt_of
    · walk_at "xp"
    · exact ⟨_, rfl, rfl, rfl⟩
theorem at_seed_ok {p : Int} {size : Nat} {xs ys : List Int} (h : p ∈ [2, 3, 5, 7, 11, 13, 17, 19, 23, 29, 31]) (hp : 2 ≤ p) (hp2 : p ≤ 31) (h0 : 1 ≤ size) (h1 : size ≤ 12) (l1 : xs.length = size) (l2 : ys.length = size) (w1 : Within p xs) (w2 : Within p ys) : F_at_seed [.fz (.int p), .fz (rowD xs), .fz (rowD ys)] = .ok (.fz (.int (dotv p xs ys))) [.fz (.int p), .fz (rowD xs), .fz (rowD ys)] := by
  refine r_runR (ρ1 := [some (.fz (.int p)), some (.fz (rowD xs)), some (.fz (rowD ys))]) ?_ rfl
  show w_at_seed [some (.fz (.int p)), some (.fz (rowD xs)), some (.fz (rowD ys))] = _
  unfold w_at_seed
  have hn := need_alike_ok (ro := rowsO [xs, ys]) (rows := [xs, ys]) (size := size) h (items_map _) h0 h1 (by
    intro r hr
    simp only [List.mem_cons, List.not_mem_nil, or_false] at hr
    rcases hr with rfl | rfl
    · exact ⟨l1, w1⟩
    · exact ⟨l2, w2⟩) (Or.inl rfl)
  have hd := dot_ok (p := p) (o1 := .fz (rowD xs)) (o2 := .fz (rowD ys)) (l := false) (xs := xs) (ys := ys) hp hp2 rfl rfl w1 w2 (by omega)
  apply r_seq
  · apply r_drop
    apply r_call
    · walk_at "xp"
    · exact hn
    · walk_at "xp"
  · apply r_ret
    apply r_call
    · walk_at "xp"
    · exact hd
    · walk_at "xp"
theorem need_listed_ok {p : Int} {wo : O} {ws : List Int} {n : Nat} (hi : itemsO wo = some (true, ws.map PyData.int)) (ht : isiO "list" wo = some (.bool true)) (hn : ws.length = n) (hz : n ≤ 1000) (hw : Within p ws) : F_need_listed [.fz (.int p), wo, .fz (.int n)] = .ok (.fz .none) [.fz (.int p), wo, .fz (.int n)] := by
  refine r_runN (ρ1 := [some (.fz (.int p)), some wo, some (.fz (.int n)), none]) ?_ rfl
  show w_need_listed [some (.fz (.int p)), some wo, some (.fz (.int n)), none] = _
  unfold w_need_listed
  have hl := len_ints hi
  apply r_seq
  · apply r_ifF
    · apply r_torF
      · walk_at "xp"
      · rfl
      · walk_at "xp"
    · simp; omega
    · walk_at "xp"
  · apply r_ifF
    · apply r_tnot
      apply r_tof
      apply r_b1
      · apply r_pe
        apply compM ws PyData.int (PyData.bool ∘ fun _ => true) (r_fseqV (r_pv rfl) rfl hi)
        · rfl
        · walk_at "xp"
        · show (itemsO wo).bind _ = _
          rw [hi]; rfl
        · intro k hk
          have hi := @is_within_ok k 0 (p - 1) (hw k hk).1 (by have := (hw k hk).2; omega)
          apply exEl
          · walk_at "xp"
          · apply r_z
            · apply r_call
              · walk_at "xp"
              · exact hi
              · walk_at "xp"
            · rfl
          · rfl
        · exact le_line (by omega)
      · rfl
      · rw [← List.map_map, allO_map, all_true]
    · rfl
    · rfl

def sumR (n : Nat) (f : Nat → Int) : Int := ((List.range n).map f).sum
theorem sumR_zero (f : Nat → Int) : sumR 0 f = 0 := rfl
theorem sumR_succ (n : Nat) (f : Nat → Int) : sumR (n + 1) f = sumR n f + f n := by
  simp [sumR, List.range_succ, List.map_append, List.sum_append]
theorem sumR_congr {n : Nat} {f g : Nat → Int} (h : ∀ i, i < n → f i = g i) : sumR n f = sumR n g := by
  induction n with
  | zero => rfl
  | succ n ih => rw [sumR_succ, sumR_succ, ih fun i hi => h i (by omega), h n (by omega)]
theorem sumR_mod {n : Nat} {p : Int} {f g : Nat → Int} (h : ∀ i, i < n → f i % p = g i % p) : sumR n f % p = sumR n g % p := by
  induction n with
  | zero => rfl
  | succ n ih => rw [sumR_succ, sumR_succ, Int.add_emod, ih fun i hi => h i (by omega), h n (by omega), ← Int.add_emod]
theorem sumR_mul {n : Nat} {c : Int} {f : Nat → Int} : sumR n (fun i => c * f i) = c * sumR n f := by
  induction n with
  | zero => simp [sumR_zero]
  | succ n ih => rw [sumR_succ, sumR_succ, ih, Int.mul_add]
theorem sumR_mulr {n : Nat} {c : Int} {f : Nat → Int} : sumR n (fun i => f i * c) = sumR n f * c := by
  induction n with
  | zero => simp [sumR_zero]
  | succ n ih => rw [sumR_succ, sumR_succ, ih, Int.add_mul]
theorem sumR_add {n : Nat} {f g : Nat → Int} : sumR n (fun i => f i + g i) = sumR n f + sumR n g := by
  induction n with
  | zero => simp [sumR_zero]
  | succ n ih => rw [sumR_succ, sumR_succ, sumR_succ, ih]; omega
theorem sumR_swap {n m : Nat} {f : Nat → Nat → Int} : sumR n (fun i => sumR m fun j => f i j) = sumR m fun j => sumR n fun i => f i j := by
  induction n with
  | zero =>
    have : ∀ m, sumR m (fun _ => (0 : Int)) = 0 := by
      intro m
      induction m with
      | zero => rfl
      | succ m ih => rw [sumR_succ, ih]; rfl
    simp only [sumR_zero, this]
  | succ n ih =>
    rw [sumR_succ, ih, ← sumR_add]
    exact sumR_congr fun j _ => (sumR_succ n fun i => f i j).symm
theorem sumR_shift {n : Nat} {f : Nat → Int} : sumR (n + 1) f = f 0 + sumR n fun i => f (i + 1) := by
  induction n with
  | zero => simp [sumR_succ, sumR_zero]
  | succ n ih => rw [sumR_succ, ih, sumR_succ n fun i => f (i + 1)]; omega
theorem zip_sum : ∀ {xs ys : List Int}, ys.length = xs.length → ((xs.zip ys).map fun q : Int × Int => q.1 * q.2).sum = sumR xs.length fun i => gi xs i * gi ys i
  | [], _, _ => by simp [sumR_zero]
  | x :: xs, [], h => by simp at h
  | x :: xs, y :: ys, h => by
    rw [List.length_cons, sumR_shift, List.zip_cons_cons, List.map_cons, List.sum_cons, zip_sum (xs := xs) (ys := ys) (by simpa using h)]
    rfl
theorem fm2 {a p : Int} (hp : 2 ≤ p) : a.fmod p = a % p := Int.fmod_eq_emod_of_nonneg a (by omega)
theorem dotv_sum {p : Int} {xs ys : List Int} (hp : 2 ≤ p) (h : ys.length = xs.length) : dotv p xs ys = sumR xs.length (fun i => gi xs i * gi ys i) % p := by
  unfold dotv
  rw [fm2 hp, zip_sum h]
theorem dotJ_sum {p : Int} {xs ys : List Int} (hp : 2 ≤ p) : ∀ n, dotJ p xs ys n = sumR n (fun i => gi xs i * gi ys i) % p
  | 0 => by simp [dotJ, sumR_zero]
  | n + 1 => by rw [dotJ, fm2 hp, dotJ_sum hp n, sumR_succ, Int.emod_add_emod]
theorem dot_same {p : Int} {xs ys : List Int} (hp : 2 ≤ p) (h : ys.length = xs.length) : dotJ p xs ys xs.length = dotv p xs ys := by rw [dotJ_sum hp, dotv_sum hp h]
theorem gi_map {n k : Nat} {f : Nat → Int} (h : k < n) : gi ((List.range n).map f) k = f k := by
  unfold gi
  simp [h]
theorem gi_rep {n k : Nat} : gi (List.replicate n 0) k = 0 := by
  unfold gi
  rw [List.getD_eq_getElem?_getD, List.getElem?_replicate]
  split <;> rfl
theorem mix_sum {p : Int} {rows : List (List Int)} {ws : List Int} {size k : Nat} (hp : 2 ≤ p) (hk : k < size) : ∀ n, gi (mixJ p rows ws size n) k = sumR n (fun i => gi ws i * gi (gr rows i) k) % p
  | 0 => by simp [mixJ, sumR_zero, gi_rep]
  | n + 1 => by rw [mixJ, gi_map hk, fm2 hp, mix_sum hp hk n, sumR_succ, Int.emod_add_emod]
theorem gi_rows {rows : List (List Int)} {k i : Nat} (h : i < rows.length) : gi (rows.map fun r => gi r k) i = gi (gr rows i) k := by
  unfold gi gr
  simp [h]
theorem ext_gi {xs ys : List Int} (h : xs.length = ys.length) (h2 : ∀ k, k < xs.length → gi xs k = gi ys k) : xs = ys := by
  apply List.ext_getElem h
  intro k a b
  have := h2 k a
  unfold gi at this
  simpa [a, b] using this

/-! elimination by a prime, in plain lists -/
def subL (p b : Int) (xs ys : List Int) : List Int := (xs.zip ys).map fun q : Int × Int => (q.1 - b * q.2) % p
theorem subL_len {p b : Int} {xs ys : List Int} (h : ys.length = xs.length) : (subL p b xs ys).length = xs.length := by simp [subL, h]
theorem gi_at {xs : List Int} {k : Nat} (h : k < xs.length) : gi xs k = xs[k] := by simp [gi, h]
theorem subL_gi {p b : Int} {xs ys : List Int} (h : ys.length = xs.length) {k : Nat} (hk : k < xs.length) : gi (subL p b xs ys) k = (gi xs k - b * gi ys k) % p := by
  rw [gi_at (by rw [subL_len h]; exact hk), gi_at hk, gi_at (show k < ys.length by omega)]
  simp [subL]
theorem subL_app {p b r w : Int} : ∀ {xs ys : List Int}, ys.length = xs.length → subL p b (xs ++ [r]) (ys ++ [w]) = subL p b xs ys ++ [(r - b * w) % p]
  | [], [], _ => by simp [subL]
  | x :: xs, y :: ys, h => by
    have := @subL_app p b r w xs ys (by simpa using h)
    simp [subL] at this ⊢
    exact this
theorem subL_within {p b : Int} (hp : 0 < p) {xs ys : List Int} : Within p (subL p b xs ys) := fun x hx => by
  obtain ⟨q, _, rfl⟩ := List.mem_map.mp hx
  exact ⟨Int.emod_nonneg _ (by omega), Int.emod_lt_of_pos _ hp⟩
abbrev Nst := Nat × List Int
def redN (p : Int) : List Nst → List Int → List Int
  | [], l => l
  | s :: ss, l => redN p ss (subL p (gi l s.1) l s.2)
structure GoodN (p : Int) (size : Nat) (s : Nst) : Prop where
  h : s.1 < size
  l : s.2.length = size
  w : Within p s.2
theorem redN_len {p : Int} : ∀ {ss : List Nst} {l : List Int}, (∀ s ∈ ss, s.2.length = l.length) → (redN p ss l).length = l.length
  | [], _, _ => rfl
  | s :: ss, l, h => by
    have e := subL_len (p := p) (b := gi l s.1) (h s List.mem_cons_self)
    show (redN p ss _).length = _
    rw [redN_len fun t ht => by rw [e]; exact h t (List.mem_cons_of_mem _ ht), e]
theorem redN_within {p : Int} (hp : 0 < p) : ∀ {ss : List Nst} {l : List Int}, Within p l → Within p (redN p ss l)
  | [], _, h => h
  | s :: ss, l, _ => by show Within p (redN p ss _); exact redN_within hp (subL_within hp)
theorem redN_app {p : Int} : ∀ {ss ts : List Nst} {l : List Int}, redN p (ss ++ ts) l = redN p ts (redN p ss l)
  | [], _, _ => rfl
  | s :: ss, ts, l => by show redN p (ss ++ ts) _ = _; rw [redN_app]; rfl
def heads (xs : List Int) : List Nat := (List.range xs.length).filter fun k => decide (gi xs k ≠ 0)
theorem gi_app {xs ys : List Int} {k : Nat} (h : k < xs.length) : gi (xs ++ ys) k = gi xs k := by
  rw [gi_at (by simp; omega), gi_at h, List.getElem_append_left h]
theorem gi_last {xs : List Int} {r : Int} : gi (xs ++ [r]) xs.length = r := by rw [gi_at (by simp)]; simp
theorem heads_app {xs : List Int} {r : Int} : heads (xs ++ [r]) = heads xs ++ (if r = 0 then [] else [xs.length]) := by
  unfold heads
  rw [List.length_append, show [r].length = 1 from rfl, List.range_succ, List.filter_append]
  have e : (List.range xs.length).filter (fun k => decide (gi (xs ++ [r]) k ≠ 0)) = (List.range xs.length).filter fun k => decide (gi xs k ≠ 0) := by
    apply List.filter_congr
    intro k hk
    rw [gi_app (List.mem_range.mp hk)]
  rw [e]
  congr 1
  by_cases c : r = 0
  · subst c; simp [gi_last]
  · simp [gi_last, c]
theorem heads_mem {xs : List Int} {h : Nat} {t : List Nat} (e : heads xs = h :: t) : h < xs.length ∧ gi xs h ≠ 0 := by
  have : h ∈ heads xs := by rw [e]; exact List.mem_cons_self
  unfold heads at this
  simpa using this
theorem heads_nil {xs : List Int} (e : heads xs = []) {k : Nat} (hk : k < xs.length) : gi xs k = 0 := by
  apply Decidable.byContradiction
  intro c
  have : k ∈ heads xs := by unfold heads; simp [hk, c]
  rw [e] at this
  cases this
def iv (p a : Int) : Int := a ^ (p - 2).toNat % p
def nrm (p : Int) (h : Nat) (xs : List Int) : List Int := xs.map fun x => x * iv p (gi xs h) % p
def stepN (p : Int) (ss : List Nst) (l : List Int) : List Nst := match heads (redN p ss l) with
  | [] => ss
  | h :: _ => ss ++ [(h, nrm p h (redN p ss l))]
theorem stepN_c {p : Int} {ss : List Nst} {l : List Int} {h : Nat} {t : List Nat} (e : heads (redN p ss l) = h :: t) : stepN p ss l = ss ++ [(h, nrm p h (redN p ss l))] := by unfold stepN; rw [e]
theorem stepN_n {p : Int} {ss : List Nst} {l : List Int} (e : heads (redN p ss l) = []) : stepN p ss l = ss := by unfold stepN; rw [e]
def foldN (p : Int) : List (List Int) → List Nst → List Nst
  | [], ss => ss
  | r :: rs, ss => foldN p rs (stepN p ss r)
/-! the steps of solve -/
structure Stp where
  h : Nat
  v : List Int
  w : Int
def nr (s : Stp) : Nst := (s.h, s.v)
def wd (s : Stp) : Nst := (s.h, s.v ++ [s.w])
def redW (p : Int) : List Stp → List Int → Int → Int
  | [], _, r => r
  | s :: ss, l, r => redW p ss (subL p (gi l s.h) l s.v) ((r - gi l s.h * s.w) % p)
def mkS (p : Int) (h : Nat) (x : List Int) (r : Int) : Stp := ⟨h, nrm p h x, r * iv p (gi x h) % p⟩
def solveS (p : Int) : List (List Int × Int) → List Stp → Option (List Stp)
  | [], ss => some ss
  | q :: qs, ss => match heads (redN p (ss.map nr) q.1) with
    | h :: _ => solveS p qs (ss ++ [mkS p h (redN p (ss.map nr) q.1) (redW p ss q.1 q.2)])
    | [] => if redW p ss q.1 q.2 = 0 then solveS p qs ss else none
structure GoodS (p : Int) (size : Nat) (s : Stp) : Prop where
  h : s.h < size
  l : s.v.length = size
  w : Within p s.v
  w0 : 0 ≤ s.w
  w1 : s.w < p
theorem red_wide {p : Int} : ∀ {ss : List Stp} {l : List Int} {r : Int}, (∀ s ∈ ss, s.h < l.length ∧ s.v.length = l.length) → redN p (ss.map wd) (l ++ [r]) = redN p (ss.map nr) l ++ [redW p ss l r]
  | [], _, _, _ => rfl
  | s :: ss, l, r, h => by
    obtain ⟨h1, h2⟩ := h s List.mem_cons_self
    show redN p (ss.map wd) (subL p (gi (l ++ [r]) s.h) (l ++ [r]) (s.v ++ [s.w])) = _
    rw [gi_app h1, subL_app h2]
    exact red_wide fun t ht => by rw [subL_len h2]; exact h t (List.mem_cons_of_mem _ ht)
theorem nrm_len {p : Int} {h : Nat} {xs : List Int} : (nrm p h xs).length = xs.length := by simp [nrm]
theorem nrm_within {p : Int} {h : Nat} {xs : List Int} (hp : 0 < p) : Within p (nrm p h xs) := fun x hx => by
  obtain ⟨q, _, rfl⟩ := List.mem_map.mp hx
  exact ⟨Int.emod_nonneg _ (by omega), Int.emod_lt_of_pos _ hp⟩
theorem nrm_app {p : Int} {h : Nat} {xs : List Int} {r : Int} (hh : h < xs.length) : nrm p h (xs ++ [r]) = nrm p h xs ++ [r * iv p (gi xs h) % p] := by
  unfold nrm
  rw [gi_app hh, List.map_append]; rfl
theorem nrm_gi {p : Int} {h k : Nat} {xs : List Int} (hk : k < xs.length) : gi (nrm p h xs) k = gi xs k * iv p (gi xs h) % p := by
  rw [gi_at (by rw [nrm_len]; exact hk), gi_at hk]; simp [nrm]
theorem mk_good {p : Int} {size h : Nat} {x : List Int} {r : Int} (hp : 0 < p) (hl : x.length = size) (hh : h < size) : GoodS p size (mkS p h x r) :=
  ⟨hh, by show (nrm p h x).length = _; rw [nrm_len, hl], nrm_within hp, Int.emod_nonneg _ (by omega), Int.emod_lt_of_pos _ hp⟩
theorem nr_len {p : Int} {size : Nat} {ss : List Stp} (hg : ∀ s ∈ ss, GoodS p size s) {l : List Int} (hl : l.length = size) : (redN p (ss.map nr) l).length = size := by
  rw [redN_len, hl]
  intro s hs
  obtain ⟨t, ht, rfl⟩ := List.mem_map.mp hs
  rw [hl]; exact (hg t ht).l
theorem good_snoc {p : Int} {size : Nat} {ss : List Stp} {s : Stp} (hg : ∀ s ∈ ss, GoodS p size s) (h : GoodS p size s) : ∀ t ∈ ss ++ [s], GoodS p size t := fun t ht => by
  rcases List.mem_append.mp ht with h1 | h1
  · exact hg t h1
  · cases List.mem_singleton.mp h1; exact h
def wideR (q : List Int × Int) : List Int := q.1 ++ [q.2]
/-- as long as nothing tears, the law's steps are those of solve -/
theorem fit_some {p : Int} {size : Nat} (hp : 0 < p) : ∀ {qs : List (List Int × Int)} {ss ss' : List Stp}, (∀ q ∈ qs, q.1.length = size) → (∀ s ∈ ss, GoodS p size s) → solveS p qs ss = some ss' →
    foldN p (qs.map (·.1)) (ss.map nr) = ss'.map nr ∧ foldN p (qs.map wideR) (ss.map wd) = ss'.map wd ∧ ∀ s ∈ ss', GoodS p size s
  | [], ss, ss', _, hg, h => by cases h; exact ⟨rfl, rfl, hg⟩
  | q :: qs, ss, ss', hq, hg, h => by
    have hl := hq q List.mem_cons_self
    have hq2 : ∀ q ∈ qs, q.1.length = size := fun x hx => hq x (List.mem_cons_of_mem _ hx)
    have hxl := nr_len hg hl
    have ew : redN p (ss.map wd) (wideR q) = redN p (ss.map nr) q.1 ++ [redW p ss q.1 q.2] := red_wide fun s hs => by rw [hl]; exact ⟨(hg s hs).h, (hg s hs).l⟩
    show foldN p (qs.map (·.1)) (stepN p (ss.map nr) q.1) = _ ∧ foldN p (qs.map wideR) (stepN p (ss.map wd) (wideR q)) = _ ∧ _
    have h : (match heads (redN p (ss.map nr) q.1) with
      | h :: _ => solveS p qs (ss ++ [mkS p h (redN p (ss.map nr) q.1) (redW p ss q.1 q.2)])
      | [] => if redW p ss q.1 q.2 = 0 then solveS p qs ss else none) = some ss' := h
    cases e : heads (redN p (ss.map nr) q.1) with
    | cons k t =>
      rw [e] at h
      dsimp only at h
      obtain ⟨k1, k2⟩ := heads_mem e
      have ih := fit_some (p := p) hp hq2 (good_snoc hg (mk_good (h := k) hp hxl (by omega))) h
      rw [List.map_append, List.map_append] at ih
      have e2 : heads (redN p (ss.map wd) (wideR q)) = k :: (t ++ if redW p ss q.1 q.2 = 0 then [] else [(redN p (ss.map nr) q.1).length]) := by rw [ew, heads_app, e]; rfl
      rw [stepN_c e, stepN_c e2, ew, nrm_app k1]
      exact ih
    | nil =>
      rw [e] at h
      dsimp only at h
      by_cases c : redW p ss q.1 q.2 = 0
      · rw [if_pos c] at h
        have e2 : heads (redN p (ss.map wd) (wideR q)) = [] := by rw [ew, heads_app, e, if_pos c]; rfl
        rw [stepN_n e, stepN_n e2]
        exact fit_some hp hq2 hg h
      · rw [if_neg c] at h; cases h
/-- the step of what is torn -/
def tornS (size : Nat) : Nst := (size, List.replicate size 0 ++ [1])
def zr (s : Nst) : Nst := (s.1, s.2 ++ [0])
theorem gi_rep0 {n k : Nat} : gi (List.replicate n 0) k = 0 := by
  unfold gi
  rw [List.getD_eq_getElem?_getD, List.getElem?_replicate]
  split <;> rfl
theorem ext_g {xs ys : List Int} (h : xs.length = ys.length) (h2 : ∀ k, k < xs.length → gi xs k = gi ys k) : xs = ys := by
  apply List.ext_getElem h
  intro k h3 h4
  have := h2 k h3
  rwa [gi_at h3, gi_at h4] at this
theorem sub_rep {p b : Int} {xs : List Int} (hw : Within p xs) : subL p b xs (List.replicate xs.length 0) = xs := by
  apply ext_g (subL_len (by simp))
  intro k hk
  rw [subL_len (by simp)] at hk
  rw [subL_gi (by simp) hk, gi_rep0, Int.mul_zero, Int.sub_zero]
  have := within_gi hw hk
  exact Int.emod_eq_of_lt this.1 this.2
theorem red_zr {p : Int} : ∀ {ss : List Nst} {l : List Int}, (∀ s ∈ ss, s.1 < l.length ∧ s.2.length = l.length) → redN p (ss.map zr) (l ++ [0]) = redN p ss l ++ [0]
  | [], _, _ => rfl
  | s :: ss, l, h => by
    obtain ⟨h1, h2⟩ := h s List.mem_cons_self
    show redN p (ss.map zr) (subL p (gi (l ++ [0]) s.1) (l ++ [0]) (s.2 ++ [0])) = _
    rw [gi_app h1, subL_app h2, Int.mul_zero, Int.sub_zero, Int.zero_emod]
    exact red_zr fun t ht => by rw [subL_len h2]; exact h t (List.mem_cons_of_mem _ ht)
theorem red_torn {p : Int} {size : Nat} (hp : 2 ≤ p) {ss : List Stp} {ts : List Nst} (hg : ∀ s ∈ ss, GoodS p size s) (ht : ∀ s ∈ ts, GoodN p size s) {q : List Int × Int} (hl : q.1.length = size) (hw : Within p q.1) :
    redN p (ss.map wd ++ tornS size :: ts.map zr) (wideR q) = redN p (ss.map nr ++ ts) q.1 ++ [0] := by
  have hxl := nr_len hg hl
  have hxw : Within p (redN p (ss.map nr) q.1) := redN_within (by omega) hw
  rw [redN_app, redN_app, show redN p (ss.map wd) (wideR q) = redN p (ss.map nr) q.1 ++ [redW p ss q.1 q.2] from red_wide fun s hs => by rw [hl]; exact ⟨(hg s hs).h, (hg s hs).l⟩]
  generalize redN p (ss.map nr) q.1 = x at *
  generalize redW p ss q.1 q.2 = r at *
  show redN p (ts.map zr) (subL p (gi (x ++ [r]) size) (x ++ [r]) (List.replicate size 0 ++ [1])) = _
  rw [← hxl, gi_last, subL_app (by simp), sub_rep hxw, Int.mul_one, Int.sub_self, Int.zero_emod]
  exact red_zr fun s hs => by rw [hxl]; exact ⟨(ht s hs).h, (ht s hs).l⟩
theorem fold_torn {p : Int} {size : Nat} (hp : 2 ≤ p) {ss : List Stp} (hg : ∀ s ∈ ss, GoodS p size s) : ∀ {qs : List (List Int × Int)} {ts : List Nst}, (∀ q ∈ qs, q.1.length = size ∧ Within p q.1) → (∀ s ∈ ts, GoodN p size s) →
    (foldN p (qs.map wideR) (ss.map wd ++ tornS size :: ts.map zr)).length = (foldN p (qs.map (·.1)) (ss.map nr ++ ts)).length + 1
  | [], ts, _, _ => by show (ss.map wd ++ tornS size :: ts.map zr).length = (ss.map nr ++ ts).length + 1; simp; omega
  | q :: qs, ts, hq, ht => by
    obtain ⟨hl, hw⟩ := hq q List.mem_cons_self
    have hq2 : ∀ q ∈ qs, q.1.length = size ∧ Within p q.1 := fun x hx => hq x (List.mem_cons_of_mem _ hx)
    have ew := red_torn hp hg ht (q := q) hl hw
    have hxl : (redN p (ss.map nr ++ ts) q.1).length = size := by
      rw [redN_len, hl]
      intro s hs
      rw [hl]
      rcases List.mem_append.mp hs with h | h
      · obtain ⟨t, h1, rfl⟩ := List.mem_map.mp h
        exact (hg t h1).l
      · exact (ht s h).l
    show (foldN p (qs.map wideR) (stepN p (ss.map wd ++ tornS size :: ts.map zr) (wideR q))).length = (foldN p (qs.map (·.1)) (stepN p (ss.map nr ++ ts) q.1)).length + 1
    cases e : heads (redN p (ss.map nr ++ ts) q.1) with
    | cons k t =>
      obtain ⟨k1, k2⟩ := heads_mem e
      have e2 : heads (redN p (ss.map wd ++ tornS size :: ts.map zr) (wideR q)) = k :: (t ++ []) := by rw [ew, heads_app, e, if_pos rfl]; rfl
      rw [stepN_c e, stepN_c e2, ew, nrm_app k1, Int.zero_mul, Int.zero_emod]
      have ih := fold_torn (p := p) (size := size) hp hg (qs := qs) (ts := ts ++ [(k, nrm p k (redN p (ss.map nr ++ ts) q.1))]) hq2 (fun s hs => by
        rcases List.mem_append.mp hs with h | h
        · exact ht s h
        · cases List.mem_singleton.mp h; exact ⟨by show k < size; omega, by show (nrm _ _ _).length = size; rw [nrm_len, hxl], nrm_within (by omega)⟩)
      rw [List.map_append, ← List.append_assoc] at ih
      rw [List.append_assoc]
      exact ih
    | nil =>
      have e2 : heads (redN p (ss.map wd ++ tornS size :: ts.map zr) (wideR q)) = [] := by rw [ew, heads_app, e, if_pos rfl]; rfl
      rw [stepN_n e, stepN_n e2]
      exact fold_torn hp hg hq2 ht
theorem iv_mul {p a : Int} (hp : p ∈ primesL) (h0 : 0 ≤ a) (h1 : a < p) (h : a ≠ 0) : iv p a * a % p = 1 := (tried_at hp h0 h1).2.1 h
theorem redW_bd {p : Int} (hp : 0 < p) : ∀ {ss : List Stp} {l : List Int} {r : Int}, 0 ≤ r → r < p → 0 ≤ redW p ss l r ∧ redW p ss l r < p
  | [], _, _, h0, h1 => ⟨h0, h1⟩
  | s :: ss, l, r, _, _ => by show 0 ≤ redW p ss _ _ ∧ redW p ss _ _ < p; exact redW_bd hp (Int.emod_nonneg _ (by omega)) (Int.emod_lt_of_pos _ hp)
theorem fit_none {p : Int} {size : Nat} (hpr : p ∈ primesL) : ∀ {qs : List (List Int × Int)} {ss : List Stp}, (∀ q ∈ qs, q.1.length = size ∧ Within p q.1 ∧ 0 ≤ q.2 ∧ q.2 < p) → (∀ s ∈ ss, GoodS p size s) → solveS p qs ss = none →
    (foldN p (qs.map wideR) (ss.map wd)).length = (foldN p (qs.map (·.1)) (ss.map nr)).length + 1
  | [], ss, _, hg, h => by cases h
  | q :: qs, ss, hq, hg, h => by
    obtain ⟨hp2, hp3⟩ := primes_le hpr
    obtain ⟨hl, hw, hb0, hb1⟩ := hq q List.mem_cons_self
    have hq2 : ∀ q ∈ qs, q.1.length = size ∧ Within p q.1 ∧ 0 ≤ q.2 ∧ q.2 < p := fun x hx => hq x (List.mem_cons_of_mem _ hx)
    have hxl := nr_len hg hl
    have ew : redN p (ss.map wd) (wideR q) = redN p (ss.map nr) q.1 ++ [redW p ss q.1 q.2] := red_wide fun s hs => by rw [hl]; exact ⟨(hg s hs).h, (hg s hs).l⟩
    show (foldN p (qs.map wideR) (stepN p (ss.map wd) (wideR q))).length = (foldN p (qs.map (·.1)) (stepN p (ss.map nr) q.1)).length + 1
    have h : (match heads (redN p (ss.map nr) q.1) with
      | h :: _ => solveS p qs (ss ++ [mkS p h (redN p (ss.map nr) q.1) (redW p ss q.1 q.2)])
      | [] => if redW p ss q.1 q.2 = 0 then solveS p qs ss else none) = none := h
    cases e : heads (redN p (ss.map nr) q.1) with
    | cons k t =>
      rw [e] at h
      dsimp only at h
      obtain ⟨k1, k2⟩ := heads_mem e
      have ih := fit_none (p := p) hpr hq2 (good_snoc hg (mk_good (h := k) (by omega) hxl (by omega))) h
      rw [List.map_append, List.map_append] at ih
      have e2 : heads (redN p (ss.map wd) (wideR q)) = k :: (t ++ if redW p ss q.1 q.2 = 0 then [] else [(redN p (ss.map nr) q.1).length]) := by rw [ew, heads_app, e]; rfl
      rw [stepN_c e, stepN_c e2, ew, nrm_app k1]
      exact ih
    | nil =>
      rw [e] at h
      dsimp only at h
      by_cases c : redW p ss q.1 q.2 = 0
      · rw [if_pos c] at h
        have e2 : heads (redN p (ss.map wd) (wideR q)) = [] := by rw [ew, heads_app, e, if_pos c]; rfl
        rw [stepN_n e, stepN_n e2]
        exact fit_none hpr hq2 hg h
      · have e2 : heads (redN p (ss.map wd) (wideR q)) = [size] := by rw [ew, heads_app, e, if_neg c, hxl]; rfl
        obtain ⟨r0, r1⟩ := redW_bd (p := p) (by omega) (ss := ss) (l := q.1) hb0 hb1
        have hi := iv_mul hpr r0 r1 c
        have ez : redN p (ss.map nr) q.1 = List.replicate size 0 := by
          apply ext_g (by rw [hxl]; simp)
          intro k hk
          rw [heads_nil e hk, gi_rep0]
        have en : nrm p size (redN p (ss.map wd) (wideR q)) = List.replicate size 0 ++ [1] := by
          rw [ew, ez]
          unfold nrm
          rw [List.map_append, List.map_replicate, show gi (List.replicate size 0 ++ [redW p ss q.1 q.2]) size = redW p ss q.1 q.2 by have := gi_last (xs := List.replicate size 0) (r := redW p ss q.1 q.2); simpa using this]
          rw [Int.zero_mul, Int.zero_emod]
          simp only [List.map_cons, List.map_nil]
          rw [Int.mul_comm, hi]
        rw [stepN_n e, stepN_c e2, en]
        have := fold_torn (p := p) (size := size) hp2 hg (qs := qs) (ts := []) (fun q hq => ⟨(hq2 q hq).1, (hq2 q hq).2.1⟩) (fun _ h => nomatch h)
        simp only [List.map_nil, List.append_nil] at this
        exact this

/-! back substitution -/
def dotE (xs ys : List Int) : Int := sumR xs.length fun i => gi xs i * gi ys i
theorem sumR_sub {n : Nat} {f g : Nat → Int} : sumR n (fun i => f i - g i) = sumR n f - sumR n g := by
  induction n with
  | zero => rfl
  | succ n ih => rw [sumR_succ, sumR_succ, sumR_succ, ih]; omega
theorem emod_sub_congr {a a' b b' p : Int} (h1 : a % p = a' % p) (h2 : b % p = b' % p) : (a - b) % p = (a' - b') % p := by
  rw [Int.sub_emod, h1, h2, ← Int.sub_emod]
theorem dot_sub {p b : Int} {xs ys sd : List Int} (h : ys.length = xs.length) : dotE (subL p b xs ys) sd % p = (dotE xs sd - b * dotE ys sd) % p := by
  unfold dotE
  rw [subL_len h, h, ← sumR_mul, ← sumR_sub]
  apply sumR_mod
  intro i hi
  rw [subL_gi h hi]
  refine (mod_mul (mod_mod' _ _) rfl).trans ?_
  congr 1
  rw [Int.sub_mul, Int.mul_assoc]
theorem dot_red {p : Int} {sd : List Int} : ∀ {ss : List Stp} {l : List Int} {r : Int}, (∀ s ∈ ss, s.v.length = l.length ∧ dotE s.v sd % p = s.w % p) → (dotE (redN p (ss.map nr) l) sd - redW p ss l r) % p = (dotE l sd - r) % p
  | [], _, _, _ => rfl
  | s :: ss, l, r, h => by
    obtain ⟨h1, h2⟩ := h s List.mem_cons_self
    show (dotE (redN p (ss.map nr) (subL p (gi l s.h) l s.v)) sd - redW p ss (subL p (gi l s.h) l s.v) ((r - gi l s.h * s.w) % p)) % p = _
    rw [dot_red fun t ht => by rw [subL_len h1]; exact h t (List.mem_cons_of_mem _ ht)]
    refine (emod_sub_congr (dot_sub h1) (mod_mod' _ _)).trans ?_
    have e : (dotE l sd - gi l s.h * dotE s.v sd - (r - gi l s.h * s.w)) = (dotE l sd - r) - (gi l s.h * dotE s.v sd - gi l s.h * s.w) := by omega
    rw [e]
    have e2 : (gi l s.h * dotE s.v sd - gi l s.h * s.w) % p = 0 % p := by
      refine (emod_sub_congr (mod_mul rfl h2) rfl).trans ?_
      rw [Int.sub_self]
    refine (emod_sub_congr rfl e2).trans ?_
    rw [Int.sub_zero]
theorem dot_nrm {p : Int} {h : Nat} {x sd : List Int} : dotE (nrm p h x) sd % p = (dotE x sd * iv p (gi x h)) % p := by
  unfold dotE
  rw [nrm_len, ← sumR_mulr]
  apply sumR_mod
  intro i hi
  rw [nrm_gi hi]
  refine (mod_mul (mod_mod' _ _) rfl).trans ?_
  congr 1
  rw [Int.mul_assoc, Int.mul_comm (iv p (gi x h)), ← Int.mul_assoc]
/-- a number times what can be turned -/
theorem cancel {p a b c i : Int} (h : i * c % p = 1 % p) (e : (a * i) % p = (b * i) % p) : a % p = b % p := by
  have h1 : (a * i * c) % p = (b * i * c) % p := mod_mul e rfl
  have h2 : ∀ z : Int, (z * i * c) % p = z % p := fun z => by
    rw [Int.mul_assoc]
    refine (mod_mul (b' := 1) rfl h).trans ?_
    rw [Int.mul_one]
  rwa [h2, h2] at h1
theorem sol_rows {p : Int} {size : Nat} {sd : List Int} (hpr : p ∈ primesL) : ∀ {qs : List (List Int × Int)} {ss ss' : List Stp}, (∀ q ∈ qs, q.1.length = size ∧ Within p q.1) → (∀ s ∈ ss, GoodS p size s) → solveS p qs ss = some ss' → (∀ s ∈ ss', dotE s.v sd % p = s.w % p) →
    (∀ s ∈ ss, s ∈ ss') ∧ ∀ q ∈ qs, dotE q.1 sd % p = q.2 % p
  | [], ss, ss', _, _, h, hs => by cases h; exact ⟨fun s h => h, fun _ h => nomatch h⟩
  | q :: qs, ss, ss', hq, hg, h, hs => by
    obtain ⟨hp2, hp3⟩ := primes_le hpr
    obtain ⟨hl, hw⟩ := hq q List.mem_cons_self
    have hq2 : ∀ q ∈ qs, q.1.length = size ∧ Within p q.1 := fun x hx => hq x (List.mem_cons_of_mem _ hx)
    have hxl := nr_len hg hl
    have h : (match heads (redN p (ss.map nr) q.1) with
      | h :: _ => solveS p qs (ss ++ [mkS p h (redN p (ss.map nr) q.1) (redW p ss q.1 q.2)])
      | [] => if redW p ss q.1 q.2 = 0 then solveS p qs ss else none) = some ss' := h
    have key : (∀ s ∈ ss, s ∈ ss') → dotE (redN p (ss.map nr) q.1) sd % p = redW p ss q.1 q.2 % p → dotE q.1 sd % p = q.2 % p := fun hsub hx => by
      have := dot_red (p := p) (sd := sd) (ss := ss) (l := q.1) (r := q.2) fun s hs2 => ⟨by rw [hl]; exact (hg s hs2).l, hs s (hsub s hs2)⟩
      have e1 : (dotE (redN p (ss.map nr) q.1) sd - redW p ss q.1 q.2) % p = 0 := by
        have := emod_sub_congr hx (rfl : redW p ss q.1 q.2 % p = redW p ss q.1 q.2 % p)
        rw [this, Int.sub_self, Int.zero_emod]
      rw [e1] at this
      exact Int.emod_eq_emod_iff_emod_sub_eq_zero.mpr this.symm
    cases e : heads (redN p (ss.map nr) q.1) with
    | cons k t =>
      rw [e] at h
      dsimp only at h
      obtain ⟨k1, k2⟩ := heads_mem e
      obtain ⟨i1, i2⟩ := sol_rows hpr hq2 (good_snoc hg (mk_good (h := k) (by omega) hxl (by omega))) h hs
      have hsub : ∀ s ∈ ss, s ∈ ss' := fun s h => i1 s (List.mem_append_left _ h)
      refine ⟨hsub, fun x hx => ?_⟩
      rcases List.mem_cons.mp hx with rfl | hx
      · refine key hsub ?_
        have hm := hs _ (i1 (mkS p k (redN p (ss.map nr) x.1) (redW p ss x.1 x.2)) (by simp))
        have hb := within_gi (redN_within (ss := ss.map nr) (by omega) hw) k1
        have hi := iv_mul hpr hb.1 hb.2 k2
        refine cancel (c := gi (redN p (ss.map nr) x.1) k) (i := iv p (gi (redN p (ss.map nr) x.1) k)) (by rw [hi, Int.emod_eq_of_lt (by decide) (by omega)]) ?_
        rw [← dot_nrm]
        refine hm.trans ?_
        exact mod_mod' _ _
      · exact i2 x hx
    | nil =>
      rw [e] at h
      dsimp only at h
      by_cases c : redW p ss q.1 q.2 = 0
      · rw [if_pos c] at h
        obtain ⟨i1, i2⟩ := sol_rows hpr hq2 hg h hs
        refine ⟨i1, fun x hx => ?_⟩
        rcases List.mem_cons.mp hx with rfl | hx
        · refine key i1 ?_
          rw [c]
          congr 1
          unfold dotE
          rw [show (0 : Int) = sumR (redN p (ss.map nr) x.1).length fun i => 0 * gi sd i by rw [sumR_mul, Int.zero_mul]]
          exact sumR_congr fun i hi => by rw [heads_nil e hi]
        · exact i2 x hx
      · rw [if_neg c] at h; cases h
/-- each step has a one at its head and noughts at the heads ahead -/
structure Tri (ss : List Stp) : Prop where
  one : ∀ s ∈ ss, gi s.v s.h = 1
  zer : ss.Pairwise fun t s => gi s.v t.h = 0
theorem red_keep {p : Int} {k : Nat} : ∀ {ss : List Nst} {l : List Int}, k < l.length → (∀ s ∈ ss, s.2.length = l.length ∧ gi s.2 k = 0) → gi l k = 0 → gi (redN p ss l) k = 0
  | [], _, _, _, h => h
  | s :: ss, l, hk, hs, h => by
    obtain ⟨h1, h2⟩ := hs s List.mem_cons_self
    show gi (redN p ss (subL p (gi l s.1) l s.2)) k = 0
    refine red_keep (by rw [subL_len h1]; exact hk) (fun t ht => by rw [subL_len h1]; exact hs t (List.mem_cons_of_mem _ ht)) ?_
    rw [subL_gi h1 hk, h, h2]
    simp
theorem red_zero {p : Int} {size : Nat} : ∀ {ss : List Stp} {l : List Int}, l.length = size → (∀ s ∈ ss, GoodS p size s) → Tri ss → ∀ t ∈ ss, gi (redN p (ss.map nr) l) t.h = 0
  | [], _, _, _, _, t, ht => nomatch ht
  | s :: ss, l, hl, hg, T, t, ht => by
    have g := hg s List.mem_cons_self
    have h1 : s.v.length = l.length := by rw [g.l, hl]
    have hh := g.h
    show gi (redN p (ss.map nr) (subL p (gi l s.h) l s.v)) t.h = 0
    have hz := List.pairwise_cons.mp T.zer
    rcases List.mem_cons.mp ht with rfl | ht
    · refine red_keep (by rw [subL_len h1]; omega) (fun u hu => ?_) ?_
      · obtain ⟨w, hw, rfl⟩ := List.mem_map.mp hu
        exact ⟨by show w.v.length = _; rw [subL_len h1, hl]; exact (hg w (List.mem_cons_of_mem _ hw)).l, hz.1 w hw⟩
      · rw [subL_gi h1 (by omega), T.one t List.mem_cons_self, Int.mul_one, Int.sub_self, Int.zero_emod]
    · exact red_zero (by rw [subL_len h1]; exact hl) (fun u hu => hg u (List.mem_cons_of_mem _ hu)) ⟨fun u hu => T.one u (List.mem_cons_of_mem _ hu), hz.2⟩ t ht
theorem tri_solve {p : Int} {size : Nat} (hpr : p ∈ primesL) : ∀ {qs : List (List Int × Int)} {ss ss' : List Stp}, (∀ q ∈ qs, q.1.length = size ∧ Within p q.1) → (∀ s ∈ ss, GoodS p size s) → Tri ss → solveS p qs ss = some ss' → Tri ss'
  | [], ss, ss', _, _, T, h => by cases h; exact T
  | q :: qs, ss, ss', hq, hg, T, h => by
    obtain ⟨hp2, hp3⟩ := primes_le hpr
    obtain ⟨hl, hw⟩ := hq q List.mem_cons_self
    have hq2 : ∀ q ∈ qs, q.1.length = size ∧ Within p q.1 := fun x hx => hq x (List.mem_cons_of_mem _ hx)
    have hxl := nr_len hg hl
    have h : (match heads (redN p (ss.map nr) q.1) with
      | h :: _ => solveS p qs (ss ++ [mkS p h (redN p (ss.map nr) q.1) (redW p ss q.1 q.2)])
      | [] => if redW p ss q.1 q.2 = 0 then solveS p qs ss else none) = some ss' := h
    cases e : heads (redN p (ss.map nr) q.1) with
    | cons k t =>
      rw [e] at h
      dsimp only at h
      obtain ⟨k1, k2⟩ := heads_mem e
      refine tri_solve hpr hq2 (good_snoc hg (mk_good (h := k) (by omega) hxl (by omega))) ⟨fun s hs => ?_, ?_⟩ h
      · rcases List.mem_append.mp hs with hs | hs
        · exact T.one s hs
        · cases List.mem_singleton.mp hs
          show gi (nrm p k (redN p (ss.map nr) q.1)) k = 1
          have hb := within_gi (redN_within (ss := ss.map nr) (by omega) hw) k1
          rw [nrm_gi k1, Int.mul_comm, iv_mul hpr hb.1 hb.2 k2]
      · rw [List.pairwise_append]
        refine ⟨T.zer, List.pairwise_singleton _ _, fun a ha b hb => ?_⟩
        cases List.mem_singleton.mp hb
        show gi (nrm p k (redN p (ss.map nr) q.1)) a.h = 0
        rw [nrm_gi (by rw [hxl]; exact (hg a ha).h), red_zero hl hg T a ha]
        simp
    | nil =>
      rw [e] at h
      dsimp only at h
      by_cases c : redW p ss q.1 q.2 = 0
      · rw [if_pos c] at h
        exact tri_solve hpr hq2 hg T h
      · rw [if_neg c] at h; cases h
def backS (p : Int) : List Stp → List Int → List Int
  | [], sd => sd
  | s :: ss, sd => backS p ss (sd.set s.h ((s.w - dotE s.v sd % p) % p))
theorem backS_len {p : Int} : ∀ {ss : List Stp} {sd : List Int}, (backS p ss sd).length = sd.length
  | [], _ => rfl
  | s :: ss, sd => by show (backS p ss _).length = _; rw [backS_len, List.length_set]
theorem gi_set_ne {xs : List Int} {h k : Nat} {c : Int} (n : h ≠ k) : gi (xs.set h c) k = gi xs k := by
  unfold gi
  rw [List.getD_eq_getElem?_getD, List.getD_eq_getElem?_getD, List.getElem?_set_ne n]
theorem gi_set_eq {xs : List Int} {h : Nat} {c : Int} (n : h < xs.length) : gi (xs.set h c) h = c := by
  unfold gi
  rw [List.getD_eq_getElem?_getD, List.getElem?_set_self n]; rfl
theorem backS_within {p : Int} (hp : 0 < p) : ∀ {ss : List Stp} {sd : List Int}, Within p sd → Within p (backS p ss sd)
  | [], _, h => h
  | s :: ss, sd, h => by
    show Within p (backS p ss _)
    refine backS_within hp fun x hx => ?_
    rcases List.mem_or_eq_of_mem_set hx with h1 | h1
    · exact h x h1
    · rw [h1]; exact ⟨Int.emod_nonneg _ (by omega), Int.emod_lt_of_pos _ hp⟩
theorem backS_other {p : Int} {k : Nat} : ∀ {ss : List Stp} {sd : List Int}, (∀ s ∈ ss, s.h ≠ k) → gi (backS p ss sd) k = gi sd k
  | [], _, _ => rfl
  | s :: ss, sd, h => by
    show gi (backS p ss _) k = _
    rw [backS_other fun t ht => h t (List.mem_cons_of_mem _ ht), gi_set_ne (h s List.mem_cons_self)]
theorem sumR_one {n k : Nat} {f : Nat → Int} {c : Int} (hk : k < n) (h : ∀ i, i < n → i ≠ k → f i = 0) (hc : f k = c) : sumR n f = c := by
  induction n with
  | zero => omega
  | succ n ih =>
    rw [sumR_succ]
    by_cases e : k = n
    · subst e
      have z : sumR k f = 0 := by
        have := sumR_congr (n := k) (f := f) (g := fun i => 0 * f i) fun i hi => by rw [h i (by omega) (by omega), Int.zero_mul]
        rw [this, sumR_mul, Int.zero_mul]
      rw [z, hc, Int.zero_add]
    · rw [ih (by omega) fun i hi hn => h i (by omega) hn, h n (by omega) (by omega), Int.add_zero]
theorem dot_set {p : Int} {v sd : List Int} {h : Nat} {c : Int} (hl : sd.length = v.length) (hh : h < v.length) (h1 : gi v h = 1) (h0 : gi sd h = 0) : dotE v (sd.set h c) = dotE v sd + c := by
  have e : dotE v (sd.set h c) - dotE v sd = c := by
    unfold dotE
    rw [← sumR_sub]
    refine sumR_one hh (fun i hi hn => ?_) ?_
    · show gi v i * gi (sd.set h c) i - gi v i * gi sd i = 0
      rw [gi_set_ne (fun z => hn z.symm), Int.sub_self]
    · show gi v h * gi (sd.set h c) h - gi v h * gi sd h = c
      rw [gi_set_eq (by omega), h1, h0]; omega
  omega
theorem back_ok {p : Int} {size : Nat} (hp : 0 < p) : ∀ {rs : List Stp} {sd : List Int}, sd.length = size → (∀ s ∈ rs, GoodS p size s) → (∀ s ∈ rs, gi s.v s.h = 1) → rs.Pairwise (fun s t => gi s.v t.h = 0) → (∀ s ∈ rs, gi sd s.h = 0) → ∀ s ∈ rs, dotE s.v (backS p rs sd) % p = s.w % p
  | [], _, _, _, _, _, _, s, hs => nomatch hs
  | s :: rs, sd, hl, hg, h1, hz, h0, t, ht => by
    have g := hg s List.mem_cons_self
    have hz2 := List.pairwise_cons.mp hz
    have hne : ∀ u ∈ rs, s.h ≠ u.h := fun u hu e => by
      have := hz2.1 u hu
      rw [← e, h1 s List.mem_cons_self] at this
      omega
    show dotE t.v (backS p rs (sd.set s.h ((s.w - dotE s.v sd % p) % p))) % p = t.w % p
    rcases List.mem_cons.mp ht with rfl | ht
    · have e : dotE t.v (backS p rs (sd.set t.h ((t.w - dotE t.v sd % p) % p))) = dotE t.v (sd.set t.h ((t.w - dotE t.v sd % p) % p)) := by
        unfold dotE
        refine sumR_congr fun i hi => ?_
        by_cases c : ∃ u ∈ rs, u.h = i
        · obtain ⟨u, hu, rfl⟩ := c
          rw [hz2.1 u hu, Int.zero_mul, Int.zero_mul]
        · rw [backS_other fun u hu e => c ⟨u, hu, e⟩]
      rw [e, dot_set (p := p) (by rw [hl, g.l]) (by rw [g.l]; exact g.h) (h1 t List.mem_cons_self) (h0 t List.mem_cons_self)]
      rw [Int.add_emod, mod_mod', ← Int.add_emod]
      have e3 : (dotE t.v sd + (t.w - dotE t.v sd % p)) % p = (dotE t.v sd + (t.w - dotE t.v sd)) % p := by
        rw [Int.add_emod, emod_sub_congr (p := p) (rfl : t.w % p = t.w % p) (mod_mod' (dotE t.v sd) p), ← Int.add_emod]
      rw [e3]
      congr 1; omega
    · refine back_ok hp (by rw [List.length_set]; exact hl) (fun u hu => hg u (List.mem_cons_of_mem _ hu)) (fun u hu => h1 u (List.mem_cons_of_mem _ hu)) hz2.2 (fun u hu => ?_) t ht
      rw [gi_set_ne (hne u hu)]
      exact h0 u (List.mem_cons_of_mem _ hu)
/-- the seed that solve tells -/
def seedS (p : Int) (size : Nat) (ss : List Stp) : List Int := backS p ss.reverse (List.replicate size 0)
theorem solve_right {p : Int} {size : Nat} (hpr : p ∈ primesL) {qs : List (List Int × Int)} {ss : List Stp} (hq : ∀ q ∈ qs, q.1.length = size ∧ Within p q.1) (h : solveS p qs [] = some ss) : (seedS p size ss).length = size ∧ Within p (seedS p size ss) ∧ ∀ q ∈ qs, dotE q.1 (seedS p size ss) % p = q.2 % p := by
  obtain ⟨hp2, hp3⟩ := primes_le hpr
  have hn : ∀ s ∈ ([] : List Stp), GoodS p size s := fun _ h => nomatch h
  obtain ⟨_, _, hg⟩ := fit_some (size := size) (by omega) (fun q hq2 => (hq q hq2).1) hn h
  have T := tri_solve hpr hq hn ⟨(fun _ h => nomatch h), List.Pairwise.nil⟩ h
  refine ⟨by unfold seedS; rw [backS_len]; simp, backS_within (by omega) fun x hx => by rw [(List.mem_replicate.mp hx).2]; omega, ?_⟩
  refine (sol_rows hpr hq hn h fun s hs => ?_).2
  refine back_ok (size := size) (by omega) (by simp) (fun s hs => hg s (List.mem_reverse.mp hs)) (fun s hs => T.one s (List.mem_reverse.mp hs)) (List.pairwise_reverse.mpr T.zer) (fun s hs => gi_rep0) s (List.mem_reverse.mpr hs)

/-! loops over what slots hold: with a return; comprehensions with a test -/
theorem forRet {ρ : En} {gF : FG} {body : FS} {ds : List PyData} {sr : Sr} {Z : List Nat} {G : SO → Prop} (I : Nat → En → Prop) (hz : (sr.slots.all fun i => Z.contains i) = true) (hat : ∀ j ρ, I j ρ → sr.at ρ = some ds)
    (hs : ∀ j ρ (h : j < ds.length), I j ρ → NC (stepF gF body ds[j] ρ) (I (j + 1)) ∨ ∃ o ρ', stepF gF body ds[j] ρ = .rt o ρ' ∧ G (.rt o ρ')) (h0 : I 0 ρ) (hG : ∀ ρ, I ds.length ρ → G (.nx ρ)) : G (kFor Z gF body (.ok sr ρ)) := by
  have e : kFor Z gF body (.ok sr ρ) = forF sr gF body (ds.length + 1) 0 ρ := by
    show (if (sr.slots.all fun i => Z.contains i) = true then _ else _) = _
    rw [if_pos hz, hat 0 ρ h0]
  rw [e]
  have go : ∀ (n j : Nat) (ρ : En), n + j = ds.length → I j ρ → G (forF sr gF body (n + 1) j ρ) := by
    intro n
    induction n with
    | zero =>
      intro j ρ hn hi
      unfold forF
      rw [hat j ρ hi]
      dsimp only
      rw [List.getElem?_eq_none (by omega)]
      have : j = ds.length := by omega
      subst this
      exact hG ρ hi
    | succ n ih =>
      intro j ρ hn hi
      have hj : j < ds.length := by omega
      unfold forF
      rw [hat j ρ hi]
      dsimp only
      rw [List.getElem?_eq_getElem hj]
      dsimp only
      rcases hs j ρ hj hi with ⟨ρ2, h1, h2⟩ | ⟨o, ρ2, h1, h2⟩
      · unfold stepF at h1
        cases hg : gF ds[j] ρ with
        | none => rw [hg] at h1; rcases h1 with h1 | h1 <;> cases h1
        | some ρ1 =>
          rw [hg] at h1
          dsimp only at h1 ⊢
          rcases h1 with h1 | h1 <;> rw [h1] <;> exact ih (j + 1) ρ2 (by omega) h2
      · unfold stepF at h1
        cases hg : gF ds[j] ρ with
        | none => rw [hg] at h1; cases h1
        | some ρ1 =>
          rw [hg] at h1
          dsimp only at h1 ⊢
          rw [h1]
          exact h2
  exact go ds.length 0 ρ (by omega) h0
theorem compFil {α : Type} {ρ ρ1 : En} {gF : FG} {t : FT} {f : FE} {vs : List Nat} {sr : Sr} (ks : List α) (q g : α → PyData) (c : α → Bool) (h4 : wipeE ρ vs = ρ1) (hz : (sr.slots.all fun i => !vs.contains i) = true) (hat : sr.at ρ1 = some (ks.map q)) (hl : ks.length ≤ sizeLine)
    (hs : ∀ k, k ∈ ks → stepC gF t f vs (q k) ρ1 = .ok (if c k then some (.fz (g k)) else none) ρ1) : kComp gF t f vs (.ok sr ρ) = .ok (.lst (((ks.filter c).map g).map O.fz)) ρ1 := by
  subst h4
  have go : ∀ (n j : Nat) (acc : List PyData), n + j = ks.length → acc = ((ks.take j).filter c).map g → compF sr gF t f vs (n + 1) j (wipeE ρ vs) (acc.map O.fz) = .ok (((ks.filter c).map g).map O.fz) (wipeE ρ vs) := by
    intro n
    induction n with
    | zero =>
      intro j acc hn ha
      unfold compF
      rw [hat]
      dsimp only
      rw [List.getElem?_eq_none (by rw [List.length_map]; omega), ha, List.take_of_length_le (by omega)]
    | succ n ih =>
      intro j acc hn ha
      have hj : j < ks.length := by omega
      have hk := hs ks[j] (List.getElem_mem hj)
      unfold compF
      rw [hat]
      dsimp only
      rw [List.getElem?_map, List.getElem?_eq_getElem hj]
      simp only [Option.map]
      have hlen : acc.length ≤ j := by
        rw [ha, List.length_map]
        have := List.length_filter_le c (ks.take j)
        rw [List.length_take] at this
        omega
      have etk : ((ks.take (j + 1)).filter c).map g = acc ++ (if c ks[j] then [g ks[j]] else []) := by
        rw [List.take_add_one, List.getElem?_eq_getElem hj, List.filter_append, List.map_append, ← ha]
        by_cases hc : c ks[j] = true <;> simp [hc]
      unfold stepC at hk
      cases hg : gF (q ks[j]) (wipeE ρ vs) with
      | none => rw [hg] at hk; cases hk
      | some ρ2 =>
        rw [hg] at hk
        dsimp only at hk ⊢
        cases ht : t ρ2 with
        | bad => rw [ht] at hk; cases hk
        | exc x r => rw [ht] at hk; cases hk
        | ok b ρ3 =>
          rw [ht] at hk
          cases b with
          | false =>
            dsimp only at hk ⊢
            by_cases hc : c ks[j] = true
            · rw [if_pos hc] at hk; cases hk
            · rw [if_neg hc] at hk etk
              injection hk with _ e2
              rw [e2]
              rw [List.append_nil] at etk
              exact ih (j + 1) acc (by omega) etk.symm
          | true =>
            dsimp only at hk ⊢
            cases hf : f ρ3 with
            | bad => rw [hf] at hk; cases hk
            | exc x r => rw [hf] at hk; cases hk
            | ok o ρ4 =>
              rw [hf] at hk
              dsimp only at hk ⊢
              by_cases hc : c ks[j] = true
              · rw [if_pos hc] at hk etk
                injection hk with e1 e2
                injection e1 with e1
                subst e1
                rw [e2, if_pos (by rw [List.length_map]; omega)]
                have := ih (j + 1) (acc ++ [g ks[j]]) (by omega) etk.symm
                rw [List.map_append] at this
                exact this
              · rw [if_neg hc] at hk; cases hk
  show (if (sr.slots.all fun i => !vs.contains i) = true then _ else _) = _
  rw [if_pos hz, hat]
  dsimp only
  rw [List.length_map]
  have := go ks.length 0 [] (by omega) rfl
  rw [List.map_nil] at this
  rw [this]

/-! led_off -/
def stpD (s : Stp) : PyData := .tuple [.int s.h, .list (s.v.map PyData.int), .int s.w]
theorem redW_app {p : Int} {s : Stp} : ∀ {ss : List Stp} {l : List Int} {r : Int}, redW p (ss ++ [s]) l r = (redW p ss l r - gi (redN p (ss.map nr) l) s.h * s.w) % p
  | [], _, _ => rfl
  | t :: ss, l, r => by show redW p (ss ++ [s]) _ _ = _; rw [redW_app]; rfl
theorem bd400 {p x : Int} (hp : p ≤ 31) (h0 : 0 ≤ x) (h1 : x < p) : x.natAbs < 2 ^ 400 := by omega
theorem take_nr {ss : List Stp} {j : Nat} (h : j < ss.length) : (ss.take (j + 1)).map nr = (ss.take j).map nr ++ [nr ss[j]] := by
  rw [List.take_add_one, List.getElem?_eq_getElem h, List.map_append]; rfl
theorem take_s {ss : List Stp} {j : Nat} (h : j < ss.length) : ss.take (j + 1) = ss.take j ++ [ss[j]] := by
  rw [List.take_add_one, List.getElem?_eq_getElem h]; rfl
theorem led_off_ok {p w : Int} {size : Nat} {xs : List Int} {ss : List Stp} (hp : 2 ≤ p) (hp2 : p ≤ 31) (hl : xs.length = size) (hx : Within p xs) (hs : size ≤ 12) (hg : ∀ s ∈ ss, GoodS p size s) (hw0 : 0 ≤ w) (hw1 : w < p) :
    F_led_off [.fz (.int p), .fz (rowD xs), .fz (.int w), .lst ((ss.map stpD).map O.fz)] = .ok (.fz (.tuple [.list ((redN p (ss.map nr) xs).map PyData.int), .int (redW p ss xs w)])) [.fz (.int p), .fz (rowD xs), .fz (.int w), .lst ((ss.map stpD).map O.fz)] := by
  have hp0 : p ≠ 0 := by omega
  have hir : itemsO (.fz (rowD xs)) = some (false, xs.map PyData.int) := rfl
  have hi := items_map (ss.map stpD)
  unfold F_led_off w_led_off
  walk_at "run"
  refine forM (G := fun z => kRun (kSeq z _) _ _ = _) (xs := ss) (q := stpD) (fun j ρ => ∃ s6 s7 s8 s9, ρ = [some (.fz (.int p)), some (.fz (rowD xs)), some (.fz (.int w)), some (.lst ((ss.map stpD).map O.fz)), some (.lst (((redN p ((ss.take j).map nr) xs).map PyData.int).map O.fz)), some (.fz (.int (redW p (ss.take j) xs w))), s6, s7, s8, s9, none, none]) rfl ?_ ?_ ⟨none, none, none, none, rfl⟩ ?_
  · rintro j _ ⟨s6, s7, s8, s9, rfl⟩
    walk_at "run"
  · rintro j _ hj ⟨s6, s7, s8, s9, rfl⟩
    have g := hg _ (List.getElem_mem hj)
    have hgt : ∀ s ∈ ss.take j, GoodS p size s := fun s h => hg s (List.mem_of_mem_take h)
    have hxl := nr_len hgt hl
    have hxw : Within p (redN p ((ss.take j).map nr) xs) := redN_within (by omega) hx
    obtain ⟨r0, r1⟩ := redW_bd (p := p) (by omega) (ss := ss.take j) (l := xs) hw0 hw1
    have en : redN p ((ss.take (j + 1)).map nr) xs = subL p (gi (redN p ((ss.take j).map nr) xs) ss[j].h) (redN p ((ss.take j).map nr) xs) ss[j].v := by rw [take_nr hj, redN_app]; rfl
    have ew : redW p (ss.take (j + 1)) xs w = (redW p (ss.take j) xs w - gi (redN p ((ss.take j).map nr) xs) ss[j].h * ss[j].w) % p := by rw [take_s hj, redW_app]
    rw [en, ew]
    generalize redN p ((ss.take j).map nr) xs = x at *
    generalize redW p (ss.take j) xs w = r at *
    generalize ss[j] = s at *
    obtain ⟨h, v, sw⟩ := s
    obtain ⟨g1, g2, g3, g4, g5⟩ := g
    dsimp only at g1 g2 g3 g4 g5 ⊢
    have hb := within_gi hxw (show h < x.length by omega)
    have hix := ix_lst (xs := x) (k := h) (by omega)
    have hb4 := bd400 hp2 hb.1 hb.2
    have hw4 := bd400 hp2 g4 g5
    have hix2 := items_map (x.map PyData.int)
    have e2 := fm (p := p) (by omega) (r - gi x h * sw)
    generalize gi x h = b at *
    have hcomp : ∀ (t5 t6 t8 : Option O), kComp (gfT 2 (gsC (gfN 10) (gsC (gfN 11) gsN))) tYesF (eOp dMod (pE (eOp dSub (pVar 10) (pE (eOp dMul (pVar 9) (pVar 11))))) (pVar 0)) [10, 11] (.ok (.zp (.sl true 4) (.sl true 7)) [some (.fz (.int p)), some (.fz (rowD xs)), some (.fz (.int w)), some (.lst ((ss.map stpD).map O.fz)), some (.lst ((x.map PyData.int).map O.fz)), t5, t6, some (.fz (.list (v.map PyData.int))), t8, some (.fz (.int b)), none, none]) = .ok (.lst (((subL p b x v).map PyData.int).map O.fz)) [some (.fz (.int p)), some (.fz (rowD xs)), some (.fz (.int w)), some (.lst ((ss.map stpD).map O.fz)), some (.lst ((x.map PyData.int).map O.fz)), t5, t6, some (.fz (.list (v.map PyData.int))), t8, some (.fz (.int b)), none, none] := fun t5 t6 t8 => by
      have ez := zpD_int x v
      rw [show (subL p b x v).map PyData.int = (x.zip v).map (PyData.int ∘ fun q : Int × Int => (q.1 - b * q.2) % p) by unfold subL; rw [List.map_map]]
      refine compS (x.zip v) (fun q : Int × Int => PyData.tuple [.int q.1, .int q.2]) (PyData.int ∘ fun q : Int × Int => (q.1 - b * q.2) % p) rfl rfl (by clear e2 hix; walk_at "run") (nat_line (by rw [List.length_zip]; omega)) fun q hq => ?_
      obtain ⟨y, z⟩ := q
      have hz := g3 z (List.of_mem_zip hq).2
      have hz4 := bd400 hp2 hz.1 hz.2
      have e3 := fm (p := p) (by omega) (y - b * z)
      clear hq ez hix hix2 e2 hi hir
      show _ = Out.ok (some (O.fz (.int ((y - b * z) % p)))) _
      walk_at "run"
    have hcomp2 := hcomp (some (.fz (.int r))) (some (.fz (.int h))) (some (.fz (.int sw)))
    have hk : (Sr.sl true 4).kind = (Sr.sl true 7).kind := rfl
    have hzat : ∀ (t5 t6 t8 : Option O), (Sr.zp (.sl true 4) (.sl true 7)).at [some (.fz (.int p)), some (.fz (rowD xs)), some (.fz (.int w)), some (.lst ((ss.map stpD).map O.fz)), some (.lst ((x.map PyData.int).map O.fz)), t5, t6, some (.fz (.list (v.map PyData.int))), t8, some (.fz (.int b)), none, none] = some (zpD (x.map PyData.int) (v.map PyData.int)) := fun t5 t6 t8 => by
      clear hcomp hcomp2 e2 hix
      walk_at "run"
    have hzat2 := hzat (some (.fz (.int r))) (some (.fz (.int h))) (some (.fz (.int sw)))
    clear hcomp hzat hix2 hi hir
    rw [show stpD ⟨h, v, sw⟩ = .tuple [.int h, .list (v.map PyData.int), .int sw] from rfl]
    walk_at "run"
    exact nc_nx ⟨_, _, _, _, rfl⟩
  · rintro _ ⟨s6, s7, s8, s9, rfl⟩
    rw [List.take_length]
    have hfz := frzs_map ((redN p (ss.map nr) xs).map PyData.int)
    walk_at "run"

/-! solve -/
theorem zpD_gen {α β : Type} (f : α → PyData) (g : β → PyData) (xs : List α) (ys : List β) : zpD (xs.map f) (ys.map g) = (xs.zip ys).map fun p => PyData.tuple [f p.1, g p.2] := by
  unfold zpD
  rw [List.zip_map, List.map_map]
  rfl
theorem enD_int (xs : List Int) : enD (xs.map PyData.int) = xs.zipIdx.map fun z : Int × Nat => PyData.tuple [.int z.2, .int z.1] := by
  unfold enD
  rw [List.zipIdx_map, List.map_map]
  rfl
def hD (hs : List Nat) : List PyData := hs.map fun k : Nat => PyData.int k
theorem zipIdx_range (xs : List Int) : xs.zipIdx = (List.range xs.length).map fun i => (gi xs i, i) := by
  apply List.ext_getElem (by simp)
  intro i h1 h2
  simp at h1
  simp [gi, h1]
theorem heads_idx (xs : List Int) : (xs.zipIdx.filter fun z => decide (z.1 ≠ 0)).map (fun z : Int × Nat => PyData.int z.2) = hD (heads xs) := by
  rw [zipIdx_range, List.filter_map, List.map_map]
  rfl
def qD (q : List Int × Int) : PyData := .tuple [rowD q.1, .int q.2]
abbrev SolI (p : Int) (size : Nat) (rows : List (List Int)) (ws : List Int) (j : Nat) (ρ : En) : Prop := ∃ (ss : List Stp) (s4 s5 s6 s7 s8 s9 : Option O), (∀ s ∈ ss, GoodS p size s) ∧ ss.length ≤ j ∧ solveS p ((rows.zip ws).drop j) ss = solveS p (rows.zip ws) [] ∧
  ρ = [some (.fz (.int p)), some (.fz (.list (rows.map rowD))), some (.fz (.list (ws.map PyData.int))), some (.lst ((ss.map stpD).map O.fz)), s4, s5, s6, s7, s8, s9, none, none, none, none]
theorem backS_app {p : Int} {s : Stp} : ∀ {ss : List Stp} {sd : List Int}, backS p (ss ++ [s]) sd = (backS p ss sd).set s.h ((s.w - dotE s.v (backS p ss sd) % p) % p)
  | [], _ => rfl
  | t :: ss, sd => by show backS p (ss ++ [s]) _ = _; rw [backS_app]; rfl
def solO (p : Int) (size : Nat) : Option (List Stp) → O
  | none => .fz .none
  | some ss => .fz (rowD (seedS p size ss))
theorem solve_ok {p : Int} {size : Nat} {rows : List (List Int)} {ws : List Int} (hpr : p ∈ primesL) (hr : Rws p size rows) (hs1 : 1 ≤ size) (hs : size ≤ 12) (hn : ws.length = rows.length) (hn0 : 0 < rows.length) (hn2 : rows.length ≤ 100) (hw : Within p ws) :
    F_solve [.fz (.int p), .fz (.list (rows.map rowD)), .fz (.list (ws.map PyData.int))] = .ok (solO p size (solveS p (rows.zip ws) [])) [.fz (.int p), .fz (.list (rows.map rowD)), .fz (.list (ws.map PyData.int))] := by
  obtain ⟨hp, hp2⟩ := primes_le hpr
  have hp0 : p ≠ 0 := by omega
  have ha := need_alike_ok (ro := .fz (.list (rows.map rowD))) hpr rfl hs1 hs hr (.inr ⟨_, rfl⟩)
  have hnl := need_listed_ok (p := p) (wo := .fz (.list (ws.map PyData.int))) (ws := ws) (n := rows.length) rfl rfl hn (by omega) hw
  have hlr : lenO (.fz (.list (rows.map rowD))) = some (.int rows.length) := by rw [show lenO (.fz (.list (rows.map rowD))) = some (.int (rows.map rowD).length) from rfl, List.length_map]
  have hk : (Sr.sl true 1).kind = (Sr.sl true 2).kind := rfl
  have hzp := zpD_gen rowD PyData.int rows ws
  have hrow : ∀ q ∈ rows.zip ws, q.1.length = size ∧ Within p q.1 ∧ 0 ≤ q.2 ∧ q.2 < p := fun q hq => ⟨(hr _ (List.of_mem_zip hq).1).1, (hr _ (List.of_mem_zip hq).1).2, (hw _ (List.of_mem_zip hq).2).1, (hw _ (List.of_mem_zip hq).2).2⟩
  have hx0 : ixO (.fz (.list (rows.map rowD))) 0 = some (rowD rows[0]) := ix_items (l := true) (k := 0) (ds := rows.map rowD) rfl (by simp [hn0])
  have hl0 : lenO (.fz (rowD rows[0])) = some (.int size) := by
    rw [show lenO (.fz (rowD rows[0])) = some (.int (rows[0].map PyData.int).length) from rfl, List.length_map, (hr _ (List.getElem_mem hn0)).1]
  unfold F_solve w_solve
  walk_at "run"
  clear ha hnl
  refine forRet (G := fun z => kRun (kSeq z _) _ _ = _) (ds := (rows.zip ws).map qD) (SolI p size rows ws) rfl ?_ ?_ ⟨[], none, none, none, none, none, none, (fun _ h => nomatch h), Nat.le_refl _, rfl, rfl⟩ ?_
  · rintro j _ ⟨ss, s4, s5, s6, s7, s8, s9, -, -, -, rfl⟩
    clear hrow
    walk_at "run"
    rfl
  · rintro j _ hj ⟨ss, s4, s5, s6, s7, s8, s9, hg, hsl, hso, rfl⟩
    rw [List.length_map] at hj
    rw [List.getElem_map]
    obtain ⟨hl, hxw, hb0, hb1⟩ := hrow _ (List.getElem_mem hj)
    have hjl : j < rows.length := by rw [List.length_zip] at hj; omega
    rw [List.drop_eq_getElem_cons hj] at hso
    clear hrow hk hzp hlr hx0 hl0
    generalize (rows.zip ws)[j] = q at *
    obtain ⟨xs, w⟩ := q
    dsimp only at hl hxw hb0 hb1
    have hlo := led_off_ok hp hp2 hl hxw hs hg hb0 hb1
    have hxl := nr_len hg hl
    have hxw2 : Within p (redN p (ss.map nr) xs) := redN_within (by omega) hxw
    obtain ⟨r0, r1⟩ := redW_bd (p := p) (by omega) (ss := ss) (l := xs) hb0 hb1
    replace hso : (match heads (redN p (ss.map nr) xs) with
      | h :: _ => solveS p ((rows.zip ws).drop (j + 1)) (ss ++ [mkS p h (redN p (ss.map nr) xs) (redW p ss xs w)])
      | [] => if redW p ss xs w = 0 then solveS p ((rows.zip ws).drop (j + 1)) ss else none) = solveS p (rows.zip ws) [] := hso
    generalize redN p (ss.map nr) xs = x at *
    generalize redW p ss xs w = r at *
    rw [show qD (xs, w) = .tuple [rowD xs, .int w] from rfl]
    have hen := enD_int x
    have hke : (Sr.sl true 6).kind = some true := rfl
    have hfil : ∀ (t8 t9 : Option O), kComp (gfT 2 (gsC (gfN 11) (gsC (gfN 13) gsN))) (tTru (pVar 13)) (eVar 11) [11, 13] (.ok (.en (.sl true 6)) [some (.fz (.int p)), some (.fz (.list (rows.map rowD))), some (.fz (.list (ws.map PyData.int))), some (.lst ((ss.map stpD).map O.fz)), some (.fz (rowD xs)), some (.fz (.int w)), some (.fz (.list (x.map PyData.int))), some (.fz (.int r)), t8, t9, none, none, none, none]) = .ok (.lst ((hD (heads x)).map O.fz)) [some (.fz (.int p)), some (.fz (.list (rows.map rowD))), some (.fz (.list (ws.map PyData.int))), some (.lst ((ss.map stpD).map O.fz)), some (.fz (rowD xs)), some (.fz (.int w)), some (.fz (.list (x.map PyData.int))), some (.fz (.int r)), t8, t9, none, none, none, none] := fun t8 t9 => by
      rw [← heads_idx]
      refine compFil x.zipIdx (fun z : Int × Nat => PyData.tuple [.int z.2, .int z.1]) (fun z : Int × Nat => PyData.int z.2) (fun z => decide (z.1 ≠ 0)) rfl rfl (by clear hlo hso; walk_at "run") (nat_line (by rw [List.length_zipIdx]; omega)) fun z _ => ?_
      obtain ⟨y, i⟩ := z
      have hb : ∀ c : Bool, (y != 0) = c → decide (y ≠ 0) = c := fun c h => by rw [← h]; by_cases c0 : y = 0 <;> simp [c0]
      clear hen hlo hso hke
      by_cases c : y = 0
      · subst c
        show _ = Out.ok (if decide ((0 : Int) ≠ 0) = true then _ else none) _
        rw [if_neg (by simp)]
        walk_at "run"
      · show _ = Out.ok (if decide (y ≠ 0) = true then _ else none) _
        rw [if_pos (by simp [c])]
        have c1 : (y != 0) = true := by simp [c]
        walk_at "run"
    have hfil2 := hfil s8 s9
    clear hfil
    cases eh : heads x with
    | cons k t =>
      rw [eh] at hso hfil2
      dsimp only at hso
      obtain ⟨k1, k2⟩ := heads_mem eh
      have hbk := within_gi hxw2 k1
      have htu := turned_ok (n := gi x k) hpr
      rw [if_neg (by rw [Int.emod_eq_of_lt hbk.1 hbk.2]; exact k2)] at htu
      have hxk : ixO (.fz (.list (x.map PyData.int))) (k : Int) = some (.int (gi x k)) := ix_ints (l := true) rfl k1
      have h8 : ixO (.lst ((hD (k :: t)).map O.fz)) 0 = some (.int k) := ix_items (l := true) (k := 0) (items_map _) rfl
      have hf8 : frzs ((hD (k :: t)).map O.fz) = some (hD (k :: t)) := frzs_map _
      have ht8 : dTru (.list (hD (k :: t))) = some true := rfl
      have hiv0 : 0 ≤ iv p (gi x k) ∧ iv p (gi x k) < p := ⟨Int.emod_nonneg _ hp0, Int.emod_lt_of_pos _ (by omega)⟩
      replace htu : F_turned [.fz (.int (gi x k)), .fz (.int p)] = .ok (.fz (.int (iv p (gi x k)))) [.fz (.int (gi x k)), .fz (.int p)] := htu
      have emk : stpD (mkS p k x r) = .tuple [.int k, .list (((x.map fun y => y * iv p (gi x k) % p)).map PyData.int), .int (r * iv p (gi x k) % p)] := rfl
      have er := fm (p := p) (by omega) (r * iv p (gi x k))
      have hgn := mk_good (p := p) (h := k) (r := r) (by omega) hxl (show k < size by omega)
      generalize hmk : mkS p k x r = mk at *
      generalize iv p (gi x k) = u at *
      have hu4 := bd400 hp2 hiv0.1 hiv0.2
      have hr4 := bd400 hp2 r0 r1
      have hcm : ∀ (t8 : Option O), kComp (gfN 13) tYesF (eOp dMod (pE (eOp dMul (pVar 13) (pVar 9))) (pVar 0)) [13] (.ok (.sl true 6) [some (.fz (.int p)), some (.fz (.list (rows.map rowD))), some (.fz (.list (ws.map PyData.int))), some (.lst ((ss.map stpD).map O.fz)), some (.fz (rowD xs)), some (.fz (.int w)), some (.fz (.list (x.map PyData.int))), some (.fz (.int r)), t8, some (.fz (.int u)), none, none, none, none]) = .ok (.lst (((x.map fun y => y * u % p).map PyData.int).map O.fz)) [some (.fz (.int p)), some (.fz (.list (rows.map rowD))), some (.fz (.list (ws.map PyData.int))), some (.lst ((ss.map stpD).map O.fz)), some (.fz (rowD xs)), some (.fz (.int w)), some (.fz (.list (x.map PyData.int))), some (.fz (.int r)), t8, some (.fz (.int u)), none, none, none, none] := fun t8 => by
        rw [show (x.map fun y => y * u % p).map PyData.int = x.map (PyData.int ∘ fun y => y * u % p) from List.map_map]
        refine compS x PyData.int (PyData.int ∘ fun y => y * u % p) rfl rfl (by clear hlo hfil2 htu; walk_at "run") (nat_line (by omega)) fun y hy => ?_
        have hy2 := hxw2 y hy
        have hy4 := bd400 hp2 hy2.1 hy2.2
        have e3 := fm (p := p) (by omega) (y * u)
        clear hlo hfil2 htu hen hy hxk h8 hf8 ht8 emk er
        show _ = Out.ok (some (O.fz (.int (y * u % p)))) _
        walk_at "run"
      have hcm2 := hcm (some (.lst ((hD (k :: t)).map O.fz)))
      have hfz9 := frzs_map ((x.map fun y => y * u % p).map PyData.int)
      have hzz : ((ss.map stpD).map O.fz).length < sizeLine := by rw [List.length_map, List.length_map]; exact nat_line (n := ss.length + 1) (by omega)
      have eap : (ss.map stpD).map O.fz ++ [.fz (stpD mk)] = ((ss ++ [mk]).map stpD).map O.fz := by simp
      rw [emk] at eap
      have hgs := good_snoc hg hgn
      clear hcm hgn hg emk hen
      left
      walk_at "run"
      exact nc_nx ⟨ss ++ [mk], _, _, _, _, _, _, hgs, by simp; omega, hso, rfl⟩
    | nil =>
      rw [eh] at hso hfil2
      dsimp only at hso
      have h8 : (hD []).map O.fz = [] := rfl
      rw [h8] at hfil2
      clear hen
      by_cases c : r = 0
      · rw [if_pos c] at hso
        subst c
        left
        walk_at "run"
        exact nc_nx ⟨ss, _, _, _, _, _, _, hg, by omega, hso, rfl⟩
      · rw [if_neg c] at hso
        right
        refine ⟨.fz .none, [some (.fz (.int p)), some (.fz (.list (rows.map rowD))), some (.fz (.list (ws.map PyData.int))), some (.lst ((ss.map stpD).map O.fz)), some (.fz (rowD xs)), some (.fz (.int w)), some (.fz (.list (x.map PyData.int))), some (.fz (.int r)), some (.lst []), s9, none, none, none, none], ?_, ?_⟩
        · clear hso
          have c1 : (r != 0) = true := by simp [c]
          have hE : ([] : List PyData).isEmpty = true := rfl
          walk_at "run"
        · rw [← hso]
          clear hso hlo hfil2
          walk_at "run"
          rfl
  · rintro _ ⟨ss, s4, s5, s6, s7, s8, s9, hg, hsl, hso, rfl⟩
    rw [List.length_map, List.drop_length] at hso
    replace hso : some ss = solveS p (rows.zip ws) [] := hso
    rw [← hso]
    clear hso hrow hk hzp
    have hfz := frzs_map (ss.map stpD)
    have q1 : [PyData.int 0].length * ((size : Nat) : Int).toNat ≤ sizeLine := nat_line (by simp; omega)
    have q2 : (List.replicate size [PyData.int 0]).flatten = (List.replicate size (0 : Int)).map PyData.int := by simp
    walk_at "run"
    rw [show (ss.map stpD).reverse = ss.reverse.map stpD by rw [List.map_reverse]]
    refine loopM (xs := ss.reverse) (q := stpD) (G := fun z => kRun (kSeq z _) _ _ = _) (fun j ρ => ∃ s7 s11 s12, ρ = [some (.fz (.int p)), some (.fz (.list (rows.map rowD))), some (.fz (.list (ws.map PyData.int))), some (.fz (.list (ss.map stpD))), s4, s5, s6, s7, s8, s9, some (.lst (((backS p (ss.reverse.take j) (List.replicate size 0)).map PyData.int).map O.fz)), s11, s12, none]) ?_ ⟨_, _, _, rfl⟩ ?_
    · rintro j _ hj ⟨t7, t11, t12, rfl⟩
      have g := hg _ (List.mem_reverse.mp (List.getElem_mem hj))
      have etk : ss.reverse.take (j + 1) = ss.reverse.take j ++ [ss.reverse[j]] := by rw [List.take_add_one, List.getElem?_eq_getElem hj]; rfl
      rw [etk, backS_app]
      have hbl : (backS p (ss.reverse.take j) (List.replicate size 0)).length = size := by rw [backS_len]; simp
      have hbw : Within p (backS p (ss.reverse.take j) (List.replicate size 0)) := backS_within (by omega) fun x hx => by rw [(List.mem_replicate.mp hx).2]; omega
      generalize backS p (ss.reverse.take j) (List.replicate size 0) = sd at *
      generalize ss.reverse[j] = st at *
      obtain ⟨h, v, sw⟩ := st
      obtain ⟨g1, g2, g3, g4, g5⟩ := g
      dsimp only at g1 g2 g3 g4 g5 ⊢
      have hdt := dot_ok (p := p) (o1 := .fz (.list (v.map PyData.int))) (o2 := .lst ((sd.map PyData.int).map O.fz)) (l := true) (xs := v) (ys := sd) hp hp2 rfl (items_map _) g3 hbw (by omega)
      rw [dotv_sum hp (by omega)] at hdt
      replace hdt : F_dot [.fz (.int p), .fz (.list (v.map PyData.int)), .lst ((sd.map PyData.int).map O.fz)] = .ok (.fz (.int (dotE v sd % p))) [.fz (.int p), .fz (.list (v.map PyData.int)), .lst ((sd.map PyData.int).map O.fz)] := hdt
      have e3 := fm (p := p) (by omega) (sw - dotE v sd % p)
      have hxn : ixN ((sd.map PyData.int).map O.fz).length (h : Int) = some h := by
        rw [List.length_map, List.length_map]
        unfold ixN
        simp
        omega
      have hset : List.set ((sd.map PyData.int).map O.fz) h (O.fz (.int ((sw - dotE v sd % p) % p))) = ((sd.set h ((sw - dotE v sd % p) % p)).map PyData.int).map O.fz := by rw [List.map_set, List.map_set]
      generalize dotE v sd % p = dd at *
      rw [show stpD ⟨h, v, sw⟩ = .tuple [.int h, .list (v.map PyData.int), .int sw] from rfl]
      clear hfz q2 hl0 hx0 hlr etk
      walk_at "run"
      exact nc_nx ⟨_, _, _, rfl⟩
    · rintro _ ⟨t7, t11, t12, rfl⟩
      rw [List.take_length]
      have hib := items_map ((backS p ss.reverse (List.replicate size 0)).map PyData.int)
      clear hfz q2 hl0 hx0 hlr
      walk_at "run"
      rfl

/-! the law's own steps -/
def nD (s : Nst) : PyData := .tuple [.int s.1, .list (s.2.map PyData.int)]
theorem is_ln {o : O} {ds : List PyData} (h : Is o (.list ds)) : (∀ i ρ, kLend (some (some o)) i ρ = .ok o ρ) ∨ (∀ i ρ, kLend (some (some o)) i ρ = .ok o (ρ.set i none)) := by
  cases h with
  | fz => exact .inl fun _ _ => rfl
  | lst ds => exact .inr fun _ _ => rfl
theorem law_left_ok {p : Int} {n : Nat} {xs : List Int} {ss : List Nst} {so : O} (hp : 2 ≤ p) (hp2 : p ≤ 31) (hl : xs.length = n) (hn : n ≤ 13) (hx : Within p xs) (hg : ∀ s ∈ ss, GoodN p n s) (ho : itemsO so = some (true, ss.map nD)) :
    F__law_left [.fz (.int p), so, .fz (rowD xs)] = .ok (.lst (((redN p ss xs).map PyData.int).map O.fz)) [.fz (.int p), so, .fz (rowD xs)] := by
  have hp0 : p ≠ 0 := by omega
  have hir : itemsO (.fz (rowD xs)) = some (false, xs.map PyData.int) := rfl
  unfold F__law_left w__law_left
  walk_at "run"
  refine forM (G := fun z => kRun (kSeq z _) _ _ = _) (xs := ss) (q := nD) (fun j ρ => ∃ s4 s5 s6, ρ = [some (.fz (.int p)), some so, some (.fz (rowD xs)), some (.lst (((redN p (ss.take j) xs).map PyData.int).map O.fz)), s4, s5, s6, none]) rfl ?_ ?_ ⟨none, none, none, rfl⟩ ?_
  · rintro j _ ⟨s4, s5, s6, rfl⟩
    walk_at "run"
  · rintro j _ hj ⟨s4, s5, s6, rfl⟩
    have g := hg _ (List.getElem_mem hj)
    have hxl : (redN p (ss.take j) xs).length = n := by
      rw [redN_len, hl]
      intro s hs
      rw [hl]; exact (hg s (List.mem_of_mem_take hs)).l
    have hxw : Within p (redN p (ss.take j) xs) := redN_within (by omega) hx
    have en : redN p (ss.take (j + 1)) xs = subL p (gi (redN p (ss.take j) xs) ss[j].1) (redN p (ss.take j) xs) ss[j].2 := by
      rw [List.take_add_one, List.getElem?_eq_getElem hj, show (some ss[j]).toList = [ss[j]] from rfl, redN_app]; rfl
    rw [en]
    generalize redN p (ss.take j) xs = x at *
    generalize ss[j] = s at *
    obtain ⟨h, v⟩ := s
    obtain ⟨g1, g2, g3⟩ := g
    dsimp only at g1 g2 g3 ⊢
    have hb := within_gi hxw (show h < x.length by omega)
    have hix := ix_lst (xs := x) (k := h) (by omega)
    have hb4 := bd400 hp2 hb.1 hb.2
    have hlx : lenO (.lst ((x.map PyData.int).map O.fz)) = some (.int n) := by rw [len_ints (items_map _), hxl]
    generalize gi x h = b at *
    have hcomp : ∀ (t4 : Option O), loopC (gfN 7) tYesF (eOp dMod (pE (eOp dSub (pE (eIx (pVar 3) (pVar 7))) (pE (eOp dMul (pVar 6) (pE (eIx (pVar 5) (pVar 7))))))) (pVar 0)) [7] (rgD 0 n) [some (.fz (.int p)), some so, some (.fz (rowD xs)), some (.lst ((x.map PyData.int).map O.fz)), t4, some (.fz (.list (v.map PyData.int))), some (.fz (.int b)), none] [] = .ok (((subL p b x v).map PyData.int).map O.fz) [some (.fz (.int p)), some so, some (.fz (rowD xs)), some (.lst ((x.map PyData.int).map O.fz)), t4, some (.fz (.list (v.map PyData.int))), some (.fz (.int b)), none] := fun t4 => by
      have e0 : (subL p b x v).map PyData.int = (List.range n).map fun k => PyData.int ((gi x k - b * gi v k) % p) := by
        have : subL p b x v = (List.range n).map fun k => (gi x k - b * gi v k) % p := by
          apply ext_g (by rw [subL_len (by omega)]; simp [hxl])
          intro k hk
          rw [subL_len (by omega)] at hk
          rw [subL_gi (by omega) hk, gi_at (show k < ((List.range n).map fun k => (gi x k - b * gi v k) % p).length by rw [List.length_map, List.length_range]; omega), List.getElem_map, List.getElem_range]
        rw [this, List.map_map]; rfl
      rw [e0]
      refine lc_rg (fun k => PyData.int ((gi x k - b * gi v k) % p)) (nat_line (by omega)) fun k hk => ?_
      have x1 := ix_lst (xs := x) (k := k) (by omega)
      have x2 : ixO (.fz (.list (v.map PyData.int))) (k : Int) = some (.int (gi v k)) := ix_ints (l := true) rfl (by omega)
      have hv := within_gi g3 (show k < v.length by omega)
      have hv4 := bd400 hp2 hv.1 hv.2
      have e3 := fm (p := p) (by omega) (gi x k - b * gi v k)
      clear hix hlx ho hir
      walk_at "run"
    have hcomp2 := hcomp (some (.fz (.int h)))
    clear hcomp
    rw [show nD (h, v) = .tuple [.int h, .list (v.map PyData.int)] from rfl]
    have hn2 : (n : Int) ≤ 13 := by omega
    clear hir
    walk_at "run"
    exact nc_nx ⟨_, _, _, rfl⟩
  · rintro _ ⟨s4, s5, s6, rfl⟩
    rw [List.take_length]
    walk_at "run"
theorem law_inv {p x : Int} (hpr : p ∈ primesL) (h0 : 0 ≤ x) (h1 : x < p) (hx : x ≠ 0) : F__law_inverse [.fz (.int p), .fz (.int x)] = .ok (.fz (.int (iv p x))) [.fz (.int p), .fz (.int x)] := by
  obtain ⟨v, e, h⟩ := inverse_ok (primes_le hpr) h0 h1
  rw [e]
  have ht := tried_at hpr h0 h1
  rcases h with ⟨a1, a2, a3⟩ | ⟨a1, a2⟩
  · rw [ht.2.2 v (by omega) a2 a3]; rfl
  · have hp := primes_le hpr
    have := ht.2.1 hx
    have hb0 := Int.emod_nonneg (x ^ (p - 2).toNat) (show p ≠ 0 by omega)
    have hb1 := Int.emod_lt_of_pos (x ^ (p - 2).toNat) (show 0 < p by omega)
    refine absurd this (a2 _ ?_ hb1)
    apply Decidable.byContradiction
    intro c
    have z : x ^ (p - 2).toNat % p = 0 := by omega
    rw [z, Int.zero_mul, Int.zero_emod] at this
    cases this
theorem dEq_nil {ds : List PyData} (h : Sh 3 (.list ds)) : dEq (.list ds) (.list []) = some (.bool (decide (ds = []))) := by
  cases ds with
  | nil => rfl
  | cons d ds =>
    have := sh_shaped h (by decide)
    unfold dEq
    rw [this]
    simp [SeqAt.shaped, PyData.canLay0, PyData.canLayAll0, PyData.depth, PyData.depthAll, PyData.eqv, PyData.eqvAll]
theorem sh_hD {hs : List Nat} : Sh 3 (.list (hD hs)) := sh_list fun d hd => by
  obtain ⟨k, _, rfl⟩ := List.mem_map.mp hd
  exact sh_int
theorem lstI_is {o : O} {ds : List PyData} (h : itemsO o = some (true, ds)) : lstI o = some ds := by unfold lstI; rw [h]
theorem law_stepped_ok {p : Int} {n : Nat} {xs : List Int} {ss : List Nst} {so : O} (hpr : p ∈ primesL) (hl : xs.length = n) (hn : n ≤ 13) (hx : Within p xs) (hg : ∀ s ∈ ss, GoodN p n s) (hsl : ss.length ≤ 1000) (ho : Is so (.list (ss.map nD))) :
    ∃ ro so', F__law_stepped [.fz (.int p), so, .fz (rowD xs)] = .ok ro [.fz (.int p), so', .fz (rowD xs)] ∧ Is ro (.list ((stepN p ss xs).map nD)) ∧ Is so' (.list (ss.map nD)) := by
  obtain ⟨hp, hp2⟩ := primes_le hpr
  have hp0 : p ≠ 0 := by omega
  have hi := is_items ho
  have hll := law_left_ok hp hp2 hl hn hx hg hi
  have hxl : (redN p ss xs).length = n := by
    rw [redN_len, hl]
    intro s hs
    rw [hl]; exact (hg s hs).l
  have hxw : Within p (redN p ss xs) := redN_within (by omega) hx
  have hstep : stepN p ss xs = match heads (redN p ss xs) with
    | [] => ss
    | h :: _ => ss ++ [(h, nrm p h (redN p ss xs))] := rfl
  generalize redN p ss xs = x at *
  rw [hstep]
  clear hstep
  have hlx : lenO (.lst ((x.map PyData.int).map O.fz)) = some (.int n) := by rw [len_ints (items_map _), hxl]
  have hn2 : (n : Int) ≤ 13 := by omega
  have hfil : loopC (gfN 6) (tOf (eOp dNe (pE (eIx (pVar 3) (pVar 6))) (pE (eC (.int 0))))) (eVar 6) [6] (rgD 0 n) [some (.fz (.int p)), some so, some (.fz (rowD xs)), some (.lst ((x.map PyData.int).map O.fz)), none, none, none, none] [] = .ok ((hD (heads x)).map O.fz) [some (.fz (.int p)), some so, some (.fz (rowD xs)), some (.lst ((x.map PyData.int).map O.fz)), none, none, none, none] := by
    have e : rgD 0 n = (List.range n).map fun k : Nat => PyData.int k := by unfold rgD; simp
    rw [e]
    unfold hD heads
    rw [hxl]
    refine lc_filter (List.range n) (fun k : Nat => PyData.int k) (fun k : Nat => PyData.int k) (fun k => decide (gi x k ≠ 0)) (nat_line (by rw [List.length_range]; omega)) fun k hk => ?_
    have x1 := ix_lst (xs := x) (k := k) (by have := List.mem_range.mp hk; omega)
    clear hlx hll hi ho e
    by_cases c : gi x k = 0
    · rw [if_neg (by simp [c])]
      walk_at "run"
    · rw [if_pos (by simp [c])]
      walk_at "run"
  have hne := dEq_nil (sh_hD (hs := heads x))
  have hfz : frzs ((hD (heads x)).map O.fz) = some (hD (heads x)) := frzs_map _
  cases eh : heads x with
  | nil =>
    rw [eh] at hfil hne hfz
    rw [show (hD []).map O.fz = [] from rfl] at hfil hfz
    have hne : dEq (.list (hD [])) (.list []) = some (.bool true) := rfl
    rw [show hD [] = [] from rfl] at hne hfz
    have hfso := is_frz ho
    have hev : ∀ (ρ : En), kEV (some (some so)) 1 ρ = .ok (.fz (.list (ss.map nD))) ρ ∨ kEV (some (some so)) 1 ρ = .ok (.fz (.list (ss.map nD))) (ρ.set 1 (some (.fz (.list (ss.map nD))))) := fun ρ => by
      cases ho with
      | fz => exact .inl rfl
      | lst ds => exact .inr (by show kEV2 (frz _) 1 ρ = _; rw [frz_map]; rfl)
    rcases is_ln ho with hln | hln
    all_goals
      rcases hev [some (.fz (.int p)), some so, some (.fz (rowD xs)), some (.lst ((x.map PyData.int).map O.fz)), some (.lst []), none, none, none] with h1 | h1
      · refine ⟨.fz (.list (ss.map nD)), so, ?_, .fz _, ho⟩
        unfold F__law_stepped w__law_stepped
        clear hev
        walk_at "run"
      · refine ⟨.fz (.list (ss.map nD)), .fz (.list (ss.map nD)), ?_, .fz _, .fz _⟩
        unfold F__law_stepped w__law_stepped
        clear hev
        walk_at "run"
  | cons k t =>
    dsimp only
    rw [eh] at hfil hne hfz
    obtain ⟨k1, k2⟩ := heads_mem eh
    have hbk := within_gi hxw k1
    have hinv := law_inv hpr hbk.1 hbk.2 k2
    have hxk := ix_lst (xs := x) k1
    have h8 : ixO (.lst ((hD (k :: t)).map O.fz)) 0 = some (.int k) := ix_items (l := true) (k := 0) (items_map _) rfl
    have hne2 : dEq (.list (hD (k :: t))) (.list []) = some (.bool false) := by rw [hne]; rfl
    clear hne
    have hiv0 : 0 ≤ iv p (gi x k) ∧ iv p (gi x k) < p := ⟨Int.emod_nonneg _ hp0, Int.emod_lt_of_pos _ (by omega)⟩
    have emk : nD (k, nrm p k x) = .tuple [.int k, .list (((x.map fun y => y * iv p (gi x k) % p)).map PyData.int)] := rfl
    generalize nrm p k x = nx at *
    generalize iv p (gi x k) = u at *
    have hu4 := bd400 hp2 hiv0.1 hiv0.2
    have hix := items_map (x.map PyData.int)
    have hcm : ∀ (t4 : Option O), kComp (gfN 7) tYesF (eOp dMod (pE (eOp dMul (pVar 7) (pVar 5))) (pVar 0)) [7] (.ok (.sl true 3) [some (.fz (.int p)), some so, some (.fz (rowD xs)), some (.lst ((x.map PyData.int).map O.fz)), t4, some (.fz (.int u)), none, none]) = .ok (.lst (((x.map fun y => y * u % p).map PyData.int).map O.fz)) [some (.fz (.int p)), some so, some (.fz (rowD xs)), some (.lst ((x.map PyData.int).map O.fz)), t4, some (.fz (.int u)), none, none] := fun t4 => by
      rw [show (x.map fun y => y * u % p).map PyData.int = x.map (PyData.int ∘ fun y => y * u % p) from List.map_map]
      refine compS x PyData.int (PyData.int ∘ fun y => y * u % p) rfl rfl (by clear hll hfil hinv; walk_at "run") (nat_line (by omega)) fun y hy => ?_
      have hy2 := hxw y hy
      have hy4 := bd400 hp2 hy2.1 hy2.2
      have e3 := fm (p := p) (by omega) (y * u)
      clear hll hfil hinv hy hxk h8 hfz hne2 emk hix hi ho
      show _ = Out.ok (some (O.fz (.int (y * u % p)))) _
      walk_at "run"
    have hcm2 := hcm (some (.lst ((hD (k :: t)).map O.fz)))
    have hfz9 := frzs_map ((x.map fun y => y * u % p).map PyData.int)
    have hls := lstI_is hi
    have hzz : (ss.map nD).length + [nD (k, nx)].length ≤ sizeLine := nat_line (by simp; omega)
    rw [emk] at hzz
    refine ⟨.lst (((ss ++ [(k, nx)]).map nD).map O.fz), so, ?_, .lst _, ho⟩
    have eap : (ss ++ [(k, nx)]).map nD = ss.map nD ++ [.tuple [.int k, .list (((x.map fun y => y * u % p)).map PyData.int)]] := by rw [List.map_append, ← emk]; rfl
    rw [eap]
    have hln := is_ln ho
    clear hcm emk eap ho hix
    rcases hln with hln | hln
    all_goals
      unfold F__law_stepped w__law_stepped
      walk_at "run"
theorem is_len {o : O} {ds : List PyData} (h : Is o (.list ds)) : lenO o = some (.int ds.length) := len_items (is_items h)
theorem foldN_app {p : Int} {r : List Int} : ∀ {rs : List (List Int)} {ss : List Nst}, foldN p (rs ++ [r]) ss = stepN p (foldN p rs ss) r
  | [], _ => rfl
  | x :: rs, ss => by show foldN p (rs ++ [r]) _ = _; rw [foldN_app]; rfl
theorem stepN_good {p : Int} {n : Nat} (hp : 0 < p) {ss : List Nst} {l : List Int} (hl : l.length = n) (hg : ∀ s ∈ ss, GoodN p n s) : (∀ s ∈ stepN p ss l, GoodN p n s) ∧ ss.length ≤ (stepN p ss l).length ∧ (stepN p ss l).length ≤ ss.length + 1 := by
  have hxl : (redN p ss l).length = n := by
    rw [redN_len, hl]
    intro s hs
    rw [hl]; exact (hg s hs).l
  cases e : heads (redN p ss l) with
  | nil => rw [stepN_n e]; exact ⟨hg, Nat.le_refl _, by omega⟩
  | cons k t =>
    rw [stepN_c e]
    obtain ⟨k1, _⟩ := heads_mem e
    refine ⟨fun s hs => ?_, by simp, by simp⟩
    rcases List.mem_append.mp hs with h | h
    · exact hg s h
    · cases List.mem_singleton.mp h
      exact ⟨by show k < n; omega, by show (nrm _ _ _).length = n; rw [nrm_len, hxl], nrm_within hp⟩
abbrev FrI (p : Int) (n : Nat) (ro : O) (rows : List (List Int)) (j : Nat) (ρ : En) : Prop := ∃ (so : O) (idx : List PyData) (s4 s5 : Option O), Is so (.list ((foldN p (rows.take j) []).map nD)) ∧ idx.length = (foldN p (rows.take j) []).length ∧ idx.length ≤ j ∧ (∀ s ∈ foldN p (rows.take j) [], GoodN p n s) ∧
  ρ = [some (.fz (.int p)), some ro, some so, some (.lst (idx.map O.fz)), s4, s5]
theorem law_fresh_ok {p : Int} {n : Nat} {rows : List (List Int)} {ro : O} (hpr : p ∈ primesL) (hn : n ≤ 13) (hr : ∀ r ∈ rows, r.length = n ∧ Within p r) (hrl : rows.length ≤ 100) (ho : itemsO ro = some (true, rows.map rowD)) :
    ∃ idx : List PyData, F__law_fresh [.fz (.int p), ro] = .ok (.lst (idx.map O.fz)) [.fz (.int p), ro] ∧ idx.length = (foldN p rows []).length := by
  obtain ⟨hp, hp2⟩ := primes_le hpr
  have hlr := len_rows ho
  have hrl2 : (rows.length : Int) ≤ 100 := by omega
  unfold F__law_fresh w__law_fresh
  walk_at "run"
  refine loopR (G := fun z => ∃ idx : List PyData, kRun (kSeq z _) _ _ = .ok (.lst (idx.map O.fz)) [.fz (.int p), ro] ∧ idx.length = (foldN p rows []).length) (FrI p n ro rows) ?_ ⟨.lst [], [], none, none, .lst [], rfl, Nat.le_refl _, (fun _ h => nomatch h), rfl⟩ ?_
  · rintro j _ hj ⟨so, idx, s4, s5, hso, hil, hij, hg, rfl⟩
    have etk : foldN p (rows.take (j + 1)) [] = stepN p (foldN p (rows.take j) []) rows[j] := by
      rw [List.take_add_one, List.getElem?_eq_getElem hj, show (some rows[j]).toList = [rows[j]] from rfl, foldN_app]
    obtain ⟨hl, hx⟩ := hr _ (List.getElem_mem hj)
    obtain ⟨sg1, sg2, sg3⟩ := stepN_good (p := p) (by omega) hl hg
    obtain ⟨lo, so2, h1, h2, h3⟩ := law_stepped_ok hpr hl hn hx hg (by omega) hso
    have hxr : ixO ro (j : Int) = some (rowD rows[j]) := by
      have := ix_rows ho hj
      rw [this]; congr 1; congr 1; simp [gr, hj]
    have e1 := is_len h2
    have e2 := is_len h3
    have e3 := is_len hso
    rw [List.length_map] at e1 e2 e3
    show NC _ (FrI p n ro rows (j + 1))
    unfold FrI
    rw [etk]
    generalize foldN p (rows.take j) [] = ss at *
    generalize stepN p ss rows[j] = st at *
    have hev : ∀ (ρ : En), kEV (some (some lo)) 5 ρ = .ok (.fz (.list (st.map nD))) ρ ∨ kEV (some (some lo)) 5 ρ = .ok (.fz (.list (st.map nD))) (ρ.set 5 (some (.fz (.list (st.map nD))))) := fun ρ => by
      cases h2 with
      | fz => exact .inl rfl
      | lst ds => exact .inr (by show kEV2 (frz _) 5 ρ = _; rw [frz_map]; rfl)
    have hzi : (idx.map O.fz).length < sizeLine := by rw [List.length_map]; exact nat_line (n := idx.length + 1) (by omega)
    have eap : idx.map O.fz ++ [O.fz (.int j)] = (idx ++ [PyData.int j]).map O.fz := by simp
    have hln := is_ln hso
    by_cases c : (ss.length : Int) < st.length
    · rcases hln with hln | hln
      · rcases hev [some (.fz (.int p)), some ro, some so, some (.lst ((idx ++ [PyData.int j]).map O.fz)), some (.fz (.int j)), some lo] with q | q
        all_goals
          clear hev hso h2 h3
          walk_at "run"
          exact nc_nx ⟨.fz (.list (st.map nD)), idx ++ [PyData.int j], _, _, .fz _, by simp; omega, by simp; omega, sg1, rfl⟩
      · rcases hev [some (.fz (.int p)), some ro, some so2, some (.lst ((idx ++ [PyData.int j]).map O.fz)), some (.fz (.int j)), some lo] with q | q
        all_goals
          clear hev hso h2 h3
          walk_at "run"
          exact nc_nx ⟨.fz (.list (st.map nD)), idx ++ [PyData.int j], _, _, .fz _, by simp; omega, by simp; omega, sg1, rfl⟩
    · rcases hln with hln | hln
      · rcases hev [some (.fz (.int p)), some ro, some so, some (.lst (idx.map O.fz)), some (.fz (.int j)), some lo] with q | q
        all_goals
          clear hev hso h2 h3
          walk_at "run"
          exact nc_nx ⟨.fz (.list (st.map nD)), idx, _, _, .fz _, by omega, by omega, sg1, rfl⟩
      · rcases hev [some (.fz (.int p)), some ro, some so2, some (.lst (idx.map O.fz)), some (.fz (.int j)), some lo] with q | q
        all_goals
          clear hev hso h2 h3
          walk_at "run"
          exact nc_nx ⟨.fz (.list (st.map nD)), idx, _, _, .fz _, by omega, by omega, sg1, rfl⟩
  · rintro _ ⟨so, idx, s4, s5, hso, hil, hij, hg, rfl⟩
    rw [List.take_length] at hil
    refine ⟨idx, ?_, hil⟩
    clear hil
    walk_at "run"

/-! worths_fit -/
theorem zip_fst {α β : Type} : ∀ {xs : List α} {ys : List β}, ys.length = xs.length → (xs.zip ys).map (·.1) = xs
  | [], _, _ => rfl
  | x :: xs, [], h => by simp at h
  | x :: xs, y :: ys, h => by
    rw [List.zip_cons_cons, List.map_cons, zip_fst (by simpa using h)]
theorem fit_iff {p : Int} {size : Nat} {rows : List (List Int)} {ws : List Int} (hpr : p ∈ primesL) (hr : Rws p size rows) (hn : ws.length = rows.length) (hw : Within p ws) :
    decide (((foldN p ((rows.zip ws).map wideR) []).length : Int) = ((foldN p rows []).length : Int)) = (solveS p (rows.zip ws) []).isSome := by
  obtain ⟨hp, hp2⟩ := primes_le hpr
  have hq : ∀ q ∈ rows.zip ws, q.1.length = size ∧ Within p q.1 ∧ 0 ≤ q.2 ∧ q.2 < p := fun q hq => ⟨(hr _ (List.of_mem_zip hq).1).1, (hr _ (List.of_mem_zip hq).1).2, (hw _ (List.of_mem_zip hq).2).1, (hw _ (List.of_mem_zip hq).2).2⟩
  have hn0 : ∀ s ∈ ([] : List Stp), GoodS p size s := fun _ h => nomatch h
  have hz := zip_fst (xs := rows) (ys := ws) hn
  cases e : solveS p (rows.zip ws) [] with
  | none =>
    have := fit_none (size := size) hpr hq hn0 e
    rw [hz] at this
    simp only [List.map_nil] at this
    rw [this]
    simp
    omega
  | some ss =>
    obtain ⟨h1, h2, _⟩ := fit_some (size := size) (by omega) (fun q h => (hq q h).1) hn0 e
    rw [hz] at h1
    simp only [List.map_nil] at h1 h2
    rw [h1, h2]
    simp
theorem worths_fit_ok {p : Int} {size : Nat} {rows : List (List Int)} {ws : List Int} (hpr : p ∈ primesL) (hr : Rws p size rows) (hs : size ≤ 12) (hn : ws.length = rows.length) (hn2 : rows.length ≤ 100) (hw : Within p ws) :
    F__law_worths_fit [.fz (.int p), .fz (.list (rows.map rowD)), .fz (.list (ws.map PyData.int))] = .ok (.fz (.bool (solveS p (rows.zip ws) []).isSome)) [.fz (.int p), .fz (.list (rows.map rowD)), .fz (.list (ws.map PyData.int))] := by
  obtain ⟨hp, hp2⟩ := primes_le hpr
  have hk : (Sr.sl true 1).kind = (Sr.sl true 2).kind := rfl
  have hzp := zpD_gen rowD PyData.int rows ws
  have hrow : ∀ q ∈ rows.zip ws, q.1.length = size ∧ Within p q.1 ∧ 0 ≤ q.2 ∧ q.2 < p := fun q hq => ⟨(hr _ (List.of_mem_zip hq).1).1, (hr _ (List.of_mem_zip hq).1).2, (hw _ (List.of_mem_zip hq).2).1, (hw _ (List.of_mem_zip hq).2).2⟩
  have hzl : (rows.zip ws).length = rows.length := by rw [List.length_zip]; omega
  obtain ⟨i1, f1, l1⟩ := law_fresh_ok (n := size + 1) (rows := (rows.zip ws).map wideR) (ro := .lst ((((rows.zip ws).map wideR).map rowD).map O.fz)) hpr (by omega) (fun r h => by
    obtain ⟨q, hq, rfl⟩ := List.mem_map.mp h
    obtain ⟨a1, a2, a3, a4⟩ := hrow q hq
    refine ⟨by simp [wideR, a1], fun x hx => ?_⟩
    rcases List.mem_append.mp hx with h | h
    · exact a2 x h
    · cases List.mem_singleton.mp h; exact ⟨a3, a4⟩) (by rw [List.length_map]; omega) (items_map _)
  obtain ⟨i2, f2, l2⟩ := law_fresh_ok (n := size) (rows := rows) (ro := .fz (.list (rows.map rowD))) hpr (by omega) hr hn2 rfl
  have hfi := fit_iff hpr hr hn hw
  rw [← l1, ← l2] at hfi
  have hcomp : kComp (gfT 2 (gsC (gfN 4) (gsC (gfN 5) gsN))) tYesF (eZ (eCatT (pVar 4) (pE (eTup (aCons (eVar 5) aNil))))) [4, 5] (.ok (.zp (.sl true 1) (.sl true 2)) [some (.fz (.int p)), some (.fz (.list (rows.map rowD))), some (.fz (.list (ws.map PyData.int))), none, none, none]) = .ok (.lst ((((rows.zip ws).map wideR).map rowD).map O.fz)) [some (.fz (.int p)), some (.fz (.list (rows.map rowD))), some (.fz (.list (ws.map PyData.int))), none, none, none] := by
    rw [show ((rows.zip ws).map wideR).map rowD = (rows.zip ws).map (rowD ∘ wideR) from List.map_map]
    refine compS (rows.zip ws) qD (rowD ∘ wideR) rfl rfl (by clear f1 f2 hfi hrow; walk_at "run"; rfl) (nat_line (by omega)) fun q hq => ?_
    obtain ⟨xs, w⟩ := q
    obtain ⟨a1, a2, a3, a4⟩ := hrow _ hq
    dsimp only at a1
    rw [show qD (xs, w) = .tuple [rowD xs, .int w] from rfl]
    have htu : tupI (.fz (rowD xs)) = some (xs.map PyData.int) := rfl
    have hz : (xs.map PyData.int).length + [PyData.int w].length ≤ sizeLine := nat_line (by simp; omega)
    have er : (rowD ∘ wideR) (xs, w) = .tuple (xs.map PyData.int ++ [.int w]) := by show PyData.tuple ((xs ++ [w]).map PyData.int) = _; rw [List.map_append]; rfl
    rw [er]
    clear f1 f2 hfi hrow hzp hq er
    walk_at "run"
  have hzat : (Sr.zp (.sl true 1) (.sl true 2)).at [some (.fz (.int p)), some (.fz (.list (rows.map rowD))), some (.fz (.list (ws.map PyData.int))), none, none, none] = some (zpD (rows.map rowD) (ws.map PyData.int)) := rfl
  have e1 : lenO (.lst (i1.map O.fz)) = some (.int i1.length) := len_items (items_map i1)
  have e2 : lenO (.lst (i2.map O.fz)) = some (.int i2.length) := len_items (items_map i2)
  clear hrow hzp l1 l2 hzl
  generalize (solveS p (rows.zip ws) []).isSome = bb at *
  unfold F__law_worths_fit w__law_worths_fit
  walk_at "run"

def lft (p n : Int) : Nat → Int
  | 0 => n
  | j + 1 => (lft p n j).fdiv p
def dgs (p n : Int) (k : Nat) : List Int := (List.range k).map fun i => (lft p n i).fmod p
theorem dgs_succ (p n : Int) (k : Nat) : dgs p n (k + 1) = dgs p n k ++ [(lft p n k).fmod p] := by simp [dgs, List.range_succ]
theorem dgs_len (p n : Int) (k : Nat) : (dgs p n k).length = k := by simp [dgs]
theorem lft_nonneg {p n : Int} (hp : 2 ≤ p) (h : 0 ≤ n) : ∀ k, 0 ≤ lft p n k
  | 0 => h
  | k + 1 => Int.fdiv_nonneg (lft_nonneg hp h k) (by omega)
def badNumber : Xn := ⟨"BadNumber", [("word", PyData.str "BadNumber")]⟩
theorem digits_eq {p n : Int} {many : Nat} (hp : p ∈ primesL) (hm : many ≤ 900) :
    F_digits [.fz (.int n), .fz (.int many), .fz (.int p)] = if n < 0 ∨ 0 < lft p n many then .exc badNumber [.fz (.int n), .fz (.int many), .fz (.int p)] else .ok (intsO (dgs p n many).reverse) [.fz (.int n), .fz (.int many), .fz (.int p)] := by
  have hp2 := primes_le hp
  have hn := need_prime_ok hp
  have hp0 : p ≠ 0 := by omega
  unfold F_digits w_digits
  walk_at "run"
  refine loopR (G := fun z => kRun (kSeq z _) _ _ = _) (fun j ρ => ∃ s, ρ = [some (.fz (.int n)), some (.fz (.int many)), some (.fz (.int p)), some (intsO (dgs p n j)), some (.fz (.int (lft p n j))), s]) ?_ ⟨_, rfl⟩ ?_
  · rintro j _ hj ⟨s, rfl⟩
    have hl : (List.map O.fz (List.map PyData.int (dgs p n j))).length < sizeLine := by rw [List.length_map, List.length_map, dgs_len]; exact lt_line (by omega)
    unfold intsO
    walk_at "run"
    exact nc_nx ⟨some (.fz (.int j)), by rw [dgs_succ]; simp [lft]⟩
  · rintro _ ⟨s, rfl⟩
    have h2 : mkD_BadNumber [] = some badNumber.fs := rfl
    unfold intsO
    by_cases c1 : n < 0
    · rw [if_pos (Or.inl c1)]
      walk_at "run"
      rfl
    · by_cases c2 : 0 < lft p n many
      · rw [if_pos (Or.inr c2)]
        walk_at "run"
        rfl
      · rw [if_neg (by omega)]
        walk_at "run"
        simp

theorem is_whole_int {x : Int} : F_is_whole [.fz (.int x)] = .ok (.fz (.bool true)) [.fz (.int x)] := by
  have h1 : isiO "int" (.fz (.int x)) = some (.bool true) := rfl
  have h2 : isiO "bool" (.fz (.int x)) = some (.bool false) := rfl
  unfold F_is_whole w_is_whole
  walk_at "run"
theorem is_within_int {x lo hi : Int} : F_is_within [.fz (.int x), .fz (.int lo), .fz (.int hi)] = .ok (.fz (.bool (decide (lo ≤ x ∧ x ≤ hi)))) [.fz (.int x), .fz (.int lo), .fz (.int hi)] := by
  have h1 := @is_whole_int x
  unfold F_is_within w_is_within
  by_cases c1 : lo ≤ x
  · by_cases c2 : x ≤ hi
    · rw [decide_eq_true (show lo ≤ x ∧ x ≤ hi from ⟨c1, c2⟩)]
      walk_at "run"
    · rw [decide_eq_false (show ¬ (lo ≤ x ∧ x ≤ hi) from fun z => c2 z.2)]
      walk_at "run"
  · rw [decide_eq_false (show ¬ (lo ≤ x ∧ x ≤ hi) from fun z => c1 z.1)]
    walk_at "run"

/-! all seeds -/
def ext (q : Nat) (s : List Int) : List (List Int) := (List.range q).map fun i : Nat => s ++ [(i : Int)]
def allS (q : Nat) : Nat → List (List Int)
  | 0 => [[]]
  | k + 1 => (allS q k).flatMap (ext q)
theorem lft_shift (p n : Int) : ∀ i, lft p n (i + 1) = lft p (n.fdiv p) i
  | 0 => rfl
  | i + 1 => by show (lft p n (i + 1)).fdiv p = (lft p (n.fdiv p) i).fdiv p; rw [lft_shift p n i]
theorem dgs_cons (p n : Int) (k : Nat) : dgs p n (k + 1) = n.fmod p :: dgs p (n.fdiv p) k := by
  unfold dgs
  rw [List.range_succ_eq_map, List.map_cons, List.map_map]
  congr 1
  apply List.map_congr_left
  intro i _
  show (lft p n (i + 1)).fmod p = _
  rw [lft_shift]
theorem range_mul (q : Nat) : ∀ N : Nat, List.range (N * q) = (List.range N).flatMap fun m => (List.range q).map fun i => m * q + i
  | 0 => by simp
  | N + 1 => by
    rw [Nat.succ_mul, List.range_add, range_mul q N, List.range_succ, List.flatMap_append]
    simp
theorem allS_eq {q : Nat} (hq : 2 ≤ q) : ∀ k, allS q k = (List.range (q ^ k)).map fun n : Nat => (dgs (q : Int) (n : Int) k).reverse
  | 0 => by simp [allS, dgs]
  | k + 1 => by
    show (allS q k).flatMap (ext q) = _
    rw [allS_eq hq k, Nat.pow_succ, range_mul q (q ^ k), List.flatMap_map, List.map_flatMap]
    congr 1
    funext m
    unfold ext
    rw [List.map_map]
    apply List.map_congr_left
    intro i hi
    have hi := List.mem_range.mp hi
    show _ = (dgs (q : Int) ((m * q + i : Nat) : Int) (k + 1)).reverse
    have e1 : ((m * q + i : Nat) : Int).fmod (q : Int) = (i : Int) := by
      rw [fm (by omega), ← Int.natCast_emod, Nat.mul_add_mod_self_right, Nat.mod_eq_of_lt hi]
    have e2 : ((m * q + i : Nat) : Int).fdiv (q : Int) = (m : Int) := by
      rw [fd (by omega), ← Int.natCast_ediv, Nat.mul_comm, Nat.mul_add_div (by omega), Nat.div_eq_of_lt hi, Nat.add_zero]
    rw [dgs_cons, e1, e2, List.reverse_cons]
theorem allS_len {q : Nat} (hq : 2 ≤ q) (k : Nat) : (allS q k).length = q ^ k := by rw [allS_eq hq]; simp
theorem lft_zero {q : Nat} (hq : 2 ≤ q) : ∀ (k n : Nat), n < q ^ k → lft (q : Int) (n : Int) k = 0
  | 0, n, h => by
    have : n = 0 := by simpa using h
    subst this; rfl
  | k + 1, n, h => by
    rw [lft_shift, fd (by omega), ← Int.natCast_ediv]
    exact lft_zero hq k (n / q) (by rw [Nat.div_lt_iff_lt_mul (by omega)]; rwa [Nat.pow_succ] at h)
theorem allS_mem {q : Nat} : ∀ (k : Nat) {s : List Int}, s ∈ allS q k → s.length = k
  | 0, s, h => by rw [List.mem_singleton.mp h]; rfl
  | k + 1, s, h => by
    obtain ⟨t, h1, h2⟩ := List.mem_flatMap.mp h
    obtain ⟨i, _, rfl⟩ := List.mem_map.mp h2
    simp [allS_mem k h1]
theorem pow31 {q : Nat} (h : q ≤ 31) : ∀ {k : Nat}, k ≤ 12 → q ^ k < 2 ^ 61 := fun {k} hk => by
  have h1 : q ^ k ≤ 31 ^ k := Nat.pow_le_pow_left h k
  have h2 : (31 : Nat) ^ k ≤ 31 ^ 12 := Nat.pow_le_pow_right (by decide) hk
  have : (31 : Nat) ^ 12 < 2 ^ 61 := by decide
  omega
theorem raised_to_ok {q k : Nat} (hq : q ≤ 31) (hk : k ≤ 12) : F_raised_to [.fz (.int q), .fz (.int k)] = .ok (.fz (.int ((q ^ k : Nat) : Int))) [.fz (.int q), .fz (.int k)] := by
  unfold F_raised_to w_raised_to
  walk_at "run"
  refine loopR (G := fun z => kRun (kSeq z _) _ _ = _) (fun j ρ => ∃ s, ρ = [some (.fz (.int q)), some (.fz (.int k)), some (.fz (.int ((q ^ j : Nat) : Int))), s]) ?_ ⟨none, by simp⟩ ?_
  · rintro j _ hj ⟨s, rfl⟩
    have h1 := pow31 hq (show j ≤ 12 by omega)
    have h2 : ((q ^ j : Nat) : Int).natAbs < 2 ^ 400 := by rw [Int.natAbs_natCast]; omega
    have h3 : ((q : Nat) : Int).natAbs < 2 ^ 400 := by omega
    have e : ((q ^ (j + 1) : Nat) : Int) = ((q ^ j : Nat) : Int) * (q : Int) := by rw [Nat.pow_succ, Int.natCast_mul]
    rw [e]
    generalize ((q ^ j : Nat) : Int) = z at *
    walk_at "run"
    exact nc_nx ⟨_, rfl⟩
  · rintro _ ⟨s, rfl⟩
    walk_at "run"
def tooWide (n : Int) : Xn := ⟨"TooWide", [("ways", .int n), ("word", PyData.str "TooWide")]⟩

/-! each_seed and the law's own counting -/
theorem prime_nat {p : Int} (hp : p ∈ primesL) : ∃ q : Nat, p = q ∧ 2 ≤ q ∧ q ≤ 31 := by
  have := primes_le hp
  exact ⟨p.toNat, by omega, by omega, by omega⟩
theorem each_seed_ok {q size : Nat} (hp : ((q : Nat) : Int) ∈ primesL) (h1 : 1 ≤ size) (h12 : size ≤ 12) (hw : q ^ size ≤ 4096) : F_each_seed [.fz (.int q), .fz (.int size)] = .ok (.lst (((allS q size).map rowD).map O.fz)) [.fz (.int q), .fz (.int size)] := by
  have hq := primes_le hp
  have hn := need_prime_ok hp
  have hwi := @is_within_int (size : Int) 1 12
  rw [decide_eq_true (show (1 : Int) ≤ size ∧ (size : Int) ≤ 12 by omega)] at hwi
  have hr := raised_to_ok (q := q) (k := size) (by omega) h12
  have hw2 : ¬ (4096 : Int) < ((q ^ size : Nat) : Int) := by omega
  have hrg : ((q ^ size : Nat) : Int) ≤ 4096 := by omega
  have hrg0 : (0 : Int) ≤ ((q ^ size : Nat) : Int) := by omega
  have hcomp : loopC (gfN 3) tYesF (eTuple (pE (eCall F_digits [some 3, some 1, some 0] [] (aApp (aCons (eLend 3) (aCons (eLend 1) aNil)) (aCons (eLend 0) aNil))))) [3] (rgD 0 (q ^ size)) [some (.fz (.int q)), some (.fz (.int size)), some (.fz (.int ((q ^ size : Nat) : Int))), none] [] = .ok (((allS q size).map rowD).map O.fz) [some (.fz (.int q)), some (.fz (.int size)), some (.fz (.int ((q ^ size : Nat) : Int))), none] := by
    rw [show (allS q size).map rowD = (List.range (q ^ size)).map (rowD ∘ fun n : Nat => (dgs (q : Int) (n : Int) size).reverse) by rw [allS_eq (by omega), List.map_map]]
    refine lc_rg (n := q ^ size) (rowD ∘ fun n : Nat => (dgs (q : Int) (n : Int) size).reverse) (nat_line (Nat.le_trans hw (by decide))) fun n hn2 => ?_
    have hd := digits_eq (n := (n : Int)) (many := size) hp (by omega)
    rw [if_neg (by rw [lft_zero (by omega) size n hn2]; omega)] at hd
    have hi : itemsO (intsO (dgs (q : Int) (n : Int) size).reverse) = some (true, (dgs (q : Int) (n : Int) size).reverse.map PyData.int) := items_map _
    clear hn hwi hr hw2 hrg hrg0 hn2
    walk_at "run"
    rfl
  generalize hN : q ^ size = N at *
  unfold F_each_seed w_each_seed
  walk_at "run"
theorem each_seed_wide {q size : Nat} (hp : ((q : Nat) : Int) ∈ primesL) (h1 : 1 ≤ size) (h12 : size ≤ 12) (hw : 4096 < q ^ size) : F_each_seed [.fz (.int q), .fz (.int size)] = .exc (tooWide ((q ^ size : Nat) : Int)) [.fz (.int q), .fz (.int size)] := by
  have hq := primes_le hp
  have hn := need_prime_ok hp
  have hwi := @is_within_int (size : Int) 1 12
  rw [decide_eq_true (show (1 : Int) ≤ size ∧ (size : Int) ≤ 12 by omega)] at hwi
  have hr := raised_to_ok (q := q) (k := size) (by omega) h12
  have hw2 : (4096 : Int) < ((q ^ size : Nat) : Int) := by omega
  generalize ((q ^ size : Nat) : Int) = N at *
  have h2 : mkD_TooWide [.int N] = some (tooWide N).fs := rfl
  unfold F_each_seed w_each_seed
  walk_at "run"
  rfl
theorem each_seed_num {p : Int} {size : Int} (hp : p ∈ primesL) (h : ¬ (1 ≤ size ∧ size ≤ 12)) : F_each_seed [.fz (.int p), .fz (.int size)] = .exc badNumber [.fz (.int p), .fz (.int size)] := by
  have hn := need_prime_ok hp
  have hwi := @is_within_int size 1 12
  rw [decide_eq_false h] at hwi
  have h2 : mkD_BadNumber [] = some badNumber.fs := rfl
  clear h
  unfold F_each_seed w_each_seed
  walk_at "run"
  rfl
theorem each_seed_true {p : Int} (hp : p ∈ primesL) : F_each_seed [.fz (.int p), .fz (.bool true)] = .exc badNumber [.fz (.int p), .fz (.bool true)] := by
  have hn := need_prime_ok hp
  have hwh : F_is_whole [.fz (.bool true)] = .ok (.fz (.bool false)) [.fz (.bool true)] := by
    have t1 : isiO "int" (.fz (.bool true)) = some (.bool true) := rfl
    have t2 : isiO "bool" (.fz (.bool true)) = some (.bool true) := rfl
    unfold F_is_whole w_is_whole
    walk_at "run"
  have hwi : F_is_within [.fz (.bool true), .fz (.int 1), .fz (.int 12)] = .ok (.fz (.bool false)) [.fz (.bool true), .fz (.int 1), .fz (.int 12)] := by
    unfold F_is_within w_is_within
    walk_at "run"
  have h2 : mkD_BadNumber [] = some badNumber.fs := rfl
  unfold F_each_seed w_each_seed
  walk_at "run"
  rfl
theorem each_seed_prime {p : Int} {d : PyData} (hp : p ∉ primesL) : F_each_seed [.fz (.int p), .fz d] = .exc badPrime [.fz (.int p), .fz d] := by
  have hn := need_prime_bad hp
  unfold F_each_seed w_each_seed
  walk_at "run"
def dueD (q size : Nat) : PyData := if ¬ (1 ≤ size ∧ size ≤ 12) then .str "BadNumber" else if 4096 < q ^ size then .tuple [.str "TooWide", .int ((q ^ size : Nat) : Int)] else .list ((allS q size).map rowD)
theorem told_x {x : Xn} {d1 d2 : PyData} (h : F_each_seed [.fz d1, .fz d2] = .exc x [.fz d1, .fz d2]) : (x = badNumber → F__law_all_told [.fz d1, .fz d2] = .ok (.fz (.str "BadNumber")) [.fz d1, .fz d2]) ∧ (x = badPrime → F__law_all_told [.fz d1, .fz d2] = .ok (.fz (.str "BadPrime")) [.fz d1, .fz d2]) ∧ (∀ N, x = tooWide N → F__law_all_told [.fz d1, .fz d2] = .ok (.fz (.tuple [.str "TooWide", .int N])) [.fz d1, .fz d2]) := by
  refine ⟨?_, ?_, ?_⟩
  · rintro rfl
    have m1 : List.lookup badNumber.cls mtab_TooWide = some false := rfl
    have m2 : List.lookup badNumber.cls mtab_BadNumber = some true := rfl
    have h4 : List.lookup ("word" : Str) badNumber.fs = some (PyData.str "BadNumber") := rfl
    have h5 : excL.contains badNumber.cls = true := rfl
    unfold F__law_all_told w__law_all_told
    walk_at "run"
  · rintro rfl
    have m1 : List.lookup badPrime.cls mtab_TooWide = some false := rfl
    have m2 : List.lookup badPrime.cls mtab_BadNumber = some false := rfl
    have m3 : List.lookup badPrime.cls mtab_BadPrime = some true := rfl
    have h4 : List.lookup ("word" : Str) badPrime.fs = some (PyData.str "BadPrime") := rfl
    have h5 : excL.contains badPrime.cls = true := rfl
    unfold F__law_all_told w__law_all_told
    walk_at "run"
  · rintro N rfl
    have m1 : List.lookup (tooWide N).cls mtab_TooWide = some true := rfl
    have h4 : List.lookup ("ways" : Str) (tooWide N).fs = some (PyData.int N) := rfl
    have h5 : excL.contains (tooWide N).cls = true := rfl
    have hc : runCl (some 2) (fun a cls d => sRet (eTup (aCons (eC (.str "TooWide")) (aCons (eZ (eXf (fun n => excL.contains n) a cls d 2 "ways")) aNil)))) (tooWide N) [some (.fz d1), some (.fz d2), none] = .rt (.fz (.tuple [.str "TooWide", .int N])) [some (.fz d1), some (.fz d2), none] := by
      refine runCl_eq (fun a cls d => ?_) rfl
      have hxf := xf_run (known := fun n => excL.contains n) (a := a) (cls := cls) (d := d) (x := tooWide N) (i := 2) (fl := ("ways" : Str)) (ρ := [some (.fz d1), some (.fz d2), some (.exn a cls d (tooWide N))]) rfl
      clear h m1
      walk_at "run"
    unfold F__law_all_told w__law_all_told
    walk_at "run"
theorem all_told_ok {q size : Nat} (hp : ((q : Nat) : Int) ∈ primesL) : ∃ o, F__law_all_told [.fz (.int q), .fz (.int size)] = .ok o [.fz (.int q), .fz (.int size)] ∧ Is o (dueD q size) := by
  unfold dueD
  by_cases c1 : 1 ≤ size ∧ size ≤ 12
  · rw [if_neg (fun z => z c1)]
    by_cases c2 : 4096 < q ^ size
    · rw [if_pos c2]
      exact ⟨_, (told_x (each_seed_wide hp c1.1 c1.2 c2)).2.2 _ rfl, .fz _⟩
    · rw [if_neg c2]
      have he := each_seed_ok hp c1.1 c1.2 (by omega)
      refine ⟨_, ?_, .lst _⟩
      unfold F__law_all_told w__law_all_told
      walk_at "run"
  · rw [if_pos c1]
    exact ⟨_, (told_x (each_seed_num (size := (size : Int)) hp (by omega))).1 rfl, .fz _⟩
theorem flat_len {q : Nat} (l : List (List Int)) : (l.flatMap (ext q)).length = l.length * q := by
  induction l with
  | nil => simp
  | cons a l ih => rw [List.flatMap_cons, List.length_append, ih, List.length_cons, Nat.add_mul]; simp [ext]; omega
theorem all_seeds_ok {q size : Nat} (hq : 2 ≤ q) (hq2 : q ≤ 31) (h12 : size ≤ 12) (hw : q ^ size ≤ 4096) : ∃ o, F__law_all_seeds [.fz (.int q), .fz (.int size)] = .ok o [.fz (.int q), .fz (.int size)] ∧ Is o (.list ((allS q size).map rowD)) := by
  unfold F__law_all_seeds w__law_all_seeds
  walk_at "run"
  refine loopR (G := fun z => ∃ o, kRun (kSeq z _) _ _ = .ok o [.fz (.int q), .fz (.int size)] ∧ Is o (.list ((allS q size).map rowD))) (fun j ρ => ∃ so s3 s4 s5, Is so (.list ((allS q j).map rowD)) ∧ ρ = [some (.fz (.int q)), some (.fz (.int size)), some so, s3, s4, s5, none]) ?_ ⟨.lst [.fz (.tuple [])], none, none, none, .lst [.tuple []], rfl⟩ ?_
  · rintro j _ hj ⟨so, s3, s4, s5, hso, rfl⟩
    have hlen := allS_len hq j
    have hle : q ^ j ≤ 4096 := Nat.le_trans (Nat.pow_le_pow_right (by omega) (by omega)) hw
    have hle2 : q ^ (j + 1) ≤ 4096 := Nat.le_trans (Nat.pow_le_pow_right (by omega) (by omega)) hw
    have hi := is_items hso
    walk_at "run"
    refine forM (G := fun z => NC (kSeq z _) _) (xs := allS q j) (q := rowD) (fun i ρ => ∃ s5, ρ = [some (.fz (.int q)), some (.fz (.int size)), some so, some (.fz (.int j)), some (.lst (((((allS q j).take i).flatMap (ext q)).map rowD).map O.fz)), s5, none]) rfl ?_ ?_ ⟨s5, rfl⟩ ?_
    · rintro i _ ⟨t5, rfl⟩
      walk_at "run"
    · rintro i _ hi2 ⟨t5, rfl⟩
      have hm := allS_mem j (List.getElem_mem hi2)
      have etk : ((allS q j).take (i + 1)).flatMap (ext q) = ((allS q j).take i).flatMap (ext q) ++ ext q (allS q j)[i] := by
        rw [List.take_add_one, List.getElem?_eq_getElem hi2, List.flatMap_append]; simp
      have hpl : (((allS q j).take i).flatMap (ext q)).length = i * q := by
        rw [flat_len, List.length_take, Nat.min_eq_left (by omega)]
      have hiq : (i + 1) * q ≤ q ^ (j + 1) := by
        rw [Nat.pow_succ]; exact Nat.mul_le_mul_right q (by omega)
      rw [Nat.add_mul, Nat.one_mul] at hiq
      rw [etk]
      generalize ((allS q j).take i).flatMap (ext q) = fl at *
      generalize (allS q j)[i] = s at *
      have hcomp : loopC (gfN 6) tYesF (eZ (eCatT (pVar 5) (pE (eTup (aCons (eVar 6) aNil))))) [6] (rgD 0 q) [some (.fz (.int q)), some (.fz (.int size)), some so, some (.fz (.int j)), some (.lst ((fl.map rowD).map O.fz)), some (.fz (rowD s)), none] [] = .ok (((ext q s).map rowD).map O.fz) [some (.fz (.int q)), some (.fz (.int size)), some so, some (.fz (.int j)), some (.lst ((fl.map rowD).map O.fz)), some (.fz (rowD s)), none] := by
        rw [show (ext q s).map rowD = (List.range q).map (rowD ∘ fun i : Nat => s ++ [(i : Int)]) from List.map_map]
        refine lc_rg (n := q) (rowD ∘ fun i : Nat => s ++ [(i : Int)]) (nat_line (by omega)) fun k hk => ?_
        have htu : tupI (.fz (rowD s)) = some (s.map PyData.int) := rfl
        have hz : (s.map PyData.int).length + [PyData.int (k : Int)].length ≤ sizeLine := nat_line (by simp; omega)
        have er : (rowD ∘ fun i : Nat => s ++ [(i : Int)]) k = .tuple (s.map PyData.int ++ [.int k]) := by show PyData.tuple ((s ++ [(k : Int)]).map PyData.int) = _; rw [List.map_append]; rfl
        rw [er]
        clear hi etk er
        walk_at "run"
      have hz2 : (fl.map rowD).length + ((ext q s).map rowD).length ≤ sizeLine := nat_line (by rw [List.length_map, List.length_map, hpl]; simp [ext]; omega)
      have hlf := lstI_is (items_map (fl.map rowD))
      have hle3 := lstI_is (items_map ((ext q s).map rowD))
      have eap : (fl.map rowD ++ (ext q s).map rowD).map O.fz = ((fl ++ ext q s).map rowD).map O.fz := congrArg (List.map O.fz) List.map_append.symm
      have hq3 : (q : Int) ≤ 31 := by omega
      clear hi etk hpl
      walk_at "run"
      exact nc_nx ⟨_, rfl⟩
    · rintro _ ⟨t5, rfl⟩
      rw [List.take_length]
      have hfz := frzs_map (((allS q j).flatMap (ext q)).map rowD)
      clear hi
      walk_at "run"
      exact nc_nx ⟨_, _, _, _, .fz _, rfl⟩
  · rintro _ ⟨so, s3, s4, s5, hso, rfl⟩
    refine ⟨so, ?_, hso⟩
    rcases is_ln hso with hln | hln
    all_goals walk_at "run"
theorem all_due_ok {q size : Nat} (hq : 2 ≤ q) (hq2 : q ≤ 31) (hs : size ≤ 100) : ∃ o, F__law_all_due [.fz (.int q), .fz (.int size)] = .ok o [.fz (.int q), .fz (.int size)] ∧ Is o (dueD q size) := by
  unfold dueD
  by_cases c1 : 1 ≤ size ∧ size ≤ 12
  · rw [if_neg (fun z => z c1)]
    obtain ⟨h1, h12⟩ := c1
    have g1 : (1 : Int) ≤ size := by omega
    have g2 : (size : Int) ≤ 12 := by omega
    unfold F__law_all_due w__law_all_due
    walk_at "run"
    refine loopR (G := fun z => ∃ o, kRun (kSeq z _) _ _ = .ok o [.fz (.int q), .fz (.int size)] ∧ Is o _) (fun j ρ => ∃ s, ρ = [some (.fz (.int q)), some (.fz (.int size)), some (.fz (.int ((q ^ j : Nat) : Int))), s]) ?_ ⟨none, by simp⟩ ?_
    · rintro j _ hj ⟨s, rfl⟩
      have h2 := pow31 hq2 (show j ≤ 12 by omega)
      have h3 : ((q ^ j : Nat) : Int).natAbs < 2 ^ 400 := by rw [Int.natAbs_natCast]; omega
      have h4 : ((q : Nat) : Int).natAbs < 2 ^ 400 := by omega
      have e : ((q ^ (j + 1) : Nat) : Int) = ((q ^ j : Nat) : Int) * (q : Int) := by rw [Nat.pow_succ, Int.natCast_mul]
      rw [e]
      generalize ((q ^ j : Nat) : Int) = z at *
      walk_at "run"
      exact nc_nx ⟨_, rfl⟩
    · rintro _ ⟨s, rfl⟩
      by_cases c2 : 4096 < q ^ size
      · rw [if_pos c2]
        have c3 : (4096 : Int) < ((q ^ size : Nat) : Int) := by omega
        refine ⟨.fz (.tuple [.str "TooWide", .int ((q ^ size : Nat) : Int)]), ?_, .fz _⟩
        generalize ((q ^ size : Nat) : Int) = z at *
        walk_at "run"
      · rw [if_neg c2]
        have c3 : ¬ (4096 : Int) < ((q ^ size : Nat) : Int) := by omega
        obtain ⟨o, o1, o2⟩ := all_seeds_ok hq hq2 h12 (by omega)
        refine ⟨o, ?_, o2⟩
        generalize ((q ^ size : Nat) : Int) = z at *
        walk_at "run"
  · rw [if_pos c1]
    refine ⟨.fz (.str "BadNumber"), ?_, .fz _⟩
    unfold F__law_all_due w__law_all_due
    by_cases g1 : (1 : Int) ≤ size
    · have g2 : ¬ (size : Int) ≤ 12 := by omega
      clear c1
      walk_at "run"
    · clear c1
      walk_at "run"

theorem sm_row {xs : List Int} (h : xs.length ≤ 1000) : Sm (rowD xs) := .tuple (by rw [List.length_map]; omega) fun d hd => by
  obtain ⟨x, _, rfl⟩ := List.mem_map.mp hd
  exact .int x
theorem sm_ints {xs : List Int} (h : xs.length ≤ 1000) : Sm (.list (xs.map PyData.int)) := .list (by rw [List.length_map]; omega) fun d hd => by
  obtain ⟨x, _, rfl⟩ := List.mem_map.mp hd
  exact .int x
theorem sh_ints {xs : List Int} : Sh 1 (.list (xs.map PyData.int)) := sh_list fun d hd => by
  obtain ⟨x, _, rfl⟩ := List.mem_map.mp hd
  exact sh_int
theorem sm_rows {rows : List (List Int)} (h : rows.length ≤ 5000) (hs : ∀ r ∈ rows, r.length ≤ 1000) : Sm (.list (rows.map rowD)) := .list (by rw [List.length_map]; omega) fun d hd => by
  obtain ⟨x, hx, rfl⟩ := List.mem_map.mp hd
  exact sm_row (hs x hx)
theorem sh_up {n k : Nat} {d : PyData} (h : Sh n d) (hk : n ≤ k) : Sh k d := ⟨h.1, Nat.le_trans h.2 hk⟩
theorem sh_str {n : Nat} {z : Str} (h : PyData.canLay0 (.str z) = true) : Sh n (.str z) := ⟨h, by simp [PyData.depth]⟩
theorem dNe_self {n : Nat} {d : PyData} (h : Sh n d) (hn : n ≤ 64) : dNe d d = some (.bool false) := by
  have e := dEq_self h hn
  unfold dEq at e
  unfold dNe
  rw [sh_shaped h hn] at *
  simp at e ⊢
  exact e
theorem due_same {q size : Nat} (hq : 2 ≤ q) {o1 o2 : O} (h1 : Is o1 (dueD q size)) (h2 : Is o2 (dueD q size)) : F__law_same 4 [o1, o2] = .ok (.fz (.bool true)) [o1, o2] := by
  refine same_ok 3 (dueD q size) o1 o2 (by decide) ?_ ?_ h1 h2
  · unfold dueD
    split
    · exact sh_str (by decide +kernel)
    · split
      · exact sh_tuple fun d hd => by
          simp only [List.mem_cons, List.not_mem_nil, or_false] at hd
          rcases hd with rfl | rfl
          · exact sh_str (by decide +kernel)
          · exact sh_int
      · exact sh_up sh_rows (by decide)
  · unfold dueD
    split
    · exact .str _
    · split
      · exact .tuple (by simp) fun d hd => by
          simp only [List.mem_cons, List.not_mem_nil, or_false] at hd
          rcases hd with rfl | rfl
          · exact .str _
          · exact .int _
      · rename_i c1 c2
        refine sm_rows (by rw [allS_len hq]; omega) fun r hr => ?_
        rw [allS_mem size hr]
        omega
theorem told_anew_ok {q : Nat} (hp : ((q : Nat) : Int) ∈ primesL) : F__law_told_anew [.fz (.int q)] = .ok (.fz (.bool true)) [.fz (.int q)] := by
  have hq := primes_le hp
  have he := each_seed_ok (size := 1) hp (by decide) (by decide) (by rw [Nat.pow_one]; omega)
  rw [show (((1 : Nat) : Int)) = 1 from rfl] at he
  have ea : (allS q 1).map rowD = (List.range q).map fun k : Nat => .tuple [.int k] := by
    show ((([[]] : List (List Int)).flatMap (ext q)).map rowD) = _
    simp [ext, rowD]
  rw [ea] at he
  have ht := (told_x (each_seed_true hp)).1 rfl
  have hcomp : loopC (gfN 2) tYesF (eTup (aCons (eVar 2) aNil)) [2] (rgD 0 q) [some (.fz (.int q)), some (.lst []), none] [] = .ok (((List.range q).map fun k : Nat => PyData.tuple [.int k]).map O.fz) [some (.fz (.int q)), some (.lst []), none] := by
    refine lc_rg (n := q) (fun k : Nat => PyData.tuple [.int k]) (nat_line (by omega)) fun k hk => ?_
    clear he ht ea
    walk_at "run"
  have hfz := frzs_map ((List.range q).map fun k : Nat => PyData.tuple [.int k])
  have hl : (((List.range q).map fun k : Nat => PyData.tuple [.int k]).map O.fz).length < sizeLine := by rw [List.length_map, List.length_map, List.length_range]; exact lt_line (by omega)
  have hs : F__law_same 4 [.lst [.fz (.list ((List.range q).map fun k : Nat => PyData.tuple [.int k])), .fz (.str "BadNumber")], .lst [.fz (.list ((List.range q).map fun k : Nat => PyData.tuple [.int k])), .fz (.str "BadNumber")]] = .ok (.fz (.bool true)) [.lst [.fz (.list ((List.range q).map fun k : Nat => PyData.tuple [.int k])), .fz (.str "BadNumber")], .lst [.fz (.list ((List.range q).map fun k : Nat => PyData.tuple [.int k])), .fz (.str "BadNumber")]] := by
    refine same_ok 3 (.list [.list ((List.range q).map fun k : Nat => PyData.tuple [.int k]), .str "BadNumber"]) _ _ (by decide) (sh_list fun d hd => ?_) (.list (by simp) fun d hd => ?_) (.lst [_, _]) (.lst [_, _])
    · simp only [List.mem_cons, List.not_mem_nil, or_false] at hd
      rcases hd with rfl | rfl
      · exact sh_list fun d hd => by
          obtain ⟨k, _, rfl⟩ := List.mem_map.mp hd
          exact sh_tuple fun d hd => by rw [List.mem_singleton.mp hd]; exact sh_int
      · exact sh_str (by decide +kernel)
    · simp only [List.mem_cons, List.not_mem_nil, or_false] at hd
      rcases hd with rfl | rfl
      · exact .list (by simp; omega) fun d hd => by
          obtain ⟨k, _, rfl⟩ := List.mem_map.mp hd
          exact .tuple (by simp) fun d hd => by rw [List.mem_singleton.mp hd]; exact .int _
      · exact .str _
  have hq31 : (q : Int) ≤ 31 := hq.2
  clear ea
  unfold F__law_told_anew w__law_told_anew
  walk_at "run"
theorem dots_ws {p : Int} {size : Nat} {rows : List (List Int)} {ws : List Int} (hpr : p ∈ primesL) (hr : Rws p size rows) (hn : ws.length = rows.length) (hw : Within p ws) {ss : List Stp} (h : solveS p (rows.zip ws) [] = some ss) : (seedS p size ss).length = size ∧ Within p (seedS p size ss) ∧ (rows.map fun r => dotv p r (seedS p size ss)) = ws := by
  obtain ⟨hp, hp2⟩ := primes_le hpr
  obtain ⟨h1, h2, h3⟩ := solve_right hpr (qs := rows.zip ws) (fun q hq => hr _ (List.of_mem_zip hq).1) h
  refine ⟨h1, h2, ?_⟩
  apply List.ext_getElem (by simp [hn])
  intro i i1 i2
  rw [List.length_map] at i1
  rw [List.getElem_map]
  have hm : (rows[i], ws[i]) ∈ rows.zip ws := by
    rw [show (rows[i], ws[i]) = (rows.zip ws)[i]'(by rw [List.length_zip]; omega) by simp]
    exact List.getElem_mem _
  have := h3 _ hm
  dsimp only at this
  rw [dotv_sum hp (by rw [h1, (hr _ (List.getElem_mem i1)).1])]
  have hb := hw _ (List.getElem_mem i2)
  rw [Int.emod_eq_of_lt hb.1 hb.2] at this
  exact this

theorem anyO_map (bs : List Bool) : anyO (.lst ((bs.map PyData.bool).map O.fz)) = some (.bool (bs.any id)) := by
  unfold anyO lstI
  rw [items_map]
  simp only [Option.bind, bols_map, Option.map]
theorem law_ok (ns : List Int) : ∃ as', F_law [.fz (.list (ns.map PyData.int))] = .ok (.fz (.bool true)) as' := by
  obtain ⟨b0, hb⟩ := bag_ok ns
  obtain ⟨p, b1, hp, hp2, hpr, hpm⟩ := prime_ok b0
  have hpr2 : p ∈ primesL := hpm
  obtain ⟨v, b2, v1, v2, v3⟩ := pull_ok b1 11 (by decide) (by decide)
  obtain ⟨size, hsz⟩ : ∃ s : Nat, 1 + v = s := ⟨(1 + v).toNat, by omega⟩
  have hs1 : 1 ≤ size := by omega
  have hs : size ≤ 12 := by omega
  obtain ⟨r0, b3, r1, r2, r3⟩ := row_ok b2 p size hp hp2 hs1 hs
  obtain ⟨rs, b4, q1, q2, q3⟩ := rows_ok b3 p size 13 hp hp2 hs1 hs (by decide)
  rw [show ((13 : Nat) : Int) = 13 from rfl] at q3
  have hR : Rws p size (r0 :: rs) := fun r h => by
    rcases List.mem_cons.mp h with rfl | h
    · exact ⟨r1, r2⟩
    · exact q2 r h
  have hRl : (r0 :: rs).length ≤ 14 := by simp; omega
  have hR0 : 0 < (r0 :: rs).length := by simp
  generalize hscr : PyData.list (ns.map PyData.int) = scr at hb ⊢
  have hzc : [rowD r0].length + (rs.map rowD).length ≤ sizeLine := nat_line (by simp; omega)
  have hlr : lstI (rowsO rs) = some (rs.map rowD) := lstI_is (items_map _)
  have erow : [rowD r0] ++ rs.map rowD = (r0 :: rs).map rowD := rfl
  unfold F_law w_law
  walk_at "run"
  clear hb hpr v3 r3 q3 hlr hzc erow q1 q2 r1 r2
  generalize r0 :: rs = rows at *
  have hi := items_map (rows.map rowD)
  refine compG (G := fun z => ∃ as', kRun (kSeq (kSt _ z) _) _ _ = .ok _ as') (xs := rows) (q := rowD) (fun k acc ρ => ∃ (b : Bag) (ws : List Int), acc = ws.map PyData.int ∧ Within p ws ∧ ρ = [some (.fz scr), some b.o, some (.fz (.int p)), some (.fz (.int size)), some (.lst ((rows.map rowD).map O.fz)), none, none, none, none, none, none]) rfl ?_ (nat_line (by omega)) ?_ ⟨b4, [], rfl, (fun _ h => nomatch h), rfl⟩ ?_
  · rintro k acc _ ⟨b, ws, rfl, hws, rfl⟩
    walk_at "run"
  · rintro k _ _ hk hlk ⟨b, ws, rfl, hws, rfl⟩
    obtain ⟨y, b5, y1, y2, y3⟩ := pull_ok b p (by omega) (by omega)
    clear hi
    walk_at "run"
    refine co_mk ⟨_, rfl, b5, ws ++ [y], by simp, fun x h => ?_, rfl⟩
    rcases List.mem_append.mp h with h | h
    · exact hws x h
    · cases List.mem_singleton.mp h; exact ⟨y1, y2⟩
  rintro _ _ hlk ⟨b5, ws0, rfl, hws0, rfl⟩
  rw [List.length_map] at hlk
  obtain ⟨c, b6, c1, c2, c3⟩ := pull_ok b5 2 (by decide) (by decide)
  walk_at "run"
  refine seqK (G := fun z => ∃ as', kRun z _ _ = .ok _ as') (fun ρ => ∃ (b : Bag) (ws : List Int) (s6 : Option O), ws.length = rows.length ∧ Within p ws ∧ ρ = [some (.fz scr), some b.o, some (.fz (.int p)), some (.fz (.int size)), some (.lst ((rows.map rowD).map O.fz)), some (.lst ((ws.map PyData.int).map O.fz)), s6, none, none, none, none]) ?_ ?_
  · by_cases e : c = 0
    · subst e
      obtain ⟨sd, b7, x1, x2, x3⟩ := row_ok b6 p size hp hp2 hs1 hs
      have hcomp : kComp (gfN 9) tYesF (eZ (eCall F__law_dot [some 2, some 9, some 6] [] (aCons (eLend 2) (aCons (eLend 9) (aCons (eLend 6) aNil))))) [9] (.ok (.sl true 4) [some (.fz scr), some b7.o, some (.fz (.int p)), some (.fz (.int size)), some (.lst ((rows.map rowD).map O.fz)), some (.lst ((ws0.map PyData.int).map O.fz)), some (.fz (rowD sd)), none, none, none, none]) = .ok (.lst (((rows.map fun r => dotv p r sd).map PyData.int).map O.fz)) [some (.fz scr), some b7.o, some (.fz (.int p)), some (.fz (.int size)), some (.lst ((rows.map rowD).map O.fz)), some (.lst ((ws0.map PyData.int).map O.fz)), some (.fz (rowD sd)), none, none, none, none] := by
        rw [show (rows.map fun r => dotv p r sd).map PyData.int = rows.map (PyData.int ∘ fun r => dotv p r sd) from List.map_map]
        refine compS rows rowD (PyData.int ∘ fun r => dotv p r sd) rfl rfl (by clear c3 x3; walk_at "run") (nat_line (by omega)) fun r hr => ?_
        obtain ⟨l1, l2⟩ := hR r hr
        have hd := law_dot_ok hp hp2 l2 x2 (by rw [x1, l1]) (by omega)
        rw [dot_same hp (by rw [x1, l1])] at hd
        clear hi c3 x3 hr
        walk_at "run"
        rfl
      walk_at "run"
      refine nx_mk ⟨b7, rows.map fun r => dotv p r sd, _, by simp, fun x hx => ?_, rfl⟩
      obtain ⟨r, _, rfl⟩ := List.mem_map.mp hx
      exact ⟨Int.fmod_nonneg_of_pos _ (by omega), Int.fmod_lt_of_pos _ (by omega)⟩
    · walk_at "run"
      exact nx_mk ⟨b6, ws0, _, hlk, hws0, rfl⟩
  clear hlk hws0 c1 c2 c3
  rintro _ ⟨b7, ws, s6, hwl, hws, rfl⟩
  have hsol := solve_ok hpr2 hR hs1 hs hwl hR0 (by omega) hws
  have hfit := worths_fit_ok hpr2 hR hs hwl (by omega) hws
  have hi2 := items_map (ws.map PyData.int)
  have hsame : F__law_same 4 [.lst [.fz (.list (rows.map rowD)), .fz (.list (ws.map PyData.int))], .lst [.fz (.list (rows.map rowD)), .fz (.list (ws.map PyData.int))]] = .ok (.fz (.bool true)) [.lst [.fz (.list (rows.map rowD)), .fz (.list (ws.map PyData.int))], .lst [.fz (.list (rows.map rowD)), .fz (.list (ws.map PyData.int))]] := by
    refine same_ok 3 (.list [.list (rows.map rowD), .list (ws.map PyData.int)]) _ _ (by decide) (sh_list fun d hd => ?_) (.list (by simp) fun d hd => ?_) (.lst [_, _]) (.lst [_, _])
    · simp only [List.mem_cons, List.not_mem_nil, or_false] at hd
      rcases hd with rfl | rfl
      · exact sh_rows
      · exact sh_up sh_ints (by decide)
    · simp only [List.mem_cons, List.not_mem_nil, or_false] at hd
      rcases hd with rfl | rfl
      · exact sm_rows (by omega) fun r hr => by rw [(hR r hr).1]; omega
      · exact sm_ints (by omega)
  have hfz1 := frzs_map (rows.map rowD)
  have hfz2 := frzs_map (ws.map PyData.int)
  generalize htot : solveS p (rows.zip ws) [] = tot at *
  walk_at "run"
  clear hsol hfit hsame hfz1 hfz2 hi hi2
  refine seqK (G := fun z => ∃ as', kRun z _ _ = .ok _ as') (fun ρ => ∃ (b : Bag) (s4 s5 s6 s7 s8 s9 s10 : Option O), ρ = [some (.fz scr), some b.o, some (.fz (.int p)), some (.fz (.int size)), s4, s5, s6, s7, s8, s9, s10]) ?_ ?_
  · cases tot with
    | none =>
      show NX _ _
      simp only [solO, Option.isSome]
      walk_at "run"
      exact nx_mk ⟨b7, _, _, _, _, _, _, _, rfl⟩
    | some ss =>
      obtain ⟨d1, d2, d3⟩ := dots_ws hpr2 hR hwl hws htot
      simp only [solO, Option.isSome]
      generalize seedS p size ss = sd at *
      have t1 : isiO "tuple" (.fz (rowD sd)) = some (.bool true) := rfl
      have t2 : lenO (.fz (rowD sd)) = some (.int size) := by rw [len_ints (l := false) rfl, d1]
      have hir : itemsO (.fz (rowD sd)) = some (false, sd.map PyData.int) := rfl
      have c1 : ∀ (u0 u1 u3 u4 u5 u6 u7 u9 : Option O), kComp (gfN 10) tYesF (eNot (pE (eChain dLe dLt (pE (eC (.int 0))) (pVar 10) (pVar 2)))) [10] (.ok (.sl false 8) [u0, u1, some (.fz (.int p)), u3, u4, u5, u6, u7, some (.fz (rowD sd)), u9, none]) = .ok (.lst ((sd.map (PyData.bool ∘ fun _ => false)).map O.fz)) [u0, u1, some (.fz (.int p)), u3, u4, u5, u6, u7, some (.fz (rowD sd)), u9, none] := fun u0 u1 u3 u4 u5 u6 u7 u9 => by
        refine compS sd PyData.int (PyData.bool ∘ fun _ => false) rfl rfl (by clear d3; walk_at "run") (nat_line (by omega)) fun y hy => ?_
        obtain ⟨y1, y2⟩ := d2 y hy
        have hyy : decide (y < p) = true := decide_eq_true y2
        clear hy d3 hir t1 t2
        walk_at "run"
        rfl
      have c2 : anyO (.lst ((sd.map (PyData.bool ∘ fun _ => false)).map O.fz)) = some (.bool false) := by
        rw [← List.map_map, anyO_map]; simp
      have c3 : ∀ (u0 u1 u3 u5 u6 u7 u10 : Option O), kComp (gfN 9) tYesF (eZ (eCall F_at_seed [some 2, some 9, some 8] [] (aCons (eLend 2) (aCons (eLend 9) (aCons (eLend 8) aNil))))) [9] (.ok (.sl true 4) [u0, u1, some (.fz (.int p)), u3, some (.fz (.list (rows.map rowD))), u5, u6, u7, some (.fz (rowD sd)), none, u10]) = .ok (.lst ((ws.map PyData.int).map O.fz)) [u0, u1, some (.fz (.int p)), u3, some (.fz (.list (rows.map rowD))), u5, u6, u7, some (.fz (rowD sd)), none, u10] := fun u0 u1 u3 u5 u6 u7 u10 => by
        rw [← d3, show (rows.map fun r => dotv p r sd).map PyData.int = rows.map (PyData.int ∘ fun r => dotv p r sd) from List.map_map]
        refine compS rows rowD (PyData.int ∘ fun r => dotv p r sd) rfl rfl (by clear d3 c1; walk_at "run") (nat_line (by omega)) fun r hr => ?_
        obtain ⟨l1, l2⟩ := hR r hr
        have hd := at_seed_ok hpm hp hp2 hs1 hs l1 d1 l2 d2
        clear hr d3 c1 c2 hir t1 t2
        walk_at "run"
        rfl
      have c4 : ∀ (u0 u1 u3 u5 u6 u7 u10 : Option O), kComp (gfN 9) tYesF (eZ (eCall F__law_dot [some 2, some 9, some 8] [] (aCons (eLend 2) (aCons (eLend 9) (aCons (eLend 8) aNil))))) [9] (.ok (.sl true 4) [u0, u1, some (.fz (.int p)), u3, some (.fz (.list (rows.map rowD))), u5, u6, u7, some (.fz (rowD sd)), none, u10]) = .ok (.lst ((ws.map PyData.int).map O.fz)) [u0, u1, some (.fz (.int p)), u3, some (.fz (.list (rows.map rowD))), u5, u6, u7, some (.fz (rowD sd)), none, u10] := fun u0 u1 u3 u5 u6 u7 u10 => by
        rw [← d3, show (rows.map fun r => dotv p r sd).map PyData.int = rows.map (PyData.int ∘ fun r => dotv p r sd) from List.map_map]
        refine compS rows rowD (PyData.int ∘ fun r => dotv p r sd) rfl rfl (by clear d3 c1 c3; walk_at "run") (nat_line (by omega)) fun r hr => ?_
        obtain ⟨l1, l2⟩ := hR r hr
        have hd := law_dot_ok hp hp2 l2 d2 (by rw [d1, l1]) (by omega)
        rw [dot_same hp (by rw [d1, l1])] at hd
        clear hr d3 c1 c2 c3 hir t1 t2
        walk_at "run"
        rfl
      have c5 : F__law_same 4 [.lst ((ws.map PyData.int).map O.fz), .fz (.list (ws.map PyData.int))] = .ok (.fz (.bool true)) [.lst ((ws.map PyData.int).map O.fz), .fz (.list (ws.map PyData.int))] := same_ok 3 (.list (ws.map PyData.int)) _ _ (by decide) (sh_up sh_ints (by decide)) (sm_ints (by omega)) (.lst _) (.fz _)
      have c6 : dNe (.list (ws.map PyData.int)) (.list (ws.map PyData.int)) = some (.bool false) := dNe_self (n := 1) sh_ints (by decide)
      have c7 := frzs_map (ws.map PyData.int)
      clear d3 htot
      walk_at "run"
      exact nx_mk ⟨b7, _, _, _, _, _, _, _, rfl⟩
  · rintro _ ⟨b8, s4, s5, s6, s7, s8, s9, s10, rfl⟩
    obtain ⟨d, b9, d1, d2⟩ := pick_ok b8 (o := .lst [.fz (.int 2), .fz (.int 3), .fz (.int 5), .fz (.int 7), .fz (.int 13), .fz (.int 31)]) (ds := ([2, 3, 5, 7, 13, 31] : List Int).map PyData.int) rfl (by simp) (by simp) (Or.inl rfl)
    obtain ⟨pp, e1, rfl⟩ := List.mem_map.mp d1
    obtain ⟨w1, b10, x1, x2, x3⟩ := pull_ok b9 14 (by decide) (by decide)
    obtain ⟨w2, b11, y1, y2, y3⟩ := pull_ok b10 4 (by decide) (by decide)
    obtain ⟨w3, b12, z1, z2, z3⟩ := pull_ok b11 2 (by decide) (by decide)
    obtain ⟨n, hn1, hn2⟩ : ∃ n : Nat, atI [PyData.int w1, .int (1 + w2)] w3 = some (.int n) ∧ n ≤ 13 := by
      by_cases c : w3 = 0
      · subst c; exact ⟨w1.toNat, by rw [atI_0, show ((w1.toNat : Nat) : Int) = w1 by omega], by omega⟩
      · have : w3 = 1 := by omega
        subst this; exact ⟨(1 + w2).toNat, by rw [atI_1, show (((1 + w2).toNat : Nat) : Int) = 1 + w2 by omega], by omega⟩
    obtain ⟨w4, b13, u1, u2, u3⟩ := pull_ok b12 6 (by decide) (by decide)
    walk_at "run"
    clear d1 d2 x3 y3 z3 hn1
    refine seqK (G := fun z => ∃ as', kRun z _ _ = .ok _ as') (fun ρ => ∃ (b : Bag) (q m : Nat) (s4 s5 s6 s7 s8 s9 s10 : Option O), ((q : Nat) : Int) ∈ primesL ∧ m ≤ 100 ∧ ρ = [some (.fz scr), some b.o, some (.fz (.int q)), some (.fz (.int m)), s4, s5, s6, s7, s8, s9, s10]) ?_ ?_
    · by_cases c : w4 = 0
      · subst c
        obtain ⟨d, b14, d1, d2⟩ := pick_ok b13 (o := .lst [.fz (.tuple [.int 2, .int 12]), .fz (.tuple [.int 2, .int 12]), .fz (.tuple [.int 3, .int 7]), .fz (.tuple [.int 3, .int 8]), .fz (.tuple [.int 5, .int 6]), .fz (.tuple [.int 7, .int 4])]) (ds := ([(2, 12), (2, 12), (3, 7), (3, 8), (5, 6), (7, 4)] : List (Nat × Nat)).map fun z => .tuple [.int z.1, .int z.2]) rfl (by simp) (by simp) (Or.inl rfl)
        obtain ⟨⟨z1, z2⟩, hz, rfl⟩ := List.mem_map.mp d1
        clear d1
        walk_at "run"
        refine nx_mk ⟨b14, z1, z2, _, _, _, _, _, _, _, ?_, ?_, rfl⟩
        · simp only [List.mem_cons, List.not_mem_nil, or_false, Prod.mk.injEq] at hz
          simp only [primesL, List.mem_cons, List.not_mem_nil, or_false]
          omega
        · simp only [List.mem_cons, List.not_mem_nil, or_false, Prod.mk.injEq] at hz
          omega
      · obtain ⟨qq, rfl⟩ : ∃ qq : Nat, pp = qq := ⟨pp.toNat, by simp only [List.mem_cons, List.not_mem_nil, or_false] at e1; omega⟩
        walk_at "run"
        refine nx_mk ⟨b13, qq, n, _, _, _, _, _, _, _, ?_, by omega, rfl⟩
        simp only [List.mem_cons, List.not_mem_nil, or_false] at e1
        simp only [primesL, List.mem_cons, List.not_mem_nil, or_false]
        omega
    · rintro _ ⟨b14, q, m, s4, s5, s6, s7, s8, s9, s10, hq, hm, rfl⟩
      have hqb := primes_le hq
      obtain ⟨o1, a1, a2⟩ := all_told_ok (size := m) hq
      obtain ⟨o2, a3, a4⟩ := all_due_ok (q := q) (size := m) (by omega) (by omega) hm
      have hsm := due_same (q := q) (size := m) (by omega) a2 a4
      have hta := told_anew_ok hq
      obtain ⟨t, b15, t1, t2⟩ := strange_ok b14
      have hbp := (told_x (each_seed_prime (d := .int 99) t2)).2.1 rfl
      have hse : F__law_same 4 [.fz (.str "BadPrime"), .fz (.str "BadPrime")] = .ok (.fz (.bool true)) [.fz (.str "BadPrime"), .fz (.str "BadPrime")] := same_ok 3 (.str "BadPrime") _ _ (by decide) (sh_str (by decide +kernel)) (.str _) (.fz _) (.fz _)
      clear a2 a4 t2
      walk_at "run"
      exact ⟨_, rfl⟩

end Lw
end
theorem PySem.Challenge.cw_lotspring_k09_solved_and_gone_through_holds : PySem.Challenge.rw_lotspring_k09_solved_and_gone_through.Holds := by
  first | exact Lw.law_holds fun ns _ _ => Lw.law_ok ns | exact Lw.law_holds fun ns hl hb => Lw.law_ok ns hl hb
