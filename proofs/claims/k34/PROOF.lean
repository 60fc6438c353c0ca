import PyProof.Rows.All
import Wide.All
import OpenK.AllK
import Wide.FinOn
import HandS.ForMost
import HandS.IsInst
import HandS.Deep
import HandS.Flow
import HandS.SortInts
import HandS.TupSets
import HandS.TupLe
import HandS.TupAny
import HandS.TupMul
import HandS.Zip
import HandS.Walk
import HandS.Wide
import HandS.Conv
import HandS.Style
import HandS.Evl
import KE.GoesEnum
import KE.GoesMore
import KE.KDictKeyed
import KE.KDictLaw
import KE.KDictDisplayH
import KE.KDictWalk
import KE.KDictCopyH
import KE.KDictSum
import PySem.Challenge.RW_clockadds_k34_whole_dials_by_powers
set_option Elab.async false
set_option linter.all false
set_option maxRecDepth 100000
/-! A thin layer over HandS: values as data, what is frozen (F) within the heap (H). -/
namespace Ck
open PySem PySem.Spec PyProof.Rows L2

abbrev PD := PyData
abbrev nat (n : Nat) : PD := .int (n : Int)

theorem seqT {K : PySem.W.Frag} {H H' : Hp} {a : Addr} {xs : List V} (e : Same H H') (h : SqT K H a xs) : SqT K H' a xs := by
  rcases h with (h | ⟨o, h⟩) | h
  · exact .inl (.inl (e _ _ h))
  · exact .inl (.inr ⟨o, e _ _ h⟩)
  · exact .inr h

mutual
theorem dp_mono {K : PySem.W.Frag} {H H' : Hp} (e : Same H H') : ∀ {v : V} {d : PD}, Dp K H v d → Dp K H' v d
  | _, _, .non => .non
  | _, _, .bl b => .bl b
  | _, _, .int i => .int i
  | _, _, .str x => .str x
  | _, _, .lst h hs => .lst (e.seq h) (dpA_mono e hs)
  | _, _, .tup h hs => .tup (seqT e h) (dpA_mono e hs)
theorem dpA_mono {K : PySem.W.Frag} {H H' : Hp} (e : Same H H') : ∀ {vs : List V} {ds : List PD}, DpAll K H vs ds → DpAll K H' vs ds
  | _, _, .nil => .nil
  | _, _, .cons h hs => .cons (dp_mono e h) (dpA_mono e hs)
end

section
variable {K : PySem.W.Frag} {H : Hp} {x : V} {vs : List V} {ds : List PD}
theorem dp_int {i : Int} (h : Dp K H x (.int i)) : x = .int i := by cases h; rfl
theorem dp_bl {b : Bool} (h : Dp K H x (.bool b)) : x = .bl b := by cases h; rfl
theorem dp_non (h : Dp K H x .none) : x = .non := by cases h; rfl
theorem dp_lst (h : Dp K H x (.list ds)) : ∃ a xs, x = .ref a ∧ SqL K H a xs ∧ DpAll K H xs ds := by
  cases h with
  | lst h hs => exact ⟨_, _, rfl, h, hs⟩
theorem dp_tup (h : Dp K H x (.tuple ds)) : ∃ a xs, x = .ref a ∧ SqT K H a xs ∧ DpAll K H xs ds := by
  cases h with
  | tup h hs => exact ⟨_, _, rfl, h, hs⟩
theorem dpA_len (h : DpAll K H vs ds) : vs.length = ds.length := by
  induction ds generalizing vs with
  | nil => cases h; rfl
  | cons d ds ih => cases h with | cons h hs => simp [ih hs]
theorem dpA_get (h : DpAll K H vs ds) {i : Nat} {d : PD} (hd : ds[i]? = some d) : ∃ v, vs[i]? = some v ∧ Dp K H v d := by
  induction ds generalizing vs i with
  | nil => simp at hd
  | cons e ds ih =>
    cases h with
    | cons h hs =>
      cases i with
      | zero => simp at hd; subst hd; exact ⟨_, rfl, h⟩
      | succ j =>
        simp at hd
        obtain ⟨v, hv, hd⟩ := ih hs hd
        exact ⟨v, by simpa using hv, hd⟩
theorem dpA_getV (h : DpAll K H vs ds) {i : Nat} {v : V} (hv : vs[i]? = some v) : ∃ d, ds[i]? = some d ∧ Dp K H v d := by
  have hl := dpA_len h
  have hi : i < vs.length := (List.getElem?_eq_some_iff.mp hv).1
  obtain ⟨w, hw, hd⟩ := dpA_get h (i := i) (d := ds[i]'(by omega)) (by simp [show i < ds.length by omega])
  rw [hv] at hw
  cases hw
  exact ⟨_, by simp [show i < ds.length by omega], hd⟩
theorem dpA_of (hl : vs.length = ds.length) (h : ∀ (i : Nat) v d, vs[i]? = some v → ds[i]? = some d → Dp K H v d) : DpAll K H vs ds := by
  induction ds generalizing vs with
  | nil => cases vs with | nil => exact .nil | cons => simp at hl
  | cons d ds ih =>
    cases vs with
    | nil => simp at hl
    | cons v vs => exact .cons (h 0 v d rfl rfl) (ih (by simpa using hl) fun i w e hw he => h (i + 1) w e (by simpa using hw) (by simpa using he))
theorem dpA_app {ws : List V} {es : List PD} (h : DpAll K H vs ds) (h' : DpAll K H ws es) : DpAll K H (vs ++ ws) (ds ++ es) := by
  induction ds generalizing vs with
  | nil => cases h; exact h'
  | cons d ds ih => cases h with | cons h hs => exact .cons h (ih hs)
theorem dpA_snoc {v : V} {d : PD} (h : DpAll K H vs ds) (h' : Dp K H v d) : DpAll K H (vs ++ [v]) (ds ++ [d]) := dpA_app h (.cons h' .nil)
theorem dpA_set {v : V} {d : PD} (h : DpAll K H vs ds) (h' : Dp K H v d) : ∀ i : Nat, DpAll K H (vs.set i v) (ds.set i d) := by
  induction ds generalizing vs with
  | nil => intro i; cases h; exact .nil
  | cons e ds ih =>
    intro i
    cases h with
    | cons h hs =>
      cases i with
      | zero => exact .cons h' hs
      | succ j => exact .cons h (ih hs j)
theorem dpA_take (h : DpAll K H vs ds) : ∀ i : Nat, DpAll K H (vs.take i) (ds.take i) := by
  induction ds generalizing vs with
  | nil => intro i; cases h; simp; exact .nil
  | cons e ds ih =>
    intro i
    cases h with
    | cons h hs =>
      cases i with
      | zero => exact .nil
      | succ j => exact .cons h (ih hs j)
theorem dpA_drop (h : DpAll K H vs ds) : ∀ i : Nat, DpAll K H (vs.drop i) (ds.drop i) := by
  induction ds generalizing vs with
  | nil => intro i; cases h; simp; exact .nil
  | cons e ds ih =>
    intro i
    cases h with
    | cons h hs =>
      cases i with
      | zero => exact .cons h hs
      | succ j => exact ih hs j
theorem dpA_ints {ns : List Int} : DpAll K H vs (ns.map .int) ↔ vs = ns.map V.int := by
  induction ns generalizing vs with
  | nil => constructor
           · intro h; cases h; rfl
           · rintro rfl; exact .nil
  | cons n ns ih =>
    constructor
    · intro h
      cases h with
      | cons h hs => rw [dp_int h, ih.mp hs]; rfl
    · rintro rfl
      exact .cons (.int n) (ih.mpr rfl)
end

/-! ### growth -/
structure Grow (F H F' H' : Hp) : Prop where
  f : Same F F'
  h : Same H H'
  s : Same F' H'
  n : ∀ a, F a = none → H a ≠ none → F' a = none
section
variable {F H F1 H1 F2 H2 : Hp} {p : Addr} {o : HO}
theorem some_of {H : Hp} {a : Addr} (h : H a ≠ none) : ∃ o, H a = some o := by
  cases e : H a with
  | none => exact absurd e h
  | some o => exact ⟨o, rfl⟩
theorem Grow.refl (s : Same F H) : Grow F H F H := ⟨Same.refl F, Same.refl H, s, fun _ h _ => h⟩
theorem Grow.trans (g : Grow F H F1 H1) (k : Grow F1 H1 F2 H2) : Grow F H F2 H2 :=
  ⟨g.f.trans k.f, g.h.trans k.h, k.s, fun a h1 h2 => k.n a (g.n a h1 h2) (by obtain ⟨o, e⟩ := some_of h2; rw [g.h a o e]; simp)⟩
theorem same_upd (hp : F p = none) : Same F (upd F p o) := fun b u e => by rw [upd_ne (ne_of_none e hp)]; exact e
theorem same_upds (s : Same F H) : Same (upd F p o) (upd H p o) := fun b u e => by
  by_cases h : b = p
  · subst h; rw [upd_same] at e; rw [upd_same]; exact e
  · rw [upd_ne h] at e; rw [upd_ne h]; exact s b u e
theorem Grow.new (s : Same F H) (hp : H p = none) : Grow F H (upd F p o) (upd H p o) :=
  ⟨same_upd (s.free hp), same_upd hp, same_upds s, fun a h1 h2 => by
    rw [upd_ne]
    · exact h1
    · rintro rfl; exact h2 hp⟩
theorem Grow.heap (s : Same F H) (k : Same H H1) : Grow F H F H1 := ⟨Same.refl F, k, s.trans k, fun _ h _ => h⟩
/-- a thing of H1 that is new to H becomes part of what is frozen -/
theorem Grow.freeze (g : Grow F H F1 H1) (h0 : H p = none) (h : H1 p = some o) (hF : F1 p = none) : Grow F H (upd F1 p o) H1 :=
  ⟨g.f.trans (same_upd hF), g.h, fun b u e => by
    by_cases q : b = p
    · subst q; rw [upd_same] at e; rw [h]; exact e
    · rw [upd_ne q] at e; exact g.s b u e, fun a h1 h2 => by
    rw [upd_ne]
    · exact g.n a h1 h2
    · rintro rfl; exact h2 h0⟩
theorem Grow.fresh (g : Grow F H F1 H1) (h : H1 p = none) : H p = none := g.h.free h
end

/-! ### what the slots show -/
structure EnvD (K : PySem.W.Frag) (F : Hp) (σ : L2.St) (Γ : List (Option PD)) : Prop where
  len : σ.length = Γ.length
  at_ : ∀ (i : Nat) d, Γ[i]? = some (some d) → ∃ v, σ[i]? = some (some v) ∧ Dp K F v d
def wipeG (Γ : List (Option PD)) : List Nat → List (Option PD)
  | [] => Γ
  | v :: vs => (wipeG Γ vs).set v none
section
variable {K : PySem.W.Frag} {F F' : Hp} {σ : L2.St} {Γ : List (Option PD)}
theorem EnvD.mono (e : Same F F') (h : EnvD K F σ Γ) : EnvD K F' σ Γ := ⟨h.len, fun i d q => let ⟨v, a, b⟩ := h.at_ i d q; ⟨v, a, dp_mono e b⟩⟩
theorem EnvD.set {v : V} {d : PD} (h : EnvD K F σ Γ) (hd : Dp K F v d) (i : Nat) : EnvD K F (σ.set i (some v)) (Γ.set i (some d)) := by
  refine ⟨by simp [h.len], fun j e q => ?_⟩
  by_cases hj : i = j
  · subst hj
    have hi : i < Γ.length := by
      have := (List.getElem?_eq_some_iff.mp q).1
      simpa using this
    rw [List.getElem?_set_self hi] at q
    cases q
    exact ⟨v, by rw [List.getElem?_set_self (by rw [h.len]; exact hi)], hd⟩
  · rw [List.getElem?_set_ne hj] at q
    obtain ⟨w, a, b⟩ := h.at_ j e q
    exact ⟨w, by rw [List.getElem?_set_ne hj]; exact a, b⟩
theorem EnvD.clear (h : EnvD K F σ Γ) (i : Nat) : EnvD K F (σ.set i none) (Γ.set i none) := by
  refine ⟨by simp [h.len], fun j e q => ?_⟩
  by_cases hj : i = j
  · subst hj
    have hi : i < Γ.length := by
      have := (List.getElem?_eq_some_iff.mp q).1
      simpa using this
    rw [List.getElem?_set_self hi] at q
    cases q
  · rw [List.getElem?_set_ne hj] at q
    obtain ⟨w, a, b⟩ := h.at_ j e q
    exact ⟨w, by rw [List.getElem?_set_ne hj]; exact a, b⟩
theorem EnvD.wipe (h : EnvD K F σ Γ) : ∀ vs : List Nat, EnvD K F (L2.wipe σ vs) (wipeG Γ vs)
  | [] => h
  | v :: vs => (EnvD.wipe h vs).clear v
end
theorem wipe_get (σ : L2.St) : ∀ (vs : List Nat) (j : Nat), (L2.wipe σ vs)[j]? = if j ∈ vs then (if j < σ.length then some none else none) else σ[j]?
  | [], j => by simp [L2.wipe]
  | v :: vs, j => by
    unfold L2.wipe
    by_cases h : v = j
    · subst h
      by_cases hl : v < σ.length
      · rw [List.getElem?_set_self (by rw [wipe_length]; exact hl)]; simp [hl]
      · rw [List.getElem?_eq_none (by rw [List.length_set, wipe_length]; omega)]; simp [hl]
    · rw [List.getElem?_set_ne h, wipe_get σ vs j]
      have : (j ∈ v :: vs) ↔ j ∈ vs := by simp [Ne.symm h]
      simp only [this]
theorem wipe_set {σ : L2.St} {i : Nat} {x : Option V} {vs : List Nat} (h : i ∈ vs) : L2.wipe (σ.set i x) vs = L2.wipe σ vs := by
  apply List.ext_getElem?
  intro j
  rw [wipe_get, wipe_get, List.length_set]
  by_cases hj : j ∈ vs
  · simp [hj]
  · have : i ≠ j := fun e => hj (e ▸ h)
    rw [if_neg hj, if_neg hj, List.getElem?_set_ne this]
theorem wipe_wipe {σ : L2.St} {vs : List Nat} : L2.wipe (L2.wipe σ vs) vs = L2.wipe σ vs := by
  apply List.ext_getElem?
  intro j
  rw [wipe_get, wipe_get, wipe_length]
  by_cases hj : j ∈ vs <;> simp [hj]

/-! ### pure expressions: readings -/
section
variable (K : PySem.W.Frag)
def Ev (t : TE) (Γ : List (Option PD)) (d : PD) : Prop := ∀ (F : Hp) (σ : L2.St) (H : Hp), Same F H → EnvD K F σ Γ → ∀ Q : VK, (∀ v F' H', Grow F H F' H' → Dp K F' v d → Q v H') → t σ H Q
def EvB (t : TT) (Γ : List (Option PD)) (b : Bool) : Prop := ∀ (F : Hp) (σ : L2.St) (H : Hp), Same F H → EnvD K F σ Γ → ∀ Q : Bool → Hp → Prop, (∀ F' H', Grow F H F' H' → Q b H') → t σ H Q
def EvA (t : TA) (Γ : List (Option PD)) (ds : List PD) : Prop := ∀ (F : Hp) (σ : L2.St) (H : Hp), Same F H → EnvD K F σ Γ → ∀ Q : List V → Hp → Prop, (∀ vs F' H', Grow F H F' H' → DpAll K F' vs ds → Q vs H') → t σ H Q
/-- a new list -/
def EvF (t : TE) (Γ : List (Option PD)) (ds : List PD) : Prop := ∀ (F : Hp) (σ : L2.St) (H : Hp), Same F H → EnvD K F σ Γ → ∀ Q : VK,
  (∀ p xs F' H', Grow F H F' H' → H p = none → F' p = none → H' p = some (.lst xs) → DpAll K F' xs ds → Q (.ref p) H') → t σ H Q
/-- a two-place operation by data -/
def RV (r : R2) (a b d : PD) : Prop := ∀ (F H : Hp) (x y : V), Same F H → Dp K F x a → Dp K F y b → ∀ Q : VK, (∀ v F' H', Grow F H F' H' → Dp K F' v d → Q v H') → r x y H Q
/-- a call by data -/
def RC (r : List V → Hp → VK → Prop) (ds : List PD) (d : PD) : Prop := ∀ (F H : Hp) (vs : List V), Same F H → DpAll K F vs ds → ∀ Q : VK, (∀ v F' H', Grow F H F' H' → Dp K F' v d → Q v H') → r vs H Q
/-- a call that gives a new list -/
def RCF (r : List V → Hp → VK → Prop) (ds es : List PD) : Prop := ∀ (F H : Hp) (vs : List V), Same F H → DpAll K F vs ds → ∀ Q : VK,
  (∀ p xs F' H', Grow F H F' H' → H p = none → F' p = none → H' p = some (.lst xs) → DpAll K F' xs es → Q (.ref p) H') → r vs H Q
end
section
variable {K : PySem.W.Frag} {Γ : List (Option PD)} {t ta tb tc : TE} {d a b c : PD} {ds es : List PD}
theorem EvF.ev (h : EvF K t Γ ds) : Ev K t Γ (.list ds) := fun F σ H s E Q q => h F σ H s E Q fun p xs F' H' g h0 hF hl hd =>
  q (.ref p) (upd F' p (.lst xs)) H' (g.freeze h0 hl hF) (.lst (SqL.of upd_same) (dpA_mono (same_upd hF) hd))
theorem RCF.rc {r : List V → Hp → VK → Prop} (h : RCF K r ds es) : RC K r ds (.list es) := fun F H vs s E Q q => h F H vs s E Q fun p xs F' H' g h0 hF hl hd =>
  q (.ref p) (upd F' p (.lst xs)) H' (g.freeze h0 hl hF) (.lst (SqL.of upd_same) (dpA_mono (same_upd hF) hd))
theorem ev_var {i : Nat} (h : Γ[i]? = some (some d)) : Ev K (tVar i) Γ d := fun F σ H s E Q q =>
  let ⟨v, hv, hd⟩ := E.at_ i d h
  ⟨v, hv, q v F H (Grow.refl s) hd⟩
theorem ev_c {v : V} (h : ∀ F, Dp K F v d) : Ev K (tC v) Γ d := fun F σ H s _ Q q => q v F H (Grow.refl s) (h F)
theorem ev_op {r : R2} (ha : Ev K ta Γ a) (hb : Ev K tb Γ b) (hr : RV K r a b d) : Ev K (tOp r ta tb) Γ d := fun F σ H s E Q q =>
  ha F σ H s E _ fun x F1 H1 g1 h1 => hb F1 σ H1 g1.s (E.mono g1.f) _ fun y F2 H2 g2 h2 => hr F2 H2 x y g2.s (dp_mono g2.f h1) h2 Q fun v F3 H3 g3 h3 => q v F3 H3 ((g1.trans g2).trans g3) h3
theorem ea_nil : EvA K tNil Γ [] := fun F σ H s _ Q q => q [] F H (Grow.refl s) .nil
theorem ea_cons {tr : TA} (ha : Ev K ta Γ a) (hr : EvA K tr Γ ds) : EvA K (tCons ta tr) Γ (a :: ds) := fun F σ H s E Q q =>
  ha F σ H s E _ fun x F1 H1 g1 h1 => hr F1 σ H1 g1.s (E.mono g1.f) _ fun xs F2 H2 g2 h2 => q (x :: xs) F2 H2 (g1.trans g2) (.cons (dp_mono g2.f h1) h2)
theorem ev_tup {tr : TA} (hr : EvA K tr Γ ds) (hl : ds.length ≤ 100000) : Ev K (tTup tr) Γ (.tuple ds) := fun F σ H s E Q q =>
  hr F σ H s E _ fun xs F1 H1 g1 h1 => ⟨Nat.le_trans (by rw [dpA_len h1]; exact hl) (by decide), fun p hp =>
    q (.ref p) (upd F1 p (.tup xs)) _ (g1.trans (Grow.new g1.s hp)) (.tup (SqT.of upd_same) (dpA_mono (same_upd (g1.s.free hp)) h1))⟩
theorem ef_lst {tr : TA} (hr : EvA K tr Γ ds) (hl : ds.length ≤ 100000) : EvF K (tLst tr) Γ ds := fun F σ H s E Q q =>
  hr F σ H s E _ fun xs F1 H1 g1 h1 => ⟨Nat.le_trans (by rw [dpA_len h1]; exact hl) (by decide), fun p hp =>
    q p xs F1 _ (g1.trans (Grow.heap g1.s (same_upd hp))) (g1.fresh hp) (g1.s.free hp) upd_same h1⟩
theorem ev_cb {r : List V → Hp → VK → Prop} {tr : TA} (hr : EvA K tr Γ ds) (hc : RC K r ds d) : Ev K (tCB r tr) Γ d := fun F σ H s E Q q =>
  hr F σ H s E _ fun xs F1 H1 g1 h1 => hc F1 H1 xs g1.s h1 Q fun v F2 H2 g2 h2 => q v F2 H2 (g1.trans g2) h2
theorem ef_cb {r : List V → Hp → VK → Prop} {tr : TA} (hr : EvA K tr Γ ds) (hc : RCF K r ds es) : EvF K (tCB r tr) Γ es := fun F σ H s E Q q =>
  hr F σ H s E _ fun xs F1 H1 g1 h1 => hc F1 H1 xs g1.s h1 Q fun p xs F2 H2 g2 h0 hF hl hd => q p xs F2 H2 (g1.trans g2) (g1.fresh h0) hF hl hd
theorem eb_test {b : Bool} (h : Ev K t Γ (.bool b)) : EvB K (tTest t) Γ b := fun F σ H s E Q q => h F σ H s E _ fun v F1 H1 g hd => ⟨b, dp_bl hd, q F1 H1 g⟩
theorem eb_B {b : Bool} (h : Ev K t Γ (.bool b)) : EvB K (tB t) Γ b := fun F σ H s E Q q => h F σ H s E _ fun v F1 H1 g hd => ⟨b, dp_bl hd, q F1 H1 g⟩
theorem ev_if {c : TT} {x : Bool} (hc : EvB K c Γ x) (h1 : x = true → Ev K ta Γ d) (h2 : x = false → Ev K tb Γ d) : Ev K (tIf c ta tb) Γ d := fun F σ H s E Q q => hc F σ H s E _ fun F1 H1 g1 => by
  cases x with
  | true => rw [if_pos rfl]; exact h1 rfl F1 σ H1 g1.s (E.mono g1.f) Q fun v F2 H2 g2 h => q v F2 H2 (g1.trans g2) h
  | false => rw [if_neg Bool.false_ne_true]; exact h2 rfl F1 σ H1 g1.s (E.mono g1.f) Q fun v F2 H2 g2 h => q v F2 H2 (g1.trans g2) h
theorem eb_and {t u : TT} {x y : Bool} (h1 : EvB K t Γ x) (h2 : x = true → EvB K u Γ y) : EvB K (tAnd t u) Γ (x && y) := fun F σ H s E Q q => h1 F σ H s E _ fun F1 H1 g1 => by
  cases x with
  | true => rw [if_pos rfl]; exact h2 rfl F1 σ H1 g1.s (E.mono g1.f) Q fun F2 H2 g2 => q F2 H2 (g1.trans g2)
  | false => rw [if_neg Bool.false_ne_true]; exact q F1 H1 g1
theorem eb_or {t u : TT} {x y : Bool} (h1 : EvB K t Γ x) (h2 : x = false → EvB K u Γ y) : EvB K (tOr t u) Γ (x || y) := fun F σ H s E Q q => h1 F σ H s E _ fun F1 H1 g1 => by
  cases x with
  | true => rw [if_pos rfl]; exact q F1 H1 g1
  | false => rw [if_neg Bool.false_ne_true]; exact h2 rfl F1 σ H1 g1.s (E.mono g1.f) Q fun F2 H2 g2 => q F2 H2 (g1.trans g2)
theorem eb_not {t : TT} {x : Bool} (h1 : EvB K t Γ x) : EvB K (tNot t) Γ (!x) := fun F σ H s E Q q => h1 F σ H s E _ fun F1 H1 g1 => q F1 H1 g1
theorem ev_andV {x y : Bool} (h1 : Ev K ta Γ (.bool x)) (h2 : x = true → Ev K tb Γ (.bool y)) : Ev K (tAndV ta tb) Γ (.bool (x && y)) := fun F σ H s E Q q => h1 F σ H s E _ fun v F1 H1 g1 hd => ⟨x, dp_bl hd, by
  cases x with
  | true => rw [if_pos rfl]; exact h2 rfl F1 σ H1 g1.s (E.mono g1.f) Q fun v F2 H2 g2 hd => q v F2 H2 (g1.trans g2) hd
  | false => rw [if_neg Bool.false_ne_true]; exact q _ F1 H1 g1 (.bl false)⟩
theorem ev_notV {x : Bool} (h1 : Ev K ta Γ (.bool x)) : Ev K (tNotV ta) Γ (.bool (!x)) := fun F σ H s E Q q => h1 F σ H s E _ fun v F1 H1 g1 hd => ⟨x, dp_bl hd, q _ F1 H1 g1 (.bl _)⟩
theorem ev_chain {r r' : R2} {x y : Bool} (ha : Ev K ta Γ a) (hb : Ev K tb Γ b) (hc : Ev K tc Γ c) (h1 : RV K r a b (.bool x)) (h2 : RV K r' b c (.bool y)) : Ev K (tChain r r' ta tb tc) Γ (.bool (x && y)) := fun F σ H s E Q q =>
  ha F σ H s E _ fun v1 F1 H1 g1 d1 => hb F1 σ H1 g1.s (E.mono g1.f) _ fun v2 F2 H2 g2 d2 => h1 F2 H2 v1 v2 g2.s (dp_mono g2.f d1) d2 _ fun z F3 H3 g3 d3 => ⟨x, dp_bl d3, by
    cases x with
    | true =>
      rw [if_pos rfl]
      exact hc F3 σ H3 g3.s (E.mono ((g1.f.trans g2.f).trans g3.f)) _ fun v4 F4 H4 g4 d4 => h2 F4 H4 v2 v4 g4.s (dp_mono (g3.f.trans g4.f) d2) d4 Q fun v F5 H5 g5 d5 => q v F5 H5 ((((g1.trans g2).trans g3).trans g4).trans g5) d5
    | false => rw [if_neg Bool.false_ne_true]; exact q _ F3 H3 ((g1.trans g2).trans g3) (.bl false)⟩
end

/-! ### pure expressions: the syntax -/
section
variable (X : Cx)
def semE (e : Expr) : TE := fun σ H Q => ∀ (pins : List (Addr × Obj)) (s : Shared), Inv X pins σ H s → wpAny (model X.prog X.w) X.A (eval e X.env) (EP X pins σ Q) X.xe s
def semT (e : Expr) : TT := fun σ H Q => ∀ (pins : List (Addr × Obj)) (s : Shared), Inv X pins σ H s → wpAny (model X.prog X.w) X.A (isTrue e X.env (eval e X.env)) (TP X pins σ Q) X.xe s
def semW (e : Expr) : TT := fun σ H Q => ∀ (whole : Sem Value) (pins : List (Addr × Obj)) (s : Shared), Inv X pins σ H s → wpAny (model X.prog X.w) X.A (isTrue e X.env whole) (TP X pins σ Q) X.xe s
def semA (es : List Expr) : TA := fun σ H Q => ∀ (pos : Pos) (pins : List (Addr × Obj)) (s : Shared), Inv X pins σ H s → wpAny (model X.prog X.w) X.A (spliced (backTo pos (starEach es X.env))) (AP X pins σ Q) X.xe s
theorem pe_sem {e : Expr} : PE X e (semE X e) := ⟨fun pins s σ H Q I h => h pins s I⟩
theorem pt_sem {e : Expr} : PT X e (semT X e) := ⟨fun pins s σ H Q I h => h pins s I⟩
theorem pw_sem {e : Expr} : PW X e (semW X e) := ⟨fun wh pins s σ H Q I h => h wh pins s I⟩
theorem pa_sem {es : List Expr} : PA X es (semA X es) := ⟨fun pos pins s σ H Q I h => h pos pins s I⟩
def E (e : Expr) (Γ : List (Option PD)) (d : PD) : Prop := Ev X.K (semE X e) Γ d
def EF (e : Expr) (Γ : List (Option PD)) (ds : List PD) : Prop := EvF X.K (semE X e) Γ ds
def T (e : Expr) (Γ : List (Option PD)) (b : Bool) : Prop := EvB X.K (semT X e) Γ b
def W (e : Expr) (Γ : List (Option PD)) (b : Bool) : Prop := EvB X.K (semW X e) Γ b
def A (es : List Expr) (Γ : List (Option PD)) (ds : List PD) : Prop := EvA X.K (semA X es) Γ ds
end
section
variable {X : Cx} {e e1 e2 e3 : Expr} {es : List Expr} {Γ : List (Option PD)} {d a b c : PD} {ds : List PD} {x y : Bool} {pos p : Pos}
theorem E.mk {t : TE} (h : PE X e t) (k : Ev X.K t Γ d) : E X e Γ d := fun F σ H s Ee Q q pins st I => h.run pins st σ H Q I (k F σ H s Ee Q q)
theorem EF.mk {t : TE} (h : PE X e t) (k : EvF X.K t Γ ds) : EF X e Γ ds := fun F σ H s Ee Q q pins st I => h.run pins st σ H Q I (k F σ H s Ee Q q)
theorem T.mk {t : TT} (h : PT X e t) (k : EvB X.K t Γ x) : T X e Γ x := fun F σ H s Ee Q q pins st I => h.run pins st σ H Q I (k F σ H s Ee Q q)
theorem W.mk {t : TT} (h : PW X e t) (k : EvB X.K t Γ x) : W X e Γ x := fun F σ H s Ee Q q wh pins st I => h.run wh pins st σ H Q I (k F σ H s Ee Q q)
theorem A.mk {t : TA} (h : PA X es t) (k : EvA X.K t Γ ds) : A X es Γ ds := fun F σ H s Ee Q q pos pins st I => h.run pos pins st σ H Q I (k F σ H s Ee Q q)
theorem EF.ev (h : EF X e Γ ds) : E X e Γ (.list ds) := EvF.ev h
theorem E.is (h : E X e Γ a) (q : a = b) : E X e Γ b := q ▸ h
theorem EF.is {ds'} (h : EF X e Γ ds) (q : ds = ds') : EF X e Γ ds' := q ▸ h
theorem T.is (h : T X e Γ x) (q : x = y) : T X e Γ y := q ▸ h
theorem W.t (h : W X e Γ x) : T X e Γ x := T.mk (pw_sem X).pt h
theorem E.v (i : Nat) {z : Str} (h : Γ[i]? = some (some d) := by rfl) (hN : X.N[i]? = some z := by rfl) (hv : Vis X.env.scope z := by first | exact Or.inl rfl | exact Or.inr (Or.inl rfl) | exact Or.inr (Or.inr rfl)) (hd : (z == ("__debug__" : Str)) = false := by decide)
    (hcd : (z == ("__classdict__" : Str)) = false := by decide) : E X (.Name z pos) Γ d := E.mk (pv i hN hv hd hcd) (ev_var h)
theorem E.nat (n : Nat) {i : Int} {j} (h : i = (n : Int) := by rfl) : E X (.Constant (.int i) j pos) Γ (nat n) := by
  subst h; exact E.mk pe_int (ev_c fun F => .int _)
theorem E.int {i : Int} {j} : E X (.Constant (.int i) j pos) Γ (.int i) := E.mk pe_int (ev_c fun F => .int _)
theorem E.bl {i : Bool} {j} : E X (.Constant (.bool i) j pos) Γ (.bool i) := E.mk pe_bl (ev_c fun F => .bl _)
theorem E.non {j} : E X (.Constant .none j pos) Γ .none := E.mk pe_non (ev_c fun F => .non)
theorem E.glob {z : Str} {v : V} {u : Value} (hm : X.mg z = some u) (r : RelV v u) (h : ∀ F, Dp X.K F v d) (hg : Gl X z := by rfl) (hd : (z == ("__debug__" : Str)) = false := by decide) : E X (.Name z pos) Γ d := E.mk (pe_glob hg hm r hd) (ev_c h)
theorem E.bin {op : Operator} {r : R2} (ho : OpR X (binaryOp op) r) (hr : RV X.K r a b d) (ha : E X e1 Γ a) (hb : E X e2 Γ b) : E X (.BinOp e1 op e2 pos) Γ d := E.mk (pe_op ho (pe_sem X) (pe_sem X)) (ev_op ha hb hr)
theorem E.cmp {op : CmpOp} {r : R2} (ho : OpR X (compareOp op) r) (hr : RV X.K r a b d) (ha : E X e1 Γ a) (hb : E X e2 Γ b) (hm : behindInMarks op e2 = false := by first | exact nomark _ | rfl) : E X (.Compare e1 [op] [e2] pos) Γ d := E.mk (pe_cmpR ho (pe_sem X) (pe_sem X) hm) (ev_op ha hb hr)
theorem T.cmp {op : CmpOp} {r : R2} (ho : OpR X (compareOp op) r) (hr : RV X.K r a b (.bool x)) (ha : E X e1 Γ a) (hb : E X e2 Γ b) (hm : behindInMarks op e2 = false := by first | exact nomark _ | rfl) : T X (.Compare e1 [op] [e2] pos) Γ x := T.mk (pt_cmpR ho (pe_sem X) (pe_sem X) hm) (eb_test (ev_op ha hb hr))
theorem E.chain {op op' : CmpOp} {r r' : R2} (ho : OpR X (compareOp op) r) (ho' : OpR X (compareOp op') r') (h1 : RV X.K r a b (.bool x)) (h2 : RV X.K r' b c (.bool y)) (ha : E X e1 Γ a) (hb : E X e2 Γ b) (hc : E X e3 Γ c)
    (hm : lastMarks [op, op'] [e2, e3] = false := by with_unfolding_all rfl) : E X (.Compare e1 [op, op'] [e2, e3] pos) Γ (.bool (x && y)) := E.mk (pe_chain ho ho' (pe_sem X) (pe_sem X) (pe_sem X) hm) (ev_chain ha hb hc h1 h2)
theorem T.chain {op op' : CmpOp} {r r' : R2} (ho : OpR X (compareOp op) r) (ho' : OpR X (compareOp op') r') (h1 : RV X.K r a b (.bool x)) (h2 : RV X.K r' b c (.bool y)) (ha : E X e1 Γ a) (hb : E X e2 Γ b) (hc : E X e3 Γ c)
    (hm : lastMarks [op, op'] [e2, e3] = false := by with_unfolding_all rfl) : T X (.Compare e1 [op, op'] [e2, e3] pos) Γ (x && y) := T.mk (pt_chain ho ho' (pe_sem X) (pe_sem X) (pe_sem X) hm) (eb_test (ev_chain ha hb hc h1 h2))
theorem T.val (h : E X e Γ (.bool x)) (he : ∀ whole, isTrue e X.env whole = (do let v ← whole; standAt e.pos; holding [v] (truthy v)) := by intro _; rfl) : T X e Γ x := T.mk (pt_val (pe_sem X) he) (eb_B h)
theorem T.not (h : T X e Γ x) : T X (.UnaryOp .Not e pos) Γ (!x) := T.mk (pt_not (pt_sem X)) (eb_not h)
theorem E.not (h : E X e Γ (.bool x)) : E X (.UnaryOp .Not e pos) Γ (.bool (!x)) := E.mk (pe_not (pe_sem X)) (ev_notV h)
theorem W.and1 (h : T X e Γ x) : W X (.BoolOp .And [e] pos) Γ x := W.mk (pw_and1 (pt_sem X)) h
theorem W.or1 (h : T X e Γ x) : W X (.BoolOp .Or [e] pos) Γ x := W.mk (pw_or1 (pt_sem X)) h
theorem W.and (h : T X e Γ x) (k : x = true → W X (.BoolOp .And (e2 :: es) pos) Γ y) : W X (.BoolOp .And (e :: e2 :: es) pos) Γ (x && y) := W.mk (pw_and (pt_sem X) (pw_sem X)) (eb_and h k)
theorem W.or (h : T X e Γ x) (k : x = false → W X (.BoolOp .Or (e2 :: es) pos) Γ y) : W X (.BoolOp .Or (e :: e2 :: es) pos) Γ (x || y) := W.mk (pw_or (pt_sem X) (pw_sem X)) (eb_or h k)
theorem E.one {op} (h : E X e Γ d) : E X (.BoolOp op [e] pos) Γ d := E.mk (pe_one (pe_sem X)) h
theorem E.and (h : E X e Γ (.bool x)) (k : x = true → E X (.BoolOp .And (e2 :: es) pos) Γ (.bool y)) : E X (.BoolOp .And (e :: e2 :: es) pos) Γ (.bool (x && y)) := E.mk (pe_and (pe_sem X) (pe_sem X)) (ev_andV h k)
theorem E.ite (hc : T X e Γ x) (h1 : x = true → E X e1 Γ d) (h2 : x = false → E X e2 Γ d) : E X (.IfExp e e1 e2 pos) Γ d := E.mk (pe_ifExp (pt_sem X) (pe_sem X) (pe_sem X)) (ev_if hc h1 h2)
theorem A.nil : A X [] Γ [] := A.mk pa_nil ea_nil
theorem A.cons (h : E X e Γ d) (k : A X es Γ ds) (hs : starEach (e :: es) X.env = (false, eval e X.env) :: starEach es X.env := by rfl) : A X (e :: es) Γ (d :: ds) := A.mk (pa_cons (pe_sem X) (pa_sem X) hs) (ea_cons h k)
theorem E.tup {x1} (h : A X es Γ ds) (hl : ds.length ≤ 100000 := by first | decide | simp) : E X (.Tuple es x1 pos) Γ (.tuple ds) := E.mk (pe_tup (pa_sem X)) (ev_tup h hl)
theorem EF.lst (h : A X es Γ ds) (hl : ds.length ≤ 100000 := by first | decide | simp) : EF X (.List es pos) Γ ds := EF.mk (pe_lst (pa_sem X)) (ef_lst h hl)
theorem E.cb {id : String} {z : Str} {r} (hc : CallR X (.builtin id) r) (hr : RC X.K r ds d) (hm : X.mg z = none) (hv : bootBuiltins z = some (.builtin id)) (ha : A X (e :: es) Γ ds) (hg : Gl X z := by rfl) (hn : z ≠ "__name__" := by decide) (hdb : (z == ("__debug__" : Str)) = false := by decide)
    (he : starEach (e :: es) X.env = (false, eval e X.env) :: starEach es X.env := by rfl) (hpl : (backTo pos (starEach es X.env)).any (·.1) = false := by rfl) : E X (.Call (.Name z p) (e :: es) [] pos) Γ d := E.mk (pe_callB hc hg hm hv (pa_sem X) hn hdb he hpl) (ev_cb ha hr)
theorem EF.cb {id : String} {z : Str} {r} {ws : List PD} (hc : CallR X (.builtin id) r) (hr : RCF X.K r ds ws) (hm : X.mg z = none) (hv : bootBuiltins z = some (.builtin id)) (ha : A X (e :: es) Γ ds) (hg : Gl X z := by rfl) (hn : z ≠ "__name__" := by decide) (hdb : (z == ("__debug__" : Str)) = false := by decide)
    (he : starEach (e :: es) X.env = (false, eval e X.env) :: starEach es X.env := by rfl) (hpl : (backTo pos (starEach es X.env)).any (·.1) = false := by rfl) : EF X (.Call (.Name z p) (e :: es) [] pos) Γ ws := EF.mk (pe_callB hc hg hm hv (pa_sem X) hn hdb he hpl) (ef_cb ha hr)
theorem E.ct {id : String} {z : Str} {r} (hc : CallR X (.type id) r) (hr : RC X.K r ds d) (hm : X.mg z = none) (hv : bootBuiltins z = some (.type id)) (ha : A X (e :: es) Γ ds) (hg : Gl X z := by rfl) (hn : z ≠ "__name__" := by decide) (hdb : (z == ("__debug__" : Str)) = false := by decide)
    (he : starEach (e :: es) X.env = (false, eval e X.env) :: starEach es X.env := by rfl) (hpl : (backTo pos (starEach es X.env)).any (·.1) = false := by rfl) : E X (.Call (.Name z p) (e :: es) [] pos) Γ d := E.mk (pe_callTy hc hg hm hv (pa_sem X) hn hdb he hpl) (ev_cb ha hr)
theorem EF.ct {id : String} {z : Str} {r} {ws : List PD} (hc : CallR X (.type id) r) (hr : RCF X.K r ds ws) (hm : X.mg z = none) (hv : bootBuiltins z = some (.type id)) (ha : A X (e :: es) Γ ds) (hg : Gl X z := by rfl) (hn : z ≠ "__name__" := by decide) (hdb : (z == ("__debug__" : Str)) = false := by decide)
    (he : starEach (e :: es) X.env = (false, eval e X.env) :: starEach es X.env := by rfl) (hpl : (backTo pos (starEach es X.env)).any (·.1) = false := by rfl) : EF X (.Call (.Name z p) (e :: es) [] pos) Γ ws := EF.mk (pe_callTy hc hg hm hv (pa_sem X) hn hdb he hpl) (ef_cb ha hr)
end

/-! ### ints -/
theorem dIeq (m n : Nat) : decide ((m : Int) = (n : Int)) = decide (m = n) := by
  by_cases h : m = n
  · subst h; simp
  · rw [decide_eq_false h, decide_eq_false (by omega)]
section
variable {K : PySem.W.Frag}
theorem rv_I0 {g : Int → Int → V} {i j : Int} {d : PD} (h : ∀ F, Dp K F (g i j) d) : RV K (rI0 g) (.int i) (.int j) d := fun F H x y s hx hy Q q => ⟨i, j, dp_int hx, dp_int hy, q _ F H (Grow.refl s) (h F)⟩
theorem rv_I {C : Int → Int → Prop} {g : Int → Int → V} {i j : Int} {d : PD} (hc : C i j) (h : ∀ F, Dp K F (g i j) d) : RV K (rI C g) (.int i) (.int j) d := fun F H x y s hx hy Q q => ⟨i, j, dp_int hx, dp_int hy, hc, q _ F H (Grow.refl s) (h F)⟩
theorem rv_eqI {i j : Int} : RV K rEq (.int i) (.int j) (.bool (decide (i = j))) := fun F H x y s hx hy Q q => by
  rw [dp_int hx, dp_int hy]
  refine ⟨rfl, q _ F H (Grow.refl s) ?_⟩
  rw [show decide (V.int i = V.int j) = decide (i = j) from by simp]
  exact .bl _
theorem rv_neI {i j : Int} : RV K rNe (.int i) (.int j) (.bool (!decide (i = j))) := fun F H x y s hx hy Q q => by
  rw [dp_int hx, dp_int hy]
  refine ⟨rfl, q _ F H (Grow.refl s) ?_⟩
  rw [show decide (V.int i = V.int j) = decide (i = j) from by simp]
  exact .bl _
end
section
variable {X : Cx} {e e1 e2 e3 : Expr} {es : List Expr} {Γ : List (Option PD)} {i j : Int} {m n : Nat} {pos p : Pos}
theorem E.add (ha : E X e1 Γ (.int i)) (hb : E X e2 Γ (.int j)) : E X (.BinOp e1 .Add e2 pos) Γ (.int (i + j)) := E.bin op_add (rv_I0 fun _ => .int _) ha hb
theorem E.sub (ha : E X e1 Γ (.int i)) (hb : E X e2 Γ (.int j)) : E X (.BinOp e1 .Sub e2 pos) Γ (.int (i - j)) := E.bin op_sub (rv_I0 fun _ => .int _) ha hb
theorem E.mul (ha : E X e1 Γ (.int i)) (hb : E X e2 Γ (.int j)) (hc : CMul i j) : E X (.BinOp e1 .Mult e2 pos) Γ (.int (i * j)) := E.bin op_mul (rv_I hc fun _ => .int _) ha hb
theorem E.mod (ha : E X e1 Γ (.int i)) (hb : E X e2 Γ (.int j)) (hc : 0 < j) : E X (.BinOp e1 .Mod e2 pos) Γ (.int (i % j)) := E.bin op_mod (rv_I hc fun _ => .int _) ha hb
theorem E.fdiv (ha : E X e1 Γ (.int i)) (hb : E X e2 Γ (.int j)) (hc : CDiv i j) : E X (.BinOp e1 .FloorDiv e2 pos) Γ (.int (i / j)) := E.bin op_fdiv (rv_I hc fun _ => .int _) ha hb
theorem E.addN (ha : E X e1 Γ (Ck.nat m)) (hb : E X e2 Γ (Ck.nat n)) : E X (.BinOp e1 .Add e2 pos) Γ (Ck.nat (m + n)) := (E.add ha hb).is rfl
theorem E.subN (ha : E X e1 Γ (Ck.nat m)) (hb : E X e2 Γ (Ck.nat n)) (h : n ≤ m) : E X (.BinOp e1 .Sub e2 pos) Γ (Ck.nat (m - n)) := (E.sub ha hb).is (congrArg PyData.int (by omega))
theorem E.mulN (ha : E X e1 Γ (Ck.nat m)) (hb : E X e2 Γ (Ck.nat n)) (hc : m < 2 ^ 64 ∨ n < 2 ^ 64) : E X (.BinOp e1 .Mult e2 pos) Γ (Ck.nat (m * n)) := (E.mul ha hb (by unfold CMul; omega)).is rfl
theorem E.modN (ha : E X e1 Γ (Ck.nat m)) (hb : E X e2 Γ (Ck.nat n)) (hc : 0 < n) : E X (.BinOp e1 .Mod e2 pos) Γ (Ck.nat (m % n)) := (E.mod ha hb (by omega)).is rfl
theorem E.fdivN (ha : E X e1 Γ (Ck.nat m)) (hb : E X e2 Γ (Ck.nat n)) (hc : 0 < n ∧ n < 1073741824) : E X (.BinOp e1 .FloorDiv e2 pos) Γ (Ck.nat (m / n)) := (E.fdiv ha hb (by unfold CDiv; omega)).is rfl
theorem T.eqN (ha : E X e1 Γ (Ck.nat m)) (hb : E X e2 Γ (Ck.nat n)) : T X (.Compare e1 [.Eq] [e2] pos) Γ (decide (m = n)) := (T.cmp op_eq rv_eqI ha hb).is (by rw [dIeq])
theorem T.neN (ha : E X e1 Γ (Ck.nat m)) (hb : E X e2 Γ (Ck.nat n)) : T X (.Compare e1 [.NotEq] [e2] pos) Γ (!decide (m = n)) := (T.cmp op_ne rv_neI ha hb).is (by rw [dIeq])
theorem T.ltN (ha : E X e1 Γ (Ck.nat m)) (hb : E X e2 Γ (Ck.nat n)) : T X (.Compare e1 [.Lt] [e2] pos) Γ (decide (m < n)) := (T.cmp op_lt (rv_I0 fun _ => .bl _) ha hb).is (by simp)
theorem T.leN (ha : E X e1 Γ (Ck.nat m)) (hb : E X e2 Γ (Ck.nat n)) : T X (.Compare e1 [.LtE] [e2] pos) Γ (decide (m ≤ n)) := (T.cmp op_le (rv_I0 fun _ => .bl _) ha hb).is (by simp)
theorem T.gtN (ha : E X e1 Γ (Ck.nat m)) (hb : E X e2 Γ (Ck.nat n)) : T X (.Compare e1 [.Gt] [e2] pos) Γ (decide (n < m)) := (T.cmp op_gt (rv_I0 fun _ => .bl _) ha hb).is (by simp)
theorem E.eqN (ha : E X e1 Γ (Ck.nat m)) (hb : E X e2 Γ (Ck.nat n)) : E X (.Compare e1 [.Eq] [e2] pos) Γ (.bool (decide (m = n))) := (E.cmp op_eq rv_eqI ha hb).is (by rw [dIeq])
theorem E.neN (ha : E X e1 Γ (Ck.nat m)) (hb : E X e2 Γ (Ck.nat n)) : E X (.Compare e1 [.NotEq] [e2] pos) Γ (.bool (!decide (m = n))) := (E.cmp op_ne rv_neI ha hb).is (by rw [dIeq])
theorem E.abs (hm : X.mg "abs" = none) (ha : E X e Γ (Ck.nat n)) (hg : Gl X "abs" := by rfl) (hs : starEach [e] X.env = (false, eval e X.env) :: starEach [] X.env := by rfl) : E X (.Call (.Name "abs" p) [e] [] pos) Γ (Ck.nat n) :=
  E.cb call_abs (ds := [Ck.nat n]) (fun F H vs s h Q q => by
    cases h with
    | cons h hs =>
      cases hs
      refine ⟨_, by rw [dp_int h], ?_⟩
      rw [if_neg (by omega)]
      exact q _ F H (Grow.refl s) (.int _)) hm (by decide +kernel) (A.cons ha A.nil hs) hg (he := hs)
theorem E.int1 (hm : X.mg "int" = none) (ha : E X e Γ (.int i)) (hg : Gl X "int" := by rfl) (hs : starEach [e] X.env = (false, eval e X.env) :: starEach [] X.env := by rfl) : E X (.Call (.Name "int" p) [e] [] pos) Γ (.int i) :=
  E.ct call_int1 (ds := [.int i]) (fun F H vs s h Q q => by
    cases h with
    | cons h hs =>
      cases hs
      exact .inl ⟨_, by rw [dp_int h], q _ F H (Grow.refl s) (.int _)⟩) hm (by decide +kernel) (A.cons ha A.nil hs) hg (he := hs)
theorem E.intB {b : Bool} (hm : X.mg "int" = none) (ha : E X e Γ (.bool b)) (hg : Gl X "int" := by rfl) (hs : starEach [e] X.env = (false, eval e X.env) :: starEach [] X.env := by rfl) : E X (.Call (.Name "int" p) [e] [] pos) Γ (Ck.nat (if b then 1 else 0)) :=
  E.ct call_int1 (ds := [.bool b]) (fun F H vs s h Q q => by
    cases h with
    | cons h hs =>
      cases hs
      refine .inr ⟨_, by rw [dp_bl h], q _ F H (Grow.refl s) ?_⟩
      cases b <;> exact .int _) hm (by decide +kernel) (A.cons ha A.nil hs) hg (he := hs)
end
end Ck

set_option Elab.async false
set_option linter.all false
set_option maxRecDepth 100000
/-! The layer, second part: targets, what is walked, comprehensions. -/
namespace Ck
open PySem PySem.Spec PyProof.Rows L2

/-! ### targets -/
def setAll (σ : L2.St) : List (Nat × V) → L2.St
  | [] => σ
  | p :: r => setAll (σ.set p.1 (some p.2)) r
def setG (Γ : List (Option PD)) : List (Nat × PD) → List (Option PD)
  | [] => Γ
  | p :: r => setG (Γ.set p.1 (some p.2)) r
abbrev AsOk (K : PySem.W.Frag) (F : Hp) : List (Nat × PD) → List (Nat × V) → Prop := Paired fun p q => p.1 = q.1 ∧ Dp K F q.2 p.2
theorem setAll_app {σ : L2.St} : ∀ {a b : List (Nat × V)}, setAll σ (a ++ b) = setAll (setAll σ a) b
  | [], _ => rfl
  | p :: a, b => setAll_app (σ := σ.set p.1 (some p.2)) (a := a)
theorem AsOk.mono {K : PySem.W.Frag} {F F' : Hp} (e : Same F F') {as : List (Nat × PD)} {vs : List (Nat × V)} (h : AsOk K F as vs) : AsOk K F' as vs :=
  Paired.mapP h fun _ _ q => ⟨q.1, dp_mono e q.2⟩
theorem paired_app {α β : Type} {R : α → β → Prop} : ∀ {a c : List α} {b d : List β}, Paired R a b → Paired R c d → Paired R (a ++ c) (b ++ d)
  | _, _, _, _, .nil, h => h
  | _, _, _, _, .cons h hs, k => .cons h (paired_app hs k)
theorem EnvD.setAll {K : PySem.W.Frag} {F : Hp} : ∀ {as : List (Nat × PD)} {vs : List (Nat × V)} {σ : L2.St} {Γ : List (Option PD)}, AsOk K F as vs → EnvD K F σ Γ → EnvD K F (setAll σ vs) (setG Γ as)
  | _, _, _, _, .nil, h => h
  | _, _, _, _, .cons (a := p) (b := q) h hs, E => by
    unfold Ck.setAll setG
    obtain ⟨e, d⟩ := h
    have := E.set d p.1
    rw [← e]
    exact EnvD.setAll hs this
theorem wipe_setAll {ws : List Nat} : ∀ {vs : List (Nat × V)} {σ : L2.St}, (∀ q ∈ vs, q.1 ∈ ws) → L2.wipe (Ck.setAll σ vs) ws = L2.wipe σ ws
  | [], _, _ => rfl
  | q :: vs, σ, h => by
    unfold Ck.setAll
    rw [wipe_setAll fun p hp => h p (List.mem_cons_of_mem _ hp), wipe_set (h q List.mem_cons_self)]
theorem AsOk.mem {K : PySem.W.Frag} {F : Hp} : ∀ {as : List (Nat × PD)} {vs : List (Nat × V)}, AsOk K F as vs → ∀ q ∈ vs, ∃ p ∈ as, p.1 = q.1
  | _, _, .nil, q, h => by cases h
  | _, _, .cons (a := p) h hs, q, hq => by
    rcases List.mem_cons.mp hq with e | hq
    · subst e; exact ⟨p, List.mem_cons_self, h.1⟩
    · obtain ⟨p', h1, h2⟩ := AsOk.mem hs q hq
      exact ⟨p', List.mem_cons_of_mem _ h1, h2⟩
def EvG (K : PySem.W.Frag) (g : TG) (d : PD) (as : List (Nat × PD)) : Prop := ∀ (F : Hp) (σ : L2.St) (H : Hp) (v : V), Same F H → Dp K F v d → ∀ Q : L2.St → Hp → Prop, (∀ vs, AsOk K F as vs → Q (setAll σ vs) H) → g v σ H Q
def EvGs (K : PySem.W.Frag) (g : TGs) (ds : List PD) (as : List (Nat × PD)) : Prop := ∀ (F : Hp) (σ : L2.St) (H : Hp) (xs : List V), Same F H → DpAll K F xs ds → ∀ Q : L2.St → Hp → Prop, (∀ vs, AsOk K F as vs → Q (setAll σ vs) H) → g xs σ H Q
def semG (X : Cx) (tg : Expr) : TG := fun v σ H Q => ∀ (pins : List (Addr × Obj)) (s : Shared) (u : Value), Inv X pins σ H s → RelV v u → wpAny (model X.prog X.w) X.A (assign tg X.env u) (fun _ s' => ∃ σ' H', Inv X pins σ' H' s' ∧ Q σ' H') X.xe s
theorem pg_sem (X : Cx) {tg : Expr} : PG X tg (semG X tg) := ⟨fun pins s σ H v u Q I r h => h pins s u I r⟩
def G (X : Cx) (tg : Expr) (d : PD) (as : List (Nat × PD)) : Prop := EvG X.K (semG X tg) d as
section
variable {X : Cx} {tg t1 t2 t3 : Expr} {d d1 d2 d3 : PD} {as bs cs : List (Nat × PD)} {pos : Pos}
theorem G.mk {g : TG} (h : PG X tg g) (k : EvG X.K g d as) : G X tg d as := fun F σ H v s hd Q q pins st u I r => h.run pins st σ H v u Q I r (k F σ H v s hd Q q)
theorem G.name (i : Nat) {z : Str} (hN : X.N.Nodup) (hi : X.N[i]? = some z := by rfl) (hx : Loc X.env.scope z := by first | exact Or.inl rfl | exact Or.inr rfl) (hf : X.fn z = true ∨ X.env.scope.names.lookup z = some .local := by first | exact .inl rfl | exact .inr rfl) : G X (.Name z pos) d [(i, d)] :=
  G.mk (pg_name hN hi hx hf) fun F σ H v s hd Q q => q [(i, v)] (.cons ⟨rfl, hd⟩ .nil)
theorem egs_nil {K : PySem.W.Frag} : EvGs K gNil [] [] := fun F σ H xs s h Q q => by
  cases h
  exact ⟨rfl, q [] .nil⟩
theorem egs_cons {K : PySem.W.Frag} {g : TG} {u : TGs} {ds : List PD} (h1 : EvG K g d as) (h2 : EvGs K u ds bs) : EvGs K (gCons g u) (d :: ds) (as ++ bs) := fun F σ H xs s h Q q => by
  cases h with
  | cons hd hs =>
    refine ⟨_, _, rfl, h1 F σ H _ s hd _ fun vs hv => h2 F _ H _ s hs Q fun ws hw => ?_⟩
    rw [← setAll_app]
    exact q _ (paired_app hv hw)
theorem eg_tup {K : PySem.W.Frag} {t : TGs} {ds : List PD} {n : Nat} (h : EvGs K t ds as) (hn : ds.length = n) : EvG K (gTup K n t) (.tuple ds) as := fun F σ H v s hd Q q => by
  obtain ⟨a, xs, rfl, hx, hs⟩ := dp_tup hd
  exact ⟨a, xs, rfl, seqT s hx, by rw [dpA_len hs]; exact hn, h F σ H xs s hs Q q⟩
theorem G.tup2 (h1 : G X t1 d1 as) (h2 : G X t2 d2 bs) (hc : X.calm = true := by rfl) {k : Nat}
    (hn : (assignEach [t1, t2] X.env).length = 2 := by rfl) (hst : (assignEach [t1, t2] X.env).findIdx? (·.1) = none := by rfl)
    (hs : (assignEach [t1, t2] X.env).map (·.2) = assign t1 X.env :: (assignEach [t2] X.env).map (·.2) := by rfl) (hs2 : (assignEach [t2] X.env).map (·.2) = assign t2 X.env :: (assignEach [] X.env).map (·.2) := by rfl) :
    G X (.Tuple [t1, t2] k pos) (.tuple [d1, d2]) (as ++ (bs ++ [])) :=
  G.mk (pg_tup hc (pgs_cons (pg_sem X) (pgs_cons (pg_sem X) pgs_nil hs2) hs) hn hst) (eg_tup (egs_cons h1 (egs_cons h2 egs_nil)) rfl)
theorem G.tup3 (h1 : G X t1 d1 as) (h2 : G X t2 d2 bs) (h3 : G X t3 d3 cs) (hc : X.calm = true := by rfl) {k : Nat}
    (hn : (assignEach [t1, t2, t3] X.env).length = 3 := by rfl) (hst : (assignEach [t1, t2, t3] X.env).findIdx? (·.1) = none := by rfl)
    (hs : (assignEach [t1, t2, t3] X.env).map (·.2) = assign t1 X.env :: (assignEach [t2, t3] X.env).map (·.2) := by rfl) (hs2 : (assignEach [t2, t3] X.env).map (·.2) = assign t2 X.env :: (assignEach [t3] X.env).map (·.2) := by rfl) (hs3 : (assignEach [t3] X.env).map (·.2) = assign t3 X.env :: (assignEach [] X.env).map (·.2) := by rfl) :
    G X (.Tuple [t1, t2, t3] k pos) (.tuple [d1, d2, d3]) (as ++ (bs ++ (cs ++ []))) :=
  G.mk (pg_tup hc (pgs_cons (pg_sem X) (pgs_cons (pg_sem X) (pgs_cons (pg_sem X) pgs_nil hs3) hs2) hs) hn hst) (eg_tup (egs_cons h1 (egs_cons h2 (egs_cons h3 egs_nil))) rfl)
end

/-! ### what is walked -/
structure WalkD (K : PySem.W.Frag) (J : It) (F : Hp) (ds : List PD) : Prop where
  go : ∀ i H, i < ds.length → Same F H → J.go i H
  stop : ∀ H, Same F H → J.stop ds.length H
  yld : ∀ i H x H' d F2, ds[i]? = some d → Same F F2 → Same F2 H → J.yld i H x H' → ∃ F3, Grow F2 H F3 H' ∧ Dp K F3 x d
def EvI (K : PySem.W.Frag) (wi : TI) (Γ : List (Option PD)) (ds : List PD) : Prop := ∀ (F : Hp) (σ : L2.St) (H : Hp), Same F H → EnvD K F σ Γ → ∀ R : It → Hp → Prop, (∀ J F' H', Grow F H F' H' → WalkD K J F' ds → R J H') → wi σ H R
def semI (X : Cx) (tg iter : Expr) : TI := fun σ H R => ∀ (pins : List (Addr × Obj)) (s : Shared), Inv X pins σ H s →
  wpAny (model X.prog X.w) X.A (eval iter X.env) (fun v s1 => wpAny (model X.prog X.w) X.A (pyIter v) (PIE X pins σ tg R) X.xe s1) X.xe s
theorem pi_sem (X : Cx) {tg iter : Expr} : PI X tg iter (semI X tg iter) := ⟨fun pins s σ H R I h => h pins s I⟩
def IT (X : Cx) (tg iter : Expr) (Γ : List (Option PD)) (ds : List PD) : Prop := EvI X.K (semI X tg iter) Γ ds
section
variable {X : Cx} {tg e e1 e2 : Expr} {Γ : List (Option PD)} {ds : List PD} {m n : Nat} {p pos : Pos}
theorem IT.mk {iter : Expr} {wi : TI} (h : PI X tg iter wi) (k : EvI X.K wi Γ ds) : IT X tg iter Γ ds := fun F σ H s Ee R q pins st I => h.run pins st σ H R I (k F σ H s Ee R q)
theorem walkD_list {K : PySem.W.Frag} {F : Hp} {a : Addr} {xs : List V} (h : SqL K F a xs) (hs : DpAll K F xs ds) : WalkD K (Itl K a) F ds := by
  have hl := dpA_len hs
  refine ⟨fun i H hi s => ?_, fun H s => ⟨xs, s.seq h, by omega⟩, fun i H x H' d F2 hd s s2 y => ?_⟩
  · have hi' : i < xs.length := by omega
    exact ⟨xs, xs[i], s.seq h, by simp [hi']⟩
  · obtain ⟨e, y⟩ := y
    subst e
    have hx := y xs ((s.trans s2).seq h)
    obtain ⟨d', hd', hdp⟩ := dpA_getV hs hx
    rw [hd] at hd'
    cases hd'
    exact ⟨F2, Grow.refl s2, dp_mono s hdp⟩
theorem walkD_tup {K : PySem.W.Frag} {F : Hp} {a : Addr} {xs : List V} (h : SqT K F a xs) (hs : DpAll K F xs ds) : WalkD K (Itt K a) F ds := by
  have hl := dpA_len hs
  refine ⟨fun i H hi s => ?_, fun H s => ⟨xs, seqT s h, by omega⟩, fun i H x H' d F2 hd s s2 y => ?_⟩
  · have hi' : i < xs.length := by omega
    exact ⟨xs, xs[i], seqT s h, by simp [hi']⟩
  · obtain ⟨e, y⟩ := y
    subst e
    have hx := y xs (seqT (s.trans s2) h)
    obtain ⟨d', hd', hdp⟩ := dpA_getV hs hx
    rw [hd] at hd'
    cases hd'
    exact ⟨F2, Grow.refl s2, dp_mono s hdp⟩
theorem IT.list (h : E X e Γ (.list ds)) : IT X tg e Γ ds := IT.mk (pi_list (pe_sem X)) fun F σ H s Ee R q => h F σ H s Ee _ fun v F1 H1 g hd => by
  obtain ⟨a, xs, rfl, hx, hs⟩ := dp_lst hd
  exact ⟨a, rfl, ⟨xs, g.s.seq hx⟩, q _ F1 H1 g (walkD_list hx hs)⟩
theorem IT.tup (h : E X e Γ (.tuple ds)) : IT X tg e Γ ds := IT.mk (pi_tup (pe_sem X)) fun F σ H s Ee R q => h F σ H s Ee _ fun v F1 H1 g hd => by
  obtain ⟨a, xs, rfl, hx, hs⟩ := dp_tup hd
  exact ⟨a, rfl, ⟨xs, seqT g.s hx⟩, q _ F1 H1 g (walkD_tup hx hs)⟩
theorem walkD_rng {K : PySem.W.Frag} {F : Hp} {lo : Nat} {n : Nat} : WalkD K (Itr (lo : Int) n) F ((List.range n).map fun i => nat (lo + i)) := by
  refine ⟨fun i H hi s => by show i < n; simpa using hi, fun H s => by show n ≤ _; simp, fun i H x H' d F2 hd s s2 y => ?_⟩
  obtain ⟨e, y⟩ := y
  subst e y
  have hi : i < n := by
    have := (List.getElem?_eq_some_iff.mp hd).1
    simpa using this
  rw [List.getElem?_map, List.getElem?_range hi] at hd
  cases hd
  exact ⟨F2, Grow.refl s2, .int _⟩
theorem IT.range1 (h : E X e Γ (Ck.nat n)) (hn : n ≤ 100000) (hm : X.mg "range" = none) (hg : Gl X "range" := by rfl) (hs1 : starEach [e] X.env = (false, eval e X.env) :: starEach [] X.env := by rfl) (hs2 : starEach [e] X.env = [(false, eval e X.env)] := by rfl) : IT X tg (.Call (.Name "range" p) [e] [] pos) Γ ((List.range n).map Ck.nat) :=
  IT.mk (pi_range1 hg hm (pa_sem X) hs2) fun F σ H s Ee R q => (A.cons h A.nil hs1) F σ H s Ee _ fun vs F1 H1 g hd => by
    cases hd with
    | cons hd hs =>
      cases hs
      refine ⟨(n : Int), by rw [dp_int hd], by omega, by omega, q _ F1 H1 g ?_⟩
      have := walkD_rng (K := X.K) (F := F1) (lo := 0) (n := n)
      simpa using this
theorem IT.range2 (h1 : E X e1 Γ (Ck.nat m)) (h2 : E X e2 Γ (Ck.nat n)) (hb : m ≤ 100000 ∧ n ≤ 100000) (hm : X.mg "range" = none) (hg : Gl X "range" := by rfl) (hs1 : starEach [e1, e2] X.env = (false, eval e1 X.env) :: starEach [e2] X.env := by rfl) (hs2 : starEach [e2] X.env = (false, eval e2 X.env) :: starEach [] X.env := by rfl)
    (hs3 : starEach [e1, e2] X.env = [(false, eval e1 X.env), (false, eval e2 X.env)] := by rfl) (hs4 : starEach [e2] X.env = [(false, eval e2 X.env)] := by rfl) : IT X tg (.Call (.Name "range" p) [e1, e2] [] pos) Γ ((List.range (n - m)).map fun i => Ck.nat (m + i)) :=
  IT.mk (pi_range2 hg hm (pa_sem X) hs3 hs4) fun F σ H s Ee R q => (A.cons h1 (A.cons h2 A.nil hs2) hs1) F σ H s Ee _ fun vs F1 H1 g hd => by
    cases hd with
    | cons hd hs =>
      cases hs with
      | cons hd2 hs =>
        cases hs
        refine ⟨(m : Int), (n : Int), by rw [dp_int hd, dp_int hd2], by omega, q _ F1 H1 g ?_⟩
        have := walkD_rng (K := X.K) (F := F1) (lo := m) (n := n - m)
        rw [show ((n : Int) - (m : Int)).toNat = n - m from by omega]
        exact this
theorem IT.zipL {elts : List Expr} {kk : Nat} {tpos : Pos} {as bs : List PD} (h1 : E X e1 Γ (.list as)) (h2 : E X e2 Γ (.list bs)) (hl : as.length = bs.length) (hm : X.mg "zip" = none) (hg : Gl X "zip" := by rfl)
    (hs1 : starEach [e1, e2] X.env = (false, eval e1 X.env) :: starEach [e2] X.env := by rfl) (hs2 : starEach [e2] X.env = (false, eval e2 X.env) :: starEach [] X.env := by rfl)
    (hpl : (backTo pos (starEach [e2] X.env)).any (·.1) = false := by rfl) : IT X (.Tuple elts kk tpos) (.Call (.Name "zip" p) [e1, e2] [] pos) Γ ((as.zip bs).map fun q => .tuple [q.1, q.2]) :=
  IT.mk (pi_zip hg hm (pa_sem X) hs1 hpl) fun F σ H s Ee R q => (A.cons h1 (A.cons h2 A.nil hs2) hs1) F σ H s Ee _ fun vs F1 H1 g hd => by
    cases hd with
    | cons hd hs =>
      cases hs with
      | cons hd2 hs =>
        cases hs
        obtain ⟨a, xs, rfl, hx, hxs⟩ := dp_lst hd
        obtain ⟨b, ys, rfl, hy, hys⟩ := dp_lst hd2
        refine ⟨a, b, xs, ys, rfl, g.s.seq hx, g.s.seq hy, q _ F1 H1 g ?_⟩
        have e1 := dpA_len hxs
        have e2 := dpA_len hys
        have w := walk_zip (K := X.K) (a := a) (b := b) (xs := xs) (ys := ys) (n := xs.length) (by omega)
        have hn : ((as.zip bs).map fun q => PyData.tuple [q.1, q.2]).length = xs.length := by simp; omega
        refine ⟨fun i H hi s => w.goes i H (by omega) ⟨s.seq hx, s.seq hy⟩, fun H s => by rw [hn]; exact w.stops H ⟨s.seq hx, s.seq hy⟩, fun i H x H' d F2 hd s s2 y => ?_⟩
        have hi : i < xs.length := by
          have := (List.getElem?_eq_some_iff.mp hd).1
          omega
        obtain ⟨T, u, v, rfl, hT, rfl, hu, hv⟩ := w.yields i H x H' hi ⟨(s.trans s2).seq hx, (s.trans s2).seq hy⟩ y
        obtain ⟨du, hdu, hpu⟩ := dpA_getV hxs hu
        obtain ⟨dv, hdv, hpv⟩ := dpA_getV hys hv
        have hz : (as.zip bs)[i]? = some (du, dv) := by rw [List.getElem?_zip_eq_some]; exact ⟨hdu, hdv⟩
        rw [List.getElem?_map, hz] at hd
        cases hd
        refine ⟨upd F2 T (.tup [u, v]), Grow.new s2 hT, .tup (SqT.of upd_same) (.cons (dp_mono ?_ hpu) (.cons (dp_mono ?_ hpv) .nil))⟩ <;> exact s.trans (same_upd (s2.free hT))
end

/-! ### comprehensions -/
def semTs (X : Cx) (ifs : List Expr) : TT := fun σ H Q => ∀ (pins : List (Addr × Obj)) (s : Shared), Inv X pins σ H s →
  wpAny (model X.prog X.w) X.A (forIn ifs true fun c r => if r = true then do let ok ← isTrue c X.env (eval c X.env); pure (ForInStep.yield ok) else pure (ForInStep.yield r)) (TP X pins σ Q) X.xe s
theorem pts_sem (X : Cx) {ifs : List Expr} : PTs X ifs (semTs X ifs) := ⟨fun pins s σ H Q I h => h pins s I⟩
def Ts (X : Cx) (ifs : List Expr) (Γ : List (Option PD)) (b : Bool) : Prop := EvB X.K (semTs X ifs) Γ b
theorem Ts.nil {X : Cx} {Γ : List (Option PD)} : Ts X [] Γ true := fun F σ H s Ee Q q pins st I => pts_nil.run pins st σ H Q I (q F H (Grow.refl s))
theorem Ts.one {X : Cx} {c : Expr} {Γ : List (Option PD)} {b : Bool} (h : T X c Γ b) : Ts X [c] Γ b := fun F σ H s Ee Q q pins st I => (pts_one (pt_sem X)).run pins st σ H Q I (h F σ H s Ee Q q)

def blG (X : Cx) (scope : Scope) (tg : Expr) : TG := fun v σ H Q => ∀ (s : Shared) (H0 : Hp) (C : Addr) (cl : List (Str × Addr)) (fp : List Addr), semG (X.blk s H0 scope (compEnvC scope cl C X.env) fp) tg v σ H Q
def blT (X : Cx) (scope : Scope) (ifs : List Expr) : TT := fun σ H Q => ∀ (s : Shared) (H0 : Hp) (C : Addr) (cl : List (Str × Addr)) (fp : List Addr), semTs (X.blk s H0 scope (compEnvC scope cl C X.env) fp) ifs σ H Q
def blE (X : Cx) (scope : Scope) (elt : Expr) : TE := fun σ H Q => ∀ (s : Shared) (H0 : Hp) (C : Addr) (cl : List (Str × Addr)) (fp : List Addr), semE (X.blk s H0 scope (compEnvC scope cl C X.env) fp) elt σ H Q
/-- a comprehension's parts, told apart -/
structure LC (X : Cx) (elt tg iter : Expr) (ifs : List Expr) (scope : Scope) (Γ : List (Option PD)) (ds : List PD) : Prop where
  ex : ∃ (wi : TI) (g : TG) (tt : TT) (te : TE) (own : List (Str × Nat)), PI X tg iter wi ∧ BlkOk X.N X.env.scope scope own ∧
    (∀ (s : Shared) (H : Hp) (C : Addr) (cl : List (Str × Addr)) (fp : List Addr), PG (X.blk s H scope (compEnvC scope cl C X.env) fp) tg g) ∧
    (∀ (s : Shared) (H : Hp) (C : Addr) (cl : List (Str × Addr)) (fp : List Addr), PTs (X.blk s H scope (compEnvC scope cl C X.env) fp) ifs tt) ∧
    (∀ (s : Shared) (H : Hp) (C : Addr) (cl : List (Str × Addr)) (fp : List Addr), PE (X.blk s H scope (compEnvC scope cl C X.env) fp) elt te) ∧
    EvF X.K (tLc wi g tt te (own.map (·.2))) Γ ds
section
variable {X : Cx} {elt tg iter : Expr} {ifs : List Expr} {scope : Scope} {Γ : List (Option PD)} {ds : List PD} {pos : Pos}
theorem EF.lcOf (h : LC X elt tg iter ifs scope Γ ds) (hN : X.N.Nodup) (hc : X.calm = true := by rfl) (hs : ∀ x, foldedSetIterable iter X.env x = pure x := by intro _; rfl) : EF X (.ListComp elt [⟨tg, iter, ifs, 0⟩] scope pos) Γ ds := by
  obtain ⟨wi, g, tt, te, own, h1, h2, h3, h4, h5, h6⟩ := h.ex
  exact EF.mk (pe_lc hc hN h1 h2 h3 h4 h5 hs) h6
theorem take_snoc {α : Type} {xs : List α} {i : Nat} {a : α} (h : xs[i]? = some a) : xs.take (i + 1) = xs.take i ++ [a] := by
  rw [List.take_succ, h]; rfl
theorem LC.mk' {α : Type} (own : List (Str × Nat)) (xs : List α) (enc : α → PD) (p : α → Bool) (f : α → PD) (asg : α → List (Nat × PD))
    (hi : IT X tg iter Γ (xs.map enc)) (ok : BlkOk X.N X.env.scope scope own) (hown : ∀ a ∈ xs, ∀ q ∈ asg a, q.1 ∈ own.map (·.2)) (hz : xs.length ≤ 100000)
    (hg : ∀ a ∈ xs, ∀ (s : Shared) (H : Hp) (C : Addr) (cl : List (Str × Addr)) (fp : List Addr), G (X.blk s H scope (compEnvC scope cl C X.env) fp) tg (enc a) (asg a))
    (ht : ∀ a ∈ xs, ∀ (s : Shared) (H : Hp) (C : Addr) (cl : List (Str × Addr)) (fp : List Addr), Ts (X.blk s H scope (compEnvC scope cl C X.env) fp) ifs (setG (wipeG Γ (own.map (·.2))) (asg a)) (p a))
    (he : ∀ a ∈ xs, p a = true → ∀ (s : Shared) (H : Hp) (C : Addr) (cl : List (Str × Addr)) (fp : List Addr), E (X.blk s H scope (compEnvC scope cl C X.env) fp) elt (setG (wipeG Γ (own.map (·.2))) (asg a)) (f a)) :
    LC X elt tg iter ifs scope Γ ((xs.filter p).map f) := by
  refine ⟨semI X tg iter, blG X scope tg, blT X scope ifs, blE X scope elt, own, pi_sem X, ok, fun s H0 C cl fp => ⟨fun pins st σ H v u Q I r h => h s H0 C cl fp pins st u I r⟩, fun s H0 C cl fp => ⟨fun pins st σ H Q I h => h s H0 C cl fp pins st I⟩,
    fun s H0 C cl fp => ⟨fun pins st σ H Q I h => h s H0 C cl fp pins st I⟩, ?_⟩
  intro F σ H s Ee Q q
  refine hi F σ H s Ee _ fun J F1 H1 g1 wk => ?_
  intro Dn hDn
  have w : Walk J xs.length (fun H => Same F1 H) (fun i H x H' => ∀ F2 a, xs[i]? = some a → Same F1 F2 → Same F2 H → ∃ F3, Grow F2 H F3 H' ∧ Dp X.K F3 x (enc a)) :=
    ⟨fun i H hi s => wk.go i H (by simpa using hi) s, fun H s => by have := wk.stop H s; simpa using this, fun i H x H' hi s y F2 a ha s1 s2 => wk.yld i H x H' (enc a) F2 (by rw [List.getElem?_map, ha]; rfl) s1 s2 y⟩
  refine lc_it (g := blG X scope tg) (tt := blT X scope ifs) (te := blE X scope elt) (vs := own.map (·.2)) (σ := σ) (H1 := H1) (D := Dn) (Qd := Q (.ref Dn)) w (fun i H' => ∃ F2 acc, Grow F1 H1 F2 H' ∧ F2 Dn = none ∧ H' Dn = some (.lst acc) ∧ DpAll X.K F2 acc (((xs.take i).filter p).map f)) ?_ ?_ ?_ ?_
  · exact ⟨F1, [], Grow.heap g1.s (same_upd hDn), g1.s.free hDn, upd_same, .nil⟩
  · rintro i H' _ ⟨F2, acc, g2, _⟩
    exact g2.f.trans g2.s
  · rintro i x H' H'' hi ⟨F2, acc, g2, hF2, hD, hacc⟩ y
    have ha : xs[i]? = some xs[i] := by simp [hi]
    have hm : xs[i] ∈ xs := List.getElem_mem hi
    obtain ⟨F3, g3, hx⟩ := y F2 xs[i] ha g2.f g2.s
    intro s0 H0 C0 cl0 fp0
    refine hg _ hm s0 H0 C0 cl0 fp0 F3 _ H'' x g3.s hx _ fun vs hvs => ?_
    have hE : EnvD X.K F3 (setAll (L2.wipe σ (own.map (·.2))) vs) (setG (wipeG Γ (own.map (·.2))) (asg xs[i])) := EnvD.setAll hvs ((Ee.mono ((g1.f.trans g2.f).trans g3.f)).wipe _)
    refine ⟨?_, fun s0 H0 C0 cl0 fp0 => ht _ hm s0 H0 C0 cl0 fp0 F3 _ H'' g3.s hE _ fun F4 H4 g4 => ?_⟩
    · rw [wipe_setAll, wipe_wipe]
      intro q hq
      obtain ⟨p', hp', e⟩ := AsOk.mem hvs q hq
      rw [← e]
      exact hown _ hm p' hp'
    have htk : xs.take (i + 1) = xs.take i ++ [xs[i]] := take_snoc ha
    by_cases hp : p xs[i] = true
    · rw [if_pos hp]
      intro s0 H0 C0 cl0 fp0
      refine he _ hm hp s0 H0 C0 cl0 fp0 F4 _ H4 g4.s (hE.mono g4.f) _ fun v F5 H5 g5 hv => ?_
      have gg := (g3.trans g4).trans g5
      have hlen : acc.length < sizeLine := by
        have e := dpA_len hacc
        have e2 : (((xs.take i).filter p).map f).length ≤ i := by
          rw [List.length_map]
          refine Nat.le_trans (List.length_filter_le _ _) ?_
          rw [List.length_take]; omega
        have := sizeLine_eq
        omega
      refine ⟨acc, gg.h _ _ hD, hlen, F5, acc ++ [v], ?_, gg.n _ hF2 (by rw [hD]; simp), upd_same, ?_⟩
      · have g6 := g2.trans gg
        have hF5 : F5 Dn = none := gg.n _ hF2 (by rw [hD]; simp)
        refine ⟨g6.f, fun b o e => ?_, fun b o e => ?_, g6.n⟩
        · rw [upd_ne (ne_of_none e hDn)]; exact g6.h b o e
        · rw [upd_ne (ne_of_none e hF5)]; exact g6.s b o e
      · rw [htk, List.filter_append, List.map_append]
        have e3 : ([xs[i]].filter p).map f = [f xs[i]] := by simp [hp]
        rw [e3]
        exact dpA_snoc (dpA_mono gg.f hacc) hv
    · have hp' : p xs[i] = false := by simpa using hp
      rw [hp', if_neg Bool.false_ne_true]
      have gg := g3.trans g4
      refine ⟨F4, acc, g2.trans gg, gg.n _ hF2 (by rw [hD]; simp), gg.h _ _ hD, ?_⟩
      rw [htk, List.filter_append, List.map_append]
      have e3 : ([xs[i]].filter p).map f = [] := by simp [hp']
      rw [e3, List.append_nil]
      exact dpA_mono gg.f hacc
  · rintro H' ⟨F2, acc, g2, hF2, hD, hacc⟩
    rw [List.take_length] at hacc
    exact q Dn acc F2 H' (g1.trans g2) (g1.fresh hDn) hF2 hD hacc
/-- all items kept -/
theorem LC.all {α : Type} (own : List (Str × Nat)) (xs : List α) (enc : α → PD) (f : α → PD) (asg : α → List (Nat × PD))
    (hi : IT X tg iter Γ (xs.map enc)) (ok : BlkOk X.N X.env.scope scope own) (hown : ∀ a ∈ xs, ∀ q ∈ asg a, q.1 ∈ own.map (·.2)) (hz : xs.length ≤ 100000)
    (hg : ∀ a ∈ xs, ∀ (s : Shared) (H : Hp) (C : Addr) (cl : List (Str × Addr)) (fp : List Addr), G (X.blk s H scope (compEnvC scope cl C X.env) fp) tg (enc a) (asg a))
    (he : ∀ a ∈ xs, ∀ (s : Shared) (H : Hp) (C : Addr) (cl : List (Str × Addr)) (fp : List Addr), E (X.blk s H scope (compEnvC scope cl C X.env) fp) elt (setG (wipeG Γ (own.map (·.2))) (asg a)) (f a)) :
    LC X elt tg iter [] scope Γ (xs.map f) := by
  have h := LC.mk' (ifs := []) own xs enc (fun _ => true) f asg hi ok hown hz hg (fun a _ s H C cl fp => Ts.nil) (fun a ha _ => he a ha)
  rwa [List.filter_eq_self.mpr fun _ _ => rfl] at h
end
end Ck

set_option Elab.async false
set_option linter.all false
set_option maxRecDepth 100000
/-! The layer, third part: statements over slots. -/
namespace Ck
open PySem PySem.Spec PyProof.Rows L2

inductive Sl where
  | any | val (d : PD) | own (ds : List PD) | obj (R : Addr → Hp → HO → Prop)
def Sl.isOwn : Sl → Bool
  | .own _ => true
  | .obj _ => true
  | _ => false
def Sl.v : Sl → Option PD
  | .val d => some d
  | _ => none
def Sl.z : Sl → Option PD
  | .val d => some d
  | .own ds => some (.list ds)
  | _ => none
def Sl.f : Sl → Sl
  | .own ds => .val (.list ds)
  | .obj _ => .any
  | s => s
abbrev vals (Γ : List Sl) : List (Option PD) := Γ.map Sl.v
abbrev frz (Γ : List Sl) : List (Option PD) := Γ.map Sl.z
abbrev frs (Γ : List Sl) : List Sl := Γ.map Sl.f

structure Ok (K : PySem.W.Frag) (H0 : Hp) (Γ : List Sl) (σ : L2.St) (F H : Hp) : Prop where
  len : σ.length = Γ.length
  val : ∀ (i : Nat) d, Γ[i]? = some (.val d) → ∃ v, σ[i]? = some (some v) ∧ Dp K F v d
  own : ∀ (i : Nat) ds, Γ[i]? = some (.own ds) → ∃ l xs, σ[i]? = some (some (.ref l)) ∧ H0 l = none ∧ F l = none ∧ H l = some (.lst xs) ∧ DpAll K F xs ds
  obj : ∀ (i : Nat) R, Γ[i]? = some (.obj R) → ∃ l o, σ[i]? = some (some (.ref l)) ∧ H0 l = none ∧ F l = none ∧ H l = some o ∧ ∃ F1, Same F1 F ∧ R l F1 o
  sep : ∀ (i j : Nat) a b l, Γ[i]? = some a → Γ[j]? = some b → a.isOwn = true → b.isOwn = true → σ[i]? = some (some (.ref l)) → σ[j]? = some (some (.ref l)) → i = j
section
variable {K : PySem.W.Frag} {H0 F0 F H F' H' : Hp} {Γ Γ' : List Sl} {σ : L2.St} {v : V} {d : PD} {i : Nat} {ds : List PD} {l : Addr} {xs : List V}
theorem Ok.vals (h : Ok K H0 Γ σ F H) : EnvD K F σ (vals Γ) := ⟨by rw [List.length_map]; exact h.len, fun i d e => by
  rw [List.getElem?_map] at e
  cases q : Γ[i]? with
  | none => rw [q] at e; cases e
  | some s =>
    rw [q] at e
    cases s with
    | val d' => cases e; exact h.val i d q
    | _ => cases e⟩
theorem Ok.frz (h : Ok K H0 Γ σ F H) (s : Same F H) : EnvD K H σ (frz Γ) := ⟨by rw [List.length_map]; exact h.len, fun i d e => by
  rw [List.getElem?_map] at e
  cases q : Γ[i]? with
  | none => rw [q] at e; cases e
  | some sl =>
    rw [q] at e
    cases sl with
    | val d' => cases e; obtain ⟨v, a, b⟩ := h.val i d q; exact ⟨v, a, dp_mono s b⟩
    | own ds => cases e; obtain ⟨l, xs, a, _, _, hl, b⟩ := h.own i ds q; exact ⟨_, a, .lst (SqL.of hl) (dpA_mono s b)⟩
    | _ => cases e⟩
theorem Ok.grow (h : Ok K H0 Γ σ F H) (g : Grow F H F' H') : Ok K H0 Γ σ F' H' :=
  ⟨h.len, fun i d e => let ⟨v, a, b⟩ := h.val i d e; ⟨v, a, dp_mono g.f b⟩,
   fun i ds e => let ⟨l, xs, a, b, c, hl, k⟩ := h.own i ds e; ⟨l, xs, a, b, g.n l c (by rw [hl]; simp), g.h l _ hl, dpA_mono g.f k⟩,
   fun i R e => let ⟨l, o, a, b, c, hl, F1, k, r⟩ := h.obj i R e; ⟨l, o, a, b, g.n l c (by rw [hl]; simp), g.h l _ hl, F1, k.trans g.f, r⟩, h.sep⟩
/-- what a slot shows is forgotten, or stays -/
theorem Ok.weak (h : Ok K H0 Γ σ F H) (hl : Γ'.length = Γ.length) (w : ∀ (i : Nat) s, Γ'[i]? = some s → s = .any ∨ Γ[i]? = some s) : Ok K H0 Γ' σ F H := by
  refine ⟨by rw [hl]; exact h.len, fun i d e => ?_, fun i ds e => ?_, fun i R e => ?_, fun i j a b l e1 e2 o1 o2 => ?_⟩
  · rcases w i _ e with q | q
    · cases q
    · exact h.val i d q
  · rcases w i _ e with q | q
    · cases q
    · exact h.own i ds q
  · rcases w i _ e with q | q
    · cases q
    · exact h.obj i R q
  · rcases w i _ e1 with q1 | q1
    · subst q1; cases o1
    · rcases w j _ e2 with q2 | q2
      · subst q2; cases o2
      · exact h.sep i j a b l q1 q2 o1 o2
theorem get_set {α : Type} {xs : List α} {i j : Nat} {a b : α} (h : (xs.set i a)[j]? = some b) : (i = j ∧ b = a ∧ i < xs.length) ∨ (i ≠ j ∧ xs[j]? = some b) := by
  by_cases e : i = j
  · subst e
    have hi : i < xs.length := by
      have := (List.getElem?_eq_some_iff.mp h).1
      simpa using this
    rw [List.getElem?_set_self hi] at h
    cases h
    exact .inl ⟨rfl, rfl, hi⟩
  · rw [List.getElem?_set_ne e] at h
    exact .inr ⟨e, h⟩
theorem Ok.setVal (h : Ok K H0 Γ σ F H) (hd : Dp K F v d) (i : Nat) : Ok K H0 (Γ.set i (.val d)) (σ.set i (some v)) F H := by
  refine ⟨by simp [h.len], fun j e q => ?_, fun j ds q => ?_, fun j R q => ?_, fun j k a b l e1 e2 o1 o2 s1 s2 => ?_⟩
  · rcases get_set q with ⟨e1, e2, e3⟩ | ⟨e1, e2⟩
    · cases e2; subst e1
      exact ⟨v, List.getElem?_set_self (by rw [h.len]; exact e3), hd⟩
    · rw [List.getElem?_set_ne e1]; exact h.val j e e2
  · rcases get_set q with ⟨e1, e2, e3⟩ | ⟨e1, e2⟩
    · cases e2
    · rw [List.getElem?_set_ne e1]; exact h.own j ds e2
  · rcases get_set q with ⟨e1, e2, e3⟩ | ⟨e1, e2⟩
    · cases e2
    · rw [List.getElem?_set_ne e1]; exact h.obj j R e2
  · rcases get_set e1 with ⟨_, e1', _⟩ | ⟨n1, e1'⟩
    · subst e1'; cases o1
    · rcases get_set e2 with ⟨_, e2', _⟩ | ⟨n2, e2'⟩
      · subst e2'; cases o2
      · rw [List.getElem?_set_ne n1] at s1
        rw [List.getElem?_set_ne n2] at s2
        exact h.sep j k a b l e1' e2' o1 o2 s1 s2
theorem Ok.addr (h : Ok K H0 Γ σ F H) {a : Sl} (e : Γ[i]? = some a) (o : a.isOwn = true) : ∃ l u, σ[i]? = some (some (.ref l)) ∧ H0 l = none ∧ F l = none ∧ H l = some u := by
  cases a with
  | own ds => obtain ⟨l, xs, a, b, c, d, _⟩ := h.own i ds e; exact ⟨l, _, a, b, c, d⟩
  | obj R => obtain ⟨l, xs, a, b, c, d, _⟩ := h.obj i R e; exact ⟨l, _, a, b, c, d⟩
  | _ => cases o
/-- a thing new to Hb comes to a slot -/
theorem Ok.setOwn {Fb Hb : Hp} {s : Sl} (hb : Ok K H0 Γ σ Fb Hb) (g : Grow Fb Hb F H) (hl : Hb l = none) (h0 : H0 l = none) (hF : F l = none) (hs : (∃ ds xs, s = .own ds ∧ H l = some (.lst xs) ∧ DpAll K F xs ds) ∨ (∃ R o F1, s = .obj R ∧ H l = some o ∧ Same F1 F ∧ R l F1 o)) (i : Nat) :
    Ok K H0 (Γ.set i s) (σ.set i (some (.ref l))) F H := by
  have h := hb.grow g
  have far : ∀ (j : Nat) a, Γ[j]? = some a → a.isOwn = true → σ[j]? = some (some (.ref l)) → False := fun j a e o q => by
    obtain ⟨l', u, q', _, _, hu⟩ := hb.addr e o
    rw [q] at q'; cases q'
    rw [hl] at hu; cases hu
  refine ⟨by simp [h.len], fun j e q => ?_, fun j ds q => ?_, fun j R q => ?_, fun j k a b l' e1 e2 o1 o2 s1 s2 => ?_⟩
  · rcases get_set q with ⟨e1, e2, e3⟩ | ⟨e1, e2⟩
    · subst e2; rcases hs with ⟨_, _, z, _⟩ | ⟨_, _, _, z, _⟩ <;> cases z
    · rw [List.getElem?_set_ne e1]; exact h.val j e e2
  · rcases get_set q with ⟨e1, e2, e3⟩ | ⟨e1, e2⟩
    · subst e2 e1
      rcases hs with ⟨ds', xs, z, a, b⟩ | ⟨_, _, _, z, _⟩
      · cases z
        exact ⟨l, xs, List.getElem?_set_self (by rw [h.len]; exact e3), h0, hF, a, b⟩
      · cases z
    · rw [List.getElem?_set_ne e1]; exact h.own j ds e2
  · rcases get_set q with ⟨e1, e2, e3⟩ | ⟨e1, e2⟩
    · subst e2 e1
      rcases hs with ⟨ds', xs, z, a, b⟩ | ⟨R', o, F1, z, a, b⟩
      · cases z
      · cases z
        exact ⟨l, o, List.getElem?_set_self (by rw [h.len]; exact e3), h0, hF, a, F1, b⟩
    · rw [List.getElem?_set_ne e1]; exact h.obj j R e2
  · rcases get_set e1 with ⟨n1, e1', t1⟩ | ⟨n1, e1'⟩
    · rcases get_set e2 with ⟨n2, e2', t2⟩ | ⟨n2, e2'⟩
      · omega
      · subst n1
        rw [List.getElem?_set_self (by rw [h.len]; exact t1)] at s1
        cases s1
        rw [List.getElem?_set_ne n2] at s2
        exact (far k b e2' o2 s2).elim
    · rcases get_set e2 with ⟨n2, e2', t2⟩ | ⟨n2, e2'⟩
      · subst n2
        rw [List.getElem?_set_self (by rw [h.len]; exact t2)] at s2
        cases s2
        rw [List.getElem?_set_ne n1] at s1
        exact (far j a e1' o1 s1).elim
      · rw [List.getElem?_set_ne n1] at s1
        rw [List.getElem?_set_ne n2] at s2
        exact h.sep j k a b l' e1' e2' o1 o2 s1 s2
/-- a list of ours is changed -/
theorem Ok.put {s0 s : Sl} {o : HO} (h : Ok K H0 Γ σ F H) (e : Γ[i]? = some s0) (ho : s0.isOwn = true) (hσ : σ[i]? = some (some (.ref l)))
    (hs : (∃ ds xs, s = .own ds ∧ o = .lst xs ∧ DpAll K F xs ds) ∨ (∃ R F1, s = .obj R ∧ Same F1 F ∧ R l F1 o)) : Ok K H0 (Γ.set i s) σ F (upd H l o) := by
  obtain ⟨l', u, q, hl0, hlF, hlH⟩ := h.addr e ho
  rw [hσ] at q; cases q
  have far : ∀ (j : Nat) a l', i ≠ j → Γ[j]? = some a → a.isOwn = true → σ[j]? = some (some (.ref l')) → l' ≠ l := fun j a l' n e2 o2 q z => by
    subst z
    exact n (h.sep i j _ a l' e e2 ho o2 hσ q)
  refine ⟨by simp [h.len], fun j d q => ?_, fun j ds q => ?_, fun j R q => ?_, fun j k a b l' e1 e2 o1 o2 s1 s2 => ?_⟩
  · rcases get_set q with ⟨e1, e2, e3⟩ | ⟨e1, e2⟩
    · subst e2; rcases hs with ⟨_, _, z, _⟩ | ⟨_, _, z, _⟩ <;> cases z
    · exact h.val j d e2
  · rcases get_set q with ⟨e1, e2, e3⟩ | ⟨e1, e2⟩
    · subst e2 e1
      rcases hs with ⟨ds', xs, z, a, b⟩ | ⟨_, _, z, _⟩
      · cases z; subst a
        exact ⟨l, xs, hσ, hl0, hlF, upd_same, b⟩
      · cases z
    · obtain ⟨l', ys, a, b, c, dd, ee⟩ := h.own j ds e2
      exact ⟨l', ys, a, b, c, by rw [upd_ne (far j _ l' e1 e2 rfl a)]; exact dd, ee⟩
  · rcases get_set q with ⟨e1, e2, e3⟩ | ⟨e1, e2⟩
    · subst e2 e1
      rcases hs with ⟨ds', xs, z, a, b⟩ | ⟨R', F1, z, b⟩
      · cases z
      · cases z
        exact ⟨l, o, hσ, hl0, hlF, upd_same, F1, b⟩
    · obtain ⟨l', ys, a, b, c, dd, ee⟩ := h.obj j R e2
      exact ⟨l', ys, a, b, c, by rw [upd_ne (far j _ l' e1 e2 rfl a)]; exact dd, ee⟩
  · have own_of : ∀ (j : Nat) a, (Γ.set i s)[j]? = some a → a.isOwn = true → ∃ a', Γ[j]? = some a' ∧ a'.isOwn = true := fun j a q oo => by
      rcases get_set q with ⟨e1, e2, e3⟩ | ⟨e1, e2⟩
      · subst e1; exact ⟨s0, e, ho⟩
      · exact ⟨a, e2, oo⟩
    obtain ⟨a', h1, h2⟩ := own_of j a e1 o1
    obtain ⟨b', h3, h4⟩ := own_of k b e2 o2
    exact h.sep j k a' b' l' h1 h3 h2 h4 s1 s2
theorem Grow.put {o : HO} (g : Grow F0 H0 F H) (h0 : H0 l = none) (hF : F l = none) : Grow F0 H0 F (upd H l o) :=
  ⟨g.f, fun b u e => by rw [upd_ne (ne_of_none e h0)]; exact g.h b u e, fun b u e => by rw [upd_ne (ne_of_none e hF)]; exact g.s b u e, g.n⟩
/-- all lists of ours are frozen for good -/
theorem Ok.freeze (h : Ok K H0 Γ σ F H) (g : Grow F0 H0 F H) : ∃ F1, Same F F1 ∧ Grow F0 H0 F1 H ∧ Ok K H0 (frs Γ) σ F1 H := by
  classical
  let P : Addr → Prop := fun a => ∃ (i : Nat) (ds : List PD), Γ[i]? = some (.own ds) ∧ σ[i]? = some (some (.ref a))
  let F1 : Hp := fun a => if P a then H a else F a
  have hP : ∀ a, P a → F a = none ∧ H0 a = none := fun a ⟨i, ds, e, q⟩ => by
    obtain ⟨l, xs, a1, b, c, _⟩ := h.own i ds e
    rw [q] at a1; cases a1
    exact ⟨c, b⟩
  have s1 : Same F F1 := fun a o e => by
    have : ¬ P a := fun p => by have := (hP a p).1; rw [e] at this; cases this
    show (if P a then H a else F a) = some o
    rw [if_neg this]; exact e
  have s2 : Same F1 H := fun a o e => by
    have e : (if P a then H a else F a) = some o := e
    by_cases p : P a
    · rw [if_pos p] at e; exact e
    · rw [if_neg p] at e; exact g.s a o e
  have hn : ∀ a, F0 a = none → H0 a ≠ none → F1 a = none := fun a h1 h2 => by
    have : ¬ P a := fun p => h2 (hP a p).2
    show (if P a then H a else F a) = none
    rw [if_neg this]; exact g.n a h1 h2
  refine ⟨F1, s1, ⟨g.f.trans s1, g.h, s2, hn⟩, ⟨by rw [List.length_map]; exact h.len, fun i d e => ?_, fun i ds e => ?_, fun i R e => ?_, fun i j a b l e1 e2 o1 o2 => ?_⟩⟩
  · rw [List.getElem?_map] at e
    cases q : Γ[i]? with
    | none => rw [q] at e; cases e
    | some s =>
      rw [q] at e
      cases s with
      | val d' => cases e; obtain ⟨v, a, b⟩ := h.val i d q; exact ⟨v, a, dp_mono s1 b⟩
      | own ds =>
        cases e
        obtain ⟨l, xs, a, b, c, hl, k⟩ := h.own i ds q
        refine ⟨_, a, .lst (SqL.of ?_) (dpA_mono s1 k)⟩
        show (if P l then H l else F l) = _
        rw [if_pos ⟨i, ds, q, a⟩]; exact hl
      | _ => cases e
  · rw [List.getElem?_map] at e
    cases q : Γ[i]? with
    | none => rw [q] at e; cases e
    | some s => rw [q] at e; cases s <;> cases e
  · rw [List.getElem?_map] at e
    cases q : Γ[i]? with
    | none => rw [q] at e; cases e
    | some s => rw [q] at e; cases s <;> cases e
  · rw [List.getElem?_map] at e1
    cases q : Γ[i]? with
    | none => rw [q] at e1; cases e1
    | some s => rw [q] at e1; cases s <;> (cases e1; cases o1)
end

/-! ### statements -/
structure Post where
  nx : List Sl → Prop
  rt : PD → List Sl → Prop
  rf : List PD → Prop := fun _ => False
  ro : (Addr → Hp → HO → Prop) → Prop := fun _ => False
  bk : List Sl → Prop := fun _ => False
  ct : List Sl → Prop := fun _ => False
structure EndsD (K : PySem.W.Frag) (F0 H0 F : Hp) (P : Post) (D : Ends) : Prop where
  nx : ∀ Γ' σ' F' H', P.nx Γ' → Same F F' → Grow F0 H0 F' H' → Ok K H0 Γ' σ' F' H' → D.nx σ' H'
  bk : ∀ Γ' σ' F' H', P.bk Γ' → Same F F' → Grow F0 H0 F' H' → Ok K H0 Γ' σ' F' H' → D.bk σ' H'
  ct : ∀ Γ' σ' F' H', P.ct Γ' → Same F F' → Grow F0 H0 F' H' → Ok K H0 Γ' σ' F' H' → D.ct σ' H'
  rt : ∀ d Γ' v σ' F' H', P.rt d Γ' → Same F F' → Grow F0 H0 F' H' → Ok K H0 Γ' σ' F' H' → Dp K F' v d → D.rt v H'
  rf : ∀ ds p xs F' H', P.rf ds → Same F F' → Grow F0 H0 F' H' → H0 p = none → F' p = none → H' p = some (.lst xs) → DpAll K F' xs ds → D.rt (.ref p) H'
  ro : ∀ R p u F' H' F1, P.ro R → Same F F' → Grow F0 H0 F' H' → H0 p = none → F' p = none → H' p = some u → Same F1 F' → R p F1 u → D.rt (.ref p) H'
theorem EndsD.mono {K : PySem.W.Frag} {F0 H0 F F' : Hp} {P : Post} {D : Ends} (h : EndsD K F0 H0 F P D) (s : Same F F') : EndsD K F0 H0 F' P D :=
  ⟨fun _ _ _ _ a b => h.nx _ _ _ _ a (s.trans b), fun _ _ _ _ a b => h.bk _ _ _ _ a (s.trans b), fun _ _ _ _ a b => h.ct _ _ _ _ a (s.trans b), fun _ _ _ _ _ _ a b => h.rt _ _ _ _ _ _ a (s.trans b), fun _ _ _ _ _ a b => h.rf _ _ _ _ _ a (s.trans b), fun _ _ _ _ _ _ a b => h.ro _ _ _ _ _ _ a (s.trans b)⟩
def Tr (K : PySem.W.Frag) (t : TS) (Γ : List Sl) (P : Post) : Prop := ∀ (F0 H0 F : Hp) (σ : L2.St) (H : Hp) (D : Ends), Grow F0 H0 F H → Ok K H0 Γ σ F H → EndsD K F0 H0 F P D → t D σ H
def semS (X : Cx) (st : Stmt) : TS := fun D σ H => ∀ (pins : List (Addr × Obj)) (s : Shared), Inv X pins σ H s → wpAny (model X.prog X.w) X.A (exec st X.env) (SP X pins D) X.xe s
def semSs (X : Cx) (sts : List Stmt) : TS := fun D σ H => ∀ (pins : List (Addr × Obj)) (s : Shared), Inv X pins σ H s → wpAny (model X.prog X.w) X.A (execs sts X.env) (SP X pins D) X.xe s
theorem ps_sem (X : Cx) {st : Stmt} : PS X st (semS X st) := ⟨fun pins s σ H D I h => h pins s I⟩
theorem pss_sem (X : Cx) {sts : List Stmt} : PSs X sts (semSs X sts) := ⟨fun pins s σ H D I h => h pins s I⟩
def S (X : Cx) (st : Stmt) (Γ : List Sl) (P : Post) : Prop := Tr X.K (semS X st) Γ P
def Ss (X : Cx) (sts : List Stmt) (Γ : List Sl) (P : Post) : Prop := Tr X.K (semSs X sts) Γ P
section
variable {X : Cx} {st : Stmt} {sts a b : List Stmt} {Γ Γ' Γ1 : List Sl} {P P' : Post} {e c : Expr} {d : PD} {ds : List PD} {pos p : Pos} {z : Str}
theorem S.mk {t : TS} (h : PS X st t) (k : Tr X.K t Γ P) : S X st Γ P := fun F0 H0 F σ H D g o q pins s I => h.run pins s σ H D I (k F0 H0 F σ H D g o q)
theorem Ss.mk {t : TS} (h : PSs X sts t) (k : Tr X.K t Γ P) : Ss X sts Γ P := fun F0 H0 F σ H D g o q pins s I => h.run pins s σ H D I (k F0 H0 F σ H D g o q)
theorem Ss.nil (h : P.nx Γ) : Ss X [] Γ P := Ss.mk pss_nil fun F0 H0 F σ H D g o q => q.nx Γ σ F H h (Same.refl F) g o
/-- one statement, then the rest from what it leaves -/
theorem Ss.cons {M : List Sl → Prop} (h : S X st Γ { P with nx := M }) (k : ∀ Γ1, M Γ1 → Ss X sts Γ1 P) : Ss X (st :: sts) Γ P :=
  Ss.mk (pss_cons (ps_sem X) (pss_sem X)) fun F0 H0 F σ H D g o q => h F0 H0 F σ H { D with nx := semSs X sts D } g o
    ⟨fun Γ1 σ1 F1 H1 m s1 g1 o1 => k Γ1 m F0 H0 F1 σ1 H1 D g1 o1 (q.mono s1), q.bk, q.ct, q.rt, q.rf, q.ro⟩
theorem Ss.one (h : S X st Γ P) : Ss X [st] Γ P := Ss.mk (pss_one (ps_sem X)) h
theorem S.imp (h : S X st Γ P) (n : ∀ Γ, P.nx Γ → P'.nx Γ) (r : ∀ d Γ, P.rt d Γ → P'.rt d Γ) (r2 : ∀ d, P.rf d → P'.rf d) (r3 : ∀ d, P.ro d → P'.ro d) (b : ∀ Γ, P.bk Γ → P'.bk Γ) (c : ∀ Γ, P.ct Γ → P'.ct Γ) : S X st Γ P' :=
  fun F0 H0 F σ H D g o q => h F0 H0 F σ H D g o ⟨fun _ _ _ _ a => q.nx _ _ _ _ (n _ a), fun _ _ _ _ a => q.bk _ _ _ _ (b _ a), fun _ _ _ _ a => q.ct _ _ _ _ (c _ a), fun _ _ _ _ _ _ a => q.rt _ _ _ _ _ _ (r _ _ a), fun _ _ _ _ _ a => q.rf _ _ _ _ _ (r2 _ a), fun _ _ _ _ _ _ a => q.ro _ _ _ _ _ _ (r3 _ a)⟩
/-- slots are forgotten ahead of what follows -/
theorem Ss.weak (h : Ss X sts Γ' P) (hl : Γ'.length = Γ.length := by rfl) (w : ∀ (i : Nat) s, Γ'[i]? = some s → s = .any ∨ Γ[i]? = some s) : Ss X sts Γ P :=
  fun F0 H0 F σ H D g o q => h F0 H0 F σ H D g (o.weak hl w) q
theorem S.never (h : False) : S X st Γ P := h.elim
theorem Ss.never (h : False) : Ss X sts Γ P := h.elim
theorem S.doc {x j} {pos pos'} (h : P.nx Γ) : S X (.Expr (.Constant (.str x) j pos) pos') Γ P := S.mk ps_doc fun F0 H0 F σ H D g o q => q.nx Γ σ F H h (Same.refl F) g o
theorem S.pass (h : P.nx Γ) : S X (.Pass pos) Γ P := S.mk ps_pass fun F0 H0 F σ H D g o q => q.nx Γ σ F H h (Same.refl F) g o
theorem S.brk (h : P.bk Γ) : S X (.Break pos) Γ P := S.mk ps_break fun F0 H0 F σ H D g o q => q.bk Γ σ F H h (Same.refl F) g o
theorem S.drop (h : E X e (vals Γ) d) (k : P.nx Γ) (hs : swapsWith e none pos.line X.env = pure false := by rfl) : S X (.Expr e pos) Γ P :=
  S.mk (ps_expr (pe_sem X) hs) fun F0 H0 F σ H D g o q => h F σ H g.s o.vals _ fun v F1 H1 g1 hd => q.nx Γ σ F1 H1 k g1.f (g.trans g1) (o.grow g1)
def scalD : PD → Bool
  | .none => true
  | .bool _ => true
  | .int _ => true
  | _ => false
theorem dp_scal {K : PySem.W.Frag} {H H' : Hp} {v : V} {d : PD} (s : scalD d = true) (h : Dp K H v d) : Dp K H' v d := by
  cases h with
  | non => exact .non
  | bl b => exact .bl b
  | int i => exact .int i
  | _ => cases s
theorem dpA_scal {K : PySem.W.Frag} {H H' : Hp} {vs : List V} {ds : List PD} (s : ds.all scalD = true) (h : DpAll K H vs ds) : DpAll K H' vs ds := by
  induction ds generalizing vs with
  | nil => cases h; exact .nil
  | cons d ds ih =>
    rw [List.all_cons, Bool.and_eq_true] at s
    cases h with | cons h hs => exact .cons (dp_scal s.1 h) (ih s.2 hs)
/-- x = e -/
theorem S.asg (i : Nat) (hN : X.N.Nodup) (h : E X e (vals Γ) d) (k : P.nx (Γ.set i (.val d))) (hi : X.N[i]? = some z := by rfl) (hx : Loc X.env.scope z := by first | exact Or.inl rfl | exact Or.inr rfl)
    (hs : swapsWith e (some (.Name z p)) pos.line X.env = pure false := by rfl) (hf : X.fn z = true ∨ X.env.scope.names.lookup z = some .local := by first | exact .inl rfl | exact .inr rfl) : S X (.Assign [.Name z p] e pos) Γ P :=
  S.mk (ps_set hN hi hx (pe_sem X) hs hf) fun F0 H0 F σ H D g o q => h F σ H g.s o.vals _ fun v F1 H1 g1 hd => q.nx _ _ F1 H1 k g1.f (g.trans g1) ((o.grow g1).setVal hd i)
/-- x = e, e a scalar that may look at our lists -/
theorem S.asgZ (i : Nat) (hN : X.N.Nodup) (h : E X e (frz Γ) d) (hz : scalD d = true) (k : P.nx (Γ.set i (.val d))) (hi : X.N[i]? = some z := by rfl) (hx : Loc X.env.scope z := by first | exact Or.inl rfl | exact Or.inr rfl)
    (hs : swapsWith e (some (.Name z p)) pos.line X.env = pure false := by rfl) (hf : X.fn z = true ∨ X.env.scope.names.lookup z = some .local := by first | exact .inl rfl | exact .inr rfl) : S X (.Assign [.Name z p] e pos) Γ P :=
  S.mk (ps_set hN hi hx (pe_sem X) hs hf) fun F0 H0 F σ H D g o q => h H σ H (Same.refl H) (o.frz g.s) _ fun v F1 H1 g1 hd => by
    have g2 : Grow F H F H1 := Grow.heap g.s g1.h
    exact q.nx _ _ F H1 k (Same.refl F) (g.trans g2) ((o.grow g2).setVal (dp_scal hz hd) i)
/-- x = e, all our lists frozen for good -/
theorem S.asgFr (i : Nat) (hN : X.N.Nodup) (h : E X e (vals (frs Γ)) d) (k : P.nx ((frs Γ).set i (.val d))) (hi : X.N[i]? = some z := by rfl) (hx : Loc X.env.scope z := by first | exact Or.inl rfl | exact Or.inr rfl)
    (hs : swapsWith e (some (.Name z p)) pos.line X.env = pure false := by rfl) (hf : X.fn z = true ∨ X.env.scope.names.lookup z = some .local := by first | exact .inl rfl | exact .inr rfl) : S X (.Assign [.Name z p] e pos) Γ P :=
  S.mk (ps_set hN hi hx (pe_sem X) hs hf) fun F0 H0 F σ H D g o q => by
    obtain ⟨F1, s1, g1, o1⟩ := o.freeze g
    exact h F1 σ H g1.s o1.vals _ fun v F2 H2 g2 hd => q.nx _ _ F2 H2 k (s1.trans g2.f) (g1.trans g2) ((o1.grow g2).setVal hd i)
/-- x = a new list, ours -/
theorem S.asgF (i : Nat) (hN : X.N.Nodup) (h : EF X e (vals Γ) ds) (k : P.nx (Γ.set i (.own ds))) (hi : X.N[i]? = some z := by rfl) (hx : Loc X.env.scope z := by first | exact Or.inl rfl | exact Or.inr rfl)
    (hs : swapsWith e (some (.Name z p)) pos.line X.env = pure false := by rfl) (hf : X.fn z = true ∨ X.env.scope.names.lookup z = some .local := by first | exact .inl rfl | exact .inr rfl) : S X (.Assign [.Name z p] e pos) Γ P :=
  S.mk (ps_set hN hi hx (pe_sem X) hs hf) fun F0 H0 F σ H D g o q => h F σ H g.s o.vals _ fun l xs F1 H1 g1 hl hF hH hd =>
    q.nx _ _ F1 H1 k g1.f (g.trans g1) (o.setOwn g1 hl (g.fresh hl) hF (.inl ⟨ds, xs, rfl, hH, hd⟩) i)
/-- x = [e for ..], ours -/
theorem S.asgLc (i : Nat) {elt tg iter : Expr} {ifs : List Expr} {scope : Scope} {lpos : Pos} (hN : X.N.Nodup) (h : LC X elt tg iter ifs scope (vals Γ) ds) (k : P.nx (Γ.set i (.own ds))) (hi : X.N[i]? = some z := by rfl) (hx : X.env.scope.names.lookup z = some .local := by rfl)
    (hsw : swapsWith (.ListComp elt [⟨tg, iter, ifs, 0⟩] scope lpos) (some (.Name z p)) pos.line X.env = pure true := by exact sw_true rfl rfl rfl (by decide +kernel)) (hc : X.calm = true := by rfl) (hs : ∀ x, foldedSetIterable iter X.env x = pure x := by intro _; rfl) :
    S X (.Assign [.Name z p] (.ListComp elt [⟨tg, iter, ifs, 0⟩] scope lpos) pos) Γ P := by
  obtain ⟨wi, g, tt, te, own, h1, h2, h3, h4, h5, h6⟩ := h.ex
  exact S.mk (ps_setLc hc hN hi hx hsw h1 h2 h3 h4 h5 hs) fun F0 H0 F σ H D gr o q => h6 F σ H gr.s o.vals _ fun l xs F1 H1 g1 hl hF hH hd =>
    q.nx _ _ F1 H1 k g1.f (gr.trans g1) (o.setOwn g1 hl (gr.fresh hl) hF (.inl ⟨ds, xs, rfl, hH, hd⟩) i)
/-- .. frozen -/
theorem S.asgLcV (i : Nat) {elt tg iter : Expr} {ifs : List Expr} {scope : Scope} {lpos : Pos} (hN : X.N.Nodup) (h : LC X elt tg iter ifs scope (vals Γ) ds) (k : P.nx (Γ.set i (.val (.list ds)))) (hi : X.N[i]? = some z := by rfl) (hx : X.env.scope.names.lookup z = some .local := by rfl)
    (hsw : swapsWith (.ListComp elt [⟨tg, iter, ifs, 0⟩] scope lpos) (some (.Name z p)) pos.line X.env = pure true := by exact sw_true rfl rfl rfl (by decide +kernel)) (hc : X.calm = true := by rfl) (hs : ∀ x, foldedSetIterable iter X.env x = pure x := by intro _; rfl) :
    S X (.Assign [.Name z p] (.ListComp elt [⟨tg, iter, ifs, 0⟩] scope lpos) pos) Γ P := by
  obtain ⟨wi, g, tt, te, own, h1, h2, h3, h4, h5, h6⟩ := h.ex
  exact S.mk (ps_setLc hc hN hi hx hsw h1 h2 h3 h4 h5 hs) fun F0 H0 F σ H D gr o q => (EvF.ev h6) F σ H gr.s o.vals _ fun v F1 H1 g1 hd =>
    q.nx _ _ F1 H1 k g1.f (gr.trans g1) ((o.grow g1).setVal hd i)
/-- x op= e, ints -/
theorem S.aug (i : Nat) {op : Operator} {r : R2} {d1 d2 d3 : PD} (hN : X.N.Nodup) (ho : OpR X (inplaceOp op) r) (hx : (vals Γ)[i]? = some (some d1)) (h : E X e (vals Γ) d2) (hr : RV X.K r d1 d2 d3) (k : P.nx (Γ.set i (.val d3))) (hi : X.N[i]? = some z := by rfl) (hl : Loc X.env.scope z := by first | exact Or.inl rfl | exact Or.inr rfl)
    (hf : X.fn z = true ∨ X.env.scope.names.lookup z = some .local := by first | exact .inl rfl | exact .inr rfl) : S X (.AugAssign (.Name z p) op e pos) Γ P :=
  S.mk (ps_aug hN hi hl (pe_sem X) (show PIp X op r from ho) hf) fun F0 H0 F σ H D g o q => by
    obtain ⟨x, hxs, hd1⟩ := o.vals.at_ i d1 hx
    exact ⟨x, hxs, h F σ H g.s o.vals _ fun v F1 H1 g1 hd => hr F1 H1 x v g1.s (dp_mono g1.f hd1) hd _ fun w F2 H2 g2 hd3 => q.nx _ _ F2 H2 k (g1.f.trans g2.f) ((g.trans g1).trans g2) (((o.grow g1).grow g2).setVal hd3 i)⟩
/-- a, b = e, f (plain locals) -/
theorem S.par (i j : Nat) {x y : Str} {ea eb : Expr} {da db : PD} {px py pt : Pos} {kt k2 pt2} (hN : X.N.Nodup) (h : A X [ea, eb] (vals Γ) [da, db]) (k : P.nx ((Γ.set i (.val da)).set j (.val db))) (hij : i ≠ j := by decide) (hi : X.N[i]? = some x := by rfl) (hj : X.N[j]? = some y := by rfl)
    (hx : X.env.scope.names.lookup x = some .local := by rfl) (hy : X.env.scope.names.lookup y = some .local := by rfl)
    (hw : swappedStores [.Tuple [.Name x px, .Name y py] kt pt] (.Tuple [ea, eb] k2 pt2) X.env = pure (some [x, y]) := by rfl)
    (hs : swapsWithSole [.Tuple [.Name x px, .Name y py] kt pt] (.Tuple [ea, eb] k2 pt2) pos.line X.env = pure false := by rfl) (hc : X.calm = true := by rfl) :
    S X (.Assign [.Tuple [.Name x px, .Name y py] kt pt] (.Tuple [ea, eb] k2 pt2) pos) Γ P :=
  S.mk (ps_par hc hN hi hj hij hx hy (pa_sem X) hw hs) fun F0 H0 F σ H D g o q => h F σ H g.s o.vals _ fun vs F1 H1 g1 hd => by
    cases hd with
    | cons h1 hd =>
      cases hd with
      | cons h2 hd =>
        cases hd
        exact ⟨_, _, rfl, q.nx _ _ F1 H1 k g1.f (g.trans g1) (((o.grow g1).setVal h1 i).setVal h2 j)⟩
/-- tests -/
theorem S.ite {x : Bool} (hc : T X c (frz Γ) x) (h1 : x = true → Ss X a Γ P) (h2 : x = false → Ss X b Γ P) : S X (.If c a b pos) Γ P :=
  S.mk (ps_if (pt_sem X) (pss_sem X) (pss_sem X)) fun F0 H0 F σ H D g o q => hc H σ H (Same.refl H) (o.frz g.s) _ fun F1 H1 g1 => by
    have g2 : Grow F H F H1 := Grow.heap g.s g1.h
    cases x with
    | true => exact L2.iteT (h1 rfl F0 H0 F σ H1 D (g.trans g2) (o.grow g2) q)
    | false => exact L2.iteF (h2 rfl F0 H0 F σ H1 D (g.trans g2) (o.grow g2) q)
theorem S.ret (h : E X e (vals Γ) d) (k : P.rt d Γ) : S X (.Return (some e) pos) Γ P :=
  S.mk (ps_ret (pe_sem X)) fun F0 H0 F σ H D g o q => h F σ H g.s o.vals _ fun v F1 H1 g1 hd => q.rt d Γ v σ F1 H1 k g1.f (g.trans g1) (o.grow g1) hd
theorem S.retFr (h : E X e (vals (frs Γ)) d) (k : P.rt d (frs Γ)) : S X (.Return (some e) pos) Γ P :=
  S.mk (ps_ret (pe_sem X)) fun F0 H0 F σ H D g o q => by
    obtain ⟨F1, s1, g1, o1⟩ := o.freeze g
    exact h F1 σ H g1.s o1.vals _ fun v F2 H2 g2 hd => q.rt d _ v σ F2 H2 k (s1.trans g2.f) (g1.trans g2) (o1.grow g2) hd
theorem S.retF (h : EF X e (vals Γ) ds) (k : P.rf ds) : S X (.Return (some e) pos) Γ P :=
  S.mk (ps_ret (pe_sem X)) fun F0 H0 F σ H D g o q => h F σ H g.s o.vals _ fun l xs F1 H1 g1 hl hF hH hd => q.rf ds l xs F1 H1 k g1.f (g.trans g1) (g.fresh hl) hF hH hd
theorem S.while_ (hp : PassesOwn (model X.prog X.w) X.A X.env X.xe) (W : Nat → List Sl → Prop) (m0 : Nat) (h0 : W m0 Γ)
    (hs : ∀ m Γ1, W m Γ1 → ∃ x, T X c (frz Γ1) x ∧ (x = true → Ss X a Γ1 { P with nx := fun Γ2 => ∃ m', m' < m ∧ W m' Γ2, ct := fun Γ2 => ∃ m', m' < m ∧ W m' Γ2, bk := P.nx }) ∧ (x = false → P.nx Γ1)) : S X (.While c a [] pos) Γ P :=
  S.mk (ps_while hp (pt_sem X) (pss_sem X)) fun F0 H0 F σ H D g o q => by
    refine ⟨fun m σ1 H1 => ∃ Γ1 F1, W m Γ1 ∧ Same F F1 ∧ Grow F0 H0 F1 H1 ∧ Ok X.K H0 Γ1 σ1 F1 H1, ⟨m0, Γ, F, h0, Same.refl F, g, o⟩, ?_⟩
    rintro m σ1 H1 ⟨Γ1, F1, w, s1, g1, o1⟩
    obtain ⟨x, ht, hx1, hx2⟩ := hs m Γ1 w
    refine ht H1 σ1 H1 (Same.refl H1) (o1.frz g1.s) _ fun F2 H2 g2 => ?_
    have g3 : Grow F1 H1 F1 H2 := Grow.heap g1.s g2.h
    cases x with
    | true =>
      refine L2.iteT ⟨fun σ' H' => ∃ m', m' < m ∧ ∃ Γ1 F1, W m' Γ1 ∧ Same F F1 ∧ Grow F0 H0 F1 H' ∧ Ok X.K H0 Γ1 σ' F1 H', fun σ' H' z => z, ?_⟩
      exact hx1 rfl F0 H0 F1 σ1 H2 _ (g1.trans g3) (o1.grow g3) ⟨fun Γ' σ' F' H' ⟨m', hm, w'⟩ s' g' o' => ⟨m', hm, Γ', F', w', s1.trans s', g', o'⟩, fun Γ' σ' F' H' z s' g' o' => q.nx Γ' σ' F' H' z (s1.trans s') g' o',
        fun Γ' σ' F' H' ⟨m', hm, w'⟩ s' g' o' => ⟨m', hm, Γ', F', w', s1.trans s', g', o'⟩, fun d Γ' v σ' F' H' z s' => q.rt d Γ' v σ' F' H' z (s1.trans s'), fun d p xs F' H' z s' => q.rf d p xs F' H' z (s1.trans s'), fun R p u F' H' F1 z s' => q.ro R p u F' H' F1 z (s1.trans s')⟩
    | false => exact L2.iteF (q.nx Γ1 σ1 F1 H2 (hx2 rfl) s1 (g1.trans g3) (o1.grow g3))
def setS (Γ : List Sl) : List (Nat × PD) → List Sl
  | [] => Γ
  | p :: r => setS (Γ.set p.1 (.val p.2)) r
theorem Ok.setAll {K : PySem.W.Frag} {H0 F H : Hp} : ∀ {as : List (Nat × PD)} {vs : List (Nat × V)} {σ : L2.St} {Γ : List Sl}, AsOk K F as vs → Ok K H0 Γ σ F H → Ok K H0 (setS Γ as) (Ck.setAll σ vs) F H
  | _, _, _, _, .nil, h => h
  | _, _, _, _, .cons (a := p) (b := q) h hs, o => by
    unfold Ck.setAll setS
    obtain ⟨e, d⟩ := h
    have := o.setVal d p.1
    rw [← e]
    exact Ok.setAll hs this
/-- for x in ..: W by the turn -/
theorem S.for_ {tg iter : Expr} (hp : PassesOwn (model X.prog X.w) X.A X.env X.xe) (hi : IT X tg iter (vals Γ) ds) (W : Nat → List Sl → Prop) (h0 : W 0 Γ)
    (hs : ∀ k d Γ1, ds[k]? = some d → W k Γ1 → ∃ as, G X tg d as ∧ Ss X a (setS Γ1 as) { P with nx := W (k + 1), ct := W (k + 1), bk := P.nx }) (hd : ∀ Γ1, W ds.length Γ1 → P.nx Γ1)
    (hc : X.calm = true := by rfl) (hfs : ∀ x, foldedSetIterable iter X.env x = pure x := by intro _; rfl) : S X (.For tg iter a [] pos) Γ P :=
  S.mk (ps_for hp hc (pi_sem X) (pg_sem X) (pss_sem X) hfs) fun F0 H0 F σ H D g o q => hi F σ H g.s o.vals _ fun J F1 H1 g1 wk => by
    have w : Walk J ds.length (fun H => Same F1 H) (fun i H x H' => ∀ F2 d, ds[i]? = some d → Same F1 F2 → Same F2 H → ∃ F3, Grow F2 H F3 H' ∧ Dp X.K F3 x d) :=
      ⟨fun i H hi s => wk.go i H hi s, fun H s => wk.stop H s, fun i H x H' hi s y F2 d hd s1 s2 => wk.yld i H x H' d F2 hd s1 s2 y⟩
    refine for_it w (fun i σ' H' => ∃ Γ1 F2, W i Γ1 ∧ Same F1 F2 ∧ Grow F0 H0 F2 H' ∧ Ok X.K H0 Γ1 σ' F2 H') ⟨Γ, F1, h0, Same.refl F1, g.trans g1, o.grow g1⟩ ?_ ?_ ?_
    · rintro i σ' H' _ ⟨Γ1, F2, _, s2, g2, _⟩
      exact s2.trans g2.s
    · rintro i x σ' H' H'' hi ⟨Γ1, F2, w1, s2, g2, o2⟩ y
      have hdi : ds[i]? = some ds[i] := by simp [hi]
      obtain ⟨F3, g3, hx⟩ := y F2 ds[i] hdi s2 g2.s
      obtain ⟨as, hg, hb⟩ := hs i ds[i] Γ1 hdi w1
      refine hg F3 σ' H'' x g3.s hx _ fun vs hvs => ?_
      refine hb F0 H0 F3 _ H'' _ (g2.trans g3) ((o2.grow g3).setAll hvs) ⟨fun Γ' σ' F' H' w' s' g' o' => ⟨Γ', F', w', (s2.trans g3.f).trans s', g', o'⟩, fun Γ' σ' F' H' z s' g' o' => q.nx Γ' σ' F' H' z (((g1.f.trans s2).trans g3.f).trans s') g' o',
        fun Γ' σ' F' H' w' s' g' o' => ⟨Γ', F', w', (s2.trans g3.f).trans s', g', o'⟩, fun d Γ' v σ' F' H' z s' => q.rt d Γ' v σ' F' H' z (((g1.f.trans s2).trans g3.f).trans s'), fun d p xs F' H' z s' => q.rf d p xs F' H' z (((g1.f.trans s2).trans g3.f).trans s'), fun R p u F' H' F1 z s' => q.ro R p u F' H' F1 z (((g1.f.trans s2).trans g3.f).trans s')⟩
    · rintro σ' H' ⟨Γ1, F2, w1, s2, g2, o2⟩
      exact q.nx Γ1 σ' F2 H' (hd Γ1 w1) (g1.f.trans s2) g2 o2
end
end Ck

set_option Elab.async false
set_option linter.all false
set_option maxRecDepth 100000
/-! The layer, fourth part: equality of data, operations on lists and tuples, our lists changed, promises of defs. -/
namespace Ck
open PySem PySem.Spec PyProof.Rows L2

/-! ### how values are told as data -/
structure Enc {α : Type} [DecidableEq α] (n : Nat) (enc : α → PD) : Prop where
  eqv : ∀ a b, PyData.eqv (enc a) (enc b) = decide (a = b)
  lay : ∀ a, (enc a).canLay0 = true
  dep : ∀ a, (enc a).depth ≤ n
section
variable {α β : Type} [DecidableEq α] [DecidableEq β] {n m : Nat} {f : α → PD} {g : β → PD}
theorem Enc.nat : Enc 0 Ck.nat := ⟨fun a b => by show ((a : Int) == (b : Int)) = _; by_cases h : a = b <;> simp [h] <;> omega, fun a => by simp [PyData.canLay0], fun a => by simp [PyData.depth]⟩
theorem Enc.mono (h : Enc n f) (k : n ≤ m) : Enc m f := ⟨h.eqv, h.lay, fun a => Nat.le_trans (h.dep a) k⟩
theorem eqvAll_map (h : Enc n f) : ∀ xs ys : List α, PyData.eqvAll (xs.map f) (ys.map f) = decide (xs = ys)
  | [], [] => by simp [PyData.eqvAll]
  | x :: xs, y :: ys => by simp only [List.map_cons, PyData.eqvAll]; rw [h.eqv, eqvAll_map h]; by_cases h1 : x = y <;> simp [h1]
  | [], _ :: _ => by simp [PyData.eqvAll]
  | _ :: _, [] => by simp [PyData.eqvAll]
theorem layAll_map (h : Enc n f) : ∀ xs : List α, PyData.canLayAll0 (xs.map f) = true
  | [] => by simp [PyData.canLayAll0]
  | x :: xs => by simp only [List.map_cons, PyData.canLayAll0]; rw [h.lay, layAll_map h]; rfl
theorem depAll_map (h : Enc n f) : ∀ xs : List α, PyData.depthAll (xs.map f) ≤ n
  | [] => by simp [PyData.depthAll]
  | x :: xs => by simp only [List.map_cons, PyData.depthAll]; have := h.dep x; have := depAll_map h xs; omega
theorem Enc.list (h : Enc n f) : Enc (n + 1) fun xs : List α => PyData.list (xs.map f) :=
  ⟨fun a b => by show PyData.eqv (.list _) (.list _) = _; simp only [PyData.eqv]; exact eqvAll_map h a b, fun a => by simp only [PyData.canLay0]; exact layAll_map h a, fun a => by simp only [PyData.depth]; have := depAll_map h a; omega⟩
theorem Enc.tuple (h : Enc n f) : Enc (n + 1) fun xs : List α => PyData.tuple (xs.map f) :=
  ⟨fun a b => by show PyData.eqv (.tuple _) (.tuple _) = _; simp only [PyData.eqv]; exact eqvAll_map h a b, fun a => by simp only [PyData.canLay0]; exact layAll_map h a, fun a => by simp only [PyData.depth]; have := depAll_map h a; omega⟩
theorem Enc.pair (h : Enc n f) (k : Enc m g) : Enc (max n m + 1) fun p : α × β => PyData.tuple [f p.1, g p.2] :=
  ⟨fun a b => by
    obtain ⟨a1, a2⟩ := a; obtain ⟨b1, b2⟩ := b
    show PyData.eqv (.tuple _) (.tuple _) = _
    simp only [PyData.eqv, PyData.eqvAll]
    rw [h.eqv, k.eqv]
    by_cases h1 : a1 = b1 <;> by_cases h2 : a2 = b2 <;> simp [h1, h2],
   fun a => by simp only [PyData.canLay0, PyData.canLayAll0]; rw [h.lay, k.lay]; rfl, fun a => by simp only [PyData.depth, PyData.depthAll]; have := h.dep a.1; have := k.dep a.2; omega⟩
theorem Enc.shaped (h : Enc n f) (hn : n ≤ 64 := by decide) (a : α) : SeqAt.shaped (f a) = true := by
  show ((f a).canLay0 && decide ((f a).depth ≤ 64)) = true
  have := h.dep a
  rw [h.lay, decide_eq_true (by omega)]; rfl
theorem any_eqv (h : Enc n f) (xs : List α) (a : α) : ((xs.map f).any fun z => PyData.eqv z (f a)) = decide (a ∈ xs) := by
  rw [List.any_map]
  induction xs with
  | nil => simp
  | cons x xs ih =>
    rw [List.any_cons, ih]
    show (PyData.eqv (f x) (f a) || _) = _
    rw [h.eqv]
    by_cases h1 : x = a
    · subst h1; simp
    · have : ¬ a = x := fun e => h1 e.symm
      simp [h1, this]
end
theorem rv_eqD {K : PySem.W.Frag} {a b : PD} (ha : SeqAt.shaped a = true) (hb : SeqAt.shaped b = true) : RV K (rEqD K) a b (.bool (PyData.eqv a b)) := fun F H x y s hx hy Q q => ⟨a, b, dp_mono s hx, dp_mono s hy, ha, hb, q _ F H (Grow.refl s) (.bl _)⟩
theorem rv_neD {K : PySem.W.Frag} {a b : PD} (ha : SeqAt.shaped a = true) (hb : SeqAt.shaped b = true) : RV K (rNeD K) a b (.bool (!PyData.eqv a b)) := fun F H x y s hx hy Q q => ⟨a, b, dp_mono s hx, dp_mono s hy, ha, hb, q _ F H (Grow.refl s) (.bl _)⟩
section
variable {X : Cx} {e e1 e2 e3 : Expr} {es : List Expr} {Γ : List (Option PD)} {α : Type} [DecidableEq α] {f : α → PD} {x y : α} {xs : List α} {m n i j : Nat} {d : PD} {ds bs : List PD} {pos p : Pos}
theorem T.eqD (h : Enc n f) (hu : X.A.units + 64 < cLine) (ha : E X e1 Γ (f x)) (hb : E X e2 Γ (f y)) (hn : n ≤ 64 := by decide) : T X (.Compare e1 [.Eq] [e2] pos) Γ (decide (x = y)) :=
  (T.cmp (op_eqD hu) (rv_eqD (h.shaped hn x) (h.shaped hn y)) ha hb).is (h.eqv x y)
theorem T.neD (h : Enc n f) (hu : X.A.units + 64 < cLine) (ha : E X e1 Γ (f x)) (hb : E X e2 Γ (f y)) (hn : n ≤ 64 := by decide) : T X (.Compare e1 [.NotEq] [e2] pos) Γ (!decide (x = y)) :=
  (T.cmp (op_neD hu) (rv_neD (h.shaped hn x) (h.shaped hn y)) ha hb).is (by rw [h.eqv x y])
theorem E.eqD (h : Enc n f) (hu : X.A.units + 64 < cLine) (ha : E X e1 Γ (f x)) (hb : E X e2 Γ (f y)) (hn : n ≤ 64 := by decide) : E X (.Compare e1 [.Eq] [e2] pos) Γ (.bool (decide (x = y))) :=
  (E.cmp (op_eqD hu) (rv_eqD (h.shaped hn x) (h.shaped hn y)) ha hb).is (by rw [h.eqv x y])
theorem E.neD (h : Enc n f) (hu : X.A.units + 64 < cLine) (ha : E X e1 Γ (f x)) (hb : E X e2 Γ (f y)) (hn : n ≤ 64 := by decide) : E X (.Compare e1 [.NotEq] [e2] pos) Γ (.bool (!decide (x = y))) :=
  (E.cmp (op_neD hu) (rv_neD (h.shaped hn x) (h.shaped hn y)) ha hb).is (by rw [h.eqv x y])
/-- x in list -/
theorem T.inL (h : Enc n f) (hu : X.A.units + 65 < cLine) (ha : E X e1 Γ (f x)) (hb : E X e2 Γ (.list (xs.map f))) (hn : n ≤ 63 := by decide) (hm : behindInMarks .In e2 = false := by rfl) : T X (.Compare e1 [.In] [e2] pos) Γ (decide (x ∈ xs)) :=
  T.cmp (op_inD hu) (fun F H u v s hx hy Q q => ⟨f x, _, dp_mono s hx, dp_mono s hy, h.shaped (by omega) x, h.list.shaped (by omega) xs, q _ F H (Grow.refl s) (by rw [any_eqv h]; exact .bl _)⟩) ha hb hm
theorem T.niL (h : Enc n f) (hu : X.A.units + 65 < cLine) (ha : E X e1 Γ (f x)) (hb : E X e2 Γ (.list (xs.map f))) (hn : n ≤ 63 := by decide) (hm : behindInMarks .NotIn e2 = false := by rfl) : T X (.Compare e1 [.NotIn] [e2] pos) Γ (!decide (x ∈ xs)) :=
  T.cmp (op_notInD hu) (fun F H u v s hx hy Q q => ⟨f x, _, dp_mono s hx, dp_mono s hy, h.shaped (by omega) x, h.list.shaped (by omega) xs, q _ F H (Grow.refl s) (by rw [any_eqv h]; exact .bl _)⟩) ha hb hm
/-- x not in a tuple -/
def rNotInDT (K : PySem.W.Frag) : R2 := fun x y H Q => ∃ d ds, Dp K H x d ∧ Dp K H y (.tuple ds) ∧ SeqAt.shaped d = true ∧ SeqAt.shaped (.tuple ds) = true ∧ Q (.bl (!ds.any fun z => PyData.eqv z d)) H
theorem op_notInDT (hu : X.A.units + 65 < cLine) : OpR X (compareOp .NotIn) (rNotInDT X.K) := by
  intro pins s σ H x y v u Q I rx ry h
  obtain ⟨d, ds, hd, he, sd, se, q⟩ := h
  obtain ⟨as, r1⟩ := Dp.reads I d x v hd rx
  obtain ⟨bs, r2⟩ := Dp.reads I (.tuple ds) y u he ry
  exact SeqAt.notIn_tuple_reads r2 r1 (SeqAt.canLay_of_shaped se) (SeqAt.canLay_of_shaped sd) (room_in_shaped sd hu) ⟨.bl _, H, I, rfl, q⟩
theorem T.niT (h : Enc n f) (hu : X.A.units + 65 < cLine) (ha : E X e1 Γ (f x)) (hb : E X e2 Γ (.tuple (xs.map f))) (hn : n ≤ 63 := by decide) (hm : behindInMarks .NotIn e2 = false := by rfl) : T X (.Compare e1 [.NotIn] [e2] pos) Γ (!decide (x ∈ xs)) :=
  T.cmp (op_notInDT hu) (fun F H u v s hx hy Q q => ⟨f x, _, dp_mono s hx, dp_mono s hy, h.shaped (by omega) x, h.tuple.shaped (by omega) xs, q _ F H (Grow.refl s) (by rw [any_eqv h]; exact .bl _)⟩) ha hb hm
/-- items -/
theorem E.ixL (ha : E X e1 Γ (.list ds)) (hb : E X e2 Γ (Ck.nat i)) (h : ds[i]? = some d) (hs : PlainIx e2 := by exact fun _ _ => rfl) : E X (.Subscript e1 e2 pos) Γ d :=
  E.mk (pe_ix ix_list (pe_sem X) (pe_sem X) hs) (ev_op ha hb fun F H x y s hx hy Q q => by
    obtain ⟨a, xs, rfl, hl, hd⟩ := dp_lst hx
    obtain ⟨v, hv, hdv⟩ := dpA_get hd h
    exact ⟨a, xs, (i : Int), v, rfl, dp_int hy, s.seq hl, atI_nat hv, q v F H (Grow.refl s) hdv⟩)
theorem E.ixT (ha : E X e1 Γ (.tuple ds)) (hb : E X e2 Γ (Ck.nat i)) (h : ds[i]? = some d) (hs : PlainIx e2 := by exact fun _ _ => rfl) : E X (.Subscript e1 e2 pos) Γ d :=
  E.mk (pe_ix ix_tup (pe_sem X) (pe_sem X) hs) (ev_op ha hb fun F H x y s hx hy Q q => by
    obtain ⟨a, xs, rfl, hl, hd⟩ := dp_tup hx
    obtain ⟨v, hv, hdv⟩ := dpA_get hd h
    exact ⟨a, xs, (i : Int), v, rfl, dp_int hy, seqT s hl, atI_nat hv, q v F H (Grow.refl s) hdv⟩)
theorem E.lenL (hm : X.mg "len" = none) (ha : E X e Γ (.list ds)) (hg : Gl X "len" := by rfl) (hs : starEach [e] X.env = (false, eval e X.env) :: starEach [] X.env := by rfl) : E X (.Call (.Name "len" p) [e] [] pos) Γ (Ck.nat ds.length) :=
  E.cb call_len_seq (ds := [.list ds]) (fun F H vs s h Q q => by
    cases h with
    | cons h hs =>
      cases hs
      obtain ⟨a, xs, rfl, hl, hd⟩ := dp_lst h
      exact ⟨a, xs, rfl, .inl (s.seq hl), by rw [dpA_len hd]; exact q _ F H (Grow.refl s) (.int _)⟩) hm boot_len (A.cons ha A.nil hs) hg (he := hs)
theorem E.lenT (hm : X.mg "len" = none) (ha : E X e Γ (.tuple ds)) (hg : Gl X "len" := by rfl) (hs : starEach [e] X.env = (false, eval e X.env) :: starEach [] X.env := by rfl) : E X (.Call (.Name "len" p) [e] [] pos) Γ (Ck.nat ds.length) :=
  E.cb call_len_seq (ds := [.tuple ds]) (fun F H vs s h Q q => by
    cases h with
    | cons h hs =>
      cases hs
      obtain ⟨a, xs, rfl, hl, hd⟩ := dp_tup h
      exact ⟨a, xs, rfl, .inr (seqT s hl), by rw [dpA_len hd]; exact q _ F H (Grow.refl s) (.int _)⟩) hm boot_len (A.cons ha A.nil hs) hg (he := hs)
theorem E.tupleOf (hm : X.mg "tuple" = none) (ha : E X e Γ (.list ds)) (hg : Gl X "tuple" := by rfl) (hs : starEach [e] X.env = (false, eval e X.env) :: starEach [] X.env := by rfl) : E X (.Call (.Name "tuple" p) [e] [] pos) Γ (.tuple ds) :=
  E.ct call_tuple_of (ds := [.list ds]) (fun F H vs s h Q q => by
    cases h with
    | cons h hs =>
      cases hs
      obtain ⟨a, xs, rfl, hl, hd⟩ := dp_lst h
      exact ⟨a, xs, rfl, .inl ⟨s.seq hl, fun l hl => q (.ref l) _ _ (Grow.new s hl) (.tup (SqT.of upd_same) (dpA_mono (same_upd (s.free hl)) hd))⟩⟩) hm (by decide +kernel) (A.cons ha A.nil hs) hg (he := hs)
theorem EF.listOf (hm : X.mg "list" = none) (ha : E X e Γ (.tuple ds)) (hg : Gl X "list" := by rfl) (hs : starEach [e] X.env = (false, eval e X.env) :: starEach [] X.env := by rfl) : EF X (.Call (.Name "list" p) [e] [] pos) Γ ds :=
  EF.ct call_list_of (ds := [.tuple ds]) (fun F H vs s h Q q => by
    cases h with
    | cons h hs =>
      cases hs
      obtain ⟨a, xs, rfl, hl, hd⟩ := dp_tup h
      exact ⟨a, xs, rfl, .inr (seqT s hl), fun l hl => q l xs F _ (Grow.heap s (same_upd hl)) hl (s.free hl) upd_same hd⟩) hm (by decide +kernel) (A.cons ha A.nil hs) hg (he := hs)
theorem EF.sorted {ns out : List Nat} (ho : ∀ ns' : List Int, ns'.Perm (ns.map fun (n : Nat) => (n : Int)) → ns'.Pairwise (· ≤ ·) → ns' = out.map fun (n : Nat) => (n : Int)) (hm : X.mg "sorted" = none) (ha : E X e Γ (.list (ns.map Ck.nat))) (hg : Gl X "sorted" := by rfl) (hs : starEach [e] X.env = (false, eval e X.env) :: starEach [] X.env := by rfl) : EF X (.Call (.Name "sorted" p) [e] [] pos) Γ (out.map Ck.nat) :=
  EF.cb cr_sortedI (ds := [.list (ns.map Ck.nat)]) (fun F H vs s h Q q => by
    cases h with
    | cons h hs =>
      cases hs
      obtain ⟨a, xs, rfl, hl, hd⟩ := dp_lst h
      have e1 : ns.map Ck.nat = (ns.map fun (n : Nat) => (n : Int)).map PyData.int := by simp
      rw [e1] at hd
      have e2 := dpA_ints.mp hd
      subst e2
      refine ⟨a, _, rfl, s.seq hl, fun ns' l hp hw hl => ?_⟩
      rw [ho ns' hp hw]
      refine q l _ F _ (Grow.heap s (same_upd hl)) hl (s.free hl) upd_same ?_
      have e3 : out.map Ck.nat = (out.map fun (n : Nat) => (n : Int)).map PyData.int := by simp
      rw [e3]
      exact dpA_ints.mpr rfl) hm (by decide +kernel) (A.cons ha A.nil hs) hg (he := hs)
/-- [x] * n -/
theorem EF.rep (ha : EF X e1 Γ ds) (hb : E X e2 Γ (Ck.nat n)) (hn : n ≤ 1000) (hl : ds.length ≤ 1000) : EF X (.BinOp e1 .Mult e2 pos) Γ (List.replicate n ds).flatten :=
  EF.mk (pe_op op_rep (pe_sem X) (pe_sem X)) fun F σ H s Ee Q q => ha F σ H s Ee _ fun l xs F1 H1 g1 hl0 hF hH hd => by
    have g1' := g1.freeze hl0 hH hF
    refine hb _ σ H1 g1'.s (Ee.mono g1'.f) _ fun v F2 H2 g2 hv => ?_
    have e1 := dpA_len hd
    refine ⟨l, (n : Int), xs, rfl, dp_int hv, g2.h _ _ hH, by omega, by omega, ?_, fun r hr => ?_⟩
    · have h1 : xs.length * n ≤ 1000 * 1000 := Nat.mul_le_mul (by omega) hn
      show xs.length * n ≤ sizeLine
      exact Nat.le_trans h1 (by decide)
    · have gg := g1'.trans g2
      refine q r _ F2 _ (gg.trans (Grow.heap g2.s (same_upd hr))) (gg.fresh hr) (g2.s.free hr) upd_same ?_
      have hd2 := dpA_mono ((same_upd hF).trans g2.f) hd
      show DpAll X.K F2 (List.replicate n xs).flatten _
      clear hr hH hv q gg hn hb
      induction n with
      | zero => simp; exact .nil
      | succ k ih => simp only [List.replicate_succ, List.flatten_cons]; exact dpA_app hd2 (ih)
/-- t + u -/
theorem E.catT (ha : E X e1 Γ (.tuple ds)) (hb : E X e2 Γ (.tuple bs)) (hl : ds.length + bs.length ≤ 1000) : E X (.BinOp e1 .Add e2 pos) Γ (.tuple (ds ++ bs)) :=
  E.bin op_catA (fun F H x y s hx hy Q q => by
    obtain ⟨a, xs, rfl, hx, hd⟩ := dp_tup hx
    obtain ⟨b, ys, rfl, hy, hd2⟩ := dp_tup hy
    have l1 := dpA_len hd
    have l2 := dpA_len hd2
    refine ⟨a, b, xs, ys, rfl, rfl, seqT s hx, seqT s hy, Nat.le_trans (by omega : _ ≤ 1000) (by decide), fun z => ?_, fun z w => ?_, fun _ _ r hr => ?_⟩
    · subst z
      have : ds = [] := List.eq_nil_of_length_eq_zero (by simpa using l1.symm)
      subst this
      exact q _ F H (Grow.refl s) (.tup hy hd2)
    · subst w
      have : bs = [] := List.eq_nil_of_length_eq_zero (by simpa using l2.symm)
      subst this
      rw [List.append_nil] at q
      exact q _ F H (Grow.refl s) (.tup hx hd)
    · exact q _ _ _ (Grow.new s hr) (.tup (SqT.of upd_same) (dpA_mono (same_upd (s.free hr)) (dpA_app hd hd2)))) ha hb
/-- l + m -/
theorem EF.catL (ha : EF X e1 Γ ds) (hb : EF X e2 Γ bs) (hl : ds.length + bs.length ≤ 1000) : EF X (.BinOp e1 .Add e2 pos) Γ (ds ++ bs) :=
  EF.mk (pe_op op_cat (pe_sem X) (pe_sem X)) fun F σ H s Ee Q q => ha F σ H s Ee _ fun l xs F1 H1 g1 hl0 hF hH hd => by
    have g1' := g1.freeze hl0 hH hF
    refine hb _ σ H1 g1'.s (Ee.mono g1'.f) _ fun l2 ys F2 H2 g2 hl2 hF2 hH2 hd2 => ?_
    have e1 := dpA_len hd
    have e2 := dpA_len hd2
    refine ⟨l, l2, xs, ys, rfl, rfl, g2.h _ _ hH, hH2, Nat.le_trans (by omega : _ ≤ 1000) (by decide), fun r hr => ?_⟩
    have gg := g1'.trans g2
    exact q r _ F2 _ (gg.trans (Grow.heap g2.s (same_upd hr))) (gg.fresh hr) (g2.s.free hr) upd_same (dpA_app (dpA_mono ((same_upd hF).trans g2.f) hd) hd2)
end

/-! ### parts of tuples -/
def EO (X : Cx) (e : Option Expr) (Γ : List (Option PD)) (o : Option Nat) : Prop := match e, o with
  | none, none => True
  | some e, some n => E X e Γ (Ck.nat n)
  | _, _ => False
section
variable {X : Cx} {e : Expr} {Γ : List (Option PD)} {ds : List PD} {i : Nat} {pos p2 : Pos}
theorem E.slTo (ha : E X e Γ (.tuple ds)) {e2 : Expr} (hb : E X e2 Γ (Ck.nat i)) (hi : i ≤ ds.length) : E X (.Subscript e (.Slice none (some e2) none p2) pos) Γ (.tuple (ds.take i)) :=
  E.mk (pe_slice sl_tupA (pe_sem X) po_none (po_some (pe_sem X))) fun F σ H s Ee Q q => ha F σ H s Ee _ fun v F1 H1 g1 hd => hb F1 σ H1 g1.s (Ee.mono g1.f) _ fun w F2 H2 g2 hw => by
    obtain ⟨a, xs, rfl, hx, hd⟩ := dp_tup hd
    have e1 := dpA_len hd
    refine ⟨(i : Int), dp_int hw, a, xs, rfl, seqT (g2.f.trans g2.s) hx, fun z => ?_, fun _ r hr => ?_⟩
    · have z2 : min i xs.length = xs.length := z.2
      have : ds.take i = ds := List.take_of_length_le (by omega)
      rw [this] at q
      exact q _ F2 H2 (g1.trans g2) (dp_mono g2.f (.tup hx hd))
    · have : cutV xs none (some (i : Int)) = xs.take i := by
        show (xs.drop 0).take (min i xs.length - 0) = xs.take i
        rw [List.drop_zero, Nat.sub_zero, Nat.min_eq_left (by omega)]
      rw [this]
      exact q _ _ _ ((g1.trans g2).trans (Grow.new g2.s hr)) (.tup (SqT.of upd_same) (dpA_mono (g2.f.trans (same_upd (g2.s.free hr))) (dpA_take hd i)))
theorem E.slFrom (ha : E X e Γ (.tuple ds)) {e2 : Expr} (hb : E X e2 Γ (Ck.nat i)) (hi : i ≤ ds.length) : E X (.Subscript e (.Slice (some e2) none none p2) pos) Γ (.tuple (ds.drop i)) :=
  E.mk (pe_slice sl_tupA (pe_sem X) (po_some (pe_sem X)) po_none) fun F σ H s Ee Q q => ha F σ H s Ee _ fun v F1 H1 g1 hd => hb F1 σ H1 g1.s (Ee.mono g1.f) _ fun w F2 H2 g2 hw => by
    obtain ⟨a, xs, rfl, hx, hd⟩ := dp_tup hd
    have e1 := dpA_len hd
    refine ⟨(i : Int), dp_int hw, a, xs, rfl, seqT (g2.f.trans g2.s) hx, fun z => ?_, fun _ r hr => ?_⟩
    · have z2 : min i xs.length = 0 := z.1
      have : ds.drop i = ds := by
        by_cases h0 : i = 0
        · subst h0; rfl
        · have : xs.length = 0 := by omega
          have : ds = [] := List.eq_nil_of_length_eq_zero (by omega)
          subst this; simp
      rw [this] at q
      exact q _ F2 H2 (g1.trans g2) (dp_mono g2.f (.tup hx hd))
    · have : cutV xs (some (i : Int)) none = xs.drop i := by
        show (xs.drop (min i xs.length)).take (xs.length - min i xs.length) = xs.drop i
        rw [Nat.min_eq_left (by omega)]
        exact List.take_of_length_le (by rw [List.length_drop]; omega)
      rw [this]
      exact q _ _ _ ((g1.trans g2).trans (Grow.new g2.s hr)) (.tup (SqT.of upd_same) (dpA_mono (g2.f.trans (same_upd (g2.s.free hr))) (dpA_drop hd i)))
end

/-! ### isinstance -/
section
variable {X : Cx} {e : Expr} {Γ : List (Option PD)} {d : PD} {pos p p2 : Pos} {i : Int}
def tyName : PD → String
  | .int _ => "int"
  | .bool _ => "bool"
  | .tuple _ => "tuple"
  | .list _ => "list"
  | .none => "NoneType"
  | _ => "?"
theorem tyx_of {K : PySem.W.Frag} {H : Hp} {v : V} {d : PD} (h : Dp K H v d) (hd : tyName d ≠ "?" := by decide) : TyX K H v (.type (tyName d)) := by
  cases h with
  | non => exact .base .non
  | bl b => exact .base (.bl b)
  | int i => exact .base (.int i)
  | str x => exact absurd rfl hd
  | lst h _ =>
    rcases h with (h | ⟨o, h⟩) | ⟨o, _, _, h1, h2, _⟩
    · exact .base (.lst h)
    · exact .base (.frz h)
    · exact .kList h1 h2
  | tup h _ =>
    rcases h with (h | ⟨o, h⟩) | ⟨o, _, _, h1, h2, _⟩
    · exact .base (.tup h)
    · exact .fTuple h
    · exact .kTuple h1 h2
theorem E.isi {n : String} {b : Bool} {z : Str} (hb : kitB (tyName d) n = some b) (hm : X.mg "isinstance" = none) (hmt : X.mg z = none) (hv : bootBuiltins z = some (.type n)) (ha : E X e Γ d) (hd : tyName d ≠ "?" := by decide)
    (hg : Gl X "isinstance" := by rfl) (hgt : Gl X z := by rfl) (hn : z ≠ "__name__" := by decide) (hdb : (z == ("__debug__" : Str)) = false := by decide)
    (hs : starEach [e, .Name z p2] X.env = (false, eval e X.env) :: starEach [.Name z p2] X.env := by rfl) (hs2 : starEach [.Name z p2] X.env = (false, eval (.Name z p2) X.env) :: starEach [] X.env := by rfl) (hpl : (backTo pos (starEach [.Name z p2] X.env)).any (·.1) = false := by rfl) :
    E X (.Call (.Name "isinstance" p) [e, .Name z p2] [] pos) Γ (.bool b) :=
  E.mk (pe_callB call_isi hg hm (by decide +kernel) (pa_cons (pe_sem X) (pa_cons (pe_bltn (v := .ty n) hgt hmt hv rfl hn hdb) pa_nil hs2) hs) (he := hs) (hpl := hpl)) fun F σ H s Ee Q q => ha F σ H s Ee _ fun v F1 H1 g1 hd1 =>
    ⟨v, .ty n, .type (tyName d), .type n, b, rfl, .ty n, tyx_of (dp_mono g1.s hd1) hd, kit_ty hb, q _ F1 H1 g1 (.bl b)⟩
end

section
variable {X : Cx} {e : Expr} {Γ : List (Option PD)} {i : Int} {ds : List PD} {pos p p2 : Pos}
theorem E.isII (hm : X.mg "isinstance" = none) (hmt : X.mg "int" = none) (ha : E X e Γ (.int i)) (hg : Gl X "isinstance" := by rfl) (hgt : Gl X "int" := by rfl)
    (hs : starEach [e, .Name "int" p2] X.env = (false, eval e X.env) :: starEach [.Name "int" p2] X.env := by rfl) (hs2 : starEach [.Name "int" p2] X.env = (false, eval (.Name "int" p2) X.env) :: starEach [] X.env := by rfl) (hpl : (backTo pos (starEach [.Name "int" p2] X.env)).any (·.1) = false := by rfl) :
    E X (.Call (.Name "isinstance" p) [e, .Name "int" p2] [] pos) Γ (.bool true) := E.isi (n := "int") (b := true) (by show kitB "int" "int" = _; decide +kernel) hm hmt (by decide +kernel) ha (by show "int" ≠ "?"; decide) hg hgt (hs := hs) (hs2 := hs2) (hpl := hpl)
theorem E.isIB (hm : X.mg "isinstance" = none) (hmt : X.mg "bool" = none) (ha : E X e Γ (.int i)) (hg : Gl X "isinstance" := by rfl) (hgt : Gl X "bool" := by rfl)
    (hs : starEach [e, .Name "bool" p2] X.env = (false, eval e X.env) :: starEach [.Name "bool" p2] X.env := by rfl) (hs2 : starEach [.Name "bool" p2] X.env = (false, eval (.Name "bool" p2) X.env) :: starEach [] X.env := by rfl) (hpl : (backTo pos (starEach [.Name "bool" p2] X.env)).any (·.1) = false := by rfl) :
    E X (.Call (.Name "isinstance" p) [e, .Name "bool" p2] [] pos) Γ (.bool false) := E.isi (n := "bool") (b := false) (by show kitB "int" "bool" = _; decide +kernel) hm hmt (by decide +kernel) ha (by show "int" ≠ "?"; decide) hg hgt (hs := hs) (hs2 := hs2) (hpl := hpl)
theorem E.isTT (hm : X.mg "isinstance" = none) (hmt : X.mg "tuple" = none) (ha : E X e Γ (.tuple ds)) (hg : Gl X "isinstance" := by rfl) (hgt : Gl X "tuple" := by rfl)
    (hs : starEach [e, .Name "tuple" p2] X.env = (false, eval e X.env) :: starEach [.Name "tuple" p2] X.env := by rfl) (hs2 : starEach [.Name "tuple" p2] X.env = (false, eval (.Name "tuple" p2) X.env) :: starEach [] X.env := by rfl) (hpl : (backTo pos (starEach [.Name "tuple" p2] X.env)).any (·.1) = false := by rfl) :
    E X (.Call (.Name "isinstance" p) [e, .Name "tuple" p2] [] pos) Γ (.bool true) := E.isi (n := "tuple") (b := true) (by show kitB "tuple" "tuple" = _; decide +kernel) hm hmt (by decide +kernel) ha (by show "tuple" ≠ "?"; decide) hg hgt (hs := hs) (hs2 := hs2) (hpl := hpl)
end

/-! ### sources of an assignment -/
def SrcH (K : PySem.W.Frag) (H F' H' : Hp) (v : V) : Sl → Prop
  | .val d => Dp K F' v d
  | .own ds => ∃ l xs, v = .ref l ∧ H l = none ∧ F' l = none ∧ H' l = some (.lst xs) ∧ DpAll K F' xs ds
  | .obj R => ∃ l o F1, v = .ref l ∧ H l = none ∧ F' l = none ∧ H' l = some o ∧ Same F1 F' ∧ R l F1 o
  | .any => True
theorem SrcH.grow {K : PySem.W.Frag} {H F' H' F2 H2 : Hp} {v : V} {s : Sl} (h : SrcH K H F' H' v s) (g : Grow F' H' F2 H2) : SrcH K H F2 H2 v s := by
  cases s with
  | val d => exact dp_mono g.f h
  | own ds => obtain ⟨l, xs, a, b, c, d, e⟩ := h; exact ⟨l, xs, a, b, g.n l c (by rw [d]; simp), g.h l _ d, dpA_mono g.f e⟩
  | obj R => obtain ⟨l, o, F1, a, b, c, d, e, f⟩ := h; exact ⟨l, o, F1, a, b, g.n l c (by rw [d]; simp), g.h l _ d, e.trans g.f, f⟩
  | any => trivial
theorem Ok.setSrc {K : PySem.W.Frag} {H0 F H F' H' : Hp} {Γ : List Sl} {σ : L2.St} {v : V} {s : Sl} (o : Ok K H0 Γ σ F H) (h0 : Same H0 H) (g : Grow F H F' H') (h : SrcH K H F' H' v s) (i : Nat) : Ok K H0 (Γ.set i s) (σ.set i (some v)) F' H' := by
  cases s with
  | val d => exact (o.grow g).setVal h i
  | own ds => obtain ⟨l, xs, rfl, b, c, d, e⟩ := h; exact o.setOwn g b (h0.free b) c (.inl ⟨ds, xs, rfl, d, e⟩) i
  | obj R => obtain ⟨l, u, F1, rfl, b, c, d, e, f⟩ := h; exact o.setOwn g b (h0.free b) c (.inr ⟨R, u, F1, rfl, d, e, f⟩) i
  | any =>
    have o := o.grow g
    refine ⟨by simp [o.len], fun j e q => ?_, fun j ds q => ?_, fun j R q => ?_, fun j k a b l e1 e2 o1 o2 s1 s2 => ?_⟩
    · rcases get_set q with ⟨_, e2, _⟩ | ⟨e1, e2⟩
      · cases e2
      · rw [List.getElem?_set_ne e1]; exact o.val j e e2
    · rcases get_set q with ⟨_, e2, _⟩ | ⟨e1, e2⟩
      · cases e2
      · rw [List.getElem?_set_ne e1]; exact o.own j ds e2
    · rcases get_set q with ⟨_, e2, _⟩ | ⟨e1, e2⟩
      · cases e2
      · rw [List.getElem?_set_ne e1]; exact o.obj j R e2
    · rcases get_set e1 with ⟨_, e1', _⟩ | ⟨n1, e1'⟩
      · subst e1'; cases o1
      · rcases get_set e2 with ⟨_, e2', _⟩ | ⟨n2, e2'⟩
        · subst e2'; cases o2
        · rw [List.getElem?_set_ne n1] at s1
          rw [List.getElem?_set_ne n2] at s2
          exact o.sep j k a b l e1' e2' o1 o2 s1 s2
def Src (X : Cx) (e : Expr) (Γ : List Sl) (s : Sl) : Prop := ∀ (H0 F : Hp) (σ : L2.St) (H : Hp), Same F H → Ok X.K H0 Γ σ F H → ∀ Q : VK, (∀ v F' H', Grow F H F' H' → SrcH X.K H F' H' v s → Q v H') → semE X e σ H Q
section
variable {X : Cx} {e e1 e2 e3 : Expr} {Γ : List Sl} {s s1 s2 s3 : Sl} {d : PD} {ds : List PD} {P : Post} {z y w : Str} {p pos : Pos}
theorem Src.v (h : E X e (vals Γ) d) : Src X e Γ (.val d) := fun H0 F σ H s o Q q => h F σ H s o.vals Q fun v F1 H1 g hd => q v F1 H1 g hd
theorem Src.sc (h : E X e (frz Γ) d) (hz : scalD d = true := by rfl) : Src X e Γ (.val d) := fun H0 F σ H s o Q q => h H σ H (Same.refl H) (o.frz s) Q fun v F1 H1 g hd => q v F H1 (Grow.heap s g.h) (dp_scal hz hd)
theorem Src.f (h : EF X e (vals Γ) ds) : Src X e Γ (.own ds) := fun H0 F σ H s o Q q => h F σ H s o.vals Q fun l xs F1 H1 g hl hF hH hd => q _ F1 H1 g ⟨l, xs, rfl, hl, hF, hH, hd⟩
/-- a new list of scalars, that may look at our lists -/
theorem Src.fz (h : EF X e (frz Γ) ds) (hz : ds.all scalD = true) : Src X e Γ (.own ds) := fun H0 F σ H s o Q q => h H σ H (Same.refl H) (o.frz s) Q fun l xs F1 H1 g hl hF hH hd => q _ F H1 (Grow.heap s g.h) ⟨l, xs, rfl, hl, s.free hl, hH, dpA_scal hz hd⟩
theorem Src.cool (h : Src X e Γ (.own ds)) : Src X e Γ (.val (.list ds)) := fun H0 F σ H s o Q q => h H0 F σ H s o Q fun v F1 H1 g ⟨l, xs, e, hl, hF, hH, hd⟩ => by
  subst e
  exact q _ _ H1 (g.freeze hl hH hF) (Dp.lst (SqL.of upd_same) (dpA_mono (same_upd hF) hd))
theorem S.set (i : Nat) (hN : X.N.Nodup) (h : Src X e Γ s) (k : P.nx (Γ.set i s)) (hi : X.N[i]? = some z := by rfl) (hx : Loc X.env.scope z := by first | exact Or.inl rfl | exact Or.inr rfl)
    (hs : swapsWith e (some (.Name z p)) pos.line X.env = pure false := by rfl) (hf : X.fn z = true ∨ X.env.scope.names.lookup z = some .local := by first | exact .inl rfl | exact .inr rfl) : S X (.Assign [.Name z p] e pos) Γ P :=
  S.mk (ps_set hN hi hx (pe_sem X) hs hf) fun F0 H0 F σ H D g o q => h H0 F σ H g.s o _ fun v F1 H1 g1 hd => q.nx _ _ F1 H1 k g1.f (g.trans g1) (o.setSrc g.h g1 hd i)
theorem S.par2 (i j : Nat) {x y : Str} {ea eb : Expr} {px py pt : Pos} {kt k2 pt2} (hN : X.N.Nodup) (h1 : Src X ea Γ s1) (h2 : Src X eb Γ s2) (k : P.nx ((Γ.set i s1).set j s2)) (hij : i ≠ j := by decide) (hi : X.N[i]? = some x := by rfl) (hj : X.N[j]? = some y := by rfl)
    (hx : X.env.scope.names.lookup x = some .local := by rfl) (hy : X.env.scope.names.lookup y = some .local := by rfl)
    (hw : swappedStores [.Tuple [.Name x px, .Name y py] kt pt] (.Tuple [ea, eb] k2 pt2) X.env = pure (some [x, y]) := by rfl)
    (hs : swapsWithSole [.Tuple [.Name x px, .Name y py] kt pt] (.Tuple [ea, eb] k2 pt2) pos.line X.env = pure false := by rfl) (hc : X.calm = true := by rfl)
    (hq1 : starEach [ea, eb] X.env = (false, eval ea X.env) :: starEach [eb] X.env := by rfl) (hq2 : starEach [eb] X.env = (false, eval eb X.env) :: starEach [] X.env := by rfl) :
    S X (.Assign [.Tuple [.Name x px, .Name y py] kt pt] (.Tuple [ea, eb] k2 pt2) pos) Γ P :=
  S.mk (ps_par hc hN hi hj hij hx hy (pa_cons (pe_sem X) (pa_cons (pe_sem X) pa_nil hq2) hq1) hw hs) fun F0 H0 F σ H D g o q => h1 H0 F σ H g.s o _ fun v1 F1 H1 g1 hd1 => h2 H0 F1 σ H1 g1.s (o.grow g1) _ fun v2 F2 H2 g2 hd2 =>
    ⟨v1, v2, rfl, q.nx _ _ F2 H2 k (g1.f.trans g2.f) ((g.trans g1).trans g2) ((o.setSrc g.h g1 hd1 i).setSrc (g.trans g1).h g2 hd2 j)⟩
theorem S.par3 (i j l : Nat) {x y z : Str} {ea eb ec : Expr} {px py pz pt : Pos} {kt k2 pt2} (hN : X.N.Nodup) (h1 : Src X ea Γ s1) (h2 : Src X eb Γ s2) (h3 : Src X ec Γ s3) (k : P.nx (((Γ.set i s1).set j s2).set l s3)) (hij : i ≠ j := by decide) (hil : i ≠ l := by decide) (hjl : j ≠ l := by decide)
    (hi : X.N[i]? = some x := by rfl) (hj : X.N[j]? = some y := by rfl) (hl : X.N[l]? = some z := by rfl)
    (hx : X.env.scope.names.lookup x = some .local := by rfl) (hy : X.env.scope.names.lookup y = some .local := by rfl) (hz : X.env.scope.names.lookup z = some .local := by rfl)
    (hw : swappedStores [.Tuple [.Name x px, .Name y py, .Name z pz] kt pt] (.Tuple [ea, eb, ec] k2 pt2) X.env = pure (some [x, y, z]) := by rfl)
    (hs : swapsWithSole [.Tuple [.Name x px, .Name y py, .Name z pz] kt pt] (.Tuple [ea, eb, ec] k2 pt2) pos.line X.env = pure false := by rfl) (hc : X.calm = true := by rfl)
    (hq1 : starEach [ea, eb, ec] X.env = (false, eval ea X.env) :: starEach [eb, ec] X.env := by rfl) (hq2 : starEach [eb, ec] X.env = (false, eval eb X.env) :: starEach [ec] X.env := by rfl) (hq3 : starEach [ec] X.env = (false, eval ec X.env) :: starEach [] X.env := by rfl) :
    S X (.Assign [.Tuple [.Name x px, .Name y py, .Name z pz] kt pt] (.Tuple [ea, eb, ec] k2 pt2) pos) Γ P :=
  S.mk (ps_par3 hc hN hi hj hl hij hil hjl hx hy hz (pa_cons (pe_sem X) (pa_cons (pe_sem X) (pa_cons (pe_sem X) pa_nil hq3) hq2) hq1) hw hs) fun F0 H0 F σ H D g o q =>
    h1 H0 F σ H g.s o _ fun v1 F1 H1 g1 hd1 => h2 H0 F1 σ H1 g1.s (o.grow g1) _ fun v2 F2 H2 g2 hd2 => h3 H0 F2 σ H2 g2.s ((o.grow g1).grow g2) _ fun v3 F3 H3 g3 hd3 =>
    ⟨v1, v2, v3, rfl, q.nx _ _ F3 H3 k ((g1.f.trans g2.f).trans g3.f) (((g.trans g1).trans g2).trans g3) (((o.setSrc g.h g1 hd1 i).setSrc (g.trans g1).h g2 hd2 j).setSrc ((g.trans g1).trans g2).h g3 hd3 l)⟩
/-- l.append(e) -/
theorem S.app (i : Nat) {apos cpos npos : Pos} (hi0 : Γ[i]? = some (.own ds)) (h : Src X e Γ (.val d)) (hl : ds.length ≤ 100000) (k : P.nx (Γ.set i (.own (ds ++ [d])))) (hN : X.N[i]? = some z := by rfl) (hv : Vis X.env.scope z := by first | exact Or.inl rfl | exact Or.inr (Or.inl rfl) | exact Or.inr (Or.inr rfl))
    (hd : (z == ("__debug__" : Str)) = false := by decide) (hcd : (z == ("__classdict__" : Str)) = false := by decide)
    (hbase : attributeBase (.Name z npos) ("append" : Str) X.env (eval (.Name z npos) X.env) = eval (.Name z npos) X.env := by rfl)
    (hfew : ((backTo cpos (starEach [e] X.env)).all (fun x => !x.1) && (backToKw cpos (keywordEach [] X.env)).all (fun x => x.1.isSome) && decide ([e].length + ([] : List Keyword).length + (if ([] : List Keyword).isEmpty then 0 else 1) < 30)) = true := by rfl)
    (hline : (apos.endLine == cpos.line) = true := by rfl) (hs : starEach [e] X.env = (false, eval e X.env) :: starEach [] X.env := by rfl) (hplain : (backTo cpos (starEach [] X.env)).any (·.1) = false := by rfl)
    (hsw : swapsWith (.Call (.Attribute (.Name z npos) "append" apos) [e] [] cpos) none pos.line X.env = pure false := by rfl) :
    S X (.Expr (.Call (.Attribute (.Name z npos) "append" apos) [e] [] cpos) pos) Γ P :=
  S.mk (ps_expr (pe_bm PySem.F.plainAttrs_list PySem.F.slot_list_append PySem.F.type_list_append mt_append (pv i hN hv hd hcd) (pa_cons (pe_sem X) pa_nil hs) hbase hfew hline hs hplain) hsw) fun F0 H0 F σ H D g o q => by
    obtain ⟨l, xs, hσ, h0, hF, hH, hxs⟩ := o.own i ds hi0
    refine ⟨.ref l, hσ, .inl ⟨rfl, xs, SqL.of hH⟩, h H0 F σ H g.s o _ fun v F1 H1 g1 hd1 => ?_⟩
    have o1 := o.grow g1
    have hH1 := g1.h _ _ hH
    have hF1 : F1 l = none := g1.n l hF (by rw [hH]; simp)
    have e1 := dpA_len hxs
    refine ⟨l, xs, v, rfl, rfl, hH1, Nat.lt_of_le_of_lt (by omega : xs.length ≤ 100000) (by decide), ?_⟩
    exact q.nx _ σ F1 _ k g1.f ((g.trans g1).put h0 hF1) (o1.put hi0 rfl hσ (.inl ⟨_, _, rfl, rfl, dpA_snoc (dpA_mono g1.f hxs) hd1⟩))
/-- l[e2] = e -/
theorem S.setIx (i j : Nat) {npos tpos : Pos} (hi0 : Γ[i]? = some (.own ds)) (h : Src X e Γ (.val d)) (h2 : Src X e2 Γ (.val (Ck.nat j))) (hj : j < ds.length) (k : P.nx (Γ.set i (.own (ds.set j d)))) (hN : X.N[i]? = some z := by rfl) (hv : Vis X.env.scope z := by first | exact Or.inl rfl | exact Or.inr (Or.inl rfl) | exact Or.inr (Or.inr rfl))
    (hd : (z == ("__debug__" : Str)) = false := by decide) (hcd : (z == ("__classdict__" : Str)) = false := by decide)
    (ha : ∀ v, assign (.Subscript (.Name z npos) e2 tpos) X.env v = (do
      let ov ← holding [v] (eval (.Name z npos) X.env)
      let iv ← holding [v, ov] (eval e2 X.env)
      standAt tpos
      holding [v, ov, iv] (setItem ov iv v)
      release [v, ov, iv] []) := by intro _; rfl)
    (hs : swapsWithSole [.Subscript (.Name z npos) e2 tpos] e pos.line X.env = pure false := by rfl) (hw : swappedStores [.Subscript (.Name z npos) e2 tpos] e X.env = pure none := by rfl)
    (h1 : (assignEach [.Subscript (.Name z npos) e2 tpos] X.env).map (·.2) = [assign (.Subscript (.Name z npos) e2 tpos) X.env] := by rfl) :
    S X (.Assign [.Subscript (.Name z npos) e2 tpos] e pos) Γ P :=
  S.mk (ps_asg (pe_sem X) (pg_sub (pv i hN hv hd hcd) (pe_sem X) set_list ha) hs hw h1) fun F0 H0 F σ H D g o q => by
    obtain ⟨l, xs, hσ, h0, hF, hH, hxs⟩ := o.own i ds hi0
    refine h H0 F σ H g.s o _ fun v F1 H1 g1 hd1 => ⟨.ref l, hσ, h2 H0 F1 σ H1 g1.s (o.grow g1) _ fun w F2 H2 g2 hd2 => ?_⟩
    have gg := g1.trans g2
    have o1 := o.grow gg
    have hF1 : F2 l = none := gg.n l hF (by rw [hH]; simp)
    have e1 := dpA_len hxs
    refine ⟨l, xs, (j : Int), j, rfl, dp_int hd2, gg.h _ _ hH, Evl.ixN_nat (by omega), ?_⟩
    exact q.nx _ σ F2 _ k gg.f ((g.trans gg).put h0 hF1) (o1.put hi0 rfl hσ (.inl ⟨_, _, rfl, rfl, dpA_set (dpA_mono gg.f hxs) (dp_mono g2.f hd1) j⟩))
/-- x = l.pop() -/
theorem S.popTo (i j : Nat) {apos cpos npos : Pos} (hNd : X.N.Nodup) (hi0 : Γ[i]? = some (.own ds)) (hd0 : ds[ds.length - 1]? = some d) (k : P.nx ((Γ.set i (.own ds.dropLast)).set j (.val d))) (hN : X.N[i]? = some z := by rfl) (hNj : X.N[j]? = some y := by rfl) (hv : Vis X.env.scope z := by first | exact Or.inl rfl | exact Or.inr (Or.inl rfl) | exact Or.inr (Or.inr rfl))
    (hx : Loc X.env.scope y := by first | exact Or.inl rfl | exact Or.inr rfl) (hf : X.fn y = true ∨ X.env.scope.names.lookup y = some .local := by first | exact .inl rfl | exact .inr rfl)
    (hd : (z == ("__debug__" : Str)) = false := by decide) (hcd : (z == ("__classdict__" : Str)) = false := by decide)
    (hbase : attributeBase (.Name z npos) ("pop" : Str) X.env (eval (.Name z npos) X.env) = eval (.Name z npos) X.env := by rfl) (hline : (apos.endLine == cpos.line) = true := by rfl)
    (hsw : swapsWith (.Call (.Attribute (.Name z npos) "pop" apos) [] [] cpos) (some (.Name y p)) pos.line X.env = pure false := by rfl) :
    S X (.Assign [.Name y p] (.Call (.Attribute (.Name z npos) "pop" apos) [] [] cpos) pos) Γ P :=
  S.mk (ps_set hNd hNj hx (pe_bm0 PySem.F.plainAttrs_list PySem.F.slot_list_pop PySem.F.type_list_pop mt_pop (pv i hN hv hd hcd) hbase hline) hsw hf) fun F0 H0 F σ H D g o q => by
    obtain ⟨l, xs, hσ, h0, hF, hH, hxs⟩ := o.own i ds hi0
    have e1 := dpA_len hxs
    obtain ⟨v, hv, hdv⟩ := dpA_get hxs hd0
    refine ⟨.ref l, hσ, .inl ⟨rfl, xs, SqL.of hH⟩, l, xs, v, rfl, rfl, hH, by rw [e1]; exact hv, ?_⟩
    refine q.nx _ _ F _ k (Same.refl F) (g.put h0 hF) (Ok.setVal (o.put hi0 rfl hσ (.inl ⟨_, _, rfl, rfl, ?_⟩)) hdv j)
    rw [List.dropLast_eq_take, List.dropLast_eq_take, e1]
    exact dpA_take hxs _
end

/-! ### promises of defs -/
def SpP (K : PySem.W.Frag) (n : Nat) (pre : List PD → PD → Prop) : Sp := fun vs H Q _ => ∃ F ds d, Same F H ∧ DpAll K F vs ds ∧ ds.length = n ∧ pre ds d ∧ ∀ v F' H', Grow F H F' H' → Dp K F' v d → Q v H'
def SpF (K : PySem.W.Frag) (n : Nat) (pre : List PD → List PD → Prop) : Sp := fun vs H Q _ => ∃ F ds es, Same F H ∧ DpAll K F vs ds ∧ ds.length = n ∧ pre ds es ∧
  ∀ p xs F' H', Grow F H F' H' → H p = none → F' p = none → H' p = some (.lst xs) → DpAll K F' xs es → Q (.ref p) H'
structure DefOk (P : Program) (w : World) (K : PySem.W.Frag) (mg : Str → Option Value) (base : Heap) (k : Nat) (x : Str) (ps : List Str) (sp : Sp) : Prop where
  ex : ∃ (f : Addr) (fd : FuncData), FnOk P w K mg base CX0 k f fd ps sp ∧ mg x = some (.ref f) ∧ PySem.W.keepIn K (.ref f) = true ∧ Binds K fd ps []
section
variable {X : Cx} {e : Expr} {es : List Expr} {Γ : List (Option PD)} {d : PD} {ds bs : List PD} {k : Nat} {x : Str} {ps : List Str} {n : Nat} {pos p : Pos}
theorem E.call {pre : List PD → PD → Prop} (D : DefOk X.prog X.w X.K X.mg X.base k x ps (SpP X.K n pre)) (hr : Room k X.A) (ha : A X (e :: es) Γ ds) (h : pre ds d) (hn : ds.length = n := by rfl) (hg : Gl X x := by rfl) (hdb : (x == ("__debug__" : Str)) = false := by decide)
    (he : starEach (e :: es) X.env = (false, eval e X.env) :: starEach es X.env := by rfl) (hpl : (backTo pos (starEach es X.env)).any (·.1) = false := by rfl) : E X (.Call (.Name x p) (e :: es) [] pos) Γ d := by
  obtain ⟨f, fd, F, hm, hk, hb⟩ := D.ex
  refine E.mk (pe_call F hr hg hm hk hb .nil pass0 (pa_sem X) hdb he hpl) fun F0 σ H s Ee Q q => ha F0 σ H s Ee _ fun vs F1 H1 g1 hvs => ?_
  exact ⟨F1, ds, d, g1.s, by rw [List.append_nil]; exact hvs, hn, h, fun v F2 H2 g2 hd => q v F2 H2 (g1.trans g2) hd⟩
theorem EF.call {pre : List PD → List PD → Prop} (D : DefOk X.prog X.w X.K X.mg X.base k x ps (SpF X.K n pre)) (hr : Room k X.A) (ha : A X (e :: es) Γ ds) (h : pre ds bs) (hn : ds.length = n := by rfl) (hg : Gl X x := by rfl) (hdb : (x == ("__debug__" : Str)) = false := by decide)
    (he : starEach (e :: es) X.env = (false, eval e X.env) :: starEach es X.env := by rfl) (hpl : (backTo pos (starEach es X.env)).any (·.1) = false := by rfl) : EF X (.Call (.Name x p) (e :: es) [] pos) Γ bs := by
  obtain ⟨f, fd, F, hm, hk, hb⟩ := D.ex
  refine EF.mk (pe_call F hr hg hm hk hb .nil pass0 (pa_sem X) hdb he hpl) fun F0 σ H s Ee Q q => ha F0 σ H s Ee _ fun vs F1 H1 g1 hvs => ?_
  exact ⟨F1, ds, bs, g1.s, by rw [List.append_nil]; exact hvs, hn, h, fun p xs F2 H2 g2 hp hF hH hd => q p xs F2 H2 (g1.trans g2) (g1.fresh hp) hF hH hd⟩
end
def startG (n : Nat) (ds : List PD) : List Sl := ds.map .val ++ List.replicate (n - ds.length) .any
section
variable {P : Program} {w : World} {K : PySem.W.Frag} {mg : Str → Option Value} {base : Heap}
theorem ok_start {N : List Str} {F H H0 : Hp} {vs : List V} {ds : List PD} (h : DpAll K F vs ds) : Ok K H0 (startG N.length ds) (L2.start N vs) F H := by
  have hl := dpA_len h
  have key : ∀ (i : Nat) s, (startG N.length ds)[i]? = some s → (∃ d, s = .val d ∧ ds[i]? = some d) ∨ s = .any := fun i s e => by
    unfold startG at e
    by_cases hi : i < ds.length
    · rw [List.getElem?_append_left (by simpa using hi), List.getElem?_map] at e
      cases q : ds[i]? with
      | none => rw [q] at e; cases e
      | some d => rw [q] at e; cases e; exact .inl ⟨d, rfl, rfl⟩
    · rw [List.getElem?_append_right (by simpa using hi), List.getElem?_replicate] at e
      split at e
      · cases e; exact .inr rfl
      · cases e
  refine ⟨by simp [L2.start, startG, hl], fun i d e => ?_, fun i ds e => ?_, fun i R e => ?_, fun i j a b l e1 e2 o1 o2 => ?_⟩
  · rcases key i _ e with ⟨d', e1, e2⟩ | e1
    · cases e1
      obtain ⟨v, hv, hd⟩ := dpA_get h e2
      refine ⟨v, ?_, hd⟩
      unfold L2.start
      rw [List.getElem?_append_left (by have := (List.getElem?_eq_some_iff.mp hv).1; simpa using this), List.getElem?_map, hv]
      rfl
    · cases e1
  · rcases key i _ e with ⟨d', e1, e2⟩ | e1 <;> cases e1
  · rcases key i _ e with ⟨d', e1, e2⟩ | e1 <;> cases e1
  · rcases key i _ e1 with ⟨d', z, e2⟩ | z <;> (subst z; cases o1)
abbrev bodyX (P : Program) (w : World) (K : PySem.W.Frag) (mg : Str → Option Value) (base : Heap) (N : List Str) (qual : Str) (st : Stmt) (f : Addr) (cdv : Value) (A : Around) (outer : List Env) (s : Shared) (H : Hp) (E : XK) : Cx :=
  (cxOf CX0 P w K mg base N qual (defScope st) f cdv A outer s H E).nox
theorem DefOk.make {x qual : Str} {st : Stmt} {f : Addr} {fd : FuncData} {N ps : List Str} {k : Nat} {pre : List PD → PD → Prop} (F : Fun K x qual st f fd) (hm : mg x = some (.ref f)) (b : Binds K fd ps []) (S : FnScope N ps (defScope st))
    (body : ∀ (cdv : Value) (A : Around) (outer : List Env) (s : Shared) (H : Hp) (E : XK), Room k (A.deeper (envOfC qual (defScope st) s.heap.objs.size f cdv)) → ∀ ds d, pre ds d → ds.length = ps.length →
      Ss (bodyX P w K mg base N qual st f cdv A outer s H E) (defBody st) (startG N.length ds) { nx := fun _ => d = .none, rt := fun d' _ => d' = d }) : DefOk P w K mg base (k + 1) x ps (SpP K ps.length pre) := by
  refine ⟨f, fd, F.ok S (fun vs H Q E h => ?_) (fun cdv A outer s H vs Q E hr h => ?_), hm, F.kp, b⟩
  · obtain ⟨F, ds, d, _, h, hn, _⟩ := h
    rw [dpA_len h, hn]
  · obtain ⟨F1, ds, d, hs, hvs, hn, hp, k⟩ := h
    refine ⟨_, pss_sem _, body cdv A outer s H E hr ds d hp hn F1 H F1 (L2.start N vs) H _ (Grow.refl hs) (ok_start hvs) ⟨fun Γ' σ' F' H' z s' g' o' => ?_, fun Γ' σ' F' H' z => z.elim, fun Γ' σ' F' H' z => z.elim, fun d' Γ' v σ' F' H' z s' g' o' hd => ?_, fun ds p xs F' H' z => z.elim, fun R p u F' H' F1 z => z.elim⟩⟩
    · subst z; exact k _ F' H' g' .non
    · subst z; exact k v F' H' g' hd
theorem DefOk.makeF {x qual : Str} {st : Stmt} {f : Addr} {fd : FuncData} {N ps : List Str} {k : Nat} {pre : List PD → List PD → Prop} (F : Fun K x qual st f fd) (hm : mg x = some (.ref f)) (b : Binds K fd ps []) (S : FnScope N ps (defScope st))
    (body : ∀ (cdv : Value) (A : Around) (outer : List Env) (s : Shared) (H : Hp) (E : XK), Room k (A.deeper (envOfC qual (defScope st) s.heap.objs.size f cdv)) → ∀ ds d, pre ds d → ds.length = ps.length →
      Ss (bodyX P w K mg base N qual st f cdv A outer s H E) (defBody st) (startG N.length ds) { nx := fun _ => False, rt := fun _ _ => False, rf := fun d' => d' = d }) : DefOk P w K mg base (k + 1) x ps (SpF K ps.length pre) := by
  refine ⟨f, fd, F.ok S (fun vs H Q E h => ?_) (fun cdv A outer s H vs Q E hr h => ?_), hm, F.kp, b⟩
  · obtain ⟨F, ds, d, _, h, hn, _⟩ := h
    rw [dpA_len h, hn]
  · obtain ⟨F1, ds, d, hs, hvs, hn, hp, k⟩ := h
    refine ⟨_, pss_sem _, body cdv A outer s H E hr ds d hp hn F1 H F1 (L2.start N vs) H _ (Grow.refl hs) (ok_start hvs) ⟨fun Γ' σ' F' H' z => z.elim, fun Γ' σ' F' H' z => z.elim, fun Γ' σ' F' H' z => z.elim, fun d' Γ' v σ' F' H' z => z.elim, fun ds' p xs F' H' z s' g' h1 h2 h3 h4 => ?_, fun R p u F' H' F1 z => z.elim⟩⟩
    subst z; exact k p xs F' H' g' h1 h2 h3 h4
end
end Ck

set_option Elab.async false
set_option linter.all false
set_option maxRecDepth 100000
/-! enumerate of a tuple, walked by pairs. -/
namespace Ck
open PySem PySem.Spec PyProof.Rows L2
open PySem.AutoSeq1 (wpAny_loadPart')

set_option maxHeartbeats 1000000 in
theorem meets_enumerate_new1 {v : Value} {o : Obj} {H : Heap → Prop} (B : Begins v o H) :
    Meets (Builtin.«enumerate.__new__» ⟨[.type "enumerate", v], []⟩) (fun _ R s => H s.heap ∧
      R (.ok (.ret (.ref (s.heap.push o).objs.size))) { s with heap := (s.heap.push o).push { cls := .type "enumerate", data := .fields #[.none, .bool false, .ref s.heap.objs.size, rawInt 0, .none, .none] } }) :=
  .of_wp fun prog w A R s h => by
    obtain ⟨hp, g, d, tk, os⟩ := s; obtain ⟨h1, h⟩ := h
    have hsub := sub_enumerate
    have q1 : ∀ {A' : Around} {E : Value → Shared → Prop} {Q : Value → Shared → Prop}, Q (.ref hp.objs.size) ⟨hp.push o, g, d, tk, os⟩ → wpAny (model prog w) A' (pyIter v) Q E ⟨hp, g, d, tk, os⟩ :=
      fun q => B.iter prog w _ _ ⟨hp, g, d, tk, os⟩ _ h1 q
    wp_walk using q1
    refine wpAny_stack_any fun st => wpAny_pure ?_
    split
    · rename_i c _ _ _ _ _
      cases (c == Value.type "enumerate")
      · wp_walk using q1
        exact ⟨_, rfl, h⟩
      · wp_walk using q1
        exact ⟨_, rfl, h⟩
    · wp_walk using q1
      exact ⟨_, rfl, h⟩
section
variable {prog : Program} {w : World} {A : Around} {E : Value → Shared → Prop} {s : Shared}
theorem call_enum1 {v : Value} {o : Obj} {H : Heap → Prop} {Q : Value → Shared → Prop} (B : Begins v o H) (h1 : H s.heap)
    (h : ∀ h', IsEnum h' (s.heap.objs.size + 1) s.heap.objs.size 0 .none → h'.get? s.heap.objs.size = some o → h'.objs.size = s.heap.objs.size + 2 →
      (∀ b o, s.heap.get? b = some o → h'.get? b = some o) → Q (.ref (s.heap.objs.size + 1)) { s with heap := h' }) :
    wpAny (model prog w) A (call (.type "enumerate") [v]) Q E s := by
  refine callType_new F.called_enumerate (by decide) (F.typeCall_enumerate_1 _) (F.newCall_enumerate_1 _) (fun obj => F.args_object_init_2 obj _) F.entry_enumerate_new
    (meets_enumerate_new1 B) ⟨h1, ?_⟩
  have hz : (s.heap.push o).objs.size = s.heap.objs.size + 1 := Heap.size_push ..
  show _ ∧ _
  rw [hz]
  have he : IsEnum ((s.heap.push o).push { cls := .type "enumerate", data := .fields #[.none, .bool false, .ref s.heap.objs.size, rawInt 0, .none, .none] }) (s.heap.objs.size + 1) s.heap.objs.size 0 .none := by
    have := Heap.get?_push_size (s.heap.push o) (o := { cls := .type "enumerate", data := .fields #[.none, .bool false, .ref s.heap.objs.size, rawInt 0, .none, .none] }) rfl
    rw [hz] at this; exact this
  refine ⟨⟨_, he, rfl⟩, h _ he (Heap.get?_push_of_some _ (Heap.get?_push_size _ B.free)) (by rw [Heap.size_push, hz]) fun b o x => Heap.get?_push_of_some _ (Heap.get?_push_of_some _ x)⟩
end

/-- the tuple at a, each item in a new pair -/
def Itet (K : PySem.W.Frag) (a : Addr) : It :=
  ⟨fun i H => ∃ (xs : List V) (x : V), SqT K H a xs ∧ xs[i]? = some x, fun i H v H' => ∃ T x, v = .ref T ∧ H T = none ∧ H' = upd H T (.tup [.int (i : Nat), x]) ∧ ∀ xs, SqT K H a xs → xs[i]? = some x, fun i H => ∃ xs : List V, SqT K H a xs ∧ xs.length = i⟩
theorem turn_enumT {P : Program} {w : World} {K : PySem.W.Frag} {elts : List Expr} {kk : Nat} {tpos : Pos} (a e it : Addr) :
    Turn P w K (.Tuple elts kk tpos) (Itet K a) [e, it] e (fun i h => (∃ old, IsEnum h e it ((i : Nat) : Int) old) ∧ h.IsTupleIter it a i ∧ e ≠ it ∧ a ≠ it ∧ e ≠ a) where
  mem := by simp
  obj := fun i h st b hb => by
    obtain ⟨⟨old, he⟩, ⟨o, ho, hc, hd⟩, _⟩ := st
    have e' : b = e ∨ b = it := by simpa using hb
    rcases e' with z | z
    · rw [z]; exact ⟨_, he, fun v q => nomatch q⟩
    · rw [z]; exact ⟨o, ho, fun v q => by rw [hd] at q; cases q⟩
  keep := fun i h h' st k => let ⟨⟨old, he⟩, hi, hne⟩ := st; ⟨⟨old, k e (by simp) _ he⟩, hi.at fun o q => k it (by simp) o q, hne⟩
  item := by
    intro X hP hw hK hc i pins s σ H E I hf st hg
    subst hP hw hK
    obtain ⟨⟨old, he⟩, hit, hne, hai, hea⟩ := st
    obtain ⟨xs, x, hq, hx⟩ := hg
    obtain ⟨its, rv, p, hz⟩ := I.tuple hq
    obtain ⟨u, hu, ru⟩ := rv.get hx
    have hel : e < s.heap.objs.size := Heap.lt_size he
    have hil : it < s.heap.objs.size := by obtain ⟨_, q, _⟩ := hit; exact Heap.lt_size q
    have hlt : i < its.toArray.size := by have := (List.getElem?_eq_some_iff.mp hu).1; simpa using this
    have D := Draws.tuple (prog := X.prog) (w := X.w) (A := X.A.in1) (show X.A.in1.handled = none from I.ok.hd hc) it a hai its.toArray
    refine wpAny_pyNext_enum_itemD D he ⟨hit, show s.heap.IsTuple a its.toArray from p⟩ hlt hne (by simp [hne, hea]) fun u' h' tk hu' ho hst' hT hsz hk => ?_
    have eu : u' = u := by
      have h2 : its.toArray[i]? = some u := by simpa using hu
      rw [h2] at hu'; exact (Option.some.inj hu').symm
    subst eu
    refine ⟨_, rfl, wpAny_letOwnedTupleGo_enum (s := { s with heap := h', toks := tk + 1 }) ho fun h'' he' sb => ?_⟩
    have hT2 : h''.get? s.heap.objs.size = some { cls := .type "tuple", data := .seq #[.int i tk, u'] } := (sb.2 _ (Nat.ne_of_gt hel)).trans hT
    have new : ObjOk X.prog X.w (upd H s.heap.objs.size (.tup [.int (i : Nat), x])) h'' s.heap.objs.size (.tup [.int (i : Nat), x]) :=
      ⟨by show 2 ≤ sizeLine; decide, [.int i tk, u'], .cons ⟨_, rfl⟩ (.cons ru .nil), ⟨_, hT2, rfl, _, rfl⟩⟩
    have I1 : Inv X pins σ (upd H s.heap.objs.size (.tup [.int (i : Nat), x])) { s with heap := h'', toks := tk + 1 } :=
      I.turnedNew (ch := [e, it]) (fun b ob hb q => (sb.2 b (fun z => hb (by simp [z]))).trans (hk b ob (fun z => hb (by simp [z])) (fun z => hb (by simp [z])) q)) hf (Nat.le_refl _) new
    refine ⟨.ref s.heap.objs.size, _, I1, rfl, ⟨_, x, rfl, I.hok.fresh (Nat.le_refl _), rfl, fun ys hy => by rw [I.tuple_inj hy hq]; exact hx⟩, ⟨⟨u', ?_⟩, hst'.1.at fun o q => (sb.2 it (Ne.symm hne)).trans q, hne, hai, hea⟩, fun b hb => ?_⟩
    · have e1 : ((i + 1 : Nat) : Int) = (i : Int) + 1 := by omega
      rw [e1]; exact he'
    · have hb' : b < s.heap.objs.size := by
        have e' : b = e ∨ b = it := by simpa using hb
        rcases e' with z | z
        · rw [z]; exact hel
        · rw [z]; exact hil
      rw [upd_ne (Nat.ne_of_lt hb')]
      exact (hf b hb).1
  done := by
    intro X hP hw hK hc i pins s σ H E I hf st hg
    subst hP hw hK
    obtain ⟨⟨old, he⟩, hit, hne, hai, hea⟩ := st
    obtain ⟨xs, hq, hx⟩ := hg
    obtain ⟨its, rv, p, hz⟩ := I.tuple hq
    obtain ⟨f0, f1, f2, f3, f4, f5⟩ := hf it (by simp)
    have hl := rv.length
    have D := Draws.tuple (prog := X.prog) (w := X.w) (A := X.A.in1) (show X.A.in1.handled = none from I.ok.hd hc) it a hai its.toArray
    have hn : its.toArray.size = i := by simp; omega
    exact wpAny_pyNext_enum_endD D he ⟨by rw [hn]; exact hit, show s.heap.IsTuple a its.toArray from p⟩ fun h' eb => ⟨rfl, I.turned (t' := s.toks) (fun b o hb q => eb b o hb q) f0 f1 f3 f4 f5⟩
  self := fun A i s Q E st h => let ⟨⟨_, he⟩, _⟩ := st; wpAny_pyIter_enum he h
def iEnumT (K : PySem.W.Frag) (ta : TA) : TI := fun σ H R => ta σ H fun vs H1 => ∃ a xs, vs = [.ref a] ∧ SqT K H1 a xs ∧ R (Itet K a) H1
theorem pi_enumT {X : Cx} {e : Expr} {ta : TA} {p pos tpos : Pos} {elts : List Expr} {kk : Nat} (hg : Gl X "enumerate") (hm : X.mg "enumerate" = none) (ha : PA X [e] ta) (hs : starEach [e] X.env = [(false, eval e X.env)] := by rfl) :
    PI X (.Tuple elts kk tpos) (.Call (.Name "enumerate" p) [e] [] pos) (iEnumT X.K ta) := by
  refine ⟨fun pins s σ H R I h => ?_⟩
  refine Call_ (ld_blt I hg hm boot_enumerate (PyProof.Rows.callWith_type1 (thn (ha.run pos pins s σ H _ I h) fun us s1 ⟨vs, H1, I1, r1, q1⟩ => ?_) hs rfl))
  obtain ⟨a, xs, ex, hq, q⟩ := q1
  subst ex
  cases r1 with
  | cons r rr =>
    cases rr
    cases r
    obtain ⟨its, rv, p', hz⟩ := I1.tuple hq
    have hal : a < s1.heap.objs.size := by obtain ⟨o, ho, _⟩ := (show s1.heap.IsTuple a its.toArray from p'); exact Heap.lt_size ho
    refine call_enum1 (begins_tuple a its.toArray) (show s1.heap.IsTuple a its.toArray from p') fun h' he hit hsz hk => wpAny_pyIter_enum he ?_
    have I2 : Inv X pins σ H1 { s1 with heap := h' } := I1.kept (t' := s1.toks) hk
    refine ⟨s1.heap.objs.size + 1, [s1.heap.objs.size + 1, s1.heap.objs.size], _, _, H1, rfl, I2, turn_enumT a (s1.heap.objs.size + 1) s1.heap.objs.size, ⟨⟨.none, he⟩, ⟨_, hit, rfl, rfl⟩, Nat.succ_ne_self _, Nat.ne_of_lt hal, Nat.ne_of_gt (Nat.lt_succ_of_lt hal)⟩, fun b hb => ?_, q⟩
    have e' : b = s1.heap.objs.size + 1 ∨ b = s1.heap.objs.size := by simpa using hb
    have hle : s1.heap.objs.size ≤ b := by
      rcases e' with z | z
      · rw [z]; exact Nat.le_add_right _ _
      · rw [z]; exact Nat.le_refl _
    exact I1.fpOk hle (I1.hok.fresh hle)
theorem IT.enumT {X : Cx} {e : Expr} {Γ : List (Option PD)} {ds : List PD} {p pos : Pos} {elts : List Expr} {kk : Nat} {tpos : Pos} (h : E X e Γ (.tuple ds)) (hm : X.mg "enumerate" = none) (hg : Gl X "enumerate" := by rfl) (hs1 : starEach [e] X.env = (false, eval e X.env) :: starEach [] X.env := by rfl) (hs2 : starEach [e] X.env = [(false, eval e X.env)] := by rfl) :
    IT X (.Tuple elts kk tpos) (.Call (.Name "enumerate" p) [e] [] pos) Γ (ds.zipIdx.map fun q => .tuple [nat q.2, q.1]) :=
  IT.mk (pi_enumT hg hm (pa_sem X) hs2) fun F σ H s Ee R q => (A.cons h A.nil hs1) F σ H s Ee _ fun vs F1 H1 g hd => by
    cases hd with
    | cons hd hs =>
      cases hs
      obtain ⟨a, xs, rfl, hx, hxs⟩ := dp_tup hd
      refine ⟨a, xs, rfl, seqT g.s hx, q _ F1 H1 g ?_⟩
      have e1 := dpA_len hxs
      refine ⟨fun i H hi s => ?_, fun H s => ⟨xs, seqT s hx, by simp; exact e1⟩, fun i H x H' d F2 hd s s2 y => ?_⟩
      · have hi : i < xs.length := by rw [List.length_map, List.length_zipIdx] at hi; omega
        exact ⟨xs, xs[i], seqT s hx, by simp [hi]⟩
      · obtain ⟨T, u, rfl, hT, rfl, hu⟩ := y
        have hu := hu xs (seqT (s.trans s2) hx)
        obtain ⟨du, hdu, hpu⟩ := dpA_getV hxs hu
        rw [List.getElem?_map, List.getElem?_zipIdx, hdu] at hd
        simp at hd
        subst hd
        exact ⟨upd F2 T (.tup [.int (i : Nat), u]), Grow.new s2 hT, .tup (SqT.of upd_same) (.cons (.int _) (.cons (dp_mono (s.trans (same_upd (s2.free hT))) hpu) .nil))⟩
end Ck

set_option Elab.async false
set_option linter.all false
set_option maxRecDepth 100000
/-! The defs, one by one. -/
namespace Ck
open PySem PySem.Spec PyProof.Rows L2

def top (i : Nat) : Stmt := PySem.Challenge.pw_clockadds_k34_whole_dials_by_powers.main.body.getD i (.Pass ⟨0, 0, 0, 0⟩)
/-- what the module's names hold -/
structure Bt (mg : Str → Option Value) : Prop where
  abs : mg "abs" = none
  isi : mg "isinstance" = none
  int : mg "int" = none
  bool : mg "bool" = none
  tuple : mg "tuple" = none
  list : mg "list" = none
  len : mg "len" = none
  range : mg "range" = none
  sorted : mg "sorted" = none
  zip : mg "zip" = none
  enum : mg "enumerate" = none
  set : mg "set" = none
  sum : mg "sum" = none
  mc : ∃ t, mg "MOST_CLOCKS" = some (.int 7 t)
  lh : ∃ t, mg "LEAST_HOURS" = some (.int 2 t)
  mh : ∃ t, mg "MOST_HOURS" = some (.int 24 t)
  mw : ∃ t, mg "MOST_WORD" = some (.int 5000 t)
theorem E.cst {X : Cx} {z : Str} {i : Int} {pos : Pos} {Γ : List (Option PD)} (n : Nat) (hm : ∃ t, X.mg z = some (.int i t)) (hn : i = (n : Int) := by rfl) (hg : Gl X z := by rfl) (hd : (z == ("__debug__" : Str)) = false := by decide) : E X (.Name z pos) Γ (Ck.nat n) := by
  obtain ⟨t, h⟩ := hm
  subst hn
  exact E.glob (v := .int n) h ⟨t, rfl⟩ (fun F => .int _) hg hd
theorem hu64 {k : Nat} {A : Around} (hr : Room k A) : A.units + 64 < cLine := hr.units
theorem hu65 {k : Nat} {A : Around} (hr : Room (k + 1) A) : A.units + 65 < cLine := by have := hr.un; have := hr.units; omega

section
variable {P : Program} {w : World} {K : PySem.W.Frag} {mg : Str → Option Value} {base : Heap}

abbrev s_is_in : Stmt := top 1
theorem sc_is_in : FnScope ["value", "least", "most"] ["value", "least", "most"] (defScope s_is_in) := ⟨rfl, rfl, rfl, by decide +kernel, rfl, by decide +kernel, by decide +kernel⟩
def pre_is_in (ds : List PD) (d : PD) : Prop := ∃ v lo hi : Int, ds = [.int v, .int lo, .int hi] ∧ d = .bool (decide (lo ≤ v) && decide (v ≤ hi))
abbrev Is_in (P : Program) (w : World) (K : PySem.W.Frag) (mg : Str → Option Value) (base : Heap) : Prop := DefOk P w K mg base 1 "is_in" ["value", "least", "most"] (SpP K 3 pre_is_in)
theorem ok_is_in {f : Addr} {fd : FuncData} (F : Fun K "is_in" "is_in" s_is_in f fd) (hm : mg "is_in" = some (.ref f)) (b : Binds K fd ["value", "least", "most"] []) (B : Bt mg) : Is_in P w K mg base := by
  refine DefOk.make F hm b sc_is_in fun cdv A0 outer s H xk hr ds d hp hl => ?_
  obtain ⟨v, lo, hi, rfl, rfl⟩ := hp
  refine Ss.one (S.ret (E.is (E.and (E.isII B.isi B.int (E.v 0)) fun _ => E.and (E.not (E.isIB B.isi B.bool (E.v 0))) fun _ =>
    E.one (E.chain op_le op_le (rv_I0 fun _ => .bl _) (rv_I0 fun _ => .bl _) (E.v 1) (E.v 0) (E.v 2))) ?_) rfl)
  simp

abbrev s_gcd : Stmt := top 2
theorem sc_gcd : FnScope ["one", "other"] ["one", "other"] (defScope s_gcd) := ⟨rfl, rfl, rfl, by decide +kernel, rfl, by decide +kernel, by decide +kernel⟩
def pre_gcd (ds : List PD) (d : PD) : Prop := ∃ a b : Nat, ds = [nat a, nat b] ∧ d = nat (Nat.gcd a b)
abbrev Gcd (P : Program) (w : World) (K : PySem.W.Frag) (mg : Str → Option Value) (base : Heap) : Prop := DefOk P w K mg base 1 "gcd" ["one", "other"] (SpP K 2 pre_gcd)
theorem ok_gcd {f : Addr} {fd : FuncData} (F : Fun K "gcd" "gcd" s_gcd f fd) (hm : mg "gcd" = some (.ref f)) (b : Binds K fd ["one", "other"] []) (B : Bt mg) : Gcd P w K mg base := by
  refine DefOk.make F hm b sc_gcd fun cdv A0 outer s H xk hr ds d hp hl => ?_
  obtain ⟨a, b, rfl, rfl⟩ := hp
  refine Ss.cons (M := (· = [.val (nat a), .val (nat b)])) (S.par2 0 1 sc_gcd.nd (Src.v (E.abs B.abs (E.v 0))) (Src.v (E.abs B.abs (E.v 1))) rfl) ?_
  rintro _ rfl
  refine Ss.cons (M := (· = [.val (nat (Nat.gcd a b)), .val (nat 0)])) (S.while_ PassesOwn.never (fun m Γ => ∃ x y, m = y ∧ Nat.gcd x y = Nat.gcd a b ∧ Γ = [.val (nat x), .val (nat y)]) b ⟨a, b, rfl, rfl, rfl⟩ ?_) ?_
  · rintro y _ ⟨x, _, rfl, hg, rfl⟩
    refine ⟨_, T.neN (E.v 1) (E.nat 0), fun hy => ?_, fun hy => ?_⟩
    · have hy : y ≠ 0 := by simpa using hy
      refine Ss.one (S.par2 0 1 sc_gcd.nd (Src.v (E.v 1)) (Src.v (E.modN (E.v 0) (E.v 1) (by omega))) ?_)
      exact ⟨x % y, Nat.mod_lt _ (by omega), y, x % y, rfl, by rw [← hg, Nat.gcd_comm x y, Nat.gcd_rec y x, Nat.gcd_comm], rfl⟩
    · have hy : y = 0 := by simpa using hy
      subst hy
      simp at hg
      subst hg
      rfl
  · rintro _ rfl
    exact Ss.one (S.ret (E.v 0) rfl)
end
end Ck

set_option Elab.async false
set_option linter.all false
set_option maxRecDepth 100000
namespace Ck
open PySem PySem.Spec PyProof.Rows L2

abbrev Arr := List (Nat × Nat)
@[reducible] def dArr (a : Nat × Nat) : PD := .tuple [nat a.1, nat a.2]
@[reducible] def dWeb (n : Nat) (ar : Arr) : PD := .tuple [nat n, .tuple (ar.map dArr)]
@[reducible] def dTup (d : List Nat) : PD := .tuple (d.map nat)
def lexlt (a b : Nat × Nat) : Prop := a.1 < b.1 ∨ (a.1 = b.1 ∧ a.2 < b.2)
structure WebOk (n : Nat) (ar : Arr) : Prop where
  lo : 1 ≤ n
  hi : n ≤ 6
  ok : ∀ a ∈ ar, a.1 < n ∧ a.2 < n ∧ a.1 ≠ a.2
  up : ar.Pairwise lexlt
  few : ar.length ≤ 100
theorem encArr : Enc 1 dArr := (Enc.pair Enc.nat Enc.nat).mono (by decide)

section
variable {X : Cx} {st : Stmt} {sts a : List Stmt} {Γ Γ1 : List Sl} {P : Post} {c : Expr} {pos : Pos}
theorem Ss.to (h : S X st Γ { P with nx := (· = Γ1) }) (k : Ss X sts Γ1 P) : Ss X (st :: sts) Γ P := Ss.cons h (by rintro _ rfl; exact k)
/-- if c: .. , c false -/
theorem Ss.skip {x : Bool} (hc : T X c (frz Γ) x) (hx : x = false) (k : Ss X sts Γ P) : Ss X (.If c a [] pos :: sts) Γ P :=
  Ss.to (S.ite hc (fun h => by rw [hx] at h; cases h) (fun _ => Ss.nil rfl)) k
end

section
variable {P : Program} {w : World} {K : PySem.W.Frag} {mg : Str → Option Value} {base : Heap}

/-! ### is_arrow -/
abbrev s_is_arrow : Stmt := top 13
abbrev N_is_arrow : List Str := ["value", "many", "one"]
theorem sc_is_arrow : FnScope N_is_arrow ["value", "many"] (defScope s_is_arrow) := ⟨rfl, rfl, rfl, by decide +kernel, rfl, by decide +kernel, by decide +kernel⟩
def pre_is_arrow (ds : List PD) (d : PD) : Prop := ∃ (a : Nat × Nat) (n : Nat), ds = [dArr a, nat n] ∧ a.1 < n ∧ a.2 < n ∧ a.1 ≠ a.2 ∧ d = .bool true
abbrev Is_arrow (P : Program) (w : World) (K : PySem.W.Frag) (mg : Str → Option Value) (base : Heap) : Prop := DefOk P w K mg base 2 "is_arrow" ["value", "many"] (SpP K 2 pre_is_arrow)
theorem ok_is_arrow {f : Addr} {fd : FuncData} (F : Fun K "is_arrow" "is_arrow" s_is_arrow f fd) (hm : mg "is_arrow" = some (.ref f)) (b : Binds K fd ["value", "many"] []) (B : Bt mg) (D : Is_in P w K mg base) : Is_arrow P w K mg base := by
  refine DefOk.make F hm b sc_is_arrow fun cdv A0 outer s H xk hr ds d hp hl => ?_
  obtain ⟨⟨a1, a2⟩, n, rfl, h1, h2, h3, rfl⟩ := hp
  simp only at h1 h2 h3
  refine Ss.skip (W.t (W.or (T.not (T.val (E.isTT B.isi B.tuple (E.v 0)))) fun _ => W.or1 (T.neN (E.lenT B.len (E.v 0)) (E.nat 2)))) (by simp) ?_
  refine Ss.one (S.ret (E.is (E.and (E.eqD (Enc.list Enc.nat) (hu64 hr) (x := []) (y := []) (EF.ev (EF.is (EF.lcOf
    (LC.mk' [("one", 2)] [a1, a2] nat (fun _ => false) nat (fun x => [(2, nat x)]) (IT.tup (E.v 0)) (blkOk_by (N := N_is_arrow) (sc := defScope s_is_arrow) (by decide +kernel)) (by simp) (by simp)
      (fun x _ s H C cl fp => G.name 2 sc_is_arrow.nd)
      (fun x hx s H C cl fp => Ts.one (T.is (T.not (T.val (E.call D hr (A.cons (E.v 2) (A.cons (E.nat 0) (A.cons (E.subN (E.v 1) (E.nat 1) (by omega)) A.nil))) ⟨_, _, _, rfl, rfl⟩))) ?_))
      (fun x hx h => by cases h))
    sc_is_arrow.nd) rfl)) (EF.ev (EF.lst A.nil))) fun _ => E.one (E.neN (E.ixT (E.v 0) (E.nat 0) rfl) (E.ixT (E.v 0) (E.nat 1) rfl))) ?_) rfl)
  · have : x = a1 ∨ x = a2 := by simpa using hx
    have : x < n := by rcases this with e | e <;> omega
    have h1 : decide ((0 : Int) ≤ (x : Int)) = true := decide_eq_true (by omega)
    have h2 : decide ((x : Int) ≤ ((n - 1 : Nat) : Int)) = true := decide_eq_true (by omega)
    show (!(decide ((0 : Int) ≤ (x : Int)) && decide ((x : Int) ≤ ((n - 1 : Nat) : Int)))) = false
    rw [h1, h2]; rfl
  · simp [h3]

/-! ### need_web -/
theorem T.leC {X : Cx} {e1 e2 e3 : Expr} {Γ : List (Option PD)} {m n k : Nat} {pos : Pos} (ha : E X e1 Γ (Ck.nat m)) (hb : E X e2 Γ (Ck.nat n)) (hc : E X e3 Γ (Ck.nat k)) (hm : lastMarks [CmpOp.LtE, CmpOp.LtE] [e2, e3] = false := by with_unfolding_all rfl) : T X (.Compare e1 [.LtE, .LtE] [e2, e3] pos) Γ (decide (m ≤ n) && decide (n ≤ k)) :=
  (T.chain op_le op_le (rv_I0 fun _ => .bl _) (rv_I0 fun _ => .bl _) ha hb hc hm).is (by simp)
theorem lexAt2 (e r : Nat → Bool) (z : Bool) : Ob.lexAt e r z 0 2 = if e 0 = true then (if e 1 = true then z else r 1) else r 0 := rfl
theorem rv_leT {K : PySem.W.Frag} {a b : Nat × Nat} (h : lexlt b a) : RV K (rLeT K) (dArr a) (dArr b) (.bool false) := fun F H x y s hx hy Q q => by
  obtain ⟨p, xs, rfl, hx, hd⟩ := dp_tup hx
  obtain ⟨r, ys, rfl, hy, hd2⟩ := dp_tup hy
  have e1 := dpA_ints (ns := [(a.1 : Int), (a.2 : Int)]).mp hd
  have e2 := dpA_ints (ns := [(b.1 : Int), (b.2 : Int)]).mp hd2
  subst e1 e2
  refine ⟨p, r, _, _, rfl, rfl, seqT s hx, seqT s hy, ?_⟩
  have : Ob.lexAt (fun j => decide ([(a.1 : Int), (a.2 : Int)].getD j 0 = [(b.1 : Int), (b.2 : Int)].getD j 0)) (fun j => decide ([(a.1 : Int), (a.2 : Int)].getD j 0 ≤ [(b.1 : Int), (b.2 : Int)].getD j 0)) (decide ([(a.1 : Int), (a.2 : Int)].length ≤ [(b.1 : Int), (b.2 : Int)].length)) 0 (min [(a.1 : Int), (a.2 : Int)].length [(b.1 : Int), (b.2 : Int)].length) = false := by
    show Ob.lexAt _ _ _ 0 2 = false
    rw [lexAt2]
    rcases h with h | ⟨h, h'⟩
    · rw [if_neg (by simp; omega)]; simp; omega
    · rw [if_pos (by simp; omega), if_neg (by simp; omega)]; simp; omega
  rw [this]
  exact q _ F H (Grow.refl s) (.bl _)
theorem enum_get {α : Type} {f : α → PD} {xs : List α} {k : Nat} {d : PD} (h : ((xs.map f).zipIdx.map fun q => PyData.tuple [nat q.2, q.1])[k]? = some d) : ∃ a, xs[k]? = some a ∧ d = .tuple [nat k, f a] := by
  rw [List.getElem?_map, List.getElem?_zipIdx, List.getElem?_map] at h
  cases e : xs[k]? with
  | none => rw [e] at h; cases h
  | some a => rw [e] at h; simp at h; exact ⟨a, rfl, h.symm⟩
theorem map_get {α : Type} {f : α → PD} {xs : List α} {k : Nat} {d : PD} (h : (xs.map f)[k]? = some d) : ∃ a, xs[k]? = some a ∧ d = f a := by
  rw [List.getElem?_map] at h
  cases e : xs[k]? with
  | none => rw [e] at h; cases h
  | some a => rw [e] at h; cases h; exact ⟨a, rfl, rfl⟩
theorem get_mem {α : Type} {xs : List α} {k : Nat} {a : α} (h : xs[k]? = some a) : a ∈ xs := List.mem_of_getElem? h
abbrev s_need_web : Stmt := top 14
abbrev N_need_web : List Str := ["web", "index", "one"]
theorem sc_need_web : FnScope N_need_web ["web"] (defScope s_need_web) := ⟨rfl, rfl, rfl, by decide +kernel, rfl, by decide +kernel, by decide +kernel⟩
def pre_need_web (ds : List PD) (d : PD) : Prop := ∃ n ar, ds = [dWeb n ar] ∧ WebOk n ar ∧ d = .none
abbrev Need_web (P : Program) (w : World) (K : PySem.W.Frag) (mg : Str → Option Value) (base : Heap) : Prop := DefOk P w K mg base 3 "need_web" ["web"] (SpP K 1 pre_need_web)
theorem ok_need_web {f : Addr} {fd : FuncData} (F : Fun K "need_web" "need_web" s_need_web f fd) (hm : mg "need_web" = some (.ref f)) (b : Binds K fd ["web"] []) (B : Bt mg) (D : Is_in P w K mg base) (D2 : Is_arrow P w K mg base) : Need_web P w K mg base := by
  refine DefOk.make F hm b sc_need_web fun cdv A0 outer s H xk hr ds d hp hl => ?_
  obtain ⟨n, ar, rfl, ok, rfl⟩ := hp
  refine Ss.skip (W.t (W.or (T.not (T.val (E.isTT B.isi B.tuple (E.v 0)))) fun _ => W.or (T.neN (E.lenT B.len (E.v 0)) (E.nat 2)) fun _ => W.or1 (T.not (T.val (E.isTT B.isi B.tuple (E.ixT (E.v 0) (E.nat 1) rfl)))))) (by simp) ?_
  refine Ss.skip (T.not (T.val (E.call D (hr.mono (by decide)) (A.cons (E.ixT (E.v 0) (E.nat 0) rfl) (A.cons (E.nat 1) (A.cons (E.cst 7 B.mc) A.nil))) ⟨_, _, _, rfl, rfl⟩))) (by
    have h1 := ok.lo; have h2 := ok.hi
    rw [decide_eq_true (show ((1 : Nat) : Int) ≤ (n : Int) by omega), decide_eq_true (show (n : Int) ≤ ((7 : Nat) : Int) by omega)]; rfl) ?_
  refine Ss.one (S.for_ PassesOwn.never (IT.enumT (E.ixT (E.v 0) (E.nat 1) rfl) B.enum) (fun k Γ => ∃ s1 s2, Γ = [.val (dWeb n ar), s1, s2]) ⟨_, _, rfl⟩ ?_ fun Γ1 _ => rfl)
  rintro k d _ hd ⟨s1, s2, rfl⟩
  obtain ⟨a, ha, rfl⟩ := enum_get hd
  have hoa := ok.ok a (get_mem ha)
  refine ⟨_, G.tup2 (G.name 1 sc_need_web.nd) (G.name 2 sc_need_web.nd), ?_⟩
  refine Ss.skip (W.t (W.or (T.not (T.val (E.call D2 (hr.mono (by decide)) (A.cons (E.v 2) (A.cons (E.ixT (E.v 0) (E.nat 0) rfl) A.nil)) ⟨a, n, rfl, hoa.1, hoa.2.1, hoa.2.2, rfl⟩))) fun _ => W.or1 (W.t (W.and (y := false) (T.gtN (E.v 1) (E.nat 0)) fun hk => W.and1 ?_)))) (by simp) (Ss.nil ⟨_, _, rfl⟩)
  have hk : 0 < k := of_decide_eq_true hk
  have hlt : k < ar.length := (List.getElem?_eq_some_iff.mp ha).1
  have hb : ar[k - 1]? = some ar[k - 1] := by simp [show k - 1 < ar.length by omega]
  have hab : lexlt ar[k - 1] a := by
    have := List.pairwise_iff_getElem.mp ok.up (k - 1) k (by omega) hlt (by omega)
    have e : ar[k] = a := by have := List.getElem?_eq_some_iff.mp ha; exact this.2
    rw [e] at this; exact this
  refine T.cmp (op_leT hr.units0) (rv_leT hab) (E.v 2) (E.ixT (E.ixT (E.v 0) (E.nat 1) rfl) (E.subN (E.v 1) (E.nat 1) (by omega)) ?_)
  rw [List.getElem?_map, hb]; rfl

/-! ### need_hours, need_dial, need_all, need_row -/
abbrev s_need_hours : Stmt := top 15
theorem sc_need_hours : FnScope ["hours"] ["hours"] (defScope s_need_hours) := ⟨rfl, rfl, rfl, by decide +kernel, rfl, by decide +kernel, by decide +kernel⟩
def pre_need_hours (ds : List PD) (d : PD) : Prop := ∃ h : Nat, ds = [nat h] ∧ 2 ≤ h ∧ h ≤ 24 ∧ d = .none
abbrev Need_hours (P : Program) (w : World) (K : PySem.W.Frag) (mg : Str → Option Value) (base : Heap) : Prop := DefOk P w K mg base 2 "need_hours" ["hours"] (SpP K 1 pre_need_hours)
theorem ok_need_hours {f : Addr} {fd : FuncData} (F : Fun K "need_hours" "need_hours" s_need_hours f fd) (hm : mg "need_hours" = some (.ref f)) (b : Binds K fd ["hours"] []) (B : Bt mg) (D : Is_in P w K mg base) : Need_hours P w K mg base := by
  refine DefOk.make F hm b sc_need_hours fun cdv A0 outer s H xk hr ds d hp hl => ?_
  obtain ⟨h, rfl, h1, h2, rfl⟩ := hp
  refine Ss.skip (T.not (T.val (E.call D (hr.mono (by decide)) (A.cons (E.v 0) (A.cons (E.cst 2 B.lh) (A.cons (E.cst 24 B.mh) A.nil))) ⟨_, _, _, rfl, rfl⟩))) (by
    rw [decide_eq_true (show ((2 : Nat) : Int) ≤ (h : Int) by omega), decide_eq_true (show (h : Int) ≤ ((24 : Nat) : Int) by omega)]; rfl) (Ss.nil rfl)
abbrev s_need_dial : Stmt := top 16
abbrev N_need_dial : List Str := ["web", "hours", "dial", "index", "one"]
theorem sc_need_dial : FnScope N_need_dial ["web", "hours", "dial"] (defScope s_need_dial) := ⟨rfl, rfl, rfl, by decide +kernel, rfl, by decide +kernel, by decide +kernel⟩
def pre_need_dial (ds : List PD) (d : PD) : Prop := ∃ n ar h dl, ds = [dWeb n ar, nat h, dTup dl] ∧ dl.length = n ∧ 1 ≤ h ∧ (∀ x ∈ dl, x < h) ∧ d = .none
abbrev Need_dial (P : Program) (w : World) (K : PySem.W.Frag) (mg : Str → Option Value) (base : Heap) : Prop := DefOk P w K mg base 2 "need_dial" ["web", "hours", "dial"] (SpP K 3 pre_need_dial)
theorem ok_need_dial {f : Addr} {fd : FuncData} (F : Fun K "need_dial" "need_dial" s_need_dial f fd) (hm : mg "need_dial" = some (.ref f)) (b : Binds K fd ["web", "hours", "dial"] []) (B : Bt mg) (D : Is_in P w K mg base) : Need_dial P w K mg base := by
  refine DefOk.make F hm b sc_need_dial fun cdv A0 outer s H xk hr ds d hp hl => ?_
  obtain ⟨n, ar, h, dl, rfl, h1, h2, h3, rfl⟩ := hp
  refine Ss.skip (W.t (W.or (T.not (T.val (E.isTT B.isi B.tuple (E.v 2)))) fun _ => W.or1 (T.neN (E.lenT B.len (E.v 2)) (E.ixT (E.v 0) (E.nat 0) rfl)))) (by simp [h1]) ?_
  refine Ss.one (S.for_ PassesOwn.never (IT.enumT (E.v 2) B.enum) (fun k Γ => ∃ s1 s2, Γ = [.val (dWeb n ar), .val (nat h), .val (dTup dl), s1, s2]) ⟨_, _, rfl⟩ ?_ fun Γ1 _ => rfl)
  rintro k d _ hd ⟨s1, s2, rfl⟩
  obtain ⟨a, ha, rfl⟩ := enum_get hd
  have hlt := h3 a (get_mem ha)
  refine ⟨_, G.tup2 (G.name 3 sc_need_dial.nd) (G.name 4 sc_need_dial.nd), ?_⟩
  refine Ss.skip (T.not (T.val (E.call D (hr.mono (by decide)) (A.cons (E.v 4) (A.cons (E.nat 0) (A.cons (E.subN (E.v 1) (E.nat 1) (by omega)) A.nil))) ⟨_, _, _, rfl, rfl⟩))) (by
    rw [decide_eq_true (show ((0 : Nat) : Int) ≤ (a : Int) by omega), decide_eq_true (show (a : Int) ≤ ((h - 1 : Nat) : Int) by omega)]; rfl) (Ss.nil ⟨_, _, rfl⟩)
abbrev s_need_all : Stmt := top 17
theorem sc_need_all : FnScope ["web", "hours", "dial"] ["web", "hours", "dial"] (defScope s_need_all) := ⟨rfl, rfl, rfl, by decide +kernel, rfl, by decide +kernel, by decide +kernel⟩
def pre_need_all (ds : List PD) (d : PD) : Prop := ∃ n ar h dl, ds = [dWeb n ar, nat h, dTup dl] ∧ WebOk n ar ∧ 2 ≤ h ∧ h ≤ 24 ∧ dl.length = n ∧ (∀ x ∈ dl, x < h) ∧ d = .none
abbrev Need_all (P : Program) (w : World) (K : PySem.W.Frag) (mg : Str → Option Value) (base : Heap) : Prop := DefOk P w K mg base 4 "need_all" ["web", "hours", "dial"] (SpP K 3 pre_need_all)
theorem ok_need_all {f : Addr} {fd : FuncData} (F : Fun K "need_all" "need_all" s_need_all f fd) (hm : mg "need_all" = some (.ref f)) (b : Binds K fd ["web", "hours", "dial"] []) (B : Bt mg) (D : Need_web P w K mg base) (D2 : Need_hours P w K mg base) (D3 : Need_dial P w K mg base) : Need_all P w K mg base := by
  refine DefOk.make F hm b sc_need_all fun cdv A0 outer s H xk hr ds d hp hl => ?_
  obtain ⟨n, ar, h, dl, rfl, ok, h1, h2, h3, h4, rfl⟩ := hp
  refine Ss.to (S.drop (E.call D (hr.mono (by decide)) (A.cons (E.v 0) A.nil) ⟨n, ar, rfl, ok, rfl⟩) rfl) ?_
  refine Ss.to (S.drop (E.call D2 (hr.mono (by decide)) (A.cons (E.v 1) A.nil) ⟨h, rfl, h1, h2, rfl⟩) rfl) ?_
  exact Ss.one (S.drop (E.call D3 (hr.mono (by decide)) (A.cons (E.v 0) (A.cons (E.v 1) (A.cons (E.v 2) A.nil))) ⟨n, ar, h, dl, rfl, h3, by omega, h4, rfl⟩) rfl)
abbrev s_need_row : Stmt := top 31
theorem sc_need_row : FnScope ["hours", "dial"] ["hours", "dial"] (defScope s_need_row) := ⟨rfl, rfl, rfl, by decide +kernel, rfl, by decide +kernel, by decide +kernel⟩
def pre_need_row (ds : List PD) (d : PD) : Prop := ∃ h dl, ds = [nat h, dTup dl] ∧ 2 ≤ h ∧ h ≤ 24 ∧ 1 ≤ dl.length ∧ dl.length ≤ 6 ∧ (∀ x ∈ dl, x < h) ∧ d = .none
abbrev Need_row (P : Program) (w : World) (K : PySem.W.Frag) (mg : Str → Option Value) (base : Heap) : Prop := DefOk P w K mg base 3 "need_row" ["hours", "dial"] (SpP K 2 pre_need_row)
theorem ok_need_row {f : Addr} {fd : FuncData} (F : Fun K "need_row" "need_row" s_need_row f fd) (hm : mg "need_row" = some (.ref f)) (b : Binds K fd ["hours", "dial"] []) (B : Bt mg) (D2 : Need_hours P w K mg base) (D3 : Need_dial P w K mg base) : Need_row P w K mg base := by
  refine DefOk.make F hm b sc_need_row fun cdv A0 outer s H xk hr ds d hp hl => ?_
  obtain ⟨h, dl, rfl, h1, h2, h3, h4, h5, rfl⟩ := hp
  refine Ss.to (S.drop (E.call D2 (hr.mono (by decide)) (A.cons (E.v 0) A.nil) ⟨h, rfl, h1, h2, rfl⟩) rfl) ?_
  refine Ss.skip (W.t (W.or (T.not (T.val (E.isTT B.isi B.tuple (E.v 1)))) fun _ => W.or1 (T.not (T.leC (E.nat 1) (E.lenT B.len (E.v 1)) (E.cst 7 B.mc))))) (by
    have e : (dl.map nat).length = dl.length := List.length_map _
    rw [e, decide_eq_true h3, decide_eq_true (show dl.length ≤ 7 by omega)]; rfl) ?_
  exact Ss.one (S.drop (E.call D3 (hr.mono (by decide)) (A.cons (E.tup (A.cons (E.lenT B.len (E.v 1)) (A.cons (E.tup A.nil) A.nil))) (A.cons (E.v 0) (A.cons (E.v 1) A.nil))) ⟨(dl.map nat).length, [], h, dl, rfl, (List.length_map _).symm, by omega, h5, rfl⟩) rfl)

/-! ### is_word, need_word, need_all_words -/
abbrev s_is_word : Stmt := top 23
abbrev N_is_word : List Str := ["web", "value", "one", "x"]
theorem sc_is_word : FnScope N_is_word ["web", "value"] (defScope s_is_word) := ⟨rfl, rfl, rfl, by decide +kernel, rfl, by decide +kernel, by decide +kernel⟩
@[reducible] def dWord (wd : Arr) : PD := .tuple (wd.map dArr)
def pre_is_word (ds : List PD) (d : PD) : Prop := ∃ n ar wd, ds = [dWeb n ar, dWord wd] ∧ wd.length ≤ 5000 ∧ (∀ a ∈ wd, a ∈ ar) ∧ d = .bool true
abbrev Is_word (P : Program) (w : World) (K : PySem.W.Frag) (mg : Str → Option Value) (base : Heap) : Prop := DefOk P w K mg base 2 "is_word" ["web", "value"] (SpP K 2 pre_is_word)
theorem ok_is_word {f : Addr} {fd : FuncData} (F : Fun K "is_word" "is_word" s_is_word f fd) (hm : mg "is_word" = some (.ref f)) (b : Binds K fd ["web", "value"] []) (B : Bt mg) : Is_word P w K mg base := by
  refine DefOk.make F hm b sc_is_word fun cdv A0 outer s H xk hr ds d hp hl => ?_
  obtain ⟨n, ar, wd, rfl, h1, h2, rfl⟩ := hp
  refine Ss.skip (W.t (W.or (T.not (T.val (E.isTT B.isi B.tuple (E.v 1)))) fun _ => W.or1 (T.gtN (E.lenT B.len (E.v 1)) (E.cst 5000 B.mw)))) (by
    have e : (wd.map dArr).length = wd.length := List.length_map _
    rw [e, decide_eq_false (show ¬ 5000 < wd.length by omega)]; rfl) ?_
  refine Ss.cons (M := fun Γ => True) (S.for_ PassesOwn.never (IT.tup (E.v 1)) (fun k Γ => ∃ s1 s2, Γ = [.val (dWeb n ar), .val (dWord wd), s1, s2]) ⟨_, _, rfl⟩ ?_ fun Γ1 _ => trivial) fun Γ _ => Ss.one (S.ret E.bl rfl)
  rintro k d _ hd ⟨s1, s2, rfl⟩
  obtain ⟨⟨a1, a2⟩, ha, rfl⟩ := map_get hd
  refine ⟨_, G.name 2 sc_is_word.nd, ?_⟩
  refine Ss.skip (W.t (W.or (T.not (T.val (E.isTT B.isi B.tuple (E.v 2)))) fun _ => W.or1 (T.neN (E.lenT B.len (E.v 2)) (E.nat 2)))) (by simp) ?_
  refine Ss.skip (W.t (W.or (T.neD (Enc.list Enc.nat) (hu64 hr) (x := []) (y := []) (EF.ev (EF.is (EF.lcOf
    (LC.mk' [("x", 3)] [a1, a2] nat (fun _ => false) nat (fun x => [(3, nat x)]) (IT.tup (E.v 2)) (blkOk_by (N := N_is_word) (sc := defScope s_is_word) (by decide +kernel)) (by simp) (by simp)
      (fun x _ s H C cl fp => G.name 3 sc_is_word.nd)
      (fun x hx s H C cl fp => Ts.one (T.is (W.t (W.or (T.not (T.val (E.isII B.isi B.int (E.v 3)))) fun _ => W.or1 (T.val (E.isIB B.isi B.bool (E.v 3))))) rfl))
      (fun x hx h => by cases h))
    sc_is_word.nd) rfl)) (EF.ev (EF.lst A.nil))) fun _ => W.or1 (T.niT encArr (hu65 hr) (x := (a1, a2)) (E.v 2) (E.ixT (E.v 0) (E.nat 1) rfl)))) ?_ (Ss.nil ⟨_, _, rfl⟩)
  have := h2 _ (get_mem ha)
  simp [this]
abbrev s_need_word : Stmt := top 24
theorem sc_need_word : FnScope ["web", "word"] ["web", "word"] (defScope s_need_word) := ⟨rfl, rfl, rfl, by decide +kernel, rfl, by decide +kernel, by decide +kernel⟩
def pre_need_word (ds : List PD) (d : PD) : Prop := ∃ n ar wd, ds = [dWeb n ar, dWord wd] ∧ wd.length ≤ 5000 ∧ (∀ a ∈ wd, a ∈ ar) ∧ d = .none
abbrev Need_word (P : Program) (w : World) (K : PySem.W.Frag) (mg : Str → Option Value) (base : Heap) : Prop := DefOk P w K mg base 3 "need_word" ["web", "word"] (SpP K 2 pre_need_word)
theorem ok_need_word {f : Addr} {fd : FuncData} (F : Fun K "need_word" "need_word" s_need_word f fd) (hm : mg "need_word" = some (.ref f)) (b : Binds K fd ["web", "word"] []) (B : Bt mg) (D : Is_word P w K mg base) : Need_word P w K mg base := by
  refine DefOk.make F hm b sc_need_word fun cdv A0 outer s H xk hr ds d hp hl => ?_
  obtain ⟨n, ar, wd, rfl, h1, h2, rfl⟩ := hp
  exact Ss.skip (T.not (T.val (E.call D (hr.mono (by decide)) (A.cons (E.v 0) (A.cons (E.v 1) A.nil)) ⟨n, ar, wd, rfl, h1, h2, rfl⟩))) rfl (Ss.nil rfl)
abbrev s_need_all_words : Stmt := top 26
theorem sc_need_all_words : FnScope ["web", "hours", "word"] ["web", "hours", "word"] (defScope s_need_all_words) := ⟨rfl, rfl, rfl, by decide +kernel, rfl, by decide +kernel, by decide +kernel⟩
def pre_need_all_words (ds : List PD) (d : PD) : Prop := ∃ n ar h wd, ds = [dWeb n ar, nat h, dWord wd] ∧ WebOk n ar ∧ 2 ≤ h ∧ h ≤ 24 ∧ wd.length ≤ 5000 ∧ (∀ a ∈ wd, a ∈ ar) ∧ d = .none
abbrev Need_all_words (P : Program) (w : World) (K : PySem.W.Frag) (mg : Str → Option Value) (base : Heap) : Prop := DefOk P w K mg base 4 "need_all_words" ["web", "hours", "word"] (SpP K 3 pre_need_all_words)
theorem ok_need_all_words {f : Addr} {fd : FuncData} (F : Fun K "need_all_words" "need_all_words" s_need_all_words f fd) (hm : mg "need_all_words" = some (.ref f)) (b : Binds K fd ["web", "hours", "word"] []) (B : Bt mg) (D : Need_web P w K mg base) (D2 : Need_hours P w K mg base) (D3 : Need_word P w K mg base) : Need_all_words P w K mg base := by
  refine DefOk.make F hm b sc_need_all_words fun cdv A0 outer s H xk hr ds d hp hl => ?_
  obtain ⟨n, ar, h, wd, rfl, ok, h1, h2, h3, h4, rfl⟩ := hp
  refine Ss.to (S.drop (E.call D (hr.mono (by decide)) (A.cons (E.v 0) A.nil) ⟨n, ar, rfl, ok, rfl⟩) rfl) ?_
  refine Ss.to (S.drop (E.call D2 (hr.mono (by decide)) (A.cons (E.v 1) A.nil) ⟨h, rfl, h1, h2, rfl⟩) rfl) ?_
  exact Ss.one (S.drop (E.call D3 (hr.mono (by decide)) (A.cons (E.v 0) (A.cons (E.v 2) A.nil)) ⟨n, ar, wd, rfl, h3, h4, rfl⟩) rfl)
end
end Ck

set_option Elab.async false
set_option linter.all false
set_option maxRecDepth 100000
namespace Ck
open PySem PySem.Spec PyProof.Rows L2

/-! ### where arrows lead -/
def Reach (ar : Arr) (p q : Nat) : Prop := ∀ S : Nat → Prop, S p → (∀ a ∈ ar, S a.1 → S a.2) → S q
theorem Reach.refl (ar : Arr) (p : Nat) : Reach ar p p := fun _ h _ => h
theorem Reach.step {ar : Arr} {p : Nat} {a : Nat × Nat} (h : Reach ar p a.1) (ha : a ∈ ar) : Reach ar p a.2 := fun S h0 hs => hs a ha (h S h0 hs)
theorem Reach.trans {ar : Arr} {p q r : Nat} (h : Reach ar p q) (k : Reach ar q r) : Reach ar p r := fun S h0 hs => k S (h S h0 hs) hs
open Classical in
noncomputable def led (n : Nat) (ar : Arr) (p : Nat) : List Nat := (List.range n).filter fun q => decide (Reach ar p q)
theorem mem_led {n : Nat} {ar : Arr} {p q : Nat} : q ∈ led n ar p ↔ q < n ∧ Reach ar p q := by simp [led]
theorem led_nodup (n : Nat) (ar : Arr) (p : Nat) : (led n ar p).Nodup := List.Nodup.sublist List.filter_sublist List.nodup_range
theorem led_up (n : Nat) (ar : Arr) (p : Nat) : (led n ar p).Pairwise (· < ·) := List.Pairwise.sublist List.filter_sublist List.pairwise_lt_range
theorem led_len (n : Nat) (ar : Arr) (p : Nat) : (led n ar p).length ≤ n := by
  have := List.length_filter_le (fun q => @decide (Reach ar p q) (Classical.propDecidable _)) (List.range n)
  rw [List.length_range] at this
  exact this
theorem nodup_lt {n : Nat} {xs : List Nat} (h : xs.Nodup) (hl : ∀ x ∈ xs, x < n) : xs.length ≤ n := by
  have p : xs.Perm ((List.range n).filter fun q => decide (q ∈ xs)) := (List.perm_ext_iff_of_nodup h (List.Nodup.sublist List.filter_sublist List.nodup_range)).mpr fun a => by
    simp; exact fun q => hl a q
  rw [p.length_eq]
  refine Nat.le_trans (List.length_filter_le _ _) ?_
  rw [List.length_range]
  exact Nat.le_refl n
theorem sorted_led {n : Nat} {ar : Arr} {p : Nat} {found : List Nat} (nd : found.Nodup) (h : ∀ q, q ∈ found ↔ q < n ∧ Reach ar p q) (ns' : List Int) (hp : ns'.Perm (found.map fun (n : Nat) => (n : Int))) (hs : ns'.Pairwise (· ≤ ·)) :
    ns' = (led n ar p).map fun (n : Nat) => (n : Int) := by
  have p1 : found.Perm (led n ar p) := (List.perm_ext_iff_of_nodup nd (led_nodup n ar p)).mpr fun a => by rw [h a, mem_led]
  have p2 := hp.trans (p1.map fun (n : Nat) => (n : Int))
  refine List.Perm.eq_of_pairwise (le := (· ≤ ·)) (fun a b _ _ h1 h2 => Int.le_antisymm h1 h2) hs ?_ p2
  rw [List.pairwise_map]
  exact (led_up n ar p).imp fun h => by omega
structure Dfs (n : Nat) (ar : Arr) (p : Nat) (found rows : List Nat) : Prop where
  pin : p ∈ found
  nd : found.Nodup
  lt : ∀ x ∈ found, x < n
  re : ∀ x ∈ found, Reach ar p x
  sub : ∀ x ∈ rows, x ∈ found
structure DfsW (n : Nat) (ar : Arr) (p : Nat) (found rows : List Nat) : Prop extends Dfs n ar p found rows where
  cl : ∀ a ∈ ar, a.1 ∈ found → a.1 ∉ rows → a.2 ∈ found
structure DfsI (n : Nat) (ar : Arr) (p h k : Nat) (found rows : List Nat) : Prop extends Dfs n ar p found rows where
  hin : h ∈ found
  cl : ∀ (i : Nat) a, ar[i]? = some a → a.1 ∈ found → a.1 ∉ rows → (a.1 ≠ h ∨ i < k) → a.2 ∈ found
theorem DfsW.start {n : Nat} {ar : Arr} {p : Nat} (hp : p < n) : DfsW n ar p [p] [p] :=
  ⟨⟨by simp, by simp, by simpa using hp, by simpa using Reach.refl ar p, by simp⟩, fun a _ h1 h2 => absurd h1 h2⟩
theorem DfsW.done {n : Nat} {ar : Arr} {p : Nat} {found : List Nat} (h : DfsW n ar p found []) (q : Nat) : q ∈ found ↔ q < n ∧ Reach ar p q :=
  ⟨fun hq => ⟨h.lt q hq, h.re q hq⟩, fun hq => hq.2 (· ∈ found) h.pin fun a ha h1 => h.cl a ha h1 (by simp)⟩
theorem DfsW.pop {n : Nat} {ar : Arr} {p h : Nat} {found r : List Nat} (d : DfsW n ar p found (r ++ [h])) : DfsI n ar p h 0 found r :=
  ⟨⟨d.pin, d.nd, d.lt, d.re, fun x hx => d.sub x (by simp [hx])⟩, d.sub h (by simp), fun i a ha h1 h2 h3 => d.cl a (get_mem ha) h1 fun hm => by
    rcases List.mem_append.mp hm with h4 | h4
    · exact h2 h4
    · rcases h3 with h3 | h3
      · exact h3 (by simpa using h4)
      · omega⟩
theorem DfsI.keep {n : Nat} {ar : Arr} {p h k : Nat} {found rows : List Nat} {a : Nat × Nat} (d : DfsI n ar p h k found rows) (ha : ar[k]? = some a) (hk : a.1 = h → a.2 ∈ found) : DfsI n ar p h (k + 1) found rows :=
  ⟨d.toDfs, d.hin, fun i b hb h1 h2 h3 => by
    by_cases e : i = k
    · subst e
      rw [ha] at hb; cases hb
      by_cases e2 : a.1 = h
      · exact hk e2
      · exact d.cl i a ha h1 h2 (.inl e2)
    · exact d.cl i b hb h1 h2 (by omega)⟩
theorem DfsI.add {n : Nat} {ar : Arr} {p h k : Nat} {found rows : List Nat} {a : Nat × Nat} (d : DfsI n ar p h k found rows) (ha : ar[k]? = some a) (h1 : a.1 = h) (h2 : a.2 ∉ found) (hn : a.2 < n) : DfsI n ar p h (k + 1) (found ++ [a.2]) (rows ++ [a.2]) := by
  refine ⟨⟨by simp [d.pin], ?_, ?_, ?_, ?_⟩, by simp [d.hin], fun i b hb q1 q2 q3 => ?_⟩
  · rw [List.nodup_append]
    refine ⟨d.nd, by simp, fun x hx y hy => ?_⟩
    have : y = a.2 := by simpa using hy
    subst this
    rintro rfl; exact h2 hx
  · intro x hx
    rcases List.mem_append.mp hx with q | q
    · exact d.lt x q
    · have : x = a.2 := by simpa using q
      omega
  · intro x hx
    rcases List.mem_append.mp hx with q | q
    · exact d.re x q
    · have : x = a.2 := by simpa using q
      subst this
      exact Reach.step (by rw [h1]; exact d.re h d.hin) (get_mem ha)
  · intro x hx
    rcases List.mem_append.mp hx with q | q
    · exact List.mem_append_left _ (d.sub x q)
    · exact List.mem_append_right _ q
  · have q2' : b.1 ∉ rows ∧ b.1 ≠ a.2 := by
      constructor
      · intro q; exact q2 (List.mem_append_left _ q)
      · intro q; exact q2 (List.mem_append_right _ (by simp [q]))
    have q1' : b.1 ∈ found := by
      rcases List.mem_append.mp q1 with q | q
      · exact q
      · exact absurd (by simpa using q) q2'.2
    by_cases e : i = k
    · subst e
      rw [ha] at hb; cases hb
      simp
    · exact List.mem_append_left _ (d.cl i b hb q1' q2'.1 (by omega))
theorem DfsI.out {n : Nat} {ar : Arr} {p h : Nat} {found rows : List Nat} (d : DfsI n ar p h ar.length found rows) : DfsW n ar p found rows :=
  ⟨d.toDfs, fun a ha h1 h2 => by
    obtain ⟨i, hi, e⟩ := List.getElem_of_mem ha
    exact d.cl i a (by rw [List.getElem?_eq_getElem hi, e]) h1 h2 (.inr hi)⟩

section
variable {P : Program} {w : World} {K : PySem.W.Frag} {mg : Str → Option Value} {base : Heap}
abbrev s_led_from : Stmt := top 18
abbrev N_led_from : List Str := ["web", "place", "found", "rows", "here", "one", "other"]
theorem sc_led_from : FnScope N_led_from ["web", "place"] (defScope s_led_from) := ⟨rfl, rfl, rfl, by decide +kernel, rfl, by decide +kernel, by decide +kernel⟩
def pre_led_from (ds : List PD) (d : PD) : Prop := ∃ n ar p, ds = [dWeb n ar, nat p] ∧ WebOk n ar ∧ p < n ∧ d = .list ((led n ar p).map nat)
abbrev Led_from (P : Program) (w : World) (K : PySem.W.Frag) (mg : Str → Option Value) (base : Heap) : Prop := DefOk P w K mg base 2 "led_from" ["web", "place"] (SpP K 2 pre_led_from)
theorem ok_led_from {f : Addr} {fd : FuncData} (F : Fun K "led_from" "led_from" s_led_from f fd) (hm : mg "led_from" = some (.ref f)) (b : Binds K fd ["web", "place"] []) (B : Bt mg) : Led_from P w K mg base := by
  refine DefOk.make F hm b sc_led_from fun cdv A0 outer s H xk hr ds d hp hl => ?_
  obtain ⟨n, ar, p, rfl, ok, hp, rfl⟩ := hp
  have hlo := ok.lo
  have hhi := ok.hi
  refine Ss.to (S.par2 2 3 sc_led_from.nd (Src.f (EF.lst (A.cons (E.v 1) A.nil))) (Src.f (EF.lst (A.cons (E.v 1) A.nil))) rfl) ?_
  refine Ss.cons (M := fun Γ => ∃ found s1 s2 s3, DfsW n ar p found [] ∧ Γ = [.val (dWeb n ar), .val (nat p), .own (found.map nat), .own [], s1, s2, s3])
    (S.while_ PassesOwn.never (fun m Γ => ∃ found rows s1 s2 s3, DfsW n ar p found rows ∧ m = 2 * (n - found.length) + rows.length ∧ m ≤ 50 ∧ Γ = [.val (dWeb n ar), .val (nat p), .own (found.map nat), .own (rows.map nat), s1, s2, s3])
      (2 * (n - 1) + 1) ⟨[p], [p], _, _, _, DfsW.start hp, rfl, by omega, rfl⟩ ?_) ?_
  · rintro m _ ⟨found, rows, s1, s2, s3, dfs, rfl, hm, rfl⟩
    refine ⟨_, T.neD (Enc.list Enc.nat) (hu64 hr) (x := rows) (y := []) (E.v 3) (EF.ev (EF.lst A.nil)), fun h => ?_, fun h => ?_⟩
    · have h : rows ≠ [] := by simpa using h
      obtain ⟨r, x, rfl⟩ : ∃ r x, rows = r ++ [x] := ⟨rows.dropLast, rows.getLast h, (List.dropLast_concat_getLast h).symm⟩
      refine Ss.to (Γ1 := [.val (dWeb n ar), .val (nat p), .own (found.map nat), .own (r.map nat), .val (nat x), s2, s3]) (S.popTo 3 4 sc_led_from.nd (ds := (r ++ [x]).map nat) (d := nat x) rfl (by simp) (by simp)) ?_
      have hd := dfs.pop
      refine Ss.one (S.for_ PassesOwn.never (IT.tup (E.ixT (E.v 0) (E.nat 1) rfl)) (fun k Γ => ∃ found' rows' s2 s3, DfsI n ar p x k found' rows' ∧ 2 * (n - found'.length) + rows'.length ≤ 2 * (n - found.length) + r.length ∧ Γ = [.val (dWeb n ar), .val (nat p), .own (found'.map nat), .own (rows'.map nat), .val (nat x), s2, s3])
        ⟨found, r, _, _, hd, Nat.le_refl _, rfl⟩ ?_ ?_)
      · rintro k d _ hdk ⟨found', rows', t2, t3, dk, hmk, rfl⟩
        obtain ⟨⟨a1, a2⟩, ha, rfl⟩ := map_get hdk
        refine ⟨_, G.tup2 (G.name 5 sc_led_from.nd) (G.name 6 sc_led_from.nd), ?_⟩
        have hoa := ok.ok _ (get_mem ha)
        have hfl := nodup_lt dk.nd dk.lt
        refine Ss.one (S.ite (W.t (W.and (T.eqN (E.v 5) (E.v 4)) fun _ => W.and1 (T.niL Enc.nat (hu65 hr) (x := a2) (xs := found') (E.v 6) (E.v 2)))) (fun h => ?_) fun h => ?_)
        · have h : a1 = x ∧ a2 ∉ found' := by simpa using h
          have dk' := dk.add ha h.1 h.2 hoa.2.1
          have hfl' := nodup_lt dk'.nd dk'.lt
          rw [List.length_append] at hfl'
          simp only [List.length_singleton] at hfl'
          have hrl : rows'.length ≤ 100 := by rw [List.length_append] at hm; omega
          refine Ss.to (S.app 2 (ds := found'.map nat) rfl (Src.v (E.v 6)) (by rw [List.length_map]; omega) rfl) (Ss.one (S.app 3 (ds := rows'.map nat) rfl (Src.v (E.v 6)) (by rw [List.length_map]; omega) ?_))
          refine ⟨found' ++ [a2], rows' ++ [a2], _, _, dk', ?_, by simp [setS]; exact ⟨rfl, rfl⟩⟩
          rw [List.length_append, List.length_append]
          simp only [List.length_singleton]
          omega
        · have h : a1 = x → a2 ∈ found' := by simpa using h
          exact Ss.nil ⟨found', rows', _, _, dk.keep ha h, hmk, rfl⟩
      · rintro _ ⟨found', rows', t2, t3, dk, hmk, rfl⟩
        rw [List.length_map] at dk
        refine ⟨_, ?_, found', rows', _, _, _, dk.out, rfl, ?_, rfl⟩
        · rw [List.length_append]; simp only [List.length_singleton]; omega
        · rw [List.length_append] at hm; omega
    · have h : rows = [] := by simpa using h
      subst h
      exact ⟨found, _, _, _, dfs, rfl⟩
  · rintro _ ⟨found, s1, s2, s3, dfs, rfl⟩
    exact Ss.one (S.retFr (EF.ev (EF.sorted (ns := found) (sorted_led dfs.nd dfs.done) B.sorted (E.v 2))) rfl)
end
end Ck

set_option Elab.async false
set_option linter.all false
set_option maxRecDepth 100000
namespace Ck
open PySem PySem.Spec PyProof.Rows L2

theorem IT.is {X : Cx} {tg iter : Expr} {Γ : List (Option PD)} {ds ds' : List PD} (h : IT X tg iter Γ ds) (e : ds = ds') : IT X tg iter Γ ds' := e ▸ h
theorem range_get {n k : Nat} {a : Nat} (h : (List.range n)[k]? = some a) : a = k ∧ k < n := by
  have hk : k < n := by have := (List.getElem?_eq_some_iff.mp h).1; simpa using this
  rw [List.getElem?_range hk] at h
  exact ⟨(Option.some.inj h).symm, hk⟩
theorem range_at {n k : Nat} (h : k < n) : (List.range n)[k]? = some k := List.getElem?_range h
theorem foldl_snoc {α β : Type} (f : β → α → β) (b : β) {xs : List α} {i : Nat} {a : α} (h : xs[i]? = some a) : (xs.take (i + 1)).foldl f b = f ((xs.take i).foldl f b) a := by
  rw [take_snoc h, List.foldl_append]; rfl

/-! ### parts, what lies above -/
noncomputable def partOf (n : Nat) (ar : Arr) (k : Nat) : List Nat := (led n ar k).filter fun j => decide (k ∈ led n ar j)
def addP (acc : List (List Nat)) (p : List Nat) : List (List Nat) := if p ∈ acc then acc else acc ++ [p]
noncomputable def partsF (n : Nat) (ar : Arr) : List (List Nat) := (List.range n).foldl (fun acc k => addP acc (partOf n ar k)) []
noncomputable def aboveF (n : Nat) (ar : Arr) (p : Nat) : List Nat := (List.range n).filter fun k => decide (p ∈ led n ar k) && !decide (k ∈ led n ar p)
theorem addP_len (acc : List (List Nat)) (p : List Nat) : (addP acc p).length ≤ acc.length + 1 := by
  unfold addP; split
  · omega
  · simp
theorem fold_len {α : Type} (f : α → List Nat) : ∀ (xs : List α) (acc : List (List Nat)), (xs.foldl (fun acc k => addP acc (f k)) acc).length ≤ acc.length + xs.length
  | [], acc => by simp
  | x :: xs, acc => by
    have h1 := fold_len f xs (addP acc (f x))
    have h2 := addP_len acc (f x)
    simp only [List.foldl_cons, List.length_cons]
    omega
section
variable {P : Program} {w : World} {K : PySem.W.Frag} {mg : Str → Option Value} {base : Heap}
abbrev s_parts_in : Stmt := top 19
abbrev N_parts_in : List Str := ["web", "leads_to", "found", "k", "part", "j"]
theorem sc_parts_in : FnScope N_parts_in ["web"] (defScope s_parts_in) := ⟨rfl, rfl, rfl, by decide +kernel, rfl, by decide +kernel, by decide +kernel⟩
@[reducible] noncomputable def dParts (n : Nat) (ar : Arr) : PD := .list ((partsF n ar).map dTup)
def pre_parts_in (ds : List PD) (d : PD) : Prop := ∃ n ar, ds = [dWeb n ar] ∧ WebOk n ar ∧ d = dParts n ar
abbrev Parts_in (P : Program) (w : World) (K : PySem.W.Frag) (mg : Str → Option Value) (base : Heap) : Prop := DefOk P w K mg base 3 "parts_in" ["web"] (SpP K 1 pre_parts_in)
theorem ok_parts_in {f : Addr} {fd : FuncData} (F : Fun K "parts_in" "parts_in" s_parts_in f fd) (hm : mg "parts_in" = some (.ref f)) (b : Binds K fd ["web"] []) (B : Bt mg) (D : Led_from P w K mg base) : Parts_in P w K mg base := by
  refine DefOk.make F hm b sc_parts_in fun cdv A0 outer s H xk hr ds d hp hl => ?_
  obtain ⟨n, ar, rfl, ok, rfl⟩ := hp
  have hhi := ok.hi
  -- leads_to
  refine Ss.to (S.set 1 sc_parts_in.nd (Src.v (EF.ev (EF.lcOf (LC.all [("k", 3)] (List.range n) nat (fun k => .list ((led n ar k).map nat)) (fun k => [(3, nat k)])
    (IT.range1 (E.ixT (E.v 0) (E.nat 0) rfl) (by omega) B.range) (blkOk_by (N := N_parts_in) (sc := defScope s_parts_in) (by decide +kernel)) (by simp) (by simp; omega)
    (fun k _ s H C cl fp => G.name 3 sc_parts_in.nd) (fun k hk s H C cl fp => E.call D hr (A.cons (E.v 0) (A.cons (E.v 3) A.nil)) ⟨n, ar, k, rfl, ok, by simpa using hk, rfl⟩)) sc_parts_in.nd))) rfl) ?_
  refine Ss.to (S.set 2 sc_parts_in.nd (Src.f (EF.lst A.nil)) rfl) ?_
  let L : PD := .list ((List.range n).map fun k => .list ((led n ar k).map nat))
  let acc : Nat → List (List Nat) := fun i => ((List.range n).take i).foldl (fun acc k => addP acc (partOf n ar k)) []
  refine Ss.cons (M := fun Γ => ∃ s1 s2, Γ = [.val (dWeb n ar), .val L, .own ((partsF n ar).map dTup), s1, s2, .any])
    (S.for_ PassesOwn.never (IT.range1 (E.ixT (E.v 0) (E.nat 0) rfl) (by omega) B.range) (fun i Γ => ∃ s1 s2, Γ = [.val (dWeb n ar), .val L, .own ((acc i).map dTup), s1, s2, .any]) ⟨_, _, rfl⟩ ?_ ?_) ?_
  · rintro i d _ hd ⟨s1, s2, rfl⟩
    obtain ⟨k, hk, rfl⟩ := map_get hd
    have hk0 := hk
    obtain ⟨rfl, hkn⟩ := range_get hk
    refine ⟨_, G.name 3 sc_parts_in.nd, ?_⟩
    have hacc : acc (k + 1) = addP (acc k) (partOf n ar k) := foldl_snoc _ _ hk0
    have hlen : (acc k).length ≤ k := by
      have := fold_len (partOf n ar) ((List.range n).take k) []
      rw [List.length_take, List.length_range] at this
      simp only [List.length_nil, Nat.zero_add] at this
      exact Nat.le_trans this (Nat.min_le_left _ _)
    refine Ss.to (S.set 4 sc_parts_in.nd (Src.v (E.tupleOf B.tuple (EF.ev (EF.lcOf (LC.mk' [("j", 5)] (led n ar k) nat (fun j => decide (k ∈ led n ar j)) nat (fun j => [(5, nat j)])
      (IT.list (E.ixL (E.v 1) (E.v 3) (by rw [List.getElem?_map, range_at hkn]; rfl))) (blkOk_by (N := N_parts_in) (sc := defScope s_parts_in) (by decide +kernel)) (by simp) (by have := led_len n ar k; omega)
      (fun j _ s H C cl fp => G.name 5 sc_parts_in.nd)
      (fun j hj s H C cl fp => Ts.one (T.inL Enc.nat (hu65 hr) (x := k) (E.v 3) (E.ixL (E.v 1) (E.v 5) (by rw [List.getElem?_map, range_at (mem_led.mp hj).1]; rfl))))
      (fun j hj _ s H C cl fp => E.v 5)) sc_parts_in.nd)))) rfl) ?_
    refine Ss.one (S.ite (T.niL (Enc.tuple Enc.nat) (hu65 hr) (x := partOf n ar k) (xs := acc k) (E.v 4) (E.v 2)) (fun h => ?_) fun h => ?_)
    · have h : partOf n ar k ∉ acc k := by simpa using h
      refine Ss.one (S.app 2 (ds := (acc k).map dTup) rfl (Src.v (E.v 4)) (by rw [List.length_map]; omega) ?_)
      refine ⟨.val (nat k), .val (dTup (partOf n ar k)), ?_⟩
      have e : addP (acc k) (partOf n ar k) = acc k ++ [partOf n ar k] := by unfold addP; rw [if_neg h]
      rw [hacc, e, List.map_append]
      rfl
    · have h : partOf n ar k ∈ acc k := by simpa using h
      refine Ss.nil ⟨.val (nat k), .val (dTup (partOf n ar k)), ?_⟩
      have e : addP (acc k) (partOf n ar k) = acc k := by unfold addP; rw [if_pos h]
      rw [hacc, e]
      rfl
  · rintro _ ⟨s1, s2, rfl⟩
    refine ⟨s1, s2, ?_⟩
    have e : acc ((List.range n).map nat).length = partsF n ar := by
      show List.foldl _ _ _ = _
      rw [List.length_map, List.take_length]; rfl
    rw [e]
  · rintro _ ⟨s1, s2, rfl⟩
    exact Ss.one (S.retFr (E.v 2) rfl)
abbrev s_above_in : Stmt := top 20
abbrev N_above_in : List Str := ["web", "place", "here", "k"]
theorem sc_above_in : FnScope N_above_in ["web", "place"] (defScope s_above_in) := ⟨rfl, rfl, rfl, by decide +kernel, rfl, by decide +kernel, by decide +kernel⟩
def pre_above_in (ds : List PD) (d : PD) : Prop := ∃ n ar p, ds = [dWeb n ar, nat p] ∧ WebOk n ar ∧ p < n ∧ d = .list ((aboveF n ar p).map nat)
abbrev Above_in (P : Program) (w : World) (K : PySem.W.Frag) (mg : Str → Option Value) (base : Heap) : Prop := DefOk P w K mg base 3 "above_in" ["web", "place"] (SpP K 2 pre_above_in)
theorem ok_above_in {f : Addr} {fd : FuncData} (F : Fun K "above_in" "above_in" s_above_in f fd) (hm : mg "above_in" = some (.ref f)) (b : Binds K fd ["web", "place"] []) (B : Bt mg) (D : Led_from P w K mg base) : Above_in P w K mg base := by
  refine DefOk.make F hm b sc_above_in fun cdv A0 outer s H xk hr ds d hp hl => ?_
  obtain ⟨n, ar, p, rfl, ok, hp, rfl⟩ := hp
  have hhi := ok.hi
  refine Ss.to (S.set 2 sc_above_in.nd (Src.v (E.call D hr (A.cons (E.v 0) (A.cons (E.v 1) A.nil)) ⟨n, ar, p, rfl, ok, hp, rfl⟩)) rfl) ?_
  exact Ss.one (S.ret (EF.ev (EF.lcOf (LC.mk' [("k", 3)] (List.range n) nat (fun k => decide (p ∈ led n ar k) && !decide (k ∈ led n ar p)) nat (fun k => [(3, nat k)])
    (IT.range1 (E.ixT (E.v 0) (E.nat 0) rfl) (by omega) B.range) (blkOk_by (N := N_above_in) (sc := defScope s_above_in) (by decide +kernel)) (by simp) (by simp; omega)
    (fun k _ s H C cl fp => G.name 3 sc_above_in.nd)
    (fun k hk s H C cl fp => Ts.one (W.t (W.and (T.inL Enc.nat (hu65 hr) (x := p) (E.v 1) (E.call D hr (A.cons (E.v 0) (A.cons (E.v 3) A.nil)) ⟨n, ar, k, rfl, ok, by simpa using hk, rfl⟩)) fun _ =>
      W.and1 (T.niL Enc.nat (hu65 hr) (x := k) (E.v 3) (E.v 2)))))
    (fun k hk _ s H C cl fp => E.v 3)) sc_above_in.nd)) rfl)

/-! ### tables of words -/
def unitF (n : Nat) : List (List Nat) := (List.range n).map fun k => (List.range n).map fun j => if k = j then 1 else 0
def tabStep (h : Nat) (t : List (List Nat)) (a : Nat × Nat) : List (List Nat) := t.set a.2 (((t.getD a.2 []).zip (t.getD a.1 [])).map fun p => (p.1 + p.2) % h)
def tableF (n h : Nat) (wd : Arr) : List (List Nat) := wd.foldl (tabStep h) (unitF n)
@[reducible] def dLst (r : List Nat) : PD := .list (r.map nat)
abbrev s_unit : Stmt := top 27
abbrev N_unit : List Str := ["many", "k", "j"]
theorem sc_unit : FnScope N_unit ["many"] (defScope s_unit) := ⟨rfl, rfl, rfl, by decide +kernel, rfl, by decide +kernel, by decide +kernel⟩
def pre_unit (ds : List PD) (es : List PD) : Prop := ∃ n : Nat, ds = [nat n] ∧ n ≤ 6 ∧ es = (unitF n).map dLst
abbrev Unit_ (P : Program) (w : World) (K : PySem.W.Frag) (mg : Str → Option Value) (base : Heap) : Prop := DefOk P w K mg base 1 "unit" ["many"] (SpF K 1 pre_unit)
theorem ok_unit {f : Addr} {fd : FuncData} (F : Fun K "unit" "unit" s_unit f fd) (hm : mg "unit" = some (.ref f)) (b : Binds K fd ["many"] []) (B : Bt mg) : Unit_ P w K mg base := by
  refine DefOk.makeF F hm b sc_unit fun cdv A0 outer s H xk hr ds es hp hl => ?_
  obtain ⟨n, rfl, hn, rfl⟩ := hp
  refine Ss.one (S.retF (EF.is (EF.lcOf (LC.all [("k", 1)] (List.range n) nat (fun k => dLst ((List.range n).map fun j => if k = j then 1 else 0)) (fun k => [(1, nat k)])
    (IT.range1 (E.v 0) (by omega) B.range) (blkOk_by (N := N_unit) (sc := defScope s_unit) (by decide +kernel)) (by simp) (by simp; omega)
    (fun k _ s H C cl fp => G.name 1 sc_unit.nd)
    (fun k hk s H C cl fp => EF.ev (EF.is (EF.lcOf (LC.all [("j", 2)] (List.range n) nat (fun j => nat (if decide (k = j) = true then 1 else 0)) (fun j => [(2, nat j)])
      (IT.range1 (E.v 0) (by omega) B.range) (blkOk_by (N := N_unit) (sc := relS _ (defScope s_unit)) (by decide +kernel)) (by simp) (by simp; omega)
      (fun j _ s H C cl fp => G.name 2 sc_unit.nd)
      (fun j hj s H C cl fp => E.intB B.int (E.eqN (E.v 1) (E.v 2)))) sc_unit.nd) (by simp)))) sc_unit.nd) ?_) rfl)
  simp [unitF]
end
end Ck

set_option Elab.async false
set_option linter.all false
set_option maxRecDepth 100000
namespace Ck
open PySem PySem.Spec PyProof.Rows L2

structure TabOk (n : Nat) (t : List (List Nat)) : Prop where
  len : t.length = n
  row : ∀ r ∈ t, r.length = n
theorem TabOk.unit (n : Nat) : TabOk n (unitF n) := ⟨by simp [unitF], fun r hr => by
  simp only [unitF, List.mem_map] at hr
  obtain ⟨k, _, rfl⟩ := hr
  simp⟩
theorem getD_get {α : Type} {xs : List α} {i : Nat} {a d : α} (h : xs[i]? = some a) : xs.getD i d = a := by rw [List.getD_eq_getElem?_getD, h]; rfl
theorem TabOk.at_ {n : Nat} {t : List (List Nat)} (h : TabOk n t) {i : Nat} (hi : i < n) : t[i]? = some (t.getD i []) ∧ (t.getD i []).length = n := by
  have hl : i < t.length := by rw [h.len]; exact hi
  have e : t[i]? = some t[i] := List.getElem?_eq_getElem hl
  rw [getD_get e]
  exact ⟨e, h.row _ (List.getElem_mem hl)⟩
theorem TabOk.step {n h : Nat} {t : List (List Nat)} {a : Nat × Nat} (o : TabOk n t) (h1 : a.1 < n) (h2 : a.2 < n) : TabOk n (tabStep h t a) := ⟨by simp [tabStep, o.len], fun r hr => by
  rcases List.mem_or_eq_of_mem_set hr with q | q
  · exact o.row r q
  · subst q
    rw [List.length_map, List.length_zip, (o.at_ h1).2, (o.at_ h2).2, Nat.min_self]⟩
theorem zip_maps {α β : Type} (f : α → β) (xs ys : List α) : (xs.map f).zip (ys.map f) = (xs.zip ys).map fun q => (f q.1, f q.2) := by
  rw [List.zip_map]; rfl
section
variable {P : Program} {w : World} {K : PySem.W.Frag} {mg : Str → Option Value} {base : Heap}
abbrev s_table_in : Stmt := top 28
abbrev N_table_in : List Str := ["web", "hours", "word", "rows", "one", "other", "a", "b"]
theorem sc_table_in : FnScope N_table_in ["web", "hours", "word"] (defScope s_table_in) := ⟨rfl, rfl, rfl, by decide +kernel, rfl, by decide +kernel, by decide +kernel⟩
def pre_table_in (ds : List PD) (d : PD) : Prop := ∃ n ar h wd, ds = [dWeb n ar, nat h, dWord wd] ∧ WebOk n ar ∧ 2 ≤ h ∧ (∀ a ∈ wd, a ∈ ar) ∧ d = .list ((tableF n h wd).map dLst)
abbrev Table_in (P : Program) (w : World) (K : PySem.W.Frag) (mg : Str → Option Value) (base : Heap) : Prop := DefOk P w K mg base 2 "table_in" ["web", "hours", "word"] (SpP K 3 pre_table_in)
theorem ok_table_in {f : Addr} {fd : FuncData} (F : Fun K "table_in" "table_in" s_table_in f fd) (hm : mg "table_in" = some (.ref f)) (b : Binds K fd ["web", "hours", "word"] []) (B : Bt mg) (D : Unit_ P w K mg base) : Table_in P w K mg base := by
  refine DefOk.make F hm b sc_table_in fun cdv A0 outer s H xk hr ds d hp hl => ?_
  obtain ⟨n, ar, h, wd, rfl, ok, hh, hw, rfl⟩ := hp
  have hhi := ok.hi
  refine Ss.to (S.set 3 sc_table_in.nd (Src.f (EF.call D hr (A.cons (E.ixT (E.v 0) (E.nat 0) rfl) A.nil) ⟨n, rfl, hhi, rfl⟩)) rfl) ?_
  let acc : Nat → List (List Nat) := fun i => (wd.take i).foldl (tabStep h) (unitF n)
  refine Ss.cons (M := fun Γ => ∃ s1 s2, Γ = [.val (dWeb n ar), .val (nat h), .val (dWord wd), .own ((tableF n h wd).map dLst), s1, s2, .any, .any])
    (S.for_ PassesOwn.never (IT.tup (E.v 2)) (fun i Γ => TabOk n (acc i) ∧ ∃ s1 s2, Γ = [.val (dWeb n ar), .val (nat h), .val (dWord wd), .own ((acc i).map dLst), s1, s2, .any, .any]) ⟨TabOk.unit n, _, _, rfl⟩ ?_ ?_) ?_
  · rintro i d _ hd ⟨to, s1, s2, rfl⟩
    obtain ⟨⟨a1, a2⟩, ha, rfl⟩ := map_get hd
    have hoa := ok.ok _ (hw _ (get_mem ha))
    simp only at hoa
    obtain ⟨e1, l1⟩ := to.at_ hoa.1
    obtain ⟨e2, l2⟩ := to.at_ hoa.2.1
    refine ⟨_, G.tup2 (G.name 4 sc_table_in.nd) (G.name 5 sc_table_in.nd), ?_⟩
    have hacc : acc (i + 1) = tabStep h (acc i) (a1, a2) := foldl_snoc _ _ ha
    refine Ss.one (S.setIx 3 a2 (ds := (acc i).map dLst) (d := dLst ((((acc i).getD a2 []).zip ((acc i).getD a1 [])).map fun p => (p.1 + p.2) % h)) rfl (Src.cool (Src.fz (EF.is (EF.lcOf (LC.all [("a", 6), ("b", 7)] (((acc i).getD a2 []).zip ((acc i).getD a1 [])) dArr (fun p => nat ((p.1 + p.2) % h)) (fun p => [(6, nat p.1), (7, nat p.2)])
      (IT.is (IT.zipL (as := ((acc i).getD a2 []).map nat) (bs := ((acc i).getD a1 []).map nat) (E.ixL (E.v 3) (E.v 5) (by rw [List.getElem?_map, e2]; rfl)) (E.ixL (E.v 3) (E.v 4) (by rw [List.getElem?_map, e1]; rfl)) (by rw [List.length_map, List.length_map, l1, l2]) B.zip) (by rw [zip_maps, List.map_map]; rfl))
      (blkOk_by (N := N_table_in) (sc := defScope s_table_in) (by decide +kernel)) (by simp) (by rw [List.length_zip, l1, l2]; omega)
      (fun p _ s H C cl fp => G.tup2 (G.name 6 sc_table_in.nd) (G.name 7 sc_table_in.nd))
      (fun p _ s H C cl fp => E.modN (E.addN (E.v 6) (E.v 7)) (E.v 1) (by omega))) sc_table_in.nd) (by simp)) (by rw [List.all_map, List.all_eq_true]; intro x _; rfl))) (Src.v (E.v 5)) (by rw [List.length_map, to.len]; exact hoa.2.1) ?_)
    rw [hacc]
    refine ⟨to.step hoa.1 hoa.2.1, .val (nat a1), .val (nat a2), ?_⟩
    rw [tabStep, List.map_set]
    rfl
  · rintro _ ⟨_, s1, s2, rfl⟩
    refine ⟨s1, s2, ?_⟩
    have e : acc (wd.map dArr).length = tableF n h wd := by
      show List.foldl _ _ _ = _
      rw [List.length_map, List.take_length]; rfl
    rw [e]
  · rintro _ ⟨s1, s2, rfl⟩
    exact Ss.one (S.retFr (E.v 3) rfl)
theorem TabOk.table {n h : Nat} {ar wd : Arr} (ok : WebOk n ar) (hw : ∀ a ∈ wd, a ∈ ar) : TabOk n (tableF n h wd) := by
  have : ∀ (wd : Arr) (t : List (List Nat)), TabOk n t → (∀ a ∈ wd, a ∈ ar) → TabOk n (wd.foldl (tabStep h) t) := fun wd => by
    induction wd with
    | nil => intro t o _; exact o
    | cons a wd ih => intro t o hw; have hoa := ok.ok a (hw a (by simp)); exact ih _ (o.step hoa.1 hoa.2.1) fun b hb => hw b (by simp [hb])
  exact this wd _ (TabOk.unit n) hw
abbrev s_word_table : Stmt := top 29
abbrev N_word_table : List Str := ["web", "hours", "word", "row"]
theorem sc_word_table : FnScope N_word_table ["web", "hours", "word"] (defScope s_word_table) := ⟨rfl, rfl, rfl, by decide +kernel, rfl, by decide +kernel, by decide +kernel⟩
@[reducible] def dTab (t : List (List Nat)) : PD := .tuple (t.map dTup)
def pre_word_table (ds : List PD) (d : PD) : Prop := ∃ n ar h wd, ds = [dWeb n ar, nat h, dWord wd] ∧ WebOk n ar ∧ 2 ≤ h ∧ h ≤ 24 ∧ wd.length ≤ 5000 ∧ (∀ a ∈ wd, a ∈ ar) ∧ d = dTab (tableF n h wd)
abbrev Word_table (P : Program) (w : World) (K : PySem.W.Frag) (mg : Str → Option Value) (base : Heap) : Prop := DefOk P w K mg base 5 "word_table" ["web", "hours", "word"] (SpP K 3 pre_word_table)
theorem ok_word_table {f : Addr} {fd : FuncData} (F : Fun K "word_table" "word_table" s_word_table f fd) (hm : mg "word_table" = some (.ref f)) (b : Binds K fd ["web", "hours", "word"] []) (B : Bt mg) (D : Need_all_words P w K mg base) (D2 : Table_in P w K mg base) : Word_table P w K mg base := by
  refine DefOk.make F hm b sc_word_table fun cdv A0 outer s H xk hr ds d hp hl => ?_
  obtain ⟨n, ar, h, wd, rfl, ok, h1, h2, h3, h4, rfl⟩ := hp
  have hhi := ok.hi
  have to := TabOk.table (h := h) ok h4
  refine Ss.to (S.drop (E.call D hr (A.cons (E.v 0) (A.cons (E.v 1) (A.cons (E.v 2) A.nil))) ⟨n, ar, h, wd, rfl, ok, h1, h2, h3, h4, rfl⟩) rfl) ?_
  exact Ss.one (S.ret (E.tupleOf B.tuple (EF.ev (EF.lcOf (LC.all [("row", 3)] (tableF n h wd) dLst dTup (fun r => [(3, dLst r)])
    (IT.list (E.call D2 (hr.mono (by decide)) (A.cons (E.v 0) (A.cons (E.v 1) (A.cons (E.v 2) A.nil))) ⟨n, ar, h, wd, rfl, ok, h1, h4, rfl⟩))
    (blkOk_by (N := N_word_table) (sc := defScope s_word_table) (by decide +kernel)) (by simp) (by rw [to.len]; omega)
    (fun r _ s H C cl fp => G.name 3 sc_word_table.nd) (fun r _ s H C cl fp => E.tupleOf B.tuple (E.v 3))) sc_word_table.nd))) rfl)

/-! ### flows and marks -/
noncomputable def flowF (n : Nat) (ar : Arr) (h : Nat) (dl : List Nat) (p : Nat) : Nat := (aboveF n ar p).foldl (fun g k => Nat.gcd g (dl.getD k 0)) h
noncomputable def markF (n : Nat) (ar : Arr) (h : Nat) (dl : List Nat) (part : List Nat) : Nat × Nat :=
  if part.length = 1 then (flowF n ar h dl (part.getD 0 0), dl.getD (part.getD 0 0) 0 % flowF n ar h dl (part.getD 0 0))
  else (flowF n ar h dl (part.getD 0 0), part.foldl (fun g k => Nat.gcd g (dl.getD k 0)) (flowF n ar h dl (part.getD 0 0)))
theorem mem_above {n : Nat} {ar : Arr} {p k : Nat} (h : k ∈ aboveF n ar p) : k < n := by
  have := (List.mem_filter.mp h).1
  simpa using this
theorem above_len (n : Nat) (ar : Arr) (p : Nat) : (aboveF n ar p).length ≤ n := by
  have := List.length_filter_le (fun k => decide (p ∈ led n ar k) && !decide (k ∈ led n ar p)) (List.range n)
  rw [List.length_range] at this
  exact this
theorem fold_gcd_pos {dl : List Nat} : ∀ (ks : List Nat) (g : Nat), 0 < g → 0 < ks.foldl (fun g k => Nat.gcd g (dl.getD k 0)) g
  | [], _, h => h
  | k :: ks, g, h => fold_gcd_pos ks _ (Nat.gcd_pos_of_pos_left _ h)
theorem flow_pos {n : Nat} {ar : Arr} {h : Nat} {dl : List Nat} {p : Nat} (hh : 0 < h) : 0 < flowF n ar h dl p := fold_gcd_pos _ _ hh
/-- what is a part of the clocks -/
structure PartOk (n : Nat) (part : List Nat) : Prop where
  ne : part ≠ []
  lt : ∀ k ∈ part, k < n
  few : part.length ≤ n
theorem led_self {n : Nat} {ar : Arr} {k : Nat} (h : k < n) : k ∈ led n ar k := mem_led.mpr ⟨h, Reach.refl ar k⟩
theorem partOf_ok {n : Nat} {ar : Arr} {k : Nat} (h : k < n) : PartOk n (partOf n ar k) := ⟨List.ne_nil_of_mem (a := k) (by simp [partOf, led_self h]), fun j hj => (mem_led.mp (List.mem_filter.mp hj).1).1, Nat.le_trans (List.length_filter_le _ _) (led_len n ar k)⟩
theorem mem_addP {acc : List (List Nat)} {p q : List Nat} : q ∈ addP acc p ↔ q ∈ acc ∨ q = p := by
  unfold addP
  split
  · constructor
    · intro h; exact .inl h
    · rintro (h | rfl)
      · exact h
      · assumption
  · simp
theorem mem_fold {f : Nat → List Nat} {q : List Nat} : ∀ (xs : List Nat) (acc : List (List Nat)), q ∈ xs.foldl (fun acc k => addP acc (f k)) acc ↔ q ∈ acc ∨ ∃ k ∈ xs, q = f k
  | [], acc => by simp
  | x :: xs, acc => by
    rw [List.foldl_cons, mem_fold xs, mem_addP]
    constructor
    · rintro ((h | h) | ⟨k, h1, h2⟩)
      · exact .inl h
      · exact .inr ⟨x, by simp, h⟩
      · exact .inr ⟨k, by simp [h1], h2⟩
    · rintro (h | ⟨k, h1, h2⟩)
      · exact .inl (.inl h)
      · rcases List.mem_cons.mp h1 with e | h1
        · subst e; exact .inl (.inr h2)
        · exact .inr ⟨k, h1, h2⟩
theorem mem_parts {n : Nat} {ar : Arr} {q : List Nat} : q ∈ partsF n ar ↔ ∃ k, k < n ∧ q = partOf n ar k := by
  unfold partsF
  rw [mem_fold]
  simp
theorem parts_ok {n : Nat} {ar : Arr} {q : List Nat} (h : q ∈ partsF n ar) : PartOk n q := by
  obtain ⟨k, hk, rfl⟩ := mem_parts.mp h
  exact partOf_ok hk
theorem parts_len (n : Nat) (ar : Arr) : (partsF n ar).length ≤ n := by
  have := fold_len (partOf n ar) (List.range n) []
  rw [List.length_range, List.length_nil, Nat.zero_add] at this
  exact this
section
variable {P : Program} {w : World} {K : PySem.W.Frag} {mg : Str → Option Value} {base : Heap}
abbrev s_flow_in : Stmt := top 38
abbrev N_flow_in : List Str := ["web", "hours", "dial", "place", "found", "k"]
theorem sc_flow_in : FnScope N_flow_in ["web", "hours", "dial", "place"] (defScope s_flow_in) := ⟨rfl, rfl, rfl, by decide +kernel, rfl, by decide +kernel, by decide +kernel⟩
def pre_flow_in (ds : List PD) (d : PD) : Prop := ∃ n ar h dl p, ds = [dWeb n ar, nat h, dTup dl, nat p] ∧ WebOk n ar ∧ dl.length = n ∧ p < n ∧ d = nat (flowF n ar h dl p)
abbrev Flow_in (P : Program) (w : World) (K : PySem.W.Frag) (mg : Str → Option Value) (base : Heap) : Prop := DefOk P w K mg base 4 "flow_in" ["web", "hours", "dial", "place"] (SpP K 4 pre_flow_in)
theorem ok_flow_in {f : Addr} {fd : FuncData} (F : Fun K "flow_in" "flow_in" s_flow_in f fd) (hm : mg "flow_in" = some (.ref f)) (b : Binds K fd ["web", "hours", "dial", "place"] []) (B : Bt mg) (D : Above_in P w K mg base) (D2 : Gcd P w K mg base) : Flow_in P w K mg base := by
  refine DefOk.make F hm b sc_flow_in fun cdv A0 outer s H xk hr ds d hp hl => ?_
  obtain ⟨n, ar, h, dl, p, rfl, ok, hdl, hp, rfl⟩ := hp
  refine Ss.to (S.asg 4 sc_flow_in.nd (E.v 1) rfl) ?_
  let acc : Nat → Nat := fun i => ((aboveF n ar p).take i).foldl (fun g k => Nat.gcd g (dl.getD k 0)) h
  refine Ss.cons (M := fun Γ => ∃ s1, Γ = [.val (dWeb n ar), .val (nat h), .val (dTup dl), .val (nat p), .val (nat (flowF n ar h dl p)), s1])
    (S.for_ PassesOwn.never (IT.list (E.call D hr (A.cons (E.v 0) (A.cons (E.v 3) A.nil)) ⟨n, ar, p, rfl, ok, hp, rfl⟩)) (fun i Γ => ∃ s1, Γ = [.val (dWeb n ar), .val (nat h), .val (dTup dl), .val (nat p), .val (nat (acc i)), s1]) ⟨_, rfl⟩ ?_ ?_) ?_
  · rintro i d _ hd ⟨s1, rfl⟩
    obtain ⟨k, hk, rfl⟩ := map_get hd
    have hkn := mem_above (get_mem hk)
    refine ⟨_, G.name 5 sc_flow_in.nd, ?_⟩
    have hacc : acc (i + 1) = Nat.gcd (acc i) (dl.getD k 0) := foldl_snoc _ _ hk
    have hdk : dl[k]? = some (dl.getD k 0) := by rw [List.getD_eq_getElem?_getD, List.getElem?_eq_getElem (by omega)]; rfl
    refine Ss.one (S.asg 4 sc_flow_in.nd (E.call D2 (hr.mono (by decide)) (A.cons (E.v 4) (A.cons (E.ixT (E.v 2) (E.v 5) (by rw [List.getElem?_map, hdk]; rfl)) A.nil)) ⟨acc i, dl.getD k 0, rfl, rfl⟩) ?_)
    rw [hacc]
    exact ⟨_, rfl⟩
  · rintro _ ⟨s1, rfl⟩
    refine ⟨s1, ?_⟩
    have e : acc ((aboveF n ar p).map nat).length = flowF n ar h dl p := by
      show List.foldl _ _ _ = _
      rw [List.length_map, List.take_length]; rfl
    rw [e]
  · rintro _ ⟨s1, rfl⟩
    exact Ss.one (S.ret (E.v 4) rfl)
abbrev s_mark_of : Stmt := top 39
abbrev N_mark_of : List Str := ["web", "hours", "dial", "part", "flow", "found", "k"]
theorem sc_mark_of : FnScope N_mark_of ["web", "hours", "dial", "part"] (defScope s_mark_of) := ⟨rfl, rfl, rfl, by decide +kernel, rfl, by decide +kernel, by decide +kernel⟩
def pre_mark_of (ds : List PD) (d : PD) : Prop := ∃ n ar h dl part, ds = [dWeb n ar, nat h, dTup dl, dTup part] ∧ WebOk n ar ∧ 0 < h ∧ dl.length = n ∧ PartOk n part ∧ d = dArr (markF n ar h dl part)
abbrev Mark_of (P : Program) (w : World) (K : PySem.W.Frag) (mg : Str → Option Value) (base : Heap) : Prop := DefOk P w K mg base 5 "mark_of" ["web", "hours", "dial", "part"] (SpP K 4 pre_mark_of)
theorem ok_mark_of {f : Addr} {fd : FuncData} (F : Fun K "mark_of" "mark_of" s_mark_of f fd) (hm : mg "mark_of" = some (.ref f)) (b : Binds K fd ["web", "hours", "dial", "part"] []) (B : Bt mg) (D : Flow_in P w K mg base) (D2 : Gcd P w K mg base) : Mark_of P w K mg base := by
  refine DefOk.make F hm b sc_mark_of fun cdv A0 outer s H xk hr ds d hp hl => ?_
  obtain ⟨n, ar, h, dl, part, rfl, ok, hh, hdl, hpt, rfl⟩ := hp
  have at_ : ∀ k, k < n → dl[k]? = some (dl.getD k 0) := fun k hk => by rw [List.getD_eq_getElem?_getD, List.getElem?_eq_getElem (by omega)]; rfl
  have hp0 : part[0]? = some (part.getD 0 0) := by
    cases part with
    | nil => exact absurd rfl hpt.ne
    | cons a r => rfl
  have hpn := hpt.lt _ (get_mem hp0)
  have hfp := flow_pos (n := n) (ar := ar) (dl := dl) (p := part.getD 0 0) hh
  refine Ss.to (S.asg 4 sc_mark_of.nd (E.call D hr (A.cons (E.v 0) (A.cons (E.v 1) (A.cons (E.v 2) (A.cons (E.ixT (E.v 3) (E.nat 0) (by rw [List.getElem?_map, hp0]; rfl)) A.nil)))) ⟨n, ar, h, dl, part.getD 0 0, rfl, ok, hdl, hpn, rfl⟩) rfl) ?_
  refine Ss.cons (M := fun Γ => part.length ≠ 1 ∧ Γ = [.val (dWeb n ar), .val (nat h), .val (dTup dl), .val (dTup part), .val (nat (flowF n ar h dl (part.getD 0 0))), .any, .any])
    (S.ite (T.eqN (E.lenT B.len (E.v 3)) (E.nat 1)) (fun h1 => Ss.one (S.ret (E.tup (A.cons (E.v 4) (A.cons (E.modN (E.ixT (E.v 2) (E.ixT (E.v 3) (E.nat 0) (by rw [List.getElem?_map, hp0]; rfl)) (by rw [List.getElem?_map, at_ _ hpn]; rfl)) (E.v 4) hfp) A.nil))) ?_)) fun h1 => Ss.nil ⟨?_, rfl⟩) ?_
  · have h1 : part.length = 1 := by simpa using h1
    show _ = dArr (markF n ar h dl part)
    unfold markF
    rw [if_pos h1]
  · simpa using h1
  rintro _ ⟨hne, rfl⟩
  refine Ss.to (S.asg 5 sc_mark_of.nd (E.v 4) rfl) ?_
  let acc : Nat → Nat := fun i => (part.take i).foldl (fun g k => Nat.gcd g (dl.getD k 0)) (flowF n ar h dl (part.getD 0 0))
  refine Ss.cons (M := fun Γ => ∃ s1, Γ = [.val (dWeb n ar), .val (nat h), .val (dTup dl), .val (dTup part), .val (nat (flowF n ar h dl (part.getD 0 0))), .val (nat (acc part.length)), s1])
    (S.for_ PassesOwn.never (IT.tup (E.v 3)) (fun i Γ => ∃ s1, Γ = [.val (dWeb n ar), .val (nat h), .val (dTup dl), .val (dTup part), .val (nat (flowF n ar h dl (part.getD 0 0))), .val (nat (acc i)), s1]) ⟨_, rfl⟩ ?_ ?_) ?_
  · rintro i d _ hd ⟨s1, rfl⟩
    obtain ⟨k, hk, rfl⟩ := map_get hd
    have hkn := hpt.lt k (get_mem hk)
    refine ⟨_, G.name 6 sc_mark_of.nd, ?_⟩
    have hacc : acc (i + 1) = Nat.gcd (acc i) (dl.getD k 0) := foldl_snoc _ _ hk
    refine Ss.one (S.asg 5 sc_mark_of.nd (E.call D2 (hr.mono (by decide)) (A.cons (E.v 5) (A.cons (E.ixT (E.v 2) (E.v 6) (by rw [List.getElem?_map, at_ k hkn]; rfl)) A.nil)) ⟨acc i, dl.getD k 0, rfl, rfl⟩) ?_)
    rw [hacc]
    exact ⟨_, rfl⟩
  · rintro _ ⟨s1, rfl⟩
    exact ⟨s1, by rw [List.length_map]⟩
  · rintro _ ⟨s1, rfl⟩
    refine Ss.one (S.ret (E.tup (A.cons (E.v 4) (A.cons (E.v 5) A.nil))) ?_)
    show _ = dArr (markF n ar h dl part)
    unfold markF
    rw [if_neg hne]
    have e : acc part.length = part.foldl (fun g k => Nat.gcd g (dl.getD k 0)) (flowF n ar h dl (part.getD 0 0)) := by
      show List.foldl _ _ _ = _
      rw [List.take_length]
    rw [e]
noncomputable def marksF (n : Nat) (ar : Arr) (h : Nat) (dl : List Nat) : List (Nat × Nat) := (partsF n ar).map fun p => markF n ar h dl p
abbrev s_marks_in : Stmt := top 40
abbrev N_marks_in : List Str := ["web", "hours", "dial", "part"]
theorem sc_marks_in : FnScope N_marks_in ["web", "hours", "dial"] (defScope s_marks_in) := ⟨rfl, rfl, rfl, by decide +kernel, rfl, by decide +kernel, by decide +kernel⟩
def pre_marks_in (ds : List PD) (d : PD) : Prop := ∃ n ar h dl, ds = [dWeb n ar, nat h, dTup dl] ∧ WebOk n ar ∧ 0 < h ∧ dl.length = n ∧ d = .list ((marksF n ar h dl).map dArr)
abbrev Marks_in (P : Program) (w : World) (K : PySem.W.Frag) (mg : Str → Option Value) (base : Heap) : Prop := DefOk P w K mg base 6 "marks_in" ["web", "hours", "dial"] (SpP K 3 pre_marks_in)
theorem ok_marks_in {f : Addr} {fd : FuncData} (F : Fun K "marks_in" "marks_in" s_marks_in f fd) (hm : mg "marks_in" = some (.ref f)) (b : Binds K fd ["web", "hours", "dial"] []) (B : Bt mg) (D : Mark_of P w K mg base) (D2 : Parts_in P w K mg base) : Marks_in P w K mg base := by
  refine DefOk.make F hm b sc_marks_in fun cdv A0 outer s H xk hr ds d hp hl => ?_
  obtain ⟨n, ar, h, dl, rfl, ok, hh, hdl, rfl⟩ := hp
  have hhi := ok.hi
  refine Ss.one (S.ret (EF.ev (EF.is (EF.lcOf (LC.all [("part", 3)] (partsF n ar) dTup (fun p => dArr (markF n ar h dl p)) (fun p => [(3, dTup p)])
    (IT.list (E.call D2 (hr.mono (by decide)) (A.cons (E.v 0) A.nil) ⟨n, ar, rfl, ok, rfl⟩))
    (blkOk_by (N := N_marks_in) (sc := defScope s_marks_in) (by decide +kernel)) (by simp) (by have := parts_len n ar; omega)
    (fun p _ s H C cl fp => G.name 3 sc_marks_in.nd)
    (fun p hp s H C cl fp => E.call D hr (A.cons (E.v 0) (A.cons (E.v 1) (A.cons (E.v 2) (A.cons (E.v 3) A.nil)))) ⟨n, ar, h, dl, p, rfl, ok, hh, hdl, parts_ok hp, rfl⟩)) sc_marks_in.nd)
    (by show _ = ((partsF n ar).map fun p => markF n ar h dl p).map dArr; rw [List.map_map]; rfl))) rfl)
abbrev s_can_come : Stmt := top 41
theorem sc_can_come : FnScope ["web", "hours", "one", "other"] ["web", "hours", "one", "other"] (defScope s_can_come) := ⟨rfl, rfl, rfl, by decide +kernel, rfl, by decide +kernel, by decide +kernel⟩
structure DialOk (n h : Nat) (dl : List Nat) : Prop where
  len : dl.length = n
  lt : ∀ x ∈ dl, x < h
def pre_can_come (ds : List PD) (d : PD) : Prop := ∃ n ar h dl el, ds = [dWeb n ar, nat h, dTup dl, dTup el] ∧ WebOk n ar ∧ 2 ≤ h ∧ h ≤ 24 ∧ DialOk n h dl ∧ DialOk n h el ∧ d = .bool (decide (marksF n ar h dl = marksF n ar h el))
abbrev Can_come (P : Program) (w : World) (K : PySem.W.Frag) (mg : Str → Option Value) (base : Heap) : Prop := DefOk P w K mg base 7 "can_come" ["web", "hours", "one", "other"] (SpP K 4 pre_can_come)
theorem ok_can_come {f : Addr} {fd : FuncData} (F : Fun K "can_come" "can_come" s_can_come f fd) (hm : mg "can_come" = some (.ref f)) (b : Binds K fd ["web", "hours", "one", "other"] []) (B : Bt mg) (D : Need_all P w K mg base) (D2 : Need_dial P w K mg base) (D3 : Marks_in P w K mg base) : Can_come P w K mg base := by
  refine DefOk.make F hm b sc_can_come fun cdv A0 outer s H xk hr ds d hp hl => ?_
  obtain ⟨n, ar, h, dl, el, rfl, ok, h1, h2, hd, he, rfl⟩ := hp
  refine Ss.to (S.drop (E.call D (hr.mono (by decide)) (A.cons (E.v 0) (A.cons (E.v 1) (A.cons (E.v 2) A.nil))) ⟨n, ar, h, dl, rfl, ok, h1, h2, hd.len, hd.lt, rfl⟩) rfl) ?_
  refine Ss.to (S.drop (E.call D2 (hr.mono (by decide)) (A.cons (E.v 0) (A.cons (E.v 1) (A.cons (E.v 3) A.nil))) ⟨n, ar, h, el, rfl, he.len, by omega, he.lt, rfl⟩) rfl) ?_
  exact Ss.one (S.ret (E.eqD (Enc.list encArr) (hu64 hr) (E.call D3 hr (A.cons (E.v 0) (A.cons (E.v 1) (A.cons (E.v 2) A.nil))) ⟨n, ar, h, dl, rfl, ok, by omega, hd.len, rfl⟩)
    (E.call D3 hr (A.cons (E.v 0) (A.cons (E.v 1) (A.cons (E.v 3) A.nil))) ⟨n, ar, h, el, rfl, ok, by omega, he.len, rfl⟩)) rfl)
end
end
end Ck

set_option Elab.async false
set_option linter.all false
set_option maxRecDepth 100000
namespace Ck
open PySem PySem.Spec PyProof.Rows L2

section
variable {X : Cx} {e tg : Expr} {Γ : List Sl} {P : Post} {a b : Nat} {d : PD} {as : List (Nat × PD)} {z : Str} {p pos : Pos}
theorem rv_mulN {K : PySem.W.Frag} (hc : a < 2 ^ 64 ∨ b < 2 ^ 64) : RV K (rI CMul fun i j => .int (i * j)) (nat a) (nat b) (nat (a * b)) := rv_I (by unfold CMul; omega) fun _ => .int _
theorem rv_fdivN {K : PySem.W.Frag} (hc : 0 < b ∧ b < 1073741824) : RV K (rI CDiv fun i j => .int (i / j)) (nat a) (nat b) (nat (a / b)) := rv_I (by unfold CDiv; omega) fun _ => .int _
theorem rv_addN {K : PySem.W.Frag} : RV K (rI0 fun i j => .int (i + j)) (nat a) (nat b) (nat (a + b)) := rv_I0 fun _ => .int _
/-- a, b = e by a tuple -/
theorem S.unp (h : E X e (vals Γ) d) (hg : G X tg d as) (k : P.nx (setS Γ as)) (hs : swapsWithSole [tg] e pos.line X.env = pure false := by rfl) (hw : swappedStores [tg] e X.env = pure none := by rfl)
    (h1 : (assignEach [tg] X.env).map (·.2) = [assign tg X.env] := by rfl) : S X (.Assign [tg] e pos) Γ P :=
  S.mk (ps_asg (pe_sem X) (pg_sem X) hs hw h1) fun F0 H0 F σ H D g o q => h F σ H g.s o.vals _ fun v F1 H1 g1 hd => hg F1 σ H1 v g1.s hd _ fun vs hvs => q.nx _ _ F1 H1 k g1.f (g.trans g1) ((o.grow g1).setAll hvs)
end
theorem T.notN {X : Cx} {e : Expr} {Γ : List (Option PD)} {pos p2 : Pos} {j} (h : E X e Γ .none) : T X (.Compare e [.IsNot] [.Constant .none j p2] pos) Γ false :=
  T.cmp (b := PyData.none) op_notN (fun F H x y s hx hy Q q => by
    rw [dp_non hx, dp_non hy]
    refine ⟨rfl, ?_⟩
    have : (!decide (V.non = V.non)) = false := by simp
    rw [this]
    exact q _ F H (Grow.refl s) (.bl _)) h E.non

/-! ### how many tuples -/
def strip : Nat → Nat → Nat → Option Nat
  | 0, _, _ => none
  | m + 1, l, p => if l % p = 0 then strip m (l / p) p else some l
def ptLoop (many : Nat) : Nat → Nat → Nat → Nat → Option Nat
  | 0, _, _, _ => none
  | m + 1, l, p, f => if 1 < l then (if 2 ≤ p ∧ p ≤ 24 then (if l % p = 0 then (match strip 30 l p with | some l' => ptLoop many m l' (p + 1) (f / p ^ many * (p ^ many - 1)) | none => none) else ptLoop many m l (p + 1) f) else none) else some f
def primeTo (n m : Nat) : Nat := (ptLoop m 30 n 2 (n ^ m)).getD 0
theorem ptOk : ∀ n, n < 25 → ∀ m, m < 7 → 1 ≤ n → (ptLoop m 30 n 2 (n ^ m)).isSome = true ∧ primeTo n m ≤ n ^ m := by decide +kernel
theorem primeTo_eq {n m : Nat} (h1 : 1 ≤ n) (h2 : n ≤ 24) (h3 : m ≤ 6) : ptLoop m 30 n 2 (n ^ m) = some (primeTo n m) := by
  have h := (ptOk n (by omega) m (by omega) h1).1
  unfold primeTo
  cases e : ptLoop m 30 n 2 (n ^ m) with
  | none => rw [e] at h; cases h
  | some f => rfl
theorem primeTo_le {n m : Nat} (h1 : 1 ≤ n) (h2 : n ≤ 24) (h3 : m ≤ 6) : primeTo n m ≤ 24 ^ 6 := by
  have h := (ptOk n (by omega) m (by omega) h1).2
  exact Nat.le_trans h (Nat.le_trans (Nat.pow_le_pow_left h2 m) (Nat.pow_le_pow_right (by decide) h3))
def waysF (h : Nat) (mk : Nat × Nat) (part : List Nat) : Nat := if part.length = 1 then h / mk.1 else primeTo (mk.1 / mk.2) part.length * (h / mk.1) ^ part.length
noncomputable def countF (n : Nat) (ar : Arr) (h : Nat) (dl : List Nat) : Nat := (partsF n ar).foldl (fun acc p => acc * waysF h (markF n ar h dl p) p) 1
section
variable {P : Program} {w : World} {K : PySem.W.Frag} {mg : Str → Option Value} {base : Heap}
abbrev s_prime_to : Stmt := top 42
abbrev N_prime_to : List Str := ["number", "many", "found", "k", "left", "prime", "size"]
theorem sc_prime_to : FnScope N_prime_to ["number", "many"] (defScope s_prime_to) := ⟨rfl, rfl, rfl, by decide +kernel, rfl, by decide +kernel, by decide +kernel⟩
def pre_prime_to (ds : List PD) (d : PD) : Prop := ∃ n m : Nat, ds = [nat n, nat m] ∧ 1 ≤ n ∧ n ≤ 24 ∧ m ≤ 6 ∧ d = nat (primeTo n m)
abbrev Prime_to (P : Program) (w : World) (K : PySem.W.Frag) (mg : Str → Option Value) (base : Heap) : Prop := DefOk P w K mg base 1 "prime_to" ["number", "many"] (SpP K 2 pre_prime_to)
theorem ok_prime_to {f : Addr} {fd : FuncData} (F : Fun K "prime_to" "prime_to" s_prime_to f fd) (hm : mg "prime_to" = some (.ref f)) (b : Binds K fd ["number", "many"] []) (B : Bt mg) : Prime_to P w K mg base := by
  refine DefOk.make F hm b sc_prime_to fun cdv A0 outer s H xk hr ds d hp hl => ?_
  obtain ⟨n, many, rfl, h1, h2, h3, rfl⟩ := hp
  refine Ss.to (S.asg 2 sc_prime_to.nd (E.nat 1) rfl) ?_
  refine Ss.cons (M := fun Γ => ∃ s1, Γ = [.val (nat n), .val (nat many), .val (nat (n ^ many)), s1, .any, .any, .any])
    (S.for_ PassesOwn.never (IT.range1 (E.v 1) (by omega) B.range) (fun i Γ => ∃ s1, Γ = [.val (nat n), .val (nat many), .val (nat (n ^ i)), s1, .any, .any, .any]) ⟨.any, by simp [startG]⟩ ?_ ?_) ?_
  · rintro i d _ hd ⟨s1, rfl⟩
    refine ⟨_, G.name 3 sc_prime_to.nd, ?_⟩
    refine Ss.one (S.aug 2 sc_prime_to.nd iop_mul rfl (E.v 0) (rv_mulN (a := n ^ i) (b := n) (by omega)) ?_)
    rw [← Nat.pow_succ]
    exact ⟨_, rfl⟩
  · rintro _ ⟨s1, rfl⟩
    exact ⟨s1, by rw [List.length_map, List.length_range]⟩
  rintro _ ⟨s1, rfl⟩
  refine Ss.to (S.par2 4 5 sc_prime_to.nd (Src.v (E.v 0)) (Src.v (E.nat 2)) rfl) ?_
  refine Ss.cons (M := fun Γ => ∃ s1 s2 l p, Γ = [.val (nat n), .val (nat many), .val (nat (primeTo n many)), s1, .val (nat l), .val (nat p), s2])
    (S.while_ PassesOwn.never (fun m Γ => ∃ l p f s1 s2, ptLoop many m l p f = some (primeTo n many) ∧ Γ = [.val (nat n), .val (nat many), .val (nat f), s1, .val (nat l), .val (nat p), s2]) 30 ⟨n, 2, n ^ many, _, _, primeTo_eq h1 h2 h3, rfl⟩ ?_) ?_
  · rintro m _ ⟨l, p, f, s1, s2, hpt, rfl⟩
    refine ⟨_, T.gtN (E.v 4) (E.nat 1), fun h => ?_, fun h => ?_⟩
    · have h : 1 < l := of_decide_eq_true h
      cases m with
      | zero => cases hpt
      | succ m =>
        unfold ptLoop at hpt
        rw [if_pos h] at hpt
        by_cases hpp : 2 ≤ p ∧ p ≤ 24
        · rw [if_pos hpp] at hpt
          refine Ss.cons (M := fun Γ => ∃ l' f' s1 s2, ptLoop many m l' (p + 1) f' = some (primeTo n many) ∧ Γ = [.val (nat n), .val (nat many), .val (nat f'), s1, .val (nat l'), .val (nat p), s2])
            (S.ite (T.eqN (E.modN (E.v 4) (E.v 5) (by omega)) (E.nat 0)) (fun h0 => ?_) fun h0 => ?_) ?_
          · have h0 : l % p = 0 := of_decide_eq_true h0
            rw [if_pos h0] at hpt
            cases hst : strip 30 l p with
            | none => rw [hst] at hpt; cases hpt
            | some l' =>
              rw [hst] at hpt
              refine Ss.cons (M := fun Γ => Γ = [.val (nat n), .val (nat many), .val (nat f), s1, .val (nat l'), .val (nat p), s2])
                (S.while_ PassesOwn.never (fun m Γ => ∃ l1, strip m l1 p = some l' ∧ Γ = [.val (nat n), .val (nat many), .val (nat f), s1, .val (nat l1), .val (nat p), s2]) 30 ⟨l, hst, rfl⟩ ?_) ?_
              · rintro m1 _ ⟨l1, hs1, rfl⟩
                refine ⟨_, T.eqN (E.modN (E.v 4) (E.v 5) (by omega)) (E.nat 0), fun h => ?_, fun h => ?_⟩
                · have h : l1 % p = 0 := of_decide_eq_true h
                  cases m1 with
                  | zero => cases hs1
                  | succ m1 =>
                    unfold strip at hs1
                    rw [if_pos h] at hs1
                    exact Ss.one (S.aug 4 sc_prime_to.nd iop_fdiv rfl (E.v 5) (rv_fdivN (a := l1) (b := p) (by omega)) ⟨m1, Nat.lt_succ_self _, l1 / p, hs1, rfl⟩)
                · have h : ¬ l1 % p = 0 := of_decide_eq_false h
                  cases m1 with
                  | zero => cases hs1
                  | succ m1 =>
                    unfold strip at hs1
                    rw [if_neg h] at hs1
                    cases hs1
                    rfl
              rintro _ rfl
              refine Ss.to (S.asg 6 sc_prime_to.nd (E.nat 1) rfl) ?_
              have hsz : p ^ many ≤ 24 ^ 6 := Nat.le_trans (Nat.pow_le_pow_left hpp.2 many) (Nat.pow_le_pow_right (by decide) h3)
              have hsz0 : 0 < p ^ many := Nat.pow_pos (by omega)
              refine Ss.cons (M := fun Γ => ∃ s1, Γ = [.val (nat n), .val (nat many), .val (nat f), s1, .val (nat l'), .val (nat p), .val (nat (p ^ many))])
                (S.for_ PassesOwn.never (IT.range1 (E.v 1) (by omega) B.range) (fun i Γ => ∃ s1, Γ = [.val (nat n), .val (nat many), .val (nat f), s1, .val (nat l'), .val (nat p), .val (nat (p ^ i))]) ⟨_, rfl⟩ ?_ ?_) ?_
              · rintro i d _ hd ⟨s1, rfl⟩
                refine ⟨_, G.name 3 sc_prime_to.nd, ?_⟩
                refine Ss.one (S.aug 6 sc_prime_to.nd iop_mul rfl (E.v 5) (rv_mulN (a := p ^ i) (b := p) (by omega)) ?_)
                rw [← Nat.pow_succ]
                exact ⟨_, rfl⟩
              · rintro _ ⟨s1, rfl⟩
                exact ⟨s1, by rw [List.length_map, List.length_range]⟩
              rintro _ ⟨s1, rfl⟩
              have hn : (24 : Nat) ^ 6 = 191102976 := by decide
              exact Ss.one (S.asg 2 sc_prime_to.nd (E.mulN (E.fdivN (E.v 2) (E.v 6) (by omega)) (E.subN (E.v 6) (E.nat 1) (by omega)) (by omega)) ⟨l', _, _, _, hpt, rfl⟩)
          · have h0 : ¬ l % p = 0 := of_decide_eq_false h0
            rw [if_neg h0] at hpt
            exact Ss.nil ⟨l, f, _, _, hpt, rfl⟩
          · rintro _ ⟨l', f', t1, t2, hpt', rfl⟩
            exact Ss.one (S.aug 5 sc_prime_to.nd iop_add rfl (E.nat 1) rv_addN ⟨m, Nat.lt_succ_self _, l', p + 1, f', _, _, hpt', rfl⟩)
        · rw [if_neg hpp] at hpt; cases hpt
    · have h : ¬ 1 < l := of_decide_eq_false h
      cases m with
      | zero => cases hpt
      | succ m =>
        unfold ptLoop at hpt
        rw [if_neg h] at hpt
        cases hpt
        exact ⟨_, _, l, p, rfl⟩
  · rintro _ ⟨s1, s2, l, p, rfl⟩
    exact Ss.one (S.ret (E.v 2) rfl)
abbrev s_ways_of : Stmt := top 43
abbrev N_ways_of : List Str := ["hours", "mark", "part", "dial", "flow", "rest", "told", "k", "common", "one", "free", "found"]
theorem sc_ways_of : FnScope N_ways_of ["hours", "mark", "part", "dial"] (defScope s_ways_of) := ⟨rfl, rfl, rfl, by decide +kernel, rfl, by decide +kernel, by decide +kernel⟩
structure MkOk (h : Nat) (mk : Nat × Nat) (part : List Nat) : Prop where
  h1 : 0 < h
  h2 : h ≤ 24
  f1 : 0 < mk.1
  f2 : mk.1 ≤ h
  r : part.length ≠ 1 → 0 < mk.2 ∧ mk.2 ∣ mk.1
def pre_ways_of (ds : List PD) (d : PD) : Prop := ∃ (n h : Nat) (mk : Nat × Nat) (part : List Nat), ds = [nat h, dArr mk, dTup part, .list (List.replicate n .none)] ∧ n ≤ 6 ∧ PartOk n part ∧ MkOk h mk part ∧ d = nat (waysF h mk part)
abbrev Ways_of (P : Program) (w : World) (K : PySem.W.Frag) (mg : Str → Option Value) (base : Heap) : Prop := DefOk P w K mg base 2 "ways_of" ["hours", "mark", "part", "dial"] (SpP K 4 pre_ways_of)
theorem ok_ways_of {f : Addr} {fd : FuncData} (F : Fun K "ways_of" "ways_of" s_ways_of f fd) (hm : mg "ways_of" = some (.ref f)) (b : Binds K fd ["hours", "mark", "part", "dial"] []) (B : Bt mg) (D : Prime_to P w K mg base) : Ways_of P w K mg base := by
  refine DefOk.make F hm b sc_ways_of fun cdv A0 outer s H xk hr ds d hp hl => ?_
  obtain ⟨n, h, ⟨fl, r⟩, part, rfl, hn, hpt, mo, rfl⟩ := hp
  obtain ⟨mh1, mh2, mf1, mf2, mr⟩ := mo
  simp only at mf1 mf2 mr
  have hpl := hpt.few
  have hp0 : 0 < part.length := List.length_pos_iff.mpr hpt.ne
  refine Ss.to (S.unp (E.v 1) (G.tup2 (G.name 4 sc_ways_of.nd) (G.name 5 sc_ways_of.nd)) rfl) ?_
  refine Ss.to (Γ1 := [.val (nat h), .val (dArr (fl, r)), .val (dTup part), .val (.list (List.replicate n .none)), .val (nat fl), .val (nat r), .val (.list ([] : List PD)), .any, .any, .any, .any, .any]) (S.asgLcV 6 sc_ways_of.nd
    (LC.mk' [("k", 7)] part nat (fun _ => false) nat (fun k => [(7, nat k)]) (IT.tup (E.v 2)) (blkOk_by (N := N_ways_of) (sc := defScope s_ways_of) (by decide +kernel)) (by simp) (by omega)
      (fun k _ s H C cl fp => G.name 7 sc_ways_of.nd)
      (fun k hk s H C cl fp => Ts.one (T.notN (E.ixL (E.v 3) (E.v 7) (by rw [List.getElem?_replicate, if_pos (hpt.lt k hk)]))))
      (fun k hk hf => by cases hf)) (by simp [setS, startG])) ?_
  refine Ss.cons (M := fun Γ => part.length ≠ 1 ∧ Γ = [.val (nat h), .val (dArr (fl, r)), .val (dTup part), .val (.list (List.replicate n .none)), .val (nat fl), .val (nat r), .val (.list ([] : List PD)), .any, .any, .any, .any, .any])
    (S.ite (T.eqN (E.lenT B.len (E.v 2)) (E.nat 1)) (fun h1 => ?_) fun h1 => Ss.nil ⟨by simpa using h1, rfl⟩) ?_
  · have h1 : part.length = 1 := by simpa using h1
    refine Ss.cons (M := fun _ => False) (S.ite (T.eqD (Enc.list Enc.nat) (hu64 hr) (x := []) (y := []) (E.v 6) (EF.ev (EF.lst A.nil))) (fun _ => Ss.one (S.ret (E.fdivN (E.v 0) (E.v 4) (by omega)) ?_)) fun h => ?_) ?_
    · show nat (h / fl) = nat (waysF h (fl, r) part)
      unfold waysF; rw [if_pos h1]
    · cases h
    · rintro _ h; exact h.elim
  rintro _ ⟨hne, rfl⟩
  obtain ⟨hr0, hrd⟩ := mr hne
  refine Ss.to (S.asg 8 sc_ways_of.nd (E.v 4) rfl) ?_
  refine Ss.to (Γ1 := [.val (nat h), .val (dArr (fl, r)), .val (dTup part), .val (.list (List.replicate n .none)), .val (nat fl), .val (nat r), .val (.list ([] : List PD)), .any, .val (nat fl), .any, .any, .any])
    (S.for_ PassesOwn.never (IT.list (E.v 6)) (fun i Γ => Γ = [.val (nat h), .val (dArr (fl, r)), .val (dTup part), .val (.list (List.replicate n .none)), .val (nat fl), .val (nat r), .val (.list ([] : List PD)), .any, .val (nat fl), .any, .any, .any]) rfl (fun k d Γ1 hd _ => by simp at hd) fun Γ1 h => h) ?_
  refine Ss.skip (T.neN (E.modN (E.v 8) (E.v 5) hr0) (E.nat 0)) (by rw [Nat.mod_eq_zero_of_dvd hrd]; rfl) ?_
  refine Ss.to (S.asg 10 sc_ways_of.nd (E.subN (E.lenT B.len (E.v 2)) (E.lenL B.len (E.v 6)) (by simp)) rfl) ?_
  have hfr : (part.map nat).length - ([] : List PD).length = part.length := by simp
  rw [hfr]
  have hq1 : 1 ≤ fl / r := Nat.div_pos (Nat.le_of_dvd mf1 hrd) hr0
  have hq2 : fl / r ≤ 24 := Nat.le_trans (Nat.div_le_self _ _) (by omega)
  refine Ss.to (S.asg 11 sc_ways_of.nd (E.ite (T.gtN (E.v 10) (E.nat 0)) (fun _ => E.call D (hr.mono (by decide)) (A.cons (E.fdivN (E.v 8) (E.v 5) (by have := Nat.le_of_dvd mf1 hrd; omega)) (A.cons (E.v 10) A.nil)) ⟨fl / r, part.length, rfl, hq1, hq2, by omega, rfl⟩) (fun hf => absurd hp0 (of_decide_eq_false hf))) rfl) ?_
  refine Ss.cons (M := fun Γ => ∃ s1, Γ = [.val (nat h), .val (dArr (fl, r)), .val (dTup part), .val (.list (List.replicate n .none)), .val (nat fl), .val (nat r), .val (.list ([] : List PD)), s1, .val (nat fl), .any, .val (nat part.length), .val (nat (primeTo (fl / r) part.length * (h / fl) ^ part.length))])
    (S.for_ PassesOwn.never (IT.range1 (E.v 10) (by omega) B.range) (fun i Γ => ∃ s1, Γ = [.val (nat h), .val (dArr (fl, r)), .val (dTup part), .val (.list (List.replicate n .none)), .val (nat fl), .val (nat r), .val (.list ([] : List PD)), s1, .val (nat fl), .any, .val (nat part.length), .val (nat (primeTo (fl / r) part.length * (h / fl) ^ i))]) ⟨.any, by simp⟩ ?_ ?_) ?_
  · rintro i d _ hd ⟨s1, rfl⟩
    refine ⟨_, G.name 7 sc_ways_of.nd, ?_⟩
    refine Ss.one (S.aug 11 sc_ways_of.nd iop_mul rfl (E.fdivN (E.v 0) (E.v 8) (by omega)) (rv_mulN (a := primeTo (fl / r) part.length * (h / fl) ^ i) (b := h / fl) (.inr (Nat.lt_of_le_of_lt (Nat.div_le_self _ _) (by omega)))) ?_)
    rw [Nat.mul_assoc, ← Nat.pow_succ]
    exact ⟨_, rfl⟩
  · rintro _ ⟨s1, rfl⟩
    exact ⟨s1, by rw [List.length_map, List.length_range]⟩
  · rintro _ ⟨s1, rfl⟩
    refine Ss.one (S.ret (E.v 11) ?_)
    show nat (primeTo (fl / r) part.length * (h / fl) ^ part.length) = nat (waysF h (fl, r) part)
    unfold waysF; rw [if_neg hne]
theorem ways_le {h : Nat} {mk : Nat × Nat} {part : List Nat} {n : Nat} (hn : n ≤ 6) (hp : PartOk n part) (m : MkOk h mk part) : waysF h mk part < 2 ^ 60 := by
  have h1 := m.h1; have h2 := m.h2; have f1 := m.f1; have f2 := m.f2
  have hd : h / mk.1 ≤ 24 := Nat.le_trans (Nat.div_le_self _ _) h2
  have hl := hp.few
  unfold waysF
  split
  · exact Nat.lt_of_le_of_lt hd (by decide)
  · rename_i hne
    obtain ⟨r1, r2⟩ := m.r hne
    have a := primeTo_le (Nat.div_pos (Nat.le_of_dvd f1 r2) r1) (Nat.le_trans (Nat.div_le_self mk.1 mk.2) (by omega)) (show part.length ≤ 6 by omega)
    have b : (h / mk.1) ^ part.length ≤ 24 ^ 6 := Nat.le_trans (Nat.pow_le_pow_left hd _) (Nat.pow_le_pow_right (by decide) (by omega))
    exact Nat.lt_of_le_of_lt (Nat.mul_le_mul a b) (by decide)
theorem fold_gcd_dvd {dl : List Nat} : ∀ (ks : List Nat) (g : Nat), ks.foldl (fun g k => Nat.gcd g (dl.getD k 0)) g ∣ g
  | [], g => Nat.dvd_refl g
  | k :: ks, g => Nat.dvd_trans (fold_gcd_dvd ks _) (Nat.gcd_dvd_left _ _)
theorem mark_ok {n : Nat} {ar : Arr} {h : Nat} {dl part : List Nat} (h1 : 0 < h) (h2 : h ≤ 24) : MkOk h (markF n ar h dl part) part := by
  have fp := flow_pos (n := n) (ar := ar) (dl := dl) (p := part.getD 0 0) h1
  have fd : flowF n ar h dl (part.getD 0 0) ≤ h := Nat.le_of_dvd h1 (fold_gcd_dvd _ _)
  unfold markF
  by_cases hl : part.length = 1
  · rw [if_pos hl]; exact ⟨h1, h2, fp, fd, fun q => absurd hl q⟩
  · rw [if_neg hl]; exact ⟨h1, h2, fp, fd, fun _ => ⟨fold_gcd_pos _ _ fp, fold_gcd_dvd _ _⟩⟩
abbrev s_count_with : Stmt := top 44
abbrev N_count_with : List Str := ["web", "hours", "dial", "told", "found", "part"]
theorem sc_count_with : FnScope N_count_with ["web", "hours", "dial", "told"] (defScope s_count_with) := ⟨rfl, rfl, rfl, by decide +kernel, rfl, by decide +kernel, by decide +kernel⟩
def pre_count_with (ds : List PD) (d : PD) : Prop := ∃ n ar h dl, ds = [dWeb n ar, nat h, dTup dl, .list (List.replicate n .none)] ∧ WebOk n ar ∧ 2 ≤ h ∧ h ≤ 24 ∧ DialOk n h dl ∧ d = nat (countF n ar h dl)
abbrev Count_with (P : Program) (w : World) (K : PySem.W.Frag) (mg : Str → Option Value) (base : Heap) : Prop := DefOk P w K mg base 6 "count_with" ["web", "hours", "dial", "told"] (SpP K 4 pre_count_with)
theorem ok_count_with {f : Addr} {fd : FuncData} (F : Fun K "count_with" "count_with" s_count_with f fd) (hm : mg "count_with" = some (.ref f)) (b : Binds K fd ["web", "hours", "dial", "told"] []) (B : Bt mg) (D : Parts_in P w K mg base) (D2 : Mark_of P w K mg base) (D3 : Ways_of P w K mg base) : Count_with P w K mg base := by
  refine DefOk.make F hm b sc_count_with fun cdv A0 outer s H xk hr ds d hp hl => ?_
  obtain ⟨n, ar, h, dl, rfl, ok, h1, h2, hd, rfl⟩ := hp
  have hhi := ok.hi
  refine Ss.to (S.asg 4 sc_count_with.nd (E.nat 1) rfl) ?_
  let acc : Nat → Nat := fun i => ((partsF n ar).take i).foldl (fun acc p => acc * waysF h (markF n ar h dl p) p) 1
  refine Ss.cons (M := fun Γ => ∃ s1, Γ = [.val (dWeb n ar), .val (nat h), .val (dTup dl), .val (.list (List.replicate n .none)), .val (nat (countF n ar h dl)), s1])
    (S.for_ PassesOwn.never (IT.list (E.call D (hr.mono (by decide)) (A.cons (E.v 0) A.nil) ⟨n, ar, rfl, ok, rfl⟩)) (fun i Γ => ∃ s1, Γ = [.val (dWeb n ar), .val (nat h), .val (dTup dl), .val (.list (List.replicate n .none)), .val (nat (acc i)), s1]) ⟨_, rfl⟩ ?_ ?_) ?_
  · rintro i d _ hdi ⟨s1, rfl⟩
    obtain ⟨p, hp, rfl⟩ := map_get hdi
    have hpo := parts_ok (get_mem hp)
    have mo := mark_ok (n := n) (ar := ar) (h := h) (dl := dl) (part := p) (by omega) h2
    refine ⟨_, G.name 5 sc_count_with.nd, ?_⟩
    have hacc : acc (i + 1) = acc i * waysF h (markF n ar h dl p) p := foldl_snoc _ _ hp
    refine Ss.one (S.aug 4 sc_count_with.nd iop_mul rfl (E.call D3 (hr.mono (by decide)) (A.cons (E.v 1) (A.cons (E.call D2 hr (A.cons (E.v 0) (A.cons (E.v 1) (A.cons (E.v 2) (A.cons (E.v 5) A.nil)))) ⟨n, ar, h, dl, p, rfl, ok, by omega, hd.len, hpo, rfl⟩) (A.cons (E.v 5) (A.cons (E.v 3) A.nil)))) ⟨n, h, markF n ar h dl p, p, rfl, hhi, hpo, mo, rfl⟩)
      (rv_mulN (a := acc i) (b := waysF h (markF n ar h dl p) p) (.inr (Nat.lt_trans (ways_le hhi hpo mo) (by decide)))) ?_)
    rw [hacc]
    exact ⟨_, rfl⟩
  · rintro _ ⟨s1, rfl⟩
    refine ⟨s1, ?_⟩
    have e : acc ((partsF n ar).map dTup).length = countF n ar h dl := by
      show List.foldl _ _ _ = _
      rw [List.length_map, List.take_length]; rfl
    rw [e]
  · rintro _ ⟨s1, rfl⟩
    exact Ss.one (S.ret (E.v 4) rfl)
abbrev s_come_count : Stmt := top 45
theorem sc_come_count : FnScope ["web", "hours", "dial"] ["web", "hours", "dial"] (defScope s_come_count) := ⟨rfl, rfl, rfl, by decide +kernel, rfl, by decide +kernel, by decide +kernel⟩
def pre_come_count (ds : List PD) (d : PD) : Prop := ∃ n ar h dl, ds = [dWeb n ar, nat h, dTup dl] ∧ WebOk n ar ∧ 2 ≤ h ∧ h ≤ 24 ∧ DialOk n h dl ∧ d = nat (countF n ar h dl)
abbrev Come_count (P : Program) (w : World) (K : PySem.W.Frag) (mg : Str → Option Value) (base : Heap) : Prop := DefOk P w K mg base 7 "come_count" ["web", "hours", "dial"] (SpP K 3 pre_come_count)
theorem flat_rep {α : Type} (x : α) : ∀ n : Nat, (List.replicate n [x]).flatten = List.replicate n x
  | 0 => rfl
  | n + 1 => by rw [List.replicate_succ, List.flatten_cons, flat_rep x n]; rfl
theorem ok_come_count {f : Addr} {fd : FuncData} (F : Fun K "come_count" "come_count" s_come_count f fd) (hm : mg "come_count" = some (.ref f)) (b : Binds K fd ["web", "hours", "dial"] []) (B : Bt mg) (D : Need_all P w K mg base) (D2 : Count_with P w K mg base) : Come_count P w K mg base := by
  refine DefOk.make F hm b sc_come_count fun cdv A0 outer s H xk hr ds d hp hl => ?_
  obtain ⟨n, ar, h, dl, rfl, ok, h1, h2, hd, rfl⟩ := hp
  have hhi := ok.hi
  refine Ss.to (S.drop (E.call D (hr.mono (by decide)) (A.cons (E.v 0) (A.cons (E.v 1) (A.cons (E.v 2) A.nil))) ⟨n, ar, h, dl, rfl, ok, h1, h2, hd.len, hd.lt, rfl⟩) rfl) ?_
  exact Ss.one (S.ret (E.call D2 hr (A.cons (E.v 0) (A.cons (E.v 1) (A.cons (E.v 2) (A.cons (EF.ev (EF.is (EF.rep (EF.lst (A.cons E.non A.nil)) (E.ixT (E.v 0) (E.nat 0) rfl) (by omega) (by simp)) (flat_rep _ n))) A.nil)))) ⟨n, ar, h, dl, rfl, ok, h1, h2, hd, rfl⟩) rfl)
end
end Ck

set_option Elab.async false
set_option linter.all false
set_option maxRecDepth 100000
namespace Ck
open PySem PySem.Spec PyProof.Rows L2

inductive Wk : List Sl → List Sl → Prop
  | nil : Wk [] []
  | any {s : Sl} {a b : List Sl} : Wk a b → Wk (.any :: a) (s :: b)
  | same {s : Sl} {a b : List Sl} : Wk a b → Wk (s :: a) (s :: b)
theorem Wk.len {a b : List Sl} (h : Wk a b) : a.length = b.length := by induction h <;> simp [*]
theorem Wk.at_ {a b : List Sl} (h : Wk a b) : ∀ (i : Nat) s, a[i]? = some s → s = .any ∨ b[i]? = some s := by
  induction h with
  | nil => intro i s e; simp at e
  | any _ ih =>
    intro i s e
    cases i with
    | zero => simp at e; exact .inl e.symm
    | succ j => simp at e; have := ih j s e; simpa using this
  | same _ ih =>
    intro i s e
    cases i with
    | zero => simp at e; subst e; exact .inr rfl
    | succ j => simp at e; have := ih j s e; simpa using this
theorem Ss.wk {X : Cx} {sts : List Stmt} {Γ Γ' : List Sl} {P : Post} (h : Ss X sts Γ' P) (w : Wk Γ' Γ) : Ss X sts Γ P := Ss.weak h w.len w.at_

/-! ### powers of primes -/
def peel : Nat → Nat → Nat → Nat → Option (Nat × Nat)
  | 0, _, _, _ => none
  | m + 1, l, s, p => if l % p = 0 then peel m (l / p) (s * p) p else some (l, s)
def pwLoop : Nat → Nat → Nat → List Nat → Option (List Nat)
  | 0, _, _, _ => none
  | m + 1, l, p, acc => if 1 < l then (if 2 ≤ p ∧ p ≤ 24 then (match peel 30 l 1 p with | some q => pwLoop m q.1 (p + 1) (if 1 < q.2 then acc ++ [q.2] else acc) | none => none) else none) else some acc
def powRaw (h : Nat) : List Nat := (pwLoop 30 h 2 []).getD []
def insN (x : Nat) : List Nat → List Nat
  | [] => [x]
  | y :: ys => if x ≤ y then x :: y :: ys else y :: insN x ys
def powersF (h : Nat) : List Nat := (powRaw h).foldr insN []
def CrtOk (h : Nat) : Bool := (List.range h).all fun a => (List.range h).all fun b => !((powersF h).all fun q => a % q == b % q) || a == b
theorem pwOk : ∀ h, h < 25 → 2 ≤ h → (pwLoop 30 h 2 []).isSome = true ∧ (powersF h).Pairwise (· ≤ ·) ∧ (powersF h).isPerm (powRaw h) = true ∧ (∀ q ∈ powersF h, 2 ≤ q ∧ q ≤ h) ∧ (powersF h).foldl (· * ·) 1 = h ∧ powersF h ≠ [] ∧ (powersF h).length ≤ 5 ∧ CrtOk h = true ∧ (powersF h).Nodup := by decide +kernel
structure PwOk (h : Nat) : Prop where
  run : pwLoop 30 h 2 [] = some (powRaw h)
  up : (powersF h).Pairwise (· ≤ ·)
  perm : (powersF h).Perm (powRaw h)
  mem : ∀ q ∈ powersF h, 2 ≤ q ∧ q ≤ h
  prod : (powersF h).foldl (· * ·) 1 = h
  ne : powersF h ≠ []
  few : (powersF h).length ≤ 5
  crt : ∀ a b, a < h → b < h → (∀ q ∈ powersF h, a % q = b % q) → a = b
theorem pw_ok {h : Nat} (h1 : 2 ≤ h) (h2 : h ≤ 24) : PwOk h := by
  obtain ⟨a, b, c, d, e, f, g, k, _⟩ := pwOk h (by omega) h1
  refine ⟨?_, b, List.isPerm_iff.mp c, d, e, f, g, fun x y hx hy hq => ?_⟩
  · unfold powRaw
    cases q : pwLoop 30 h 2 [] with
    | none => rw [q] at a; cases a
    | some z => rfl
  · unfold CrtOk at k
    have k1 := List.all_eq_true.mp k x (List.mem_range.mpr hx)
    have k2 := List.all_eq_true.mp k1 y (List.mem_range.mpr hy)
    have k3 : ((powersF h).all fun q => x % q == y % q) = true := List.all_eq_true.mpr fun q hm => by simp [hq q hm]
    rw [k3] at k2
    simpa using k2
theorem sorted_pw {h : Nat} (o : PwOk h) (ns' : List Int) (hp : ns'.Perm ((powRaw h).map fun (n : Nat) => (n : Int))) (hs : ns'.Pairwise (· ≤ ·)) : ns' = (powersF h).map fun (n : Nat) => (n : Int) := by
  refine List.Perm.eq_of_pairwise (le := (· ≤ ·)) (fun a b _ _ h1 h2 => Int.le_antisymm h1 h2) hs ?_ (hp.trans (o.perm.symm.map _))
  rw [List.pairwise_map]
  exact o.up.imp fun h => by omega
@[reducible] def dSp (x : Nat × List Nat) : PD := .tuple [nat x.1, dTup x.2]
@[reducible] def dSplit (xs : List (Nat × List Nat)) : PD := .tuple (xs.map dSp)
def splitF (h : Nat) (dl : List Nat) : List (Nat × List Nat) := (powersF h).map fun q => (q, dl.map (· % q))
theorem encSp : Enc 2 dSp := (Enc.pair Enc.nat (Enc.tuple Enc.nat)).mono (by decide)
section
variable {P : Program} {w : World} {K : PySem.W.Frag} {mg : Str → Option Value} {base : Heap}
abbrev s_powers_of : Stmt := top 33
abbrev N_powers_of : List Str := ["hours", "found", "left", "prime", "size"]
theorem sc_powers_of : FnScope N_powers_of ["hours"] (defScope s_powers_of) := ⟨rfl, rfl, rfl, by decide +kernel, rfl, by decide +kernel, by decide +kernel⟩
def pre_powers_of (ds : List PD) (d : PD) : Prop := ∃ h : Nat, ds = [nat h] ∧ 2 ≤ h ∧ h ≤ 24 ∧ d = dLst (powersF h)
abbrev Powers_of (P : Program) (w : World) (K : PySem.W.Frag) (mg : Str → Option Value) (base : Heap) : Prop := DefOk P w K mg base 1 "powers_of" ["hours"] (SpP K 1 pre_powers_of)
theorem ok_powers_of {f : Addr} {fd : FuncData} (F : Fun K "powers_of" "powers_of" s_powers_of f fd) (hm : mg "powers_of" = some (.ref f)) (b : Binds K fd ["hours"] []) (B : Bt mg) : Powers_of P w K mg base := by
  refine DefOk.make F hm b sc_powers_of fun cdv A0 outer s H xk hr ds d hp hl => ?_
  obtain ⟨h, rfl, h1, h2, rfl⟩ := hp
  have po := pw_ok h1 h2
  refine Ss.to (S.par3 1 2 3 sc_powers_of.nd (Src.f (EF.lst A.nil)) (Src.v (E.v 0)) (Src.v (E.nat 2)) rfl) ?_
  refine Ss.cons (M := fun Γ => ∃ s1 s2 s3, Γ = [.val (nat h), .own ((powRaw h).map nat), s1, s2, s3])
    (S.while_ PassesOwn.never (fun m Γ => ∃ l p acc s1, pwLoop m l p acc = some (powRaw h) ∧ acc.length + m ≤ 60 ∧ Γ = [.val (nat h), .own (acc.map nat), .val (nat l), .val (nat p), s1]) 30 ⟨h, 2, [], _, po.run, by simp, rfl⟩ ?_) ?_
  · rintro m _ ⟨l, p, acc, s1, hpw, hm, rfl⟩
    refine ⟨_, T.gtN (E.v 2) (E.nat 1), fun hx => ?_, fun hx => ?_⟩
    · have hx : 1 < l := of_decide_eq_true hx
      cases m with
      | zero => cases hpw
      | succ m =>
        unfold pwLoop at hpw
        rw [if_pos hx] at hpw
        by_cases hpp : 2 ≤ p ∧ p ≤ 24
        · rw [if_pos hpp] at hpw
          cases hpe : peel 30 l 1 p with
          | none => rw [hpe] at hpw; cases hpw
          | some q =>
            obtain ⟨l', sz⟩ := q
            rw [hpe] at hpw
            simp only at hpw
            refine Ss.to (S.asg 4 sc_powers_of.nd (E.nat 1) rfl) ?_
            refine Ss.cons (M := fun Γ => Γ = [.val (nat h), .own (acc.map nat), .val (nat l'), .val (nat p), .val (nat sz)])
              (S.while_ PassesOwn.never (fun m Γ => ∃ l1 z1, peel m l1 z1 p = some (l', sz) ∧ Γ = [.val (nat h), .own (acc.map nat), .val (nat l1), .val (nat p), .val (nat z1)]) 30 ⟨l, 1, hpe, rfl⟩ ?_) ?_
            · rintro m1 _ ⟨l1, z1, hs1, rfl⟩
              refine ⟨_, T.eqN (E.modN (E.v 2) (E.v 3) (by omega)) (E.nat 0), fun hy => ?_, fun hy => ?_⟩
              · have hy : l1 % p = 0 := of_decide_eq_true hy
                cases m1 with
                | zero => cases hs1
                | succ m1 =>
                  unfold peel at hs1
                  rw [if_pos hy] at hs1
                  exact Ss.one (S.par2 2 4 sc_powers_of.nd (Src.v (E.fdivN (E.v 2) (E.v 3) (by omega))) (Src.v (E.mulN (E.v 4) (E.v 3) (by omega))) ⟨m1, Nat.lt_succ_self _, l1 / p, z1 * p, hs1, rfl⟩)
              · have hy : ¬ l1 % p = 0 := of_decide_eq_false hy
                cases m1 with
                | zero => cases hs1
                | succ m1 =>
                  unfold peel at hs1
                  rw [if_neg hy] at hs1
                  cases hs1
                  rfl
            rintro _ rfl
            refine Ss.cons (M := fun Γ => ∃ acc', pwLoop m l' (p + 1) acc' = some (powRaw h) ∧ acc'.length + m ≤ 60 ∧ Γ = [.val (nat h), .own (acc'.map nat), .val (nat l'), .val (nat p), .val (nat sz)])
              (S.ite (T.gtN (E.v 4) (E.nat 1)) (fun hz => ?_) fun hz => ?_) ?_
            · have hz : 1 < sz := of_decide_eq_true hz
              rw [if_pos hz] at hpw
              refine Ss.one (S.app 1 (ds := acc.map nat) rfl (Src.v (E.v 4)) (by rw [List.length_map]; omega) ⟨acc ++ [sz], hpw, ?_, ?_⟩)
              · rw [List.length_append]; simp only [List.length_singleton]; omega
              · rw [List.map_append]; rfl
            · have hz : ¬ 1 < sz := of_decide_eq_false hz
              rw [if_neg hz] at hpw
              exact Ss.nil ⟨acc, hpw, by omega, rfl⟩
            · rintro _ ⟨acc', hpw', hm', rfl⟩
              exact Ss.one (S.aug 3 sc_powers_of.nd iop_add rfl (E.nat 1) rv_addN ⟨m, Nat.lt_succ_self _, l', p + 1, acc', _, hpw', hm', rfl⟩)
        · rw [if_neg hpp] at hpw; cases hpw
    · have hx : ¬ 1 < l := of_decide_eq_false hx
      cases m with
      | zero => cases hpw
      | succ m =>
        unfold pwLoop at hpw
        rw [if_neg hx] at hpw
        cases hpw
        exact ⟨_, _, _, rfl⟩
  · rintro _ ⟨s1, s2, s3, rfl⟩
    exact Ss.one (S.retFr (EF.ev (EF.sorted (ns := powRaw h) (sorted_pw po) B.sorted (E.v 1))) rfl)
abbrev s_split : Stmt := top 34
abbrev N_split : List Str := ["hours", "dial", "power", "one"]
theorem sc_split : FnScope N_split ["hours", "dial"] (defScope s_split) := ⟨rfl, rfl, rfl, by decide +kernel, rfl, by decide +kernel, by decide +kernel⟩
def pre_split (ds : List PD) (d : PD) : Prop := ∃ h dl, ds = [nat h, dTup dl] ∧ 2 ≤ h ∧ h ≤ 24 ∧ 1 ≤ dl.length ∧ dl.length ≤ 6 ∧ (∀ x ∈ dl, x < h) ∧ d = dSplit (splitF h dl)
abbrev Split (P : Program) (w : World) (K : PySem.W.Frag) (mg : Str → Option Value) (base : Heap) : Prop := DefOk P w K mg base 4 "split" ["hours", "dial"] (SpP K 2 pre_split)
theorem ok_split {f : Addr} {fd : FuncData} (F : Fun K "split" "split" s_split f fd) (hm : mg "split" = some (.ref f)) (b : Binds K fd ["hours", "dial"] []) (B : Bt mg) (D : Need_row P w K mg base) (D2 : Powers_of P w K mg base) : Split P w K mg base := by
  refine DefOk.make F hm b sc_split fun cdv A0 outer s H xk hr ds d hp hl => ?_
  obtain ⟨h, dl, rfl, h1, h2, h3, h4, h5, rfl⟩ := hp
  have po := pw_ok h1 h2
  refine Ss.to (S.drop (E.call D hr (A.cons (E.v 0) (A.cons (E.v 1) A.nil)) ⟨h, dl, rfl, h1, h2, h3, h4, h5, rfl⟩) rfl) ?_
  refine Ss.one (S.ret (E.tupleOf B.tuple (EF.ev (EF.is (EF.lcOf (LC.all [("power", 2)] (powersF h) nat (fun q => dSp (q, dl.map (· % q))) (fun q => [(2, nat q)])
    (IT.list (E.call D2 (hr.mono (by decide)) (A.cons (E.v 0) A.nil) ⟨h, rfl, h1, h2, rfl⟩))
    (blkOk_by (N := N_split) (sc := defScope s_split) (by decide +kernel)) (by simp) (by have := po.few; omega)
    (fun q _ s H C cl fp => G.name 2 sc_split.nd)
    (fun q hq s H C cl fp => E.tup (A.cons (E.v 2) (A.cons (E.tupleOf B.tuple (EF.ev (EF.is (EF.lcOf (LC.all [("one", 3)] dl nat (fun x => nat (x % q)) (fun x => [(3, nat x)])
      (IT.tup (E.v 1)) (blkOk_by (N := N_split) (sc := relS _ (defScope s_split)) (by decide +kernel)) (by simp) (by omega)
      (fun x _ s H C cl fp => G.name 3 sc_split.nd)
      (fun x _ s H C cl fp => E.modN (E.v 3) (E.v 2) (by have := po.mem q hq; omega))) sc_split.nd) (show _ = (dl.map (· % q)).map nat by rw [List.map_map]; rfl)))) A.nil)))) sc_split.nd) (show _ = (splitF h dl).map dSp by unfold splitF; rw [List.map_map]; rfl)))) rfl)
abbrev s_is_split : Stmt := top 35
abbrev N_is_split : List Str := ["value", "one", "hour"]
theorem sc_is_split : FnScope N_is_split ["value"] (defScope s_is_split) := ⟨rfl, rfl, rfl, by decide +kernel, rfl, by decide +kernel, by decide +kernel⟩
structure SplOk (n : Nat) (xs : List (Nat × List Nat)) : Prop where
  ne : xs ≠ []
  n1 : 1 ≤ n
  n2 : n ≤ 6
  lo : ∀ x ∈ xs, 2 ≤ x.1 ∧ x.1 ≤ 24
  len : ∀ x ∈ xs, x.2.length = n
  lt : ∀ x ∈ xs, ∀ v ∈ x.2, v < x.1
def pre_is_split (ds : List PD) (d : PD) : Prop := ∃ n xs, ds = [dSplit xs] ∧ SplOk n xs ∧ d = .bool true
abbrev Is_split (P : Program) (w : World) (K : PySem.W.Frag) (mg : Str → Option Value) (base : Heap) : Prop := DefOk P w K mg base 2 "is_split" ["value"] (SpP K 1 pre_is_split)
theorem ok_is_split {f : Addr} {fd : FuncData} (F : Fun K "is_split" "is_split" s_is_split f fd) (hm : mg "is_split" = some (.ref f)) (b : Binds K fd ["value"] []) (B : Bt mg) (D : Is_in P w K mg base) : Is_split P w K mg base := by
  refine DefOk.make F hm b sc_is_split fun cdv A0 outer s H xk hr ds d hp hl => ?_
  obtain ⟨n, xs, rfl, so, rfl⟩ := hp
  have n1 := so.n1; have n2 := so.n2
  obtain ⟨x0, xr, hx0⟩ : ∃ x0 xr, xs = x0 :: xr := by
    cases xs with
    | nil => exact absurd rfl so.ne
    | cons a r => exact ⟨a, r, rfl⟩
  refine Ss.skip (W.t (W.or (T.not (T.val (E.isTT B.isi B.tuple (E.v 0)))) fun _ => W.or1 (T.eqD (Enc.tuple encSp) (hu64 hr) (x := xs) (y := []) (E.v 0) (E.tup A.nil)))) (by simp [so.ne]) ?_
  refine Ss.cons (M := fun _ => True) (S.for_ PassesOwn.never (IT.tup (E.v 0)) (fun i Γ => ∃ s1, Γ = [.val (dSplit xs), s1, .any]) ⟨_, rfl⟩ ?_ fun _ _ => trivial) fun Γ _ => Ss.one (S.ret E.bl rfl)
  rintro i d _ hd ⟨s1, rfl⟩
  obtain ⟨⟨q, dl⟩, hx, rfl⟩ := map_get hd
  have hm := get_mem hx
  have hlo := so.lo _ hm
  have hlen := so.len _ hm
  have hlt := so.lt _ hm
  have hl0 := so.len x0 (by rw [hx0]; simp)
  simp only at hlo hlen hlt
  have e1 : (dl.map nat).length = dl.length := List.length_map _
  have e2 : (x0.2.map nat).length = x0.2.length := List.length_map _
  refine ⟨_, G.name 1 sc_is_split.nd, ?_⟩
  refine Ss.skip (W.t (W.or (T.not (T.val (E.isTT B.isi B.tuple (E.v 1)))) fun _ => W.or (T.neN (E.lenT B.len (E.v 1)) (E.nat 2)) fun _ => W.or1 (T.not (T.val (E.call D hr (A.cons (E.ixT (E.v 1) (E.nat 0) rfl) (A.cons (E.nat 2) (A.cons (E.cst 24 B.mh) A.nil))) ⟨_, _, _, rfl, rfl⟩))))) (by
    rw [decide_eq_true (show ((2 : Nat) : Int) ≤ (q : Int) by omega), decide_eq_true (show (q : Int) ≤ ((24 : Nat) : Int) by omega)]; rfl) ?_
  refine Ss.skip (T.not (T.val (E.isTT B.isi B.tuple (E.ixT (E.v 1) (E.nat 1) rfl)))) rfl ?_
  refine Ss.skip (W.t (W.or (T.not (T.leC (E.nat 1) (E.lenT B.len (E.ixT (E.v 1) (E.nat 1) rfl)) (E.cst 7 B.mc))) fun _ => W.or1 (T.neN (E.lenT B.len (E.ixT (E.v 1) (E.nat 1) rfl)) (E.lenT B.len (E.ixT (E.ixT (E.v 0) (E.nat 0) (d := dSp x0) (by rw [hx0]; rfl)) (E.nat 1) rfl))))) (by
    rw [e1, e2, hlen, hl0, decide_eq_true n1, decide_eq_true (show n ≤ 7 by omega), decide_eq_true rfl]; rfl) ?_
  refine Ss.skip (T.neD (Enc.list Enc.nat) (hu64 hr) (x := []) (y := []) (EF.ev (EF.is (EF.lcOf
    (LC.mk' [("hour", 2)] dl nat (fun _ => false) nat (fun x => [(2, nat x)]) (IT.tup (E.ixT (E.v 1) (E.nat 1) rfl)) (blkOk_by (N := N_is_split) (sc := defScope s_is_split) (by decide +kernel)) (by simp) (by omega)
      (fun x _ s H C cl fp => G.name 2 sc_is_split.nd)
      (fun x hx s H C cl fp => Ts.one (T.is (T.not (T.val (E.call D hr (A.cons (E.v 2) (A.cons (E.nat 0) (A.cons (E.subN (E.ixT (E.v 1) (E.nat 0) rfl) (E.nat 1) (by omega)) A.nil))) ⟨_, _, _, rfl, rfl⟩))) ?_))
      (fun x hx h => by cases h))
    sc_is_split.nd) (by simp))) (EF.ev (EF.lst A.nil))) (by simp) (Ss.nil ⟨_, rfl⟩)
  have hxq := hlt x hx
  rw [decide_eq_true (show ((0 : Nat) : Int) ≤ (x : Int) by omega), decide_eq_true (show (x : Int) ≤ ((q - 1 : Nat) : Int) by omega)]; rfl
theorem split_ok {h : Nat} {t : List Nat} (h1 : 2 ≤ h) (h2 : h ≤ 24) (h3 : 1 ≤ t.length) (h4 : t.length ≤ 6) : SplOk t.length (splitF h t) := by
  have po := pw_ok h1 h2
  refine ⟨by unfold splitF; simp [po.ne], h3, h4, fun x hx => ?_, fun x hx => ?_, fun x hx v hv => ?_⟩
  all_goals
    simp only [splitF, List.mem_map] at hx
    obtain ⟨q, hq, rfl⟩ := hx
    have := po.mem q hq
  · simp only; omega
  · simp
  · simp only [List.mem_map] at hv ⊢
    obtain ⟨a, _, rfl⟩ := hv
    exact Nat.mod_lt _ (by omega)
theorem LC.is {X : Cx} {elt tg iter : Expr} {ifs : List Expr} {scope : Scope} {Γ : List (Option PD)} {ds ds' : List PD} (h : LC X elt tg iter ifs scope Γ ds) (e : ds = ds') : LC X elt tg iter ifs scope Γ ds' := e ▸ h
theorem filter_one {h a : Nat} (ha : a < h) : (List.range h).filter (fun x => decide (x = a)) = [a] := by
  have e : (fun x => decide (x = a)) = (· == a) := by funext x; rw [Bool.beq_eq_decide_eq]
  rw [e, List.filter_beq, List.Nodup.count List.nodup_range, if_pos (List.mem_range.mpr ha)]
  rfl
abbrev s_joined : Stmt := top 36
abbrev N_joined : List Str := ["some", "hours", "power", "dial", "found", "place", "fits", "hour", "one"]
theorem sc_joined : FnScope N_joined ["some"] (defScope s_joined) := ⟨rfl, rfl, rfl, by decide +kernel, rfl, by decide +kernel, by decide +kernel⟩
def pre_joined (ds : List PD) (d : PD) : Prop := ∃ h t, ds = [dSplit (splitF h t)] ∧ 2 ≤ h ∧ h ≤ 24 ∧ 1 ≤ t.length ∧ t.length ≤ 6 ∧ (∀ x ∈ t, x < h) ∧ d = dSp (h, t)
abbrev Joined (P : Program) (w : World) (K : PySem.W.Frag) (mg : Str → Option Value) (base : Heap) : Prop := DefOk P w K mg base 3 "joined" ["some"] (SpP K 1 pre_joined)
theorem ok_joined {f : Addr} {fd : FuncData} (F : Fun K "joined" "joined" s_joined f fd) (hm : mg "joined" = some (.ref f)) (b : Binds K fd ["some"] []) (B : Bt mg) (D : Is_split P w K mg base) (D2 : Powers_of P w K mg base) : Joined P w K mg base := by
  refine DefOk.make F hm b sc_joined fun cdv A0 outer s H xk hr ds d hp hl => ?_
  obtain ⟨h, t, rfl, h1, h2, h3, h4, h5, rfl⟩ := hp
  have po := pw_ok h1 h2
  have hfew : (splitF h t).length ≤ 5 := by unfold splitF; rw [List.length_map]; exact po.few
  refine Ss.skip (T.not (T.val (E.call D hr (A.cons (E.v 0) A.nil) ⟨_, _, rfl, split_ok h1 h2 h3 h4, rfl⟩))) rfl ?_
  refine Ss.to (S.asg 1 sc_joined.nd (E.nat 1) rfl) ?_
  let acc : Nat → Nat := fun i => ((powersF h).take i).foldl (· * ·) 1
  refine Ss.cons (M := fun Γ => ∃ s1 s2, Γ = [.val (dSplit (splitF h t)), .val (nat h), s1, s2, .any, .any, .any, .any, .any])
    (S.for_ PassesOwn.never (IT.tup (E.v 0)) (fun i Γ => ∃ s1 s2, Γ = [.val (dSplit (splitF h t)), .val (nat (acc i)), s1, s2, .any, .any, .any, .any, .any]) ⟨_, _, rfl⟩ ?_ ?_) ?_
  · rintro i d _ hd ⟨s1, s2, rfl⟩
    obtain ⟨⟨q, dq⟩, hx, rfl⟩ := map_get hd
    have hq : (powersF h)[i]? = some q := by
      unfold splitF at hx
      rw [List.getElem?_map] at hx
      cases e : (powersF h)[i]? with
      | none => rw [e] at hx; cases hx
      | some q' => rw [e] at hx; cases hx; rfl
    have hqm := po.mem q (get_mem hq)
    refine ⟨_, G.tup2 (G.name 2 sc_joined.nd) (G.name 3 sc_joined.nd), ?_⟩
    have hacc : acc (i + 1) = acc i * q := foldl_snoc _ _ hq
    refine Ss.one (S.aug 1 sc_joined.nd iop_mul rfl (E.v 2) (rv_mulN (a := acc i) (b := q) (by omega)) ?_)
    rw [hacc]
    exact ⟨_, _, rfl⟩
  · rintro _ ⟨s1, s2, rfl⟩
    refine ⟨s1, s2, ?_⟩
    have e : acc ((splitF h t).map dSp).length = h := by
      show List.foldl _ _ _ = _
      unfold splitF
      rw [List.length_map, List.length_map, List.take_length, po.prod]
    rw [e]
  rintro _ ⟨s1, s2, rfl⟩
  refine Ss.wk (Γ' := [.val (dSplit (splitF h t)), .val (nat h), .any, .any, .any, .any, .any, .any, .any]) ?_ (by repeat (first | exact Wk.nil | apply Wk.same | apply Wk.any))
  refine Ss.skip (W.t (W.or (T.gtN (E.v 1) (E.cst 24 B.mh)) fun _ => W.or1 (T.neD (Enc.list Enc.nat) (hu64 hr) (x := powersF h) (y := powersF h) (E.call D2 (hr.mono (by decide)) (A.cons (E.v 1) A.nil) ⟨h, rfl, h1, h2, rfl⟩)
    (EF.ev (EF.is (EF.lcOf (LC.all [("power", 2), ("dial", 3)] (splitF h t) dSp (fun x => nat x.1) (fun x => [(2, nat x.1), (3, dTup x.2)]) (IT.tup (E.v 0)) (blkOk_by (N := N_joined) (sc := defScope s_joined) (by decide +kernel)) (by simp) (by omega)
      (fun x _ s H C cl fp => G.tup2 (G.name 2 sc_joined.nd) (G.name 3 sc_joined.nd)) (fun x _ s H C cl fp => E.v 2)) sc_joined.nd) (by unfold splitF; rw [List.map_map]; rfl)))))) (by simp; omega) ?_
  refine Ss.to (S.set 4 sc_joined.nd (Src.f (EF.lst A.nil)) rfl) ?_
  obtain ⟨x0, hx0⟩ : ∃ q, (splitF h t)[0]? = some (q, t.map (· % q)) := by
    unfold splitF
    cases e : powersF h with
    | nil => exact absurd e po.ne
    | cons q r => exact ⟨q, rfl⟩
  have e0 : ((t.map (· % x0)).map nat).length = t.length := by rw [List.length_map, List.length_map]
  refine Ss.cons (M := fun Γ => ∃ s1 s2, Γ = [.val (dSplit (splitF h t)), .val (nat h), .any, .any, .own (t.map nat), s1, s2, .any, .any])
    (S.for_ PassesOwn.never (IT.range1 (E.lenT B.len (E.ixT (E.ixT (E.v 0) (E.nat 0) (d := dSp (x0, t.map (· % x0))) (by rw [List.getElem?_map, hx0]; rfl)) (E.nat 1) rfl)) (by rw [e0]; omega) B.range) (fun i Γ => ∃ s1 s2, Γ = [.val (dSplit (splitF h t)), .val (nat h), .any, .any, .own ((t.take i).map nat), s1, s2, .any, .any]) ⟨_, _, rfl⟩ ?_ ?_) ?_
  · rintro i d _ hd ⟨s1, s2, rfl⟩
    obtain ⟨k, hk, rfl⟩ := map_get hd
    obtain ⟨rfl, hkn⟩ := range_get hk
    rw [e0] at hkn
    have htk : t[k]? = some t[k] := List.getElem?_eq_getElem hkn
    have htl : t[k] < h := h5 _ (List.getElem_mem hkn)
    have hcond : ∀ x, x < h → decide ((splitF h t).filter (fun y => !decide (x % y.1 = y.2.getD k 0)) = []) = decide (x = t[k]) := fun x hx => by
      have : ((splitF h t).filter (fun y => !decide (x % y.1 = y.2.getD k 0)) = []) ↔ x = t[k] := by
        rw [List.filter_eq_nil_iff]
        unfold splitF
        simp only [List.mem_map, forall_exists_index, and_imp, forall_apply_eq_imp_iff₂]
        have ek : ∀ q, (t.map (· % q)).getD k 0 = t[k] % q := fun q => getD_get (by rw [List.getElem?_map, htk]; rfl)
        constructor
        · intro hall
          refine po.crt x _ hx htl fun q hq => ?_
          have := hall q hq
          rw [ek] at this
          simpa using this
        · rintro rfl q hq
          rw [ek]
          simp
      simp only [this]
    refine ⟨_, G.name 5 sc_joined.nd, ?_⟩
    refine Ss.to (Γ1 := [.val (dSplit (splitF h t)), .val (nat h), .any, .any, .own ((t.take k).map nat), .val (nat k), .val (dLst [t[k]]), .any, .any]) (S.asgLcV 6 sc_joined.nd (ds := [t[k]].map nat)
      (LC.is (LC.mk' [("hour", 7)] (List.range h) nat (fun x => decide (x = t[k])) nat (fun x => [(7, nat x)])
          (IT.range1 (E.v 1) (by omega) B.range) (blkOk_by (N := N_joined) (sc := defScope s_joined) (by decide +kernel)) (by simp) (by simp; omega)
          (fun x _ s H C cl fp => G.name 7 sc_joined.nd)
          (fun x hx s H C cl fp => Ts.one (T.is (T.eqD (Enc.list encSp) (hu64 hr) (x := (splitF h t).filter (fun y => !decide (x % y.1 = y.2.getD k 0))) (y := [])
            (EF.ev (EF.lcOf (LC.mk' [("one", 8)] (splitF h t) dSp (fun y => !decide (x % y.1 = y.2.getD k 0)) dSp (fun y => [(8, dSp y)]) (IT.tup (E.v 0)) (blkOk_by (N := N_joined) (sc := relS _ (defScope s_joined)) (by decide +kernel)) (by simp) (by omega)
              (fun y _ s H C cl fp => G.name 8 sc_joined.nd)
              (fun y hy s H C cl fp => Ts.one (T.neN (E.modN (E.v 7) (E.ixT (E.v 8) (E.nat 0) rfl) (by
                simp only [splitF, List.mem_map] at hy
                obtain ⟨q, hq, rfl⟩ := hy
                have := po.mem q hq
                simp only; omega)) (E.ixT (E.ixT (E.v 8) (E.nat 1) rfl) (E.v 5) (by
                simp only [splitF, List.mem_map] at hy
                obtain ⟨q, hq, rfl⟩ := hy
                rw [List.getElem?_map, List.getElem?_map, htk, getD_get (a := t[k] % q) (by rw [List.getElem?_map, htk]; rfl)]
                rfl))))
              (fun y _ _ s H C cl fp => E.v 8)) sc_joined.nd)) (EF.ev (EF.lst A.nil))) (hcond x (by simpa using hx))))
          (fun x _ _ s H C cl fp => E.v 7)) (by rw [filter_one htl])) rfl) ?_
    refine Ss.one (S.app 4 (ds := (t.take k).map nat) rfl (Src.v (E.ixL (E.v 6) (E.nat 0) rfl)) (by rw [List.length_map, List.length_take]; omega) ?_)
    refine ⟨.val (nat k), .val (dLst [t[k]]), ?_⟩
    rw [take_snoc htk, List.map_append]
    rfl
  · rintro _ ⟨s1, s2, rfl⟩
    refine ⟨s1, s2, ?_⟩
    rw [List.length_map, List.length_range, e0, List.take_length]
  · rintro _ ⟨s1, s2, rfl⟩
    exact Ss.one (S.retFr (E.tup (A.cons (E.v 1) (A.cons (E.tupleOf B.tuple (E.v 4)) A.nil))) rfl)
end
end Ck

set_option Elab.async false
set_option linter.all false
set_option maxRecDepth 100000
namespace Ck
open PySem PySem.Spec PyProof.Rows L2

/-! ### two fors in a comprehension -/
section
variable {X : Cx} {elt tg iter tg1 iter1 : Expr} {scope : Scope} {Γ : List (Option PD)} {pos : Pos}
theorem EF.lc2 {α β : Type} (own : List (Str × Nat)) (vs1 : List Nat) (xs : List α) (ys : α → List β) (enc : α → PD) (enc1 : β → PD) (f : β → PD) (asg : α → List (Nat × PD)) (asg1 : β → List (Nat × PD)) (hN : X.N.Nodup)
    (hi : IT X tg iter Γ (xs.map enc)) (ok : BlkOk X.N X.env.scope scope own) (hown : ∀ a ∈ xs, ∀ q ∈ asg a, q.1 ∈ own.map (·.2)) (hv : ∀ i ∈ vs1, i ∈ own.map (·.2)) (hown1 : ∀ a ∈ xs, ∀ b ∈ ys a, ∀ q ∈ asg1 b, q.1 ∈ vs1)
    (hz : (xs.flatMap ys).length ≤ 100000)
    (hg : ∀ a ∈ xs, ∀ (s : Shared) (H : Hp) (C : Addr) (cl : List (Str × Addr)) (fp : List Addr), G (X.blk s H scope (compEnvC scope cl C X.env) fp) tg (enc a) (asg a))
    (hi1 : ∀ a ∈ xs, ∀ (s : Shared) (H : Hp) (C : Addr) (cl : List (Str × Addr)) (fp : List Addr), IT (X.blk s H scope (compEnvC scope cl C X.env) fp) tg1 iter1 (setG (wipeG Γ (own.map (·.2))) (asg a)) ((ys a).map enc1))
    (hg1 : ∀ a ∈ xs, ∀ b ∈ ys a, ∀ (s : Shared) (H : Hp) (C : Addr) (cl : List (Str × Addr)) (fp : List Addr), G (X.blk s H scope (compEnvC scope cl C X.env) fp) tg1 (enc1 b) (asg1 b))
    (he : ∀ a ∈ xs, ∀ b ∈ ys a, ∀ (s : Shared) (H : Hp) (C : Addr) (cl : List (Str × Addr)) (fp : List Addr), E (X.blk s H scope (compEnvC scope cl C X.env) fp) elt (setG (wipeG (setG (wipeG Γ (own.map (·.2))) (asg a)) vs1) (asg1 b)) (f b))
    (hc : X.calm = true := by rfl) (hs : ∀ x, foldedSetIterable iter X.env x = pure x := by intro _; rfl) (hs1 : ∀ env x, foldedSetIterable iter1 env x = pure x := by intro _ _; rfl) :
    EF X (.ListComp elt [⟨tg, iter, [], 0⟩, ⟨tg1, iter1, [], 0⟩] scope pos) Γ ((xs.flatMap ys).map f) := by
  refine EF.mk (pe_lc2 (wi1 := fun σ H R => ∀ (s : Shared) (H0 : Hp) (C : Addr) (cl : List (Str × Addr)) (fp : List Addr), semI (X.blk s H0 scope (compEnvC scope cl C X.env) fp) tg1 iter1 σ H R) (g := blG X scope tg) (g1 := blG X scope tg1) (te := blE X scope elt) (tt := tYes) (tt1 := tYes) hc hN (pi_sem X) ok hv
    (fun s H0 C cl fp => ⟨fun pins st σ H v u Q I r h => h s H0 C cl fp pins st u I r⟩) (fun _ _ _ _ _ => pts_nil) (fun s H0 C cl fp => ⟨fun pins st σ H R I h => h s H0 C cl fp pins st I⟩)
    (fun s H0 C cl fp => ⟨fun pins st σ H v u Q I r h => h s H0 C cl fp pins st u I r⟩) (fun _ _ _ _ _ => pts_nil) (fun s H0 C cl fp => ⟨fun pins st σ H Q I h => h s H0 C cl fp pins st I⟩) hs hs1) ?_
  intro F σ H s Ee Q q
  refine hi F σ H s Ee _ fun J F1 H1 g1 wk => ?_
  intro Dn hDn
  have hF1 : F1 Dn = none := g1.s.free hDn
  refine ⟨fun i m H' => m = xs.length - i ∧ i ≤ xs.length ∧ ∃ F2 acc, Grow F1 H1 F2 H' ∧ F2 Dn = none ∧ H' Dn = some (.lst acc) ∧ DpAll X.K F2 acc (((xs.take i).flatMap ys).map f), ⟨xs.length, by simp, Nat.zero_le _, F1, [], Grow.heap g1.s (same_upd hDn), hF1, upd_same, .nil⟩, ?_⟩
  rintro i m H' ⟨rfl, hil, F2, acc, g2, hF2, hD, hacc⟩
  have hsl := sizeLine_eq
  by_cases hlt : i < xs.length
  · have ha : xs[i]? = some xs[i] := by simp [hlt]
    have hm : xs[i] ∈ xs := List.getElem_mem hlt
    generalize xs[i] = a at ha hm
    have htk : (xs.take (i + 1)).flatMap ys = (xs.take i).flatMap ys ++ ys a := by rw [take_snoc ha, List.flatMap_append]; simp
    have hall : ((xs.take i).flatMap ys).length + (ys a).length ≤ 100000 := by
      have e : xs.flatMap ys = (xs.take (i + 1)).flatMap ys ++ (xs.drop (i + 1)).flatMap ys := by rw [← List.flatMap_append, List.take_append_drop]
      rw [e, List.length_append, htk, List.length_append] at hz
      omega
    refine .inr ⟨wk.go i H' (by simpa using hlt) (g2.f.trans g2.s), fun H'' => ∃ F2 acc, Grow F1 H1 F2 H'' ∧ F2 Dn = none ∧ H'' Dn = some (.lst acc) ∧ DpAll X.K F2 acc (((xs.take (i + 1)).flatMap ys).map f), fun H'' p => ⟨xs.length - (i + 1), by omega, rfl, hlt, p⟩, fun x H'' y => ?_⟩
    obtain ⟨F3, g3, hx⟩ := wk.yld i H' x H'' (enc a) F2 (by rw [List.getElem?_map, ha]; rfl) g2.f g2.s y
    intro s0 H0 C0 cl0 fp0
    refine hg a hm s0 H0 C0 cl0 fp0 F3 _ H'' x g3.s hx _ fun vs hvs => ?_
    have hE : EnvD X.K F3 (setAll (L2.wipe σ (own.map (·.2))) vs) (setG (wipeG Γ (own.map (·.2))) (asg a)) := EnvD.setAll hvs ((Ee.mono ((g1.f.trans g2.f).trans g3.f)).wipe _)
    refine ⟨?_, ?_⟩
    · rw [wipe_setAll, wipe_wipe]
      intro q hq
      obtain ⟨p', hp', e⟩ := AsOk.mem hvs q hq
      rw [← e]
      exact hown _ hm p' hp'
    dsimp only [tYes]
    rw [if_pos rfl]
    intro s0 H0 C0 cl0 fp0
    refine hi1 a hm s0 H0 C0 cl0 fp0 F3 _ H'' g3.s hE _ fun J1 F4 H4 g4 wk1 => ?_
    have g34 := g3.trans g4
    refine ⟨fun j k H => k = (ys a).length - j ∧ j ≤ (ys a).length ∧ ∃ F5 acc, Grow F1 H1 F5 H ∧ Same F4 F5 ∧ F5 Dn = none ∧ H Dn = some (.lst acc) ∧ DpAll X.K F5 acc (((xs.take i).flatMap ys ++ (ys a).take j).map f),
      ⟨(ys a).length, by simp, Nat.zero_le _, F4, acc, g2.trans g34, Same.refl F4, g34.n _ hF2 (by rw [hD]; simp), g34.h _ _ hD, by simpa using dpA_mono g34.f hacc⟩, ?_⟩
    rintro j k H5 ⟨rfl, hjl, F5, acc5, g5, s5, hF5, hD5, hacc5⟩
    by_cases hjt : j < (ys a).length
    · have hb : (ys a)[j]? = some (ys a)[j] := by simp [hjt]
      have hbm : (ys a)[j] ∈ ys a := List.getElem_mem hjt
      generalize (ys a)[j] = b at hb hbm
      refine .inr ⟨wk1.go j H5 (by simpa using hjt) (s5.trans g5.s), fun H => ∃ F5 acc, Grow F1 H1 F5 H ∧ Same F4 F5 ∧ F5 Dn = none ∧ H Dn = some (.lst acc) ∧ DpAll X.K F5 acc (((xs.take i).flatMap ys ++ (ys a).take (j + 1)).map f), fun H p => ⟨(ys a).length - (j + 1), by omega, rfl, hjt, p⟩, fun x1 H6 y1 => ?_⟩
      obtain ⟨F6, g6, hx1⟩ := wk1.yld j H5 x1 H6 (enc1 b) F5 (by rw [List.getElem?_map, hb]; rfl) s5 g5.s y1
      intro s0 H0 C0 cl0 fp0
      refine hg1 a hm b hbm s0 H0 C0 cl0 fp0 F6 _ H6 x1 g6.s hx1 _ fun ws hws => ?_
      have hE1 : EnvD X.K F6 (setAll (L2.wipe (setAll (L2.wipe σ (own.map (·.2))) vs) vs1) ws) (setG (wipeG (setG (wipeG Γ (own.map (·.2))) (asg a)) vs1) (asg1 b)) := EnvD.setAll hws ((hE.mono ((g4.f.trans s5).trans g6.f)).wipe _)
      refine ⟨?_, ?_⟩
      · rw [wipe_setAll, wipe_wipe]
        intro q hq
        obtain ⟨p', hp', e⟩ := AsOk.mem hws q hq
        rw [← e]
        exact hown1 _ hm _ hbm p' hp'
      rw [if_pos rfl]
      intro s0 H0 C0 cl0 fp0
      refine he a hm b hbm s0 H0 C0 cl0 fp0 F6 _ H6 g6.s hE1 _ fun v F7 H7 g7 hv => ?_
      have gg := g6.trans g7
      have hF7 : F7 Dn = none := gg.n _ hF5 (by rw [hD5]; simp)
      have hlen : acc5.length < sizeLine := by
        have e := dpA_len hacc5
        rw [List.length_map, List.length_append, List.length_take] at e
        omega
      have g8 := g5.trans gg
      refine ⟨acc5, gg.h _ _ hD5, hlen, F7, acc5 ++ [v], ⟨g8.f, fun b o e => ?_, fun b o e => ?_, g8.n⟩, s5.trans gg.f, hF7, upd_same, ?_⟩
      · rw [upd_ne (ne_of_none e hDn)]; exact g8.h b o e
      · rw [upd_ne (ne_of_none e hF7)]; exact g8.s b o e
      · rw [take_snoc hb, ← List.append_assoc, List.map_append]
        exact dpA_snoc (dpA_mono gg.f hacc5) hv
    · have e : j = (ys a).length := by omega
      subst e
      refine .inl ⟨?_, F5, acc5, g5, hF5, hD5, ?_⟩
      · have := wk1.stop H5 (s5.trans g5.s)
        rwa [List.length_map] at this
      · rw [List.take_length] at hacc5
        rw [htk]; exact hacc5
  · have e : i = xs.length := by omega
    subst e
    refine .inl ⟨?_, ?_⟩
    · have := wk.stop H' (g2.f.trans g2.s)
      rwa [List.length_map] at this
    · rw [List.take_length] at hacc
      exact q Dn acc F2 H' (g1.trans g2) (g1.fresh hDn) hF2 hD hacc
end

/-! ### parts in order -/
def pOk (above : Nat → List Nat) (found : List (List Nat)) (p : List Nat) : Bool := decide ((above (p.getD 0 0)).filter (fun k => !decide (k ∈ found.flatten)) = [])
def ordLoop (above : Nat → List Nat) : Nat → List (List Nat) → List (List Nat) → Option (List (List Nat))
  | 0, _, _ => none
  | m + 1, left, found => if left = [] then some found else match left.find? (pOk above found) with | some p => ordLoop above m (left.filter fun q => !decide (q = p)) (found ++ [p]) | none => none
noncomputable def orderF (n : Nat) (ar : Arr) : List (List Nat) := (ordLoop (aboveF n ar) (n + 1) (partsF n ar) []).getD []
theorem exists_max {α : Type} (f : α → Nat) : ∀ {xs : List α}, xs ≠ [] → ∃ a ∈ xs, ∀ b ∈ xs, f b ≤ f a
  | [], h => absurd rfl h
  | [a], _ => ⟨a, by simp, by simp⟩
  | a :: b :: r, _ => by
    obtain ⟨c, hc, hm⟩ := exists_max f (xs := b :: r) (by simp)
    by_cases h : f c ≤ f a
    · exact ⟨a, by simp, fun d hd => by
        rcases List.mem_cons.mp hd with e | hd
        · subst e; exact Nat.le_refl _
        · exact Nat.le_trans (hm d hd) h⟩
    · exact ⟨c, List.mem_cons_of_mem _ hc, fun d hd => by
        rcases List.mem_cons.mp hd with e | hd
        · subst e; omega
        · exact hm d hd⟩
theorem filter_lt {α : Type} {p q : α → Bool} : ∀ {xs : List α}, (∀ x ∈ xs, p x = true → q x = true) → (∃ x ∈ xs, q x = true ∧ p x = false) → (xs.filter p).length < (xs.filter q).length
  | [], _, h => by obtain ⟨x, hx, _⟩ := h; simp at hx
  | a :: r, h, k => by
    have hle : ∀ {ys : List α}, (∀ x ∈ ys, p x = true → q x = true) → (ys.filter p).length ≤ (ys.filter q).length := fun {ys} => by
      induction ys with
      | nil => intro _; simp
      | cons b r ih =>
        intro hh
        have h1 := ih fun x hx => hh x (by simp [hx])
        have h2 := hh b (by simp)
        rw [List.filter_cons, List.filter_cons]
        cases e : p b with
        | true => rw [h2 e]; simp; exact h1
        | false => cases e2 : q b <;> simp <;> omega
    have h2 := h a (by simp)
    have h3 := hle (ys := r) fun x hx => h x (by simp [hx])
    rw [List.filter_cons, List.filter_cons]
    by_cases hex : ∃ x ∈ r, q x = true ∧ p x = false
    · have h1 := filter_lt (xs := r) (fun x hx => h x (by simp [hx])) hex
      cases e : p a with
      | true => rw [h2 e]; simp; exact h1
      | false => cases e2 : q a <;> simp <;> omega
    · obtain ⟨x, hx, q1, q2⟩ := k
      rcases List.mem_cons.mp hx with e | hx
      · subst e
        rw [q1, q2]
        simp
        omega
      · exact absurd ⟨x, hx, q1, q2⟩ hex
theorem mem_partOf {n : Nat} {ar : Arr} {k j : Nat} : j ∈ partOf n ar k ↔ j < n ∧ k < n ∧ Reach ar k j ∧ Reach ar j k := by
  simp only [partOf, List.mem_filter, mem_led, decide_eq_true_eq]
  constructor
  · rintro ⟨⟨a, b⟩, c, d⟩; exact ⟨a, c, b, d⟩
  · rintro ⟨a, c, b, d⟩; exact ⟨⟨a, b⟩, c, d⟩
theorem mem_above_iff {n : Nat} {ar : Arr} {p k : Nat} (hp : p < n) : k ∈ aboveF n ar p ↔ k < n ∧ Reach ar k p ∧ ¬ Reach ar p k := by
  simp only [aboveF, List.mem_filter, List.mem_range, mem_led, Bool.and_eq_true, decide_eq_true_eq, Bool.not_eq_true', decide_eq_false_iff_not]
  constructor
  · rintro ⟨a, ⟨_, b⟩, c⟩; exact ⟨a, b, fun d => c ⟨a, d⟩⟩
  · rintro ⟨a, b, c⟩; exact ⟨a, ⟨hp, b⟩, fun d => c d.2⟩
theorem getD_mem {p : List Nat} (h : p ≠ []) : p.getD 0 0 ∈ p := by
  cases p with
  | nil => exact absurd rfl h
  | cons a r => simp
theorem led_lt {n : Nat} {ar : Arr} {p q k : Nat} (h : ∀ x, Reach ar p x → Reach ar q x) (hk : k < n) (h1 : Reach ar q k) (h2 : ¬ Reach ar p k) : (led n ar p).length < (led n ar q).length := by
  unfold led
  refine filter_lt (fun x _ hx => ?_) ⟨k, List.mem_range.mpr hk, ?_, ?_⟩
  · exact (@decide_eq_true_iff _ (Classical.propDecidable _)).mpr (h x ((@decide_eq_true_iff _ (Classical.propDecidable _)).mp hx))
  · exact (@decide_eq_true_iff _ (Classical.propDecidable _)).mpr h1
  · exact (@decide_eq_false_iff_not _ (Classical.propDecidable _)).mpr h2
/-- some part has nothing above it that is not placed -/
theorem find_ok {n : Nat} {ar : Arr} {left found : List (List Nat)} (hne : left ≠ []) (hl : ∀ p ∈ left, p ∈ partsF n ar) (hc : ∀ p ∈ partsF n ar, p ∈ left ∨ p ∈ found) : ∃ p, left.find? (pOk (aboveF n ar) found) = some p := by
  obtain ⟨p, hp, hmax⟩ := exists_max (fun p => (led n ar (p.getD 0 0)).length) hne
  have hpo := parts_ok (hl p hp)
  have hp0 := getD_mem hpo.ne
  have hpn := hpo.lt _ hp0
  have ok : pOk (aboveF n ar) found p = true := by
    unfold pOk
    rw [decide_eq_true_eq, List.filter_eq_nil_iff]
    intro k hk
    obtain ⟨hkn, hkp, hpk⟩ := (mem_above_iff hpn).mp hk
    have hkk : k ∈ partOf n ar k := mem_partOf.mpr ⟨hkn, hkn, Reach.refl ar k, Reach.refl ar k⟩
    rcases hc _ (mem_parts.mpr ⟨k, hkn, rfl⟩) with hq | hq
    · exfalso
      have h1 := hmax _ hq
      have hq0 := getD_mem (List.ne_nil_of_mem hkk)
      obtain ⟨hqn, _, r1, r2⟩ := mem_partOf.mp hq0
      have : (led n ar (p.getD 0 0)).length < (led n ar ((partOf n ar k).getD 0 0)).length := by
        exact led_lt (fun x hx => (r2.trans hkp).trans hx) hkn r2 hpk
      omega
    · have : k ∈ found.flatten := List.mem_flatten.mpr ⟨_, hq, hkk⟩
      simp [this]
  cases e : left.find? (pOk (aboveF n ar) found) with
  | some p => exact ⟨p, rfl⟩
  | none => exact absurd ok (by have := List.find?_eq_none.mp e p hp; simpa using this)
theorem find_mem {α : Type} {f : α → Bool} {xs : List α} {a : α} (h : xs.find? f = some a) : a ∈ xs := List.mem_of_find?_eq_some h
theorem ord_some {n : Nat} {ar : Arr} : ∀ (m : Nat) (left found : List (List Nat)), left.length < m → (∀ p ∈ left, p ∈ partsF n ar) → (∀ p ∈ partsF n ar, p ∈ left ∨ p ∈ found) → (∀ p ∈ found, p ∈ partsF n ar) →
    ∃ out, ordLoop (aboveF n ar) m left found = some out ∧ (∀ p ∈ out, p ∈ partsF n ar) ∧ out.length ≤ found.length + left.length
  | 0, left, found, hm, _, _, _ => by omega
  | m + 1, left, found, hm, hl, hc, hf => by
    unfold ordLoop
    by_cases hne : left = []
    · rw [if_pos hne]; exact ⟨found, rfl, hf, by omega⟩
    · rw [if_neg hne]
      obtain ⟨p, hp⟩ := find_ok hne hl hc
      rw [hp]
      have hpm := find_mem hp
      have hlt : (left.filter fun q => !decide (q = p)).length < left.length := by
        have := filter_lt (p := fun q => !decide (q = p)) (q := fun _ => true) (xs := left) (fun _ _ _ => rfl) ⟨p, hpm, rfl, by simp⟩
        rwa [List.filter_eq_self.mpr fun _ _ => rfl] at this
      obtain ⟨out, h1, h2, h3⟩ := ord_some m (left.filter fun q => !decide (q = p)) (found ++ [p]) (by omega) (fun q hq => hl q (List.mem_filter.mp hq).1) (fun q hq => by
        rcases hc q hq with h | h
        · by_cases e : q = p
          · exact .inr (by simp [e])
          · exact .inl (List.mem_filter.mpr ⟨h, by simp [e]⟩)
        · exact .inr (by simp [h])) (fun q hq => by
        rcases List.mem_append.mp hq with h | h
        · exact hf q h
        · have : q = p := by simpa using h
          subst this; exact hl q hpm)
      refine ⟨out, h1, h2, ?_⟩
      rw [List.length_append] at h3
      simp only [List.length_singleton] at h3
      omega
theorem order_ok (n : Nat) (ar : Arr) : ordLoop (aboveF n ar) (n + 1) (partsF n ar) [] = some (orderF n ar) ∧ (∀ p ∈ orderF n ar, p ∈ partsF n ar) ∧ (orderF n ar).length ≤ n := by
  have hpl := parts_len n ar
  obtain ⟨out, h1, h2, h3⟩ := ord_some (n := n) (ar := ar) (n + 1) (partsF n ar) [] (by omega) (fun p h => h) (fun p h => .inl h) (by simp)
  have e : orderF n ar = out := by unfold orderF; rw [h1]; rfl
  rw [e]
  refine ⟨h1, h2, ?_⟩
  simp only [List.length_nil] at h3
  omega
theorem flat_len {n : Nat} : ∀ {ps : List (List Nat)}, (∀ p ∈ ps, p.length ≤ n) → ps.flatten.length ≤ ps.length * n
  | [], _ => by simp
  | p :: ps, h => by
    have h1 := h p (by simp)
    have h2 := flat_len (n := n) (ps := ps) fun q hq => h q (by simp [hq])
    rw [List.flatten_cons, List.length_append, List.length_cons, Nat.succ_mul]
    omega
section
variable {P : Program} {w : World} {K : PySem.W.Frag} {mg : Str → Option Value} {base : Heap}
abbrev s_in_order : Stmt := top 47
abbrev N_in_order : List Str := ["web", "left", "found", "part", "placed", "k", "one"]
theorem sc_in_order : FnScope N_in_order ["web"] (defScope s_in_order) := ⟨rfl, rfl, rfl, by decide +kernel, rfl, by decide +kernel, by decide +kernel⟩
def pre_in_order (ds : List PD) (d : PD) : Prop := ∃ n ar, ds = [dWeb n ar] ∧ WebOk n ar ∧ d = .list ((orderF n ar).map dTup)
abbrev In_order (P : Program) (w : World) (K : PySem.W.Frag) (mg : Str → Option Value) (base : Heap) : Prop := DefOk P w K mg base 4 "in_order" ["web"] (SpP K 1 pre_in_order)
theorem ok_in_order {f : Addr} {fd : FuncData} (F : Fun K "in_order" "in_order" s_in_order f fd) (hm : mg "in_order" = some (.ref f)) (b : Binds K fd ["web"] []) (B : Bt mg) (D : Parts_in P w K mg base) (D2 : Above_in P w K mg base) : In_order P w K mg base := by
  refine DefOk.make F hm b sc_in_order fun cdv A0 outer s H xk hr ds d hp hl => ?_
  obtain ⟨n, ar, rfl, ok, rfl⟩ := hp
  have hhi := ok.hi
  have hpl := parts_len n ar
  obtain ⟨ho, _, _⟩ := order_ok n ar
  refine Ss.to (S.par2 1 2 sc_in_order.nd (Src.v (E.call D hr (A.cons (E.v 0) A.nil) ⟨n, ar, rfl, ok, rfl⟩)) (Src.f (EF.lst A.nil)) rfl) ?_
  refine Ss.cons (M := fun Γ => ∃ s1 s2 s3, Γ = [.val (dWeb n ar), s1, .own ((orderF n ar).map dTup), s2, s3, .any, .any])
    (S.while_ PassesOwn.never (fun m Γ => ∃ left found s2 s3, ordLoop (aboveF n ar) m left found = some (orderF n ar) ∧ (∀ p ∈ left, p ∈ partsF n ar) ∧ (∀ p ∈ found, p ∈ partsF n ar) ∧ found.length + m ≤ n + 1 ∧ left.length ≤ n ∧ Γ = [.val (dWeb n ar), .val (.list (left.map dTup)), .own (found.map dTup), s2, s3, .any, .any])
      (n + 1) ⟨partsF n ar, [], _, _, ho, fun p h => h, by simp, by simp, hpl, rfl⟩ ?_) ?_
  · rintro m _ ⟨left, found, s2, s3, hol, hlp, hfp, hfm, hll, rfl⟩
    refine ⟨_, T.neD (Enc.list (Enc.tuple Enc.nat)) (hu64 hr) (x := left) (y := []) (E.v 1) (EF.ev (EF.lst A.nil)), fun h => ?_, fun h => ?_⟩
    · have h : left ≠ [] := by simpa using h
      cases m with
      | zero => cases hol
      | succ m =>
        unfold ordLoop at hol
        rw [if_neg h] at hol
        cases hfi : left.find? (pOk (aboveF n ar) found) with
        | none => rw [hfi] at hol; cases hol
        | some p =>
          rw [hfi] at hol
          simp only at hol
          have hpm := find_mem hfi
          have hfl : found.flatten.length ≤ 100 := by
            have := flat_len (n := n) (ps := found) fun q hq => (parts_ok (hfp q hq)).few
            have h2 : found.length * n ≤ 7 * 6 := Nat.mul_le_mul (by omega) hhi
            omega
          refine Ss.to (S.set 4 sc_in_order.nd (Src.cool (Src.fz (ds := found.flatten.map nat) (EF.is (EF.lc2 [("part", 3), ("k", 5)] [5] found (fun p => p) dTup nat nat (fun p => [(3, dTup p)]) (fun k => [(5, nat k)]) sc_in_order.nd
            (IT.list (E.v 2)) (blkOk_by (N := N_in_order) (sc := defScope s_in_order) (by decide +kernel)) (by simp) (by simp) (by simp) (by rw [List.flatMap_id']; omega)
            (fun p _ s H C cl fp => G.name 3 sc_in_order.nd) (fun p _ s H C cl fp => IT.tup (E.v 3)) (fun p _ k _ s H C cl fp => G.name 5 sc_in_order.nd) (fun p _ k _ s H C cl fp => E.v 5)) (by rw [List.flatMap_id'])) (by rw [List.all_map, List.all_eq_true]; intro x _; rfl))) rfl) ?_
          refine Ss.one (S.for_ PassesOwn.never (IT.list (E.v 1)) (fun i Γ => (∀ j q, j < i → left[j]? = some q → pOk (aboveF n ar) found q = false) ∧ ∃ s2, Γ = [.val (dWeb n ar), .val (.list (left.map dTup)), .own (found.map dTup), s2, .val (dLst found.flatten), .any, .any]) ⟨fun j q hj => absurd hj (Nat.not_lt_zero _), _, rfl⟩ ?_ ?_)
          · rintro i d _ hdi ⟨hno, t2, rfl⟩
            obtain ⟨q, hq, rfl⟩ := map_get hdi
            have hqm := get_mem hq
            have hqo := parts_ok (hlp q hqm)
            have hq0 : q[0]? = some (q.getD 0 0) := by
              cases q with
              | nil => exact absurd rfl hqo.ne
              | cons a r => rfl
            have hqn := hqo.lt _ (get_mem hq0)
            refine ⟨_, G.name 3 sc_in_order.nd, ?_⟩
            refine Ss.one (S.ite (T.is (T.eqD (Enc.list Enc.nat) (hu64 hr) (x := (aboveF n ar (q.getD 0 0)).filter fun k => !decide (k ∈ found.flatten)) (y := [])
              (EF.ev (EF.lcOf (LC.mk' [("k", 5)] (aboveF n ar (q.getD 0 0)) nat (fun k => !decide (k ∈ found.flatten)) nat (fun k => [(5, nat k)])
                (IT.list (E.call D2 hr (A.cons (E.v 0) (A.cons (E.ixT (E.v 3) (E.nat 0) (by rw [List.getElem?_map, hq0]; rfl)) A.nil)) ⟨n, ar, q.getD 0 0, rfl, ok, hqn, rfl⟩))
                (blkOk_by (N := N_in_order) (sc := defScope s_in_order) (by decide +kernel)) (by simp) (by have := above_len n ar (q.getD 0 0); omega)
                (fun k _ s H C cl fp => G.name 5 sc_in_order.nd) (fun k _ s H C cl fp => Ts.one (T.niL Enc.nat (hu65 hr) (x := k) (xs := found.flatten) (E.v 5) (E.v 4))) (fun k _ _ s H C cl fp => E.v 5)) sc_in_order.nd))
              (EF.ev (EF.lst A.nil))) (show _ = pOk (aboveF n ar) found q from rfl)) (fun hy => ?_) fun hy => ?_)
            · have hqp : q = p := by
                obtain ⟨hpok, as, bs, e1, e2⟩ := List.find?_eq_some_iff_append.mp hfi
                have hplace : left[as.length]? = some p := by rw [e1]; simp
                by_cases hi1 : as.length < i
                · have := hno _ p hi1 hplace
                  rw [hpok] at this; cases this
                · by_cases hi2 : i < as.length
                  · have hqa : as[i]? = some q := by
                      have e3 := hq
                      rw [e1, List.getElem?_append_left hi2] at e3
                      exact e3
                    have := e2 q (get_mem hqa)
                    rw [hy] at this; cases this
                  · have hi3 : i = as.length := by omega
                    subst hi3
                    rw [hplace] at hq
                    exact (Option.some.inj hq).symm
              subst hqp
              refine Ss.to (S.app 2 (ds := found.map dTup) rfl (Src.v (E.v 3)) (by rw [List.length_map]; omega) rfl) ?_
              refine Ss.to (S.asgLcV 1 sc_in_order.nd (LC.mk' [("one", 6)] left dTup (fun x => !decide (x = q)) dTup (fun x => [(6, dTup x)]) (IT.list (E.v 1)) (blkOk_by (N := N_in_order) (sc := defScope s_in_order) (by decide +kernel)) (by simp) (by omega)
                (fun x _ s H C cl fp => G.name 6 sc_in_order.nd) (fun x _ s H C cl fp => Ts.one (T.neD (Enc.tuple Enc.nat) (hu64 hr) (x := x) (y := q) (E.v 6) (E.v 3))) (fun x _ _ s H C cl fp => E.v 6)) rfl) ?_
              refine Ss.one (S.brk ?_)
              refine ⟨m, Nat.lt_succ_self _, left.filter (fun x => !decide (x = q)), found ++ [q], .val (dTup q), .val (dLst found.flatten), hol, fun x hx => hlp x (List.mem_filter.mp hx).1, fun x hx => ?_, ?_, Nat.le_trans (List.length_filter_le _ _) hll, ?_⟩
              · rcases List.mem_append.mp hx with h1 | h1
                · exact hfp x h1
                · have : x = q := by simpa using h1
                  subst this; exact hlp x hqm
              · rw [List.length_append]; simp only [List.length_singleton]; omega
              · rw [List.map_append]; rfl
            · refine Ss.nil ⟨fun j x hj hx => ?_, _, rfl⟩
              by_cases e : j = i
              · subst e
                rw [hq] at hx
                cases hx
                exact hy
              · exact hno j x (by omega) hx
          · rintro _ ⟨hno, t2, rfl⟩
            exfalso
            obtain ⟨i, hi, e⟩ := List.getElem_of_mem hpm
            have := hno i p (by rw [List.length_map]; exact hi) (by rw [List.getElem?_eq_getElem hi, e])
            rw [List.find?_some hfi] at this
            cases this
    · have h : left = [] := by simpa using h
      cases m with
      | zero => cases hol
      | succ m =>
        unfold ordLoop at hol
        rw [if_pos h] at hol
        cases hol
        exact ⟨_, _, _, rfl⟩
  · rintro _ ⟨s1, s2, s3, rfl⟩
    exact Ss.one (S.retFr (E.v 2) rfl)
end
end Ck

set_option Elab.async false
set_option linter.all false
set_option maxRecDepth 100000
/-! Dicts whose keys are nested tuples of ints. -/
namespace Ck
open PySem PySem.Spec PyProof.Rows L2

abbrev Kt := List Nat × Nat
@[reducible] def dKey (k : Kt) : PD := .tuple [.tuple (k.1.map nat), nat k.2]
def nkey (k : Kt) : NestedKey := .tup [.tup (k.1.map fun (n : Nat) => .num (n : Int)), .num (k.2 : Int)]
theorem nums_inj : ∀ {a b : List Nat}, (a.map fun (n : Nat) => NestedKey.num (n : Int)) = (b.map fun (n : Nat) => NestedKey.num (n : Int)) → a = b
  | [], [], _ => rfl
  | x :: a, y :: b, h => by
    simp only [List.map_cons, List.cons.injEq, NestedKey.num.injEq] at h
    rw [nums_inj h.2, show x = y by omega]
  | [], _ :: _, h => by simp at h
  | _ :: _, [], h => by simp at h
theorem nkey_inj {a b : Kt} (h : nkey a = nkey b) : a = b := by
  obtain ⟨a1, a2⟩ := a; obtain ⟨b1, b2⟩ := b
  simp only [nkey, NestedKey.tup.injEq, List.cons.injEq, NestedKey.num.injEq, and_true] at h
  rw [nums_inj h.1, show a2 = b2 by omega]
theorem nums_depth : ∀ a : List Nat, NestedKey.depthAll (a.map fun (n : Nat) => NestedKey.num (n : Int)) = 0
  | [] => by simp [NestedKey.depthAll]
  | x :: a => by simp only [List.map_cons, NestedKey.depthAll, NestedKey.depth]; rw [nums_depth a]; rfl
theorem nkey_depth (k : Kt) : (nkey k).depth ≤ 8 := by
  simp only [nkey, NestedKey.depth, NestedKey.depthAll]
  rw [nums_depth]
  decide
def lookK (kvs : List (Kt × Nat)) (k : Kt) : Option Nat := (kvs.find? fun p => decide (p.1 = k)).map (·.2)
def setK (kvs : List (Kt × Nat)) (k : Kt) (v : Nat) : List (Kt × Nat) := if (lookK kvs k).isSome then kvs.map (fun p => if p.1 = k then (p.1, v) else p) else kvs ++ [(k, v)]
theorem lookK_cons (p : Kt × Nat) (kvs : List (Kt × Nat)) (k : Kt) : lookK (p :: kvs) k = if p.1 = k then some p.2 else lookK kvs k := by
  unfold lookK
  rw [List.find?_cons]
  by_cases h : p.1 = k <;> simp [h]
theorem setK_len (kvs : List (Kt × Nat)) (k : Kt) (v : Nat) : (setK kvs k v).length ≤ kvs.length + 1 := by
  unfold setK; split <;> simp

def HOx (d : Addr) (o : Obj) : HO := .ext fun h => h.get? d = some o
theorem okx {P : Program} {w : World} {H : Hp} {h : Heap} {d : Addr} {o : Obj} (e : h.get? d = some o) : ObjOk P w H h d (HOx d o) := ⟨e, ⟨o, e⟩, fun _ _ q k => k o q⟩
abbrev Xe := NestedKey × Addr × Value
def XeOk (K : PySem.W.Frag) (F : Hp) (x : Xe) (kv : Kt × Nat) : Prop := x.1 = nkey kv.1 ∧ Dp K F (.ref x.2.1) (dKey kv.1) ∧ ∃ t, x.2.2 = .int (kv.2 : Int) t
structure DictX (P : Program) (w : World) (K : PySem.W.Frag) (F : Hp) (d : Addr) (o : Obj) (kvs : List (Kt × Nat)) : Prop where
  ex : ∃ (xs : List Xe) (es : Array DictEntry) (ep : Nat), o.ExactDict ∧ o.data = .dict es ep ∧ es.toList = xs.map (entryOfKey (nestedKind P w)) ∧ (xs.map (·.1)).Nodup ∧ Paired (XeOk K F) xs kvs
  sys : (d == sysModules) = false
section
variable {P : Program} {w : World} {K : PySem.W.Frag} {F F' H : Hp} {d : Addr} {o : Obj} {kvs : List (Kt × Nat)}
theorem DictX.mono (h : DictX P w K F d o kvs) (e : Same F F') : DictX P w K F' d o kvs := by
  obtain ⟨xs, es, ep, a, b, c, n, p⟩ := h.ex
  exact ⟨⟨xs, es, ep, a, b, c, n, Paired.mapP p fun _ _ q => ⟨q.1, dp_mono e q.2.1, q.2.2⟩⟩, h.sys⟩
theorem DictX.exact (h : DictX P w K F d o kvs) : o.ExactDict := let ⟨_, _, _, a, _⟩ := h.ex; a
def emptyO : Obj := { cls := .type "dict", data := .dict #[] }
theorem DictX.empty (hs : (d == sysModules) = false) : DictX P w K F d emptyO [] := ⟨⟨[], #[], 0, ⟨rfl, rfl, rfl⟩, rfl, rfl, List.nodup_nil, .nil⟩, hs⟩
theorem paired_len {α β : Type} {R : α → β → Prop} : ∀ {a : List α} {b : List β}, Paired R a b → a.length = b.length
  | _, _, .nil => rfl
  | _, _, .cons _ h => by simp [paired_len h]
theorem xe_at {k : Kt} : ∀ {xs : List Xe} {kvs : List (Kt × Nat)}, Paired (XeOk K F) xs kvs → (∀ v, lookK kvs k = some v → ∃ a t, atKey xs (nkey k) = some (a, .int (v : Int) t)) ∧ (lookK kvs k = none → atKey xs (nkey k) = none)
  | _, _, .nil => ⟨fun v h => by simp [lookK] at h, fun _ => rfl⟩
  | _, _, .cons (a := x) (b := kv) h hs => by
    obtain ⟨ih1, ih2⟩ := xe_at (k := k) hs
    rw [lookK_cons]
    have hk : (x.1 = nkey k) ↔ kv.1 = k := by rw [h.1]; exact ⟨nkey_inj, fun e => by rw [e]⟩
    obtain ⟨x1, x2, x3⟩ := x
    simp only at hk
    unfold atKey
    rw [List.find?_cons]
    by_cases e : kv.1 = k
    · rw [if_pos e]
      have : decide (x1 = nkey k) = true := decide_eq_true (hk.mpr e)
      rw [this]
      obtain ⟨t, ht⟩ := h.2.2
      simp only at ht
      exact ⟨fun v hv => ⟨x2, t, by cases hv; rw [ht]; rfl⟩, fun hv => by cases hv⟩
    · rw [if_neg e]
      have : decide (x1 = nkey k) = false := decide_eq_false fun q => e (hk.mp q)
      rw [this]
      exact ⟨ih1, ih2⟩
theorem xe_put {k : Kt} {v : Nat} {t : Tok} : ∀ {xs : List Xe} {kvs : List (Kt × Nat)}, Paired (XeOk K F) xs kvs → Paired (XeOk K F) (xs.map (putAt (nkey k) (.int (v : Int) t))) (kvs.map fun p => if p.1 = k then (p.1, v) else p)
  | _, _, .nil => .nil
  | _, _, .cons (a := x) (b := kv) h hs => by
    refine .cons ?_ (xe_put hs)
    obtain ⟨x1, x2, x3⟩ := x
    have hk : (x1 = nkey k) ↔ kv.1 = k := by rw [show x1 = nkey kv.1 from h.1]; exact ⟨nkey_inj, fun e => by rw [e]⟩
    show XeOk K F (if x1 = nkey k then (x1, x2, .int (v : Int) t) else (x1, x2, x3)) (if kv.1 = k then (kv.1, v) else kv)
    by_cases e : kv.1 = k
    · rw [if_pos e, if_pos (hk.mpr e)]; exact ⟨h.1, h.2.1, t, rfl⟩
    · rw [if_neg e, if_neg fun q => e (hk.mp q)]; exact h
theorem xe_set {k : Kt} {v : Nat} {t : Tok} {a : Addr} {xs : List Xe} (h : Paired (XeOk K F) xs kvs) (ha : Dp K F (.ref a) (dKey k)) : Paired (XeOk K F) (storedH xs (nkey k) a (.int (v : Int) t)) (setK kvs k v) := by
  obtain ⟨h1, h2⟩ := xe_at (k := k) h
  unfold storedH setK
  cases e : lookK kvs k with
  | none =>
    rw [h2 e]
    exact paired_app h (.cons ⟨rfl, ha, t, rfl⟩ .nil)
  | some n =>
    obtain ⟨b, t', e'⟩ := h1 n e
    rw [e']
    exact xe_put h
end
section
variable {X : Cx} {pins : List (Addr × Obj)} {σ : L2.St} {F H : Hp} {s : Shared} {d a : Addr} {o : Obj} {kvs : List (Kt × Nat)} {k : Kt}
theorem nis_nums : ∀ {ns : List Nat} {us : List Value}, Vals (ns.map fun (n : Nat) => V.int (n : Int)) us → ∀ h : Heap, NestedAll h (ns.map fun (n : Nat) => NestedKey.num (n : Int)) us
  | [], _, .nil, h => .nil
  | n :: ns, _, .cons r rs, h => by
    obtain ⟨t, rfl⟩ := r
    exact .cons (.int _ _) (nis_nums rs h)
theorem nis_of (I : Inv X pins σ H s) (h : Dp X.K H (.ref a) (dKey k)) : (nestedKind X.prog X.w).is s.heap (nkey k) a := by
  refine ⟨?_, nkey_depth k⟩
  obtain ⟨a', xs, e, hx, hd⟩ := dp_tup h
  cases e
  cases hd with
  | cons h1 hd =>
    cases hd with
    | cons h2 hd =>
      cases hd
      obtain ⟨b, ys, rfl, hy, hd2⟩ := dp_tup h1
      rw [dp_int h2] at hx
      have e1 : k.1.map nat = (k.1.map fun (n : Nat) => (n : Int)).map PyData.int := by simp
      rw [e1] at hd2
      have e2 := dpA_ints.mp hd2
      rw [List.map_map] at e2
      subst e2
      obtain ⟨its, rv, p, hz⟩ := I.tuple hx
      obtain ⟨its2, rv2, p2, hz2⟩ := I.tuple hy
      cases rv with
      | cons r1 rv =>
        cases rv with
        | cons r2 rv =>
          cases rv
          cases r1
          obtain ⟨t, rfl⟩ := r2
          obtain ⟨oo, q1, q2, n, q3⟩ := p
          obtain ⟨oo2, z1, z2, n2, z3⟩ := p2
          exact .tup q1 q2 q3 (.cons (.tup z1 z2 z3 (nis_nums rv2 _)) (.cons (.int _ _) .nil))
theorem objx (I : Inv X pins σ H s) (hH : H d = some (HOx d o)) : s.heap.get? d = some o := (I.hok d _ hH).1
theorem dofh (I : Inv X pins σ H s) (hH : H d = some (HOx d o)) (sF : Same F H) (hx : DictX X.prog X.w X.K F d o kvs) : ∃ xs, s.heap.DictOfH (nestedKind X.prog X.w) d xs ∧ Paired (XeOk X.K F) xs kvs := by
  obtain ⟨xs, es, ep, a1, a2, a3, a4, a5⟩ := hx.ex
  refine ⟨xs, ⟨o, es, ep, objx I hH, a1, a2, a3, fun x hm => ?_, a4⟩, a5⟩
  obtain ⟨i, hi, e⟩ := List.getElem_of_mem hm
  have : ∀ {xs : List Xe} {kvs : List (Kt × Nat)}, Paired (XeOk X.K F) xs kvs → ∀ x ∈ xs, ∃ kv, XeOk X.K F x kv := fun {xs kvs} p => by
    induction p with
    | nil => intro x hx; cases hx
    | cons h _ ih =>
      intro x hx
      rcases List.mem_cons.mp hx with e | hx
      · subst e; exact ⟨_, h⟩
      · exact ih x hx
  obtain ⟨kv, q⟩ := this a5 x hm
  rw [q.1]
  exact nis_of I (dp_mono sF q.2.1)
end

/-! ### rules by values -/
section
variable {X : Cx} {e f g i ee : Expr} {te tf ti : TE} {pos apos cpos : Pos} {n : Nat}
theorem pe_xnew : PE X (.Dict [] [] pos) (fun _ H Q => ∀ d, H d = none → (d == sysModules) = false → Q (.ref d) (upd H d (HOx d emptyO))) := ⟨fun pins s σ H Q I h =>
  wpAny_Dict_empty ⟨.ref s.heap.objs.size, _, I.laid (a := s.heap.objs.size) (o := HOx s.heap.objs.size emptyO) (t' := s.toks) (fun _ _ q => Heap.get?_push_of_some _ q) (Nat.le_refl _) (okx (Heap.get?_push_size _ rfl)), rfl,
    h _ (I.hok.fresh (Nat.le_refl _)) (beq_eq_false_iff_ne.mpr (Ne.symm (Nat.ne_of_lt I.big)))⟩⟩
def tXGet (P : Program) (w : World) (K : PySem.W.Frag) (to te tf : TE) : TE := fun σ H Q => to σ H fun x H1 => ∃ d o, x = .ref d ∧ H1 d = some (HOx d o) ∧ o.ExactDict ∧ te σ H1 fun y H2 => tf σ H2 fun z H3 => ∃ F kvs k a, y = .ref a ∧ H3 d = some (HOx d o) ∧ Same F H3 ∧ DictX P w K F d o kvs ∧ Dp K F (.ref a) (dKey k) ∧ Q (match lookK kvs k with | some v => .int (v : Int) | none => z) H3
theorem pe_xget2 {td : TE} (hu : X.A.units + 64 < cLine) (ho : PE X ee td) (he : PE X e te) (hf : PE X f tf) (m : M2 X ee "get" apos e f cpos) : PE X (.Call (.Attribute ee "get" apos) [e, f] [] cpos) (tXGet X.prog X.w X.K td te tf) := by
  refine ⟨fun pins s σ H Q I h => ?_⟩
  refine wpAny_Call_method m.base m.few m.line PySem.F.plainAttrs_dict PySem.F.slot_dict_get PySem.F.type_dict_get (thn (ho.run pins s σ H _ I h) fun u s1 ⟨x, H1, I1, rx, d, o, ex, hd, hex, q1⟩ => ?_)
  subst ex
  obtain rfl : u = Value.ref d := rx
  refine ⟨⟨o, objx I1 hd, hex.1⟩, fun b q => by cases q; exact ⟨o, objx I1 hd, hex.2.1⟩, ?_⟩
  rw [m.trees]
  refine Calls.callWith_builtin rfl (Calls.evalArgs_plain (Calls.spliced_cons (thn (he.run pins s1 σ H1 _ I1 q1) fun iv s2 ⟨y, H2, I2, ry, q2⟩ =>
    Calls.spliced_cons (thn (hf.run pins s2 σ H2 _ I2 q2) fun fv s3 ⟨z, H3, I3, rz, F, kvs, k, a, ey, hd3, sF, dx, hk, q3⟩ => Calls.spliced_nil ?_))))
  subst ey
  obtain rfl : iv = Value.ref a := ry
  obtain ⟨xs, dh, px⟩ := dofh I3 hd3 sF dx
  refine getOr_keyed (knd := nestedKind X.prog X.w) (kvs := pairsH xs) (by show X.A.units + 1 + 8 < cLine; omega) (nis_of I3 (dp_mono sF hk)) dx.sys ⟨xs, dh, rfl⟩ ?_
  obtain ⟨h1, h2⟩ := xe_at (k := k) px
  rw [valueAt_pairsH]
  cases e : lookK kvs k with
  | none =>
    rw [e] at q3
    rw [h2 e]
    exact ⟨z, H3, I3.tok _, rz, q3⟩
  | some v =>
    rw [e] at q3
    obtain ⟨b, t, e'⟩ := h1 v e
    rw [e']
    exact ⟨.int (v : Int), H3, I3.tok _, ⟨t, rfl⟩, q3⟩
def tXIx (P : Program) (w : World) (K : PySem.W.Frag) (to ti : TE) : TE := fun σ H Q => to σ H fun x H1 => ti σ H1 fun y H2 => ∃ F d o kvs k v a, x = .ref d ∧ y = .ref a ∧ H2 d = some (HOx d o) ∧ Same F H2 ∧ DictX P w K F d o kvs ∧ Dp K F (.ref a) (dKey k) ∧ lookK kvs k = some v ∧ Q (.int (v : Int)) H2
theorem pe_xget {td : TE} (hu : X.A.units + 64 < cLine) (ho : PE X ee td) (hi : PE X i ti) (hs : NoSl i) : PE X (.Subscript ee i pos) (tXIx X.prog X.w X.K td ti) := by
  refine ⟨fun pins s σ H Q I h => ?_⟩
  refine subD_of PySem.F.slot_dict_getitem.lookup hs (thn (ho.run pins s σ H _ I h) fun u s1 ⟨x, H1, I1, rx, q1⟩ => thn (hi.run pins s1 σ H1 _ I1 q1) fun iv s2 ⟨y, H2, I2, ry, F, d, o, kvs, k, v, a, ex, ey, hd, sF, dx, hk, hl, q2⟩ => ?_)
  subst ex ey
  obtain rfl : u = Value.ref d := rx
  obtain rfl : iv = Value.ref a := ry
  obtain ⟨xs, dh, px⟩ := dofh I2 hd sF dx
  obtain ⟨b, t, e'⟩ := (xe_at (k := k) px).1 v hl
  refine ⟨⟨o, objx I2 hd, dx.exact.1⟩, getItem_keyed (knd := nestedKind X.prog X.w) (kvs := pairsH xs) (v := .int (v : Int) t) (by show X.A.units + 1 + 8 < cLine; omega) (nis_of I2 (dp_mono sF hk)) ⟨xs, dh, rfl⟩ (by rw [valueAt_pairsH, e']; rfl) ⟨.int (v : Int), H2, I2.tok _, ⟨t, rfl⟩, q2⟩⟩
def rXSet (P : Program) (w : World) (K : PySem.W.Frag) : TSet := fun x i v H Q => ∃ F d o kvs k n a, x = .ref d ∧ i = .ref a ∧ v = .int ((n : Nat) : Int) ∧ H d = some (HOx d o) ∧ Same F H ∧ F d = none ∧ DictX P w K F d o kvs ∧ Dp K F (.ref a) (dKey k) ∧ kvs.length < sizeLine ∧ ∀ o', DictX P w K F d o' (setK kvs k n) → Q (upd H d (HOx d o'))
theorem set_xdict (hu : X.A.units + 64 < cLine) : PSet X (rXSet X.prog X.w X.K) := by
  intro pins s σ H x i v ov iv u Q I ro ri rv h
  obtain ⟨F, d, o, kvs, k, n, a, rfl, rfl, rfl, hd, sF, hFd, dx, hk, hz, q⟩ := h
  cases ro
  cases ri
  obtain ⟨t, rfl⟩ := rv
  obtain ⟨xs, dh, px⟩ := dofh I hd sF dx
  refine wpAny_setItem_heap (knd := nestedKind X.prog X.w) (hsz := by rw [paired_len px]; omega) (by show X.A.units + 1 + 8 < cLine; omega) (nis_of I (dp_mono sF hk)) dh fun h' dh' hs => ?_
  obtain ⟨o', es, ep, b1, b2, b3, b4, b5, b6⟩ := dh'
  exact ⟨_, d_write I (by rw [hd]; exact True.intro) hs ⟨o', b1⟩ (okx b1), q o' ⟨⟨_, es, ep, b2, b3, b4, b6, xe_set px hk⟩, dx.sys⟩⟩
/-- {k: v} -/
def tXOne (P : Program) (w : World) (K : PySem.W.Frag) (tk tv : TE) : TE := fun σ H Q => ∀ d, H d = none → (d == sysModules) = false → tk σ (upd H d (HOx d emptyO)) fun x H1 => tv σ H1 fun y H2 => ∃ F a k n, x = .ref a ∧ y = .int ((n : Nat) : Int) ∧ H2 d = some (HOx d emptyO) ∧ Same F H2 ∧ F d = none ∧ Dp K F (.ref a) (dKey k) ∧ ∀ o, DictX P w K F d o [(k, n)] → Q (.ref d) (upd H2 d (HOx d o))
theorem pe_xone (hu : X.A.units + 64 < cLine) (he : PE X e te) (hf : PE X f tf) : PE X (.Dict [some e] [f] pos) (tXOne X.prog X.w X.K te tf) := by
  refine ⟨fun pins s σ H Q I h => ?_⟩
  have hsys : (s.heap.objs.size == sysModules) = false := beq_eq_false_iff_ne.mpr (Ne.symm (Nat.ne_of_lt I.big))
  have h1 := h s.heap.objs.size (I.hok.fresh (Nat.le_refl _)) hsys
  have I1 := I.laid (a := s.heap.objs.size) (o := HOx s.heap.objs.size emptyO) (h' := s.heap.push emptyO) (t' := s.toks) (fun _ _ q => Heap.get?_push_of_some _ q) (Nat.le_refl _) (okx (Heap.get?_push_size _ rfl))
  rw [arm_eval_Dict, zip_pairTrees [some e] [f] X.env pos rfl rfl, dictDisplay_pairs (pairTrees [some e] [f] X.env pos) (by intro z; have := pairTrees_length [some e] [f] X.env pos rfl rfl; rw [z] at this; cases this) (by rw [pairTrees_length [some e] [f] X.env pos rfl rfl]; show 1 < 17; decide)]
  refine wpAny_bind (wpAny_standAt (wpAny_bind (wpAny_subDictH (knd := nestedKind X.prog X.w) (Q := fun d s' => wpAny (model X.prog X.w) X.A (pure (Value.ref d)) (EP X pins σ Q) X.xe s') (by show X.A.units + 8 < cLine; omega) (by rw [pairTrees_length [some e] [f] X.env pos rfl rfl]; show 1 ≤ 15; decide) ?_)))
  refine thn ((pps_cons (pos := pos) he hf pps_nil).run pins _ σ _ (fun ps H' => ∃ x y, ps = [(x, y)] ∧ ∃ F a k n, x = .ref a ∧ y = .int ((n : Nat) : Int) ∧ H' s.heap.objs.size = some (HOx s.heap.objs.size emptyO) ∧ Same F H' ∧ F s.heap.objs.size = none ∧ Dp X.K F (.ref a) (dKey k) ∧ ∀ o, DictX X.prog X.w X.K F s.heap.objs.size o [(k, n)] → Q (.ref s.heap.objs.size) (upd H' s.heap.objs.size (HOx s.heap.objs.size o))) I1 ?_) fun vs s2 hq => ?_
  · show te σ _ fun x H1 => tf σ H1 fun y H2 => _
    revert h1
    exact fun h1 => by
      have := h1
      exact (show te σ (upd H s.heap.objs.size (HOx s.heap.objs.size emptyO)) fun x H1 => tf σ H1 fun y H2 => ∃ x' y', [(x, y)] = [(x', y')] ∧ _ from by
        refine cast ?_ this
        congr 1
        funext x H1
        congr 1
        funext y H2
        apply propext
        constructor
        · intro z; exact ⟨x, y, rfl, z⟩
        · rintro ⟨x', y', e, z⟩; cases e; exact z)
  · obtain ⟨ps, H2, I2, rel, x, y, rfl, F, a, k, n, rfl, rfl, hd, sF, hFd, hk, q⟩ := hq
    cases rel with
    | cons r rs =>
      cases rs
      rename_i b
      obtain ⟨b1, b2⟩ := b
      obtain ⟨r1, r2⟩ := r
      have e1 : b1 = Value.ref a := r1
      obtain ⟨t, e2⟩ := (show ∃ t, b2 = Value.int (n : Int) t from r2)
      subst e1 e2
      have o1 := objx I2 hd
      refine ⟨[(nkey k, a, .int (n : Int) t)], ⟨rfl, rfl, nis_of I2 (dp_mono sF hk), trivial⟩, ⟨_, #[], 0, o1, ⟨rfl, rfl, rfl⟩, rfl, rfl, fun _ hx => by simp at hx, List.nodup_nil⟩, fun h' tk dh hs => ?_⟩
      obtain ⟨o', es, ep, c1, c2, c3, c4, c5, c6⟩ := dh
      exact wpAny_pure ⟨.ref s.heap.objs.size, _, d_write I2 (by rw [hd]; exact True.intro) hs ⟨o', c1⟩ (okx c1), rfl, q o' ⟨⟨_, es, ep, c2, c3, c4, c6, .cons ⟨rfl, hk, t, rfl⟩ .nil⟩, hsys⟩⟩
end
end Ck

set_option Elab.async false
set_option linter.all false
set_option maxRecDepth 100000
/-! Dicts in statements: walked by keys, added to, summed. -/
namespace Ck
open PySem PySem.Spec PyProof.Rows L2

/-! ### for .. in d.keys() -/
def Itx (d : Addr) (o : Obj) (es : Array DictEntry) : It := ⟨fun i H => H d = some (HOx d o) ∧ i < es.size, fun i H x H' => H' = H ∧ ∃ b, (es[i]?).map (·.key) = some (.ref b) ∧ x = .ref b, fun i H => H d = some (HOx d o) ∧ es.size ≤ i⟩
theorem turn_xkeys {P : Program} {w : World} {K : PySem.W.Frag} {tg : Expr} {d : Addr} {o : Obj} {es : Array DictEntry} {ep : Nat} (it : Addr) (hex : o.ExactDict) (hod : o.data = .dict es ep) (hk : ∀ i (hi : i < es.size), ∃ b, es[i].key = .ref b) :
    Turn P w K tg (Itx d o es) [it] it (fun i h => h.IsKeyIter it d i es.size ep) where
  mem := by simp
  obj := fun i h st b hb => by
    have e : b = it := by simpa using hb
    subst e
    obtain ⟨oi, e, c, dd⟩ := st
    exact ⟨oi, e, fun v z => by rw [dd] at z; cases z⟩
  keep := fun i h h' st k => st.at fun oi e => k it (by simp) oi e
  item := by
    intro X hP hw hK hc i pins s σ H E I hf st hg
    subst hP hw hK
    obtain ⟨hd, hi⟩ := hg
    obtain ⟨f0, f1, f2, f3, f4, f5⟩ := hf it (by simp)
    obtain ⟨b, hb⟩ := hk i hi
    refine wpAny_pyNext_keys_item_raw st ⟨o, objx I hd, hex, hod⟩ hi fun h' st' sb => ?_
    have I1 : Inv X pins σ H { s with heap := h' } := I.turned (t' := s.toks) (fun b ob hb e => (sb.2 b hb).trans e) f0 f1 f3 f4 f5
    obtain ⟨oi, e, c, dd⟩ := id st'
    exact ⟨es[i].key, rfl, go_of (s := { s with heap := h' }) e c dd (by decide) ⟨.ref b, H, I1, hb, ⟨rfl, b, by rw [Array.getElem?_eq_getElem hi, Option.map_some, hb], rfl⟩, st', fun b hb => (hf b hb).1⟩⟩
  done := by
    intro X hP hw hK hc i pins s σ H E I hf st hg
    subst hP hw hK
    obtain ⟨hd, hi⟩ := hg
    obtain ⟨f0, f1, f2, f3, f4, f5⟩ := hf it (by simp)
    exact wpAny_pyNext_keys_end_raw (I.ok.hd hc) st ⟨o, objx I hd, hex, hod⟩ hi fun h' eb => ⟨rfl, I.turned (t' := s.toks) (fun b o hb e => eb b o hb e) f0 f1 f3 f4 f5⟩
  self := fun A i s Q E st h => by
    refine wpAny_pyIter_slot st.typeIs F.slot_dict_keyiterator_iter (wpAny_call_entry F.slot_dict_keyiterator_iter st.typeIs F.entry_dict_keyiterator_iter ?_ (F.args_dict_keyiterator_iter_1 _))
    show wpAny _ _ (ret (.ref it)) _ _ s
    exact wpAny_pure ⟨_, rfl, "dict_keyiterator", _, st.typeIs, F.slot_dict_keyiterator_next.lookup, h⟩
def iXKeys (te : TE) : TI := fun σ H R => te σ H fun x H1 => ∃ d o es ep, x = .ref d ∧ H1 d = some (HOx d o) ∧ (d == sysModules) = false ∧ o.ExactDict ∧ o.data = .dict es ep ∧ (∀ i (hi : i < es.size), ∃ b, es[i].key = .ref b) ∧ R (Itx d o es) H1
section
variable {X : Cx} {e tg : Expr} {td : TE} {apos cpos pos : Pos}
theorem pi_xkeys (he : PE X e td) (hbase : attributeBase e "keys" X.env (eval e X.env) = eval e X.env := by rfl) (hline : (apos.endLine == cpos.line) = true := by rfl) : PI X tg (.Call (.Attribute e "keys" apos) [] [] cpos) (iXKeys td) := by
  refine ⟨fun pins s σ H R I h => ?_⟩
  refine wpAny_Call_method (T := "dict") (id := "dict.keys") hbase rfl hline F.plainAttrs_dict F.slot_dict_keys F.type_dict_keys (thn (he.run pins s σ H _ I h) fun u s1 ⟨x, H1, I1, rx, d, o, es, ep, ex, hd, hs, hex, hod, hk, q⟩ => ?_)
  subst ex
  obtain rfl : u = Value.ref d := rx
  have ho := objx I1 hd
  refine ⟨⟨o, ho, hex.1⟩, fun b q => by cases q; exact ⟨o, ho, hex.2.1⟩, ?_⟩
  have I2 : Inv X pins σ H1 { s1 with heap := s1.heap.push { cls := .type "dict_keys", data := .fields #[.ref d] } } := I1.kept (t' := s1.toks) fun b ob q => Heap.get?_push_of_some _ q
  have fin : wpAny (model X.prog X.w) X.A (pyIter (.ref s1.heap.objs.size)) (PIE X pins σ tg R) X.xe { s1 with heap := s1.heap.push { cls := .type "dict_keys", data := .fields #[.ref d] } } :=
    wpAny_pyIter_keys_raw (d := d) (es := es) (ep := ep) ⟨_, Heap.get?_push_size _ rfl, rfl, rfl⟩ ⟨o, objx I2 hd, hex, hod⟩ (pi_one (tk := s1.toks) I2 _ (turn_xkeys _ hex hod hk) ⟨_, Heap.get?_push_size _ rfl, rfl, rfl⟩ q)
  show wpAny _ _ (callWith cpos (.builtin "dict.keys") [.ref d] [] []) _ X.xe s1
  exact method_meetsIn F.slot_dict_keys F.entry_dict_keys rfl (PySem.evalArgs_none ⟨rfl, ⟨o, ho, hex.1⟩, F.args_dict_keys_1 _, _, meets_dict_keys_raw d hs, ⟨⟨es, ep, o, ho, hex, hod⟩, fin⟩⟩)
end
theorem xe_keys {P : Program} {w : World} {K : PySem.W.Frag} {F : Hp} {xs : List Xe} {kvs : List (Kt × Nat)} {es : Array DictEntry} (he : es.toList = xs.map (entryOfKey (nestedKind P w))) (p : Paired (XeOk K F) xs kvs) :
    es.size = kvs.length ∧ (∀ i (hi : i < es.size), ∃ b, es[i].key = .ref b) ∧ ∀ (i : Nat) kv b, kvs[i]? = some kv → (es[i]?).map (·.key) = some (.ref b) → Dp K F (.ref b) (dKey kv.1) := by
  have hl : es.size = xs.length := by rw [← Array.length_toList, he, List.length_map]
  have hget : ∀ i : Nat, es[i]? = (xs[i]?).map (entryOfKey (nestedKind P w)) := fun i => by rw [← Array.getElem?_toList, he, List.getElem?_map]
  have hp : ∀ {xs : List Xe} {kvs : List (Kt × Nat)}, Paired (XeOk K F) xs kvs → ∀ (i : Nat) x kv, xs[i]? = some x → kvs[i]? = some kv → XeOk K F x kv := fun {xs kvs} p => by
    induction p with
    | nil => intro i x kv h; simp at h
    | cons h _ ih =>
      intro i x kv h1 h2
      cases i with
      | zero => simp at h1 h2; subst h1 h2; exact h
      | succ j => simp at h1 h2; exact ih j x kv h1 h2
  refine ⟨by rw [hl, paired_len p], fun i hi => ?_, fun i kv b h1 h2 => ?_⟩
  · have h1 := hget i
    have hx : xs[i]? = some (xs[i]'(by omega)) := by simp [show i < xs.length by omega]
    rw [Array.getElem?_eq_getElem hi, hx] at h1
    exact ⟨(xs[i]'(by omega)).2.1, by rw [Option.some.inj h1]; rfl⟩
  · rw [hget i] at h2
    cases hx : xs[i]? with
    | none => rw [hx] at h2; cases h2
    | some x =>
      rw [hx] at h2
      have := hp p i x kv hx h1
      simp only [Option.map_some, entryOfKey, Option.some.injEq, Value.ref.injEq] at h2
      rw [← h2]
      exact this.2.1
def DR (P : Program) (w : World) (K : PySem.W.Frag) (kvs : List (Kt × Nat)) : Addr → Hp → HO → Prop := fun l F u => ∃ o, u = HOx l o ∧ DictX P w K F l o kvs
def DRx (P : Program) (w : World) (K : PySem.W.Frag) (kvs : List (Kt × Nat)) (d : Addr) (o : Obj) : Addr → Hp → HO → Prop := fun l F u => l = d ∧ u = HOx d o ∧ DictX P w K F d o kvs
def IsDR (P : Program) (w : World) (K : PySem.W.Frag) (R : Addr → Hp → HO → Prop) (kvs : List (Kt × Nat)) : Prop := ∀ l F u, R l F u → ∃ o, u = HOx l o ∧ DictX P w K F l o kvs
theorem DR.is {P : Program} {w : World} {K : PySem.W.Frag} {kvs : List (Kt × Nat)} : IsDR P w K (DR P w K kvs) kvs := fun _ _ _ h => h
theorem DRx.is {P : Program} {w : World} {K : PySem.W.Frag} {kvs : List (Kt × Nat)} {d : Addr} {o : Obj} : IsDR P w K (DRx P w K kvs d o) kvs := fun l F u ⟨e, h1, h2⟩ => by subst e; exact ⟨o, h1, h2⟩
section
variable {X : Cx} {tg e e1 e2 : Expr} {a : List Stmt} {Γ : List Sl} {P : Post} {kvs : List (Kt × Nat)} {z y : Str} {pos p apos cpos npos : Pos}
/-- R is put in another form, the thing unchanged -/
theorem Ok.reobj {K : PySem.W.Frag} {H0 F H : Hp} {σ : L2.St} {i : Nat} {R R' : Addr → Hp → HO → Prop} {l : Addr} {u : HO} {F1 : Hp} (o : Ok K H0 Γ σ F H) (h : Γ[i]? = some (.obj R)) (hσ : σ[i]? = some (some (.ref l))) (hu : H l = some u) (s1 : Same F1 F) (hR : R' l F1 u) : Ok K H0 (Γ.set i (.obj R')) σ F H := by
  have := o.put (s := .obj R') (o := u) h rfl hσ (.inr ⟨R', F1, rfl, s1, hR⟩)
  have e : upd H l u = H := by
    funext b
    by_cases hb : b = l
    · subst hb; rw [upd_same, hu]
    · rw [upd_ne hb]
  rw [e] at this
  exact this
theorem S.forKeys (i : Nat) (hp : PassesOwn (model X.prog X.w) X.A X.env X.xe) (hi0 : Γ[i]? = some (.obj (DR X.prog X.w X.K kvs))) (W : Addr → Obj → Nat → List Sl → Prop) (h0 : ∀ d o, W d o 0 (Γ.set i (.obj (DRx X.prog X.w X.K kvs d o))))
    (hW : ∀ d o k Γ1, W d o k Γ1 → Γ1[i]? = some (.obj (DRx X.prog X.w X.K kvs d o)))
    (hs : ∀ d o k kv Γ1, kvs[k]? = some kv → W d o k Γ1 → ∃ as, G X tg (dKey kv.1) as ∧ Ss X a (setS Γ1 as) { P with nx := W d o (k + 1), ct := W d o (k + 1), bk := P.nx }) (hd : ∀ d o Γ1, W d o kvs.length Γ1 → P.nx Γ1)
    (hN : X.N[i]? = some z := by rfl) (hv : Vis X.env.scope z := by first | exact Or.inl rfl | exact Or.inr (Or.inl rfl) | exact Or.inr (Or.inr rfl)) (hdb : (z == ("__debug__" : Str)) = false := by decide) (hcd : (z == ("__classdict__" : Str)) = false := by decide)
    (hbase : attributeBase (.Name z npos) ("keys" : Str) X.env (eval (.Name z npos) X.env) = eval (.Name z npos) X.env := by rfl) (hline : (apos.endLine == cpos.line) = true := by rfl)
    (hc : X.calm = true := by rfl) (hfs : ∀ x, foldedSetIterable (.Call (.Attribute (.Name z npos) "keys" apos) [] [] cpos) X.env x = pure x := by intro _; rfl) :
    S X (.For tg (.Call (.Attribute (.Name z npos) "keys" apos) [] [] cpos) a [] pos) Γ P :=
  S.mk (ps_for hp hc (pi_xkeys (pv i hN hv hdb hcd) hbase hline) (pg_sem X) (pss_sem X) hfs) fun F0 H0 F σ H D g o q => by
    obtain ⟨l, u, hσ, hl0, hlF, hlH, F1, s1, ob, rfl, dx⟩ := o.obj i _ hi0
    have o' := o.reobj (R' := DRx X.prog X.w X.K kvs l ob) hi0 hσ hlH s1 ⟨rfl, rfl, dx⟩
    have dxF := dx.mono s1
    obtain ⟨xs, es, ep, d1, d2, d3, d4, d5⟩ := dxF.ex
    obtain ⟨k1, k2, k3⟩ := xe_keys d3 d5
    refine ⟨.ref l, hσ, l, ob, es, ep, rfl, hlH, dxF.sys, d1, d2, k2, ?_⟩
    have w : Walk (Itx l ob es) kvs.length (fun H => H l = some (HOx l ob)) (fun i H x H' => H' = H ∧ ∃ b, (es[i]?).map (·.key) = some (.ref b) ∧ x = .ref b) :=
      ⟨fun i H hi h => ⟨h, by omega⟩, fun H h => ⟨h, by omega⟩, fun i H x H' hi h y => y⟩
    refine for_it w (fun k σ' H' => ∃ Γ1 F2, W l ob k Γ1 ∧ Same F F2 ∧ Grow F0 H0 F2 H' ∧ Ok X.K H0 Γ1 σ' F2 H') ⟨_, F, h0 l ob, Same.refl F, g, o'⟩ ?_ ?_ ?_
    · rintro k σ' H' _ ⟨Γ1, F2, w1, s2, g2, o2⟩
      obtain ⟨l', u', _, _, _, hu, F3, _, e1, e2, _⟩ := o2.obj i _ (hW l ob k Γ1 w1)
      subst e1 e2
      exact hu
    · rintro k x σ' H' H'' hk ⟨Γ1, F2, w1, s2, g2, o2⟩ ⟨rfl, b, hb, rfl⟩
      have hkv : kvs[k]? = some kvs[k] := by simp [hk]
      have hdp := dp_mono s2 (k3 k kvs[k] b hkv hb)
      obtain ⟨as, hg, hbd⟩ := hs l ob k kvs[k] Γ1 hkv w1
      refine hg F2 σ' _ (.ref b) g2.s hdp _ fun vs hvs => ?_
      refine hbd F0 H0 F2 _ _ _ g2 (o2.setAll hvs) ⟨fun Γ' σ' F' H' w' s' g' o' => ⟨Γ', F', w', s2.trans s', g', o'⟩, fun Γ' σ' F' H' z s' g' o' => q.nx Γ' σ' F' H' z (s2.trans s') g' o',
        fun Γ' σ' F' H' w' s' g' o' => ⟨Γ', F', w', s2.trans s', g', o'⟩, fun d Γ' v σ' F' H' z s' => q.rt d Γ' v σ' F' H' z (s2.trans s'), fun d p xs F' H' z s' => q.rf d p xs F' H' z (s2.trans s'), fun R p u F' H' F1 z s' => q.ro R p u F' H' F1 z (s2.trans s')⟩
    · rintro σ' H' ⟨Γ1, F2, w1, s2, g2, o2⟩
      exact q.nx Γ1 σ' F2 H' (hd l ob Γ1 w1) s2 g2 o2
/-- x = y, y's thing handed on -/
theorem S.move (i j : Nat) {s : Sl} (hN : X.N.Nodup) (hj0 : Γ[j]? = some s) (hs0 : s.isOwn = true) (hij : i ≠ j) (k : P.nx ((Γ.set j .any).set i s)) (hi : X.N[i]? = some z := by rfl) (hj : X.N[j]? = some y := by rfl) (hx : Loc X.env.scope z := by first | exact Or.inl rfl | exact Or.inr rfl) (hv : Vis X.env.scope y := by first | exact Or.inl rfl | exact Or.inr (Or.inl rfl) | exact Or.inr (Or.inr rfl))
    (hdb : (y == ("__debug__" : Str)) = false := by decide) (hcd : (y == ("__classdict__" : Str)) = false := by decide)
    (hs : swapsWith (.Name y npos) (some (.Name z p)) pos.line X.env = pure false := by rfl) (hf : X.fn z = true ∨ X.env.scope.names.lookup z = some .local := by first | exact .inl rfl | exact .inr rfl) : S X (.Assign [.Name z p] (.Name y npos) pos) Γ P :=
  S.mk (ps_set hN hi hx (pv j hj hv hdb hcd) hs hf) fun F0 H0 F σ H D g o q => by
    obtain ⟨l, u, hσ, hl0, hlF, hlH⟩ := o.addr hj0 hs0
    refine ⟨.ref l, hσ, q.nx _ _ F H k (Same.refl F) g ?_⟩
    have own_of : ∀ (m : Nat) c, ((Γ.set j .any).set i s)[m]? = some c → c.isOwn = true → (m = i ∧ c = s) ∨ (m ≠ i ∧ m ≠ j ∧ Γ[m]? = some c) := fun m c hm ho => by
      rcases get_set hm with ⟨e1, e2, _⟩ | ⟨e1, e2⟩
      · exact .inl ⟨e1.symm, e2⟩
      · rcases get_set e2 with ⟨e3, e4, _⟩ | ⟨e3, e4⟩
        · subst e4; cases ho
        · exact .inr ⟨fun h => e1 h.symm, fun h => e3 h.symm, e4⟩
    have hil : i < σ.length → (σ.set i (some (.ref l)))[i]? = some (some (.ref l)) := fun h => List.getElem?_set_self h
    have hΓl : ((Γ.set j .any).set i s).length = Γ.length := by simp
    have at_i : ∀ c, ((Γ.set j .any).set i s)[i]? = some c → (σ.set i (some (V.ref l)))[i]? = some (some (.ref l)) := fun c hc => hil (by
      have := (List.getElem?_eq_some_iff.mp hc).1
      rw [hΓl, ← o.len] at this; exact this)
    refine ⟨by simp [o.len], fun m d hm => ?_, fun m ds hm => ?_, fun m R hm => ?_, fun m n c d l' hm hn oc od sm sn => ?_⟩
    · rcases get_set hm with ⟨e1, e2, _⟩ | ⟨e1, e2⟩
      · subst e2; cases hs0
      · rcases get_set e2 with ⟨e3, e4, _⟩ | ⟨e3, e4⟩
        · cases e4
        · rw [List.getElem?_set_ne e1]; exact o.val m d e4
    · rcases own_of m _ hm rfl with ⟨e1, e2⟩ | ⟨e1, e2, e3⟩
      · subst e1 e2
        obtain ⟨l2, xs, a1, a2, a3, a4, a5⟩ := o.own j ds hj0
        rw [hσ] at a1; cases a1
        exact ⟨l, xs, at_i _ hm, a2, a3, a4, a5⟩
      · rw [List.getElem?_set_ne (Ne.symm e1)]; exact o.own m ds e3
    · rcases own_of m _ hm rfl with ⟨e1, e2⟩ | ⟨e1, e2, e3⟩
      · subst e1 e2
        obtain ⟨l2, xs, a1, a2, a3, a4, a5⟩ := o.obj j R hj0
        rw [hσ] at a1; cases a1
        exact ⟨l, xs, at_i _ hm, a2, a3, a4, a5⟩
      · rw [List.getElem?_set_ne (Ne.symm e1)]; exact o.obj m R e3
    · rcases own_of m c hm oc with ⟨e1, e2⟩ | ⟨e1, e2, e3⟩
      · rcases own_of n d hn od with ⟨f1, f2⟩ | ⟨f1, f2, f3⟩
        · omega
        · subst e1
          rw [at_i _ hm] at sm
          cases sm
          rw [List.getElem?_set_ne (Ne.symm f1)] at sn
          exact absurd (o.sep j n s d l hj0 f3 hs0 od hσ sn) (Ne.symm f2)
      · rcases own_of n d hn od with ⟨f1, f2⟩ | ⟨f1, f2, f3⟩
        · subst f1
          rw [at_i _ hn] at sn
          cases sn
          rw [List.getElem?_set_ne (Ne.symm e1)] at sm
          exact absurd (o.sep j m s c l hj0 e3 hs0 oc hσ sm) (Ne.symm e2)
        · rw [List.getElem?_set_ne (Ne.symm e1)] at sm
          rw [List.getElem?_set_ne (Ne.symm f1)] at sn
          exact o.sep m n c d l' e3 f3 oc od sm sn
theorem Src.xnew : Src X (.Dict [] [] pos) Γ (.obj (DR X.prog X.w X.K [])) := fun H0 F σ H s o Q q pins st I => pe_xnew.run pins st σ H Q I fun d hd hs =>
  q (.ref d) F _ (Grow.heap s (same_upd hd)) ⟨d, HOx d emptyO, F, rfl, hd, s.free hd, upd_same, Same.refl F, emptyO, rfl, DictX.empty hs⟩
theorem Src.xone {k : Kt} {n : Nat} (hu : X.A.units + 64 < cLine) (h1 : E X e1 (vals Γ) (dKey k)) (h2 : E X e2 (vals Γ) (nat n)) : Src X (.Dict [some e1] [e2] pos) Γ (.obj (DR X.prog X.w X.K [(k, n)])) := fun H0 F σ H s o Q q pins st I =>
  (pe_xone hu (pe_sem X) (pe_sem X)).run pins st σ H Q I fun d hd hsys => by
    have s1 : Same F (upd H d (HOx d emptyO)) := s.trans (same_upd hd)
    refine h1 F σ _ s1 o.vals _ fun v F1 H1 g1 hv => h2 F1 σ H1 g1.s (o.vals.mono g1.f) _ fun u F2 H2 g2 hu2 => ?_
    have gg := g1.trans g2
    obtain ⟨aa, xs, e, _⟩ := dp_tup hv
    subst e
    have hF2 : F2 d = none := gg.n d (s.free hd) (by rw [upd_same]; simp)
    refine ⟨F2, aa, k, n, rfl, dp_int hu2, gg.h _ _ upd_same, gg.s, hF2, dp_mono g2.f hv, fun ob dx => ?_⟩
    refine q (.ref d) F2 _ ⟨gg.f, fun b u e => ?_, fun b u e => ?_, fun b e1 e2 => gg.n b e1 ?_⟩ ⟨d, HOx d ob, F2, rfl, hd, hF2, upd_same, Same.refl F2, ob, rfl, dx⟩
    · rw [upd_ne (ne_of_none e hd)]; exact gg.h b u (by rw [upd_ne (ne_of_none e hd)]; exact e)
    · rw [upd_ne (ne_of_none e hF2)]; exact gg.s b u e
    · by_cases hb : b = d
      · subst hb; rw [upd_same]; simp
      · rw [upd_ne hb]; exact e2
end
end Ck

set_option Elab.async false
set_option linter.all false
set_option maxRecDepth 100000
/-! more[key] = more.get(key, 0) + rows[flows, size] * marks; found[size] = found.get(size, 0) + rows[flows, size]; sum(d.values()). -/
namespace Ck
open PySem PySem.Spec PyProof.Rows L2

def addK (m : List (Kt × Nat)) (k : Kt) (v : Nat) : List (Kt × Nat) := setK m k ((lookK m k).getD 0 + v)
section
variable {X : Cx} {Γ : List Sl} {P : Post} {pos : Pos} {zm zk zr zf zs zmk : Str} {p1 p2 p3 p4 p5 p6 p7 p8 p9 p10 tpos apos cpos spos bpos bpos2 tupos : Pos} {x1 : Nat} {j0}
theorem S.dictAdd (im ik ir ifl isz imk : Nat) {more rows : List (Kt × Nat)} {key : Kt} {fl : List Nat} {sz mk v : Nat} {R : Addr → Hp → HO → Prop} (hu : X.A.units + 64 < cLine)
    (hm : Γ[im]? = some (.obj (DR X.prog X.w X.K more))) (hk : Γ[ik]? = some (.val (dKey key))) (hr : Γ[ir]? = some (.obj R)) (hR : IsDR X.prog X.w X.K R rows) (hf : Γ[ifl]? = some (.val (.tuple (fl.map nat)))) (hs : Γ[isz]? = some (.val (nat sz))) (hmk : Γ[imk]? = some (.val (nat mk)))
    (hl : lookK rows (fl, sz) = some v) (hmk2 : mk < 2 ^ 64) (hlen : more.length ≤ 10000000) (kk : P.nx (Γ.set im (.obj (DR X.prog X.w X.K (addK more key (v * mk))))))
    (n1 : X.N[im]? = some zm := by rfl) (n2 : X.N[ik]? = some zk := by rfl) (n3 : X.N[ir]? = some zr := by rfl) (n4 : X.N[ifl]? = some zf := by rfl) (n5 : X.N[isz]? = some zs := by rfl) (n6 : X.N[imk]? = some zmk := by rfl)
    (v1 : Vis X.env.scope zm := by first | exact Or.inl rfl | exact Or.inr (Or.inl rfl)) (v2 : Vis X.env.scope zk := by first | exact Or.inl rfl | exact Or.inr (Or.inl rfl)) (v3 : Vis X.env.scope zr := by first | exact Or.inl rfl | exact Or.inr (Or.inl rfl)) (v4 : Vis X.env.scope zf := by first | exact Or.inl rfl | exact Or.inr (Or.inl rfl)) (v5 : Vis X.env.scope zs := by first | exact Or.inl rfl | exact Or.inr (Or.inl rfl)) (v6 : Vis X.env.scope zmk := by first | exact Or.inl rfl | exact Or.inr (Or.inl rfl))
    (d1 : (zm == ("__debug__" : Str)) = false := by decide) (d2 : (zk == ("__debug__" : Str)) = false := by decide) (d3 : (zr == ("__debug__" : Str)) = false := by decide) (d4 : (zf == ("__debug__" : Str)) = false := by decide) (d5 : (zs == ("__debug__" : Str)) = false := by decide) (d6 : (zmk == ("__debug__" : Str)) = false := by decide)
    (c1 : (zm == ("__classdict__" : Str)) = false := by decide) (c2 : (zk == ("__classdict__" : Str)) = false := by decide) (c3 : (zr == ("__classdict__" : Str)) = false := by decide) (c4 : (zf == ("__classdict__" : Str)) = false := by decide) (c5 : (zs == ("__classdict__" : Str)) = false := by decide) (c6 : (zmk == ("__classdict__" : Str)) = false := by decide)
    (m2 : M2 X (.Name zm p3) "get" apos (.Name zk p4) (.Constant (.int 0) j0 p5) cpos := by exact ⟨rfl, rfl, rfl, rfl⟩) (hns : NoSl (.Tuple [.Name zf p7, .Name zs p8] x1 tupos) := by exact fun _ _ => rfl)
    (hq1 : starEach [.Name zf p7, .Name zs p8] X.env = (false, eval (.Name zf p7) X.env) :: starEach [.Name zs p8] X.env := by rfl) (hq2 : starEach [.Name zs p8] X.env = (false, eval (.Name zs p8) X.env) :: starEach [] X.env := by rfl)
    (ha : ∀ v, assign (.Subscript (.Name zm p1) (.Name zk p2) tpos) X.env v = (do
      let ov ← holding [v] (eval (.Name zm p1) X.env)
      let iv ← holding [v, ov] (eval (.Name zk p2) X.env)
      standAt tpos
      holding [v, ov, iv] (setItem ov iv v)
      release [v, ov, iv] []) := by intro _; rfl)
    (hs1 : swapsWithSole [.Subscript (.Name zm p1) (.Name zk p2) tpos] (.BinOp (.Call (.Attribute (.Name zm p3) "get" apos) [.Name zk p4, .Constant (.int 0) j0 p5] [] cpos) .Add (.BinOp (.Subscript (.Name zr p6) (.Tuple [.Name zf p7, .Name zs p8] x1 tupos) spos) .Mult (.Name zmk p9) bpos2) bpos) pos.line X.env = pure false := by rfl)
    (hw : swappedStores [.Subscript (.Name zm p1) (.Name zk p2) tpos] (.BinOp (.Call (.Attribute (.Name zm p3) "get" apos) [.Name zk p4, .Constant (.int 0) j0 p5] [] cpos) .Add (.BinOp (.Subscript (.Name zr p6) (.Tuple [.Name zf p7, .Name zs p8] x1 tupos) spos) .Mult (.Name zmk p9) bpos2) bpos) X.env = pure none := by rfl)
    (h1 : (assignEach [.Subscript (.Name zm p1) (.Name zk p2) tpos] X.env).map (·.2) = [assign (.Subscript (.Name zm p1) (.Name zk p2) tpos) X.env] := by rfl) :
    S X (.Assign [.Subscript (.Name zm p1) (.Name zk p2) tpos] (.BinOp (.Call (.Attribute (.Name zm p3) "get" apos) [.Name zk p4, .Constant (.int 0) j0 p5] [] cpos) .Add (.BinOp (.Subscript (.Name zr p6) (.Tuple [.Name zf p7, .Name zs p8] x1 tupos) spos) .Mult (.Name zmk p9) bpos2) bpos) pos) Γ P :=
  S.mk (ps_asg (pe_op op_add (pe_xget2 hu (pv im n1 v1 d1 c1) (pv ik n2 v2 d2 c2) pe_int m2) (pe_op op_mul (pe_xget hu (pv ir n3 v3 d3 c3) (pe_tup (pa_cons (pv ifl n4 v4 d4 c4) (pa_cons (pv isz n5 v5 d5 c5) pa_nil hq2) hq1)) hns) (pv imk n6 v6 d6 c6))) (pg_sub (pv im n1 v1 d1 c1) (pv ik n2 v2 d2 c2) (set_xdict hu) ha) hs1 hw h1) fun F0 H0 F σ H D g o q => by
    obtain ⟨lm, um, σm, lm0, lmF, lmH, Fm, sm, om, rfl, dxm⟩ := o.obj im _ hm
    obtain ⟨lr, ur, σr, lr0, lrF, lrH, Fr, sr, hRr⟩ := o.obj ir _ hr
    obtain ⟨or', rfl, dxr⟩ := hR _ _ _ hRr
    obtain ⟨vk, σk, dk⟩ := o.val ik _ hk
    obtain ⟨vf, σf, df⟩ := o.val ifl _ hf
    obtain ⟨vs, σs, dS⟩ := o.val isz _ hs
    obtain ⟨vmk, σmk, dmk⟩ := o.val imk _ hmk
    obtain ⟨ak, _, ek, _⟩ := dp_tup dk
    subst ek
    have emk := dp_int dmk
    subst emk
    refine ⟨.ref lm, σm, lm, om, rfl, lmH, dxm.exact, .ref ak, σk, F, more, key, ak, rfl, lmH, g.s, dxm.mono sm, dk, ?_⟩
    refine ⟨.ref lr, σr, vf, σf, vs, σs, by show 2 ≤ sizeLine; decide, fun p hp => ?_⟩
    have g1 : Grow F H (upd F p (.tup [vf, vs])) (upd H p (.tup [vf, vs])) := Grow.new g.s hp
    have nr : lr ≠ p := ne_of_none lrH hp
    have nm : lm ≠ p := ne_of_none lmH hp
    have dkp : Dp X.K (upd F p (.tup [vf, vs])) (.ref p) (dKey (fl, sz)) := .tup (SqT.of upd_same) (.cons (dp_mono g1.f df) (.cons (dp_mono g1.f dS) .nil))
    refine ⟨_, lr, or', rows, (fl, sz), v, p, rfl, rfl, by rw [upd_ne nr]; exact lrH, g1.s, dxr.mono (sr.trans g1.f), dkp, hl, ?_⟩
    refine ⟨_, σmk, (v : Int), (mk : Int), rfl, rfl, .inr ⟨by omega, by omega⟩, ?_⟩
    refine ⟨(((lookK more key).getD 0 : Nat) : Int), ((v : Int) * (mk : Int)), ?_, rfl, ?_⟩
    · cases lookK more key <;> rfl
    refine ⟨.ref lm, σm, .ref ak, σk, upd F p (.tup [vf, vs]), lm, om, more, key, (lookK more key).getD 0 + v * mk, ak, rfl, rfl, ?_, by rw [upd_ne nm]; exact lmH, g1.s, by rw [upd_ne nm]; exact lmF, dxm.mono (sm.trans g1.f), dp_mono g1.f dk, Nat.lt_of_le_of_lt hlen (by decide), fun o' dx' => ?_⟩
    · rfl
    have o1 := o.grow g1
    have hF1 : upd F p (.tup [vf, vs]) lm = none := by rw [upd_ne nm]; exact lmF
    exact q.nx _ σ _ _ kk g1.f ((g.trans g1).put lm0 hF1) (o1.put (s := .obj (DR X.prog X.w X.K (addK more key (v * mk)))) hm rfl σm (.inr ⟨_, _, rfl, Same.refl _, o', rfl, dx'⟩))
end

/-! ### the dict of sizes -/
structure FOk (kvs : List (Key × V)) (S : Nat) : Prop where
  nd : (kvs.map (·.1)).Nodup
  vs : ∃ ns : List Nat, kvs.map (·.2) = ns.map (fun (n : Nat) => V.int (n : Int)) ∧ ns.sum = S
theorem FOk.nil : FOk [] 0 := ⟨by simp, [], rfl, rfl⟩
theorem fok_get {k : Key} : ∀ {kvs : List (Key × V)} {ns : List Nat} {x : V}, kvs.map (·.2) = ns.map (fun (n : Nat) => V.int (n : Int)) → valV kvs k = some x → ∃ m : Nat, x = .int (m : Int)
  | [], _, x, _, h => by simp [valV] at h
  | p :: r, [], x, e, h => by simp at e
  | p :: r, n :: ns, x, e, h => by
    simp only [List.map_cons, List.cons.injEq] at e
    by_cases hk : p.1 = k
    · rw [valV_pos hk] at h
      exact ⟨n, by rw [← Option.some.inj h, e.1]⟩
    · rw [valV_neg hk] at h
      exact fok_get e.2 h
theorem fok_map {k : Key} {m v : Nat} : ∀ {kvs : List (Key × V)} {ns : List Nat}, (kvs.map (·.1)).Nodup → kvs.map (·.2) = ns.map (fun (n : Nat) => V.int (n : Int)) → valV kvs k = some (.int (m : Int)) →
    ∃ ns' : List Nat, (kvs.map fun kv => if kv.1 = k then (kv.1, V.int ((m + v : Nat) : Int)) else kv).map (·.2) = ns'.map (fun (n : Nat) => V.int (n : Int)) ∧ ns'.sum = ns.sum + v
  | [], _, _, _, h => by simp [valV] at h
  | p :: r, [], _, e, h => by simp at e
  | p :: r, n :: ns, nd, e, h => by
    simp only [List.map_cons, List.cons.injEq] at e
    simp only [List.map_cons, List.nodup_cons] at nd
    by_cases hk : p.1 = k
    · rw [valV_pos hk] at h
      have en : n = m := by have h2 := Option.some.inj h; rw [e.1] at h2; simp only [V.int.injEq] at h2; omega
      refine ⟨(m + v) :: ns, ?_, by rw [List.sum_cons, List.sum_cons, en]; omega⟩
      simp only [List.map_cons, if_pos hk, List.cons.injEq, true_and]
      rw [← e.2]
      have : (r.map fun kv => if kv.1 = k then (kv.1, V.int ((m + v : Nat) : Int)) else kv) = r := by
        conv => rhs; rw [← List.map_id r]
        refine List.map_congr_left fun a ha => ?_
        rw [if_neg fun z => nd.1 (by rw [hk, ← z]; exact List.mem_map_of_mem ha)]
        rfl
      rw [this]
    · rw [valV_neg hk] at h
      obtain ⟨ns', h1, h2⟩ := fok_map (v := v) nd.2 e.2 h
      refine ⟨n :: ns', ?_, by rw [List.sum_cons, List.sum_cons, h2]; omega⟩
      simp only [List.map_cons, if_neg hk, List.cons.injEq]
      exact ⟨e.1, h1⟩
theorem keys_map {k : Key} {y : V} (kvs : List (Key × V)) : (kvs.map fun kv => if kv.1 = k then (kv.1, y) else kv).map (·.1) = kvs.map (·.1) := by
  rw [List.map_map]
  refine List.map_congr_left fun a _ => ?_
  show (if a.1 = k then (a.1, y) else a).1 = a.1
  split <;> rfl
theorem FOk.put {kvs : List (Key × V)} {S v : Nat} (h : FOk kvs S) (k : Key) : ∃ m : Nat, (valV kvs k).getD (.int 0) = .int (m : Int) ∧ FOk (putK kvs k (.int ((m + v : Nat) : Int))) (S + v) := by
  obtain ⟨ns, h1, h2⟩ := h.vs
  cases e : valV kvs k with
  | none =>
    refine ⟨0, rfl, nd_putK _ h.nd e, ns ++ [v], ?_, by rw [List.sum_append, h2]; simp⟩
    rw [putK_new _ e, List.map_append, h1, List.map_append]
    simp
  | some x =>
    obtain ⟨m, rfl⟩ := fok_get h1 e
    obtain ⟨ns', h3, h4⟩ := fok_map (v := v) h.nd h1 e
    have ep : putK kvs k (.int ((m + v : Nat) : Int)) = kvs.map fun kv => if kv.1 = k then (kv.1, V.int ((m + v : Nat) : Int)) else kv := by
      unfold putK
      rw [valV_any, e]
      exact if_pos rfl
    refine ⟨m, rfl, ?_, ns', by rw [ep]; exact h3, by rw [h4, h2]⟩
    rw [ep, keys_map]
    exact h.nd
def FR (S L : Nat) : Addr → Hp → HO → Prop := fun _ _ u => ∃ kvs, u = .dK kvs ∧ FOk kvs S ∧ kvs.length ≤ L
section
variable {X : Cx} {Γ : List Sl} {P : Post} {pos : Pos} {zm zk zr zf zs zmk : Str} {p1 p2 p3 p4 p5 p6 p7 p8 p9 p10 tpos apos cpos spos bpos bpos2 tupos : Pos} {x1 : Nat} {j0}
theorem Src.fnew : Src X (.Dict [] [] pos) Γ (.obj (FR 0 0)) := fun H0 F σ H s o Q q pins st I => pe_dnewK.run pins st σ H Q I fun d hd =>
  q (.ref d) F _ (Grow.heap s (same_upd hd)) ⟨d, .dK [], F, rfl, hd, s.free hd, upd_same, Same.refl F, [], rfl, FOk.nil, Nat.le_refl 0⟩
theorem S.foundAdd (im ik ir ifl isz : Nat) {rows : List (Kt × Nat)} {fl : List Nat} {sz v T L : Nat} {R : Addr → Hp → HO → Prop} (hu : X.A.units + 64 < cLine) (hik : ik = isz)
    (hm : Γ[im]? = some (.obj (FR T L))) (hr : Γ[ir]? = some (.obj R)) (hR : IsDR X.prog X.w X.K R rows) (hf : Γ[ifl]? = some (.val (.tuple (fl.map nat)))) (hs : Γ[isz]? = some (.val (nat sz)))
    (hl : lookK rows (fl, sz) = some v) (hlen : L ≤ 10000000) (kk : P.nx (Γ.set im (.obj (FR (T + v) (L + 1)))))
    (n1 : X.N[im]? = some zm := by rfl) (n3 : X.N[ir]? = some zr := by rfl) (n4 : X.N[ifl]? = some zf := by rfl) (n5 : X.N[isz]? = some zs := by rfl)
    (v1 : Vis X.env.scope zm := by first | exact Or.inl rfl | exact Or.inr (Or.inl rfl)) (v3 : Vis X.env.scope zr := by first | exact Or.inl rfl | exact Or.inr (Or.inl rfl)) (v4 : Vis X.env.scope zf := by first | exact Or.inl rfl | exact Or.inr (Or.inl rfl)) (v5 : Vis X.env.scope zs := by first | exact Or.inl rfl | exact Or.inr (Or.inl rfl))
    (d1 : (zm == ("__debug__" : Str)) = false := by decide) (d3 : (zr == ("__debug__" : Str)) = false := by decide) (d4 : (zf == ("__debug__" : Str)) = false := by decide) (d5 : (zs == ("__debug__" : Str)) = false := by decide)
    (c1 : (zm == ("__classdict__" : Str)) = false := by decide) (c3 : (zr == ("__classdict__" : Str)) = false := by decide) (c4 : (zf == ("__classdict__" : Str)) = false := by decide) (c5 : (zs == ("__classdict__" : Str)) = false := by decide)
    (m2 : M2 X (.Name zm p3) "get" apos (.Name zs p4) (.Constant (.int 0) j0 p5) cpos := by exact ⟨rfl, rfl, rfl, rfl⟩) (hns : NoSl (.Tuple [.Name zf p7, .Name zs p8] x1 tupos) := by exact fun _ _ => rfl)
    (hq1 : starEach [.Name zf p7, .Name zs p8] X.env = (false, eval (.Name zf p7) X.env) :: starEach [.Name zs p8] X.env := by rfl) (hq2 : starEach [.Name zs p8] X.env = (false, eval (.Name zs p8) X.env) :: starEach [] X.env := by rfl)
    (hs1 : swapsWith (.BinOp (.Call (.Attribute (.Name zm p3) "get" apos) [.Name zs p4, .Constant (.int 0) j0 p5] [] cpos) .Add (.Subscript (.Name zr p6) (.Tuple [.Name zf p7, .Name zs p8] x1 tupos) spos) bpos) (some (.Subscript (.Name zm p1) (.Name zs p2) tpos)) pos.line X.env = pure false := by rfl) :
    S X (.Assign [.Subscript (.Name zm p1) (.Name zs p2) tpos] (.BinOp (.Call (.Attribute (.Name zm p3) "get" apos) [.Name zs p4, .Constant (.int 0) j0 p5] [] cpos) .Add (.Subscript (.Name zr p6) (.Tuple [.Name zf p7, .Name zs p8] x1 tupos) spos) bpos) pos) Γ P :=
  S.mk (ps_dput (by omega) (pv im n1 v1 d1 c1) (pv isz n5 v5 d5 c5) (pe_op op_add (pe_dget2 (by omega) (pv im n1 v1 d1 c1) (pv isz n5 v5 d5 c5) pe_int m2) (pe_xget hu (pv ir n3 v3 d3 c3) (pe_tup (pa_cons (pv ifl n4 v4 d4 c4) (pa_cons (pv isz n5 v5 d5 c5) pa_nil hq2) hq1)) hns)) hs1) fun F0 H0 F σ H D g o q => by
    obtain ⟨lm, um, σm, lm0, lmF, lmH, Fm, sm, kvs, rfl, fo, hL⟩ := o.obj im _ hm
    obtain ⟨lr, ur, σr, lr0, lrF, lrH, Fr, sr, hRr⟩ := o.obj ir _ hr
    obtain ⟨or', rfl, dxr⟩ := hR _ _ _ hRr
    obtain ⟨vf, σf, df⟩ := o.val ifl _ hf
    obtain ⟨vs, σs, dS⟩ := o.val isz _ hs
    have es := dp_int dS
    subst es
    obtain ⟨m, hm1, hm2⟩ := fo.put (v := v) (Sum.inl (sz : Int))
    refine ⟨.ref lm, σm, lm, rfl, .inl ⟨kvs, .inl lmH⟩, _, σs, _, DGet.k (k := Sum.inl (sz : Int)) lmH, ?_⟩
    refine ⟨.ref lr, σr, vf, σf, _, σs, by show 2 ≤ sizeLine; decide, fun p hp => ?_⟩
    have g1 : Grow F H (upd F p (.tup [vf, .int (sz : Int)])) (upd H p (.tup [vf, .int (sz : Int)])) := Grow.new g.s hp
    have nr : lr ≠ p := ne_of_none lrH hp
    have nm : lm ≠ p := ne_of_none lmH hp
    have dkp : Dp X.K (upd F p (.tup [vf, .int (sz : Int)])) (.ref p) (dKey (fl, sz)) := .tup (SqT.of upd_same) (.cons (dp_mono g1.f df) (.cons (dp_mono g1.f dS) .nil))
    refine ⟨_, lr, or', rows, (fl, sz), v, p, rfl, rfl, by rw [upd_ne nr]; exact lrH, g1.s, dxr.mono (sr.trans g1.f), dkp, hl, ?_⟩
    refine ⟨(m : Int), (v : Int), hm1, rfl, ?_⟩
    refine ⟨.ref lm, σm, _, σs, lm, _, rfl, DPut.k (k := Sum.inl (sz : Int)) (by rw [upd_ne nm]; exact lmH) (Nat.lt_of_le_of_lt (Nat.le_trans hL hlen) (by decide)), ?_⟩
    have o1 := o.grow g1
    have hF1 : upd F p (.tup [vf, .int (sz : Int)]) lm = none := by rw [upd_ne nm]; exact lmF
    refine q.nx _ σ _ _ kk g1.f ((g.trans g1).put lm0 hF1) (o1.put (s := .obj (FR (T + v) (L + 1))) hm rfl σm (.inr ⟨_, _, rfl, Same.refl _, _, rfl, hm2, ?_⟩))
    exact Nat.le_trans (length_putK _ _ _) (by omega)
/-- return d, a thing of ours -/
theorem S.retObj (i : Nat) {R : Addr → Hp → HO → Prop} {z : Str} {npos : Pos} (hi0 : Γ[i]? = some (.obj R)) (k : P.ro R) (hN : X.N[i]? = some z := by rfl) (hv : Vis X.env.scope z := by first | exact Or.inl rfl | exact Or.inr (Or.inl rfl) | exact Or.inr (Or.inr rfl)) (hd : (z == ("__debug__" : Str)) = false := by decide) (hcd : (z == ("__classdict__" : Str)) = false := by decide) :
    S X (.Return (some (.Name z npos)) pos) Γ P :=
  S.mk (ps_ret (pv i hN hv hd hcd)) fun F0 H0 F σ H D g o q => by
    obtain ⟨l, u, hσ, hl0, hlF, hlH, F1, s1, hR⟩ := o.obj i _ hi0
    exact ⟨.ref l, hσ, q.ro R l u F H F1 k (Same.refl F) g hl0 hlF hlH s1 hR⟩
end

/-! ### sum(d.values()) -/
section
variable {prog : Program} {w : World} {A : Around} {E : Value → Shared → Prop} {s : Shared} {T : String} {r d : Addr} {n : Nat} {P : Nat → Value → Prop} {OK : Heap → Prop} {Q : Value → Shared → Prop}
theorem sum_src (K : PySem.W.KdlSrc prog w T r d n P OK) (hh : A.handled = none) (hok : OK s.heap) (val : Nat → Int) (hval : ∀ (i : Nat) (v : Value), P i v → ∃ t : Tok, v = Value.int (val i) t)
    (h : ∀ (h' : Heap) (tk : Nat) (t' : Tok), (∀ b o, s.heap.get? b = some o → h'.get? b = some o) → Q (.int (preSum val n) t') { s with heap := h', toks := tk }) :
    wpAny (model prog w) A (call (.builtin "sum") [.ref r]) Q E s := by
  refine call_sum_walkAnyS ?_
  obtain ⟨oI, St, hit, W, st⟩ := K.iter A.in1 s hh hok
  refine hit _ _ ⟨s.heap.objs.size, _, _, _, n, P, _, val, rfl, W.toS, st, fun b hb => ?_, hval, fun s' t' hm => ?_⟩
  · show b < (s.heap.push oI).objs.size
    rw [Heap.size_push]
    rcases List.mem_cons.mp hb with e | hb
    · rw [e]; exact Nat.lt_succ_self _
    · rw [List.mem_singleton.mp hb]; exact Nat.lt_succ_of_lt (K.there _ hok).2
  · have hk : ∀ b o, s.heap.get? b = some o → s'.heap.get? b = some o := fun b o e =>
      hm.heap b o (fun hI => absurd (Heap.lt_size e) (by rw [List.mem_singleton.mp hI]; exact Nat.lt_irrefl _)) (Heap.get?_push_of_some _ e)
    rw [Moved.eq_with hm]
    exact h s'.heap s'.toks t' hk
end
theorem preSum_eq : ∀ (ns : List Nat) (val : Nat → Int), (∀ (i : Nat) n, ns[i]? = some n → val i = (n : Int)) → preSum val ns.length = ((ns.sum : Nat) : Int) := fun ns => by
  have key : ∀ (m : Nat) (val : Nat → Int), m ≤ ns.length → (∀ (i : Nat) n, ns[i]? = some n → val i = (n : Int)) → preSum val m = (((ns.take m).sum : Nat) : Int) := fun m => by
    induction m with
    | zero => intro val _ _; simp [preSum]
    | succ m ih =>
      intro val hm hv
      have hx : ns[m]? = some ns[m] := by simp [show m < ns.length by omega]
      show preSum val m + val m = _
      rw [ih val (by omega) hv, hv m _ hx, take_snoc hx, List.sum_append]
      simp
  intro val hv
  rw [key ns.length val (Nat.le_refl _) hv, List.take_length]
def viewO (d : Addr) : Obj := { cls := .type "dict_values", data := .fields #[.ref d] }
section
variable {X : Cx} {o e : Expr} {td : TE} {apos cpos pos p : Pos} {Γ : List (Option PD)}
theorem pe_valuesX (he : PE X e td) (hbase : attributeBase e "values" X.env (eval e X.env) = eval e X.env := by rfl) (hline : (apos.endLine == cpos.line) = true := by rfl) :
    PE X (.Call (.Attribute e "values" apos) [] [] cpos) (fun σ H Q => td σ H fun x H1 => ∃ d kvs, x = .ref d ∧ H1 d = some (.dK kvs) ∧ ∀ v, H1 v = none → Q (.ref v) (upd H1 v (HOx v (viewO d)))) := by
  refine ⟨fun pins s σ H Q I h => ?_⟩
  refine wpAny_Call_method (T := "dict") (id := "dict.values") hbase rfl hline F.plainAttrs_dict F.slot_dict_values F.type_dict_values (thn (he.run pins s σ H _ I h) fun u s1 ⟨x, H1, I1, rx, d, kvs, ex, hd, q⟩ => ?_)
  subst ex
  obtain rfl : u = Value.ref d := rx
  obtain ⟨_, hs, vs, kv, dd⟩ := (show ObjOk X.prog X.w H1 s1.heap d (.dK kvs) from I1.hok d _ hd)
  obtain ⟨es, ep, raw, _⟩ := dd.raw
  refine ⟨raw.typeIs, fun b q => ?_, ?_⟩
  · cases q; obtain ⟨ob, ho, hx, _⟩ := raw; exact ⟨ob, ho, hx.2.1⟩
  have I2 : Inv X pins σ (upd H1 s1.heap.objs.size (HOx s1.heap.objs.size (viewO d))) { s1 with heap := s1.heap.push (viewO d) } := I1.laid (t' := s1.toks) (fun _ _ q => Heap.get?_push_of_some _ q) (Nat.le_refl _) (okx (Heap.get?_push_size _ rfl))
  show wpAny _ _ (callWith cpos (.builtin "dict.values") [.ref d] [] []) _ X.xe s1
  exact method_meetsIn F.slot_dict_values F.entry_dict_values rfl (PySem.evalArgs_none ⟨rfl, raw.typeIs, F.args_dict_values_1 _, _, meets_dict_values_raw d hs, ⟨⟨es, ep, raw⟩, .ref s1.heap.objs.size, _, I2, rfl, q _ (I1.hok.fresh (Nat.le_refl _))⟩⟩)
theorem call_sumX : CallR X (.builtin "sum") (fun xs H Q => ∃ v d kvs S, xs = [.ref v] ∧ X.calm = true ∧ H v = some (HOx v (viewO d)) ∧ H d = some (.dK kvs) ∧ FOk kvs S ∧ Q (.int ((S : Nat) : Int)) H) := by
  intro pins s σ H xs us Q I r h
  obtain ⟨v, d, kvs, S, rfl, hc, hv, hd, fo, q⟩ := h
  rw [Vals.ref1 r]
  obtain ⟨_, hs, vs, kv, dd⟩ := (show ObjOk X.prog X.w H s.heap d (.dK kvs) from I.hok d _ hd)
  obtain ⟨es, ep, raw, hsz, hat⟩ := dd.raw
  have ov := objx I hv
  obtain ⟨ns, hn1, hn2⟩ := fo.vs
  have hl1 : kvs.length = vs.length := Paired.length kv
  have hl2 : kvs.length = ns.length := by have := congrArg List.length hn1; simpa using this
  have hval : ∀ (i : Nat) (hi : i < es.size), ∃ n t, ns[i]? = some n ∧ es[i].val = .int ((n : Nat) : Int) t := fun i hi => by
    have hik : i < kvs.length := by omega
    obtain ⟨u', h4, h5⟩ := kv_get kv (i := i) (k := kvs[i].1) (v := kvs[i].2) (by simp [hik])
    have h3 := (hat i hi _ _ h4).2
    have h6 : (kvs.map (·.2))[i]? = some kvs[i].2 := by rw [List.getElem?_map]; simp [hik]
    rw [hn1, List.getElem?_map] at h6
    cases h7 : ns[i]? with
    | none => rw [h7] at h6; cases h6
    | some n =>
      rw [h7] at h6
      have h8 : kvs[i].2 = V.int (n : Int) := (Option.some.inj h6).symm
      rw [h8] at h5
      obtain ⟨t, h9⟩ := h5
      exact ⟨n, t, rfl, by rw [h3, h9]⟩
  refine sum_src (K := KdlSrc.rawValues (r := v) (d := d) (es := es) (ep := ep)) (I.ok.hd hc) ⟨⟨_, ov, rfl, rfl⟩, raw⟩ (fun i => ((ns.getD i 0 : Nat) : Int)) (fun i x hx => ?_) fun h' tk t' hk => ?_
  · obtain ⟨hi, rfl⟩ := hx
    obtain ⟨n, t, h1, h2⟩ := hval i hi
    exact ⟨t, by rw [h2]; show _ = Value.int ((ns.getD i 0 : Nat) : Int) t; rw [List.getD_eq_getElem?_getD, h1]; rfl⟩
  · have e1 : es.size = ns.length := by omega
    rw [e1, preSum_eq ns _ (fun i n h => by rw [List.getD_eq_getElem?_getD, h]; rfl), hn2]
    exact ⟨.int (S : Int), H, I.kept hk, ⟨t', rfl⟩, q⟩
end
/-- a def that hands back a new dict of sizes -/
def SpO (K : PySem.W.Frag) (n : Nat) (pre : List PD → Nat → Nat → Prop) : Sp := fun vs H Q _ => ∃ F ds S L, Same F H ∧ DpAll K F vs ds ∧ ds.length = n ∧ pre ds S L ∧
  ∀ p u F' H' F1, Grow F H F' H' → H p = none → F' p = none → H' p = some u → Same F1 F' → FR S L p F1 u → Q (.ref p) H'
section
variable {X : Cx} {e : Expr} {es : List Expr} {Γ : List (Option PD)} {ds : List PD} {k : Nat} {x : Str} {ps : List Str} {n S L : Nat} {pos p p2 apos cpos ppos : Pos}
theorem E.sumCall {pre : List PD → Nat → Nat → Prop} (D : DefOk X.prog X.w X.K X.mg X.base k x ps (SpO X.K n pre)) (hr : Room k X.A) (ha : A X (e :: es) Γ ds) (h : pre ds S L) (hm : X.mg "sum" = none) (hn : ds.length = n := by rfl) (hc : X.calm = true := by rfl) (hg : Gl X x := by rfl) (hgs : Gl X "sum" := by rfl) (hdb : (x == ("__debug__" : Str)) = false := by decide)
    (he : starEach (e :: es) X.env = (false, eval e X.env) :: starEach es X.env := by rfl) (hpl : (backTo pos (starEach es X.env)).any (·.1) = false := by rfl)
    (hbase : attributeBase (.Call (.Name x p) (e :: es) [] pos) "values" X.env (eval (.Call (.Name x p) (e :: es) [] pos) X.env) = eval (.Call (.Name x p) (e :: es) [] pos) X.env := by rfl) (hline : (apos.endLine == cpos.line) = true := by rfl)
    (he2 : starEach [.Call (.Attribute (.Call (.Name x p) (e :: es) [] pos) "values" apos) [] [] cpos] X.env = (false, eval (.Call (.Attribute (.Call (.Name x p) (e :: es) [] pos) "values" apos) [] [] cpos) X.env) :: starEach [] X.env := by rfl) :
    Ck.E X (.Call (.Name "sum" p2) [.Call (.Attribute (.Call (.Name x p) (e :: es) [] pos) "values" apos) [] [] cpos] [] ppos) Γ (Ck.nat S) := by
  obtain ⟨f, fd, F, hmf, hk, hb⟩ := D.ex
  refine E.mk (pe_callB call_sumX hgs hm (by decide +kernel) (pa_cons (pe_valuesX (pe_call F hr hg hmf hk hb .nil pass0 (pa_sem X) hdb he hpl) hbase hline) pa_nil he2) (he := he2) (hpl := rfl)) fun F0 σ H s Ee Q q => ha F0 σ H s Ee _ fun vs F1 H1 g1 hvs => ?_
  refine ⟨F1, ds, S, L, g1.s, by rw [List.append_nil]; exact hvs, hn, h, fun pp u F2 H2 Fx g2 hp hF hH sx hfr => ?_⟩
  obtain ⟨kvs, rfl, fo, _⟩ := hfr
  refine ⟨pp, kvs, rfl, hH, fun v hv => ?_⟩
  have nv : pp ≠ v := ne_of_none hH hv
  have gg := g1.trans g2
  refine ⟨v, pp, kvs, S, rfl, hc, upd_same, by rw [upd_ne nv]; exact hH, fo, ?_⟩
  exact q _ F2 _ (gg.trans (Grow.heap g2.s (same_upd hv))) (.int _)
end
section
variable {P : Program} {w : World} {K : PySem.W.Frag} {mg : Str → Option Value} {base : Heap}
theorem DefOk.makeO {x qual : Str} {st : Stmt} {f : Addr} {fd : FuncData} {N ps : List Str} {k : Nat} {pre : List PD → Nat → Nat → Prop} (F : Fun K x qual st f fd) (hm : mg x = some (.ref f)) (b : Binds K fd ps []) (S : FnScope N ps (defScope st))
    (body : ∀ (cdv : Value) (A : Around) (outer : List Env) (s : Shared) (H : Hp) (E : XK), Room k (A.deeper (envOfC qual (defScope st) s.heap.objs.size f cdv)) → ∀ ds T L, pre ds T L → ds.length = ps.length →
      Ss (bodyX P w K mg base N qual st f cdv A outer s H E) (defBody st) (startG N.length ds) { nx := fun _ => False, rt := fun _ _ => False, ro := fun R => R = FR T L }) : DefOk P w K mg base (k + 1) x ps (SpO K ps.length pre) := by
  refine ⟨f, fd, F.ok S (fun vs H Q E h => ?_) (fun cdv A outer s H vs Q E hr h => ?_), hm, F.kp, b⟩
  · obtain ⟨F, ds, S, L, _, h, hn, _⟩ := h
    rw [dpA_len h, hn]
  · obtain ⟨F1, ds, T, L, hs, hvs, hn, hp, k⟩ := h
    refine ⟨_, pss_sem _, body cdv A outer s H E hr ds T L hp hn F1 H F1 (L2.start N vs) H _ (Grow.refl hs) (ok_start hvs) ⟨fun Γ' σ' F' H' z => z.elim, fun Γ' σ' F' H' z => z.elim, fun Γ' σ' F' H' z => z.elim, fun d' Γ' v σ' F' H' z => z.elim, fun ds' p xs F' H' z => z.elim, fun R p u F' H' F2 z s' g' h1 h2 h3 h4 h5 => ?_⟩⟩
    subst z; exact k p u F' H' F2 g' h1 h2 h3 h4 h5
end
end Ck

set_option Elab.async false
set_option linter.all false
set_option maxRecDepth 100000
set_option maxHeartbeats 4000000
/-! enumerate of a list; (x,) * n; a list of ours frozen. -/
namespace Ck
open PySem PySem.Spec PyProof.Rows L2

theorem IT.enumL {X : Cx} {e : Expr} {Γ : List (Option PD)} {ds : List PD} {p pos : Pos} {elts : List Expr} {kk : Nat} {tpos : Pos} (h : E X e Γ (.list ds)) (hm : X.mg "enumerate" = none) (hg : Gl X "enumerate" := by rfl) (hs1 : starEach [e] X.env = (false, eval e X.env) :: starEach [] X.env := by rfl) (hs2 : starEach [e] X.env = [(false, eval e X.env)] := by rfl) :
    IT X (.Tuple elts kk tpos) (.Call (.Name "enumerate" p) [e] [] pos) Γ (ds.zipIdx.map fun q => .tuple [nat q.2, q.1]) :=
  IT.mk (pi_enum hg hm (pa_sem X) hs2) fun F σ H s Ee R q => (A.cons h A.nil hs1) F σ H s Ee _ fun vs F1 H1 g hd => by
    cases hd with
    | cons hd hs =>
      cases hs
      obtain ⟨a, xs, rfl, hx, hxs⟩ := dp_lst hd
      refine ⟨a, xs, rfl, g.s.seq hx, q _ F1 H1 g ?_⟩
      have e1 := dpA_len hxs
      have w := walk_enum (K := X.K) (a := a) (xs := xs)
      refine ⟨fun i H hi s => w.goes i H (by rw [List.length_map, List.length_zipIdx] at hi; omega) (s.seq hx), fun H s => ?_, fun i H x H' d F2 hd s s2 y => ?_⟩
      · have := w.stops H (s.seq hx)
        rw [List.length_map, List.length_zipIdx, ← e1]; exact this
      · have hi : i < xs.length := by
          have := (List.getElem?_eq_some_iff.mp hd).1
          rw [List.length_map, List.length_zipIdx] at this; omega
        obtain ⟨T, u, v, rfl, hT, rfl, hu, hv⟩ := w.yields i H x H' hi ((s.trans s2).seq hx) y
        cases hu
        obtain ⟨dv, hdv, hpv⟩ := dpA_getV hxs hv
        rw [List.getElem?_map, List.getElem?_zipIdx, hdv] at hd
        simp at hd
        subst hd
        exact ⟨upd F2 T (.tup [.int (i : Nat), v]), Grow.new s2 hT, .tup (SqT.of upd_same) (.cons (.int _) (.cons (dp_mono (s.trans (same_upd (s2.free hT))) hpv) .nil))⟩

theorem tuple_mul1 (l : Addr) (items : Array Value) (n : Nat) (dd : Option Addr) (sl : Array (Option Value)) (u : Tok) :
    Meets (Builtin.«tuple.__mul__» ⟨[.ref l, .int 1 u], []⟩) (fun _ R s => s.heap.get? l = some { cls := .type "tuple", dict := dd, data := .seq items n, slots := sl } ∧
      R (.ok (.ret (Value.ref l))) s) :=
  .of_wp fun prog w A R s h => by
    obtain ⟨hp, g, d, tk, os⟩ := s
    obtain ⟨hl, h⟩ := h
    have f1 := AutoSeq1.idx_int
    wp_walk using wpAny_loadPart' hl
    repeat (first
      | (refine wpAny_ite_false (decide_eq_false (by decide)) ?_; wp_walk using wpAny_loadPart' hl)
      | (refine wpAny_ite_true (decide_eq_true (by simp)) ?_; wp_walk using wpAny_loadPart' hl))
    exact ⟨_, rfl, h⟩
def rRepT1 (K : PySem.W.Frag) : R2 := fun x y H Q => ∃ l xs, x = .ref l ∧ y = .int 1 ∧ SqT K H l xs ∧ Q (.ref l) H
theorem op_repT1 {X : Cx} : OpR X (binaryOp .Mult) (rRepT1 X.K) := by
  intro pins s σ H x y v u Q I rx ry h
  obtain ⟨l, xs, rfl, rfl, hT, q⟩ := h
  cases rx
  obtain ⟨t, rfl⟩ := ry
  obtain ⟨its, r, ⟨⟨cls, dd, data, sl⟩, ho, hc, n, hd⟩, hs⟩ := I.tuple hT
  simp only at hc hd
  subst hc hd
  exact wpAny_binaryOp_repeat_ref (T := "tuple") (U := "int") (by decide) ⟨_, ho, rfl⟩ (fun s' => typeIs_int s' 1 t) noFill_tuple_mul F.fills_int_mul F.slot_int_rmul repeat_tuple F.slot_int_index.lookup
    (call_meets F.slot_int_rmul (typeIs_int s 1 t) F.entry_int_rmul (F.args_int_rmul_2 _ _) (int_rmul_tuple 1 t l its.toArray n dd sl)
      ⟨ho, rfl, ⟨_, ho, rfl⟩, call_meets F.slot_tuple_mul ⟨_, ho, rfl⟩ F.entry_tuple_mul (F.args_tuple_mul_2 _ _) (tuple_mul1 l its.toArray n dd sl t) ⟨ho, ⟨.ref l, H, I.tok _, rfl, q⟩⟩⟩)
theorem rep_map {K : PySem.W.Frag} {F : Hp} {v : V} {d : PD} (h : Dp K F v d) : ∀ n : Nat, DpAll K F (List.replicate n [v]).flatten (List.replicate n d)
  | 0 => .nil
  | n + 1 => by rw [List.replicate_succ, List.flatten_cons, List.replicate_succ]; exact .cons h (rep_map h n)
theorem E.repT {X : Cx} {e1 e2 : Expr} {Γ : List (Option PD)} {d : PD} {n : Nat} {pos : Pos} (ha : E X e1 Γ (.tuple [d])) (hb : E X e2 Γ (Ck.nat n)) (h1 : 1 ≤ n) (h2 : n ≤ 1000) : E X (.BinOp e1 .Mult e2 pos) Γ (.tuple (List.replicate n d)) := by
  by_cases h : n = 1
  · subst h
    refine E.mk (pe_op op_repT1 (pe_sem X) (pe_sem X)) fun F σ H s Ee Q q => ha F σ H s Ee _ fun v F1 H1 g1 hd => hb F1 σ H1 g1.s (Ee.mono g1.f) _ fun v2 F2 H2 g2 hd2 => ?_
    obtain ⟨l, xs, rfl, hx, hxs⟩ := dp_tup hd
    refine ⟨l, xs, rfl, dp_int hd2, seqT (g1.s.trans g2.h) hx, q _ F2 H2 (g1.trans g2) (dp_mono g2.f hd)⟩
  · refine E.mk (pe_op op_repT (pe_sem X) (pe_sem X)) fun F σ H s Ee Q q => ha F σ H s Ee _ fun v F1 H1 g1 hd => hb F1 σ H1 g1.s (Ee.mono g1.f) _ fun v2 F2 H2 g2 hd2 => ?_
    obtain ⟨l, xs, rfl, hx, hxs⟩ := dp_tup hd
    cases hxs with
    | cons hx1 hxs =>
      cases hxs
      refine ⟨l, (n : Int), _, rfl, dp_int hd2, seqT (g1.s.trans g2.h) hx, by simp, by omega, by omega, by simp, fun p hp => ?_⟩
      exact q _ (upd F2 p _) _ ((g1.trans g2).trans (Grow.new g2.s hp)) (.tup (SqT.of upd_same) (dpA_mono (same_upd (g2.s.free hp)) (rep_map (dp_mono g2.f hx1) n)))

/-- a list of ours, never written again, is a value -/
theorem Ss.frz {X : Cx} {Γ : List Sl} {P : Post} {sts : List Stmt} {ds : List PD} (i : Nat) (hi : Γ[i]? = some (.own ds)) (h : Ss X sts (Γ.set i (.val (.list ds))) P) : Ss X sts Γ P := by
  intro F0 H0 F σ H D g o q
  obtain ⟨l, xs, hσ, h0, hF, hH, hxs⟩ := o.own i ds hi
  have sF : Same F (upd F l (.lst xs)) := same_upd hF
  have g1 : Grow F0 H0 (upd F l (.lst xs)) H := g.freeze h0 hH hF
  have nl : ∀ (j : Nat) (b : Sl) (l' : Addr), i ≠ j → Γ[j]? = some b → b.isOwn = true → σ[j]? = some (some (.ref l')) → l' ≠ l := fun j b l' hij hj hb hs e => by
    subst e
    exact hij (o.sep i j _ b l' hi hj rfl hb hσ hs)
  refine h F0 H0 _ σ H D g1 ⟨by rw [List.length_set]; exact o.len, fun j d e => ?_, fun j es e => ?_, fun j R e => ?_, fun j k a b l' e1 e2 o1 o2 s1 s2 => ?_⟩ (q.mono sF)
  · rcases get_set e with ⟨e1, e2, _⟩ | ⟨e1, e2⟩
    · subst e1; cases e2
      exact ⟨_, hσ, .lst (SqL.of upd_same) (dpA_mono sF hxs)⟩
    · obtain ⟨v, a, b⟩ := o.val j d e2
      exact ⟨v, a, dp_mono sF b⟩
  · rcases get_set e with ⟨e1, e2, _⟩ | ⟨e1, e2⟩
    · cases e2
    · obtain ⟨l', ys, a, b, c, d, f⟩ := o.own j es e2
      exact ⟨l', ys, a, b, by rw [upd_ne (nl j _ l' e1 e2 rfl a)]; exact c, d, dpA_mono sF f⟩
  · rcases get_set e with ⟨e1, e2, _⟩ | ⟨e1, e2⟩
    · cases e2
    · obtain ⟨l', u, a, b, c, d, F1, s1, r⟩ := o.obj j R e2
      exact ⟨l', u, a, b, by rw [upd_ne (nl j _ l' e1 e2 rfl a)]; exact c, d, F1, s1.trans sF, r⟩
  · rcases get_set e1 with ⟨_, e1', _⟩ | ⟨n1, e1'⟩
    · subst e1'; cases o1
    · rcases get_set e2 with ⟨_, e2', _⟩ | ⟨n2, e2'⟩
      · subst e2'; cases o2
      · exact o.sep j k a b l' e1' e2' o1 o2 s1 s2
end Ck

set_option Elab.async false
set_option linter.all false
set_option maxRecDepth 100000
namespace Ck
open PySem PySem.Spec PyProof.Rows L2

def divF (n : Nat) : List Nat := ((List.range n).map (1 + ·)).filter fun d => decide (n % d = 0)
theorem mem_div {n d : Nat} : d ∈ divF n ↔ 1 ≤ d ∧ d ≤ n ∧ d ∣ n := by
  simp only [divF, List.mem_filter, List.mem_map, List.mem_range, decide_eq_true_eq]
  constructor
  · rintro ⟨⟨i, hi, rfl⟩, h⟩
    exact ⟨by omega, by omega, Nat.dvd_of_mod_eq_zero h⟩
  · rintro ⟨h1, h2, h3⟩
    exact ⟨⟨d - 1, by omega, by omega⟩, Nat.mod_eq_zero_of_dvd h3⟩
theorem div_len : ∀ n, n < 25 → (divF n).length ≤ 8 := by decide +kernel
theorem div_nodup (n : Nat) : (divF n).Nodup := by
  refine List.Nodup.sublist List.filter_sublist ?_
  rw [List.nodup_iff_pairwise_ne, List.pairwise_map]
  exact List.Pairwise.imp (fun h => by omega) (List.nodup_iff_pairwise_ne.mp List.nodup_range)
abbrev Ch := Nat × Nat × Nat
@[reducible] def dCh (c : Ch) : PD := .tuple [nat c.1, nat c.2.1, nat c.2.2]
def choiceF (h m fl d : Nat) : Ch := if m = 1 then (d, primeTo (fl / d) 1, h / fl) else (d, 1, primeTo (fl / d) m * (h / fl) ^ m)
def choicesF (h m fl : Nat) : List Ch := (divF fl).map (choiceF h m fl)
section
variable {P : Program} {w : World} {K : PySem.W.Frag} {mg : Str → Option Value} {base : Heap}
abbrev s_divisors : Stmt := top 48
abbrev N_divisors : List Str := ["number", "one"]
theorem sc_divisors : FnScope N_divisors ["number"] (defScope s_divisors) := ⟨rfl, rfl, rfl, by decide +kernel, rfl, by decide +kernel, by decide +kernel⟩
def pre_divisors (ds : List PD) (d : PD) : Prop := ∃ n : Nat, ds = [nat n] ∧ n ≤ 24 ∧ d = dLst (divF n)
abbrev Divisors (P : Program) (w : World) (K : PySem.W.Frag) (mg : Str → Option Value) (base : Heap) : Prop := DefOk P w K mg base 1 "divisors" ["number"] (SpP K 1 pre_divisors)
theorem ok_divisors {f : Addr} {fd : FuncData} (F : Fun K "divisors" "divisors" s_divisors f fd) (hm : mg "divisors" = some (.ref f)) (b : Binds K fd ["number"] []) (B : Bt mg) : Divisors P w K mg base := by
  refine DefOk.make F hm b sc_divisors fun cdv A0 outer s H xk hr ds d hp hl => ?_
  obtain ⟨n, rfl, hn, rfl⟩ := hp
  refine Ss.one (S.ret (EF.ev (EF.lcOf (LC.mk' [("one", 1)] ((List.range n).map (1 + ·)) nat (fun d => decide (n % d = 0)) nat (fun d => [(1, nat d)])
    (IT.is (IT.range2 (m := 1) (n := n + 1) (E.nat 1) (E.addN (E.v 0) (E.nat 1)) (by omega) B.range) (by rw [List.map_map]; rfl))
    (blkOk_by (N := N_divisors) (sc := defScope s_divisors) (by decide +kernel)) (by simp) (by simp; omega)
    (fun k _ s H C cl fp => G.name 1 sc_divisors.nd) (fun k hk s H C cl fp => Ts.one (T.eqN (E.modN (E.v 0) (E.v 1) (by
      obtain ⟨i, _, rfl⟩ := List.mem_map.mp hk; omega)) (E.nat 0))) (fun k _ _ s H C cl fp => E.v 1)) sc_divisors.nd)) rfl)

abbrev s_choices : Stmt := top 49
abbrev N_choices : List Str := ["hours", "part", "flow", "found", "one", "size", "k"]
theorem sc_choices : FnScope N_choices ["hours", "part", "flow"] (defScope s_choices) := ⟨rfl, rfl, rfl, by decide +kernel, rfl, by decide +kernel, by decide +kernel⟩
def pre_choices (ds : List PD) (d : PD) : Prop := ∃ (h fl : Nat) (part : List Nat), ds = [nat h, dTup part, nat fl] ∧ h ≤ 24 ∧ 1 ≤ fl ∧ fl ≤ 24 ∧ 1 ≤ part.length ∧ part.length ≤ 6 ∧ d = .list ((choicesF h part.length fl).map dCh)
abbrev Choices (P : Program) (w : World) (K : PySem.W.Frag) (mg : Str → Option Value) (base : Heap) : Prop := DefOk P w K mg base 2 "choices" ["hours", "part", "flow"] (SpP K 3 pre_choices)
theorem ok_choices {f : Addr} {fd : FuncData} (F : Fun K "choices" "choices" s_choices f fd) (hm : mg "choices" = some (.ref f)) (b : Binds K fd ["hours", "part", "flow"] []) (B : Bt mg) (D : Divisors P w K mg base) (D2 : Prime_to P w K mg base) : Choices P w K mg base := by
  refine DefOk.make F hm b sc_choices fun cdv A0 outer s H xk hr ds d hp hl => ?_
  obtain ⟨h, fl, part, rfl, h1, h2, h3, h4, h5, rfl⟩ := hp
  have hdl := div_len fl (by omega)
  refine Ss.to (S.asgF 3 sc_choices.nd (EF.lst A.nil) rfl) ?_
  let acc : Nat → List PD := fun i => ((divF fl).take i).map fun d => dCh (choiceF h part.length fl d)
  refine Ss.cons (M := fun Γ => ∃ s1 s2 s3, Γ = [.val (nat h), .val (dTup part), .val (nat fl), .own ((choicesF h part.length fl).map dCh), s1, s2, s3])
    (S.for_ PassesOwn.never (IT.list (E.call D (hr.mono (by decide)) (A.cons (E.v 2) A.nil) ⟨fl, rfl, h3, rfl⟩)) (fun i Γ => ∃ s1 s2 s3, Γ = [.val (nat h), .val (dTup part), .val (nat fl), .own (acc i), s1, s2, s3]) ⟨_, _, _, rfl⟩ ?_ ?_) ?_
  · rintro i d _ hdi ⟨s1, s2, s3, rfl⟩
    obtain ⟨x, hx, rfl⟩ := map_get hdi
    obtain ⟨hx1, hx2, hx3⟩ := mem_div.mp (get_mem hx)
    have hacc : acc (i + 1) = acc i ++ [dCh (choiceF h part.length fl x)] := by
      show List.map _ _ = List.map _ _ ++ _
      rw [take_snoc hx, List.map_append]; rfl
    have hal : (acc i).length ≤ 100000 := by
      show (List.map _ _).length ≤ _
      rw [List.length_map, List.length_take]; omega
    have hq1 : 1 ≤ fl / x := Nat.div_pos hx2 hx1
    have hq2 : fl / x ≤ 24 := Nat.le_trans (Nat.div_le_self _ _) h3
    refine ⟨_, G.name 4 sc_choices.nd, ?_⟩
    refine Ss.one (S.ite (T.eqN (E.lenT B.len (E.v 1)) (E.nat 1)) (fun hy => ?_) fun hy => ?_)
    · have hy : part.length = 1 := by simpa using hy
      refine Ss.one (S.app 3 (ds := acc i) rfl (Src.v (E.tup (A.cons (E.v 4) (A.cons (E.call D2 (hr.mono (by decide)) (A.cons (E.fdivN (E.v 2) (E.v 4) (by omega)) (A.cons (E.nat 1) A.nil)) ⟨fl / x, 1, rfl, hq1, hq2, by omega, rfl⟩) (A.cons (E.fdivN (E.v 0) (E.v 2) (by omega)) A.nil))))) hal ?_)
      rw [hacc]
      unfold choiceF
      rw [if_pos hy]
      exact ⟨_, _, _, rfl⟩
    · have hy : ¬ part.length = 1 := by simpa using hy
      refine Ss.to (S.asg 5 sc_choices.nd (E.call D2 (hr.mono (by decide)) (A.cons (E.fdivN (E.v 2) (E.v 4) (by omega)) (A.cons (E.lenT B.len (E.v 1)) A.nil)) ⟨fl / x, part.length, by rw [List.length_map], hq1, hq2, by omega, rfl⟩) rfl) ?_
      refine Ss.cons (M := fun Γ => ∃ s3, Γ = [.val (nat h), .val (dTup part), .val (nat fl), .own (acc i), .val (nat x), .val (nat (primeTo (fl / x) part.length * (h / fl) ^ part.length)), s3])
        (S.for_ PassesOwn.never (IT.tup (E.v 1)) (fun i1 Γ => ∃ s3, Γ = [.val (nat h), .val (dTup part), .val (nat fl), .own (acc i), .val (nat x), .val (nat (primeTo (fl / x) part.length * (h / fl) ^ i1)), s3]) ⟨s3, by simp [setS]⟩ ?_ ?_) ?_
      · rintro i1 d _ hdi ⟨s3, rfl⟩
        obtain ⟨k, hk, rfl⟩ := map_get hdi
        refine ⟨_, G.name 6 sc_choices.nd, ?_⟩
        refine Ss.one (S.aug 5 sc_choices.nd iop_mul rfl (E.fdivN (E.v 0) (E.v 2) (by omega)) (rv_mulN (a := primeTo (fl / x) part.length * (h / fl) ^ i1) (b := h / fl) (.inr (Nat.lt_of_le_of_lt (Nat.div_le_self _ _) (by omega)))) ?_)
        rw [Nat.mul_assoc, ← Nat.pow_succ]
        exact ⟨_, rfl⟩
      · rintro _ ⟨s3, rfl⟩
        exact ⟨s3, by rw [List.length_map]⟩
      rintro _ ⟨s3, rfl⟩
      refine Ss.one (S.app 3 (ds := acc i) rfl (Src.v (E.tup (A.cons (E.v 4) (A.cons (E.nat 1) (A.cons (E.v 5) A.nil))))) hal ?_)
      rw [hacc]
      unfold choiceF
      rw [if_neg hy]
      exact ⟨_, _, _, rfl⟩
  · rintro _ ⟨s1, s2, s3, rfl⟩
    refine ⟨s1, s2, s3, ?_⟩
    have e : acc ((divF fl).map nat).length = (choicesF h part.length fl).map dCh := by
      show List.map _ _ = _
      rw [List.length_map, List.take_length, choicesF, List.map_map]; rfl
    rw [e]
  · rintro _ ⟨s1, s2, s3, rfl⟩
    exact Ss.one (S.retFr (E.v 3) rfl)
end
end Ck

set_option Elab.async false
set_option linter.all false
set_option maxRecDepth 100000
namespace Ck
open PySem PySem.Spec PyProof.Rows L2

/-! ### the mirror of the table of classes -/
abbrev Rw := List (Kt × Nat)
def freshF (fl : List Nat) (at' : Nat) (below : List Nat) (d : Nat) : List Nat := below.foldl (fun l k => l.set k (Nat.gcd (l.getD k 0) d)) (fl.set at' 0)
noncomputable def belowF (n : Nat) (ar : Arr) (order : List (List Nat)) (at' : Nat) (part : List Nat) : List Nat :=
  ((List.range (order.length - (at' + 1))).map (at' + 1 + ·)).filter fun k => decide (part.getD 0 0 ∈ aboveF n ar ((order.getD k []).getD 0 0))
def addC (fl : List Nat) (at' : Nat) (below : List Nat) (sz v : Nat) (m : Rw) (c : Ch) : Rw := addK m (freshF fl at' below c.1, sz * c.2.2) (v * c.2.1)
def addR (h at' : Nat) (below : List Nat) (pl : Nat) (m : Rw) (r : Kt × Nat) : Rw := (choicesF h pl (r.1.1.getD at' 0)).foldl (addC r.1.1 at' below r.1.2 r.2) m
def stepF (h at' : Nat) (below : List Nat) (pl : Nat) (rows : Rw) : Rw := rows.foldl (addR h at' below pl) []
noncomputable def rowsF (n : Nat) (ar : Arr) (h : Nat) : Nat → Rw
  | 0 => [((List.replicate (orderF n ar).length h, 1), 1)]
  | at' + 1 => stepF h at' (belowF n ar (orderF n ar) at' ((orderF n ar).getD at' [])) ((orderF n ar).getD at' []).length (rowsF n ar h at')
noncomputable def classRows (n : Nat) (ar : Arr) (h : Nat) : Rw := rowsF n ar h (orderF n ar).length
noncomputable def classF (n : Nat) (ar : Arr) (h : Nat) : Nat := ((classRows n ar h).map (·.2)).sum

theorem lookK_of {rows : Rw} : ∀ {i : Nat} {r : Kt × Nat}, (rows.map (·.1)).Nodup → rows[i]? = some r → lookK rows r.1 = some r.2 := by
  induction rows with
  | nil => intro i r _ h; simp at h
  | cons p t ih =>
    intro i r nd h
    rw [List.map_cons, List.nodup_cons] at nd
    rw [lookK_cons]
    cases i with
    | zero => simp at h; subst h; simp
    | succ j =>
      simp only [List.getElem?_cons_succ] at h
      rw [if_neg]
      · exact ih nd.2 h
      · intro e
        exact nd.1 (by rw [e]; exact List.mem_map_of_mem (get_mem h))
theorem lookK_none {rows : Rw} {k : Kt} (h : lookK rows k = none) : k ∉ rows.map (·.1) := by
  intro hm
  obtain ⟨p, hp, rfl⟩ := List.mem_map.mp hm
  unfold lookK at h
  rw [Option.map_eq_none_iff, List.find?_eq_none] at h
  exact h p hp (by simp)
theorem lookK_some {rows : Rw} {k : Kt} {v : Nat} (h : lookK rows k = some v) : (k, v) ∈ rows := by
  unfold lookK at h
  rw [Option.map_eq_some_iff] at h
  obtain ⟨p, h1, rfl⟩ := h
  have h2 := List.find?_some h1
  simp only [decide_eq_true_eq] at h2
  subst h2
  exact List.mem_of_find?_eq_some h1
theorem setK_keys (m : Rw) (k : Kt) (v : Nat) : (setK m k v).map (·.1) = if (lookK m k).isSome then m.map (·.1) else m.map (·.1) ++ [k] := by
  unfold setK
  split
  · rw [List.map_map]
    refine List.map_congr_left fun a _ => ?_
    show (if a.1 = k then (a.1, v) else a).1 = a.1
    split <;> rfl
  · rw [List.map_append]; rfl
theorem setK_nd {m : Rw} {k : Kt} {v : Nat} (h : (m.map (·.1)).Nodup) : ((setK m k v).map (·.1)).Nodup := by
  rw [setK_keys]
  cases e : lookK m k with
  | some x => exact h
  | none =>
    rw [if_neg (by simp)]
    rw [List.nodup_append]
    refine ⟨h, by simp, fun a ha b hb e2 => ?_⟩
    have : b = k := by simpa using hb
    subst this e2
    exact lookK_none e ha
theorem setK_mem {m : Rw} {k a : Kt} {v : Nat} (h : a ∈ (setK m k v).map (·.1)) : a ∈ m.map (·.1) ∨ a = k := by
  rw [setK_keys] at h
  cases e : lookK m k with
  | some x => rw [e] at h; exact .inl h
  | none =>
    rw [e, if_neg (by simp)] at h
    rcases List.mem_append.mp h with h | h
    · exact .inl h
    · exact .inr (by simpa using h)

structure KeyOk (L at' : Nat) (fl : List Nat) : Prop where
  len : fl.length = L
  pos : ∀ k, at' ≤ k → k < L → 1 ≤ fl.getD k 0 ∧ fl.getD k 0 ≤ 24
theorem getD_set {xs : List Nat} {i j a d : Nat} : (xs.set i a).getD j d = if i = j ∧ j < xs.length then a else xs.getD j d := by
  rw [List.getD_eq_getElem?_getD, List.getD_eq_getElem?_getD, List.getElem?_set]
  by_cases h : i = j
  · subst h
    by_cases hl : i < xs.length
    · simp [hl]
    · simp [hl, List.getElem?_eq_none (show xs.length ≤ i by omega)]
  · simp [h]
theorem fresh_fold {L at' d : Nat} (hd : 1 ≤ d) : ∀ (below : List Nat) (fl : List Nat), KeyOk L at' fl → KeyOk L at' (below.foldl (fun l k => l.set k (Nat.gcd (l.getD k 0) d)) fl)
  | [], fl, h => h
  | k :: ks, fl, h => by
    refine fresh_fold hd ks _ ⟨by rw [List.length_set]; exact h.len, fun j h1 h2 => ?_⟩
    obtain ⟨p1, p2⟩ := h.pos j h1 h2
    rw [getD_set]
    split
    · rename_i hk
      obtain ⟨rfl, _⟩ := hk
      exact ⟨Nat.gcd_pos_of_pos_right _ (by omega), Nat.le_trans (Nat.le_of_dvd (by omega) (Nat.gcd_dvd_left _ _)) p2⟩
    · exact ⟨p1, p2⟩
theorem KeyOk.fresh {L at' d : Nat} {fl : List Nat} (hd : 1 ≤ d) (h : KeyOk L at' fl) (below : List Nat) : KeyOk L (at' + 1) (freshF fl at' below d) :=
  fresh_fold hd below _ ⟨by rw [List.length_set]; exact h.len, fun j h1 h2 => by
    rw [getD_set, if_neg (by omega)]
    exact h.pos j (by omega) h2⟩
structure RowsOk (L at' : Nat) (rows : Rw) : Prop where
  nd : (rows.map (·.1)).Nodup
  key : ∀ k ∈ rows.map (·.1), KeyOk L at' k.1
theorem RowsOk.nil {L at' : Nat} : RowsOk L at' [] := ⟨by simp, by simp⟩
theorem RowsOk.add {L at' v : Nat} {m : Rw} {k : Kt} (h : RowsOk L at' m) (hk : KeyOk L at' k.1) : RowsOk L at' (addK m k v) :=
  ⟨setK_nd h.nd, fun a ha => by
    rcases setK_mem ha with h1 | rfl
    · exact h.key a h1
    · exact hk⟩
theorem mem_choices {h m fl : Nat} {c : Ch} (hc : c ∈ choicesF h m fl) : 1 ≤ c.1 ∧ c.1 ≤ fl ∧ c.1 ∣ fl := by
  obtain ⟨d, hd, rfl⟩ := List.mem_map.mp hc
  have := mem_div.mp hd
  unfold choiceF
  split <;> exact this
theorem RowsOk.addCs {L at' : Nat} {below : List Nat} {r : Kt × Nat} (hr : KeyOk L at' r.1.1) : ∀ {cs : List Ch} {m : Rw}, (∀ c ∈ cs, 1 ≤ c.1) → RowsOk L (at' + 1) m → RowsOk L (at' + 1) (cs.foldl (addC r.1.1 at' below r.1.2 r.2) m)
  | [], m, _, hm => hm
  | c :: cs, m, hc, hm => RowsOk.addCs (cs := cs) (m := addC r.1.1 at' below r.1.2 r.2 m c) hr (fun c hc' => hc c (List.mem_cons_of_mem _ hc')) (hm.add (k := (freshF r.1.1 at' below c.1, r.1.2 * c.2.2)) (hr.fresh (hc c (by simp)) below))
theorem RowsOk.add1 {L at' h pl : Nat} {below : List Nat} {m : Rw} {r : Kt × Nat} (hr : KeyOk L at' r.1.1) (hm : RowsOk L (at' + 1) m) : RowsOk L (at' + 1) (addR h at' below pl m r) :=
  RowsOk.addCs hr (fun c hc => (mem_choices hc).1) hm
theorem RowsOk.fold {L at' h pl : Nat} {below : List Nat} : ∀ {rs : Rw} {m : Rw}, (∀ r ∈ rs, KeyOk L at' r.1.1) → RowsOk L (at' + 1) m → RowsOk L (at' + 1) (rs.foldl (addR h at' below pl) m)
  | [], m, _, hm => hm
  | r :: rs, m, hr, hm => RowsOk.fold (rs := rs) (m := addR h at' below pl m r) (fun q hq => hr q (List.mem_cons_of_mem _ hq)) (RowsOk.add1 (hr r (by simp)) hm)
theorem RowsOk.step {L at' h pl : Nat} {below : List Nat} {rows : Rw} (o : RowsOk L at' rows) : RowsOk L (at' + 1) (stepF h at' below pl rows) :=
  RowsOk.fold (fun r hr => o.key _ (List.mem_map_of_mem hr)) RowsOk.nil
theorem rows_ok {n : Nat} {ar : Arr} {h : Nat} (h1 : 1 ≤ h) (h2 : h ≤ 24) : ∀ at', RowsOk (orderF n ar).length at' (rowsF n ar h at')
  | 0 => ⟨by simp [rowsF], fun k hk => by
      have : k = (List.replicate (orderF n ar).length h, 1) := by simpa [rowsF] using hk
      subst this
      refine ⟨by simp, fun j _ hj => ?_⟩
      rw [List.getD_eq_getElem?_getD, List.getElem?_replicate, if_pos hj]
      exact ⟨h1, h2⟩⟩
  | at' + 1 => (rows_ok h1 h2 at').step
theorem addCs_len {at' : Nat} {below : List Nat} {fl : List Nat} {sz v : Nat} : ∀ (cs : List Ch) (m : Rw), (cs.foldl (addC fl at' below sz v) m).length ≤ m.length + cs.length
  | [], m => by simp
  | c :: cs, m => by
    have h1 := addCs_len (at' := at') (below := below) (fl := fl) (sz := sz) (v := v) cs (addC fl at' below sz v m c)
    have h2 : (addC fl at' below sz v m c).length ≤ m.length + 1 := setK_len _ _ _
    rw [List.foldl_cons, List.length_cons]
    omega
theorem choices_len {h m fl : Nat} (hf : fl ≤ 24) : (choicesF h m fl).length ≤ 8 := by
  rw [choicesF, List.length_map]; exact div_len fl (by omega)
theorem addRs_len {h at' pl : Nat} {below : List Nat} : ∀ (rs : Rw) (m : Rw), (∀ r ∈ rs, r.1.1.getD at' 0 ≤ 24) → (rs.foldl (addR h at' below pl) m).length ≤ m.length + 8 * rs.length
  | [], m, _ => by simp
  | r :: rs, m, hr => by
    have h1 := addRs_len (h := h) (at' := at') (pl := pl) (below := below) rs (addR h at' below pl m r) (fun q hq => hr q (List.mem_cons_of_mem _ hq))
    have h2 : (addR h at' below pl m r).length ≤ m.length + (choicesF h pl (r.1.1.getD at' 0)).length := addCs_len _ _
    have h3 := choices_len (h := h) (m := pl) (hr r (by simp))
    rw [List.foldl_cons, List.length_cons]
    omega
theorem rows_len {n : Nat} {ar : Arr} {h : Nat} (h1 : 1 ≤ h) (h2 : h ≤ 24) : ∀ at', at' ≤ (orderF n ar).length → (rowsF n ar h at').length ≤ 8 ^ at'
  | 0, _ => by simp [rowsF]
  | at' + 1, hl => by
    have ih := rows_len (n := n) (ar := ar) h1 h2 at' (by omega)
    have o := rows_ok (n := n) (ar := ar) h1 h2 at'
    have := addRs_len (h := h) (at' := at') (pl := ((orderF n ar).getD at' []).length) (below := belowF n ar (orderF n ar) at' ((orderF n ar).getD at' [])) (rowsF n ar h at') [] (fun r hr => ((o.key _ (List.mem_map_of_mem hr)).pos at' (Nat.le_refl _) (by omega)).2)
    show (stepF _ _ _ _ _).length ≤ _
    unfold stepF
    rw [Nat.pow_succ]
    simp only [List.length_nil] at this
    omega
theorem choice_small {h m fl : Nat} {c : Ch} (hc : c ∈ choicesF h m fl) (hh : h ≤ 24) (h1 : 1 ≤ fl) (h2 : fl ≤ 24) (hm : m ≤ 6) : c.2.1 < 2 ^ 64 ∧ c.2.2 < 2 ^ 64 := by
  obtain ⟨d, hd, rfl⟩ := List.mem_map.mp hc
  obtain ⟨d1, d2, d3⟩ := mem_div.mp hd
  have q1 : 1 ≤ fl / d := Nat.div_pos d2 d1
  have q2 : fl / d ≤ 24 := Nat.le_trans (Nat.div_le_self _ _) h2
  have q3 : h / fl ≤ 24 := Nat.le_trans (Nat.div_le_self _ _) hh
  unfold choiceF
  split
  · exact ⟨Nat.lt_of_le_of_lt (primeTo_le q1 q2 (by omega)) (by decide), Nat.lt_of_le_of_lt q3 (by decide)⟩
  · refine ⟨by show 1 < 2 ^ 64; decide, ?_⟩
    have a := primeTo_le q1 q2 hm
    have b : (h / fl) ^ m ≤ 24 ^ 6 := Nat.le_trans (Nat.pow_le_pow_left q3 _) (Nat.pow_le_pow_right (by decide) hm)
    exact Nat.lt_of_le_of_lt (Nat.mul_le_mul a b) (by decide)
end Ck

set_option Elab.async false
set_option linter.all false
set_option maxRecDepth 100000
set_option maxHeartbeats 8000000
namespace Ck
open PySem PySem.Spec PyProof.Rows L2

section
variable {P : Program} {w : World} {K : PySem.W.Frag} {mg : Str → Option Value} {base : Heap}
abbrev s_class_table : Stmt := top 50
abbrev N_class_table : List Str := ["web", "hours", "order", "rows", "at", "part", "k", "below", "more", "flows", "size", "one", "marks", "dials", "fresh", "key", "found"]
theorem sc_class_table : FnScope N_class_table ["web", "hours"] (defScope s_class_table) := ⟨rfl, rfl, rfl, by decide +kernel, rfl, by decide +kernel, by decide +kernel⟩
def pre_class_table (ds : List PD) (T L : Nat) : Prop := ∃ n ar h, ds = [dWeb n ar, nat h] ∧ WebOk n ar ∧ 1 ≤ h ∧ h ≤ 24 ∧ T = classF n ar h ∧ L = (classRows n ar h).length
abbrev Class_table (P : Program) (w : World) (K : PySem.W.Frag) (mg : Str → Option Value) (base : Heap) : Prop := DefOk P w K mg base 5 "class_table" ["web", "hours"] (SpO K 2 pre_class_table)
theorem order_ne {n : Nat} {ar : Arr} (h1 : 1 ≤ n) : 1 ≤ (orderF n ar).length := by
  obtain ⟨ho, _, _⟩ := order_ok n ar
  by_cases e : orderF n ar = []
  · exfalso
    rw [e] at ho
    have hp : partsF n ar ≠ [] := List.ne_nil_of_mem (mem_parts.mpr ⟨0, h1, rfl⟩)
    unfold ordLoop at ho
    rw [if_neg hp] at ho
    cases hf : (partsF n ar).find? (pOk (aboveF n ar) []) with
    | none => rw [hf] at ho; cases ho
    | some p =>
      rw [hf] at ho
      have grow : ∀ (m : Nat) (left found out : List (List Nat)), ordLoop (aboveF n ar) m left found = some out → found.length ≤ out.length := fun m => by
        induction m with
        | zero => intro l f o h; cases h
        | succ m ih =>
          intro l f o h
          unfold ordLoop at h
          split at h
          · cases h; exact Nat.le_refl _
          · split at h
            · have := ih _ _ _ h
              rw [List.length_append] at this
              omega
            · cases h
      have := grow _ _ _ _ ho
      simp at this
  · exact List.length_pos_iff.mpr e
theorem ok_class_table {f : Addr} {fd : FuncData} (F : Fun K "class_table" "class_table" s_class_table f fd) (hm : mg "class_table" = some (.ref f)) (b : Binds K fd ["web", "hours"] []) (B : Bt mg) (D : In_order P w K mg base) (D2 : Above_in P w K mg base) (D3 : Choices P w K mg base) (D4 : Gcd P w K mg base) : Class_table P w K mg base := by
  refine DefOk.makeO F hm b sc_class_table fun cdv A0 outer s H xk hr ds T L hp hl => ?_
  obtain ⟨n, ar, h, rfl, ok, h1, h2, rfl, rfl⟩ := hp
  have hhi := ok.hi
  obtain ⟨_, hop, hol⟩ := order_ok n ar
  have hon := order_ne (n := n) (ar := ar) ok.lo
  have rok := rows_ok (n := n) (ar := ar) h1 h2
  have rln := rows_len (n := n) (ar := ar) h1 h2
  have p6 : ∀ i, i ≤ 6 → (8 : Nat) ^ i ≤ 262144 := fun i hi => Nat.le_trans (Nat.pow_le_pow_right (by decide) hi) (by decide)
  have ob : ∀ {p : List Nat}, p ∈ orderF n ar → PartOk n p := fun hp => parts_ok (hop _ hp)
  refine Ss.to (S.asg 2 sc_class_table.nd (E.call D hr (A.cons (E.v 0) A.nil) ⟨n, ar, rfl, ok, rfl⟩) rfl) ?_
  refine Ss.to (S.set 3 sc_class_table.nd (Src.xone (hu64 hr) (k := (List.replicate (orderF n ar).length h, 1)) (n := 1) (E.tup (A.cons (E.is (E.repT (E.tup (A.cons (E.v 1) A.nil)) (E.lenL B.len (E.v 2)) (by rw [List.length_map]; exact hon) (by rw [List.length_map]; omega)) (by rw [List.length_map, List.map_replicate])) (A.cons (E.nat 1) A.nil))) (E.nat 1)) rfl) ?_
  refine Ss.cons (M := fun Γ => ∃ s4 s5 s6 s7 s8 s9 s10 s11 s12 s13 s14 s15 s16, Γ = [.val (dWeb n ar), .val (nat h), .val (.list ((orderF n ar).map dTup)), .obj (DR P w K (classRows n ar h)), s4, s5, s6, s7, s8, s9, s10, s11, s12, s13, s14, s15, s16])
    (S.for_ PassesOwn.never (IT.enumL (E.v 2) B.enum) (fun i Γ => ∃ s4 s5 s6 s7 s8 s9 s10 s11 s12 s13 s14 s15 s16, Γ = [.val (dWeb n ar), .val (nat h), .val (.list ((orderF n ar).map dTup)), .obj (DR P w K (rowsF n ar h i)), s4, s5, s6, s7, s8, s9, s10, s11, s12, s13, s14, s15, s16]) ⟨_, _, _, _, _, _, _, _, _, _, _, _, _, rfl⟩ ?_ ?_) ?_
  · rintro i d _ hdi ⟨s4, s5, s6, s7, s8, s9, s10, s11, s12, s13, s14, s15, s16, rfl⟩
    obtain ⟨p, hp, rfl⟩ : ∃ p, (orderF n ar)[i]? = some p ∧ d = .tuple [nat i, dTup p] := by
      rw [List.getElem?_map, List.getElem?_zipIdx, List.getElem?_map] at hdi
      cases e : (orderF n ar)[i]? with
      | none => rw [e] at hdi; cases hdi
      | some p => rw [e] at hdi; simp at hdi; exact ⟨p, rfl, hdi.symm⟩
    have hi : i < (orderF n ar).length := (List.getElem?_eq_some_iff.mp hp).1
    have hpo := ob (get_mem hp)
    have hp0 : p[0]? = some (p.getD 0 0) := by
      cases p with
      | nil => exact absurd rfl hpo.ne
      | cons a r => rfl
    have hpD : (orderF n ar).getD i [] = p := getD_get hp
    have hpl : 1 ≤ p.length := List.length_pos_iff.mpr hpo.ne
    have hpl6 : p.length ≤ 6 := Nat.le_trans hpo.few hhi
    have rk := rok i
    refine ⟨_, G.tup2 (G.name 4 sc_class_table.nd) (G.name 5 sc_class_table.nd), ?_⟩
    let bl := belowF n ar (orderF n ar) i p
    have hblr : ∀ k ∈ bl, k < (orderF n ar).length := fun k hk => by
      have := (List.mem_filter.mp hk).1
      obtain ⟨j, hj, rfl⟩ := List.mem_map.mp this
      have := List.mem_range.mp hj
      omega
    refine Ss.to (S.asgLcV 7 sc_class_table.nd (ds := bl.map nat) (LC.mk' [("k", 6)] ((List.range ((orderF n ar).length - (i + 1))).map (i + 1 + ·)) nat (fun k => decide (p.getD 0 0 ∈ aboveF n ar (((orderF n ar).getD k []).getD 0 0))) nat (fun k => [(6, nat k)])
      (IT.is (IT.range2 (m := i + 1) (n := (orderF n ar).length) (E.addN (E.v 4) (E.nat 1)) (E.is (E.lenL B.len (E.v 2)) (by rw [List.length_map])) (by omega) B.range) (by rw [List.map_map]; rfl))
      (blkOk_by (N := N_class_table) (sc := defScope s_class_table) (by decide +kernel)) (by simp) (by simp; omega)
      (fun k _ s H C cl fp => G.name 6 sc_class_table.nd) (fun k hk s H C cl fp => ?_) (fun k _ _ s H C cl fp => E.v 6)) rfl) ?_
    · obtain ⟨j, hj, rfl⟩ := List.mem_map.mp hk
      have hj := List.mem_range.mp hj
      have hkl : i + 1 + j < (orderF n ar).length := by omega
      have hq : (orderF n ar)[i + 1 + j]? = some ((orderF n ar).getD (i + 1 + j) []) := by rw [List.getD_eq_getElem?_getD]; simp [hkl]
      have hqo := ob (get_mem hq)
      have hq0 : ((orderF n ar).getD (i + 1 + j) [])[0]? = some (((orderF n ar).getD (i + 1 + j) []).getD 0 0) := by
        cases e : (orderF n ar).getD (i + 1 + j) [] with
        | nil => exact absurd e hqo.ne
        | cons a r => rfl
      refine Ts.one (T.inL Enc.nat (hu65 hr) (E.ixT (E.v 5) (E.nat 0) (by rw [List.getElem?_map, hp0]; rfl)) (E.call D2 (hr.mono (by decide)) (A.cons (E.v 0) (A.cons (E.ixT (E.ixL (E.v 2) (E.v 6) (by rw [List.getElem?_map, hq]; rfl)) (E.nat 0) (by rw [List.getElem?_map, hq0]; rfl)) A.nil)) ⟨n, ar, _, rfl, ok, hqo.lt _ (get_mem hq0), rfl⟩))
    refine Ss.to (S.set 8 sc_class_table.nd Src.xnew rfl) ?_
    let rws := rowsF n ar h i
    have hrl : rws.length ≤ 262144 := Nat.le_trans (rln i (by omega)) (p6 i (by omega))
    let acc : Nat → Rw := fun k => (rws.take k).foldl (addR h i bl p.length) []
    refine Ss.cons (M := fun Γ => ∃ s6 s9 s10 s11 s12 s13 s14 s15 s16 d o, Γ = [.val (dWeb n ar), .val (nat h), .val (.list ((orderF n ar).map dTup)), .obj (DRx P w K rws d o), .val (nat i), .val (dTup p), s6, .val (.list (bl.map nat)), .obj (DR P w K (rowsF n ar h (i + 1))), s9, s10, s11, s12, s13, s14, s15, s16])
      (S.forKeys 3 PassesOwn.never rfl (fun d o k Γ => ∃ s6 s9 s10 s11 s12 s13 s14 s15 s16, Γ = [.val (dWeb n ar), .val (nat h), .val (.list ((orderF n ar).map dTup)), .obj (DRx P w K rws d o), .val (nat i), .val (dTup p), s6, .val (.list (bl.map nat)), .obj (DR P w K (acc k)), s9, s10, s11, s12, s13, s14, s15, s16])
        (fun d o => ⟨_, _, _, _, _, _, _, _, _, rfl⟩) ?_ ?_ ?_) ?_
    · rintro d o k _ ⟨_, _, _, _, _, _, _, _, _, rfl⟩; rfl
    · rintro d o k ⟨⟨fl, sz⟩, v⟩ _ hkv ⟨s6, s9, s10, s11, s12, s13, s14, s15, s16, rfl⟩
      have hko : KeyOk (orderF n ar).length i fl := rk.key (fl, sz) (List.mem_map_of_mem (get_mem hkv))
      have hlk : lookK rws (fl, sz) = some v := lookK_of rk.nd hkv
      have hkl : k < rws.length := (List.getElem?_eq_some_iff.mp hkv).1
      obtain ⟨hf1, hf2⟩ := hko.pos i (Nat.le_refl _) hi
      have hfi : fl[i]? = some (fl.getD i 0) := by
        have : i < fl.length := by rw [hko.len]; exact hi
        rw [List.getD_eq_getElem?_getD]; simp [this]
      let cs := choicesF h p.length (fl.getD i 0)
      have hcl : cs.length ≤ 8 := choices_len hf2
      have hal : (acc k).length ≤ 8 * k := by
        have := addRs_len (h := h) (at' := i) (pl := p.length) (below := bl) (rws.take k) [] (fun r hr => ((rk.key _ (List.mem_map_of_mem (List.mem_of_mem_take hr))).pos i (Nat.le_refl _) hi).2)
        rw [List.length_take] at this
        simp only [List.length_nil] at this
        have e : (acc k).length = (List.foldl (addR h i bl p.length) [] (List.take k rws)).length := rfl
        omega
      let ac2 : Nat → Rw := fun j => (cs.take j).foldl (addC fl i bl sz v) (acc k)
      refine ⟨_, G.tup2 (G.name 9 sc_class_table.nd) (G.name 10 sc_class_table.nd), ?_⟩
      refine Ss.one (S.for_ PassesOwn.never (IT.list (E.call D3 (hr.mono (by decide)) (A.cons (E.v 1) (A.cons (E.v 5) (A.cons (E.ixT (E.v 9) (E.v 4) (by rw [List.getElem?_map, hfi]; rfl)) A.nil))) ⟨h, fl.getD i 0, p, rfl, h2, hf1, hf2, hpl, hpl6, rfl⟩))
        (fun j Γ => ∃ s6 s11 s12 s13 s14 s15, Γ = [.val (dWeb n ar), .val (nat h), .val (.list ((orderF n ar).map dTup)), .obj (DRx P w K rws d o), .val (nat i), .val (dTup p), s6, .val (.list (bl.map nat)), .obj (DR P w K (ac2 j)), .val (.tuple (fl.map nat)), .val (nat sz), s11, s12, s13, s14, s15, s16])
        ⟨_, _, _, _, _, _, rfl⟩ ?_ ?_)
      · rintro j d1 _ hdj ⟨s6, s11, s12, s13, s14, s15, rfl⟩
        obtain ⟨c, hc, rfl⟩ := map_get hdj
        have hcm := get_mem hc
        obtain ⟨c1, c2, c3⟩ := mem_choices hcm
        obtain ⟨c4, c5⟩ := choice_small hcm h2 hf1 hf2 hpl6
        have hjl : j < cs.length := (List.getElem?_eq_some_iff.mp hc).1
        have ha2 : (ac2 j).length ≤ 10000000 := by
          have := addCs_len (at' := i) (below := bl) (fl := fl) (sz := sz) (v := v) (cs.take j) (acc k)
          rw [List.length_take] at this
          have e : (ac2 j).length = (List.foldl (addC fl i bl sz v) (acc k) (List.take j cs)).length := rfl
          omega
        have hac2 : ac2 (j + 1) = addC fl i bl sz v (ac2 j) c := foldl_snoc _ _ hc
        refine ⟨_, G.tup3 (G.name 11 sc_class_table.nd) (G.name 12 sc_class_table.nd) (G.name 13 sc_class_table.nd), ?_⟩
        refine Ss.to (S.asgF 14 sc_class_table.nd (EF.listOf B.list (E.v 9)) rfl) ?_
        refine Ss.to (S.setIx 14 i (ds := fl.map nat) rfl (Src.v (E.nat 0)) (Src.v (E.v 4)) (by rw [List.length_map, hko.len]; exact hi) rfl) ?_
        let fr : Nat → List Nat := fun j => (bl.take j).foldl (fun l k => l.set k (Nat.gcd (l.getD k 0) c.1)) (fl.set i 0)
        have hfr : ∀ j, (fr j).length = (orderF n ar).length := fun j => by
          have := fresh_fold (L := (orderF n ar).length) (at' := i + 1) (d := c.1) c1 (bl.take j) (fl.set i 0) ⟨by rw [List.length_set]; exact hko.len, fun j h1 h2 => by
            rw [getD_set, if_neg (by omega)]
            exact hko.pos j (by omega) h2⟩
          exact this.len
        refine Ss.cons (M := fun Γ => ∃ s6, Γ = [.val (dWeb n ar), .val (nat h), .val (.list ((orderF n ar).map dTup)), .obj (DRx P w K rws d o), .val (nat i), .val (dTup p), s6, .val (.list (bl.map nat)), .obj (DR P w K (ac2 j)), .val (.tuple (fl.map nat)), .val (nat sz), .val (nat c.1), .val (nat c.2.1), .val (nat c.2.2), .own ((freshF fl i bl c.1).map nat), s15, s16])
          (S.for_ PassesOwn.never (IT.list (E.v 7)) (fun m Γ => ∃ s6, Γ = [.val (dWeb n ar), .val (nat h), .val (.list ((orderF n ar).map dTup)), .obj (DRx P w K rws d o), .val (nat i), .val (dTup p), s6, .val (.list (bl.map nat)), .obj (DR P w K (ac2 j)), .val (.tuple (fl.map nat)), .val (nat sz), .val (nat c.1), .val (nat c.2.1), .val (nat c.2.2), .own ((fr m).map nat), s15, s16])
            ⟨s6, by simp [fr, setS]⟩ ?_ ?_) ?_
        · rintro m d2 _ hdm ⟨s6, rfl⟩
          obtain ⟨q, hq, rfl⟩ := map_get hdm
          have hql := hblr q (get_mem hq)
          have hfq : (fr m)[q]? = some ((fr m).getD q 0) := by
            have : q < (fr m).length := by rw [hfr]; exact hql
            rw [List.getD_eq_getElem?_getD]; simp [this]
          have hfrm : fr (m + 1) = (fr m).set q (Nat.gcd ((fr m).getD q 0) c.1) := foldl_snoc _ _ hq
          refine ⟨_, G.name 6 sc_class_table.nd, ?_⟩
          refine Ss.one (S.setIx 14 q (ds := (fr m).map nat) rfl (Src.sc (E.call D4 (hr.mono (by decide)) (A.cons (E.ixL (E.v 14) (E.v 6) (by rw [List.getElem?_map, hfq]; rfl)) (A.cons (E.v 11) A.nil)) ⟨(fr m).getD q 0, c.1, rfl, rfl⟩)) (Src.v (E.v 6)) (by rw [List.length_map, hfr]; exact hql) ?_)
          rw [hfrm, List.map_set]
          exact ⟨_, rfl⟩
        · rintro _ ⟨s6, rfl⟩
          refine ⟨s6, ?_⟩
          have e : fr (bl.map nat).length = freshF fl i bl c.1 := by
            show List.foldl _ _ _ = _
            rw [List.length_map, List.take_length]; rfl
          rw [e]
        rintro _ ⟨s6, rfl⟩
        refine Ss.frz 14 rfl ?_
        refine Ss.to (S.asg 15 sc_class_table.nd (d := dKey (freshF fl i bl c.1, sz * c.2.2)) (E.tup (A.cons (E.tupleOf B.tuple (E.v 14)) (A.cons (E.mulN (E.v 10) (E.v 13) (.inr c5)) A.nil))) rfl) ?_
        refine Ss.one (S.dictAdd 8 15 3 9 10 12 (more := ac2 j) (rows := rws) (key := (freshF fl i bl c.1, sz * c.2.2)) (fl := fl) (sz := sz) (mk := c.2.1) (v := v) (hu64 hr) rfl rfl rfl DRx.is rfl rfl rfl hlk c4 ha2 ?_)
        rw [hac2]
        exact ⟨_, _, _, _, _, _, rfl⟩
      · rintro _ ⟨s6, s11, s12, s13, s14, s15, rfl⟩
        refine ⟨s6, .val (.tuple (fl.map nat)), .val (nat sz), s11, s12, s13, s14, s15, s16, ?_⟩
        have e : ac2 (cs.map dCh).length = acc (k + 1) := by
          have : acc (k + 1) = addR h i bl p.length (acc k) ((fl, sz), v) := foldl_snoc _ _ hkv
          rw [this]
          show List.foldl _ _ _ = _
          rw [List.length_map, List.take_length]; rfl
        rw [e]
    · rintro d o _ ⟨s6, s9, s10, s11, s12, s13, s14, s15, s16, rfl⟩
      refine ⟨s6, s9, s10, s11, s12, s13, s14, s15, s16, d, o, ?_⟩
      have e : acc rws.length = rowsF n ar h (i + 1) := by
        show List.foldl _ _ _ = stepF _ _ _ _ _
        rw [List.take_length, hpD]; rfl
      rw [e]
    rintro _ ⟨s6, s9, s10, s11, s12, s13, s14, s15, s16, d, o, rfl⟩
    exact Ss.one (S.move 3 8 sc_class_table.nd rfl rfl (by decide) ⟨_, _, _, _, _, _, _, _, _, _, _, _, _, rfl⟩)
  · rintro _ ⟨s4, s5, s6, s7, s8, s9, s10, s11, s12, s13, s14, s15, s16, rfl⟩
    refine ⟨s4, s5, s6, s7, s8, s9, s10, s11, s12, s13, s14, s15, s16, ?_⟩
    rw [List.length_map, List.length_zipIdx, List.length_map]
    rfl
  rintro _ ⟨s4, s5, s6, s7, s8, s9, s10, s11, s12, s13, s14, s15, s16, rfl⟩
  let rws := classRows n ar h
  have rk : RowsOk (orderF n ar).length (orderF n ar).length rws := rok (orderF n ar).length
  have hrl : rws.length ≤ 262144 := Nat.le_trans (rln _ (Nat.le_refl _)) (p6 _ (by omega))
  refine Ss.to (S.set 16 sc_class_table.nd Src.fnew rfl) ?_
  let acs : Nat → Nat := fun k => ((rws.take k).map (·.2)).sum
  refine Ss.cons (M := fun Γ => ∃ s4 s5 s6 s7 s8 s9 s10 s11 s12 s13 s14 s15 d o, Γ = [.val (dWeb n ar), .val (nat h), .val (.list ((orderF n ar).map dTup)), .obj (DRx P w K rws d o), s4, s5, s6, s7, s8, s9, s10, s11, s12, s13, s14, s15, .obj (FR (classF n ar h) rws.length)])
    (S.forKeys 3 PassesOwn.never rfl (fun d o k Γ => ∃ s4 s5 s6 s7 s8 s9 s10 s11 s12 s13 s14 s15, Γ = [.val (dWeb n ar), .val (nat h), .val (.list ((orderF n ar).map dTup)), .obj (DRx P w K rws d o), s4, s5, s6, s7, s8, s9, s10, s11, s12, s13, s14, s15, .obj (FR (acs k) k)])
      (fun d o => ⟨_, _, _, _, _, _, _, _, _, _, _, _, rfl⟩) ?_ ?_ ?_) ?_
  · rintro d o k _ ⟨_, _, _, _, _, _, _, _, _, _, _, _, rfl⟩; rfl
  · rintro d o k ⟨⟨fl, sz⟩, v⟩ _ hkv ⟨s4, s5, s6, s7, s8, s9, s10, s11, s12, s13, s14, s15, rfl⟩
    have hlk : lookK rws (fl, sz) = some v := lookK_of rk.nd hkv
    have hkl : k < rws.length := (List.getElem?_eq_some_iff.mp hkv).1
    refine ⟨_, G.tup2 (G.name 9 sc_class_table.nd) (G.name 10 sc_class_table.nd), ?_⟩
    refine Ss.one (S.foundAdd 16 10 3 9 10 (T := acs k) (L := k) (rows := rws) (fl := fl) (sz := sz) (v := v) (hu64 hr) rfl rfl rfl DRx.is rfl rfl hlk (by omega) ?_)
    have e : acs (k + 1) = acs k + v := by
      show List.sum _ = List.sum _ + _
      rw [take_snoc hkv, List.map_append, List.sum_append]; simp; rfl
    rw [← e]
    exact ⟨_, _, _, _, _, _, _, _, _, _, _, _, rfl⟩
  · rintro d o _ ⟨s4, s5, s6, s7, s8, s9, s10, s11, s12, s13, s14, s15, rfl⟩
    refine ⟨s4, s5, s6, s7, s8, s9, s10, s11, s12, s13, s14, s15, d, o, ?_⟩
    have e : acs rws.length = classF n ar h := by
      show List.sum _ = _
      rw [List.take_length]; rfl
    rw [e]
  rintro _ ⟨s4, s5, s6, s7, s8, s9, s10, s11, s12, s13, s14, s15, d, o, rfl⟩
  exact Ss.one (S.retObj 16 rfl rfl)

abbrev s_class_count : Stmt := top 51
theorem sc_class_count : FnScope ["web", "hours"] ["web", "hours"] (defScope s_class_count) := ⟨rfl, rfl, rfl, by decide +kernel, rfl, by decide +kernel, by decide +kernel⟩
def pre_class_count (ds : List PD) (d : PD) : Prop := ∃ n ar h, ds = [dWeb n ar, nat h] ∧ WebOk n ar ∧ 2 ≤ h ∧ h ≤ 24 ∧ d = nat (classF n ar h)
abbrev Class_count (P : Program) (w : World) (K : PySem.W.Frag) (mg : Str → Option Value) (base : Heap) : Prop := DefOk P w K mg base 6 "class_count" ["web", "hours"] (SpP K 2 pre_class_count)
theorem ok_class_count {f : Addr} {fd : FuncData} (F : Fun K "class_count" "class_count" s_class_count f fd) (hm : mg "class_count" = some (.ref f)) (b : Binds K fd ["web", "hours"] []) (B : Bt mg) (D : Need_web P w K mg base) (D2 : Need_hours P w K mg base) (D3 : Class_table P w K mg base) : Class_count P w K mg base := by
  refine DefOk.make F hm b sc_class_count fun cdv A0 outer s H xk hr ds d hp hl => ?_
  obtain ⟨n, ar, h, rfl, ok, h1, h2, rfl⟩ := hp
  refine Ss.to (S.drop (E.call D (hr.mono (by decide)) (A.cons (E.v 0) A.nil) ⟨n, ar, rfl, ok, rfl⟩) rfl) ?_
  refine Ss.to (S.drop (E.call D2 (hr.mono (by decide)) (A.cons (E.v 1) A.nil) ⟨h, rfl, h1, h2, rfl⟩) rfl) ?_
  exact Ss.one (S.ret (E.sumCall D3 hr (A.cons (E.v 0) (A.cons (E.v 1) A.nil)) ⟨n, ar, h, rfl, ok, by omega, h2, rfl, rfl⟩ B.sum) rfl)
end
end Ck

set_option Elab.async false
set_option linter.all false
set_option maxRecDepth 100000
namespace Ck
open PySem PySem.Spec PyProof.Rows L2

/-! ### plain laws: powers of primes -/
def PwSplit (h : Nat) : Bool := match powersF h with | [a] => a == h | [a, b] => Nat.gcd a b == 1 && a * b == h | _ => false
theorem pwSplit : ∀ h, h < 25 → 2 ≤ h → PwSplit h = true := by decide +kernel
theorem pw_cases {h : Nat} (h1 : 2 ≤ h) (h2 : h ≤ 24) : powersF h = [h] ∨ ∃ a b, powersF h = [a, b] ∧ Nat.Coprime a b ∧ a * b = h ∧ 0 < a ∧ 0 < b := by
  have o := pw_ok h1 h2
  have e := pwSplit h (by omega) h1
  unfold PwSplit at e
  split at e
  · rename_i a hp
    left
    rw [hp, beq_iff_eq.mp e]
  · rename_i a b hp
    right
    simp only [Bool.and_eq_true, beq_iff_eq] at e
    have ha := (o.mem a (by rw [hp]; simp)).1
    have hb := (o.mem b (by rw [hp]; simp)).1
    exact ⟨a, b, hp, e.1, e.2, by omega, by omega⟩
  · cases e
def mo (q : Nat) (dl : List Nat) : List Nat := dl.map (· % q)
theorem mo_getD (q : Nat) (dl : List Nat) (k : Nat) : (mo q dl).getD k 0 = dl.getD k 0 % q := by
  unfold mo
  rw [List.getD_eq_getElem?_getD, List.getD_eq_getElem?_getD, List.getElem?_map]
  cases dl[k]? <;> simp
theorem mo_id {q : Nat} {dl : List Nat} (h : ∀ x ∈ dl, x < q) : mo q dl = dl := by
  unfold mo
  conv => rhs; rw [← List.map_id dl]
  exact List.map_congr_left fun x hx => Nat.mod_eq_of_lt (h x hx)
theorem gcd_mod {g a x : Nat} (h : g ∣ a) : Nat.gcd g (x % a) = Nat.gcd g x := by
  apply Nat.dvd_antisymm
  · refine Nat.dvd_gcd (Nat.gcd_dvd_left _ _) ?_
    have h1 : Nat.gcd g (x % a) ∣ x % a := Nat.gcd_dvd_right _ _
    have h2 : Nat.gcd g (x % a) ∣ a := Nat.dvd_trans (Nat.gcd_dvd_left _ _) h
    exact (Nat.dvd_mod_iff h2).mp h1
  · refine Nat.dvd_gcd (Nat.gcd_dvd_left _ _) ?_
    have h1 : Nat.gcd g x ∣ x := Nat.gcd_dvd_right _ _
    have h2 : Nat.gcd g x ∣ a := Nat.dvd_trans (Nat.gcd_dvd_left _ _) h
    exact (Nat.dvd_mod_iff h2).mpr h1
section
variable {a b : Nat}
theorem cop_of (hc : Nat.Coprime a b) {x y : Nat} (hx : x ∣ a) (hy : y ∣ b) : Nat.Coprime x y := Nat.Coprime.coprime_dvd_left hx (Nat.Coprime.coprime_dvd_right hy hc)
theorem fold_mul (hc : Nat.Coprime a b) {dl : List Nat} : ∀ (ks : List Nat) (g1 g2 : Nat), g1 ∣ a → g2 ∣ b →
    ks.foldl (fun g k => Nat.gcd g (dl.getD k 0)) (g1 * g2) = ks.foldl (fun g k => Nat.gcd g ((mo a dl).getD k 0)) g1 * ks.foldl (fun g k => Nat.gcd g ((mo b dl).getD k 0)) g2
  | [], g1, g2, _, _ => rfl
  | k :: ks, g1, g2, h1, h2 => by
    rw [List.foldl_cons, List.foldl_cons, List.foldl_cons]
    have e : Nat.gcd (g1 * g2) (dl.getD k 0) = Nat.gcd g1 ((mo a dl).getD k 0) * Nat.gcd g2 ((mo b dl).getD k 0) := by
      rw [mo_getD, mo_getD, gcd_mod h1, gcd_mod h2, Nat.gcd_comm (g1 * g2), Nat.Coprime.gcd_mul _ (cop_of hc h1 h2), Nat.gcd_comm g1, Nat.gcd_comm g2]
    rw [e]
    exact fold_mul hc ks _ _ (Nat.dvd_trans (Nat.gcd_dvd_left _ _) h1) (Nat.dvd_trans (Nat.gcd_dvd_left _ _) h2)
theorem flow_mul (hc : Nat.Coprime a b) {n : Nat} {ar : Arr} {dl : List Nat} {p : Nat} : flowF n ar (a * b) dl p = flowF n ar a (mo a dl) p * flowF n ar b (mo b dl) p :=
  fold_mul hc _ a b (Nat.dvd_refl _) (Nat.dvd_refl _)
theorem flow_dvd {n h : Nat} {ar : Arr} {dl : List Nat} {p : Nat} : flowF n ar h dl p ∣ h := fold_gcd_dvd _ _
/-- of coprime factors the product tells both -/
theorem mul_inj (hc : Nat.Coprime a b) {x y x' y' : Nat} (hx : x ∣ a) (hy : y ∣ b) (hx' : x' ∣ a) (hy' : y' ∣ b) (e : x * y = x' * y') : x = x' ∧ y = y' := by
  constructor
  · apply Nat.dvd_antisymm
    · exact (cop_of hc hx hy').dvd_of_dvd_mul_right (by rw [← e]; exact Nat.dvd_mul_right _ _)
    · exact (cop_of hc hx' hy).dvd_of_dvd_mul_right (by rw [e]; exact Nat.dvd_mul_right _ _)
  · apply Nat.dvd_antisymm
    · exact (cop_of hc hx' hy).symm.dvd_of_dvd_mul_left (by rw [← e]; exact Nat.dvd_mul_left _ _)
    · exact (cop_of hc hx hy').symm.dvd_of_dvd_mul_left (by rw [e]; exact Nat.dvd_mul_left _ _)
theorem mod_eq_iff_dvd {m x y : Nat} (h : x ≤ y) : x % m = y % m ↔ m ∣ y - x := by
  constructor
  · intro e
    exact Nat.dvd_of_mod_eq_zero (Nat.sub_mod_eq_zero_of_mod_eq e.symm)
  · rintro ⟨c, hc⟩
    have : y = x + m * c := by omega
    rw [this, Nat.add_mul_mod_self_left]
theorem crt_le {x y f g : Nat} (hc : Nat.Coprime f g) (h : x ≤ y) : x % (f * g) = y % (f * g) ↔ x % f = y % f ∧ x % g = y % g := by
  rw [mod_eq_iff_dvd h, mod_eq_iff_dvd h, mod_eq_iff_dvd h]
  constructor
  · intro e
    exact ⟨Nat.dvd_trans (Nat.dvd_mul_right _ _) e, Nat.dvd_trans (Nat.dvd_mul_left _ _) e⟩
  · rintro ⟨e1, e2⟩
    exact hc.mul_dvd_of_dvd_of_dvd e1 e2
theorem crt {x y f g : Nat} (hc : Nat.Coprime f g) : x % (f * g) = y % (f * g) ↔ x % f = y % f ∧ x % g = y % g := by
  rcases Nat.le_total x y with h | h
  · exact crt_le hc h
  · have := crt_le hc h
    constructor
    · intro e; obtain ⟨e1, e2⟩ := this.mp e.symm; exact ⟨e1.symm, e2.symm⟩
    · rintro ⟨e1, e2⟩; exact (this.mpr ⟨e1.symm, e2.symm⟩).symm
theorem mark_iff (hc : Nat.Coprime a b) {n : Nat} {ar : Arr} {dl el p : List Nat} :
    markF n ar (a * b) dl p = markF n ar (a * b) el p ↔ markF n ar a (mo a dl) p = markF n ar a (mo a el) p ∧ markF n ar b (mo b dl) p = markF n ar b (mo b el) p := by
  have d1 := flow_dvd (n := n) (h := a) (ar := ar) (dl := mo a dl) (p := p.getD 0 0)
  have d2 := flow_dvd (n := n) (h := b) (ar := ar) (dl := mo b dl) (p := p.getD 0 0)
  have e1 := flow_dvd (n := n) (h := a) (ar := ar) (dl := mo a el) (p := p.getD 0 0)
  have e2 := flow_dvd (n := n) (h := b) (ar := ar) (dl := mo b el) (p := p.getD 0 0)
  have hfl : flowF n ar (a * b) dl (p.getD 0 0) = flowF n ar (a * b) el (p.getD 0 0) ↔ flowF n ar a (mo a dl) (p.getD 0 0) = flowF n ar a (mo a el) (p.getD 0 0) ∧ flowF n ar b (mo b dl) (p.getD 0 0) = flowF n ar b (mo b el) (p.getD 0 0) := by
    rw [flow_mul hc, flow_mul hc]
    constructor
    · exact mul_inj hc d1 d2 e1 e2
    · rintro ⟨q1, q2⟩; rw [q1, q2]
  unfold markF
  by_cases hl : p.length = 1
  · rw [if_pos hl, if_pos hl, if_pos hl, if_pos hl, if_pos hl, if_pos hl]
    rw [Prod.mk.injEq, Prod.mk.injEq, Prod.mk.injEq, hfl]
    constructor
    · rintro ⟨⟨q1, q2⟩, q3⟩
      rw [flow_mul hc, flow_mul hc, ← q1, ← q2] at q3
      obtain ⟨r1, r2⟩ := (crt (cop_of hc d1 d2)).mp q3
      rw [mo_getD, mo_getD, mo_getD, mo_getD, ← q1, ← q2, Nat.mod_mod_of_dvd _ d1, Nat.mod_mod_of_dvd _ d1, Nat.mod_mod_of_dvd _ d2, Nat.mod_mod_of_dvd _ d2]
      exact ⟨⟨rfl, r1⟩, rfl, r2⟩
    · rintro ⟨⟨q1, r1⟩, q2, r2⟩
      refine ⟨⟨q1, q2⟩, ?_⟩
      rw [flow_mul hc, flow_mul hc, ← q1, ← q2]
      rw [mo_getD, mo_getD, ← q1, Nat.mod_mod_of_dvd _ d1, Nat.mod_mod_of_dvd _ d1] at r1
      rw [mo_getD, mo_getD, ← q2, Nat.mod_mod_of_dvd _ d2, Nat.mod_mod_of_dvd _ d2] at r2
      exact (crt (cop_of hc d1 d2)).mpr ⟨r1, r2⟩
  · rw [if_neg hl, if_neg hl, if_neg hl, if_neg hl, if_neg hl, if_neg hl]
    rw [Prod.mk.injEq, Prod.mk.injEq, Prod.mk.injEq, hfl, flow_mul hc, flow_mul hc, fold_mul hc _ _ _ d1 d2, fold_mul hc _ _ _ e1 e2]
    have m1 := Nat.dvd_trans (fold_gcd_dvd (dl := mo a dl) p (flowF n ar a (mo a dl) (p.getD 0 0))) d1
    have m2 := Nat.dvd_trans (fold_gcd_dvd (dl := mo b dl) p (flowF n ar b (mo b dl) (p.getD 0 0))) d2
    have m3 := Nat.dvd_trans (fold_gcd_dvd (dl := mo a el) p (flowF n ar a (mo a el) (p.getD 0 0))) e1
    have m4 := Nat.dvd_trans (fold_gcd_dvd (dl := mo b el) p (flowF n ar b (mo b el) (p.getD 0 0))) e2
    constructor
    · rintro ⟨⟨q1, q2⟩, q3⟩
      obtain ⟨r1, r2⟩ := mul_inj hc m1 m2 m3 m4 q3
      exact ⟨⟨q1, r1⟩, q2, r2⟩
    · rintro ⟨⟨q1, r1⟩, q2, r2⟩
      exact ⟨⟨q1, q2⟩, by rw [r1, r2]⟩
theorem map_eq_iff {α β : Type} {f g : α → β} : ∀ {xs : List α}, xs.map f = xs.map g ↔ ∀ x ∈ xs, f x = g x
  | [] => by simp
  | x :: xs => by simp [map_eq_iff (xs := xs)]
theorem marks_iff (hc : Nat.Coprime a b) {n : Nat} {ar : Arr} {dl el : List Nat} :
    marksF n ar (a * b) dl = marksF n ar (a * b) el ↔ marksF n ar a (mo a dl) = marksF n ar a (mo a el) ∧ marksF n ar b (mo b dl) = marksF n ar b (mo b el) := by
  unfold marksF
  rw [map_eq_iff, map_eq_iff, map_eq_iff]
  constructor
  · intro h
    exact ⟨fun p hp => ((mark_iff hc).mp (h p hp)).1, fun p hp => ((mark_iff hc).mp (h p hp)).2⟩
  · rintro ⟨h1, h2⟩ p hp
    exact (mark_iff hc).mpr ⟨h1 p hp, h2 p hp⟩

/-! ### counts -/
def PtMul : Bool := (List.range 25).all fun x => (List.range 25).all fun y => (List.range 7).all fun m => !(decide (1 ≤ x) && decide (1 ≤ y) && decide (x * y ≤ 24) && Nat.gcd x y == 1) || primeTo (x * y) m == primeTo x m * primeTo y m
theorem ptMul : PtMul = true := by decide +kernel
theorem primeTo_mul {x y m : Nat} (hc : Nat.Coprime x y) (h1 : 1 ≤ x) (h2 : 1 ≤ y) (h3 : x * y ≤ 24) (h4 : m ≤ 6) : primeTo (x * y) m = primeTo x m * primeTo y m := by
  have hx : x ≤ 24 := Nat.le_trans (Nat.le_mul_of_pos_right x h2) h3
  have hy : y ≤ 24 := Nat.le_trans (Nat.le_mul_of_pos_left y h1) h3
  have k1 := List.all_eq_true.mp ptMul x (List.mem_range.mpr (by omega))
  have k2 := List.all_eq_true.mp k1 y (List.mem_range.mpr (by omega))
  have k3 := List.all_eq_true.mp k2 m (List.mem_range.mpr (by omega))
  have e : (Nat.gcd x y == 1) = true := beq_iff_eq.mpr hc
  rw [decide_eq_true h1, decide_eq_true h2, decide_eq_true h3, e] at k3
  simpa using k3
theorem ways_mul (hc : Nat.Coprime a b) (ha : 0 < a) (hb : 0 < b) (hh : a * b ≤ 24) {n : Nat} {ar : Arr} {dl p : List Nat} (hp : PartOk n p) (hn : n ≤ 6) :
    waysF (a * b) (markF n ar (a * b) dl p) p = waysF a (markF n ar a (mo a dl) p) p * waysF b (markF n ar b (mo b dl) p) p := by
  have d1 := flow_dvd (n := n) (h := a) (ar := ar) (dl := mo a dl) (p := p.getD 0 0)
  have d2 := flow_dvd (n := n) (h := b) (ar := ar) (dl := mo b dl) (p := p.getD 0 0)
  have f1 := flow_pos (n := n) (ar := ar) (dl := mo a dl) (p := p.getD 0 0) ha
  have f2 := flow_pos (n := n) (ar := ar) (dl := mo b dl) (p := p.getD 0 0) hb
  unfold waysF markF
  by_cases hl : p.length = 1
  · rw [if_pos hl, if_pos hl, if_pos hl, if_pos hl, if_pos hl, if_pos hl]
    simp only
    rw [flow_mul hc, Nat.div_mul_div_comm d1 d2]
  · rw [if_neg hl, if_neg hl, if_neg hl, if_neg hl, if_neg hl, if_neg hl]
    simp only
    rw [flow_mul hc, fold_mul hc _ _ _ d1 d2, ← Nat.div_mul_div_comm d1 d2]
    have m1 := fold_gcd_dvd (dl := mo a dl) p (flowF n ar a (mo a dl) (p.getD 0 0))
    have m2 := fold_gcd_dvd (dl := mo b dl) p (flowF n ar b (mo b dl) (p.getD 0 0))
    have g1 := fold_gcd_pos (dl := mo a dl) p _ f1
    have g2 := fold_gcd_pos (dl := mo b dl) p _ f2
    rw [← Nat.div_mul_div_comm m1 m2]
    have c := cop_of hc (Nat.dvd_trans (Nat.div_dvd_of_dvd m1) d1) (Nat.dvd_trans (Nat.div_dvd_of_dvd m2) d2)
    have q1 := Nat.div_pos (Nat.le_of_dvd f1 m1) g1
    have q2 := Nat.div_pos (Nat.le_of_dvd f2 m2) g2
    have b1 := Nat.le_trans (Nat.div_le_self (flowF n ar a (mo a dl) (p.getD 0 0)) (p.foldl (fun g k => Nat.gcd g ((mo a dl).getD k 0)) (flowF n ar a (mo a dl) (p.getD 0 0)))) (Nat.le_of_dvd ha d1)
    have b2 := Nat.le_trans (Nat.div_le_self (flowF n ar b (mo b dl) (p.getD 0 0)) (p.foldl (fun g k => Nat.gcd g ((mo b dl).getD k 0)) (flowF n ar b (mo b dl) (p.getD 0 0)))) (Nat.le_of_dvd hb d2)
    rw [primeTo_mul c q1 q2 (Nat.le_trans (Nat.mul_le_mul b1 b2) hh) (Nat.le_trans hp.few hn), Nat.mul_pow]
    simp only [Nat.mul_assoc, Nat.mul_left_comm, Nat.mul_comm]
theorem foldl_mul {α : Type} {f g k : α → Nat} : ∀ {xs : List α} {c d : Nat}, (∀ x ∈ xs, f x = g x * k x) → xs.foldl (fun acc x => acc * f x) (c * d) = xs.foldl (fun acc x => acc * g x) c * xs.foldl (fun acc x => acc * k x) d
  | [], c, d, _ => rfl
  | x :: xs, c, d, h => by
    rw [List.foldl_cons, List.foldl_cons, List.foldl_cons, h x (by simp)]
    have e : c * d * (g x * k x) = c * g x * (d * k x) := by simp only [Nat.mul_assoc, Nat.mul_left_comm, Nat.mul_comm]
    rw [e]
    exact foldl_mul fun y hy => h y (List.mem_cons_of_mem _ hy)
theorem count_mul (hc : Nat.Coprime a b) (ha : 0 < a) (hb : 0 < b) (hh : a * b ≤ 24) {n : Nat} {ar : Arr} {dl : List Nat} (hn : n ≤ 6) :
    countF n ar (a * b) dl = countF n ar a (mo a dl) * countF n ar b (mo b dl) := by
  unfold countF
  have := foldl_mul (xs := partsF n ar) (c := 1) (d := 1) fun p hp => ways_mul (ar := ar) (dl := dl) hc ha hb hh (parts_ok hp) hn
  exact this
end
end Ck

set_option Elab.async false
set_option linter.all false
set_option maxRecDepth 100000
namespace Ck
open PySem PySem.Spec PyProof.Rows L2

/-! ### the sum of the table of classes -/
def wsum (φ : List Nat → Nat) (m : Rw) : Nat := (m.map fun r => r.2 * φ r.1.1).sum
theorem wsum_nil {φ : List Nat → Nat} : wsum φ [] = 0 := rfl
theorem wsum_cons {φ : List Nat → Nat} {r : Kt × Nat} {m : Rw} : wsum φ (r :: m) = r.2 * φ r.1.1 + wsum φ m := by simp [wsum]
theorem setK_app_none {m : Rw} {k : Kt} {v : Nat} (h : lookK m k = none) : setK m k v = m ++ [(k, v)] := by
  unfold setK; rw [h]; rfl
theorem map_same {m : Rw} {k : Kt} {v : Nat} (h : k ∉ m.map (·.1)) : (m.map fun p => if p.1 = k then (p.1, v) else p) = m := by
  conv => rhs; rw [← List.map_id m]
  refine List.map_congr_left fun a ha => ?_
  rw [if_neg fun e => h (by rw [← e]; exact List.mem_map_of_mem ha)]
  rfl
theorem wsum_map {φ : List Nat → Nat} {k : Kt} {v w : Nat} : ∀ {m : Rw}, (m.map (·.1)).Nodup → lookK m k = some w → wsum φ (m.map fun p => if p.1 = k then (p.1, w + v) else p) = wsum φ m + v * φ k.1
  | [], _, h => by simp [lookK] at h
  | r :: m, nd, h => by
    rw [List.map_cons, List.nodup_cons] at nd
    rw [lookK_cons] at h
    rw [List.map_cons, wsum_cons, wsum_cons]
    by_cases e : r.1 = k
    · rw [if_pos e] at h
      rw [if_pos e, map_same (by rw [← e]; exact nd.1)]
      have : r.2 = w := Option.some.inj h
      rw [← this, e, Nat.add_mul]
      omega
    · rw [if_neg e] at h
      rw [if_neg e, wsum_map nd.2 h]
      omega
theorem wsum_add {φ : List Nat → Nat} {m : Rw} {k : Kt} {v : Nat} (nd : (m.map (·.1)).Nodup) : wsum φ (addK m k v) = wsum φ m + v * φ k.1 := by
  unfold addK
  cases e : lookK m k with
  | none =>
    rw [setK_app_none e]
    simp [wsum]
  | some w =>
    unfold setK
    rw [e]
    exact wsum_map nd e
def csum (φ : List Nat → Nat) (fl : List Nat) (at' : Nat) (below : List Nat) (cs : List Ch) : Nat := (cs.map fun c => c.2.1 * φ (freshF fl at' below c.1)).sum
theorem wsum_addCs {φ : List Nat → Nat} {L at' : Nat} {below : List Nat} {r : Kt × Nat} (hr : KeyOk L at' r.1.1) : ∀ {cs : List Ch} {m : Rw}, (∀ c ∈ cs, 1 ≤ c.1) → RowsOk L (at' + 1) m →
    wsum φ (cs.foldl (addC r.1.1 at' below r.1.2 r.2) m) = wsum φ m + r.2 * csum φ r.1.1 at' below cs
  | [], m, _, _ => by simp [csum]
  | c :: cs, m, hc, hm => by
    have o : RowsOk L (at' + 1) (addC r.1.1 at' below r.1.2 r.2 m c) := RowsOk.addCs (below := below) (r := r) hr (cs := [c]) (m := m) (fun x hx => hc x (by simp at hx; simp [hx])) hm
    rw [List.foldl_cons, wsum_addCs hr (fun x hx => hc x (List.mem_cons_of_mem _ hx)) o]
    have e : wsum φ (addC r.1.1 at' below r.1.2 r.2 m c) = wsum φ m + r.2 * c.2.1 * φ (freshF r.1.1 at' below c.1) := wsum_add hm.nd
    rw [e]
    simp only [csum, List.map_cons, List.sum_cons, Nat.mul_add, Nat.mul_assoc]
    omega
theorem wsum_fold {φ : List Nat → Nat} {L at' h pl : Nat} {below : List Nat} : ∀ {rs : Rw} {m : Rw}, (∀ r ∈ rs, KeyOk L at' r.1.1) → RowsOk L (at' + 1) m →
    wsum φ (rs.foldl (addR h at' below pl) m) = wsum φ m + wsum (fun fl => csum φ fl at' below (choicesF h pl (fl.getD at' 0))) rs
  | [], m, _, _ => by simp [wsum]
  | r :: rs, m, hr, hm => by
    have o := RowsOk.add1 (h := h) (pl := pl) (below := below) (hr r (by simp)) hm
    rw [List.foldl_cons, wsum_fold (fun x hx => hr x (List.mem_cons_of_mem _ hx)) o, wsum_cons]
    have e : wsum φ (addR h at' below pl m r) = wsum φ m + r.2 * csum φ r.1.1 at' below (choicesF h pl (r.1.1.getD at' 0)) := wsum_addCs (hr r (by simp)) (fun c hc => (mem_choices hc).1) hm
    rw [e]
    omega
theorem wsum_step {φ : List Nat → Nat} {L at' h pl : Nat} {below : List Nat} {rows : Rw} (o : RowsOk L at' rows) : wsum φ (stepF h at' below pl rows) = wsum (fun fl => csum φ fl at' below (choicesF h pl (fl.getD at' 0))) rows := by
  unfold stepF
  rw [wsum_fold (fun r hr => o.key _ (List.mem_map_of_mem hr)) RowsOk.nil, wsum_nil, Nat.zero_add]
/-- the weight of a divisor -/
def wt (pl x : Nat) : Nat := if pl = 1 then primeTo x 1 else 1
theorem csum_choices {φ : List Nat → Nat} {fl : List Nat} {at' h pl : Nat} {below : List Nat} {f : Nat} : csum φ fl at' below (choicesF h pl f) = ((divF f).map fun d => wt pl (f / d) * φ (freshF fl at' below d)).sum := by
  unfold csum choicesF
  rw [List.map_map]
  congr 1
  refine List.map_congr_left fun d _ => ?_
  show (choiceF h pl f d).2.1 * φ (freshF fl at' below (choiceF h pl f d).1) = _
  unfold choiceF wt
  split <;> rfl
/-- how many ways from a place on -/
noncomputable def Nf (n : Nat) (ar : Arr) : Nat → Nat → List Nat → Nat
  | 0, _, _ => 1
  | m + 1, at', fl => ((divF (fl.getD at' 0)).map fun d => wt ((orderF n ar).getD at' []).length (fl.getD at' 0 / d) * Nf n ar m (at' + 1) (freshF fl at' (belowF n ar (orderF n ar) at' ((orderF n ar).getD at' [])) d)).sum
theorem rows_sum {n : Nat} {ar : Arr} {h : Nat} (h1 : 1 ≤ h) (h2 : h ≤ 24) : ∀ (m at' : Nat), at' + m = (orderF n ar).length → ((classRows n ar h).map (·.2)).sum = wsum (Nf n ar m at') (rowsF n ar h at')
  | 0, at', e => by
    have : at' = (orderF n ar).length := by omega
    subst this
    unfold wsum classRows
    congr 1
    refine List.map_congr_left fun r _ => ?_
    show r.2 = r.2 * 1
    omega
  | m + 1, at', e => by
    rw [rows_sum h1 h2 m (at' + 1) (by omega)]
    show wsum _ (stepF _ _ _ _ _) = _
    rw [wsum_step (rows_ok h1 h2 at')]
    unfold wsum
    congr 1
    refine List.map_congr_left fun r _ => ?_
    dsimp only
    rw [csum_choices]
    rfl
theorem class_eq {n : Nat} {ar : Arr} {h : Nat} (h1 : 1 ≤ h) (h2 : h ≤ 24) : classF n ar h = Nf n ar (orderF n ar).length 0 (List.replicate (orderF n ar).length h) := by
  unfold classF
  rw [rows_sum h1 h2 (orderF n ar).length 0 (by omega)]
  simp [wsum, rowsF]

/-! ### the product over coprime factors -/
theorem sum_map_mul {α : Type} {c : Nat} {f : α → Nat} : ∀ {xs : List α}, (xs.map fun x => c * f x).sum = c * (xs.map f).sum
  | [] => by simp
  | x :: xs => by
    rw [List.map_cons, List.sum_cons, sum_map_mul, List.map_cons, List.sum_cons, Nat.mul_add]
theorem sum_flat {α β : Type} {f : β → Nat} {g : α → List β} : ∀ {xs : List α}, ((xs.flatMap g).map f).sum = (xs.map fun x => ((g x).map f).sum).sum
  | [] => by simp
  | x :: xs => by
    rw [List.flatMap_cons, List.map_append, List.sum_append, sum_flat, List.map_cons, List.sum_cons]
theorem sum_prod {α β : Type} {f : α → Nat} {g : β → Nat} {ys : List β} : ∀ {xs : List α}, (xs.map fun x => (ys.map fun y => f x * g y).sum).sum = (xs.map f).sum * (ys.map g).sum
  | [] => by simp
  | x :: xs => by
    rw [List.map_cons, List.sum_cons, sum_prod, List.map_cons, List.sum_cons, Nat.add_mul, sum_map_mul]
section
variable {a b : Nat}
theorem div_perm {f g : Nat} (hc : Nat.Coprime f g) (hf : 0 < f) (hg : 0 < g) : (divF (f * g)).Perm ((divF f).flatMap fun x => (divF g).map fun y => x * y) := by
  refine (List.perm_ext_iff_of_nodup (div_nodup _) ?_).mpr fun d => ?_
  · rw [List.nodup_iff_pairwise_ne, List.pairwise_flatMap]
    refine ⟨fun x hx => ?_, ?_⟩
    · rw [List.pairwise_map]
      refine List.Pairwise.imp_of_mem (fun {y z} hy hz hne e => hne ?_) (List.nodup_iff_pairwise_ne.mp (div_nodup g))
      have hx0 := (mem_div.mp hx).1
      exact Nat.eq_of_mul_eq_mul_left hx0 e
    · refine List.Pairwise.imp_of_mem (fun {x x'} hx hx' hne => ?_) (List.nodup_iff_pairwise_ne.mp (div_nodup f))
      intro u hu v hv e
      obtain ⟨y, hy, rfl⟩ := List.mem_map.mp hu
      obtain ⟨y', hy', rfl⟩ := List.mem_map.mp hv
      exact hne (mul_inj hc (mem_div.mp hx).2.2 (mem_div.mp hy).2.2 (mem_div.mp hx').2.2 (mem_div.mp hy').2.2 e).1
  · rw [mem_div, List.mem_flatMap]
    constructor
    · rintro ⟨h1, h2, h3⟩
      refine ⟨Nat.gcd d f, mem_div.mpr ⟨Nat.gcd_pos_of_pos_right _ hf, Nat.le_of_dvd hf (Nat.gcd_dvd_right _ _), Nat.gcd_dvd_right _ _⟩, List.mem_map.mpr ⟨Nat.gcd d g, mem_div.mpr ⟨Nat.gcd_pos_of_pos_right _ hg, Nat.le_of_dvd hg (Nat.gcd_dvd_right _ _), Nat.gcd_dvd_right _ _⟩, ?_⟩⟩
      rw [← Nat.Coprime.gcd_mul _ hc]
      exact Nat.gcd_eq_left h3
    · rintro ⟨x, hx, hy⟩
      obtain ⟨y, hz, rfl⟩ := List.mem_map.mp hy
      obtain ⟨x1, x2, x3⟩ := mem_div.mp hx
      obtain ⟨y1, y2, y3⟩ := mem_div.mp hz
      exact ⟨Nat.mul_pos x1 y1, Nat.mul_le_mul x2 y2, Nat.mul_dvd_mul x3 y3⟩
structure Mu (a b L at' : Nat) (fl f1 f2 : List Nat) : Prop where
  l0 : fl.length = L
  l1 : f1.length = L
  l2 : f2.length = L
  at_ : ∀ k, at' ≤ k → k < L → fl.getD k 0 = f1.getD k 0 * f2.getD k 0 ∧ f1.getD k 0 ∣ a ∧ f2.getD k 0 ∣ b
theorem mu_fold {L at' x y : Nat} (hc : Nat.Coprime a b) (hx : x ∣ a) (hy : y ∣ b) : ∀ (below : List Nat) (fl f1 f2 : List Nat), (∀ k ∈ below, at' ≤ k ∧ k < L) → Mu a b L at' fl f1 f2 →
    Mu a b L at' (below.foldl (fun l k => l.set k (Nat.gcd (l.getD k 0) (x * y))) fl) (below.foldl (fun l k => l.set k (Nat.gcd (l.getD k 0) x)) f1) (below.foldl (fun l k => l.set k (Nat.gcd (l.getD k 0) y)) f2)
  | [], _, _, _, _, h => h
  | k :: ks, fl, f1, f2, hk, h => by
    refine mu_fold hc hx hy ks _ _ _ (fun j hj => hk j (List.mem_cons_of_mem _ hj)) ⟨by rw [List.length_set]; exact h.l0, by rw [List.length_set]; exact h.l1, by rw [List.length_set]; exact h.l2, fun j h1 h2 => ?_⟩
    obtain ⟨e, d1, d2⟩ := h.at_ j h1 h2
    rw [getD_set, getD_set, getD_set]
    by_cases ej : k = j
    · subst ej
      rw [if_pos ⟨rfl, by rw [h.l0]; exact h2⟩, if_pos ⟨rfl, by rw [h.l1]; exact h2⟩, if_pos ⟨rfl, by rw [h.l2]; exact h2⟩]
      refine ⟨?_, Nat.dvd_trans (Nat.gcd_dvd_left _ _) d1, Nat.dvd_trans (Nat.gcd_dvd_left _ _) d2⟩
      have c1 := cop_of hc d1 d2
      have c2 := cop_of hc hx hy
      have c3 := cop_of hc d1 hy
      have c4 := cop_of hc hx d2
      rw [e, Nat.Coprime.gcd_mul _ c2, Nat.gcd_comm _ x, Nat.gcd_comm _ y, Nat.Coprime.gcd_mul _ c1, Nat.Coprime.gcd_mul _ c1]
      rw [show Nat.gcd x (f2.getD k 0) = 1 from c4, show Nat.gcd y (f1.getD k 0) = 1 from c3.symm, Nat.mul_one, Nat.one_mul, Nat.gcd_comm x, Nat.gcd_comm y]
    · rw [if_neg (fun z => ej z.1), if_neg (fun z => ej z.1), if_neg (fun z => ej z.1)]
      exact ⟨e, d1, d2⟩
theorem Mu.fresh {L at' x y : Nat} {below fl f1 f2 : List Nat} (hc : Nat.Coprime a b) (hx : x ∣ a) (hy : y ∣ b) (hk : ∀ k ∈ below, at' + 1 ≤ k ∧ k < L) (h : Mu a b L at' fl f1 f2) : Mu a b L (at' + 1) (freshF fl at' below (x * y)) (freshF f1 at' below x) (freshF f2 at' below y) :=
  mu_fold hc hx hy below _ _ _ hk ⟨by rw [List.length_set]; exact h.l0, by rw [List.length_set]; exact h.l1, by rw [List.length_set]; exact h.l2, fun j h1 h2 => by
    rw [getD_set, getD_set, getD_set, if_neg (by omega), if_neg (by omega), if_neg (by omega)]
    exact h.at_ j (by omega) h2⟩
theorem wt_mul {pl x y : Nat} (hc : Nat.Coprime x y) (h1 : 1 ≤ x) (h2 : 1 ≤ y) (h3 : x * y ≤ 24) : wt pl (x * y) = wt pl x * wt pl y := by
  unfold wt
  split
  · exact primeTo_mul hc h1 h2 h3 (by decide)
  · rfl
theorem Nf_mul (hc : Nat.Coprime a b) (ha : 0 < a) (hb : 0 < b) (hh : a * b ≤ 24) {n : Nat} {ar : Arr} : ∀ (m at' : Nat) (fl f1 f2 : List Nat), at' + m = (orderF n ar).length → Mu a b (orderF n ar).length at' fl f1 f2 →
    Nf n ar m at' fl = Nf n ar m at' f1 * Nf n ar m at' f2
  | 0, _, _, _, _, _, _ => rfl
  | m + 1, at', fl, f1, f2, e, h => by
    obtain ⟨q, d1, d2⟩ := h.at_ at' (Nat.le_refl _) (by omega)
    have p1 := Nat.pos_of_dvd_of_pos d1 ha
    have p2 := Nat.pos_of_dvd_of_pos d2 hb
    have c := cop_of hc d1 d2
    have hbl : ∀ k ∈ belowF n ar (orderF n ar) at' ((orderF n ar).getD at' []), at' + 1 ≤ k ∧ k < (orderF n ar).length := fun k hk => by
      obtain ⟨j, hj, rfl⟩ := List.mem_map.mp (List.mem_filter.mp hk).1
      have := List.mem_range.mp hj
      omega
    show (List.map _ _).sum = (List.map _ _).sum * (List.map _ _).sum
    rw [q, ((div_perm c p1 p2).map _).sum_nat, sum_flat, ← sum_prod]
    congr 1
    refine List.map_congr_left fun x hx => ?_
    rw [List.map_map]
    congr 1
    refine List.map_congr_left fun y hy => ?_
    obtain ⟨x1, x2, x3⟩ := mem_div.mp hx
    obtain ⟨y1, y2, y3⟩ := mem_div.mp hy
    show wt _ (f1.getD at' 0 * f2.getD at' 0 / (x * y)) * Nf n ar m (at' + 1) (freshF fl at' _ (x * y)) = _
    rw [Nf_mul hc ha hb hh m (at' + 1) _ _ _ (by omega) (h.fresh hc (Nat.dvd_trans x3 d1) (Nat.dvd_trans y3 d2) hbl), ← Nat.div_mul_div_comm x3 y3]
    have b1 := Nat.le_trans (Nat.div_le_self (f1.getD at' 0) x) (Nat.le_of_dvd ha d1)
    have b2 := Nat.le_trans (Nat.div_le_self (f2.getD at' 0) y) (Nat.le_of_dvd hb d2)
    rw [wt_mul (cop_of c (Nat.div_dvd_of_dvd x3) (Nat.div_dvd_of_dvd y3)) (Nat.div_pos x2 x1) (Nat.div_pos y2 y1) (Nat.le_trans (Nat.mul_le_mul b1 b2) hh)]
    simp only [Nat.mul_assoc, Nat.mul_left_comm, Nat.mul_comm]
theorem class_mul (hc : Nat.Coprime a b) (ha : 0 < a) (hb : 0 < b) (hh : a * b ≤ 24) {n : Nat} {ar : Arr} : classF n ar (a * b) = classF n ar a * classF n ar b := by
  have l1 : a ≤ 24 := Nat.le_trans (Nat.le_mul_of_pos_right a hb) hh
  have l2 : b ≤ 24 := Nat.le_trans (Nat.le_mul_of_pos_left b ha) hh
  rw [class_eq (Nat.mul_pos ha hb) hh, class_eq ha l1, class_eq hb l2]
  refine Nf_mul hc ha hb hh _ 0 _ _ _ (by omega) ⟨by simp, by simp, by simp, fun k _ hk => ?_⟩
  have e : ∀ x, (List.replicate (orderF n ar).length x).getD k 0 = x := fun x => by rw [List.getD_eq_getElem?_getD, List.getElem?_replicate, if_pos hk]; rfl
  rw [e, e, e]
  exact ⟨rfl, Nat.dvd_refl _, Nat.dvd_refl _⟩
end
end Ck

set_option Elab.async false
set_option linter.all false
set_option maxRecDepth 100000
namespace Ck
open PySem PySem.Spec PyProof.Rows L2

def stepD (h : Nat) (dl : List Nat) (a : Nat × Nat) : List Nat := dl.set a.2 ((dl.getD a.2 0 + dl.getD a.1 0) % h)
def runF (h : Nat) (dl : List Nat) (wd : Arr) : List Nat := wd.foldl (stepD h) dl
theorem mo_step {q h : Nat} (hq : q ∣ h) (dl : List Nat) (a : Nat × Nat) : mo q (stepD h dl a) = stepD q (mo q dl) a := by
  unfold stepD
  rw [mo_getD, mo_getD, ← Nat.add_mod]
  unfold mo
  rw [List.map_set, Nat.mod_mod_of_dvd _ hq]
theorem mo_run {q h : Nat} (hq : q ∣ h) : ∀ (wd : Arr) (dl : List Nat), mo q (runF h dl wd) = runF q (mo q dl) wd
  | [], _ => rfl
  | a :: wd, dl => by
    show mo q (runF h (stepD h dl a) wd) = runF q (stepD q (mo q dl) a) wd
    rw [mo_run hq wd, mo_step hq]
theorem step_len {h : Nat} {dl : List Nat} {a : Nat × Nat} : (stepD h dl a).length = dl.length := by simp [stepD]
theorem step_ok {n h : Nat} {dl : List Nat} {a : Nat × Nat} (hh : 0 < h) (o : DialOk n h dl) : DialOk n h (stepD h dl a) := ⟨by rw [step_len]; exact o.len, fun x hx => by
  rcases List.mem_or_eq_of_mem_set hx with h1 | h1
  · exact o.lt x h1
  · rw [h1]; exact Nat.mod_lt _ hh⟩
theorem run_ok {n h : Nat} (hh : 0 < h) : ∀ (wd : Arr) (dl : List Nat), DialOk n h dl → DialOk n h (runF h dl wd)
  | [], _, o => o
  | a :: wd, dl, o => run_ok hh wd _ (step_ok (a := a) hh o)
theorem mo_ok {n q h : Nat} {dl : List Nat} (hq : 0 < q) (o : DialOk n h dl) : DialOk n q (mo q dl) := ⟨by unfold mo; rw [List.length_map]; exact o.len, fun x hx => by
  obtain ⟨y, _, rfl⟩ := List.mem_map.mp hx
  exact Nat.mod_lt _ hq⟩
theorem getD_map_mo (q : Nat) (t : List (List Nat)) (i : Nat) : (t.map (mo q)).getD i [] = mo q (t.getD i []) := by
  rw [List.getD_eq_getElem?_getD, List.getD_eq_getElem?_getD, List.getElem?_map]
  cases t[i]? <;> simp [mo]
theorem tab_step {q h : Nat} (hq : q ∣ h) (t : List (List Nat)) (a : Nat × Nat) : (tabStep h t a).map (mo q) = tabStep q (t.map (mo q)) a := by
  unfold tabStep
  rw [List.map_set, getD_map_mo, getD_map_mo]
  congr 1
  unfold mo
  rw [List.map_map, zip_maps, List.map_map]
  refine List.map_congr_left fun p _ => ?_
  show (p.1 + p.2) % h % q = (p.1 % q + p.2 % q) % q
  rw [Nat.mod_mod_of_dvd _ hq, ← Nat.add_mod]
theorem unit_mo {q n : Nat} (hq : 2 ≤ q) : (unitF n).map (mo q) = unitF n := by
  unfold unitF
  rw [List.map_map]
  refine List.map_congr_left fun k _ => ?_
  show mo q (List.map _ _) = _
  refine mo_id fun x hx => ?_
  obtain ⟨j, _, rfl⟩ := List.mem_map.mp hx
  split <;> omega
theorem tab_fold {q h : Nat} (hq : q ∣ h) : ∀ (wd : Arr) (t : List (List Nat)), (wd.foldl (tabStep h) t).map (mo q) = wd.foldl (tabStep q) (t.map (mo q))
  | [], _ => rfl
  | a :: wd, t => by
    rw [List.foldl_cons, List.foldl_cons, tab_fold hq wd, tab_step hq]
theorem table_mo {q h n : Nat} (hq : q ∣ h) (h2 : 2 ≤ q) (wd : Arr) : tableF n q wd = (tableF n h wd).map (mo q) := by
  unfold tableF
  rw [tab_fold hq, unit_mo h2]

/-! ### over all powers -/
theorem pw_dvd {h q : Nat} (h1 : 2 ≤ h) (h2 : h ≤ 24) (hq : q ∈ powersF h) : q ∣ h ∧ 2 ≤ q ∧ q ≤ 24 := by
  have hm := (pw_ok h1 h2).mem q hq
  refine ⟨?_, hm.1, by omega⟩
  rcases pw_cases h1 h2 with e | ⟨a, b, e, _, rfl, _, _⟩
  · rw [e] at hq
    have : q = h := by simpa using hq
    subst this; exact Nat.dvd_refl _
  · rw [e] at hq
    have : q = a ∨ q = b := by simpa using hq
    rcases this with rfl | rfl
    · exact Nat.dvd_mul_right _ _
    · exact Nat.dvd_mul_left _ _
section
variable {n h : Nat} {ar : Arr} {dl el : List Nat}
theorem law_come (h1 : 2 ≤ h) (h2 : h ≤ 24) (o : DialOk n h dl) (o2 : DialOk n h el) : decide (marksF n ar h dl = marksF n ar h el) = (powersF h).all fun q => decide (marksF n ar q (mo q dl) = marksF n ar q (mo q el)) := by
  rcases pw_cases h1 h2 with e | ⟨a, b, e, hc, rfl, ha, hb⟩
  · rw [e]
    simp only [List.all_cons, List.all_nil, Bool.and_true]
    rw [mo_id o.lt, mo_id o2.lt]
  · rw [e]
    simp only [List.all_cons, List.all_nil, Bool.and_true]
    rw [← Bool.decide_and]
    exact decide_eq_decide.mpr (marks_iff hc)
theorem law_count (h1 : 2 ≤ h) (h2 : h ≤ 24) (hn : n ≤ 6) (o : DialOk n h dl) : countF n ar h dl = (powersF h).foldl (fun acc q => acc * countF n ar q (mo q dl)) 1 := by
  rcases pw_cases h1 h2 with e | ⟨a, b, e, hc, rfl, ha, hb⟩
  · rw [e]
    simp only [List.foldl_cons, List.foldl_nil, Nat.one_mul]
    rw [mo_id o.lt]
  · rw [e]
    simp only [List.foldl_cons, List.foldl_nil, Nat.one_mul]
    exact count_mul hc ha hb h2 hn
theorem law_class (h1 : 2 ≤ h) (h2 : h ≤ 24) : classF n ar h = (powersF h).foldl (fun acc q => acc * classF n ar q) 1 := by
  rcases pw_cases h1 h2 with e | ⟨a, b, e, hc, rfl, ha, hb⟩
  · rw [e]
    simp only [List.foldl_cons, List.foldl_nil, Nat.one_mul]
  · rw [e]
    simp only [List.foldl_cons, List.foldl_nil, Nat.one_mul]
    exact class_mul hc ha hb h2
end
end Ck

set_option Elab.async false
set_option linter.all false
set_option maxRecDepth 100000
set_option exponentiation.threshold 5000
namespace Ck
open PySem PySem.Spec PyProof.Rows L2

/-! ### bounds -/
theorem foldl_bound {α : Type} {f : α → Nat} {B : Nat} : ∀ {xs : List α} {c : Nat}, (∀ x ∈ xs, f x ≤ B) → xs.foldl (fun acc x => acc * f x) c ≤ c * B ^ xs.length
  | [], c, _ => by simp
  | x :: xs, c, h => by
    rw [List.foldl_cons, List.length_cons]
    refine Nat.le_trans (foldl_bound fun y hy => h y (List.mem_cons_of_mem _ hy)) ?_
    rw [Nat.pow_succ, Nat.mul_assoc, Nat.mul_comm (B ^ _) B]
    exact Nat.mul_le_mul_left _ (Nat.mul_le_mul_right _ (h x (by simp)))
theorem sum_bound {α : Type} {f : α → Nat} {B : Nat} : ∀ {xs : List α}, (∀ x ∈ xs, f x ≤ B) → (xs.map f).sum ≤ xs.length * B
  | [], _ => by simp
  | x :: xs, h => by
    have h1 := sum_bound (xs := xs) fun y hy => h y (List.mem_cons_of_mem _ hy)
    have h2 := h x (by simp)
    rw [List.map_cons, List.sum_cons, List.length_cons, Nat.succ_mul]
    omega
theorem count_bound {n q : Nat} {ar : Arr} {dl : List Nat} (h1 : 0 < q) (h2 : q ≤ 24) (hn : n ≤ 6) : countF n ar q dl ≤ 2 ^ 360 := by
  unfold countF
  have hb := foldl_bound (xs := partsF n ar) (f := fun p => waysF q (markF n ar q dl p) p) (B := 2 ^ 60) (c := 1) fun p hp => Nat.le_of_lt (ways_le hn (parts_ok hp) (mark_ok h1 h2))
  have hl := parts_len n ar
  refine Nat.le_trans hb ?_
  rw [Nat.one_mul]
  refine Nat.le_trans (Nat.pow_le_pow_right (by decide) (show _ ≤ 6 by omega)) ?_
  exact Nat.le_of_eq (by rw [← Nat.pow_mul])
theorem wt_bound {pl x : Nat} (h1 : 1 ≤ x) (h2 : x ≤ 24) : wt pl x ≤ 24 ^ 6 := by
  unfold wt
  split
  · exact primeTo_le h1 h2 (by decide)
  · decide
theorem Nf_bound {n : Nat} {ar : Arr} : ∀ (m at' : Nat) (fl : List Nat), at' + m = (orderF n ar).length → KeyOk (orderF n ar).length at' fl → Nf n ar m at' fl ≤ (8 * 24 ^ 6) ^ m
  | 0, _, _, _, _ => by simp [Nf]
  | m + 1, at', fl, e, h => by
    obtain ⟨p1, p2⟩ := h.pos at' (Nat.le_refl _) (by omega)
    have hb : ∀ d ∈ divF (fl.getD at' 0), wt ((orderF n ar).getD at' []).length (fl.getD at' 0 / d) * Nf n ar m (at' + 1) (freshF fl at' (belowF n ar (orderF n ar) at' ((orderF n ar).getD at' [])) d) ≤ 24 ^ 6 * (8 * 24 ^ 6) ^ m := fun d hd => by
      obtain ⟨d1, d2, d3⟩ := mem_div.mp hd
      exact Nat.mul_le_mul (wt_bound (Nat.div_pos d2 d1) (Nat.le_trans (Nat.div_le_self _ _) p2)) (Nf_bound m (at' + 1) _ (by omega) (h.fresh d1 _))
    have hs := sum_bound hb
    have hl := div_len (fl.getD at' 0) (by omega)
    show (List.map _ _).sum ≤ _
    refine Nat.le_trans hs ?_
    have e : (8 * 24 ^ 6) ^ (m + 1) = (8 * 24 ^ 6) ^ m * (8 * 24 ^ 6) := Nat.pow_succ _ _
    have e2 : ∀ C Y : Nat, Y * (8 * C) = 8 * (C * Y) := fun C Y => by rw [Nat.mul_comm Y, Nat.mul_assoc]
    rw [e, e2]
    exact Nat.mul_le_mul_right _ hl
theorem class_bound {n q : Nat} {ar : Arr} (h1 : 1 ≤ q) (h2 : q ≤ 24) (hn : n ≤ 6) : classF n ar q ≤ 2 ^ 360 := by
  have hl := (order_ok n ar).2.2
  rw [class_eq h1 h2]
  refine Nat.le_trans (Nf_bound _ 0 _ (by omega) ⟨by simp, fun k _ hk => ?_⟩) ?_
  · rw [List.getD_eq_getElem?_getD, List.getElem?_replicate, if_pos hk]
    exact ⟨h1, h2⟩
  · refine Nat.le_trans (Nat.pow_le_pow_right (by decide) (show _ ≤ 6 by omega)) ?_
    decide
theorem log2_le {a k : Nat} (h : a ≤ 2 ^ k) : a.log2 ≤ k := by
  by_cases h0 : a = 0
  · subst h0; simp
  · have : a < 2 ^ (k + 1) := Nat.lt_of_le_of_lt h (Nat.pow_lt_pow_right (by decide) (by omega))
    have := (Nat.log2_lt h0).mpr this
    omega
theorem mulW_ok {a b : Nat} (ha : a ≤ 2 ^ 4000) (hb : b ≤ 2 ^ 4000) : CMulW (a : Int) (b : Int) := by
  unfold CMulW
  have h1 := log2_le ha
  have h2 := log2_le hb
  show ((a : Int)).natAbs.log2 + ((b : Int)).natAbs.log2 < 1000000
  rw [Int.natAbs_natCast, Int.natAbs_natCast]
  omega
theorem acc_bound {xs : List Nat} {f : Nat → Nat} (hl : xs.length ≤ 5) (h : ∀ x ∈ xs, f x ≤ 2 ^ 360) (i : Nat) : (xs.take i).foldl (fun acc q => acc * f q) 1 ≤ 2 ^ 4000 := by
  have hb := foldl_bound (xs := xs.take i) (f := f) (B := 2 ^ 360) (c := 1) fun x hx => h x (List.mem_of_mem_take hx)
  refine Nat.le_trans hb ?_
  rw [Nat.one_mul, ← Nat.pow_mul]
  refine Nat.pow_le_pow_right (by decide) ?_
  have : (xs.take i).length ≤ 5 := by rw [List.length_take]; omega
  omega
theorem range_map_getD {α : Type} {f : Nat → α} {xs : List Nat} : (List.range xs.length).map (fun k => f (xs.getD k 0)) = xs.map f := by
  refine List.ext_getElem (by simp) fun i h1 h2 => ?_
  simp only [List.getElem_map, List.getElem_range]
  congr 1
  have : i < xs.length := by simpa using h2
  rw [List.getD_eq_getElem?_getD]; simp [this]
end Ck

set_option Elab.async false
set_option linter.all false
set_option maxRecDepth 100000
/-! The layer for the law's row: a list that is changed by what is called; what is drawn from it is any of its kind. -/
namespace Ck
open PySem PySem.Spec PyProof.Rows L2

def RowR (K : PySem.W.Frag) (r : Addr) (ρ : List PD) : Addr → Hp → HO → Prop := fun l F u => l = r ∧ ∃ xs, u = .lst xs ∧ DpAll K F xs ρ
def RInv (ρ : List PD) : Prop := ∃ (xs : List Int) (i : Nat) (z c : Int), ρ = [.list (xs.map .int), nat i, .int z, .int c]
structure RowOk (K : PySem.W.Frag) (F H : Hp) (r : Addr) : Prop where
  no : F r = none
  ex : ∃ ρ xs, RInv ρ ∧ H r = some (.lst xs) ∧ DpAll K F xs ρ
structure GrowR (r : Addr) (F H F' H' : Hp) : Prop where
  f : Same F F'
  h : ∀ b o, b ≠ r → H b = some o → H' b = some o
  s : Same F' H'
  n : ∀ a, F a = none → H a ≠ none → F' a = none
  nn : ∀ b, H b ≠ none → H' b ≠ none
section
variable {K : PySem.W.Frag} {r : Addr} {F H F1 H1 F2 H2 F0 H0 : Hp}
theorem GrowR.of (g : Grow F H F1 H1) : GrowR r F H F1 H1 := ⟨g.f, fun b o _ e => g.h b o e, g.s, g.n, fun b hb => by
  obtain ⟨o, e⟩ := some_of hb
  rw [g.h b o e]; simp⟩
theorem GrowR.refl (s : Same F H) : GrowR r F H F H := .of (Grow.refl s)
theorem GrowR.trans (g : GrowR r F H F1 H1) (k : GrowR r F1 H1 F2 H2) : GrowR r F H F2 H2 :=
  ⟨g.f.trans k.f, fun b o hb e => k.h b o hb (g.h b o hb e), k.s, fun a h1 h2 => k.n a (g.n a h1 h2) (g.nn a h2), fun b hb => k.nn b (g.nn b hb)⟩
theorem GrowR.fresh {p : Addr} (g : GrowR r F H F1 H1) (h : H1 p = none) : H p = none := by
  cases e : H p with
  | none => rfl
  | some o => exact absurd h (g.nn p (by rw [e]; simp))
theorem RowOk.some (k : RowOk K F H r) : H r ≠ none := by
  obtain ⟨ρ, xs, _, e, _⟩ := k.ex
  rw [e]; simp
theorem RowOk.grow (k : RowOk K F H r) (g : Grow F H F1 H1) : RowOk K F1 H1 r := by
  refine ⟨g.n r k.no k.some, ?_⟩
  obtain ⟨ρ, xs, a, b, c⟩ := k.ex
  exact ⟨ρ, xs, a, g.h _ _ b, dpA_mono g.f c⟩
theorem Grow.withR (g : Grow F0 H0 F H) (gr : GrowR r F H F1 H1) (h0 : H0 r = none) : Grow F0 H0 F1 H1 :=
  ⟨g.f.trans gr.f, fun b o e => gr.h b o (ne_of_none e h0) (g.h b o e), gr.s, fun a h1 h2 => gr.n a (g.n a h1 h2) (by obtain ⟨o, e⟩ := some_of h2; rw [g.h a o e]; simp)⟩
end

/-! ### what is worked out, with draws -/
section
variable (K : PySem.W.Frag) (r : Addr) (i : Nat)
def EvR (t : TE) (Γ : List (Option PD)) (D : PD → Prop) : Prop := ∀ (F : Hp) (σ : L2.St) (H : Hp), Same F H → RowOk K F H r → EnvD K F σ Γ → σ[i]? = some (some (.ref r)) → ∀ Q : VK, (∀ v F' H' d, GrowR r F H F' H' → RowOk K F' H' r → D d → Dp K F' v d → Q v H') → t σ H Q
def EvBR (t : TT) (Γ : List (Option PD)) (B : Bool → Prop) : Prop := ∀ (F : Hp) (σ : L2.St) (H : Hp), Same F H → RowOk K F H r → EnvD K F σ Γ → σ[i]? = some (some (.ref r)) → ∀ Q : Bool → Hp → Prop, (∀ b F' H', GrowR r F H F' H' → RowOk K F' H' r → B b → Q b H') → t σ H Q
def EvAR (t : TA) (Γ : List (Option PD)) (Ds : List PD → Prop) : Prop := ∀ (F : Hp) (σ : L2.St) (H : Hp), Same F H → RowOk K F H r → EnvD K F σ Γ → σ[i]? = some (some (.ref r)) → ∀ Q : List V → Hp → Prop, (∀ vs F' H' ds, GrowR r F H F' H' → RowOk K F' H' r → Ds ds → DpAll K F' vs ds → Q vs H') → t σ H Q
end
section
variable {K : PySem.W.Frag} {r : Addr} {i : Nat} {Γ : List (Option PD)} {t ta tb : TE} {D D1 D2 : PD → Prop} {Ds : List PD → Prop} {B B1 B2 : Bool → Prop} {d : PD} {ds : List PD}
theorem er_pure (h : Ev K t Γ d) (k : D d) : EvR K r i t Γ D := fun F σ H s ro E e Q q => h F σ H s E Q fun v F1 H1 g hd => q v F1 H1 d (.of g) (ro.grow g) k hd
theorem ear_pure {ta : TA} (h : EvA K ta Γ ds) (k : Ds ds) : EvAR K r i ta Γ Ds := fun F σ H s ro E e Q q => h F σ H s E Q fun v F1 H1 g hd => q v F1 H1 ds (.of g) (ro.grow g) k hd
theorem ebr_pure {b : Bool} {t : TT} (h : EvB K t Γ b) (k : B b) : EvBR K r i t Γ B := fun F σ H s ro E e Q q => h F σ H s E Q fun F1 H1 g => q b F1 H1 (.of g) (ro.grow g) k
theorem er_op {rr : R2} (ha : EvR K r i ta Γ D1) (hb : EvR K r i tb Γ D2) (hr : ∀ a b, D1 a → D2 b → ∃ d, D d ∧ RV K rr a b d) : EvR K r i (tOp rr ta tb) Γ D := fun F σ H s ro E e Q q =>
  ha F σ H s ro E e _ fun x F1 H1 a g1 k1 da h1 => hb F1 σ H1 g1.s k1 (E.mono g1.f) e _ fun y F2 H2 b g2 k2 db h2 => by
    obtain ⟨d, hd, rv⟩ := hr a b da db
    exact rv F2 H2 x y g2.s (dp_mono g2.f h1) h2 Q fun v F3 H3 g3 h3 => q v F3 H3 d ((g1.trans g2).trans (.of g3)) (k2.grow g3) hd h3
theorem ear_cons {tr : TA} (ha : EvR K r i ta Γ D1) (hr : ∀ a, D1 a → EvAR K r i tr Γ fun ds => Ds (a :: ds)) : EvAR K r i (tCons ta tr) Γ Ds := fun F σ H s ro E e Q q =>
  ha F σ H s ro E e _ fun x F1 H1 a g1 k1 da h1 => hr a da F1 σ H1 g1.s k1 (E.mono g1.f) e _ fun xs F2 H2 ds g2 k2 dds h2 => q (x :: xs) F2 H2 (a :: ds) (g1.trans g2) k2 dds (.cons (dp_mono g2.f h1) h2)
theorem er_cb {rr : List V → Hp → VK → Prop} {tr : TA} (hr : EvAR K r i tr Γ Ds) (hc : ∀ ds, Ds ds → ∃ d, D d ∧ RC K rr ds d) : EvR K r i (tCB rr tr) Γ D := fun F σ H s ro E e Q q =>
  hr F σ H s ro E e _ fun xs F1 H1 ds g1 k1 dds h1 => by
    obtain ⟨d, hd, rc⟩ := hc ds dds
    exact rc F1 H1 xs g1.s h1 Q fun v F2 H2 g2 h2 => q v F2 H2 d (g1.trans (.of g2)) (k1.grow g2) hd h2
theorem er_lst {tr : TA} (hr : EvAR K r i tr Γ fun ds => D (.list ds) ∧ ds.length ≤ 100000) : EvR K r i (tLst tr) Γ D := fun F σ H s ro E e Q q =>
  hr F σ H s ro E e _ fun xs F1 H1 ds g1 k1 dds h1 => ⟨Nat.le_trans (by rw [dpA_len h1]; exact dds.2) (by decide), fun p hp =>
    q (.ref p) (upd F1 p (.lst xs)) _ (.list ds) (g1.trans (.of (Grow.new g1.s hp))) (k1.grow (Grow.new g1.s hp)) dds.1 (.lst (SqL.of upd_same) (dpA_mono (same_upd (g1.s.free hp)) h1))⟩
theorem er_if {c : TT} (hc : EvBR K r i c Γ B) (h1 : B true → EvR K r i ta Γ D) (h2 : B false → EvR K r i tb Γ D) : EvR K r i (tIf c ta tb) Γ D := fun F σ H s ro E e Q q => hc F σ H s ro E e _ fun b F1 H1 g1 k1 hb => by
  cases b with
  | true => rw [if_pos rfl]; exact h1 hb F1 σ H1 g1.s k1 (E.mono g1.f) e Q fun v F2 H2 d g2 k2 hd h => q v F2 H2 d (g1.trans g2) k2 hd h
  | false => rw [if_neg Bool.false_ne_true]; exact h2 hb F1 σ H1 g1.s k1 (E.mono g1.f) e Q fun v F2 H2 d g2 k2 hd h => q v F2 H2 d (g1.trans g2) k2 hd h
theorem ebr_test (h : EvR K r i t Γ fun d => ∃ b, d = .bool b ∧ B b) : EvBR K r i (tTest t) Γ B := fun F σ H s ro E e Q q => h F σ H s ro E e _ fun v F1 H1 d g k hd hv => by
  obtain ⟨b, rfl, hb⟩ := hd
  exact ⟨b, dp_bl hv, q b F1 H1 g k hb⟩
theorem ebr_and {t u : TT} (h1 : EvBR K r i t Γ B1) (hf : B1 false → B false) (h2 : B1 true → EvBR K r i u Γ B) : EvBR K r i (tAnd t u) Γ B := fun F σ H s ro E e Q q => h1 F σ H s ro E e _ fun b F1 H1 g1 k1 hb => by
  cases b with
  | true => rw [if_pos rfl]; exact h2 hb F1 σ H1 g1.s k1 (E.mono g1.f) e Q fun b F2 H2 g2 k2 hb => q b F2 H2 (g1.trans g2) k2 hb
  | false => rw [if_neg Bool.false_ne_true]; exact q false F1 H1 g1 k1 (hf hb)
theorem ebr_or {t u : TT} (h1 : EvBR K r i t Γ B1) (ht : B1 true → B true) (h2 : B1 false → EvBR K r i u Γ B) : EvBR K r i (tOr t u) Γ B := fun F σ H s ro E e Q q => h1 F σ H s ro E e _ fun b F1 H1 g1 k1 hb => by
  cases b with
  | true => rw [if_pos rfl]; exact q true F1 H1 g1 k1 (ht hb)
  | false => rw [if_neg Bool.false_ne_true]; exact h2 hb F1 σ H1 g1.s k1 (E.mono g1.f) e Q fun b F2 H2 g2 k2 hb => q b F2 H2 (g1.trans g2) k2 hb
end
section
variable (X : Cx) (r : Addr) (i : Nat)
def ER (e : Expr) (Γ : List (Option PD)) (D : PD → Prop) : Prop := EvR X.K r i (semE X e) Γ D
def TR (e : Expr) (Γ : List (Option PD)) (B : Bool → Prop) : Prop := EvBR X.K r i (semT X e) Γ B
def WR (e : Expr) (Γ : List (Option PD)) (B : Bool → Prop) : Prop := EvBR X.K r i (semW X e) Γ B
def AR (es : List Expr) (Γ : List (Option PD)) (Ds : List PD → Prop) : Prop := EvAR X.K r i (semA X es) Γ Ds
end
/-- what a def of the row promises -/
def SpR (K : PySem.W.Frag) (n : Nat) (pre : List PD → (PD → Prop) → Prop) : Sp := fun vs H Q _ => ∃ r us F ds D, vs = .ref r :: us ∧ Same F H ∧ RowOk K F H r ∧ DpAll K F us ds ∧ ds.length = n ∧ pre ds D ∧
  ∀ v F' H' d, GrowR r F H F' H' → RowOk K F' H' r → D d → Dp K F' v d → Q v H'
section
variable {X : Cx} {r : Addr} {i : Nat} {e e1 e2 e3 : Expr} {es : List Expr} {Γ : List (Option PD)} {D D1 D2 : PD → Prop} {Ds : List PD → Prop} {B B1 B2 : Bool → Prop} {d : PD} {ds : List PD} {pos p : Pos}
theorem ER.mk {t : TE} (h : PE X e t) (k : EvR X.K r i t Γ D) : ER X r i e Γ D := fun F σ H s ro E e Q q pins st I => h.run pins st σ H Q I (k F σ H s ro E e Q q)
theorem TR.mk {t : TT} (h : PT X e t) (k : EvBR X.K r i t Γ B) : TR X r i e Γ B := fun F σ H s ro E e Q q pins st I => h.run pins st σ H Q I (k F σ H s ro E e Q q)
theorem WR.mk {t : TT} (h : PW X e t) (k : EvBR X.K r i t Γ B) : WR X r i e Γ B := fun F σ H s ro E e Q q wh pins st I => h.run wh pins st σ H Q I (k F σ H s ro E e Q q)
theorem AR.mk {t : TA} (h : PA X es t) (k : EvAR X.K r i t Γ Ds) : AR X r i es Γ Ds := fun F σ H s ro E e Q q pos pins st I => h.run pos pins st σ H Q I (k F σ H s ro E e Q q)
theorem ER.imp (h : ER X r i e Γ D1) (k : ∀ d, D1 d → D d) : ER X r i e Γ D := fun F σ H s ro E e Q q => h F σ H s ro E e Q fun v F1 H1 d g ro hd hv => q v F1 H1 d g ro (k d hd) hv
theorem ER.pure (h : E X e Γ d) (k : D d) : ER X r i e Γ D := er_pure h k
theorem ER.eq (h : E X e Γ d) : ER X r i e Γ (· = d) := er_pure h rfl
theorem AR.pure (h : A X es Γ ds) (k : Ds ds) : AR X r i es Γ Ds := ear_pure h k
theorem TR.pure {b : Bool} (h : T X e Γ b) (k : B b) : TR X r i e Γ B := ebr_pure h k
theorem WR.t (h : WR X r i e Γ B) : TR X r i e Γ B := TR.mk (pw_sem X).pt h
theorem ER.bin {op : Operator} {rr : R2} (ho : OpR X (binaryOp op) rr) (ha : ER X r i e1 Γ D1) (hb : ER X r i e2 Γ D2) (hr : ∀ a b, D1 a → D2 b → ∃ d, D d ∧ RV X.K rr a b d) : ER X r i (.BinOp e1 op e2 pos) Γ D := ER.mk (pe_op ho (pe_sem X) (pe_sem X)) (er_op ha hb hr)
theorem TR.cmp {op : CmpOp} {rr : R2} (ho : OpR X (compareOp op) rr) (ha : ER X r i e1 Γ D1) (hb : ER X r i e2 Γ D2) (hr : ∀ a b, D1 a → D2 b → ∃ x, B x ∧ RV X.K rr a b (.bool x)) (hm : behindInMarks op e2 = false := by first | exact nomark _ | rfl) : TR X r i (.Compare e1 [op] [e2] pos) Γ B :=
  TR.mk (pt_cmpR ho (pe_sem X) (pe_sem X) hm) (ebr_test (er_op ha hb fun a b h1 h2 => let ⟨x, hx, rv⟩ := hr a b h1 h2; ⟨_, ⟨x, rfl, hx⟩, rv⟩))
theorem WR.and1 (h : TR X r i e Γ B) : WR X r i (.BoolOp .And [e] pos) Γ B := WR.mk (pw_and1 (pt_sem X)) h
theorem WR.or1 (h : TR X r i e Γ B) : WR X r i (.BoolOp .Or [e] pos) Γ B := WR.mk (pw_or1 (pt_sem X)) h
theorem WR.and (h : TR X r i e Γ B1) (hf : B1 false → B false) (k : B1 true → WR X r i (.BoolOp .And (e2 :: es) pos) Γ B) : WR X r i (.BoolOp .And (e :: e2 :: es) pos) Γ B := WR.mk (pw_and (pt_sem X) (pw_sem X)) (ebr_and h hf fun hb F σ H s ro E e Q q wh => k hb F σ H s ro E e Q q wh)
theorem WR.or (h : TR X r i e Γ B1) (ht : B1 true → B true) (k : B1 false → WR X r i (.BoolOp .Or (e2 :: es) pos) Γ B) : WR X r i (.BoolOp .Or (e :: e2 :: es) pos) Γ B := WR.mk (pw_or (pt_sem X) (pw_sem X)) (ebr_or h ht fun hb F σ H s ro E e Q q wh => k hb F σ H s ro E e Q q wh)
theorem ER.ite (hc : TR X r i e Γ B) (h1 : B true → ER X r i e1 Γ D) (h2 : B false → ER X r i e2 Γ D) : ER X r i (.IfExp e e1 e2 pos) Γ D := ER.mk (pe_ifExp (pt_sem X) (pe_sem X) (pe_sem X)) (er_if hc h1 h2)
theorem AR.nil (k : Ds []) : AR X r i [] Γ Ds := AR.pure A.nil k
theorem AR.cons (h : ER X r i e Γ D1) (k : ∀ a, D1 a → AR X r i es Γ fun ds => Ds (a :: ds)) (hs : starEach (e :: es) X.env = (false, eval e X.env) :: starEach es X.env := by rfl) : AR X r i (e :: es) Γ Ds := AR.mk (pa_cons (pe_sem X) (pa_sem X) hs) (ear_cons h k)
theorem AR.one (h : ER X r i e Γ fun d => Ds [d]) (hs : starEach [e] X.env = (false, eval e X.env) :: starEach [] X.env := by rfl) : AR X r i [e] Γ Ds := AR.cons h (fun a ha => AR.nil ha) hs
theorem ER.lst (h : AR X r i es Γ fun ds => D (.list ds) ∧ ds.length ≤ 100000) : ER X r i (.List es pos) Γ D := ER.mk (pe_lst (pa_sem X)) (er_lst h)
theorem ER.cb {id : String} {z : Str} {rr} (hc : CallR X (.builtin id) rr) (hr : ∀ ds, Ds ds → ∃ d, D d ∧ RC X.K rr ds d) (hm : X.mg z = none) (hv : bootBuiltins z = some (.builtin id)) (ha : AR X r i (e :: es) Γ Ds) (hg : Gl X z := by rfl) (hn : z ≠ "__name__" := by decide) (hdb : (z == ("__debug__" : Str)) = false := by decide)
    (he : starEach (e :: es) X.env = (false, eval e X.env) :: starEach es X.env := by rfl) (hpl : (backTo pos (starEach es X.env)).any (·.1) = false := by rfl) : ER X r i (.Call (.Name z p) (e :: es) [] pos) Γ D := ER.mk (pe_callB hc hg hm hv (pa_sem X) hn hdb he hpl) (er_cb ha hr)
theorem ER.ct {id : String} {z : Str} {rr} (hc : CallR X (.type id) rr) (hr : ∀ ds, Ds ds → ∃ d, D d ∧ RC X.K rr ds d) (hm : X.mg z = none) (hv : bootBuiltins z = some (.type id)) (ha : AR X r i (e :: es) Γ Ds) (hg : Gl X z := by rfl) (hn : z ≠ "__name__" := by decide) (hdb : (z == ("__debug__" : Str)) = false := by decide)
    (he : starEach (e :: es) X.env = (false, eval e X.env) :: starEach es X.env := by rfl) (hpl : (backTo pos (starEach es X.env)).any (·.1) = false := by rfl) : ER X r i (.Call (.Name z p) (e :: es) [] pos) Γ D := ER.mk (pe_callTy hc hg hm hv (pa_sem X) hn hdb he hpl) (er_cb ha hr)
variable {k n : Nat} {x z : Str} {ps : List Str} {npos : Pos}
/-- f(row, ..) -/
theorem ER.call {pre : List PD → (PD → Prop) → Prop} (DF : DefOk X.prog X.w X.K X.mg X.base k x ps (SpR X.K n pre)) (hr : Room k X.A) (ha : AR X r i (e :: es) Γ Ds) (h : ∀ ds, Ds ds → pre ds D ∧ ds.length = n) (hN : X.N[i]? = some z := by rfl) (hv : Vis X.env.scope z := by first | exact Or.inl rfl | exact Or.inr (Or.inl rfl) | exact Or.inr (Or.inr rfl))
    (hd : (z == ("__debug__" : Str)) = false := by decide) (hcd : (z == ("__classdict__" : Str)) = false := by decide) (hg : Gl X x := by rfl) (hdb : (x == ("__debug__" : Str)) = false := by decide)
    (he : starEach (.Name z npos :: e :: es) X.env = (false, eval (.Name z npos) X.env) :: starEach (e :: es) X.env := by rfl) (hpl : (backTo pos (starEach (e :: es) X.env)).any (·.1) = false := by rfl) : ER X r i (.Call (.Name x p) (.Name z npos :: e :: es) [] pos) Γ D := by
  obtain ⟨f, fd, F, hm, hk, hb⟩ := DF.ex
  refine ER.mk (pe_call F hr hg hm hk hb .nil pass0 (pa_cons (pv i hN hv hd hcd) (pa_sem X) he) hdb he hpl) fun F0 σ H s ro Ee hi Q q => ⟨.ref r, hi, ha F0 σ H s ro Ee hi _ fun us F1 H1 ds g1 k1 dds hus => ?_⟩
  obtain ⟨hp, hn⟩ := h ds dds
  exact ⟨r, us, F1, ds, D, by rw [List.append_nil], g1.s, k1, hus, hn, hp, fun v F2 H2 d g2 k2 hd hv => q v F2 H2 d (g1.trans g2) k2 hd hv⟩
/-- f(..), what is given drawn -/
theorem ER.callP {pre : List PD → PD → Prop} (DF : DefOk X.prog X.w X.K X.mg X.base k x ps (SpP X.K n pre)) (hr : Room k X.A) (ha : AR X r i (e :: es) Γ Ds) (h : ∀ ds, Ds ds → ds.length = n ∧ ∃ d, D d ∧ pre ds d) (hg : Gl X x := by rfl) (hdb : (x == ("__debug__" : Str)) = false := by decide)
    (he : starEach (e :: es) X.env = (false, eval e X.env) :: starEach es X.env := by rfl) (hpl : (backTo pos (starEach es X.env)).any (·.1) = false := by rfl) : ER X r i (.Call (.Name x p) (e :: es) [] pos) Γ D := by
  obtain ⟨f, fd, F, hm, hk, hb⟩ := DF.ex
  refine ER.mk (pe_call F hr hg hm hk hb .nil pass0 (pa_sem X) hdb he hpl) fun F0 σ H s ro Ee hi Q q => ha F0 σ H s ro Ee hi _ fun vs F1 H1 ds g1 k1 dds hvs => ?_
  obtain ⟨hn, d, hd, hp⟩ := h ds dds
  exact ⟨F1, ds, d, g1.s, by rw [List.append_nil]; exact hvs, hn, hp, fun v F2 H2 g2 hv => q v F2 H2 d (g1.trans (.of g2)) (k1.grow g2) hd hv⟩
theorem ER.ix (ha : ER X r i e1 Γ D1) (hb : ER X r i e2 Γ D2) (h : ∀ a b, D1 a → D2 b → ∃ ds n d, (a = .list ds ∨ a = .tuple ds) ∧ b = Ck.nat n ∧ ds[n]? = some d ∧ D d) (hl : ∃ T : Bool, ∀ a, D1 a → ∃ ds, a = if T then PyData.tuple ds else .list ds) (hs : PlainIx e2 := by exact fun _ _ => rfl) : ER X r i (.Subscript e1 e2 pos) Γ D := by
  obtain ⟨T, hT⟩ := hl
  cases T with
  | false =>
    refine ER.mk (pe_ix ix_list (pe_sem X) (pe_sem X) hs) (er_op ha hb fun a b h1 h2 => ?_)
    obtain ⟨ds, n, d, hab, rfl, hds, hd⟩ := h a b h1 h2
    obtain ⟨ds', e⟩ := hT a h1
    have e : a = .list ds' := e
    rcases hab with h3 | h3
    · subst h3
      refine ⟨d, hd, fun F H x y s hx hy Q q => ?_⟩
      obtain ⟨l, xs, rfl, hl, hdx⟩ := dp_lst hx
      obtain ⟨v, hv, hdv⟩ := dpA_get hdx hds
      exact ⟨l, xs, (n : Int), v, rfl, dp_int hy, s.seq hl, atI_nat hv, q v F H (Grow.refl s) hdv⟩
    · rw [h3] at e; cases e
  | true =>
    refine ER.mk (pe_ix ix_tup (pe_sem X) (pe_sem X) hs) (er_op ha hb fun a b h1 h2 => ?_)
    obtain ⟨ds, n, d, hab, rfl, hds, hd⟩ := h a b h1 h2
    obtain ⟨ds', e⟩ := hT a h1
    have e : a = .tuple ds' := e
    rcases hab with h3 | h3
    · rw [h3] at e; cases e
    · subst h3
      refine ⟨d, hd, fun F H x y s hx hy Q q => ?_⟩
      obtain ⟨l, xs, rfl, hl, hdx⟩ := dp_tup hx
      obtain ⟨v, hv, hdv⟩ := dpA_get hdx hds
      exact ⟨l, xs, (n : Int), v, rfl, dp_int hy, seqT s hl, atI_nat hv, q v F H (Grow.refl s) hdv⟩
end
end Ck

set_option Elab.async false
set_option linter.all false
set_option maxRecDepth 100000
/-! The row's layer: comprehensions, statements, defs. -/
namespace Ck
open PySem PySem.Spec PyProof.Rows L2

def ITR (X : Cx) (r : Addr) (i : Nat) (tg iter : Expr) (Γ : List (Option PD)) (Dss : List PD → Prop) : Prop := ∀ (F : Hp) (σ : L2.St) (H : Hp), Same F H → RowOk X.K F H r → EnvD X.K F σ Γ → σ[i]? = some (some (.ref r)) →
  ∀ R : It → Hp → Prop, (∀ J F' H' ds, GrowR r F H F' H' → RowOk X.K F' H' r → Dss ds → WalkD X.K J F' ds → R J H') → semI X tg iter σ H R
theorem setAll_ne {i : Nat} : ∀ {vs : List (Nat × V)} {σ : L2.St}, (∀ q ∈ vs, q.1 ≠ i) → (Ck.setAll σ vs)[i]? = σ[i]?
  | [], _, _ => rfl
  | q :: vs, σ, h => by
    unfold Ck.setAll
    rw [setAll_ne fun p hp => h p (List.mem_cons_of_mem _ hp), List.getElem?_set_ne (h q (by simp))]
section
variable {X : Cx} {r : Addr} {i : Nat} {e elt tg iter : Expr} {scope : Scope} {Γ : List (Option PD)} {D De : PD → Prop} {Dss : List PD → Prop} {ds : List PD} {pos p : Pos}
theorem ITR.pure (h : IT X tg iter Γ ds) (k : Dss ds) : ITR X r i tg iter Γ Dss := fun F σ H s ro E e R q => h F σ H s E R fun J F1 H1 g w => q J F1 H1 ds (.of g) (ro.grow g) k w
theorem ITR.range1 {N : Nat} (h : ER X r i e Γ fun d => ∃ n, n ≤ N ∧ d = Ck.nat n) (hn : N ≤ 100000) (hm : X.mg "range" = none) (hg : Gl X "range" := by rfl) (hs1 : starEach [e] X.env = (false, eval e X.env) :: starEach [] X.env := by rfl) (hs2 : starEach [e] X.env = [(false, eval e X.env)] := by rfl) :
    ITR X r i tg (.Call (.Name "range" p) [e] [] pos) Γ fun ds => ∃ n, n ≤ N ∧ ds = (List.range n).map Ck.nat := fun F σ H s ro E e1 R q pins st I =>
  (pi_range1 hg hm (pa_sem X) hs2).run pins st σ H R I ((AR.one (Ds := fun ds => ∃ n, n ≤ N ∧ ds = [Ck.nat n]) (h.imp fun d ⟨n, h1, h2⟩ => ⟨n, h1, by rw [h2]⟩) hs1) F σ H s ro E e1 _ fun vs F1 H1 ds g k1 dds hd => by
    obtain ⟨n, hn1, rfl⟩ := dds
    cases hd with
    | cons hd hs =>
      cases hs
      refine ⟨(n : Int), by rw [dp_int hd], by omega, by omega, q _ F1 H1 ((List.range n).map Ck.nat) g k1 ⟨n, hn1, rfl⟩ ?_⟩
      have := walkD_rng (K := X.K) (F := F1) (lo := 0) (n := n)
      simpa using this)
theorem ER.lc (own : List (Str × Nat)) (hN : X.N.Nodup) (hi : ITR X r i tg iter Γ Dss) (ok : BlkOk X.N X.env.scope scope own) (hni : i ∉ own.map (·.2))
    (hx : ∀ ds, Dss ds → ds.length ≤ 100000 ∧ (∀ a ∈ ds, ∃ as, (∀ q ∈ as, q.1 ∈ own.map (·.2)) ∧ (∀ (s : Shared) (H : Hp) (C : Addr) (cl : List (Str × Addr)) (fp : List Addr), G (X.blk s H scope (compEnvC scope cl C X.env) fp) tg a as) ∧
      (∀ (s : Shared) (H : Hp) (C : Addr) (cl : List (Str × Addr)) (fp : List Addr), ER (X.blk s H scope (compEnvC scope cl C X.env) fp) r i elt (setG (wipeG Γ (own.map (·.2))) as) De)) ∧ (∀ out, out.length = ds.length → (∀ d ∈ out, De d) → D (.list out)))
    (hc : X.calm = true := by rfl) (hs : ∀ x, foldedSetIterable iter X.env x = Pure.pure x := by intro _; rfl) : ER X r i (.ListComp elt [⟨tg, iter, [], 0⟩] scope pos) Γ D := by
  refine ER.mk (pe_lc (wi := semI X tg iter) (g := blG X scope tg) (tt := blT X scope []) (te := blE X scope elt) hc hN (pi_sem X) ok (fun s H0 C cl fp => ⟨fun pins st σ H v u Q I r h => h s H0 C cl fp pins st u I r⟩) (fun s H0 C cl fp => ⟨fun pins st σ H Q I h => h s H0 C cl fp pins st I⟩)
    (fun s H0 C cl fp => ⟨fun pins st σ H Q I h => h s H0 C cl fp pins st I⟩) hs) ?_
  intro F σ H s ro Ee e Q q
  refine hi F σ H s ro Ee e _ fun J F1 H1 ds g1 k1 hds wk => ?_
  obtain ⟨hz, hel, hout⟩ := hx ds hds
  intro Dn hDn
  have hDr : Dn ≠ r := fun z => k1.some (by rw [← z]; exact hDn)
  have w : Walk J ds.length (fun H => Same F1 H) (fun i H x H' => ∀ F2 a, ds[i]? = some a → Same F1 F2 → Same F2 H → ∃ F3, Grow F2 H F3 H' ∧ Dp X.K F3 x a) :=
    ⟨fun i H hi s => wk.go i H hi s, fun H s => wk.stop H s, fun i H x H' hi s y F2 a ha s1 s2 => wk.yld i H x H' a F2 ha s1 s2 y⟩
  refine lc_it (g := blG X scope tg) (tt := blT X scope []) (te := blE X scope elt) (vs := own.map (·.2)) (σ := σ) (H1 := H1) (D := Dn) (Qd := Q (.ref Dn)) w
    (fun j H' => ∃ F2 acc out, GrowR r F1 H1 F2 H' ∧ RowOk X.K F2 H' r ∧ F2 Dn = none ∧ H' Dn = some (.lst acc) ∧ DpAll X.K F2 acc out ∧ out.length = j ∧ ∀ d ∈ out, De d) ?_ ?_ ?_ ?_
  · exact ⟨F1, [], [], .of (Grow.heap g1.s (same_upd hDn)), k1.grow (Grow.heap g1.s (same_upd hDn)), g1.s.free hDn, upd_same, .nil, rfl, by simp⟩
  · rintro j H' _ ⟨F2, acc, out, g2, _⟩
    exact g2.f.trans g2.s
  · rintro j x H' H'' hj ⟨F2, acc, out, g2, k2, hF2, hD, hacc, hol, hod⟩ y
    have ha : ds[j]? = some ds[j] := by simp [hj]
    have hm : ds[j] ∈ ds := List.getElem_mem hj
    obtain ⟨F3, g3, hx3⟩ := y F2 ds[j] ha g2.f g2.s
    obtain ⟨as, hown, hg, he⟩ := hel _ hm
    intro s0 H0 C0 cl0 fp0
    refine hg s0 H0 C0 cl0 fp0 F3 _ H'' x g3.s hx3 _ fun vs hvs => ?_
    have hE : EnvD X.K F3 (setAll (L2.wipe σ (own.map (·.2))) vs) (setG (wipeG Γ (own.map (·.2))) as) := EnvD.setAll hvs ((Ee.mono ((g1.f.trans g2.f).trans g3.f)).wipe _)
    have hei : (setAll (L2.wipe σ (own.map (·.2))) vs)[i]? = some (some (.ref r)) := by
      rw [setAll_ne fun q hq => ?_, wipe_get, if_neg hni]
      · exact e
      · obtain ⟨p', hp', e'⟩ := AsOk.mem hvs q hq
        intro z
        rw [← z, ← e'] at hni
        exact hni (hown p' hp')
    refine ⟨?_, fun s0 H0 C0 cl0 fp0 => Ts.nil (X := X.blk s0 H0 scope (compEnvC scope cl0 C0 X.env) fp0) F3 _ H'' g3.s hE _ fun F4 H4 g4 => ?_⟩
    · rw [wipe_setAll, wipe_wipe]
      intro q hq
      obtain ⟨p', hp', e'⟩ := AsOk.mem hvs q hq
      rw [← e']
      exact hown p' hp'
    rw [if_pos rfl]
    intro s0 H0 C0 cl0 fp0
    have g34 := g3.trans g4
    have k4 := k2.grow g34
    refine he s0 H0 C0 cl0 fp0 F4 _ H4 g4.s k4 (hE.mono g4.f) hei _ fun v F5 H5 d g5 k5 hd hv => ?_
    have gg : GrowR r F2 H' F5 H5 := (GrowR.of g34).trans g5
    have hlen : acc.length < sizeLine := by
      have e1 := dpA_len hacc
      have := sizeLine_eq
      omega
    have hF5 : F5 Dn = none := gg.n _ hF2 (by rw [hD]; simp)
    have g6 := g2.trans gg
    refine ⟨acc, gg.h _ _ hDr hD, hlen, F5, acc ++ [v], out ++ [d], ⟨g6.f, fun b o hb e => ?_, fun b o e => ?_, g6.n, fun b hb => ?_⟩, ⟨k5.no, ?_⟩, hF5, upd_same, dpA_snoc (dpA_mono gg.f hacc) hv, by rw [List.length_append, hol]; rfl, fun d' hd' => ?_⟩
    · rw [upd_ne (ne_of_none e hDn)]; exact g6.h b o hb e
    · rw [upd_ne (ne_of_none e hF5)]; exact g6.s b o e
    · by_cases hbD : b = Dn
      · subst hbD; rw [upd_same]; simp
      · rw [upd_ne hbD]; exact g6.nn b hb
    · obtain ⟨ρ, xs, a1, a2, a3⟩ := k5.ex
      exact ⟨ρ, xs, a1, by rw [upd_ne (Ne.symm hDr)]; exact a2, a3⟩
    · rcases List.mem_append.mp hd' with h1 | h1
      · exact hod d' h1
      · have : d' = d := by simpa using h1
        subst this; exact hd
  · rintro H' ⟨F2, acc, out, g2, k2, hF2, hD, hacc, hol, hod⟩
    have g6 := g1.trans g2
    have hDn0 : H Dn = none := g1.fresh hDn
    refine q (.ref Dn) (upd F2 Dn (.lst acc)) H' (.list out) ⟨g6.f.trans (same_upd hF2), g6.h, fun b u e => ?_, fun a h1 h2 => ?_, g6.nn⟩ ⟨by rw [upd_ne (Ne.symm hDr)]; exact k2.no, ?_⟩ (hout out hol hod) (.lst (SqL.of upd_same) (dpA_mono (same_upd hF2) hacc))
    · by_cases z : b = Dn
      · subst z; rw [upd_same] at e; rw [hD]; exact e
      · rw [upd_ne z] at e; exact g2.s b u e
    · rw [upd_ne]
      · exact g6.n a h1 h2
      · rintro rfl; exact h2 hDn0
    · obtain ⟨ρ, xs, a1, a2, a3⟩ := k2.ex
      exact ⟨ρ, xs, a1, a2, dpA_mono (same_upd hF2) a3⟩
end

/-! ### statements -/
section
variable {K : PySem.W.Frag} {H0 F H F1 H1 : Hp} {Γ : List Sl} {σ : L2.St} {i : Nat} {r : Addr} {ρ : List PD}
theorem Ok.row (o : Ok K H0 Γ σ F H) (h : Γ[i]? = some (.obj (RowR K r ρ))) (hρ : RInv ρ) : RowOk K F H r ∧ σ[i]? = some (some (.ref r)) ∧ H0 r = none := by
  obtain ⟨l, u, hσ, h0, hF, hH, F1, s1, rfl, xs, rfl, hxs⟩ := o.obj i _ h
  exact ⟨⟨hF, ρ, xs, hρ, hH, dpA_mono s1 hxs⟩, hσ, h0⟩
theorem Ok.growR (o : Ok K H0 Γ σ F H) (h : Γ[i]? = some (.obj (RowR K r ρ))) (g : GrowR r F H F1 H1) (k : RowOk K F1 H1 r) : ∃ ρ', RInv ρ' ∧ Ok K H0 (Γ.set i (.obj (RowR K r ρ'))) σ F1 H1 := by
  obtain ⟨l, u, hσ, h0, hF, hH, F2, s1, rfl, xs, rfl, hxs⟩ := o.obj i _ h
  obtain ⟨ρ', ys, hρ', hy, hys⟩ := k.ex
  have far : ∀ (j : Nat) b l', i ≠ j → Γ[j]? = some b → b.isOwn = true → σ[j]? = some (some (.ref l')) → l' ≠ l := fun j b l' hij hj hb hs e => by
    subst e
    exact hij (o.sep i j _ b l' h hj rfl hb hσ hs)
  refine ⟨ρ', hρ', by rw [List.length_set]; exact o.len, fun j d e => ?_, fun j ds e => ?_, fun j R e => ?_, fun j m a b l' e1 e2 o1 o2 s1 s2 => ?_⟩
  · rcases get_set e with ⟨e1, e2, _⟩ | ⟨e1, e2⟩
    · cases e2
    · obtain ⟨v, a, b⟩ := o.val j d e2
      exact ⟨v, a, dp_mono g.f b⟩
  · rcases get_set e with ⟨e1, e2, _⟩ | ⟨e1, e2⟩
    · cases e2
    · obtain ⟨l', zs, a, b, c, d, f⟩ := o.own j ds e2
      have hne := far j _ l' e1 e2 rfl a
      exact ⟨l', zs, a, b, g.n l' c (by rw [d]; simp), g.h l' _ hne d, dpA_mono g.f f⟩
  · rcases get_set e with ⟨e1, e2, _⟩ | ⟨e1, e2⟩
    · subst e1; cases e2
      exact ⟨l, _, hσ, h0, k.no, hy, F1, Same.refl F1, rfl, ys, rfl, hys⟩
    · obtain ⟨l', u, a, b, c, d, F3, s3, f⟩ := o.obj j R e2
      have hne := far j _ l' e1 e2 rfl a
      exact ⟨l', u, a, b, g.n l' c (by rw [d]; simp), g.h l' _ hne d, F3, s3.trans g.f, f⟩
  · have back : ∀ (j : Nat) c, (Γ.set i (.obj (RowR K l ρ')))[j]? = some c → c.isOwn = true → ∃ c', Γ[j]? = some c' ∧ c'.isOwn = true := fun j c q oo => by
      rcases get_set q with ⟨e1, e2, e3⟩ | ⟨e1, e2⟩
      · subst e1; exact ⟨_, h, rfl⟩
      · exact ⟨c, e2, oo⟩
    obtain ⟨a', q1, q2⟩ := back j a e1 o1
    obtain ⟨b', q3, q4⟩ := back m b e2 o2
    exact o.sep j m a' b' l' q1 q3 q2 q4 s1 s2
end
section
variable {X : Cx} {e e1 e2 c : Expr} {a b : List Stmt} {Γ : List Sl} {P : Post} {i : Nat} {r : Addr} {ρ : List PD} {D D1 D2 : PD → Prop} {B : Bool → Prop} {z y : Str} {p pos : Pos} {s2 : Sl}
abbrev rowS (X : Cx) (r : Addr) (ρ : List PD) : Sl := .obj (RowR X.K r ρ)
theorem S.asgR (i j : Nat) (hN : X.N.Nodup) (hi0 : Γ[i]? = some (rowS X r ρ)) (hρ : RInv ρ) (h : ER X r i e (vals Γ) D) (k : ∀ d ρ', D d → RInv ρ' → P.nx ((Γ.set i (rowS X r ρ')).set j (.val d))) (hj : X.N[j]? = some z := by rfl) (hx : Loc X.env.scope z := by first | exact Or.inl rfl | exact Or.inr rfl)
    (hs : swapsWith e (some (.Name z p)) pos.line X.env = pure false := by rfl) (hf : X.fn z = true ∨ X.env.scope.names.lookup z = some .local := by first | exact .inl rfl | exact .inr rfl) : S X (.Assign [.Name z p] e pos) Γ P :=
  S.mk (ps_set hN hj hx (pe_sem X) hs hf) fun F0 H0 F σ H D g o q => by
    obtain ⟨ro, hσ, h0⟩ := o.row hi0 hρ
    refine h F σ H g.s ro o.vals hσ _ fun v F1 H1 d g1 k1 hd hv => ?_
    obtain ⟨ρ', hρ', o1⟩ := o.growR hi0 g1 k1
    exact q.nx _ _ F1 H1 (k d ρ' hd hρ') g1.f (g.withR g1 h0) (o1.setVal hv j)
theorem S.iteR (i : Nat) (hi0 : Γ[i]? = some (rowS X r ρ)) (hρ : RInv ρ) (hc : TR X r i c (vals Γ) B) (h1 : B true → ∀ ρ', RInv ρ' → Ss X a (Γ.set i (rowS X r ρ')) P) (h2 : B false → ∀ ρ', RInv ρ' → Ss X b (Γ.set i (rowS X r ρ')) P) : S X (.If c a b pos) Γ P :=
  S.mk (ps_if (pt_sem X) (pss_sem X) (pss_sem X)) fun F0 H0 F σ H D g o q => by
    obtain ⟨ro, hσ, h0⟩ := o.row hi0 hρ
    refine hc F σ H g.s ro o.vals hσ _ fun x F1 H1 g1 k1 hb => ?_
    obtain ⟨ρ', hρ', o1⟩ := o.growR hi0 g1 k1
    cases x with
    | true => exact L2.iteT (h1 hb ρ' hρ' F0 H0 F1 σ H1 D (g.withR g1 h0) o1 (q.mono g1.f))
    | false => exact L2.iteF (h2 hb ρ' hρ' F0 H0 F1 σ H1 D (g.withR g1 h0) o1 (q.mono g1.f))
theorem S.retR (i : Nat) (hi0 : Γ[i]? = some (rowS X r ρ)) (hρ : RInv ρ) (h : ER X r i e (vals Γ) D) (k : ∀ d ρ', D d → RInv ρ' → P.rt d (Γ.set i (rowS X r ρ'))) : S X (.Return (some e) pos) Γ P :=
  S.mk (ps_ret (pe_sem X)) fun F0 H0 F σ H D g o q => by
    obtain ⟨ro, hσ, h0⟩ := o.row hi0 hρ
    refine h F σ H g.s ro o.vals hσ _ fun v F1 H1 d g1 k1 hd hv => ?_
    obtain ⟨ρ', hρ', o1⟩ := o.growR hi0 g1 k1
    exact q.rt d _ v σ F1 H1 (k d ρ' hd hρ') g1.f (g.withR g1 h0) o1 hv
theorem S.parRS (i j m : Nat) {x y : Str} {px py pt : Pos} {kt k2 pt2} (hN : X.N.Nodup) (hi0 : Γ[i]? = some (rowS X r ρ)) (hρ : RInv ρ) (h1 : ER X r i e1 (vals Γ) D1) (h2 : ∀ ρ', RInv ρ' → Src X e2 (Γ.set i (rowS X r ρ')) s2) (k : ∀ d ρ', D1 d → RInv ρ' → P.nx (((Γ.set i (rowS X r ρ')).set j (.val d)).set m s2))
    (hij : j ≠ m := by decide) (hi : X.N[j]? = some x := by rfl) (hj : X.N[m]? = some y := by rfl)
    (hx : X.env.scope.names.lookup x = some .local := by rfl) (hy : X.env.scope.names.lookup y = some .local := by rfl)
    (hw : swappedStores [.Tuple [.Name x px, .Name y py] kt pt] (.Tuple [e1, e2] k2 pt2) X.env = pure (some [x, y]) := by rfl)
    (hs : swapsWithSole [.Tuple [.Name x px, .Name y py] kt pt] (.Tuple [e1, e2] k2 pt2) pos.line X.env = pure false := by rfl) (hc : X.calm = true := by rfl)
    (hq1 : starEach [e1, e2] X.env = (false, eval e1 X.env) :: starEach [e2] X.env := by rfl) (hq2 : starEach [e2] X.env = (false, eval e2 X.env) :: starEach [] X.env := by rfl) :
    S X (.Assign [.Tuple [.Name x px, .Name y py] kt pt] (.Tuple [e1, e2] k2 pt2) pos) Γ P :=
  S.mk (ps_par hc hN hi hj hij hx hy (pa_cons (pe_sem X) (pa_cons (pe_sem X) pa_nil hq2) hq1) hw hs) fun F0 H0 F σ H D g o q => by
    obtain ⟨ro, hσ, h0⟩ := o.row hi0 hρ
    refine h1 F σ H g.s ro o.vals hσ _ fun v1 F1 H1 d1 g1 k1 hd1 hv1 => ?_
    obtain ⟨ρ', hρ', o1⟩ := o.growR hi0 g1 k1
    have g2 := g.withR g1 h0
    refine h2 ρ' hρ' H0 F1 σ H1 g1.s o1 _ fun v2 F2 H2 g3 hd2 => ?_
    exact ⟨v1, v2, rfl, q.nx _ _ F2 H2 (k d1 ρ' hd1 hρ') (g1.f.trans g3.f) (g2.trans g3) ((o1.setVal hv1 j).setSrc g2.h g3 hd2 m)⟩
theorem S.parRR (i j m : Nat) {x y : Str} {px py pt : Pos} {kt k2 pt2} (hN : X.N.Nodup) (hi0 : Γ[i]? = some (rowS X r ρ)) (hρ : RInv ρ) (h1 : ER X r i e1 (vals Γ) D1) (h2 : ER X r i e2 (vals Γ) D2) (k : ∀ d d' ρ', D1 d → D2 d' → RInv ρ' → P.nx (((Γ.set i (rowS X r ρ')).set j (.val d)).set m (.val d')))
    (hij : j ≠ m := by decide) (hi : X.N[j]? = some x := by rfl) (hj : X.N[m]? = some y := by rfl)
    (hx : X.env.scope.names.lookup x = some .local := by rfl) (hy : X.env.scope.names.lookup y = some .local := by rfl)
    (hw : swappedStores [.Tuple [.Name x px, .Name y py] kt pt] (.Tuple [e1, e2] k2 pt2) X.env = pure (some [x, y]) := by rfl)
    (hs : swapsWithSole [.Tuple [.Name x px, .Name y py] kt pt] (.Tuple [e1, e2] k2 pt2) pos.line X.env = pure false := by rfl) (hc : X.calm = true := by rfl)
    (hq1 : starEach [e1, e2] X.env = (false, eval e1 X.env) :: starEach [e2] X.env := by rfl) (hq2 : starEach [e2] X.env = (false, eval e2 X.env) :: starEach [] X.env := by rfl) :
    S X (.Assign [.Tuple [.Name x px, .Name y py] kt pt] (.Tuple [e1, e2] k2 pt2) pos) Γ P :=
  S.mk (ps_par hc hN hi hj hij hx hy (pa_cons (pe_sem X) (pa_cons (pe_sem X) pa_nil hq2) hq1) hw hs) fun F0 H0 F σ H D g o q => by
    obtain ⟨ro, hσ, h0⟩ := o.row hi0 hρ
    refine h1 F σ H g.s ro o.vals hσ _ fun v1 F1 H1 d1 g1 k1 hd1 hv1 => h2 F1 σ H1 g1.s k1 (o.vals.mono g1.f) hσ _ fun v2 F2 H2 d2 g2 k2 hd2 hv2 => ?_
    obtain ⟨ρ', hρ', o1⟩ := o.growR hi0 (g1.trans g2) k2
    exact ⟨v1, v2, rfl, q.nx _ _ F2 H2 (k d1 d2 ρ' hd1 hd2 hρ') (g1.f.trans g2.f) (g.withR (g1.trans g2) h0) ((o1.setVal (dp_mono g2.f hv1) j).setVal hv2 m)⟩
/-- a list of ours is the row -/
theorem Ss.nameRow {sts : List Stmt} {ds : List PD} (i : Nat) (hi : Γ[i]? = some (.own ds)) (h : ∀ r, Ss X sts (Γ.set i (rowS X r ds)) P) : Ss X sts Γ P := by
  intro F0 H0 F σ H D g o q
  obtain ⟨l, xs, hσ, h0, hF, hH, hxs⟩ := o.own i ds hi
  have o1 := o.put (s := rowS X l ds) (o := .lst xs) hi rfl hσ (.inr ⟨_, F, rfl, Same.refl F, rfl, xs, rfl, hxs⟩)
  have e : upd H l (.lst xs) = H := by
    funext b
    by_cases hb : b = l
    · subst hb; rw [upd_same, hH]
    · rw [upd_ne hb]
  rw [e] at o1
  exact h l F0 H0 F σ H D g o1 q

/-! ### reading and writing the row itself -/
abbrev rowG (Γ : List Sl) (i : Nat) (ρ : List PD) : List (Option PD) := (frz Γ).set i (some (.list ρ))
theorem Ok.rowEnv {K : PySem.W.Frag} {H0 F H : Hp} {σ : L2.St} (o : Ok K H0 Γ σ F H) (s : Same F H) (h : Γ[i]? = some (.obj (RowR K r ρ))) : EnvD K H σ (rowG Γ i ρ) := by
  obtain ⟨l, u, hσ, h0, hF, hH, F1, s1, rfl, xs, rfl, hxs⟩ := o.obj i _ h
  have e := (o.frz s).set (v := .ref l) (d := .list ρ) (.lst (SqL.of hH) (dpA_mono (s1.trans s) hxs)) i
  have : σ.set i (some (V.ref l)) = σ := by
    obtain ⟨hi, e⟩ := List.getElem?_eq_some_iff.mp hσ
    rw [← e, List.set_getElem_self]
  rwa [this] at e
theorem Src.row (i : Nat) {d : PD} (hi0 : Γ[i]? = some (rowS X r ρ)) (h : E X e (rowG Γ i ρ) d) (hz : scalD d = true := by rfl) : Src X e Γ (.val d) := fun H0 F σ H s o Q q =>
  h H σ H (Same.refl H) (o.rowEnv s hi0) Q fun v F1 H1 g1 hd => q v F H1 (Grow.heap s g1.h) (dp_scal hz hd)
theorem S.iteRow (i : Nat) {x : Bool} (hi0 : Γ[i]? = some (rowS X r ρ)) (hc : T X c (rowG Γ i ρ) x) (h1 : x = true → Ss X a Γ P) (h2 : x = false → Ss X b Γ P) : S X (.If c a b pos) Γ P :=
  S.mk (ps_if (pt_sem X) (pss_sem X) (pss_sem X)) fun F0 H0 F σ H D g o q => hc H σ H (Same.refl H) (o.rowEnv g.s hi0) _ fun F1 H1 g1 => by
    have g2 : Grow F H F H1 := Grow.heap g.s g1.h
    cases x with
    | true => exact L2.iteT (h1 rfl F0 H0 F σ H1 D (g.trans g2) (o.grow g2) q)
    | false => exact L2.iteF (h2 rfl F0 H0 F σ H1 D (g.trans g2) (o.grow g2) q)
theorem S.retSc (h : Src X e Γ (.val d)) (k : P.rt d Γ) : S X (.Return (some e) pos) Γ P :=
  S.mk (ps_ret (pe_sem X)) fun F0 H0 F σ H D g o q => h H0 F σ H g.s o _ fun v F1 H1 g1 hd => q.rt d Γ v σ F1 H1 k g1.f (g.trans g1) (o.grow g1) hd
theorem S.setRow (i j : Nat) {d : PD} {npos tpos : Pos} (hi0 : Γ[i]? = some (rowS X r ρ)) (h : Src X e Γ (.val d)) (h2 : Src X e2 Γ (.val (Ck.nat j))) (hj : j < ρ.length) (hl : ρ.length ≤ 1000) (k : P.nx (Γ.set i (rowS X r (ρ.set j d)))) (hN : X.N[i]? = some z := by rfl) (hv : Vis X.env.scope z := by first | exact Or.inl rfl | exact Or.inr (Or.inl rfl) | exact Or.inr (Or.inr rfl))
    (hd : (z == ("__debug__" : Str)) = false := by decide) (hcd : (z == ("__classdict__" : Str)) = false := by decide)
    (ha : ∀ v, assign (.Subscript (.Name z npos) e2 tpos) X.env v = (do
      let ov ← holding [v] (eval (.Name z npos) X.env)
      let iv ← holding [v, ov] (eval e2 X.env)
      standAt tpos
      holding [v, ov, iv] (setItem ov iv v)
      release [v, ov, iv] []) := by intro _; rfl)
    (hs : swapsWithSole [.Subscript (.Name z npos) e2 tpos] e pos.line X.env = pure false := by rfl) (hw : swappedStores [.Subscript (.Name z npos) e2 tpos] e X.env = pure none := by rfl)
    (h1 : (assignEach [.Subscript (.Name z npos) e2 tpos] X.env).map (·.2) = [assign (.Subscript (.Name z npos) e2 tpos) X.env] := by rfl) :
    S X (.Assign [.Subscript (.Name z npos) e2 tpos] e pos) Γ P :=
  S.mk (ps_asg (pe_sem X) (pg_sub (pv i hN hv hd hcd) (pe_sem X) set_list ha) hs hw h1) fun F0 H0 F σ H D g o q => by
    obtain ⟨l, u, hσ, h0, hF, hH, Fx, sx, rfl, xs, rfl, hxs⟩ := o.obj i _ hi0
    refine h H0 F σ H g.s o _ fun v F1 H1 g1 hd1 => ⟨.ref l, hσ, h2 H0 F1 σ H1 g1.s (o.grow g1) _ fun w F2 H2 g2 hd2 => ?_⟩
    have gg := g1.trans g2
    have o1 := o.grow gg
    have hF1 : F2 l = none := gg.n l hF (by rw [hH]; simp)
    have e1 := dpA_len hxs
    refine ⟨l, xs, (j : Int), j, rfl, dp_int hd2, gg.h _ _ hH, Evl.ixN_nat (by omega), ?_⟩
    exact q.nx _ σ F2 _ k gg.f ((g.trans gg).put h0 hF1) (o1.put hi0 rfl hσ (.inr ⟨_, F2, rfl, Same.refl F2, rfl, _, rfl, dpA_set (dpA_mono (sx.trans gg.f) hxs) (dp_mono g2.f hd1) j⟩))
end

/-! ### defs of the row -/
section
variable {P : Program} {w : World} {K : PySem.W.Frag} {mg : Str → Option Value} {base : Heap}
theorem start_cons {z : Str} {N : List Str} {v : V} {us : List V} : L2.start (z :: N) (v :: us) = some v :: L2.start N us := by
  unfold L2.start
  rw [List.map_cons, List.length_cons, List.length_cons, Nat.add_sub_add_right]
  rfl
theorem startG_own {n : Nat} {ds : List PD} {i : Nat} {s : Sl} (h : (startG n ds)[i]? = some s) : s.isOwn = false := by
  have := List.mem_of_getElem? h
  unfold startG at this
  rcases List.mem_append.mp this with h1 | h1
  · obtain ⟨d, _, rfl⟩ := List.mem_map.mp h1; rfl
  · rw [(List.mem_replicate.mp h1).2]; rfl
theorem Ok.consRow {H0 F H : Hp} {Γ : List Sl} {σ : L2.St} {r : Addr} {ρ : List PD} {xs : List V} (o : Ok K H0 Γ σ F H) (hno : ∀ (i : Nat) s, Γ[i]? = some s → s.isOwn = false) (h0 : H0 r = none) (hF : F r = none) (hH : H r = some (.lst xs)) (hx : DpAll K F xs ρ) :
    Ok K H0 (.obj (RowR K r ρ) :: Γ) (some (.ref r) :: σ) F H := by
  refine ⟨by simp [o.len], fun j d e => ?_, fun j ds e => ?_, fun j R e => ?_, fun j m a b l e1 e2 o1 o2 s1 s2 => ?_⟩
  · cases j with
    | zero => cases e
    | succ j => exact o.val j d e
  · cases j with
    | zero => cases e
    | succ j => exact o.own j ds e
  · cases j with
    | zero => cases e; exact ⟨r, _, rfl, h0, hF, hH, F, Same.refl F, rfl, xs, rfl, hx⟩
    | succ j => exact o.obj j R e
  · cases j with
    | zero =>
      cases m with
      | zero => rfl
      | succ m => rw [hno m b e2] at o2; cases o2
    | succ j => rw [hno j a e1] at o1; cases o1
theorem DefOk.makeR {x qual : Str} {st : Stmt} {f : Addr} {fd : FuncData} {z : Str} {N ps : List Str} {k : Nat} {pre : List PD → (PD → Prop) → Prop} (F : Fun K x qual st f fd) (hm : mg x = some (.ref f)) (b : Binds K fd (z :: ps) []) (S : FnScope (z :: N) (z :: ps) (defScope st))
    (body : ∀ (cdv : Value) (A : Around) (outer : List Env) (s : Shared) (H : Hp) (E : XK), Room k (A.deeper (envOfC qual (defScope st) s.heap.objs.size f cdv)) → ∀ r ρ ds D, RInv ρ → pre ds D → ds.length = ps.length →
      Ss (bodyX P w K mg base (z :: N) qual st f cdv A outer s H E) (defBody st) (rowS (bodyX P w K mg base (z :: N) qual st f cdv A outer s H E) r ρ :: startG N.length ds) { nx := fun _ => False, rt := fun d Γ' => D d ∧ ∃ ρ', RInv ρ' ∧ Γ'[0]? = some (.obj (RowR K r ρ')) }) : DefOk P w K mg base (k + 1) x (z :: ps) (SpR K ps.length pre) := by
  refine ⟨f, fd, F.ok S (fun vs H Q E h => ?_) (fun cdv A outer s H vs Q E hr h => ?_), hm, F.kp, b⟩
  · obtain ⟨r, us, F, ds, D, rfl, _, _, h, hn, _⟩ := h
    rw [List.length_cons, dpA_len h, hn]; rfl
  · obtain ⟨r, us, F1, ds, D, rfl, hs, ro, hvs, hn, hp, k⟩ := h
    obtain ⟨ρ, xs, hρ, hH, hx⟩ := ro.ex
    let H0 : Hp := fun b => if b = r then none else H b
    have h0 : H0 r = none := if_pos rfl
    have h1 : ∀ b, b ≠ r → H0 b = H b := fun b hb => if_neg hb
    have sH : Same H0 H := fun b o e => by
      by_cases hb : b = r
      · subst hb; rw [h0] at e; cases e
      · rw [h1 b hb] at e; exact e
    have ok1 : Ok K H0 (startG N.length ds) (L2.start N us) F1 H := ok_start hvs
    have ok2 := ok1.consRow (r := r) (ρ := ρ) (fun i s h => startG_own h) h0 ro.no hH hx
    rw [← start_cons (z := z)] at ok2
    refine ⟨_, pss_sem _, body cdv A outer s H E hr r ρ ds D hρ hp hn F1 H0 F1 (L2.start (z :: N) (.ref r :: us)) H _ ⟨Same.refl F1, sH, hs, fun a q _ => q⟩ ok2 ⟨fun Γ' σ' F' H' z => z.elim, fun Γ' σ' F' H' z => z.elim, fun Γ' σ' F' H' z => z.elim, fun d' Γ' v σ' F' H' z s' g' o' hd => ?_, fun ds' p xs F' H' z => z.elim, fun R p u F' H' F1 z => z.elim⟩⟩
    obtain ⟨hd', ρ', hρ', hΓ⟩ := z
    obtain ⟨ro', _, _⟩ := o'.row hΓ hρ'
    refine k v F' H' d' ⟨s', fun b o hb e => g'.h b o (by rw [h1 b hb]; exact e), g'.s, fun a q1 q2 => ?_, fun b hb => ?_⟩ ro' hd' hd
    · by_cases ha : a = r
      · subst ha; exact ro'.no
      · exact g'.n a q1 (by rw [h1 a ha]; exact q2)
    · by_cases ha : b = r
      · subst ha; exact ro'.some
      · obtain ⟨o, e⟩ := some_of hb
        rw [g'.h b o (by rw [h1 b ha]; exact e)]; simp
end
end Ck

set_option Elab.async false
set_option linter.all false
set_option maxRecDepth 100000
namespace Ck
open PySem PySem.Spec PyProof.Rows L2

section
variable {P : Program} {w : World} {K : PySem.W.Frag} {mg : Str → Option Value} {base : Heap}
/-! ### _law_taken -/
abbrev s_taken : Stmt := top 53
abbrev N_taken : List Str := ["_law_row", "_law_many", "_law_found", "_law_cell"]
theorem sc_taken : FnScope N_taken ["_law_row", "_law_many"] (defScope s_taken) := ⟨rfl, rfl, rfl, by decide +kernel, rfl, by decide +kernel, by decide +kernel⟩
def pre_taken (ds : List PD) (D : PD → Prop) : Prop := ∃ many : Nat, ds = [nat many] ∧ 1 ≤ many ∧ many ≤ 1000 ∧ ∀ x : Nat, x < many → D (nat x)
abbrev Taken (P : Program) (w : World) (K : PySem.W.Frag) (mg : Str → Option Value) (base : Heap) : Prop := DefOk P w K mg base 1 "_law_taken" ["_law_row", "_law_many"] (SpR K 1 pre_taken)
theorem modN {c : Int} {m : Nat} (h : 1 ≤ m) : ∃ x : Nat, c % (m : Int) = (x : Int) ∧ x < m := by
  have h1 := Int.emod_nonneg c (show (m : Int) ≠ 0 by omega)
  have h2 := Int.emod_lt_of_pos c (show (0 : Int) < m by omega)
  exact ⟨(c % (m : Int)).toNat, by omega, by omega⟩
theorem ok_taken {f : Addr} {fd : FuncData} (F : Fun K "_law_taken" "_law_taken" s_taken f fd) (hm : mg "_law_taken" = some (.ref f)) (b : Binds K fd ["_law_row", "_law_many"] []) (B : Bt mg) : Taken P w K mg base := by
  refine DefOk.makeR F hm b sc_taken fun cdv A0 outer s H xk hr r ρ ds D hρ hp hl => ?_
  obtain ⟨many, rfl, h1, h2, hD⟩ := hp
  obtain ⟨xs, i, z, c, rfl⟩ := hρ
  have hD' : ∀ c : Int, D (.int (c % (many : Int))) := fun c => by
    obtain ⟨x, e, hx⟩ := modN (c := c) h1
    rw [e]; exact hD x hx
  refine Ss.cons (M := fun Γ => Γ = [rowS (bodyX P w K mg base N_taken "_law_taken" s_taken f cdv A0 outer s H xk) r [.list (xs.map .int), nat i, .int z, .int c], .val (nat many), .any, .any])
    (S.iteRow 0 rfl (T.cmp op_gt (rv_I0 fun _ => .bl _) (E.ixL (E.v 0) (E.nat 3) rfl) E.int) (fun _ => ?_) fun _ => Ss.nil rfl) ?_
  · refine Ss.to (S.set 2 sc_taken.nd (Src.row 0 rfl (E.mod (E.int1 B.int (E.ixL (E.v 0) (E.nat 3) rfl)) (E.v 1) (by omega))) rfl) ?_
    refine Ss.to (S.setRow 0 3 rfl (Src.row 0 rfl (E.fdiv (E.ixL (E.v 0) (E.nat 3) rfl) (E.v 1) (by unfold CDiv; omega))) (Src.v (E.nat 3)) (by simp) (by simp) rfl) ?_
    exact Ss.one (S.ret (E.v 2) ⟨hD' _, _, ⟨xs, i, z, _, rfl⟩, rfl⟩)
  rintro _ rfl
  refine Ss.to (S.setRow 0 1 rfl (Src.row 0 rfl (E.addN (E.ixL (E.v 0) (E.nat 1) rfl) (E.nat 1))) (Src.v (E.nat 1)) (by simp) (by simp) rfl) ?_
  refine Ss.cons (M := fun Γ => i + 1 ≤ xs.length ∧ Γ = [rowS (bodyX P w K mg base N_taken "_law_taken" s_taken f cdv A0 outer s H xk) r [.list (xs.map .int), nat (i + 1), .int z, .int c], .val (nat many), .any, .any])
    (S.iteRow 0 rfl (T.gtN (E.ixL (E.v 0) (E.nat 1) rfl) (E.lenL B.len (E.ixL (E.v 0) (E.nat 0) rfl))) (fun _ => ?_) fun hx => Ss.nil ⟨?_, rfl⟩) ?_
  · refine Ss.to (S.setRow 0 2 rfl (Src.row 0 rfl (E.mod (E.int1 B.int (E.add (E.mul (E.ixL (E.v 0) (E.nat 2) rfl) E.int (by unfold CMul; omega)) E.int)) E.int (by decide))) (Src.v (E.nat 2)) (by simp) (by simp) rfl) ?_
    exact Ss.one (S.retSc (Src.row 0 rfl (E.mod (E.int1 B.int (E.fdiv (E.ixL (E.v 0) (E.nat 2) rfl) E.int (by unfold CDiv; omega))) (E.v 1) (by omega))) ⟨hD' _, _, ⟨xs, _, _, _, rfl⟩, rfl⟩)
  · have := of_decide_eq_false hx
    rw [List.length_map] at this
    omega
  rintro _ ⟨hi, rfl⟩
  have hxi : xs[i]? = some (xs[i]'(by omega)) := by simp [show i < xs.length by omega]
  refine Ss.to (S.set 3 sc_taken.nd (Src.row 0 (d := .int (xs[i]'(by omega))) rfl (E.ixL (E.ixL (E.v 0) (E.nat 0) rfl) (E.subN (E.ixL (E.v 0) (E.nat 1) rfl) (E.nat 1) (by omega)) (by rw [List.getElem?_map, Nat.add_sub_cancel, hxi]; rfl))) rfl) ?_
  generalize xs[i]'(by omega) = x
  refine Ss.to (S.setRow 0 2 rfl (Src.row 0 rfl (E.mod (E.int1 B.int (E.add (E.add (E.mul (E.ixL (E.v 0) (E.nat 2) rfl) E.int (by unfold CMul; omega)) (E.v 3)) E.int)) E.int (by decide))) (Src.v (E.nat 2)) (by simp) (by simp) rfl) ?_
  refine Ss.cons (M := fun Γ => ∃ z' c', Γ = [rowS (bodyX P w K mg base N_taken "_law_taken" s_taken f cdv A0 outer s H xk) r [.list (xs.map .int), nat (i + 1), .int z', .int c'], .val (nat many), .any, .val (.int x)])
    (S.iteRow 0 rfl (T.cmp op_ge (rv_I0 fun _ => .bl _) (E.v 3) (E.bin op_pow (rv_I (i := 10) (j := 18) (by unfold CPow; decide) fun _ => .int _) E.int E.int)) (fun _ => ?_) fun _ => Ss.nil ⟨_, _, rfl⟩) ?_
  · exact Ss.one (S.setRow 0 3 rfl (Src.row 0 rfl (E.fdiv (E.v 3) (E.v 1) (by unfold CDiv; omega))) (Src.v (E.nat 3)) (by simp) (by simp) ⟨_, _, rfl⟩)
  rintro _ ⟨z', c', rfl⟩
  exact Ss.one (S.ret (E.mod (E.int1 B.int (E.v 3)) (E.v 1) (by omega)) ⟨hD' _, _, ⟨xs, _, _, _, rfl⟩, rfl⟩)

/-! ### _law_pick -/
abbrev s_pick : Stmt := top 54
abbrev N_pick : List Str := ["_law_row", "_law_things"]
theorem sc_pick : FnScope N_pick ["_law_row", "_law_things"] (defScope s_pick) := ⟨rfl, rfl, rfl, by decide +kernel, rfl, by decide +kernel, by decide +kernel⟩
def pre_pick (ds : List PD) (D : PD → Prop) : Prop := ∃ es, (ds = [.list es] ∨ ds = [.tuple es]) ∧ 1 ≤ es.length ∧ es.length ≤ 1000 ∧ ∀ e ∈ es, D e
abbrev Pick (P : Program) (w : World) (K : PySem.W.Frag) (mg : Str → Option Value) (base : Heap) : Prop := DefOk P w K mg base 2 "_law_pick" ["_law_row", "_law_things"] (SpR K 1 pre_pick)
theorem ok_pick {f : Addr} {fd : FuncData} (F : Fun K "_law_pick" "_law_pick" s_pick f fd) (hm : mg "_law_pick" = some (.ref f)) (b : Binds K fd ["_law_row", "_law_things"] []) (B : Bt mg) (D1 : Taken P w K mg base) : Pick P w K mg base := by
  refine DefOk.makeR F hm b sc_pick fun cdv A0 outer s H xk hr r ρ ds D hρ hp hl => ?_
  obtain ⟨es, hds, h1, h2, hD⟩ := hp
  rcases hds with rfl | rfl
  · refine Ss.one (S.retR 0 rfl hρ (D := D) (ER.ix (D1 := (· = .list es)) (D2 := fun c => ∃ x : Nat, c = nat x ∧ x < es.length) (ER.eq (E.v 1)) (ER.call D1 hr (AR.pure (Ds := (· = [nat es.length])) (A.cons (E.lenL B.len (E.v 1)) A.nil) rfl) fun ds hds => ⟨⟨es.length, hds, h1, h2, fun x hx => ⟨x, rfl, hx⟩⟩, by rw [hds]; rfl⟩) ?_ ⟨false, fun a ha => ⟨es, ha⟩⟩) fun d ρ' hd hρ' => ⟨hd, ρ', hρ', rfl⟩)
    rintro a c rfl ⟨x, rfl, hx⟩
    exact ⟨es, x, es[x], .inl rfl, rfl, by simp [hx], hD _ (List.getElem_mem hx)⟩
  · refine Ss.one (S.retR 0 rfl hρ (D := D) (ER.ix (D1 := (· = .tuple es)) (D2 := fun c => ∃ x : Nat, c = nat x ∧ x < es.length) (ER.eq (E.v 1)) (ER.call D1 hr (AR.pure (Ds := (· = [nat es.length])) (A.cons (E.lenT B.len (E.v 1)) A.nil) rfl) fun ds hds => ⟨⟨es.length, hds, h1, h2, fun x hx => ⟨x, rfl, hx⟩⟩, by rw [hds]; rfl⟩) ?_ ⟨true, fun a ha => ⟨es, ha⟩⟩) fun d ρ' hd hρ' => ⟨hd, ρ', hρ', rfl⟩)
    rintro a c rfl ⟨x, rfl, hx⟩
    exact ⟨es, x, es[x], .inr rfl, rfl, by simp [hx], hD _ (List.getElem_mem hx)⟩

/-! ### _law_step, _law_run -/
abbrev s_step : Stmt := top 57
abbrev N_step : List Str := ["_law_hours", "_law_dial_here", "_law_arrow"]
theorem sc_step : FnScope N_step ["_law_hours", "_law_dial_here", "_law_arrow"] (defScope s_step) := ⟨rfl, rfl, rfl, by decide +kernel, rfl, by decide +kernel, by decide +kernel⟩
def pre_step (ds : List PD) (d : PD) : Prop := ∃ (h : Nat) (dl : List Nat) (a : Nat × Nat), ds = [nat h, dTup dl, dArr a] ∧ 1 ≤ h ∧ dl.length ≤ 100 ∧ a.1 < dl.length ∧ a.2 < dl.length ∧ d = dTup (stepD h dl a)
abbrev Step_ (P : Program) (w : World) (K : PySem.W.Frag) (mg : Str → Option Value) (base : Heap) : Prop := DefOk P w K mg base 1 "_law_step" ["_law_hours", "_law_dial_here", "_law_arrow"] (SpP K 3 pre_step)
theorem ok_step {f : Addr} {fd : FuncData} (F : Fun K "_law_step" "_law_step" s_step f fd) (hm : mg "_law_step" = some (.ref f)) (b : Binds K fd ["_law_hours", "_law_dial_here", "_law_arrow"] []) (B : Bt mg) : Step_ P w K mg base := by
  refine DefOk.make F hm b sc_step fun cdv A0 outer s H xk hr ds d hp hl => ?_
  obtain ⟨h, dl, ⟨a1, a2⟩, rfl, h1, h2, h3, h4, rfl⟩ := hp
  have g1 : dl[a1]? = some (dl.getD a1 0) := by rw [List.getD_eq_getElem?_getD]; simp [h3]
  have g2 : dl[a2]? = some (dl.getD a2 0) := by rw [List.getD_eq_getElem?_getD]; simp [h4]
  refine Ss.one (S.ret (E.is (E.catT (E.catT (E.slTo (E.v 1) (i := a2) (E.ixT (E.v 2) (E.nat 1) rfl) (by rw [List.length_map]; omega))
    (E.tup (A.cons (E.modN (E.int1 B.int (E.addN (m := dl.getD a2 0) (n := dl.getD a1 0) (E.ixT (E.v 1) (E.ixT (i := 1) (E.v 2) (E.nat 1) rfl) (by rw [List.getElem?_map, g2]; rfl)) (E.ixT (E.v 1) (E.ixT (i := 0) (E.v 2) (E.nat 0) rfl) (by rw [List.getElem?_map, g1]; rfl)))) (E.v 0) (by omega)) A.nil)) (by rw [List.length_take, List.length_map]; simp; omega))
    (E.slFrom (E.v 1) (i := a2 + 1) (E.addN (m := a2) (n := 1) (E.ixT (E.v 2) (E.nat 1) rfl) (E.nat 1)) (by rw [List.length_map]; omega)) (by simp; omega)) ?_) rfl)
  show PyData.tuple _ = PyData.tuple _
  congr 1
  unfold stepD
  rw [List.set_eq_take_append_cons_drop, if_pos h4, List.map_append, List.map_cons, List.map_take, List.map_drop]
  simp
abbrev s_run : Stmt := top 58
abbrev N_run : List Str := ["_law_hours", "_law_dial_here", "_law_word_here", "_law_arrow"]
theorem sc_run : FnScope N_run ["_law_hours", "_law_dial_here", "_law_word_here"] (defScope s_run) := ⟨rfl, rfl, rfl, by decide +kernel, rfl, by decide +kernel, by decide +kernel⟩
def pre_run (ds : List PD) (d : PD) : Prop := ∃ (h : Nat) (dl : List Nat) (wd : Arr), ds = [nat h, dTup dl, dWord wd] ∧ 1 ≤ h ∧ dl.length ≤ 100 ∧ (∀ a ∈ wd, a.1 < dl.length ∧ a.2 < dl.length) ∧ d = dTup (runF h dl wd)
abbrev Run_ (P : Program) (w : World) (K : PySem.W.Frag) (mg : Str → Option Value) (base : Heap) : Prop := DefOk P w K mg base 2 "_law_run" ["_law_hours", "_law_dial_here", "_law_word_here"] (SpP K 3 pre_run)
theorem run_len {h : Nat} : ∀ (wd : Arr) (dl : List Nat), (runF h dl wd).length = dl.length
  | [], _ => rfl
  | a :: wd, dl => by
    show (runF h (stepD h dl a) wd).length = _
    rw [run_len wd, step_len]
theorem ok_run {f : Addr} {fd : FuncData} (F : Fun K "_law_run" "_law_run" s_run f fd) (hm : mg "_law_run" = some (.ref f)) (b : Binds K fd ["_law_hours", "_law_dial_here", "_law_word_here"] []) (B : Bt mg) (D : Step_ P w K mg base) : Run_ P w K mg base := by
  refine DefOk.make F hm b sc_run fun cdv A0 outer s H xk hr ds d hp hl => ?_
  obtain ⟨h, dl, wd, rfl, h1, h2, h3, rfl⟩ := hp
  refine Ss.cons (M := fun Γ => ∃ s1, Γ = [.val (nat h), .val (dTup (runF h dl wd)), .val (dWord wd), s1])
    (S.for_ PassesOwn.never (IT.tup (E.v 2)) (fun i Γ => ∃ s1, Γ = [.val (nat h), .val (dTup (runF h dl (wd.take i))), .val (dWord wd), s1]) ⟨_, rfl⟩ ?_ ?_) ?_
  · rintro i d _ hdi ⟨s1, rfl⟩
    obtain ⟨a, ha, rfl⟩ := map_get hdi
    obtain ⟨a1, a2⟩ := h3 a (get_mem ha)
    have e : runF h dl (wd.take (i + 1)) = stepD h (runF h dl (wd.take i)) a := foldl_snoc _ _ ha
    refine ⟨_, G.name 3 sc_run.nd, ?_⟩
    refine Ss.one (S.asg 1 sc_run.nd (E.call D hr (A.cons (E.v 0) (A.cons (E.v 1) (A.cons (E.v 3) A.nil))) ⟨h, runF h dl (wd.take i), a, rfl, h1, by rw [run_len]; exact h2, by rw [run_len]; exact a1, by rw [run_len]; exact a2, rfl⟩) ?_)
    rw [← e]
    exact ⟨_, rfl⟩
  · rintro _ ⟨s1, rfl⟩
    exact ⟨s1, by rw [List.length_map, List.take_length]⟩
  · rintro _ ⟨s1, rfl⟩
    exact Ss.one (S.ret (E.v 1) rfl)
end
end Ck

set_option Elab.async false
set_option linter.all false
set_option maxRecDepth 100000
set_option maxHeartbeats 4000000
namespace Ck
open PySem PySem.Spec PyProof.Rows L2

theorem choose_list {α : Type} {f : α → PD} {p : α → Prop} : ∀ {out : List PD}, (∀ d ∈ out, ∃ a, p a ∧ d = f a) → ∃ xs : List α, out = xs.map f ∧ (∀ a ∈ xs, p a) ∧ xs.length = out.length
  | [], _ => ⟨[], rfl, by simp, rfl⟩
  | d :: out, h => by
    obtain ⟨a, ha, rfl⟩ := h d (by simp)
    obtain ⟨xs, e, hx, hl⟩ := choose_list fun d hd => h d (List.mem_cons_of_mem _ hd)
    exact ⟨a :: xs, by rw [e]; rfl, fun b hb => by
      rcases List.mem_cons.mp hb with e | hb
      · subst e; exact ha
      · exact hx b hb, by simp [hl]⟩
section
variable {X : Cx} {r : Addr} {i : Nat} {e e1 e2 : Expr} {Γ : List (Option PD)} {D : PD → Prop} {p pos : Pos}
theorem ER.int1 (hm : X.mg "int" = none) (ha : ER X r i e Γ fun d => ∃ j, d = .int j ∧ D (.int j)) (hg : Gl X "int" := by rfl) (hs : starEach [e] X.env = (false, eval e X.env) :: starEach [] X.env := by rfl) : ER X r i (.Call (.Name "int" p) [e] [] pos) Γ D :=
  ER.ct call_int1 (Ds := fun ds => ∃ j, ds = [.int j] ∧ D (.int j)) (fun ds hds => by
    obtain ⟨j, rfl, hd⟩ := hds
    refine ⟨.int j, hd, fun F H vs s h Q q => ?_⟩
    cases h with
    | cons h hs =>
      cases hs
      exact .inl ⟨_, by rw [dp_int h], q _ F H (Grow.refl s) (.int _)⟩) hm (by decide +kernel) (AR.one (ha.imp fun d ⟨j, h1, h2⟩ => ⟨j, by rw [h1], h2⟩) hs) hg (he := hs)
theorem ER.tupleOf (hm : X.mg "tuple" = none) (ha : ER X r i e Γ fun d => ∃ ds, d = .list ds ∧ D (.tuple ds)) (hg : Gl X "tuple" := by rfl) (hs : starEach [e] X.env = (false, eval e X.env) :: starEach [] X.env := by rfl) : ER X r i (.Call (.Name "tuple" p) [e] [] pos) Γ D :=
  ER.ct call_tuple_of (Ds := fun ds => ∃ es, ds = [.list es] ∧ D (.tuple es)) (fun ds hds => by
    obtain ⟨es, rfl, hd⟩ := hds
    refine ⟨.tuple es, hd, fun F H vs s h Q q => ?_⟩
    cases h with
    | cons h hs =>
      cases hs
      obtain ⟨a, xs, rfl, hl, hd⟩ := dp_lst h
      exact ⟨a, xs, rfl, .inl ⟨s.seq hl, fun l hl => q (.ref l) _ _ (Grow.new s hl) (.tup (SqT.of upd_same) (dpA_mono (same_upd (s.free hl)) hd))⟩⟩) hm (by decide +kernel) (AR.one (ha.imp fun d ⟨es, h1, h2⟩ => ⟨es, by rw [h1], h2⟩) hs) hg (he := hs)
theorem EF.ite {x : Bool} {c : Expr} {ds : List PD} (hc : T X c Γ x) (h1 : x = true → EF X e1 Γ ds) (h2 : x = false → EF X e2 Γ ds) : EF X (.IfExp c e1 e2 pos) Γ ds := by
  refine EF.mk (pe_ifExp (pt_sem X) (pe_sem X) (pe_sem X)) fun F σ H s E Q q => hc F σ H s E _ fun F1 H1 g1 => ?_
  cases x with
  | true => rw [if_pos rfl]; exact h1 rfl F1 σ H1 g1.s (E.mono g1.f) Q fun p xs F2 H2 g2 a b c d => q p xs F2 H2 (g1.trans g2) (g1.fresh a) b c d
  | false => rw [if_neg Bool.false_ne_true]; exact h2 rfl F1 σ H1 g1.s (E.mono g1.f) Q fun p xs F2 H2 g2 a b c d => q p xs F2 H2 (g1.trans g2) (g1.fresh a) b c d
abbrev arL (a : Nat × Nat) : List Int := [(a.1 : Int), (a.2 : Int)]
theorem arrs_at {K : PySem.W.Frag} {F : Hp} : ∀ {as : Arr} {xs : List V}, DpAll K F xs (as.map dArr) → ∃ ks : List (Addr × List Int), xs = ks.map (fun p => V.ref p.1) ∧ ks.map (·.2) = as.map arL ∧ ∀ p ∈ ks, SqT K F p.1 (p.2.map V.int)
  | [], _, .nil => ⟨[], rfl, rfl, by simp⟩
  | a :: as, _, .cons h hs => by
    obtain ⟨l, ys, rfl, hy, hd⟩ := dp_tup h
    have e : ([nat a.1, nat a.2] : List PD) = (arL a).map PyData.int := rfl
    rw [e] at hd
    have e2 := dpA_ints.mp hd
    subst e2
    obtain ⟨ks, h1, h2, h3⟩ := arrs_at hs
    exact ⟨(l, arL a) :: ks, by rw [h1]; rfl, by rw [List.map_cons, List.map_cons, h2], fun p hp => by
      rcases List.mem_cons.mp hp with e | hp
      · subst e; exact hy
      · exact h3 p hp⟩
theorem ER.sortedSet {as : Arr} (hu : X.A.units + 64 < cLine) (h : E X e Γ (.list (as.map dArr))) (hf : as.length < 64) (hb : ∀ a ∈ as, a.1 < 64 ∧ a.2 < 64)
    (hD : ∀ ar : Arr, ar.Pairwise lexlt → (∀ a ∈ ar, a ∈ as) → ar.length < 64 → D (.list (ar.map dArr))) (hm : X.mg "sorted" = none) (hm2 : X.mg "set" = none) (hg : Gl X "sorted" := by rfl) (hg2 : Gl X "set" := by rfl) (hc : X.calm = true := by rfl) {p2 pos2 : Pos}
    (hs : starEach [e] X.env = (false, eval e X.env) :: starEach [] X.env := by rfl)
    (hs2 : starEach [.Call (.Name "set" p2) [e] [] pos2] X.env = (false, eval (.Call (.Name "set" p2) [e] [] pos2) X.env) :: starEach [] X.env := by rfl) : ER X r i (.Call (.Name "sorted" p) [.Call (.Name "set" p2) [e] [] pos2] [] pos) Γ D := by
  refine ER.mk (pe_callB (cr_sortedT hc) hg hm (by decide +kernel) (pa_cons (pe_callTy (cr_setOfT hc hu) hg2 hm2 (by decide +kernel) (pa_cons (pe_sem X) pa_nil hs) (he := hs) (hpl := rfl)) pa_nil hs2) (he := hs2) (hpl := rfl)) ?_
  intro F σ H s ro Ee hi Q q
  refine h F σ H s Ee _ fun v F1 H1 g1 hd => ?_
  obtain ⟨l, xs, rfl, hl, hxs⟩ := dp_lst hd
  obtain ⟨ks, rfl, hk2, hk3⟩ := arrs_at hxs
  have hkl : ks.length = as.length := by have := congrArg List.length hk2; simpa using this
  have hof : ∀ p ∈ ks, ∃ a ∈ as, p.2 = arL a := fun p hp => by
    have : p.2 ∈ ks.map (·.2) := List.mem_map_of_mem hp
    rw [hk2] at this
    obtain ⟨a, ha, e⟩ := List.mem_map.mp this
    exact ⟨a, ha, e.symm⟩
  refine ⟨l, ks, rfl, g1.s.seq hl, fun p hp => seqT g1.s (hk3 p hp), by omega, fun b L hb2 hLk _ => ?_⟩
  have gS : Grow F1 H1 F1 (upd H1 b (SetTO X.prog X.w b L)) := Grow.heap g1.s (same_upd hb2)
  have hB : ∀ p ∈ L, p.2.length = 2 ∧ TS.Bd 64 p.2 := fun p hp => by
    obtain ⟨a, ha, e⟩ := hof p (hLk p hp)
    obtain ⟨b1, b2⟩ := hb a ha
    rw [e]
    refine ⟨rfl, fun m hm => ?_⟩
    have : m = (a.1 : Int) ∨ m = (a.2 : Int) := by simpa using hm
    omega
  refine ⟨b, L, 2, 64, rfl, upd_same, fun p hp => seqT gS.s (hk3 p (hLk p hp)), by decide, hB, fun L' c hperm hnd hlen hpw hc2 => ?_⟩
  have hmem : ∀ p ∈ L', p ∈ ks := fun p hp => hLk p (hperm.mem_iff.mp hp)
  have hF1c : F1 c = none := gS.s.free hc2
  have gN : Grow F1 (upd H1 b (SetTO X.prog X.w b L)) (upd F1 c (.lst (L'.map fun q => V.ref q.1))) (upd (upd H1 b (SetTO X.prog X.w b L)) c (.lst (L'.map fun q => V.ref q.1))) := Grow.new gS.s hc2
  let ar : Arr := L'.map fun q => ((q.2.getD 0 0).toNat, (q.2.getD 1 0).toNat)
  have har : ∀ p ∈ L', ∃ a ∈ as, p.2 = arL a ∧ ((p.2.getD 0 0).toNat, (p.2.getD 1 0).toNat) = a := fun p hp => by
    obtain ⟨a, ha, e⟩ := hof p (hmem p hp)
    refine ⟨a, ha, e, ?_⟩
    rw [e]
    show (((a.1 : Int)).toNat, ((a.2 : Int)).toNat) = a
    simp
  have gg := (g1.trans gS).trans gN
  refine q (.ref c) _ _ (.list (ar.map dArr)) (.of gg) (ro.grow gg) (hD ar ?_ (fun a ha => ?_) (by show (List.map _ L').length < 64; rw [List.length_map]; exact hlen)) (.lst (SqL.of upd_same) (dpA_mono (same_upd hF1c) ?_))
  · show (List.map _ L').Pairwise lexlt
    rw [List.pairwise_map]
    have hne : L'.Pairwise fun p q => p.2 ≠ q.2 := by rw [← List.pairwise_map (f := fun (p : Addr × List Int) => p.2) (R := (· ≠ ·))]; exact List.nodup_iff_pairwise_ne.mp hnd
    refine (hpw.and hne).imp_of_mem fun {p q} hp hq hpq => ?_
    obtain ⟨a, ha, e1, e2⟩ := har p hp
    obtain ⟨c', hc', e3, e4⟩ := har q hq
    rw [e2, e4]
    obtain ⟨hle, hne⟩ := hpq
    rw [e1, e3] at hle hne
    obtain ⟨b1, b2⟩ := hb a ha
    obtain ⟨b3, b4⟩ := hb c' hc'
    rcases pair_lt hle hne (by omega) (by omega) (by omega) (by omega) with h1 | h1
    · exact .inl (by omega)
    · exact .inr (by omega)
  · obtain ⟨p, hp, rfl⟩ := List.mem_map.mp ha
    obtain ⟨a, ha, e1, e2⟩ := har p hp
    rw [e2]; exact ha
  · have fin : ∀ L : List (Addr × List Int), (∀ p ∈ L, p ∈ L') → DpAll X.K F1 (L.map fun q => V.ref q.1) ((L.map fun q => ((q.2.getD 0 0).toNat, (q.2.getD 1 0).toNat)).map dArr) := fun L => by
      induction L with
      | nil => intro _; exact .nil
      | cons p L ih =>
        intro hL
        obtain ⟨a, ha, e1, e2⟩ := har p (hL p (by simp))
        refine .cons ?_ (ih fun q hq => hL q (List.mem_cons_of_mem _ hq))
        show Dp X.K F1 (.ref p.1) (dArr ((p.2.getD 0 0).toNat, (p.2.getD 1 0).toNat))
        rw [e2]
        have h3 := hk3 p (hmem p (hL p (by simp)))
        rw [e1] at h3
        exact .tup h3 (dpA_ints (ns := arL a).mpr rfl)
    exact fin L' fun p hp => hp
end

section
variable {P : Program} {w : World} {K : PySem.W.Frag} {mg : Str → Option Value} {base : Heap}
/-! ### _law_word -/
abbrev s_word : Stmt := top 59
abbrev N_word : List Str := ["_law_row", "_law_web_here", "_law_most", "_law_turn"]
theorem sc_word : FnScope N_word ["_law_row", "_law_web_here", "_law_most"] (defScope s_word) := ⟨rfl, rfl, rfl, by decide +kernel, rfl, by decide +kernel, by decide +kernel⟩
def pre_word (ds : List PD) (D : PD → Prop) : Prop := ∃ n ar most, ds = [dWeb n ar, nat most] ∧ WebOk n ar ∧ most ≤ 100 ∧ ∀ wd : Arr, (∀ a ∈ wd, a ∈ ar) → wd.length ≤ 100 → D (dWord wd)
abbrev Word_ (P : Program) (w : World) (K : PySem.W.Frag) (mg : Str → Option Value) (base : Heap) : Prop := DefOk P w K mg base 3 "_law_word" ["_law_row", "_law_web_here", "_law_most"] (SpR K 2 pre_word)
theorem ok_word {f : Addr} {fd : FuncData} (F : Fun K "_law_word" "_law_word" s_word f fd) (hm : mg "_law_word" = some (.ref f)) (b : Binds K fd ["_law_row", "_law_web_here", "_law_most"] []) (B : Bt mg) (D1 : Taken P w K mg base) (D2 : Pick P w K mg base) : Word_ P w K mg base := by
  refine DefOk.makeR F hm b sc_word fun cdv A0 outer s H xk hr r ρ ds D hρ hp hl => ?_
  obtain ⟨n, ar, most, rfl, ok, hmo, hD⟩ := hp
  refine Ss.cons (M := fun Γ => ar ≠ [] ∧ Γ = [rowS (bodyX P w K mg base N_word "_law_word" s_word f cdv A0 outer s H xk) r ρ, .val (dWeb n ar), .val (nat most), .any])
    (S.ite (T.eqD (Enc.tuple encArr) (hu64 hr) (x := ar) (y := []) (E.ixT (E.v 1) (E.nat 1) rfl) (E.tup A.nil)) (fun hy => ?_) fun hy => Ss.nil ⟨by simpa using hy, rfl⟩) ?_
  · exact Ss.one (S.ret (E.tup A.nil) ⟨hD [] (by simp) (by decide), ρ, hρ, rfl⟩)
  rintro _ ⟨hne, rfl⟩
  have hal : 1 ≤ ar.length := List.length_pos_iff.mpr hne
  have hfew := ok.few
  refine Ss.one (S.retR 0 rfl hρ (D := D) (ER.tupleOf B.tuple (ER.lc [("_law_turn", 3)] (De := fun d => ∃ a, a ∈ ar ∧ d = dArr a) sc_word.nd
    (ITR.range1 (N := 100) (ER.call D1 (hr.mono (by decide)) (AR.pure (Ds := (· = [nat (most + 1)])) (A.cons (E.addN (E.v 2) (E.nat 1)) A.nil) rfl) fun ds hds => ⟨⟨most + 1, hds, by omega, by omega, fun x hx => ⟨x, by omega, rfl⟩⟩, by rw [hds]; rfl⟩) (by decide) B.range)
    (blkOk_by (N := N_word) (sc := defScope s_word) (by decide +kernel)) (by decide) ?_)) fun d ρ' hd hρ' => ⟨hd, ρ', hρ', rfl⟩)
  rintro ds ⟨m, hm1, rfl⟩
  refine ⟨by simp; omega, fun a ha => ?_, fun out hlen hout => ?_⟩
  · obtain ⟨j, hj, rfl⟩ := List.mem_map.mp ha
    refine ⟨[(3, nat j)], by simp, fun s H C cl fp => G.name 3 sc_word.nd, fun s H C cl fp => ?_⟩
    exact ER.call D2 hr (AR.pure (Ds := (· = [.tuple (ar.map dArr)])) (A.cons (E.ixT (E.v 1) (E.nat 1) rfl) A.nil) rfl) fun ds hds => ⟨⟨ar.map dArr, .inr hds, by rw [List.length_map]; exact hal, by rw [List.length_map]; omega, fun e he => by
      obtain ⟨a, ha, rfl⟩ := List.mem_map.mp he
      exact ⟨a, ha, rfl⟩⟩, by rw [hds]; rfl⟩
  · obtain ⟨wd, e, hw, hl⟩ := choose_list hout
    refine ⟨out, rfl, ?_⟩
    rw [e]
    refine hD wd hw ?_
    rw [hl, hlen, List.length_map, List.length_range]; exact hm1

/-! ### _law_dial -/
abbrev s_dial : Stmt := top 56
abbrev N_dial : List Str := ["_law_row", "_law_web_here", "_law_hours", "_law_part", "_law_one", "_law_k"]
theorem sc_dial : FnScope N_dial ["_law_row", "_law_web_here", "_law_hours"] (defScope s_dial) := ⟨rfl, rfl, rfl, by decide +kernel, rfl, by decide +kernel, by decide +kernel⟩
def pre_dial (ds : List PD) (D : PD → Prop) : Prop := ∃ n ar h, ds = [dWeb n ar, nat h] ∧ WebOk n ar ∧ 2 ≤ h ∧ h ≤ 24 ∧ ∀ dl, DialOk n h dl → D (dTup dl)
abbrev Dial_ (P : Program) (w : World) (K : PySem.W.Frag) (mg : Str → Option Value) (base : Heap) : Prop := DefOk P w K mg base 3 "_law_dial" ["_law_row", "_law_web_here", "_law_hours"] (SpR K 2 pre_dial)
theorem ok_dial {f : Addr} {fd : FuncData} (F : Fun K "_law_dial" "_law_dial" s_dial f fd) (hm : mg "_law_dial" = some (.ref f)) (b : Binds K fd ["_law_row", "_law_web_here", "_law_hours"] []) (B : Bt mg) (D1 : Taken P w K mg base) (D2 : Pick P w K mg base) : Dial_ P w K mg base := by
  refine DefOk.makeR F hm b sc_dial fun cdv A0 outer s H xk hr r ρ ds D hρ hp hl => ?_
  obtain ⟨n, ar, h, rfl, ok, h1, h2, hD⟩ := hp
  have hhi := ok.hi
  have hdl := div_len h (by omega)
  have hdn : h ∈ divF h := mem_div.mpr ⟨by omega, Nat.le_refl _, Nat.dvd_refl _⟩
  refine Ss.cons (M := fun Γ => ∃ (x : Nat) (ρ' : List PD), RInv ρ' ∧ Γ = [rowS (bodyX P w K mg base N_dial "_law_dial" s_dial f cdv A0 outer s H xk) r ρ', .val (dWeb n ar), .val (nat h), .val (nat x), .any, .any])
    (S.asgR 0 3 sc_dial.nd rfl hρ (D := fun d => ∃ x : Nat, d = nat x) (ER.call D2 hr (AR.pure (Ds := (· = [.list ((divF h).map nat)])) (A.cons (EF.ev (EF.lcOf (LC.mk' [("_law_one", 4)] ((List.range h).map (1 + ·)) nat (fun d => decide (h % d = 0)) nat (fun d => [(4, nat d)])
      (IT.is (IT.range2 (m := 1) (n := h + 1) (E.nat 1) (E.addN (E.v 2) (E.nat 1)) (by omega) B.range) (by rw [List.map_map]; rfl))
      (blkOk_by (N := N_dial) (sc := defScope s_dial) (by decide +kernel)) (by simp) (by simp; omega)
      (fun k _ s H C cl fp => G.name 4 sc_dial.nd) (fun k hk s H C cl fp => Ts.one (T.eqN (E.modN (E.int1 B.int (E.v 2)) (E.v 4) (by
        obtain ⟨i, _, rfl⟩ := List.mem_map.mp hk; omega)) (E.nat 0))) (fun k _ _ s H C cl fp => E.v 4)) sc_dial.nd)) A.nil) rfl) fun ds hds => ⟨⟨(divF h).map nat, .inl hds, by rw [List.length_map]; exact List.length_pos_of_mem hdn, by rw [List.length_map]; omega, fun e he => by
        obtain ⟨x, _, rfl⟩ := List.mem_map.mp he; exact ⟨x, rfl⟩⟩, by rw [hds]; rfl⟩)
      (by rintro d ρ' ⟨x, rfl⟩ hρ'; exact ⟨x, ρ', hρ', rfl⟩)) ?_
  rintro _ ⟨x0, ρ, hρ, rfl⟩
  refine Ss.cons (M := fun Γ => ∃ (x : Nat) (ρ' : List PD), RInv ρ' ∧ Γ = [rowS (bodyX P w K mg base N_dial "_law_dial" s_dial f cdv A0 outer s H xk) r ρ', .val (dWeb n ar), .val (nat h), .val (nat x), .any, .any])
    (S.asgR 0 3 sc_dial.nd rfl hρ (D := fun d => ∃ x : Nat, d = nat x) (ER.ite (B := fun _ => True) (TR.cmp op_eq (D1 := fun d => ∃ x : Nat, d = nat x) (D2 := (· = nat 0)) (ER.call D1 (hr.mono (by decide)) (AR.pure (Ds := (· = [nat 2])) (A.cons (E.nat 2) A.nil) rfl) fun ds hds => ⟨⟨2, hds, by decide, by decide, fun x _ => ⟨x, rfl⟩⟩, by rw [hds]; rfl⟩) (ER.eq (E.nat 0))
      (by rintro a c ⟨x, rfl⟩ rfl; exact ⟨_, trivial, rv_eqI⟩)) (fun _ => ER.pure (E.v 3) ⟨_, rfl⟩) (fun _ => ER.pure (E.nat 1) ⟨1, rfl⟩)) (by rintro d ρ' ⟨x, rfl⟩ hρ'; exact ⟨x, ρ', hρ', rfl⟩)) ?_
  rintro _ ⟨x1, ρ, hρ, rfl⟩
  refine Ss.one (S.retR 0 rfl hρ (D := D) (ER.tupleOf B.tuple (ER.lc [("_law_k", 5)] (De := fun d => ∃ x, x < h ∧ d = nat x) sc_dial.nd
    (ITR.pure (Dss := (· = (List.range n).map nat)) (IT.range1 (E.ixT (E.v 1) (E.nat 0) rfl) (by omega) B.range) rfl)
    (blkOk_by (N := N_dial) (sc := defScope s_dial) (by decide +kernel)) (by decide) ?_)) fun d ρ' hd hρ' => ⟨hd, ρ', hρ', rfl⟩)
  rintro ds rfl
  refine ⟨by simp; omega, fun a ha => ?_, fun out hlen hout => ?_⟩
  · obtain ⟨j, hj, rfl⟩ := List.mem_map.mp ha
    refine ⟨[(5, nat j)], by simp, fun s H C cl fp => G.name 5 sc_dial.nd, fun s H C cl fp => ?_⟩
    refine ER.bin op_mod (D1 := fun d => ∃ x : Nat, d = nat x) (D2 := (· = nat h)) (ER.int1 B.int (ER.bin op_mul (D1 := (· = nat x1)) (D2 := fun d => ∃ y : Nat, d = nat y ∧ y < h) (ER.eq (E.v 3)) (ER.call D1 (hr.mono (by decide)) (AR.pure (Ds := (· = [nat h])) (A.cons (E.v 2) A.nil) rfl) fun ds hds => ⟨⟨h, hds, by omega, by omega, fun x hx => ⟨x, rfl, hx⟩⟩, by rw [hds]; rfl⟩) ?_)) (ER.eq (E.v 2)) ?_
    · rintro a c rfl ⟨y, rfl, hy⟩
      exact ⟨nat (x1 * y), ⟨_, rfl, x1 * y, rfl⟩, rv_mulN (.inr (by omega))⟩
    · rintro a c ⟨x, rfl⟩ rfl
      exact ⟨nat (x % h), ⟨x % h, Nat.mod_lt _ (by omega), rfl⟩, rv_I (i := (x : Int)) (j := (h : Int)) (by omega) fun _ => .int _⟩
  · obtain ⟨dl, e, hw, hl⟩ := choose_list hout
    refine ⟨out, rfl, ?_⟩
    rw [e]
    refine hD dl ⟨?_, hw⟩
    rw [hl, hlen, List.length_map, List.length_range]
end
end Ck

set_option Elab.async false
set_option linter.all false
set_option maxRecDepth 100000
set_option maxHeartbeats 4000000
namespace Ck
open PySem PySem.Spec PyProof.Rows L2

theorem er_tup {K : PySem.W.Frag} {r : Addr} {i : Nat} {Γ : List (Option PD)} {D : PD → Prop} {tr : TA} (hr : EvAR K r i tr Γ fun ds => D (.tuple ds) ∧ ds.length ≤ 100000) : EvR K r i (tTup tr) Γ D := fun F σ H s ro E e Q q =>
  hr F σ H s ro E e _ fun xs F1 H1 ds g1 k1 dds h1 => ⟨Nat.le_trans (by rw [dpA_len h1]; exact dds.2) (by decide), fun p hp =>
    q (.ref p) (upd F1 p (.tup xs)) _ (.tuple ds) (g1.trans (.of (Grow.new g1.s hp))) (k1.grow (Grow.new g1.s hp)) dds.1 (.tup (SqT.of upd_same) (dpA_mono (same_upd (g1.s.free hp)) h1))⟩
theorem ER.tup {X : Cx} {r : Addr} {i : Nat} {es : List Expr} {Γ : List (Option PD)} {D : PD → Prop} {x1} {pos : Pos} (h : AR X r i es Γ fun ds => D (.tuple ds) ∧ ds.length ≤ 100000) : ER X r i (.Tuple es x1 pos) Γ D := ER.mk (pe_tup (pa_sem X)) (er_tup h)
section
variable {P : Program} {w : World} {K : PySem.W.Frag} {mg : Str → Option Value} {base : Heap}
/-! ### _law_web -/
abbrev s_web : Stmt := top 55
abbrev N_web : List Str := ["_law_row", "_law_most", "_law_many", "_law_way", "_law_thin", "_law_arrows", "_law_k", "_law_j"]
theorem sc_web : FnScope N_web ["_law_row", "_law_most"] (defScope s_web) := ⟨rfl, rfl, rfl, by decide +kernel, rfl, by decide +kernel, by decide +kernel⟩
def pre_web (ds : List PD) (D : PD → Prop) : Prop := ∃ most : Nat, ds = [nat most] ∧ 1 ≤ most ∧ most ≤ 6 ∧ ∀ n ar, WebOk n ar → D (dWeb n ar)
abbrev Web_ (P : Program) (w : World) (K : PySem.W.Frag) (mg : Str → Option Value) (base : Heap) : Prop := DefOk P w K mg base 3 "_law_web" ["_law_row", "_law_most"] (SpR K 1 pre_web)
structure AsOk' (n : Nat) (as : Arr) : Prop where
  ok : ∀ a ∈ as, a.1 < n ∧ a.2 < n ∧ a.1 ≠ a.2
theorem ok_web {f : Addr} {fd : FuncData} (F : Fun K "_law_web" "_law_web" s_web f fd) (hm : mg "_law_web" = some (.ref f)) (b : Binds K fd ["_law_row", "_law_most"] []) (B : Bt mg) (D1 : Taken P w K mg base) (D2 : Pick P w K mg base) : Web_ P w K mg base := by
  refine DefOk.makeR F hm b sc_web fun cdv A0 outer s H xk hr r ρ ds D hρ hp hl => ?_
  obtain ⟨most, rfl, hm1, hm6, hD⟩ := hp
  refine Ss.cons (M := fun Γ => ∃ (n way : Nat) (ρ' : List PD), 1 ≤ n ∧ n ≤ 6 ∧ RInv ρ' ∧ Γ = [rowS (bodyX P w K mg base N_web "_law_web" s_web f cdv A0 outer s H xk) r ρ', .val (nat most), .val (nat n), .val (nat way), .any, .any, .any, .any])
    (S.parRR 0 2 3 sc_web.nd rfl hρ (D1 := fun d => ∃ n : Nat, 1 ≤ n ∧ n ≤ 6 ∧ d = nat n) (D2 := fun d => ∃ n : Nat, d = nat n)
      (ER.bin op_add (D1 := (· = nat 1)) (D2 := fun d => ∃ n : Nat, n < most ∧ d = nat n) (ER.eq (E.nat 1)) (ER.call D1 (hr.mono (by decide)) (AR.pure (Ds := (· = [nat most])) (A.cons (E.v 1) A.nil) rfl) fun ds hds => ⟨⟨most, hds, hm1, by omega, fun x hx => ⟨x, hx, rfl⟩⟩, by rw [hds]; rfl⟩)
        (by rintro a c rfl ⟨x, hx, rfl⟩; exact ⟨nat (1 + x), ⟨1 + x, by omega, by omega, rfl⟩, rv_addN⟩))
      (ER.call D1 (hr.mono (by decide)) (AR.pure (Ds := (· = [nat 6])) (A.cons (E.nat 6) A.nil) rfl) fun ds hds => ⟨⟨6, hds, by decide, by decide, fun x hx => ⟨x, rfl⟩⟩, by rw [hds]; rfl⟩)
      (by rintro d d' ρ' ⟨n, h1, h2, rfl⟩ ⟨way, rfl⟩ hρ'; exact ⟨n, way, ρ', h1, h2, hρ', rfl⟩)) ?_
  rintro _ ⟨n, way, ρ, hn1, hn6, hρ, rfl⟩
  refine Ss.cons (M := fun Γ => ∃ (thin : Nat) (ρ' : List PD), 1 ≤ thin ∧ thin ≤ 5 ∧ RInv ρ' ∧ Γ = [rowS (bodyX P w K mg base N_web "_law_web" s_web f cdv A0 outer s H xk) r ρ', .val (nat most), .val (nat n), .val (nat way), .val (nat thin), .own [], .any, .any])
    (S.parRS 0 4 5 sc_web.nd rfl hρ (D1 := fun d => ∃ t : Nat, 1 ≤ t ∧ t ≤ 5 ∧ d = nat t) (s2 := .own [])
      (ER.call D2 hr (AR.pure (Ds := (· = [.list [nat 2, nat 3, nat 5]])) (A.cons (EF.ev (EF.lst (A.cons (E.nat 2) (A.cons (E.nat 3) (A.cons (E.nat 5) A.nil))))) A.nil) rfl) fun ds hds => ⟨⟨[nat 2, nat 3, nat 5], .inl hds, by simp, by simp, fun e he => by
        have : e = nat 2 ∨ e = nat 3 ∨ e = nat 5 := by simpa using he
        rcases this with rfl | rfl | rfl
        · exact ⟨2, by decide, by decide, rfl⟩
        · exact ⟨3, by decide, by decide, rfl⟩
        · exact ⟨5, by decide, by decide, rfl⟩⟩, by rw [hds]; rfl⟩)
      (fun ρ' _ => Src.f (EF.lst A.nil)) (by rintro d ρ' ⟨t, h1, h2, rfl⟩ hρ'; exact ⟨t, ρ', h1, h2, hρ', rfl⟩)) ?_
  rintro _ ⟨thin, ρ, ht1, ht5, hρ, rfl⟩
  refine Ss.cons (M := fun Γ => ∃ (as : Arr) (ρ' : List PD) (s6 s7 : Sl), AsOk' n as ∧ as.length ≤ 36 ∧ RInv ρ' ∧ Γ = [rowS (bodyX P w K mg base N_web "_law_web" s_web f cdv A0 outer s H xk) r ρ', .val (nat most), .val (nat n), .val (nat way), .val (nat thin), .own (as.map dArr), s6, s7])
    (S.for_ PassesOwn.never (IT.range1 (E.v 2) (by omega) B.range) (fun i Γ => ∃ (as : Arr) (ρ' : List PD) (s6 s7 : Sl), AsOk' n as ∧ as.length ≤ i * n ∧ RInv ρ' ∧ Γ = [rowS (bodyX P w K mg base N_web "_law_web" s_web f cdv A0 outer s H xk) r ρ', .val (nat most), .val (nat n), .val (nat way), .val (nat thin), .own (as.map dArr), s6, s7])
      ⟨[], ρ, _, _, ⟨by simp⟩, by simp, hρ, rfl⟩ ?_ ?_) ?_
  · rintro i d _ hdi ⟨as, ρ, s6, s7, hao, hal, hρ, rfl⟩
    obtain ⟨k, hk, rfl⟩ := map_get hdi
    obtain ⟨rfl, hkn⟩ := range_get hk
    refine ⟨_, G.name 6 sc_web.nd, ?_⟩
    refine Ss.one (S.for_ PassesOwn.never (IT.range1 (E.v 2) (by omega) B.range) (fun i Γ => ∃ (as : Arr) (ρ' : List PD) (s7 : Sl), AsOk' n as ∧ as.length ≤ k * n + i ∧ RInv ρ' ∧ Γ = [rowS (bodyX P w K mg base N_web "_law_web" s_web f cdv A0 outer s H xk) r ρ', .val (nat most), .val (nat n), .val (nat way), .val (nat thin), .own (as.map dArr), .val (nat k), s7])
      ⟨as, ρ, s7, hao, by omega, hρ, rfl⟩ ?_ ?_)
    · rintro i2 d _ hdi2 ⟨as, ρ, s7, hao, hal, hρ, rfl⟩
      obtain ⟨j, hj, rfl⟩ := map_get hdi2
      obtain ⟨rfl, hjn⟩ := range_get hj
      have hlen : as.length ≤ 100 := by
        have : k * n ≤ 6 * 6 := Nat.mul_le_mul (by omega) hn6
        omega
      refine ⟨_, G.name 7 sc_web.nd, ?_⟩
      refine Ss.one (S.iteR 0 rfl hρ (B := fun b => b = true → k ≠ j) (WR.t (WR.and (B1 := fun b => b = !decide (k = j)) (TR.pure (T.neN (E.v 6) (E.v 7)) rfl) (fun _ h => by cases h) fun hkj => ?_)) (fun hb ρ' hρ' => ?_) (fun hb ρ' hρ' => Ss.nil ⟨as, ρ', _, hao, by omega, hρ', rfl⟩))
      · have hne : k ≠ j := by simpa using hkj
        refine WR.and1 (WR.t (WR.or (B1 := fun _ => True) (WR.t (WR.and (B1 := fun _ => True) (TR.pure (T.ltN (E.v 3) (E.nat 3)) trivial) (fun _ => trivial) fun _ => WR.and1 ?_)) (fun _ _ => hne) fun _ => WR.or1 (WR.t (WR.and (B1 := fun _ => True) (TR.pure (T.eqN (E.v 3) (E.nat 3)) trivial) (fun _ _ => hne) fun _ =>
          WR.and (B1 := fun _ => True) (TR.pure (T.ltN (E.v 6) (E.v 7)) trivial) (fun _ _ => hne) fun _ => WR.and1 ?_))))
        · exact TR.cmp op_eq (D1 := fun d => ∃ x : Nat, d = nat x) (D2 := (· = nat 0)) (ER.call D1 (hr.mono (by decide)) (AR.pure (Ds := (· = [nat thin])) (A.cons (E.v 4) A.nil) rfl) fun ds hds => ⟨⟨thin, hds, ht1, by omega, fun x _ => ⟨x, rfl⟩⟩, by rw [hds]; rfl⟩) (ER.eq (E.nat 0)) (by rintro a c ⟨x, rfl⟩ rfl; exact ⟨_, trivial, rv_eqI⟩)
        · exact TR.cmp op_eq (D1 := fun d => ∃ x : Nat, d = nat x) (D2 := (· = nat 0)) (ER.call D1 (hr.mono (by decide)) (AR.pure (Ds := (· = [nat 2])) (A.cons (E.nat 2) A.nil) rfl) fun ds hds => ⟨⟨2, hds, by decide, by decide, fun x _ => ⟨x, rfl⟩⟩, by rw [hds]; rfl⟩) (ER.eq (E.nat 0)) (by rintro a c ⟨x, rfl⟩ rfl; exact ⟨_, fun _ => hne, rv_eqI⟩)
      · refine Ss.one (S.app 5 (ds := as.map dArr) rfl (Src.v (E.tup (A.cons (E.v 6) (A.cons (E.v 7) A.nil)))) (by rw [List.length_map]; omega) ⟨as ++ [(k, j)], ρ', _, ⟨fun a ha => ?_⟩, by rw [List.length_append]; simp; omega, hρ', by rw [List.map_append]; rfl⟩)
        rcases List.mem_append.mp ha with h1 | h1
        · exact hao.ok a h1
        · have : a = (k, j) := by simpa using h1
          subst this
          exact ⟨hkn, hjn, hb rfl⟩
    · rintro _ ⟨as, ρ, s7, hao, hal, hρ, rfl⟩
      refine ⟨as, ρ, _, s7, hao, ?_, hρ, rfl⟩
      rw [List.length_map, List.length_range] at hal
      rw [Nat.succ_mul]; exact hal
  · rintro _ ⟨as, ρ, s6, s7, hao, hal, hρ, rfl⟩
    rw [List.length_map, List.length_range] at hal
    have : n * n ≤ 6 * 6 := Nat.mul_le_mul hn6 hn6
    exact ⟨as, ρ, s6, s7, hao, by omega, hρ, rfl⟩
  rintro _ ⟨as, ρ, s6, s7, hao, hal, hρ, rfl⟩
  refine Ss.cons (M := fun Γ => ∃ (as : Arr), AsOk' n as ∧ as.length ≤ 36 ∧ Γ = [rowS (bodyX P w K mg base N_web "_law_web" s_web f cdv A0 outer s H xk) r ρ, .val (nat most), .val (nat n), .val (nat way), .val (nat thin), .own (as.map dArr), s6, s7])
    (S.ite (T.gtN (E.v 3) (E.nat 3)) (fun _ => ?_) fun _ => Ss.nil ⟨as, hao, hal, rfl⟩) ?_
  · let line : Arr := (List.range (n - 1)).map fun k => (k, k + 1)
    let back : Arr := if (decide (way = 5) && decide (1 < n)) = true then [(n - 1, 0)] else []
    refine Ss.one (S.set 5 sc_web.nd (Src.f (ds := line.map dArr ++ back.map dArr) (EF.catL (EF.is (EF.lcOf (LC.all [("_law_k", 6)] (List.range (n - 1)) nat (fun k => dArr (k, k + 1)) (fun k => [(6, nat k)]) (IT.range1 (E.subN (E.v 2) (E.nat 1) hn1) (by omega) B.range)
      (blkOk_by (N := N_web) (sc := defScope s_web) (by decide +kernel)) (by simp) (by simp; omega) (fun k _ s H C cl fp => G.name 6 sc_web.nd) (fun k _ s H C cl fp => E.tup (A.cons (E.v 6) (A.cons (E.addN (E.v 6) (E.nat 1)) A.nil)))) sc_web.nd) (by show _ = List.map _ (List.map _ _); rw [List.map_map]; rfl))
      (EF.ite (W.t (W.and (T.eqN (E.v 3) (E.nat 5)) fun _ => W.and1 (T.gtN (E.v 2) (E.nat 1)))) (fun hx => EF.is (EF.lst (A.cons (E.tup (A.cons (E.subN (E.v 2) (E.nat 1) hn1) (A.cons (E.nat 0) A.nil))) A.nil)) (by show _ = List.map dArr back; simp only [back]; rw [if_pos hx]; rfl))
        (fun hx => EF.is (EF.lst A.nil) (by show _ = List.map dArr back; simp only [back]; rw [if_neg (by rw [hx]; simp)]; rfl)))
      (by rw [List.length_map, List.length_map]; simp only [line, back]; split <;> simp <;> omega))) ⟨line ++ back, ⟨fun a ha => ?_⟩, ?_, by rw [List.map_append]; rfl⟩)
    · rcases List.mem_append.mp ha with h1 | h1
      · obtain ⟨k, hk, rfl⟩ := List.mem_map.mp h1
        have := List.mem_range.mp hk
        exact ⟨by simp; omega, by simp; omega, by simp⟩
      · simp only [back] at h1
        split at h1
        · rename_i hx
          have : a = (n - 1, 0) := by simpa using h1
          subst this
          simp only [Bool.and_eq_true, decide_eq_true_eq] at hx
          exact ⟨by simp; omega, by simp; omega, by simp; omega⟩
        · cases h1
    · rw [List.length_append]; simp only [line, back]; split <;> simp <;> omega
  rintro _ ⟨as, hao, hal, rfl⟩
  refine Ss.frz 5 rfl ?_
  refine Ss.one (S.retR 0 rfl hρ (D := D) (ER.tup (AR.cons (D1 := (· = nat n)) (ER.eq (E.v 2)) fun a ha => AR.one (ER.tupleOf B.tuple (ER.sortedSet (as := as) (hu64 hr) (E.v 5) (by omega) (fun a ha => by have := hao.ok a ha; omega) (fun ar hpw hmem hlen => ⟨_, rfl, ?_, by simp⟩) B.sorted B.set)))) fun d ρ' hd hρ' => ⟨hd, ρ', hρ', rfl⟩)
  rw [ha]
  exact hD n ar ⟨hn1, hn6, fun a ha => hao.ok a (hmem a ha), hpw, by omega⟩
end
end Ck

set_option Elab.async false
set_option linter.all false
set_option maxRecDepth 100000
set_option exponentiation.threshold 5000
set_option maxHeartbeats 8000000
namespace Ck
open PySem PySem.Spec PyProof.Rows L2

theorem Enc.bool : Enc 0 PyData.bool := ⟨fun a b => by cases a <;> cases b <;> rfl, fun a => by simp [PyData.canLay0], fun a => by simp [PyData.depth]⟩
section
variable {X : Cx} {e1 e2 : Expr} {Γ : List (Option PD)} {pos : Pos} {α : Type} [DecidableEq α] {n : Nat} {f : α → PD} {x : α} {xs : List α}
theorem E.niL (h : Enc n f) (hu : X.A.units + 65 < cLine) (ha : E X e1 Γ (f x)) (hb : E X e2 Γ (.list (xs.map f))) (hn : n ≤ 63 := by decide) (hm : behindInMarks .NotIn e2 = false := by rfl) : E X (.Compare e1 [.NotIn] [e2] pos) Γ (.bool (!decide (x ∈ xs))) :=
  E.cmp (op_notInD hu) (fun F H u v s hx hy Q q => ⟨f x, _, dp_mono s hx, dp_mono s hy, h.shaped (by omega) x, h.list.shaped (by omega) xs, q _ F H (Grow.refl s) (by rw [any_eqv h]; exact .bl _)⟩) ha hb hm
theorem E.mulW {m k : Nat} (ha : E X e1 Γ (Ck.nat m)) (hb : E X e2 Γ (Ck.nat k)) (hc : CMulW (m : Int) (k : Int)) : E X (.BinOp e1 .Mult e2 pos) Γ (Ck.nat (m * k)) := E.bin op_mulW (rv_I hc fun _ => .int _) ha hb
end
theorem S.unpR {X : Cx} {r : Addr} {ρ : List PD} {Γ : List Sl} {P : Post} {e tg : Expr} {pos : Pos} {D : PD → Prop} (i : Nat) (hi0 : Γ[i]? = some (rowS X r ρ)) (hρ : RInv ρ) (h : ER X r i e (vals Γ) D) (hg : ∀ d, D d → ∃ as, G X tg d as ∧ ∀ ρ', RInv ρ' → P.nx (setS (Γ.set i (rowS X r ρ')) as))
    (hs : swapsWithSole [tg] e pos.line X.env = pure false := by rfl) (hw : swappedStores [tg] e X.env = pure none := by rfl) (h1 : (assignEach [tg] X.env).map (·.2) = [assign tg X.env] := by rfl) : S X (.Assign [tg] e pos) Γ P :=
  S.mk (ps_asg (pe_sem X) (pg_sem X) hs hw h1) fun F0 H0 F σ H D g o q => by
    obtain ⟨ro, hσ, h0⟩ := o.row hi0 hρ
    refine h F σ H g.s ro o.vals hσ _ fun v F1 H1 d g1 k1 hd hv => ?_
    obtain ⟨ρ', hρ', o1⟩ := o.growR hi0 g1 k1
    obtain ⟨as, hG, hk⟩ := hg d hd
    exact hG F1 σ H1 v g1.s hv _ fun vs hvs => q.nx _ _ F1 H1 (hk ρ' hρ') g1.f (g.withR g1 h0) (o1.setAll hvs)
theorem all_mem {g : Nat → Bool} {xs : List Nat} : (!decide (false ∈ xs.map g)) = xs.all g := by
  induction xs with
  | nil => simp
  | cons x xs ih =>
    rw [List.map_cons, List.all_cons, ← ih]
    cases h : g x <;> simp
section
variable {P : Program} {w : World} {K : PySem.W.Frag} {mg : Str → Option Value} {base : Heap}
abbrev s_law : Stmt := top 60
abbrev N_law : List Str := ["_law_script", "_law_row", "_law_web_here", "_law_hours", "_law_dial_here", "_law_other", "_law_one", "_law_two", "_law_each", "_law_k", "_law_whole", "_law_classes", "_law_power", "_law_part", "_law_word_here", "_law_table", "_law_x", "_law_line", "_law_there"]
theorem sc_law : FnScope N_law ["_law_script"] (defScope s_law) := ⟨rfl, rfl, rfl, by decide +kernel, rfl, by decide +kernel, by decide +kernel⟩
def pre_law (ds : List PD) (d : PD) : Prop := ∃ xs : List Int, ds = [.list (xs.map .int)] ∧ d = .bool true
theorem split_at {h k : Nat} {dl : List Nat} (hk : k < (powersF h).length) : (splitF h dl)[k]? = some ((powersF h).getD k 0, mo ((powersF h).getD k 0) dl) := by
  unfold splitF
  rw [List.getElem?_map, List.getD_eq_getElem?_getD]
  simp [hk, mo]
theorem split_get {h k : Nat} {dl : List Nat} {x : Nat × List Nat} (hx : (splitF h dl)[k]? = some x) : ∃ q, (powersF h)[k]? = some q ∧ q ∈ powersF h ∧ x = (q, mo q dl) := by
  unfold splitF at hx
  rw [List.getElem?_map] at hx
  cases e : (powersF h)[k]? with
  | none => rw [e] at hx; cases hx
  | some q => rw [e] at hx; exact ⟨q, rfl, get_mem e, (Option.some.inj hx).symm⟩
theorem fnOk_make {x qual : Str} {st : Stmt} {f : Addr} {fd : FuncData} {N ps : List Str} {k : Nat} {pre : List PD → PD → Prop} (F : Fun K x qual st f fd) (S : FnScope N ps (defScope st))
    (body : ∀ (cdv : Value) (A : Around) (outer : List Env) (s : Shared) (H : Hp) (E : XK), Room k (A.deeper (envOfC qual (defScope st) s.heap.objs.size f cdv)) → ∀ ds d, pre ds d → ds.length = ps.length →
      Ss (bodyX P w K mg base N qual st f cdv A outer s H E) (defBody st) (startG N.length ds) { nx := fun _ => d = .none, rt := fun d' _ => d' = d }) : FnOk P w K mg base CX0 (k + 1) f fd ps (SpP K ps.length pre) := by
  refine F.ok S (fun vs H Q E h => ?_) (fun cdv A outer s H vs Q E hr h => ?_)
  · obtain ⟨F, ds, d, _, h, hn, _⟩ := h
    rw [dpA_len h, hn]
  · obtain ⟨F1, ds, d, hs, hvs, hn, hp, k⟩ := h
    refine ⟨_, pss_sem _, body cdv A outer s H E hr ds d hp hn F1 H F1 (L2.start N vs) H _ (Grow.refl hs) (ok_start hvs) ⟨fun Γ' σ' F' H' z s' g' o' => ?_, fun Γ' σ' F' H' z => z.elim, fun Γ' σ' F' H' z => z.elim, fun d' Γ' v σ' F' H' z s' g' o' hd => ?_, fun ds p xs F' H' z => z.elim, fun R p u F' H' F1 z => z.elim⟩⟩
    · subst z; exact k _ F' H' g' .non
    · subst z; exact k v F' H' g' hd
structure LawD (P : Program) (w : World) (K : PySem.W.Frag) (mg : Str → Option Value) (base : Heap) : Prop where
  web : Web_ P w K mg base
  pick : Pick P w K mg base
  dial : Dial_ P w K mg base
  run : Run_ P w K mg base
  word : Word_ P w K mg base
  split : Split P w K mg base
  come : Can_come P w K mg base
  count : Come_count P w K mg base
  cls : Class_count P w K mg base
  table : Word_table P w K mg base
  join : Joined P w K mg base
theorem ok_law {f : Addr} {fd : FuncData} (F : Fun K "law" "law" s_law f fd) (B : Bt mg) (L : LawD P w K mg base) : FnOk P w K mg base CX0 8 f fd ["_law_script"] (SpP K 1 pre_law) := by
  refine fnOk_make F sc_law fun cdv A0 outer s H xk hr ds d hp hl => ?_
  obtain ⟨xs, rfl, rfl⟩ := hp
  refine Ss.to (S.asgF 1 sc_law.nd (EF.lst (A.cons (E.v 0) (A.cons (E.nat 0) (A.cons E.int (A.cons E.int A.nil))))) rfl) ?_
  refine Ss.nameRow 1 rfl fun r => ?_
  have hρ : RInv [.list (xs.map .int), nat 0, .int 9934, .int 0] := ⟨xs, 0, _, _, rfl⟩
  refine Ss.cons (M := fun Γ => ∃ n ar h ρ', WebOk n ar ∧ 2 ≤ h ∧ h ≤ 24 ∧ RInv ρ' ∧ Γ = [.val (.list (xs.map .int)), rowS (bodyX P w K mg base N_law "law" s_law f cdv A0 outer s H xk) r ρ', .val (dWeb n ar), .val (nat h), .any, .any, .any, .any, .any, .any, .any, .any, .any, .any, .any, .any, .any, .any, .any])
    (S.unpR 1 rfl hρ (D := fun d => ∃ n ar h, WebOk n ar ∧ 2 ≤ h ∧ h ≤ 24 ∧ d = .tuple [dWeb n ar, nat h]) (ER.tup (AR.cons (D1 := fun d => ∃ n ar, WebOk n ar ∧ d = dWeb n ar) 
      (ER.call L.web (hr.mono (by decide)) (AR.pure (Ds := (· = [nat 6])) (A.cons (E.nat 6) A.nil) rfl) fun ds hds => ⟨⟨6, hds, by decide, by decide, fun n ar ok => ⟨n, ar, ok, rfl⟩⟩, by rw [hds]; rfl⟩) fun a ha => AR.one
      ((ER.call (D := fun d => ∃ h : Nat, 2 ≤ h ∧ h ≤ 24 ∧ d = nat h) L.pick (hr.mono (by decide)) (AR.pure (Ds := (· = [.list ([6, 10, 12, 15, 18, 20, 24, 7, 16].map nat)])) (A.cons (EF.ev (EF.lst (A.cons (E.nat 6) (A.cons (E.nat 10) (A.cons (E.nat 12) (A.cons (E.nat 15) (A.cons (E.nat 18) (A.cons (E.nat 20) (A.cons (E.nat 24) (A.cons (E.nat 7) (A.cons (E.nat 16) A.nil))))))))))) A.nil) rfl) fun ds hds => ⟨⟨_, .inl hds, by simp, by simp, fun e he => by
        obtain ⟨h, hh, rfl⟩ := List.mem_map.mp he
        simp only [List.mem_cons, List.not_mem_nil, or_false] at hh
        refine ⟨h, ?_, ?_, rfl⟩ <;> omega⟩, by rw [hds]; rfl⟩).imp fun d hd => by
          obtain ⟨n, ar, ok, rfl⟩ := ha
          obtain ⟨h, h1, h2, rfl⟩ := hd
          exact ⟨⟨n, ar, h, ok, h1, h2, rfl⟩, by simp⟩)))
      (by rintro d ⟨n, ar, h, ok, h1, h2, rfl⟩; exact ⟨_, G.tup2 (G.name 2 sc_law.nd) (G.name 3 sc_law.nd), fun ρ' hρ' => ⟨n, ar, h, ρ', ok, h1, h2, hρ', rfl⟩⟩)) ?_
  rintro _ ⟨n, ar, h, ρ, ok, h1, h2, hρ, rfl⟩
  have hn1 := ok.lo
  have hn6 := ok.hi
  have po := pw_ok h1 h2
  have pd : ∀ q ∈ powersF h, q ∣ h ∧ 2 ≤ q ∧ q ≤ 24 := fun q hq => pw_dvd h1 h2 hq
  refine Ss.cons (M := fun Γ => ∃ dl ρ', DialOk n h dl ∧ RInv ρ' ∧ Γ = [.val (.list (xs.map .int)), rowS (bodyX P w K mg base N_law "law" s_law f cdv A0 outer s H xk) r ρ', .val (dWeb n ar), .val (nat h), .val (dTup dl), .any, .any, .any, .any, .any, .any, .any, .any, .any, .any, .any, .any, .any, .any])
    (S.asgR 1 4 sc_law.nd rfl hρ (D := fun d => ∃ dl, DialOk n h dl ∧ d = dTup dl) (ER.call L.dial (hr.mono (by decide)) (AR.pure (Ds := (· = [dWeb n ar, nat h])) (A.cons (E.v 2) (A.cons (E.v 3) A.nil)) rfl) fun ds hds => ⟨⟨n, ar, h, hds, ok, h1, h2, fun dl o => ⟨dl, o, rfl⟩⟩, by rw [hds]; rfl⟩)
      (by rintro d ρ' ⟨dl, o, rfl⟩ hρ'; exact ⟨dl, ρ', o, hρ', rfl⟩)) ?_
  rintro _ ⟨dl, ρ, od, hρ, rfl⟩
  refine Ss.cons (M := fun Γ => ∃ el ρ', DialOk n h el ∧ RInv ρ' ∧ Γ = [.val (.list (xs.map .int)), rowS (bodyX P w K mg base N_law "law" s_law f cdv A0 outer s H xk) r ρ', .val (dWeb n ar), .val (nat h), .val (dTup dl), .val (dTup el), .any, .any, .any, .any, .any, .any, .any, .any, .any, .any, .any, .any, .any])
    (S.asgR 1 5 sc_law.nd rfl hρ (D := fun d => ∃ el, DialOk n h el ∧ d = dTup el) (ER.call L.pick (hr.mono (by decide)) (AR.one (Ds := fun ds => ∃ a c, (∃ el, DialOk n h el ∧ a = dTup el) ∧ (∃ el, DialOk n h el ∧ c = dTup el) ∧ ds = [.list [a, c]])
        (ER.lst (AR.cons (D1 := fun d => ∃ el, DialOk n h el ∧ d = dTup el) (ER.call L.dial (hr.mono (by decide)) (AR.pure (Ds := (· = [dWeb n ar, nat h])) (A.cons (E.v 2) (A.cons (E.v 3) A.nil)) rfl) fun ds hds => ⟨⟨n, ar, h, hds, ok, h1, h2, fun dl o => ⟨dl, o, rfl⟩⟩, by rw [hds]; rfl⟩) fun a ha =>
          AR.one (Ds := fun ds => (∃ a' c, (∃ el, DialOk n h el ∧ a' = dTup el) ∧ (∃ el, DialOk n h el ∧ c = dTup el) ∧ ([.list (a :: ds)] : List PD) = [.list [a', c]]) ∧ (a :: ds).length ≤ 100000) ((ER.callP (D := fun d => ∃ el, DialOk n h el ∧ d = dTup el) L.run (hr.mono (by decide)) (AR.cons (D1 := (· = nat h)) (Ds := fun ds => ∃ wd : Arr, (∀ a ∈ wd, a ∈ ar) ∧ ds = [nat h, dTup dl, dWord wd]) (ER.eq (E.v 3)) fun a1 e1 => AR.cons (D1 := (· = dTup dl)) (ER.eq (E.v 4)) fun a2 e2 =>
            AR.one (ER.call L.word (hr.mono (by decide)) (AR.pure (Ds := (· = [dWeb n ar, nat 20])) (A.cons (E.v 2) (A.cons (E.nat 20) A.nil)) rfl) fun ds hds => ⟨⟨n, ar, 20, hds, ok, by decide, fun wd hw _ => ⟨wd, hw, by rw [e1, e2]⟩⟩, by rw [hds]; rfl⟩))
            (by
              rintro ds ⟨wd, hw, rfl⟩
              refine ⟨rfl, dTup (runF h dl wd), ⟨_, run_ok (by omega) wd dl od, rfl⟩, h, dl, wd, rfl, by omega, by rw [od.len]; omega, fun a ha => ?_, rfl⟩
              have := ok.ok a (hw a ha)
              rw [od.len]; exact ⟨this.1, this.2.1⟩)).imp fun d hd => ⟨⟨a, d, ha, hd, rfl⟩, by simp⟩))))
        (by
          rintro ds ⟨a, c, ha, hc, rfl⟩
          refine ⟨⟨[a, c], .inl rfl, by simp, by simp, fun e he => ?_⟩, rfl⟩
          have : e = a ∨ e = c := by simpa using he
          rcases this with rfl | rfl
          · exact ha
          · exact hc))
      (by rintro d ρ' ⟨el, o, rfl⟩ hρ'; exact ⟨el, ρ', o, hρ', rfl⟩)) ?_
  rintro _ ⟨el, ρ, oe, hρ, rfl⟩
  refine Ss.to (S.unp (E.tup (A.cons (E.call L.split (hr.mono (by decide)) (A.cons (E.v 3) (A.cons (E.v 4) A.nil)) ⟨h, dl, rfl, h1, h2, by rw [od.len]; exact hn1, by rw [od.len]; exact hn6, od.lt, rfl⟩)
    (A.cons (E.call L.split (hr.mono (by decide)) (A.cons (E.v 3) (A.cons (E.v 5) A.nil)) ⟨h, el, rfl, h1, h2, by rw [oe.len]; exact hn1, by rw [oe.len]; exact hn6, oe.lt, rfl⟩) A.nil))) (G.tup2 (G.name 6 sc_law.nd) (G.name 7 sc_law.nd)) rfl) ?_
  have hsl : ∀ dl : List Nat, ((splitF h dl).map dSp).length = (powersF h).length := fun dl => by rw [List.length_map, splitF, List.length_map]
  have hfew := po.few
  let g : Nat → Bool := fun q => decide (marksF n ar q (mo q dl) = marksF n ar q (mo q el))
  refine Ss.to (S.asgLcV 8 sc_law.nd (ds := ((powersF h).map g).map PyData.bool) (LC.is (LC.all [("_law_k", 9)] (List.range (powersF h).length) nat (fun k => .bool (g ((powersF h).getD k 0))) (fun k => [(9, nat k)])
    (IT.range1 (E.is (E.lenT B.len (E.v 6)) (by rw [hsl])) (by omega) B.range) (blkOk_by (N := N_law) (sc := defScope s_law) (by decide +kernel)) (by simp) (by simp; omega)
    (fun k _ s H C cl fp => G.name 9 sc_law.nd) (fun k hk s H C cl fp => ?_)) (by rw [range_map_getD (f := fun q => PyData.bool (g q)), List.map_map]; rfl)) rfl) ?_
  · have hk := List.mem_range.mp hk
    have hq : (powersF h).getD k 0 ∈ powersF h := by
      rw [List.getD_eq_getElem?_getD]; simp [hk]
    obtain ⟨q1, q2, q3⟩ := pd _ hq
    exact E.call L.come hr (A.cons (E.v 2) (A.cons (E.ixT (E.ixT (E.v 6) (E.v 9) (by rw [List.getElem?_map, split_at hk]; rfl)) (E.nat 0) rfl) (A.cons (E.ixT (E.ixT (E.v 6) (E.v 9) (by rw [List.getElem?_map, split_at hk]; rfl)) (E.nat 1) rfl) (A.cons (E.ixT (E.ixT (E.v 7) (E.v 9) (by rw [List.getElem?_map, split_at hk]; rfl)) (E.nat 1) rfl) A.nil))))
      ⟨n, ar, _, mo _ dl, mo _ el, rfl, ok, q2, q3, mo_ok (by omega) od, mo_ok (by omega) oe, rfl⟩
  refine Ss.skip (T.neD Enc.bool (hu64 hr) (E.call L.come hr (A.cons (E.v 2) (A.cons (E.v 3) (A.cons (E.v 4) (A.cons (E.v 5) A.nil)))) ⟨n, ar, h, dl, el, rfl, ok, h1, h2, od, oe, rfl⟩) (E.niL Enc.bool (hu65 hr) (x := false) (xs := (powersF h).map g) E.bl (E.v 8))) (by
    rw [all_mem, law_come h1 h2 od oe]
    exact congrArg not (decide_eq_true rfl)) ?_
  refine Ss.to (S.unp (E.tup (A.cons (E.nat 1) (A.cons (E.nat 1) A.nil))) (G.tup2 (G.name 10 sc_law.nd) (G.name 11 sc_law.nd)) rfl) ?_
  let ac : Nat → Nat := fun i => ((powersF h).take i).foldl (fun acc q => acc * countF n ar q (mo q dl)) 1
  let ak : Nat → Nat := fun i => ((powersF h).take i).foldl (fun acc q => acc * classF n ar q) 1
  have bc : ∀ q ∈ powersF h, countF n ar q (mo q dl) ≤ 2 ^ 360 := fun q hq => count_bound (by have := pd q hq; omega) (pd q hq).2.2 hn6
  have bk : ∀ q ∈ powersF h, classF n ar q ≤ 2 ^ 360 := fun q hq => class_bound (by have := pd q hq; omega) (pd q hq).2.2 hn6
  have hpow : (2 : Nat) ^ 360 ≤ 2 ^ 4000 := Nat.pow_le_pow_right (by decide) (by decide)
  refine Ss.cons (M := fun Γ => ∃ s12 s13, Γ = [.val (.list (xs.map .int)), rowS (bodyX P w K mg base N_law "law" s_law f cdv A0 outer s H xk) r ρ, .val (dWeb n ar), .val (nat h), .val (dTup dl), .val (dTup el), .val (dSplit (splitF h dl)), .val (dSplit (splitF h el)), .val (.list (((powersF h).map g).map PyData.bool)), .any, .val (nat (countF n ar h dl)), .val (nat (classF n ar h)), s12, s13, .any, .any, .any, .any, .any])
    (S.for_ PassesOwn.never (IT.tup (E.v 6)) (fun i Γ => ∃ s12 s13, Γ = [.val (.list (xs.map .int)), rowS (bodyX P w K mg base N_law "law" s_law f cdv A0 outer s H xk) r ρ, .val (dWeb n ar), .val (nat h), .val (dTup dl), .val (dTup el), .val (dSplit (splitF h dl)), .val (dSplit (splitF h el)), .val (.list (((powersF h).map g).map PyData.bool)), .any, .val (nat (ac i)), .val (nat (ak i)), s12, s13, .any, .any, .any, .any, .any]) ⟨_, _, rfl⟩ ?_ ?_) ?_
  · rintro i d _ hdi ⟨s12, s13, rfl⟩
    obtain ⟨x, hx, rfl⟩ := map_get hdi
    obtain ⟨q, hq, hqm, rfl⟩ := split_get hx
    obtain ⟨q1, q2, q3⟩ := pd q hqm
    have e1 : ac (i + 1) = ac i * countF n ar q (mo q dl) := foldl_snoc _ _ hq
    have e2 : ak (i + 1) = ak i * classF n ar q := foldl_snoc _ _ hq
    refine ⟨_, G.tup2 (G.name 12 sc_law.nd) (G.name 13 sc_law.nd), ?_⟩
    refine Ss.one (S.par2 10 11 sc_law.nd (Src.v (E.mulW (m := ac i) (k := countF n ar q (mo q dl)) (E.v 10) (E.call L.count hr (A.cons (E.v 2) (A.cons (E.v 12) (A.cons (E.v 13) A.nil))) ⟨n, ar, q, mo q dl, rfl, ok, q2, q3, mo_ok (by omega) od, rfl⟩) (mulW_ok (acc_bound hfew bc i) (Nat.le_trans (bc q hqm) hpow))))
      (Src.v (E.mulW (m := ak i) (k := classF n ar q) (E.v 11) (E.call L.cls (hr.mono (by decide)) (A.cons (E.v 2) (A.cons (E.v 12) A.nil)) ⟨n, ar, q, rfl, ok, q2, q3, rfl⟩) (mulW_ok (acc_bound hfew bk i) (Nat.le_trans (bk q hqm) hpow)))) ?_)
    rw [← e1, ← e2]
    exact ⟨_, _, rfl⟩
  · rintro _ ⟨s12, s13, rfl⟩
    refine ⟨s12, s13, ?_⟩
    have e1 : ac ((splitF h dl).map dSp).length = countF n ar h dl := by
      rw [law_count h1 h2 hn6 od, hsl]
      show List.foldl _ _ _ = _
      rw [List.take_length]
    have e2 : ak ((splitF h dl).map dSp).length = classF n ar h := by
      rw [law_class h1 h2, hsl]
      show List.foldl _ _ _ = _
      rw [List.take_length]
    rw [e1, e2]
  rintro _ ⟨s12, s13, rfl⟩
  refine Ss.skip (W.t (W.or (T.neN (E.call L.count hr (A.cons (E.v 2) (A.cons (E.v 3) (A.cons (E.v 4) A.nil))) ⟨n, ar, h, dl, rfl, ok, h1, h2, od, rfl⟩) (E.v 10)) fun _ => W.or1 (T.neN (E.call L.cls (hr.mono (by decide)) (A.cons (E.v 2) (A.cons (E.v 3) A.nil)) ⟨n, ar, h, rfl, ok, h1, h2, rfl⟩) (E.v 11)))) (by simp) ?_
  refine Ss.cons (M := fun Γ => ∃ (wd : Arr) (ρ' : List PD), (∀ a ∈ wd, a ∈ ar) ∧ wd.length ≤ 100 ∧ Γ = [.val (.list (xs.map .int)), rowS (bodyX P w K mg base N_law "law" s_law f cdv A0 outer s H xk) r ρ', .val (dWeb n ar), .val (nat h), .val (dTup dl), .val (dTup el), .val (dSplit (splitF h dl)), .val (dSplit (splitF h el)), .val (.list (((powersF h).map g).map PyData.bool)), .any, .val (nat (countF n ar h dl)), .val (nat (classF n ar h)), s12, s13, .val (dWord wd), .any, .any, .any, .any])
    (S.asgR 1 14 sc_law.nd rfl hρ (D := fun d => ∃ wd : Arr, (∀ a ∈ wd, a ∈ ar) ∧ wd.length ≤ 100 ∧ d = dWord wd) (ER.call L.word (hr.mono (by decide)) (AR.pure (Ds := (· = [dWeb n ar, nat 12])) (A.cons (E.v 2) (A.cons (E.nat 12) A.nil)) rfl) fun ds hds => ⟨⟨n, ar, 12, hds, ok, by decide, fun wd hw hl => ⟨wd, hw, hl, rfl⟩⟩, by rw [hds]; rfl⟩)
      (by rintro d ρ' ⟨wd, hw, hl, rfl⟩ hρ'; exact ⟨wd, ρ', hw, hl, rfl⟩)) ?_
  rintro _ ⟨wd, ρ, hw, hwl, rfl⟩
  have to := TabOk.table (h := h) ok hw
  have hwo : ∀ (dl : List Nat), dl.length = n → ∀ a ∈ wd, a.1 < dl.length ∧ a.2 < dl.length := fun dl hd a ha => by
    have := ok.ok a (hw a ha)
    rw [hd]; exact ⟨this.1, this.2.1⟩
  refine Ss.to (S.asg 15 sc_law.nd (E.call L.table (hr.mono (by decide)) (A.cons (E.v 2) (A.cons (E.v 3) (A.cons (E.v 14) A.nil))) ⟨n, ar, h, wd, rfl, ok, h1, h2, by omega, hw, rfl⟩) rfl) ?_
  refine Ss.cons (M := fun Γ => ∃ s12 s13, Γ = [.val (.list (xs.map .int)), rowS (bodyX P w K mg base N_law "law" s_law f cdv A0 outer s H xk) r ρ, .val (dWeb n ar), .val (nat h), .val (dTup dl), .val (dTup el), .val (dSplit (splitF h dl)), .val (dSplit (splitF h el)), .val (.list (((powersF h).map g).map PyData.bool)), .any, .val (nat (countF n ar h dl)), .val (nat (classF n ar h)), s12, s13, .val (dWord wd), .val (dTab (tableF n h wd)), .any, .any, .any])
    (S.for_ PassesOwn.never (IT.tup (E.v 6)) (fun i Γ => ∃ s12 s13, Γ = [.val (.list (xs.map .int)), rowS (bodyX P w K mg base N_law "law" s_law f cdv A0 outer s H xk) r ρ, .val (dWeb n ar), .val (nat h), .val (dTup dl), .val (dTup el), .val (dSplit (splitF h dl)), .val (dSplit (splitF h el)), .val (.list (((powersF h).map g).map PyData.bool)), .any, .val (nat (countF n ar h dl)), .val (nat (classF n ar h)), s12, s13, .val (dWord wd), .val (dTab (tableF n h wd)), .any, .any, .any]) ⟨_, _, rfl⟩ ?_ (fun _ h => h)) ?_
  · rintro i d _ hdi ⟨s12, s13, rfl⟩
    obtain ⟨x, hx, rfl⟩ := map_get hdi
    obtain ⟨q, hq, hqm, rfl⟩ := split_get hx
    obtain ⟨q1, q2, q3⟩ := pd q hqm
    refine ⟨_, G.tup2 (G.name 12 sc_law.nd) (G.name 13 sc_law.nd), ?_⟩
    refine Ss.skip (T.neD (Enc.tuple (Enc.tuple Enc.nat)) (hu64 hr) (x := tableF n q wd) (y := (tableF n h wd).map (mo q)) (E.call L.table (hr.mono (by decide)) (A.cons (E.v 2) (A.cons (E.v 12) (A.cons (E.v 14) A.nil))) ⟨n, ar, q, wd, rfl, ok, q2, q3, by omega, hw, rfl⟩)
      (E.tupleOf B.tuple (EF.ev (EF.is (EF.lcOf (LC.all [("_law_line", 17)] (tableF n h wd) dTup (fun line => dTup (mo q line)) (fun line => [(17, dTup line)]) (IT.tup (E.v 15)) (blkOk_by (N := N_law) (sc := defScope s_law) (by decide +kernel)) (by simp) (by rw [to.len]; omega)
        (fun line _ s H C cl fp => G.name 17 sc_law.nd)
        (fun line hline s H C cl fp => E.tupleOf B.tuple (EF.ev (EF.is (EF.lcOf (LC.all [("_law_x", 16)] line nat (fun x => nat (x % q)) (fun x => [(16, nat x)]) (IT.tup (E.v 17)) (blkOk_by (N := N_law) (sc := relS _ (defScope s_law)) (by decide +kernel)) (by simp) (by rw [to.row line hline]; omega)
          (fun x _ s H C cl fp => G.name 16 sc_law.nd) (fun x _ s H C cl fp => E.modN (E.int1 B.int (E.v 16)) (E.v 12) (by omega))) sc_law.nd) (show _ = (mo q line).map nat by unfold mo; rw [List.map_map]; rfl))))) sc_law.nd) (show _ = ((tableF n h wd).map (mo q)).map dTup by rw [List.map_map]; rfl)))))
      (by rw [table_mo (n := n) q1 q2 wd]; simp) (Ss.nil ⟨_, _, rfl⟩)
  rintro _ ⟨s12, s13, rfl⟩
  have ro := run_ok (by omega) wd dl od
  refine Ss.to (S.asg 18 sc_law.nd (E.call L.run (hr.mono (by decide)) (A.cons (E.v 3) (A.cons (E.v 4) (A.cons (E.v 14) A.nil))) ⟨h, dl, wd, rfl, by omega, by rw [od.len]; omega, hwo dl od.len, rfl⟩) rfl) ?_
  refine Ss.one (S.ret (E.is (E.eqD encSp (hu64 hr) (x := (h, runF h dl wd)) (y := (h, runF h dl wd)) (E.call L.join (hr.mono (by decide)) (A.cons (E.tupleOf B.tuple (EF.ev (EF.is (EF.lcOf (LC.all [("_law_power", 12), ("_law_part", 13)] (splitF h dl) dSp (fun x => dSp (x.1, runF x.1 x.2 wd)) (fun x => [(12, nat x.1), (13, dTup x.2)]) (IT.tup (E.v 6)) (blkOk_by (N := N_law) (sc := defScope s_law) (by decide +kernel)) (by simp) (by have := hsl dl; rw [List.length_map] at this; omega)
      (fun x _ s H C cl fp => G.tup2 (G.name 12 sc_law.nd) (G.name 13 sc_law.nd))
      (fun x hx s H C cl fp => ?_)) sc_law.nd) (show _ = (splitF h (runF h dl wd)).map dSp from ?_)))) A.nil) ⟨h, runF h dl wd, rfl, h1, h2, by rw [ro.len]; exact hn1, by rw [ro.len]; exact hn6, ro.lt, rfl⟩) (E.tup (A.cons (E.v 3) (A.cons (E.v 18) A.nil)))) (by simp)) rfl)
  · obtain ⟨i, hi, e⟩ := List.getElem_of_mem hx
    obtain ⟨q, hq, hqm, rfl⟩ := split_get (k := i) (x := x) (by rw [List.getElem?_eq_getElem hi, e])
    obtain ⟨q1, q2, q3⟩ := pd q hqm
    have oq := mo_ok (q := q) (by omega) od
    exact E.tup (A.cons (E.v 12) (A.cons (E.call L.run (hr.mono (by decide)) (A.cons (E.v 12) (A.cons (E.v 13) (A.cons (E.v 14) A.nil))) ⟨q, mo q dl, wd, rfl, by omega, by rw [oq.len]; omega, hwo _ oq.len, rfl⟩) A.nil))
  · unfold splitF
    rw [List.map_map, List.map_map]
    refine List.map_congr_left fun q hq => ?_
    show dSp (q, runF q (mo q dl) wd) = dSp (q, mo q (runF h dl wd))
    rw [mo_run (pd q hq).1]
end
end Ck

set_option Elab.async false
set_option linter.all false
set_option maxRecDepth 100000
set_option maxHeartbeats 8000000
/-! What the top has left, and the end. -/
namespace Ck
open PySem PySem.Spec PyProof.Rows L2

/-- a def as the top has left it -/
structure Has (K : PySem.W.Frag) (x : Str) (st : Stmt) (ps : List Str) (f : Addr) : Prop where
  ns : PySem.W.nsIn K mainGlobals x = some (some (.ref f))
  ex : ∃ fd, Fun K x x st f fd ∧ Binds K fd ps []
theorem has_mk {K : PySem.W.Frag} {x : Str} {st : Stmt} {ps : List Str} {f : Addr} {od an : Option Addr} {sl : Array (Option Value)} {oc kV dc pm cd ct : Value} (a : PySem.W.nsIn K mainGlobals x = some (some (.ref f)))
    (l : K.lookup f = some ⟨oc, od, .func (PySem.W.fnOf x x (defArgs st) (defBody st) (defScope st) .none kV dc pm an cd ct), sl⟩) (c : PySem.W.codeIn K cd x = true) (k : PySem.W.keepIn K (.ref f) = true)
    (b : ∀ (kV doc pm : Value) (an : Option Addr) (cdv ct : Value) (us : List Value), us.length = ps.length → bindArgs (PySem.W.fnOf x x (defArgs st) (defBody st) (defScope st) .none kV doc pm an cdv ct) ⟨us, []⟩ = pure (ps.zip us)) : Has K x st ps f := ⟨a, _, fun_mk l c k, (fun_mk l c k).binds b⟩
structure Bts (K : PySem.W.Frag) : Prop where
  z_abs : PySem.W.nsIn K mainGlobals "abs" = some none
  z_isinstance : PySem.W.nsIn K mainGlobals "isinstance" = some none
  z_int : PySem.W.nsIn K mainGlobals "int" = some none
  z_bool : PySem.W.nsIn K mainGlobals "bool" = some none
  z_tuple : PySem.W.nsIn K mainGlobals "tuple" = some none
  z_list : PySem.W.nsIn K mainGlobals "list" = some none
  z_len : PySem.W.nsIn K mainGlobals "len" = some none
  z_range : PySem.W.nsIn K mainGlobals "range" = some none
  z_sorted : PySem.W.nsIn K mainGlobals "sorted" = some none
  z_zip : PySem.W.nsIn K mainGlobals "zip" = some none
  z_enumerate : PySem.W.nsIn K mainGlobals "enumerate" = some none
  z_set : PySem.W.nsIn K mainGlobals "set" = some none
  z_sum : PySem.W.nsIn K mainGlobals "sum" = some none
  z_MOST_CLOCKS : ∃ t, PySem.W.nsIn K mainGlobals "MOST_CLOCKS" = some (some (.int 7 t))
  z_LEAST_HOURS : ∃ t, PySem.W.nsIn K mainGlobals "LEAST_HOURS" = some (some (.int 2 t))
  z_MOST_HOURS : ∃ t, PySem.W.nsIn K mainGlobals "MOST_HOURS" = some (some (.int 24 t))
  z_MOST_WORD : ∃ t, PySem.W.nsIn K mainGlobals "MOST_WORD" = some (some (.int 5000 t))
theorem bts_mk {K : PySem.W.Frag} {t0 t1 t2 t3 : Tok} (z0 : PySem.W.nsIn K mainGlobals "abs" = some none) (z1 : PySem.W.nsIn K mainGlobals "isinstance" = some none) (z2 : PySem.W.nsIn K mainGlobals "int" = some none) (z3 : PySem.W.nsIn K mainGlobals "bool" = some none) (z4 : PySem.W.nsIn K mainGlobals "tuple" = some none) (z5 : PySem.W.nsIn K mainGlobals "list" = some none) (z6 : PySem.W.nsIn K mainGlobals "len" = some none) (z7 : PySem.W.nsIn K mainGlobals "range" = some none) (z8 : PySem.W.nsIn K mainGlobals "sorted" = some none) (z9 : PySem.W.nsIn K mainGlobals "zip" = some none) (z10 : PySem.W.nsIn K mainGlobals "enumerate" = some none) (z11 : PySem.W.nsIn K mainGlobals "set" = some none) (z12 : PySem.W.nsIn K mainGlobals "sum" = some none) (c0 : PySem.W.nsIn K mainGlobals "MOST_CLOCKS" = some (some (.int 7 t0))) (c1 : PySem.W.nsIn K mainGlobals "LEAST_HOURS" = some (some (.int 2 t1))) (c2 : PySem.W.nsIn K mainGlobals "MOST_HOURS" = some (some (.int 24 t2))) (c3 : PySem.W.nsIn K mainGlobals "MOST_WORD" = some (some (.int 5000 t3))) : Bts K :=
  ⟨z0, z1, z2, z3, z4, z5, z6, z7, z8, z9, z10, z11, z12, ⟨_, c0⟩, ⟨_, c1⟩, ⟨_, c2⟩, ⟨_, c3⟩⟩
theorem Bts.bt {K : PySem.W.Frag} {h : Heap} {mg : Str → Option Value} (Z : Bts K) (X : K.In h) (G : h.Ns mainGlobals mg) : Bt mg where
  abs := PySem.W.mg_none_of X G Z.z_abs
  isi := PySem.W.mg_none_of X G Z.z_isinstance
  int := PySem.W.mg_none_of X G Z.z_int
  bool := PySem.W.mg_none_of X G Z.z_bool
  tuple := PySem.W.mg_none_of X G Z.z_tuple
  list := PySem.W.mg_none_of X G Z.z_list
  len := PySem.W.mg_none_of X G Z.z_len
  range := PySem.W.mg_none_of X G Z.z_range
  sorted := PySem.W.mg_none_of X G Z.z_sorted
  zip := PySem.W.mg_none_of X G Z.z_zip
  enum := PySem.W.mg_none_of X G Z.z_enumerate
  set := PySem.W.mg_none_of X G Z.z_set
  sum := PySem.W.mg_none_of X G Z.z_sum
  mc := let ⟨t, e⟩ := Z.z_MOST_CLOCKS; ⟨t, PySem.W.mg_of X G e⟩
  lh := let ⟨t, e⟩ := Z.z_LEAST_HOURS; ⟨t, PySem.W.mg_of X G e⟩
  mh := let ⟨t, e⟩ := Z.z_MOST_HOURS; ⟨t, PySem.W.mg_of X G e⟩
  mw := let ⟨t, e⟩ := Z.z_MOST_WORD; ⟨t, PySem.W.mg_of X G e⟩
theorem all_mk {l : PySem.W.OpenLaw} {w : World} {K : PySem.W.Frag} {h : Heap} {mg : Str → Option Value} {fa f1 f2 f3 f4 f5 f6 f7 f8 f9 f10 f11 f12 f13 f14 f15 f16 f17 f18 f19 f20 f21 f22 f23 f24 f25 f26 f27 f28 f29 f30 f31 f32 f33 f34 f35 f36 f37 f38 f39 f40 f41 f42 : Addr} (X : K.In h) (G : h.Ns mainGlobals mg) (hfa : mg "law" = some (.ref fa)) (Z : Bts K)
    (H1 : Has K "is_in" s_is_in ["value", "least", "most"] f1)
    (H2 : Has K "gcd" s_gcd ["one", "other"] f2)
    (H3 : Has K "is_arrow" s_is_arrow ["value", "many"] f3)
    (H4 : Has K "need_web" s_need_web ["web"] f4)
    (H5 : Has K "need_hours" s_need_hours ["hours"] f5)
    (H6 : Has K "need_dial" s_need_dial ["web", "hours", "dial"] f6)
    (H7 : Has K "need_all" s_need_all ["web", "hours", "dial"] f7)
    (H8 : Has K "need_row" s_need_row ["hours", "dial"] f8)
    (H9 : Has K "is_word" s_is_word ["web", "value"] f9)
    (H10 : Has K "need_word" s_need_word ["web", "word"] f10)
    (H11 : Has K "need_all_words" s_need_all_words ["web", "hours", "word"] f11)
    (H12 : Has K "led_from" s_led_from ["web", "place"] f12)
    (H13 : Has K "parts_in" s_parts_in ["web"] f13)
    (H14 : Has K "above_in" s_above_in ["web", "place"] f14)
    (H15 : Has K "unit" s_unit ["many"] f15)
    (H16 : Has K "table_in" s_table_in ["web", "hours", "word"] f16)
    (H17 : Has K "word_table" s_word_table ["web", "hours", "word"] f17)
    (H18 : Has K "flow_in" s_flow_in ["web", "hours", "dial", "place"] f18)
    (H19 : Has K "mark_of" s_mark_of ["web", "hours", "dial", "part"] f19)
    (H20 : Has K "marks_in" s_marks_in ["web", "hours", "dial"] f20)
    (H21 : Has K "can_come" s_can_come ["web", "hours", "one", "other"] f21)
    (H22 : Has K "prime_to" s_prime_to ["number", "many"] f22)
    (H23 : Has K "ways_of" s_ways_of ["hours", "mark", "part", "dial"] f23)
    (H24 : Has K "count_with" s_count_with ["web", "hours", "dial", "told"] f24)
    (H25 : Has K "come_count" s_come_count ["web", "hours", "dial"] f25)
    (H26 : Has K "powers_of" s_powers_of ["hours"] f26)
    (H27 : Has K "split" s_split ["hours", "dial"] f27)
    (H28 : Has K "is_split" s_is_split ["value"] f28)
    (H29 : Has K "joined" s_joined ["some"] f29)
    (H30 : Has K "in_order" s_in_order ["web"] f30)
    (H31 : Has K "divisors" s_divisors ["number"] f31)
    (H32 : Has K "choices" s_choices ["hours", "part", "flow"] f32)
    (H33 : Has K "class_table" s_class_table ["web", "hours"] f33)
    (H34 : Has K "class_count" s_class_count ["web", "hours"] f34)
    (H35 : Has K "_law_taken" s_taken ["_law_row", "_law_many"] f35)
    (H36 : Has K "_law_pick" s_pick ["_law_row", "_law_things"] f36)
    (H37 : Has K "_law_step" s_step ["_law_hours", "_law_dial_here", "_law_arrow"] f37)
    (H38 : Has K "_law_run" s_run ["_law_hours", "_law_dial_here", "_law_word_here"] f38)
    (H39 : Has K "_law_word" s_word ["_law_row", "_law_web_here", "_law_most"] f39)
    (H40 : Has K "_law_dial" s_dial ["_law_row", "_law_web_here", "_law_hours"] f40)
    (H41 : Has K "_law_web" s_web ["_law_row", "_law_most"] f41)
    (H42 : Has K "law" s_law ["_law_script"] f42) :
    ∃ fd : FuncData, (∀ (s : Shared) (v : Value), BindsTo s fd ⟨[v], []⟩ [("_law_script", v)]) ∧ ∀ base : Heap, K.In base → base.Ns mainGlobals mg → FnOk l.prog w K mg base CX0 8 fa fd ["_law_script"] (SpP K 1 pre_law) := by
  have e := hfa.symm.trans (PySem.W.mg_of X G H42.ns)
  cases e
  have B := Z.bt X G
  obtain ⟨d1, F1, b1⟩ := H1.ex
  have m1 := PySem.W.mg_of X G H1.ns
  obtain ⟨d2, F2, b2⟩ := H2.ex
  have m2 := PySem.W.mg_of X G H2.ns
  obtain ⟨d3, F3, b3⟩ := H3.ex
  have m3 := PySem.W.mg_of X G H3.ns
  obtain ⟨d4, F4, b4⟩ := H4.ex
  have m4 := PySem.W.mg_of X G H4.ns
  obtain ⟨d5, F5, b5⟩ := H5.ex
  have m5 := PySem.W.mg_of X G H5.ns
  obtain ⟨d6, F6, b6⟩ := H6.ex
  have m6 := PySem.W.mg_of X G H6.ns
  obtain ⟨d7, F7, b7⟩ := H7.ex
  have m7 := PySem.W.mg_of X G H7.ns
  obtain ⟨d8, F8, b8⟩ := H8.ex
  have m8 := PySem.W.mg_of X G H8.ns
  obtain ⟨d9, F9, b9⟩ := H9.ex
  have m9 := PySem.W.mg_of X G H9.ns
  obtain ⟨d10, F10, b10⟩ := H10.ex
  have m10 := PySem.W.mg_of X G H10.ns
  obtain ⟨d11, F11, b11⟩ := H11.ex
  have m11 := PySem.W.mg_of X G H11.ns
  obtain ⟨d12, F12, b12⟩ := H12.ex
  have m12 := PySem.W.mg_of X G H12.ns
  obtain ⟨d13, F13, b13⟩ := H13.ex
  have m13 := PySem.W.mg_of X G H13.ns
  obtain ⟨d14, F14, b14⟩ := H14.ex
  have m14 := PySem.W.mg_of X G H14.ns
  obtain ⟨d15, F15, b15⟩ := H15.ex
  have m15 := PySem.W.mg_of X G H15.ns
  obtain ⟨d16, F16, b16⟩ := H16.ex
  have m16 := PySem.W.mg_of X G H16.ns
  obtain ⟨d17, F17, b17⟩ := H17.ex
  have m17 := PySem.W.mg_of X G H17.ns
  obtain ⟨d18, F18, b18⟩ := H18.ex
  have m18 := PySem.W.mg_of X G H18.ns
  obtain ⟨d19, F19, b19⟩ := H19.ex
  have m19 := PySem.W.mg_of X G H19.ns
  obtain ⟨d20, F20, b20⟩ := H20.ex
  have m20 := PySem.W.mg_of X G H20.ns
  obtain ⟨d21, F21, b21⟩ := H21.ex
  have m21 := PySem.W.mg_of X G H21.ns
  obtain ⟨d22, F22, b22⟩ := H22.ex
  have m22 := PySem.W.mg_of X G H22.ns
  obtain ⟨d23, F23, b23⟩ := H23.ex
  have m23 := PySem.W.mg_of X G H23.ns
  obtain ⟨d24, F24, b24⟩ := H24.ex
  have m24 := PySem.W.mg_of X G H24.ns
  obtain ⟨d25, F25, b25⟩ := H25.ex
  have m25 := PySem.W.mg_of X G H25.ns
  obtain ⟨d26, F26, b26⟩ := H26.ex
  have m26 := PySem.W.mg_of X G H26.ns
  obtain ⟨d27, F27, b27⟩ := H27.ex
  have m27 := PySem.W.mg_of X G H27.ns
  obtain ⟨d28, F28, b28⟩ := H28.ex
  have m28 := PySem.W.mg_of X G H28.ns
  obtain ⟨d29, F29, b29⟩ := H29.ex
  have m29 := PySem.W.mg_of X G H29.ns
  obtain ⟨d30, F30, b30⟩ := H30.ex
  have m30 := PySem.W.mg_of X G H30.ns
  obtain ⟨d31, F31, b31⟩ := H31.ex
  have m31 := PySem.W.mg_of X G H31.ns
  obtain ⟨d32, F32, b32⟩ := H32.ex
  have m32 := PySem.W.mg_of X G H32.ns
  obtain ⟨d33, F33, b33⟩ := H33.ex
  have m33 := PySem.W.mg_of X G H33.ns
  obtain ⟨d34, F34, b34⟩ := H34.ex
  have m34 := PySem.W.mg_of X G H34.ns
  obtain ⟨d35, F35, b35⟩ := H35.ex
  have m35 := PySem.W.mg_of X G H35.ns
  obtain ⟨d36, F36, b36⟩ := H36.ex
  have m36 := PySem.W.mg_of X G H36.ns
  obtain ⟨d37, F37, b37⟩ := H37.ex
  have m37 := PySem.W.mg_of X G H37.ns
  obtain ⟨d38, F38, b38⟩ := H38.ex
  have m38 := PySem.W.mg_of X G H38.ns
  obtain ⟨d39, F39, b39⟩ := H39.ex
  have m39 := PySem.W.mg_of X G H39.ns
  obtain ⟨d40, F40, b40⟩ := H40.ex
  have m40 := PySem.W.mg_of X G H40.ns
  obtain ⟨d41, F41, b41⟩ := H41.ex
  have m41 := PySem.W.mg_of X G H41.ns
  obtain ⟨d42, F42, b42⟩ := H42.ex
  have m42 := PySem.W.mg_of X G H42.ns
  have F := F42
  obtain ⟨oc, od, kV, doc, pm, an, cdv, ct, osl, rfl, lk, hcd⟩ := F.ex
  refine ⟨PySem.W.fnOf "law" "law" (defArgs s_law) (defBody s_law) (defScope s_law) .none kV doc pm an cdv ct, fun s v => .of_eq rfl, fun base _ _ => ?_⟩
  have D1 := ok_is_in (P := l.prog) (w := w) (base := base) F1 m1 b1 B
  have D2 := ok_gcd (P := l.prog) (w := w) (base := base) F2 m2 b2 B
  have D3 := ok_is_arrow (P := l.prog) (w := w) (base := base) F3 m3 b3 B D1
  have D4 := ok_need_web (P := l.prog) (w := w) (base := base) F4 m4 b4 B D1 D3
  have D5 := ok_need_hours (P := l.prog) (w := w) (base := base) F5 m5 b5 B D1
  have D6 := ok_need_dial (P := l.prog) (w := w) (base := base) F6 m6 b6 B D1
  have D7 := ok_need_all (P := l.prog) (w := w) (base := base) F7 m7 b7 B D4 D5 D6
  have D8 := ok_need_row (P := l.prog) (w := w) (base := base) F8 m8 b8 B D5 D6
  have D9 := ok_is_word (P := l.prog) (w := w) (base := base) F9 m9 b9 B
  have D10 := ok_need_word (P := l.prog) (w := w) (base := base) F10 m10 b10 B D9
  have D11 := ok_need_all_words (P := l.prog) (w := w) (base := base) F11 m11 b11 B D4 D5 D10
  have D12 := ok_led_from (P := l.prog) (w := w) (base := base) F12 m12 b12 B
  have D13 := ok_parts_in (P := l.prog) (w := w) (base := base) F13 m13 b13 B D12
  have D14 := ok_above_in (P := l.prog) (w := w) (base := base) F14 m14 b14 B D12
  have D15 := ok_unit (P := l.prog) (w := w) (base := base) F15 m15 b15 B
  have D16 := ok_table_in (P := l.prog) (w := w) (base := base) F16 m16 b16 B D15
  have D17 := ok_word_table (P := l.prog) (w := w) (base := base) F17 m17 b17 B D11 D16
  have D18 := ok_flow_in (P := l.prog) (w := w) (base := base) F18 m18 b18 B D14 D2
  have D19 := ok_mark_of (P := l.prog) (w := w) (base := base) F19 m19 b19 B D18 D2
  have D20 := ok_marks_in (P := l.prog) (w := w) (base := base) F20 m20 b20 B D19 D13
  have D21 := ok_can_come (P := l.prog) (w := w) (base := base) F21 m21 b21 B D7 D6 D20
  have D22 := ok_prime_to (P := l.prog) (w := w) (base := base) F22 m22 b22 B
  have D23 := ok_ways_of (P := l.prog) (w := w) (base := base) F23 m23 b23 B D22
  have D24 := ok_count_with (P := l.prog) (w := w) (base := base) F24 m24 b24 B D13 D19 D23
  have D25 := ok_come_count (P := l.prog) (w := w) (base := base) F25 m25 b25 B D7 D24
  have D26 := ok_powers_of (P := l.prog) (w := w) (base := base) F26 m26 b26 B
  have D27 := ok_split (P := l.prog) (w := w) (base := base) F27 m27 b27 B D8 D26
  have D28 := ok_is_split (P := l.prog) (w := w) (base := base) F28 m28 b28 B D1
  have D29 := ok_joined (P := l.prog) (w := w) (base := base) F29 m29 b29 B D28 D26
  have D30 := ok_in_order (P := l.prog) (w := w) (base := base) F30 m30 b30 B D13 D14
  have D31 := ok_divisors (P := l.prog) (w := w) (base := base) F31 m31 b31 B
  have D32 := ok_choices (P := l.prog) (w := w) (base := base) F32 m32 b32 B D31 D22
  have D33 := ok_class_table (P := l.prog) (w := w) (base := base) F33 m33 b33 B D30 D14 D32 D2
  have D34 := ok_class_count (P := l.prog) (w := w) (base := base) F34 m34 b34 B D4 D5 D33
  have D35 := ok_taken (P := l.prog) (w := w) (base := base) F35 m35 b35 B
  have D36 := ok_pick (P := l.prog) (w := w) (base := base) F36 m36 b36 B D35
  have D37 := ok_step (P := l.prog) (w := w) (base := base) F37 m37 b37 B
  have D38 := ok_run (P := l.prog) (w := w) (base := base) F38 m38 b38 B D37
  have D39 := ok_word (P := l.prog) (w := w) (base := base) F39 m39 b39 B D35 D36
  have D40 := ok_dial (P := l.prog) (w := w) (base := base) F40 m40 b40 B D35 D36
  have D41 := ok_web (P := l.prog) (w := w) (base := base) F41 m41 b41 B D35 D36
  exact ok_law (P := l.prog) (w := w) (base := base) F42 B ⟨D41, D36, D40, D38, D39, D27, D21, D25, D34, D17, D29⟩
theorem sp_law {K : PySem.W.Frag} {H : Hp} {a : Addr} {ns : List Int} (hS : SqL K H a (ns.map V.int)) : SpP K 1 pre_law [.ref a] H (fun v _ => v = .bl true) fun _ _ _ => False :=
  ⟨H, [.list (ns.map .int)], .bool true, Same.refl H, .cons (.lst hS (dpA_ints.mpr rfl)) .nil, rfl, ⟨ns, rfl, rfl⟩, fun v F' H' _ hd => dp_bl hd⟩
theorem walk {l : PySem.W.OpenLaw} {q : Program} {loose : List Str} {XP : (Str → Option Value) → Heap → Prop} {YP : World → Heap → Prop} {d : DefRec} {K : Params → PySem.W.Frag} (hn : l.most = some 63) (hdf : d.params.defaults = [])
    (hY : ∀ (w : World) (h : Heap), YP w h → (K w.params).In h)
    (F : ∀ (w : World) (mg : Str → Option Value) (fa : Addr) (h : Heap), (K w.params).In h → h.Ns mainGlobals mg → mg d.name = some (.ref fa) →
      ∃ fd : FuncData, (∀ (s : Shared) (u : Value), BindsTo s fd ⟨[u], []⟩ [("_law_script", u)]) ∧ ∀ base : Heap, (K w.params).In base → base.Ns mainGlobals mg → FnOk l.prog w (K w.params) mg base CX0 8 fa fd ["_law_script"] (SpP (K w.params) 1 pre_law)) :
    PySem.W.WalkO q loose XP YP l.row.toRowW d [] (fun f vs => PySem.call f vs) :=
  L2.walk_of (n := 63) (k := 8) (x := "_law_script") (CX := fun _ => CX0) (sp := fun w => SpP (K w.params) 1 pre_law) hn (by decide) hdf ⟨rfl, by decide, by decide⟩ hY F (fun _ _ a ns _ _ hS => sp_law hS) fun _ _ _ _ _ z => z
end Ck

set_option Elab.async false
set_option linter.all false
open PySem PySem.W PyProof.Rows
set_option maxRecDepth 100000 in
set_option maxHeartbeats 0 in
theorem PySem.Challenge.cw_clockadds_k34_whole_dials_by_powers_holds : PySem.Challenge.rw_clockadds_k34_whole_dials_by_powers.Holds := by
  w_on; o_law; k_head; (case hw => w_witness2)
  k_fill
  refine Ck.walk (l := PySem.Challenge.rw_clockadds_k34_whole_dials_by_powers) rfl rfl (fun w h Y => PySem.W.kIn_of Y) ?F
  case F =>
    intro w mg fa h KX G hmg
    refine' Ck.all_mk KX G hmg ?Z ?H1 ?H2 ?H3 ?H4 ?H5 ?H6 ?H7 ?H8 ?H9 ?H10 ?H11 ?H12 ?H13 ?H14 ?H15 ?H16 ?H17 ?H18 ?H19 ?H20 ?H21 ?H22 ?H23 ?H24 ?H25 ?H26 ?H27 ?H28 ?H29 ?H30 ?H31 ?H32 ?H33 ?H34 ?H35 ?H36 ?H37 ?H38 ?H39 ?H40 ?H41 ?H42
    case Z =>
      refine' Ck.bts_mk ?z0 ?z1 ?z2 ?z3 ?z4 ?z5 ?z6 ?z7 ?z8 ?z9 ?z10 ?z11 ?z12 ?c0 ?c1 ?c2 ?c3
      (case z0 => k_is)
      (case z1 => k_is)
      (case z2 => k_is)
      (case z3 => k_is)
      (case z4 => k_is)
      (case z5 => k_is)
      (case z6 => k_is)
      (case z7 => k_is)
      (case z8 => k_is)
      (case z9 => k_is)
      (case z10 => k_is)
      (case z11 => k_is)
      (case z12 => k_is)
      (case c0 => k_is)
      (case c1 => k_is)
      (case c2 => k_is)
      (case c3 => k_is)
    case H1 =>
      refine' Ck.has_mk ?a ?l ?c ?k ?b
      (case a => k_is); (case l => k_is); (case c => k_is); (case k => k_is)
      (case b => exact fun _ _ _ _ _ _ us hl => match us, hl with | [_, _, _], _ => rfl)
    case H2 =>
      refine' Ck.has_mk ?a ?l ?c ?k ?b
      (case a => k_is); (case l => k_is); (case c => k_is); (case k => k_is)
      (case b => exact fun _ _ _ _ _ _ us hl => match us, hl with | [_, _], _ => rfl)
    case H3 =>
      refine' Ck.has_mk ?a ?l ?c ?k ?b
      (case a => k_is); (case l => k_is); (case c => k_is); (case k => k_is)
      (case b => exact fun _ _ _ _ _ _ us hl => match us, hl with | [_, _], _ => rfl)
    case H4 =>
      refine' Ck.has_mk ?a ?l ?c ?k ?b
      (case a => k_is); (case l => k_is); (case c => k_is); (case k => k_is)
      (case b => exact fun _ _ _ _ _ _ us hl => match us, hl with | [_], _ => rfl)
    case H5 =>
      refine' Ck.has_mk ?a ?l ?c ?k ?b
      (case a => k_is); (case l => k_is); (case c => k_is); (case k => k_is)
      (case b => exact fun _ _ _ _ _ _ us hl => match us, hl with | [_], _ => rfl)
    case H6 =>
      refine' Ck.has_mk ?a ?l ?c ?k ?b
      (case a => k_is); (case l => k_is); (case c => k_is); (case k => k_is)
      (case b => exact fun _ _ _ _ _ _ us hl => match us, hl with | [_, _, _], _ => rfl)
    case H7 =>
      refine' Ck.has_mk ?a ?l ?c ?k ?b
      (case a => k_is); (case l => k_is); (case c => k_is); (case k => k_is)
      (case b => exact fun _ _ _ _ _ _ us hl => match us, hl with | [_, _, _], _ => rfl)
    case H8 =>
      refine' Ck.has_mk ?a ?l ?c ?k ?b
      (case a => k_is); (case l => k_is); (case c => k_is); (case k => k_is)
      (case b => exact fun _ _ _ _ _ _ us hl => match us, hl with | [_, _], _ => rfl)
    case H9 =>
      refine' Ck.has_mk ?a ?l ?c ?k ?b
      (case a => k_is); (case l => k_is); (case c => k_is); (case k => k_is)
      (case b => exact fun _ _ _ _ _ _ us hl => match us, hl with | [_, _], _ => rfl)
    case H10 =>
      refine' Ck.has_mk ?a ?l ?c ?k ?b
      (case a => k_is); (case l => k_is); (case c => k_is); (case k => k_is)
      (case b => exact fun _ _ _ _ _ _ us hl => match us, hl with | [_, _], _ => rfl)
    case H11 =>
      refine' Ck.has_mk ?a ?l ?c ?k ?b
      (case a => k_is); (case l => k_is); (case c => k_is); (case k => k_is)
      (case b => exact fun _ _ _ _ _ _ us hl => match us, hl with | [_, _, _], _ => rfl)
    case H12 =>
      refine' Ck.has_mk ?a ?l ?c ?k ?b
      (case a => k_is); (case l => k_is); (case c => k_is); (case k => k_is)
      (case b => exact fun _ _ _ _ _ _ us hl => match us, hl with | [_, _], _ => rfl)
    case H13 =>
      refine' Ck.has_mk ?a ?l ?c ?k ?b
      (case a => k_is); (case l => k_is); (case c => k_is); (case k => k_is)
      (case b => exact fun _ _ _ _ _ _ us hl => match us, hl with | [_], _ => rfl)
    case H14 =>
      refine' Ck.has_mk ?a ?l ?c ?k ?b
      (case a => k_is); (case l => k_is); (case c => k_is); (case k => k_is)
      (case b => exact fun _ _ _ _ _ _ us hl => match us, hl with | [_, _], _ => rfl)
    case H15 =>
      refine' Ck.has_mk ?a ?l ?c ?k ?b
      (case a => k_is); (case l => k_is); (case c => k_is); (case k => k_is)
      (case b => exact fun _ _ _ _ _ _ us hl => match us, hl with | [_], _ => rfl)
    case H16 =>
      refine' Ck.has_mk ?a ?l ?c ?k ?b
      (case a => k_is); (case l => k_is); (case c => k_is); (case k => k_is)
      (case b => exact fun _ _ _ _ _ _ us hl => match us, hl with | [_, _, _], _ => rfl)
    case H17 =>
      refine' Ck.has_mk ?a ?l ?c ?k ?b
      (case a => k_is); (case l => k_is); (case c => k_is); (case k => k_is)
      (case b => exact fun _ _ _ _ _ _ us hl => match us, hl with | [_, _, _], _ => rfl)
    case H18 =>
      refine' Ck.has_mk ?a ?l ?c ?k ?b
      (case a => k_is); (case l => k_is); (case c => k_is); (case k => k_is)
      (case b => exact fun _ _ _ _ _ _ us hl => match us, hl with | [_, _, _, _], _ => rfl)
    case H19 =>
      refine' Ck.has_mk ?a ?l ?c ?k ?b
      (case a => k_is); (case l => k_is); (case c => k_is); (case k => k_is)
      (case b => exact fun _ _ _ _ _ _ us hl => match us, hl with | [_, _, _, _], _ => rfl)
    case H20 =>
      refine' Ck.has_mk ?a ?l ?c ?k ?b
      (case a => k_is); (case l => k_is); (case c => k_is); (case k => k_is)
      (case b => exact fun _ _ _ _ _ _ us hl => match us, hl with | [_, _, _], _ => rfl)
    case H21 =>
      refine' Ck.has_mk ?a ?l ?c ?k ?b
      (case a => k_is); (case l => k_is); (case c => k_is); (case k => k_is)
      (case b => exact fun _ _ _ _ _ _ us hl => match us, hl with | [_, _, _, _], _ => rfl)
    case H22 =>
      refine' Ck.has_mk ?a ?l ?c ?k ?b
      (case a => k_is); (case l => k_is); (case c => k_is); (case k => k_is)
      (case b => exact fun _ _ _ _ _ _ us hl => match us, hl with | [_, _], _ => rfl)
    case H23 =>
      refine' Ck.has_mk ?a ?l ?c ?k ?b
      (case a => k_is); (case l => k_is); (case c => k_is); (case k => k_is)
      (case b => exact fun _ _ _ _ _ _ us hl => match us, hl with | [_, _, _, _], _ => rfl)
    case H24 =>
      refine' Ck.has_mk ?a ?l ?c ?k ?b
      (case a => k_is); (case l => k_is); (case c => k_is); (case k => k_is)
      (case b => exact fun _ _ _ _ _ _ us hl => match us, hl with | [_, _, _, _], _ => rfl)
    case H25 =>
      refine' Ck.has_mk ?a ?l ?c ?k ?b
      (case a => k_is); (case l => k_is); (case c => k_is); (case k => k_is)
      (case b => exact fun _ _ _ _ _ _ us hl => match us, hl with | [_, _, _], _ => rfl)
    case H26 =>
      refine' Ck.has_mk ?a ?l ?c ?k ?b
      (case a => k_is); (case l => k_is); (case c => k_is); (case k => k_is)
      (case b => exact fun _ _ _ _ _ _ us hl => match us, hl with | [_], _ => rfl)
    case H27 =>
      refine' Ck.has_mk ?a ?l ?c ?k ?b
      (case a => k_is); (case l => k_is); (case c => k_is); (case k => k_is)
      (case b => exact fun _ _ _ _ _ _ us hl => match us, hl with | [_, _], _ => rfl)
    case H28 =>
      refine' Ck.has_mk ?a ?l ?c ?k ?b
      (case a => k_is); (case l => k_is); (case c => k_is); (case k => k_is)
      (case b => exact fun _ _ _ _ _ _ us hl => match us, hl with | [_], _ => rfl)
    case H29 =>
      refine' Ck.has_mk ?a ?l ?c ?k ?b
      (case a => k_is); (case l => k_is); (case c => k_is); (case k => k_is)
      (case b => exact fun _ _ _ _ _ _ us hl => match us, hl with | [_], _ => rfl)
    case H30 =>
      refine' Ck.has_mk ?a ?l ?c ?k ?b
      (case a => k_is); (case l => k_is); (case c => k_is); (case k => k_is)
      (case b => exact fun _ _ _ _ _ _ us hl => match us, hl with | [_], _ => rfl)
    case H31 =>
      refine' Ck.has_mk ?a ?l ?c ?k ?b
      (case a => k_is); (case l => k_is); (case c => k_is); (case k => k_is)
      (case b => exact fun _ _ _ _ _ _ us hl => match us, hl with | [_], _ => rfl)
    case H32 =>
      refine' Ck.has_mk ?a ?l ?c ?k ?b
      (case a => k_is); (case l => k_is); (case c => k_is); (case k => k_is)
      (case b => exact fun _ _ _ _ _ _ us hl => match us, hl with | [_, _, _], _ => rfl)
    case H33 =>
      refine' Ck.has_mk ?a ?l ?c ?k ?b
      (case a => k_is); (case l => k_is); (case c => k_is); (case k => k_is)
      (case b => exact fun _ _ _ _ _ _ us hl => match us, hl with | [_, _], _ => rfl)
    case H34 =>
      refine' Ck.has_mk ?a ?l ?c ?k ?b
      (case a => k_is); (case l => k_is); (case c => k_is); (case k => k_is)
      (case b => exact fun _ _ _ _ _ _ us hl => match us, hl with | [_, _], _ => rfl)
    case H35 =>
      refine' Ck.has_mk ?a ?l ?c ?k ?b
      (case a => k_is); (case l => k_is); (case c => k_is); (case k => k_is)
      (case b => exact fun _ _ _ _ _ _ us hl => match us, hl with | [_, _], _ => rfl)
    case H36 =>
      refine' Ck.has_mk ?a ?l ?c ?k ?b
      (case a => k_is); (case l => k_is); (case c => k_is); (case k => k_is)
      (case b => exact fun _ _ _ _ _ _ us hl => match us, hl with | [_, _], _ => rfl)
    case H37 =>
      refine' Ck.has_mk ?a ?l ?c ?k ?b
      (case a => k_is); (case l => k_is); (case c => k_is); (case k => k_is)
      (case b => exact fun _ _ _ _ _ _ us hl => match us, hl with | [_, _, _], _ => rfl)
    case H38 =>
      refine' Ck.has_mk ?a ?l ?c ?k ?b
      (case a => k_is); (case l => k_is); (case c => k_is); (case k => k_is)
      (case b => exact fun _ _ _ _ _ _ us hl => match us, hl with | [_, _, _], _ => rfl)
    case H39 =>
      refine' Ck.has_mk ?a ?l ?c ?k ?b
      (case a => k_is); (case l => k_is); (case c => k_is); (case k => k_is)
      (case b => exact fun _ _ _ _ _ _ us hl => match us, hl with | [_, _, _], _ => rfl)
    case H40 =>
      refine' Ck.has_mk ?a ?l ?c ?k ?b
      (case a => k_is); (case l => k_is); (case c => k_is); (case k => k_is)
      (case b => exact fun _ _ _ _ _ _ us hl => match us, hl with | [_, _, _], _ => rfl)
    case H41 =>
      refine' Ck.has_mk ?a ?l ?c ?k ?b
      (case a => k_is); (case l => k_is); (case c => k_is); (case k => k_is)
      (case b => exact fun _ _ _ _ _ _ us hl => match us, hl with | [_, _], _ => rfl)
    case H42 =>
      refine' Ck.has_mk ?a ?l ?c ?k ?b
      (case a => k_is); (case l => k_is); (case c => k_is); (case k => k_is)
      (case b => exact fun _ _ _ _ _ _ us hl => match us, hl with | [_], _ => rfl)
