import PyProof.Rows.All
import Wide.All
import OpenK.AllK
import Wide.FinOn
import HandS.ForMost
import HandS.ForExc
import HandS.Wide
import HandS.WideBits
import HandS.WideMore
import HandS.IsInst
import HandS.CallSlots
import HandS.Rev
import HandS.TupAny
import HandS.Flow
import HandS.Defaults
import HandS.HotCalls
import HandS.ExcIs
import HandS.SuiteRaise
import HandS.Flt
import HandS.TryOnly
import PySem.Challenge.RW_leftnumbers_k12_fractions_made
set_option Elab.async false
set_option linter.all false
set_option maxRecDepth 100000
set_option autoImplicit false
namespace PL
open PySem PySem.Spec L2
open PyProof.Rows hiding St
/-- plain values -/
inductive PV where
  | non | bl (b : Bool) | int (i : Int) | str (s : Str)
  | tup (l : List PV) | lst (l : List PV) | frz (l : List PV) | dct
/-- what an evaluation comes to -/
inductive R (α : Type) where
  | ok (a : α) | exc (c : Str) | stuck
def R.bind {α β : Type} (x : R α) (k : α → R β) : R β := match x with
  | .ok a => k a | .exc c => .exc c | .stuck => .stuck
theorem R.bind_ok {α β : Type} (a : α) (k : α → R β) : (R.ok a).bind k = k a := rfl
/-- a slot: nothing yet; a value that may be shared; a list that this def made and nobody else holds -/
inductive Slot where
  | un | val (p : PV) | own (l : List PV) | ex (a : Addr)
abbrev Rho := List Slot
/-- a written tuple -/
def KT (K : PySem.W.Frag) (a : Addr) (xs : List V) : Prop :=
  ∃ (o : Obj) (its : Array Value) (n : Nat), K.lookup a = some o ∧ o.cls = .type "tuple" ∧ o.data = .seq its n ∧ its.size ≤ sizeLine ∧ Vals xs its.toList
mutual
inductive Rep (K : PySem.W.Frag) (H : Hp) (O : Addr → Prop) : V → PV → Prop
  | non : Rep K H O .non .non
  | bl (b : Bool) : Rep K H O (.bl b) (.bl b)
  | int (i : Int) : Rep K H O (.int i) (.int i)
  | str (x : Str) : Rep K H O (.str x) (.str x)
  | lst {a : Addr} {xs : List V} {ps : List PV} : H a = some (.lst xs) → ¬ O a → Reps K H O xs ps → Rep K H O (.ref a) (.lst ps)
  | tup {a : Addr} {xs : List V} {ps : List PV} : (H a = some (.tup xs) ∧ ¬ O a ∨ KT K a xs) → Reps K H O xs ps → Rep K H O (.ref a) (.tup ps)
  | frz {a : Addr} {ns : List Int} : ((∃ o, H a = some (.frz o (.lst (ns.map V.int)))) ∧ ¬ O a ∨ ((∀ H', SqL K H' a (ns.map V.int)))) → Rep K H O (.ref a) (.frz (ns.map PV.int))
  | dct {a : Addr} : H a = some (.dK []) → ¬ O a → Rep K H O (.ref a) .dct
inductive Reps (K : PySem.W.Frag) (H : Hp) (O : Addr → Prop) : List V → List PV → Prop
  | nil : Reps K H O [] []
  | cons {v : V} {vs : List V} {p : PV} {ps : List PV} : Rep K H O v p → Reps K H O vs ps → Reps K H O (v :: vs) (p :: ps)
end
section
variable {K : PySem.W.Frag} {H H' : Hp} {O O' : Addr → Prop}
mutual
theorem Rep.mono (hk : ∀ a o, H a = some o → ¬ O a → H' a = some o ∧ ¬ O' a) : ∀ {v : V} {p : PV}, Rep K H O v p → Rep K H' O' v p
  | _, _, .non => .non
  | _, _, .bl b => .bl b
  | _, _, .int i => .int i
  | _, _, .str x => .str x
  | _, _, .lst h n r => .lst (hk _ _ h n).1 (hk _ _ h n).2 (Reps.mono hk r)
  | _, _, .tup (.inl ⟨h, n⟩) r => .tup (.inl ⟨(hk _ _ h n).1, (hk _ _ h n).2⟩) (Reps.mono hk r)
  | _, _, .tup (.inr h) r => .tup (.inr h) (Reps.mono hk r)
  | _, _, .frz (.inl ⟨⟨o, h⟩, n⟩) => .frz (.inl ⟨⟨o, (hk _ _ h n).1⟩, (hk _ _ h n).2⟩)
  | _, _, .frz (.inr h) => .frz (.inr h)
  | _, _, .dct h n => .dct (hk _ _ h n).1 (hk _ _ h n).2
theorem Reps.mono (hk : ∀ a o, H a = some o → ¬ O a → H' a = some o ∧ ¬ O' a) : ∀ {v : List V} {p : List PV}, Reps K H O v p → Reps K H' O' v p
  | _, _, .nil => .nil
  | _, _, .cons h r => .cons (Rep.mono hk h) (Reps.mono hk r)
end
theorem Rep.same {v : V} {p : PV} (s : Same H H') (r : Rep K H O v p) : Rep K H' O v p := r.mono fun a o h n => ⟨s a o h, n⟩
theorem Reps.same {v : List V} {p : List PV} (s : Same H H') (r : Reps K H O v p) : Reps K H' O v p := r.mono fun a o h n => ⟨s a o h, n⟩
theorem Rep.less {v : V} {p : PV} (s : ∀ a, O' a → O a) (r : Rep K H O v p) : Rep K H O' v p := r.mono fun a o h n => ⟨h, fun z => n (s a z)⟩
theorem Reps.less {v : List V} {p : List PV} (s : ∀ a, O' a → O a) (r : Reps K H O v p) : Reps K H O' v p := r.mono fun a o h n => ⟨h, fun z => n (s a z)⟩
theorem Reps.length : ∀ {vs : List V} {ps : List PV}, Reps K H O vs ps → vs.length = ps.length
  | _, _, .nil => rfl
  | _, _, .cons _ r => by rw [List.length_cons, List.length_cons, Reps.length r]
theorem Reps.get : ∀ {vs : List V} {ps : List PV} {i : Nat} {p : PV}, Reps K H O vs ps → ps[i]? = some p → ∃ v, vs[i]? = some v ∧ Rep K H O v p
  | _, _, 0, _, .cons h _, e => ⟨_, rfl, by simp at e; exact e ▸ h⟩
  | _, _, i + 1, p, .cons _ r, e => by
    obtain ⟨v, h1, h2⟩ := Reps.get (i := i) (p := p) r (by simpa using e)
    exact ⟨v, by simpa using h1, h2⟩
theorem Reps.append : ∀ {vs ws : List V} {ps qs : List PV}, Reps K H O vs ps → Reps K H O ws qs → Reps K H O (vs ++ ws) (ps ++ qs)
  | _, _, _, _, .nil, s => s
  | _, _, _, _, .cons h r, s => .cons h (Reps.append r s)
theorem Reps.take : ∀ {vs : List V} {ps : List PV} (n : Nat), Reps K H O vs ps → Reps K H O (vs.take n) (ps.take n)
  | _, _, 0, _ => .nil
  | _, _, _ + 1, .nil => .nil
  | _, _, n + 1, .cons h r => .cons h (Reps.take n r)
theorem Reps.drop : ∀ {vs : List V} {ps : List PV} (n : Nat), Reps K H O vs ps → Reps K H O (vs.drop n) (ps.drop n)
  | _, _, 0, r => r
  | _, _, _ + 1, .nil => .nil
  | _, _, n + 1, .cons _ r => Reps.drop n r
theorem Reps.set {v : V} {p : PV} (h : Rep K H O v p) : ∀ {vs : List V} {ps : List PV} (n : Nat), Reps K H O vs ps → Reps K H O (vs.set n v) (ps.set n p)
  | _, _, _, .nil => .nil
  | _, _, 0, .cons _ r => .cons h r
  | _, _, n + 1, .cons q r => .cons q (Reps.set h n r)
theorem Reps.reverse {vs : List V} {ps : List PV} (h : Reps K H O vs ps) : Reps K H O vs.reverse ps.reverse := by
  induction vs generalizing ps with
  | nil => cases h; exact .nil
  | cons v vs ih => cases h with
    | cons a r => rw [List.reverse_cons, List.reverse_cons]; exact (ih r).append (.cons a .nil)
theorem Reps.ofInts : ∀ (ns : List Int), Reps K H O (ns.map V.int) (ns.map PV.int)
  | [] => .nil
  | n :: ns => .cons (.int n) (Reps.ofInts ns)
theorem Reps.bls : ∀ {ns : List Bool} {vs : List V}, Reps K H O vs (ns.map PV.bl) → vs = ns.map V.bl
  | [], _, .nil => rfl
  | n :: ns, _, .cons h r => by cases h; rw [Reps.bls r]; rfl
end
/-- the addresses that nobody else may hold: those from outside, those of the slots -/
def OO (O0 : Addr → Prop) (σ : St) (ρ : Rho) : Addr → Prop := fun a => O0 a ∨ ∃ (i : Nat) (ps : List PV), ρ[i]? = some (.own ps) ∧ σ[i]? = some (some (.ref a))
structure StR (K : PySem.W.Frag) (H0 : Hp) (O0 : Addr → Prop) (H : Hp) (σ : St) (ρ : Rho) : Prop where
  len : σ.length = ρ.length
  same : Same H0 H
  all0 : ∀ a, O0 a → H a ≠ none
  own : ∀ (i : Nat) (ps : List PV), ρ[i]? = some (.own ps) → ∃ (a : Addr) (vs : List V), σ[i]? = some (some (.ref a)) ∧ H a = some (.lst vs) ∧ H0 a = none ∧ ¬ O0 a ∧ Reps K H (OO O0 σ ρ) vs ps
  dis : ∀ (i j : Nat) (a : Addr) (ps qs : List PV), ρ[i]? = some (.own ps) → ρ[j]? = some (.own qs) → σ[i]? = some (some (.ref a)) → σ[j]? = some (some (.ref a)) → i = j
  val : ∀ (i : Nat) (p : PV), ρ[i]? = some (.val p) → ∃ (v : V), σ[i]? = some (some v) ∧ Rep K H (OO O0 σ ρ) v p
  exs : ∀ (i : Nat) (a : Addr), ρ[i]? = some (.ex a) → σ[i]? = some (some (.ref a))
theorem exs_set {σ : St} {ρ : Rho} (hl : σ.length = ρ.length) (h : ∀ (i : Nat) (a : Addr), ρ[i]? = some (.ex a) → σ[i]? = some (some (.ref a))) {i : Nat} {v : Option V} {s : Slot} (hs : ∀ a, s = .ex a → v = some (.ref a)) : ∀ (j : Nat) (a : Addr), (ρ.set i s)[j]? = some (.ex a) → (σ.set i v)[j]? = some (some (.ref a)) := fun j a e => by
  by_cases q : i = j
  · subst q
    by_cases hi : i < ρ.length
    · rw [List.getElem?_set_self hi] at e
      rw [List.getElem?_set_self (by rw [hl]; exact hi), hs a (Option.some.inj e)]
    · rw [List.getElem?_eq_none (by rw [List.length_set]; omega)] at e; cases e
  · rw [List.getElem?_set_ne q] at e ⊢
    exact h j a e
section
variable {K : PySem.W.Frag} {H0 H H' : Hp} {O0 : Addr → Prop} {σ : St} {ρ : Rho}
theorem StR.there (S : StR K H0 O0 H σ ρ) {a : Addr} (h : OO O0 σ ρ a) : H a ≠ none := by
  rcases h with h | ⟨i, ps, h1, h2⟩
  · exact S.all0 a h
  · obtain ⟨b, vs, e1, e2, _⟩ := S.own i ps h1
    rw [h2] at e1; cases e1
    rw [e2]; exact fun z => nomatch z
theorem StR.step (S : StR K H0 O0 H σ ρ) (s : Same H H') : StR K H0 O0 H' σ ρ :=
  ⟨S.len, S.same.trans s, fun a h z => S.all0 a h (s.free z), fun i ps h => let ⟨a, vs, e1, e2, e3, e5, e4⟩ := S.own i ps h; ⟨a, vs, e1, s _ _ e2, e3, e5, e4.same s⟩, S.dis, fun i p h => let ⟨v, e1, e2⟩ := S.val i p h; ⟨v, e1, e2.same s⟩, S.exs⟩
theorem OO.set_val {i : Nat} {v : Option V} {s : Slot} (hs : ∀ ps, s ≠ .own ps) {a : Addr} (h : OO O0 (σ.set i v) (ρ.set i s) a) : OO O0 σ ρ a := by
  rcases h with h | ⟨j, ps, h1, h2⟩
  · exact .inl h
  · by_cases e : i = j
    · subst e
      by_cases hl : i < ρ.length
      · rw [List.getElem?_set_self hl] at h1; exact absurd (Option.some.inj h1) (hs ps)
      · rw [List.getElem?_eq_none (by rw [List.length_set]; omega)] at h1; cases h1
    · rw [List.getElem?_set_ne e] at h1 h2
      exact .inr ⟨j, ps, h1, h2⟩
/-- a slot is set to a shared value (or emptied) -/
theorem StR.set (S : StR K H0 O0 H σ ρ) {i : Nat} {v : Option V} {s : Slot} (hs : ∀ ps, s ≠ .own ps) (hv : ∀ p, s = .val p → ∃ w, v = some w ∧ Rep K H (OO O0 σ ρ) w p) (hx : ∀ a, s = .ex a → v = some (.ref a) := by intro _ z; cases z) : StR K H0 O0 H (σ.set i v) (ρ.set i s) := by
  have less : ∀ a, OO O0 (σ.set i v) (ρ.set i s) a → OO O0 σ ρ a := fun a h => OO.set_val hs h
  refine ⟨by rw [List.length_set, List.length_set, S.len], S.same, S.all0, fun j ps h => ?_, fun j k a ps qs h1 h2 h3 h4 => ?_, fun j p h => ?_, exs_set S.len S.exs hx⟩
  · by_cases e : i = j
    · subst e
      by_cases hl : i < ρ.length
      · rw [List.getElem?_set_self hl] at h; exact absurd (Option.some.inj h) (hs ps)
      · rw [List.getElem?_eq_none (by rw [List.length_set]; omega)] at h; cases h
    · rw [List.getElem?_set_ne e] at h
      obtain ⟨a, vs, e1, e2, e3, e5, e4⟩ := S.own j ps h
      exact ⟨a, vs, by rw [List.getElem?_set_ne e]; exact e1, e2, e3, e5, e4.less less⟩
  · have go : ∀ {j : Nat} {ps : List PV}, (ρ.set i s)[j]? = some (.own ps) → i ≠ j := fun {j ps} h e => by
      subst e
      by_cases hl : i < ρ.length
      · rw [List.getElem?_set_self hl] at h; exact absurd (Option.some.inj h) (hs ps)
      · rw [List.getElem?_eq_none (by rw [List.length_set]; omega)] at h; cases h
    have e1 := go h1
    have e2 := go h2
    rw [List.getElem?_set_ne e1] at h1 h3
    rw [List.getElem?_set_ne e2] at h2 h4
    exact S.dis j k a ps qs h1 h2 h3 h4
  · by_cases e : i = j
    · subst e
      by_cases hl : i < ρ.length
      · rw [List.getElem?_set_self hl] at h
        obtain ⟨w, e1, e2⟩ := hv p (Option.some.inj h)
        exact ⟨w, by rw [List.getElem?_set_self (by rw [S.len]; exact hl), e1], e2.less less⟩
      · rw [List.getElem?_eq_none (by rw [List.length_set]; omega)] at h; cases h
    · rw [List.getElem?_set_ne e] at h
      obtain ⟨w, e1, e2⟩ := S.val j p h
      exact ⟨w, by rw [List.getElem?_set_ne e]; exact e1, e2.less less⟩
end
end PL
set_option Elab.async false
set_option linter.all false
set_option maxRecDepth 100000
set_option autoImplicit false
namespace PL
open PySem PySem.Spec L2
open PyProof.Rows hiding St
/-- how a result stands: s: apart from the owned lists; t: it may be an owned list itself; f: a list that is new; w: apart from the outer addresses alone -/
inductive Md where
  | s | t | f | w
def RepM (K : PySem.W.Frag) (O0 : Addr → Prop) (σ : St) (ρ : Rho) : Md → Hp → Hp → V → PV → Prop
  | .s, _, H', v, p => Rep K H' (OO O0 σ ρ) v p
  | .t, _, H', v, p => Rep K H' (OO O0 σ ρ) v p ∨ ∃ a vs ps, v = .ref a ∧ p = .lst ps ∧ H' a = some (.lst vs) ∧ Reps K H' (OO O0 σ ρ) vs ps
  | .f, H, H', v, p => ∃ a vs ps, v = .ref a ∧ p = .lst ps ∧ H a = none ∧ H' a = some (.lst vs) ∧ Reps K H' (fun b => OO O0 σ ρ b ∨ b = a) vs ps
  | .w, _, H', v, p => Rep K H' O0 v p
section
variable {K : PySem.W.Frag} {H0 H H1 H2 : Hp} {O0 : Addr → Prop} {σ : St} {ρ : Rho} {v : V} {p : PV} {m : Md}
theorem RepM.step (r : RepM K O0 σ ρ m H H1 v p) (s : Same H1 H2) : RepM K O0 σ ρ m H H2 v p := by
  cases m with
  | s => exact Rep.same s r
  | t =>
    rcases r with r | ⟨a, vs, ps, e1, e2, e3, e4⟩
    · exact .inl (r.same s)
    · exact .inr ⟨a, vs, ps, e1, e2, s _ _ e3, e4.same s⟩
  | f => obtain ⟨a, vs, ps, e1, e2, e3, e4, e5⟩ := r; exact ⟨a, vs, ps, e1, e2, e3, s _ _ e4, e5.same s⟩
  | w => exact Rep.same s r
theorem RepM.back (s : Same H H1) (r : RepM K O0 σ ρ m H1 H2 v p) : RepM K O0 σ ρ m H H2 v p := by
  cases m with
  | s => exact r
  | t => exact r
  | f => obtain ⟨a, vs, ps, e1, e2, e3, e4, e5⟩ := r; exact ⟨a, vs, ps, e1, e2, s.free e3, e4, e5⟩
  | w => exact r
theorem RepM.f_s (S : StR K H0 O0 H σ ρ) (r : RepM K O0 σ ρ .f H H1 v p) : RepM K O0 σ ρ .s H H1 v p := by
  obtain ⟨a, vs, ps, rfl, rfl, e3, e4, e5⟩ := r
  exact .lst e4 (fun z => S.there z e3) (e5.less fun _ z => .inl z)
theorem RepM.s_w (r : RepM K O0 σ ρ .s H H1 v p) : RepM K O0 σ ρ .w H H1 v p := Rep.less (fun _ z => .inl z) r
theorem RepM.s_t (r : RepM K O0 σ ρ .s H H1 v p) : RepM K O0 σ ρ .t H H1 v p := .inl r
end
/-- what an expression's end must bring -/
def Got (K : PySem.W.Frag) (mg : Str → Option Value) (W : WX) (O0 : Addr → Prop) (σ : St) (ρ : Rho) (m : Md) (H : Hp) (Q : VK) : R PV → Prop
  | .ok p => ∀ v H', Same H H' → RepM K O0 σ ρ m H H' v p → Q v H'
  | .exc c => ∀ C H', Same H H' → mg c = some (.ref C) → W (.ref C) none σ H'
  | .stuck => False
def GotT (mg : Str → Option Value) (W : WX) (σ : St) (H : Hp) (Q : Bool → Hp → Prop) : R Bool → Prop
  | .ok b => ∀ H', Same H H' → Q b H'
  | .exc c => ∀ C H', Same H H' → mg c = some (.ref C) → W (.ref C) none σ H'
  | .stuck => False
def GotA (K : PySem.W.Frag) (mg : Str → Option Value) (W : WX) (O0 : Addr → Prop) (σ : St) (ρ : Rho) (m : Md) (H : Hp) (Q : List V → Hp → Prop) : R (List PV) → Prop
  | .ok ps => ∀ vs H', Same H H' → Paired (RepM K O0 σ ρ m H H') vs ps → Q vs H'
  | .exc c => ∀ C H', Same H H' → mg c = some (.ref C) → W (.ref C) none σ H'
  | .stuck => False
def tE (K : PySem.W.Frag) (mg : Str → Option Value) (W : WX) (m : Md) (f : Rho → R PV) : TE := fun σ H Q =>
  ∃ H0 O0 ρ, StR K H0 O0 H σ ρ ∧ Got K mg W O0 σ ρ m H Q (f ρ)
def tT (K : PySem.W.Frag) (mg : Str → Option Value) (W : WX) (f : Rho → R Bool) : TT := fun σ H Q =>
  ∃ H0 O0 ρ, StR K H0 O0 H σ ρ ∧ GotT mg W σ H Q (f ρ)
def tA (K : PySem.W.Frag) (mg : Str → Option Value) (W : WX) (m : Md) (f : Rho → R (List PV)) : TA := fun σ H Q =>
  ∃ H0 O0 ρ, StR K H0 O0 H σ ρ ∧ GotA K mg W O0 σ ρ m H Q (f ρ)
abbrev EJ (X : Cx) (W : WX) (m : Md) (e : Expr) (f : Rho → R PV) : Prop := PE X e (tE X.K X.mg W m f)
abbrev TJ (X : Cx) (W : WX) (e : Expr) (f : Rho → R Bool) : Prop := PT X e (tT X.K X.mg W f)
abbrev AJ (X : Cx) (W : WX) (m : Md) (es : List Expr) (f : Rho → R (List PV)) : Prop := PA X es (tA X.K X.mg W m f)
section
variable {X : Cx} {e a b : Expr} {pos : Pos}
theorem pe_imp {t t' : TE} (h : PE X e t) (q : ∀ σ H Q, t' σ H Q → t σ H Q) : PE X e t' := ⟨fun pins s σ H Q I hw => h.run pins s σ H Q I (q σ H Q hw)⟩
theorem pt_imp {t t' : TT} (h : PT X e t) (q : ∀ σ H Q, t' σ H Q → t σ H Q) : PT X e t' := ⟨fun pins s σ H Q I hw => h.run pins s σ H Q I (q σ H Q hw)⟩
theorem pw_imp {t t' : TT} (h : PW X e t) (q : ∀ σ H Q, t' σ H Q → t σ H Q) : PW X e t' := ⟨fun wh pins s σ H Q I hw => h.run wh pins s σ H Q I (q σ H Q hw)⟩
theorem pa_imp {es : List Expr} {t t' : TA} (h : PA X es t) (q : ∀ σ H Q, t' σ H Q → t σ H Q) : PA X es t' := ⟨fun pos pins s σ H Q I hw => h.run pos pins s σ H Q I (q σ H Q hw)⟩
end
section
variable {K : PySem.W.Frag} {mg : Str → Option Value} {W : WX} {H0 H H1 H2 : Hp} {O0 : Addr → Prop} {σ : St} {ρ : Rho} {m m1 m2 : Md}
/-- from a later heap -/
theorem Got.later {x : R PV} {Q : VK} (s : Same H H1) (h : Got K mg W O0 σ ρ m H Q x) : Got K mg W O0 σ ρ m H1 Q x := by
  cases x with
  | ok p => exact fun v H' s' r => h v H' (s.trans s') (r.back s)
  | exc c => exact fun C H' s' e => h C H' (s.trans s') e
  | stuck => exact h
theorem GotT.later {x : R Bool} {Q : Bool → Hp → Prop} (s : Same H H1) (h : GotT mg W σ H Q x) : GotT mg W σ H1 Q x := by
  cases x with
  | ok p => exact fun H' s' => h H' (s.trans s')
  | exc c => exact fun C H' s' e => h C H' (s.trans s') e
  | stuck => exact h
end
def eC (p : PV) : Rho → R PV := fun _ => .ok p
def eV (i : Nat) : Rho → R PV := fun ρ => match ρ[i]? with
  | some (.val p) => .ok p
  | _ => .stuck
def eVo (i : Nat) : Rho → R PV := fun ρ => match ρ[i]? with
  | some (.val p) => .ok p
  | some (.own ps) => .ok (.lst ps)
  | _ => .stuck
section
variable {X : Cx} {W : WX} {e a b c : Expr} {pos : Pos} {m m1 m2 m3 : Md} {f g h : Rho → R PV}
theorem e_const {v : V} {p : PV} (hp : PE X e (tC v)) (hr : ∀ K H O, Rep K H O v p) : EJ X W .s e (eC p) := by
  refine pe_imp hp fun σ H Q ⟨H0, O0, ρ, S, G⟩ => ?_
  exact G v H (Same.refl H) (hr _ _ _)
theorem e_int {i : Int} {j : Nat} : EJ X W .s (.Constant (.int i) j pos) (eC (.int i)) := e_const pe_int fun _ _ _ => .int i
theorem e_bl {k : Bool} {j : Nat} : EJ X W .s (.Constant (.bool k) j pos) (eC (.bl k)) := e_const pe_bl fun _ _ _ => .bl k
theorem e_non {j : Nat} : EJ X W .s (.Constant .none j pos) (eC .non) := e_const pe_non fun _ _ _ => .non
theorem e_str {x : Str} {j : Nat} : EJ X W .s (.Constant (.str x) j pos) (eC (.str x)) := e_const pe_str fun _ _ _ => .str x
theorem e_s_t (h : EJ X W .s e f) : EJ X W .t e f := by
  refine pe_imp h fun σ H Q ⟨H0, O0, ρ, S, G⟩ => ⟨H0, O0, ρ, S, ?_⟩
  revert G
  cases f ρ with
  | ok p => exact fun G v H' s r => G v H' s (RepM.s_t (H := H) r)
  | exc c => exact id
  | stuck => exact id
theorem e_f_s (h : EJ X W .f e f) : EJ X W .s e f := by
  refine pe_imp h fun σ H Q ⟨H0, O0, ρ, S, G⟩ => ⟨H0, O0, ρ, S, ?_⟩
  revert G
  cases f ρ with
  | ok p => exact fun G v H' s r => G v H' s (RepM.f_s S r)
  | exc c => exact id
  | stuck => exact id
theorem e_f_t (h : EJ X W .f e f) : EJ X W .t e f := e_s_t (e_f_s h)
theorem eVar_get {K : PySem.W.Frag} {H0 H : Hp} {O0 : Addr → Prop} {σ : St} {ρ : Rho} (S : StR K H0 O0 H σ ρ) {i : Nat} {p : PV} (h : eV i ρ = .ok p) : ∃ v, σ[i]? = some (some v) ∧ Rep K H (OO O0 σ ρ) v p := by
  unfold eV at h
  split at h
  · rename_i q hq
    cases h
    exact S.val i _ hq
  · cases h
theorem e_var {i : Nat} (hp : PE X e (tVar i)) : EJ X W .s e (eV i) := by
  refine pe_imp hp fun σ H Q ⟨H0, O0, ρ, S, G⟩ => ?_
  revert G
  cases hv : eV i ρ with
  | ok p =>
    intro G
    obtain ⟨v, e1, e2⟩ := eVar_get S hv
    exact ⟨v, e1, G v H (Same.refl H) e2⟩
  | exc c => unfold eV at hv; split at hv <;> cases hv
  | stuck => exact False.elim
theorem eVo_get {K : PySem.W.Frag} {H0 H : Hp} {O0 : Addr → Prop} {σ : St} {ρ : Rho} (S : StR K H0 O0 H σ ρ) {i : Nat} {p : PV} (h : eVo i ρ = .ok p) : ∃ v, σ[i]? = some (some v) ∧ RepM K O0 σ ρ .t H H v p ∧ RepM K O0 σ ρ .w H H v p := by
  unfold eVo at h
  split at h
  · rename_i q hq
    cases h
    obtain ⟨v, e1, e2⟩ := S.val i _ hq
    exact ⟨v, e1, .inl e2, RepM.s_w (H := H) e2⟩
  · rename_i ps hq
    cases h
    obtain ⟨a, vs, e1, e2, e3, e5, e4⟩ := S.own i _ hq
    exact ⟨.ref a, e1, .inr ⟨a, vs, _, rfl, rfl, e2, e4⟩, .lst e2 e5 (e4.less fun _ z => .inl z)⟩
  · cases h
theorem eVo_noexc {i : Nat} {ρ : Rho} {c : Str} (h : eVo i ρ = .exc c) : False := by
  unfold eVo at h
  split at h <;> cases h
theorem e_varT {i : Nat} (hp : PE X e (tVar i)) : EJ X W .t e (eVo i) := by
  refine pe_imp hp fun σ H Q ⟨H0, O0, ρ, S, G⟩ => ?_
  revert G
  cases hv : eVo i ρ with
  | ok p =>
    intro G
    obtain ⟨v, e1, e2, _⟩ := eVo_get S hv
    exact ⟨v, e1, G v H (Same.refl H) e2⟩
  | exc c => exact (eVo_noexc hv).elim
  | stuck => exact False.elim
/-- what an operation's end must bring -/
def GotV (K : PySem.W.Frag) (O0 : Addr → Prop) (σ : St) (ρ : Rho) (m : Md) (H H2 : Hp) (Q : VK) : R PV → Prop
  | .ok p => ∀ v H', Same H2 H' → RepM K O0 σ ρ m H H' v p → Q v H'
  | _ => False
def OpS (K : PySem.W.Frag) (r : R2) (m1 m2 m : Md) (g : PV → PV → R PV) : Prop :=
  ∀ {H0 O0 σ ρ H H2 x y p q} {Q : VK}, StR K H0 O0 H σ ρ → Same H H2 → RepM K O0 σ ρ m1 H H2 x p → RepM K O0 σ ρ m2 H H2 y q → GotV K O0 σ ρ m H H2 Q (g p q) → r x y H2 Q
def UnS (K : PySem.W.Frag) (r : V → Hp → VK → Prop) (m1 m : Md) (g : PV → R PV) : Prop :=
  ∀ {H0 O0 σ ρ H H2 x p} {Q : VK}, StR K H0 O0 H σ ρ → Same H H2 → RepM K O0 σ ρ m1 H H2 x p → GotV K O0 σ ρ m H H2 Q (g p) → r x H2 Q
def CallS (K : PySem.W.Frag) (r : List V → Hp → VK → Prop) (m1 m : Md) (g : List PV → R PV) : Prop :=
  ∀ {H0 O0 σ ρ H H2 xs ps} {Q : VK}, StR K H0 O0 H σ ρ → Same H H2 → Paired (RepM K O0 σ ρ m1 H H2) xs ps → GotV K O0 σ ρ m H H2 Q (g ps) → r xs H2 Q
def e2 (g : PV → PV → R PV) (f1 f2 : Rho → R PV) : Rho → R PV := fun ρ => (f1 ρ).bind fun x => (f2 ρ).bind fun y => g x y
def e1 (g : PV → R PV) (f1 : Rho → R PV) : Rho → R PV := fun ρ => (f1 ρ).bind g
theorem Got.v {K : PySem.W.Frag} {mg : Str → Option Value} {O0 : Addr → Prop} {σ : St} {ρ : Rho} {H H2 : Hp} {Q : VK} {x : R PV} (hx : ∀ c, x ≠ .exc c) (s : Same H H2) (G : Got K mg W O0 σ ρ m H Q x) : GotV K O0 σ ρ m H H2 Q x := by
  cases x with
  | ok p => exact fun v H' s' r => G v H' (s.trans s') r
  | exc c => exact absurd rfl (hx c)
  | stuck => exact G
theorem t_op {r : R2} {g : PV → PV → R PV} (hg : ∀ p q c, g p q ≠ .exc c) (ho : OpS X.K r m1 m2 m g) : ∀ σ H Q, tE X.K X.mg W m (e2 g f h) σ H Q → tOp r (tE X.K X.mg W m1 f) (tE X.K X.mg W m2 h) σ H Q := by
  intro σ H Q ⟨H0, O0, ρ, S, G⟩
  refine ⟨H0, O0, ρ, S, ?_⟩
  revert G
  unfold e2
  cases f ρ with
  | stuck => exact False.elim
  | exc c => exact id
  | ok p =>
    intro G x H1 s1 r1
    refine ⟨H0, O0, ρ, S.step s1, ?_⟩
    revert G
    rw [R.bind_ok]
    cases h ρ with
    | stuck => exact False.elim
    | exc c => exact fun G C H' s' => G C H' (s1.trans s')
    | ok q =>
      intro G y H2 s2 r2
      exact ho S (s1.trans s2) (r1.step s2) (r2.back s1) (Got.v (hg p q) (s1.trans s2) G)
theorem e_op {op : Operator} {r : R2} {g : PV → PV → R PV} (hr : OpR X (binaryOp op) r) (hg : ∀ p q c, g p q ≠ .exc c) (ho : OpS X.K r m1 m2 m g) (ha : EJ X W m1 a f) (hb : EJ X W m2 b h) : EJ X W m (.BinOp a op b pos) (e2 g f h) :=
  pe_imp (pe_op hr ha hb) (t_op hg ho)
theorem e_cmp {op : CmpOp} {r : R2} {g : PV → PV → R PV} (hr : OpR X (compareOp op) r) (hg : ∀ p q c, g p q ≠ .exc c) (ho : OpS X.K r m1 m2 m g) (ha : EJ X W m1 a f) (hb : EJ X W m2 b h) (hm : behindInMarks op b = false) : EJ X W m (.Compare a [op] [b] pos) (e2 g f h) :=
  pe_imp (pe_cmpR hr ha hb hm) (t_op hg ho)
theorem e_ix {r : R2} {g : PV → PV → R PV} (hr : IxR X r) (hg : ∀ p q c, g p q ≠ .exc c) (ho : OpS X.K r m1 m2 m g) (ha : EJ X W m1 a f) (hb : EJ X W m2 b h) (hs : PlainIx b) : EJ X W m (.Subscript a b pos) (e2 g f h) :=
  pe_imp (pe_ix hr ha hb hs) (t_op hg ho)
theorem e_un {op : UnaryOp} {r : V → Hp → VK → Prop} {g : PV → R PV} (hr : UnR X (unaryOp op) r) (hg : ∀ p c, g p ≠ .exc c) (ho : UnS X.K r m1 m g) (ha : EJ X W m1 a f) : EJ X W m (.UnaryOp op a pos) (e1 g f) := by
  refine pe_imp (pe_un hr ha) fun σ H Q ⟨H0, O0, ρ, S, G⟩ => ⟨H0, O0, ρ, S, ?_⟩
  revert G
  unfold e1
  cases f ρ with
  | stuck => exact False.elim
  | exc c => exact id
  | ok p => exact fun G x H1 s1 r1 => ho S s1 r1 (Got.v (hg p) s1 G)
def asB : PV → R Bool
  | .bl b => .ok b
  | _ => .stuck
def tB1 (f : Rho → R PV) : Rho → R Bool := fun ρ => (f ρ).bind asB
theorem GotB {K : PySem.W.Frag} {mg : Str → Option Value} {O0 : Addr → Prop} {σ : St} {ρ : Rho} {H : Hp} {Q : Bool → Hp → Prop} {x : R PV} (G : GotT mg W σ H Q (x.bind asB)) : Got K mg W O0 σ ρ .s H (fun v H' => ∃ k, v = .bl k ∧ Q k H') x := by
  revert G
  cases x with
  | stuck => exact False.elim
  | exc c => exact id
  | ok p =>
    cases p with
    | bl b => exact fun G v H' s r => by cases r; exact ⟨b, rfl, G H' s⟩
    | _ => exact False.elim
theorem t_cmp {op : CmpOp} {r : R2} {g : PV → PV → R PV} (hr : OpR X (compareOp op) r) (hg : ∀ p q c, g p q ≠ .exc c) (ho : OpS X.K r m1 m2 .s g) (ha : EJ X W m1 a f) (hb : EJ X W m2 b h) (hm : behindInMarks op b = false) : TJ X W (.Compare a [op] [b] pos) (tB1 (e2 g f h)) := by
  refine pt_imp (pt_cmpR hr ha hb hm) fun σ H Q ⟨H0, O0, ρ, S, G⟩ => ?_
  exact t_op hg ho σ H _ ⟨H0, O0, ρ, S, GotB G⟩
/-- an expression of any other kind, worth a truth value -/
theorem t_val (ha : EJ X W .s e f) (he : ∀ whole, isTrue e X.env whole = (do let v ← whole; standAt e.pos; holding [v] (truthy v)) := by intro _; rfl) : TJ X W e (tB1 f) := by
  refine pt_imp (pt_val ha he) fun σ H Q ⟨H0, O0, ρ, S, G⟩ => ⟨H0, O0, ρ, S, GotB G⟩
variable {fT gT hT : Rho → R Bool}
def tNt (f : Rho → R Bool) : Rho → R Bool := fun ρ => (f ρ).bind fun b => .ok (!b)
def tAn (f g : Rho → R Bool) : Rho → R Bool := fun ρ => (f ρ).bind fun b => if b = true then g ρ else .ok false
def tOr' (f g : Rho → R Bool) : Rho → R Bool := fun ρ => (f ρ).bind fun b => if b = true then .ok true else g ρ
theorem t_not (ha : TJ X W a fT) : TJ X W (.UnaryOp .Not a pos) (tNt fT) := by
  refine pt_imp (pt_not ha) fun σ H Q ⟨H0, O0, ρ, S, G⟩ => ⟨H0, O0, ρ, S, ?_⟩
  revert G
  unfold tNt
  cases fT ρ with
  | stuck => exact False.elim
  | exc c => exact id
  | ok b => exact fun G H' s => G H' s
abbrev WJ (X : Cx) (W : WX) (e : Expr) (f : Rho → R Bool) : Prop := PW X e (tT X.K X.mg W f)
theorem t_w (h : WJ X W e fT) : TJ X W e fT := PW.pt h
variable {rest : List Expr}
theorem w_or1 (ha : TJ X W a fT) : WJ X W (.BoolOp .Or [a] pos) fT := pw_or1 ha
theorem w_or (ha : TJ X W a fT) (hb : WJ X W (.BoolOp .Or (b :: rest) pos) gT) : WJ X W (.BoolOp .Or (a :: b :: rest) pos) (tOr' fT gT) := by
  refine pw_imp (pw_or ha hb) fun σ H Q ⟨H0, O0, ρ, S, G⟩ => ⟨H0, O0, ρ, S, ?_⟩
  revert G
  unfold tOr'
  cases fT ρ with
  | stuck => exact False.elim
  | exc c => exact id
  | ok k =>
    intro G H1 s1
    cases k with
    | false => rw [if_neg Bool.false_ne_true]; exact ⟨H0, O0, ρ, S.step s1, GotT.later s1 G⟩
    | true => rw [if_pos rfl]; exact G H1 s1
/-- and, or, not as values -/
def eAn (f g : Rho → R PV) : Rho → R PV := fun ρ => (f ρ).bind fun p => (asB p).bind fun b => if b = true then g ρ else .ok (.bl false)
def eOr (f g : Rho → R PV) : Rho → R PV := fun ρ => (f ρ).bind fun p => (asB p).bind fun b => if b = true then .ok (.bl true) else g ρ
def notP : PV → R PV
  | .bl b => .ok (.bl (!b))
  | _ => .stuck
theorem e_one {op : BoolOp} (ha : EJ X W m a f) : EJ X W m (.BoolOp op [a] pos) f := pe_one ha
theorem e_and (ha : EJ X W .s a f) (hb : EJ X W .s (.BoolOp .And (b :: rest) pos) g) : EJ X W .s (.BoolOp .And (a :: b :: rest) pos) (eAn f g) := by
  refine pe_imp (pe_and ha hb) fun σ H Q ⟨H0, O0, ρ, S, G⟩ => ⟨H0, O0, ρ, S, ?_⟩
  revert G
  unfold eAn
  cases f ρ with
  | stuck => exact False.elim
  | exc c => exact id
  | ok p =>
    cases p with
    | bl k =>
      intro G v H1 s1 r1
      cases r1
      refine ⟨k, rfl, ?_⟩
      cases k with
      | true => rw [if_pos rfl]; exact ⟨H0, O0, ρ, S.step s1, Got.later s1 G⟩
      | false => rw [if_neg Bool.false_ne_true]; exact G _ H1 s1 (.bl false)
    | _ => exact False.elim
theorem e_or (ha : EJ X W .s a f) (hb : EJ X W .s (.BoolOp .Or (b :: rest) pos) g) : EJ X W .s (.BoolOp .Or (a :: b :: rest) pos) (eOr f g) := by
  refine pe_imp (pe_or ha hb) fun σ H Q ⟨H0, O0, ρ, S, G⟩ => ⟨H0, O0, ρ, S, ?_⟩
  revert G
  unfold eOr
  cases f ρ with
  | stuck => exact False.elim
  | exc c => exact id
  | ok p =>
    cases p with
    | bl k =>
      intro G v H1 s1 r1
      cases r1
      refine ⟨k, rfl, ?_⟩
      cases k with
      | false => rw [if_neg Bool.false_ne_true]; exact ⟨H0, O0, ρ, S.step s1, Got.later s1 G⟩
      | true => rw [if_pos rfl]; exact G _ H1 s1 (.bl true)
    | _ => exact False.elim
theorem e_not (ha : EJ X W .s a f) : EJ X W .s (.UnaryOp .Not a pos) (e1 notP f) := by
  refine pe_imp (pe_not ha) fun σ H Q ⟨H0, O0, ρ, S, G⟩ => ⟨H0, O0, ρ, S, ?_⟩
  revert G
  unfold e1
  cases f ρ with
  | stuck => exact False.elim
  | exc c => exact id
  | ok p =>
    cases p with
    | bl k => exact fun G v H1 s1 r1 => by cases r1; exact ⟨k, rfl, G _ H1 s1 (.bl _)⟩
    | _ => exact False.elim
def eIf (t : Rho → R Bool) (f g : Rho → R PV) : Rho → R PV := fun ρ => (t ρ).bind fun b => if b = true then f ρ else g ρ
def aNil : Rho → R (List PV) := fun _ => .ok []
def aCons (f : Rho → R PV) (g : Rho → R (List PV)) : Rho → R (List PV) := fun ρ => (f ρ).bind fun p => (g ρ).bind fun ps => .ok (p :: ps)
variable {es : List Expr} {fA : Rho → R (List PV)}
theorem a_nil : AJ X W m [] aNil := by
  refine pa_imp pa_nil fun σ H Q ⟨H0, O0, ρ, S, G⟩ => ?_
  exact G [] H (Same.refl H) .nil
theorem a_cons (ha : EJ X W m e f) (hr : AJ X W m es fA) (hs : starEach (e :: es) X.env = (false, eval e X.env) :: starEach es X.env := by rfl) : AJ X W m (e :: es) (aCons f fA) := by
  refine pa_imp (pa_cons ha hr hs) fun σ H Q ⟨H0, O0, ρ, S, G⟩ => ⟨H0, O0, ρ, S, ?_⟩
  revert G
  unfold aCons
  cases f ρ with
  | stuck => exact False.elim
  | exc c => exact id
  | ok p =>
    intro G v H1 s1 r1
    refine ⟨H0, O0, ρ, S.step s1, ?_⟩
    revert G
    rw [R.bind_ok]
    cases fA ρ with
    | stuck => exact False.elim
    | exc c => exact fun G C H' s' => G C H' (s1.trans s')
    | ok ps =>
      intro G vs H2 s2 r2
      refine G (v :: vs) H2 (s1.trans s2) (.cons (r1.step s2) ?_)
      exact Paired.mapP r2 fun _ _ z => z.back s1
theorem reps_of {K : PySem.W.Frag} {O0 : Addr → Prop} {σ : St} {ρ : Rho} {H H' : Hp} : ∀ {vs : List V} {ps : List PV}, Paired (RepM K O0 σ ρ .s H H') vs ps → Reps K H' (OO O0 σ ρ) vs ps
  | _, _, .nil => .nil
  | _, _, .cons h r => .cons h (reps_of r)
theorem same_new {H : Hp} {p : Addr} {o : HO} (h : H p = none) : Same H (upd H p o) := fun b x z => by
  rw [upd_ne (ne_of_none z h)]; exact z
def tupP (ps : List PV) : R PV := if ps.length ≤ sizeLine then .ok (.tup ps) else .stuck
def lstP (ps : List PV) : R PV := if ps.length ≤ sizeLine then .ok (.lst ps) else .stuck
def eD (g : List PV → R PV) (f : Rho → R (List PV)) : Rho → R PV := fun ρ => (f ρ).bind g
theorem new_tup {K : PySem.W.Frag} {H0 H H1 : Hp} {O0 : Addr → Prop} {σ : St} {ρ : Rho} (S : StR K H0 O0 H1 σ ρ) {vs : List V} {ps : List PV} (r : Reps K H1 (OO O0 σ ρ) vs ps) {p : Addr} (hp : H1 p = none) : Rep K (upd H1 p (.tup vs)) (OO O0 σ ρ) (.ref p) (.tup ps) :=
  .tup (.inl ⟨upd_same, fun z => S.there z hp⟩) (r.same (same_new hp))
theorem new_lst {K : PySem.W.Frag} {H0 H H1 : Hp} {O0 : Addr → Prop} {σ : St} {ρ : Rho} (s : Same H H1) {vs : List V} {ps : List PV} (r : Reps K H1 (OO O0 σ ρ) vs ps) {p : Addr} (hp : H1 p = none) : RepM K O0 σ ρ .f H (upd H1 p (.lst vs)) (.ref p) (.lst ps) :=
  ⟨p, vs, ps, rfl, rfl, s.free hp, upd_same, r.mono fun b o hb nb => ⟨same_new hp b o hb, fun z => z.elim nb fun z => by rw [z, hp] at hb; cases hb⟩⟩
theorem e_tup {k : Nat} (h : AJ X W .s es fA) : EJ X W .s (.Tuple es k pos) (eD tupP fA) := by
  refine pe_imp (pe_tup h) fun σ H Q ⟨H0, O0, ρ, S, G⟩ => ⟨H0, O0, ρ, S, ?_⟩
  revert G
  unfold eD
  cases fA ρ with
  | stuck => exact False.elim
  | exc c => exact id
  | ok ps =>
    intro G vs H1 s1 r1
    have rr := reps_of r1
    revert G
    rw [R.bind_ok]
    unfold tupP
    split
    · rename_i hz
      exact fun G => ⟨by rw [rr.length]; exact hz, fun p hp => G _ _ (s1.trans (same_new hp)) (new_tup (H := H) (S.step s1) rr hp)⟩
    · exact False.elim
theorem e_lst (h : AJ X W .s es fA) : EJ X W .f (.List es pos) (eD lstP fA) := by
  refine pe_imp (pe_lst h) fun σ H Q ⟨H0, O0, ρ, S, G⟩ => ⟨H0, O0, ρ, S, ?_⟩
  revert G
  unfold eD
  cases fA ρ with
  | stuck => exact False.elim
  | exc c => exact id
  | ok ps =>
    intro G vs H1 s1 r1
    have rr := reps_of r1
    revert G
    rw [R.bind_ok]
    unfold lstP
    split
    · rename_i hz
      exact fun G => ⟨by rw [rr.length]; exact hz, fun p hp => G _ _ (s1.trans (same_new hp)) (new_lst (H0 := H0) s1 rr hp)⟩
    · exact False.elim
theorem e_callB {x : Str} {p : Pos} {id : String} {r : List V → Hp → VK → Prop} {g' : List PV → R PV} (hc : CallR X (.builtin id) r) (hgn : ∀ ps c, g' ps ≠ .exc c) (ho : CallS X.K r m1 m g') (hg : Gl X x) (hm : X.mg x = none) (hv : bootBuiltins x = some (.builtin id)) (ha : AJ X W m1 (e :: es) fA) (hn : x ≠ "__name__" := by decide) (hdb : (x == ("__debug__" : Str)) = false := by decide)
    (he : starEach (e :: es) X.env = (false, eval e X.env) :: starEach es X.env := by rfl) (hpl : (backTo pos (starEach es X.env)).any (·.1) = false := by rfl) : EJ X W m (.Call (.Name x p) (e :: es) [] pos) (eD g' fA) := by
  refine pe_imp (pe_callB hc hg hm hv ha hn hdb he hpl) fun σ H Q ⟨H0, O0, ρ, S, G⟩ => ⟨H0, O0, ρ, S, ?_⟩
  revert G
  unfold eD
  cases fA ρ with
  | stuck => exact False.elim
  | exc c => exact fun G => G
  | ok ps => exact fun G vs H1 s1 r1 => ho S s1 r1 (Got.v (hgn ps) s1 G)
def RepR (K : PySem.W.Frag) (O : Addr → Prop) : Bool → Hp → Hp → V → PV → Prop
  | false, _, H', v, p => Rep K H' O v p
  | true, H, H', v, p => ∃ a vs ps, v = .ref a ∧ p = .lst ps ∧ H a = none ∧ H' a = some (.lst vs) ∧ Reps K H' (fun b => O b ∨ b = a) vs ps
/-- the def's promise: n arguments; the function of their values; whether what it hands back is a new list -/
def spF (K : PySem.W.Frag) (mg : Str → Option Value) (n : Nat) (nw : Bool) (F : List PV → R PV) : Sp := fun vs H Q E =>
  ∃ ps O, (∀ a, O a → H a ≠ none) ∧ Reps K H O vs ps ∧ vs.length = n ∧ (match F ps with
    | .ok p => ∀ v H', Same H H' → RepR K O nw H H' v p → Q v H'
    | .exc c => ∀ C H', Same H H' → mg c = some (.ref C) → E (.ref C) none H'
    | .stuck => False)
def mdR : Bool → Md | false => .s | true => .f
theorem e_call {x : Str} {p : Pos} {k : Nat} {fa : Addr} {fd : FuncData} {pn : List Str} {n : Nat} {nw : Bool} {F : List PV → R PV} {dvs : List V} {dps : List PV} {ds : List Value} (Fo : FnOk X.prog X.w X.K X.mg X.base (L2N.CX X.prog X.w) k fa fd pn (spF X.K X.mg n nw F)) (hr : Room k X.A) (hg : Gl X x) (hm : X.mg x = some (.ref fa))
    (hk : PySem.W.keepIn X.K (.ref fa) = true) (hb : L2.Binds X.K fd pn ds) (hd : Vals dvs ds) (hdp : ∀ H O, Reps X.K H O dvs dps) (tk : L2N.Takes X W) (ha : AJ X W .s (e :: es) fA) (hlen : n = es.length + 1 + dvs.length := by rfl) (hal : ∀ ρ ps, fA ρ = .ok ps → ps.length = es.length + 1) (hdb : (x == ("__debug__" : Str)) = false := by decide)
    (he : starEach (e :: es) X.env = (false, eval e X.env) :: starEach es X.env := by rfl) (hpl : (backTo pos (starEach es X.env)).any (·.1) = false := by rfl) : EJ X W (mdR nw) (.Call (.Name x p) (e :: es) [] pos) (eD (fun ps => F (ps ++ dps)) fA) := by
  refine pe_imp (pe_callSD (E := fun σ cls d H => W cls d σ H) Fo hr hg hm hk hb hd (fun σ => L2N.passAt tk σ) ha hdb he hpl) fun σ H Q ⟨H0, O0, ρ, S, G⟩ => ⟨H0, O0, ρ, S, ?_⟩
  revert G
  unfold eD
  cases hA : fA ρ with
  | stuck => exact False.elim
  | exc c => exact id
  | ok ps =>
    intro G vs H1 s1 r1
    have rr := reps_of r1
    refine ⟨ps ++ dps, OO O0 σ ρ, fun a z => (S.step s1).there z, rr.append (hdp _ _), ?_, ?_⟩
    · rw [List.length_append, rr.length, hal ρ ps hA, hlen]
    · revert G
      rw [R.bind_ok]
      cases F (ps ++ dps) with
      | stuck => exact id
      | exc c => exact fun G C H' s' e => G C H' (s1.trans s') e
      | ok p =>
        intro G v H' s' r'
        refine G v H' (s1.trans s') ?_
        cases nw with
        | false => exact r'
        | true =>
          obtain ⟨a, vs', ps', q1, q2, q3, q4, q5⟩ := r'
          exact ⟨a, vs', ps', q1, q2, s1.free q3, q4, q5⟩
end
end PL
set_option Elab.async false
set_option linter.all false
set_option maxRecDepth 100000
set_option autoImplicit false
namespace PL
open PySem PySem.Spec L2
open PyProof.Rows hiding St
section
variable {K : PySem.W.Frag} {H0 H H1 H2 : Hp} {O0 : Addr → Prop} {σ : St} {ρ : Rho} {x : V} {p : PV}
theorem rt_int {i : Int} (r : RepM K O0 σ ρ .t H H2 x (.int i)) : x = .int i := by
  rcases r with r | ⟨_, _, _, _, e, _⟩
  · cases r; rfl
  · cases e
theorem rt_str {i : Str} (r : RepM K O0 σ ρ .t H H2 x (.str i)) : x = .str i := by
  rcases r with r | ⟨_, _, _, _, e, _⟩
  · cases r; rfl
  · cases e
theorem rt_lst {l : List PV} (r : RepM K O0 σ ρ .t H H2 x (.lst l)) : ∃ a vs, x = .ref a ∧ H2 a = some (.lst vs) ∧ Reps K H2 (OO O0 σ ρ) vs l := by
  rcases r with r | ⟨a, vs, ps, e1, e2, e3, e4⟩
  · cases r with
    | lst h _ r => exact ⟨_, _, rfl, h, r⟩
  · cases e2; exact ⟨a, vs, e1, e3, e4⟩
theorem sqT_of {O : Addr → Prop} {a : Addr} {xs : List V} (h : H a = some (.tup xs) ∧ ¬ O a ∨ KT K a xs) : SqT K H a xs := by
  rcases h with ⟨h, _⟩ | h
  · exact .inl (.inl h)
  · exact .inr h
theorem rt_tup {l : List PV} (r : RepM K O0 σ ρ .t H H2 x (.tup l)) : ∃ a vs, x = .ref a ∧ (H2 a = some (.tup vs) ∧ ¬ OO O0 σ ρ a ∨ KT K a vs) ∧ Reps K H2 (OO O0 σ ρ) vs l := by
  rcases r with r | ⟨a, vs, ps, e1, e2, e3, e4⟩
  · cases r with
    | tup h r => exact ⟨_, _, rfl, h, r⟩
  · cases e2
theorem rt_frz {l : List PV} (r : RepM K O0 σ ρ .t H H2 x (.frz l)) : ∃ (a : Addr) (ns : List Int), x = .ref a ∧ l = ns.map PV.int ∧ SqL K H2 a (ns.map V.int) := by
  rcases r with r | ⟨a, vs, ps, e1, e2, e3, e4⟩
  · generalize hl : PV.frz l = q at r
    cases r with
    | frz h =>
      cases hl
      refine ⟨_, _, rfl, rfl, ?_⟩
      rcases h with ⟨⟨o, h⟩, _⟩ | h
      · exact .inl (.inr ⟨o, h⟩)
      · exact h _
    | _ => cases hl
  · cases e2
end
def addP : PV → PV → R PV
  | .int a, .int b => .ok (.int (a + b))
  | .str a, .str b => if a.length + b.length ≤ sizeLine then .ok (.str (a ++ b)) else .stuck
  | .tup a, .tup b => if a.length + b.length ≤ sizeLine then .ok (.tup (a ++ b)) else .stuck
  | .lst a, .lst b => if a.length + b.length ≤ sizeLine then .ok (.lst (a ++ b)) else .stuck
  | _, _ => .stuck
theorem addP_exc (p q : PV) (c : Str) : addP p q ≠ .exc c := by
  unfold addP; split <;> (try split) <;> exact fun z => nomatch z
def rAddP (K : PySem.W.Frag) : R2 := fun x y H Q => rI0 (fun i j => .int (i + j)) x y H Q ∨ (∃ i j, x = .str i ∧ y = .str j ∧ i.length + j.length ≤ sizeLine ∧ Q (.str (i ++ j)) H) ∨ rCatA K x y H Q ∨ rCat x y H Q
theorem op_addP {X : Cx} : OpR X (binaryOp .Add) (rAddP X.K) := op_add.or (op_add_str.or (op_catA.or op_cat))
theorem cat_s {K : PySem.W.Frag} {H0 H H2 : Hp} {O0 : Addr → Prop} {σ : St} {ρ : Rho} {x y : V} {a b : List PV} {Q : VK} (S : StR K H0 O0 H σ ρ) (s : Same H H2) (rx : RepM K O0 σ ρ .t H H2 x (.lst a)) (ry : RepM K O0 σ ρ .t H H2 y (.lst b))
    (hz : a.length + b.length ≤ sizeLine) (G : ∀ v H', Same H2 H' → RepM K O0 σ ρ .f H H' v (.lst (a ++ b)) → Q v H') : rCat x y H2 Q := by
  obtain ⟨c, vs, rfl, h1, r1⟩ := rt_lst rx
  obtain ⟨d, ws, rfl, h2, r2⟩ := rt_lst ry
  exact ⟨c, d, vs, ws, rfl, rfl, h1, h2, by rw [r1.length, r2.length]; exact hz, fun l hl => G _ _ (same_new hl) (new_lst (H0 := H0) s (r1.append r2) hl)⟩
theorem s_addP (K : PySem.W.Frag) : OpS K (rAddP K) .t .t .s addP := by
  intro H0 O0 σ ρ H H2 x y p q Q S s rx ry G
  unfold addP at G
  split at G
  · rw [rt_int rx, rt_int ry]; exact .inl ⟨_, _, rfl, rfl, G _ _ (Same.refl _) (.int _)⟩
  · split at G
    · rename_i hz
      rw [rt_str rx, rt_str ry]; exact .inr (.inl ⟨_, _, rfl, rfl, hz, G _ _ (Same.refl _) (.str _)⟩)
    · exact G.elim
  · split at G
    · rename_i hz
      obtain ⟨c, vs, rfl, h1, r1⟩ := rt_tup rx
      obtain ⟨d, ws, rfl, h2, r2⟩ := rt_tup ry
      refine .inr (.inr (.inl ⟨c, d, vs, ws, rfl, rfl, sqT_of h1, sqT_of h2, by rw [r1.length, r2.length]; exact hz, fun e => ?_, fun _ e => ?_, fun _ _ l hl => ?_⟩))
      · subst e
        cases r1
        exact G _ _ (Same.refl _) (.tup h2 r2)
      · subst e
        cases r2
        rw [List.append_nil] at G
        exact G _ _ (Same.refl _) (.tup h1 r1)
      · exact G _ _ (same_new hl) (new_tup (H := H) (S.step s) (r1.append r2) hl)
    · exact G.elim
  · split at G
    · rename_i hz
      exact .inr (.inr (.inr (cat_s S s rx ry hz fun v H' s' r' => G v H' s' (RepM.f_s S r'))))
    · exact G.elim
  · exact G.elim
/-- an operation of two ints -/
def intP (c : Int → Int → Bool) (g : Int → Int → PV) : PV → PV → R PV
  | .int a, .int b => if c a b = true then .ok (g a b) else .stuck
  | _, _ => .stuck
theorem intP_exc {c : Int → Int → Bool} {g : Int → Int → PV} (p q : PV) (k : Str) : intP c g p q ≠ .exc k := by
  unfold intP; split <;> (try split) <;> exact fun z => nomatch z
theorem s_int {K : PySem.W.Frag} {C : Int → Int → Prop} {c : Int → Int → Bool} {gv : Int → Int → V} {g : Int → Int → PV} (hc : ∀ a b, c a b = true → C a b) (hr : ∀ H O a b, Rep K H O (gv a b) (g a b)) : OpS K (rI C gv) .t .t .s (intP c g) := by
  intro H0 O0 σ ρ H H2 x y p q Q S s rx ry G
  unfold intP at G
  split at G
  · split at G
    · rename_i hz
      rw [rt_int rx, rt_int ry]; exact ⟨_, _, rfl, rfl, hc _ _ hz, G _ _ (Same.refl _) (hr _ _ _ _)⟩
    · exact G.elim
  · exact G.elim
theorem s_int0 {K : PySem.W.Frag} {gv : Int → Int → V} {g : Int → Int → PV} (hr : ∀ H O a b, Rep K H O (gv a b) (g a b)) : OpS K (rI0 gv) .t .t .s (intP (fun _ _ => true) g) := by
  intro H0 O0 σ ρ H H2 x y p q Q S s rx ry G
  unfold intP at G
  split at G
  · rw [if_pos rfl] at G
    rw [rt_int rx, rt_int ry]; exact ⟨_, _, rfl, rfl, G _ _ (Same.refl _) (hr _ _ _ _)⟩
  · exact G.elim
abbrev subP := intP (fun _ _ => true) fun a b => .int (a - b)
abbrev okMul (a b : Int) : Bool := decide (a.natAbs.log2 + b.natAbs.log2 < 1000000)
abbrev mulP := intP okMul fun a b => .int (a * b)
abbrev okDiv (_ b : Int) : Bool := decide (b ≠ 0) && decide (b.natAbs.log2 < 9000)
abbrev fdivP := intP okDiv fun a b => .int (a.fdiv b)
abbrev modP := intP (fun _ b => decide (b ≠ 0)) fun a b => .int (a.fmod b)
abbrev okPow (a b : Int) : Bool := decide (0 ≤ b) && decide (b ≤ 1000000) && decide (a.natAbs < 2 ^ 64)
abbrev powP := intP okPow fun a b => .int (a ^ b.toNat)
abbrev ltP := intP (fun _ _ => true) fun a b => .bl (decide (a < b))
abbrev leP := intP (fun _ _ => true) fun a b => .bl (decide (a ≤ b))
abbrev gtP := intP (fun _ _ => true) fun a b => .bl (decide (b < a))
abbrev geP := intP (fun _ _ => true) fun a b => .bl (decide (b ≤ a))
def CDivA (i j : Int) : Prop := j ≠ 0 ∧ j.natAbs.log2 < 9000
theorem op_fdivA {X : Cx} : OpR X (binaryOp .FloorDiv) (rI CDivA fun i j => .int (i.fdiv j)) := opI fun i j _ _ _ _ _ hc q => floordiv_int hc.1 q (.inl (PyProof.noPylong_of_log2 hc.2))
theorem okDiv_C (a b : Int) (h : okDiv a b = true) : CDivA a b := by
  rw [Bool.and_eq_true, decide_eq_true_eq, decide_eq_true_eq] at h; exact h
theorem okPow_C (a b : Int) (h : okPow a b = true) : CPow a b := by
  rw [Bool.and_eq_true, Bool.and_eq_true, decide_eq_true_eq, decide_eq_true_eq, decide_eq_true_eq] at h; exact ⟨h.1.1, h.1.2, h.2⟩
section
variable {X : Cx} {W : WX} {e a b c : Expr} {pos : Pos} {m : Md} {f g h : Rho → R PV}
theorem e_add (ha : EJ X W .t a f) (hb : EJ X W .t b g) : EJ X W .s (.BinOp a .Add b pos) (e2 addP f g) := e_op op_addP addP_exc (s_addP _) ha hb
theorem e_sub (ha : EJ X W .t a f) (hb : EJ X W .t b g) : EJ X W .s (.BinOp a .Sub b pos) (e2 subP f g) := e_op op_sub intP_exc (s_int0 fun _ _ _ _ => .int _) ha hb
theorem e_mul (ha : EJ X W .t a f) (hb : EJ X W .t b g) : EJ X W .s (.BinOp a .Mult b pos) (e2 mulP f g) := e_op op_mulW intP_exc (s_int (fun _ _ h => of_decide_eq_true h) fun _ _ _ _ => .int _) ha hb
theorem e_fdiv (ha : EJ X W .t a f) (hb : EJ X W .t b g) : EJ X W .s (.BinOp a .FloorDiv b pos) (e2 fdivP f g) := e_op op_fdivA intP_exc (s_int okDiv_C fun _ _ _ _ => .int _) ha hb
theorem e_mod (ha : EJ X W .t a f) (hb : EJ X W .t b g) : EJ X W .s (.BinOp a .Mod b pos) (e2 modP f g) := e_op op_modN intP_exc (s_int (fun _ _ h => of_decide_eq_true h) fun _ _ _ _ => .int _) ha hb
theorem e_pow (ha : EJ X W .t a f) (hb : EJ X W .t b g) : EJ X W .s (.BinOp a .Pow b pos) (e2 powP f g) := e_op op_pow intP_exc (s_int okPow_C fun _ _ _ _ => .int _) ha hb
theorem e_gt (ha : EJ X W .t a f) (hb : EJ X W .t b g) : EJ X W .s (.Compare a [.Gt] [b] pos) (e2 gtP f g) := e_cmp op_gt intP_exc (s_int0 fun _ _ _ _ => .bl _) ha hb (nomark _)
theorem t_lt (ha : EJ X W .t a f) (hb : EJ X W .t b g) : TJ X W (.Compare a [.Lt] [b] pos) (tB1 (e2 ltP f g)) := t_cmp op_lt intP_exc (s_int0 fun _ _ _ _ => .bl _) ha hb (nomark _)
theorem t_gt (ha : EJ X W .t a f) (hb : EJ X W .t b g) : TJ X W (.Compare a [.Gt] [b] pos) (tB1 (e2 gtP f g)) := t_cmp op_gt intP_exc (s_int0 fun _ _ _ _ => .bl _) ha hb (nomark _)
def negP : PV → R PV
  | .int a => .ok (.int (-a))
  | _ => .stuck
theorem e_neg (ha : EJ X W .t a f) : EJ X W .s (.UnaryOp .USub a pos) (e1 negP f) := by
  refine e_un un_neg (fun p c => ?_) ?_ ha
  · unfold negP; split <;> exact fun z => nomatch z
  · intro H0 O0 σ ρ H H2 x p Q S s rx G
    unfold negP at G
    split at G
    · rw [rt_int rx]; exact ⟨_, rfl, G _ _ (Same.refl _) (.int _)⟩
    · exact G.elim
end
mutual
def toD : PV → PyData
  | .non => .none
  | .bl b => .bool b
  | .int i => .int i
  | .str s => .str s
  | .tup l => .tuple (toDs l)
  | .lst l => .list (toDs l)
  | .frz l => .list (toDs l)
  | .dct => .dict []
def toDs : List PV → List PyData
  | [] => []
  | p :: ps => toD p :: toDs ps
end
mutual
def eqV' : PV → PV → Bool
  | .non, .non => true
  | .bl a, .bl b => a == b
  | .bl a, .int j => (if a then 1 else 0) == j
  | .int i, .bl b => i == (if b then 1 else 0)
  | .int i, .int j => i == j
  | .str x, .str y => x == y
  | .lst xs, .lst ys => eqVs xs ys
  | .lst xs, .frz ys => eqVs xs ys
  | .frz xs, .lst ys => eqVs xs ys
  | .frz xs, .frz ys => eqVs xs ys
  | .tup xs, .tup ys => eqVs xs ys
  | _, _ => false
def eqVs : List PV → List PV → Bool
  | [], [] => true
  | x :: xs, y :: ys => eqV' x y && eqVs xs ys
  | _, _ => false
end
/-- data that may be compared, by how deep it is -/
def okD : Nat → PV → Bool
  | _, .non => true
  | _, .bl _ => true
  | _, .int _ => true
  | _, .str s => PySem.PyData.strOk s
  | n + 1, .tup l => l.all (okD n)
  | n + 1, .lst l => l.all (okD n)
  | n + 1, .frz l => l.all (okD n)
  | _, _ => false
def eqP (p q : PV) : R PV := if (okD 30 p && okD 30 q) = true then .ok (.bl (eqV' p q)) else .stuck
def neP (p q : PV) : R PV := if (okD 30 p && okD 30 q) = true then .ok (.bl (!eqV' p q)) else .stuck
mutual
theorem eqv_toD : ∀ p q : PV, PyData.eqv (toD p) (toD q) = eqV' p q
  | .lst a, .lst b | .lst a, .frz b | .frz a, .lst b | .frz a, .frz b | .tup a, .tup b => by simp only [toD, PyData.eqv, eqV', eqv_toDs a b]
  | .non, q | .bl _, q | .int _, q | .str _, q | .dct, q => by cases q <;> simp only [toD, PyData.eqv, eqV']
  | .lst a, .non | .lst a, .bl _ | .lst a, .int _ | .lst a, .str _ | .lst a, .tup _ | .lst a, .dct => by simp only [toD, PyData.eqv, eqV']
  | .frz a, .non | .frz a, .bl _ | .frz a, .int _ | .frz a, .str _ | .frz a, .tup _ | .frz a, .dct => by simp only [toD, PyData.eqv, eqV']
  | .tup a, .non | .tup a, .bl _ | .tup a, .int _ | .tup a, .str _ | .tup a, .lst _ | .tup a, .frz _ | .tup a, .dct => by simp only [toD, PyData.eqv, eqV']
theorem eqv_toDs : ∀ p q : List PV, PyData.eqvAll (toDs p) (toDs q) = eqVs p q
  | [], [] => by simp only [toDs, PyData.eqvAll, eqVs]
  | x :: xs, y :: ys => by simp only [toDs, PyData.eqvAll, eqVs, eqv_toD x y, eqv_toDs xs ys]
  | [], _ :: _ => by simp only [toDs, PyData.eqvAll, eqVs]
  | _ :: _, [] => by simp only [toDs, PyData.eqvAll, eqVs]
end
mutual
theorem okD_lay : ∀ (n : Nat) (p : PV), okD n p = true → (toD p).canLay0 = true ∧ (toD p).depth ≤ n
  | n, .non, _ => ⟨rfl, Nat.zero_le _⟩
  | n, .bl _, _ => ⟨rfl, Nat.zero_le _⟩
  | n, .int _, _ => ⟨rfl, Nat.zero_le _⟩
  | n, .str s, h => ⟨by simpa only [toD, PyData.canLay0, okD] using h, Nat.zero_le _⟩
  | n, .dct, h => by simp [okD] at h
  | 0, .tup l, h => by simp [okD] at h
  | 0, .lst l, h => by simp [okD] at h
  | 0, .frz l, h => by simp [okD] at h
  | n + 1, .tup l, h => by
    have z := okDs_lay n l (by simpa only [okD] using h)
    simp only [toD, PyData.canLay0, PyData.depth]
    exact ⟨z.1, by omega⟩
  | n + 1, .lst l, h => by
    have z := okDs_lay n l (by simpa only [okD] using h)
    simp only [toD, PyData.canLay0, PyData.depth]
    exact ⟨z.1, by omega⟩
  | n + 1, .frz l, h => by
    have z := okDs_lay n l (by simpa only [okD] using h)
    simp only [toD, PyData.canLay0, PyData.depth]
    exact ⟨z.1, by omega⟩
theorem okDs_lay : ∀ (n : Nat) (l : List PV), l.all (okD n) = true → PyData.canLayAll0 (toDs l) = true ∧ PyData.depthAll (toDs l) ≤ n
  | n, [], _ => ⟨rfl, Nat.zero_le _⟩
  | n, p :: ps, h => by
    rw [List.all_cons, Bool.and_eq_true] at h
    have z1 := okD_lay n p h.1
    have z2 := okDs_lay n ps h.2
    simp only [toDs, PyData.canLayAll0, PyData.depthAll, z1.1, z2.1]
    exact ⟨rfl, Nat.max_le.mpr ⟨z1.2, z2.2⟩⟩
end
theorem okD_shaped {p : PV} (h : okD 30 p = true) : SeqAt.shaped (toD p) = true := by
  have z := okD_lay 30 p h
  unfold SeqAt.shaped
  rw [z.1, decide_eq_true (show (toD p).depth ≤ 64 by omega)] <;> rfl
theorem dpAll_ints {K : PySem.W.Frag} {H : Hp} : ∀ ns : List Int, DpAll K H (ns.map V.int) (toDs (ns.map PV.int))
  | [] => by simp only [List.map_nil, toDs]; exact .nil
  | n :: ns => by simp only [List.map_cons, toDs, toD]; exact .cons (.int n) (dpAll_ints ns)
mutual
theorem rep_dp {K : PySem.W.Frag} {H : Hp} {O : Addr → Prop} : ∀ {v : V} {p : PV} (n : Nat), Rep K H O v p → okD n p = true → Dp K H v (toD p)
  | _, _, _, .non, _ => by simp only [toD]; exact .non
  | _, _, _, .bl b, _ => by simp only [toD]; exact .bl b
  | _, _, _, .int i, _ => by simp only [toD]; exact .int i
  | _, _, _, .str s, _ => by simp only [toD]; exact .str s
  | _, _, 0, .lst _ _ _, h => by simp [okD] at h
  | _, _, n + 1, .lst h1 _ r, h => by simp only [toD]; exact .lst (.inl (.inl h1)) (reps_dp n r (by simpa only [okD] using h))
  | _, _, 0, .tup _ _, h => by simp [okD] at h
  | _, _, n + 1, .tup h1 r, h => by simp only [toD]; exact .tup (sqT_of h1) (reps_dp n r (by simpa only [okD] using h))
  | _, _, _, .frz h1, h => by
    simp only [toD]
    refine .lst ?_ (dpAll_ints _)
    rcases h1 with ⟨⟨o, h1⟩, _⟩ | h1
    · exact .inl (.inr ⟨o, h1⟩)
    · exact h1 _
  | _, _, n, .dct _ _, h => by simp [okD] at h
theorem reps_dp {K : PySem.W.Frag} {H : Hp} {O : Addr → Prop} : ∀ {v : List V} {p : List PV} (n : Nat), Reps K H O v p → p.all (okD n) = true → DpAll K H v (toDs p)
  | _, _, _, .nil, _ => by simp only [toDs]; exact .nil
  | _, _, n, .cons h r, hz => by
    rw [List.all_cons, Bool.and_eq_true] at hz
    simp only [toDs]
    exact .cons (rep_dp n h hz.1) (reps_dp n r hz.2)
end
theorem rt_dp {K : PySem.W.Frag} {H H2 : Hp} {O0 : Addr → Prop} {σ : St} {ρ : Rho} {x : V} {p : PV} (r : RepM K O0 σ ρ .t H H2 x p) (h : okD 30 p = true) : Dp K H2 x (toD p) := by
  rcases r with r | ⟨a, vs, ps, rfl, rfl, e3, e4⟩
  · exact rep_dp 30 r h
  · simp only [toD]; exact .lst (.inl (.inl e3)) (reps_dp 29 e4 (by simpa only [okD] using h))
theorem eqP_exc (p q : PV) (c : Str) : eqP p q ≠ .exc c := by unfold eqP; split <;> exact fun z => nomatch z
theorem neP_exc (p q : PV) (c : Str) : neP p q ≠ .exc c := by unfold neP; split <;> exact fun z => nomatch z
theorem s_eq (K : PySem.W.Frag) : OpS K (rEqD K) .t .t .s eqP := by
  intro H0 O0 σ ρ H H2 x y p q Q S s rx ry G
  unfold eqP at G
  split at G
  · rename_i hz
    rw [Bool.and_eq_true] at hz
    exact ⟨_, _, rt_dp rx hz.1, rt_dp ry hz.2, okD_shaped hz.1, okD_shaped hz.2, by rw [eqv_toD]; exact G _ _ (Same.refl _) (.bl _)⟩
  · exact G.elim
theorem s_ne (K : PySem.W.Frag) : OpS K (rNeD K) .t .t .s neP := by
  intro H0 O0 σ ρ H H2 x y p q Q S s rx ry G
  unfold neP at G
  split at G
  · rename_i hz
    rw [Bool.and_eq_true] at hz
    exact ⟨_, _, rt_dp rx hz.1, rt_dp ry hz.2, okD_shaped hz.1, okD_shaped hz.2, by rw [eqv_toD]; exact G _ _ (Same.refl _) (.bl _)⟩
  · exact G.elim
section
variable {X : Cx} {W : WX} {e a b c : Expr} {pos : Pos} {m : Md} {f g h : Rho → R PV}
theorem e_eq (hu : X.A.units + 64 < cLine) (ha : EJ X W .t a f) (hb : EJ X W .t b g) : EJ X W .s (.Compare a [.Eq] [b] pos) (e2 eqP f g) := e_cmp (op_eqD hu) eqP_exc (s_eq _) ha hb (nomark _)
theorem t_eq (hu : X.A.units + 64 < cLine) (ha : EJ X W .t a f) (hb : EJ X W .t b g) : TJ X W (.Compare a [.Eq] [b] pos) (tB1 (e2 eqP f g)) := t_cmp (op_eqD hu) eqP_exc (s_eq _) ha hb (nomark _)
theorem t_ne (hu : X.A.units + 64 < cLine) (ha : EJ X W .t a f) (hb : EJ X W .t b g) : TJ X W (.Compare a [.NotEq] [b] pos) (tB1 (e2 neP f g)) := t_cmp (op_neD hu) neP_exc (s_ne _) ha hb (nomark _)
def eChain (g1 g2 : PV → PV → R PV) (f g h : Rho → R PV) : Rho → R PV := fun ρ => (f ρ).bind fun x => (g ρ).bind fun y => (g1 x y).bind fun z => (asB z).bind fun k => if k = true then (h ρ).bind fun w => g2 y w else .ok (.bl false)
end
end PL
set_option Elab.async false
set_option linter.all false
set_option maxRecDepth 100000
set_option autoImplicit false
namespace PL
open PySem PySem.Spec L2
open PyProof.Rows hiding St
def ixP : PV → PV → R PV
  | .lst l, .int i | .tup l, .int i | .frz l, .int i => match atI l i with
    | some p => .ok p
    | none => .stuck
  | .str s, .int i => if s.length ≤ sizeLine then (match atI s.cps.toList i with
    | some c => .ok (.str ⟨#[c]⟩)
    | none => .stuck) else .stuck
  | _, _ => .stuck
theorem ixP_exc (p q : PV) (c : Str) : ixP p q ≠ .exc c := by
  unfold ixP; split <;> (try split) <;> (try split) <;> exact fun z => nomatch z
theorem reps_at {K : PySem.W.Frag} {H : Hp} {O : Addr → Prop} {vs : List V} {ps : List PV} {i : Int} {p : PV} (r : Reps K H O vs ps) (h : atI ps i = some p) : ∃ v, atI vs i = some v ∧ Rep K H O v p := by
  unfold atI at h ⊢
  rw [r.length]
  cases q : ixN ps.length i with
  | none => rw [q] at h; cases h
  | some j =>
    rw [q, Option.bind_some] at h
    rw [Option.bind_some]
    exact r.get h
theorem s_ix (K : PySem.W.Frag) : OpS K (rIx K) .t .t .s ixP := by
  intro H0 O0 σ ρ H H2 x y p q Q S s rx ry G
  unfold ixP at G
  split at G
  · split at G
    · rename_i p hp
      obtain ⟨a, vs, rfl, h1, r1⟩ := rt_lst rx
      obtain ⟨v, h2, r2⟩ := reps_at r1 hp
      exact .inl ⟨a, vs, _, v, rfl, rt_int ry, .inl (.inl h1), h2, G _ _ (Same.refl _) r2⟩
    · exact G.elim
  · split at G
    · rename_i p hp
      obtain ⟨a, vs, rfl, h1, r1⟩ := rt_tup rx
      obtain ⟨v, h2, r2⟩ := reps_at r1 hp
      exact .inr (.inl ⟨a, vs, _, v, rfl, rt_int ry, sqT_of h1, h2, G _ _ (Same.refl _) r2⟩)
    · exact G.elim
  · split at G
    · rename_i p hp
      obtain ⟨a, ns, rfl, rfl, h1⟩ := rt_frz rx
      obtain ⟨v, h2, r2⟩ := reps_at (K := K) (H := H2) (O := OO O0 σ ρ) (Reps.ofInts ns) hp
      exact .inl ⟨a, _, _, v, rfl, rt_int ry, h1, h2, G _ _ (Same.refl _) r2⟩
    · exact G.elim
  · split at G
    · rename_i hz
      split at G
      · rename_i c hc
        exact .inr (.inr ⟨_, _, c, rt_str rx, rt_int ry, hz, hc, G _ _ (Same.refl _) (.str _)⟩)
      · exact G.elim
    · exact G.elim
  · exact G.elim
def cutG {α : Type} (xs : List α) (lo hi : Option Int) : List α := (xs.drop (HT.sIx xs.length 0 lo)).take (HT.sIx xs.length xs.length hi - HT.sIx xs.length 0 lo)
def slP (p : PV) (lo hi : Option Int) : R PV := match p with
  | .lst l | .frz l => .ok (.lst (cutG l lo hi))
  | .tup l => .ok (.tup (cutG l lo hi))
  | .str s => if s.length ≤ sizeLine then .ok (.str (cutS s lo hi)) else .stuck
  | _ => .stuck
def slL (p : PV) (lo hi : Option Int) : R PV := match p with
  | .lst l | .frz l => .ok (.lst (cutG l lo hi))
  | _ => .stuck
def asI : PV → R Int
  | .int i => .ok i
  | _ => .stuck
def oNone : Rho → R (Option Int) := fun _ => .ok none
def oSome (f : Rho → R PV) : Rho → R (Option Int) := fun ρ => (f ρ).bind fun p => (asI p).bind fun i => .ok (some i)
def eSl (g : PV → Option Int → Option Int → R PV) (f : Rho → R PV) (lo hi : Rho → R (Option Int)) : Rho → R PV := fun ρ => (f ρ).bind fun p => (lo ρ).bind fun l => (hi ρ).bind fun h => g p l h
section
variable {X : Cx} {W : WX} {e a b c : Expr} {pos p2 : Pos} {m : Md} {f g h : Rho → R PV} {lo hi : Option Expr} {fl fh : Rho → R (Option Int)}
theorem e_item (ha : EJ X W .t a f) (hb : EJ X W .t b g) (hs : PlainIx b) : EJ X W .s (.Subscript a b pos) (e2 ixP f g) := e_ix ix_seq ixP_exc (s_ix _) ha hb hs
end
def lenP : List PV → R PV
  | [.lst l] | [.tup l] | [.frz l] => .ok (.int l.length)
  | [.str s] => if s.length ≤ sizeLine then .ok (.int s.length) else .stuck
  | _ => .stuck
def absP : List PV → R PV
  | [.int i] => .ok (.int (if i < 0 then -i else i))
  | _ => .stuck
def listP : List PV → R PV
  | [.lst l] | [.tup l] | [.frz l] => .ok (.lst l)
  | _ => .stuck
def tupleP : List PV → R PV
  | [.lst l] | [.tup l] | [.frz l] => .ok (.tup l)
  | _ => .stuck
def asBs : List PV → Option (List Bool)
  | [] => some []
  | .bl b :: r => (asBs r).map (b :: ·)
  | _ => none
def anyP : List PV → R PV
  | [.lst l] => match asBs l with
    | some bs => .ok (.bl (bs.any id))
    | none => .stuck
  | _ => .stuck
theorem asBs_map : ∀ {l : List PV} {bs : List Bool}, asBs l = some bs → l = bs.map PV.bl
  | [], _, h => by cases h; rfl
  | .bl b :: r, bs, h => by
    unfold asBs at h
    obtain ⟨cs, h1, rfl⟩ := Option.map_eq_some_iff.mp h
    rw [asBs_map h1]; rfl
  | .non :: _, _, h | .int _ :: _, _, h | .str _ :: _, _, h | .tup _ :: _, _, h | .lst _ :: _, _, h | .frz _ :: _, _, h | .dct :: _, _, h => by simp [asBs] at h
theorem asBs_of : ∀ bs : List Bool, asBs (bs.map PV.bl) = some bs
  | [] => rfl
  | b :: bs => by simp [asBs, asBs_of bs]
section
variable {X : Cx} {W : WX}
theorem pr1 {F : V → PV → Prop} {vs : List V} {p : PV} (h : Paired F vs [p]) : ∃ v, vs = [v] ∧ F v p := by
  cases h with
  | cons a r => cases r; exact ⟨_, rfl, a⟩
theorem pr2 {F : V → PV → Prop} {vs : List V} {p q : PV} (h : Paired F vs [p, q]) : ∃ v w, vs = [v, w] ∧ F v p ∧ F w q := by
  cases h with
  | cons a r =>
    obtain ⟨w, rfl, b⟩ := pr1 r
    exact ⟨_, _, rfl, a, b⟩
theorem s_len (K : PySem.W.Frag) : CallS K (fun xs H Q => ∃ x n, xs = [x] ∧ LenV K x H n ∧ Q (.int n) H) .t .s lenP := by
  intro H0 O0 σ ρ H H2 xs ps Q S s r G
  unfold lenP at G
  split at G
  · obtain ⟨v, rfl, r1⟩ := pr1 r
    obtain ⟨a, vs, rfl, h1, r2⟩ := rt_lst r1
    exact ⟨_, vs.length, rfl, .inl ⟨vs, .inl (.inl h1), rfl⟩, by rw [r2.length]; exact G _ _ (Same.refl _) (.int _)⟩
  · obtain ⟨v, rfl, r1⟩ := pr1 r
    obtain ⟨a, vs, rfl, h1, r2⟩ := rt_tup r1
    exact ⟨_, vs.length, rfl, .inr ⟨vs, sqT_of h1, rfl⟩, by rw [r2.length]; exact G _ _ (Same.refl _) (.int _)⟩
  · obtain ⟨v, rfl, r1⟩ := pr1 r
    obtain ⟨a, ns, rfl, rfl, h1⟩ := rt_frz r1
    refine ⟨_, _, rfl, .inl ⟨_, h1, rfl⟩, ?_⟩
    rw [List.length_map] at G ⊢
    exact G _ _ (Same.refl _) (.int _)
  · split at G
    · rename_i hz
      obtain ⟨v, rfl, r1⟩ := pr1 r
      rw [rt_str r1]
      exact ⟨_, _, rfl, ⟨hz, rfl⟩, G _ _ (Same.refl _) (.int _)⟩
    · exact G.elim
  · exact G.elim
theorem s_abs (K : PySem.W.Frag) : CallS K (fun xs H Q => ∃ i, xs = [.int i] ∧ Q (.int (if i < 0 then -i else i)) H) .t .s absP := by
  intro H0 O0 σ ρ H H2 xs ps Q S s r G
  unfold absP at G
  split at G
  · obtain ⟨v, rfl, r1⟩ := pr1 r
    rw [rt_int r1]; exact ⟨_, rfl, G _ _ (Same.refl _) (.int _)⟩
  · exact G.elim
theorem s_any (K : PySem.W.Frag) : CallS K (rAny K) .t .s anyP := by
  intro H0 O0 σ ρ H H2 xs ps Q S s r G
  unfold anyP at G
  split at G
  · split at G
    · rename_i bs hbs
      obtain ⟨v, rfl, r1⟩ := pr1 r
      rw [asBs_map hbs] at r1
      obtain ⟨a, vs, rfl, h1, r2⟩ := rt_lst r1
      rw [r2.bls] at h1
      exact ⟨a, bs, rfl, .inl (.inl h1), G _ _ (Same.refl _) (.bl _)⟩
    · exact G.elim
  · exact G.elim
theorem lenP_exc (ps : List PV) (c : Str) : lenP ps ≠ .exc c := by unfold lenP; split <;> (try split) <;> exact fun z => nomatch z
theorem absP_exc (ps : List PV) (c : Str) : absP ps ≠ .exc c := by unfold absP; split <;> exact fun z => nomatch z
theorem anyP_exc (ps : List PV) (c : Str) : anyP ps ≠ .exc c := by unfold anyP; split <;> (try split) <;> exact fun z => nomatch z
variable {e : Expr} {es : List Expr} {pos p : Pos} {fA : Rho → R (List PV)} {f : Rho → R PV}
theorem e_len (mg : X.mg "len" = none) (hg : Gl X "len") (ha : AJ X W .t [e] fA) (he : starEach [e] X.env = (false, eval e X.env) :: starEach [] X.env := by rfl) : EJ X W .s (.Call (.Name "len" p) [e] [] pos) (eD lenP fA) := e_callB call_len lenP_exc (s_len _) hg mg PySem.boot_len ha (he := he)
theorem e_abs (mg : X.mg "abs" = none) (hg : Gl X "abs") (ha : AJ X W .t [e] fA) (he : starEach [e] X.env = (false, eval e X.env) :: starEach [] X.env := by rfl) : EJ X W .s (.Call (.Name "abs" p) [e] [] pos) (eD absP fA) := e_callB call_abs absP_exc (s_abs _) hg mg (by decide +kernel) ha (he := he)
def tyN : PV → String
  | .non => "NoneType" | .bl _ => "bool" | .int _ => "int" | .str _ => "str" | .tup _ => "tuple" | .lst _ => "list" | .frz _ => "list" | .dct => "dict"
def isiP (n : String) (p : PV) : R PV := match kitB (tyN p) n with
  | some b => .ok (.bl b)
  | none => .stuck
theorem rt_ty {K : PySem.W.Frag} {H H2 : Hp} {O0 : Addr → Prop} {σ : St} {ρ : Rho} {x : V} {p : PV} (r : RepM K O0 σ ρ .t H H2 x p) : TyX K H2 x (.type (tyN p)) := by
  rcases r with r | ⟨a, vs, ps, rfl, rfl, e3, e4⟩
  · cases r with
    | non => exact .base .non
    | bl b => exact .base (.bl b)
    | int i => exact .base (.int i)
    | str i => exact .base (.str i)
    | lst h _ _ => exact .base (.lst h)
    | tup h _ =>
      rcases h with ⟨h, _⟩ | ⟨o, its, n, h1, h2, _⟩
      · exact .base (.tup h)
      · exact .kTuple h1 h2
    | frz h =>
      rcases h with ⟨⟨o, h⟩, _⟩ | h
      · exact .base (.frz h)
      · rcases h fun _ => none with (h | ⟨_, h⟩) | ⟨o, its, n, h1, h2, _⟩
        · cases h
        · cases h
        · exact .kList h1 h2
    | dct h _ => exact .base (.dK h)
  · exact .base (.lst e3)
theorem e_isi {n : String} {en : Expr} (mg : X.mg "isinstance" = none) (hg : Gl X "isinstance") (ha : EJ X W .t e f) (hn : PE X en (tC (.ty n))) (he : starEach [e, en] X.env = (false, eval e X.env) :: starEach [en] X.env := by rfl) (he2 : starEach [en] X.env = (false, eval en X.env) :: starEach [] X.env := by rfl) (hpl : (backTo pos (starEach [en] X.env)).any (·.1) = false := by rfl) :
    EJ X W .s (.Call (.Name "isinstance" p) [e, en] [] pos) (e1 (isiP n) f) := by
  refine pe_imp (pe_callB call_isi hg mg PyProof.Rows.boot_isinstance (pa_cons ha (pa_cons hn pa_nil he2) he) (by decide) (by decide) he hpl) fun σ H Q ⟨H0, O0, ρ, S, G⟩ => ⟨H0, O0, ρ, S, ?_⟩
  revert G
  unfold e1
  cases f ρ with
  | stuck => exact False.elim
  | exc c => exact fun G => G
  | ok q =>
    intro G x H1 s1 r1
    rw [R.bind_ok] at G
    unfold isiP at G
    split at G
    · rename_i b hb
      exact ⟨x, .ty n, _, _, b, rfl, .ty n, rt_ty r1, kit_ty hb, G _ _ s1 (.bl b)⟩
    · exact G.elim
end
end PL
set_option Elab.async false
set_option linter.all false
set_option maxRecDepth 100000
set_option autoImplicit false
namespace PL
open PySem PySem.Spec L2
open PyProof.Rows hiding St
def Kept (O : Addr → Prop) (H : Hp) (O' : Addr → Prop) (H' : Hp) : Prop := ∀ a o, H a = some o → ¬ O a → H' a = some o ∧ ¬ O' a
theorem Kept.refl (O : Addr → Prop) (H : Hp) : Kept O H O H := fun _ _ h n => ⟨h, n⟩
theorem Kept.trans {O O1 O2 : Addr → Prop} {H H1 H2 : Hp} (a : Kept O H O1 H1) (b : Kept O1 H1 O2 H2) : Kept O H O2 H2 := fun c o h n => b c o (a c o h n).1 (a c o h n).2
theorem Kept.same {O : Addr → Prop} {H H' : Hp} (s : Same H H') : Kept O H O H' := fun a o h n => ⟨s a o h, n⟩
section
variable {X : Cx} {W : WX} {e e' e'' tg : Expr} {pos p : Pos} {f : Rho → R PV} {fA : Rho → R (List PV)} {K : PySem.W.Frag}
/-- the items of a list, a tuple -/
def asL : PV → R (List PV)
  | .lst l | .frz l => .ok l
  | _ => .stuck
def asS : PV → R (List PV)
  | .lst l | .frz l | .tup l => .ok l
  | _ => .stuck
def iRv (f : Rho → R PV) : Rho → R (List PV) := fun ρ => (f ρ).bind fun p => (asS p).bind fun l => .ok l.reverse
def iS (f : Rho → R PV) : Rho → R (List PV) := fun ρ => (f ρ).bind asS
def iR (g : List PV → R (List PV)) (f : Rho → R (List PV)) : Rho → R (List PV) := fun ρ => (f ρ).bind g
end
def GotG (K : PySem.W.Frag) (H0 : Hp) (O0 : Addr → Prop) (H : Hp) (ts : List Nat) (σ : St) (ρ : Rho) (Q : St → Hp → Prop) : Option Rho → Prop
  | some ρ' => ∀ σ', StR K H0 O0 H σ' ρ' → (∀ a, OO O0 σ' ρ' a → OO O0 σ ρ a) → σ'.length = σ.length → (∀ (i : Nat), i ∉ ts → σ'[i]? = σ[i]? ∧ ρ'[i]? = ρ[i]?) → Q σ' H
  | none => False
def tG (K : PySem.W.Frag) (ts : List Nat) (h : PV → Rho → Option Rho) : TG := fun v σ H Q => ∃ H0 O0 ρ p, StR K H0 O0 H σ ρ ∧ Rep K H (OO O0 σ ρ) v p ∧ GotG K H0 O0 H ts σ ρ Q (h p ρ)
abbrev GJ (X : Cx) (tg : Expr) (ts : List Nat) (h : PV → Rho → Option Rho) : Prop := PG X tg (tG X.K ts h)
theorem pg_imp {X : Cx} {tg : Expr} {t t' : TG} (h : PG X tg t) (q : ∀ v σ H Q, t' v σ H Q → t v σ H Q) : PG X tg t' := ⟨fun pins s σ H v u Q I r hw => h.run pins s σ H v u Q I r (q v σ H Q hw)⟩
theorem pgs_imp {X : Cx} {tg : List Expr} {t t' : TGs} (h : PGs X tg t) (q : ∀ v σ H Q, t' v σ H Q → t v σ H Q) : PGs X tg t' := ⟨fun pins s σ H v u Q I r hw => h.run pins s σ H v u Q I r (q v σ H Q hw)⟩
def gN (i : Nat) : PV → Rho → Option Rho := fun p ρ => some (ρ.set i (.val p))
theorem g_name {X : Cx} {tg : Expr} {i : Nat} (h : PG X tg (gName i)) : GJ X tg [i] (gN i) := by
  refine pg_imp h fun v σ H Q ⟨H0, O0, ρ, p, S, r, G⟩ => ?_
  exact G _ (S.set (s := .val p) (fun _ z => nomatch z) (fun q z => by cases z; exact ⟨v, rfl, r⟩)) (fun a z => OO.set_val (s := .val p) (fun _ z => nomatch z) z) (List.length_set ..) fun j hj => have n : i ≠ j := fun e => hj (by rw [e]; exact List.mem_cons_self); ⟨List.getElem?_set_ne n, List.getElem?_set_ne n⟩
/-- several targets -/
def tGs (K : PySem.W.Frag) (ts : List Nat) (h : List PV → Rho → Option Rho) : TGs := fun vs σ H Q => ∃ H0 O0 ρ ps, StR K H0 O0 H σ ρ ∧ Reps K H (OO O0 σ ρ) vs ps ∧ GotG K H0 O0 H ts σ ρ Q (h ps ρ)
abbrev GJs (X : Cx) (tg : List Expr) (ts : List Nat) (h : List PV → Rho → Option Rho) : Prop := PGs X tg (tGs X.K ts h)
def gsNil : List PV → Rho → Option Rho
  | [], ρ => some ρ
  | _, _ => none
def gsCons (g : PV → Rho → Option Rho) (h : List PV → Rho → Option Rho) : List PV → Rho → Option Rho
  | p :: ps, ρ => (g p ρ).bind (h ps)
  | [], _ => none
section
variable {X : Cx} {e : Expr} {es : List Expr} {g : PV → Rho → Option Rho} {h : List PV → Rho → Option Rho} {pos : Pos} {ts us : List Nat}
theorem gs_nil : GJs X [] [] gsNil := by
  refine pgs_imp pgs_nil fun vs σ H Q ⟨H0, O0, ρ, ps, S, r, G⟩ => ?_
  cases ps with
  | nil => cases r; exact ⟨rfl, G σ S (fun _ z => z) rfl fun _ _ => ⟨rfl, rfl⟩⟩
  | cons p ps => exact G.elim
theorem gs_cons (h1 : GJ X e ts g) (h2 : GJs X es us h) (hs : (assignEach (e :: es) X.env).map (·.2) = assign e X.env :: (assignEach es X.env).map (·.2) := by rfl) : GJs X (e :: es) (ts ++ us) (gsCons g h) := by
  refine pgs_imp (pgs_cons h1 h2 hs) fun vs σ H Q ⟨H0, O0, ρ, ps, S, r, G⟩ => ?_
  cases r with
  | nil => exact G.elim
  | @cons v vs p ps r1 r2 =>
    refine ⟨v, vs, rfl, H0, O0, ρ, p, S, r1, ?_⟩
    have G' : GotG X.K H0 O0 H (ts ++ us) σ ρ Q ((g p ρ).bind (h ps)) := G
    revert G'
    cases g p ρ with
    | none => exact False.elim
    | some ρ1 =>
      intro G' σ1 S1 l1 e1 k1
      exact ⟨H0, O0, ρ1, ps, S1, r2.less l1, by
        revert G'
        rw [Option.bind_some]
        cases h ps ρ1 with
        | none => exact fun G => G
        | some ρ2 => exact fun G' σ2 S2 l2 e2 k2 => G' σ2 S2 (fun a z => l1 a (l2 a z)) (e2.trans e1) fun i hi => have a := k2 i fun z => hi (List.mem_append_right _ z); have b := k1 i fun z => hi (List.mem_append_left _ z); ⟨a.1.trans b.1, a.2.trans b.2⟩⟩
def gT (h : List PV → Rho → Option Rho) : PV → Rho → Option Rho
  | .tup ps, ρ => h ps ρ
  | _, _ => none
theorem g_tup {k n : Nat} (hc : X.calm = true) (h1 : GJs X es ts h) (hl : ∀ ps ρ ρ', h ps ρ = some ρ' → ps.length = n) (hn : (assignEach es X.env).length = n := by rfl) (hst : (assignEach es X.env).findIdx? (·.1) = none := by rfl) : GJ X (.Tuple es k pos) ts (gT h) := by
  refine pg_imp (pg_tup hc h1 hn hst) fun v σ H Q ⟨H0, O0, ρ, p, S, r, G⟩ => ?_
  cases p with
  | tup ps =>
    cases r with
    | @tup a vs _ ha r =>
      refine ⟨a, vs, rfl, sqT_of ha, ?_, H0, O0, ρ, ps, S, r, G⟩
      have G' : GotG X.K H0 O0 H ts σ ρ Q (h ps ρ) := G
      revert G'
      cases hh : h ps ρ with
      | none => exact False.elim
      | some ρ' => exact fun _ => by rw [r.length]; exact hl ps ρ ρ' hh
  | _ => exact G.elim
theorem gs_len : ∀ {n : Nat} {g : PV → Rho → Option Rho} {h : List PV → Rho → Option Rho}, (∀ ps ρ ρ', h ps ρ = some ρ' → ps.length = n) → ∀ ps ρ ρ', gsCons g h ps ρ = some ρ' → ps.length = n + 1 := by
  intro n g h hl ps ρ ρ' e
  cases ps with
  | nil => cases e
  | cons p ps =>
    have e' : (g p ρ).bind (h ps) = some ρ' := e
    cases hg : g p ρ with
    | none => rw [hg] at e'; cases e'
    | some ρ1 =>
      rw [hg, Option.bind_some] at e'
      rw [List.length_cons, hl ps ρ1 ρ' e']
theorem gs_len0 : ∀ ps ρ ρ', gsNil ps ρ = some ρ' → ps.length = 0 := by
  intro ps ρ ρ' e
  cases ps with
  | nil => rfl
  | cons p ps => cases e
end
end PL
set_option Elab.async false
set_option linter.all false
set_option maxRecDepth 100000
set_option autoImplicit false
namespace PL
open PySem PySem.Spec L2
open PyProof.Rows hiding St
inductive Out where
  | next (ρ : Rho) | ret (p : PV) | brk (ρ : Rho) | cont (ρ : Rho) | exc (c : Str) (ρ : Rho) | stuck
def GotS (K : PySem.W.Frag) (mg : Str → Option Value) (W : WX) (nw : Bool) (H0 : Hp) (O0 : Addr → Prop) (σ : St) (ρ : Rho) (H : Hp) (D : Ends) : Out → Prop
  | .next ρ' => ∀ σ' H', StR K H0 O0 H' σ' ρ' → Kept (OO O0 σ ρ) H (OO O0 σ' ρ') H' → D.nx σ' H'
  | .brk ρ' => ∀ σ' H', StR K H0 O0 H' σ' ρ' → Kept (OO O0 σ ρ) H (OO O0 σ' ρ') H' → D.bk σ' H'
  | .cont ρ' => ∀ σ' H', StR K H0 O0 H' σ' ρ' → Kept (OO O0 σ ρ) H (OO O0 σ' ρ') H' → D.ct σ' H'
  | .ret p => ∀ v H', Same H0 H' → RepR K O0 nw H0 H' v p → D.rt v H'
  | .exc c ρ' => ∀ C σ' H', mg c = some (.ref C) → StR K H0 O0 H' σ' ρ' → Kept (OO O0 σ ρ) H (OO O0 σ' ρ') H' → W (.ref C) none σ' H'
  | .stuck => False
def tS (K : PySem.W.Frag) (mg : Str → Option Value) (W : WX) (nw : Bool) (g : Rho → Out) : TS := fun D σ H =>
  ∃ H0 O0 ρ, StR K H0 O0 H σ ρ ∧ GotS K mg W nw H0 O0 σ ρ H D (g ρ)
abbrev SJ (X : Cx) (W : WX) (nw : Bool) (st : Stmt) (g : Rho → Out) : Prop := PS X st (tS X.K X.mg W nw g)
abbrev BJ (X : Cx) (W : WX) (nw : Bool) (st : List Stmt) (g : Rho → Out) : Prop := PSs X st (tS X.K X.mg W nw g)
def Out.then (o : Out) (k : Rho → Out) : Out := match o with
  | .next ρ => k ρ
  | o => o
section
variable {K : PySem.W.Frag} {mg : Str → Option Value} {W : WX} {nw : Bool} {H0 H H1 : Hp} {O0 : Addr → Prop} {σ σ1 : St} {ρ ρ1 : Rho} {D : Ends}
theorem GotS.later {o : Out} (k : Kept (OO O0 σ ρ) H (OO O0 σ1 ρ1) H1) (G : GotS K mg W nw H0 O0 σ ρ H D o) : GotS K mg W nw H0 O0 σ1 ρ1 H1 D o := by
  cases o with
  | next ρ' => exact fun σ' H' S k' => G σ' H' S (k.trans k')
  | brk ρ' => exact fun σ' H' S k' => G σ' H' S (k.trans k')
  | cont ρ' => exact fun σ' H' S k' => G σ' H' S (k.trans k')
  | ret p => exact G
  | exc c ρ' => exact fun C σ' H' e S k' => G C σ' H' e S (k.trans k')
  | stuck => exact G
/-- an expression's exception, from the statement's -/
theorem exc_of {c : Str} (S : StR K H0 O0 H σ ρ) (G : GotS K mg W nw H0 O0 σ ρ H D (.exc c ρ)) : ∀ C H', Same H H' → mg c = some (.ref C) → W (.ref C) none σ H' :=
  fun C H' s e => G C σ H' e (S.step s) (Kept.same s)
theorem kept_set {i : Nat} {v : Option V} {s : Slot} (hs : ∀ ps, s ≠ .own ps) (sm : Same H H1) : Kept (OO O0 σ ρ) H (OO O0 (σ.set i v) (ρ.set i s)) H1 := fun a o h n => ⟨sm a o h, fun z => n (OO.set_val hs z)⟩
end
section
variable {X : Cx} {W : WX} {nw : Bool} {st : Stmt} {rest : List Stmt} {e : Expr} {pos : Pos} {f : Rho → R PV} {g h : Rho → Out}
theorem ps_imp {t t' : TS} (h : PS X st t) (q : ∀ D σ H, t' D σ H → t D σ H) : PS X st t' := ⟨fun pins s σ H D I hw => h.run pins s σ H D I (q D σ H hw)⟩
theorem pss_imp {sts : List Stmt} {t t' : TS} (h : PSs X sts t) (q : ∀ D σ H, t' D σ H → t D σ H) : PSs X sts t' := ⟨fun pins s σ H D I hw => h.run pins s σ H D I (q D σ H hw)⟩
def bNil : Rho → Out := .next
def bSeq (g h : Rho → Out) : Rho → Out := fun ρ => (g ρ).then h
theorem b_nil : BJ X W nw [] bNil := by
  refine pss_imp pss_nil fun D σ H ⟨H0, O0, ρ, S, G⟩ => ?_
  exact G σ H S (Kept.refl _ _)
theorem b_cons (h1 : SJ X W nw st g) (h2 : BJ X W nw rest h) : BJ X W nw (st :: rest) (bSeq g h) := by
  refine pss_imp (pss_cons h1 h2) fun D σ H ⟨H0, O0, ρ, S, G⟩ => ⟨H0, O0, ρ, S, ?_⟩
  have G' : GotS X.K X.mg W nw H0 O0 σ ρ H D ((g ρ).then h) := G
  revert G'
  cases g ρ with
  | next ρ' => exact fun G' σ' H' S' k => ⟨H0, O0, ρ', S', GotS.later k G'⟩
  | ret p => exact fun G => G
  | brk ρ' => exact fun G => G
  | cont ρ' => exact fun G => G
  | exc c ρ' => exact fun G => G
  | stuck => exact fun G => G
/-- by an expression, then on -/
def sE (f : Rho → R PV) (k : PV → Rho → Out) : Rho → Out := fun ρ => match f ρ with
  | .ok p => k p ρ
  | .exc c => .exc c ρ
  | .stuck => .stuck
theorem got_e {K : PySem.W.Frag} {mg : Str → Option Value} {H0 H : Hp} {O0 : Addr → Prop} {σ : St} {ρ : Rho} {D : Ends} {m : Md} {k : PV → Rho → Out} {Q : VK} (S : StR K H0 O0 H σ ρ) (G : GotS K mg W nw H0 O0 σ ρ H D (sE f k ρ))
    (hk : ∀ p v H', Same H H' → RepM K O0 σ ρ m H H' v p → GotS K mg W nw H0 O0 σ ρ H D (k p ρ) → Q v H') : Got K mg W O0 σ ρ m H Q (f ρ) := by
  revert G
  unfold sE
  cases f ρ with
  | ok p => exact fun G v H' s r => hk p v H' s r G
  | exc c => exact fun G => exc_of S G
  | stuck => exact fun G => G
def sDrop (f : Rho → R PV) : Rho → Out := sE f fun _ ρ => .next ρ
theorem s_expr {m : Md} (he : EJ X W m e f) (hs : swapsWith e none pos.line X.env = pure false := by rfl) : SJ X W nw (.Expr e pos) (sDrop f) := by
  refine ps_imp (ps_expr he hs) fun D σ H ⟨H0, O0, ρ, S, G⟩ => ⟨H0, O0, ρ, S, got_e S G fun p v H' s r G => ?_⟩
  exact G σ H' (S.step s) (Kept.same s)
def sRet (f : Rho → R PV) : Rho → Out := sE f fun p _ => .ret p
theorem s_ret (he : EJ X W .s e f) : SJ X W false (.Return (some e) pos) (sRet f) := by
  refine ps_imp (ps_ret he) fun D σ H ⟨H0, O0, ρ, S, G⟩ => ⟨H0, O0, ρ, S, got_e S G fun p v H' s r G => ?_⟩
  exact G v H' (S.same.trans s) (Rep.less (fun _ z => .inl z) r)
/-- a list of one's own is handed back -/
def sRetO (i : Nat) : Rho → Out := fun ρ => match ρ[i]? with
  | some (.own ps) => .ret (.lst ps)
  | _ => .stuck
def sIf (t : Rho → R Bool) (g h : Rho → Out) : Rho → Out := fun ρ => match t ρ with
  | .ok true => g ρ
  | .ok false => h ρ
  | .exc c => .exc c ρ
  | .stuck => .stuck
theorem s_if {c : Expr} {a b : List Stmt} {t : Rho → R Bool} (hc : TJ X W c t) (ha : BJ X W nw a g) (hb : BJ X W nw b h) : SJ X W nw (.If c a b pos) (sIf t g h) := by
  refine ps_imp (ps_if hc ha hb) fun D σ H ⟨H0, O0, ρ, S, G⟩ => ⟨H0, O0, ρ, S, ?_⟩
  have G' : GotS X.K X.mg W nw H0 O0 σ ρ H D (match t ρ with
    | .ok true => g ρ
    | .ok false => h ρ
    | .exc c => .exc c ρ
    | .stuck => .stuck) := G
  revert G'
  cases t ρ with
  | ok b =>
    cases b with
    | true => exact fun G H' s => by show (if true = true then _ else _); exact iteT ⟨H0, O0, ρ, S.step s, GotS.later (Kept.same s) G⟩
    | false => exact fun G H' s => by show (if false = true then _ else _); exact iteF ⟨H0, O0, ρ, S.step s, GotS.later (Kept.same s) G⟩
  | exc c => exact fun G => exc_of S G
  | stuck => exact fun G => G
def sSet (i : Nat) (f : Rho → R PV) : Rho → Out := sE f fun p ρ => .next (ρ.set i (.val p))
def sSetO (i : Nat) (f : Rho → R PV) : Rho → Out := sE f fun p ρ => match p with
  | .lst ps => .next (ρ.set i (.own ps))
  | _ => .stuck
theorem q_set {K : PySem.W.Frag} {mg : Str → Option Value} {i : Nat} {te : TE} (hte : ∀ σ H Q, tE K mg W .s f σ H Q → te σ H Q) : ∀ D σ H, tS K mg W nw (sSet i f) D σ H → tAsg te (gName i) D σ H := by
  intro D σ H ⟨H0, O0, ρ, S, G⟩
  refine hte _ _ _ ⟨H0, O0, ρ, S, got_e S G fun p v H' s r G => ?_⟩
  exact G _ H' ((S.step s).set (s := .val p) (fun _ z => nomatch z) fun q z => by cases z; exact ⟨v, rfl, r⟩) (kept_set (s := .val p) (fun _ z => nomatch z) s)
theorem s_set {i : Nat} {x : Str} {pos' : Pos} (hN : X.N.Nodup) (hi : X.N[i]? = some x) (hx : Loc X.env.scope x) (he : EJ X W .s e f) (hs : swapsWith e (some (.Name x pos')) pos.line X.env = pure false := by rfl) (hf : X.fn x = true ∨ X.env.scope.names.lookup x = some .local := by first | exact .inl rfl | exact .inr rfl | assumption) :
    SJ X W nw (.Assign [.Name x pos'] e pos) (sSet i f) := ps_imp (ps_set hN hi hx he hs hf) (q_set fun _ _ _ z => z)
/-- target = e -/
def sTo (h : PV → Rho → Option Rho) (f : Rho → R PV) : Rho → Out := sE f fun p ρ => match h p ρ with
  | some ρ' => .next ρ'
  | none => .stuck
theorem s_to {tg : Expr} {ts : List Nat} {h : PV → Rho → Option Rho} (he : EJ X W .s e f) (hg : GJ X tg ts h) (hs : swapsWithSole [tg] e pos.line X.env = pure false := by rfl) (hw : swappedStores [tg] e X.env = pure none := by rfl)
    (h1 : (assignEach [tg] X.env).map (·.2) = [assign tg X.env] := by rfl) : SJ X W nw (.Assign [tg] e pos) (sTo h f) := by
  refine ps_imp (ps_asg he hg hs hw h1) fun D σ H ⟨H0, O0, ρ, S, G⟩ => ⟨H0, O0, ρ, S, got_e S G fun p v H' s r G => ?_⟩
  refine ⟨H0, O0, ρ, p, S.step s, r, ?_⟩
  revert G
  cases h p ρ with
  | none => exact False.elim
  | some ρ' => exact fun G σ' S' l _ _ => G σ' H' S' fun a o ho n => ⟨s a o ho, fun z => n (l a z)⟩
/-- a, b = x, y -/
def sPar (i j : Nat) (fA : Rho → R (List PV)) : Rho → Out := fun ρ => match fA ρ with
  | .ok [p, q] => .next ((ρ.set i (.val p)).set j (.val q))
  | .exc c => .exc c ρ
  | _ => .stuck
theorem s_par {i j : Nat} {x y : Str} {a b : Expr} {fA : Rho → R (List PV)} {px py pt : Pos} {kt k2 pt2} (hc : X.calm = true) (hN : X.N.Nodup) (hi : X.N[i]? = some x) (hj : X.N[j]? = some y) (hij : i ≠ j)
    (hx : X.env.scope.names.lookup x = some .local) (hy : X.env.scope.names.lookup y = some .local) (ha : AJ X W .s [a, b] fA)
    (hw : swappedStores [.Tuple [.Name x px, .Name y py] kt pt] (.Tuple [a, b] k2 pt2) X.env = pure (some [x, y]))
    (hs : swapsWithSole [.Tuple [.Name x px, .Name y py] kt pt] (.Tuple [a, b] k2 pt2) pos.line X.env = pure false := by rfl) :
    SJ X W nw (.Assign [.Tuple [.Name x px, .Name y py] kt pt] (.Tuple [a, b] k2 pt2) pos) (sPar i j fA) := by
  refine ps_imp (ps_par hc hN hi hj hij hx hy ha hw hs) fun D σ H ⟨H0, O0, ρ, S, G⟩ => ⟨H0, O0, ρ, S, ?_⟩
  unfold sPar at G
  revert G
  cases fA ρ with
  | stuck => exact False.elim
  | exc c => exact fun G => exc_of S G
  | ok ps =>
    match ps with
    | [p, q] =>
      intro G vs H' s r
      obtain ⟨v, w, rfl, r1, r2⟩ := pr2 r
      refine ⟨v, w, rfl, ?_⟩
      have S1 := S.step s
      have S2 := S1.set (i := i) (v := some v) (s := .val p) (fun _ z => nomatch z) fun q z => by cases z; exact ⟨v, rfl, r1⟩
      have l1 : ∀ a, OO O0 (σ.set i (some v)) (ρ.set i (.val p)) a → OO O0 σ ρ a := fun a z => OO.set_val (s := .val p) (fun _ z => nomatch z) z
      have r2' : Rep X.K H' (OO O0 (σ.set i (some v)) (ρ.set i (.val p))) w q := Rep.less l1 r2
      have S3 := S2.set (i := j) (v := some w) (s := .val q) (fun _ z => nomatch z) fun q' z => by cases z; exact ⟨w, rfl, r2'⟩
      exact G _ H' S3 fun a o ho n => ⟨s a o ho, fun z => n (l1 a (OO.set_val (s := .val q) (fun _ z => nomatch z) z))⟩
    | [] => exact False.elim
    | [_] => exact False.elim
    | _ :: _ :: _ :: _ => exact False.elim
/-- x op= e, by values -/
def sAug (i : Nat) (g : PV → PV → R PV) (f : Rho → R PV) : Rho → Out := fun ρ => match ρ[i]? with
  | some (.val x) => sE (fun ρ => (f ρ).bind fun y => g x y) (fun z ρ => .next (ρ.set i (.val z))) ρ
  | _ => .stuck
/-- a list is let go -/
def sFrz (i : Nat) (g : Rho → Out) : Rho → Out := fun ρ => match ρ[i]? with
  | some (.own ps) => g (ρ.set i (.val (.lst ps)))
  | _ => g ρ
end
end PL
set_option Elab.async false
set_option linter.all false
set_option maxRecDepth 100000
set_option autoImplicit false
namespace PL
open PySem PySem.Spec L2
open PyProof.Rows hiding St
section
variable {X : Cx} {W : WX} {nw : Bool} {st : Stmt} {rest : List Stmt} {e : Expr} {pos : Pos} {f : Rho → R PV} {g h : Rho → Out}
def forL (tgt : PV → Rho → Option Rho) (body : Rho → Out) : List PV → Rho → Out
  | [], ρ => .next ρ
  | p :: ps, ρ => match tgt p ρ with
    | none => .stuck
    | some ρ1 => match body ρ1 with
      | .next ρ' => forL tgt body ps ρ'
      | .cont ρ' => forL tgt body ps ρ'
      | .brk ρ' => .next ρ'
      | o => o
def sFor (it : Rho → R (List PV)) (tgt : PV → Rho → Option Rho) (body : Rho → Out) : Rho → Out := fun ρ => match it ρ with
  | .ok items => forL tgt body items ρ
  | .exc c => .exc c ρ
  | .stuck => .stuck
def whN (t : Rho → R Bool) (b : Rho → Out) : Nat → Rho → Out
  | 0, _ => .stuck
  | n + 1, ρ => match t ρ with
    | .stuck => .stuck
    | .exc c => .exc c ρ
    | .ok false => .next ρ
    | .ok true => match b ρ with
      | .next ρ' => whN t b n ρ'
      | .cont ρ' => whN t b n ρ'
      | .brk ρ' => .next ρ'
      | o => o
theorem whN_more {t : Rho → R Bool} {b : Rho → Out} : ∀ (n : Nat) (ρ : Rho), whN t b n ρ ≠ .stuck → whN t b (n + 1) ρ = whN t b n ρ
  | 0, ρ, h => absurd rfl h
  | n + 1, ρ, h => by
    unfold whN at h
    rw [whN]
    conv => rhs; rw [whN]
    revert h
    cases t ρ with
    | stuck => exact fun _ => rfl
    | exc c => exact fun _ => rfl
    | ok k =>
      cases k with
      | false => exact fun _ => rfl
      | true =>
        dsimp only
        cases b ρ with
        | next ρ' => exact fun h => whN_more n ρ' h
        | cont ρ' => exact fun h => whN_more n ρ' h
        | _ => exact fun _ => rfl
theorem whN_le {t : Rho → R Bool} {b : Rho → Out} {n m : Nat} {ρ : Rho} (h : whN t b n ρ ≠ .stuck) (hl : n ≤ m) : whN t b m ρ = whN t b n ρ := by
  induction m with
  | zero => rw [Nat.le_zero.mp hl]
  | succ m ih =>
    by_cases e : n = m + 1
    · rw [e]
    · have q := ih (by omega)
      rw [whN_more m ρ (by rw [q]; exact h), q]
open Classical in
noncomputable def sWh (t : Rho → R Bool) (b : Rho → Out) (ρ : Rho) : Out := if h : ∃ n, whN t b n ρ ≠ .stuck then whN t b h.choose ρ else .stuck
theorem sWh_of {t : Rho → R Bool} {b : Rho → Out} {n : Nat} {ρ : Rho} (h : whN t b n ρ ≠ .stuck) : sWh t b ρ = whN t b n ρ := by
  have hx : ∃ n, whN t b n ρ ≠ .stuck := ⟨n, h⟩
  unfold sWh
  rw [dif_pos hx]
  have hc := hx.choose_spec
  rcases Nat.le_total n hx.choose with l | l
  · exact whN_le h l
  · exact (whN_le hc l).symm
theorem sWh_ex {t : Rho → R Bool} {b : Rho → Out} {ρ : Rho} (h : sWh t b ρ ≠ .stuck) : ∃ n, whN t b n ρ = sWh t b ρ := by
  by_cases hx : ∃ n, whN t b n ρ ≠ .stuck
  · obtain ⟨n, hn⟩ := hx
    exact ⟨n, (sWh_of hn).symm⟩
  · unfold sWh at h
    rw [dif_neg hx] at h
    exact absurd rfl h
/-- one turn -/
theorem sWh_eq (t : Rho → R Bool) (b : Rho → Out) (ρ : Rho) : sWh t b ρ = (match t ρ with
    | .stuck => .stuck
    | .exc c => .exc c ρ
    | .ok false => .next ρ
    | .ok true => match b ρ with
      | .next ρ' => sWh t b ρ'
      | .cont ρ' => sWh t b ρ'
      | .brk ρ' => .next ρ'
      | o => o) := by
  have go : ∀ ρ', (∀ n, whN t b (n + 1) ρ = whN t b n ρ') → sWh t b ρ = sWh t b ρ' := fun ρ' q => by
    by_cases h : sWh t b ρ' = .stuck
    · rw [h]
      by_cases h2 : sWh t b ρ = .stuck
      · exact h2
      · obtain ⟨n, hn⟩ := sWh_ex h2
        have hn' : whN t b n ρ ≠ .stuck := by rw [hn]; exact h2
        have e : whN t b n ρ' ≠ .stuck := by rw [← q n, whN_more n ρ hn']; exact hn'
        rw [sWh_of e] at h
        exact absurd h e
    · obtain ⟨n, hn⟩ := sWh_ex h
      have e : whN t b (n + 1) ρ ≠ .stuck := by rw [q n, hn]; exact h
      rw [sWh_of e, q n, hn]
  have one : ∀ o, o ≠ .stuck → whN t b 1 ρ = o → sWh t b ρ = o := fun o ho e => by rw [← e]; exact sWh_of (by rw [e]; exact ho)
  have non : (∀ n, whN t b n ρ = .stuck) → sWh t b ρ = .stuck := fun q => by
    unfold sWh
    rw [dif_neg (fun ⟨n, hn⟩ => hn (q n))]
  cases ht : t ρ with
  | stuck => exact non fun n => by cases n with | zero => rfl | succ n => rw [whN, ht]
  | exc c => exact one _ (fun z => nomatch z) (by rw [whN, ht])
  | ok k =>
    cases k with
    | false => exact one _ (fun z => nomatch z) (by rw [whN, ht])
    | true =>
      dsimp only
      cases hb : b ρ with
      | next ρ' => exact go ρ' fun n => by rw [whN, ht]; dsimp only; rw [hb]
      | cont ρ' => exact go ρ' fun n => by rw [whN, ht]; dsimp only; rw [hb]
      | brk ρ' => exact one _ (fun z => nomatch z) (by rw [whN, ht]; dsimp only; rw [hb])
      | ret p => exact one _ (fun z => nomatch z) (by rw [whN, ht]; dsimp only; rw [hb])
      | exc c ρ' => exact one _ (fun z => nomatch z) (by rw [whN, ht]; dsimp only; rw [hb])
      | stuck => exact non fun n => by cases n with | zero => rfl | succ n => rw [whN, ht]; dsimp only; rw [hb]
theorem s_while {c : Expr} {body : List Stmt} {t : Rho → R Bool} (hp : PassesOwn (model X.prog X.w) X.A X.env X.xe) (hc : TJ X W c t) (hb : BJ X W nw body g) : SJ X W nw (.While c body [] pos) (sWh t g) := by
  refine ps_imp (ps_while hp hc hb) fun D σ H ⟨H0, O0, ρ, S, G⟩ => ?_
  have ns : sWh t g ρ ≠ .stuck := fun z => by rw [z] at G; exact G
  obtain ⟨n, hn⟩ := sWh_ex ns
  rw [← hn] at G
  refine ⟨fun m σc Hc => ∃ ρc, StR X.K H0 O0 Hc σc ρc ∧ GotS X.K X.mg W nw H0 O0 σc ρc Hc D (whN t g m ρc), ⟨n, ρ, S, G⟩, ?_⟩
  rintro m σc Hc ⟨ρc, Sc, Gc⟩
  cases m with
  | zero => exact Gc.elim
  | succ m =>
    refine ⟨H0, O0, ρc, Sc, ?_⟩
    unfold whN at Gc
    revert Gc
    cases t ρc with
    | stuck => exact False.elim
    | exc c => exact fun G => exc_of Sc G
    | ok k =>
      cases k with
      | false => exact fun G H1 s1 => iteF (G σc H1 (Sc.step s1) (Kept.same s1))
      | true =>
        dsimp only
        intro G H1 s1
        refine iteT ⟨fun σ' H' => ∃ ρ', StR X.K H0 O0 H' σ' ρ' ∧ GotS X.K X.mg W nw H0 O0 σ' ρ' H' D (whN t g m ρ'), fun σ' H' z => ⟨m, Nat.lt_succ_self m, z⟩, H0, O0, ρc, Sc.step s1, ?_⟩
        have G' := GotS.later (Kept.same s1) G
        revert G'
        cases g ρc with
        | next ρ' => exact fun Gc' σ' H' S' k' => ⟨ρ', S', GotS.later k' Gc'⟩
        | cont ρ' => exact fun Gc' σ' H' S' k' => ⟨ρ', S', GotS.later k' Gc'⟩
        | brk ρ' => exact fun G => G
        | ret p => exact fun G => G
        | exc c ρ' => exact fun G => G
        | stuck => exact fun G => G
/-- by the list of slot i and a value -/
def sMut (i : Nat) (g : List PV → PV → R (List PV)) (f : Rho → R PV) : Rho → Out := fun ρ => match ρ[i]? with
  | some (.own ps) => sE f (fun p ρ => match g ps p with
    | .ok qs => .next (ρ.set i (.own qs))
    | _ => .stuck) ρ
  | _ => .stuck
variable {o : Expr} {apos : Pos} {i : Nat}
/-- xs[j] = e -/
def setP (ps : List PV) (p : PV) : PV → R (List PV)
  | .int k => match ixN ps.length k with
    | some j => .ok (ps.set j p)
    | none => .stuck
  | _ => .stuck
def sSetI (i : Nat) (f fi : Rho → R PV) : Rho → Out := fun ρ => match ρ[i]? with
  | some (.own ps) => sE f (fun p => sE fi fun q ρ => match setP ps p q with
    | .ok qs => .next (ρ.set i (.own qs))
    | _ => .stuck) ρ
  | _ => .stuck
/-- what is known of a class of errors of the text's own -/
structure ExcT (K : PySem.W.Frag) (mg : Str → Option Value) (x : Str) (C : Addr) : Prop where
  g : mg x = some (.ref C)
  ex : PySem.W.excIn K C [.type "ValueError", .type "Exception", .type "BaseException", .type "object"] "ValueError.__new__" = true
  kp : PySem.W.keepIn K (.ref C) = true
  sb : PySem.W.subIn K (.ref C) (.type "BaseException") = some true
  ty : PySem.W.typeIn K (.ref C) = some (.type "type")
def sRaise (x : Str) : Rho → Out := .exc x
theorem s_raise {x m : Str} {C : Addr} {j : Nat} {p p2 p3 : Pos} (T : ExcT X.K X.mg x C) (hc : X.calm = true) (tk : L2N.Takes X W) (hg : Gl X x) (hdb : (x == ("__debug__" : Str)) = false := by decide) : SJ X W nw (.Raise (some (.Call (.Name x p) [.Constant (.str m) j p2] [] p3)) none pos) (sRaise x) := by
  refine ps_imp (L2N.ps_raise hc tk (L2N.pmk_own PySem.F.excBase_ValueError T.ex T.g T.kp (raises_own T.sb T.ty) hg hdb)) fun D σ H ⟨H0, O0, ρ, S, G⟩ => ?_
  exact G C σ H T.g S (Kept.refl _ _)
end
def runF (n : Nat) (g : Rho → Out) : List PV → R PV := fun ps => match g (ps.map Slot.val ++ List.replicate (n - ps.length) Slot.un) with
  | .ret p => .ok p
  | .next _ => .ok .non
  | .exc c _ => .exc c
  | _ => .stuck
theorem start_st {K : PySem.W.Frag} {H : Hp} {O : Addr → Prop} {vs : List V} {ps : List PV} {N : List Str} (al : ∀ a, O a → H a ≠ none) (r : Reps K H O vs ps) : StR K H O H (L2.start N vs) (ps.map Slot.val ++ List.replicate (N.length - ps.length) Slot.un) := by
  have hl := r.length
  have noown : ∀ (i : Nat) qs, (ps.map Slot.val ++ List.replicate (N.length - ps.length) Slot.un)[i]? ≠ some (.own qs) := fun i qs e => by
    have := List.mem_of_getElem? e
    rcases List.mem_append.mp this with z | z
    · obtain ⟨p, _, z⟩ := List.mem_map.mp z
      cases z
    · cases (List.mem_replicate.mp z).2
  have oo : ∀ a, OO O (L2.start N vs) (ps.map Slot.val ++ List.replicate (N.length - ps.length) Slot.un) a → O a := fun a z => by
    rcases z with z | ⟨i, qs, h1, _⟩
    · exact z
    · exact absurd h1 (noown i qs)
  refine ⟨by unfold L2.start; simp [hl], Same.refl H, al, fun i qs h => absurd h (noown i qs), fun i j a qs rs h => absurd h (noown i qs), fun i p h => ?_, fun i a h => by
    have := List.mem_of_getElem? h
    rcases List.mem_append.mp this with z | z
    · obtain ⟨p, _, z⟩ := List.mem_map.mp z
      cases z
    · cases (List.mem_replicate.mp z).2⟩
  by_cases hi : i < ps.length
  · rw [List.getElem?_append_left (by rw [List.length_map]; exact hi), List.getElem?_map] at h
    cases hq : ps[i]? with
    | none => rw [hq] at h; cases h
    | some q =>
      rw [hq] at h
      cases h
      obtain ⟨v, h1, h2⟩ := r.get hq
      refine ⟨v, ?_, h2.less oo⟩
      unfold L2.start
      rw [List.getElem?_append_left (by rw [List.length_map, hl]; exact hi), List.getElem?_map, h1]
      rfl
  · rw [List.getElem?_append_right (by rw [List.length_map]; omega)] at h
    have := List.mem_of_getElem? h
    cases (List.mem_replicate.mp this).2
section
variable {P : Program} {w : World} {K : PySem.W.Frag} {mg : Str → Option Value} {base : Heap}
theorem Fun_okN {x qual : Str} {st : Stmt} {f : Addr} {fd : FuncData} {N ps : List Str} {k : Nat} {sp : Sp} (F : Fun K x qual st f fd) (S : FnScope N ps (defScope st)) (len : ∀ vs H Q E, sp vs H Q E → vs.length = ps.length)
    (hbody : ∀ (cdv : Value) (A : Around) (outer : List PySem.Env) (s : Shared) (H : Hp) (vs : List V) (Q : VK) (E : XK), Room k (A.deeper (envOfC qual (defScope st) s.heap.objs.size f cdv)) → sp vs H Q E →
      ∃ t, PSs (cxOf (L2N.CX P w) P w K mg base N qual (defScope st) f cdv A outer s H E) (defBody st) t ∧ t { nx := fun _ H' => Q .non H', rt := Q } (L2.start N vs) H) : FnOk P w K mg base (L2N.CX P w) (k + 1) f fd ps sp := by
  obtain ⟨oc, od, kV, doc, pm, an, cdv, ct, osl, rfl, lk, hcd⟩ := F.ex
  exact fn_of lk hcd S len fun A outer s H vs Q E hr hsp => hbody cdv A outer s H vs Q E hr hsp
theorem fn_mk {x qual : Str} {st : Stmt} {f : Addr} {fd : FuncData} {N ps : List Str} {k n : Nat} {nw : Bool} {g : Rho → Out} (F : Fun K x qual st f fd) (S : FnScope N ps (defScope st)) (hn : n = ps.length) (hnw : nw = true → ∀ l, ∀ ρ, g l ≠ .next ρ)
    (hbody : ∀ (cdv : Value) (A : Around) (outer : List PySem.Env) (s : Shared) (H : Hp) (E : XK), Room k (A.deeper (envOfC qual (defScope st) s.heap.objs.size f cdv)) →
      BJ (cxOf (L2N.CX P w) P w K mg base N qual (defScope st) f cdv A outer s H E) (fun cls d _ H => E cls d H) nw (defBody st) g) :
    FnOk P w K mg base (L2N.CX P w) (k + 1) f fd ps (spF K mg n nw (runF N.length g)) := by
  refine Fun_okN F S (fun vs H Q E h => ?_) (fun cdv A outer s H vs Q E hr h => ?_)
  · obtain ⟨_, _, _, _, e, _⟩ := h
    rw [e, hn]
  · obtain ⟨qs, O, al, r, e, h⟩ := h
    refine ⟨_, hbody cdv A outer s H E hr, H, O, _, start_st al r, ?_⟩
    have h' : (match runF N.length g qs with
      | .ok p => ∀ v H', Same H H' → RepR K O nw H H' v p → Q v H'
      | .exc c => ∀ C H', Same H H' → mg c = some (.ref C) → E (.ref C) none H'
      | .stuck => False) := h
    unfold runF at h'
    revert h'
    cases hg : g (qs.map Slot.val ++ List.replicate (N.length - qs.length) Slot.un) with
    | ret p => exact fun h v H' s r => h v H' s r
    | next ρ' =>
      intro h σ' H' S' _
      cases nw with
      | false => exact h _ _ S'.same .non
      | true => exact absurd hg (hnw rfl _ _)
    | exc c ρ' => exact fun h C σ' H' e S' _ => h C H' S'.same e
    | brk ρ' => exact False.elim
    | cont ρ' => exact False.elim
    | stuck => exact False.elim
/-- from inside a def: what a body's statements need of its context -/
theorem tk_of {N : List Str} {qual : Str} {scope : Scope} {f : Addr} {cdv : Value} {A : Around} {outer : List PySem.Env} {s : Shared} {H : Hp} {E : XK} : L2N.Takes (cxOf (L2N.CX P w) P w K mg base N qual scope f cdv A outer s H E) (fun cls d _ H => E cls d H) := L2N.takes_of rfl rfl rfl rfl
theorem hp_of {N : List Str} {qual : Str} {scope : Scope} {f : Addr} {cdv : Value} {A : Around} {outer : List PySem.Env} {s : Shared} {H : Hp} {E : XK} : PassesOwn (model P w) (cxOf (L2N.CX P w) P w K mg base N qual scope f cdv A outer s H E).A (cxOf (L2N.CX P w) P w K mg base N qual scope f cdv A outer s H E).env (cxOf (L2N.CX P w) P w K mg base N qual scope f cdv A outer s H E).xe := passes_of rfl
end
structure DefT (K : PySem.W.Frag) (mg : Str → Option Value) (x : Str) (st : Stmt) (ps : List Str) (f : Addr) (fd : FuncData) : Prop where
  F : Fun K x x st f fd
  g : mg x = some (.ref f)
  b : L2.Binds K fd ps []
def DefE (K : PySem.W.Frag) (mg : Str → Option Value) (x : Str) (st : Stmt) (ps : List Str) : Prop := ∃ f fd, DefT K mg x st ps f fd
def Okd (P : Program) (w : World) (K : PySem.W.Frag) (mg : Str → Option Value) (base : Heap) (x : Str) (ps : List Str) (k n : Nat) (nw : Bool) (F : List PV → R PV) : Prop :=
  ∃ f fd, mg x = some (.ref f) ∧ PySem.W.keepIn K (.ref f) = true ∧ L2.Binds K fd ps [] ∧ FnOk P w K mg base (L2N.CX P w) k f fd ps (spF K mg n nw F)
section
variable {P : Program} {w : World} {K : PySem.W.Frag} {mg : Str → Option Value} {base : Heap}
theorem def_ok {x : Str} {st : Stmt} {N ps : List Str} {k n : Nat} {nw : Bool} {g : Rho → Out} (T : DefE K mg x st ps) (S : FnScope N ps (defScope st)) (hn : n = ps.length) (hnw : nw = true → ∀ l, ∀ ρ, g l ≠ .next ρ)
    (hbody : ∀ (f : Addr) (cdv : Value) (A : Around) (outer : List PySem.Env) (s : Shared) (H : Hp) (E : XK), Room k (A.deeper (envOfC x (defScope st) s.heap.objs.size f cdv)) →
      BJ (cxOf (L2N.CX P w) P w K mg base N x (defScope st) f cdv A outer s H E) (fun cls d _ H => E cls d H) nw (defBody st) g) :
    Okd P w K mg base x ps (k + 1) n nw (runF N.length g) := by
  obtain ⟨f, fd, T⟩ := T
  exact ⟨f, fd, T.g, T.F.kp, T.b, fn_mk T.F S hn hnw (hbody f)⟩
variable {X : Cx} {W : WX} {e : Expr} {es : List Expr} {pos p : Pos} {fA : Rho → R (List PV)}
theorem aCons_len {f : Rho → R PV} {g : Rho → R (List PV)} {n : Nat} (h : ∀ ρ ps, g ρ = .ok ps → ps.length = n) : ∀ ρ ps, aCons f g ρ = .ok ps → ps.length = n + 1 := by
  intro ρ ps e
  unfold aCons at e
  revert e
  cases f ρ with
  | ok a =>
    rw [R.bind_ok]
    cases hg : g ρ with
    | ok qs =>
      intro e
      cases e
      rw [List.length_cons, h ρ qs hg]
    | exc c => exact fun e => nomatch e
    | stuck => exact fun e => nomatch e
  | exc c => exact fun e => nomatch e
  | stuck => exact fun e => nomatch e
theorem aNil_len : ∀ ρ ps, aNil ρ = .ok ps → ps.length = 0 := by
  intro ρ ps e
  cases e
  rfl
/-- the parts' lengths, read off the syntax -/
inductive ALen : (Rho → R (List PV)) → Nat → Prop where
  | nil : ALen aNil 0
  | cons {f : Rho → R PV} {g : Rho → R (List PV)} {n : Nat} : ALen g n → ALen (aCons f g) (n + 1)
theorem ALen.ok {g : Rho → R (List PV)} {n : Nat} (h : ALen g n) : ∀ ρ ps, g ρ = .ok ps → ps.length = n := by
  induction h with
  | nil => exact aNil_len
  | cons _ ih => exact aCons_len ih
theorem e_callD {x : Str} {k j n : Nat} {nw : Bool} {F : List PV → R PV} {pn : List Str} (h : Okd X.prog X.w X.K X.mg X.base x pn j n nw F) (hr : Room k X.A) (hjk : j ≤ k) (tk : L2N.Takes X W) (hg : Gl X x) (ha : AJ X W .s (e :: es) fA) (hal : ALen fA n) (hlen : n = es.length + 1 := by rfl) (hdb : (x == ("__debug__" : Str)) = false := by decide)
    (he : starEach (e :: es) X.env = (false, eval e X.env) :: starEach es X.env := by rfl) (hpl : (backTo pos (starEach es X.env)).any (·.1) = false := by rfl) : EJ X W (mdR nw) (.Call (.Name x p) (e :: es) [] pos) (eD F fA) := by
  obtain ⟨f, fd, h1, h2, h3, h4⟩ := h
  have q := e_call (p := p) (pos := pos) (dvs := []) (dps := []) (ds := []) h4 (hr.mono hjk) hg h1 h2 h3 .nil (fun _ _ => .nil) tk ha (by rw [hlen]; rfl) (by rw [← hlen]; exact hal.ok) hdb he hpl
  have e' : eD (fun ps => F (ps ++ [])) fA = eD F fA := by
    funext ρ
    unfold eD
    congr
    funext ps
    rw [List.append_nil]
  rw [e'] at q
  exact q
end
/-- the law's own promise: of the script -/
def spLaw (K : PySem.W.Frag) : Sp := fun vs H Q _ => ∃ (a : Addr) (ns : List Int), vs = [.ref a] ∧ SqL K H a (ns.map V.int) ∧ Only H ∧ ns.length ≤ 63 ∧ ∀ v H', v = .bl true → Q v H'
theorem law_imp {P : Program} {w : World} {K : PySem.W.Frag} {mg : Str → Option Value} {base : Heap} {k : Nat} {f : Addr} {fd : FuncData} {ps : List Str} {F : List PV → R PV} (hF : ∀ ns : List Int, ns.length ≤ 63 → F [.frz (ns.map PV.int)] = .ok (.bl true))
    (h : FnOk P w K mg base (L2N.CX P w) k f fd ps (spF K mg 1 false F)) : FnOk P w K mg base (L2N.CX P w) k f fd ps (spLaw K) := by
  refine h.imp fun vs H Q E ⟨a, ns, e1, hs, ho, hl, q⟩ => ?_
  subst e1
  refine ⟨[.frz (ns.map PV.int)], fun _ => False, fun _ z => z.elim, .cons (.frz ?_) .nil, rfl, ?_⟩
  · rcases hs with (hs | hs) | hs
    · rcases ho a with z | ⟨o, xs, z⟩
      · rw [z] at hs; cases hs
      · rw [z] at hs; cases hs
    · exact .inl ⟨hs, fun z => z⟩
    · exact .inr fun _ => .inr hs
  · rw [hF ns hl]
    intro v H' s r
    cases r
    exact q _ _ rfl
theorem cx_none {P : Program} {w : World} {H : Hp} {s : Shared} {e : Value} {s' : Shared} (h : L2N.CX P w [] H s (fun _ _ _ => False) e s') : False := by
  obtain ⟨_, _, _, _, _, _, _, _, _, _, _, _, z⟩ := h
  exact z
end PL
set_option Elab.async false
set_option linter.all false
set_option maxRecDepth 100000
set_option autoImplicit false
namespace PL
open PySem PySem.Spec L2
open PyProof.Rows hiding St
section
variable {X : Cx} {W : WX} {e a b c : Expr} {pos p : Pos} {f g : Rho → R PV} {es : List Expr} {fA : Rho → R (List PV)}
/-- {} -/
theorem e_dct : EJ X W .s (.Dict [] [] pos) (eC .dct) := by
  refine pe_imp pe_dnewK fun σ H Q ⟨H0, O0, ρ, S, G⟩ => ?_
  intro d hd
  exact G _ _ (same_new hd) (.dct upd_same fun z => S.there z hd)
end
section
variable {K : PySem.W.Frag} {h : Heap} {mg : Str → Option Value}
theorem defE_mk (X : K.In h) (G : h.Ns mainGlobals mg) {x : Str} {st : Stmt} {ps : List Str} {f : Addr} {od an : Option Addr} {sl : Array (Option Value)} {oc kV dc pm cd ct : Value}
    (a : PySem.W.nsIn K mainGlobals x = some (some (.ref f))) (l : K.lookup f = some ⟨oc, od, .func (PySem.W.fnOf x x (defArgs st) (defBody st) (defScope st) .none kV dc pm an cd ct), sl⟩) (c : PySem.W.codeIn K cd x = true) (k : PySem.W.keepIn K (.ref f) = true)
    (hb : ∀ (kV doc pm : Value) (an : Option Addr) (cdv ct : Value) (us : List Value), us.length = ps.length → bindArgs (PySem.W.fnOf x x (defArgs st) (defBody st) (defScope st) .none kV doc pm an cdv ct) ⟨us, []⟩ = pure (ps.zip us)) : DefE K mg x st ps :=
  ⟨f, _, fun_mk l c k, PySem.W.mg_of X G a, (fun_mk l c k).binds hb⟩
theorem excE_mk (X : K.In h) (G : h.Ns mainGlobals mg) {x : Str} {C : Addr} (a : PySem.W.nsIn K mainGlobals x = some (some (.ref C))) (ex : PySem.W.excIn K C [.type "ValueError", .type "Exception", .type "BaseException", .type "object"] "ValueError.__new__" = true)
    (kp : PySem.W.keepIn K (.ref C) = true) (sb : PySem.W.subIn K (.ref C) (.type "BaseException") = some true) (ty : PySem.W.typeIn K (.ref C) = some (.type "type")) : ∃ C, ExcT K mg x C := ⟨C, PySem.W.mg_of X G a, ex, kp, sb, ty⟩
end
end PL
set_option Elab.async false
set_option linter.all false
set_option maxRecDepth 100000
set_option autoImplicit false
namespace PL
open PySem PySem.Spec L2
open PyProof.Rows hiding St
/-- the classes of errors: the one is under the other -/
def subX (c d : Str) : Bool := d == c || d == "LeftError" || d == "ValueError"
/-- a class that isinstance is asked about -/
def ClsQ (K : PySem.W.Frag) (mg : Str → Option Value) (C : Addr) (c d : Str) (u : Value) : Prop := PySem.W.kitOne K (.ref C) u = some (subX c d)
/-- the caught error p, of the class c -/
structure Pn (K : PySem.W.Frag) (mg : Str → Option Value) (p : Addr × Obj) (c : Str) (C : Addr) : Prop where
  g : mg c = some (.ref C)
  x : ExcC K C
  z : L2N.Zn (.ref C) none p.2
  f : ∃ vs, p.2.data = .fields vs
/-- the context bears the caught error a, of the class c -/
def InAir (X : Cx) (a : Addr) (c : Str) : Prop := ∃ oe C, (a, oe) ∈ X.pn ∧ Pn X.K X.mg (a, oe) c C
def isX (i : Nat) (a : Addr) (b : Bool) : Rho → R PV := fun ρ => match ρ[i]? with
  | some (.ex a') => if a' = a then .ok (.bl b) else .stuck
  | _ => .stuck
section
variable {X : Cx} {W : WX} {e en : Expr} {pos p : Pos} {i : Nat} {a : Addr} {c d : Str} {b : Bool}
/-- a name that stands for a class d, u in the heap -/
inductive ClsN (X : Cx) : Expr → Str → Value → Prop where
  | own {x : Str} {C : Addr} {q : Pos} (hg : Gl X x) (hm : X.mg x = some (.ref C)) (hd : (x == ("__debug__" : Str)) = false) : ClsN X (.Name x q) x (.ref C)
  | ty {x : Str} {n : String} {q : Pos} (h : PE X (.Name x q) (tC (.ty n))) : ClsN X (.Name x q) x (.type n)
theorem ClsN.pe {u : Value} (h : ClsN X en d u) : ∃ v, ClsV v u ∧ PE X en (tC v) := by
  cases h with
  | own hg hm hd => exact ⟨_, .own _, pe_glob hg hm (v := .ref _) rfl hd⟩
  | ty h => exact ⟨_, .ty _, h⟩
theorem inst_at {X : Cx} {a C : Addr} {oe : Obj} {s : Shared} (P : Pn X.K X.mg (a, oe) c C) (hget : s.heap.get? a = some oe) : PySem.W.InstAt s.heap a oe C none := by
  obtain ⟨vs, hv⟩ := P.f
  have hz := P.z.zc
  obtain ⟨k1, k2, k3, k4⟩ := oe
  obtain ⟨h1, h2⟩ := hz
  simp only at h1 h2 hv
  subst h1 h2 hv
  exact ⟨hget, rfl, rfl, trivial⟩
theorem call_isX {C : Addr} {oe : Obj} (hp : (a, oe) ∈ X.pn) (P : Pn X.K X.mg (a, oe) c C) : CallR X (.builtin "isinstance") (fun xs H Q => ∃ v u b, xs = [V.ref a, v] ∧ ClsV v u ∧ PySem.W.kitOne X.K (.ref C) u = some b ∧ Q (.bl b) H) := by
  intro pins s σ H xs us Q I r ⟨v, u, b, e1, k, e2, q⟩
  subst e1
  obtain ⟨w1, w2, e3, r1, r2⟩ := vals2 r
  subst e3
  cases (show w1 = Value.ref a from r1)
  have e4 := k.eq r2
  subst e4
  have J := inst_at P (I.pin (a, oe) (List.mem_append_left _ hp)).1
  exact PySem.W.kia_one (PySem.W.handS_kitx_exc P.x.hg P.x.hk P.x.hs P.x.hd P.x.ha P.x.hn P.x.ht P.x.hm) I.kIn J e2 (fun z => nomatch z) fun tk => ⟨.bl b, H, I.tok tk, rfl, q⟩
theorem exs_at {K : PySem.W.Frag} {H0 H : Hp} {O0 : Addr → Prop} {σ : St} {ρ : Rho} (S : StR K H0 O0 H σ ρ) (h : ρ[i]? = some (.ex a)) : σ[i]? = some (some (.ref a)) := S.exs i a h
/-- isinstance(e, D), e the caught error -/
theorem e_isX {u : Value} (A : InAir X a c) (mg : X.mg "isinstance" = none) (hg : Gl X "isinstance") (ho : PE X e (tVar i)) (hn : ClsN X en d u) (hk : ∀ C, X.mg c = some (.ref C) → ClsQ X.K X.mg C c d u) (he : starEach [e, en] X.env = (false, eval e X.env) :: starEach [en] X.env := by rfl) (he2 : starEach [en] X.env = (false, eval en X.env) :: starEach [] X.env := by rfl) (hpl : (backTo pos (starEach [en] X.env)).any (·.1) = false := by rfl) :
    EJ X W .s (.Call (.Name "isinstance" p) [e, en] [] pos) (isX i a (subX c d)) := by
  obtain ⟨oe, C, hp, P⟩ := A
  obtain ⟨v, hv, hpe⟩ := hn.pe
  refine pe_imp (pe_callB (call_isX hp P) hg mg PyProof.Rows.boot_isinstance (pa_cons ho (pa_cons hpe pa_nil he2) he) (by decide) (by decide) he hpl) fun σ H Q ⟨H0, O0, ρ, S, G⟩ => ?_
  unfold isX at G
  split at G
  · rename_i a' ha
    split at G
    · rename_i ea
      subst ea
      exact ⟨.ref a', exs_at S ha, v, u, _, rfl, hv, hk C P.g, G _ _ (Same.refl _) (.bl _)⟩
    · exact G.elim
  · exact G.elim
end
/-- what such a def promises, of the error p -/
structure FnX (P : Program) (w : World) (K : PySem.W.Frag) (mg : Str → Option Value) (base : Heap) (CX : CXT) (k : Nat) (f : Addr) (fd : FuncData) (ps : List Str) (p : Addr × Obj) (sp : Sp) : Prop where
  len : ∀ vs H Q E, sp vs H Q E → vs.length = ps.length
  run : ∀ (A : Around) (outer : List PySem.Env) (s : Shared) (H : Hp) (args : Args) (us : List Value) (vs : List V) (Q : VK) (E : XK), L2H.RoomH k A → L2H.Hot1 A p → L2H.PinOk outer H s p → Env0 P w K mg base A outer s H → BindsTo s fd args (ps.zip us) → Vals vs us → sp vs H Q E →
    codeAny (model P w) A (.call (.ref f) args) (CR CX outer P w H s Q E) s
section
variable {P : Program} {w : World} {K : PySem.W.Frag} {mg : Str → Option Value} {base : Heap} {CX : CXT}
theorem fnX_of {x qual : Str} {st : Stmt} {f : Addr} {fd : FuncData} {N ps : List Str} {k : Nat} {sp : Sp} {p : Addr × Obj} (F : Fun K x qual st f fd) (S : FnScope N ps (defScope st)) (len : ∀ vs H Q E, sp vs H Q E → vs.length = ps.length)
    (hbody : ∀ (cdv : Value) (A : Around) (outer : List PySem.Env) (s : Shared) (H : Hp) (vs : List V) (Q : VK) (E : XK), L2H.Hot1 A p → L2H.RoomH k (A.deeper (envOfC qual (defScope st) s.heap.objs.size f cdv)) → sp vs H Q E →
      ∃ t, PSs (L2H.cxH CX P w K mg base N qual (defScope st) f cdv A outer s H E p) (defBody st) t ∧ t { nx := fun _ H' => Q .non H', rt := Q } (L2.start N vs) H) : FnX P w K mg base CX (k + 1) f fd ps p sp := by
  obtain ⟨oc, od, kV, doc, pm, an, cdv, ct, osl, rfl, lk, hcd⟩ := F.ex
  refine ⟨len, fun A outer s H args us vs Q E hr hot hpin e0 hb r hsp => ?_⟩
  have hl := len vs H Q E hsp
  have Kin : K.In s.heap := e0.mod.kin.keeps (fun b o e => (e0.bs b o e).1)
  have lim : s.heap.NoLimit := e0.mod.nolimit.keeps (fun b o e => (e0.bs b o e).1)
  have hkind : ∀ y ∈ ps.zip us, (defScope st).names.lookup y.1 = some .local ∨ ((defScope st).names.lookup y.1 = some .cell ∧ ((cellsFrom (s.heap.objs.size + 1) (defScope st).names []).lookup y.1).isSome = true) := fun ⟨n, v⟩ hy =>
    (S.par n (List.of_mem_zip hy).1).elim .inl fun q => .inr ⟨q, PySem.W.cellsFrom_some _ _ _ (.inl q)⟩
  refine codeAny_call_function hr.depth (Kin _ _ lk) rfl S.co S.gen rfl (PySem.W.codeRec_of Kin hcd) (hb _ _ _ _ ?_)
  refine wpAny_newFunctionEnv_cells S.kind hkind (fun env he s1 ic => ?_)
  subst he
  refine ⟨lim.keeps ic.toInCall.keep, codeAny_func ?_⟩
  obtain ⟨t, ht, hq⟩ := hbody cdv A outer s H vs Q E hot (hr.deeper _) hsp
  have I := L2H.inv_startH (CX := CX) (E := E) (base := base) (mg := mg) S hpin e0 hl r ic
  refine wpAny_mono (ht.run [] s1 _ H _ I hq) ?_ (fun e s' h => h)
  intro fl s' h
  have fin : ∀ {σ' : St} {H' : Hp} {v : V} {u : Value}, Inv (L2H.cxH CX P w K mg base N qual (defScope st) f cdv A outer s H E p) [] σ' H' s' → RelV v u → Q v H' → CE outer P w H s Q u s' :=
    fun {σ' H' v u} J rv q => ⟨v, H', J.os, J.bare, J.base, J.hok, rv, q⟩
  cases fl with
  | ret u =>
    obtain ⟨v, σ', H', J, rv, q⟩ := h
    exact fin J rv q
  | next =>
    obtain ⟨σ', H', J, q⟩ := h
    exact fin (v := V.non) (u := Value.none) J rfl q
  | brk => exact False.elim h.choose_spec.choose_spec.2
  | cont => exact False.elim h.choose_spec.choose_spec.2
theorem run_X {X : Cx} {k : Nat} {f : Addr} {fd : FuncData} {ps : List Str} {sp : Sp} {E : XK} {p : Addr × Obj} {pins : List (Addr × Obj)} {σ : St} {H : Hp} {s : Shared} {Q : VK} {us : List Value} {vs : List V} (F : FnX X.prog X.w X.K X.mg X.base CX k f fd ps p sp) (hr : L2H.RoomH k X.A) (hot : L2H.Hot1 X.A p) (hp : p ∈ X.pn) (hb : L2.Binds X.K fd ps [])
    (hx : ∀ (pins : List (Addr × Obj)) (H : Hp) (s : Shared) (e : Value) (s' : Shared), Inv X pins σ H s → CX X.stack H s E e s' → X.xe e s') (I : Inv X pins σ H s) (r : Vals vs us) (h : sp vs H Q E) : wpAny (model X.prog X.w) X.A (call (.ref f) us) (EP X pins σ Q) X.xe s := by
  have hl : us.length = ps.length := by rw [← r.length]; exact F.len vs H Q E h
  have b := hb s us I.kIn (by rw [List.append_nil]; exact hl)
  rw [List.append_nil] at b
  have pn := I.pin p (List.mem_append_left _ hp)
  have hpin : L2H.PinOk X.stack H s p := ⟨pn.1, pn.2.1, fun hm => (List.mem_cons.mp (I.stkSub p.1 hm)).elim pn.2.2.1 pn.2.2.2.1, pn.2.2.2.2⟩
  refine wpAny_call (codeAny_mono (F.run X.A X.stack s H ⟨us, []⟩ us vs Q E hr hot hpin I.env0 b r h) ?_)
  intro res s' hq
  cases res with
  | error e => exact hx pins H s e s' I hq
  | ok fl =>
    cases fl with
    | ret u => exact I.after hq
    | next => exact hq.elim
    | brk => exact hq.elim
    | cont => exact hq.elim
/-- of the caught error alone -/
def spX (K : PySem.W.Frag) (mg : Str → Option Value) (nw : Bool) (a : Addr) (F : R PV) : Sp := fun vs H Q _ =>
  ∃ O, (∀ b, O b → H b ≠ none) ∧ vs = [.ref a] ∧ (match F with
    | .ok p => ∀ v H', Same H H' → RepR K O nw H H' v p → Q v H'
    | _ => False)
/-- n slots, the first of them the error's -/
def runX (n : Nat) (g : Rho → Out) (a : Addr) : R PV := match g (.ex a :: List.replicate (n - 1) Slot.un) with
  | .ret p => .ok p
  | .next _ => .ok .non
  | .exc c _ => .exc c
  | _ => .stuck
theorem startX {H : Hp} {O : Addr → Prop} {N : List Str} {a : Addr} (hN : 0 < N.length) (al : ∀ b, O b → H b ≠ none) : StR K H O H (L2.start N [.ref a]) (.ex a :: List.replicate (N.length - 1) Slot.un) := by
  have noown : ∀ (i : Nat) qs, (Slot.ex a :: List.replicate (N.length - 1) Slot.un)[i]? ≠ some (.own qs) := fun i qs e => by
    have := List.mem_of_getElem? e
    rcases List.mem_cons.mp this with z | z
    · cases z
    · cases (List.mem_replicate.mp z).2
  refine ⟨by unfold L2.start; simp, Same.refl H, al, fun i qs h => absurd h (noown i qs), fun i j b qs rs h => absurd h (noown i qs), fun i p h => ?_, fun i b h => ?_⟩
  · have := List.mem_of_getElem? h
    rcases List.mem_cons.mp this with z | z
    · cases z
    · cases (List.mem_replicate.mp z).2
  · cases i with
    | zero => cases h; rfl
    | succ i =>
      have := List.mem_of_getElem? (show (List.replicate (N.length - 1) Slot.un)[i]? = some (.ex b) from h)
      cases (List.mem_replicate.mp this).2
theorem fnX_mk {x qual : Str} {st : Stmt} {f : Addr} {fd : FuncData} {N : List Str} {e0 : Str} {k : Nat} {nw : Bool} {g : Rho → Out} {p : Addr × Obj} (F : Fun K x qual st f fd) (S : FnScope N [e0] (defScope st)) (hN : 0 < N.length) (hnw : nw = true → ∀ l, ∀ ρ, g l ≠ .next ρ)
    (hbody : ∀ (cdv : Value) (A : Around) (outer : List PySem.Env) (s : Shared) (H : Hp) (E : XK), L2H.Hot1 (A.deeper (envOfC qual (defScope st) s.heap.objs.size f cdv)) p → L2H.RoomH k (A.deeper (envOfC qual (defScope st) s.heap.objs.size f cdv)) →
      BJ (L2H.cxH (L2N.CX P w) P w K mg base N qual (defScope st) f cdv A outer s H E p) (fun _ _ _ _ => False) nw (defBody st) g) :
    FnX P w K mg base (L2N.CX P w) (k + 1) f fd [e0] p (spX K mg nw p.1 (runX N.length g p.1)) := by
  refine fnX_of F S (fun vs H Q E h => ?_) (fun cdv A outer s H vs Q E hot hr h => ?_)
  · obtain ⟨_, _, e, _⟩ := h
    rw [e]; rfl
  · obtain ⟨O, al, e, h⟩ := h
    subst e
    refine ⟨_, hbody cdv A outer s H E ⟨hot.1, hot.2⟩ hr, H, O, _, startX hN al, ?_⟩
    unfold runX at h
    revert h
    cases hg : g (.ex p.1 :: List.replicate (N.length - 1) Slot.un) with
    | ret q => exact fun h v H' s r => h v H' s r
    | next ρ' =>
      intro h σ' H' S' _
      cases nw with
      | false => exact h _ _ S'.same .non
      | true => exact absurd hg (hnw rfl _ _)
    | exc c ρ' => exact fun h => h.elim
    | brk ρ' => exact fun h => h.elim
    | cont ρ' => exact fun h => h.elim
    | stuck => exact fun h => h.elim
/-- the text's def x, called with a caught error of the class c: F a is what it hands back -/
def OkX (P : Program) (w : World) (K : PySem.W.Frag) (mg : Str → Option Value) (base : Heap) (x : Str) (e0 : Str) (k : Nat) (nw : Bool) (c : Str) (F : Addr → R PV) : Prop :=
  ∃ f fd, mg x = some (.ref f) ∧ PySem.W.keepIn K (.ref f) = true ∧ L2.Binds K fd [e0] [] ∧ ∀ (p : Addr × Obj) C, Pn K mg p c C → FnX P w K mg base (L2N.CX P w) k f fd [e0] p (spX K mg nw p.1 (F p.1))
theorem def_okX {x : Str} {st : Stmt} {N : List Str} {e0 : Str} {k : Nat} {nw : Bool} {c : Str} {g : Addr → Rho → Out} (T : DefE K mg x st [e0]) (S : FnScope N [e0] (defScope st)) (hN : 0 < N.length) (hnw : nw = true → ∀ a l, ∀ ρ, g a l ≠ .next ρ)
    (hbody : ∀ (f : Addr) (cdv : Value) (A : Around) (outer : List PySem.Env) (s : Shared) (H : Hp) (E : XK) (p : Addr × Obj) (C : Addr), Pn K mg p c C → L2H.Hot1 (A.deeper (envOfC x (defScope st) s.heap.objs.size f cdv)) p → L2H.RoomH k (A.deeper (envOfC x (defScope st) s.heap.objs.size f cdv)) →
      BJ (L2H.cxH (L2N.CX P w) P w K mg base N x (defScope st) f cdv A outer s H E p) (fun _ _ _ _ => False) nw (defBody st) (g p.1)) :
    OkX P w K mg base x e0 (k + 1) nw c (fun a => runX N.length (g a) a) := by
  obtain ⟨f, fd, T⟩ := T
  exact ⟨f, fd, T.g, T.F.kp, T.b, fun p C hc => fnX_mk T.F S hN (fun z => hnw z p.1) fun cdv A outer s H E hot hr => hbody f cdv A outer s H E p C hc hot hr⟩
end
/-- the call of such a def -/
def hotC (i : Nat) (a : Addr) (F : Addr → R PV) : Rho → R PV := fun ρ => match ρ[i]? with
  | some (.ex a') => if a' = a then (match F a with
    | .ok p => .ok p
    | _ => .stuck) else .stuck
  | _ => .stuck
section
variable {X : Cx} {W : WX} {e : Expr} {pos q : Pos} {i : Nat} {a : Addr} {c : Str}
theorem e_hot {m : Md} {x e0 : Str} {k j : Nat} {nw : Bool} {F : Addr → R PV} {p : Addr × Obj} {C : Addr} (hp : p ∈ X.pn) (P : Pn X.K X.mg p c C) (hot : L2H.Hot1 X.A p) (hxe : X.xe = fun _ _ => False) (h : OkX X.prog X.w X.K X.mg X.base x e0 j nw c F) (hr : L2H.RoomH k X.A) (hjk : j ≤ k) (hg : Gl X x) (ho : PE X e (tVar i)) (hdb : (x == ("__debug__" : Str)) = false := by decide)
    (he : starEach (e :: []) X.env = (false, eval e X.env) :: starEach [] X.env := by rfl) (hpl : (backTo pos (starEach [] X.env)).any (·.1) = false := by rfl) (hm : mdR nw = m := by rfl) : EJ X W m (.Call (.Name x q) [e] [] pos) (hotC i p.1 F) := by
  subst hm
  obtain ⟨f, fd, h1, h2, h3, h4⟩ := h
  refine ⟨fun pins s σ H Q I ⟨H0, O0, ρ, S, G⟩ => ?_⟩
  unfold hotC at G
  split at G
  · rename_i a' ha
    split at G
    · rename_i ea
      subst ea
      split at G
      · rename_i v0 hv
        refine wpAny_Call_Name_kw (ld_glob I hg h1 ?_ hdb)
        refine PySem.W.callWith_K (h₀ := X.base) I.ok.mod.kin h2 (thn ((pa_cons ho pa_nil he).run pos pins s σ H (fun vs H1 => vs = [V.ref p.1] ∧ H1 = H) I ⟨_, exs_at S ha, rfl, rfl⟩) fun us s1 ⟨vs, H1, I1, r, e1, e2⟩ => ⟨I1.kIn, ?_⟩) he hpl
        subst e1 e2
        have Fx := h4 p C P
        rw [hv] at Fx
        refine run_X (E := fun _ _ _ => False) Fx (hr.mono hjk) hot hp h3 (fun _ _ _ _ _ _ cx => ?_) I1 r ⟨OO O0 σ ρ, fun b z => S.there z, rfl, fun v H' s' r' => ?_⟩
        · obtain ⟨_, _, _, _, _, _, _, _, _, _, _, _, z⟩ := cx
          exact z.elim
        · refine G v H' s' ?_
          cases nw with
          | false => exact r'
          | true => exact r'
      · exact G.elim
    · exact G.elim
  · exact G.elim
end
/-- behind the suite -/
def behindX (i : Nat) : Out → Out
  | .next ρ => .next (ρ.set i .un)
  | .brk ρ => .brk (ρ.set i .un)
  | .cont ρ => .cont (ρ.set i .un)
  | .ret p => .ret p
  | _ => .stuck
open Classical in
noncomputable def tryX (i : Nat) (su : Addr → Rho → Out) (ρ : Rho) : Out := if h : ∃ o, ∀ a, behindX i (su a (ρ.set i (.ex a))) = o then h.choose else .stuck
theorem tryX_of {i : Nat} {su : Addr → Rho → Out} {ρ : Rho} {o : Out} (h : ∀ a, behindX i (su a (ρ.set i (.ex a))) = o) : tryX i su ρ = o := by
  have hx : ∃ o, ∀ a, behindX i (su a (ρ.set i (.ex a))) = o := ⟨o, h⟩
  unfold tryX
  rw [dif_pos hx]
  exact (hx.choose_spec 0).symm.trans (h 0)
theorem tryX_at {i : Nat} {su : Addr → Rho → Out} {ρ : Rho} (h : tryX i su ρ ≠ .stuck) (a : Addr) : behindX i (su a (ρ.set i (.ex a))) = tryX i su ρ := by
  by_cases hx : ∃ o, ∀ a, behindX i (su a (ρ.set i (.ex a))) = o
  · obtain ⟨o, ho⟩ := hx
    rw [tryX_of ho, ho a]
  · unfold tryX at h
    rw [dif_neg hx] at h
    exact absurd rfl h
/-- the context of the suite -/
def suiteC (X : Cx) (a : Addr) (pn : List (Addr × Obj)) : Cx := X.suite a pn
theorem roomS {X : Cx} {k : Nat} {a : Addr} {pn : List (Addr × Obj)} (hr : Room k X.A) : L2H.RoomH k (suiteC X a pn).A := ⟨hr.dp, hr.un⟩
/-- cs: the classes that the clause may take -/
noncomputable def sTry (i : Nat) (cs : List Str) (body : Rho → Out) (su : Str → Addr → Rho → Out) : Rho → Out := fun ρ => match body ρ with
  | .exc c ρ' => if c ∈ cs then tryX i (su c) ρ' else .stuck
  | o => o
section
variable {X : Cx} {W : WX} {nw : Bool} {x n : Str} {cv : Value} {i : Nat} {body suite : List Stmt} {b₀ : Stmt} {np pos pos' : Pos} {g : Rho → Out} {su : Str → Addr → Rho → Out} {cs : List Str}
theorem s_try (hs : X.stack = X.env :: X.outer) (hf : X.env.frame = some X.env.locals) (hN : X.N.Nodup) (hi : X.N[i]? = some n) (hln : X.env.kindOf n = some .local) (hc : Names X x cv) (tk : L2N.Takes X W)
    (hex : ∀ c ∈ cs, ∀ C, X.mg c = some (.ref C) → PySem.W.exmOne X.K (.ref C) cv = some true ∧ ExcC X.K C)
    (hb : ∀ (W' : WX) (pn : List (Addr × Obj)) (xe : Value → Shared → Prop), L2N.Takes (X.tr pn xe) W' → PassesOwn (model X.prog X.w) X.A X.env xe → BJ (X.tr pn xe) W' nw body g)
    (hsu : ∀ (p : Addr × Obj) (pn : List (Addr × Obj)) (c : Str) (C : Addr), c ∈ cs → Pn X.K X.mg p c C → L2H.Hot1 (X.A.mark (some (.ref p.1))) p → BJ (suiteC X p.1 (p :: pn)) (fun _ _ _ _ => False) nw (b₀ :: suite) (su c p.1)) :
    SJ X W nw (.Try body [.ExceptHandler (some (.Name x np)) (some n) (b₀ :: suite) pos'] [] [] pos) (sTry i cs g su) := by
  refine ps_imp (L2N.ps_try_as (tb := fun W' => tS X.K X.mg W' nw g) (ts := fun a cls d D σ H => ∃ c C, c ∈ cs ∧ cls = .ref C ∧ d = none ∧ X.mg c = some (.ref C) ∧ ExcC X.K C ∧ tS X.K X.mg (fun _ _ _ _ => False) nw (su c a) D σ H) hs hf hN hi hln hc tk hb (fun a oe cls d pn hz hv => ⟨fun pins s σ H D I ⟨c, C, hcs, e1, e2, hm, hC, h⟩ => ?_⟩)) fun D σ H ⟨H0, O0, ρ, S, G⟩ => ⟨H0, O0, ρ, S, ?_⟩
  · subst e1 e2
    obtain ⟨vs, hv'⟩ := hv
    exact (hsu (a, oe) pn c C hcs ⟨hm, hC, hz, vs, hv'⟩ ⟨rfl, vs, hv', hz.2.2 vs hv'⟩).run pins s σ H D I h
  · unfold sTry at G
    revert G
    cases g ρ with
    | next ρ' => exact fun G => G
    | brk ρ' => exact fun G => G
    | cont ρ' => exact fun G => G
    | ret p => exact fun G => G
    | stuck => exact fun G => G
    | exc c ρ' =>
      dsimp only
      split
      · rename_i hcs
        intro G C σ' H' hm S' k'
        obtain ⟨h1, h2⟩ := hex c hcs C hm
        refine ⟨true, h1, fun _ a na => ⟨c, C, hcs, rfl, rfl, hm, h2, ?_⟩, fun z => nomatch z⟩
        have ns : tryX i (su c) ρ' ≠ .stuck := fun z => by rw [z] at G; exact G
        have ea := tryX_at ns a
        rw [← ea] at G
        have S2 : StR X.K H0 O0 H' (σ'.set i (some (.ref a))) (ρ'.set i (.ex a)) := S'.set (s := .ex a) (fun _ z => nomatch z) (fun _ z => nomatch z) fun b z => by cases z; rfl
        have k2 : Kept (OO O0 σ ρ) H (OO O0 (σ'.set i (some (.ref a))) (ρ'.set i (.ex a))) H' := k'.trans (kept_set (s := .ex a) (fun _ z => nomatch z) (Same.refl _))
        refine ⟨H0, O0, _, S2, ?_⟩
        have back : ∀ {σ2 : St} {ρ2 : Rho} {H2 : Hp}, StR X.K H0 O0 H2 σ2 ρ2 → Kept (OO O0 (σ'.set i (some (.ref a))) (ρ'.set i (.ex a))) H' (OO O0 σ2 ρ2) H2 → StR X.K H0 O0 H2 (σ2.set i none) (ρ2.set i .un) ∧ Kept (OO O0 σ ρ) H (OO O0 (σ2.set i none) (ρ2.set i .un)) H2 := fun S3 k3 =>
          ⟨S3.set (s := .un) (fun _ z => nomatch z) (fun _ z => nomatch z), (k2.trans k3).trans (kept_set (s := .un) (fun _ z => nomatch z) (Same.refl _))⟩
        revert G
        cases su c a (ρ'.set i (.ex a)) with
        | next ρ2 => exact fun G σ2 H2 S3 k3 => G _ _ (back S3 k3).1 (back S3 k3).2
        | brk ρ2 => exact fun G σ2 H2 S3 k3 => G _ _ (back S3 k3).1 (back S3 k3).2
        | cont ρ2 => exact fun G σ2 H2 S3 k3 => G _ _ (back S3 k3).1 (back S3 k3).2
        | ret p => exact fun G => G
        | exc c ρ2 => exact fun G => G.elim
        | stuck => exact fun G => G.elim
      · exact fun G => G.elim
end
def KQ (K : PySem.W.Frag) (mg : Str → Option Value) (c d : Str) : Prop := ∀ C D, mg c = some (.ref C) → mg d = some (.ref D) → PySem.W.kitOne K (.ref C) (.ref D) = some (subX c d)
def KE (K : PySem.W.Frag) (mg : Str → Option Value) (c d : Str) : Prop := ∀ C D, mg c = some (.ref C) → mg d = some (.ref D) → PySem.W.exmOne K (.ref C) (.ref D) = some true ∧ ExcC K C
theorem fa_nil {α : Type} {P : α → Prop} : ∀ c ∈ ([] : List α), P c := fun _ h => nomatch h
theorem fa_cons {α : Type} {P : α → Prop} {c : α} {l : List α} (h : P c) (r : ∀ c ∈ l, P c) : ∀ d ∈ c :: l, P d := fun d hd => by
  rcases List.mem_cons.mp hd with e | hd
  · rw [e]; exact h
  · exact r d hd
section
variable {K : PySem.W.Frag} {h : Heap} {mg : Str → Option Value} {c d : Str} {U V' : Addr}
theorem kq_mk (X : K.In h) (G : h.Ns mainGlobals mg) {b : Bool} (a1 : PySem.W.nsIn K mainGlobals c = some (some (.ref U))) (a2 : PySem.W.nsIn K mainGlobals d = some (some (.ref V'))) (k : PySem.W.kitOne K (.ref U) (.ref V') = some b) (hb : b = subX c d) : KQ K mg c d := fun C D h1 h2 => by
  cases h1.symm.trans (PySem.W.mg_of X G a1)
  cases h2.symm.trans (PySem.W.mg_of X G a2)
  rw [← hb]; exact k
theorem subX_VE {c : Str} : subX c "ValueError" = true := by
  unfold subX
  rw [show (("ValueError" : Str) == "ValueError") = true by decide, Bool.or_true]
theorem kv_mk (X : K.In h) (G : h.Ns mainGlobals mg) (a1 : PySem.W.nsIn K mainGlobals c = some (some (.ref U))) (k : PySem.W.kitOne K (.ref U) (.type "ValueError") = some true) : ∀ C, mg c = some (.ref C) → PySem.W.kitOne K (.ref C) (.type "ValueError") = some (subX c "ValueError") := fun C h1 => by
  cases h1.symm.trans (PySem.W.mg_of X G a1)
  rw [subX_VE]
  exact k
theorem ke_mk (X : K.In h) (G : h.Ns mainGlobals mg) (a1 : PySem.W.nsIn K mainGlobals c = some (some (.ref U))) (a2 : PySem.W.nsIn K mainGlobals d = some (some (.ref V'))) (lb : PySem.W.subIn K (.ref V') (.type "BaseException") = some true) (ld : PySem.W.hasDictIn K V' = true) (lt : PySem.W.typeIn K (.ref V') = some (.type "type")) (s : PySem.W.subIn K (.ref U) (.ref V') = some true) (x : ExcC K U) : KE K mg c d := fun C D h1 h2 => by
  cases h1.symm.trans (PySem.W.mg_of X G a1)
  cases h2.symm.trans (PySem.W.mg_of X G a2)
  exact ⟨PySem.W.exm_ref lb ld lt s, x⟩
end
end PL
set_option Elab.async false
set_option linter.all false
set_option maxRecDepth 100000
set_option autoImplicit false
namespace PL
open PySem PySem.Spec L2
open PyProof.Rows hiding St
def DefED (K : PySem.W.Frag) (mg : Str → Option Value) (x : Str) (st : Stmt) (ps : List Str) : Prop :=
  ∃ f fd ds, mg x = some (.ref f) ∧ FunD K x x (defArgs st) (defBody st) (defScope st) [.int 1] [] f fd ∧ L2.Binds K fd ps [] ∧ Vals [V.int 1] ds ∧ L2.Binds K fd ps ds
section
variable {P : Program} {w : World} {K : PySem.W.Frag} {mg : Str → Option Value} {base : Heap}
theorem defED_mk {h : Heap} (X : K.In h) (G : h.Ns mainGlobals mg) {x p q : Str} {st : Stmt} {f T : Addr} {od an td : Option Addr} {sl sl2 : Array (Option Value)} {oc kV dc pm cd ct tc : Value} {m : Nat} {t : Tok}
    (a : PySem.W.nsIn K mainGlobals x = some (some (.ref f))) (l : K.lookup f = some ⟨oc, od, .func (PySem.W.fnOf x x (defArgs st) (defBody st) (defScope st) (.ref T) kV dc pm an cd ct), sl⟩) (c : PySem.W.codeIn K cd x = true) (k : PySem.W.keepIn K (.ref f) = true)
    (lt : K.lookup T = some ⟨tc, td, .seq #[.int 1 t] m, sl2⟩)
    (h2 : ∀ (T : Addr) (kV doc pm : Value) (an : Option Addr) (cdv ct : Value) (us its : List Value), us.length = 2 → its.length = 1 → ∃ k, bindArgs (PySem.W.fnOf x x (defArgs st) (defBody st) (defScope st) (.ref T) kV doc pm an cdv ct) ⟨us, []⟩ = seqItems? (.ref T) >>= k ∧ k (some its.toArray) = pure ([p, q].zip (us ++ its.drop 1)))
    (h1 : ∀ (T : Addr) (kV doc pm : Value) (an : Option Addr) (cdv ct : Value) (us its : List Value), us.length = 1 → its.length = 1 → ∃ k, bindArgs (PySem.W.fnOf x x (defArgs st) (defBody st) (defScope st) (.ref T) kV doc pm an cdv ct) ⟨us, []⟩ = seqItems? (.ref T) >>= k ∧ k (some its.toArray) = pure ([p, q].zip (us ++ its.drop 0))) : DefED K mg x st [p, q] := by
  have F : FunD K x x (defArgs st) (defBody st) (defScope st) [.int 1] [] f (PySem.W.fnOf x x (defArgs st) (defBody st) (defScope st) (.ref T) kV dc pm an cd ct) :=
    ⟨⟨oc, od, _, kV, dc, pm, an, cd, ct, sl, rfl, l, c, .inr ⟨(fun z => nomatch z), T, _, [.int 1 t], m, rfl, lt, rfl, .cons ⟨t, rfl⟩ .nil⟩, .inl rfl⟩, k⟩
  obtain ⟨ds, v1, b1⟩ := F.binds1 1 0 (fun z => nomatch z) rfl h1
  obtain ⟨ds0, v0, b0⟩ := F.binds1 2 1 (fun z => nomatch z) rfl h2
  cases (show Vals [] ds0 from v0)
  exact ⟨f, _, ds, PySem.W.mg_of X G a, F, b0, v1, b1⟩
/-- called with the default -/
def OkD1 (P : Program) (w : World) (K : PySem.W.Frag) (mg : Str → Option Value) (base : Heap) (x : Str) (ps : List Str) (k n : Nat) (nw : Bool) (F : List PV → R PV) : Prop :=
  ∃ f fd ds, mg x = some (.ref f) ∧ PySem.W.keepIn K (.ref f) = true ∧ Vals [V.int 1] ds ∧ L2.Binds K fd ps ds ∧ FnOk P w K mg base (L2N.CX P w) k f fd ps (spF K mg n nw F)
theorem fn_mkD {x qual : Str} {st : Stmt} {f : Addr} {fd : FuncData} {dvs : List V} {N ps : List Str} {k n : Nat} {nw : Bool} {g : Rho → Out} (F : FunD K x qual (defArgs st) (defBody st) (defScope st) dvs [] f fd) (S : FnScope N ps (defScope st)) (hn : n = ps.length) (hnw : nw = true → ∀ l, ∀ ρ, g l ≠ .next ρ)
    (hbody : ∀ (cdv : Value) (A : Around) (outer : List PySem.Env) (s : Shared) (H : Hp) (E : XK), Room k (A.deeper (envOfC qual (defScope st) s.heap.objs.size f cdv)) →
      BJ (cxOf (L2N.CX P w) P w K mg base N qual (defScope st) f cdv A outer s H E) (fun cls d _ H => E cls d H) nw (defBody st) g) :
    FnOk P w K mg base (L2N.CX P w) (k + 1) f fd ps (spF K mg n nw (runF N.length g)) := by
  refine F.ok S (fun vs H Q E h => ?_) (fun cdv A outer s H vs Q E hr h => ?_)
  · obtain ⟨_, _, _, _, e, _⟩ := h
    rw [e, hn]
  · obtain ⟨qs, O, al, r, e, h⟩ := h
    refine ⟨_, hbody cdv A outer s H E hr, H, O, _, start_st al r, ?_⟩
    have h' : (match runF N.length g qs with
      | .ok p => ∀ v H', Same H H' → RepR K O nw H H' v p → Q v H'
      | .exc c => ∀ C H', Same H H' → mg c = some (.ref C) → E (.ref C) none H'
      | .stuck => False) := h
    unfold runF at h'
    revert h'
    cases hg : g (qs.map Slot.val ++ List.replicate (N.length - qs.length) Slot.un) with
    | ret p => exact fun h v H' s r => h v H' s r
    | next ρ' =>
      intro h σ' H' S' _
      cases nw with
      | false => exact h _ _ S'.same .non
      | true => exact absurd hg (hnw rfl _ _)
    | exc c ρ' => exact fun h C σ' H' e S' _ => h C H' S'.same e
    | brk ρ' => exact False.elim
    | cont ρ' => exact False.elim
    | stuck => exact False.elim
theorem def_okD {x : Str} {st : Stmt} {N ps : List Str} {k n : Nat} {nw : Bool} {g : Rho → Out} (T : DefED K mg x st ps) (S : FnScope N ps (defScope st)) (hn : n = ps.length) (hnw : nw = true → ∀ l, ∀ ρ, g l ≠ .next ρ)
    (hbody : ∀ (f : Addr) (cdv : Value) (A : Around) (outer : List PySem.Env) (s : Shared) (H : Hp) (E : XK), Room k (A.deeper (envOfC x (defScope st) s.heap.objs.size f cdv)) →
      BJ (cxOf (L2N.CX P w) P w K mg base N x (defScope st) f cdv A outer s H E) (fun cls d _ H => E cls d H) nw (defBody st) g) :
    Okd P w K mg base x ps (k + 1) n nw (runF N.length g) ∧ OkD1 P w K mg base x ps (k + 1) n nw (runF N.length g) := by
  obtain ⟨f, fd, ds, hm, F, b0, v1, b1⟩ := T
  have q := fn_mkD F S hn hnw (hbody f)
  exact ⟨⟨f, fd, hm, F.kp, b0, q⟩, f, fd, ds, hm, F.kp, v1, b1, q⟩
end
section
variable {X : Cx} {W : WX} {e : Expr} {es : List Expr} {pos p : Pos} {fA : Rho → R (List PV)}
theorem e_callD1 {x : Str} {k j n : Nat} {nw : Bool} {F : List PV → R PV} {pn : List Str} (h : OkD1 X.prog X.w X.K X.mg X.base x pn j n nw F) (hr : Room k X.A) (hjk : j ≤ k) (tk : L2N.Takes X W) (hg : Gl X x) (ha : AJ X W .s (e :: es) fA) {m : Nat} (hal : ALen fA m) (hlen : n = es.length + 1 + 1 := by rfl) (hm : m = es.length + 1 := by rfl) (hdb : (x == ("__debug__" : Str)) = false := by decide)
    (he : starEach (e :: es) X.env = (false, eval e X.env) :: starEach es X.env := by rfl) (hpl : (backTo pos (starEach es X.env)).any (·.1) = false := by rfl) : EJ X W (mdR nw) (.Call (.Name x p) (e :: es) [] pos) (eD (fun ps => F (ps ++ [.int 1])) fA) := by
  obtain ⟨f, fd, ds, h1, h2, h3, h4, h5⟩ := h
  exact e_call (p := p) (pos := pos) (dvs := [.int 1]) (dps := [.int 1]) (ds := ds) h5 (hr.mono hjk) hg h1 h2 h4 h3 (fun _ _ => .cons (.int 1) .nil) tk ha hlen (by rw [← hm]; exact hal.ok) hdb he hpl
end
section
variable {prog : Program} {w : World} {A : Around} {E : Value → Shared → Prop} {s : Shared}
theorem list_end_hot {it l x1 : Addr} {i : Nat} {items : Array Value} {Q : Option Value → Shared → Prop} (hot : HotX.HotAt A x1 s.heap) (hit : s.heap.IsListIter it l i) (hl : s.heap.IsList l items) (hx : items[i]? = none)
    (hQ : ∀ h', (∀ b o, b ≠ it → s.heap.get? b = some o → h'.get? b = some o) → Q none { s with heap := h' }) : wpAny (model prog w) A (pyNext (.ref it)) Q E s := by
  have ty := hit.typeIs
  obtain ⟨o, ho, hc, hd⟩ := id hit
  obtain ⟨ol, hol, h0, nl, hdl⟩ := hl
  obtain ⟨hh, o1, vs1, h1, d1, c1⟩ := hot
  have ne : it ≠ x1 := fun z => by
    rw [← z, ho] at h1
    cases h1
    rw [hd] at d1
    cases d1
    cases c1
  unfold pyNext
  refine wpAny_bind (wpAny_attempt (wpAny_callSpecial?_slot (name := Str.ofString "__next__") ty slot_listiter_next (wpAny_call_entry slot_listiter_next ty entry_listiter_next ?_ (args_listiter_next _))))
  (show wpAny _ _ (field (.ref it) 0 >>= _) _ _ s); (refine wpAny_bind (wpAny_field ho hd (x := .ref l) rfl ?_))
  (show wpAny _ _ (if (Value.ref l == Value.none) = true then _ else _) _ _ s); (rw [if_neg (show ¬ ((Value.ref l == Value.none) = true) from Bool.false_ne_true)])
  (show wpAny _ _ (field (.ref it) 1 >>= _) _ _ s); (refine wpAny_bind (wpAny_field ho hd (x := .int i 0) rfl ?_))
  (show wpAny _ _ (seqItems? (.ref l) >>= _) _ _ s); (refine wpAny_bind (wpAny_seqItems hol hdl ?_)); (simp only [Int.toNat_natCast, hx])
  (refine wpAny_bind (wpAny_rule (wpAny_bind (wpAny_setField ho hd (by simp) ?_)))); (show wpAny _ _ (newExc (.type "StopIteration") [] >>= _) _ _ _)
  (refine wpAny_bind ?_); (simp only [newExc, newTuple]); (refine wpAny_bind (wpAny_newObj_type ?_ (by size_fits)))
  (refine wpAny_bind (m := firstArgMember _ _) (wpAny_of_eq (a := Value.none) (by first | rfl | (simp only [firstArgMember]; rfl)) ?_)); (refine wpAny_newObj_type ?_ (by size_fits))
  refine HotX.raiseNew_hot (x1 := x1) ⟨hh, o1, vs1, Heap.get?_push_of_some _ (Heap.get?_push_of_some _ ((Heap.get?_update_other _ _ ne).trans h1)), d1, c1⟩ (Nat.ne_of_lt (Heap.lt_size (Heap.get?_push_of_some _ ((Heap.get?_update_other _ _ ne).trans h1)))) (Heap.get?_push_size _ rfl) rfl (by first | (simp; done) | (simp; omega) | (simp only [Array.size_append]; simp; omega)) ?_
  refine wpAny_bind (wpAny_isInstance (T := "StopIteration") (b := true) ⟨_, Heap.get?_update_self _ (Heap.get?_push_size _ rfl) rfl, rfl⟩ isSubtype_stop (wpAny_pure (hQ _ fun b o hb e => ?_)))
  have e1 := Heap.get?_push_of_some { cls := .type "tuple", data := .seq #[] } ((Heap.get?_update_other s.heap (Obj.mapFields (·.setIfInBounds 0 .none)) (Ne.symm hb)).trans e)
  refine (Heap.get?_update_other _ _ (Nat.ne_of_gt (Heap.lt_size e1))).trans ?_
  exact Heap.get?_push_of_some _ e1
theorem walks_hot (I ax x1 : Addr) (hne : ax ≠ I) (hx : x1 ≠ I) (items : Array Value) : Walks prog w A I [I, ax, x1] [I] items.size (fun i v => items[i]? = some v) (fun i h => h.IsListIter I ax i ∧ h.IsList ax items ∧ HotX.HotAt A x1 h) where
  sub := fun b hb => by simp at hb; simp [hb]
  frame := fun _ _ _ st hk => ⟨st.1.at fun o e => hk I (by simp) o e, st.2.1.at fun o e => hk ax (by simp) o e, by
    obtain ⟨hh, o, vs, h1, h2, h3⟩ := st.2.2
    exact ⟨hh, o, vs, hk x1 (by simp) o h1, h2, h3⟩⟩
  item := fun i s Q E hi st hQ => by
    refine wpAny_pyNext_list_item st.1 st.2.1 (x := items[i]) (by simp [hi]) (fun h' hit' hs' => ?_)
    obtain ⟨hh, o, vs, h1, h2, h3⟩ := st.2.2
    refine hQ _ h' s.toks (by simp [hi]) ⟨hit', st.2.1.extBut hs'.extBut hne, hh, o, vs, hs'.extBut x1 o hx h1, h2, h3⟩ (fun b o hb e => hs'.extBut b o (fun z => hb (by simp [z])) e)
  done := fun s Q E st hQ => list_end_hot st.2.2 st.1 st.2.1 (by simp) (fun h' he' => hQ h' s.toks (fun b o hb e => he' b o (fun z => hb (by simp [z])) e))
  self := fun _ _ _ _ st hQ => wpAny_pyIter_listiter st.1 hQ
end
section
variable {X : Cx}
theorem cr_anyH {p : Addr × Obj} (hp : p ∈ X.pn) (hot : L2H.Hot1 X.A p) : CallR X (.builtin "any") (rAny X.K) := by
  intro pins s σ H vs us Q I r ⟨a, bs, e0, hs, q⟩
  subst e0
  obtain ⟨its, rv, hl, _⟩ := I.list hs
  rw [Vals.ref1 r]
  have hb := rv.bls
  have hget := (I.pin p (List.mem_append_left _ hp)).1
  obtain ⟨hh, v1, d1, c1⟩ := hot
  have hlt := Heap.lt_size hget
  refine call_any_walk (iter_any hl.isList (fun s₂ e2 st hne => ?_))
  subst e2
  refine ⟨_, _, _, _, _, _, _, rfl, walks_hot (A := X.A.in1) _ a p.1 hne (Nat.ne_of_lt hlt) its.toArray, ⟨st.1, st.2, hh, p.2, v1, Heap.get?_push_of_some _ hget, d1, c1⟩, truth_bools hb, (fun h' tk hk => ?_)⟩
  refine ⟨.bl _, H, I.kept (fun b o eo => hk b o (fun hmem => ?_) (Heap.get?_push_of_some _ eo)), ?_, q⟩
  · rcases List.mem_cons.mp hmem with z | z
    · exact absurd (z ▸ Heap.lt_size eo) (Nat.lt_irrefl _)
    · cases z
  · (show Value.bool _ = Value.bool _); (rw [← L2.any_range, hb, List.size_toArray, List.length_map])
variable {W : WX} {e : Expr} {pos p' : Pos} {fA : Rho → R (List PV)}
theorem e_anyH {p : Addr × Obj} (hp : p ∈ X.pn) (hot : L2H.Hot1 X.A p) (mg : X.mg "any" = none) (hg : Gl X "any") (ha : AJ X W .t [e] fA) (he : starEach [e] X.env = (false, eval e X.env) :: starEach [] X.env := by rfl) : EJ X W .s (.Call (.Name "any" p') [e] [] pos) (eD anyP fA) := e_callB (cr_anyH hp hot) anyP_exc (s_any _) hg mg (by decide +kernel) ha (he := he)
end
end PL
set_option Elab.async false
set_option linter.all false
set_option maxRecDepth 100000
set_option autoImplicit false
namespace PL
open PySem PySem.Spec L2
open PyProof.Rows hiding St
/-- an equation that is not taken for a computation -/
theorem nr {α : Sort _} {a b : α} (h : a = b) : a = b := h
section
variable {p q x y : PV} {ρ : Rho} {f g h : Rho → R PV} {i j : Nat} {a b c : Int} {k l : Bool} {ps qs : List PV} {s t : Slot}
@[simp] theorem eC_eq : eC p ρ = .ok p := nr rfl
@[simp] theorem eV0 : eV 0 (.val p :: ρ) = .ok p := nr rfl
@[simp] theorem eVs : eV (i + 1) (s :: ρ) = eV i ρ := by simp [eV]
@[simp] theorem eVo0 : eVo 0 (.val p :: ρ) = .ok p := nr rfl
@[simp] theorem eVo0' : eVo 0 (.own ps :: ρ) = .ok (.lst ps) := nr rfl
@[simp] theorem eVos : eVo (i + 1) (s :: ρ) = eVo i ρ := by simp [eVo]
@[simp] theorem bind1 {α β : Type} (a : α) (k : α → R β) : (R.ok a).bind k = k a := nr rfl
@[simp] theorem bind2 {α β : Type} (c : Str) (k : α → R β) : (R.exc c : R α).bind k = .exc c := nr rfl
@[simp] theorem bind3 {α β : Type} (k : α → R β) : (R.stuck : R α).bind k = .stuck := nr rfl
@[simp] theorem e2_eq {w : PV → PV → R PV} : e2 w f g ρ = (f ρ).bind fun x => (g ρ).bind fun y => w x y := nr rfl
@[simp] theorem e1_eq {w : PV → R PV} : e1 w f ρ = (f ρ).bind w := nr rfl
@[simp] theorem eD_eq {w : List PV → R PV} {fA : Rho → R (List PV)} : eD w fA ρ = (fA ρ).bind w := nr rfl
@[simp] theorem aNil_eq : aNil ρ = .ok [] := nr rfl
@[simp] theorem aCons_eq {fA : Rho → R (List PV)} : aCons f fA ρ = (f ρ).bind fun p => (fA ρ).bind fun ps => .ok (p :: ps) := nr rfl
@[simp] theorem tB1_eq : tB1 f ρ = (f ρ).bind asB := nr rfl
@[simp] theorem asB_eq : asB (.bl k) = .ok k := nr rfl
@[simp] theorem asI_eq : asI (.int a) = .ok a := nr rfl
@[simp] theorem tNt_eq {u : Rho → R Bool} : tNt u ρ = (u ρ).bind fun b => .ok (!b) := nr rfl
@[simp] theorem tAn_eq {u v : Rho → R Bool} : tAn u v ρ = (u ρ).bind fun b => if b = true then v ρ else .ok false := nr rfl
@[simp] theorem tOr_eq {u v : Rho → R Bool} : tOr' u v ρ = (u ρ).bind fun b => if b = true then .ok true else v ρ := nr rfl
@[simp] theorem eAn_eq : eAn f g ρ = (f ρ).bind fun p => (asB p).bind fun b => if b = true then g ρ else .ok (.bl false) := nr rfl
@[simp] theorem eOr_eq : eOr f g ρ = (f ρ).bind fun p => (asB p).bind fun b => if b = true then .ok (.bl true) else g ρ := nr rfl
@[simp] theorem notP_eq : notP (.bl k) = .ok (.bl (!k)) := nr rfl
@[simp] theorem negP_eq : negP (.int a) = .ok (.int (-a)) := nr rfl
@[simp] theorem eIf_eq {u : Rho → R Bool} : eIf u f g ρ = (u ρ).bind fun b => if b = true then f ρ else g ρ := nr rfl
@[simp] theorem eChain_eq {w1 w2 : PV → PV → R PV} : eChain w1 w2 f g h ρ = (f ρ).bind fun x => (g ρ).bind fun y => (w1 x y).bind fun z => (asB z).bind fun k => if k = true then (h ρ).bind fun w => w2 y w else .ok (.bl false) := nr rfl
@[simp] theorem addP_ii : addP (.int a) (.int b) = .ok (.int (a + b)) := nr rfl
@[simp] theorem iadd_ii : intP (fun _ _ => true) (fun a b => PV.int (a + b)) (.int a) (.int b) = .ok (.int (a + b)) := nr rfl
@[simp] theorem subP_ii : subP (.int a) (.int b) = .ok (.int (a - b)) := nr rfl
@[simp] theorem ltP_ii : ltP (.int a) (.int b) = .ok (.bl (decide (a < b))) := nr rfl
@[simp] theorem leP_ii : leP (.int a) (.int b) = .ok (.bl (decide (a ≤ b))) := nr rfl
@[simp] theorem gtP_ii : gtP (.int a) (.int b) = .ok (.bl (decide (b < a))) := nr rfl
@[simp] theorem geP_ii : geP (.int a) (.int b) = .ok (.bl (decide (b ≤ a))) := nr rfl
theorem mulP_ii (h : okMul a b = true) : mulP (.int a) (.int b) = .ok (.int (a * b)) := by
  show (if okMul a b = true then _ else _) = _
  rw [if_pos h]
theorem modP_ii (h : b ≠ 0) : modP (.int a) (.int b) = .ok (.int (a.fmod b)) := by
  show (if decide (b ≠ 0) = true then _ else _) = _
  rw [if_pos (decide_eq_true h)]
theorem modP_pos (h : 0 < b) : modP (.int a) (.int b) = .ok (.int (a % b)) := by
  rw [modP_ii (by omega), Int.fmod_eq_emod_of_nonneg a (by omega)]
theorem log2_lt {n m : Nat} (h : n < 2 ^ m) (hm : 0 < m) : n.log2 < m := by
  by_cases h0 : n = 0
  · subst h0; simpa using hm
  · exact (Nat.log2_lt h0).mpr h
theorem fdivP_ii (h : b ≠ 0) (h2 : b.natAbs < 2 ^ 9000) : fdivP (.int a) (.int b) = .ok (.int (a.fdiv b)) := by
  show (if okDiv a b = true then _ else _) = _
  have h3 : b.natAbs.log2 < 9000 := log2_lt h2 (by omega)
  rw [if_pos]
  show (decide (b ≠ 0) && decide (b.natAbs.log2 < 9000)) = true
  rw [decide_eq_true h, decide_eq_true h3] <;> rfl
theorem okMul_of {m n : Nat} (ha : a.natAbs < 2 ^ m) (hb : b.natAbs < 2 ^ n) (h : m + n ≤ 1000000) (hm : 0 < m) (hn : 0 < n) : okMul a b = true := by
  have h1 := log2_lt ha hm
  have h2 := log2_lt hb hn
  exact decide_eq_true (by omega)
theorem powP_ii (h0 : 0 ≤ b) (h1 : b ≤ 1000000) (h2 : a.natAbs < 2 ^ 64) : powP (.int a) (.int b) = .ok (.int (a ^ b.toNat)) := by
  show (if okPow a b = true then _ else _) = _
  rw [if_pos]
  show (decide (0 ≤ b) && decide (b ≤ 1000000) && decide (a.natAbs < 2 ^ 64)) = true
  rw [decide_eq_true h0, decide_eq_true h1, decide_eq_true h2] <;> rfl
/-- what may be compared -/
@[simp] theorem okD_int {n : Nat} : okD n (.int a) = true := by cases n <;> rfl
@[simp] theorem okD_bl {n : Nat} : okD n (.bl k) = true := by cases n <;> rfl
@[simp] theorem okD_non {n : Nat} : okD n .non = true := by cases n <;> rfl
@[simp] theorem okD_lst {n : Nat} : okD (n + 1) (.lst ps) = ps.all (okD n) := nr rfl
@[simp] theorem okD_tup {n : Nat} : okD (n + 1) (.tup ps) = ps.all (okD n) := nr rfl
@[simp] theorem okD_frz {n : Nat} : okD (n + 1) (.frz ps) = ps.all (okD n) := nr rfl
@[simp] theorem okD_str {n : Nat} {z : Str} : okD n (.str z) = PyData.strOk z := by cases n <;> rfl
@[simp] theorem eqV_ii : eqV' (.int a) (.int b) = (a == b) := by simp only [eqV']
@[simp] theorem eqV_bb : eqV' (.bl k) (.bl l) = (k == l) := by simp only [eqV']
@[simp] theorem eqV_ss {u v : Str} : eqV' (.str u) (.str v) = (u == v) := by simp only [eqV']
@[simp] theorem eqV_ll : eqV' (.lst ps) (.lst qs) = eqVs ps qs := by simp only [eqV']
@[simp] theorem eqV_tt : eqV' (.tup ps) (.tup qs) = eqVs ps qs := by simp only [eqV']
@[simp] theorem eqVs_nn : eqVs [] [] = true := by simp only [eqVs]
@[simp] theorem eqVs_cc : eqVs (p :: ps) (q :: qs) = (eqV' p q && eqVs ps qs) := by simp only [eqVs]
@[simp] theorem eqVs_cn : eqVs (p :: ps) [] = false := by simp only [eqVs]
@[simp] theorem eqVs_nc : eqVs [] (q :: qs) = false := by simp only [eqVs]
theorem eqP_ok (h : okD 30 p = true) (h2 : okD 30 q = true) : eqP p q = .ok (.bl (eqV' p q)) := by
  unfold eqP; rw [h, h2, Bool.and_self, if_pos rfl]
theorem neP_ok (h : okD 30 p = true) (h2 : okD 30 q = true) : neP p q = .ok (.bl (!eqV' p q)) := by
  unfold neP; rw [h, h2, Bool.and_self, if_pos rfl]
@[simp] theorem eqP_ii : eqP (.int a) (.int b) = .ok (.bl (a == b)) := by rw [eqP_ok okD_int okD_int, eqV_ii]
@[simp] theorem neP_ii : neP (.int a) (.int b) = .ok (.bl (!(a == b))) := by rw [neP_ok okD_int okD_int, eqV_ii]
@[simp] theorem eqP_bb : eqP (.bl k) (.bl l) = .ok (.bl (k == l)) := by rw [eqP_ok okD_bl okD_bl, eqV_bb]
@[simp] theorem neP_bb : neP (.bl k) (.bl l) = .ok (.bl (!(k == l))) := by rw [neP_ok okD_bl okD_bl, eqV_bb]
/-- kinds -/
@[simp] theorem isi_ii : isiP "int" (.int a) = .ok (.bl true) := by have e : kitB "int" "int" = some true := by decide +kernel
                                                                    unfold isiP tyN; rw [e]
@[simp] theorem isi_ib : isiP "int" (.bl k) = .ok (.bl true) := by have e : kitB "bool" "int" = some true := by decide +kernel
                                                                   unfold isiP tyN; rw [e]
@[simp] theorem isi_in : isiP "int" .non = .ok (.bl false) := by have e : kitB "NoneType" "int" = some false := by decide +kernel
                                                                 unfold isiP tyN; rw [e]
@[simp] theorem isi_is {z : Str} : isiP "int" (.str z) = .ok (.bl false) := by have e : kitB "str" "int" = some false := by decide +kernel
                                                                               unfold isiP tyN; rw [e]
@[simp] theorem isi_it : isiP "int" (.tup ps) = .ok (.bl false) := by have e : kitB "tuple" "int" = some false := by decide +kernel
                                                                      unfold isiP tyN; rw [e]
@[simp] theorem isi_il : isiP "int" (.lst ps) = .ok (.bl false) := by have e : kitB "list" "int" = some false := by decide +kernel
                                                                      unfold isiP tyN; rw [e]
@[simp] theorem isi_if : isiP "int" (.frz ps) = .ok (.bl false) := by have e : kitB "list" "int" = some false := by decide +kernel
                                                                      unfold isiP tyN; rw [e]
@[simp] theorem isi_id : isiP "int" .dct = .ok (.bl false) := by have e : kitB "dict" "int" = some false := by decide +kernel
                                                                 unfold isiP tyN; rw [e]
@[simp] theorem isi_bi : isiP "bool" (.int a) = .ok (.bl false) := by have e : kitB "int" "bool" = some false := by decide +kernel
                                                                      unfold isiP tyN; rw [e]
@[simp] theorem isi_bb : isiP "bool" (.bl k) = .ok (.bl true) := by have e : kitB "bool" "bool" = some true := by decide +kernel
                                                                    unfold isiP tyN; rw [e]
def isT : PV → Bool
  | .tup _ => true
  | _ => false
theorem isi_tuple : isiP "tuple" p = .ok (.bl (isT p)) := by
  have e1 : kitB "NoneType" "tuple" = some false := by decide +kernel
  have e2 : kitB "bool" "tuple" = some false := by decide +kernel
  have e3 : kitB "int" "tuple" = some false := by decide +kernel
  have e4 : kitB "str" "tuple" = some false := by decide +kernel
  have e5 : kitB "tuple" "tuple" = some true := by decide +kernel
  have e6 : kitB "list" "tuple" = some false := by decide +kernel
  have e7 : kitB "dict" "tuple" = some false := by decide +kernel
  cases p <;> simp [isiP, tyN, e1, e2, e3, e4, e5, e6, e7, isT]
def isB : PV → Bool
  | .bl _ => true
  | _ => false
theorem isi_bool : isiP "bool" p = .ok (.bl (isB p)) := by
  have e1 : kitB "NoneType" "bool" = some false := by decide +kernel
  have e2 : kitB "bool" "bool" = some true := by decide +kernel
  have e3 : kitB "int" "bool" = some false := by decide +kernel
  have e4 : kitB "str" "bool" = some false := by decide +kernel
  have e5 : kitB "tuple" "bool" = some false := by decide +kernel
  have e6 : kitB "list" "bool" = some false := by decide +kernel
  have e7 : kitB "dict" "bool" = some false := by decide +kernel
  cases p <;> simp [isiP, tyN, e1, e2, e3, e4, e5, e6, e7, isB]
/-- whole numbers -/
def isW : PV → Bool
  | .int _ => true
  | _ => false
/-- the body of is_whole, of the laws' own -/
@[simp] theorem isW_int (a : Int) : isW (.int a) = true := rfl
theorem whole_eq : (isiP "int" p).bind (fun x => (asB x).bind fun b => if b = true then (isiP "bool" p).bind notP else .ok (.bl false)) = .ok (.bl (isW p)) := by
  rw [isi_bool]
  cases p <;> simp [isW, isB]
/-- statements -/
@[simp] theorem then_next {k : Rho → Out} : (Out.next ρ).then k = k ρ := nr rfl
@[simp] theorem then_ret {k : Rho → Out} : (Out.ret p).then k = .ret p := nr rfl
@[simp] theorem then_exc {k : Rho → Out} {z : Str} : (Out.exc z ρ).then k = .exc z ρ := nr rfl
@[simp] theorem then_stuck {k : Rho → Out} : Out.stuck.then k = .stuck := nr rfl
@[simp] theorem then_brk {k : Rho → Out} : (Out.brk ρ).then k = .brk ρ := nr rfl
@[simp] theorem then_cont {k : Rho → Out} : (Out.cont ρ).then k = .cont ρ := nr rfl
@[simp] theorem bNil_eq : bNil ρ = .next ρ := nr rfl
@[simp] theorem bSeq_eq {u v : Rho → Out} : bSeq u v ρ = (u ρ).then v := nr rfl
/-- an expression's end within a statement -/
def R.st (r : R PV) (ρ : Rho) (k : PV → Out) : Out := match r with
  | .ok p => k p
  | .exc c => .exc c ρ
  | .stuck => .stuck
@[simp] theorem st_ok {k : PV → Out} : (R.ok p).st ρ k = k p := nr rfl
@[simp] theorem st_exc {k : PV → Out} {z : Str} : (R.exc z).st ρ k = .exc z ρ := nr rfl
@[simp] theorem st_stuck {k : PV → Out} : (R.stuck : R PV).st ρ k = .stuck := nr rfl
@[simp] theorem sE_eq {k : PV → Rho → Out} : sE f k ρ = (f ρ).st ρ fun p => k p ρ := nr rfl
@[simp] theorem sSet_eq : sSet i f ρ = (f ρ).st ρ fun p => .next (ρ.set i (.val p)) := nr rfl
@[simp] theorem sRet_eq : sRet f ρ = (f ρ).st ρ fun p => .ret p := nr rfl
@[simp] theorem sDrop_eq : sDrop f ρ = (f ρ).st ρ fun _ => .next ρ := nr rfl
@[simp] theorem sRaise_eq {z : Str} : sRaise z ρ = .exc z ρ := nr rfl
@[simp] theorem sTo_eq {w : PV → Rho → Option Rho} : sTo w f ρ = (f ρ).st ρ fun p => match w p ρ with | some ρ' => .next ρ' | none => .stuck := nr rfl
def R.stB (r : R Bool) (ρ : Rho) (k : Bool → Out) : Out := match r with
  | .ok p => k p
  | .exc c => .exc c ρ
  | .stuck => .stuck
@[simp] theorem stB_ok {k : Bool → Out} {b : Bool} : (R.ok b).stB ρ k = k b := nr rfl
@[simp] theorem stB_exc {k : Bool → Out} {z : Str} : (R.exc z).stB ρ k = .exc z ρ := nr rfl
@[simp] theorem stB_stuck {k : Bool → Out} : (R.stuck : R Bool).stB ρ k = .stuck := nr rfl
@[simp] theorem sIf_eq {u : Rho → R Bool} {v w : Rho → Out} : sIf u v w ρ = (u ρ).stB ρ fun b => if b = true then v ρ else w ρ := by
  unfold sIf R.stB
  cases u ρ with
  | ok b => cases b <;> simp
  | exc c => rfl
  | stuck => rfl
def Out.res (o : Out) : R PV := match o with
  | .ret p => .ok p
  | .next _ => .ok .non
  | .exc c _ => .exc c
  | _ => .stuck
@[simp] theorem res_ret : (Out.ret p).res = .ok p := nr rfl
@[simp] theorem res_next : (Out.next ρ).res = .ok .non := nr rfl
@[simp] theorem res_exc {z : Str} : (Out.exc z ρ).res = .exc z := nr rfl
theorem runF_eq {n : Nat} {u : Rho → Out} : runF n u ps = (u (ps.map Slot.val ++ List.replicate (n - ps.length) Slot.un)).res := rfl
@[simp] theorem gN_eq : gN i p ρ = some (ρ.set i (.val p)) := nr rfl
@[simp] theorem gT_eq {w : List PV → Rho → Option Rho} : gT w (.tup ps) ρ = w ps ρ := nr rfl
@[simp] theorem gsNil_eq : gsNil [] ρ = some ρ := nr rfl
@[simp] theorem gsCons_eq {u : PV → Rho → Option Rho} {w : List PV → Rho → Option Rho} : gsCons u w (p :: ps) ρ = (u p ρ).bind (w ps) := nr rfl
@[simp] theorem sAug0 {w : PV → PV → R PV} : sAug i w f ρ = (match ρ[i]? with
  | some (.val x) => ((f ρ).bind fun y => w x y).st ρ fun z => .next (ρ.set i (.val z))
  | _ => .stuck) := nr rfl
@[simp] theorem lenP_l : lenP [.lst ps] = .ok (.int ps.length) := nr rfl
@[simp] theorem lenP_t : lenP [.tup ps] = .ok (.int ps.length) := nr rfl
@[simp] theorem lenP_f : lenP [.frz ps] = .ok (.int ps.length) := nr rfl
theorem size_ok {n : Nat} (h : n ≤ 1000000) : n ≤ sizeLine := by rw [sizeLine_eq]; omega
theorem lstP_ok (h : ps.length ≤ 1000000) : lstP ps = .ok (.lst ps) := by unfold lstP; rw [if_pos (size_ok h)]
theorem tupP_ok (h : ps.length ≤ 1000000) : tupP ps = .ok (.tup ps) := by unfold tupP; rw [if_pos (size_ok h)]
@[simp] theorem lstP0 : lstP [] = .ok (.lst []) := lstP_ok (by simp)
@[simp] theorem tupP0 : tupP [] = .ok (.tup []) := tupP_ok (by simp)
@[simp] theorem tupP1 : tupP [p] = .ok (.tup [p]) := tupP_ok (by simp)
@[simp] theorem tupP2 : tupP [p, q] = .ok (.tup [p, q]) := tupP_ok (by simp)
@[simp] theorem tupP3 : tupP [p, q, x] = .ok (.tup [p, q, x]) := tupP_ok (by simp)
@[simp] theorem lstP1 : lstP [p] = .ok (.lst [p]) := lstP_ok (by simp)
@[simp] theorem lstP2 : lstP [p, q] = .ok (.lst [p, q]) := lstP_ok (by simp)
@[simp] theorem lstP3 : lstP [p, q, x] = .ok (.lst [p, q, x]) := lstP_ok (by simp)
@[simp] theorem lstP4 : lstP [p, q, x, y] = .ok (.lst [p, q, x, y]) := lstP_ok (by simp)
/-- places -/
theorem atI_at {α : Type} {l : List α} (h0 : 0 ≤ a) : atI l a = l[a.toNat]? := by
  unfold atI ixN
  rw [if_pos h0]
  by_cases h : a < l.length
  · rw [if_pos h]; rfl
  · rw [if_neg h, List.getElem?_eq_none (by omega)]; rfl
theorem ixP_lst (h0 : 0 ≤ a) (h : ps[a.toNat]? = some p) : ixP (.lst ps) (.int a) = .ok p := by unfold ixP; dsimp only; rw [atI_at h0, h]
theorem ixP_tup (h0 : 0 ≤ a) (h : ps[a.toNat]? = some p) : ixP (.tup ps) (.int a) = .ok p := by unfold ixP; dsimp only; rw [atI_at h0, h]
theorem ixP_frz (h0 : 0 ≤ a) (h : ps[a.toNat]? = some p) : ixP (.frz ps) (.int a) = .ok p := by unfold ixP; dsimp only; rw [atI_at h0, h]
@[simp] theorem ixP_t0 : ixP (.tup (p :: ps)) (.int 0) = .ok p := ixP_tup (by omega) rfl
@[simp] theorem ixP_t1 : ixP (.tup (p :: q :: ps)) (.int 1) = .ok q := ixP_tup (by omega) rfl
@[simp] theorem ixP_t2 : ixP (.tup (p :: q :: x :: ps)) (.int 2) = .ok x := ixP_tup (by omega) rfl
@[simp] theorem ixP_l0 : ixP (.lst (p :: ps)) (.int 0) = .ok p := ixP_lst (by omega) rfl
@[simp] theorem ixP_l1 : ixP (.lst (p :: q :: ps)) (.int 1) = .ok q := ixP_lst (by omega) rfl
@[simp] theorem ixP_l2 : ixP (.lst (p :: q :: x :: ps)) (.int 2) = .ok x := ixP_lst (by omega) rfl
end
def R.stL (r : R (List PV)) (ρ : Rho) (k : List PV → Out) : Out := match r with
  | .ok p => k p
  | .exc c => .exc c ρ
  | .stuck => .stuck
@[simp] theorem stL_ok {k : List PV → Out} {l : List PV} {ρ : Rho} : (R.ok l).stL ρ k = k l := nr rfl
@[simp] theorem sFor_eq {it : Rho → R (List PV)} {tgt : PV → Rho → Option Rho} {body : Rho → Out} {ρ : Rho} : sFor it tgt body ρ = (it ρ).stL ρ fun items => forL tgt body items ρ := nr rfl
@[simp] theorem iR_eq {g : List PV → R (List PV)} {f : Rho → R (List PV)} {ρ : Rho} : iR g f ρ = (f ρ).bind g := nr rfl
@[simp] theorem iS_eq {f : Rho → R PV} {ρ : Rho} : iS f ρ = (f ρ).bind asS := nr rfl
@[simp] theorem iRv_eq {f : Rho → R PV} {ρ : Rho} : iRv f ρ = (f ρ).bind fun p => (asS p).bind fun l => .ok l.reverse := nr rfl
@[simp] theorem asS_l {l : List PV} : asS (.lst l) = .ok l := nr rfl
@[simp] theorem asS_t {l : List PV} : asS (.tup l) = .ok l := nr rfl
@[simp] theorem asS_f {l : List PV} : asS (.frz l) = .ok l := nr rfl
end PL
namespace PL
open PySem PySem.Spec L2
open PyProof.Rows hiding St
section
variable {a b : Int} {p : PV} {ps : List PV}
theorem fdivP_sm (h : 0 < b) (h2 : b ≤ 1000000000000000000000000000000000000000000000000000000000000) : fdivP (.int a) (.int b) = .ok (.int (a / b)) := fdivP_ii (by omega) (by omega) |>.trans (by rw [Int.fdiv_eq_ediv_of_nonneg a (by omega)])
theorem mulP_sm (h : -1000000000000000000000000000000000000000000000000000000000000 ≤ a) (h2 : a ≤ 1000000000000000000000000000000000000000000000000000000000000) (h3 : -1000000000000000000000000000000000000000000000000000000000000 ≤ b) (h4 : b ≤ 1000000000000000000000000000000000000000000000000000000000000) : mulP (.int a) (.int b) = .ok (.int (a * b)) :=
  mulP_ii (okMul_of (m := 250) (n := 250) (by omega) (by omega) (by omega) (by omega) (by omega))
theorem powP_sm (h0 : 0 ≤ b) (h1 : b ≤ 1000000) (h2 : -1000000 ≤ a) (h3 : a ≤ 1000000) : powP (.int a) (.int b) = .ok (.int (a ^ b.toNat)) := powP_ii h0 h1 (by omega)
/-- the item at a place, 0 beyond -/
def nth (l : List Int) (a : Int) : Int := l.getD a.toNat 0
theorem getD_map (ns : List Int) (k : Nat) (h : k < ns.length) : (ns.map PV.int)[k]? = some (.int (ns.getD k 0)) := by
  rw [List.getElem?_map, List.getElem?_eq_getElem h, List.getD_eq_getElem?_getD, List.getElem?_eq_getElem h]
  rfl
theorem ixP_intsF {ns : List Int} (h0 : 0 ≤ a) (h : a < ns.length) : ixP (.frz (ns.map PV.int)) (.int a) = .ok (.int (nth ns a)) := ixP_frz h0 (getD_map ns _ (by omega))
end
end PL
namespace PL
open PySem PySem.Spec L2
open PyProof.Rows hiding St
theorem ixP_ex {a : Int} {ps : List PV} (h0 : 0 ≤ a) (h : a < ps.length) : ∃ p, p ∈ ps ∧ ixP (.lst ps) (.int a) = .ok p :=
  ⟨_, List.getElem_mem (by omega : a.toNat < ps.length), ixP_lst h0 (List.getElem?_eq_getElem (by omega))⟩
end PL
namespace PL
open PySem PySem.Spec L2
open PyProof.Rows hiding St
theorem mul_bound {a b : Int} {m n : Nat} (h : a.natAbs < 2 ^ m) (g : b.natAbs < 2 ^ n) : (a * b).natAbs < 2 ^ (m + n) := by
  rw [Int.natAbs_mul, Nat.pow_add]
  exact Nat.mul_lt_mul'' h g
end PL
set_option Elab.async false
set_option linter.all false
set_option maxRecDepth 100000
set_option autoImplicit false
namespace PM
open PySem PySem.Spec L2 PL
open PyProof.Rows hiding St
noncomputable def D_is_whole : Rho → Out := (bSeq (sRet (eAn (e1 (isiP "int") (eVo 0)) (e1 notP (e1 (isiP "bool") (eVo 0))))) bNil)
noncomputable def F_is_whole : List PV → R PV := runF 1 D_is_whole
noncomputable def D_divisor : Rho → Out := (bSeq (sSet 0 (eD absP (aCons (eVo 0) aNil))) (bSeq (sSet 1 (eD absP (aCons (eVo 1) aNil))) (bSeq (sWh (tB1 (e2 gtP (eVo 1) (eC (.int 0)))) (bSeq (sPar 0 1 (aCons (eV 1) (aCons (e2 modP (eVo 0) (eVo 1)) aNil))) bNil)) (bSeq (sRet (eV 0)) bNil))))
noncomputable def F_divisor : List PV → R PV := runF 2 D_divisor
noncomputable def D_fraction : Rho → Out := (bSeq (sIf (tOr' (tNt (tB1 (eD F_is_whole (aCons (eV 0) aNil)))) (tOr' (tNt (tB1 (eD F_is_whole (aCons (eV 1) aNil)))) (tB1 (e2 eqP (eVo 1) (eC (.int 0)))))) (bSeq (sRaise "NoFraction") bNil) bNil) (bSeq (sSet 2 (eD F_divisor (aCons (eV 0) (aCons (eV 1) aNil)))) (bSeq (sIf (tB1 (e2 ltP (eVo 1) (eC (.int 0)))) (bSeq (sSet 2 (e1 negP (eVo 2))) bNil) bNil) (bSeq (sRet (eD tupP (aCons (e2 fdivP (eVo 0) (eVo 2)) (aCons (e2 fdivP (eVo 1) (eVo 2)) aNil)))) bNil))))
noncomputable def F_fraction : List PV → R PV := runF 3 D_fraction
noncomputable def D_is_fraction : Rho → Out := (bSeq (sIf (tOr' (tNt (tB1 (e1 (isiP "tuple") (eVo 0)))) (tOr' (tB1 (e2 neP (eD lenP (aCons (eVo 0) aNil)) (eC (.int 2)))) (tOr' (tNt (tB1 (eD F_is_whole (aCons (e2 ixP (eVo 0) (eC (.int 0))) aNil)))) (tNt (tB1 (eD F_is_whole (aCons (e2 ixP (eVo 0) (eC (.int 1))) aNil))))))) (bSeq (sRet (eC (.bl false))) bNil) bNil) (bSeq (sRet (eAn (e2 gtP (e2 ixP (eVo 0) (eC (.int 1))) (eC (.int 0))) (e2 eqP (eD F_divisor (aCons (e2 ixP (eVo 0) (eC (.int 0))) (aCons (e2 ixP (eVo 0) (eC (.int 1))) aNil))) (eC (.int 1))))) bNil))
noncomputable def F_is_fraction : List PV → R PV := runF 1 D_is_fraction
end PM
set_option Elab.async false
set_option linter.all false
set_option maxRecDepth 100000
set_option autoImplicit false
namespace PM
open PySem PySem.Spec L2 PL
open PyProof.Rows hiding St
theorem f_is_whole (p : PV) : F_is_whole [p] = .ok (.bl (isW p)) := by
  show (D_is_whole [.val p]).res = _
  simp [D_is_whole, whole_eq]
end PM
set_option Elab.async false
set_option linter.all false
set_option maxRecDepth 100000
set_option autoImplicit false
namespace PM
open PySem PySem.Spec L2 PL
open PyProof.Rows hiding St
def R.own (r : R (List PV)) (ρ : Rho) (i : Nat) : Out := match r with
  | .ok qs => .next (ρ.set i (.own qs))
  | _ => .stuck
@[simp] theorem own_ok {qs : List PV} {ρ : Rho} {i : Nat} : R.own (.ok qs) ρ i = .next (ρ.set i (.own qs)) := nr rfl
def getOwn (ρ : Rho) (i : Nat) : Option (List PV) := match ρ[i]? with
  | some (.own ps) => some ps
  | _ => none
@[simp] theorem getOwn0 {ps : List PV} {ρ : Rho} : getOwn (.own ps :: ρ) 0 = some ps := nr rfl
@[simp] theorem getOwnS {s : Slot} {ρ : Rho} {i : Nat} : getOwn (s :: ρ) (i + 1) = getOwn ρ i := by simp [getOwn]
def onOwn (o : Option (List PV)) (k : List PV → Out) : Out := match o with
  | some ps => k ps
  | none => .stuck
@[simp] theorem onOwn_some {ps : List PV} {k : List PV → Out} : onOwn (some ps) k = k ps := nr rfl
@[simp] theorem sMut_eq {i : Nat} {g : List PV → PV → R (List PV)} {f : Rho → R PV} {ρ : Rho} : sMut i g f ρ = onOwn (getOwn ρ i) fun ps => (f ρ).st ρ fun p => R.own (g ps p) ρ i := by
  unfold sMut getOwn
  cases ρ[i]? with
  | none => rfl
  | some t => cases t <;> rfl
def asL : PV → R (List PV)
  | .lst l => .ok l
  | _ => .stuck
@[simp] theorem asL_l {l : List PV} : asL (.lst l) = .ok l := nr rfl
@[simp] theorem sSetO_eq {i : Nat} {f : Rho → R PV} {ρ : Rho} : sSetO i f ρ = (f ρ).st ρ fun p => R.own (asL p) ρ i := by
  unfold sSetO sE R.st R.own asL
  cases f ρ with
  | ok p => cases p <;> rfl
  | exc c => rfl
  | stuck => rfl
@[simp] theorem sRetO_eq {i : Nat} {ρ : Rho} : sRetO i ρ = onOwn (getOwn ρ i) fun ps => .ret (.lst ps) := by
  unfold sRetO getOwn
  cases ρ[i]? with
  | none => rfl
  | some t => cases t <;> rfl
def frzR (ρ : Rho) (i : Nat) : Rho := match ρ[i]? with
  | some (.own ps) => ρ.set i (.val (.lst ps))
  | _ => ρ
@[simp] theorem frzR0 {ps : List PV} {ρ : Rho} : frzR (.own ps :: ρ) 0 = .val (.lst ps) :: ρ := nr rfl
@[simp] theorem frzR0v {p : PV} {ρ : Rho} : frzR (.val p :: ρ) 0 = .val p :: ρ := nr rfl
@[simp] theorem frzR0u {ρ : Rho} : frzR (.un :: ρ) 0 = .un :: ρ := nr rfl
@[simp] theorem frzRS {s : Slot} {ρ : Rho} {i : Nat} : frzR (s :: ρ) (i + 1) = s :: frzR ρ i := by
  unfold frzR
  rw [List.getElem?_cons_succ]
  cases ρ[i]? with
  | none => rfl
  | some t => cases t <;> rfl
@[simp] theorem sFrz_eq {i : Nat} {g : Rho → Out} {ρ : Rho} : sFrz i g ρ = g (frzR ρ i) := by
  unfold sFrz frzR
  cases ρ[i]? with
  | none => rfl
  | some t => cases t <;> rfl
@[simp] theorem sSetI_eq {i : Nat} {f fi : Rho → R PV} {ρ : Rho} : sSetI i f fi ρ = onOwn (getOwn ρ i) fun ps => (f ρ).st ρ fun p => (fi ρ).st ρ fun q => R.own (setP ps p q) ρ i := by
  unfold sSetI getOwn
  cases ρ[i]? with
  | none => rfl
  | some t => cases t <;> rfl
def Out.fo (o : Out) (k : Rho → Out) : Out := match o with
  | .next ρ => k ρ
  | .cont ρ => k ρ
  | .brk ρ => .next ρ
  | o => o
@[simp] theorem fo_next {ρ : Rho} {k : Rho → Out} : Out.fo (.next ρ) k = k ρ := nr rfl
@[simp] theorem fo_cont {ρ : Rho} {k : Rho → Out} : Out.fo (.cont ρ) k = k ρ := nr rfl
@[simp] theorem fo_brk {ρ : Rho} {k : Rho → Out} : Out.fo (.brk ρ) k = .next ρ := nr rfl
@[simp] theorem fo_ret {p : PV} {k : Rho → Out} : Out.fo (.ret p) k = .ret p := nr rfl
@[simp] theorem fo_exc {c : Str} {ρ : Rho} {k : Rho → Out} : Out.fo (.exc c ρ) k = .exc c ρ := nr rfl
@[simp] theorem forL_nil {tgt : PV → Rho → Option Rho} {body : Rho → Out} {ρ : Rho} : forL tgt body [] ρ = .next ρ := nr rfl
def onR (o : Option Rho) (k : Rho → Out) : Out := match o with
  | some ρ => k ρ
  | none => .stuck
@[simp] theorem onR_some {ρ : Rho} {k : Rho → Out} : onR (some ρ) k = k ρ := nr rfl
@[simp] theorem eSl_eq {g : PV → Option Int → Option Int → R PV} {f : Rho → R PV} {lo hi : Rho → R (Option Int)} {ρ : Rho} : eSl g f lo hi ρ = (f ρ).bind fun p => (lo ρ).bind fun l => (hi ρ).bind fun h => g p l h := nr rfl
@[simp] theorem oNone_eq {ρ : Rho} : oNone ρ = .ok none := nr rfl
@[simp] theorem oSome_eq {f : Rho → R PV} {ρ : Rho} : oSome f ρ = (f ρ).bind fun p => (asI p).bind fun i => .ok (some i) := nr rfl
@[simp] theorem slP_l {l : List PV} {lo hi : Option Int} : slP (.lst l) lo hi = .ok (.lst (cutG l lo hi)) := nr rfl
@[simp] theorem slP_f {l : List PV} {lo hi : Option Int} : slP (.frz l) lo hi = .ok (.lst (cutG l lo hi)) := nr rfl
@[simp] theorem slP_t {l : List PV} {lo hi : Option Int} : slP (.tup l) lo hi = .ok (.tup (cutG l lo hi)) := nr rfl
@[simp] theorem slL_l {l : List PV} {lo hi : Option Int} : slL (.lst l) lo hi = .ok (.lst (cutG l lo hi)) := nr rfl
@[simp] theorem tupleP_l {l : List PV} : tupleP [.lst l] = .ok (.tup l) := nr rfl
@[simp] theorem tupleP_t {l : List PV} : tupleP [.tup l] = .ok (.tup l) := nr rfl
@[simp] theorem tupleP_f {l : List PV} : tupleP [.frz l] = .ok (.tup l) := nr rfl
@[simp] theorem listP_l {l : List PV} : listP [.lst l] = .ok (.lst l) := nr rfl
@[simp] theorem listP_t {l : List PV} : listP [.tup l] = .ok (.lst l) := nr rfl
theorem addP_ok {a b : List PV} (h : a.length + b.length ≤ 1000000) : addP (.lst a) (.lst b) = .ok (.lst (a ++ b)) := by
  unfold addP; dsimp only; rw [if_pos (size_ok h)]
/-- the items of a written list or tuple of numbers -/
def SeqI (x : PV) (ds : List Int) : Prop := x = .lst (ds.map PV.int) ∨ x = .tup (ds.map PV.int)
theorem SeqI.len {x : PV} {ds : List Int} (h : SeqI x ds) : lenP [x] = .ok (.int ds.length) := by
  rcases h with rfl | rfl <;> simp
@[simp] theorem eqP_tt0 : eqP (.tup []) (.tup []) = .ok (.bl true) := by rw [eqP_ok (by simp) (by simp)]; simp
end PM
set_option Elab.async false
set_option linter.all false
set_option maxRecDepth 100000
set_option autoImplicit false
namespace PM
open PySem PySem.Spec L2 PL
open PyProof.Rows hiding St
@[simp] theorem sPar_eq {i j : Nat} {f g : Rho → R PV} {ρ : Rho} : sPar i j (aCons f (aCons g aNil)) ρ = (f ρ).st ρ fun p => (g ρ).st ρ fun q => .next ((ρ.set i (.val p)).set j (.val q)) := by
  unfold sPar aCons R.st
  cases f ρ with
  | exc c => rfl
  | stuck => rfl
  | ok p => cases g ρ <;> rfl
@[simp] theorem absP_i {a : Int} : absP [.int a] = .ok (.int a.natAbs) := by
  have e : absP [.int a] = .ok (.int (if a < 0 then -a else a)) := rfl
  rw [e]
  congr 2
  split <;> omega
/-- Euclid's loop, on whichever test of the other one -/
theorem gcd_run (test : Rho → R Bool) (ht : ∀ x y : Nat, test [.val (.int x), .val (.int y)] = .ok (decide (y ≠ 0))) : ∀ (y x : Nat),
    sWh test (bSeq (sPar 0 1 (aCons (eV 1) (aCons (e2 modP (eVo 0) (eVo 1)) aNil))) bNil) [.val (.int x), .val (.int y)] = .next [.val (.int (Nat.gcd x y)), .val (.int 0)] := by
  intro y
  induction y using Nat.strongRecOn with
  | _ y ih =>
    intro x
    rw [sWh_eq, ht]
    by_cases h : y = 0
    · subst h; simp
    · have hy : (0 : Int) < y := by omega
      have i := ih (x % y) (Nat.mod_lt x (by omega)) y
      have e : ((x : Int) % (y : Int)) = ((x % y : Nat) : Int) := by omega
      have g : Nat.gcd y (x % y) = Nat.gcd x y := by rw [Nat.gcd_comm x y, Nat.gcd_rec y x, Nat.gcd_comm (x % y) y]
      rw [g, ← e] at i
      simp [h, modP_pos hy, i]
theorem f_divisor (a b : Int) : F_divisor [.int a, .int b] = .ok (.int (Int.gcd a b)) := by
  show (D_divisor [.val (.int a), .val (.int b)]).res = _
  have r := gcd_run (tB1 (e2 gtP (eVo 1) (eC (.int 0)))) (fun x y => by
    have q : decide ((0 : Int) < (y : Int)) = decide (y ≠ 0) := by rw [decide_eq_decide]; omega
    simp only [tB1_eq, e2_eq, eVos, eVo0, eC_eq, bind1, gtP_ii, asB_eq, q]) b.natAbs a.natAbs
  simp only [D_divisor, bSeq_eq, sSet_eq, eD_eq, aCons_eq, aNil_eq, eVo0, eVos, bind1, absP_i, st_ok, then_next, List.set_cons_succ, List.set_cons_zero, r, sRet_eq, eV0, then_ret, res_ret]
  rfl
/-- the sign and the share -/
def fs (t b : Int) : Int := if b < 0 then -(Int.gcd t b : Int) else (Int.gcd t b : Int)
def ftop (t b : Int) : Int := t / fs t b
def fbot (t b : Int) : Int := b / fs t b
def fracV (t b : Int) : PV := .tup [.int t, .int b]
theorem gcd_pos {t b : Int} (hb : b ≠ 0) : 0 < Int.gcd t b := Int.gcd_pos_of_ne_zero_right t hb
theorem fs_dvd_t (t b : Int) : fs t b ∣ t := by
  unfold fs
  split
  · exact Int.neg_dvd.mpr (Int.gcd_dvd_left t b)
  · exact Int.gcd_dvd_left t b
theorem fs_dvd_b (t b : Int) : fs t b ∣ b := by
  unfold fs
  split
  · exact Int.neg_dvd.mpr (Int.gcd_dvd_right t b)
  · exact Int.gcd_dvd_right t b
theorem fs_ne {t b : Int} (hb : b ≠ 0) : fs t b ≠ 0 := by
  have := gcd_pos (t := t) hb
  unfold fs
  split <;> omega
theorem ftop_mul (t b : Int) : ftop t b * fs t b = t := Int.ediv_mul_cancel (fs_dvd_t t b)
theorem fbot_mul (t b : Int) : fbot t b * fs t b = b := Int.ediv_mul_cancel (fs_dvd_b t b)
theorem fbot_pos {t b : Int} (hb : b ≠ 0) : 0 < fbot t b := by
  have h := fbot_mul t b
  have hg := gcd_pos (t := t) hb
  rcases Int.lt_trichotomy (fbot t b) 0 with n | z | p
  · exfalso
    unfold fs at h
    split at h
    · have := Int.mul_pos_of_neg_of_neg n (show -(Int.gcd t b : Int) < 0 by omega)
      omega
    · have := Int.mul_neg_of_neg_of_pos n (show (0 : Int) < (Int.gcd t b : Int) by omega)
      omega
  · rw [z, Int.zero_mul] at h; exact absurd h.symm hb
  · exact p
theorem fcross (t b : Int) : ftop t b * b = t * fbot t b := by
  have h1 := ftop_mul t b
  have h2 := fbot_mul t b
  calc ftop t b * b = ftop t b * (fbot t b * fs t b) := by rw [h2]
    _ = (ftop t b * fs t b) * fbot t b := by rw [Int.mul_comm (fbot t b), Int.mul_assoc]
    _ = t * fbot t b := by rw [h1]
theorem flow {t b : Int} (hb : b ≠ 0) : Int.gcd (ftop t b) (fbot t b) = 1 := by
  have h1 := ftop_mul t b
  have h2 := fbot_mul t b
  have hg := gcd_pos (t := t) hb
  have e : Int.gcd (ftop t b * fs t b) (fbot t b * fs t b) = Int.gcd (ftop t b) (fbot t b) * (fs t b).natAbs := Int.gcd_mul_right ..
  rw [h1, h2] at e
  have e2 : (fs t b).natAbs = Int.gcd t b := by unfold fs; split <;> omega
  rw [e2] at e
  have : 1 * Int.gcd t b = Int.gcd (ftop t b) (fbot t b) * Int.gcd t b := by rw [Nat.one_mul]; exact e
  exact (Nat.eq_of_mul_eq_mul_right hg this).symm
theorem f_fraction (t b : Int) (hb : b ≠ 0) (hz : b.natAbs < 2 ^ 8000) : F_fraction [.int t, .int b] = .ok (fracV (ftop t b) (fbot t b)) := by
  refine (runF_eq (n := 3) (u := D_fraction)).trans ?_
  show (D_fraction [.val (.int t), .val (.int b), .un]).res = _
  have hg := gcd_pos (t := t) hb
  have hle : Int.gcd t b ≤ b.natAbs := Nat.le_of_dvd (by omega) (Int.gcd_dvd_natAbs_right t b)
  have hb' : (b == 0) = false := by simpa using hb
  have hzs : (fs t b).natAbs < 2 ^ 9000 := by
    have : (2 : Nat) ^ 8000 ≤ 2 ^ 9000 := Nat.pow_le_pow_right (by omega) (by omega)
    unfold fs; split <;> omega
  have d1 : fdivP (.int t) (.int (fs t b)) = .ok (.int (ftop t b)) := by
    rw [fdivP_ii (fs_ne hb) hzs, Int.fdiv_eq_ediv_of_dvd (fs_dvd_t t b)]; rfl
  have d2 : fdivP (.int b) (.int (fs t b)) = .ok (.int (fbot t b)) := by
    rw [fdivP_ii (fs_ne hb) hzs, Int.fdiv_eq_ediv_of_dvd (fs_dvd_b t b)]; rfl
  by_cases h : b < 0
  · have e : fs t b = -(Int.gcd t b : Int) := by unfold fs; rw [if_pos h]
    rw [e] at d1 d2
    simp [D_fraction, f_is_whole, hb', f_divisor, h, d1, d2, fracV]
  · have e : fs t b = (Int.gcd t b : Int) := by unfold fs; rw [if_neg h]
    rw [e] at d1 d2
    simp [D_fraction, f_is_whole, hb', f_divisor, h, d1, d2, fracV]
theorem f_fraction_no (p q : PV) (h : isW p = false ∨ isW q = false ∨ q = .int 0) : F_fraction [p, q] = .exc "NoFraction" := by
  refine (runF_eq (n := 3) (u := D_fraction)).trans ?_
  show (D_fraction [.val p, .val q, .un]).res = _
  by_cases h1 : isW p = true
  · by_cases h2 : isW q = true
    · rcases h with h | h | h
      · rw [h1] at h; cases h
      · rw [h2] at h; cases h
      · subst h; simp [D_fraction, f_is_whole, h1, isW]
    · simp [D_fraction, f_is_whole, h1, h2]
  · simp [D_fraction, f_is_whole, h1]
/-- sizes -/
theorem mul_sz {a b : Int} (ha : a.natAbs < 2 ^ 3900) (hb : b.natAbs < 2 ^ 3900) : mulP (.int a) (.int b) = .ok (.int (a * b)) := mulP_ii (okMul_of ha hb (by omega) (by omega) (by omega))
theorem mul_lt {a b : Int} {m n : Nat} (ha : a.natAbs < 2 ^ m) (hb : b.natAbs < 2 ^ n) {k : Nat} (hk : m + n ≤ k) : (a * b).natAbs < 2 ^ k := Nat.lt_of_lt_of_le (mul_bound ha hb) (Nat.pow_le_pow_right (by omega) hk)
theorem sz_le {a : Int} {m k : Nat} (ha : a.natAbs < 2 ^ m) (hk : m ≤ k) : a.natAbs < 2 ^ k := Nat.lt_of_lt_of_le ha (Nat.pow_le_pow_right (by omega) hk)
end PM
namespace PM
theorem ftop_le {t b : Int} (hb : b ≠ 0) : (ftop t b).natAbs ≤ t.natAbs := by
  have h := congrArg Int.natAbs (ftop_mul t b)
  rw [Int.natAbs_mul] at h
  have : 1 ≤ (fs t b).natAbs := by have := fs_ne (t := t) hb; omega
  calc (ftop t b).natAbs = (ftop t b).natAbs * 1 := (Nat.mul_one _).symm
    _ ≤ (ftop t b).natAbs * (fs t b).natAbs := Nat.mul_le_mul_left _ this
    _ = t.natAbs := h
theorem fbot_le {t b : Int} (hb : b ≠ 0) : (fbot t b).natAbs ≤ b.natAbs := by
  have h := congrArg Int.natAbs (fbot_mul t b)
  rw [Int.natAbs_mul] at h
  have : 1 ≤ (fs t b).natAbs := by have := fs_ne (t := t) hb; omega
  calc (fbot t b).natAbs = (fbot t b).natAbs * 1 := (Nat.mul_one _).symm
    _ ≤ (fbot t b).natAbs * (fs t b).natAbs := Nat.mul_le_mul_left _ this
    _ = b.natAbs := h
end PM
namespace PM
open PySem PySem.Spec L2 PL
open PyProof.Rows hiding St
theorem stp {i : Nat} {f : Rho → R PV} {k : Rho → Out} {ρ : Rho} (p : PV) {r : R PV} (h : f ρ = .ok p) (g : (k (ρ.set i (.val p))).res = r) : (bSeq (sSet i f) k ρ).res = r := by
  rw [bSeq_eq, sSet_eq, h, st_ok, then_next]; exact g
theorem skp {t : Rho → R Bool} {u k : Rho → Out} {ρ : Rho} {r : R PV} (h : t ρ = .ok false) (g : (k ρ).res = r) : (bSeq (sIf t u bNil) k ρ).res = r := by
  rw [bSeq_eq, sIf_eq, h, stB_ok, if_neg Bool.false_ne_true, bNil_eq, then_next]; exact g
theorem ifT {t : Rho → R Bool} {u v k : Rho → Out} {ρ : Rho} {r : R PV} (h : t ρ = .ok true) (g : (bSeq u k ρ).res = r) : (bSeq (sIf t u v) k ρ).res = r := by
  rw [bSeq_eq, sIf_eq, h, stB_ok, if_pos rfl]; exact g
end PM
namespace PM
open PySem PySem.Spec L2 PL
open PyProof.Rows hiding St
theorem sTry_exc {i : Nat} {cs : List Str} {body : Rho → Out} {su : Str → Addr → Rho → Out} {ρ ρ' : Rho} {c : Str} {o : Out} (h : body ρ = .exc c ρ') (hc : c ∈ cs) (h2 : ∀ a, behindX i (su c a (ρ'.set i (.ex a))) = o) : sTry i cs body su ρ = o := by
  unfold sTry
  rw [h]
  dsimp only
  rw [if_pos hc]
  exact tryX_of h2
@[simp] theorem isX0 {a : Addr} {b : Bool} {ρ : Rho} : isX 0 a b (.ex a :: ρ) = .ok (.bl b) := by
  have e : isX 0 a b (.ex a :: ρ) = (if a = a then .ok (.bl b) else .stuck) := rfl
  rw [e, if_pos rfl]
@[simp] theorem isXs {i : Nat} {a : Addr} {b : Bool} {s : Slot} {ρ : Rho} : isX (i + 1) a b (s :: ρ) = isX i a b ρ := by simp [isX]
theorem hotC0 {a : Addr} {F : Addr → R PV} {ρ : Rho} {p : PV} (h : F a = .ok p) : hotC 0 a F (.ex a :: ρ) = .ok p := by
  have e : hotC 0 a F (.ex a :: ρ) = (if a = a then (match F a with | .ok p => .ok p | _ => .stuck) else .stuck) := rfl
  rw [e, if_pos rfl, h]
@[simp] theorem hotCs {i : Nat} {a : Addr} {F : Addr → R PV} {s : Slot} {ρ : Rho} : hotC (i + 1) a F (s :: ρ) = hotC i a F ρ := by simp [hotC]
@[simp] theorem behind_next {i : Nat} {ρ : Rho} : behindX i (.next ρ) = .next (ρ.set i .un) := nr rfl
@[simp] theorem behind_ret {i : Nat} {p : PV} : behindX i (.ret p) = .ret p := nr rfl
theorem anyP_bl (bs : List Bool) : anyP [.lst (bs.map PV.bl)] = .ok (.bl (bs.any id)) := by
  unfold anyP
  dsimp only
  rw [asBs_of]
theorem runX_eq {n : Nat} {g : Rho → Out} {a : Addr} : runX n g a = (g (.ex a :: List.replicate (n - 1) Slot.un)).res := rfl
/-- a fraction, told of any thing -/
def lowB : PV → Bool
  | .tup [.int a, .int b] => decide (0 < b) && (Int.gcd a b == 1)
  | _ => false
theorem low_cases {P : PV → Prop} (h1 : ∀ x, isT x = false → P x) (h2 : ∀ l : List PV, l.length ≠ 2 → P (.tup l)) (h3 : ∀ p q, isW p = false → P (.tup [p, q])) (h4 : ∀ p q, isW p = true → isW q = false → P (.tup [p, q])) (h5 : ∀ a b, P (.tup [.int a, .int b])) (x : PV) : P x := by
  cases x with
  | tup l =>
    match l with
    | [] => exact h2 _ (by simp)
    | [_] => exact h2 _ (by simp)
    | _ :: _ :: _ :: _ => exact h2 _ (by simp)
    | [p, q] =>
      cases p with
      | int a => cases q with
        | int b => exact h5 a b
        | _ => exact h4 _ _ rfl rfl
      | _ => exact h3 _ _ rfl
  | _ => exact h1 _ rfl
theorem lowB_no (x : PV) (h : isT x = false) : lowB x = false := by
  cases x with
  | tup l => cases h
  | _ => rfl
theorem lowB_len (l : List PV) (h : l.length ≠ 2) : lowB (.tup l) = false := by
  match l with
  | [] => rfl
  | [p] => cases p <;> rfl
  | p :: q :: _ :: _ => cases p with
    | int a => cases q <;> rfl
    | _ => rfl
  | [_, _] => exact absurd rfl h
theorem lowB_p (p q : PV) (h : isW p = false) : lowB (.tup [p, q]) = false := by
  cases p with
  | int a => cases h
  | _ => rfl
theorem lowB_q (p q : PV) (h : isW q = false) : lowB (.tup [p, q]) = false := by
  cases p with
  | int a => cases q with
    | int b => cases h
    | _ => rfl
  | _ => rfl
theorem f_is_fraction (x : PV) : F_is_fraction [x] = .ok (.bl (lowB x)) := by
  refine (runF_eq (n := 1) (u := D_is_fraction)).trans ?_
  show (D_is_fraction [.val x]).res = _
  refine low_cases (P := fun x => (D_is_fraction [.val x]).res = .ok (.bl (lowB x))) (fun x h => ?_) (fun l h => ?_) (fun p q h => ?_) (fun p q h0 h => ?_) (fun a b => ?_) x
  · simp [D_is_fraction, isi_tuple, h, lowB_no x h]
  · have e : ((l.length : Int) == 2) = false := by rw [beq_eq_false_iff_ne]; omega
    simp [D_is_fraction, isi_tuple, isT, e, lowB_len l h]
  · simp [D_is_fraction, isi_tuple, isT, f_is_whole, h, lowB_p p q h]
  · simp [D_is_fraction, isi_tuple, isT, f_is_whole, h0, h, lowB_q p q h]
  · have e : (((Int.gcd a b : Nat) : Int) == 1) = (Int.gcd a b == 1) := by rw [Bool.eq_iff_iff, beq_iff_eq, beq_iff_eq]; omega
    by_cases hb : 0 < b <;> simp [D_is_fraction, isi_tuple, isT, f_is_whole, f_divisor, hb, lowB, e]
theorem lowB_frac {t b : Int} (hb : b ≠ 0) : lowB (fracV (ftop t b) (fbot t b)) = true := by
  unfold fracV lowB
  dsimp only
  rw [flow hb, decide_eq_true (fbot_pos hb)] <;> rfl
theorem ftop_one (t : Int) : ftop t 1 = t ∧ fbot t 1 = 1 := by
  have e : fs t 1 = 1 := by
    have : Int.gcd t 1 = 1 := Int.gcd_one_right t
    unfold fs
    rw [this] <;> rfl
  unfold ftop fbot
  rw [e]
  exact ⟨Int.ediv_one t, rfl⟩
end PM
set_option Elab.async false
set_option linter.all false
set_option maxRecDepth 100000
set_option autoImplicit false
namespace K12
open PySem PySem.Spec L2 PL PM
open PyProof.Rows hiding St
def csL : List Str := ["NoFraction"]
noncomputable def D__law_cell_at : Rho → Out := (bSeq (sIf (tB1 (e2 ltP (eVo 1) (eD lenP (aCons (eVo 0) aNil)))) (bSeq (sRet (e2 ixP (eVo 0) (eVo 1))) bNil) bNil) (bSeq (sRet (eC (.int 0))) bNil))
noncomputable def F__law_cell_at : List PV → R PV := runF 2 D__law_cell_at
noncomputable def D__law_number : Rho → Out := (bSeq (sRet (eAn (e1 (isiP "int") (eVo 0)) (e1 notP (e1 (isiP "bool") (eVo 0))))) bNil)
noncomputable def F__law_number : List PV → R PV := runF 1 D__law_number
noncomputable def D__law_drawn : Rho → Out := (bSeq (sIf (tB1 (e2 eqP (e2 modP (eVo 0) (eC (.int 3))) (eC (.int 2)))) (bSeq (sRet (e2 subP (e2 modP (e2 fdivP (eVo 0) (eC (.int 3))) (e2 addP (e2 mulP (eC (.int 2)) (e2 powP (eC (.int 10)) (eC (.int 39)))) (eC (.int 1)))) (e2 powP (eC (.int 10)) (eC (.int 39))))) bNil) bNil) (bSeq (sRet (e2 subP (e2 modP (e2 fdivP (eVo 0) (eC (.int 3))) (eC (.int 61))) (eC (.int 30)))) bNil))
noncomputable def F__law_drawn : List PV → R PV := runF 1 D__law_drawn
noncomputable def D__law_strange : Rho → Out := (bSeq (sSet 1 (eD lstP (aCons (eC .non) (aCons (eC (.bl true)) (aCons (eC (.bl false)) (aCons (eC (.str "1")) (aCons (eD lstP (aCons (eC (.int 1)) aNil)) (aCons (eD tupP (aCons (eC (.int 1)) (aCons (eC (.int 1)) aNil))) (aCons (eC .dct) aNil))))))))) (bSeq (sRet (e2 ixP (eVo 1) (e2 modP (eVo 0) (eC (.int 7))))) bNil))
noncomputable def F__law_strange : List PV → R PV := runF 2 D__law_strange
noncomputable def D__law_common : Rho → Out := (bSeq (sSet 0 (eD absP (aCons (eVo 0) aNil))) (bSeq (sSet 1 (eD absP (aCons (eVo 1) aNil))) (bSeq (sWh (tB1 (e2 neP (eVo 1) (eC (.int 0)))) (bSeq (sPar 0 1 (aCons (eV 1) (aCons (e2 modP (eVo 0) (eVo 1)) aNil))) bNil)) (bSeq (sRet (eV 0)) bNil))))
noncomputable def F__law_common : List PV → R PV := runF 2 D__law_common
noncomputable def D__law_lowest : Rho → Out := (bSeq (sIf (tOr' (tNt (tB1 (e1 (isiP "tuple") (eVo 0)))) (tOr' (tB1 (e2 neP (eD lenP (aCons (eVo 0) aNil)) (eC (.int 2)))) (tOr' (tNt (tB1 (eD F__law_number (aCons (e2 ixP (eVo 0) (eC (.int 0))) aNil)))) (tNt (tB1 (eD F__law_number (aCons (e2 ixP (eVo 0) (eC (.int 1))) aNil))))))) (bSeq (sRet (eC (.bl false))) bNil) bNil) (bSeq (sRet (eAn (e2 gtP (e2 ixP (eVo 0) (eC (.int 1))) (eC (.int 0))) (e2 eqP (eD F__law_common (aCons (e2 ixP (eVo 0) (eC (.int 0))) (aCons (e2 ixP (eVo 0) (eC (.int 1))) aNil))) (eC (.int 1))))) bNil))
noncomputable def F__law_lowest : List PV → R PV := runF 1 D__law_lowest
noncomputable def D__law_others (c : Str) (a : Addr) : Rho → Out := (bSeq (sSet 1 (eD lstP (aCons (isX 0 a (subX c "NoPrime")) (aCons (isX 0 a (subX c "NoPlace")) (aCons (isX 0 a (subX c "NoFigures")) (aCons (isX 0 a (subX c "NoText")) aNil)))))) (bSeq (sSet 1 (e2 addP (eVo 1) (eD lstP (aCons (isX 0 a (subX c "Unlike")) (aCons (isX 0 a (subX c "NoQuotient")) (aCons (isX 0 a (subX c "NoPower")) (aCons (isX 0 a (subX c "TooFew")) aNil))))))) (bSeq (sSet 1 (e2 addP (eVo 1) (eD lstP (aCons (isX 0 a (subX c "NoSize")) (aCons (isX 0 a (subX c "NoPolynomial")) (aCons (isX 0 a (subX c "NoDepth")) (aCons (isX 0 a (subX c "NoRoot")) aNil))))))) (bSeq (sRet (eOr (eD anyP (aCons (eVo 1) aNil)) (isX 0 a (subX c "NotNear")))) bNil))))
noncomputable def F__law_others (c : Str) (a : Addr) : R PV := runX 2 (D__law_others c a) a
noncomputable def D__law_refused : Rho → Out := (bSeq (sSet 2 (eC (.bl false))) (bSeq (sTry 3 csL (bSeq (sDrop (eD F_fraction (aCons (eV 0) (aCons (eV 1) aNil)))) bNil) (fun c a => (bSeq (sSet 2 (eAn (isX 3 a (subX c "NoFraction")) (eAn (isX 3 a (subX c "ValueError")) (e1 notP (hotC 3 a (F__law_others c)))))) bNil))) (bSeq (sRet (eV 2)) bNil)))
noncomputable def F__law_refused : List PV → R PV := runF 4 D__law_refused
noncomputable def D__law_spoiled : Rho → Out := (bSeq (sTo (gT (gsCons (gN 2) (gsCons (gN 3) gsNil))) (eV 0)) (bSeq (sSet 4 (eD lstP (aCons (eD lstP (aCons (eV 2) (aCons (eV 3) aNil))) (aCons (eD tupP (aCons (eV 2) (aCons (eV 3) (aCons (eC (.int 1)) aNil)))) (aCons (eD tupP (aCons (eV 2) aNil)) (aCons (eD tupP (aCons (eV 2) (aCons (e1 negP (eVo 3)) aNil))) (aCons (eD tupP (aCons (eV 2) (aCons (eC (.int 0)) aNil))) (aCons (eD tupP (aCons (e2 mulP (eC (.int 2)) (eVo 2)) (aCons (e2 mulP (eC (.int 2)) (eVo 3)) aNil))) aNil)))))))) (bSeq (sSet 4 (e2 addP (eVo 4) (eD lstP (aCons (eD tupP (aCons (e2 mulP (eC (.int 3)) (eVo 2)) (aCons (e2 mulP (eC (.int 3)) (eVo 3)) aNil))) (aCons (eD tupP (aCons (eV 2) (aCons (eC .non) aNil))) (aCons (eD tupP (aCons (eC (.bl true)) (aCons (eV 3) aNil))) (aCons (eD tupP (aCons (eV 2) (aCons (eC (.bl true)) aNil))) (aCons (eV 2) (aCons (eC .non) (aCons (eC (.str "1/2")) aNil)))))))))) (bSeq (sRet (e2 ixP (eVo 4) (e2 modP (eVo 1) (eC (.int 13))))) bNil))))
noncomputable def F__law_spoiled : List PV → R PV := runF 5 D__law_spoiled
noncomputable def D_law : Rho → Out := (bSeq (sSet 1 (e2 ixP (eD lstP (aCons (eC (.int 1)) (aCons (e2 addP (eC (.int 1)) (e2 modP (e2 fdivP (eD F__law_cell_at (aCons (eV 0) (aCons (eC (.int 2)) aNil))) (eC (.int 2))) (e2 powP (eC (.int 10)) (eC (.int 20))))) aNil))) (e2 modP (eD F__law_cell_at (aCons (eV 0) (aCons (eC (.int 2)) aNil))) (eC (.int 2))))) (bSeq (sSet 2 (e2 mulP (eD F__law_drawn (aCons (eD F__law_cell_at (aCons (eV 0) (aCons (eC (.int 0)) aNil))) aNil)) (eVo 1))) (bSeq (sSet 3 (e2 mulP (eD F__law_drawn (aCons (eD F__law_cell_at (aCons (eV 0) (aCons (eC (.int 1)) aNil))) aNil)) (eVo 1))) (bSeq (sSet 4 (eD F__law_cell_at (aCons (eV 0) (aCons (eC (.int 3)) aNil)))) (bSeq (sIf (tB1 (e2 eqP (e2 modP (eVo 4) (eC (.int 8))) (eC (.int 1)))) (bSeq (sRet (eD F__law_refused (aCons (eD F__law_strange (aCons (e2 fdivP (eVo 4) (eC (.int 8))) aNil)) (aCons (eV 3) aNil)))) bNil) bNil) (bSeq (sIf (tB1 (e2 eqP (e2 modP (eVo 4) (eC (.int 8))) (eC (.int 2)))) (bSeq (sRet (eD F__law_refused (aCons (eV 2) (aCons (eD F__law_strange (aCons (e2 fdivP (eVo 4) (eC (.int 8))) aNil)) aNil)))) bNil) bNil) (bSeq (sIf (tB1 (e2 eqP (eVo 3) (eC (.int 0)))) (bSeq (sRet (eD F__law_refused (aCons (eV 2) (aCons (eV 3) aNil)))) bNil) bNil) (bSeq (sSet 5 (eD F_fraction (aCons (eV 2) (aCons (eV 3) aNil)))) (bSeq (sIf (tOr' (tNt (tB1 (eD F__law_lowest (aCons (eV 5) aNil)))) (tB1 (e2 neP (e2 mulP (e2 ixP (eVo 5) (eC (.int 0))) (eVo 3)) (e2 mulP (eVo 2) (e2 ixP (eVo 5) (eC (.int 1))))))) (bSeq (sRet (eC (.bl false))) bNil) bNil) (bSeq (sIf (tOr' (tB1 (e2 neP (eD (fun ps => F_fraction (ps ++ [.int 1])) (aCons (eV 2) aNil)) (eD tupP (aCons (eV 2) (aCons (eC (.int 1)) aNil))))) (tNt (tB1 (eD F__law_lowest (aCons (eD (fun ps => F_fraction (ps ++ [.int 1])) (aCons (eV 2) aNil)) aNil))))) (bSeq (sRet (eC (.bl false))) bNil) bNil) (bSeq (sSet 6 (eD F_is_fraction (aCons (eV 5) aNil))) (bSeq (sSet 7 (eD F__law_spoiled (aCons (eV 5) (aCons (e2 fdivP (eVo 4) (eC (.int 8))) aNil)))) (bSeq (sSet 8 (eD F_is_fraction (aCons (eV 7) aNil))) (bSeq (sIf (tOr' (tNt (tB1 (e1 (isiP "bool") (eVo 6)))) (tOr' (tNt (tB1 (eV 6))) (tNt (tB1 (e1 (isiP "bool") (eVo 8)))))) (bSeq (sRet (eC (.bl false))) bNil) bNil) (bSeq (sRet (e2 eqP (eVo 8) (eD F__law_lowest (aCons (eV 7) aNil)))) bNil)))))))))))))))
noncomputable def F_law : List PV → R PV := runF 9 D_law
end K12
set_option Elab.async false
set_option linter.all false
set_option maxRecDepth 100000
set_option autoImplicit false
set_option exponentiation.threshold 20000
namespace K12
open PySem PySem.Spec L2 PL PM
open PyProof.Rows hiding St
theorem f_cell (ns : List Int) (k : Int) (h : 0 ≤ k) : F__law_cell_at [.frz (ns.map PV.int), .int k] = .ok (.int (nth ns k)) := by
  show (D__law_cell_at [.val (.frz (ns.map PV.int)), .val (.int k)]).res = _
  by_cases hk : k < ns.length
  · simp [D__law_cell_at, hk, ixP_intsF h hk]
  · have : ns[k.toNat]? = none := List.getElem?_eq_none (by omega)
    simp [D__law_cell_at, hk, nth, this]
theorem f_number (p : PV) : F__law_number [p] = .ok (.bl (isW p)) := by
  show (D__law_number [.val p]).res = _
  simp [D__law_number, whole_eq]
theorem f_common (a b : Int) : F__law_common [.int a, .int b] = .ok (.int (Int.gcd a b)) := by
  refine (runF_eq (n := 2) (u := D__law_common)).trans ?_
  show (D__law_common [.val (.int a), .val (.int b)]).res = _
  have r := gcd_run (tB1 (e2 neP (eVo 1) (eC (.int 0)))) (fun x y => by
    have q : (!((y : Int) == 0)) = decide (y ≠ 0) := by rw [Bool.eq_iff_iff]; simp
    simp only [tB1_eq, e2_eq, eVos, eVo0, eC_eq, bind1, neP_ii, asB_eq, q]) b.natAbs a.natAbs
  simp only [D__law_common, bSeq_eq, sSet_eq, eD_eq, aCons_eq, aNil_eq, eVo0, eVos, bind1, absP_i, st_ok, then_next, List.set_cons_succ, List.set_cons_zero, r, sRet_eq, eV0, then_ret, res_ret]
  rfl
theorem f_lowest (x : PV) : F__law_lowest [x] = .ok (.bl (lowB x)) := by
  refine (runF_eq (n := 1) (u := D__law_lowest)).trans ?_
  show (D__law_lowest [.val x]).res = _
  refine low_cases (P := fun x => (D__law_lowest [.val x]).res = .ok (.bl (lowB x))) (fun x h => ?_) (fun l h => ?_) (fun p q h => ?_) (fun p q h0 h => ?_) (fun a b => ?_) x
  · simp [D__law_lowest, isi_tuple, h, lowB_no x h]
  · have e : ((l.length : Int) == 2) = false := by rw [beq_eq_false_iff_ne]; omega
    simp [D__law_lowest, isi_tuple, isT, e, lowB_len l h]
  · simp [D__law_lowest, isi_tuple, isT, f_number, h, lowB_p p q h]
  · simp [D__law_lowest, isi_tuple, isT, f_number, h0, h, lowB_q p q h]
  · have e : (((Int.gcd a b : Nat) : Int) == 1) = (Int.gcd a b == 1) := by rw [Bool.eq_iff_iff, beq_iff_eq, beq_iff_eq]; omega
    by_cases hb : 0 < b <;> simp [D__law_lowest, isi_tuple, isT, f_number, f_common, hb, lowB, e]
theorem f_drawn (c : Int) : ∃ t, F__law_drawn [.int c] = .ok (.int t) ∧ t.natAbs < 2 ^ 140 := by
  have go : ∀ {th : PV}, (D__law_drawn [.val (.int c)]).res = .ok th → F__law_drawn [.int c] = .ok th := fun h => (runF_eq (n := 1) (u := D__law_drawn)).trans h
  by_cases h : c % 3 = 2
  · refine ⟨c / 3 % 2000000000000000000000000000000000000001 - 1000000000000000000000000000000000000000, go ?_, by omega⟩
    simp (disch := omega) [D__law_drawn, modP_pos, fdivP_sm, powP_sm, mulP_sm, h]
  · have h' : (c % 3 == 2) = false := by simpa using h
    refine ⟨c / 3 % 61 - 30, go ?_, by omega⟩
    simp (disch := omega) [D__law_drawn, modP_pos, fdivP_sm, powP_sm, mulP_sm, h']
theorem pick {l : List PV} {P : PV → Prop} (k : Int) (h0 : 0 ≤ k) (hk : k < l.length) (h : ∀ q ∈ l, P q) : ∃ q, ixP (.lst l) (.int k) = .ok q ∧ P q := by
  obtain ⟨q, h1, h2⟩ := ixP_ex (ps := l) h0 hk
  exact ⟨q, h2, h q h1⟩
theorem f_strange (c : Int) : ∃ q, F__law_strange [.int c] = .ok q ∧ isW q = false := by
  have go : ∀ {th : PV}, (D__law_strange [.val (.int c), .un]).res = .ok th → F__law_strange [.int c] = .ok th := fun h => (runF_eq (n := 2) (u := D__law_strange)).trans h
  obtain ⟨q, h1, h2⟩ := pick (l := [.non, .bl true, .bl false, .str "1", .lst [.int 1], .tup [.int 1, .int 1], .dct]) (P := fun q => isW q = false) (c % 7) (by omega) (by simp only [List.length_cons, List.length_nil]; omega) (fa_cons rfl (fa_cons rfl (fa_cons rfl (fa_cons rfl (fa_cons rfl (fa_cons rfl (fa_cons rfl fa_nil)))))))
  refine ⟨q, go ?_, h2⟩
  have m := modP_pos (a := c) (b := 7) (by omega)
  simp (disch := (simp only [List.length_cons, List.length_nil]; omega)) [D__law_strange, m, lstP_ok, h1]
theorem f_others (a : Addr) : F__law_others "NoFraction" a = .ok (.bl false) := by
  refine (runX_eq (n := 2) (g := D__law_others "NoFraction" a)).trans ?_
  show (D__law_others "NoFraction" a [.ex a, .un]).res = _
  have k1 : subX "NoFraction" "NoPrime" = false := by decide
  have k2 : subX "NoFraction" "NoPlace" = false := by decide
  have k3 : subX "NoFraction" "NoFigures" = false := by decide
  have k4 : subX "NoFraction" "NoText" = false := by decide
  have k5 : subX "NoFraction" "Unlike" = false := by decide
  have k6 : subX "NoFraction" "NoQuotient" = false := by decide
  have k7 : subX "NoFraction" "NoPower" = false := by decide
  have k8 : subX "NoFraction" "TooFew" = false := by decide
  have k9 : subX "NoFraction" "NoSize" = false := by decide
  have k10 : subX "NoFraction" "NoPolynomial" = false := by decide
  have k11 : subX "NoFraction" "NoDepth" = false := by decide
  have k12 : subX "NoFraction" "NoRoot" = false := by decide
  have k13 : subX "NoFraction" "NotNear" = false := by decide
  have a1 : addP (.lst [.bl false, .bl false, .bl false, .bl false]) (.lst [.bl false, .bl false, .bl false, .bl false]) = .ok (.lst [.bl false, .bl false, .bl false, .bl false, .bl false, .bl false, .bl false, .bl false]) := addP_ok (by simp)
  have a2 : addP (.lst [.bl false, .bl false, .bl false, .bl false, .bl false, .bl false, .bl false, .bl false]) (.lst [.bl false, .bl false, .bl false, .bl false]) = .ok (.lst [.bl false, .bl false, .bl false, .bl false, .bl false, .bl false, .bl false, .bl false, .bl false, .bl false, .bl false, .bl false]) := addP_ok (by simp)
  have a3 : anyP [.lst [.bl false, .bl false, .bl false, .bl false, .bl false, .bl false, .bl false, .bl false, .bl false, .bl false, .bl false, .bl false]] = .ok (.bl false) := anyP_bl (List.replicate 12 false)
  simp [D__law_others, k1, k2, k3, k4, k5, k6, k7, k8, k9, k10, k11, k12, k13, a1, a2, a3]
theorem f_refused (p q : PV) (h : F_fraction [p, q] = .exc "NoFraction") : F__law_refused [p, q] = .ok (.bl true) := by
  refine (runF_eq (n := 4) (u := D__law_refused)).trans ?_
  show (D__law_refused [.val p, .val q, .un, .un]).res = _
  have k1 : subX "NoFraction" "NoFraction" = true := by decide
  have k2 : subX "NoFraction" "ValueError" = true := by decide
  unfold D__law_refused
  refine stp (.bl false) rfl ?_
  simp only [List.set_cons_succ, List.set_cons_zero]
  have t : sTry 3 csL (bSeq (sDrop (eD F_fraction (aCons (eV 0) (aCons (eV 1) aNil)))) bNil) (fun c a => (bSeq (sSet 2 (eAn (isX 3 a (subX c "NoFraction")) (eAn (isX 3 a (subX c "ValueError")) (e1 notP (hotC 3 a (F__law_others c)))))) bNil)) [.val p, .val q, .val (.bl false), .un] = .next [.val p, .val q, .val (.bl true), .un] :=
    sTry_exc (c := "NoFraction") (ρ' := [.val p, .val q, .val (.bl false), .un]) (by simp [h]) (by decide) fun a => by
      simp [k1, k2, hotC0 (f_others a)]
  rw [bSeq_eq, t]
  simp
theorem f_spoiled (a b c : Int) (ha : a.natAbs < 2 ^ 3900) (hb : b.natAbs < 2 ^ 3900) : ∃ x, F__law_spoiled [fracV a b, .int c] = .ok x := by
  have go : ∀ {th : PV}, (D__law_spoiled [.val (fracV a b), .val (.int c), .un, .un, .un]).res = .ok th → F__law_spoiled [fracV a b, .int c] = .ok th := fun h => (runF_eq (n := 5) (u := D__law_spoiled)).trans h
  obtain ⟨x, _, hx⟩ := ixP_ex (ps := [.lst [.int a, .int b], .tup [.int a, .int b, .int 1], .tup [.int a], .tup [.int a, .int (-b)], .tup [.int a, .int 0], .tup [.int (2 * a), .int (2 * b)], .tup [.int (3 * a), .int (3 * b)], .tup [.int a, .non], .tup [.bl true, .int b], .tup [.int a, .bl true], .int a, .non, .str "1/2"]) (a := c % 13) (by omega) (by simp only [List.length_cons, List.length_nil]; omega)
  refine ⟨x, go ?_⟩
  have m := modP_pos (a := c) (b := 13) (by omega)
  have m1 := mul_sz (a := 2) (b := a) (by omega) ha
  have m2 := mul_sz (a := 2) (b := b) (by omega) hb
  have m3 := mul_sz (a := 3) (b := a) (by omega) ha
  have m4 := mul_sz (a := 3) (b := b) (by omega) hb
  simp (disch := (simp only [List.length_cons, List.length_nil]; omega)) [D__law_spoiled, fracV, m, m1, m2, m3, m4, lstP_ok, addP_ok, hx]
theorem law_true : ∀ ns : List Int, ns.length ≤ 63 → F_law [.frz (ns.map PV.int)] = .ok (.bl true) := by
  intro ns hns
  refine (runF_eq (n := 9) (u := D_law)).trans ?_
  show (D_law [.val (.frz (ns.map PV.int)), .un, .un, .un, .un, .un, .un, .un, .un]).res = _
  obtain ⟨t0, h0, z0⟩ := f_drawn (nth ns 0)
  obtain ⟨b0, h1, z1⟩ := f_drawn (nth ns 1)
  obtain ⟨sh, hs, zs⟩ : ∃ s : Int, ixP (.lst [.int 1, .int (1 + nth ns 2 / 2 % 100000000000000000000)]) (.int (nth ns 2 % 2)) = .ok (.int s) ∧ s.natAbs < 2 ^ 80 := by
    rcases (show nth ns 2 % 2 = 0 ∨ nth ns 2 % 2 = 1 by omega) with h | h <;> rw [h]
    · exact ⟨1, by simp, by omega⟩
    · exact ⟨_, by simp; rfl, by omega⟩
  obtain ⟨t, ht⟩ : ∃ t, t = t0 * sh := ⟨_, rfl⟩
  obtain ⟨b, hb⟩ : ∃ b, b = b0 * sh := ⟨_, rfl⟩
  have tz : t.natAbs < 2 ^ 240 := by rw [ht]; exact mul_lt z0 zs (by omega)
  have bz : b.natAbs < 2 ^ 240 := by rw [hb]; exact mul_lt z1 zs (by omega)
  have m1 := mul_sz (sz_le z0 (show 140 ≤ 3900 by omega)) (sz_le zs (show 80 ≤ 3900 by omega))
  have m2 := mul_sz (sz_le z1 (show 140 ≤ 3900 by omega)) (sz_le zs (show 80 ≤ 3900 by omega))
  rw [← ht] at m1
  rw [← hb] at m2
  obtain ⟨c, hc⟩ : ∃ c, c = nth ns 3 := ⟨_, rfl⟩
  have m8 : modP (.int c) (.int 8) = .ok (.int (c % 8)) := modP_pos (by omega)
  have f8 : fdivP (.int c) (.int 8) = .ok (.int (c / 8)) := fdivP_sm (by omega) (by omega)
  obtain ⟨q, hq, hw⟩ := f_strange (c / 8)
  unfold D_law
  refine stp (.int sh) (by simp (disch := omega) [f_cell, modP_pos, fdivP_sm, powP_sm, hs]) ?_
  refine stp (.int t) (by simp (disch := omega) [f_cell, h0, m1]) ?_
  refine stp (.int b) (by simp (disch := omega) [f_cell, h1, m2]) ?_
  refine stp (.int c) (by simp (disch := omega) [f_cell, ← hc]) ?_
  simp only [List.set_cons_succ, List.set_cons_zero]
  by_cases c1 : c % 8 = 1
  · have r := f_refused q (.int b) (f_fraction_no _ _ (.inl hw))
    refine ifT (by simp [m8, c1]) ?_
    simp [f8, hq, r]
  · have c1' : (c % 8 == 1) = false := by simpa using c1
    refine skp (by simp [m8, c1']) ?_
    by_cases c2 : c % 8 = 2
    · have r := f_refused (.int t) q (f_fraction_no _ _ (.inr (.inl hw)))
      refine ifT (by simp [m8, c2]) ?_
      simp [f8, hq, r]
    · have c2' : (c % 8 == 2) = false := by simpa using c2
      refine skp (by simp [m8, c2']) ?_
      by_cases hb0 : b = 0
      · have r := f_refused (.int t) (.int b) (f_fraction_no _ _ (.inr (.inr (by rw [hb0]))))
        refine ifT (by simp [hb0]) ?_
        simp [r]
      · have hb0' : (b == 0) = false := by simpa using hb0
        refine skp (by simp [hb0']) ?_
        have F := f_fraction t b hb0 (sz_le bz (by omega))
        obtain ⟨u, hu⟩ : ∃ u, u = ftop t b := ⟨_, rfl⟩
        obtain ⟨v, hv⟩ : ∃ v, v = fbot t b := ⟨_, rfl⟩
        have lo := lowB_frac (t := t) hb0
        have cr := fcross t b
        have uz : u.natAbs < 2 ^ 240 := by rw [hu]; exact Nat.lt_of_le_of_lt (ftop_le hb0) tz
        have vz : v.natAbs < 2 ^ 240 := by rw [hv]; exact Nat.lt_of_le_of_lt (fbot_le hb0) bz
        rw [← hu, ← hv] at F lo cr
        have F1 := f_fraction t 1 (by omega) (by omega)
        rw [(ftop_one t).1, (ftop_one t).2] at F1
        have lo1 : lowB (fracV t 1) = true := by
          have := lowB_frac (t := t) (b := 1) (by omega)
          rwa [(ftop_one t).1, (ftop_one t).2] at this
        have n1 := mul_sz (sz_le uz (show 240 ≤ 3900 by omega)) (sz_le bz (show 240 ≤ 3900 by omega))
        have n2 := mul_sz (sz_le tz (show 240 ≤ 3900 by omega)) (sz_le vz (show 240 ≤ 3900 by omega))
        obtain ⟨x, hx⟩ := f_spoiled u v (c / 8) (sz_le uz (by omega)) (sz_le vz (by omega))
        refine stp (fracV u v) (by simp [F]) ?_
        simp only [List.set_cons_succ, List.set_cons_zero]
        refine skp (by simp only [f_lowest, lo, fracV] at n1 n2 ⊢; simp [f_lowest, show lowB (.tup [.int u, .int v]) = true from lo, n1, n2, cr]) ?_
        refine skp (by
          have e : neP (.tup [.int t, .int 1]) (.tup [.int t, .int 1]) = .ok (.bl false) := by rw [neP_ok (by simp) (by simp)]; simp
          simp only [fracV] at F1
          simp [F1, e, f_lowest, show lowB (.tup [.int t, .int 1]) = true from lo1]) ?_
        refine stp (.bl true) (by simp [f_is_fraction, lo]) ?_
        refine stp x (by simp [f8, hx]) ?_
        refine stp (.bl (lowB x)) (by simp [f_is_fraction]) ?_
        simp [f_lowest, isi_bb]
end K12
set_option Elab.async false
set_option linter.all false
set_option maxRecDepth 100000
set_option autoImplicit false
namespace K12
open PySem PySem.Spec L2 PL PM
open PyProof.Rows hiding St
def topS (i : Nat) : Stmt := PySem.Challenge.pw_leftnumbers_k12_fractions_made.main.body.getD i (.Pass ⟨0, 0, 0, 0⟩)
abbrev st_is_whole : Stmt := topS 17
theorem sc_is_whole : FnScope ["thing"] ["thing"] (defScope st_is_whole) := ⟨rfl, rfl, rfl, by decide +kernel, rfl, by decide +kernel, by decide +kernel⟩
abbrev st_divisor : Stmt := topS 19
theorem sc_divisor : FnScope ["one", "other"] ["one", "other"] (defScope st_divisor) := ⟨rfl, rfl, rfl, by decide +kernel, rfl, by decide +kernel, by decide +kernel⟩
abbrev st_fraction : Stmt := topS 20
theorem sc_fraction : FnScope ["top", "bottom", "share"] ["top", "bottom"] (defScope st_fraction) := ⟨rfl, rfl, rfl, by decide +kernel, rfl, by decide +kernel, by decide +kernel⟩
abbrev st_is_fraction : Stmt := topS 21
theorem sc_is_fraction : FnScope ["thing"] ["thing"] (defScope st_is_fraction) := ⟨rfl, rfl, rfl, by decide +kernel, rfl, by decide +kernel, by decide +kernel⟩
abbrev st__law_cell_at : Stmt := topS 23
theorem sc__law_cell_at : FnScope ["_law_script", "_law_k"] ["_law_script", "_law_k"] (defScope st__law_cell_at) := ⟨rfl, rfl, rfl, by decide +kernel, rfl, by decide +kernel, by decide +kernel⟩
abbrev st__law_number : Stmt := topS 24
theorem sc__law_number : FnScope ["_law_found"] ["_law_found"] (defScope st__law_number) := ⟨rfl, rfl, rfl, by decide +kernel, rfl, by decide +kernel, by decide +kernel⟩
abbrev st__law_drawn : Stmt := topS 25
theorem sc__law_drawn : FnScope ["_law_cell"] ["_law_cell"] (defScope st__law_drawn) := ⟨rfl, rfl, rfl, by decide +kernel, rfl, by decide +kernel, by decide +kernel⟩
abbrev st__law_strange : Stmt := topS 26
theorem sc__law_strange : FnScope ["_law_cell", "_law_some"] ["_law_cell"] (defScope st__law_strange) := ⟨rfl, rfl, rfl, by decide +kernel, rfl, by decide +kernel, by decide +kernel⟩
abbrev st__law_common : Stmt := topS 27
theorem sc__law_common : FnScope ["_law_one", "_law_other"] ["_law_one", "_law_other"] (defScope st__law_common) := ⟨rfl, rfl, rfl, by decide +kernel, rfl, by decide +kernel, by decide +kernel⟩
abbrev st__law_lowest : Stmt := topS 28
theorem sc__law_lowest : FnScope ["_law_told"] ["_law_told"] (defScope st__law_lowest) := ⟨rfl, rfl, rfl, by decide +kernel, rfl, by decide +kernel, by decide +kernel⟩
abbrev st__law_others : Stmt := topS 29
theorem sc__law_others : FnScope ["_law_e", "_law_some"] ["_law_e"] (defScope st__law_others) := ⟨rfl, rfl, rfl, by decide +kernel, rfl, by decide +kernel, by decide +kernel⟩
abbrev st__law_refused : Stmt := topS 30
theorem sc__law_refused : FnScope ["_law_top", "_law_bottom", "_law_found", "_law_e"] ["_law_top", "_law_bottom"] (defScope st__law_refused) := ⟨rfl, rfl, rfl, by decide +kernel, rfl, by decide +kernel, by decide +kernel⟩
abbrev st__law_spoiled : Stmt := topS 31
theorem sc__law_spoiled : FnScope ["_law_told", "_law_cell", "_law_top", "_law_bottom", "_law_some"] ["_law_told", "_law_cell"] (defScope st__law_spoiled) := ⟨rfl, rfl, rfl, by decide +kernel, rfl, by decide +kernel, by decide +kernel⟩
abbrev st_law : Stmt := topS 32
theorem sc_law : FnScope ["_law_script", "_law_share", "_law_top", "_law_bottom", "_law_cell", "_law_told", "_law_good", "_law_thing", "_law_found"] ["_law_script"] (defScope st_law) := ⟨rfl, rfl, rfl, by decide +kernel, rfl, by decide +kernel, by decide +kernel⟩
def dsL : List Str := ["NoDepth", "NoFigures", "NoFraction", "NoPlace", "NoPolynomial", "NoPower", "NoPrime", "NoQuotient", "NoRoot", "NoSize", "NoText", "NotNear", "TooFew", "Unlike"]
structure Tx (K : PySem.W.Frag) (mg : Str → Option Value) : Prop where
  d_is_whole : DefE K mg "is_whole" st_is_whole ["thing"]
  d_divisor : DefE K mg "divisor" st_divisor ["one", "other"]
  d_fraction : DefED K mg "fraction" st_fraction ["top", "bottom"]
  d_is_fraction : DefE K mg "is_fraction" st_is_fraction ["thing"]
  d__law_cell_at : DefE K mg "_law_cell_at" st__law_cell_at ["_law_script", "_law_k"]
  d__law_number : DefE K mg "_law_number" st__law_number ["_law_found"]
  d__law_drawn : DefE K mg "_law_drawn" st__law_drawn ["_law_cell"]
  d__law_strange : DefE K mg "_law_strange" st__law_strange ["_law_cell"]
  d__law_common : DefE K mg "_law_common" st__law_common ["_law_one", "_law_other"]
  d__law_lowest : DefE K mg "_law_lowest" st__law_lowest ["_law_told"]
  d__law_others : DefE K mg "_law_others" st__law_others ["_law_e"]
  d__law_refused : DefE K mg "_law_refused" st__law_refused ["_law_top", "_law_bottom"]
  d__law_spoiled : DefE K mg "_law_spoiled" st__law_spoiled ["_law_told", "_law_cell"]
  n_ValueError : mg "ValueError" = none
  n_abs : mg "abs" = none
  n_any : mg "any" = none
  n_bool : mg "bool" = none
  n_int : mg "int" = none
  n_isinstance : mg "isinstance" = none
  n_len : mg "len" = none
  n_tuple : mg "tuple" = none
  x_NoFraction : ∃ C, ExcT K mg "NoFraction" C
  u_LeftError : ∃ C, mg "LeftError" = some (.ref C)
  u_NoDepth : ∃ C, mg "NoDepth" = some (.ref C)
  u_NoFigures : ∃ C, mg "NoFigures" = some (.ref C)
  u_NoFraction : ∃ C, mg "NoFraction" = some (.ref C)
  u_NoPlace : ∃ C, mg "NoPlace" = some (.ref C)
  u_NoPolynomial : ∃ C, mg "NoPolynomial" = some (.ref C)
  u_NoPower : ∃ C, mg "NoPower" = some (.ref C)
  u_NoPrime : ∃ C, mg "NoPrime" = some (.ref C)
  u_NoQuotient : ∃ C, mg "NoQuotient" = some (.ref C)
  u_NoRoot : ∃ C, mg "NoRoot" = some (.ref C)
  u_NoSize : ∃ C, mg "NoSize" = some (.ref C)
  u_NoText : ∃ C, mg "NoText" = some (.ref C)
  u_NotNear : ∃ C, mg "NotNear" = some (.ref C)
  u_TooFew : ∃ C, mg "TooFew" = some (.ref C)
  u_Unlike : ∃ C, mg "Unlike" = some (.ref C)
  kq : ∀ c ∈ csL, ∀ d ∈ dsL, KQ K mg c d
  kv : ∀ c ∈ csL, ∀ C, mg c = some (.ref C) → PySem.W.kitOne K (.ref C) (.type "ValueError") = some (subX c "ValueError")
  ke : ∀ c ∈ csL, KE K mg c "LeftError"
section
variable {P : Program} {w : World} {K : PySem.W.Frag} {mg : Str → Option Value} {base : Heap}
theorem bd_is_whole (B : Tx K mg) {f : Addr} {cdv : Value} {A : Around} {outer : List PySem.Env} {s : Shared} {H : Hp} {E : XK} (hr : Room 0 (A.deeper (envOfC "is_whole" (defScope st_is_whole) s.heap.objs.size f cdv))) :
    BJ (cxOf (L2N.CX P w) P w K mg base ["thing"] "is_whole" (defScope st_is_whole) f cdv A outer s H E) (fun cls d _ H => E cls d H) false (defBody st_is_whole) D_is_whole :=
  (b_cons (s_ret (e_and (e_isi (n := "int") B.n_isinstance (by rfl) (e_varT (pv 0)) (pe_bltn (by rfl) B.n_int (by decide +kernel) rfl)) (e_one (e_not (e_isi (n := "bool") B.n_isinstance (by rfl) (e_varT (pv 0)) (pe_bltn (by rfl) B.n_bool (by decide +kernel) rfl))))))
b_nil)
theorem ok_is_whole (B : Tx K mg) : Okd P w K mg base "is_whole" ["thing"] 1 1 false F_is_whole := def_ok B.d_is_whole sc_is_whole rfl (fun z => nomatch z) fun f cdv A outer s H E hr => bd_is_whole B hr
theorem bd_divisor (B : Tx K mg) {f : Addr} {cdv : Value} {A : Around} {outer : List PySem.Env} {s : Shared} {H : Hp} {E : XK} (hr : Room 0 (A.deeper (envOfC "divisor" (defScope st_divisor) s.heap.objs.size f cdv))) :
    BJ (cxOf (L2N.CX P w) P w K mg base ["one", "other"] "divisor" (defScope st_divisor) f cdv A outer s H E) (fun cls d _ H => E cls d H) false (defBody st_divisor) D_divisor :=
  (b_cons (s_set (i := 0) sc_divisor.nd rfl (Or.inl rfl) (e_abs B.n_abs (by rfl) (a_cons (e_varT (pv 0)) a_nil)))
(b_cons (s_set (i := 1) sc_divisor.nd rfl (Or.inl rfl) (e_abs B.n_abs (by rfl) (a_cons (e_varT (pv 1)) a_nil)))
(b_cons (s_while hp_of (t_gt (e_varT (pv 1)) (e_s_t e_int))
(b_cons (s_par (i := 0) (j := 1) rfl sc_divisor.nd rfl rfl (by decide) rfl rfl (a_cons (e_var (pv 1)) (a_cons (e_mod (e_varT (pv 0)) (e_varT (pv 1))) a_nil)) (by rfl))
b_nil))
(b_cons (s_ret (e_var (pv 0)))
b_nil))))
theorem ok_divisor (B : Tx K mg) : Okd P w K mg base "divisor" ["one", "other"] 1 2 false F_divisor := def_ok B.d_divisor sc_divisor rfl (fun z => nomatch z) fun f cdv A outer s H E hr => bd_divisor B hr
theorem bd_fraction (B : Tx K mg) {f : Addr} {cdv : Value} {A : Around} {outer : List PySem.Env} {s : Shared} {H : Hp} {E : XK} (hr : Room 1 (A.deeper (envOfC "fraction" (defScope st_fraction) s.heap.objs.size f cdv))) :
    BJ (cxOf (L2N.CX P w) P w K mg base ["top", "bottom", "share"] "fraction" (defScope st_fraction) f cdv A outer s H E) (fun cls d _ H => E cls d H) false (defBody st_fraction) D_fraction :=
  (b_cons (s_if (t_w (w_or (t_not (t_val (e_callD (ok_is_whole B) hr (by decide) tk_of (by rfl) (a_cons (e_var (pv 0)) a_nil) (ALen.cons ALen.nil)))) (w_or (t_not (t_val (e_callD (ok_is_whole B) hr (by decide) tk_of (by rfl) (a_cons (e_var (pv 1)) a_nil) (ALen.cons ALen.nil)))) (w_or1 (t_eq hr.units (e_varT (pv 1)) (e_s_t e_int))))))
(b_cons (s_raise B.x_NoFraction.choose_spec rfl tk_of (by rfl))
b_nil)
b_nil)
(b_cons (s_set (i := 2) sc_fraction.nd rfl (Or.inl rfl) (e_callD (ok_divisor B) hr (by decide) tk_of (by rfl) (a_cons (e_var (pv 0)) (a_cons (e_var (pv 1)) a_nil)) (ALen.cons (ALen.cons ALen.nil))))
(b_cons (s_if (t_lt (e_varT (pv 1)) (e_s_t e_int))
(b_cons (s_set (i := 2) sc_fraction.nd rfl (Or.inl rfl) (e_neg (e_varT (pv 2))))
b_nil)
b_nil)
(b_cons (s_ret (e_tup (a_cons (e_fdiv (e_varT (pv 0)) (e_varT (pv 2))) (a_cons (e_fdiv (e_varT (pv 1)) (e_varT (pv 2))) a_nil))))
b_nil))))
theorem ok_fraction (B : Tx K mg) : Okd P w K mg base "fraction" ["top", "bottom"] 2 2 false F_fraction ∧ OkD1 P w K mg base "fraction" ["top", "bottom"] 2 2 false F_fraction := def_okD B.d_fraction sc_fraction rfl (fun z => nomatch z) fun f cdv A outer s H E hr => bd_fraction B hr
theorem bd_is_fraction (B : Tx K mg) {f : Addr} {cdv : Value} {A : Around} {outer : List PySem.Env} {s : Shared} {H : Hp} {E : XK} (hr : Room 1 (A.deeper (envOfC "is_fraction" (defScope st_is_fraction) s.heap.objs.size f cdv))) :
    BJ (cxOf (L2N.CX P w) P w K mg base ["thing"] "is_fraction" (defScope st_is_fraction) f cdv A outer s H E) (fun cls d _ H => E cls d H) false (defBody st_is_fraction) D_is_fraction :=
  (b_cons (s_if (t_w (w_or (t_not (t_val (e_isi (n := "tuple") B.n_isinstance (by rfl) (e_varT (pv 0)) (pe_bltn (by rfl) B.n_tuple (by decide +kernel) rfl)))) (w_or (t_ne hr.units (e_s_t (e_len B.n_len (by rfl) (a_cons (e_varT (pv 0)) a_nil))) (e_s_t e_int)) (w_or (t_not (t_val (e_callD (ok_is_whole B) hr (by decide) tk_of (by rfl) (a_cons (e_item (e_varT (pv 0)) (e_s_t e_int) (fun _ _ => rfl)) a_nil) (ALen.cons ALen.nil)))) (w_or1 (t_not (t_val (e_callD (ok_is_whole B) hr (by decide) tk_of (by rfl) (a_cons (e_item (e_varT (pv 0)) (e_s_t e_int) (fun _ _ => rfl)) a_nil) (ALen.cons ALen.nil)))))))))
(b_cons (s_ret e_bl)
b_nil)
b_nil)
(b_cons (s_ret (e_and (e_gt (e_s_t (e_item (e_varT (pv 0)) (e_s_t e_int) (fun _ _ => rfl))) (e_s_t e_int)) (e_one (e_eq hr.units (e_s_t (e_callD (ok_divisor B) hr (by decide) tk_of (by rfl) (a_cons (e_item (e_varT (pv 0)) (e_s_t e_int) (fun _ _ => rfl)) (a_cons (e_item (e_varT (pv 0)) (e_s_t e_int) (fun _ _ => rfl)) a_nil)) (ALen.cons (ALen.cons ALen.nil)))) (e_s_t e_int)))))
b_nil))
theorem ok_is_fraction (B : Tx K mg) : Okd P w K mg base "is_fraction" ["thing"] 2 1 false F_is_fraction := def_ok B.d_is_fraction sc_is_fraction rfl (fun z => nomatch z) fun f cdv A outer s H E hr => bd_is_fraction B hr
theorem bd__law_cell_at (B : Tx K mg) {f : Addr} {cdv : Value} {A : Around} {outer : List PySem.Env} {s : Shared} {H : Hp} {E : XK} (hr : Room 0 (A.deeper (envOfC "_law_cell_at" (defScope st__law_cell_at) s.heap.objs.size f cdv))) :
    BJ (cxOf (L2N.CX P w) P w K mg base ["_law_script", "_law_k"] "_law_cell_at" (defScope st__law_cell_at) f cdv A outer s H E) (fun cls d _ H => E cls d H) false (defBody st__law_cell_at) D__law_cell_at :=
  (b_cons (s_if (t_lt (e_varT (pv 1)) (e_s_t (e_len B.n_len (by rfl) (a_cons (e_varT (pv 0)) a_nil))))
(b_cons (s_ret (e_item (e_varT (pv 0)) (e_varT (pv 1)) (fun _ _ => rfl)))
b_nil)
b_nil)
(b_cons (s_ret e_int)
b_nil))
theorem ok__law_cell_at (B : Tx K mg) : Okd P w K mg base "_law_cell_at" ["_law_script", "_law_k"] 1 2 false F__law_cell_at := def_ok B.d__law_cell_at sc__law_cell_at rfl (fun z => nomatch z) fun f cdv A outer s H E hr => bd__law_cell_at B hr
theorem bd__law_number (B : Tx K mg) {f : Addr} {cdv : Value} {A : Around} {outer : List PySem.Env} {s : Shared} {H : Hp} {E : XK} (hr : Room 0 (A.deeper (envOfC "_law_number" (defScope st__law_number) s.heap.objs.size f cdv))) :
    BJ (cxOf (L2N.CX P w) P w K mg base ["_law_found"] "_law_number" (defScope st__law_number) f cdv A outer s H E) (fun cls d _ H => E cls d H) false (defBody st__law_number) D__law_number :=
  (b_cons (s_ret (e_and (e_isi (n := "int") B.n_isinstance (by rfl) (e_varT (pv 0)) (pe_bltn (by rfl) B.n_int (by decide +kernel) rfl)) (e_one (e_not (e_isi (n := "bool") B.n_isinstance (by rfl) (e_varT (pv 0)) (pe_bltn (by rfl) B.n_bool (by decide +kernel) rfl))))))
b_nil)
theorem ok__law_number (B : Tx K mg) : Okd P w K mg base "_law_number" ["_law_found"] 1 1 false F__law_number := def_ok B.d__law_number sc__law_number rfl (fun z => nomatch z) fun f cdv A outer s H E hr => bd__law_number B hr
theorem bd__law_drawn (B : Tx K mg) {f : Addr} {cdv : Value} {A : Around} {outer : List PySem.Env} {s : Shared} {H : Hp} {E : XK} (hr : Room 0 (A.deeper (envOfC "_law_drawn" (defScope st__law_drawn) s.heap.objs.size f cdv))) :
    BJ (cxOf (L2N.CX P w) P w K mg base ["_law_cell"] "_law_drawn" (defScope st__law_drawn) f cdv A outer s H E) (fun cls d _ H => E cls d H) false (defBody st__law_drawn) D__law_drawn :=
  (b_cons (s_if (t_eq hr.units (e_s_t (e_mod (e_varT (pv 0)) (e_s_t e_int))) (e_s_t e_int))
(b_cons (s_ret (e_sub (e_s_t (e_mod (e_s_t (e_fdiv (e_varT (pv 0)) (e_s_t e_int))) (e_s_t (e_add (e_s_t (e_mul (e_s_t e_int) (e_s_t (e_pow (e_s_t e_int) (e_s_t e_int))))) (e_s_t e_int))))) (e_s_t (e_pow (e_s_t e_int) (e_s_t e_int)))))
b_nil)
b_nil)
(b_cons (s_ret (e_sub (e_s_t (e_mod (e_s_t (e_fdiv (e_varT (pv 0)) (e_s_t e_int))) (e_s_t e_int))) (e_s_t e_int)))
b_nil))
theorem ok__law_drawn (B : Tx K mg) : Okd P w K mg base "_law_drawn" ["_law_cell"] 1 1 false F__law_drawn := def_ok B.d__law_drawn sc__law_drawn rfl (fun z => nomatch z) fun f cdv A outer s H E hr => bd__law_drawn B hr
theorem bd__law_strange (B : Tx K mg) {f : Addr} {cdv : Value} {A : Around} {outer : List PySem.Env} {s : Shared} {H : Hp} {E : XK} (hr : Room 0 (A.deeper (envOfC "_law_strange" (defScope st__law_strange) s.heap.objs.size f cdv))) :
    BJ (cxOf (L2N.CX P w) P w K mg base ["_law_cell", "_law_some"] "_law_strange" (defScope st__law_strange) f cdv A outer s H E) (fun cls d _ H => E cls d H) false (defBody st__law_strange) D__law_strange :=
  (b_cons (s_set (i := 1) sc__law_strange.nd rfl (Or.inl rfl) (e_f_s (e_lst (a_cons e_non (a_cons e_bl (a_cons e_bl (a_cons e_str (a_cons (e_f_s (e_lst (a_cons e_int a_nil))) (a_cons (e_tup (a_cons e_int (a_cons e_int a_nil))) (a_cons e_dct a_nil))))))))))
(b_cons (s_ret (e_item (e_varT (pv 1)) (e_s_t (e_mod (e_varT (pv 0)) (e_s_t e_int))) (fun _ _ => rfl)))
b_nil))
theorem ok__law_strange (B : Tx K mg) : Okd P w K mg base "_law_strange" ["_law_cell"] 1 1 false F__law_strange := def_ok B.d__law_strange sc__law_strange rfl (fun z => nomatch z) fun f cdv A outer s H E hr => bd__law_strange B hr
theorem bd__law_common (B : Tx K mg) {f : Addr} {cdv : Value} {A : Around} {outer : List PySem.Env} {s : Shared} {H : Hp} {E : XK} (hr : Room 0 (A.deeper (envOfC "_law_common" (defScope st__law_common) s.heap.objs.size f cdv))) :
    BJ (cxOf (L2N.CX P w) P w K mg base ["_law_one", "_law_other"] "_law_common" (defScope st__law_common) f cdv A outer s H E) (fun cls d _ H => E cls d H) false (defBody st__law_common) D__law_common :=
  (b_cons (s_set (i := 0) sc__law_common.nd rfl (Or.inl rfl) (e_abs B.n_abs (by rfl) (a_cons (e_varT (pv 0)) a_nil)))
(b_cons (s_set (i := 1) sc__law_common.nd rfl (Or.inl rfl) (e_abs B.n_abs (by rfl) (a_cons (e_varT (pv 1)) a_nil)))
(b_cons (s_while hp_of (t_ne hr.units (e_varT (pv 1)) (e_s_t e_int))
(b_cons (s_par (i := 0) (j := 1) rfl sc__law_common.nd rfl rfl (by decide) rfl rfl (a_cons (e_var (pv 1)) (a_cons (e_mod (e_varT (pv 0)) (e_varT (pv 1))) a_nil)) (by rfl))
b_nil))
(b_cons (s_ret (e_var (pv 0)))
b_nil))))
theorem ok__law_common (B : Tx K mg) : Okd P w K mg base "_law_common" ["_law_one", "_law_other"] 1 2 false F__law_common := def_ok B.d__law_common sc__law_common rfl (fun z => nomatch z) fun f cdv A outer s H E hr => bd__law_common B hr
theorem bd__law_lowest (B : Tx K mg) {f : Addr} {cdv : Value} {A : Around} {outer : List PySem.Env} {s : Shared} {H : Hp} {E : XK} (hr : Room 1 (A.deeper (envOfC "_law_lowest" (defScope st__law_lowest) s.heap.objs.size f cdv))) :
    BJ (cxOf (L2N.CX P w) P w K mg base ["_law_told"] "_law_lowest" (defScope st__law_lowest) f cdv A outer s H E) (fun cls d _ H => E cls d H) false (defBody st__law_lowest) D__law_lowest :=
  (b_cons (s_if (t_w (w_or (t_not (t_val (e_isi (n := "tuple") B.n_isinstance (by rfl) (e_varT (pv 0)) (pe_bltn (by rfl) B.n_tuple (by decide +kernel) rfl)))) (w_or (t_ne hr.units (e_s_t (e_len B.n_len (by rfl) (a_cons (e_varT (pv 0)) a_nil))) (e_s_t e_int)) (w_or (t_not (t_val (e_callD (ok__law_number B) hr (by decide) tk_of (by rfl) (a_cons (e_item (e_varT (pv 0)) (e_s_t e_int) (fun _ _ => rfl)) a_nil) (ALen.cons ALen.nil)))) (w_or1 (t_not (t_val (e_callD (ok__law_number B) hr (by decide) tk_of (by rfl) (a_cons (e_item (e_varT (pv 0)) (e_s_t e_int) (fun _ _ => rfl)) a_nil) (ALen.cons ALen.nil)))))))))
(b_cons (s_ret e_bl)
b_nil)
b_nil)
(b_cons (s_ret (e_and (e_gt (e_s_t (e_item (e_varT (pv 0)) (e_s_t e_int) (fun _ _ => rfl))) (e_s_t e_int)) (e_one (e_eq hr.units (e_s_t (e_callD (ok__law_common B) hr (by decide) tk_of (by rfl) (a_cons (e_item (e_varT (pv 0)) (e_s_t e_int) (fun _ _ => rfl)) (a_cons (e_item (e_varT (pv 0)) (e_s_t e_int) (fun _ _ => rfl)) a_nil)) (ALen.cons (ALen.cons ALen.nil)))) (e_s_t e_int)))))
b_nil))
theorem ok__law_lowest (B : Tx K mg) : Okd P w K mg base "_law_lowest" ["_law_told"] 2 1 false F__law_lowest := def_ok B.d__law_lowest sc__law_lowest rfl (fun z => nomatch z) fun f cdv A outer s H E hr => bd__law_lowest B hr
theorem bd__law_others (B : Tx K mg) {c : Str} (hc : c ∈ csL) {f : Addr} {cdv : Value} {A : Around} {outer : List PySem.Env} {s : Shared} {H : Hp} {E : XK} {p : Addr × Obj} {C : Addr} (hP : Pn K mg p c C) (hot : L2H.Hot1 (A.deeper (envOfC "_law_others" (defScope st__law_others) s.heap.objs.size f cdv)) p) (hr : L2H.RoomH 0 (A.deeper (envOfC "_law_others" (defScope st__law_others) s.heap.objs.size f cdv))) :
    BJ (L2H.cxH (L2N.CX P w) P w K mg base ["_law_e", "_law_some"] "_law_others" (defScope st__law_others) f cdv A outer s H E p) (fun _ _ _ _ => False) false (defBody st__law_others) (D__law_others c p.1) :=
  (b_cons (s_set (i := 1) sc__law_others.nd rfl (Or.inl rfl) (e_f_s (e_lst (a_cons (e_isX ⟨p.2, C, List.mem_cons_self, hP⟩ B.n_isinstance (by rfl) (pv 0) (ClsN.own (by rfl) B.u_NoPrime.choose_spec (by decide)) (fun C h => B.kq _ hc "NoPrime" (by decide) C _ h B.u_NoPrime.choose_spec)) (a_cons (e_isX ⟨p.2, C, List.mem_cons_self, hP⟩ B.n_isinstance (by rfl) (pv 0) (ClsN.own (by rfl) B.u_NoPlace.choose_spec (by decide)) (fun C h => B.kq _ hc "NoPlace" (by decide) C _ h B.u_NoPlace.choose_spec)) (a_cons (e_isX ⟨p.2, C, List.mem_cons_self, hP⟩ B.n_isinstance (by rfl) (pv 0) (ClsN.own (by rfl) B.u_NoFigures.choose_spec (by decide)) (fun C h => B.kq _ hc "NoFigures" (by decide) C _ h B.u_NoFigures.choose_spec)) (a_cons (e_isX ⟨p.2, C, List.mem_cons_self, hP⟩ B.n_isinstance (by rfl) (pv 0) (ClsN.own (by rfl) B.u_NoText.choose_spec (by decide)) (fun C h => B.kq _ hc "NoText" (by decide) C _ h B.u_NoText.choose_spec)) a_nil)))))))
(b_cons (s_set (i := 1) sc__law_others.nd rfl (Or.inl rfl) (e_add (e_varT (pv 1)) (e_f_t (e_lst (a_cons (e_isX ⟨p.2, C, List.mem_cons_self, hP⟩ B.n_isinstance (by rfl) (pv 0) (ClsN.own (by rfl) B.u_Unlike.choose_spec (by decide)) (fun C h => B.kq _ hc "Unlike" (by decide) C _ h B.u_Unlike.choose_spec)) (a_cons (e_isX ⟨p.2, C, List.mem_cons_self, hP⟩ B.n_isinstance (by rfl) (pv 0) (ClsN.own (by rfl) B.u_NoQuotient.choose_spec (by decide)) (fun C h => B.kq _ hc "NoQuotient" (by decide) C _ h B.u_NoQuotient.choose_spec)) (a_cons (e_isX ⟨p.2, C, List.mem_cons_self, hP⟩ B.n_isinstance (by rfl) (pv 0) (ClsN.own (by rfl) B.u_NoPower.choose_spec (by decide)) (fun C h => B.kq _ hc "NoPower" (by decide) C _ h B.u_NoPower.choose_spec)) (a_cons (e_isX ⟨p.2, C, List.mem_cons_self, hP⟩ B.n_isinstance (by rfl) (pv 0) (ClsN.own (by rfl) B.u_TooFew.choose_spec (by decide)) (fun C h => B.kq _ hc "TooFew" (by decide) C _ h B.u_TooFew.choose_spec)) a_nil))))))))
(b_cons (s_set (i := 1) sc__law_others.nd rfl (Or.inl rfl) (e_add (e_varT (pv 1)) (e_f_t (e_lst (a_cons (e_isX ⟨p.2, C, List.mem_cons_self, hP⟩ B.n_isinstance (by rfl) (pv 0) (ClsN.own (by rfl) B.u_NoSize.choose_spec (by decide)) (fun C h => B.kq _ hc "NoSize" (by decide) C _ h B.u_NoSize.choose_spec)) (a_cons (e_isX ⟨p.2, C, List.mem_cons_self, hP⟩ B.n_isinstance (by rfl) (pv 0) (ClsN.own (by rfl) B.u_NoPolynomial.choose_spec (by decide)) (fun C h => B.kq _ hc "NoPolynomial" (by decide) C _ h B.u_NoPolynomial.choose_spec)) (a_cons (e_isX ⟨p.2, C, List.mem_cons_self, hP⟩ B.n_isinstance (by rfl) (pv 0) (ClsN.own (by rfl) B.u_NoDepth.choose_spec (by decide)) (fun C h => B.kq _ hc "NoDepth" (by decide) C _ h B.u_NoDepth.choose_spec)) (a_cons (e_isX ⟨p.2, C, List.mem_cons_self, hP⟩ B.n_isinstance (by rfl) (pv 0) (ClsN.own (by rfl) B.u_NoRoot.choose_spec (by decide)) (fun C h => B.kq _ hc "NoRoot" (by decide) C _ h B.u_NoRoot.choose_spec)) a_nil))))))))
(b_cons (s_ret (e_or (e_anyH List.mem_cons_self hot B.n_any (by rfl) (a_cons (e_varT (pv 1)) a_nil)) (e_one (e_isX ⟨p.2, C, List.mem_cons_self, hP⟩ B.n_isinstance (by rfl) (pv 0) (ClsN.own (by rfl) B.u_NotNear.choose_spec (by decide)) (fun C h => B.kq _ hc "NotNear" (by decide) C _ h B.u_NotNear.choose_spec)))))
b_nil))))
theorem ok__law_others (B : Tx K mg) {c : Str} (hc : c ∈ csL) : OkX P w K mg base "_law_others" "_law_e" 1 false c (F__law_others c) := def_okX B.d__law_others sc__law_others (by decide) (fun z => nomatch z) fun f cdv A outer s H E p C hP hot hr => bd__law_others B hc hP hot hr
theorem bd__law_refused (B : Tx K mg) {f : Addr} {cdv : Value} {A : Around} {outer : List PySem.Env} {s : Shared} {H : Hp} {E : XK} (hr : Room 2 (A.deeper (envOfC "_law_refused" (defScope st__law_refused) s.heap.objs.size f cdv))) :
    BJ (cxOf (L2N.CX P w) P w K mg base ["_law_top", "_law_bottom", "_law_found", "_law_e"] "_law_refused" (defScope st__law_refused) f cdv A outer s H E) (fun cls d _ H => E cls d H) false (defBody st__law_refused) D__law_refused :=
  (b_cons (s_set (i := 2) sc__law_refused.nd rfl (Or.inl rfl) e_bl)
(b_cons (s_try (i := 3) rfl rfl sc__law_refused.nd rfl rfl ⟨by rfl, by decide, .inl B.u_LeftError.choose_spec⟩ tk_of (fun c hc C h => B.ke c hc C _ h B.u_LeftError.choose_spec) (fun W pn xe tk hp => (b_cons (s_expr (e_callD (ok_fraction B).1 hr (by decide) tk (by rfl) (a_cons (e_var (pv 0)) (a_cons (e_var (pv 1)) a_nil)) (ALen.cons (ALen.cons ALen.nil))))
b_nil)) (fun p pn c C hc hP hot => (b_cons (s_set (i := 2) sc__law_refused.nd rfl (Or.inl rfl) (e_and (e_isX ⟨p.2, C, List.mem_cons_self, hP⟩ B.n_isinstance (by rfl) (pv 3) (ClsN.own (by rfl) B.u_NoFraction.choose_spec (by decide)) (fun C h => B.kq _ hc "NoFraction" (by decide) C _ h B.u_NoFraction.choose_spec)) (e_and (e_isX ⟨p.2, C, List.mem_cons_self, hP⟩ B.n_isinstance (by rfl) (pv 3) (ClsN.ty (pe_bltn (by rfl) B.n_ValueError (by decide +kernel) rfl)) (fun C h => B.kv _ hc C h)) (e_one (e_not (e_hot List.mem_cons_self hP hot rfl (ok__law_others B hc) (roomS hr) (by decide) (by rfl) (pv 3)))))))
b_nil)))
(b_cons (s_ret (e_var (pv 2)))
b_nil)))
theorem ok__law_refused (B : Tx K mg) : Okd P w K mg base "_law_refused" ["_law_top", "_law_bottom"] 3 2 false F__law_refused := def_ok B.d__law_refused sc__law_refused rfl (fun z => nomatch z) fun f cdv A outer s H E hr => bd__law_refused B hr
theorem bd__law_spoiled (B : Tx K mg) {f : Addr} {cdv : Value} {A : Around} {outer : List PySem.Env} {s : Shared} {H : Hp} {E : XK} (hr : Room 0 (A.deeper (envOfC "_law_spoiled" (defScope st__law_spoiled) s.heap.objs.size f cdv))) :
    BJ (cxOf (L2N.CX P w) P w K mg base ["_law_told", "_law_cell", "_law_top", "_law_bottom", "_law_some"] "_law_spoiled" (defScope st__law_spoiled) f cdv A outer s H E) (fun cls d _ H => E cls d H) false (defBody st__law_spoiled) D__law_spoiled :=
  (b_cons (s_to (e_var (pv 0)) (g_tup rfl (gs_cons (g_name (pg_name (i := 2) sc__law_spoiled.nd rfl (Or.inl rfl))) (gs_cons (g_name (pg_name (i := 3) sc__law_spoiled.nd rfl (Or.inl rfl))) gs_nil)) (gs_len (gs_len gs_len0))))
(b_cons (s_set (i := 4) sc__law_spoiled.nd rfl (Or.inl rfl) (e_f_s (e_lst (a_cons (e_f_s (e_lst (a_cons (e_var (pv 2)) (a_cons (e_var (pv 3)) a_nil)))) (a_cons (e_tup (a_cons (e_var (pv 2)) (a_cons (e_var (pv 3)) (a_cons e_int a_nil)))) (a_cons (e_tup (a_cons (e_var (pv 2)) a_nil)) (a_cons (e_tup (a_cons (e_var (pv 2)) (a_cons (e_neg (e_varT (pv 3))) a_nil))) (a_cons (e_tup (a_cons (e_var (pv 2)) (a_cons e_int a_nil))) (a_cons (e_tup (a_cons (e_mul (e_s_t e_int) (e_varT (pv 2))) (a_cons (e_mul (e_s_t e_int) (e_varT (pv 3))) a_nil))) a_nil)))))))))
(b_cons (s_set (i := 4) sc__law_spoiled.nd rfl (Or.inl rfl) (e_add (e_varT (pv 4)) (e_f_t (e_lst (a_cons (e_tup (a_cons (e_mul (e_s_t e_int) (e_varT (pv 2))) (a_cons (e_mul (e_s_t e_int) (e_varT (pv 3))) a_nil))) (a_cons (e_tup (a_cons (e_var (pv 2)) (a_cons e_non a_nil))) (a_cons (e_tup (a_cons e_bl (a_cons (e_var (pv 3)) a_nil))) (a_cons (e_tup (a_cons (e_var (pv 2)) (a_cons e_bl a_nil))) (a_cons (e_var (pv 2)) (a_cons e_non (a_cons e_str a_nil)))))))))))
(b_cons (s_ret (e_item (e_varT (pv 4)) (e_s_t (e_mod (e_varT (pv 1)) (e_s_t e_int))) (fun _ _ => rfl)))
b_nil))))
theorem ok__law_spoiled (B : Tx K mg) : Okd P w K mg base "_law_spoiled" ["_law_told", "_law_cell"] 1 2 false F__law_spoiled := def_ok B.d__law_spoiled sc__law_spoiled rfl (fun z => nomatch z) fun f cdv A outer s H E hr => bd__law_spoiled B hr
theorem bd_law (B : Tx K mg) {f : Addr} {cdv : Value} {A : Around} {outer : List PySem.Env} {s : Shared} {H : Hp} {E : XK} (hr : Room 3 (A.deeper (envOfC "law" (defScope st_law) s.heap.objs.size f cdv))) :
    BJ (cxOf (L2N.CX P w) P w K mg base ["_law_script", "_law_share", "_law_top", "_law_bottom", "_law_cell", "_law_told", "_law_good", "_law_thing", "_law_found"] "law" (defScope st_law) f cdv A outer s H E) (fun cls d _ H => E cls d H) false (defBody st_law) D_law :=
  (b_cons (s_set (i := 1) sc_law.nd rfl (Or.inl rfl) (e_item (e_f_t (e_lst (a_cons e_int (a_cons (e_add (e_s_t e_int) (e_s_t (e_mod (e_s_t (e_fdiv (e_s_t (e_callD (ok__law_cell_at B) hr (by decide) tk_of (by rfl) (a_cons (e_var (pv 0)) (a_cons e_int a_nil)) (ALen.cons (ALen.cons ALen.nil)))) (e_s_t e_int))) (e_s_t (e_pow (e_s_t e_int) (e_s_t e_int)))))) a_nil)))) (e_s_t (e_mod (e_s_t (e_callD (ok__law_cell_at B) hr (by decide) tk_of (by rfl) (a_cons (e_var (pv 0)) (a_cons e_int a_nil)) (ALen.cons (ALen.cons ALen.nil)))) (e_s_t e_int))) (fun _ _ => rfl)))
(b_cons (s_set (i := 2) sc_law.nd rfl (Or.inl rfl) (e_mul (e_s_t (e_callD (ok__law_drawn B) hr (by decide) tk_of (by rfl) (a_cons (e_callD (ok__law_cell_at B) hr (by decide) tk_of (by rfl) (a_cons (e_var (pv 0)) (a_cons e_int a_nil)) (ALen.cons (ALen.cons ALen.nil))) a_nil) (ALen.cons ALen.nil))) (e_varT (pv 1))))
(b_cons (s_set (i := 3) sc_law.nd rfl (Or.inl rfl) (e_mul (e_s_t (e_callD (ok__law_drawn B) hr (by decide) tk_of (by rfl) (a_cons (e_callD (ok__law_cell_at B) hr (by decide) tk_of (by rfl) (a_cons (e_var (pv 0)) (a_cons e_int a_nil)) (ALen.cons (ALen.cons ALen.nil))) a_nil) (ALen.cons ALen.nil))) (e_varT (pv 1))))
(b_cons (s_set (i := 4) sc_law.nd rfl (Or.inl rfl) (e_callD (ok__law_cell_at B) hr (by decide) tk_of (by rfl) (a_cons (e_var (pv 0)) (a_cons e_int a_nil)) (ALen.cons (ALen.cons ALen.nil))))
(b_cons (s_if (t_eq hr.units (e_s_t (e_mod (e_varT (pv 4)) (e_s_t e_int))) (e_s_t e_int))
(b_cons (s_ret (e_callD (ok__law_refused B) hr (by decide) tk_of (by rfl) (a_cons (e_callD (ok__law_strange B) hr (by decide) tk_of (by rfl) (a_cons (e_fdiv (e_varT (pv 4)) (e_s_t e_int)) a_nil) (ALen.cons ALen.nil)) (a_cons (e_var (pv 3)) a_nil)) (ALen.cons (ALen.cons ALen.nil))))
b_nil)
b_nil)
(b_cons (s_if (t_eq hr.units (e_s_t (e_mod (e_varT (pv 4)) (e_s_t e_int))) (e_s_t e_int))
(b_cons (s_ret (e_callD (ok__law_refused B) hr (by decide) tk_of (by rfl) (a_cons (e_var (pv 2)) (a_cons (e_callD (ok__law_strange B) hr (by decide) tk_of (by rfl) (a_cons (e_fdiv (e_varT (pv 4)) (e_s_t e_int)) a_nil) (ALen.cons ALen.nil)) a_nil)) (ALen.cons (ALen.cons ALen.nil))))
b_nil)
b_nil)
(b_cons (s_if (t_eq hr.units (e_varT (pv 3)) (e_s_t e_int))
(b_cons (s_ret (e_callD (ok__law_refused B) hr (by decide) tk_of (by rfl) (a_cons (e_var (pv 2)) (a_cons (e_var (pv 3)) a_nil)) (ALen.cons (ALen.cons ALen.nil))))
b_nil)
b_nil)
(b_cons (s_set (i := 5) sc_law.nd rfl (Or.inl rfl) (e_callD (ok_fraction B).1 hr (by decide) tk_of (by rfl) (a_cons (e_var (pv 2)) (a_cons (e_var (pv 3)) a_nil)) (ALen.cons (ALen.cons ALen.nil))))
(b_cons (s_if (t_w (w_or (t_not (t_val (e_callD (ok__law_lowest B) hr (by decide) tk_of (by rfl) (a_cons (e_var (pv 5)) a_nil) (ALen.cons ALen.nil)))) (w_or1 (t_ne hr.units (e_s_t (e_mul (e_s_t (e_item (e_varT (pv 5)) (e_s_t e_int) (fun _ _ => rfl))) (e_varT (pv 3)))) (e_s_t (e_mul (e_varT (pv 2)) (e_s_t (e_item (e_varT (pv 5)) (e_s_t e_int) (fun _ _ => rfl)))))))))
(b_cons (s_ret e_bl)
b_nil)
b_nil)
(b_cons (s_if (t_w (w_or (t_ne hr.units (e_s_t (e_callD1 (ok_fraction B).2 hr (by decide) tk_of (by rfl) (a_cons (e_var (pv 2)) a_nil) (ALen.cons ALen.nil))) (e_s_t (e_tup (a_cons (e_var (pv 2)) (a_cons e_int a_nil))))) (w_or1 (t_not (t_val (e_callD (ok__law_lowest B) hr (by decide) tk_of (by rfl) (a_cons (e_callD1 (ok_fraction B).2 hr (by decide) tk_of (by rfl) (a_cons (e_var (pv 2)) a_nil) (ALen.cons ALen.nil)) a_nil) (ALen.cons ALen.nil)))))))
(b_cons (s_ret e_bl)
b_nil)
b_nil)
(b_cons (s_set (i := 6) sc_law.nd rfl (Or.inl rfl) (e_callD (ok_is_fraction B) hr (by decide) tk_of (by rfl) (a_cons (e_var (pv 5)) a_nil) (ALen.cons ALen.nil)))
(b_cons (s_set (i := 7) sc_law.nd rfl (Or.inl rfl) (e_callD (ok__law_spoiled B) hr (by decide) tk_of (by rfl) (a_cons (e_var (pv 5)) (a_cons (e_fdiv (e_varT (pv 4)) (e_s_t e_int)) a_nil)) (ALen.cons (ALen.cons ALen.nil))))
(b_cons (s_set (i := 8) sc_law.nd rfl (Or.inl rfl) (e_callD (ok_is_fraction B) hr (by decide) tk_of (by rfl) (a_cons (e_var (pv 7)) a_nil) (ALen.cons ALen.nil)))
(b_cons (s_if (t_w (w_or (t_not (t_val (e_isi (n := "bool") B.n_isinstance (by rfl) (e_varT (pv 6)) (pe_bltn (by rfl) B.n_bool (by decide +kernel) rfl)))) (w_or (t_not (t_val (e_var (pv 6)))) (w_or1 (t_not (t_val (e_isi (n := "bool") B.n_isinstance (by rfl) (e_varT (pv 8)) (pe_bltn (by rfl) B.n_bool (by decide +kernel) rfl))))))))
(b_cons (s_ret e_bl)
b_nil)
b_nil)
(b_cons (s_ret (e_eq hr.units (e_varT (pv 8)) (e_s_t (e_callD (ok__law_lowest B) hr (by decide) tk_of (by rfl) (a_cons (e_var (pv 7)) a_nil) (ALen.cons ALen.nil)))))
b_nil)))))))))))))))
end
theorem all_mk {l : PySem.W.OpenLaw} {w : World} {K : PySem.W.Frag} {h : Heap} {mg : Str → Option Value} {fa : Addr} (X : K.In h) (G : h.Ns mainGlobals mg) (hfa : mg "law" = some (.ref fa))
    {f0 : Addr} {od0 an0 : Option Addr} {sl0 : Array (Option Value)} {oc0 kV0 dc0 pm0 cd0 ct0 : Value}
    {f1 : Addr} {od1 an1 : Option Addr} {sl1 : Array (Option Value)} {oc1 kV1 dc1 pm1 cd1 ct1 : Value}
    {f2 : Addr} {od2 an2 : Option Addr} {sl2 : Array (Option Value)} {oc2 kV2 dc2 pm2 cd2 ct2 : Value} {T2 : Addr} {td2 : Option Addr} {tc2 : Value} {tm2 : Nat} {tt2 : Tok} {tl2 : Array (Option Value)}
    {f3 : Addr} {od3 an3 : Option Addr} {sl3 : Array (Option Value)} {oc3 kV3 dc3 pm3 cd3 ct3 : Value}
    {f4 : Addr} {od4 an4 : Option Addr} {sl4 : Array (Option Value)} {oc4 kV4 dc4 pm4 cd4 ct4 : Value}
    {f5 : Addr} {od5 an5 : Option Addr} {sl5 : Array (Option Value)} {oc5 kV5 dc5 pm5 cd5 ct5 : Value}
    {f6 : Addr} {od6 an6 : Option Addr} {sl6 : Array (Option Value)} {oc6 kV6 dc6 pm6 cd6 ct6 : Value}
    {f7 : Addr} {od7 an7 : Option Addr} {sl7 : Array (Option Value)} {oc7 kV7 dc7 pm7 cd7 ct7 : Value}
    {f8 : Addr} {od8 an8 : Option Addr} {sl8 : Array (Option Value)} {oc8 kV8 dc8 pm8 cd8 ct8 : Value}
    {f9 : Addr} {od9 an9 : Option Addr} {sl9 : Array (Option Value)} {oc9 kV9 dc9 pm9 cd9 ct9 : Value}
    {f10 : Addr} {od10 an10 : Option Addr} {sl10 : Array (Option Value)} {oc10 kV10 dc10 pm10 cd10 ct10 : Value}
    {f11 : Addr} {od11 an11 : Option Addr} {sl11 : Array (Option Value)} {oc11 kV11 dc11 pm11 cd11 ct11 : Value}
    {f12 : Addr} {od12 an12 : Option Addr} {sl12 : Array (Option Value)} {oc12 kV12 dc12 pm12 cd12 ct12 : Value}
    {f13 : Addr} {od13 an13 : Option Addr} {sl13 : Array (Option Value)} {oc13 kV13 dc13 pm13 cd13 ct13 : Value}
    {C0 : Addr}
    {U0 : Addr}
    {U1 : Addr}
    {U2 : Addr}
    {U3 : Addr}
    {U4 : Addr}
    {U5 : Addr}
    {U6 : Addr}
    {U7 : Addr}
    {U8 : Addr}
    {U9 : Addr}
    {U10 : Addr}
    {U11 : Addr}
    {U12 : Addr}
    {U13 : Addr}
    {U14 : Addr}
    (a0 : PySem.W.nsIn K mainGlobals "is_whole" = some (some (.ref f0))) (l0 : K.lookup f0 = some ⟨oc0, od0, .func (PySem.W.fnOf "is_whole" "is_whole" (defArgs st_is_whole) (defBody st_is_whole) (defScope st_is_whole) .none kV0 dc0 pm0 an0 cd0 ct0), sl0⟩) (c0 : PySem.W.codeIn K cd0 "is_whole" = true) (k0 : PySem.W.keepIn K (.ref f0) = true)
    (a1 : PySem.W.nsIn K mainGlobals "divisor" = some (some (.ref f1))) (l1 : K.lookup f1 = some ⟨oc1, od1, .func (PySem.W.fnOf "divisor" "divisor" (defArgs st_divisor) (defBody st_divisor) (defScope st_divisor) .none kV1 dc1 pm1 an1 cd1 ct1), sl1⟩) (c1 : PySem.W.codeIn K cd1 "divisor" = true) (k1 : PySem.W.keepIn K (.ref f1) = true)
    (a2 : PySem.W.nsIn K mainGlobals "fraction" = some (some (.ref f2))) (l2 : K.lookup f2 = some ⟨oc2, od2, .func (PySem.W.fnOf "fraction" "fraction" (defArgs st_fraction) (defBody st_fraction) (defScope st_fraction) (.ref T2) kV2 dc2 pm2 an2 cd2 ct2), sl2⟩) (c2 : PySem.W.codeIn K cd2 "fraction" = true) (k2 : PySem.W.keepIn K (.ref f2) = true) (lt2 : K.lookup T2 = some ⟨tc2, td2, .seq #[.int 1 tt2] tm2, tl2⟩)
    (a3 : PySem.W.nsIn K mainGlobals "is_fraction" = some (some (.ref f3))) (l3 : K.lookup f3 = some ⟨oc3, od3, .func (PySem.W.fnOf "is_fraction" "is_fraction" (defArgs st_is_fraction) (defBody st_is_fraction) (defScope st_is_fraction) .none kV3 dc3 pm3 an3 cd3 ct3), sl3⟩) (c3 : PySem.W.codeIn K cd3 "is_fraction" = true) (k3 : PySem.W.keepIn K (.ref f3) = true)
    (a4 : PySem.W.nsIn K mainGlobals "_law_cell_at" = some (some (.ref f4))) (l4 : K.lookup f4 = some ⟨oc4, od4, .func (PySem.W.fnOf "_law_cell_at" "_law_cell_at" (defArgs st__law_cell_at) (defBody st__law_cell_at) (defScope st__law_cell_at) .none kV4 dc4 pm4 an4 cd4 ct4), sl4⟩) (c4 : PySem.W.codeIn K cd4 "_law_cell_at" = true) (k4 : PySem.W.keepIn K (.ref f4) = true)
    (a5 : PySem.W.nsIn K mainGlobals "_law_number" = some (some (.ref f5))) (l5 : K.lookup f5 = some ⟨oc5, od5, .func (PySem.W.fnOf "_law_number" "_law_number" (defArgs st__law_number) (defBody st__law_number) (defScope st__law_number) .none kV5 dc5 pm5 an5 cd5 ct5), sl5⟩) (c5 : PySem.W.codeIn K cd5 "_law_number" = true) (k5 : PySem.W.keepIn K (.ref f5) = true)
    (a6 : PySem.W.nsIn K mainGlobals "_law_drawn" = some (some (.ref f6))) (l6 : K.lookup f6 = some ⟨oc6, od6, .func (PySem.W.fnOf "_law_drawn" "_law_drawn" (defArgs st__law_drawn) (defBody st__law_drawn) (defScope st__law_drawn) .none kV6 dc6 pm6 an6 cd6 ct6), sl6⟩) (c6 : PySem.W.codeIn K cd6 "_law_drawn" = true) (k6 : PySem.W.keepIn K (.ref f6) = true)
    (a7 : PySem.W.nsIn K mainGlobals "_law_strange" = some (some (.ref f7))) (l7 : K.lookup f7 = some ⟨oc7, od7, .func (PySem.W.fnOf "_law_strange" "_law_strange" (defArgs st__law_strange) (defBody st__law_strange) (defScope st__law_strange) .none kV7 dc7 pm7 an7 cd7 ct7), sl7⟩) (c7 : PySem.W.codeIn K cd7 "_law_strange" = true) (k7 : PySem.W.keepIn K (.ref f7) = true)
    (a8 : PySem.W.nsIn K mainGlobals "_law_common" = some (some (.ref f8))) (l8 : K.lookup f8 = some ⟨oc8, od8, .func (PySem.W.fnOf "_law_common" "_law_common" (defArgs st__law_common) (defBody st__law_common) (defScope st__law_common) .none kV8 dc8 pm8 an8 cd8 ct8), sl8⟩) (c8 : PySem.W.codeIn K cd8 "_law_common" = true) (k8 : PySem.W.keepIn K (.ref f8) = true)
    (a9 : PySem.W.nsIn K mainGlobals "_law_lowest" = some (some (.ref f9))) (l9 : K.lookup f9 = some ⟨oc9, od9, .func (PySem.W.fnOf "_law_lowest" "_law_lowest" (defArgs st__law_lowest) (defBody st__law_lowest) (defScope st__law_lowest) .none kV9 dc9 pm9 an9 cd9 ct9), sl9⟩) (c9 : PySem.W.codeIn K cd9 "_law_lowest" = true) (k9 : PySem.W.keepIn K (.ref f9) = true)
    (a10 : PySem.W.nsIn K mainGlobals "_law_others" = some (some (.ref f10))) (l10 : K.lookup f10 = some ⟨oc10, od10, .func (PySem.W.fnOf "_law_others" "_law_others" (defArgs st__law_others) (defBody st__law_others) (defScope st__law_others) .none kV10 dc10 pm10 an10 cd10 ct10), sl10⟩) (c10 : PySem.W.codeIn K cd10 "_law_others" = true) (k10 : PySem.W.keepIn K (.ref f10) = true)
    (a11 : PySem.W.nsIn K mainGlobals "_law_refused" = some (some (.ref f11))) (l11 : K.lookup f11 = some ⟨oc11, od11, .func (PySem.W.fnOf "_law_refused" "_law_refused" (defArgs st__law_refused) (defBody st__law_refused) (defScope st__law_refused) .none kV11 dc11 pm11 an11 cd11 ct11), sl11⟩) (c11 : PySem.W.codeIn K cd11 "_law_refused" = true) (k11 : PySem.W.keepIn K (.ref f11) = true)
    (a12 : PySem.W.nsIn K mainGlobals "_law_spoiled" = some (some (.ref f12))) (l12 : K.lookup f12 = some ⟨oc12, od12, .func (PySem.W.fnOf "_law_spoiled" "_law_spoiled" (defArgs st__law_spoiled) (defBody st__law_spoiled) (defScope st__law_spoiled) .none kV12 dc12 pm12 an12 cd12 ct12), sl12⟩) (c12 : PySem.W.codeIn K cd12 "_law_spoiled" = true) (k12 : PySem.W.keepIn K (.ref f12) = true)
    (a13 : PySem.W.nsIn K mainGlobals "law" = some (some (.ref f13))) (l13 : K.lookup f13 = some ⟨oc13, od13, .func (PySem.W.fnOf "law" "law" (defArgs st_law) (defBody st_law) (defScope st_law) .none kV13 dc13 pm13 an13 cd13 ct13), sl13⟩) (c13 : PySem.W.codeIn K cd13 "law" = true) (k13 : PySem.W.keepIn K (.ref f13) = true)
    (z0 : PySem.W.nsIn K mainGlobals "ValueError" = some none)
    (z1 : PySem.W.nsIn K mainGlobals "abs" = some none)
    (z2 : PySem.W.nsIn K mainGlobals "any" = some none)
    (z3 : PySem.W.nsIn K mainGlobals "bool" = some none)
    (z4 : PySem.W.nsIn K mainGlobals "int" = some none)
    (z5 : PySem.W.nsIn K mainGlobals "isinstance" = some none)
    (z6 : PySem.W.nsIn K mainGlobals "len" = some none)
    (z7 : PySem.W.nsIn K mainGlobals "tuple" = some none)
    (xa0 : PySem.W.nsIn K mainGlobals "NoFraction" = some (some (.ref C0))) (xe0 : PySem.W.excIn K C0 [.type "ValueError", .type "Exception", .type "BaseException", .type "object"] "ValueError.__new__" = true) (xk0 : PySem.W.keepIn K (.ref C0) = true) (xs0 : PySem.W.subIn K (.ref C0) (.type "BaseException") = some true) (xt0 : PySem.W.typeIn K (.ref C0) = some (.type "type"))
    (ua0 : PySem.W.nsIn K mainGlobals "LeftError" = some (some (.ref U0)))
    (ua1 : PySem.W.nsIn K mainGlobals "NoDepth" = some (some (.ref U1)))
    (ua2 : PySem.W.nsIn K mainGlobals "NoFigures" = some (some (.ref U2)))
    (ua3 : PySem.W.nsIn K mainGlobals "NoFraction" = some (some (.ref U3)))
    (ua4 : PySem.W.nsIn K mainGlobals "NoPlace" = some (some (.ref U4)))
    (ua5 : PySem.W.nsIn K mainGlobals "NoPolynomial" = some (some (.ref U5)))
    (ua6 : PySem.W.nsIn K mainGlobals "NoPower" = some (some (.ref U6)))
    (ua7 : PySem.W.nsIn K mainGlobals "NoPrime" = some (some (.ref U7)))
    (ua8 : PySem.W.nsIn K mainGlobals "NoQuotient" = some (some (.ref U8)))
    (ua9 : PySem.W.nsIn K mainGlobals "NoRoot" = some (some (.ref U9)))
    (ua10 : PySem.W.nsIn K mainGlobals "NoSize" = some (some (.ref U10)))
    (ua11 : PySem.W.nsIn K mainGlobals "NoText" = some (some (.ref U11)))
    (ua12 : PySem.W.nsIn K mainGlobals "NotNear" = some (some (.ref U12)))
    (ua13 : PySem.W.nsIn K mainGlobals "TooFew" = some (some (.ref U13)))
    (ua14 : PySem.W.nsIn K mainGlobals "Unlike" = some (some (.ref U14)))
    (lb : PySem.W.subIn K (.ref U0) (.type "BaseException") = some true) (ld : PySem.W.hasDictIn K U0 = true) (lt : PySem.W.typeIn K (.ref U0) = some (.type "type"))
    (q13 : PySem.W.findIn K (.ref U3) "__getattribute__" = some (some (.builtin "BaseException.__getattribute__"))) (q23 : PySem.W.findIn K (.ref U3) "__getattr__" = some none) (q33 : PySem.W.subIn K (.ref U3) (.type "BaseException") = some true) (q43 : PySem.W.hasDictIn K U3 = true) (q53 : PySem.W.findIn K (.ref U3) "__class__" = some (some (.builtin "object.__class__"))) (q83 : PySem.W.mroIn K U3 (.type "object") = some true) (q93 : PySem.W.subIn K (.ref U3) (.ref U0) = some true) (qv3 : PySem.W.kitOne K (.ref U3) (.type "ValueError") = some true)
    (k3_1 : PySem.W.kitOne K (.ref U3) (.ref U1) = some false)
    (k3_2 : PySem.W.kitOne K (.ref U3) (.ref U2) = some false)
    (k3_3 : PySem.W.kitOne K (.ref U3) (.ref U3) = some true)
    (k3_4 : PySem.W.kitOne K (.ref U3) (.ref U4) = some false)
    (k3_5 : PySem.W.kitOne K (.ref U3) (.ref U5) = some false)
    (k3_6 : PySem.W.kitOne K (.ref U3) (.ref U6) = some false)
    (k3_7 : PySem.W.kitOne K (.ref U3) (.ref U7) = some false)
    (k3_8 : PySem.W.kitOne K (.ref U3) (.ref U8) = some false)
    (k3_9 : PySem.W.kitOne K (.ref U3) (.ref U9) = some false)
    (k3_10 : PySem.W.kitOne K (.ref U3) (.ref U10) = some false)
    (k3_11 : PySem.W.kitOne K (.ref U3) (.ref U11) = some false)
    (k3_12 : PySem.W.kitOne K (.ref U3) (.ref U12) = some false)
    (k3_13 : PySem.W.kitOne K (.ref U3) (.ref U13) = some false)
    (k3_14 : PySem.W.kitOne K (.ref U3) (.ref U14) = some false)
    (q6 : PySem.W.specialIn K (.builtin "object.__class__") "__get__" = some (some (.builtin "getset_descriptor.__get__"))) (q7 : PySem.W.takesIn K (.builtin "object.__class__") = some true)
    : ∃ fd : FuncData, (∀ (s : Shared) (v : Value), BindsTo s fd ⟨[v], []⟩ [("_law_script", v)]) ∧ ∀ base : Heap, K.In base → base.Ns mainGlobals mg → FnOk l.prog w K mg base (L2N.CX l.prog w) 4 fa fd ["_law_script"] (spLaw K) := by
  have e := hfa.symm.trans (PySem.W.mg_of X G a13)
  cases e
  have B : Tx K mg := ⟨defE_mk X G a0 l0 c0 k0 fun _ _ _ _ _ _ us hl => match us, hl with | [_], _ => rfl,
    defE_mk X G a1 l1 c1 k1 fun _ _ _ _ _ _ us hl => match us, hl with | [_, _], _ => rfl,
    defED_mk X G a2 l2 c2 k2 lt2 (fun _ _ _ _ _ _ _ us its hl h2 => match us, its, hl, h2 with | [_, _], [_], _, _ => ⟨_, rfl, rfl⟩) (fun _ _ _ _ _ _ _ us its hl h2 => match us, its, hl, h2 with | [_], [_], _, _ => ⟨_, rfl, rfl⟩),
    defE_mk X G a3 l3 c3 k3 fun _ _ _ _ _ _ us hl => match us, hl with | [_], _ => rfl,
    defE_mk X G a4 l4 c4 k4 fun _ _ _ _ _ _ us hl => match us, hl with | [_, _], _ => rfl,
    defE_mk X G a5 l5 c5 k5 fun _ _ _ _ _ _ us hl => match us, hl with | [_], _ => rfl,
    defE_mk X G a6 l6 c6 k6 fun _ _ _ _ _ _ us hl => match us, hl with | [_], _ => rfl,
    defE_mk X G a7 l7 c7 k7 fun _ _ _ _ _ _ us hl => match us, hl with | [_], _ => rfl,
    defE_mk X G a8 l8 c8 k8 fun _ _ _ _ _ _ us hl => match us, hl with | [_, _], _ => rfl,
    defE_mk X G a9 l9 c9 k9 fun _ _ _ _ _ _ us hl => match us, hl with | [_], _ => rfl,
    defE_mk X G a10 l10 c10 k10 fun _ _ _ _ _ _ us hl => match us, hl with | [_], _ => rfl,
    defE_mk X G a11 l11 c11 k11 fun _ _ _ _ _ _ us hl => match us, hl with | [_, _], _ => rfl,
    defE_mk X G a12 l12 c12 k12 fun _ _ _ _ _ _ us hl => match us, hl with | [_, _], _ => rfl,
    PySem.W.mg_none_of X G z0,
    PySem.W.mg_none_of X G z1,
    PySem.W.mg_none_of X G z2,
    PySem.W.mg_none_of X G z3,
    PySem.W.mg_none_of X G z4,
    PySem.W.mg_none_of X G z5,
    PySem.W.mg_none_of X G z6,
    PySem.W.mg_none_of X G z7,
    excE_mk X G xa0 xe0 xk0 xs0 xt0,
    ⟨U0, PySem.W.mg_of X G ua0⟩,
    ⟨U1, PySem.W.mg_of X G ua1⟩,
    ⟨U2, PySem.W.mg_of X G ua2⟩,
    ⟨U3, PySem.W.mg_of X G ua3⟩,
    ⟨U4, PySem.W.mg_of X G ua4⟩,
    ⟨U5, PySem.W.mg_of X G ua5⟩,
    ⟨U6, PySem.W.mg_of X G ua6⟩,
    ⟨U7, PySem.W.mg_of X G ua7⟩,
    ⟨U8, PySem.W.mg_of X G ua8⟩,
    ⟨U9, PySem.W.mg_of X G ua9⟩,
    ⟨U10, PySem.W.mg_of X G ua10⟩,
    ⟨U11, PySem.W.mg_of X G ua11⟩,
    ⟨U12, PySem.W.mg_of X G ua12⟩,
    ⟨U13, PySem.W.mg_of X G ua13⟩,
    ⟨U14, PySem.W.mg_of X G ua14⟩,
    (fa_cons (fa_cons (kq_mk X G ua3 ua1 k3_1 (by decide)) (fa_cons (kq_mk X G ua3 ua2 k3_2 (by decide)) (fa_cons (kq_mk X G ua3 ua3 k3_3 (by decide)) (fa_cons (kq_mk X G ua3 ua4 k3_4 (by decide)) (fa_cons (kq_mk X G ua3 ua5 k3_5 (by decide)) (fa_cons (kq_mk X G ua3 ua6 k3_6 (by decide)) (fa_cons (kq_mk X G ua3 ua7 k3_7 (by decide)) (fa_cons (kq_mk X G ua3 ua8 k3_8 (by decide)) (fa_cons (kq_mk X G ua3 ua9 k3_9 (by decide)) (fa_cons (kq_mk X G ua3 ua10 k3_10 (by decide)) (fa_cons (kq_mk X G ua3 ua11 k3_11 (by decide)) (fa_cons (kq_mk X G ua3 ua12 k3_12 (by decide)) (fa_cons (kq_mk X G ua3 ua13 k3_13 (by decide)) (fa_cons (kq_mk X G ua3 ua14 k3_14 (by decide)) fa_nil)))))))))))))) fa_nil),
    (fa_cons (kv_mk X G ua3 qv3) fa_nil),
    (fa_cons (ke_mk X G ua3 ua0 lb ld lt q93 ⟨q13, q23, q33, q43, q53, q6, q7, q83⟩) fa_nil)⟩
  exact ⟨_, fun s v => .of_eq rfl, fun base _ _ => law_imp law_true (fn_mk (fun_mk (st := st_law) l13 c13 k13) sc_law rfl (fun z => nomatch z) fun cdv A outer s H E hr => bd_law B hr)⟩
end K12
open PySem PySem.W PyProof.Rows
set_option maxHeartbeats 0 in
theorem PySem.Challenge.cw_leftnumbers_k12_fractions_made_holds : PySem.Challenge.rw_leftnumbers_k12_fractions_made.Holds := by
  w_on; o_law; k_head; (case hw => w_witness2)
  k_fill
  refine L2.walk_of (l := PySem.Challenge.rw_leftnumbers_k12_fractions_made) (n := 63) (k := 4) (x := "_law_script") (CX := fun w => L2N.CX PySem.Challenge.rw_leftnumbers_k12_fractions_made.prog w) (sp := fun w => PL.spLaw _) rfl (by decide) rfl ⟨rfl, by decide, by decide⟩ (fun w h Y => PySem.W.kIn_of Y) ?F (fun _ _ a ns hl hO hS => ⟨a, ns, rfl, hS, hO, hl, fun _ _ e => e⟩) (fun _ _ _ _ _ h => PL.cx_none h)
  case F =>
    intro w mg fa h KX G hmg
    refine' K12.all_mk KX G hmg ?pl_a0 ?pl_l0 ?pl_c0 ?pl_k0 ?pl_a1 ?pl_l1 ?pl_c1 ?pl_k1 ?pl_a2 ?pl_l2 ?pl_c2 ?pl_k2 ?pl_lt2 ?pl_a3 ?pl_l3 ?pl_c3 ?pl_k3 ?pl_a4 ?pl_l4 ?pl_c4 ?pl_k4 ?pl_a5 ?pl_l5 ?pl_c5 ?pl_k5 ?pl_a6 ?pl_l6 ?pl_c6 ?pl_k6 ?pl_a7 ?pl_l7 ?pl_c7 ?pl_k7 ?pl_a8 ?pl_l8 ?pl_c8 ?pl_k8 ?pl_a9 ?pl_l9 ?pl_c9 ?pl_k9 ?pl_a10 ?pl_l10 ?pl_c10 ?pl_k10 ?pl_a11 ?pl_l11 ?pl_c11 ?pl_k11 ?pl_a12 ?pl_l12 ?pl_c12 ?pl_k12 ?pl_a13 ?pl_l13 ?pl_c13 ?pl_k13 ?pl_z0 ?pl_z1 ?pl_z2 ?pl_z3 ?pl_z4 ?pl_z5 ?pl_z6 ?pl_z7 ?pl_xa0 ?pl_xe0 ?pl_xk0 ?pl_xs0 ?pl_xt0 ?pl_ua0 ?pl_ua1 ?pl_ua2 ?pl_ua3 ?pl_ua4 ?pl_ua5 ?pl_ua6 ?pl_ua7 ?pl_ua8 ?pl_ua9 ?pl_ua10 ?pl_ua11 ?pl_ua12 ?pl_ua13 ?pl_ua14 ?pl_lb ?pl_ld ?pl_lt ?pl_q13 ?pl_q23 ?pl_q33 ?pl_q43 ?pl_q53 ?pl_q83 ?pl_q93 ?pl_qv3 ?pl_k3_1 ?pl_k3_2 ?pl_k3_3 ?pl_k3_4 ?pl_k3_5 ?pl_k3_6 ?pl_k3_7 ?pl_k3_8 ?pl_k3_9 ?pl_k3_10 ?pl_k3_11 ?pl_k3_12 ?pl_k3_13 ?pl_k3_14 ?pl_q6 ?pl_q7
    (case pl_a0 => k_is)
    (case pl_l0 => k_is)
    (case pl_c0 => k_is)
    (case pl_k0 => k_is)
    (case pl_a1 => k_is)
    (case pl_l1 => k_is)
    (case pl_c1 => k_is)
    (case pl_k1 => k_is)
    (case pl_a2 => k_is)
    (case pl_l2 => k_is)
    (case pl_c2 => k_is)
    (case pl_k2 => k_is)
    (case pl_lt2 => k_is)
    (case pl_a3 => k_is)
    (case pl_l3 => k_is)
    (case pl_c3 => k_is)
    (case pl_k3 => k_is)
    (case pl_a4 => k_is)
    (case pl_l4 => k_is)
    (case pl_c4 => k_is)
    (case pl_k4 => k_is)
    (case pl_a5 => k_is)
    (case pl_l5 => k_is)
    (case pl_c5 => k_is)
    (case pl_k5 => k_is)
    (case pl_a6 => k_is)
    (case pl_l6 => k_is)
    (case pl_c6 => k_is)
    (case pl_k6 => k_is)
    (case pl_a7 => k_is)
    (case pl_l7 => k_is)
    (case pl_c7 => k_is)
    (case pl_k7 => k_is)
    (case pl_a8 => k_is)
    (case pl_l8 => k_is)
    (case pl_c8 => k_is)
    (case pl_k8 => k_is)
    (case pl_a9 => k_is)
    (case pl_l9 => k_is)
    (case pl_c9 => k_is)
    (case pl_k9 => k_is)
    (case pl_a10 => k_is)
    (case pl_l10 => k_is)
    (case pl_c10 => k_is)
    (case pl_k10 => k_is)
    (case pl_a11 => k_is)
    (case pl_l11 => k_is)
    (case pl_c11 => k_is)
    (case pl_k11 => k_is)
    (case pl_a12 => k_is)
    (case pl_l12 => k_is)
    (case pl_c12 => k_is)
    (case pl_k12 => k_is)
    (case pl_a13 => k_is)
    (case pl_l13 => k_is)
    (case pl_c13 => k_is)
    (case pl_k13 => k_is)
    (case pl_z0 => k_is)
    (case pl_z1 => k_is)
    (case pl_z2 => k_is)
    (case pl_z3 => k_is)
    (case pl_z4 => k_is)
    (case pl_z5 => k_is)
    (case pl_z6 => k_is)
    (case pl_z7 => k_is)
    (case pl_xa0 => k_is)
    (case pl_xe0 => k_exc)
    (case pl_xk0 => k_is)
    (case pl_xs0 => k_is)
    (case pl_xt0 => k_is)
    (case pl_ua0 => k_is)
    (case pl_ua1 => k_is)
    (case pl_ua2 => k_is)
    (case pl_ua3 => k_is)
    (case pl_ua4 => k_is)
    (case pl_ua5 => k_is)
    (case pl_ua6 => k_is)
    (case pl_ua7 => k_is)
    (case pl_ua8 => k_is)
    (case pl_ua9 => k_is)
    (case pl_ua10 => k_is)
    (case pl_ua11 => k_is)
    (case pl_ua12 => k_is)
    (case pl_ua13 => k_is)
    (case pl_ua14 => k_is)
    (case pl_lb => k_is)
    (case pl_ld => k_is)
    (case pl_lt => k_is)
    (case pl_q13 => k_is)
    (case pl_q23 => k_is)
    (case pl_q33 => k_is)
    (case pl_q43 => k_is)
    (case pl_q53 => k_is)
    (case pl_q83 => k_is)
    (case pl_q93 => k_is)
    (case pl_qv3 => kit_is)
    (case pl_k3_1 => kit_is)
    (case pl_k3_2 => kit_is)
    (case pl_k3_3 => kit_is)
    (case pl_k3_4 => kit_is)
    (case pl_k3_5 => kit_is)
    (case pl_k3_6 => kit_is)
    (case pl_k3_7 => kit_is)
    (case pl_k3_8 => kit_is)
    (case pl_k3_9 => kit_is)
    (case pl_k3_10 => kit_is)
    (case pl_k3_11 => kit_is)
    (case pl_k3_12 => kit_is)
    (case pl_k3_13 => kit_is)
    (case pl_k3_14 => kit_is)
    (case pl_q6 => k_is)
    (case pl_q7 => k_is)
